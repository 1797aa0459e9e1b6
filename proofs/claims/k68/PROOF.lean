import PyProof.Rows.All
import Wide.All
import OpenK.AllK
import Wide.FinOn
import HandS.ForMost
import HandS.Exc
import HandS.TryOnly
import HandS.ExcOwn
import HandS.WordsExc
import HandS.Flow
import HandS.IsInst
import HandS.Walk
import HandS.Gcd
import HandS.Zip
import HandS.TupAny
import HandS.TupMul
import HandS.RevRange
import HandS.Lambda
import KE.SortUse
import KE.DataMinKey
import HandS.TupLe
import HandS.Deep
import KE.KTupSum
import KE.GoesMore
import HandS.SetFor
import HandS.More
import HandS.Small
import HandS.ExcIs
import KE.SortData
import KE.DataMinMax
import HandS.Conv
import HandS.Style
import HandS.Remove
import HandS.Nested
import HandS.Defaults
import HandS.Head0
import HandS.Head1
import HandS.Head2
import HandS.HeadEnd
import HandS.HeadHook1
import HandS.HeadHook2
import HandS.HeadHook3
import HandS.HeadHook4
import HandS.HeadWalk
import HandS.NestedK
import PySem.Challenge.RW_shelfhouse_k68_depths_piles_and_gaps
set_option Elab.async false
set_option linter.all false
set_option maxRecDepth 100000
set_option maxHeartbeats 2000000
/-! The layer, part a: data and how the heap bears them; outcomes; readings of functions on data. -/
namespace SH
open PySem PySem.Spec PyProof.Rows L2

abbrev D := PyData
/-- an outcome: a value, an exception of the class no. c, or nothing is said -/
inductive Res (α : Type) where
  | ok (a : α)
  | exc (c : Nat)
  | stuck
def Res.bind {α β : Type} (r : Res α) (f : α → Res β) : Res β := match r with
  | .ok a => f a
  | .exc c => .exc c
  | .stuck => .stuck
@[simp] theorem Res.bind_ok {α β : Type} (a : α) (f : α → Res β) : (Res.ok a).bind f = f a := rfl
@[simp] theorem Res.bind_exc {α β : Type} (c : Nat) (f : α → Res β) : (Res.exc c).bind f = .exc c := rfl
@[simp] theorem Res.bind_stuck {α β : Type} (f : α → Res β) : (Res.stuck : Res α).bind f = .stuck := rfl

/-! ### what stays -/
/-- no table -/
def NT (o : HO) : Prop := ∀ ps, o ≠ .tbl ps
/-- neither a table nor a thing told by a predicate -/
def Pl : HO → Prop
  | .tbl _ => False
  | .ext _ => False
  | _ => True
/-- tables of code objects: their addresses, the names of what they hold -/
abbrev TB := List (Addr × Str)
/-- the table at P: what it tells are code objects -/
def TabS (H : Hp) (P : Addr) (_q : Str) : Prop := ∃ ps : Array Value, H P = some (.tbl ps) ∧ TriplesOk ps.toList ∧ ∀ (pos : Pos) (cv : Value), codeAmong pos ps.toList = some cv → ∃ (c : Addr) (n : Str), cv = .ref c ∧ H c = some (LamX.CodeO c n)
def Tabs (T : TB) (H : Hp) : Prop := ∀ p ∈ T, TabS H p.1 p.2
theorem TabS.nil {H : Hp} {P : Addr} {q : Str} (h : H P = some (.tbl #[])) : TabS H P q := ⟨#[], h, True.intro, fun pos cv hc => by
  have z : codeAmong pos [] = some cv := hc
  simp [codeAmong] at z⟩
theorem tab_of {H H' : Hp} {P : Addr} {q : Str} (k : ∀ b o, ¬ Pl o → H b = some o → H' b = some o) (t : TabS H P q) : TabS H' P q := by
  obtain ⟨ps, h1, h2, h3⟩ := t
  refine ⟨ps, k _ _ (fun z => z) h1, h2, fun pos cv hc => ?_⟩
  obtain ⟨c, n, e1, e2⟩ := h3 pos cv hc
  exact ⟨c, n, e1, k _ _ (fun z => z) e2⟩
theorem tabs_of {T : TB} {H H' : Hp} (k : ∀ b o, ¬ Pl o → H b = some o → H' b = some o) (t : Tabs T H) : Tabs T H' := fun p hp => tab_of k (t p hp)
/-- all but tables stays; tables are known as before -/
structure Same (H H' : Hp) : Prop where
  obj : ∀ b o, H b = some o → NT o → H' b = some o
  tab : ∀ P q, TabS H P q → TabS H' P q
  free : ∀ {a : Addr}, H' a = none → H a = none
theorem Same.ap {H H' : Hp} (e : Same H H') (b : Addr) (o : HO) (h : H b = some o) (n : NT o := by exact fun _ z => nomatch z) : H' b = some o := e.obj b o h n
theorem Same.refl (H : Hp) : Same H H := ⟨fun _ _ h _ => h, fun _ _ t => t, fun h => h⟩
theorem Same.trans {H H1 H2 : Hp} (a : Same H H1) (b : Same H1 H2) : Same H H2 := ⟨fun c o h n => b.obj c o (a.obj c o h n) n, fun P q t => b.tab P q (a.tab P q t), fun h => a.free (b.free h)⟩
theorem Same.tabs {H H' : Hp} {T : TB} (e : Same H H') (t : Tabs T H) : Tabs T H' := fun p hp => e.tab p.1 p.2 (t p hp)
theorem same_all {H H' : Hp} (k : ∀ b o, H b = some o → H' b = some o) : Same H H' := ⟨fun b o h _ => k b o h, fun P q => tab_of fun b o _ h => k b o h, fun {a} h => by
  cases q : H a with
  | none => rfl
  | some o =>
    rw [k a o q] at h
    cases h⟩
theorem Same.seq {K : PySem.W.Frag} {H H' : Hp} {a : Addr} {xs : List V} (e : Same H H') (h : SqL K H a xs) : SqL K H' a xs := by
  rcases h with h | h
  · rcases h with h | ⟨o, h⟩
    · exact .inl (.inl (e.ap _ _ h))
    · exact .inl (.inr ⟨o, e.ap _ _ h⟩)
  · exact .inr h

/-! ### data in a heap -/
def keyD : Key → D
  | .inl i => .int i
  | .inr x => .str x
theorem rd_mono {H H' : Hp} {a : Addr} {u : HO} (e : Same H H') (h : Rd H a u) (n : NT u := by exact fun _ z => nomatch z) : Rd H' a u := by
  rcases h with h | ⟨o, h⟩
  · exact .inl (e.ap _ _ h n)
  · exact .inr ⟨o, e.ap _ _ h⟩
/-- a list: tracked, or the module's own plain one -/
def LsT (K : PySem.W.Frag) (F : Hp) (a : Addr) (xs : List V) : Prop := Rd F a (.lst xs) ∨ ∃ (its : Array Value) (n : Nat), K.lookup a = some { cls := .type "list", data := .seq its n } ∧ its.size ≤ sizeLine ∧ Vals xs its.toList
theorem LsT.mono {K : PySem.W.Frag} {F F' : Hp} {a : Addr} {xs : List V} (h : LsT K F a xs) (e : Same F F') : LsT K F' a xs := by
  rcases h with h | h
  · exact .inl (rd_mono e h)
  · exact .inr h
theorem LsT.seq {K : PySem.W.Frag} {F : Hp} {a : Addr} {xs : List V} (h : LsT K F a xs) : SqL K F a xs := by
  rcases h with h | ⟨its, n, h1, h2, h3⟩
  · exact .inl h
  · exact .inr ⟨_, its, n, h1, rfl, rfl, rfl, h2, h3⟩
section
variable (K : PySem.W.Frag) (F : Hp)
mutual
/-- the value bears the datum, by what stands in F (and in the written part) -/
inductive Rp : V → D → Prop
  | non : Rp .non .none
  | bl (b : Bool) : Rp (.bl b) (.bool b)
  | int (i : Int) : Rp (.int i) (.int i)
  | str (x : Str) : Rp (.str x) (.str x)
  | lst {a : Addr} {xs : List V} {ds : List D} : LsT K F a xs → RpL xs ds → Rp (.ref a) (.list ds)
  | tup {a : Addr} {xs : List V} {ds : List D} : SqT K F a xs → RpL xs ds → Rp (.ref a) (.tuple ds)
  | dK {a : Addr} {kvs : List (Key × V)} {ds : List D} : F a = some (.dK kvs) → RpL (kvs.map (·.2)) ds → Rp (.ref a) (.dict ((kvs.map fun p => keyD p.1).zip ds))
  | dT {a : Addr} {kvs : List (List Key × V)} {ds : List D} : F a = some (.dT kvs) → RpL (kvs.map (·.2)) ds → Rp (.ref a) (.dict ((kvs.map fun p => .tuple (p.1.map keyD)).zip ds))
inductive RpL : List V → List D → Prop
  | nil : RpL [] []
  | cons {v : V} {vs : List V} {d : D} {ds : List D} : Rp v d → RpL vs ds → RpL (v :: vs) (d :: ds)
end
end
theorem sqT_mono {K : PySem.W.Frag} {H H' : Hp} {a : Addr} {xs : List V} (e : Same H H') (h : SqT K H a xs) : SqT K H' a xs := by
  rcases h with (h | ⟨o, h⟩) | h
  · exact .inl (.inl (e.ap _ _ h))
  · exact .inl (.inr ⟨o, e.ap _ _ h⟩)
  · exact .inr h
section
variable {K : PySem.W.Frag} {F F' : Hp}
mutual
theorem Rp.mono (e : Same F F') : ∀ {v : V} {d : D}, Rp K F v d → Rp K F' v d
  | _, _, .non => .non
  | _, _, .bl b => .bl b
  | _, _, .int i => .int i
  | _, _, .str x => .str x
  | _, _, .lst h r => .lst (h.mono e) (RpL.mono e r)
  | _, _, .tup h r => .tup (sqT_mono e h) (RpL.mono e r)
  | _, _, .dK h r => .dK (e.ap _ _ h) (RpL.mono e r)
  | _, _, .dT h r => .dT (e.ap _ _ h) (RpL.mono e r)
theorem RpL.mono (e : Same F F') : ∀ {vs : List V} {ds : List D}, RpL K F vs ds → RpL K F' vs ds
  | _, _, .nil => .nil
  | _, _, .cons h t => .cons (Rp.mono e h) (RpL.mono e t)
end
theorem RpL.length : ∀ {vs : List V} {ds : List D}, RpL K F vs ds → vs.length = ds.length
  | _, _, .nil => rfl
  | _, _, .cons _ t => by rw [List.length_cons, List.length_cons, t.length]
theorem RpL.get : ∀ {vs : List V} {ds : List D}, RpL K F vs ds → ∀ {i : Nat} {v : V}, vs[i]? = some v → ∃ d, ds[i]? = some d ∧ Rp K F v d
  | _, _, .nil, i, v, h => by simp at h
  | _, _, .cons h t, 0, v, e => by
    simp at e
    subst e
    exact ⟨_, by simp, h⟩
  | _, _, .cons h t, i + 1, v, e => by
    obtain ⟨d, h1, h2⟩ := t.get (i := i) (v := v) (by simpa using e)
    exact ⟨d, by simpa using h1, h2⟩
theorem RpL.get' : ∀ {vs : List V} {ds : List D}, RpL K F vs ds → ∀ {i : Nat} {d : D}, ds[i]? = some d → ∃ v, vs[i]? = some v ∧ Rp K F v d
  | _, _, .nil, i, v, h => by simp at h
  | _, _, .cons h t, 0, v, e => by
    simp at e
    subst e
    exact ⟨_, by simp, h⟩
  | _, _, .cons h t, i + 1, v, e => by
    obtain ⟨d, h1, h2⟩ := t.get' (i := i) (d := v) (by simpa using e)
    exact ⟨d, by simpa using h1, h2⟩
theorem RpL.append : ∀ {vs : List V} {ds : List D}, RpL K F vs ds → ∀ {ws : List V} {es : List D}, RpL K F ws es → RpL K F (vs ++ ws) (ds ++ es)
  | _, _, .nil, _, _, r => r
  | _, _, .cons h t, _, _, r => .cons h (t.append r)
theorem RpL.take : ∀ {vs : List V} {ds : List D} (n : Nat), RpL K F vs ds → RpL K F (vs.take n) (ds.take n)
  | _, _, 0, _ => .nil
  | _, _, _ + 1, .nil => .nil
  | _, _, n + 1, .cons h t => .cons h (t.take n)
theorem RpL.drop : ∀ {vs : List V} {ds : List D} (n : Nat), RpL K F vs ds → RpL K F (vs.drop n) (ds.drop n)
  | _, _, 0, r => r
  | _, _, _ + 1, .nil => .nil
  | _, _, n + 1, .cons h t => t.drop n
theorem RpL.set {v : V} {d : D} (r : Rp K F v d) : ∀ {vs : List V} {ds : List D} (n : Nat), RpL K F vs ds → RpL K F (vs.set n v) (ds.set n d)
  | _, _, _, .nil => .nil
  | _, _, 0, .cons _ t => .cons r t
  | _, _, n + 1, .cons h t => .cons h (t.set r n)
theorem RpL.ints : ∀ (ns : List Int), RpL K F (ns.map V.int) (ns.map PyData.int)
  | [] => .nil
  | n :: r => .cons (.int n) (RpL.ints r)
theorem RpL.ints' : ∀ {vs : List V} {ns : List Int}, RpL K F vs (ns.map PyData.int) → vs = ns.map V.int
  | _, [], .nil => rfl
  | _, n :: r, .cons h t => by
    cases h
    rw [List.map_cons, ← t.ints']
theorem RpL.bls' : ∀ {vs : List V} {ns : List Bool}, RpL K F vs (ns.map PyData.bool) → vs = ns.map V.bl
  | _, [], .nil => rfl
  | _, n :: r, .cons h t => by
    cases h
    rw [List.map_cons, ← t.bls']
end

/-! ### how a heap and what is fixed in it grow -/
/-- F' fixes more than F: only new things, and they stand in H' -/
structure Grow (F H F' H' : Hp) : Prop where
  fix : Same F F'
  sub : Same F' H'
  new : ∀ a, F a = none → F' a ≠ none → H a = none
theorem Grow.refl {F H : Hp} (s : Same F H) : Grow F H F H := ⟨Same.refl _, s, fun a h1 h2 => absurd h1 h2⟩
theorem Grow.stay {F H H' : Hp} (s : Same F H) (e : Same H H') : Grow F H F H' := ⟨Same.refl _, s.trans e, fun a h1 h2 => absurd h1 h2⟩
theorem Grow.trans {F H F1 H1 F2 H2 : Hp} (a : Grow F H F1 H1) (e : Same H H1) (b : Grow F1 H1 F2 H2) : Grow F H F2 H2 := ⟨a.fix.trans b.fix, b.sub, fun c h1 h2 => by
  cases q : F1 c with
  | some o => exact a.new c h1 (by rw [q]; exact fun z => nomatch z)
  | none => exact e.free (b.new c q h2)⟩
theorem same_upd {H : Hp} {p : Addr} {o : HO} (h : H p = none) : Same H (upd H p o) := same_all fun b x e => by
  rw [upd_ne (ne_of_none e h)]
  exact e
theorem same_upd2 {F H : Hp} {p : Addr} {o : HO} (s : Same F H) (h : H p = none) (hp : Pl o := by exact True.intro) : Same (upd F p o) (upd H p o) := by
  refine ⟨fun b x e n => ?_, fun P q t => ?_, fun {a} e => ?_⟩
  · by_cases hb : b = p
    · subst hb
      rw [upd_same] at e ⊢
      exact e
    · rw [upd_ne hb] at e ⊢
      exact s.obj b x e n
  · have t1 : TabS F P q := tab_of (fun b x np e => by
      by_cases hb : b = p
      · subst hb
        rw [upd_same] at e
        cases e
        exact absurd hp np
      · rw [upd_ne hb] at e
        exact e) t
    exact (same_upd h).tab P q (s.tab P q t1)
  · by_cases hb : a = p
    · subst hb
      rw [upd_same] at e
      cases e
    · rw [upd_ne hb] at e ⊢
      exact s.free e
theorem tab_upd {F : Hp} {p : Addr} {o : HO} {P : Addr} {q : Str} (hp : Pl o) (t : TabS (upd F p o) P q) : TabS F P q := tab_of (fun b x np e => by
  by_cases hb : b = p
  · subst hb
    rw [upd_same] at e
    cases e
    exact absurd hp np
  · rw [upd_ne hb] at e
    exact e) t
theorem same_fix {F H : Hp} {a : Addr} {o : HO} (s : Same F H) (h : H a = some o) (hp : Pl o := by exact True.intro) : Same (upd F a o) H := by
  refine ⟨fun b x e n => ?_, fun P q t => s.tab P q (tab_upd hp t), fun {b} e => ?_⟩
  · by_cases hb : b = a
    · subst hb
      rw [upd_same] at e
      rw [h]
      exact e
    · rw [upd_ne hb] at e
      exact s.obj b x e n
  · by_cases hb : b = a
    · subst hb
      rw [h] at e
      cases e
    · rw [upd_ne hb]
      exact s.free e
theorem same_over {F H : Hp} {p : Addr} {o o' : HO} (s : Same F H) (hF : F p = none) (hH : H p = some o) (hp : Pl o := by exact True.intro) : Same F (upd H p o') := by
  refine ⟨fun b x e n => ?_, fun P q t => tab_of (fun b x np e => ?_) (s.tab P q t), fun {b} e => ?_⟩
  · rw [upd_ne fun z => by rw [z, hF] at e; cases e]
    exact s.obj b x e n
  · rw [upd_ne fun z => by rw [z, hH] at e; cases e; exact np hp]
    exact e
  · by_cases hb : b = p
    · rw [hb, upd_same] at e
      cases e
    · rw [upd_ne hb] at e
      exact s.free e
/-- a new object is fixed -/
theorem Grow.upd {F H : Hp} {p : Addr} {o : HO} (s : Same F H) (h : H p = none) (hp : Pl o := by exact True.intro) : Grow F H (upd F p o) (upd H p o) := by
  refine ⟨same_upd (s.free h), same_upd2 s h hp, fun a h1 h2 => ?_⟩
  by_cases hb : a = p
  · rw [hb]
    exact h
  · rw [upd_ne hb] at h2
    exact absurd h1 h2

/-! ### readings of functions on data -/
/-- the local names' data -/
abbrev En := List (Option D)
structure ERx (K : PySem.W.Frag) (T : TB) (F H : Hp) (σ : L2.St) (env : En) : Prop where
  sub : Same F H
  tb : Tabs T F
  len : env.length = σ.length
  at_ : ∀ (i : Nat) (d : D), env[i]? = some (some d) → ∃ v, σ[i]? = some (some v) ∧ Rp K F v d
theorem ERx.grow {K : PySem.W.Frag} {T : TB} {F H F' H' : Hp} {σ : L2.St} {env : En} (e : ERx K T F H σ env) (g : Grow F H F' H') : ERx K T F' H' σ env :=
  ⟨g.sub, g.fix.tabs e.tb, e.len, fun i d h => let ⟨v, h1, h2⟩ := e.at_ i d h; ⟨v, h1, h2.mono g.fix⟩⟩

/-- exceptions: what is wanted, by the class's number -/
abbrev XW := Nat → Hp → Prop
/-- what is wanted behind an outcome -/
def Post (K : PySem.W.Frag) (X : XW) (F H : Hp) (r : Res D) (Q : VK) : Prop := match r with
  | .ok d => ∀ v F' H', Same H H' → Grow F H F' H' → Rp K F' v d → Q v H'
  | .exc c => ∀ H', Same H H' → X c H'
  | .stuck => False
def PostB (X : XW) (F H : Hp) (r : Res Bool) (Q : Bool → Hp → Prop) : Prop := match r with
  | .ok b => ∀ F' H', Same H H' → Grow F H F' H' → Q b H'
  | .exc c => ∀ H', Same H H' → X c H'
  | .stuck => False
def PostL (K : PySem.W.Frag) (X : XW) (F H : Hp) (r : Res (List D)) (Q : List V → Hp → Prop) : Prop := match r with
  | .ok ds => ∀ vs F' H', Same H H' → Grow F H F' H' → RpL K F' vs ds → Q vs H'
  | .exc c => ∀ H', Same H H' → X c H'
  | .stuck => False
abbrev SF := En → Res D
/-- what is wanted of exceptions, and the tables that are known -/
structure WX0 where
  w : Nat → L2.St → Hp → Prop
  T : TB
instance : CoeFun WX0 (fun _ => Nat → L2.St → Hp → Prop) := ⟨WX0.w⟩
def tOf (K : PySem.W.Frag) (W : WX0) (f : SF) : TE := fun σ H Q => ∃ env F, ERx K W.T F H σ env ∧ Post K (fun c => W c σ) F H (f env) Q
def tOfB (K : PySem.W.Frag) (W : WX0) (f : En → Res Bool) : TT := fun σ H Q => ∃ env F, ERx K W.T F H σ env ∧ PostB (fun c => W c σ) F H (f env) Q
def tOfL (K : PySem.W.Frag) (W : WX0) (f : En → Res (List D)) : TA := fun σ H Q => ∃ env F, ERx K W.T F H σ env ∧ PostL K (fun c => W c σ) F H (f env) Q
theorem PE.imp {X : Cx} {e : Expr} {t t' : TE} (h : PE X e t') (i : ∀ σ H Q, t σ H Q → t' σ H Q) : PE X e t := ⟨fun pins s σ H Q I q => h.run pins s σ H Q I (i σ H Q q)⟩
theorem PT.imp {X : Cx} {e : Expr} {t t' : TT} (h : PT X e t') (i : ∀ σ H Q, t σ H Q → t' σ H Q) : PT X e t := ⟨fun pins s σ H Q I q => h.run pins s σ H Q I (i σ H Q q)⟩
theorem PA.imp {X : Cx} {e : List Expr} {t t' : TA} (h : PA X e t') (i : ∀ σ H Q, t σ H Q → t' σ H Q) : PA X e t := ⟨fun pos pins s σ H Q I q => h.run pos pins s σ H Q I (i σ H Q q)⟩
theorem PS.imp {X : Cx} {e : Stmt} {t t' : TS} (h : PS X e t') (i : ∀ D σ H, t D σ H → t' D σ H) : PS X e t := ⟨fun pins s σ H D I q => h.run pins s σ H D I (i D σ H q)⟩
theorem PSs.imp {X : Cx} {e : List Stmt} {t t' : TS} (h : PSs X e t') (i : ∀ D σ H, t D σ H → t' D σ H) : PSs X e t := ⟨fun pins s σ H D I q => h.run pins s σ H D I (i D σ H q)⟩

/-- after a first part, a second one: the wish about the second, carried to the first's heap -/
theorem Post.cut {K : PySem.W.Frag} {X : XW} {F H F1 H1 : Hp} {r : Res D} {Q : VK} (h : Post K X F H r Q) (e : Same H H1) (g : Grow F H F1 H1) : Post K X F1 H1 r Q := by
  cases r with
  | ok d => exact fun v F' H' e' g' r => h v F' H' (e.trans e') (g.trans e g') r
  | exc c => exact fun H' e' => h H' (e.trans e')
  | stuck => exact h
theorem PostB.cut {X : XW} {F H F1 H1 : Hp} {r : Res Bool} {Q : Bool → Hp → Prop} (h : PostB X F H r Q) (e : Same H H1) (g : Grow F H F1 H1) : PostB X F1 H1 r Q := by
  cases r with
  | ok d => exact fun F' H' e' g' => h F' H' (e.trans e') (g.trans e g')
  | exc c => exact fun H' e' => h H' (e.trans e')
  | stuck => exact h
theorem PostL.cut {K : PySem.W.Frag} {X : XW} {F H F1 H1 : Hp} {r : Res (List D)} {Q : List V → Hp → Prop} (h : PostL K X F H r Q) (e : Same H H1) (g : Grow F H F1 H1) : PostL K X F1 H1 r Q := by
  cases r with
  | ok d => exact fun v F' H' e' g' r => h v F' H' (e.trans e') (g.trans e g') r
  | exc c => exact fun H' e' => h H' (e.trans e')
  | stuck => exact h
/-- a first part gives a datum, then f of it -/
theorem Post.bind {K : PySem.W.Frag} {X : XW} {F H : Hp} {r : Res D} {f : D → Res D} {Q : VK} (h : Post K X F H (r.bind f) Q) {Q' : VK} (k : ∀ d v F1 H1, r = .ok d → Same H H1 → Grow F H F1 H1 → Rp K F1 v d → Post K X F1 H1 (f d) Q → Q' v H1) : Post K X F H r Q' := by
  cases r with
  | ok d => exact fun v F1 H1 e g q => k d v F1 H1 rfl e g q (Post.cut (r := f d) h e g)
  | exc c => exact h
  | stuck => exact h
end SH


set_option Elab.async false
set_option linter.all false
set_option maxRecDepth 100000
set_option maxHeartbeats 4000000
/-! The layer, part b: operations on data, and that the machine does them. -/
namespace SH
open PySem PySem.Spec PyProof.Rows L2

/-- a size that the machine surely takes -/
abbrev LIM : Nat := 1000000
theorem lim_line {n : Nat} (h : n ≤ LIM) : n ≤ sizeLine := Nat.le_trans h (by rw [sizeLine_eq]; decide)

def truth : D → Option Bool
  | .none => some false
  | .bool b => some b
  | .int i => some (i != 0)
  | .str s => if s.length ≤ 1000 then some ((s.length : Int) != 0) else none
  | .list xs => some (!xs.isEmpty)
  | .tuple xs => some (!xs.isEmpty)
  | .dict _ => none
def small (i : Int) : Bool := decide (-(2 ^ 64) < i ∧ i < 2 ^ 64)
def dAdd : D → D → Res D
  | .int i, .int j => .ok (.int (i + j))
  | .str s, .str t => if s.length + t.length ≤ LIM then .ok (.str (s ++ t)) else .stuck
  | .tuple xs, .tuple ys => if xs.length + ys.length ≤ LIM then .ok (.tuple (xs ++ ys)) else .stuck
  | .list xs, .list ys => if xs.length + ys.length ≤ LIM then .ok (.list (xs ++ ys)) else .stuck
  | _, _ => .stuck
def dSub : D → D → Res D
  | .int i, .int j => .ok (.int (i - j))
  | _, _ => .stuck
def dMul : D → D → Res D
  | .int i, .int j => if small i || small j then .ok (.int (i * j)) else .stuck
  | .tuple xs, .int k => if xs.length * k.toNat ≤ LIM ∧ k < 1000000 ∧ -1000000 < k then .ok (.tuple (List.replicate k.toNat xs).flatten) else .stuck
  | .list xs, .int k => if xs.length * k.toNat ≤ LIM ∧ k < 1000000 ∧ -1000000 < k then .ok (.list (List.replicate k.toNat xs).flatten) else .stuck
  | _, _ => .stuck
def dDiv : D → D → Res D
  | .int i, .int j => if 0 < j ∧ j < 1073741824 then .ok (.int (i / j)) else .stuck
  | _, _ => .stuck
def dMod : D → D → Res D
  | .int i, .int j => if 0 < j then .ok (.int (i % j)) else .stuck
  | _, _ => .stuck
def dNeg : D → Res D
  | .int i => .ok (.int (-i))
  | _ => .stuck
/-- data that == reads: at most so deep -/
def okEq : Nat → D → Bool
  | _, .none => true
  | _, .bool _ => true
  | _, .int _ => true
  | _, .str s => PyData.strOk s
  | n + 1, .list xs => xs.all (okEq n)
  | n + 1, .tuple xs => xs.all (okEq n)
  | _, _ => false
def dEq (x y : D) : Res D := if okEq 9 x && okEq 9 y then .ok (.bool (PyData.eqv x y)) else .stuck
def dNe (x y : D) : Res D := if okEq 9 x && okEq 9 y then .ok (.bool (!PyData.eqv x y)) else .stuck
def dLt : D → D → Res D
  | .int i, .int j => .ok (.bool (decide (i < j)))
  | _, _ => .stuck
def dLe : D → D → Res D
  | .int i, .int j => .ok (.bool (decide (i ≤ j)))
  | _, _ => .stuck
def dGt : D → D → Res D
  | .int i, .int j => .ok (.bool (decide (j < i)))
  | _, _ => .stuck
def dGe : D → D → Res D
  | .int i, .int j => .ok (.bool (decide (j ≤ i)))
  | _, _ => .stuck
def isNone : D → Bool
  | .none => true
  | _ => false
/-- is None, is True, is False -/
def dIs (x y : D) : Res D := match x, y with
  | x, .none => .ok (.bool (isNone x))
  | .bool a, .bool b => .ok (.bool (decide (a = b)))
  | _, _ => .stuck
def dIsNot (x y : D) : Res D := match x, y with
  | x, .none => .ok (.bool (!isNone x))
  | .bool a, .bool b => .ok (.bool (!decide (a = b)))
  | _, _ => .stuck

/-! ### the operators -/
section
variable {X : Cx}
/-- a two-place operation by data -/
def rD2 (K : PySem.W.Frag) (f : D → D → Res D) : R2 := fun x y H Q => ∃ (XX : XW) (F : Hp) (d e : D), Same F H ∧ Rp K F x d ∧ Rp K F y e ∧ Post K XX F H (f d e) Q
theorem Post.ok0 {K : PySem.W.Frag} {XX : XW} {F H : Hp} {d : D} {v : V} {Q : VK} (h : Post K XX F H (.ok d) Q) (s : Same F H) (r : Rp K F v d) : Q v H := h v F H (Same.refl _) (Grow.refl s) r
theorem Post.new {K : PySem.W.Frag} {XX : XW} {F H : Hp} {d : D} {o : HO} {Q : VK} (h : Post K XX F H (.ok d) Q) (s : Same F H) (r : ∀ p, Rp K (upd F p o) (.ref p) d) (p : Addr) (hp : H p = none) (pl : Pl o := by exact True.intro) : Q (.ref p) (upd H p o) :=
  h (.ref p) (upd F p o) (upd H p o) (same_upd hp) (Grow.upd s hp pl) (r p)
theorem Rp.int' {K : PySem.W.Frag} {F : Hp} {v : V} {i : Int} (h : Rp K F v (.int i)) : v = .int i := by cases h; rfl
theorem Rp.bl' {K : PySem.W.Frag} {F : Hp} {v : V} {i : Bool} (h : Rp K F v (.bool i)) : v = .bl i := by cases h; rfl
theorem Rp.str' {K : PySem.W.Frag} {F : Hp} {v : V} {i : Str} (h : Rp K F v (.str i)) : v = .str i := by cases h; rfl
theorem Rp.lst' {K : PySem.W.Frag} {F : Hp} {v : V} {ds : List D} (h : Rp K F v (.list ds)) : ∃ a xs, v = .ref a ∧ LsT K F a xs ∧ RpL K F xs ds := by
  cases h with
  | lst h r => exact ⟨_, _, rfl, h, r⟩
theorem Rp.tup' {K : PySem.W.Frag} {F : Hp} {v : V} {ds : List D} (h : Rp K F v (.tuple ds)) : ∃ a xs, v = .ref a ∧ SqT K F a xs ∧ RpL K F xs ds := by
  cases h with
  | tup h r => exact ⟨_, _, rfl, h, r⟩
theorem Rp.newL {K : PySem.W.Frag} {F : Hp} {p : Addr} {xs : List V} {ds : List D} (h : F p = none) (r : RpL K F xs ds) : Rp K (upd F p (.lst xs)) (.ref p) (.list ds) := .lst (.inl (.inl upd_same)) (r.mono (same_upd h))
theorem Rp.newT {K : PySem.W.Frag} {F : Hp} {p : Addr} {xs : List V} {ds : List D} (h : F p = none) (r : RpL K F xs ds) : Rp K (upd F p (.tup xs)) (.ref p) (.tuple ds) := .tup (SqT.of upd_same) (r.mono (same_upd h))
/-- a new list, tuple is fixed -/
theorem Post.newL {K : PySem.W.Frag} {XX : XW} {F H : Hp} {ds : List D} {xs : List V} {Q : VK} (h : Post K XX F H (.ok (.list ds)) Q) (s : Same F H) (r : RpL K F xs ds) (p : Addr) (hp : H p = none) : Q (.ref p) (upd H p (.lst xs)) :=
  h (.ref p) _ _ (same_upd hp) (Grow.upd s hp) (Rp.newL (s.free hp) r)
theorem Post.newT {K : PySem.W.Frag} {XX : XW} {F H : Hp} {ds : List D} {xs : List V} {Q : VK} (h : Post K XX F H (.ok (.tuple ds)) Q) (s : Same F H) (r : RpL K F xs ds) (p : Addr) (hp : H p = none) : Q (.ref p) (upd H p (.tup xs)) :=
  h (.ref p) _ _ (same_upd hp) (Grow.upd s hp) (Rp.newT (s.free hp) r)


theorem Inv.lstR {pins : List (Addr × Obj)} {σ : L2.St} {H : Hp} {s : Shared} {l : Addr} {xs : List V} (I : Inv X pins σ H s) (hH : LsT X.K H l xs) : xs.length ≤ sizeLine ∧ ∃ (its : List Value) (n : Nat), Vals xs its ∧ xs.length = its.length ∧ s.heap.get? l = some { cls := .type "list", data := .seq its.toArray n } := by
  rcases hH with hH | ⟨its, n, hk, hz, r⟩
  · obtain ⟨z, its, n, r, e⟩ := hH.ok I.hok
    exact ⟨z, its, n, r, r.length, e⟩
  · have e := r.length
    simp only [Array.length_toList] at e
    exact ⟨by omega, its.toList, n, r, by simp [e], I.kIn l _ hk⟩
/-- behind an expression whose list, if it is one, is new and nobody's yet -/
def PostG (K : PySem.W.Frag) (XX : XW) (F H : Hp) (r : Res D) (Q : VK) : Prop := match r with
  | .ok (.list ds) => ∀ a vs F' H', Same H H' → Grow F H F' H' → H a = none → F' a = none → H' a = some (.lst vs) → RpL K F' vs ds → Q (.ref a) H'
  | .ok d => ∀ v F' H', Same H H' → Grow F H F' H' → Rp K F' v d → Q v H'
  | .exc c => ∀ H', Same H H' → XX c H'
  | .stuck => False
theorem Grow.freeze {F H F' H' : Hp} {a : Addr} {o : HO} (g : Grow F H F' H') (h : H a = none) (hF : F' a = none) (hH : H' a = some o) (pl : Pl o := by exact True.intro) : Grow F H (L2.upd F' a o) H' := by
  refine ⟨g.fix.trans (same_upd hF), same_fix g.sub hH pl, fun b h1 h2 => ?_⟩
  by_cases hb : b = a
  · rw [hb]
    exact h
  · rw [upd_ne hb] at h2
    exact g.new b h1 h2
theorem PostG.of {K : PySem.W.Frag} {XX : XW} {F H : Hp} {r : Res D} {Q : VK} (h : Post K XX F H r Q) : PostG K XX F H r Q := by
  cases r with
  | ok d =>
    cases d with
    | list ds => exact fun a vs F' H' e g h1 h2 h3 r => h (.ref a) _ H' e (g.freeze h1 h2 h3) (Rp.newL h2 r)
    | _ => exact h
  | exc c => exact h
  | stuck => exact h
theorem PostG.ok0 {K : PySem.W.Frag} {XX : XW} {F H : Hp} {d : D} {v : V} {Q : VK} (h : PostG K XX F H (.ok d) Q) (s : Same F H) (r : Rp K F v d) (nl : ∀ ds, d ≠ .list ds := by intro _ z; cases z) : Q v H := by
  cases d with
  | list ds => exact absurd rfl (nl ds)
  | _ => exact h v F H (Same.refl _) (Grow.refl s) r
theorem PostG.newT {K : PySem.W.Frag} {XX : XW} {F H : Hp} {ds : List D} {xs : List V} {Q : VK} (h : PostG K XX F H (.ok (.tuple ds)) Q) (s : Same F H) (r : RpL K F xs ds) (p : Addr) (hp : H p = none) : Q (.ref p) (upd H p (.tup xs)) :=
  h (.ref p) _ _ (same_upd hp) (Grow.upd s hp) (Rp.newT (s.free hp) r)
theorem PostG.newL {K : PySem.W.Frag} {XX : XW} {F H : Hp} {ds : List D} {xs : List V} {Q : VK} (h : PostG K XX F H (.ok (.list ds)) Q) (s : Same F H) (r : RpL K F xs ds) (p : Addr) (hp : H p = none) : Q (.ref p) (upd H p (.lst xs)) :=
  h p xs F (upd H p (.lst xs)) (same_upd hp) (Grow.stay s (same_upd hp)) hp (s.free hp) upd_same r
def rG2 (K : PySem.W.Frag) (f : D → D → Res D) : R2 := fun x y H Q => ∃ (XX : XW) (F : Hp) (d e : D), Same F H ∧ Rp K F x d ∧ Rp K F y e ∧ PostG K XX F H (f d e) Q
theorem OpR.ofG {K : PySem.W.Frag} {op : Value → Value → Sem Value} {f : D → D → Res D} (h : OpR X op (rG2 K f)) : OpR X op (rD2 K f) := fun pins s σ H x y v u Q I rx ry ⟨XX, F, d, e, sb, r1, r2, q⟩ =>
  h pins s σ H x y v u Q I rx ry ⟨XX, F, d, e, sb, r1, r2, .of q⟩
/-- list + list -/
theorem op_catL : OpR X (binaryOp .Add) (fun x y H Q => ∃ l b xs zs, x = .ref l ∧ y = .ref b ∧ LsT X.K H l xs ∧ LsT X.K H b zs ∧ xs.length + zs.length ≤ sizeLine ∧ ∀ p, H p = none → Q (.ref p) (upd H p (.lst (xs ++ zs)))) := by
  intro pins s σ H x y v u Q I rx ry h
  obtain ⟨l, b, xs, zs, rfl, rfl, hH, hB, hz, q⟩ := h
  cases rx
  cases ry
  obtain ⟨z, its, n, r, hl, e⟩ := Inv.lstR I hH
  obtain ⟨z2, its2, n2, r2, hl2, e2⟩ := Inv.lstR I hB
  refine PySem.P.add_list e e2 ?_ (by rw [List.size_toArray, List.size_toArray]; omega)
  have ea : its.toArray ++ its2.toArray = (its ++ its2).toArray := by simp
  rw [ea]
  exact ⟨.ref _, _, I.lnew (t' := s.toks) (r.append r2) (by rw [List.length_append]; omega), rfl, q _ I.fresh⟩
/-- list * int -/
theorem op_repL : OpR X (binaryOp .Mult) (fun x y H Q => ∃ l k xs, x = .ref l ∧ y = .int k ∧ LsT X.K H l xs ∧ -(2 ^ 63) ≤ k ∧ k < 2 ^ 63 ∧ xs.length * k.toNat ≤ sizeLine ∧
  ∀ p, H p = none → Q (.ref p) (upd H p (.lst (List.replicate k.toNat xs).flatten))) := by
  intro pins s σ H x y v u Q I rx ry h
  obtain ⟨l, k, xs, rfl, rfl, hH, h1, h2, hz, q⟩ := h
  cases rx
  obtain ⟨t, rfl⟩ := ry
  obtain ⟨z, its, n, r, hl, e⟩ := Inv.lstR I hH
  have hlen : its.toArray.size * k.toNat ≤ sizeLine := by rw [List.size_toArray, ← hl]; exact hz
  have hcap : ¬ its.toArray.size * k.toNat > (2 ^ 63 - 1) / 8 := by
    have : (sizeLine : Nat) ≤ (2 ^ 63 - 1) / 8 := by decide
    omega
  have hfit : ¬ (!Builtin.List.listFitsIndex k) = true := by
    rw [fitsIndex_both h1 h2]
    exact Bool.false_ne_true
  have hlong : ¬ Builtin.List.listTooLong (its.toArray.size * k.toNat) = true := by
    rw [notLongL hlen]
    exact Bool.false_ne_true
  have hnew : List.foldl (fun x1 x2 => x1 ++ x2) #[] (List.replicate (if its.toArray.isEmpty = true then 0 else k.toNat) its.toArray) = (List.replicate k.toNat its).flatten.toArray := by
    have f0 : ∀ m : Nat, List.foldl (fun x1 x2 => x1 ++ x2) #[] (List.replicate m its.toArray) = (List.replicate m its).flatten.toArray := fun m => by
      have := foldl_rep its m []
      rw [List.nil_append] at this
      exact this
    rw [f0]
    cases its with
    | nil => simp
    | cons a r' => rw [if_neg (by simp)]
  refine wpAny_binaryOp_repeat_ref (T := "list") (U := "int") (by decide) ⟨_, e, rfl⟩ (fun s' => typeIs_int s' k t) noFill_list_mul F.fills_int_mul F.slot_int_rmul repeat_list F.slot_int_index.lookup
    (call_meets F.slot_int_rmul (typeIs_int s k t) F.entry_int_rmul (F.args_int_rmul_2 _ _) (int___rmul___int_list k t l its.toArray n)
      ⟨e, rfl, ⟨_, e, rfl⟩, call_meets F.slot_list_mul ⟨_, e, rfl⟩ F.entry_list_mul (F.args_list_mul_2 _ _) (AutoListH.list___mul___list_int_3 l its.toArray n k t hfit hcap hlong) ⟨e, ?_⟩⟩)
  rw [hnew]
  exact ⟨.ref _, _, I.lnew (t' := s.toks) (r.rep k.toNat) (by rw [PyProof.Rows.lm_len_rep_flat, Nat.mul_comm]; exact hz), rfl, q _ I.fresh⟩

/-! tuple * int, the rest of the ways -/
theorem tuple_mul1 (l : Addr) (items : Array Value) (n : Nat) (dd : Option Addr) (sl : Array (Option Value)) (x : Int) (u : Tok) (c0 : (decide (x < -(2 ^ 63)) || decide (x ≥ 2 ^ 63)) = false) (c1 : (items.isEmpty || x == 1) = true) :
    Meets (Builtin.«tuple.__mul__» ⟨[.ref l, .int x u], []⟩) (fun _ R s => s.heap.get? l = some { cls := .type "tuple", dict := dd, data := .seq items n, slots := sl } ∧ R (.ok (.ret (Value.ref l))) s) :=
  .of_wp fun prog w A R s h => by
    obtain ⟨hp, g, d, tk, os⟩ := s
    obtain ⟨hl, h⟩ := h
    have f1 := AutoSeq1.idx_int
    wp_walk using wpAny_loadPart' hl
    repeat (first
      | (refine wpAny_ite_false (decide_eq_false (by rw [c0]; exact Bool.false_ne_true)) ?_; wp_walk using wpAny_loadPart' hl)
      | (refine wpAny_ite_true (decide_eq_true (by rw [c1])) ?_; wp_walk using wpAny_loadPart' hl))
    exact ⟨_, rfl, h⟩
theorem tuple_mul0 (l : Addr) (items : Array Value) (n : Nat) (dd : Option Addr) (sl : Array (Option Value)) (x : Int) (u : Tok) (c0 : (decide (x < -(2 ^ 63)) || decide (x ≥ 2 ^ 63)) = false) (c1 : (items.isEmpty || x == 1) = false) (c2 : (decide (x ≤ 0) || items.isEmpty) = true) :
    Meets (Builtin.«tuple.__mul__» ⟨[.ref l, .int x u], []⟩) (fun _ R s => s.heap.get? l = some { cls := .type "tuple", dict := dd, data := .seq items n, slots := sl } ∧
      R (.ok (.ret (Value.ref s.heap.objs.size))) { s with heap := s.heap.push { cls := Value.type "tuple", data := Data.seq #[] }, toks := s.toks }) :=
  .of_wp fun prog w A R s h => by
    obtain ⟨hp, g, d, tk, os⟩ := s
    obtain ⟨hl, h⟩ := h
    have f1 := AutoSeq1.idx_int
    wp_walk using wpAny_loadPart' hl
    repeat (first
      | (refine wpAny_ite_false (decide_eq_false (by rw [c0]; exact Bool.false_ne_true)) ?_; wp_walk using wpAny_loadPart' hl)
      | (refine wpAny_ite_false (decide_eq_false (by rw [c1]; exact Bool.false_ne_true)) ?_; wp_walk using wpAny_loadPart' hl)
      | (refine wpAny_ite_true (decide_eq_true (by rw [c2])) ?_; wp_walk using wpAny_loadPart' hl))
    exact ⟨_, rfl, h⟩
end
end SH


set_option Elab.async false
set_option linter.all false
set_option maxRecDepth 100000
set_option maxHeartbeats 4000000
/-! The layer, part c: the operators by data. -/
namespace SH
open PySem PySem.Spec PyProof.Rows L2

theorem okEq_depth : ∀ (n : Nat) (d : D), okEq n d = true → d.canLay0 = true ∧ d.depth ≤ n := by
  intro n
  induction n with
  | zero =>
    intro d h
    cases d with
    | none => exact ⟨rfl, Nat.le_refl _⟩
    | bool b => exact ⟨rfl, Nat.le_refl _⟩
    | int b => exact ⟨rfl, Nat.le_refl _⟩
    | str b => exact ⟨by simpa [okEq, PyData.canLay0] using h, Nat.le_refl _⟩
    | list xs => simp [okEq] at h
    | tuple xs => simp [okEq] at h
    | dict xs => simp [okEq] at h
  | succ n ih =>
    intro d h
    have all : ∀ xs : List D, xs.all (okEq n) = true → PyData.canLayAll0 xs = true ∧ PyData.depthAll xs ≤ n := by
      intro xs
      induction xs with
      | nil => intro _; exact ⟨rfl, Nat.zero_le _⟩
      | cons x r ihr =>
        intro h
        rw [List.all_cons, Bool.and_eq_true] at h
        obtain ⟨a1, a2⟩ := ih x h.1
        obtain ⟨b1, b2⟩ := ihr h.2
        refine ⟨by rw [PyData.canLayAll0, a1, b1]; rfl, ?_⟩
        rw [PyData.depthAll]
        exact Nat.max_le.mpr ⟨a2, b2⟩
    cases d with
    | none => exact ⟨rfl, Nat.zero_le _⟩
    | bool b => exact ⟨rfl, Nat.zero_le _⟩
    | int b => exact ⟨rfl, Nat.zero_le _⟩
    | str b => exact ⟨by simpa [okEq, PyData.canLay0] using h, Nat.zero_le _⟩
    | list xs =>
      rw [okEq] at h
      obtain ⟨a1, a2⟩ := all xs h
      exact ⟨by rw [PyData.canLay0]; exact a1, by rw [PyData.depth]; exact Nat.succ_le_succ a2⟩
    | tuple xs =>
      rw [okEq] at h
      obtain ⟨a1, a2⟩ := all xs h
      exact ⟨by rw [PyData.canLay0]; exact a1, by rw [PyData.depth]; exact Nat.succ_le_succ a2⟩
    | dict xs => simp [okEq] at h
theorem okEq_shaped {n : Nat} {d : D} (hn : n ≤ 64) (h : okEq n d = true) : SeqAt.shaped d = true := by
  obtain ⟨a, b⟩ := okEq_depth n d h
  unfold SeqAt.shaped
  rw [a, Bool.true_and]
  exact decide_eq_true (by omega)
section
variable {K : PySem.W.Frag} {F H : Hp}
theorem SqL.ofRd {a : Addr} {xs : List V} (h : Rd F a (.lst xs)) : SqL K F a xs := .inl h
theorem Rp.dp (s : Same F H) : ∀ (n : Nat) {v : V} {d : D}, okEq n d = true → Rp K F v d → Dp K H v d := by
  have all : ∀ (f : D → Bool), (∀ {v : V} {d : D}, f d = true → Rp K F v d → Dp K H v d) → ∀ (ds : List D) (vs : List V), ds.all f = true → RpL K F vs ds → DpAll K H vs ds := by
    intro f hf ds
    induction ds with
    | nil =>
      intro vs _ r
      cases r
      exact .nil
    | cons d r ih =>
      intro vs h r
      cases r with
      | cons a b =>
        rw [List.all_cons, Bool.and_eq_true] at h
        exact .cons (hf h.1 a) (ih _ h.2 b)
  intro n
  induction n with
  | zero =>
    intro v d h r
    cases r with
    | non => exact .non
    | bl b => exact .bl b
    | int i => exact .int i
    | str x => exact .str x
    | lst _ _ => simp [okEq] at h
    | tup _ _ => simp [okEq] at h
    | dK _ _ => simp [okEq] at h
    | dT _ _ => simp [okEq] at h
  | succ n ih =>
    intro v d h r
    cases r with
    | non => exact .non
    | bl b => exact .bl b
    | int i => exact .int i
    | str x => exact .str x
    | lst a b =>
      rw [okEq] at h
      exact .lst (a.mono s).seq (all (okEq n) (fun h r => ih h r) _ _ h b)
    | tup a b =>
      rw [okEq] at h
      exact .tup (sqT_mono s a) (all (okEq n) (fun h r => ih h r) _ _ h b)
    | dK _ _ => simp [okEq] at h
    | dT _ _ => simp [okEq] at h
theorem replicate_flat {vs : List V} {ds : List D} (r : RpL K F vs ds) : ∀ n : Nat, RpL K F (List.replicate n vs).flatten (List.replicate n ds).flatten
  | 0 => .nil
  | n + 1 => by
    rw [List.replicate_succ, List.replicate_succ, List.flatten_cons, List.flatten_cons]
    exact r.append (replicate_flat r n)
theorem RpL.nil_iff {vs : List V} {ds : List D} (r : RpL K F vs ds) : vs = [] ↔ ds = [] := by
  cases r <;> simp
theorem Rp.none_iff {v : V} {d : D} (r : Rp K F v d) : decide (v = .non) = isNone d := by
  cases r <;> rfl
end
section
variable {X : Cx}
theorem small_of {i : Int} (h : small i = true) : -(2 ^ 64) < i ∧ i < 2 ^ 64 := of_decide_eq_true h
theorem opG_add : OpR X (binaryOp .Add) (rG2 X.K dAdd) := by
  intro pins s σ H x y v u Q I rx ry h
  obtain ⟨XX, G, d, e, sb, r1, r2, q⟩ := h
  unfold dAdd at q
  split at q
  · obtain rfl := r1.int'
    obtain rfl := r2.int'
    exact op_add pins s σ H _ _ v u Q I rx ry ⟨_, _, rfl, rfl, q.ok0 sb (.int _)⟩
  · obtain rfl := r1.str'
    obtain rfl := r2.str'
    split at q
    · rename_i hl
      exact op_add_str pins s σ H _ _ v u Q I rx ry ⟨_, _, rfl, rfl, lim_line hl, q.ok0 sb (.str _)⟩
    · exact q.elim
  · obtain ⟨a, xs, rfl, h1, q1⟩ := r1.tup'
    obtain ⟨b, ys, rfl, h2, q2⟩ := r2.tup'
    split at q
    · rename_i hl
      refine op_catA pins s σ H _ _ v u Q I rx ry ⟨_, _, _, _, rfl, rfl, sqT_mono sb h1, sqT_mono sb h2, lim_line (by rw [q1.length, q2.length]; exact hl), fun z => ?_, fun z z2 => ?_, fun z z2 p hp => q.newT sb (q1.append q2) p hp⟩
      · rw [q1.nil_iff.mp z] at q
        exact q.ok0 sb (.tup h2 q2)
      · rw [q2.nil_iff.mp z2, List.append_nil] at q
        exact q.ok0 sb (.tup h1 q1)
    · exact q.elim
  · obtain ⟨a, xs, rfl, h1, q1⟩ := r1.lst'
    obtain ⟨b, ys, rfl, h2, q2⟩ := r2.lst'
    split at q
    · rename_i hl
      exact op_catL pins s σ H _ _ v u Q I rx ry ⟨_, _, _, _, rfl, rfl, h1.mono sb, h2.mono sb, lim_line (by rw [q1.length, q2.length]; exact hl), fun p hp => q.newL sb (q1.append q2) p hp⟩
    · exact q.elim
  · exact q.elim
theorem opD_sub : OpR X (binaryOp .Sub) (rD2 X.K dSub) := by
  intro pins s σ H x y v u Q I rx ry h
  obtain ⟨XX, G, d, e, sb, r1, r2, q⟩ := h
  unfold dSub at q
  split at q
  · obtain rfl := r1.int'
    obtain rfl := r2.int'
    exact op_sub pins s σ H _ _ v u Q I rx ry ⟨_, _, rfl, rfl, q.ok0 sb (.int _)⟩
  · exact q.elim
theorem opG_mul : OpR X (binaryOp .Mult) (rG2 X.K dMul) := by
  intro pins s σ H x y v u Q I rx ry h
  obtain ⟨XX, G, d, e, sb, r1, r2, q⟩ := h
  unfold dMul at q
  split at q
  · obtain rfl := r1.int'
    obtain rfl := r2.int'
    split at q
    · rename_i hl
      rw [Bool.or_eq_true] at hl
      exact op_mul pins s σ H _ _ v u Q I rx ry ⟨_, _, rfl, rfl, hl.elim (fun z => .inl (small_of z)) (fun z => .inr (small_of z)), q.ok0 sb (.int _)⟩
    · exact q.elim
  · obtain ⟨a, xs, rfl, h1, q1⟩ := r1.tup'
    obtain rfl := r2.int'
    split at q
    · rename_i ds k hl
      obtain ⟨hl, hk1, hk2⟩ := hl
      cases rx
      obtain ⟨t, rfl⟩ := ry
      obtain ⟨its, r, ⟨⟨cls, dd, data, sl⟩, ho, hc, n, hd⟩, hs⟩ := I.tuple (sqT_mono sb h1)
      simp only at hc hd
      subst hc hd
      have hle : its.length = xs.length := r.length.symm
      have hie : its.toArray.isEmpty = ds.isEmpty := by
        have e1 : its = [] ↔ xs = [] := by cases r <;> simp
        have e2 := q1.nil_iff
        cases its with
        | nil =>
          have := e2.mp (e1.mp rfl)
          subst this
          rfl
        | cons a b =>
          cases ds with
          | nil => exact absurd (e1.mpr (e2.mpr rfl)) (by simp)
          | cons c d => rfl
      have c0 : (decide (k < -(2 ^ 63)) || decide (k ≥ 2 ^ 63)) = false := by
        rw [decide_eq_false (by omega), decide_eq_false (by omega)] <;> rfl
      have run : ∀ (Q' : Value → Shared → Prop), Meets (Builtin.«tuple.__mul__» ⟨[.ref a, .int k t], []⟩) (fun _ R s => s.heap.get? a = some { cls := .type "tuple", dict := dd, data := .seq its.toArray n, slots := sl } ∧ R (.ok (.ret (Value.ref a))) s) → Q' (.ref a) s →
          wpAny (model X.prog X.w) X.A (binaryOp .Mult (.ref a) (.int k t)) Q' X.xe s := fun Q' m hq =>
        wpAny_binaryOp_repeat_ref (T := "tuple") (U := "int") (by decide) ⟨_, ho, rfl⟩ (fun s' => typeIs_int s' k t) noFill_tuple_mul F.fills_int_mul F.slot_int_rmul repeat_tuple F.slot_int_index.lookup
          (call_meets F.slot_int_rmul (typeIs_int s k t) F.entry_int_rmul (F.args_int_rmul_2 _ _) (int_rmul_tuple k t a its.toArray n dd sl)
            ⟨ho, rfl, ⟨_, ho, rfl⟩, call_meets F.slot_tuple_mul ⟨_, ho, rfl⟩ F.entry_tuple_mul (F.args_tuple_mul_2 _ _) m ⟨ho, hq⟩⟩)
      by_cases h1' : (its.toArray.isEmpty || k == 1) = true
      · refine run _ (tuple_mul1 a its.toArray n dd sl k t c0 h1') ⟨.ref a, H, I, rfl, ?_⟩
        have e : (List.replicate k.toNat ds).flatten = ds := by
          rw [Bool.or_eq_true] at h1'
          rcases h1' with z | z
          · rw [hie] at z
            have : ds = [] := by cases ds <;> simp_all
            subst this
            simp
          · have : k = 1 := by simpa using z
            subst this
            simp
        rw [e] at q
        exact q.ok0 sb (.tup h1 q1)
      · have c1 : (its.toArray.isEmpty || k == 1) = false := by simpa using h1'
        have cne : its.toArray.isEmpty = false := (Bool.or_eq_false_iff.mp c1).1
        by_cases h2' : k ≤ 0
        · have e : (List.replicate k.toNat ds).flatten = [] := by
            have : k.toNat = 0 := by omega
            rw [this]
            rfl
          rw [e] at q
          refine wpAny_binaryOp_repeat_ref (T := "tuple") (U := "int") (by decide) ⟨_, ho, rfl⟩ (fun s' => typeIs_int s' k t) noFill_tuple_mul F.fills_int_mul F.slot_int_rmul repeat_tuple F.slot_int_index.lookup
            (call_meets F.slot_int_rmul (typeIs_int s k t) F.entry_int_rmul (F.args_int_rmul_2 _ _) (int_rmul_tuple k t a its.toArray n dd sl)
              ⟨ho, rfl, ⟨_, ho, rfl⟩, call_meets F.slot_tuple_mul ⟨_, ho, rfl⟩ F.entry_tuple_mul (F.args_tuple_mul_2 _ _) (tuple_mul0 a its.toArray n dd sl k t c0 c1 (by rw [decide_eq_true h2']; rfl)) ⟨ho, ?_⟩⟩)
          refine ⟨.ref s.heap.objs.size, _, I.laid (t' := s.toks) (o := .tup []) (fun b ob q => Heap.get?_push_of_some _ q) (Nat.le_refl _) ?_, rfl, q.newT sb .nil _ (I.hok.fresh (Nat.le_refl _))⟩
          exact ⟨Nat.zero_le _, [], .nil, IsTup.new _ _⟩
        · have flen : (List.replicate k.toNat its).flatten.length ≤ sizeLine := by
            rw [PyProof.Rows.lm_len_rep_flat, hle, q1.length, Nat.mul_comm]
            exact lim_line hl
          have hm : ((its.toArray.size : Nat) : Int) * k ≤ 1000000 := by
            have e1 : its.toArray.size = ds.length := by rw [List.size_toArray, hle, q1.length]
            rw [e1]
            have e2 : k = ((k.toNat : Nat) : Int) := by omega
            rw [e2, ← Int.natCast_mul]
            exact Int.ofNat_le.mpr hl
          have c4 : Builtin.Tuple.tupleTooMany (((its.toArray.size : Nat) : Int) * k) = false := by
            unfold Builtin.Tuple.tupleTooMany
            rw [sizeLine_eq]
            exact decide_eq_false (by omega)
          refine wpAny_binaryOp_repeat_ref (T := "tuple") (U := "int") (by decide) ⟨_, ho, rfl⟩ (fun s' => typeIs_int s' k t) noFill_tuple_mul F.fills_int_mul F.slot_int_rmul repeat_tuple F.slot_int_index.lookup
            (call_meets F.slot_int_rmul (typeIs_int s k t) F.entry_int_rmul (F.args_int_rmul_2 _ _) (int_rmul_tuple k t a its.toArray n dd sl)
              ⟨ho, rfl, ⟨_, ho, rfl⟩, call_meets F.slot_tuple_mul ⟨_, ho, rfl⟩ F.entry_tuple_mul (F.args_tuple_mul_2 _ _) (tuple_mulW a its.toArray n dd sl k t c0 c1 (by rw [cne, Bool.or_false]; exact decide_eq_false h2') (by omega) c4 (by rw [size_rep, List.size_toArray]; exact flen)) ⟨ho, ?_⟩⟩)
          rw [size_rep]
          refine ⟨.ref s.heap.objs.size, _, I.laid (t' := s.toks) (o := .tup (List.replicate k.toNat xs).flatten) (fun b ob q => Heap.get?_push_of_some _ q) (Nat.le_refl _) ?_, rfl, q.newT sb (replicate_flat q1 _) _ (I.hok.fresh (Nat.le_refl _))⟩
          exact ⟨by rw [PyProof.Rows.lm_len_rep_flat, ← hle, ← PyProof.Rows.lm_len_rep_flat]; exact flen, _, r.rep k.toNat, IsTup.new _ _⟩
    · exact q.elim
  · obtain ⟨a, xs, rfl, h1, q1⟩ := r1.lst'
    obtain rfl := r2.int'
    split at q
    · rename_i ds k hl
      obtain ⟨hl, hk1, hk2⟩ := hl
      exact op_repL pins s σ H _ _ v u Q I rx ry ⟨_, _, _, rfl, rfl, h1.mono sb, by omega, by omega, lim_line (by rw [q1.length]; exact hl), fun p hp => q.newL sb (replicate_flat q1 _) p hp⟩
    · exact q.elim
  · exact q.elim
theorem opD_add : OpR X (binaryOp .Add) (rD2 X.K dAdd) := OpR.ofG opG_add
theorem opD_mul : OpR X (binaryOp .Mult) (rD2 X.K dMul) := OpR.ofG opG_mul
theorem opD_div : OpR X (binaryOp .FloorDiv) (rD2 X.K dDiv) := by
  intro pins s σ H x y v u Q I rx ry h
  obtain ⟨XX, G, d, e, sb, r1, r2, q⟩ := h
  unfold dDiv at q
  split at q
  · obtain rfl := r1.int'
    obtain rfl := r2.int'
    split at q
    · rename_i hl
      exact op_fdiv pins s σ H _ _ v u Q I rx ry ⟨_, _, rfl, rfl, hl, q.ok0 sb (.int _)⟩
    · exact q.elim
  · exact q.elim
theorem opD_mod : OpR X (binaryOp .Mod) (rD2 X.K dMod) := by
  intro pins s σ H x y v u Q I rx ry h
  obtain ⟨XX, G, d, e, sb, r1, r2, q⟩ := h
  unfold dMod at q
  split at q
  · obtain rfl := r1.int'
    obtain rfl := r2.int'
    split at q
    · rename_i hl
      exact op_mod pins s σ H _ _ v u Q I rx ry ⟨_, _, rfl, rfl, hl, q.ok0 sb (.int _)⟩
    · exact q.elim
  · exact q.elim
theorem opD_cmp {op : CmpOp} {p : Int → Int → Bool} {f : D → D → Res D} (ho : OpR X (compareOp op) (rI0 fun i j => .bl (p i j))) (hf : ∀ d e, (∃ i j, d = .int i ∧ e = .int j ∧ f d e = .ok (.bool (p i j))) ∨ f d e = .stuck) : OpR X (compareOp op) (rD2 X.K f) := by
  intro pins s σ H x y v u Q I rx ry h
  obtain ⟨XX, G, d, e, sb, r1, r2, q⟩ := h
  rcases hf d e with ⟨i, j, rfl, rfl, z⟩ | z
  · rw [z] at q
    obtain rfl := r1.int'
    obtain rfl := r2.int'
    exact ho pins s σ H _ _ v u Q I rx ry ⟨_, _, rfl, rfl, q.ok0 sb (.bl _)⟩
  · rw [z] at q
    exact q.elim
theorem opD_lt : OpR X (compareOp .Lt) (rD2 X.K dLt) := opD_cmp op_lt fun d e => by
  unfold dLt
  split
  · exact .inl ⟨_, _, rfl, rfl, rfl⟩
  · exact .inr rfl
theorem opD_le : OpR X (compareOp .LtE) (rD2 X.K dLe) := opD_cmp op_le fun d e => by
  unfold dLe
  split
  · exact .inl ⟨_, _, rfl, rfl, rfl⟩
  · exact .inr rfl
theorem opD_gt : OpR X (compareOp .Gt) (rD2 X.K dGt) := opD_cmp op_gt fun d e => by
  unfold dGt
  split
  · exact .inl ⟨_, _, rfl, rfl, rfl⟩
  · exact .inr rfl
theorem opD_ge : OpR X (compareOp .GtE) (rD2 X.K dGe) := opD_cmp op_ge fun d e => by
  unfold dGe
  split
  · exact .inl ⟨_, _, rfl, rfl, rfl⟩
  · exact .inr rfl
theorem opD_eq (hu : X.A.units + 64 < cLine) : OpR X (compareOp .Eq) (rD2 X.K dEq) := by
  intro pins s σ H x y v u Q I rx ry h
  obtain ⟨XX, G, d, e, sb, r1, r2, q⟩ := h
  unfold dEq at q
  split at q
  · rename_i hl
    rw [Bool.and_eq_true] at hl
    exact op_eqD hu pins s σ H _ _ v u Q I rx ry ⟨d, e, Rp.dp sb 9 hl.1 r1, Rp.dp sb 9 hl.2 r2, okEq_shaped (by decide) hl.1, okEq_shaped (by decide) hl.2, q.ok0 sb (.bl _)⟩
  · exact q.elim
theorem opD_ne (hu : X.A.units + 64 < cLine) : OpR X (compareOp .NotEq) (rD2 X.K dNe) := by
  intro pins s σ H x y v u Q I rx ry h
  obtain ⟨XX, G, d, e, sb, r1, r2, q⟩ := h
  unfold dNe at q
  split at q
  · rename_i hl
    rw [Bool.and_eq_true] at hl
    exact op_neD hu pins s σ H _ _ v u Q I rx ry ⟨d, e, Rp.dp sb 9 hl.1 r1, Rp.dp sb 9 hl.2 r2, okEq_shaped (by decide) hl.1, okEq_shaped (by decide) hl.2, q.ok0 sb (.bl _)⟩
  · exact q.elim
theorem opD_is : OpR X (compareOp .Is) (rD2 X.K dIs) := by
  intro pins s σ H x y v u Q I rx ry h
  obtain ⟨XX, G, d, e, sb, r1, r2, q⟩ := h
  unfold dIs at q
  split at q
  · have : y = .non := by cases r2; rfl
    subst this
    exact op_isN pins s σ H _ _ v u Q I rx ry ⟨rfl, by rw [r1.none_iff]; exact q.ok0 sb (.bl _)⟩
  · obtain rfl := r1.bl'
    obtain rfl := r2.bl'
    exact op_is_bl pins s σ H _ _ v u Q I rx ry ⟨_, _, rfl, rfl, q.ok0 sb (.bl _)⟩
  · exact q.elim
theorem opD_isNot : OpR X (compareOp .IsNot) (rD2 X.K dIsNot) := by
  intro pins s σ H x y v u Q I rx ry h
  obtain ⟨XX, G, d, e, sb, r1, r2, q⟩ := h
  unfold dIsNot at q
  split at q
  · have : y = .non := by cases r2; rfl
    subst this
    exact op_notN pins s σ H _ _ v u Q I rx ry ⟨rfl, by rw [r1.none_iff]; exact q.ok0 sb (.bl _)⟩
  · obtain rfl := r1.bl'
    obtain rfl := r2.bl'
    exact op_isnot_bl pins s σ H _ _ v u Q I rx ry ⟨_, _, rfl, rfl, q.ok0 sb (.bl _)⟩
  · exact q.elim
end
end SH


set_option Elab.async false
set_option linter.all false
set_option maxRecDepth 100000
set_option maxHeartbeats 4000000
/-! The layer, part d: expressions by functions on data. -/
namespace SH
open PySem PySem.Spec PyProof.Rows L2

abbrev DE (X : Cx) (W : WX0) (e : Expr) (f : SF) : Prop := PE X e (tOf X.K W f)
def tOfG (K : PySem.W.Frag) (W : WX0) (f : SF) : TE := fun σ H Q => ∃ env F, ERx K W.T F H σ env ∧ PostG K (fun c => W c σ) F H (f env) Q
/-- as DE, a list being new -/
abbrev GE (X : Cx) (W : WX0) (e : Expr) (f : SF) : Prop := PE X e (tOfG X.K W f)
theorem GE.de {X : Cx} {W : WX0} {e : Expr} {f : SF} (h : GE X W e f) : DE X W e f := PE.imp h fun σ H Q ⟨env, F, er, q⟩ => ⟨env, F, er, .of q⟩
abbrev DT (X : Cx) (W : WX0) (e : Expr) (f : En → Res Bool) : Prop := PT X e (tOfB X.K W f)
abbrev DW (X : Cx) (W : WX0) (e : Expr) (f : En → Res Bool) : Prop := PW X e (tOfB X.K W f)
abbrev DA (X : Cx) (W : WX0) (es : List Expr) (f : En → Res (List D)) : Prop := PA X es (tOfL X.K W f)

/-! ### the functions -/
def vVar (i : Nat) : SF := fun env => match env[i]? with
  | some (some d) => .ok d
  | _ => .stuck
def vC (d : D) : SF := fun _ => .ok d
def vBin (g : D → D → Res D) (a b : SF) : SF := fun env => (a env).bind fun x => (b env).bind fun y => g x y
def vUn (g : D → Res D) (a : SF) : SF := fun env => (a env).bind g
def toB : D → Res Bool
  | .bool b => .ok b
  | _ => .stuck
def truthR (d : D) : Res Bool := match truth d with
  | some b => .ok b
  | none => .stuck
/-- a value as a test -/
def vTest (a : SF) : En → Res Bool := fun env => (a env).bind truthR
/-- a and b, a or b -/
def vAnd (a b : SF) : SF := fun env => (a env).bind fun x => (truthR x).bind fun k => if k then b env else .ok x
def vOr (a b : SF) : SF := fun env => (a env).bind fun x => (truthR x).bind fun k => if k then .ok x else b env
def vNot (a : SF) : SF := fun env => (a env).bind fun x => (truthR x).bind fun k => .ok (.bool (!k))
def vIf (c : En → Res Bool) (a b : SF) : SF := fun env => (c env).bind fun k => if k then a env else b env
/-- a op b op c -/
def vChain (g g' : D → D → Res D) (a b c : SF) : SF := fun env => (a env).bind fun x => (b env).bind fun y => (g x y).bind fun z => (toB z).bind fun k =>
  if k then (c env).bind fun w => g' y w else .ok (.bool false)
def vL : List SF → En → Res (List D)
  | [], _ => .ok []
  | f :: r, env => (f env).bind fun x => (vL r env).bind fun xs => .ok (x :: xs)
def vTup (fs : List SF) : SF := fun env => (vL fs env).bind fun ds => .ok (.tuple ds)
def vLst (fs : List SF) : SF := fun env => (vL fs env).bind fun ds => .ok (.list ds)

theorem vL_length : ∀ {fs : List SF} {env : En} {ds : List D}, vL fs env = .ok ds → ds.length = fs.length
  | [], _, _, h => by
    cases h
    rfl
  | f :: r, env, ds, h => by
    unfold vL at h
    cases e : f env with
    | ok x =>
      rw [e] at h
      cases e2 : vL r env with
      | ok xs =>
        rw [e2] at h
        cases h
        rw [List.length_cons, List.length_cons, vL_length e2]
      | exc c => rw [e2] at h; cases h
      | stuck => rw [e2] at h; cases h
    | exc c => rw [e] at h; cases h
    | stuck => rw [e] at h; cases h

section
variable {X : Cx} {W : WX0} {a b c : Expr} {fa fb fc : SF} {pos : Pos}
theorem de_ok {f : SF} {t : TE} {e : Expr} (h : PE X e t) (i : ∀ env F σ H Q, ERx X.K W.T F H σ env → Post X.K (fun c => W c σ) F H (f env) Q → t σ H Q) : DE X W e f :=
  PE.imp h fun σ H Q ⟨env, F, er, q⟩ => i env F σ H Q er q
theorem de_var {i : Nat} {x : Str} (hN : X.N[i]? = some x) (hv : Vis X.env.scope x) (hd : (x == ("__debug__" : Str)) = false) (hcd : (x == ("__classdict__" : Str)) = false) : DE X W (.Name x pos) (vVar i) :=
  de_ok (pe_var hN hv hd hcd) fun env F σ H Q er q => by
    unfold vVar at q
    split at q
    · rename_i d e
      obtain ⟨v, h1, h2⟩ := er.at_ i d e
      exact ⟨v, h1, q.ok0 er.sub h2⟩
    · exact q.elim
theorem de_int {i : Int} {j : Nat} : DE X W (.Constant (.int i) j pos) (vC (.int i)) := de_ok pe_int fun env F σ H Q er q => q.ok0 er.sub (.int i)
theorem de_bool {i : Bool} {j : Nat} : DE X W (.Constant (.bool i) j pos) (vC (.bool i)) := de_ok pe_bl fun env F σ H Q er q => q.ok0 er.sub (.bl i)
theorem de_str {i : Str} {j : Nat} : DE X W (.Constant (.str i) j pos) (vC (.str i)) := de_ok pe_str fun env F σ H Q er q => q.ok0 er.sub (.str i)
theorem de_none {j : Nat} : DE X W (.Constant .none j pos) (vC .none) := de_ok pe_non fun env F σ H Q er q => q.ok0 er.sub .non
/-- a module's constant -/
theorem de_glob {x : Str} {v : V} {u : Value} {d : D} (hg : Gl X x) (hm : X.mg x = some u) (r : RelV v u) (rp : ∀ F, Rp X.K F v d) (hd : (x == ("__debug__" : Str)) = false) : DE X W (.Name x pos) (vC d) :=
  de_ok (pe_glob hg hm r hd) fun env F σ H Q er q => q.ok0 er.sub (rp F)
theorem two {K : PySem.W.Frag} {σ : L2.St} {F H : Hp} {env : En} {Q : VK} {g : D → D → Res D} {R : V → V → Hp → Prop} (er : ERx K W.T F H σ env) (h : Post K (fun c => W c σ) F H (vBin g fa fb env) Q)
    (k : ∀ x y d e F1 H1, Same F1 H1 → Rp K F1 x d → Rp K F1 y e → Post K (fun c => W c σ) F1 H1 (g d e) Q → R x y H1) : tOf K W fa σ H fun x H1 => tOf K W fb σ H1 fun y H2 => R x y H2 :=
  ⟨env, F, er, Post.bind h fun d v F1 H1 _ e1 g1 r1 q1 => ⟨env, F1, er.grow g1, Post.bind q1 fun d2 v2 F2 H2 _ e2 g2 r2 q2 => k v v2 d d2 F2 H2 g2.sub (r1.mono g2.fix) r2 q2⟩⟩
theorem ge_ok {f : SF} {t : TE} {e : Expr} (h : PE X e t) (i : ∀ env F σ H Q, ERx X.K W.T F H σ env → PostG X.K (fun c => W c σ) F H (f env) Q → t σ H Q) : GE X W e f :=
  PE.imp h fun σ H Q ⟨env, F, er, q⟩ => i env F σ H Q er q
theorem PostG.cut {K : PySem.W.Frag} {XX : XW} {F H F1 H1 : Hp} {r : Res D} {Q : VK} (h : PostG K XX F H r Q) (e : Same H H1) (g : Grow F H F1 H1) : PostG K XX F1 H1 r Q := by
  cases r with
  | ok d =>
    cases d with
    | list ds => exact fun a vs F' H' e' g' h1 h2 h3 r => h a vs F' H' (e.trans e') (g.trans e g') (e.free h1) h2 h3 r
    | _ => exact fun v F' H' e' g' r => h v F' H' (e.trans e') (g.trans e g') r
  | exc c => exact fun H' e' => h H' (e.trans e')
  | stuck => exact h
theorem PostG.bind {K : PySem.W.Frag} {XX : XW} {F H : Hp} {r : Res D} {f : D → Res D} {Q : VK} (h : PostG K XX F H (r.bind f) Q) {Q' : VK} (k : ∀ d v F1 H1, r = .ok d → Same H H1 → Grow F H F1 H1 → Rp K F1 v d → PostG K XX F1 H1 (f d) Q → Q' v H1) : Post K XX F H r Q' := by
  cases r with
  | ok d => exact fun v F1 H1 e g q => k d v F1 H1 rfl e g q (PostG.cut (r := f d) h e g)
  | exc c => exact h
  | stuck => exact h
theorem twoG {K : PySem.W.Frag} {σ : L2.St} {F H : Hp} {env : En} {Q : VK} {g : D → D → Res D} {R : V → V → Hp → Prop} (er : ERx K W.T F H σ env) (h : PostG K (fun c => W c σ) F H (vBin g fa fb env) Q)
    (k : ∀ x y d e F1 H1, Same F1 H1 → Rp K F1 x d → Rp K F1 y e → PostG K (fun c => W c σ) F1 H1 (g d e) Q → R x y H1) : tOf K W fa σ H fun x H1 => tOf K W fb σ H1 fun y H2 => R x y H2 :=
  ⟨env, F, er, PostG.bind h fun d v F1 H1 _ e1 g1 r1 q1 => ⟨env, F1, er.grow g1, PostG.bind q1 fun d2 v2 F2 H2 _ e2 g2 r2 q2 => k v v2 d d2 F2 H2 g2.sub (r1.mono g2.fix) r2 q2⟩⟩
theorem ge_bin {op : Operator} {g : D → D → Res D} (ho : OpR X (binaryOp op) (rG2 X.K g)) (ha : DE X W a fa) (hb : DE X W b fb) : GE X W (.BinOp a op b pos) (vBin g fa fb) :=
  ge_ok (pe_op ho ha hb) fun env F σ H Q er q => twoG er q fun x y d e F1 H1 s r1 r2 q1 => ⟨_, F1, d, e, s, r1, r2, q1⟩
theorem de_bin {op : Operator} {g : D → D → Res D} (ho : OpR X (binaryOp op) (rD2 X.K g)) (ha : DE X W a fa) (hb : DE X W b fb) : DE X W (.BinOp a op b pos) (vBin g fa fb) :=
  de_ok (pe_op ho ha hb) fun env F σ H Q er q => two er q fun x y d e F1 H1 s r1 r2 q1 => ⟨_, F1, d, e, s, r1, r2, q1⟩
theorem de_cmp {op : CmpOp} {g : D → D → Res D} (ho : OpR X (compareOp op) (rD2 X.K g)) (ha : DE X W a fa) (hb : DE X W b fb) (hm : behindInMarks op b = false) : DE X W (.Compare a [op] [b] pos) (vBin g fa fb) :=
  de_ok (pe_cmpR ho ha hb hm) fun env F σ H Q er q => two er q fun x y d e F1 H1 s r1 r2 q1 => ⟨_, F1, d, e, s, r1, r2, q1⟩
theorem de_neg (ha : DE X W a fa) : DE X W (.UnaryOp .USub a pos) (vUn dNeg fa) :=
  de_ok (pe_un un_neg ha) fun env F σ H Q er q => ⟨env, F, er, Post.bind q fun d v F1 H1 _ e1 g1 r1 q1 => by
    unfold dNeg at q1
    split at q1
    · exact ⟨_, r1.int', q1.ok0 g1.sub (.int _)⟩
    · exact q1.elim⟩
/-! truth -/
theorem truV_of {K : PySem.W.Frag} {F H : Hp} {v : V} {d : D} {k : Bool} (s : Same F H) (r : Rp K F v d) (h : truthR d = .ok k) : TruV K v H k := by
  unfold truthR truth at h
  cases r with
  | non => cases h; exact rfl
  | bl b => cases h; exact rfl
  | int i => cases h; exact rfl
  | str x =>
    by_cases hx : x.length ≤ 1000
    · simp only [if_pos hx] at h
      cases h
      exact ⟨lim_line (Nat.le_trans hx (by decide)), rfl⟩
    · simp only [if_neg hx] at h
      cases h
  | lst a b =>
    cases h
    refine .inl ⟨_, s.seq a.seq, ?_⟩
    cases b <;> rfl
  | tup a b =>
    cases h
    refine .inr (.inl ⟨_, sqT_mono s a, ?_⟩)
    cases b <;> rfl
  | dK a b => cases h
  | dT a b => cases h
theorem truthR_cases (d : D) : (∃ k, truthR d = .ok k) ∨ truthR d = .stuck := by
  unfold truthR
  split
  · exact .inl ⟨_, rfl⟩
  · exact .inr rfl
theorem de_and {rest : List Expr} (ha : DE X W a fa) (hb : DE X W (.BoolOp .And (b :: rest) pos) fb) : DE X W (.BoolOp .And (a :: b :: rest) pos) (vAnd fa fb) :=
  de_ok (pe_andT ha hb) fun env F σ H Q er q => ⟨env, F, er, Post.bind q fun d v F1 H1 _ e1 g1 r1 q1 => by
    rcases truthR_cases d with ⟨k, hk⟩ | hk
    · rw [hk] at q1
      refine ⟨k, truV_of g1.sub r1 hk, ?_⟩
      cases k with
      | true => exact ⟨env, F1, er.grow g1, q1⟩
      | false => exact q1.ok0 g1.sub r1
    · rw [hk] at q1
      exact q1.elim⟩
theorem de_or {rest : List Expr} (ha : DE X W a fa) (hb : DE X W (.BoolOp .Or (b :: rest) pos) fb) : DE X W (.BoolOp .Or (a :: b :: rest) pos) (vOr fa fb) :=
  de_ok (pe_orT ha hb) fun env F σ H Q er q => ⟨env, F, er, Post.bind q fun d v F1 H1 _ e1 g1 r1 q1 => by
    rcases truthR_cases d with ⟨k, hk⟩ | hk
    · rw [hk] at q1
      refine ⟨k, truV_of g1.sub r1 hk, ?_⟩
      cases k with
      | true => exact q1.ok0 g1.sub r1
      | false => exact ⟨env, F1, er.grow g1, q1⟩
    · rw [hk] at q1
      exact q1.elim⟩
theorem de_one {op : BoolOp} (ha : DE X W a fa) : DE X W (.BoolOp op [a] pos) fa := pe_one ha
theorem de_not (ha : DE X W a fa) : DE X W (.UnaryOp .Not a pos) (vNot fa) :=
  de_ok (pe_notT ha) fun env F σ H Q er q => ⟨env, F, er, Post.bind q fun d v F1 H1 _ e1 g1 r1 q1 => by
    rcases truthR_cases d with ⟨k, hk⟩ | hk
    · rw [hk] at q1
      exact ⟨k, truV_of g1.sub r1 hk, q1.ok0 g1.sub (.bl _)⟩
    · rw [hk] at q1
      exact q1.elim⟩
/-! tests -/
theorem dt_ok {f : En → Res Bool} {t : TT} {e : Expr} (h : PT X e t) (i : ∀ env F σ H Q, ERx X.K W.T F H σ env → PostB (fun c => W c σ) F H (f env) Q → t σ H Q) : DT X W e f :=
  PT.imp h fun σ H Q ⟨env, F, er, q⟩ => i env F σ H Q er q
/-- a test's wish as a value's -/
theorem postB_bind {K : PySem.W.Frag} {XX : XW} {F H : Hp} {r : Res D} {f : D → Res Bool} {Q : Bool → Hp → Prop} (h : PostB XX F H (r.bind f) Q) {Q' : VK}
    (k : ∀ d v F1 H1, r = .ok d → Same H H1 → Grow F H F1 H1 → Rp K F1 v d → PostB XX F1 H1 (f d) Q → Q' v H1) : Post K XX F H r Q' := by
  cases r with
  | ok d => exact fun v F1 H1 e g q => k d v F1 H1 rfl e g q (PostB.cut (r := f d) h e g)
  | exc c => exact h
  | stuck => exact h
theorem postB_bindB {XX : XW} {F H : Hp} {r : Res Bool} {f : Bool → Res Bool} {Q : Bool → Hp → Prop} (h : PostB XX F H (r.bind f) Q) {Q' : Bool → Hp → Prop}
    (k : ∀ d F1 H1, r = .ok d → Same H H1 → Grow F H F1 H1 → PostB XX F1 H1 (f d) Q → Q' d H1) : PostB XX F H r Q' := by
  cases r with
  | ok d => exact fun F1 H1 e g => k d F1 H1 rfl e g (PostB.cut (r := f d) h e g)
  | exc c => exact h
  | stuck => exact h
theorem post_bindB {K : PySem.W.Frag} {XX : XW} {F H : Hp} {r : Res Bool} {f : Bool → Res D} {Q : VK} (h : Post K XX F H (r.bind f) Q) {Q' : Bool → Hp → Prop}
    (k : ∀ d F1 H1, r = .ok d → Same H H1 → Grow F H F1 H1 → Post K XX F1 H1 (f d) Q → Q' d H1) : PostB XX F H r Q' := by
  cases r with
  | ok d => exact fun F1 H1 e g => k d F1 H1 rfl e g (Post.cut (r := f d) h e g)
  | exc c => exact h
  | stuck => exact h
theorem PostB.ok0 {XX : XW} {F H : Hp} {d : Bool} {Q : Bool → Hp → Prop} (h : PostB XX F H (.ok d) Q) (s : Same F H) : Q d H := h F H (Same.refl _) (Grow.refl s)
/-- any expression whose test is its value's truth -/
theorem dt_truth (ha : DE X W a fa) (he : ∀ whole, isTrue a X.env whole = (do let v ← whole; standAt a.pos; holding [v] (truthy v))) : DT X W a (vTest fa) :=
  dt_ok (pt_truth ha he) fun env F σ H Q er q => ⟨env, F, er, postB_bind q fun d v F1 H1 _ e1 g1 r1 q1 => by
    rcases truthR_cases d with ⟨k, hk⟩ | hk
    · rw [hk] at q1
      exact ⟨k, truV_of g1.sub r1 hk, q1.ok0 g1.sub⟩
    · rw [hk] at q1
      exact q1.elim⟩
/-- a comparison as a test -/
theorem dt_cmp {op : CmpOp} {g : D → D → Res D} (ho : OpR X (compareOp op) (rD2 X.K g)) (hg : ∀ x y, (∃ k, g x y = .ok (.bool k)) ∨ g x y = .stuck) (ha : DE X W a fa) (hb : DE X W b fb) (hm : behindInMarks op b = false) : DT X W (.Compare a [op] [b] pos) (vTest (vBin g fa fb)) :=
  dt_ok (pt_cmpR ho ha hb hm) fun env F σ H Q er q => by
    have q' : PostB (fun c => W c σ) F H ((fa env).bind fun x => (fb env).bind fun y => (g x y).bind truthR) Q := by
      have e : vTest (vBin g fa fb) env = (fa env).bind fun x => (fb env).bind fun y => (g x y).bind truthR := by
        unfold vTest vBin
        cases fa env with
        | ok x =>
          simp only [Res.bind_ok]
          cases fb env <;> rfl
        | exc c => rfl
        | stuck => rfl
      rw [← e]
      exact q
    refine ⟨env, F, er, postB_bind q' fun d v F1 H1 _ e1 g1 r1 q1 => ⟨env, F1, er.grow g1, postB_bind q1 fun d2 v2 F2 H2 _ e2 g2 r2 q2 => ?_⟩⟩
    rcases hg d d2 with ⟨k, hk⟩ | hk
    · refine ⟨fun _ _ => False, F2, d, d2, g2.sub, r1.mono g2.fix, r2, ?_⟩
      rw [hk] at q2 ⊢
      intro v3 F3 H3 e3 g3 r3
      exact ⟨k, r3.bl', q2 F3 H3 e3 g3⟩
    · rw [hk] at q2
      exact q2.elim
theorem dw_one {op : BoolOp} (ha : DT X W a (vTest fa)) : DW X W (.BoolOp op [a] pos) (vTest fa) := by
  cases op with
  | And => exact pw_and1 ha
  | Or => exact pw_or1 ha
theorem vTest_and (env : En) : vTest (vAnd fa fb) env = (vTest fa env).bind fun k => if k = true then vTest fb env else .ok false := by
  unfold vTest vAnd
  cases fa env with
  | ok x =>
    simp only [Res.bind_ok]
    rcases truthR_cases x with ⟨k, hk⟩ | hk
    · rw [hk]
      simp only [Res.bind_ok]
      cases k with
      | true => rfl
      | false => simp [hk]
    · rw [hk]
      rfl
  | exc c => rfl
  | stuck => rfl
theorem vTest_or (env : En) : vTest (vOr fa fb) env = (vTest fa env).bind fun k => if k = true then .ok true else vTest fb env := by
  unfold vTest vOr
  cases fa env with
  | ok x =>
    simp only [Res.bind_ok]
    rcases truthR_cases x with ⟨k, hk⟩ | hk
    · rw [hk]
      simp only [Res.bind_ok]
      cases k with
      | false => rfl
      | true => simp [hk]
    · rw [hk]
      rfl
  | exc c => rfl
  | stuck => rfl
theorem vTest_not (env : En) : vTest (vNot fa) env = (vTest fa env).bind fun k => .ok (!k) := by
  unfold vTest vNot
  cases fa env with
  | ok x =>
    simp only [Res.bind_ok]
    rcases truthR_cases x with ⟨k, hk⟩ | hk
    · rw [hk]
      rfl
    · rw [hk]
      rfl
  | exc c => rfl
  | stuck => rfl
theorem dw_and {rest : List Expr} (ha : DT X W a (vTest fa)) (hb : DW X W (.BoolOp .And (b :: rest) pos) (vTest fb)) : DW X W (.BoolOp .And (a :: b :: rest) pos) (vTest (vAnd fa fb)) := by
  refine ⟨fun whole pins s σ H Q I h => (pw_and ha hb).run whole pins s σ H Q I ?_⟩
  obtain ⟨env, F, er, q⟩ := h
  rw [vTest_and] at q
  refine ⟨env, F, er, postB_bindB q fun d F1 H1 _ e1 g1 q1 => ?_⟩
  cases d with
  | true => exact ⟨env, F1, er.grow g1, q1⟩
  | false => exact q1.ok0 g1.sub
theorem dw_or {rest : List Expr} (ha : DT X W a (vTest fa)) (hb : DW X W (.BoolOp .Or (b :: rest) pos) (vTest fb)) : DW X W (.BoolOp .Or (a :: b :: rest) pos) (vTest (vOr fa fb)) := by
  refine ⟨fun whole pins s σ H Q I h => (pw_or ha hb).run whole pins s σ H Q I ?_⟩
  obtain ⟨env, F, er, q⟩ := h
  rw [vTest_or] at q
  refine ⟨env, F, er, postB_bindB q fun d F1 H1 _ e1 g1 q1 => ?_⟩
  cases d with
  | false => exact ⟨env, F1, er.grow g1, q1⟩
  | true => exact q1.ok0 g1.sub
theorem dw_dt {f : En → Res Bool} (h : DW X W a f) : DT X W a f := h.pt
theorem dt_not (ha : DT X W a (vTest fa)) : DT X W (.UnaryOp .Not a pos) (vTest (vNot fa)) :=
  dt_ok (pt_not ha) fun env F σ H Q er q => by
    rw [vTest_not] at q
    exact ⟨env, F, er, postB_bindB q fun d F1 H1 _ e1 g1 q1 => q1.ok0 g1.sub⟩
/-! a if c else b -/
theorem de_if {f : En → Res Bool} (hc : DT X W c f) (ha : DE X W a fa) (hb : DE X W b fb) : DE X W (.IfExp c a b pos) (vIf f fa fb) :=
  de_ok (pe_ifExp hc ha hb) fun env F σ H Q er q => ⟨env, F, er, post_bindB q fun d F1 H1 _ e1 g1 q1 => by
    cases d with
    | true => exact ⟨env, F1, er.grow g1, q1⟩
    | false => exact ⟨env, F1, er.grow g1, q1⟩⟩
/-! a op b op c -/
theorem vChain_post {K : PySem.W.Frag} {σ : L2.St} {F H : Hp} {env : En} {Q : VK} {g g' : D → D → Res D} (er : ERx K W.T F H σ env) (hg : ∀ x y, (∃ k, g x y = .ok (.bool k)) ∨ g x y = .stuck)
    (h : Post K (fun c => W c σ) F H (vChain g g' fa fb fc env) Q) : tChain (rD2 K g) (rD2 K g') (tOf K W fa) (tOf K W fb) (tOf K W fc) σ H Q := by
  refine ⟨env, F, er, Post.bind h fun d v F1 H1 _ e1 g1 r1 q1 => ⟨env, F1, er.grow g1, Post.bind q1 fun d2 v2 F2 H2 _ e2 g2 r2 q2 => ?_⟩⟩
  rcases hg d d2 with ⟨k, hk⟩ | hk
  · refine ⟨fun _ _ => False, F2, d, d2, g2.sub, r1.mono g2.fix, r2, ?_⟩
    rw [hk] at q2 ⊢
    intro v3 F3 H3 e3 g3 r3
    refine ⟨k, r3.bl', ?_⟩
    cases k with
    | false =>
      have q2' : Post K (fun c => W c σ) F2 H2 (.ok (.bool false)) Q := q2
      exact Post.ok0 (Post.cut q2' e3 g3) g3.sub (.bl _)
    | true =>
      have q2' : Post K (fun c => W c σ) F2 H2 ((fc env).bind fun w => g' d2 w) Q := q2
      exact ⟨env, F3, ((er.grow g1).grow g2).grow g3, Post.bind (Post.cut q2' e3 g3) fun d4 v4 F4 H4 _ e4 g4 r4 q4 => ⟨_, F4, d2, d4, g4.sub, (r2.mono g3.fix).mono g4.fix, r4, q4⟩⟩
  · rw [hk] at q2
    exact q2.elim
theorem de_chain {op op' : CmpOp} {g g' : D → D → Res D} (ho : OpR X (compareOp op) (rD2 X.K g)) (ho' : OpR X (compareOp op') (rD2 X.K g')) (hg : ∀ x y, (∃ k, g x y = .ok (.bool k)) ∨ g x y = .stuck)
    (ha : DE X W a fa) (hb : DE X W b fb) (hc : DE X W c fc) (hm : lastMarks [op, op'] [b, c] = false) : DE X W (.Compare a [op, op'] [b, c] pos) (vChain g g' fa fb fc) :=
  de_ok (pe_chain ho ho' ha hb hc hm) fun env F σ H Q er q => vChain_post er hg q
theorem dt_chain {op op' : CmpOp} {g g' : D → D → Res D} (ho : OpR X (compareOp op) (rD2 X.K g)) (ho' : OpR X (compareOp op') (rD2 X.K g')) (hg : ∀ x y, (∃ k, g x y = .ok (.bool k)) ∨ g x y = .stuck) (hg' : ∀ x y, (∃ k, g' x y = .ok (.bool k)) ∨ g' x y = .stuck)
    (ha : DE X W a fa) (hb : DE X W b fb) (hc : DE X W c fc) (hm : lastMarks [op, op'] [b, c] = false) : DT X W (.Compare a [op, op'] [b, c] pos) (vTest (vChain g g' fa fb fc)) :=
  dt_ok (pt_chain ho ho' ha hb hc hm) fun env F σ H Q er q => by
    have hb : (∃ k, vChain g g' fa fb fc env = .ok (.bool k)) ∨ (∃ c, vChain g g' fa fb fc env = .exc c) ∨ vChain g g' fa fb fc env = .stuck := by
      unfold vChain
      cases fa env with
      | ok x =>
        cases fb env with
        | ok y =>
          rcases hg x y with ⟨k, hk⟩ | hk
          · simp only [Res.bind_ok, hk, toB]
            cases k with
            | false => exact .inl ⟨false, rfl⟩
            | true =>
              cases fc env with
              | ok z =>
                rcases hg' y z with ⟨k', hk'⟩ | hk'
                · exact .inl ⟨k', hk'⟩
                · exact .inr (.inr hk')
              | exc c => exact .inr (.inl ⟨c, rfl⟩)
              | stuck => exact .inr (.inr rfl)
          · simp only [Res.bind_ok, hk]
            exact .inr (.inr rfl)
        | exc c => exact .inr (.inl ⟨c, rfl⟩)
        | stuck => exact .inr (.inr rfl)
      | exc c => exact .inr (.inl ⟨c, rfl⟩)
      | stuck => exact .inr (.inr rfl)
    refine vChain_post (W := W) er hg ?_
    unfold vTest at q
    rcases hb with ⟨k, hk⟩ | ⟨c, hk⟩ | hk
    · rw [hk] at q ⊢
      exact fun v F' H' e g r => ⟨k, r.bl', q F' H' e g⟩
    · rw [hk] at q ⊢
      exact q
    · rw [hk] at q
      exact q.elim
/-! argument lists, displays -/
theorem da_nil : DA X W [] (vL []) := PA.imp pa_nil fun σ H Q ⟨env, F, er, q⟩ => q [] F H (Same.refl _) (Grow.refl er.sub) .nil
theorem da_cons {fs : List SF} {es : List Expr} (ha : DE X W a fa) (hr : DA X W es (vL fs)) (hs : starEach (a :: es) X.env = (false, eval a X.env) :: starEach es X.env) : DA X W (a :: es) (vL (fa :: fs)) :=
  PA.imp (pa_cons ha hr hs) fun σ H Q ⟨env, F, er, q⟩ => by
    refine ⟨env, F, er, ?_⟩
    unfold vL at q
    cases e : fa env with
    | ok x =>
      rw [e] at q
      intro v F1 H1 e1 g1 r1
      refine ⟨env, F1, er.grow g1, ?_⟩
      have q := PostL.cut q e1 g1
      rw [Res.bind_ok] at q
      cases e2 : vL fs env with
      | ok xs =>
        rw [e2] at q
        intro vs F2 H2 e3 g2 r2
        exact q (v :: vs) F2 H2 e3 g2 (.cons (r1.mono g2.fix) r2)
      | exc c =>
        rw [e2] at q
        exact q
      | stuck =>
        rw [e2] at q
        exact q
    | exc c =>
      rw [e] at q
      exact q
    | stuck =>
      rw [e] at q
      exact q
/-- behind an argument list -/
theorem postL_bind {K : PySem.W.Frag} {XX : XW} {F H : Hp} {r : Res (List D)} {f : List D → Res D} {Q : VK} (h : Post K XX F H (r.bind f) Q) {Q' : List V → Hp → Prop}
    (k : ∀ ds vs F1 H1, r = .ok ds → Same H H1 → Grow F H F1 H1 → RpL K F1 vs ds → Post K XX F1 H1 (f ds) Q → Q' vs H1) : PostL K XX F H r Q' := by
  cases r with
  | ok d => exact fun v F1 H1 e g q => k d v F1 H1 rfl e g q (Post.cut (r := f d) h e g)
  | exc c => exact h
  | stuck => exact h
theorem de_tup {fs : List SF} {es : List Expr} {x1 : Nat} (h : DA X W es (vL fs)) (hl : fs.length ≤ LIM) : DE X W (.Tuple es x1 pos) (vTup fs) :=
  de_ok (pe_tup h) fun env F σ H Q er q => ⟨env, F, er, postL_bind q fun ds vs F1 H1 e0 e1 g1 r1 q1 => ⟨lim_line (by rw [r1.length, vL_length e0]; exact hl), fun p hp => q1.newT g1.sub r1 p hp⟩⟩
theorem postGL_bind {K : PySem.W.Frag} {XX : XW} {F H : Hp} {r : Res (List D)} {f : List D → Res D} {Q : VK} (h : PostG K XX F H (r.bind f) Q) {Q' : List V → Hp → Prop}
    (k : ∀ ds vs F1 H1, r = .ok ds → Same H H1 → Grow F H F1 H1 → RpL K F1 vs ds → PostG K XX F1 H1 (f ds) Q → Q' vs H1) : PostL K XX F H r Q' := by
  cases r with
  | ok d => exact fun v F1 H1 e g q => k d v F1 H1 rfl e g q (PostG.cut (r := f d) h e g)
  | exc c => exact h
  | stuck => exact h
theorem ge_lst {fs : List SF} {es : List Expr} (h : DA X W es (vL fs)) (hl : fs.length ≤ LIM) : GE X W (.List es pos) (vLst fs) :=
  ge_ok (pe_lst h) fun env F σ H Q er q => ⟨env, F, er, postGL_bind q fun ds vs F1 H1 e0 e1 g1 r1 q1 => ⟨lim_line (by rw [r1.length, vL_length e0]; exact hl), fun p hp => q1.newL g1.sub r1 p hp⟩⟩
theorem de_lst {fs : List SF} {es : List Expr} (h : DA X W es (vL fs)) (hl : fs.length ≤ LIM) : DE X W (.List es pos) (vLst fs) := (ge_lst h hl).de
end
end SH


set_option Elab.async false
set_option linter.all false
set_option maxRecDepth 100000
set_option maxHeartbeats 4000000
/-! The layer, part e: subscripts, slices, built-ins, calls. -/
namespace SH
open PySem PySem.Spec PyProof.Rows L2

/-! ### items and slices -/
def dIdx : D → D → Res D
  | .list xs, .int i => match atI xs i with
    | some d => .ok d
    | none => .stuck
  | .tuple xs, .int i => match atI xs i with
    | some d => .ok d
    | none => .stuck
  | _, _ => .stuck
def cut {α : Type} (xs : List α) (lo hi : Option Int) : List α := (xs.drop (HT.sIx xs.length 0 lo)).take (HT.sIx xs.length xs.length hi - HT.sIx xs.length 0 lo)
def dCut : D → Option Int → Option Int → Res D
  | .list xs, lo, hi => .ok (.list (cut xs lo hi))
  | .tuple xs, lo, hi => .ok (.tuple (cut xs lo hi))
  | _, _, _ => .stuck
def toI : D → Res Int
  | .int i => .ok i
  | _ => .stuck
/-- a part of a slice -/
def vPart : Option SF → En → Res (Option Int)
  | none, _ => .ok none
  | some f, env => (f env).bind fun d => (toI d).bind fun i => .ok (some i)
def vCut (a : SF) (lo hi : Option SF) : SF := fun env => (a env).bind fun x => (vPart lo env).bind fun l => (vPart hi env).bind fun h => dCut x l h
section
variable {K : PySem.W.Frag} {F : Hp}
theorem RpL.at_ {vs : List V} {ds : List D} (r : RpL K F vs ds) {i : Int} {d : D} (h : atI ds i = some d) : ∃ v, atI vs i = some v ∧ Rp K F v d := by
  unfold atI at h ⊢
  rw [r.length]
  cases e : ixN ds.length i with
  | none => rw [e] at h; cases h
  | some j =>
    rw [e] at h
    exact r.get' h
theorem RpL.cut {vs : List V} {ds : List D} (r : RpL K F vs ds) (lo hi : Option Int) : RpL K F (cutV vs lo hi) (SH.cut ds lo hi) := by
  unfold cutV SH.cut
  rw [r.length]
  exact (r.drop _).take _
end
section
variable {X : Cx} {W : WX0} {a b c : Expr} {fa fb fc : SF} {pos : Pos}
theorem de_idx (ha : DE X W a fa) (hb : DE X W b fb) (hs : PlainIx b) : DE X W (.Subscript a b pos) (vBin dIdx fa fb) := by
  have hr : IxR X (fun x y H Q => rIxL X.K x y H Q ∨ rIxT X.K x y H Q) := ix_list.or ix_tup
  refine de_ok (pe_ix hr ha hb hs) fun env F σ H Q er q => two er q fun x y d e F1 H1 s r1 r2 q1 => ?_
  unfold dIdx at q1
  split at q1
  · split at q1
    · rename_i h
      obtain ⟨p, vs, rfl, h1, h2⟩ := r1.lst'
      obtain ⟨v, h3, h4⟩ := h2.at_ h
      exact .inl ⟨p, vs, _, v, rfl, r2.int', (h1.mono s).seq, h3, q1.ok0 s h4⟩
    · exact q1.elim
  · split at q1
    · rename_i h
      obtain ⟨p, vs, rfl, h1, h2⟩ := r1.tup'
      obtain ⟨v, h3, h4⟩ := h2.at_ h
      exact .inr ⟨p, vs, _, v, rfl, r2.int', sqT_mono s h1, h3, q1.ok0 s h4⟩
    · exact q1.elim
  · exact q1.elim
/-! a slice's parts -/
def PostO (XX : XW) (F H : Hp) (r : Res (Option Int)) (Q : Option Int → Hp → Prop) : Prop := match r with
  | .ok d => ∀ F' H', Same H H' → Grow F H F' H' → Q d H'
  | .exc c => ∀ H', Same H H' → XX c H'
  | .stuck => False
abbrev DP (X : Cx) (W : WX0) (e : Option Expr) (f : Option SF) : Prop := PO X e (fun σ H Q => ∃ env F, ERx X.K W.T F H σ env ∧ PostO (fun c => W c σ) F H (vPart f env) Q)
theorem PO.imp {X : Cx} {e : Option Expr} {t t' : TO} (h : PO X e t') (i : ∀ σ H Q, t σ H Q → t' σ H Q) : PO X e t := ⟨fun pins s σ H Q I q => h.run pins s σ H Q I (i σ H Q q)⟩
theorem dp_none : DP X W none none := PO.imp po_none fun σ H Q ⟨env, F, er, q⟩ => q F H (Same.refl _) (Grow.refl er.sub)
theorem dp_some (h : DE X W a fa) : DP X W (some a) (some fa) := PO.imp (po_some h) fun σ H Q ⟨env, F, er, q⟩ => by
  refine ⟨env, F, er, ?_⟩
  have q : PostO (fun c => W c σ) F H ((fa env).bind fun d => (toI d).bind fun i => Res.ok (some i)) Q := q
  cases e : fa env with
  | ok d =>
    rw [e] at q
    intro v F1 H1 e1 g1 r1
    unfold toI at q
    rw [Res.bind_ok] at q
    split at q
    · exact ⟨_, r1.int', q F1 H1 e1 g1⟩
    · exact q.elim
  | exc c => rw [e] at q; exact q
  | stuck => rw [e] at q; exact q
theorem postO_bind {K : PySem.W.Frag} {XX : XW} {F H : Hp} {r : Res (Option Int)} {f : Option Int → Res D} {Q : VK} (h : PostG K XX F H (r.bind f) Q) {Q' : Option Int → Hp → Prop}
    (k : ∀ d F1 H1, Same H H1 → Grow F H F1 H1 → PostG K XX F1 H1 (f d) Q → Q' d H1) : PostO XX F H r Q' := by
  cases r with
  | ok d => exact fun F1 H1 e g => k d F1 H1 e g (PostG.cut (r := f d) h e g)
  | exc c => exact h
  | stuck => exact h
theorem ge_cut {lo hi : Option Expr} {fl fh : Option SF} {p2 : Pos} (ha : DE X W a fa) (hl : DP X W lo fl) (hh : DP X W hi fh) : GE X W (.Subscript a (.Slice lo hi none p2) pos) (vCut fa fl fh) := by
  have hr : SlR X (fun x lo hi H Q => (∃ a xs, x = .ref a ∧ SqL X.K H a xs ∧ ∀ p, H p = none → Q (.ref p) (upd H p (.lst (cutV xs lo hi)))) ∨ rSlA X.K x lo hi H Q) := sl_list.or sl_tupA
  refine ge_ok (pe_slice hr ha hl hh) fun env F σ H Q er q => ⟨env, F, er, PostG.bind q fun d v F1 H1 _ e1 g1 r1 q1 => ⟨env, F1, er.grow g1, postO_bind q1 fun l F2 H2 e2 g2 q2 => ⟨env, F2, (er.grow g1).grow g2, postO_bind q2 fun u F3 H3 e3 g3 q3 => ?_⟩⟩⟩
  have r3 := (r1.mono g2.fix).mono g3.fix
  unfold dCut at q3
  split at q3
  · obtain ⟨p, vs, rfl, h1, h2⟩ := r3.lst'
    exact .inl ⟨p, vs, rfl, (h1.mono g3.sub).seq, fun p hp => q3.newL g3.sub (h2.cut _ _) p hp⟩
  · obtain ⟨p, vs, rfl, h1, h2⟩ := r3.tup'
    refine .inr ⟨p, vs, rfl, sqT_mono g3.sub h1, fun hw => ?_, fun hw p hp => q3.newT g3.sub (h2.cut _ _) p hp⟩
    rw [h2.length] at hw
    have e : ∀ ds : List D, HT.sIx ds.length 0 l = 0 ∧ HT.sIx ds.length ds.length u = ds.length → SH.cut ds l u = ds := fun ds hw => by
      unfold SH.cut
      rw [hw.1, hw.2, List.drop_zero, Nat.sub_zero, List.take_length]
    rw [e _ hw] at q3
    exact q3.ok0 g3.sub r3
  · exact q3.elim

/-! ### built-ins by data -/
def rDL (K : PySem.W.Frag) (g : List D → Res D) : List V → Hp → VK → Prop := fun vs H Q => ∃ (XX : XW) (F : Hp) (ds : List D), Same F H ∧ RpL K F vs ds ∧ Post K XX F H (g ds) Q
def vCall (g : List D → Res D) (fs : List SF) : SF := fun env => (vL fs env).bind g
theorem de_callB {x : Str} {p : Pos} {id : String} {g : List D → Res D} {es : List Expr} {fs : List SF} (hc : CallR X (.builtin id) (rDL X.K g)) (hg : Gl X x) (hm : X.mg x = none) (hv : bootBuiltins x = some (.builtin id)) (ha : DA X W (a :: es) (vL fs))
    (hn : x ≠ "__name__") (hd : (x == ("__debug__" : Str)) = false) (he : starEach (a :: es) X.env = (false, eval a X.env) :: starEach es X.env) (hp : (backTo pos (starEach es X.env)).any (·.1) = false) : DE X W (.Call (.Name x p) (a :: es) [] pos) (vCall g fs) :=
  de_ok (pe_callB hc hg hm hv ha hn hd he hp) fun env F σ H Q er q => ⟨env, F, er, postL_bind q fun ds vs F1 H1 e0 e1 g1 r1 q1 => ⟨_, F1, ds, g1.sub, r1, q1⟩⟩
theorem de_callTy {x : Str} {p : Pos} {id : String} {g : List D → Res D} {es : List Expr} {fs : List SF} (hc : CallR X (.type id) (rDL X.K g)) (hg : Gl X x) (hm : X.mg x = none) (hv : bootBuiltins x = some (.type id)) (ha : DA X W (a :: es) (vL fs))
    (hn : x ≠ "__name__") (hd : (x == ("__debug__" : Str)) = false) (he : starEach (a :: es) X.env = (false, eval a X.env) :: starEach es X.env) (hp : (backTo pos (starEach es X.env)).any (·.1) = false) : DE X W (.Call (.Name x p) (a :: es) [] pos) (vCall g fs) :=
  de_ok (pe_callTy hc hg hm hv ha hn hd he hp) fun env F σ H Q er q => ⟨env, F, er, postL_bind q fun ds vs F1 H1 e0 e1 g1 r1 q1 => ⟨_, F1, ds, g1.sub, r1, q1⟩⟩
theorem de_callM {x : Str} {p : Pos} {id : String} {g : List D → Res D} {es : List Expr} {fs : List SF} (hc : CallR X (.builtin id) (rDL X.K g)) (hg : Gl X x) (hm : X.mg x = some (.builtin id)) (ha : DA X W (a :: es) (vL fs))
    (hd : (x == ("__debug__" : Str)) = false) (he : starEach (a :: es) X.env = (false, eval a X.env) :: starEach es X.env) (hp : (backTo pos (starEach es X.env)).any (·.1) = false) : DE X W (.Call (.Name x p) (a :: es) [] pos) (vCall g fs) :=
  de_ok (pe_callBfun hc hg hm ha hd he hp) fun env F σ H Q er q => ⟨env, F, er, postL_bind q fun ds vs F1 H1 e0 e1 g1 r1 q1 => ⟨_, F1, ds, g1.sub, r1, q1⟩⟩

def rGL (K : PySem.W.Frag) (g : List D → Res D) : List V → Hp → VK → Prop := fun vs H Q => ∃ (XX : XW) (F : Hp) (ds : List D), Same F H ∧ RpL K F vs ds ∧ PostG K XX F H (g ds) Q
theorem CallR.ofG {K : PySem.W.Frag} {f : Value} {g : List D → Res D} (h : CallR X f (rGL K g)) : CallR X f (rDL K g) := fun pins s σ H vs us Q I rv ⟨XX, F, ds, sb, rl, q⟩ => h pins s σ H vs us Q I rv ⟨XX, F, ds, sb, rl, .of q⟩
theorem ge_callTy {x : Str} {p : Pos} {id : String} {g : List D → Res D} {es : List Expr} {fs : List SF} (hc : CallR X (.type id) (rGL X.K g)) (hg : Gl X x) (hm : X.mg x = none) (hv : bootBuiltins x = some (.type id)) (ha : DA X W (a :: es) (vL fs))
    (hn : x ≠ "__name__") (hd : (x == ("__debug__" : Str)) = false) (he : starEach (a :: es) X.env = (false, eval a X.env) :: starEach es X.env) (hp : (backTo pos (starEach es X.env)).any (·.1) = false) : GE X W (.Call (.Name x p) (a :: es) [] pos) (vCall g fs) :=
  ge_ok (pe_callTy hc hg hm hv ha hn hd he hp) fun env F σ H Q er q => ⟨env, F, er, postGL_bind q fun ds vs F1 H1 e0 e1 g1 r1 q1 => ⟨_, F1, ds, g1.sub, r1, q1⟩⟩
theorem ge_callB {x : Str} {p : Pos} {id : String} {g : List D → Res D} {es : List Expr} {fs : List SF} (hc : CallR X (.builtin id) (rGL X.K g)) (hg : Gl X x) (hm : X.mg x = none) (hv : bootBuiltins x = some (.builtin id)) (ha : DA X W (a :: es) (vL fs))
    (hn : x ≠ "__name__") (hd : (x == ("__debug__" : Str)) = false) (he : starEach (a :: es) X.env = (false, eval a X.env) :: starEach es X.env) (hp : (backTo pos (starEach es X.env)).any (·.1) = false) : GE X W (.Call (.Name x p) (a :: es) [] pos) (vCall g fs) :=
  ge_ok (pe_callB hc hg hm hv ha hn hd he hp) fun env F σ H Q er q => ⟨env, F, er, postGL_bind q fun ds vs F1 H1 e0 e1 g1 r1 q1 => ⟨_, F1, ds, g1.sub, r1, q1⟩⟩
def asInts : List D → Option (List Int)
  | [] => some []
  | .int i :: r => (asInts r).map (i :: ·)
  | _ :: _ => none
def asBools : List D → Option (List Bool)
  | [] => some []
  | .bool i :: r => (asBools r).map (i :: ·)
  | _ :: _ => none
theorem asInts_map : ∀ ns : List Int, asInts (ns.map PyData.int) = some ns
  | [] => rfl
  | n :: r => by rw [List.map_cons, asInts, asInts_map r]; rfl
theorem asInts_eq : ∀ {ds : List D} {ns : List Int}, asInts ds = some ns → ds = ns.map PyData.int
  | [], _, h => by cases h; rfl
  | .int i :: r, ns, h => by
    rw [asInts] at h
    obtain ⟨ms, h1, rfl⟩ := Option.map_eq_some_iff.mp h
    rw [List.map_cons, ← asInts_eq h1]
  | .none :: _, _, h => by cases h
  | .bool _ :: _, _, h => by cases h
  | .str _ :: _, _, h => by cases h
  | .list _ :: _, _, h => by cases h
  | .tuple _ :: _, _, h => by cases h
  | .dict _ :: _, _, h => by cases h
theorem asBools_map : ∀ ns : List Bool, asBools (ns.map PyData.bool) = some ns
  | [] => rfl
  | n :: r => by rw [List.map_cons, asBools, asBools_map r]; rfl
theorem asBools_eq : ∀ {ds : List D} {ns : List Bool}, asBools ds = some ns → ds = ns.map PyData.bool
  | [], _, h => by cases h; rfl
  | .bool i :: r, ns, h => by
    rw [asBools] at h
    obtain ⟨ms, h1, rfl⟩ := Option.map_eq_some_iff.mp h
    rw [List.map_cons, ← asBools_eq h1]
  | .none :: _, _, h => by cases h
  | .int _ :: _, _, h => by cases h
  | .str _ :: _, _, h => by cases h
  | .list _ :: _, _, h => by cases h
  | .tuple _ :: _, _, h => by cases h
  | .dict _ :: _, _, h => by cases h
def ofO {α : Type} (f : α → D) : Option α → Res D
  | some a => .ok (f a)
  | none => .stuck
def dLen : List D → Res D
  | [.list xs] => .ok (.int xs.length)
  | [.tuple xs] => .ok (.int xs.length)
  | _ => .stuck
def dSum : List D → Res D
  | [.list xs] => ofO (fun ns => .int ns.sum) (asInts xs)
  | [.tuple xs] => ofO (fun ns => .int ns.sum) (asInts xs)
  | _ => .stuck
def dMaxL : List D → Res D
  | [.list xs] => ofO .int ((asInts xs).bind (·.max?))
  | [.int i, .int j] => .ok (.int (if j > i then j else i))
  | _ => .stuck
def dMinL : List D → Res D
  | [.list xs] => ofO .int ((asInts xs).bind (·.min?))
  | [.int i, .int j] => .ok (.int (if j < i then j else i))
  | _ => .stuck
def dAll : List D → Res D
  | [.list xs] => ofO (fun bs => .bool (bs.all id)) (asBools xs)
  | _ => .stuck
def dAny : List D → Res D
  | [.list xs] => ofO (fun bs => .bool (bs.any id)) (asBools xs)
  | _ => .stuck
def dInt : List D → Res D
  | [.int i] => .ok (.int i)
  | [.bool b] => .ok (.int (if b then 1 else 0))
  | _ => .stuck
def dAbs : List D → Res D
  | [.int i] => .ok (.int (if i < 0 then -i else i))
  | _ => .stuck
def dTuple : List D → Res D
  | [.list xs] => .ok (.tuple xs)
  | [.tuple xs] => .ok (.tuple xs)
  | _ => .stuck
def dList : List D → Res D
  | [.list xs] => .ok (.list xs)
  | [.tuple xs] => .ok (.list xs)
  | _ => .stuck
def dGcd : List D → Res D
  | [.int i, .int j] => .ok (.int ((Nat.gcd i.natAbs j.natAbs : Nat) : Int))
  | _ => .stuck
theorem one' {K : PySem.W.Frag} {F : Hp} {vs : List V} {d : D} (r : RpL K F vs [d]) : ∃ v, vs = [v] ∧ Rp K F v d := by
  cases r with
  | cons a b => cases b; exact ⟨_, rfl, a⟩
theorem two' {K : PySem.W.Frag} {F : Hp} {vs : List V} {d e : D} (r : RpL K F vs [d, e]) : ∃ v w, vs = [v, w] ∧ Rp K F v d ∧ Rp K F w e := by
  cases r with
  | cons a b =>
    cases b with
    | cons c d => cases d; exact ⟨_, _, rfl, a, c⟩
theorem cD_len : CallR X (.builtin "len") (rDL X.K dLen) := by
  intro pins s σ H vs us Q I rv h
  obtain ⟨XX, F, ds, sb, rl, q⟩ := h
  unfold dLen at q
  split at q
  · obtain ⟨v, rfl, r⟩ := one' rl
    obtain ⟨a, xs, rfl, h1, h2⟩ := r.lst'
    exact call_len_seq pins s σ H _ us Q I rv ⟨a, xs, rfl, .inl ((h1.mono sb).seq), by rw [h2.length]; exact q.ok0 sb (.int _)⟩
  · obtain ⟨v, rfl, r⟩ := one' rl
    obtain ⟨a, xs, rfl, h1, h2⟩ := r.tup'
    exact call_len_seq pins s σ H _ us Q I rv ⟨a, xs, rfl, .inr (sqT_mono sb h1), by rw [h2.length]; exact q.ok0 sb (.int _)⟩
  · exact q.elim
theorem sum_rawT {its : List Value} {ns : List Int} {prog : Program} {w : World} {A : Around} {E : Value → Shared → Prop} {s : Shared} {l : Addr} {Q : Value → Shared → Prop} (hh : A.handled = none) (hl : s.heap.IsTuple l its.toArray) (hi : IntsAre its ns)
    (h : ∀ h' tk t', (∀ b o, s.heap.get? b = some o → h'.get? b = some o) → Q (.int ns.sum t') { s with heap := h', toks := tk }) : wpAny (model prog w) A (call (.builtin "sum") [.ref l]) Q E s := by
  obtain ⟨xs, e⟩ := hi.allInts.items
  have hn : PySem.numsOf (intItems xs).toList = ns := by rw [← e]; exact hi.numsOf
  rw [nums_intItems] at hn
  rw [e] at hl
  refine PySem.W.ktm_sumG hh hl fun h' tk t' hk => ?_
  have := h h' tk t' hk
  rw [preSum_eq, List.take_of_length_le (by simp), hn]
  exact this
theorem cD_sum (hc : X.calm = true) : CallR X (.builtin "sum") (rDL X.K dSum) := by
  intro pins s σ H vs us Q I rv h
  obtain ⟨XX, F, ds, sb, rl, q⟩ := h
  unfold dSum at q
  split at q
  · obtain ⟨v, rfl, r⟩ := one' rl
    obtain ⟨a, xs, rfl, h1, h2⟩ := r.lst'
    unfold ofO at q
    split at q
    · rename_i ns e
      rw [asInts_eq e] at h2
      obtain rfl := h2.ints'
      exact cr_sum hc pins s σ H _ us Q I rv ⟨a, ns, rfl, (h1.mono sb).seq, q.ok0 sb (.int _)⟩
    · exact q.elim
  · obtain ⟨v, rfl, r⟩ := one' rl
    obtain ⟨a, xs, rfl, h1, h2⟩ := r.tup'
    unfold ofO at q
    split at q
    · rename_i ns e
      rw [asInts_eq e] at h2
      obtain rfl := h2.ints'
      obtain ⟨its, rr, ht, _⟩ := I.tuple (sqT_mono sb h1)
      rw [Vals.ref1 rv]
      exact sum_rawT (I.ok.hd hc) (show s.heap.IsTuple a its.toArray from ht) rr.ints fun h' tk t' hk => ⟨.int _, H, I.kept hk, ⟨_, rfl⟩, q.ok0 sb (.int _)⟩
    · exact q.elim
  · exact q.elim
theorem cD_max (hc : X.calm = true) : CallR X (.builtin "max") (rDL X.K dMaxL) := by
  intro pins s σ H vs us Q I rv h
  obtain ⟨XX, F, ds, sb, rl, q⟩ := h
  unfold dMaxL at q
  split at q
  · obtain ⟨v, rfl, r⟩ := one' rl
    obtain ⟨a, xs, rfl, h1, h2⟩ := r.lst'
    unfold ofO at q
    split at q
    · rename_i m e
      obtain ⟨ns, e1, e2⟩ := Option.bind_eq_some_iff.mp e
      rw [asInts_eq e1] at h2
      obtain rfl := h2.ints'
      obtain ⟨m1, m2⟩ := List.max?_eq_some_iff.mp e2
      refine cr_max hc pins s σ H _ us Q I rv ⟨a, ns, rfl, (h1.mono sb).seq, List.length_pos_of_mem m1, fun m' h3 h4 => ?_⟩
      have : m' = m := Int.le_antisymm (m2 m' h3) (h4 m m1)
      subst this
      exact q.ok0 sb (.int _)
    · exact q.elim
  · obtain ⟨v, w, rfl, r1, r2⟩ := two' rl
    obtain rfl := r1.int'
    obtain rfl := r2.int'
    exact call_max2 hc pins s σ H _ us Q I rv ⟨_, _, rfl, q.ok0 sb (.int _)⟩
  · exact q.elim
theorem cD_min (hc : X.calm = true) : CallR X (.builtin "min") (rDL X.K dMinL) := by
  intro pins s σ H vs us Q I rv h
  obtain ⟨XX, F, ds, sb, rl, q⟩ := h
  unfold dMinL at q
  split at q
  · obtain ⟨v, rfl, r⟩ := one' rl
    obtain ⟨a, xs, rfl, h1, h2⟩ := r.lst'
    unfold ofO at q
    split at q
    · rename_i m e
      obtain ⟨ns, e1, e2⟩ := Option.bind_eq_some_iff.mp e
      rw [asInts_eq e1] at h2
      obtain rfl := h2.ints'
      obtain ⟨m1, m2⟩ := List.min?_eq_some_iff.mp e2
      refine cr_min hc pins s σ H _ us Q I rv ⟨a, ns, rfl, (h1.mono sb).seq, List.length_pos_of_mem m1, fun m' h3 h4 => ?_⟩
      have : m' = m := Int.le_antisymm (h4 m m1) (m2 m' h3)
      subst this
      exact q.ok0 sb (.int _)
    · exact q.elim
  · obtain ⟨v, w, rfl, r1, r2⟩ := two' rl
    obtain rfl := r1.int'
    obtain rfl := r2.int'
    exact call_min2 hc pins s σ H _ us Q I rv ⟨_, _, rfl, q.ok0 sb (.int _)⟩
  · exact q.elim
theorem cD_all (hc : X.calm = true) : CallR X (.builtin "all") (rDL X.K dAll) := by
  intro pins s σ H vs us Q I rv h
  obtain ⟨XX, F, ds, sb, rl, q⟩ := h
  unfold dAll at q
  split at q
  · obtain ⟨v, rfl, r⟩ := one' rl
    obtain ⟨a, xs, rfl, h1, h2⟩ := r.lst'
    unfold ofO at q
    split at q
    · rename_i ns e
      rw [asBools_eq e] at h2
      obtain rfl := h2.bls'
      exact cr_all hc pins s σ H _ us Q I rv ⟨a, ns, rfl, (h1.mono sb).seq, q.ok0 sb (.bl _)⟩
    · exact q.elim
  · exact q.elim
theorem cD_any (hc : X.calm = true) : CallR X (.builtin "any") (rDL X.K dAny) := by
  intro pins s σ H vs us Q I rv h
  obtain ⟨XX, F, ds, sb, rl, q⟩ := h
  unfold dAny at q
  split at q
  · obtain ⟨v, rfl, r⟩ := one' rl
    obtain ⟨a, xs, rfl, h1, h2⟩ := r.lst'
    unfold ofO at q
    split at q
    · rename_i ns e
      rw [asBools_eq e] at h2
      obtain rfl := h2.bls'
      exact cr_any hc pins s σ H _ us Q I rv ⟨a, ns, rfl, (h1.mono sb).seq, q.ok0 sb (.bl _)⟩
    · exact q.elim
  · exact q.elim
theorem cD_int : CallR X (.type "int") (rDL X.K dInt) := by
  intro pins s σ H vs us Q I rv h
  obtain ⟨XX, F, ds, sb, rl, q⟩ := h
  unfold dInt at q
  split at q
  · obtain ⟨v, rfl, r⟩ := one' rl
    obtain rfl := r.int'
    exact call_int1 pins s σ H _ us Q I rv (.inl ⟨_, rfl, q.ok0 sb (.int _)⟩)
  · obtain ⟨v, rfl, r⟩ := one' rl
    obtain rfl := r.bl'
    exact call_int1 pins s σ H _ us Q I rv (.inr ⟨_, rfl, q.ok0 sb (.int _)⟩)
  · exact q.elim
theorem cD_abs : CallR X (.builtin "abs") (rDL X.K dAbs) := by
  intro pins s σ H vs us Q I rv h
  obtain ⟨XX, F, ds, sb, rl, q⟩ := h
  unfold dAbs at q
  split at q
  · obtain ⟨v, rfl, r⟩ := one' rl
    obtain rfl := r.int'
    exact call_abs pins s σ H _ us Q I rv ⟨_, rfl, q.ok0 sb (.int _)⟩
  · exact q.elim
theorem cD_tuple : CallR X (.type "tuple") (rDL X.K dTuple) := by
  intro pins s σ H vs us Q I rv h
  obtain ⟨XX, F, ds, sb, rl, q⟩ := h
  unfold dTuple at q
  split at q
  · obtain ⟨v, rfl, r⟩ := one' rl
    obtain ⟨a, xs, rfl, h1, h2⟩ := r.lst'
    exact call_tuple_of pins s σ H _ us Q I rv ⟨a, xs, rfl, .inl ⟨(h1.mono sb).seq, fun p hp => q.newT sb h2 p hp⟩⟩
  · obtain ⟨v, rfl, r⟩ := one' rl
    obtain ⟨a, xs, rfl, h1, h2⟩ := r.tup'
    exact call_tuple_of pins s σ H _ us Q I rv ⟨a, xs, rfl, .inr ⟨sqT_mono sb h1, q.ok0 sb (.tup h1 h2)⟩⟩
  · exact q.elim
theorem cG_list : CallR X (.type "list") (rGL X.K dList) := by
  intro pins s σ H vs us Q I rv h
  obtain ⟨XX, F, ds, sb, rl, q⟩ := h
  unfold dList at q
  split at q
  · obtain ⟨v, rfl, r⟩ := one' rl
    obtain ⟨a, xs, rfl, h1, h2⟩ := r.lst'
    exact call_list_of pins s σ H _ us Q I rv ⟨a, xs, rfl, .inl ((h1.mono sb).seq), fun p hp => q.newL sb h2 p hp⟩
  · obtain ⟨v, rfl, r⟩ := one' rl
    obtain ⟨a, xs, rfl, h1, h2⟩ := r.tup'
    exact call_list_of pins s σ H _ us Q I rv ⟨a, xs, rfl, .inr (sqT_mono sb h1), fun p hp => q.newL sb h2 p hp⟩
  · exact q.elim
theorem cD_list : CallR X (.type "list") (rDL X.K dList) := CallR.ofG cG_list
theorem cD_gcd : CallR X (.builtin "math.gcd") (rDL X.K dGcd) := by
  intro pins s σ H vs us Q I rv h
  obtain ⟨XX, F, ds, sb, rl, q⟩ := h
  unfold dGcd at q
  split at q
  · obtain ⟨v, w, rfl, r1, r2⟩ := two' rl
    obtain rfl := r1.int'
    obtain rfl := r2.int'
    exact cr_gcd pins s σ H _ us Q I rv ⟨_, _, rfl, q.ok0 sb (.int _)⟩
  · exact q.elim

/-! ### isinstance against a built-in type -/
def tyN : D → String
  | .none => "NoneType"
  | .bool _ => "bool"
  | .int _ => "int"
  | .str _ => "str"
  | .list _ => "list"
  | .tuple _ => "tuple"
  | .dict _ => "dict"
/-- isinstance of a value of the type named first -/
def isiB : String → String → Option Bool
  | "int", "int" => some true
  | "bool", "int" => some true
  | "NoneType", "int" => some false
  | "str", "int" => some false
  | "list", "int" => some false
  | "tuple", "int" => some false
  | "dict", "int" => some false
  | "bool", "bool" => some true
  | "int", "bool" => some false
  | "NoneType", "bool" => some false
  | "str", "bool" => some false
  | "list", "bool" => some false
  | "tuple", "bool" => some false
  | "dict", "bool" => some false
  | "tuple", "tuple" => some true
  | "bool", "tuple" => some false
  | "int", "tuple" => some false
  | "NoneType", "tuple" => some false
  | "str", "tuple" => some false
  | "list", "tuple" => some false
  | "dict", "tuple" => some false
  | "str", "str" => some true
  | "bool", "str" => some false
  | "int", "str" => some false
  | "NoneType", "str" => some false
  | "tuple", "str" => some false
  | "list", "str" => some false
  | "dict", "str" => some false
  | "list", "list" => some true
  | "bool", "list" => some false
  | "int", "list" => some false
  | "NoneType", "list" => some false
  | "tuple", "list" => some false
  | "str", "list" => some false
  | "dict", "list" => some false
  | _, _ => none
theorem isiB_kit : ∀ {a b : String} {r : Bool}, isiB a b = some r → kitB a b = some r := by
  intro a b r h
  unfold isiB at h
  split at h <;> first
    | (cases h; decide +kernel)
    | cases h
def dIsi (T : String) (d : D) : Res D := match isiB (tyN d) T with
  | some b => .ok (.bool b)
  | none => .stuck
theorem tyX_of {F H : Hp} {v : V} {d : D} (s : Same F H) (r : Rp X.K F v d) : TyX X.K H v (.type (tyN d)) := by
  cases r with
  | non => exact .base .non
  | bl b => exact .base (.bl b)
  | int i => exact .base (.int i)
  | str x => exact .base (.str x)
  | lst h _ =>
    rcases h with (h | ⟨o, h⟩) | ⟨its, n, e, _⟩
    · exact .base (.lst (s.ap _ _ h))
    · exact .base (.frz (s.ap _ _ h))
    · exact .kList e rfl
  | tup h _ =>
    rcases h with (h | ⟨o, h⟩) | ⟨o, its, n, e, c, _⟩
    · exact .base (.tup (s.ap _ _ h))
    · exact .fTuple (s.ap _ _ h)
    · exact .kTuple e c
  | dK h _ => exact .base (.dK (s.ap _ _ h))
  | dT h _ => exact .base (.dT (s.ap _ _ h))
theorem de_isi {T : String} {y : Str} {p p2 : Pos} (ha : DE X W a fa) (hg : Gl X "isinstance") (hm : X.mg "isinstance" = none) (hg2 : Gl X y) (hm2 : X.mg y = none) (hv : bootBuiltins y = some (.type T))
    (hn : y ≠ "__name__") (hd : (y == ("__debug__" : Str)) = false) (he : starEach [a, .Name y p2] X.env = (false, eval a X.env) :: starEach [.Name y p2] X.env) : DE X W (.Call (.Name "isinstance" p) [a, .Name y p2] [] pos) (vUn (dIsi T) fa) := by
  have hp : PE X (.Name y p2) (tC (.ty T)) := pe_bltn hg2 hm2 hv rfl hn hd
  refine de_ok (pe_callB call_isi hg hm (by decide +kernel) (pa_cons ha (pa_cons hp pa_nil) he) (he := he)) fun env F σ H Q er q => ⟨env, F, er, Post.bind q fun d v F1 H1 _ e1 g1 r1 q1 => ?_⟩
  unfold dIsi at q1
  split at q1
  · rename_i b e
    exact ⟨v, .ty T, .type (tyN d), .type T, b, rfl, .ty T, tyX_of g1.sub r1, kit_ty (isiB_kit e), q1.ok0 g1.sub (.bl _)⟩
  · exact q1.elim

/-! ### calls of the text's defs -/
/-- what is wanted of exceptions, as the layer takes it -/
def wx (ca : Nat → Addr) (W : WX0) : L2.WX := fun cls d σ H => ∃ c, cls = .ref (ca c) ∧ d = Option.none ∧ W c σ H
/-- a def is worth f -/
def spOf (ca : Nat → Addr) (K : PySem.W.Frag) (T : TB) (n : Nat) (f : List D → Res D) : Sp := fun vs H Q E => ∃ (ds : List D) (F : Hp), Same F H ∧ Tabs T F ∧ RpL K F vs ds ∧ ds.length = n ∧ Post K (fun c H' => E (.ref (ca c)) Option.none H') F H (f ds) Q
theorem de_call {ca : Nat → Addr} {k : Nat} {g : Addr} {fd : FuncData} {ps : List Str} {f : List D → Res D} {x : Str} {p : Pos} {es : List Expr} {fs : List SF} (tk : Takes X (wx ca W)) (F : FnOk X.prog X.w X.K X.mg X.base (L2.CX X.prog X.w) k g fd ps (spOf ca X.K W.T ps.length f)) (hr : Room k X.A)
    (hg : Gl X x) (hm : X.mg x = some (.ref g)) (hk : PySem.W.keepIn X.K (.ref g) = true) (hb : Binds X.K fd ps []) (ha : DA X W (a :: es) (vL fs)) (hl : fs.length = ps.length) (hd : (x == ("__debug__" : Str)) = false)
    (he : starEach (a :: es) X.env = (false, eval a X.env) :: starEach es X.env) (hp : (backTo pos (starEach es X.env)).any (·.1) = false) : DE X W (.Call (.Name x p) (a :: es) [] pos) (vCall f fs) := by
  refine de_ok (pe_callS F hr hg hm hk hb (passAt tk) ha hd he hp) fun env F σ H Q er q => ⟨env, F, er, postL_bind q fun ds vs F1 H1 e0 e1 g1 r1 q1 => ?_⟩
  refine ⟨ds, F1, g1.sub, g1.fix.tabs er.tb, r1, (vL_length e0).trans hl, ?_⟩
  cases e : f ds with
  | ok d => rw [e] at q1; exact q1
  | exc c =>
    rw [e] at q1
    exact fun H' e' => ⟨c, rfl, rfl, q1 H' e'⟩
  | stuck => rw [e] at q1; exact q1
end
end SH


set_option Elab.async false
set_option linter.all false
set_option maxRecDepth 100000
set_option maxHeartbeats 4000000
/-! The layer, part f: what a loop walks, by data. -/
namespace SH
open PySem PySem.Spec PyProof.Rows L2
open Sem (wp)
open AutoSeq1 (wpAny_loadPart')

/-! ### enumerate of a tuple -/
theorem meets_enumerate_newT (l : Addr) (items : Array Value) (n : Nat) (dct : Option Addr) (sl : Array (Option Value)) :
    Meets (Builtin.«enumerate.__new__» ⟨[.type "enumerate", .ref l], []⟩) (fun _ R s => s.heap.get? l = some { cls := .type "tuple", dict := dct, data := .seq items n, slots := sl } ∧
      R (.ok (.ret (.ref (s.heap.push { cls := .type "tuple_iterator", data := .fields #[.ref l, .int 0 0] }).objs.size)))
        { s with heap := (s.heap.push { cls := .type "tuple_iterator", data := .fields #[.ref l, .int 0 0] }).push { cls := .type "enumerate", data := .fields #[.none, .bool false, .ref s.heap.objs.size, rawInt 0, .none, .none] } }) :=
  .of_wp fun prog w A R s h => by
    obtain ⟨hp, g, d, tk, os⟩ := s; obtain ⟨hl, h⟩ := h
    have hsub := sub_enumerate
    have hL : Heap.IsTuple (Shared.heap ⟨hp, g, d, tk, os⟩) l items := ⟨_, hl, rfl, n, rfl⟩
    wp_walk using wpAny_loadPart' hl
    refine wpAny_stack_any fun st => wpAny_pure ?_
    split
    · rename_i c _ _ _ _ _
      cases (c == Value.type "enumerate")
      · wp_walk using wpAny_loadPart' hl, wpAny_pyIter_tuple hL
        exact ⟨_, rfl, h⟩
      · wp_walk using wpAny_loadPart' hl, wpAny_pyIter_tuple hL
        exact ⟨_, rfl, h⟩
    · wp_walk using wpAny_loadPart' hl, wpAny_pyIter_tuple hL
      exact ⟨_, rfl, h⟩
theorem call_enumerate_tuple {prog : Program} {w : World} {A : Around} {E : Value → Shared → Prop} {s : Shared} {l : Addr} {items : Array Value} {Q : Value → Shared → Prop} (hL : s.heap.IsTuple l items)
    (h : ∀ h', IsEnum h' (s.heap.objs.size + 1) s.heap.objs.size 0 .none → h'.IsTupleIter s.heap.objs.size l 0 → h'.objs.size = s.heap.objs.size + 2 →
      (∀ b o, s.heap.get? b = some o → h'.get? b = some o) → Q (.ref (s.heap.objs.size + 1)) { s with heap := h' }) :
    wpAny (model prog w) A (call (.type "enumerate") [.ref l]) Q E s := by
  obtain ⟨⟨c, dct, dt, sl⟩, hl, hc, n, hd⟩ := hL
  replace hc : c = .type "tuple" := hc
  replace hd : dt = .seq items n := hd
  subst hc hd
  refine callType_new F.called_enumerate (by decide) (F.typeCall_enumerate_1 _) (F.newCall_enumerate_1 _) (fun obj => F.args_object_init_2 obj _) F.entry_enumerate_new
    (meets_enumerate_newT l items n dct sl) ⟨hl, ?_⟩
  have hz : (s.heap.push { cls := .type "tuple_iterator", data := .fields #[.ref l, .int 0 0] }).objs.size = s.heap.objs.size + 1 := Heap.size_push ..
  show _ ∧ _
  rw [hz]
  have he : IsEnum ((s.heap.push { cls := .type "tuple_iterator", data := .fields #[.ref l, .int 0 0] }).push
      { cls := .type "enumerate", data := .fields #[.none, .bool false, .ref s.heap.objs.size, rawInt 0, .none, .none] }) (s.heap.objs.size + 1) s.heap.objs.size 0 .none := by
    have := Heap.get?_push_size (s.heap.push { cls := .type "tuple_iterator", data := .fields #[.ref l, .int 0 0] })
      (o := { cls := .type "enumerate", data := .fields #[.none, .bool false, .ref s.heap.objs.size, rawInt 0, .none, .none] }) rfl
    rw [hz] at this; exact this
  refine ⟨⟨_, he, rfl⟩, h _ he ⟨_, Heap.get?_push_of_some _ (Heap.get?_push_size _ rfl), rfl, rfl⟩ (by rw [Heap.size_push, hz]) fun b o x => Heap.get?_push_of_some _ (Heap.get?_push_of_some _ x)⟩
/-- the tuple at a, each item in a new pair with its place -/
def IteT (K : PySem.W.Frag) (a : Addr) : It :=
  ⟨fun i H => ∃ (xs : List V) (x : V), SqT K H a xs ∧ xs[i]? = some x, fun i H v H' => ∃ T x, v = .ref T ∧ H T = none ∧ H' = upd H T (.tup [.int (i : Nat), x]) ∧ ∀ xs, SqT K H a xs → xs[i]? = some x, fun i H => ∃ xs : List V, SqT K H a xs ∧ xs.length ≤ i⟩
theorem turn_enumT {P : Program} {w : World} {K : PySem.W.Frag} {elts : List Expr} {kk : Nat} {tpos : Pos} (a e it : Addr) (hei : e ≠ it) (hea : e ≠ a) (hia : a ≠ it) :
    Turn P w K (.Tuple elts kk tpos) (IteT K a) [e, it] e (fun i h => (∃ old, IsEnum h e it ((i : Nat) : Int) old) ∧ h.IsTupleIter it a i) where
  mem := by simp
  obj := fun i h st b hb => by
    obtain ⟨⟨old, he⟩, ⟨o, ho, hc, hd⟩⟩ := st
    have e' : b = e ∨ b = it := by simpa using hb
    rcases e' with z | z
    · rw [z]; exact ⟨_, he, fun v q => nomatch q⟩
    · rw [z]; exact ⟨o, ho, fun v q => by rw [hd] at q; cases q⟩
  keep := fun i h h' st k => let ⟨⟨old, he⟩, hi⟩ := st; ⟨⟨old, k e (by simp) _ he⟩, hi.at fun o q => k it (by simp) o q⟩
  item := by
    intro X hP hw hK hc i pins s σ H E I hf st hg
    subst hP hw hK
    obtain ⟨⟨old, he⟩, hit⟩ := st
    obtain ⟨xs, x, hq, hx⟩ := hg
    obtain ⟨its, rv, p, hz⟩ := I.tuple hq
    obtain ⟨u, hu, ru⟩ := rv.get hx
    have hel : e < s.heap.objs.size := Heap.lt_size he
    have hil : it < s.heap.objs.size := by obtain ⟨_, q, _⟩ := hit; exact Heap.lt_size q
    have hlt : i < its.toArray.size := by
      have := (List.getElem?_eq_some_iff.mp hu).1
      simpa using this
    have hh : X.A.in1.handled = none := I.ok.hd hc
    refine wpAny_pyNext_enum_itemD (Draws.tuple hh it a hia its.toArray) he ⟨hit, show s.heap.IsTuple a its.toArray from p⟩ hlt hei (by simp [hei, hea]) fun y h' tk hy ho hst' hT hsz hk => ?_
    have hy' : y = u := by
      have e1 : its.toArray[i]? = some u := by simpa using hu
      rw [e1] at hy
      exact (Option.some.inj hy).symm
    subst hy'
    obtain ⟨hit', ht'⟩ := hst'
    refine ⟨_, rfl, wpAny_letOwnedTupleGo_enum (s := { s with heap := h', toks := tk + 1 }) ho fun h'' he' sb => ?_⟩
    have hT2 : h''.get? s.heap.objs.size = some { cls := .type "tuple", data := .seq #[.int i tk, y] } := (sb.2 _ (Nat.ne_of_gt hel)).trans hT
    have new : ObjOk X.prog X.w (upd H s.heap.objs.size (.tup [.int (i : Nat), x])) h'' s.heap.objs.size (.tup [.int (i : Nat), x]) :=
      ⟨by show 2 ≤ sizeLine; decide, [.int i tk, y], .cons ⟨_, rfl⟩ (.cons ru .nil), ⟨_, hT2, rfl, _, rfl⟩⟩
    have I1 : Inv X pins σ (upd H s.heap.objs.size (.tup [.int (i : Nat), x])) { s with heap := h'', toks := tk + 1 } :=
      I.turnedNew (ch := [e, it]) (fun b ob hb q => (sb.2 b (fun z => hb (by simp [z]))).trans (hk b ob (fun z => hb (by simp [z])) (fun z => hb (by simp [z])) q)) hf (Nat.le_refl _) new
    refine ⟨.ref s.heap.objs.size, _, I1, rfl, ⟨_, x, rfl, I.hok.fresh (Nat.le_refl _), rfl, fun ys hy => by rw [I.tuple_inj hy hq]; exact hx⟩, ⟨⟨y, ?_⟩, hit'.at fun o q => (sb.2 it (Ne.symm hei)).trans q⟩, fun b hb => ?_⟩
    · have e1 : ((i + 1 : Nat) : Int) = (i : Int) + 1 := by omega
      rw [e1]; exact he'
    · have hb' : b < s.heap.objs.size := by
        have e' : b = e ∨ b = it := by simpa using hb
        rcases e' with z | z
        · rw [z]; exact hel
        · rw [z]; exact hil
      rw [upd_ne (Nat.ne_of_lt hb')]
      exact (hf b hb).1
  done := by
    intro X hP hw hK hc i pins s σ H E I hf st hg
    subst hP hw hK
    obtain ⟨⟨old, he⟩, hit⟩ := st
    obtain ⟨xs, hq, hx⟩ := hg
    obtain ⟨its, rv, p, hz⟩ := I.tuple hq
    obtain ⟨f0, f1, f2, f3, f4, f5⟩ := hf it (by simp)
    have hl := rv.length
    have hh : X.A.in1.handled = none := I.ok.hd hc
    have hT : s.TypeIs (.ref e) "enumerate" := ⟨_, he, rfl⟩
    have fin : ∀ h', Heap.ExtBut it s.heap h' → (none : Option Value) = none ∧ Inv X pins σ H { s with heap := h' } := fun h' eb => ⟨rfl, I.turned (t' := s.toks) (fun b o hb q => eb b o hb q) f0 f1 f3 f4 f5⟩
    unfold pyNext
    refine wpAny_bind (wpAny_attempt (wpAny_callSpecial?_slot (name := Str.ofString "__next__") hT F.slot_enumerate_next
      (wpAny_call_entry F.slot_enumerate_next hT F.entry_enumerate_next ?_ (F.args_enumerate_next_1 _))))
    show wpAny _ _ (field (.ref e) 2 >>= _) _ _ _
    refine wpAny_bind (wpAny_field he rfl (x := .ref it) rfl ?_)
    refine wpAny_bind (wpAny_nextOf_tuple_end hh hit (show s.heap.IsTuple a its.toArray from p) (by simp; omega) fun h' x he' hx' => ?_)
    obtain ⟨o, ho, hc⟩ := hx'
    refine wpAny_bind (wpAny_isInstance (T := "StopIteration") (b := true) ⟨o, ho, hc⟩ isSubtype_stop ?_)
    exact wpAny_pure (fin _ he')
  self := fun A i s Q E st h => let ⟨⟨_, he⟩, _⟩ := st; wpAny_pyIter_enum he h
theorem pi_enumA {X : Cx} {e : Expr} {ta : TA} {p pos tpos : Pos} {elts : List Expr} {kk : Nat} (hg : Gl X "enumerate") (hm : X.mg "enumerate" = none) (ha : PA X [e] ta) (hs : starEach [e] X.env = [(false, eval e X.env)]) :
    PI X (.Tuple elts kk tpos) (.Call (.Name "enumerate" p) [e] [] pos) (fun σ H R => ta σ H fun vs H1 => ∃ a xs, vs = [.ref a] ∧ ((SqL X.K H1 a xs ∧ (xs.length ≤ sizeLine → R (Ite X.K a) H1)) ∨ (SqT X.K H1 a xs ∧ (xs.length ≤ sizeLine → R (IteT X.K a) H1)))) := by
  refine ⟨fun pins s σ H R I h => ?_⟩
  refine Call_ (ld_blt I hg hm boot_enumerate (PyProof.Rows.callWith_type1 (thn (ha.run pos pins s σ H _ I h) fun us s1 ⟨vs, H1, I1, r1, q1⟩ => ?_) hs rfl))
  obtain ⟨a, xs, ex, q1⟩ := q1
  subst ex
  cases r1 with
  | cons r rr =>
    cases rr
    cases r
    have fresh2 : ∀ b, b ∈ [s1.heap.objs.size + 1, s1.heap.objs.size] → FpOk X pins H1 b := fun b hb => by
      have e' : b = s1.heap.objs.size + 1 ∨ b = s1.heap.objs.size := by simpa using hb
      have hle : s1.heap.objs.size ≤ b := by
        rcases e' with z | z
        · rw [z]; exact Nat.le_add_right _ _
        · rw [z]; exact Nat.le_refl _
      exact I1.fpOk hle (I1.hok.fresh hle)
    rcases q1 with ⟨hq, q⟩ | ⟨hq, q⟩
    · obtain ⟨its, rv, p', hz⟩ := I1.list hq
      refine call_enumerate_list p'.isList fun h' he hit hsz hk => wpAny_pyIter_enum he ?_
      have I2 : Inv X pins σ H1 { s1 with heap := h' } := I1.kept (t' := s1.toks) hk
      exact ⟨s1.heap.objs.size + 1, [s1.heap.objs.size + 1, s1.heap.objs.size], _, _, H1, rfl, I2, turn_enum a (s1.heap.objs.size + 1) s1.heap.objs.size, ⟨⟨.none, he⟩, hit, Nat.succ_ne_self _⟩, fresh2, q hz⟩
    · obtain ⟨its, rv, p', hz⟩ := I1.tuple hq
      obtain ⟨o, ho, _⟩ := id p'
      have hlt := Heap.lt_size ho
      refine call_enumerate_tuple (show s1.heap.IsTuple a its.toArray from p') fun h' he hit hsz hk => wpAny_pyIter_enum he ?_
      have I2 : Inv X pins σ H1 { s1 with heap := h' } := I1.kept (t' := s1.toks) hk
      exact ⟨s1.heap.objs.size + 1, [s1.heap.objs.size + 1, s1.heap.objs.size], _, _, H1, rfl, I2, turn_enumT a (s1.heap.objs.size + 1) s1.heap.objs.size (Nat.succ_ne_self _) (Nat.ne_of_gt (Nat.lt_succ_of_lt hlt)) (Nat.ne_of_lt hlt), ⟨⟨.none, he⟩, hit⟩, fresh2, q hz⟩
theorem walk_enumT {K : PySem.W.Frag} {a : Addr} {xs : List V} : Walk (IteT K a) xs.length (fun H => SqT K H a xs) (YPair (fun i => some (.int (i : Nat))) (fun i => xs[i]?)) := by
  refine ⟨fun i _ hi q => ⟨xs, xs[i], q, by simp [hi]⟩, fun _ q => ⟨xs, q, Nat.le_refl _⟩, fun i H v H' _ q y => ?_⟩
  obtain ⟨T, x, h1, h2, h3, h4⟩ := y
  exact ⟨T, .int (i : Nat), x, h1, h2, h3, rfl, h4 xs q⟩
theorem walk_zipT {K : PySem.W.Frag} {a b : Addr} {xs ys : List V} {n : Nat} (hn : n = min xs.length ys.length) : Walk (RZ.ItzT K a b) n (fun H => SqT K H a xs ∧ SqT K H b ys) (YPair (fun i => xs[i]?) (fun i => ys[i]?)) := by
  subst hn
  refine ⟨fun i _ hi q => ?_, fun _ q => ⟨xs, ys, q.1, q.2, by omega⟩, fun i H v H' _ q y => ?_⟩
  · have h1 : i < xs.length := by omega
    have h2 : i < ys.length := by omega
    exact ⟨xs, ys, xs[i], ys[i], q.1, q.2, by simp [h1], by simp [h2]⟩
  · obtain ⟨T, x, z, h1, h2, h3, h4, h5⟩ := y
    exact ⟨T, x, z, h1, h2, h3, h4 xs q.1, h5 ys q.2⟩
theorem pi_zipB {X : Cx} {e e2 : Expr} {ta : TA} {p pos tpos : Pos} {elts : List Expr} {kk : Nat} (hg : Gl X "zip") (hm : X.mg "zip" = none) (ha : PA X [e, e2] ta)
    (hs : starEach [e, e2] X.env = (false, eval e X.env) :: starEach [e2] X.env) (hpl : (backTo pos (starEach [e2] X.env)).any (·.1) = false) :
    PI X (.Tuple elts kk tpos) (.Call (.Name "zip" p) [e, e2] [] pos) (fun σ H R => ta σ H fun vs H1 => ∃ a b xs ys, vs = [.ref a, .ref b] ∧ ((SqL X.K H1 a xs ∧ SqL X.K H1 b ys ∧ (xs.length ≤ sizeLine → R (Itz X.K a b) H1)) ∨ (SqT X.K H1 a xs ∧ SqT X.K H1 b ys ∧ (xs.length ≤ sizeLine → R (RZ.ItzT X.K a b) H1)))) := by
  refine ⟨fun pins s σ H R I h => ?_⟩
  refine Call_ (ld_blt I hg hm PyProof.Rows.boot_zip (PyProof.Rows.callWith_type1 (thn (ha.run pos pins s σ H _ I h) fun us s1 ⟨vs, H1, I1, r1, q1⟩ => ?_) hs hpl))
  obtain ⟨a, b, xs, ys, ex, q1⟩ := q1
  subst ex
  cases r1 with
  | cons r rr =>
    cases rr with
    | cons r' rr =>
      cases rr
      cases r
      cases r'
      have fresh5 : ∀ c, c ∈ [s1.heap.objs.size + 4, s1.heap.objs.size + 2, s1.heap.objs.size + 3, s1.heap.objs.size, s1.heap.objs.size + 1] → FpOk X pins H1 c := fun c hcm => by
        have e' : c = s1.heap.objs.size + 4 ∨ c = s1.heap.objs.size + 2 ∨ c = s1.heap.objs.size + 3 ∨ c = s1.heap.objs.size ∨ c = s1.heap.objs.size + 1 := by simpa using hcm
        have hle : s1.heap.objs.size ≤ c := by
          rcases e' with z | z | z | z | z
          · rw [z]; exact Nat.le_add_right _ _
          · rw [z]; exact Nat.le_add_right _ _
          · rw [z]; exact Nat.le_add_right _ _
          · rw [z]; exact Nat.le_refl _
          · rw [z]; exact Nat.le_add_right _ _
        exact I1.fpOk hle (I1.hok.fresh hle)
      rcases q1 with ⟨hqx, hqy, q⟩ | ⟨hqx, hqy, q⟩
      · obtain ⟨its, rv, p1, hz0⟩ := I1.list hqx
        obtain ⟨its2, rv2, p2, _⟩ := I1.list hqy
        refine call_zip_2 p1.isList p2.isList fun h' hz hTI hTO h1 h2 hsz hk => wpAny_pyIter_zip hz ?_
        have I2 : Inv X pins σ H1 { s1 with heap := h' } := I1.kept (t' := s1.toks) hk
        exact ⟨s1.heap.objs.size + 4, [s1.heap.objs.size + 4, s1.heap.objs.size + 2, s1.heap.objs.size + 3, s1.heap.objs.size, s1.heap.objs.size + 1], _, _, H1, rfl, I2, turn_zip (PySem.W.ktu_apart s1.heap.objs.size a b p1.lt p2.lt), ⟨hz, hTI, ⟨_, _, hTO⟩, h1, h2⟩, fresh5, q hz0⟩
      · obtain ⟨its, rv, p1, hz0⟩ := I1.tuple hqx
        obtain ⟨its2, rv2, p2, _⟩ := I1.tuple hqy
        obtain ⟨o1, ho1, _⟩ := id p1
        obtain ⟨o2, ho2, _⟩ := id p2
        refine RZ.call_zipT (show s1.heap.IsTuple a its.toArray from p1) (show s1.heap.IsTuple b its2.toArray from p2) fun h' hz hTI hTO h1 h2 hsz hk => wpAny_pyIter_zip hz ?_
        have I2 : Inv X pins σ H1 { s1 with heap := h' } := I1.kept (t' := s1.toks) hk
        exact ⟨s1.heap.objs.size + 4, [s1.heap.objs.size + 4, s1.heap.objs.size + 2, s1.heap.objs.size + 3, s1.heap.objs.size, s1.heap.objs.size + 1], _, _, H1, rfl, I2, RZ.turn_zipT (PySem.W.ktu_apart s1.heap.objs.size a b (Heap.lt_size ho1) (Heap.lt_size ho2)), ⟨hz, hTI, ⟨_, _, hTO⟩, h1, h2⟩, fresh5, q hz0⟩
/-- a list or a tuple -/
theorem pi_seq {X : Cx} {tg l : Expr} {tl : TE} (hl : PE X l tl) : PI X tg l (fun σ H R => tl σ H fun x H1 => ∃ a xs, x = .ref a ∧ ((SqL X.K H1 a xs ∧ (xs.length ≤ sizeLine → R (Itl X.K a) H1)) ∨ (SqT X.K H1 a xs ∧ (xs.length ≤ sizeLine → R (Itt X.K a) H1)))) := by
  refine ⟨fun pins s σ H R I h => ?_⟩
  refine thn (hl.run pins s σ H _ I h) fun v s1 ⟨x, H1, I1, r1, q1⟩ => ?_
  obtain ⟨a, xs, e, q1⟩ := q1
  subst e
  cases r1
  have fp1 : ∀ b, b ∈ [s1.heap.objs.size] → FpOk X pins H1 b := fun b hb => by
    have e : b = s1.heap.objs.size := by simpa using hb
    subst e
    exact I1.fpOk (Nat.le_refl _) (I1.hok.fresh (Nat.le_refl _))
  rcases q1 with ⟨hq, q⟩ | ⟨hq, q⟩
  · obtain ⟨its, rv, p, hz⟩ := I1.list hq
    refine wpAny_pyIter_list p.isList ?_
    exact ⟨s1.heap.objs.size, [s1.heap.objs.size], _, _, H1, rfl, I1.kept (t' := s1.toks) fun b o e => Heap.get?_push_of_some _ e, turn_list a _, ⟨_, Heap.get?_push_size _ rfl, rfl, rfl⟩, fp1, q hz⟩
  · obtain ⟨its, rv, p, hz⟩ := I1.tuple hq
    refine wpAny_pyIter_tuple (show s1.heap.IsTuple a its.toArray from p) ?_
    exact ⟨s1.heap.objs.size, [s1.heap.objs.size], _, _, H1, rfl, I1.kept (t' := s1.toks) fun b o e => Heap.get?_push_of_some _ e, turn_tuple a _, ⟨_, Heap.get?_push_size _ rfl, rfl, rfl⟩, fp1, q hz⟩

/-! ### walks by data -/
/-- the i-th datum is yielded, the heap perhaps grown -/
def YD (K : PySem.W.Frag) (F : Hp) (ds : List D) : Nat → Hp → V → Hp → Prop := fun i H x H' => Same H H' ∧ ∀ F1, Same F F1 → Same F1 H → ∃ F' d, Grow F1 H F' H' ∧ ds[i]? = some d ∧ Rp K F' x d
abbrev WalkD (K : PySem.W.Frag) (J : It) (F : Hp) (ds : List D) : Prop := Walk J ds.length (fun H => Same F H) (YD K F ds)
def PostW (K : PySem.W.Frag) (XX : XW) (F H : Hp) (r : Res (List D)) (R : It → Hp → Prop) : Prop := match r with
  | .ok ds => ∀ J F' H', Same H H' → Grow F H F' H' → WalkD K J F' ds → ds.length ≤ sizeLine → R J H'
  | .exc c => ∀ H', Same H H' → XX c H'
  | .stuck => False
abbrev DI (X : Cx) (W : WX0) (tg iter : Expr) (fi : En → Res (List D)) : Prop := PI X tg iter (fun σ H R => ∃ env F, ERx X.K W.T F H σ env ∧ PostW X.K (fun c => W c σ) F H (fi env) R)
theorem PI.imp {X : Cx} {tg e : Expr} {t t' : TI} (h : PI X tg e t') (i : ∀ σ H Q, t σ H Q → t' σ H Q) : PI X tg e t := ⟨fun pins s σ H Q I q => h.run pins s σ H Q I (i σ H Q q)⟩
theorem walkD_same {K : PySem.W.Frag} {J : It} {F : Hp} {vs : List V} {ds : List D} {G : Hp → Prop} (w : Walk J ds.length G (YAt vs)) (r : RpL K F vs ds) (hG : ∀ H, Same F H → G H) : WalkD K J F ds :=
  w.mono hG fun i H x H' hi s y => by
    obtain ⟨e, h⟩ := y
    subst e
    obtain ⟨d, h1, h2⟩ := r.get h
    exact ⟨Same.refl _, fun F1 a b => ⟨F1, d, Grow.refl b, h1, h2.mono a⟩⟩
theorem walkD_pair {K : PySem.W.Frag} {J : It} {F : Hp} {f g : Nat → Option V} {ds : List D} {G : Hp → Prop} (w : Walk J ds.length G (YPair f g)) (hG : ∀ H, Same F H → G H)
    (r : ∀ i x y, f i = some x → g i = some y → ∃ d e, ds[i]? = some (.tuple [d, e]) ∧ Rp K F x d ∧ Rp K F y e) : WalkD K J F ds :=
  w.mono hG fun i H v H' hi s y => by
    obtain ⟨T, x, y, rfl, hT, rfl, h1, h2⟩ := y
    obtain ⟨d, e, h3, r1, r2⟩ := r i x y h1 h2
    exact ⟨same_upd hT, fun F1 a b => ⟨_, _, Grow.upd b hT, h3, Rp.newT (b.free hT) (.cons (r1.mono a) (.cons (r2.mono a) .nil))⟩⟩
theorem walkD_fn {K : PySem.W.Frag} {J : It} {F : Hp} {f : Nat → V} {ds : List D} {G : Hp → Prop} (w : Walk J ds.length G (YFn f)) (hG : ∀ H, Same F H → G H) (r : ∀ i, i < ds.length → ∃ d, ds[i]? = some d ∧ Rp K F (f i) d) : WalkD K J F ds :=
  w.mono hG fun i H x H' hi s y => by
    obtain ⟨e, h⟩ := y
    subst e h
    obtain ⟨d, h1, h2⟩ := r i hi
    exact ⟨Same.refl _, fun F1 a b => ⟨F1, d, Grow.refl b, h1, h2.mono a⟩⟩
def asSeq : D → Res (List D)
  | .list xs => .ok xs
  | .tuple xs => .ok xs
  | _ => .stuck
def okR (i : Int) : Bool := decide (-1000000 ≤ i ∧ i ≤ 1000000)
def rangeD (lo : Int) (n : Nat) : List D := (List.range n).map fun (i : Nat) => .int (lo + i)
def rangeDC (lo c : Int) (n : Nat) : List D := (List.range n).map fun (i : Nat) => .int (lo + i * c)
def iRange : List D → Res (List D)
  | [.int n] => if okR n then .ok (rangeD 0 n.toNat) else .stuck
  | [.int a, .int b] => if okR a && okR b then .ok (rangeD a (b - a).toNat) else .stuck
  | [.int a, .int b, .int c] => if okR a && okR b && (c == -1) then .ok (rangeDC a (-1) (a - b).toNat) else .stuck
  | _ => .stuck
def enumD (i : Nat) : List D → List D
  | [] => []
  | x :: r => .tuple [.int (i : Nat), x] :: enumD (i + 1) r
def zipD : List D → List D → List D
  | x :: xs, y :: ys => .tuple [x, y] :: zipD xs ys
  | _, _ => []
def iEnumD : List D → Res (List D)
  | [.list xs] => .ok (enumD 0 xs)
  | [.tuple xs] => .ok (enumD 0 xs)
  | _ => .stuck
def iZipD : List D → Res (List D)
  | [.list xs, .list ys] => .ok (zipD xs ys)
  | [.tuple xs, .tuple ys] => .ok (zipD xs ys)
  | _ => .stuck
def wSeq (f : SF) : En → Res (List D) := fun env => (f env).bind asSeq
def wCall (g : List D → Res (List D)) (fs : List SF) : En → Res (List D) := fun env => (vL fs env).bind g
theorem enumD_length : ∀ (xs : List D) (i : Nat), (enumD i xs).length = xs.length
  | [], _ => rfl
  | x :: r, i => by rw [enumD, List.length_cons, List.length_cons, enumD_length r]
theorem enumD_get : ∀ (xs : List D) (k i : Nat) (d : D), xs[i]? = some d → (enumD k xs)[i]? = some (.tuple [.int ((k + i : Nat) : Int), d])
  | [], _, _, _, h => by simp at h
  | x :: r, k, 0, d, h => by
    simp at h
    subst h
    rw [enumD]
    simp
  | x :: r, k, i + 1, d, h => by
    rw [enumD]
    have := enumD_get r (k + 1) i d (by simpa using h)
    rw [List.getElem?_cons_succ, this]
    have e : k + 1 + i = k + (i + 1) := by omega
    rw [e]
theorem zipD_length : ∀ (xs ys : List D), (zipD xs ys).length = min xs.length ys.length
  | [], _ => by simp [zipD]
  | _ :: _, [] => by simp [zipD]
  | x :: xs, y :: ys => by
    rw [zipD, List.length_cons, List.length_cons, List.length_cons, zipD_length xs ys]
    omega
theorem zipD_get : ∀ (xs ys : List D) (i : Nat) (d e : D), xs[i]? = some d → ys[i]? = some e → (zipD xs ys)[i]? = some (.tuple [d, e])
  | [], _, _, _, _, h, _ => by simp at h
  | _ :: _, [], _, _, _, _, h => by simp at h
  | x :: xs, y :: ys, 0, d, e, h1, h2 => by
    simp at h1 h2
    subst h1 h2
    rw [zipD]
    simp
  | x :: xs, y :: ys, i + 1, d, e, h1, h2 => by
    rw [zipD, List.getElem?_cons_succ]
    exact zipD_get xs ys i d e (by simpa using h1) (by simpa using h2)
theorem postW_bind {K : PySem.W.Frag} {XX : XW} {F H : Hp} {r : Res D} {f : D → Res (List D)} {R : It → Hp → Prop} (h : PostW K XX F H (r.bind f) R) {Q' : VK}
    (k : ∀ d v F1 H1, r = .ok d → Same H H1 → Grow F H F1 H1 → Rp K F1 v d → PostW K XX F1 H1 (f d) R → Q' v H1) : Post K XX F H r Q' := by
  cases r with
  | ok d =>
    refine fun v F1 H1 e g q => k d v F1 H1 rfl e g q ?_
    have h : PostW K XX F H (f d) R := h
    cases hf : f d with
    | ok ds =>
      rw [hf] at h
      exact fun J F' H' e' g' => h J F' H' (e.trans e') (g.trans e g')
    | exc c =>
      rw [hf] at h
      exact fun H' e' => h H' (e.trans e')
    | stuck =>
      rw [hf] at h
      exact h
  | exc c => exact h
  | stuck => exact h
theorem postW_bindL {K : PySem.W.Frag} {XX : XW} {F H : Hp} {r : Res (List D)} {f : List D → Res (List D)} {R : It → Hp → Prop} (h : PostW K XX F H (r.bind f) R) {Q' : List V → Hp → Prop}
    (k : ∀ ds vs F1 H1, r = .ok ds → Same H H1 → Grow F H F1 H1 → RpL K F1 vs ds → PostW K XX F1 H1 (f ds) R → Q' vs H1) : PostL K XX F H r Q' := by
  cases r with
  | ok d =>
    refine fun v F1 H1 e g q => k d v F1 H1 rfl e g q ?_
    have h : PostW K XX F H (f d) R := h
    cases hf : f d with
    | ok ds =>
      rw [hf] at h
      exact fun J F' H' e' g' => h J F' H' (e.trans e') (g.trans e g')
    | exc c =>
      rw [hf] at h
      exact fun H' e' => h H' (e.trans e')
    | stuck =>
      rw [hf] at h
      exact h
  | exc c => exact h
  | stuck => exact h
theorem PostW.ok0 {K : PySem.W.Frag} {XX : XW} {F H : Hp} {ds : List D} {R : It → Hp → Prop} (h : PostW K XX F H (.ok ds) R) (s : Same F H) {J : It} (w : WalkD K J F ds) (hl : ds.length ≤ sizeLine) : R J H := h J F H (Same.refl _) (Grow.refl s) w hl
section
variable {X : Cx} {W : WX0} {a b c : Expr} {fa fb fc : SF} {pos p : Pos} {tg : Expr}
theorem di_seq (ha : DE X W a fa) : DI X W tg a (wSeq fa) := PI.imp (pi_seq ha) fun σ H R ⟨env, F, er, q⟩ => ⟨env, F, er, postW_bind q fun d v F1 H1 _ e1 g1 r1 q1 => by
  unfold asSeq at q1
  split at q1
  · obtain ⟨a, xs, rfl, h1, h2⟩ := r1.lst'
    refine ⟨a, xs, rfl, .inl ⟨(h1.mono g1.sub).seq, fun hz => q1.ok0 g1.sub ?_ (by rw [← h2.length]; exact hz)⟩⟩
    exact walkD_same (G := fun H => SqL X.K H a xs) (by rw [← h2.length]; exact walk_list) h2 fun H s => (h1.mono s).seq
  · obtain ⟨a, xs, rfl, h1, h2⟩ := r1.tup'
    refine ⟨a, xs, rfl, .inr ⟨sqT_mono g1.sub h1, fun hz => q1.ok0 g1.sub ?_ (by rw [← h2.length]; exact hz)⟩⟩
    exact walkD_same (G := fun H => SqT X.K H a xs) (by rw [← h2.length]; exact walk_tup) h2 fun H s => sqT_mono s h1
  · exact q1.elim⟩
theorem rangeD_length (lo : Int) (n : Nat) : (rangeD lo n).length = n := by unfold rangeD; simp
theorem rangeDC_length (lo c : Int) (n : Nat) : (rangeDC lo c n).length = n := by unfold rangeDC; simp
theorem rangeD_get {lo : Int} {n i : Nat} (h : i < n) : (rangeD lo n)[i]? = some (.int (lo + i)) := by unfold rangeD; simp [h]
theorem rangeDC_get {lo c : Int} {n i : Nat} (h : i < n) : (rangeDC lo c n)[i]? = some (.int (lo + i * c)) := by unfold rangeDC; simp [h]
theorem walkD_range {K : PySem.W.Frag} {F : Hp} {lo : Int} {n : Nat} : WalkD K (Itr lo n) F (rangeD lo n) :=
  walkD_fn (f := fun i => .int (lo + i)) (by rw [rangeD_length]; exact walk_range) (fun _ _ => trivial) fun i hi => ⟨_, rangeD_get (by rwa [rangeD_length] at hi), .int _⟩
theorem walkD_rangeC {K : PySem.W.Frag} {F : Hp} {lo c : Int} {n : Nat} : WalkD K (Itc lo c n) F (rangeDC lo c n) :=
  walkD_fn (f := fun (i : Nat) => .int (lo + i * c)) (by rw [rangeDC_length]; exact walk_rangeC) (fun _ _ => trivial) fun i hi => ⟨_, rangeDC_get (by rwa [rangeDC_length] at hi), .int _⟩
theorem okR_ {i : Int} (h : okR i = true) : -1000000 ≤ i ∧ i ≤ 1000000 := of_decide_eq_true h
theorem three' {K : PySem.W.Frag} {F : Hp} {vs : List V} {d e f : D} (r : RpL K F vs [d, e, f]) : ∃ v w u, vs = [v, w, u] ∧ Rp K F v d ∧ Rp K F w e ∧ Rp K F u f := by
  cases r with
  | cons a b =>
    obtain ⟨v, w, rfl, r1, r2⟩ := two' b
    exact ⟨_, _, _, rfl, a, r1, r2⟩
theorem di_range1 (hg : Gl X "range") (hm : X.mg "range" = none) (ha : DA X W [a] (vL [fa])) (hs : starEach [a] X.env = [(false, eval a X.env)]) : DI X W tg (.Call (.Name "range" p) [a] [] pos) (wCall iRange [fa]) :=
  PI.imp (pi_range1 hg hm ha hs) fun σ H R ⟨env, F, er, q⟩ => ⟨env, F, er, postW_bindL q fun ds vs F1 H1 e0 e1 g1 r1 q1 => by
    have hl := vL_length e0
    unfold iRange at q1
    split at q1
    · split at q1
      · rename_i hk
        obtain ⟨v, rfl, r⟩ := one' r1
        obtain rfl := r.int'
        have := okR_ hk
        exact ⟨_, rfl, by omega, by omega, q1.ok0 g1.sub walkD_range (by rw [rangeD_length, sizeLine_eq]; omega)⟩
      · exact q1.elim
    · simp at hl
    · simp at hl
    · exact q1.elim⟩
theorem di_range2 (hg : Gl X "range") (hm : X.mg "range" = none) (ha : DA X W [a, b] (vL [fa, fb])) (hs : starEach [a, b] X.env = [(false, eval a X.env), (false, eval b X.env)]) (hs2 : starEach [b] X.env = [(false, eval b X.env)]) : DI X W tg (.Call (.Name "range" p) [a, b] [] pos) (wCall iRange [fa, fb]) :=
  PI.imp (pi_range2 hg hm ha hs hs2) fun σ H R ⟨env, F, er, q⟩ => ⟨env, F, er, postW_bindL q fun ds vs F1 H1 e0 e1 g1 r1 q1 => by
    have hl := vL_length e0
    unfold iRange at q1
    split at q1
    · simp at hl
    · split at q1
      · rename_i hk
        rw [Bool.and_eq_true] at hk
        obtain ⟨v, w, rfl, r, r'⟩ := two' r1
        obtain rfl := r.int'
        obtain rfl := r'.int'
        have h1 := okR_ hk.1
        have h2 := okR_ hk.2
        exact ⟨_, _, rfl, ⟨by omega, by omega, by omega, by omega⟩, q1.ok0 g1.sub walkD_range (by rw [rangeD_length, sizeLine_eq]; omega)⟩
      · exact q1.elim
    · simp at hl
    · exact q1.elim⟩
theorem di_range3 (hg : Gl X "range") (hm : X.mg "range" = none) (ha : DA X W [a, b, c] (vL [fa, fb, fc])) (hs : starEach [a, b, c] X.env = (false, eval a X.env) :: starEach [b, c] X.env) (hpl : (backTo pos (starEach [b, c] X.env)).any (·.1) = false) : DI X W tg (.Call (.Name "range" p) [a, b, c] [] pos) (wCall iRange [fa, fb, fc]) :=
  PI.imp (pi_range3 hg hm ha hs hpl) fun σ H R ⟨env, F, er, q⟩ => ⟨env, F, er, postW_bindL q fun ds vs F1 H1 e0 e1 g1 r1 q1 => by
    have hl := vL_length e0
    unfold iRange at q1
    split at q1
    · simp at hl
    · simp at hl
    · split at q1
      · rename_i hk
        rw [Bool.and_eq_true, Bool.and_eq_true] at hk
        obtain ⟨v, w, u, rfl, r, r', r''⟩ := three' r1
        obtain rfl := r.int'
        obtain rfl := r'.int'
        obtain rfl := r''.int'
        have h1 := okR_ hk.1.1
        have h2 := okR_ hk.1.2
        have h3 := eq_of_beq hk.2
        subst h3
        exact ⟨_, _, _, _, rfl, RgC.neg (by omega) (by omega) (by omega) (by omega), q1.ok0 g1.sub walkD_rangeC (by rw [rangeDC_length, sizeLine_eq]; omega)⟩
      · exact q1.elim
    · exact q1.elim⟩
theorem di_enum {elts : List Expr} {kk : Nat} {tpos : Pos} (hg : Gl X "enumerate") (hm : X.mg "enumerate" = none) (ha : DA X W [a] (vL [fa])) (hs : starEach [a] X.env = [(false, eval a X.env)]) : DI X W (.Tuple elts kk tpos) (.Call (.Name "enumerate" p) [a] [] pos) (wCall iEnumD [fa]) :=
  PI.imp (pi_enumA hg hm ha hs) fun σ H R ⟨env, F, er, q⟩ => ⟨env, F, er, postW_bindL q fun ds vs F1 H1 e0 e1 g1 r1 q1 => by
    unfold iEnumD at q1
    split at q1
    · obtain ⟨v, rfl, r⟩ := one' r1
      obtain ⟨a, xs, rfl, h1, h2⟩ := r.lst'
      refine ⟨a, xs, rfl, .inl ⟨(h1.mono g1.sub).seq, fun hz => q1.ok0 g1.sub (hl := by rw [enumD_length, ← h2.length]; exact hz) (walkD_pair (G := fun H => SqL X.K H a xs) (by rw [enumD_length, ← h2.length]; exact walk_enum) (fun H s => (h1.mono s).seq) fun i x y hx hy => ?_)⟩⟩
      cases hx
      obtain ⟨d, h3, h4⟩ := h2.get hy
      exact ⟨_, d, by rw [enumD_get _ _ _ _ h3, Nat.zero_add], .int _, h4⟩
    · obtain ⟨v, rfl, r⟩ := one' r1
      obtain ⟨a, xs, rfl, h1, h2⟩ := r.tup'
      refine ⟨a, xs, rfl, .inr ⟨sqT_mono g1.sub h1, fun hz => q1.ok0 g1.sub (hl := by rw [enumD_length, ← h2.length]; exact hz) (walkD_pair (G := fun H => SqT X.K H a xs) (by rw [enumD_length, ← h2.length]; exact walk_enumT) (fun H s => sqT_mono s h1) fun i x y hx hy => ?_)⟩⟩
      cases hx
      obtain ⟨d, h3, h4⟩ := h2.get hy
      exact ⟨_, d, by rw [enumD_get _ _ _ _ h3, Nat.zero_add], .int _, h4⟩
    · exact q1.elim⟩
theorem di_zip {elts : List Expr} {kk : Nat} {tpos : Pos} (hg : Gl X "zip") (hm : X.mg "zip" = none) (ha : DA X W [a, b] (vL [fa, fb])) (hs : starEach [a, b] X.env = (false, eval a X.env) :: starEach [b] X.env) (hpl : (backTo pos (starEach [b] X.env)).any (·.1) = false) :
    DI X W (.Tuple elts kk tpos) (.Call (.Name "zip" p) [a, b] [] pos) (wCall iZipD [fa, fb]) :=
  PI.imp (pi_zipB hg hm ha hs hpl) fun σ H R ⟨env, F, er, q⟩ => ⟨env, F, er, postW_bindL q fun ds vs F1 H1 e0 e1 g1 r1 q1 => by
    unfold iZipD at q1
    split at q1
    · obtain ⟨v, w, rfl, r, r'⟩ := two' r1
      obtain ⟨a, xs, rfl, h1, h2⟩ := r.lst'
      obtain ⟨b, ys, rfl, h3, h4⟩ := r'.lst'
      refine ⟨a, b, xs, ys, rfl, .inl ⟨(h1.mono g1.sub).seq, (h3.mono g1.sub).seq, fun hz => q1.ok0 g1.sub (hl := by rw [zipD_length, ← h2.length]; exact Nat.le_trans (Nat.min_le_left _ _) hz) (walkD_pair (walk_zip (by rw [zipD_length, h2.length, h4.length])) (fun H s => ⟨(h1.mono s).seq, (h3.mono s).seq⟩) fun i x y hx hy => ?_)⟩⟩
      obtain ⟨d, h5, h6⟩ := h2.get hx
      obtain ⟨e, h7, h8⟩ := h4.get hy
      exact ⟨d, e, zipD_get _ _ _ _ _ h5 h7, h6, h8⟩
    · obtain ⟨v, w, rfl, r, r'⟩ := two' r1
      obtain ⟨a, xs, rfl, h1, h2⟩ := r.tup'
      obtain ⟨b, ys, rfl, h3, h4⟩ := r'.tup'
      refine ⟨a, b, xs, ys, rfl, .inr ⟨sqT_mono g1.sub h1, sqT_mono g1.sub h3, fun hz => q1.ok0 g1.sub (hl := by rw [zipD_length, ← h2.length]; exact Nat.le_trans (Nat.min_le_left _ _) hz) (walkD_pair (walk_zipT (by rw [zipD_length, h2.length, h4.length])) (fun H s => ⟨sqT_mono s h1, sqT_mono s h3⟩) fun i x y hx hy => ?_)⟩⟩
      obtain ⟨d, h5, h6⟩ := h2.get hx
      obtain ⟨e, h7, h8⟩ := h4.get hy
      exact ⟨d, e, zipD_get _ _ _ _ _ h5 h7, h6, h8⟩
    · exact q1.elim⟩
end
end SH


set_option Elab.async false
set_option linter.all false
set_option maxRecDepth 100000
set_option maxHeartbeats 4000000
/-! The layer, part g: targets, list comprehensions. -/
namespace SH
open PySem PySem.Spec PyProof.Rows L2

/-! ### targets -/
mutual
inductive Tgt where
  | slot (i : Nat)
  | tup (ts : Tgts)
  deriving DecidableEq
inductive Tgts where
  | nil
  | cons (t : Tgt) (ts : Tgts)
  deriving DecidableEq
end
mutual
def bindT : Tgt → D → En → Option En
  | .slot i, d, env => some (env.set i (some d))
  | .tup ts, .tuple ds, env => bindTs ts ds env
  | .tup _, _, _ => none
def bindTs : Tgts → List D → En → Option En
  | .nil, [], env => some env
  | .cons t ts, d :: ds, env => match bindT t d env with
    | some env' => bindTs ts ds env'
    | none => none
  | .nil, _ :: _, _ => none
  | .cons _ _, [], _ => none
def Tgt.slots : Tgt → List Nat
  | .slot i => [i]
  | .tup ts => ts.slots
def Tgts.slots : Tgts → List Nat
  | .nil => []
  | .cons t ts => t.slots ++ ts.slots
end
def Tgts.len : Tgts → Nat
  | .nil => 0
  | .cons _ ts => ts.len + 1
theorem bindTs_len : ∀ {ts : Tgts} {ds : List D} {env env' : En}, bindTs ts ds env = some env' → ds.length = ts.len
  | .nil, [], _, _, _ => rfl
  | .cons t ts, d :: ds, env, env', h => by
    rw [bindTs] at h
    split at h
    · rw [List.length_cons, bindTs_len h, Tgts.len]
    · cases h
  | .nil, _ :: _, _, _, h => by simp [bindTs] at h
  | .cons _ _, [], _, _, h => by simp [bindTs] at h
/-- only the slots vs differ -/
def Chg (vs : List Nat) (σ σ' : L2.St) : Prop := σ'.length = σ.length ∧ ∀ j, j ∉ vs → σ'[j]? = σ[j]?
theorem Chg.trans {vs ws : List Nat} {a b c : L2.St} (h : Chg vs a b) (k : Chg ws b c) : Chg (vs ++ ws) a c := ⟨k.1.trans h.1, fun j hj => by
  rw [List.mem_append, not_or] at hj
  exact (k.2 j hj.2).trans (h.2 j hj.1)⟩
theorem Chg.set (σ : L2.St) (i : Nat) (v : Option V) : Chg [i] σ (σ.set i v) := ⟨by simp, fun j hj => List.getElem?_set_ne (fun e => hj (by simp [e]))⟩
theorem wipe_get (σ : L2.St) : ∀ (vs : List Nat) (j : Nat), (wipe σ vs)[j]? = if j ∈ vs then (σ[j]?).map (fun _ => none) else σ[j]?
  | [], j => by simp [wipe]
  | v :: vs, j => by
    unfold wipe
    by_cases h : v = j
    · subst h
      rw [List.getElem?_set_self']
      simp only [List.mem_cons, true_or, if_true]
      rw [wipe_get σ vs v]
      by_cases hm : v ∈ vs
      · rw [if_pos hm]
        cases σ[v]? <;> rfl
      · rw [if_neg hm]
        cases σ[v]? <;> rfl
    · rw [List.getElem?_set_ne h, wipe_get σ vs j]
      have : (j ∈ v :: vs) ↔ j ∈ vs := by simp [Ne.symm h]
      by_cases hm : j ∈ vs
      · rw [if_pos hm, if_pos (this.mpr hm)]
      · rw [if_neg hm, if_neg (fun z => hm (this.mp z))]
theorem Chg.wipe {vs ws : List Nat} {σ σ' : L2.St} (h : Chg vs σ σ') (hs : ∀ i ∈ vs, i ∈ ws) : L2.wipe σ' ws = L2.wipe σ ws := by
  apply List.ext_getElem?
  intro j
  rw [wipe_get, wipe_get]
  by_cases hj : j ∈ ws
  · rw [if_pos hj, if_pos hj]
    have hl := h.1
    by_cases hlt : j < σ.length
    · rw [List.getElem?_eq_getElem hlt, List.getElem?_eq_getElem (by omega)]
      rfl
    · rw [List.getElem?_eq_none (by omega), List.getElem?_eq_none (by omega)]
  · rw [if_neg hj, if_neg hj]
    exact h.2 j fun z => hj (hs j z)
def wipeE (env : En) : List Nat → En
  | [] => env
  | v :: vs => (wipeE env vs).set v none
theorem wipeE_get (σ : En) : ∀ (vs : List Nat) (j : Nat), (wipeE σ vs)[j]? = if j ∈ vs then (σ[j]?).map (fun _ => none) else σ[j]?
  | [], j => by simp [wipeE]
  | v :: vs, j => by
    unfold wipeE
    by_cases h : v = j
    · subst h
      rw [List.getElem?_set_self']
      simp only [List.mem_cons, true_or, if_true]
      rw [wipeE_get σ vs v]
      by_cases hm : v ∈ vs
      · rw [if_pos hm]
        cases σ[v]? <;> rfl
      · rw [if_neg hm]
        cases σ[v]? <;> rfl
    · rw [List.getElem?_set_ne h, wipeE_get σ vs j]
      have : (j ∈ v :: vs) ↔ j ∈ vs := by simp [Ne.symm h]
      by_cases hm : j ∈ vs
      · rw [if_pos hm, if_pos (this.mpr hm)]
      · rw [if_neg hm, if_neg (fun z => hm (this.mp z))]
theorem wipeE_length (σ : En) : ∀ vs : List Nat, (wipeE σ vs).length = σ.length
  | [] => rfl
  | v :: vs => by unfold wipeE; rw [List.length_set, wipeE_length σ vs]
section
variable {K : PySem.W.Frag} {T : TB} {F H : Hp} {σ : L2.St} {env : En}
theorem ERx.wipe (e : ERx K T F H σ env) (vs : List Nat) : ERx K T F H (L2.wipe σ vs) (wipeE env vs) := ⟨e.sub, e.tb, by rw [wipeE_length, wipe_length]; exact e.len, fun i d h => by
  rw [wipeE_get] at h
  by_cases hm : i ∈ vs
  · rw [if_pos hm] at h
    cases q : env[i]? with
    | none => rw [q] at h; cases h
    | some o => rw [q] at h; cases h
  · rw [if_neg hm] at h
    obtain ⟨v, h1, h2⟩ := e.at_ i d h
    exact ⟨v, by rw [wipe_get, if_neg hm]; exact h1, h2⟩⟩
theorem ERx.set (e : ERx K T F H σ env) (i : Nat) {v : V} {d : D} (r : Rp K F v d) : ERx K T F H (σ.set i (some v)) (env.set i (some d)) := ⟨e.sub, e.tb, by simp [e.len], fun j d' h => by
  by_cases hj : i = j
  · subst hj
    by_cases hl : i < env.length
    · rw [List.getElem?_set_self hl] at h
      cases h
      exact ⟨v, List.getElem?_set_self (by rw [← e.len]; exact hl), r⟩
    · rw [List.getElem?_eq_none (by simpa using hl)] at h
      cases h
  · rw [List.getElem?_set_ne hj] at h
    obtain ⟨v', h1, h2⟩ := e.at_ j d' h
    exact ⟨v', by rw [List.getElem?_set_ne hj]; exact h1, h2⟩⟩
end
def tgOf (K : PySem.W.Frag) (t : Tgt) : TG := fun v σ H Q => ∃ T env F d env', ERx K T F H σ env ∧ Rp K F v d ∧ bindT t d env = some env' ∧ ∀ σ', ERx K T F H σ' env' → Chg t.slots σ σ' → Q σ' H
def tgsOf (K : PySem.W.Frag) (t : Tgts) : TGs := fun vs σ H Q => ∃ T env F ds env', ERx K T F H σ env ∧ RpL K F vs ds ∧ bindTs t ds env = some env' ∧ ∀ σ', ERx K T F H σ' env' → Chg t.slots σ σ' → Q σ' H
abbrev DG (X : Cx) (tg : Expr) (t : Tgt) : Prop := PG X tg (tgOf X.K t)
abbrev DGs (X : Cx) (tg : List Expr) (t : Tgts) : Prop := PGs X tg (tgsOf X.K t)
theorem PG.imp {X : Cx} {tg : Expr} {t t' : TG} (h : PG X tg t') (i : ∀ v σ H Q, t v σ H Q → t' v σ H Q) : PG X tg t := ⟨fun pins s σ H v u Q I r q => h.run pins s σ H v u Q I r (i v σ H Q q)⟩
theorem PGs.imp {X : Cx} {tg : List Expr} {t t' : TGs} (h : PGs X tg t') (i : ∀ v σ H Q, t v σ H Q → t' v σ H Q) : PGs X tg t := ⟨fun pins s σ H v u Q I r q => h.run pins s σ H v u Q I r (i v σ H Q q)⟩
section
variable {X : Cx} {pos : Pos}
theorem dg_slot {i : Nat} {x : Str} (hN : X.N.Nodup) (hi : X.N[i]? = some x) (hx : Loc X.env.scope x) (hf : X.fn x = true ∨ X.env.scope.names.lookup x = some .local) : DG X (.Name x pos) (.slot i) :=
  PG.imp (pg_name hN hi hx hf) fun v σ H Q ⟨T, env, F, d, env', er, r, h, q⟩ => by
    rw [bindT] at h
    cases h
    exact q _ (er.set i r) (Chg.set σ i _)
theorem dgs_nil : DGs X [] .nil := PGs.imp pgs_nil fun vs σ H Q ⟨T, env, F, ds, env', er, r, h, q⟩ => by
  cases r with
  | nil =>
    rw [bindTs] at h
    cases h
    exact ⟨rfl, q _ er ⟨rfl, fun _ _ => rfl⟩⟩
  | cons a b => simp [bindTs] at h
theorem dgs_cons {e : Expr} {es : List Expr} {t : Tgt} {ts : Tgts} (h1 : DG X e t) (h2 : DGs X es ts) (hs : (assignEach (e :: es) X.env).map (·.2) = assign e X.env :: (assignEach es X.env).map (·.2)) : DGs X (e :: es) (.cons t ts) :=
  PGs.imp (pgs_cons h1 h2 hs) fun vs σ H Q ⟨T, env, F, ds, env', er, r, h, q⟩ => by
    cases r with
    | nil => simp [bindTs] at h
    | cons a b =>
      rw [bindTs] at h
      split at h
      · rename_i env1 h1
        exact ⟨_, _, rfl, T, env, F, _, env1, er, a, h1, fun σ1 er1 c1 => ⟨T, env1, F, _, env', er1, b, h, fun σ2 er2 c2 => q σ2 er2 (c1.trans c2)⟩⟩
      · cases h
theorem dg_tup {es : List Expr} {k : Nat} {ts : Tgts} (hc : X.calm = true) (h : DGs X es ts) (hn : (assignEach es X.env).length = ts.len) (hst : (assignEach es X.env).findIdx? (·.1) = none) : DG X (.Tuple es k pos) (.tup ts) :=
  PG.imp (pg_tup hc h hn hst) fun v σ H Q ⟨T, env, F, d, env', er, r, h, q⟩ => by
    cases d with
    | tuple ds =>
      rw [bindT] at h
      obtain ⟨a, xs, rfl, h1, h2⟩ := r.tup'
      exact ⟨a, xs, rfl, sqT_mono er.sub h1, by rw [h2.length]; exact bindTs_len h, T, env, F, ds, env', er, h2, h, q⟩
    | _ => simp [bindT] at h
end

/-! ### list comprehensions -/
def noX {α : Type} : Res α → Res α
  | .exc _ => .stuck
  | r => r
def compGo (f : D → Res (Option D)) : List D → Res (List D)
  | [] => .ok []
  | d :: r => (f d).bind fun o => (compGo f r).bind fun ys => .ok (o.toList ++ ys)
/-- one turn -/
def compTurnD (t : Tgt) (vs : List Nat) (cond : Option (En → Res Bool)) (elt : SF) (env : En) (d : D) : Res (Option D) := match bindT t d (wipeE env vs) with
  | some env' => (match cond with
    | some c => noX (c env')
    | none => .ok true).bind fun k => if k = true then (noX (elt env')).bind fun y => .ok (some y) else .ok none
  | none => .stuck
def vComp (fi : En → Res (List D)) (t : Tgt) (vs : List Nat) (cond : Option (En → Res Bool)) (elt : SF) : SF := fun env => (fi env).bind fun ds => (compGo (compTurnD t vs cond elt env) ds).bind fun ys => .ok (.list ys)
/-- no exception -/
abbrev WX0.z (W : WX0) : WX0 := ⟨fun _ _ _ => False, W.T⟩
theorem noX_ok {α : Type} {r : Res α} {a : α} (h : noX r = .ok a) : r = .ok a := by
  cases r with
  | ok b => exact h
  | exc c => cases h
  | stuck => cases h
theorem Res.bind_eq_ok {α β : Type} {r : Res α} {f : α → Res β} {b : β} (h : r.bind f = .ok b) : ∃ a, r = .ok a ∧ f a = .ok b := by
  cases r with
  | ok a => exact ⟨a, rfl, h⟩
  | exc c => cases h
  | stuck => cases h
theorem compGo_snoc {f : D → Res (Option D)} {d : D} : ∀ {ds : List D} {ys : List D}, compGo f (ds ++ [d]) = .ok ys → ∃ ys' o, compGo f ds = .ok ys' ∧ f d = .ok o ∧ ys = ys' ++ o.toList
  | [], ys, h => by
    rw [List.nil_append, compGo] at h
    obtain ⟨o, h1, h2⟩ := Res.bind_eq_ok h
    refine ⟨[], o, rfl, h1, ?_⟩
    rw [compGo] at h2
    cases h2
    simp
  | x :: r, ys, h => by
    rw [List.cons_append, compGo] at h
    obtain ⟨o, h1, h2⟩ := Res.bind_eq_ok h
    obtain ⟨zs, h3, h4⟩ := Res.bind_eq_ok h2
    cases h4
    obtain ⟨ys', o', h5, h6, rfl⟩ := compGo_snoc h3
    refine ⟨o.toList ++ ys', o', ?_, h6, by simp⟩
    rw [compGo, h1, Res.bind_ok, h5, Res.bind_ok]
theorem compGo_pre {f : D → Res (Option D)} : ∀ {ds es : List D} {ys : List D}, compGo f (ds ++ es) = .ok ys → ∃ ys', compGo f ds = .ok ys'
  | [], _, _, _ => ⟨[], rfl⟩
  | x :: r, es, ys, h => by
    rw [List.cons_append, compGo] at h
    obtain ⟨o, h1, h2⟩ := Res.bind_eq_ok h
    obtain ⟨zs, h3, h4⟩ := Res.bind_eq_ok h2
    obtain ⟨ys', h5⟩ := compGo_pre h3
    exact ⟨o.toList ++ ys', by rw [compGo, h1, Res.bind_ok, h5, Res.bind_ok]⟩
theorem compGo_noexc {f : D → Res (Option D)} (hf : ∀ d c, f d ≠ .exc c) : ∀ (ds : List D) (c : Nat), compGo f ds ≠ .exc c
  | [], c, h => by cases h
  | d :: r, c, h => by
    rw [compGo] at h
    cases e : f d with
    | ok o =>
      rw [e, Res.bind_ok] at h
      cases e2 : compGo f r with
      | ok ys => rw [e2] at h; cases h
      | exc c' => exact compGo_noexc hf r c' e2
      | stuck => rw [e2] at h; cases h
    | exc c' => exact hf d c' e
    | stuck => rw [e] at h; cases h
theorem compTurnD_noexc {t : Tgt} {vs : List Nat} {cond : Option (En → Res Bool)} {elt : SF} {env : En} (d : D) (c : Nat) : compTurnD t vs cond elt env d ≠ .exc c := by
  unfold compTurnD
  split
  · rename_i env' _
    have key : ∀ r : Res Bool, (∀ c, r ≠ .exc c) → (r.bind fun k => if k = true then (noX (elt env')).bind fun y => Res.ok (some y) else .ok none) ≠ .exc c := by
      intro r hr h
      cases r with
      | ok k =>
        rw [Res.bind_ok] at h
        cases k with
        | true =>
          rw [if_pos rfl] at h
          cases e : elt env' <;> rw [e] at h <;> cases h
        | false => cases h
      | exc c' => exact hr c' rfl
      | stuck => cases h
    refine key _ ?_
    intro c' h
    cases cond with
    | none => cases h
    | some f =>
      simp only at h
      cases e : f env' <;> rw [e] at h <;> cases h
  · intro h; cases h
/-- the tests of a clause -/
def PTsD (X : Cx) (W : WX0) (ifs : List Expr) (cond : Option (En → Res Bool)) : Prop := match cond with
  | none => ifs = []
  | some c => ∃ e, ifs = [e] ∧ DT X W.z e c
theorem comp_core {X : Cx} {W : WX0} {elt tg iter : Expr} {ifs : List Expr} {scope : Scope} {own : List (Str × Nat)} {pos : Pos} {fi : En → Res (List D)} {t : Tgt} {cond : Option (En → Res Bool)} {fe : SF}
    (hc : X.calm = true) (hN : X.N.Nodup) (hi : DI X W tg iter fi) (ok : BlkOk X.N X.env.scope scope own) (hts : ∀ i ∈ t.slots, i ∈ own.map (·.2))
    (hg : ∀ (s : Shared) (H : Hp) (C : Addr) (cl : List (Str × Addr)) (fp : List Addr), DG (X.blk s H scope (compEnvC scope cl C X.env) fp) tg t)
    (ht : ∀ (s : Shared) (H : Hp) (C : Addr) (cl : List (Str × Addr)) (fp : List Addr), PTsD (X.blk s H scope (compEnvC scope cl C X.env) fp) W ifs cond)
    (he : ∀ (s : Shared) (H : Hp) (C : Addr) (cl : List (Str × Addr)) (fp : List Addr), DE (X.blk s H scope (compEnvC scope cl C X.env) fp) W.z elt fe) (hs : ∀ x, foldedSetIterable iter X.env x = pure x) :
    ∃ tt : TT, (∀ (s : Shared) (H : Hp) (C : Addr) (cl : List (Str × Addr)) (fp : List Addr), PTs (X.blk s H scope (compEnvC scope cl C X.env) fp) ifs tt) ∧
      ∀ env F σ H Q, ERx X.K W.T F H σ env → PostG X.K (fun c => W c σ) F H (vComp fi t (own.map (·.2)) cond fe env) Q →
        tLc (fun σ H R => ∃ env F, ERx X.K W.T F H σ env ∧ PostW X.K (fun c => W c σ) F H (fi env) R) (tgOf X.K t) tt (tOf X.K W.z fe) (own.map (·.2)) σ H Q := by
  -- the tests' reading
  have tests : ∃ tt : TT, (∀ (s : Shared) (H : Hp) (C : Addr) (cl : List (Str × Addr)) (fp : List Addr), PTs (X.blk s H scope (compEnvC scope cl C X.env) fp) ifs tt) ∧
      ∀ (σ : L2.St) (H : Hp) (F : Hp) (env' : En) (k : Bool) (Q : Bool → Hp → Prop), ERx X.K W.T F H σ env' → (match cond with | some c => noX (c env') | none => .ok true) = .ok k → (∀ F' H', Same H H' → Grow F H F' H' → Q k H') → tt σ H Q := by
    cases cond with
    | none =>
      refine ⟨tYes, fun s H C cl fp => ?_, fun σ H F env' k Q er e q => ?_⟩
      · have e : ifs = [] := ht s H C cl fp
        rw [e]
        exact pts_nil
      · cases e
        exact q F H (Same.refl _) (Grow.refl er.sub)
    | some c =>
      refine ⟨tOfB X.K W.z c, fun s H C cl fp => ?_, fun σ H F env' k Q er e q => ⟨env', F, er, ?_⟩⟩
      · obtain ⟨e, rfl, h⟩ := ht s H C cl fp
        exact pts_one h
      · have e' : c env' = .ok k := noX_ok e
        rw [e']
        exact q
  obtain ⟨tt, ht', hq⟩ := tests
  have he' : ∀ (s : Shared) (H : Hp) (C : Addr) (cl : List (Str × Addr)) (fp : List Addr), PE (X.blk s H scope (compEnvC scope cl C X.env) fp) elt (tOf X.K W.z fe) := he
  have hg' : ∀ (s : Shared) (H : Hp) (C : Addr) (cl : List (Str × Addr)) (fp : List Addr), PG (X.blk s H scope (compEnvC scope cl C X.env) fp) tg (tgOf X.K t) := hg
  refine ⟨tt, ht', fun env F σ H Q er q => ⟨env, F, er, ?_⟩⟩
  unfold vComp at q
  cases e0 : fi env with
  | exc c => rw [e0] at q; exact q
  | stuck => rw [e0] at q; exact q
  | ok ds =>
    rw [e0, Res.bind_ok] at q
    intro J F1 H1 e1 g1 w hl D hD
    have er1 := er.grow g1
    cases e2 : compGo (compTurnD t (own.map (·.2)) cond fe env) ds with
    | exc c => exact absurd e2 (compGo_noexc compTurnD_noexc ds c)
    | stuck => rw [e2] at q; exact q.elim
    | ok ys =>
      rw [e2, Res.bind_ok] at q
      have hD0 : H D = none := e1.free hD
      have hF1D : F1 D = none := g1.sub.free hD
      refine lc_it w (fun i H2 => ∃ F2 acc zs, Same F1 F2 ∧ Same F2 H2 ∧ Same H1 H2 ∧ (∀ a, F1 a = none → F2 a ≠ none → H1 a = none) ∧ F2 D = none ∧ H2 D = some (.lst acc) ∧ acc.length ≤ i ∧ RpL X.K F2 acc zs ∧ compGo (compTurnD t (own.map (·.2)) cond fe env) (ds.take i) = .ok zs) ?_ ?_ ?_ ?_
      · exact ⟨F1, [], [], Same.refl _, g1.sub.trans (same_upd hD), same_upd hD, fun a h1 h2 => absurd h1 h2, hF1D, upd_same, Nat.le_refl _, .nil, rfl⟩
      · rintro i H2 _ ⟨F2, acc, zs, a1, a2, _⟩
        exact a1.trans a2
      · rintro i x H2 H3 hi ⟨F2, acc, zs, a1, a2, a3, a4, a5, a6, a7, a8, a9⟩ ⟨y1, y2⟩
        obtain ⟨F3, d, g3, hd, rd⟩ := y2 F2 a1 a2
        have hF3D : F3 D = none := by
          cases q3 : F3 D with
          | none => rfl
          | some o =>
            have := g3.new D a5 (by rw [q3]; exact fun z => nomatch z)
            rw [a6] at this
            cases this
        have er3 : ERx X.K W.T F3 H3 (L2.wipe σ (own.map (·.2))) (wipeE env (own.map (·.2))) := ((⟨g3.sub, g3.fix.tabs (a1.tabs er1.tb), er1.len, fun j d' h => let ⟨v, h1, h2⟩ := er1.at_ j d' h; ⟨v, h1, (h2.mono a1).mono g3.fix⟩⟩ : ERx X.K W.T F3 H3 σ env)).wipe _
        have htk : ds.take (i + 1) = ds.take i ++ [d] := by rw [List.take_add_one, hd]; rfl
        have hlt := (List.getElem?_eq_some_iff.mp hd).1
        have hpre : ∃ ws, compGo (compTurnD t (own.map (·.2)) cond fe env) (ds.take (i + 1)) = .ok ws := by
          have e3 := e2
          rw [← List.take_append_drop (i + 1) ds] at e3
          exact compGo_pre e3
        obtain ⟨ws, hws⟩ := hpre
        rw [htk] at hws
        obtain ⟨zs', o, b1, b2, b3⟩ := compGo_snoc hws
        rw [a9] at b1
        cases b1
        unfold compTurnD at b2
        split at b2
        · rename_i env' hb
          refine ⟨_, _, F3, d, env', er3, rd, hb, fun σ' er' chg => ⟨?_, ?_⟩⟩
          · have c1 := chg.wipe hts
            have idem : L2.wipe (L2.wipe σ (own.map (·.2))) (own.map (·.2)) = L2.wipe σ (own.map (·.2)) := by
              apply List.ext_getElem?
              intro j
              rw [wipe_get, wipe_get]
              by_cases hj : j ∈ own.map (·.2)
              · rw [if_pos hj, if_pos hj, Option.map_map]
                rfl
              · rw [if_neg hj, if_neg hj]
            rw [c1, idem]
          · obtain ⟨k, b4, b5⟩ := Res.bind_eq_ok b2
            refine hq σ' H3 F3 env' k _ er' b4 fun F4 H4 s4 g4 => ?_
            have hF4D : F4 D = none := by
              cases q3 : F4 D with
              | none => rfl
              | some oo =>
                have := g4.new D hF3D (by rw [q3]; exact fun z => nomatch z)
                rw [y1.ap _ _ a6] at this
                cases this
            have new4 : ∀ a, F1 a = none → F4 a ≠ none → H1 a = none := fun a h1 h2 => by
              cases q2 : F2 a with
              | some oo => exact a4 a h1 (by rw [q2]; exact fun z => nomatch z)
              | none =>
                cases q3 : F3 a with
                | some oo => exact a3.free (g3.new a q2 (by rw [q3]; exact fun z => nomatch z))
                | none => exact a3.free (y1.free (g4.new a q3 h2))
            cases k with
            | false =>
              rw [if_neg Bool.false_ne_true] at b5 ⊢
              cases b5
              refine ⟨F4, acc, zs, (a1.trans g3.fix).trans g4.fix, g4.sub, (a3.trans y1).trans s4, new4, hF4D, s4.ap _ _ (y1.ap _ _ a6), Nat.le_succ_of_le a7, (a8.mono g3.fix).mono g4.fix, ?_⟩
              rw [htk, hws, b3]
              simp
            | true =>
              rw [if_pos rfl] at b5 ⊢
              obtain ⟨y, b6, b7⟩ := Res.bind_eq_ok b5
              cases b7
              have b6' := noX_ok b6
              refine ⟨env', F4, er'.grow g4, ?_⟩
              rw [b6']
              intro vy F5 H5 s5 g5 r5
              have hF5D : F5 D = none := by
                cases q3 : F5 D with
                | none => rfl
                | some oo =>
                  have := g5.new D hF4D (by rw [q3]; exact fun z => nomatch z)
                  rw [s4.ap _ _ (y1.ap _ _ a6)] at this
                  cases this
              refine ⟨acc, s5.ap _ _ (s4.ap _ _ (y1.ap _ _ a6)), Nat.lt_of_lt_of_le (Nat.lt_of_le_of_lt a7 hi) hl, F5, acc ++ [vy], zs ++ [y], ((a1.trans g3.fix).trans g4.fix).trans g5.fix, same_over g5.sub hF5D (s5.ap _ _ (s4.ap _ _ (y1.ap _ _ a6))), same_over (((a3.trans y1).trans s4).trans s5) hD (s5.ap _ _ (s4.ap _ _ (y1.ap _ _ a6))), fun a h1 h2 => ?_, hF5D, upd_same, ?_, (((a8.mono g3.fix).mono g4.fix).mono g5.fix).append (.cons r5 .nil), ?_⟩
              · cases q4 : F4 a with
                | some oo => exact new4 a h1 (by rw [q4]; exact fun z => nomatch z)
                | none => exact ((a3.trans y1).trans s4).free (g5.new a q4 h2)
              · rw [List.length_append]
                exact Nat.succ_le_succ a7
              · rw [htk, hws, b3]
                simp
        · cases b2
      · rintro H2 ⟨F2, acc, zs, a1, a2, a3, a4, a5, a6, a7, a8, a9⟩
        rw [List.take_length] at a9
        rw [e2] at a9
        cases a9
        exact q D acc F2 H2 (e1.trans a3) ⟨g1.fix.trans a1, a2, fun a h1 h2 => by
          cases q1 : F1 a with
          | some oo => exact g1.new a h1 (by rw [q1]; exact fun z => nomatch z)
          | none => exact e1.free (a4 a q1 h2)⟩ hD0 a5 a6 a8
theorem ge_comp {X : Cx} {W : WX0} {elt tg iter : Expr} {ifs : List Expr} {scope : Scope} {own : List (Str × Nat)} {pos : Pos} {fi : En → Res (List D)} {t : Tgt} {cond : Option (En → Res Bool)} {fe : SF}
    (hc : X.calm = true) (hN : X.N.Nodup) (hi : DI X W tg iter fi) (ok : BlkOk X.N X.env.scope scope own) (hts : ∀ i ∈ t.slots, i ∈ own.map (·.2))
    (hg : ∀ (s : Shared) (H : Hp) (C : Addr) (cl : List (Str × Addr)) (fp : List Addr), DG (X.blk s H scope (compEnvC scope cl C X.env) fp) tg t)
    (ht : ∀ (s : Shared) (H : Hp) (C : Addr) (cl : List (Str × Addr)) (fp : List Addr), PTsD (X.blk s H scope (compEnvC scope cl C X.env) fp) W ifs cond)
    (he : ∀ (s : Shared) (H : Hp) (C : Addr) (cl : List (Str × Addr)) (fp : List Addr), DE (X.blk s H scope (compEnvC scope cl C X.env) fp) W.z elt fe) (hs : ∀ x, foldedSetIterable iter X.env x = pure x) :
    GE X W (.ListComp elt [⟨tg, iter, ifs, 0⟩] scope pos) (vComp fi t (own.map (·.2)) cond fe) := by
  obtain ⟨tt, h1, h2⟩ := comp_core (pos := pos) hc hN hi ok hts hg ht he hs
  exact ge_ok (pe_lc hc hN hi ok hg h1 he hs) fun env F σ H Q er q => h2 env F σ H Q er q
end SH


set_option Elab.async false
set_option linter.all false
set_option maxRecDepth 100000
set_option maxHeartbeats 4000000
/-! The layer, part h: a def's names: what is fixed, what is its own. -/
namespace SH
open PySem PySem.Spec PyProof.Rows L2

/-- the names: fixed data (false), a list of the def's own (true) -/
abbrev SEn := List (Option (Bool × D))
mutual
/-- no list and no dict within -/
def flat : D → Bool
  | .none => true
  | .bool _ => true
  | .int _ => true
  | .str _ => true
  | .tuple xs => flatL xs
  | .list _ => false
  | .dict _ => false
def flatL : List D → Bool
  | [] => true
  | x :: xs => flat x && flatL xs
end
section
variable {K : PySem.W.Frag} {F F' : Hp}
mutual
/-- flat data lean on tuples alone -/
theorem Rp.flat (e : ∀ a xs, Rd F a (.tup xs) → Rd F' a (.tup xs)) : ∀ {v : V} {d : D}, Rp K F v d → SH.flat d = true → Rp K F' v d
  | _, _, .non, _ => .non
  | _, _, .bl b, _ => .bl b
  | _, _, .int i, _ => .int i
  | _, _, .str x, _ => .str x
  | _, _, .lst h r, f => by simp [SH.flat] at f
  | _, _, .tup h r, f => by
    rw [SH.flat] at f
    refine .tup ?_ (RpL.flat e r f)
    rcases h with h | h
    · exact .inl (e _ _ h)
    · exact .inr h
  | _, _, .dK h r, f => by simp [SH.flat] at f
  | _, _, .dT h r, f => by simp [SH.flat] at f
theorem RpL.flat (e : ∀ a xs, Rd F a (.tup xs) → Rd F' a (.tup xs)) : ∀ {vs : List V} {ds : List D}, RpL K F vs ds → SH.flatL ds = true → RpL K F' vs ds
  | _, _, .nil, _ => .nil
  | _, _, .cons h t, f => by
    rw [SH.flatL, Bool.and_eq_true] at f
    exact .cons (Rp.flat e h f.1) (RpL.flat e t f.2)
end
end
/-- a list of the def's own -/
def OwnAt (K : PySem.W.Frag) (F H : Hp) (a : Addr) (d : D) : Prop := ∃ xs ds, d = .list ds ∧ H a = some (.lst xs) ∧ RpL K F xs ds
theorem OwnAt.mono {K : PySem.W.Frag} {F H F' H' : Hp} {a : Addr} {d : D} (o : OwnAt K F H a d) (f : Same F F') (h : H' a = H a) : OwnAt K F' H' a d := by
  obtain ⟨xs, ds, e, h1, r⟩ := o
  exact ⟨xs, ds, e, h.trans h1, r.mono f⟩
structure SR (K : PySem.W.Frag) (T : TB) (F0 H0 F H : Hp) (σ : L2.St) (env : SEn) : Prop where
  base : Same H0 H
  tb : Tabs T F
  grow : Grow F0 H0 F H
  len : env.length = σ.length
  fro : ∀ (i : Nat) (d : D), env[i]? = some (some (false, d)) → ∃ v, σ[i]? = some (some v) ∧ Rp K F v d
  own : ∀ (i : Nat) (d : D), env[i]? = some (some (true, d)) → ∃ a, σ[i]? = some (some (.ref a)) ∧ OwnAt K F H a d ∧ F a = none ∧ H0 a = none
  apart : ∀ (i j : Nat) (d e : D) (a : Addr), env[i]? = some (some (true, d)) → env[j]? = some (some (true, e)) → σ[i]? = some (some (.ref a)) → σ[j]? = some (some (.ref a)) → i = j
/-- what an expression sees: of one's own lists those that it names -/
def mv1 (m : List Nat) (k : Nat) : Option (Bool × D) → Option D
  | some (false, d) => some d
  | some (true, d) => if k ∈ m then some d else none
  | none => none
def mview (m : List Nat) : Nat → SEn → En
  | _, [] => []
  | k, o :: r => mv1 m k o :: mview m (k + 1) r
/-- those that it names become fixed -/
def fr1 (m : List Nat) (k : Nat) : Option (Bool × D) → Option (Bool × D)
  | some (true, d) => if k ∈ m then some (false, d) else some (true, d)
  | some (false, d) => some (false, d)
  | none => none
def freeze (m : List Nat) : Nat → SEn → SEn
  | _, [] => []
  | k, o :: r => fr1 m k o :: freeze m (k + 1) r
theorem mview_length (m : List Nat) : ∀ (k : Nat) (env : SEn), (mview m k env).length = env.length
  | _, [] => rfl
  | k, o :: r => by rw [mview, List.length_cons, List.length_cons, mview_length m (k + 1) r]
theorem freeze_length (m : List Nat) : ∀ (k : Nat) (env : SEn), (freeze m k env).length = env.length
  | _, [] => rfl
  | k, o :: r => by rw [freeze, List.length_cons, List.length_cons, freeze_length m (k + 1) r]
theorem mview_get' (m : List Nat) : ∀ (k : Nat) (env : SEn) (i : Nat), (mview m k env)[i]? = (env[i]?).map (mv1 m (k + i))
  | _, [], i => by simp [mview]
  | k, o :: r, 0 => by simp [mview]
  | k, o :: r, i + 1 => by
    rw [mview, List.getElem?_cons_succ, List.getElem?_cons_succ, mview_get' m (k + 1) r i, show k + (i + 1) = k + 1 + i by omega]
theorem freeze_get' (m : List Nat) : ∀ (k : Nat) (env : SEn) (i : Nat), (freeze m k env)[i]? = (env[i]?).map (fr1 m (k + i))
  | _, [], i => by simp [freeze]
  | k, o :: r, 0 => by simp [freeze]
  | k, o :: r, i + 1 => by
    rw [freeze, List.getElem?_cons_succ, List.getElem?_cons_succ, freeze_get' m (k + 1) r i, show k + (i + 1) = k + 1 + i by omega]
theorem mview_get (m : List Nat) (k : Nat) (env : SEn) (i : Nat) (d : D) (h : (mview m k env)[i]? = some (some d)) : env[i]? = some (some (false, d)) ∨ (env[i]? = some (some (true, d)) ∧ k + i ∈ m) := by
  rw [mview_get'] at h
  obtain ⟨o, h1, h2⟩ := Option.map_eq_some_iff.mp h
  rw [h1]
  match o, h2 with
  | some (false, _), h2 =>
    rw [mv1] at h2
    cases h2
    exact .inl rfl
  | some (true, _), h2 =>
    rw [mv1] at h2
    split at h2
    · cases h2
      exact .inr ⟨rfl, by assumption⟩
    · cases h2
  | none, h2 => cases h2
theorem freeze_own (m : List Nat) (k : Nat) (env : SEn) (i : Nat) (d : D) (h : (freeze m k env)[i]? = some (some (true, d))) : env[i]? = some (some (true, d)) ∧ k + i ∉ m := by
  rw [freeze_get'] at h
  obtain ⟨o, h1, h2⟩ := Option.map_eq_some_iff.mp h
  rw [h1]
  match o, h2 with
  | some (false, _), h2 => cases h2
  | some (true, _), h2 =>
    rw [fr1] at h2
    split at h2
    · cases h2
    · cases h2
      exact ⟨rfl, by assumption⟩
  | none, h2 => cases h2
theorem freeze_fro (m : List Nat) (k : Nat) (env : SEn) (i : Nat) (d : D) (h : (freeze m k env)[i]? = some (some (false, d))) : env[i]? = some (some (false, d)) ∨ (env[i]? = some (some (true, d)) ∧ k + i ∈ m) := by
  rw [freeze_get'] at h
  obtain ⟨o, h1, h2⟩ := Option.map_eq_some_iff.mp h
  rw [h1]
  match o, h2 with
  | some (false, _), h2 =>
    rw [fr1] at h2
    cases h2
    exact .inl rfl
  | some (true, _), h2 =>
    rw [fr1] at h2
    split at h2
    · cases h2
      exact .inr ⟨rfl, by assumption⟩
    · cases h2
  | none, h2 => cases h2

section
variable {K : PySem.W.Frag} {T : TB} {F0 H0 F H : Hp} {σ : L2.St} {env : SEn}
theorem SR.sub (s : SR K T F0 H0 F H σ env) : Same F H := s.grow.sub
/-- the lists of one's own that m names -/
def Bor (σ : L2.St) (env : SEn) (m : List Nat) (a : Addr) : Prop := ∃ i d, i ∈ m ∧ env[i]? = some (some (true, d)) ∧ σ[i]? = some (some (.ref a))
open Classical in
/-- fixed for a while -/
noncomputable def lend (F H : Hp) (σ : L2.St) (env : SEn) (m : List Nat) : Hp := fun a => if Bor σ env m a then H a else F a
open Classical in
noncomputable def unlend (F' : Hp) (σ : L2.St) (env : SEn) (m : List Nat) : Hp := fun a => if Bor σ env m a then none else F' a
theorem SR.bor (s : SR K T F0 H0 F H σ env) {m : List Nat} {a : Addr} (b : Bor σ env m a) : F a = none ∧ H0 a = none ∧ ∃ xs, H a = some (.lst xs) := by
  obtain ⟨i, d, _, h1, h2⟩ := b
  obtain ⟨a', h3, ⟨xs, ds, _, h4, _⟩, h5, h6⟩ := s.own i d h1
  rw [h2] at h3
  cases h3
  exact ⟨h5, h6, xs, h4⟩
theorem SR.lendFix (s : SR K T F0 H0 F H σ env) (m : List Nat) : Same F (lend F H σ env m) := same_all fun a o e => by
  unfold lend
  split
  · rename_i b
    rw [(s.bor b).1] at e
    cases e
  · exact e
theorem SR.lendSub (s : SR K T F0 H0 F H σ env) (m : List Nat) : Same (lend F H σ env m) H := by
  refine ⟨fun a o e n => ?_, fun P q t => ?_, fun {a} h => ?_⟩
  · unfold lend at e
    split at e
    · exact e
    · exact s.sub.obj a o e n
  · refine s.sub.tab P q (tab_of (fun b o np e => ?_) t)
    unfold lend at e
    split at e
    · rename_i bo
      obtain ⟨_, _, xs, hx⟩ := s.bor bo
      rw [hx] at e
      cases e
      exact absurd True.intro np
    · exact e
  · unfold lend
    split
    · exact h
    · exact s.sub.free h
/-- an expression may be evaluated -/
theorem SR.view (s : SR K T F0 H0 F H σ env) (m : List Nat) : ERx K T (lend F H σ env m) H σ (mview m 0 env) := by
  refine ⟨s.lendSub m, (s.lendFix m).tabs s.tb, by rw [mview_length]; exact s.len, fun i d h => ?_⟩
  rcases mview_get m 0 env i d h with h | ⟨h, hm⟩
  · obtain ⟨v, h1, h2⟩ := s.fro i d h
    exact ⟨v, h1, h2.mono (s.lendFix m)⟩
  · rw [Nat.zero_add] at hm
    obtain ⟨a, h1, ⟨xs, ds, rfl, h2, h3⟩, h4, h5⟩ := s.own i d h
    refine ⟨_, h1, .lst (.inl (.inl ?_)) (h3.mono (s.lendFix m))⟩
    unfold lend
    rw [if_pos ⟨i, _, hm, h, h1⟩]
    exact h2
/-- all of the heap that stood stands -/
theorem SR.later (s : SR K T F0 H0 F H σ env) {H' : Hp} (e : Same H H') : SR K T F0 H0 F H' σ env := by
  refine ⟨s.base.trans e, s.tb, ⟨s.grow.fix, s.sub.trans e, s.grow.new⟩, s.len, s.fro, fun i d h => ?_, s.apart⟩
  obtain ⟨a, h1, h2, h3, h4⟩ := s.own i d h
  refine ⟨a, h1, h2.mono (Same.refl _) ?_, h3, h4⟩
  obtain ⟨xs, ds, _, h5, _⟩ := h2
  rw [e.ap _ _ h5, h5]
/-- more is fixed -/
theorem SR.grown (s : SR K T F0 H0 F H σ env) {F' H' : Hp} (e : Same H H') (g : Grow F H F' H') : SR K T F0 H0 F' H' σ env := by
  refine ⟨s.base.trans e, g.fix.tabs s.tb, s.grow.trans s.base g, s.len, fun i d h => ?_, fun i d h => ?_, s.apart⟩
  · obtain ⟨v, h1, h2⟩ := s.fro i d h
    exact ⟨v, h1, h2.mono g.fix⟩
  · obtain ⟨a, h1, h2, h3, h4⟩ := s.own i d h
    obtain ⟨xs, ds, h6, h5, h7⟩ := id h2
    refine ⟨a, h1, h2.mono g.fix (by rw [e.ap _ _ h5, h5]), ?_, h4⟩
    cases q : F' a with
    | none => rfl
    | some o =>
      have := g.new a h3 (by rw [q]; exact fun z => nomatch z)
      rw [this] at h5
      cases h5
section
variable {F' H' : Hp} {m : List Nat}
theorem unlend_grow (s : SR K T F0 H0 F H σ env) (e : Same H H') (g : Grow (lend F H σ env m) H F' H') : Grow F H (unlend F' σ env m) H' := by
  have sU : Same (unlend F' σ env m) F' := same_all fun a o h => by
    unfold unlend at h
    split at h
    · cases h
    · exact h
  refine ⟨⟨fun a o h n => ?_, fun P q t => ?_, fun {a} h => ?_⟩, sU.trans g.sub, fun a h1 h2 => ?_⟩
  · unfold unlend
    split
    · rename_i b
      rw [(s.bor b).1] at h
      cases h
    · exact g.fix.obj a o ((s.lendFix m).obj a o h n) n
  · obtain ⟨ps0, p1, _⟩ := id t
    obtain ⟨ps, h1, h2, h3⟩ := g.fix.tab P q ((s.lendFix m).tab P q t)
    refine ⟨ps, ?_, h2, fun pos cv hc => ?_⟩
    · unfold unlend
      rw [if_neg fun b => by rw [(s.bor b).1] at p1; cases p1]
      exact h1
    · obtain ⟨c, n, e1, e2⟩ := h3 pos cv hc
      refine ⟨c, n, e1, ?_⟩
      unfold unlend
      rw [if_neg fun b => ?_]
      · exact e2
      · obtain ⟨_, _, xs, hx⟩ := s.bor b
        have h4 := e.ap _ _ hx
        rw [g.sub.obj _ _ e2 (fun ps => LamX.codeO_ne ps)] at h4
        cases h4
  · unfold unlend at h
    split at h
    · rename_i b
      exact (s.bor b).1
    · exact (s.lendFix m).free (g.fix.free h)
  · unfold unlend at h2
    split at h2
    · exact absurd rfl h2
    · rename_i b
      refine g.new a ?_ h2
      unfold lend
      rw [if_neg b]
      exact h1
theorem unlend_tup (s : SR K T F0 H0 F H σ env) (e : Same H H') (g : Grow (lend F H σ env m) H F' H') : ∀ a xs, Rd F' a (.tup xs) → Rd (unlend F' σ env m) a (.tup xs) := by
  have nb : ∀ a o, F' a = some o → NT o → (∀ ys, o ≠ .lst ys) → unlend F' σ env m a = some o := fun a o h nt hn => by
    unfold unlend
    split
    · rename_i b
      obtain ⟨_, _, ys, hy⟩ := s.bor b
      have h1 := g.sub.obj a o h nt
      rw [e.ap _ _ hy] at h1
      cases h1
      exact absurd rfl (hn ys)
    · exact h
  intro a xs h
  rcases h with h | ⟨o, h⟩
  · exact .inl (nb a _ h (fun ys z => nomatch z) fun ys z => nomatch z)
  · exact .inr ⟨o, nb a _ h (fun ys z => nomatch z) fun ys z => nomatch z⟩
/-- behind an expression whose value is flat: all is given back -/
theorem SR.back (s : SR K T F0 H0 F H σ env) (e : Same H H') (g : Grow (lend F H σ env m) H F' H') : SR K T F0 H0 (unlend F' σ env m) H' σ env := s.grown e (unlend_grow s e g)
/-- .. whose value is not: what it names is fixed from now on -/
theorem SR.kept (s : SR K T F0 H0 F H σ env) (e : Same H H') (g : Grow (lend F H σ env m) H F' H') : SR K T F0 H0 F' H' σ (freeze m 0 env) := by
  have g' : Grow F H F' H' ∨ True := .inr trivial
  refine ⟨s.base.trans e, g.fix.tabs ((s.lendFix m).tabs s.tb), ⟨s.grow.fix.trans ((s.lendFix m).trans g.fix), g.sub, fun a h1 h2 => ?_⟩, by rw [freeze_length]; exact s.len, fun i d h => ?_, fun i d h => ?_, fun i j d1 d2 a h1 h2 => s.apart i j d1 d2 a (freeze_own m 0 env i d1 h1).1 (freeze_own m 0 env j d2 h2).1⟩
  · cases q : F a with
    | some o => exact s.grow.new a h1 (by rw [q]; exact fun z => nomatch z)
    | none =>
      by_cases b : Bor σ env m a
      · exact (s.bor b).2.1
      · refine s.base.free (g.new a ?_ h2)
        unfold lend
        rw [if_neg b]
        exact q
  · rcases freeze_fro m 0 env i d h with h | ⟨h, hm⟩
    · obtain ⟨v, h1, h2⟩ := s.fro i d h
      exact ⟨v, h1, (h2.mono (s.lendFix m)).mono g.fix⟩
    · rw [Nat.zero_add] at hm
      obtain ⟨a, h1, ⟨xs, ds, rfl, h2, h3⟩, h4, h5⟩ := s.own i d h
      refine ⟨_, h1, .lst (.inl (.inl (g.fix.ap _ _ ?_))) ((h3.mono (s.lendFix m)).mono g.fix)⟩
      unfold lend
      rw [if_pos ⟨i, _, hm, h, h1⟩]
      exact h2
  · obtain ⟨h, hm⟩ := freeze_own m 0 env i d h
    rw [Nat.zero_add] at hm
    obtain ⟨a, h1, h2, h3, h4⟩ := s.own i d h
    obtain ⟨xs, ds, h6, h5, h7⟩ := id h2
    refine ⟨a, h1, h2.mono ((s.lendFix m).trans g.fix) (by rw [e.ap _ _ h5, h5]), ?_, h4⟩
    cases q : F' a with
    | none => rfl
    | some o =>
      have nb : ¬ Bor σ env m a := fun ⟨j, d', hj, hj2, hj3⟩ => hm (by rw [s.apart i j d d' a h hj2 h1 hj3]; exact hj)
      have := g.new a (by unfold lend; rw [if_neg nb]; exact h3) (by rw [q]; exact fun z => nomatch z)
      rw [this] at h5
      cases h5
end
/-! ### storing -/
/-- a name gets a fixed datum -/
theorem SR.set (s : SR K T F0 H0 F H σ env) (i : Nat) {v : V} {d : D} (r : Rp K F v d) : SR K T F0 H0 F H (σ.set i (some v)) (env.set i (some (false, d))) := by
  have get : ∀ (j : Nat) (b : Bool) (d' : D), (env.set i (some (false, d)))[j]? = some (some (b, d')) → (j = i ∧ b = false ∧ d' = d ∧ i < env.length) ∨ (i ≠ j ∧ env[j]? = some (some (b, d'))) := fun j b d' h => by
    by_cases hj : i = j
    · subst hj
      by_cases hl : i < env.length
      · rw [List.getElem?_set_self hl] at h
        cases h
        exact .inl ⟨rfl, rfl, rfl, hl⟩
      · rw [List.getElem?_eq_none (by simpa using hl)] at h
        cases h
    · rw [List.getElem?_set_ne hj] at h
      exact .inr ⟨hj, h⟩
  refine ⟨s.base, s.tb, s.grow, by simp [s.len], fun j d' h => ?_, fun j d' h => ?_, fun j k d1 d2 a h1 h2 h3 h4 => ?_⟩
  · rcases get j false d' h with ⟨rfl, _, rfl, hl⟩ | ⟨hj, h⟩
    · exact ⟨v, List.getElem?_set_self (by rw [← s.len]; exact hl), r⟩
    · obtain ⟨v', h1, h2⟩ := s.fro j d' h
      exact ⟨v', by rw [List.getElem?_set_ne hj]; exact h1, h2⟩
  · rcases get j true d' h with ⟨_, z, _⟩ | ⟨hj, h⟩
    · cases z
    · obtain ⟨a, h1, h2⟩ := s.own j d' h
      exact ⟨a, by rw [List.getElem?_set_ne hj]; exact h1, h2⟩
  · rcases get j true d1 h1 with ⟨_, z, _⟩ | ⟨hj, h1⟩
    · cases z
    · rcases get k true d2 h2 with ⟨_, z, _⟩ | ⟨hk, h2⟩
      · cases z
      · rw [List.getElem?_set_ne hj] at h3
        rw [List.getElem?_set_ne hk] at h4
        exact s.apart j k d1 d2 a h1 h2 h3 h4
/-- nobody's list: new, not fixed -/
structure Nob (F0 H0 F H : Hp) (σ : L2.St) (env : SEn) (a : Addr) : Prop where
  nf : F a = none
  n0 : H0 a = none
  no : ∀ (i : Nat) (d : D), env[i]? = some (some (true, d)) → σ[i]? ≠ some (some (V.ref a))
/-- a name gets a new list -/
theorem SR.setOwn (s : SR K T F0 H0 F H σ env) (i : Nat) {a : Addr} {xs : List V} {ds : List D} (n : Nob F0 H0 F H σ env a) (hH : H a = some (.lst xs)) (r : RpL K F xs ds) : SR K T F0 H0 F H (σ.set i (some (.ref a))) (env.set i (some (true, .list ds))) := by
  have get : ∀ (j : Nat) (b : Bool) (d' : D), (env.set i (some (true, .list ds)))[j]? = some (some (b, d')) → (j = i ∧ b = true ∧ d' = .list ds ∧ i < env.length) ∨ (i ≠ j ∧ env[j]? = some (some (b, d'))) := fun j b d' h => by
    by_cases hj : i = j
    · subst hj
      by_cases hl : i < env.length
      · rw [List.getElem?_set_self hl] at h
        cases h
        exact .inl ⟨rfl, rfl, rfl, hl⟩
      · rw [List.getElem?_eq_none (by simpa using hl)] at h
        cases h
    · rw [List.getElem?_set_ne hj] at h
      exact .inr ⟨hj, h⟩
  refine ⟨s.base, s.tb, s.grow, by simp [s.len], fun j d' h => ?_, fun j d' h => ?_, fun j k d1 d2 b h1 h2 h3 h4 => ?_⟩
  · rcases get j false d' h with ⟨_, z, _⟩ | ⟨hj, h⟩
    · cases z
    · obtain ⟨v', h1, h2⟩ := s.fro j d' h
      exact ⟨v', by rw [List.getElem?_set_ne hj]; exact h1, h2⟩
  · rcases get j true d' h with ⟨rfl, _, rfl, hl⟩ | ⟨hj, h⟩
    · exact ⟨a, List.getElem?_set_self (by rw [← s.len]; exact hl), ⟨xs, ds, rfl, hH, r⟩, n.nf, n.n0⟩
    · obtain ⟨b, h1, h2⟩ := s.own j d' h
      exact ⟨b, by rw [List.getElem?_set_ne hj]; exact h1, h2⟩
  · rcases get j true d1 h1 with ⟨ej, _, _, hl⟩ | ⟨hj, g1⟩
    · rcases get k true d2 h2 with ⟨ek, _⟩ | ⟨hk, g2⟩
      · exact ej.trans ek.symm
      · rw [List.getElem?_set_ne hk] at h4
        rw [ej, List.getElem?_set_self (by rw [← s.len]; exact hl)] at h3
        cases h3
        exact absurd h4 (n.no k d2 g2)
    · rcases get k true d2 h2 with ⟨ek, _, _, hl⟩ | ⟨hk, g2⟩
      · rw [List.getElem?_set_ne hj] at h3
        rw [ek, List.getElem?_set_self (by rw [← s.len]; exact hl)] at h4
        cases h4
        exact absurd h3 (n.no j d1 g1)
      · rw [List.getElem?_set_ne hj] at h3
        rw [List.getElem?_set_ne hk] at h4
        exact s.apart j k d1 d2 b g1 g2 h3 h4
/-- a list of one's own is changed -/
theorem SR.put (s : SR K T F0 H0 F H σ env) {i : Nat} {a : Addr} {d0 : D} {xs : List V} {ds : List D} (hi : env[i]? = some (some (true, d0))) (ha : σ[i]? = some (some (.ref a))) (r : RpL K F xs ds) : SR K T F0 H0 F (upd H a (.lst xs)) σ (env.set i (some (true, .list ds))) := by
  have hl : i < env.length := (List.getElem?_eq_some_iff.mp hi).1
  obtain ⟨a', h1, h2, h3, h4⟩ := s.own i d0 hi
  rw [ha] at h1
  cases h1
  have get : ∀ (j : Nat) (b : Bool) (d' : D), (env.set i (some (true, .list ds)))[j]? = some (some (b, d')) → (j = i ∧ b = true ∧ d' = .list ds) ∨ (i ≠ j ∧ env[j]? = some (some (b, d'))) := fun j b d' h => by
    by_cases hj : i = j
    · subst hj
      rw [List.getElem?_set_self hl] at h
      cases h
      exact .inl ⟨rfl, rfl, rfl⟩
    · rw [List.getElem?_set_ne hj] at h
      exact .inr ⟨hj, h⟩
  obtain ⟨xs0, ds0, _, hl0, _⟩ := id h2
  refine ⟨same_over s.base h4 hl0, s.tb, ⟨s.grow.fix, same_over s.sub h3 hl0, s.grow.new⟩, by simp [s.len], fun j d' h => ?_, fun j d' h => ?_, fun j k d1 d2 b g1 g2 g3 g4 => ?_⟩
  · rcases get j false d' h with ⟨_, z, _⟩ | ⟨hj, h⟩
    · cases z
    · exact s.fro j d' h
  · rcases get j true d' h with ⟨rfl, _, rfl⟩ | ⟨hj, h⟩
    · exact ⟨a, ha, ⟨xs, ds, rfl, upd_same, r⟩, h3, h4⟩
    · obtain ⟨b, g1, g2, g3, g4⟩ := s.own j d' h
      refine ⟨b, g1, g2.mono (Same.refl _) (upd_ne fun z => ?_), g3, g4⟩
      subst z
      exact hj (s.apart i j d0 d' b hi h ha g1)
  · have own_of : ∀ (j : Nat) (d' : D), (env.set i (some (true, .list ds)))[j]? = some (some (true, d')) → ∃ d'', env[j]? = some (some (true, d'')) := fun j d' h => by
      rcases get j true d' h with ⟨rfl, _⟩ | ⟨_, h⟩
      · exact ⟨_, hi⟩
      · exact ⟨_, h⟩
    obtain ⟨e1, q1⟩ := own_of j d1 g1
    obtain ⟨e2, q2⟩ := own_of k d2 g2
    exact s.apart j k e1 e2 b q1 q2 g3 g4
end
end SH


set_option Elab.async false
set_option linter.all false
set_option maxRecDepth 100000
set_option maxHeartbeats 4000000
/-! The layer, part i: statements by functions on names. -/
namespace SH
open PySem PySem.Spec PyProof.Rows L2

def keepS (d : D) : Bool := flat d
def keepG : D → Bool
  | .list ds => flatL ds
  | d => flat d
def isL : D → Bool
  | .list _ => true
  | _ => false
def after (keep : Bool) (m : List Nat) (env : SEn) : SEn := if keep then env else freeze m 0 env
def evS (m : List Nat) (f : SF) (env : SEn) : Res (D × SEn) := (f (mview m 0 env)).bind fun d => .ok (d, after (keepS d) m env)
def evG (m : List Nat) (f : SF) (env : SEn) : Res (D × SEn) := (f (mview m 0 env)).bind fun d => .ok (d, after (keepG d) m env)
def evL (m : List Nat) (fs : List SF) (env : SEn) : Res (List D × SEn) := (vL fs (mview m 0 env)).bind fun ds => .ok (ds, after (flatL ds) m env)
section
variable (K : PySem.W.Frag) (W : WX0)
/-- a value, fixed -/
def PSt (F0 H0 : Hp) (σ : L2.St) (env : SEn) (r : Res (D × SEn)) (Q : VK) : Prop := match r with
  | .ok (d, env') => ∀ v F' H', SR K W.T F0 H0 F' H' σ env' → Rp K F' v d → Q v H'
  | .exc c => ∀ F' H', SR K W.T F0 H0 F' H' σ env → W c σ H'
  | .stuck => False
/-- a value; a list is new -/
def PSg (F0 H0 : Hp) (σ : L2.St) (env : SEn) (r : Res (D × SEn)) (Q : VK) : Prop := match r with
  | .ok (.list ds, env') => ∀ a vs F' H', SR K W.T F0 H0 F' H' σ env' → Nob F0 H0 F' H' σ env' a → H' a = some (.lst vs) → RpL K F' vs ds → Q (.ref a) H'
  | .ok (d, env') => ∀ v F' H', SR K W.T F0 H0 F' H' σ env' → Rp K F' v d → Q v H'
  | .exc c => ∀ F' H', SR K W.T F0 H0 F' H' σ env → W c σ H'
  | .stuck => False
def PSl (F0 H0 : Hp) (σ : L2.St) (env : SEn) (r : Res (List D × SEn)) (Q : List V → Hp → Prop) : Prop := match r with
  | .ok (ds, env') => ∀ vs F' H', SR K W.T F0 H0 F' H' σ env' → RpL K F' vs ds → Q vs H'
  | .exc c => ∀ F' H', SR K W.T F0 H0 F' H' σ env → W c σ H'
  | .stuck => False
def PSb (F0 H0 : Hp) (σ : L2.St) (env : SEn) (r : Res Bool) (Q : Bool → Hp → Prop) : Prop := match r with
  | .ok b => ∀ F' H', SR K W.T F0 H0 F' H' σ env → Q b H'
  | .exc c => ∀ F' H', SR K W.T F0 H0 F' H' σ env → W c σ H'
  | .stuck => False
def tS (m : List Nat) (f : SF) : TE := fun σ H Q => ∃ F0 H0 F env, SR K W.T F0 H0 F H σ env ∧ PSt K W F0 H0 σ env (evS m f env) Q
def tSG (m : List Nat) (f : SF) : TE := fun σ H Q => ∃ F0 H0 F env, SR K W.T F0 H0 F H σ env ∧ PSt K W F0 H0 σ env (evG m f env) Q
def tG (m : List Nat) (f : SF) : TE := fun σ H Q => ∃ F0 H0 F env, SR K W.T F0 H0 F H σ env ∧ PSg K W F0 H0 σ env (evG m f env) Q
def tSL (m : List Nat) (fs : List SF) : TA := fun σ H Q => ∃ F0 H0 F env, SR K W.T F0 H0 F H σ env ∧ PSl K W F0 H0 σ env (evL m fs env) Q
def tSB (m : List Nat) (f : En → Res Bool) : TT := fun σ H Q => ∃ F0 H0 F env, SR K W.T F0 H0 F H σ env ∧ PSb K W F0 H0 σ env (f (mview m 0 env)) Q
end
/-- nobody's list is fixed -/
theorem SR.fixed {K : PySem.W.Frag} {T : TB} {F0 H0 F H : Hp} {σ : L2.St} {env : SEn} (s : SR K T F0 H0 F H σ env) {a : Addr} {xs : List V} (n : Nob F0 H0 F H σ env a) (h : H a = some (.lst xs)) : SR K T F0 H0 (L2.upd F a (.lst xs)) H σ env := by
  have e : Same F (L2.upd F a (.lst xs)) := same_upd n.nf
  refine ⟨s.base, e.tabs s.tb, ⟨s.grow.fix.trans e, same_fix s.sub h, fun b h1 h2 => ?_⟩, s.len, fun i d q => ?_, fun i d q => ?_, s.apart⟩
  · by_cases hb : b = a
    · rw [hb]
      exact n.n0
    · rw [upd_ne hb] at h2
      exact s.grow.new b h1 h2
  · obtain ⟨v, h1, h2⟩ := s.fro i d q
    exact ⟨v, h1, h2.mono e⟩
  · obtain ⟨b, h1, h2, h3, h4⟩ := s.own i d q
    refine ⟨b, h1, h2.mono e rfl, ?_, h4⟩
    rw [upd_ne (fun z => by rw [z] at h1; exact n.no i d q h1)]
    exact h3
section
variable {X : Cx} {W : WX0} {a b c : Expr} {fa fb fc : SF} {pos : Pos} {m : List Nat}
theorem se_of (h : DE X W a fa) : PE X a (tS X.K W m fa) := PE.imp h fun σ H Q ⟨F0, H0, F, env, s, q⟩ => by
  refine ⟨mview m 0 env, _, s.view m, ?_⟩
  unfold evS at q
  cases e : fa (mview m 0 env) with
  | exc c =>
    rw [e] at q
    exact fun H' e' => q F H' (s.later e')
  | stuck => rw [e] at q; exact q
  | ok d =>
    rw [e, Res.bind_ok] at q
    intro v F' H' e' g r
    unfold after keepS at q
    by_cases hk : flat d = true
    · rw [if_pos hk] at q
      exact q v _ H' (s.back e' g) (r.flat (unlend_tup s e' g) hk)
    · rw [if_neg hk] at q
      exact q v F' H' (s.kept e' g) r
theorem tG_le {K : PySem.W.Frag} {σ : L2.St} {H : Hp} {Q : VK} (z : tG K W m fa σ H Q) : tOfG K W fa σ H Q := by
  obtain ⟨F0, H0, F, env, s, q⟩ := z
  refine ⟨mview m 0 env, _, s.view m, ?_⟩
  unfold evG at q
  cases e : fa (mview m 0 env) with
  | exc c =>
    rw [e] at q
    exact fun H' e' => q F H' (s.later e')
  | stuck => rw [e] at q; exact q
  | ok d =>
    rw [e, Res.bind_ok] at q
    unfold after at q
    have nob : ∀ {F' F'' H' : Hp} {a : Addr} {env' : SEn}, H a = none → F'' a = none → (∀ i d, env'[i]? = some (some (true, d)) → env[i]? = some (some (true, d))) → Nob F0 H0 F'' H' σ env' a := fun {F' F'' H' a env'} h1 h2 h3 =>
      ⟨h2, s.base.free h1, fun i d hi z => by
        obtain ⟨b, h4, ⟨xs, ds, _, h5, _⟩, _⟩ := s.own i d (h3 i d hi)
        rw [z] at h4
        cases h4
        rw [h1] at h5
        cases h5⟩
    have nonlist : ∀ d : D, (∀ ds, d ≠ .list ds) → PSg K W F0 H0 σ env (.ok (d, if flat d = true then env else freeze m 0 env)) Q → PostG K (fun c => W c σ) (lend F H σ env m) H (.ok d) Q := by
      intro d nl q
      have q' : ∀ v F' H', SR K W.T F0 H0 F' H' σ (if flat d = true then env else freeze m 0 env) → Rp K F' v d → Q v H' := by
        cases d with
        | list ds => exact absurd rfl (nl ds)
        | _ => exact q
      have fin : ∀ v F' H', Same H H' → Grow (lend F H σ env m) H F' H' → Rp K F' v d → Q v H' := fun v F' H' e' g r => by
        by_cases hk : flat d = true
        · rw [if_pos hk] at q'
          exact q' v _ H' (s.back e' g) (r.flat (unlend_tup s e' g) hk)
        · rw [if_neg hk] at q'
          exact q' v F' H' (s.kept e' g) r
      cases d with
      | list ds => exact absurd rfl (nl ds)
      | _ => exact fin
    cases d with
    | list ds =>
      intro a vs F' H' e' g h1 h2 h3 r
      unfold keepG at q
      by_cases hk : flatL ds = true
      · rw [if_pos hk] at q
        refine q a vs _ H' (s.back e' g) (nob (F' := F') h1 ?_ fun i d h => h) h3 (r.flat (unlend_tup s e' g) hk)
        unfold unlend
        split
        · rfl
        · exact h2
      · rw [if_neg hk] at q
        exact q a vs F' H' (s.kept e' g) (nob (F' := F') h1 h2 fun i d h => (freeze_own m 0 env i d h).1) h3 r
    | none => exact nonlist _ (fun ds z => nomatch z) q
    | bool _ => exact nonlist _ (fun ds z => nomatch z) q
    | int _ => exact nonlist _ (fun ds z => nomatch z) q
    | str _ => exact nonlist _ (fun ds z => nomatch z) q
    | tuple _ => exact nonlist _ (fun ds z => nomatch z) q
    | dict _ => exact nonlist _ (fun ds z => nomatch z) q
theorem ge_of (h : GE X W a fa) : PE X a (tG X.K W m fa) := PE.imp h fun σ H Q z => tG_le z
theorem psg_of {K : PySem.W.Frag} {F0 H0 : Hp} {σ : L2.St} {env : SEn} {r : Res (D × SEn)} {Q : VK} (h : PSt K W F0 H0 σ env r Q) : PSg K W F0 H0 σ env r Q := by
  cases r with
  | ok p =>
    obtain ⟨d, env'⟩ := p
    cases d with
    | list ds => exact fun a vs F' H' s n h1 r => h (.ref a) _ H' (s.fixed n h1) (Rp.newL n.nf r)
    | _ => exact h
  | exc c => exact h
  | stuck => exact h
theorem sg_of (h : GE X W a fa) : PE X a (tSG X.K W m fa) := PE.imp (ge_of (m := m) h) fun σ H Q ⟨F0, H0, F, env, s, q⟩ => ⟨F0, H0, F, env, s, psg_of q⟩
theorem sl_of {es : List Expr} {fs : List SF} (h : DA X W es (vL fs)) : PA X es (tSL X.K W m fs) := PA.imp h fun σ H Q ⟨F0, H0, F, env, s, q⟩ => by
  refine ⟨mview m 0 env, _, s.view m, ?_⟩
  unfold evL at q
  cases e : vL fs (mview m 0 env) with
  | exc c =>
    rw [e] at q
    exact fun H' e' => q F H' (s.later e')
  | stuck => rw [e] at q; exact q
  | ok ds =>
    rw [e, Res.bind_ok] at q
    intro v F' H' e' g r
    unfold after at q
    by_cases hk : flatL ds = true
    · rw [if_pos hk] at q
      exact q v _ H' (s.back e' g) (r.flat (unlend_tup s e' g) hk)
    · rw [if_neg hk] at q
      exact q v F' H' (s.kept e' g) r
theorem sb_of {f : En → Res Bool} (h : DT X W a f) : PT X a (tSB X.K W m f) := PT.imp h fun σ H Q ⟨F0, H0, F, env, s, q⟩ => by
  refine ⟨mview m 0 env, _, s.view m, ?_⟩
  cases e : f (mview m 0 env) with
  | exc c =>
    rw [e] at q
    exact fun H' e' => q F H' (s.later e')
  | stuck => rw [e] at q; exact q
  | ok d =>
    rw [e] at q
    exact fun F' H' e' g => q _ H' (s.back e' g)
end

/-! ### statements -/
inductive Out where
  | nx (e : SEn)
  | rt (d : D)
  | bk (e : SEn)
  | ct (e : SEn)
  | exc (c : Nat) (e : SEn)
  | stuck
def PostS (K : PySem.W.Frag) (W : WX0) (F0 H0 : Hp) (D : Ends) : Out → Prop
  | .nx env => ∀ σ F H, SR K W.T F0 H0 F H σ env → D.nx σ H
  | .rt d => ∀ v F H, Same H0 H → Grow F0 H0 F H → Rp K F v d → D.rt v H
  | .bk env => ∀ σ F H, SR K W.T F0 H0 F H σ env → D.bk σ H
  | .ct env => ∀ σ F H, SR K W.T F0 H0 F H σ env → D.ct σ H
  | .exc c env => ∀ σ F H, SR K W.T F0 H0 F H σ env → W c σ H
  | .stuck => False
def tSt (K : PySem.W.Frag) (W : WX0) (g : SEn → Out) : TS := fun D σ H => ∃ F0 H0 F env, SR K W.T F0 H0 F H σ env ∧ PostS K W F0 H0 D (g env)
abbrev DS (X : Cx) (W : WX0) (st : Stmt) (g : SEn → Out) : Prop := PS X st (tSt X.K W g)
abbrev DSs (X : Cx) (W : WX0) (st : List Stmt) (g : SEn → Out) : Prop := PSs X st (tSt X.K W g)
/-- go on behind an expression -/
def onR {α : Type} (env : SEn) (r : Res α) (k : α → Out) : Out := match r with
  | .ok a => k a
  | .exc c => .exc c env
  | .stuck => .stuck
def xSkip : SEn → Out := fun env => .nx env
def xSeq (g h : SEn → Out) : SEn → Out := fun env => match g env with
  | .nx e => h e
  | o => o
def xIf (m : List Nat) (c : En → Res Bool) (g h : SEn → Out) : SEn → Out := fun env => onR env (c (mview m 0 env)) fun k => if k then g env else h env
def xRet (m : List Nat) (f : SF) : SEn → Out := fun env => onR env (f (mview m 0 env)) fun d => .rt d
def xRetN : SEn → Out := fun _ => .rt .none
def xSet (i : Nat) (m : List Nat) (f : SF) : SEn → Out := fun env => onR env (evS m f env) fun p => .nx (p.2.set i (some (false, p.1)))
def xSetG (i : Nat) (m : List Nat) (f : SF) : SEn → Out := fun env => onR env (evG m f env) fun p => .nx (p.2.set i (some (isL p.1, p.1)))
mutual
def bindS : Tgt → D → SEn → Option SEn
  | .slot i, d, env => some (env.set i (some (false, d)))
  | .tup ts, .tuple ds, env => bindSs ts ds env
  | .tup _, _, _ => none
def bindSs : Tgts → List D → SEn → Option SEn
  | .nil, [], env => some env
  | .cons t ts, d :: ds, env => match bindS t d env with
    | some env' => bindSs ts ds env'
    | none => none
  | .nil, _ :: _, _ => none
  | .cons _ _, [], _ => none
end
theorem bindSs_len : ∀ {ts : Tgts} {ds : List D} {env env' : SEn}, bindSs ts ds env = some env' → ds.length = ts.len
  | .nil, [], _, _, _ => rfl
  | .cons t ts, d :: ds, env, env', h => by
    rw [bindSs] at h
    split at h
    · rw [List.length_cons, bindSs_len h, Tgts.len]
    · cases h
  | .nil, _ :: _, _, _, h => by simp [bindSs] at h
  | .cons _ _, [], _, _, h => by simp [bindSs] at h
def xUnp (t : Tgt) (m : List Nat) (f : SF) : SEn → Out := fun env => onR env (evS m f env) fun p => match bindS t p.1 p.2 with
  | some e => .nx e
  | none => .stuck
def xDrop (m : List Nat) (f : SF) : SEn → Out := fun env => onR env (evS m f env) fun p => .nx p.2
def xBreak : SEn → Out := fun env => .bk env
def xCont : SEn → Out := fun env => .ct env
def xRaise (c : Nat) : SEn → Out := fun env => .exc c env
def ownL (env : SEn) (i : Nat) : Option (List D) := match env[i]? with
  | some (some (true, .list ds)) => some ds
  | _ => none
/-- x op= e, numbers -/
def xAug (g : Int → Int → Int) (i : Nat) (m : List Nat) (f : SF) : SEn → Out := fun env => match env[i]? with
  | some (some (_, .int x)) => onR env (evS m f env) fun p => match p.1 with
    | .int y => .nx (p.2.set i (some (false, .int (g x y))))
    | _ => .stuck
  | _ => .stuck
/-- x.append(e) -/
def xApp (i : Nat) (m : List Nat) (f : SF) : SEn → Out := fun env => match ownL env i with
  | some _ => onR env (evS m f env) fun p => match ownL p.2 i with
    | some ds => if ds.length < LIM then .nx (p.2.set i (some (true, .list (ds ++ [p.1])))) else .stuck
    | none => .stuck
  | none => .stuck
/-- x[j] = e -/
def xPut (i : Nat) (m : List Nat) (f : SF) (mj : List Nat) (fj : SF) : SEn → Out := fun env => onR env (evS m f env) fun p => match ownL p.2 i with
  | some _ => onR p.2 (evS mj fj p.2) fun q => match ownL q.2 i with
    | some ds => match q.1 with
      | .int k => match ixN ds.length k with
        | some j => .nx (q.2.set i (some (true, .list (ds.set j p.1))))
        | none => .stuck
      | _ => .stuck
    | none => .stuck
  | none => .stuck
/-- x[j] op= e, numbers -/
def xPutA (g : Int → Int → Int) (i : Nat) (m : List Nat) (f : SF) (mj : List Nat) (fj : SF) : SEn → Out := fun env => match ownL env i with
  | some _ => onR env (evS mj fj env) fun q => match ownL q.2 i with
    | some ds => match q.1 with
      | .int k => match atI ds k with
        | some (.int x) => onR q.2 (evS m f q.2) fun p => match ownL p.2 i with
          | some ds' => match p.1 with
            | .int y => match ixN ds'.length k with
              | some j => .nx (p.2.set i (some (true, .list (ds'.set j (.int (g x y))))))
              | none => .stuck
            | _ => .stuck
          | none => .stuck
        | _ => .stuck
      | _ => .stuck
    | none => .stuck
  | none => .stuck
section
variable {X : Cx} {W : WX0} {st : Stmt} {rest : List Stmt} {g h : SEn → Out} {e : Expr} {f : SF} {pos : Pos} {m : List Nat}
theorem ds_ok {t : TS} (hp : PS X st t) (i : ∀ F0 H0 F env D σ H, SR X.K W.T F0 H0 F H σ env → PostS X.K W F0 H0 D (g env) → t D σ H) : DS X W st g := PS.imp hp fun D σ H ⟨F0, H0, F, env, s, q⟩ => i F0 H0 F env D σ H s q
theorem dss_nil : DSs X W [] xSkip := PSs.imp pss_nil fun D σ H ⟨F0, H0, F, env, s, q⟩ => q σ F H s
theorem dss_cons (h1 : DS X W st g) (h2 : DSs X W rest h) : DSs X W (st :: rest) (xSeq g h) := PSs.imp (pss_cons h1 h2) fun D σ H ⟨F0, H0, F, env, s, q⟩ => by
  refine ⟨F0, H0, F, env, s, ?_⟩
  unfold xSeq at q
  cases e : g env with
  | nx e' =>
    rw [e] at q
    exact fun σ' F' H' s' => ⟨F0, H0, F', e', s', q⟩
  | rt d => rw [e] at q; exact q
  | bk e' => rw [e] at q; exact q
  | ct e' => rw [e] at q; exact q
  | exc c e' => rw [e] at q; exact q
  | stuck => rw [e] at q; exact q
theorem dss_one (h1 : DS X W st g) : DSs X W [st] g := pss_one h1
theorem psb_on {K : PySem.W.Frag} {F0 H0 : Hp} {σ : L2.St} {env : SEn} {r : Res Bool} {k : Bool → Out} {D : Ends} {Q : Bool → Hp → Prop} (q : PostS K W F0 H0 D (onR env r k)) (i : ∀ b F' H', r = .ok b → SR K W.T F0 H0 F' H' σ env → PostS K W F0 H0 D (k b) → Q b H') : PSb K W F0 H0 σ env r Q := by
  cases r with
  | ok b => exact fun F' H' s => i b F' H' rfl s q
  | exc c => exact fun F' H' s => q σ F' H' s
  | stuck => exact q
theorem pst_on {K : PySem.W.Frag} {F0 H0 : Hp} {σ : L2.St} {env : SEn} {r : Res (D × SEn)} {k : D × SEn → Out} {D : Ends} {Q : VK} (q : PostS K W F0 H0 D (onR env r k)) (i : ∀ d env' v F' H', r = .ok (d, env') → SR K W.T F0 H0 F' H' σ env' → Rp K F' v d → PostS K W F0 H0 D (k (d, env')) → Q v H') : PSt K W F0 H0 σ env r Q := by
  cases r with
  | ok p => exact fun v F' H' s r => i p.1 p.2 v F' H' rfl s r q
  | exc c => exact fun F' H' s => q σ F' H' s
  | stuck => exact q
theorem psl_on {K : PySem.W.Frag} {F0 H0 : Hp} {σ : L2.St} {env : SEn} {r : Res (List D × SEn)} {k : List D × SEn → Out} {D : Ends} {Q : List V → Hp → Prop} (q : PostS K W F0 H0 D (onR env r k)) (i : ∀ d env' v F' H', r = .ok (d, env') → SR K W.T F0 H0 F' H' σ env' → RpL K F' v d → PostS K W F0 H0 D (k (d, env')) → Q v H') : PSl K W F0 H0 σ env r Q := by
  cases r with
  | ok p => exact fun v F' H' s r => i p.1 p.2 v F' H' rfl s r q
  | exc c => exact fun F' H' s => q σ F' H' s
  | stuck => exact q
theorem SR.rebase {K : PySem.W.Frag} {F0 H0 F H : Hp} {σ : L2.St} {env : SEn} (s : SR K W.T F0 H0 F H σ env) : SR K W.T F H0 F H σ env := ⟨s.base, s.tb, ⟨Same.refl _, s.sub, fun a h1 h2 => absurd h1 h2⟩, s.len, s.fro, s.own, s.apart⟩
theorem SR.unbase {K : PySem.W.Frag} {F0 H0 F1 H1 F H : Hp} {σ σ1 : L2.St} {env env1 : SEn} (g : SR K W.T F0 H0 F1 H1 σ1 env1) (s : SR K W.T F1 H0 F H σ env) : SR K W.T F0 H0 F H σ env := ⟨s.base, s.tb, ⟨g.grow.fix.trans s.grow.fix, s.sub, fun a h1 h2 => by
  cases q : F1 a with
  | some o => exact g.grow.new a h1 (by rw [q]; exact fun z => nomatch z)
  | none => exact s.grow.new a q h2⟩, s.len, s.fro, s.own, s.apart⟩
theorem pst_onU {K : PySem.W.Frag} {F0 F1 H0 : Hp} {σ : L2.St} {env : SEn} {r : Res (D × SEn)} {k : D × SEn → Out} {D : Ends} {Q : VK} (u : ∀ {F H : Hp} {σ : L2.St} {env : SEn}, SR K W.T F1 H0 F H σ env → SR K W.T F0 H0 F H σ env) (q : PostS K W F0 H0 D (onR env r k)) (i : ∀ d env' v F' H', r = .ok (d, env') → SR K W.T F1 H0 F' H' σ env' → Rp K F' v d → PostS K W F0 H0 D (k (d, env')) → Q v H') : PSt K W F1 H0 σ env r Q := by
  cases r with
  | ok p => exact fun v F' H' s r => i p.1 p.2 v F' H' rfl s r q
  | exc c => exact fun F' H' s => q σ F' H' (u s)
  | stuck => exact q
theorem ds_if {c : Expr} {f : En → Res Bool} {p q : List Stmt} (hc : DT X W c f) (hp : DSs X W p g) (hq : DSs X W q h) : DS X W (.If c p q pos) (xIf m f g h) :=
  ds_ok (ps_if (sb_of (m := m) hc) hp hq) fun F0 H0 F env D σ H s q => ⟨F0, H0, F, env, s, psb_on q fun b F' H' _ s' q' => by
    cases b with
    | true => exact ⟨F0, H0, F', env, s', q'⟩
    | false => exact ⟨F0, H0, F', env, s', q'⟩⟩
theorem ds_ret (he : DE X W e f) : DS X W (.Return (some e) pos) (xRet m f) :=
  ds_ok (ps_ret (se_of (m := m) he)) fun F0 H0 F env D σ H s q => ⟨F0, H0, F, env, s, by
    unfold evS
    unfold xRet at q
    cases e : f (mview m 0 env) with
    | ok d =>
      rw [e] at q
      exact fun v F' H' s' r => q v F' H' s'.base s'.grow r
    | exc c =>
      rw [e] at q
      exact fun F' H' s' => q σ F' H' s'
    | stuck =>
      rw [e] at q
      exact q⟩
theorem ds_retN : DS X W (.Return none pos) xRetN := ds_ok ps_retN fun F0 H0 F env D σ H s q => q .non F H s.base s.grow .non
theorem ds_pass : DS X W (.Pass pos) xSkip := ds_ok ps_pass fun F0 H0 F env D σ H s q => q σ F H s
theorem ds_break : DS X W (.Break pos) xBreak := ds_ok ps_break fun F0 H0 F env D σ H s q => q σ F H s
theorem ds_cont : DS X W (.Continue pos) xCont := ds_ok ps_continue fun F0 H0 F env D σ H s q => q σ F H s
theorem ds_drop (he : DE X W e f) (hs : swapsWith e none pos.line X.env = pure false) : DS X W (.Expr e pos) (xDrop m f) :=
  ds_ok (ps_expr (se_of (m := m) he) hs) fun F0 H0 F env D σ H s q => ⟨F0, H0, F, env, s, pst_on q fun d env' v F' H' _ s' r q' => q' σ F' H' s'⟩
theorem ds_set {i : Nat} {x : Str} {pos' : Pos} (hN : X.N.Nodup) (hi : X.N[i]? = some x) (hx : Loc X.env.scope x) (he : DE X W e f) (hs : swapsWith e (some (.Name x pos')) pos.line X.env = pure false) (hf : X.fn x = true ∨ X.env.scope.names.lookup x = some .local) : DS X W (.Assign [.Name x pos'] e pos) (xSet i m f) :=
  ds_ok (ps_set hN hi hx (se_of (m := m) he) hs hf) fun F0 H0 F env D σ H s q => ⟨F0, H0, F, env, s, pst_on q fun d env' v F' H' _ s' r q' => q' _ F' H' (s'.set i r)⟩
theorem setG_core {K : PySem.W.Frag} {i : Nat} {D : Ends} {σ : L2.St} {H F0 H0 F : Hp} {env : SEn} (s : SR K W.T F0 H0 F H σ env) (q : PostS K W F0 H0 D (xSetG i m f env)) : tG K W m f σ H (fun x H1 => gName i x σ H1 D.nx) :=
  ⟨F0, H0, F, env, s, by
    unfold xSetG at q
    cases e : evG m f env with
    | exc c => rw [e] at q; exact fun F' H' s' => q σ F' H' s'
    | stuck => rw [e] at q; exact q
    | ok p =>
      rw [e] at q
      obtain ⟨d, env'⟩ := p
      cases d with
      | list ds => exact fun a vs F' H' s' n h1 r => q _ F' H' (s'.setOwn i n h1 r)
      | none => exact fun v F' H' s' r => q _ F' H' (s'.set i r)
      | bool _ => exact fun v F' H' s' r => q _ F' H' (s'.set i r)
      | int _ => exact fun v F' H' s' r => q _ F' H' (s'.set i r)
      | str _ => exact fun v F' H' s' r => q _ F' H' (s'.set i r)
      | tuple _ => exact fun v F' H' s' r => q _ F' H' (s'.set i r)
      | dict _ => exact fun v F' H' s' r => q _ F' H' (s'.set i r)⟩
theorem ds_setG {i : Nat} {x : Str} {pos' : Pos} (hN : X.N.Nodup) (hi : X.N[i]? = some x) (hx : Loc X.env.scope x) (he : GE X W e f) (hs : swapsWith e (some (.Name x pos')) pos.line X.env = pure false) (hf : X.fn x = true ∨ X.env.scope.names.lookup x = some .local) : DS X W (.Assign [.Name x pos'] e pos) (xSetG i m f) :=
  ds_ok (ps_set hN hi hx (ge_of (m := m) he) hs hf) fun F0 H0 F env D σ H s q => setG_core s q
/-- x = [..] on one line -/
theorem ds_setLc {i : Nat} {y : Str} {py : Pos} {elt tg iter : Expr} {ifs : List Expr} {scope : Scope} {own : List (Str × Nat)} {spos : Pos} {fi : En → Res (List D)} {t : Tgt} {cond : Option (En → Res Bool)} {fe : SF}
    (hsw : swapsWith (.ListComp elt [⟨tg, iter, ifs, 0⟩] scope pos) (some (.Name y py)) spos.line X.env = pure true) (hy : X.N[i]? = some y) (hyl : X.env.scope.names.lookup y = some .local)
    (hc : X.calm = true) (hN : X.N.Nodup) (hi : DI X W tg iter fi) (ok : BlkOk X.N X.env.scope scope own) (hts : ∀ i ∈ t.slots, i ∈ own.map (·.2))
    (hg : ∀ (s : Shared) (H : Hp) (C : Addr) (cl : List (Str × Addr)) (fp : List Addr), DG (X.blk s H scope (compEnvC scope cl C X.env) fp) tg t)
    (ht : ∀ (s : Shared) (H : Hp) (C : Addr) (cl : List (Str × Addr)) (fp : List Addr), PTsD (X.blk s H scope (compEnvC scope cl C X.env) fp) W ifs cond)
    (he : ∀ (s : Shared) (H : Hp) (C : Addr) (cl : List (Str × Addr)) (fp : List Addr), DE (X.blk s H scope (compEnvC scope cl C X.env) fp) W.z elt fe) (hs : ∀ x, foldedSetIterable iter X.env x = pure x) :
    DS X W (.Assign [.Name y py] (.ListComp elt [⟨tg, iter, ifs, 0⟩] scope pos) spos) (xSetG i m (vComp fi t (own.map (·.2)) cond fe)) := by
  obtain ⟨tt, h1, h2⟩ := comp_core (pos := pos) hc hN hi ok hts hg ht he hs
  have he' : ∀ (s : Shared) (H : Hp) (C : Addr) (cl : List (Str × Addr)) (fp : List Addr), PE (X.blk s H scope (compEnvC scope cl C X.env) fp) elt (tOf X.K W.z fe) := he
  have hg' : ∀ (s : Shared) (H : Hp) (C : Addr) (cl : List (Str × Addr)) (fp : List Addr), PG (X.blk s H scope (compEnvC scope cl C X.env) fp) tg (tgOf X.K t) := hg
  refine ds_ok (ps_setLc hc hN hy hyl hsw hi ok hg' h1 he' hs) fun F0 H0 F env D σ H s q => ?_
  obtain ⟨env', F', er, q'⟩ := tG_le (setG_core s q)
  exact h2 env' F' σ H _ er q'
/-! targets of statements -/
def tgS (K : PySem.W.Frag) (t : Tgt) : TG := fun v σ H Q => ∃ T F0 H0 F env d env', SR K T F0 H0 F H σ env ∧ Rp K F v d ∧ bindS t d env = some env' ∧ ∀ σ', SR K T F0 H0 F H σ' env' → Q σ' H
def tgsS (K : PySem.W.Frag) (t : Tgts) : TGs := fun vs σ H Q => ∃ T F0 H0 F env ds env', SR K T F0 H0 F H σ env ∧ RpL K F vs ds ∧ bindSs t ds env = some env' ∧ ∀ σ', SR K T F0 H0 F H σ' env' → Q σ' H
abbrev SG (X : Cx) (tg : Expr) (t : Tgt) : Prop := PG X tg (tgS X.K t)
abbrev SGs (X : Cx) (tg : List Expr) (t : Tgts) : Prop := PGs X tg (tgsS X.K t)
theorem sg_slot {i : Nat} {x : Str} (hN : X.N.Nodup) (hi : X.N[i]? = some x) (hx : Loc X.env.scope x) (hf : X.fn x = true ∨ X.env.scope.names.lookup x = some .local) : SG X (.Name x pos) (.slot i) :=
  PG.imp (pg_name hN hi hx hf) fun v σ H Q ⟨T, F0, H0, F, env, d, env', s, r, h, q⟩ => by
    rw [bindS] at h
    cases h
    exact q _ (s.set i r)
theorem sgs_nil : SGs X [] .nil := PGs.imp pgs_nil fun vs σ H Q ⟨T, F0, H0, F, env, ds, env', s, r, h, q⟩ => by
  cases r with
  | nil =>
    rw [bindSs] at h
    cases h
    exact ⟨rfl, q _ s⟩
  | cons a b => simp [bindSs] at h
theorem sgs_cons {e : Expr} {es : List Expr} {t : Tgt} {ts : Tgts} (h1 : SG X e t) (h2 : SGs X es ts) (hs : (assignEach (e :: es) X.env).map (·.2) = assign e X.env :: (assignEach es X.env).map (·.2)) : SGs X (e :: es) (.cons t ts) :=
  PGs.imp (pgs_cons h1 h2 hs) fun vs σ H Q ⟨T, F0, H0, F, env, ds, env', s, r, h, q⟩ => by
    cases r with
    | nil => simp [bindSs] at h
    | cons a b =>
      rw [bindSs] at h
      split at h
      · rename_i env1 h1
        exact ⟨_, _, rfl, T, F0, H0, F, env, _, env1, s, a, h1, fun σ1 s1 => ⟨T, F0, H0, F, env1, _, env', s1, b, h, q⟩⟩
      · cases h
theorem sg_tup {es : List Expr} {k : Nat} {ts : Tgts} (hc : X.calm = true) (h : SGs X es ts) (hn : (assignEach es X.env).length = ts.len) (hst : (assignEach es X.env).findIdx? (·.1) = none) : SG X (.Tuple es k pos) (.tup ts) :=
  PG.imp (pg_tup hc h hn hst) fun v σ H Q ⟨T, F0, H0, F, env, d, env', s, r, h, q⟩ => by
    cases d with
    | tuple ds =>
      rw [bindS] at h
      obtain ⟨a, xs, rfl, h1, h2⟩ := r.tup'
      exact ⟨a, xs, rfl, sqT_mono s.sub h1, by rw [h2.length]; exact bindSs_len h, T, F0, H0, F, env, ds, env', s, h2, h, q⟩
    | _ => simp [bindS] at h
theorem ds_unp {tg : Expr} {t : Tgt} (he : DE X W e f) (hg : SG X tg t) (hs : swapsWithSole [tg] e pos.line X.env = pure false) (hw : swappedStores [tg] e X.env = pure none)
    (h1 : (assignEach [tg] X.env).map (·.2) = [assign tg X.env]) : DS X W (.Assign [tg] e pos) (xUnp t m f) :=
  ds_ok (ps_asg (se_of (m := m) he) hg hs hw h1) fun F0 H0 F env D σ H s q => ⟨F0, H0, F, env, s, pst_on q fun d env' v F' H' _ s' r q' => by
    simp only at q'
    split at q'
    · rename_i e' he'
      exact ⟨_, F0, H0, F', env', d, e', s', r, he', fun σ' s2 => q' σ' F' H' s2⟩
    · exact q'.elim⟩
theorem ds_aug {i : Nat} {x : Str} {pos' : Pos} {op : Operator} {gg : Int → Int → Int} (hN : X.N.Nodup) (hi : X.N[i]? = some x) (hx : Loc X.env.scope x) (he : DE X W e f) (ho : PIp X op (ipI gg)) (hf : X.fn x = true ∨ X.env.scope.names.lookup x = some .local) : DS X W (.AugAssign (.Name x pos') op e pos) (xAug gg i m f) :=
  ds_ok (ps_aug hN hi hx (se_of (m := m) he) ho hf) fun F0 H0 F env D σ H s q => by
    unfold xAug at q
    split at q
    · rename_i b x0 e0
      have hv : σ[i]? = some (some (V.int x0)) := by
        cases b with
        | true =>
          obtain ⟨a, _, ⟨xs, ds, z, _⟩, _⟩ := s.own i _ e0
          cases z
        | false =>
          obtain ⟨v, h1, h2⟩ := s.fro i _ e0
          rw [h1, h2.int']
      refine ⟨_, hv, F0, H0, F, env, s, pst_on q fun d env' v F' H' _ s' r q' => ?_⟩
      simp only at q'
      split at q'
      · exact ⟨_, _, rfl, r.int', q' _ F' H' (s'.set i (.int _))⟩
      · exact q'.elim
    · exact q.elim
theorem ownL_some {env : SEn} {i : Nat} {ds : List D} (h : ownL env i = some ds) : env[i]? = some (some (true, .list ds)) := by
  unfold ownL at h
  split at h
  · rename_i e
    cases h
    exact e
  · cases h
theorem SR.ownAt {K : PySem.W.Frag} {F0 H0 F H : Hp} {σ : L2.St} {env : SEn} (s : SR K W.T F0 H0 F H σ env) {i : Nat} {ds : List D} (h : ownL env i = some ds) : ∃ a xs, σ[i]? = some (some (V.ref a)) ∧ H a = some (.lst xs) ∧ RpL K F xs ds := by
  obtain ⟨a, h1, ⟨xs, ds', e, h2, h3⟩, _⟩ := s.own i _ (ownL_some h)
  cases e
  exact ⟨a, xs, h1, h2, h3⟩
/-- x.append(e) -/
theorem ds_app {i : Nat} {x : Str} {p1 apos cpos : Pos} (hN : X.N[i]? = some x) (hv : Vis X.env.scope x) (hd : (x == ("__debug__" : Str)) = false) (hcd : (x == ("__classdict__" : Str)) = false) (he : DE X W e f)
    (hs1 : starEach [e] X.env = (false, eval e X.env) :: starEach [] X.env)
    (hbase : attributeBase (.Name x p1) "append" X.env (eval (.Name x p1) X.env) = eval (.Name x p1) X.env)
    (hfew : ((backTo cpos (starEach [e] X.env)).all (fun x => !x.1) && (backToKw cpos (keywordEach [] X.env)).all (fun x => x.1.isSome)
      && decide ([e].length + ([] : List Keyword).length + (if ([] : List Keyword).isEmpty then 0 else 1) < 30)) = true)
    (hline : (apos.endLine == cpos.line) = true) (hs : swapsWith (.Call (.Attribute (.Name x p1) "append" apos) [e] [] cpos) none pos.line X.env = pure false) :
    DS X W (.Expr (.Call (.Attribute (.Name x p1) "append" apos) [e] [] cpos) pos) (xApp i m f) :=
  ds_ok (ps_expr (pe_bm PySem.F.plainAttrs_list PySem.F.slot_list_append PySem.F.type_list_append mt_append (pe_var hN hv hd hcd) (pa_cons (se_of (m := m) he) pa_nil hs1) hbase hfew hline hs1 (by rfl)) hs) fun F0 H0 F env D σ H s q => by
    unfold xApp at q
    split at q
    · rename_i ds0 h0
      obtain ⟨a, xs, h1, h2, h3⟩ := s.ownAt h0
      refine ⟨_, h1, .inl ⟨rfl, xs, SqL.of h2⟩, F0, H0, F, env, s, pst_on q fun d env' v F' H' _ s' r q' => ?_⟩
      simp only at q'
      split at q'
      · rename_i ds h4
        split at q'
        · rename_i hl
          obtain ⟨a', xs', h5, h6, h7⟩ := s'.ownAt h4
          rw [h1] at h5
          cases h5
          refine ⟨a, xs', v, rfl, rfl, h6, ?_, q' σ F' _ (s'.put (ownL_some h4) h1 (h7.append (.cons r .nil)))⟩
          rw [h7.length]
          exact Nat.lt_of_lt_of_le hl (by rw [sizeLine_eq]; decide)
        · exact q'.elim
      · exact q'.elim
    · exact q.elim
/-- x[j] = e -/
theorem ds_put {i : Nat} {x : Str} {p1 pj : Pos} {j : Expr} {fj : SF} {mj : List Nat} (hN : X.N[i]? = some x) (hv : Vis X.env.scope x) (hd : (x == ("__debug__" : Str)) = false) (hcd : (x == ("__classdict__" : Str)) = false) (he : DE X W e f) (hj : DE X W j fj)
    (ha : ∀ v, assign (.Subscript (.Name x p1) j pj) X.env v = (do
      let ov ← holding [v] (eval (.Name x p1) X.env)
      let iv ← holding [v, ov] (eval j X.env)
      standAt pj
      holding [v, ov, iv] (setItem ov iv v)
      release [v, ov, iv] []))
    (hs : swapsWithSole [.Subscript (.Name x p1) j pj] e pos.line X.env = pure false) (hw : swappedStores [.Subscript (.Name x p1) j pj] e X.env = pure none)
    (h1 : (assignEach [.Subscript (.Name x p1) j pj] X.env).map (·.2) = [assign (.Subscript (.Name x p1) j pj) X.env]) :
    DS X W (.Assign [.Subscript (.Name x p1) j pj] e pos) (xPut i m f mj fj) :=
  ds_ok (ps_asg (se_of (m := m) he) (pg_sub (pe_var hN hv hd hcd) (se_of (m := mj) hj) set_list ha) hs hw h1) fun F0 H0 F env D σ H s q => ⟨F0, H0, F, env, s, pst_on q fun d env' v F' H' _ s' r q' => by
    simp only at q'
    split at q'
    · rename_i ds0 h0
      obtain ⟨a, xs, h2, h3, h4⟩ := s'.ownAt h0
      refine ⟨_, h2, F', H0, F', env', s'.rebase, pst_onU (fun t => s'.unbase t) q' fun d2 env2 v2 F2 H2 _ s2 r2 q2 => ?_⟩
      simp only at q2
      split at q2
      · rename_i ds h5
        cases d2 with
        | int k =>
          simp only at q2
          split at q2
          · rename_i j h6
            obtain ⟨a', xs', h7, h8, h9⟩ := s2.ownAt h5
            rw [h2] at h7
            cases h7
            refine ⟨a, xs', k, j, rfl, r2.int', h8, by rw [h9.length]; exact h6, ?_⟩
            exact q2 σ F2 _ ((s'.unbase s2).put (ownL_some h5) h2 (RpL.set (r.mono s2.grow.fix) j h9))
          · exact q2.elim
        | _ => exact q2.elim
      · exact q2.elim
    · exact q'.elim⟩
/-- a list's item, by values -/
theorem get_list : PGet X (fun o i H Q => ∃ p xs k v, o = .ref p ∧ i = .int k ∧ SqL X.K H p xs ∧ atI xs k = some v ∧ Q v H) := by
  intro pins s σ H o i ov iv Q I ro ri h
  obtain ⟨p, xs, k, v, rfl, rfl, hq, hv, q⟩ := h
  cases ro
  obtain ⟨t, rfl⟩ := ri
  obtain ⟨its, r, pl, hz⟩ := I.list hq
  obtain ⟨j, h1, h2, h3, h4, h5⟩ := atI_get hv
  obtain ⟨w, ew, rw'⟩ := r.get h2
  have hl := r.length
  have hn := line63
  have fin : EP X pins σ Q w s := ⟨v, H, I, rw', q⟩
  by_cases h0 : 0 ≤ k
  · have hj : k.toNat = j := by
      rw [seqIndex_of h0 h5] at h1
      exact Option.some.inj h1
    exact wpAny_getItem_list pl.isList h0 (by omega) (by rw [hj]; simpa using ew) fin
  · have hj : (k + (its.toArray.size : Int)).toNat = j := by
      rw [seqIndex_neg (by omega) h4] at h1
      rw [List.size_toArray, ← hl]
      exact Option.some.inj h1
    exact wpAny_getItem_list_neg pl.isList (by omega) (by rw [List.size_toArray] <;> omega) (by omega) (by rw [hj]; simpa using ew) fin
/-- x[j] op= e, numbers -/
theorem ds_putA {i : Nat} {x : Str} {p1 pj : Pos} {j : Expr} {fj : SF} {mj : List Nat} {op : Operator} {gg : Int → Int → Int} (hN : X.N[i]? = some x) (hv : Vis X.env.scope x) (hd : (x == ("__debug__" : Str)) = false) (hcd : (x == ("__classdict__" : Str)) = false) (he : DE X W e f) (hj : DE X W j fj)
    (ho : PIp X op (ipI gg)) (ha : ∀ ov iv new, augStore j ov iv new = (do holding [new, ov, iv] (setItem ov iv new); release [new, ov, iv] []; pure .next)) :
    DS X W (.AugAssign (.Subscript (.Name x p1) j pj) op e pos) (xPutA gg i m f mj fj) :=
  ds_ok (ps_augS (pe_var hN hv hd hcd) (se_of (m := mj) hj) get_list (se_of (m := m) he) ho set_list ha) fun F0 H0 F env D σ H s q => by
    unfold xPutA at q
    split at q
    · rename_i ds0 h0
      obtain ⟨a, xs, h2, h3, h4⟩ := s.ownAt h0
      refine ⟨_, h2, F0, H0, F, env, s, pst_on q fun d1 env1 v1 F1 H1 hev1 s1 r1 q1 => ?_⟩
      simp only at q1
      split at q1
      · rename_i ds h5
        cases d1 with
        | int k =>
          simp only at q1
          split at q1
          · rename_i x0 h6
            obtain ⟨a1, xs1, h7, h8, h9⟩ := s1.ownAt h5
            rw [h2] at h7
            cases h7
            obtain ⟨v, h10, h11⟩ := h9.at_ h6
            obtain rfl := h11.int'
            refine ⟨a, xs1, k, _, rfl, r1.int', SqL.of h8, h10, F0, H0, F1, env1, s1, pst_on q1 fun d2 env2 v2 F2 H2 hev2 s2 r2 q2 => ?_⟩
            simp only at q2
            split at q2
            · rename_i ds' h12
              cases d2 with
              | int y =>
                simp only at q2
                split at q2
                · rename_i jj h13
                  obtain ⟨a2, xs2, h14, h15, h16⟩ := s2.ownAt h12
                  rw [h2] at h14
                  cases h14
                  exact ⟨x0, y, rfl, r2.int', a, xs2, k, jj, rfl, r1.int', h15, by rw [h16.length]; exact h13, q2 σ F2 _ (s2.put (ownL_some h12) h2 (RpL.set (.int _) jj h16))⟩
                · exact q2.elim
              | _ => exact q2.elim
            · exact q2.elim
          · exact q1.elim
        | _ => exact q1.elim
      · exact q1.elim
    · exact q.elim
end
end SH


set_option Elab.async false
set_option linter.all false
set_option maxRecDepth 100000
set_option maxHeartbeats 4000000
/-! The layer, part j: loops, raise, two names at once. -/
namespace SH
open PySem PySem.Spec PyProof.Rows L2

/-! ### what is walked, by values -/
def iVal (K : PySem.W.Frag) (g : List D → Res (List D)) (t : TA) : TI := fun σ H R => t σ H fun vs H1 => ∃ F ds ds', Same F H1 ∧ RpL K F vs ds ∧ g ds = .ok ds' ∧ ∀ J, WalkD K J F ds' → ds'.length ≤ sizeLine → R J H1
def asSeqL : List D → Res (List D)
  | [d] => asSeq d
  | _ => .stuck
abbrev PV (X : Cx) (tg iter : Expr) (g : List D → Res (List D)) (t : TA) : Prop := PI X tg iter (iVal X.K g t)
/-- the argument list's readings are monotone in what is wanted (those of the layer) -/
def Mono (t : TA) : Prop := ∀ σ H (Q Q' : List V → Hp → Prop), (∀ vs H1, Q vs H1 → Q' vs H1) → t σ H Q → t σ H Q'
def MonoE (t : TE) : Prop := ∀ σ H (Q Q' : VK), (∀ v H1, Q v H1 → Q' v H1) → t σ H Q → t σ H Q'
section
variable {X : Cx} {a b c : Expr} {ta : TE} {t : TA} {pos p : Pos} {tg : Expr}
theorem pv_seq (ha : PE X a ta) (mo : MonoE ta) : PV X tg a asSeqL (tCons ta tNil) := PI.imp (pi_seq ha) fun σ H R h => mo σ H _ _ (fun v H1 ⟨F, ds, ds', sb, rl, e, k⟩ => by
  unfold asSeqL at e
  split at e
  · rename_i d
    obtain ⟨w, hw, r⟩ := one' rl
    cases hw
    unfold asSeq at e
    split at e
    · cases e
      obtain ⟨a, xs, rfl, h1, h2⟩ := r.lst'
      exact ⟨a, xs, rfl, .inl ⟨(h1.mono sb).seq, fun hz => k _ (walkD_same (G := fun H => SqL X.K H a xs) (by rw [← h2.length]; exact walk_list) h2 fun H s => (h1.mono s).seq) (by rw [← h2.length]; exact hz)⟩⟩
    · cases e
      obtain ⟨a, xs, rfl, h1, h2⟩ := r.tup'
      exact ⟨a, xs, rfl, .inr ⟨sqT_mono sb h1, fun hz => k _ (walkD_same (G := fun H => SqT X.K H a xs) (by rw [← h2.length]; exact walk_tup) h2 fun H s => sqT_mono s h1) (by rw [← h2.length]; exact hz)⟩⟩
    · cases e
  · cases e) h
theorem pv_range1 (hg : Gl X "range") (hm : X.mg "range" = none) (ha : PA X [a] t) (mo : Mono t) (hs : starEach [a] X.env = [(false, eval a X.env)]) (hl : ∀ σ H Q, t σ H Q → t σ H (fun vs H1 => vs.length = 1 ∧ Q vs H1)) : PV X tg (.Call (.Name "range" p) [a] [] pos) iRange t :=
  PI.imp (pi_range1 hg hm ha hs) fun σ H R h => mo σ H _ _ (fun vs H1 ⟨hlen, F, ds, ds', sb, rl, e, k⟩ => by
    have hl := rl.length
    rw [hlen] at hl
    unfold iRange at e
    split at e
    · split at e
      · rename_i hk
        cases e
        obtain ⟨v, rfl, r⟩ := one' rl
        obtain rfl := r.int'
        have := okR_ hk
        exact ⟨_, rfl, by omega, by omega, k _ walkD_range (by rw [rangeD_length, sizeLine_eq]; omega)⟩
      · cases e
    · simp at hl
    · simp at hl
    · cases e) (hl σ H _ h)
theorem pv_range2 (hg : Gl X "range") (hm : X.mg "range" = none) (ha : PA X [a, b] t) (mo : Mono t) (hs : starEach [a, b] X.env = [(false, eval a X.env), (false, eval b X.env)]) (hs2 : starEach [b] X.env = [(false, eval b X.env)]) (hl : ∀ σ H Q, t σ H Q → t σ H (fun vs H1 => vs.length = 2 ∧ Q vs H1)) : PV X tg (.Call (.Name "range" p) [a, b] [] pos) iRange t :=
  PI.imp (pi_range2 hg hm ha hs hs2) fun σ H R h => mo σ H _ _ (fun vs H1 ⟨hlen, F, ds, ds', sb, rl, e, k⟩ => by
    have hl := rl.length
    rw [hlen] at hl
    unfold iRange at e
    split at e
    · simp at hl
    · split at e
      · rename_i hk
        cases e
        rw [Bool.and_eq_true] at hk
        obtain ⟨v, w, rfl, r, r'⟩ := two' rl
        obtain rfl := r.int'
        obtain rfl := r'.int'
        have h1 := okR_ hk.1
        have h2 := okR_ hk.2
        exact ⟨_, _, rfl, ⟨by omega, by omega, by omega, by omega⟩, k _ walkD_range (by rw [rangeD_length, sizeLine_eq]; omega)⟩
      · cases e
    · simp at hl
    · cases e) (hl σ H _ h)
theorem pv_range3 (hg : Gl X "range") (hm : X.mg "range" = none) (ha : PA X [a, b, c] t) (mo : Mono t) (hs : starEach [a, b, c] X.env = (false, eval a X.env) :: starEach [b, c] X.env) (hpl : (backTo pos (starEach [b, c] X.env)).any (·.1) = false) (hl : ∀ σ H Q, t σ H Q → t σ H (fun vs H1 => vs.length = 3 ∧ Q vs H1)) : PV X tg (.Call (.Name "range" p) [a, b, c] [] pos) iRange t :=
  PI.imp (pi_range3 hg hm ha hs hpl) fun σ H R h => mo σ H _ _ (fun vs H1 ⟨hlen, F, ds, ds', sb, rl, e, k⟩ => by
    have hl := rl.length
    rw [hlen] at hl
    unfold iRange at e
    split at e
    · simp at hl
    · simp at hl
    · split at e
      · rename_i hk
        cases e
        rw [Bool.and_eq_true, Bool.and_eq_true] at hk
        obtain ⟨v, w, u, rfl, r, r', r''⟩ := three' rl
        obtain rfl := r.int'
        obtain rfl := r'.int'
        obtain rfl := r''.int'
        have h1 := okR_ hk.1.1
        have h2 := okR_ hk.1.2
        have h3 := eq_of_beq hk.2
        subst h3
        exact ⟨_, _, _, _, rfl, RgC.neg (by omega) (by omega) (by omega) (by omega), k _ walkD_rangeC (by rw [rangeDC_length, sizeLine_eq]; omega)⟩
      · cases e
    · cases e) (hl σ H _ h)
theorem pv_enum {elts : List Expr} {kk : Nat} {tpos : Pos} (hg : Gl X "enumerate") (hm : X.mg "enumerate" = none) (ha : PA X [a] t) (mo : Mono t) (hs : starEach [a] X.env = [(false, eval a X.env)]) : PV X (.Tuple elts kk tpos) (.Call (.Name "enumerate" p) [a] [] pos) iEnumD t :=
  PI.imp (pi_enumA hg hm ha hs) fun σ H R h => mo σ H _ _ (fun vs H1 ⟨F, ds, ds', sb, rl, e, k⟩ => by
    unfold iEnumD at e
    split at e
    · cases e
      obtain ⟨v, rfl, r⟩ := one' rl
      obtain ⟨a, xs, rfl, h1, h2⟩ := r.lst'
      refine ⟨a, xs, rfl, .inl ⟨(h1.mono sb).seq, fun hz => k _ (walkD_pair (G := fun H => SqL X.K H a xs) (by rw [enumD_length, ← h2.length]; exact walk_enum) (fun H s => (h1.mono s).seq) fun i x y hx hy => ?_) (by rw [enumD_length, ← h2.length]; exact hz)⟩⟩
      cases hx
      obtain ⟨d, h3, h4⟩ := h2.get hy
      exact ⟨_, d, by rw [enumD_get _ _ _ _ h3, Nat.zero_add], .int _, h4⟩
    · cases e
      obtain ⟨v, rfl, r⟩ := one' rl
      obtain ⟨a, xs, rfl, h1, h2⟩ := r.tup'
      refine ⟨a, xs, rfl, .inr ⟨sqT_mono sb h1, fun hz => k _ (walkD_pair (G := fun H => SqT X.K H a xs) (by rw [enumD_length, ← h2.length]; exact walk_enumT) (fun H s => sqT_mono s h1) fun i x y hx hy => ?_) (by rw [enumD_length, ← h2.length]; exact hz)⟩⟩
      cases hx
      obtain ⟨d, h3, h4⟩ := h2.get hy
      exact ⟨_, d, by rw [enumD_get _ _ _ _ h3, Nat.zero_add], .int _, h4⟩
    · cases e) h
theorem pv_zip {elts : List Expr} {kk : Nat} {tpos : Pos} (hg : Gl X "zip") (hm : X.mg "zip" = none) (ha : PA X [a, b] t) (mo : Mono t) (hs : starEach [a, b] X.env = (false, eval a X.env) :: starEach [b] X.env) (hpl : (backTo pos (starEach [b] X.env)).any (·.1) = false) :
    PV X (.Tuple elts kk tpos) (.Call (.Name "zip" p) [a, b] [] pos) iZipD t :=
  PI.imp (pi_zipB hg hm ha hs hpl) fun σ H R h => mo σ H _ _ (fun vs H1 ⟨F, ds, ds', sb, rl, e, k⟩ => by
    unfold iZipD at e
    split at e
    · cases e
      obtain ⟨v, w, rfl, r, r'⟩ := two' rl
      obtain ⟨a, xs, rfl, h1, h2⟩ := r.lst'
      obtain ⟨b, ys, rfl, h3, h4⟩ := r'.lst'
      refine ⟨a, b, xs, ys, rfl, .inl ⟨(h1.mono sb).seq, (h3.mono sb).seq, fun hz => k _ (walkD_pair (walk_zip (by rw [zipD_length, h2.length, h4.length])) (fun H s => ⟨(h1.mono s).seq, (h3.mono s).seq⟩) fun i x y hx hy => ?_) (by rw [zipD_length, ← h2.length]; exact Nat.le_trans (Nat.min_le_left _ _) hz)⟩⟩
      obtain ⟨d, h5, h6⟩ := h2.get hx
      obtain ⟨e, h7, h8⟩ := h4.get hy
      exact ⟨d, e, zipD_get _ _ _ _ _ h5 h7, h6, h8⟩
    · cases e
      obtain ⟨v, w, rfl, r, r'⟩ := two' rl
      obtain ⟨a, xs, rfl, h1, h2⟩ := r.tup'
      obtain ⟨b, ys, rfl, h3, h4⟩ := r'.tup'
      refine ⟨a, b, xs, ys, rfl, .inr ⟨sqT_mono sb h1, sqT_mono sb h3, fun hz => k _ (walkD_pair (walk_zipT (by rw [zipD_length, h2.length, h4.length])) (fun H s => ⟨sqT_mono s h1, sqT_mono s h3⟩) fun i x y hx hy => ?_) (by rw [zipD_length, ← h2.length]; exact Nat.le_trans (Nat.min_le_left _ _) hz)⟩⟩
      obtain ⟨d, h5, h6⟩ := h2.get hx
      obtain ⟨e, h7, h8⟩ := h4.get hy
      exact ⟨d, e, zipD_get _ _ _ _ _ h5 h7, h6, h8⟩
    · cases e) h
end
/-! the layer's readings are monotone -/
section
variable {K : PySem.W.Frag} {W : WX0} {m : List Nat} {f : SF} {fs : List SF}
theorem mono_tS : MonoE (tS K W m f) := fun σ H Q Q' i ⟨F0, H0, F, env, s, q⟩ => ⟨F0, H0, F, env, s, by
  unfold PSt at q ⊢
  split at q
  · exact fun v F' H' s' r => i _ _ (q v F' H' s' r)
  · exact q
  · exact q⟩
theorem mono_tSG : MonoE (tSG K W m f) := fun σ H Q Q' i ⟨F0, H0, F, env, s, q⟩ => ⟨F0, H0, F, env, s, by
  unfold PSt at q ⊢
  split at q
  · exact fun v F' H' s' r => i _ _ (q v F' H' s' r)
  · exact q
  · exact q⟩
theorem mono_tSL : Mono (tSL K W m fs) := fun σ H Q Q' i ⟨F0, H0, F, env, s, q⟩ => ⟨F0, H0, F, env, s, by
  unfold PSl at q ⊢
  split at q
  · exact fun v F' H' s' r => i _ _ (q v F' H' s' r)
  · exact q
  · exact q⟩
theorem len_tSL : ∀ σ H Q, tSL K W m fs σ H Q → tSL K W m fs σ H (fun vs H1 => vs.length = fs.length ∧ Q vs H1) := fun σ H Q ⟨F0, H0, F, env, s, q⟩ => ⟨F0, H0, F, env, s, by
  unfold PSl at q ⊢
  split at q
  · rename_i ds env' e
    unfold evL at e
    obtain ⟨ds', e1, e2⟩ := Res.bind_eq_ok e
    cases e2
    exact fun v F' H' s' r => ⟨r.length.trans (vL_length e1), q v F' H' s' r⟩
  · exact q
  · exact q⟩
end

/-! ### for -/
def forGo (g : SEn → Out) (t : Tgt) : List D → SEn → Out
  | [], env => .nx env
  | d :: ds, env => match bindS t d env with
    | some e1 => match g e1 with
      | .nx e => forGo g t ds e
      | .ct e => forGo g t ds e
      | .bk e => .nx e
      | o => o
    | none => .stuck
/-- for t in a walk of data -/
def xFor (ik : List D → Res (List D)) (m : List Nat) (fs : List SF) (t : Tgt) (g : SEn → Out) : SEn → Out := fun env => onR env (evL m fs env) fun p => match ik p.1 with
  | .ok ds => forGo g t ds p.2
  | _ => .stuck
/-- for t in a list or a tuple -/
def xForS (m : List Nat) (f : SF) (t : Tgt) (g : SEn → Out) : SEn → Out := fun env => onR env (evS m f env) fun p => match asSeq p.1 with
  | .ok ds => forGo g t ds p.2
  | _ => .stuck
/-- .. a new one -/
def xForG (m : List Nat) (f : SF) (t : Tgt) (g : SEn → Out) : SEn → Out := fun env => onR env (evG m f env) fun p => match asSeq p.1 with
  | .ok ds => forGo g t ds p.2
  | _ => .stuck
theorem PostS.unbase {K : PySem.W.Frag} {W : WX0} {F0 H0 F1 H1 : Hp} {σ1 : L2.St} {env1 : SEn} {D : Ends} {o : Out} (g : SR K W.T F0 H0 F1 H1 σ1 env1) (h : PostS K W F0 H0 D o) : PostS K W F1 H0 D o := by
  cases o with
  | nx e => exact fun σ F H s => h σ F H (g.unbase s)
  | rt d => exact fun v F H e gr r => h v F H e ⟨g.grow.fix.trans gr.fix, gr.sub, fun a h1 h2 => by
      cases q : F1 a with
      | some o => exact g.grow.new a h1 (by rw [q]; exact fun z => nomatch z)
      | none => exact gr.new a q h2⟩ r
  | bk e => exact fun σ F H s => h σ F H (g.unbase s)
  | ct e => exact fun σ F H s => h σ F H (g.unbase s)
  | exc c e => exact fun σ F H s => h σ F H (g.unbase s)
  | stuck => exact h
section
variable {X : Cx} {W : WX0} {st : Stmt} {rest body : List Stmt} {g h : SEn → Out} {e a : Expr} {f : SF} {pos : Pos} {m : List Nat} {tg : Expr} {t : Tgt}
theorem for_core {K : PySem.W.Frag} {F0 H0 F1 H1 : Hp} {σ1 : L2.St} {env1 : SEn} {Dn : Ends} {ds : List D} {J : It} (s1 : SR K W.T F0 H0 F1 H1 σ1 env1) (w : WalkD K J F1 ds) (q : PostS K W F0 H0 Dn (forGo g t ds env1)) :
    ∃ Wm : Nat → Nat → L2.St → Hp → Prop, (∃ m, Wm 0 m σ1 H1) ∧ ∀ i m σ H, Wm i m σ H →
      (J.stop i H ∧ Dn.nx σ H) ∨ (J.go i H ∧ ∃ N : L2.St → Hp → Prop, (∀ σ' H', N σ' H' → ∃ m', m' < m ∧ Wm (i + 1) m' σ' H') ∧ ∀ x H', J.yld i H x H' → tgS K t x σ H' fun σ2 H2 => tSt K W g { Dn with nx := N, ct := N, bk := Dn.nx } σ2 H2) := by
  refine for_it w (fun i σ H => ∃ F env, SR K W.T F1 H0 F H σ env ∧ PostS K W F1 H0 Dn (forGo g t (ds.drop i) env)) ?_ ?_ ?_ ?_
  · exact ⟨F1, env1, s1.rebase, by rw [List.drop_zero]; exact q.unbase s1⟩
  · rintro i σ H _ ⟨F, env, s, _⟩
    exact s.grow.fix.trans s.sub
  · rintro i x σ H H' hi ⟨F, env, s, q⟩ ⟨y1, y2⟩
    obtain ⟨F', d, g', hd, r⟩ := y2 F s.grow.fix s.sub
    have s' := s.grown y1 g'
    have hdr : ds.drop i = d :: ds.drop (i + 1) := by
      have hlt := (List.getElem?_eq_some_iff.mp hd).1
      rw [List.drop_eq_getElem_cons hlt]
      rw [List.getElem?_eq_getElem hlt] at hd
      rw [Option.some.inj hd]
    rw [hdr, forGo] at q
    split at q
    · rename_i e1 he1
      refine ⟨_, F1, H0, F', env, d, e1, s', r, he1, fun σ2 s2 => ⟨F1, H0, F', e1, s2, ?_⟩⟩
      cases hg : g e1 with
      | nx e => rw [hg] at q; exact fun σ3 F3 H3 s3 => ⟨F3, e, s3, q⟩
      | ct e => rw [hg] at q; exact fun σ3 F3 H3 s3 => ⟨F3, e, s3, q⟩
      | bk e => rw [hg] at q; exact q
      | rt d => rw [hg] at q; exact q
      | exc c e => rw [hg] at q; exact q
      | stuck => rw [hg] at q; exact q
    · exact q.elim
  · rintro σ H ⟨F, env, s, q⟩
    rw [List.drop_length, forGo] at q
    exact q σ F H s
theorem ds_for {iter : Expr} {ik : List D → Res (List D)} {fs : List SF} (hp : PassesOwn (model X.prog X.w) X.A X.env X.xe) (hc : X.calm = true) (hi : PV X tg iter ik (tSL X.K W m fs)) (hg : SG X tg t) (hb : DSs X W body g)
    (hs : ∀ x, foldedSetIterable iter X.env x = pure x) : DS X W (.For tg iter body [] pos) (xFor ik m fs t g) :=
  ds_ok (ps_for hp hc hi hg hb hs) fun F0 H0 F env D σ H s q => ⟨F0, H0, F, env, s, psl_on q fun ds env' vs F' H' _ s' r q' => by
    simp only at q'
    split at q'
    · rename_i ds' hk
      exact ⟨F', ds, ds', s'.sub, r, hk, fun J w _ => for_core s' w q'⟩
    · exact q'.elim⟩
theorem ds_forS {iter : Expr} (hp : PassesOwn (model X.prog X.w) X.A X.env X.xe) (hc : X.calm = true) (he : DE X W iter f) (hg : SG X tg t) (hb : DSs X W body g)
    (hs : ∀ x, foldedSetIterable iter X.env x = pure x) : DS X W (.For tg iter body [] pos) (xForS m f t g) :=
  ds_ok (ps_for hp hc (pv_seq (se_of (m := m) he) mono_tS) hg hb hs) fun F0 H0 F env D σ H s q => ⟨F0, H0, F, env, s, pst_on q fun d env' v F' H' _ s' r q' => by
    simp only at q'
    split at q'
    · rename_i ds' hk
      exact ⟨F', [d], ds', s'.sub, .cons r .nil, hk, fun J w _ => for_core s' w q'⟩
    · exact q'.elim⟩
theorem ds_forG {iter : Expr} (hp : PassesOwn (model X.prog X.w) X.A X.env X.xe) (hc : X.calm = true) (he : GE X W iter f) (hg : SG X tg t) (hb : DSs X W body g)
    (hs : ∀ x, foldedSetIterable iter X.env x = pure x) : DS X W (.For tg iter body [] pos) (xForG m f t g) :=
  ds_ok (ps_for hp hc (pv_seq (sg_of (m := m) he) mono_tSG) hg hb hs) fun F0 H0 F env D σ H s q => ⟨F0, H0, F, env, s, pst_on q fun d env' v F' H' _ s' r q' => by
    simp only at q'
    split at q'
    · rename_i ds' hk
      exact ⟨F', [d], ds', s'.sub, .cons r .nil, hk, fun J w _ => for_core s' w q'⟩
    · exact q'.elim⟩

/-! ### while -/
end
def whileGo (m : List Nat) (c : En → Res Bool) (g : SEn → Out) : Nat → SEn → Out
  | 0, _ => .stuck
  | n + 1, env => onR env (c (mview m 0 env)) fun k => if k then match g env with
    | .nx e => whileGo m c g n e
    | .ct e => whileGo m c g n e
    | .bk e => .nx e
    | o => o
    else .nx env
def FUEL : Nat := 1000000
def xWhile (m : List Nat) (c : En → Res Bool) (g : SEn → Out) : SEn → Out := whileGo m c g FUEL
section
variable {X : Cx} {W : WX0} {st : Stmt} {rest body : List Stmt} {g h : SEn → Out} {e a : Expr} {f : SF} {pos : Pos} {m : List Nat} {tg : Expr} {t : Tgt}
theorem ds_while {c : Expr} {f : En → Res Bool} (hp : PassesOwn (model X.prog X.w) X.A X.env X.xe) (hc : DT X W c f) (hb : DSs X W body g) : DS X W (.While c body [] pos) (xWhile m f g) :=
  ds_ok (ps_while hp (sb_of (m := m) hc) hb) fun F0 H0 F env D σ H s q => by
    refine ⟨fun n σ H => ∃ F env, SR X.K W.T F0 H0 F H σ env ∧ PostS X.K W F0 H0 D (whileGo m f g n env), ⟨FUEL, F, env, s, q⟩, ?_⟩
    rintro n σ H ⟨F, env, s, q⟩
    cases n with
    | zero => exact q.elim
    | succ n =>
      rw [whileGo] at q
      refine ⟨F0, H0, F, env, s, psb_on q fun b F' H' _ s' q' => ?_⟩
      cases b with
      | false => exact q' σ F' H' s'
      | true =>
        rw [if_pos rfl] at q' ⊢
        refine ⟨fun σ H => ∃ F env, SR X.K W.T F0 H0 F H σ env ∧ PostS X.K W F0 H0 D (whileGo m f g n env), fun σ' H' hh => ⟨n, Nat.lt_succ_self n, hh⟩, F0, H0, F', env, s', ?_⟩
        cases hg : g env with
        | nx e => rw [hg] at q'; exact fun σ3 F3 H3 s3 => ⟨F3, e, s3, q'⟩
        | ct e => rw [hg] at q'; exact fun σ3 F3 H3 s3 => ⟨F3, e, s3, q'⟩
        | bk e => rw [hg] at q'; exact q'
        | rt d => rw [hg] at q'; exact q'
        | exc c e => rw [hg] at q'; exact q'
        | stuck => rw [hg] at q'; exact q'
/-! ### raise C() -/
theorem pmk_own0 {C : Addr} {bmB : List Value} {B newId initId : String} {x : Str} {p : Pos} (F : ExcBaseFacts B newId initId bmB) (q : PySem.W.excIn X.K C bmB newId = true) (gC : X.mg x = some (.ref C)) (kC : PySem.W.keepIn X.K (.ref C) = true) (r : Raises X (.ref C)) (hg : Gl X x)
    (hdb : (x == ("__debug__" : Str)) = false) : PMk X (.Call (.Name x p) [] [] pos) (fun _ H Q => Q (.ref C) none H) := by
  intro pins s σ H Q I h
  refine wpAny_Call_Name_kw (ld_glob I hg gC ?_ hdb)
  refine PySem.W.callWith_K0 I.kIn kC ?_
  show wpAny _ _ (call (.ref C) []) _ _ _
  obtain ⟨bm, N, nm, qn, bs, hdct, sn, sub, ab, col, dd, k0, k1, k2, k3, k5, mN, hC, hN, hni, T⟩ := exc_obj I.kIn q
  obtain ⟨hp1, g1, d1, tk1, os1⟩ := s
  refine wpAny_call_exc_subT F T hC hN hni (fun h' e hm => ?_) (Nat.zero_le _)
  exact mk_of I hm r h (I.hok.gone hm.new)
theorem ds_raise {ca : Nat → Addr} {k : Nat} {bmB : List Value} {B newId initId : String} {x : Str} {p cpos : Pos} (hc : X.calm = true) (tk : Takes X (wx ca W)) (F : ExcBaseFacts B newId initId bmB) (q : PySem.W.excIn X.K (ca k) bmB newId = true) (gC : X.mg x = some (.ref (ca k))) (kC : PySem.W.keepIn X.K (.ref (ca k)) = true) (r : Raises X (.ref (ca k))) (hg : Gl X x)
    (hdb : (x == ("__debug__" : Str)) = false) : DS X W (.Raise (some (.Call (.Name x p) [] [] cpos)) none pos) (xRaise k) :=
  ds_ok (ps_raise hc tk (pmk_own0 F q gC kC r hg hdb)) fun F0 H0 F env D σ H s q => ⟨k, rfl, rfl, q σ F H s⟩
/-! ### x, y = e1, e2 -/
/-- a value: fixed, or a new list -/
def ValOk (K : PySem.W.Frag) (F0 H0 F H : Hp) (σ : L2.St) (env : SEn) (fl : Bool) (d : D) (v : V) : Prop :=
  if fl = true then ∃ ds a vs, d = .list ds ∧ v = .ref a ∧ Nob F0 H0 F H σ env a ∧ H a = some (.lst vs) ∧ RpL K F vs ds else Rp K F v d
theorem SR.setV {K : PySem.W.Frag} {F0 H0 F H : Hp} {σ : L2.St} {env : SEn} (s : SR K W.T F0 H0 F H σ env) (i : Nat) {fl : Bool} {d : D} {v : V} (h : ValOk K F0 H0 F H σ env fl d v) : SR K W.T F0 H0 F H (σ.set i (some v)) (env.set i (some (fl, d))) := by
  unfold ValOk at h
  cases fl with
  | true =>
    rw [if_pos rfl] at h
    obtain ⟨ds, a, vs, rfl, rfl, n, h1, r⟩ := h
    exact s.setOwn i n h1 r
  | false =>
    rw [if_neg Bool.false_ne_true] at h
    exact s.set i h
def evA (b : Bool) (m : List Nat) (f : SF) (env : SEn) : Res (D × SEn) := if b then evG m f env else evS m f env
def PSa (K : PySem.W.Frag) (W : WX0) (b : Bool) (F0 H0 : Hp) (σ : L2.St) (env : SEn) (r : Res (D × SEn)) (Q : VK) : Prop := match r with
  | .ok (d, env') => ∀ v F' H', SR K W.T F0 H0 F' H' σ env' → ValOk K F0 H0 F' H' σ env' (b && isL d) d v → Q v H'
  | .exc c => ∀ F' H', SR K W.T F0 H0 F' H' σ env → W c σ H'
  | .stuck => False
def tA (K : PySem.W.Frag) (W : WX0) (b : Bool) (m : List Nat) (f : SF) : TE := fun σ H Q => ∃ F0 H0 F env, SR K W.T F0 H0 F H σ env ∧ PSa K W b F0 H0 σ env (evA b m f env) Q
/-- an expression whose list is new (true), or any (false) -/
def AE (X : Cx) (W : WX0) (b : Bool) (e : Expr) (f : SF) : Prop := if b = true then GE X W e f else DE X W e f
theorem ae_of {b : Bool} (h : AE X W b a f) : PE X a (tA X.K W b m f) := by
  unfold AE at h
  cases b with
  | false =>
    rw [if_neg Bool.false_ne_true] at h
    exact PE.imp (se_of (m := m) h) fun σ H Q ⟨F0, H0, F, env, s, q⟩ => ⟨F0, H0, F, env, s, by
      have q : PSa X.K W false F0 H0 σ env (evS m f env) Q := q
      cases e : evS m f env with
      | ok p =>
        rw [e] at q
        exact fun v F' H' s' r => q v F' H' s' r
      | exc c => rw [e] at q; exact q
      | stuck => rw [e] at q; exact q⟩
  | true =>
    rw [if_pos rfl] at h
    exact PE.imp (ge_of (m := m) h) fun σ H Q ⟨F0, H0, F, env, s, q⟩ => ⟨F0, H0, F, env, s, by
      have q : PSa X.K W true F0 H0 σ env (evG m f env) Q := q
      cases e : evG m f env with
      | ok p =>
        rw [e] at q
        obtain ⟨d, env'⟩ := p
        cases d with
        | list ds => exact fun a vs F' H' s' n h1 r => q (.ref a) F' H' s' ⟨ds, a, vs, rfl, rfl, n, h1, r⟩
        | none => exact fun v F' H' s' r => q v F' H' s' r
        | bool _ => exact fun v F' H' s' r => q v F' H' s' r
        | int _ => exact fun v F' H' s' r => q v F' H' s' r
        | str _ => exact fun v F' H' s' r => q v F' H' s' r
        | tuple _ => exact fun v F' H' s' r => q v F' H' s' r
        | dict _ => exact fun v F' H' s' r => q v F' H' s' r
      | exc c => rw [e] at q; exact q
      | stuck => rw [e] at q; exact q⟩
/-- a new list is kept in mind -/
theorem SR.addBase {K : PySem.W.Frag} {T : TB} {F0 H0 F H : Hp} {σ : L2.St} {env : SEn} (s : SR K T F0 H0 F H σ env) {a : Addr} {vs : List V} (n : Nob F0 H0 F H σ env a) (h : H a = some (.lst vs)) : SR K T F (L2.upd H0 a (.lst vs)) F H σ env := by
  refine ⟨same_fix s.base h, s.tb, ⟨Same.refl _, s.sub, fun a h1 h2 => absurd h1 h2⟩, s.len, s.fro, fun i d e => ?_, s.apart⟩
  obtain ⟨b, h1, h2, h3, h4⟩ := s.own i d e
  exact ⟨b, h1, h2, h3, by rw [upd_ne (fun z => by rw [z] at h1; exact n.no i d e h1)]; exact h4⟩
theorem SR.dropBase {K : PySem.W.Frag} {F0 H0 F1 H1 F H : Hp} {σ σ1 : L2.St} {env env1 : SEn} (g : SR K W.T F0 H0 F1 H1 σ1 env1) {a : Addr} {o : HO} (n0 : H0 a = none) (s : SR K W.T F1 (L2.upd H0 a o) F H σ env) : SR K W.T F0 H0 F H σ env := by
  have un : ∀ b, (L2.upd H0 a o) b = none → H0 b = none := fun b h => (same_upd n0).free h
  refine ⟨(same_upd n0).trans s.base, s.tb, ⟨g.grow.fix.trans s.grow.fix, s.sub, fun b h1 h2 => ?_⟩, s.len, s.fro, fun i d e => ?_, s.apart⟩
  · cases q : F1 b with
    | some o => exact g.grow.new b h1 (by rw [q]; exact fun z => nomatch z)
    | none => exact un b (s.grow.new b q h2)
  · obtain ⟨b, h1, h2, h3, h4⟩ := s.own i d e
    exact ⟨b, h1, h2, h3, un b h4⟩
theorem psa_onU {K : PySem.W.Frag} {b : Bool} {F0 F1 H0 H1 : Hp} {σ : L2.St} {env : SEn} {r : Res (D × SEn)} {k : D × SEn → Out} {D : Ends} {Q : VK} (u : ∀ {F H : Hp} {σ : L2.St} {env : SEn}, SR K W.T F1 H1 F H σ env → SR K W.T F0 H0 F H σ env) (q : PostS K W F0 H0 D (onR env r k))
    (i : ∀ d env' v F' H', r = .ok (d, env') → SR K W.T F1 H1 F' H' σ env' → ValOk K F1 H1 F' H' σ env' (b && isL d) d v → PostS K W F0 H0 D (k (d, env')) → Q v H') : PSa K W b F1 H1 σ env r Q := by
  cases r with
  | ok p => exact fun v F' H' s r => i p.1 p.2 v F' H' rfl s r q
  | exc c => exact fun F' H' s => q σ F' H' (u s)
  | stuck => exact q
/-- the names get both values -/
def xPar (i j : Nat) (b1 : Bool) (m1 : List Nat) (f1 : SF) (b2 : Bool) (m2 : List Nat) (f2 : SF) : SEn → Out := fun env => onR env (evA b1 m1 f1 env) fun p => onR p.2 (evA b2 m2 f2 p.2) fun q =>
  .nx ((q.2.set i (some (b1 && isL p.1, p.1))).set j (some (b2 && isL q.1, q.1)))
theorem par_core {K : PySem.W.Frag} {i j : Nat} {b1 b2 : Bool} {fa fb : SF} {m1 m2 : List Nat} {F0 H0 F H : Hp} {env : SEn} {D : Ends} {σ : L2.St} (s : SR K W.T F0 H0 F H σ env) (q : PostS K W F0 H0 D (xPar i j b1 m1 fa b2 m2 fb env)) :
    tPar i j (tCons (tA K W b1 m1 fa) (tCons (tA K W b2 m2 fb) tNil)) D σ H :=
  ⟨F0, H0, F, env, s, psa_onU (fun t => t) q fun d1 env1 v1 F1 H1 _ s1 ok1 q1 => by
    unfold ValOk at ok1
    cases hb1 : (b1 && isL d1) with
    | false =>
      rw [hb1, if_neg Bool.false_ne_true] at ok1
      refine ⟨F1, H0, F1, env1, s1.rebase, psa_onU (fun t => s1.unbase t) q1 fun d2 env2 v2 F2 H2 _ s2 ok2 q2 => ⟨v1, v2, rfl, ?_⟩⟩
      have q2 : PostS K W F0 H0 D (.nx ((env2.set i (some (b1 && isL d1, d1))).set j (some (b2 && isL d2, d2)))) := q2
      rw [hb1] at q2
      refine q2 _ F2 H2 ?_
      have t1 : SR K W.T F1 H0 F2 H2 (σ.set i (some v1)) (env2.set i (some (false, d1))) := s2.set i (ok1.mono s2.grow.fix)
      refine s1.unbase (t1.setV j ?_)
      unfold ValOk at ok2 ⊢
      cases hb2 : (b2 && isL d2) with
      | false =>
        rw [hb2, if_neg Bool.false_ne_true] at ok2
        rw [if_neg Bool.false_ne_true]
        exact ok2
      | true =>
        rw [hb2, if_pos rfl] at ok2
        rw [if_pos rfl]
        obtain ⟨ds, c, vs, e1, e2, n, e3, r⟩ := ok2
        refine ⟨ds, c, vs, e1, e2, ⟨n.nf, n.n0, fun k d hk z => ?_⟩, e3, r⟩
        by_cases hki : i = k
        · subst hki
          by_cases hl : i < env2.length
          · rw [List.getElem?_set_self hl] at hk
            cases hk
          · rw [List.getElem?_eq_none (by simpa using hl)] at hk
            cases hk
        · rw [List.getElem?_set_ne hki] at hk z
          exact n.no k d hk z
    | true =>
      rw [hb1, if_pos rfl] at ok1
      obtain ⟨ds1, a1, vs1, rfl, rfl, n1, h1, r1⟩ := ok1
      refine ⟨F1, L2.upd H0 a1 (.lst vs1), F1, env1, s1.addBase n1 h1, psa_onU (fun t => s1.dropBase n1.n0 t) q1 fun d2 env2 v2 F2 H2 _ s2 ok2 q2 => ⟨_, v2, rfl, ?_⟩⟩
      have q2 : PostS K W F0 H0 D (.nx ((env2.set i (some (b1 && isL (.list ds1), .list ds1))).set j (some (b2 && isL d2, d2)))) := q2
      rw [hb1] at q2
      refine q2 _ F2 H2 ?_
      have hb0 : (L2.upd H0 a1 (.lst vs1)) a1 = some (.lst vs1) := upd_same
      have hH2 : H2 a1 = some (.lst vs1) := s2.base.ap _ _ hb0
      have hF2 : F2 a1 = none := by
        cases q3 : F2 a1 with
        | none => rfl
        | some o =>
          have := s2.grow.new a1 n1.nf (by rw [q3]; exact fun z => nomatch z)
          rw [hb0] at this
          cases this
      have s3 := s1.dropBase n1.n0 s2
      have nob1 : Nob F0 H0 F2 H2 σ env2 a1 := ⟨hF2, n1.n0, fun k d hk z => by
        obtain ⟨c, e1, _, _, e4⟩ := s2.own k d hk
        rw [z] at e1
        cases e1
        rw [hb0] at e4
        cases e4⟩
      have t1 := s3.setOwn i nob1 hH2 (r1.mono s2.grow.fix)
      refine t1.setV j ?_
      unfold ValOk at ok2 ⊢
      cases hb2 : (b2 && isL d2) with
      | false =>
        rw [hb2, if_neg Bool.false_ne_true] at ok2
        rw [if_neg Bool.false_ne_true]
        exact ok2
      | true =>
        rw [hb2, if_pos rfl] at ok2
        rw [if_pos rfl]
        obtain ⟨ds, c, vs, e1, e2, n, e3, r⟩ := ok2
        have hne : c ≠ a1 := fun z => by
          have := n.n0
          rw [z, hb0] at this
          cases this
        refine ⟨ds, c, vs, e1, e2, ⟨n.nf, (same_upd n1.n0).free n.n0, fun k d hk z => ?_⟩, e3, r⟩
        by_cases hki : i = k
        · subst hki
          by_cases hl : i < env2.length
          · rw [List.getElem?_set_self (by rw [← s2.len]; exact hl)] at z
            cases z
            exact hne rfl
          · rw [List.getElem?_eq_none (by simpa using hl)] at hk
            cases hk
        · rw [List.getElem?_set_ne hki] at hk z
          exact n.no k d hk z⟩
theorem ds_par {i j : Nat} {x y : Str} {b1 b2 : Bool} {a b : Expr} {fa fb : SF} {m1 m2 : List Nat} {px py pt : Pos} {kt k2 : Nat} {pt2 : Pos} (hc : X.calm = true) (hN : X.N.Nodup) (hi : X.N[i]? = some x) (hj : X.N[j]? = some y) (hij : i ≠ j)
    (hx : X.env.scope.names.lookup x = some .local) (hy : X.env.scope.names.lookup y = some .local) (ha : AE X W b1 a fa) (hb : AE X W b2 b fb)
    (hs1 : starEach [a, b] X.env = (false, eval a X.env) :: starEach [b] X.env) (hs2 : starEach [b] X.env = (false, eval b X.env) :: starEach [] X.env)
    (hw : swappedStores [.Tuple [.Name x px, .Name y py] kt pt] (.Tuple [a, b] k2 pt2) X.env = pure (some [x, y]))
    (hs : swapsWithSole [.Tuple [.Name x px, .Name y py] kt pt] (.Tuple [a, b] k2 pt2) pos.line X.env = pure false) :
    DS X W (.Assign [.Tuple [.Name x px, .Name y py] kt pt] (.Tuple [a, b] k2 pt2) pos) (xPar i j b1 m1 fa b2 m2 fb) :=
  ds_ok (ps_par hc hN hi hj hij hx hy (pa_cons (ae_of (m := m1) ha) (pa_cons (ae_of (m := m2) hb) pa_nil hs2) hs1) hw hs) fun F0 H0 F env D σ H s q => par_core s q
theorem mono_tA {K : PySem.W.Frag} {b : Bool} {m : List Nat} {f : SF} : MonoE (tA K W b m f) := fun σ H Q Q' i ⟨F0, H0, F, env, s, q⟩ => ⟨F0, H0, F, env, s, by
  unfold PSa at q ⊢
  split at q
  · exact fun v F' H' s' r => i _ _ (q v F' H' s' r)
  · exact q
  · exact q⟩
theorem PostS.lateD {K : PySem.W.Frag} {F0 H0 : Hp} {D : Ends} {o : Out} (h : PostS K W F0 H0 D o) : PostS K W F0 H0 { D with nx := fun σ H => ∀ p u, H p = none → D.nx σ (L2.upd H p u) } o := by
  cases o with
  | nx env => exact fun σ F H s p u hp => h σ F _ (s.later (same_upd hp))
  | rt d => exact h
  | bk env => exact h
  | ct env => exact h
  | exc c env => exact h
  | stuck => exact h
/-- .. not swapped: by way of the tuple -/
theorem ds_parU {i j : Nat} {x y : Str} {b1 b2 : Bool} {a b : Expr} {fa fb : SF} {m1 m2 : List Nat} {px py pt : Pos} {kt k2 : Nat} {pt2 : Pos} (hc : X.calm = true) (hN : X.N.Nodup) (hi : X.N[i]? = some x) (hj : X.N[j]? = some y)
    (hx : Loc X.env.scope x) (hx' : X.fn x = true ∨ X.env.scope.names.lookup x = some .local) (hy : Loc X.env.scope y) (hy' : X.fn y = true ∨ X.env.scope.names.lookup y = some .local) (ha : AE X W b1 a fa) (hb : AE X W b2 b fb)
    (hs1 : starEach [a, b] X.env = (false, eval a X.env) :: starEach [b] X.env) (hs2 : starEach [b] X.env = (false, eval b X.env) :: starEach [] X.env)
    (hw : swappedStores [.Tuple [.Name x px, .Name y py] kt pt] (.Tuple [a, b] k2 pt2) X.env = pure none)
    (hs : swapsWithSole [.Tuple [.Name x px, .Name y py] kt pt] (.Tuple [a, b] k2 pt2) pos.line X.env = pure false) :
    DS X W (.Assign [.Tuple [.Name x px, .Name y py] kt pt] (.Tuple [a, b] k2 pt2) pos) (xPar i j b1 m1 fa b2 m2 fb) := by
  refine ds_ok (ps_asg (pe_tup (pa_cons (ae_of (m := m1) ha) (pa_cons (ae_of (m := m2) hb) pa_nil hs2) hs1)) (pg_tup hc (pgs_cons (pg_name hN hi hx hx') (pgs_cons (pg_name hN hj hy hy') pgs_nil))) hs hw) fun F0 H0 F env D σ H s q => ?_
  refine mono_tA σ H _ _ (fun v H1 h1 => mono_tA σ H1 _ _ (fun w H2 h2 => ?_) h1) (par_core (i := i) (j := j) s q.lateD)
  obtain ⟨v', w', e, h⟩ := h2
  cases e
  exact ⟨by show 2 ≤ sizeLine; decide, fun p hp => ⟨p, _, rfl, .inl (.inl upd_same), rfl, _, _, rfl, _, _, rfl, rfl, h p _ hp⟩⟩
end
end SH


set_option Elab.async false
set_option linter.all false
set_option maxRecDepth 100000
set_option maxHeartbeats 4000000
/-! The layer, part k: expressions, by a reader of the text. -/
namespace SH
open PySem PySem.Spec PyProof.Rows L2

/-! ### side conditions by shape -/
def noStar : Expr → Bool
  | .Starred .. => false
  | _ => true
theorem star_cons {a : Expr} {es : List Expr} {env : Env} (h : noStar a = true) : starEach (a :: es) env = (false, eval a env) :: starEach es env := by
  cases a <;> first | rfl | cases h
theorem star_any {pos : Pos} {env : Env} : ∀ {es : List Expr}, es.all noStar = true → (backTo pos (starEach es env)).any (·.1) = false
  | [], _ => rfl
  | a :: es, h => by
    rw [List.all_cons, Bool.and_eq_true] at h
    rw [star_cons h.1]
    exact star_any (es := es) h.2
theorem asg_cons {a : Expr} {es : List Expr} {env : Env} (h : noStar a = true) : assignEach (a :: es) env = (false, assign a env) :: assignEach es env := by
  cases a <;> first | rfl | cases h
def notSet : Expr → Bool
  | .Set .. => false
  | _ => true
theorem folded_ok {e : Expr} {env : Env} (h : notSet e = true) : ∀ x, foldedSetIterable e env x = pure x := by
  cases e <;> first | (intro x; rfl) | cases h
def notComp : Expr → Bool
  | .ListComp .. => false
  | .SetComp .. => false
  | .DictComp .. => false
  | _ => true
theorem swap_no {e : Expr} {t : Option Expr} {l : Nat} {env : Env} (h : notComp e = true) : swapsWith e t l env = pure false := by
  cases e <;> first | rfl | cases h
/-- tests by truth -/
def plainT : Expr → Bool
  | .BoolOp .. => false
  | .UnaryOp .Not _ _ => false
  | .IfExp .. => false
  | .Compare .. => false
  | _ => true
theorem isTrue_ok {e : Expr} {env : Env} (h : plainT e = true) : ∀ whole, isTrue e env whole = (do let v ← whole; standAt e.pos; holding [v] (truthy v)) := by
  cases e with
  | UnaryOp op x p => cases op <;> first | (intro w; rfl) | cases h
  | _ => first | (intro w; rfl) | cases h
def plainI : Expr → Bool
  | .Slice .. => false
  | .Constant .. => true
  | .Name .. => true
  | .BinOp .. => true
  | .UnaryOp .. => true
  | .Subscript .. => true
  | .Call .. => true
  | _ => false
theorem plainIx_ok {e : Expr} (h : plainI e = true) : PlainIx e := by
  intro o i
  cases e <;> first | rfl | cases h

/-! ### names -/
def ixOf (x : Str) : List Str → Option Nat
  | [] => none
  | y :: r => if y = x then some 0 else (ixOf x r).map (· + 1)
theorem ixOf_get {x : Str} : ∀ {N : List Str} {i : Nat}, ixOf x N = some i → N[i]? = some x
  | [], _, h => by cases h
  | y :: r, i, h => by
    rw [ixOf] at h
    split at h
    · rename_i e
      cases h
      rw [e]
      rfl
    · obtain ⟨j, h1, rfl⟩ := Option.map_eq_some_iff.mp h
      rw [List.getElem?_cons_succ]
      exact ixOf_get h1
structure SC where
  N : List Str
  sc : Scope
  top : Bool
  calm : Bool
  own : List (Str × NameKind)
  lam : Bool
def mkSCB (lm : Bool) (N : List Str) (sc : Scope) : SC := ⟨N, sc, true, true, [], lm⟩
abbrev mkSC (N : List Str) (sc : Scope) : SC := mkSCB false N sc
/-- of a def with lambdas -/
abbrev mkSCL (N : List Str) (sc : Scope) : SC := mkSCB true N sc
def SC.blk (c : SC) (scope : Scope) : SC := ⟨c.N, relS scope c.sc, false, true, scope.names, false⟩
/-- what the text's module gives -/
structure Tab where
  fns : List (Str × Nat × (List D → Res D))
  cons : List (Str × D)
  excs : List (Str × Nat)
  blts : List Str
  gcds : List Str
  subs : List (Nat × List (Str × Bool))
/-- the addresses of the module's classes of errors, and its tables -/
structure CA where
  a : Nat → Addr
  T : TB
instance : CoeFun CA (fun _ => Nat → Addr) := ⟨CA.a⟩
structure FnAt (P : Program) (w : World) (K : PySem.W.Frag) (mg : Str → Option Value) (base : Heap) (ca : CA) (k : Nat) (x : Str) (n : Nat) (f : List D → Res D) : Prop where
  ex : ∃ (g : Addr) (fd : FuncData) (ps : List Str), FnOk P w K mg base (L2.CX P w) k g fd ps (spOf ca.a K ca.T ps.length f) ∧ ps.length = n ∧ mg x = some (.ref g) ∧ PySem.W.keepIn K (.ref g) = true ∧ Binds K fd ps []
structure ExcAt (K : PySem.W.Frag) (mg : Str → Option Value) (a : Addr) (x : Str) : Prop where
  ex : ∃ (bmB : List Value) (B newId initId : String), ExcBaseFacts B newId initId bmB ∧ PySem.W.excIn K a bmB newId = true
  mg : mg x = some (.ref a)
  kp : PySem.W.keepIn K (.ref a) = true
  sub : PySem.W.subIn K (.ref a) (.type "BaseException") = some true
  ty : PySem.W.typeIn K (.ref a) = some (.type "type")
structure Mo (P : Program) (w : World) (K : PySem.W.Frag) (mg : Str → Option Value) (base : Heap) (ca : CA) (k : Nat) (T : Tab) : Prop where
  fns : ∀ x n f, T.fns.lookup x = some (n, f) → FnAt P w K mg base ca k x n f
  cons : ∀ x d, T.cons.lookup x = some d → ∃ u v, mg x = some u ∧ RelV v u ∧ ∀ F, Rp K F v d
  excs : ∀ x c, T.excs.lookup x = some c → ExcAt K mg (ca c) x
  blts : ∀ x ∈ T.blts, mg x = none
  gcds : ∀ x ∈ T.gcds, mg x = some (.builtin "math.gcd")
  subs : ∀ c l x b, T.subs.lookup c = some l → l.lookup x = some b → ∃ A : Addr, mg x = some (.ref A) ∧ PySem.W.exmOne K (.ref (ca c)) (.ref A) = some b ∧ PySem.W.kitOne K (.ref (ca c)) (.ref A) = some b
  excC : ∀ c l, T.subs.lookup c = some l → ExcC K (ca c)
/-- the def's own table is known -/
structure LamAt (X : Cx) (T : TB) : Prop where
  ex : ∃ cc P : Addr, X.env.code = .ref cc ∧ LamX.TabB X.base X.mg cc P ∧ (P, X.env.qual ++ "<lambda>") ∈ T ∧ ∀ p ∈ T, p.1 = P → p.2 = X.env.qual ++ "<lambda>"
structure Ok (X : Cx) (ca : CA) (k : Nat) (T : Tab) (W : WX0) (c : SC) : Prop where
  mo : Mo X.prog X.w X.K X.mg X.base ca k T
  hN : X.N = c.N
  nd : c.N.Nodup
  sc : X.env.scope = c.sc
  fk : c.sc.kind = .function
  calm : c.calm = true → X.calm = true
  room : c.calm = true → Room k X.A
  un : X.A.units + 66 < cLine
  fn : c.top = true → ∀ x, X.fn x = true
  fnb : ∀ x, c.own.lookup x = some .cell → X.fn x = true
  tk : Takes X (wx ca.a W)
  wt : W.T = ca.T
  la : c.lam = true → LamAt X W.T
section
variable {X : Cx} {ca : CA} {k : Nat} {T : Tab} {W : WX0} {c : SC}
theorem Ok.gl (o : Ok X ca k T W c) {x : Str} (h : c.sc.names.lookup x = some .globalImplicit) : Gl X x := by
  show X.env.scope.names.lookup x = _
  rw [o.sc]
  exact h
theorem Ok.nd' (o : Ok X ca k T W c) : X.N.Nodup := by rw [o.hN]; exact o.nd
theorem Ok.ix (o : Ok X ca k T W c) {x : Str} {i : Nat} (h : ixOf x c.N = some i) : X.N[i]? = some x := by rw [o.hN]; exact ixOf_get h
end
def dunder (x : Str) : Bool := x == ("__debug__" : Str) || x == ("__classdict__" : Str)
theorem dunder_no {x : Str} (h : dunder x = false) : (x == ("__debug__" : Str)) = false ∧ (x == ("__classdict__" : Str)) = false := by
  unfold dunder at h
  rw [Bool.or_eq_false_iff] at h
  exact h
def visB : Option NameKind → Bool
  | some .local => true
  | some .cell => true
  | some .free => true
  | _ => false
theorem vis_ok {sc : Scope} {x : Str} (h : visB (sc.names.lookup x) = true) : Vis sc x := by
  unfold visB at h
  split at h
  · exact .inl (by assumption)
  · exact .inr (.inl (by assumption))
  · exact .inr (.inr (by assumption))
  · cases h
def cName (T : Tab) (c : SC) (x : Str) : Option SF := if dunder x = false then
    if visB (c.sc.names.lookup x) = true then (ixOf x c.N).map vVar
    else if c.sc.names.lookup x = some .globalImplicit then (T.cons.lookup x).map vC else none
  else none
theorem cName_ok {X : Cx} {ca : CA} {k : Nat} {T : Tab} {W : WX0} {c : SC} (o : Ok X ca k T W c) {x : Str} {f : SF} {pos : Pos} (h : cName T c x = some f) : DE X W (.Name x pos) f := by
  unfold cName at h
  split at h
  · rename_i hd
    obtain ⟨d1, d2⟩ := dunder_no hd
    split at h
    · rename_i hv
      obtain ⟨i, h1, rfl⟩ := Option.map_eq_some_iff.mp h
      exact de_var (o.ix h1) (by rw [o.sc]; exact vis_ok hv) d1 d2
    · split at h
      · rename_i hg
        obtain ⟨d, h1, rfl⟩ := Option.map_eq_some_iff.mp h
        obtain ⟨u, v, e1, e2, e3⟩ := o.mo.cons x d h1
        exact de_glob (o.gl hg) e1 e2 e3 d1
      · cases h
  · cases h
def cConst : Const → Option SF
  | .int i => some (vC (.int i))
  | .bool b => some (vC (.bool b))
  | .str s => some (vC (.str s))
  | .none => some (vC .none)
  | _ => none
theorem cConst_ok {X : Cx} {W : WX0} {k : Const} {j : Nat} {pos : Pos} {f : SF} (h : cConst k = some f) : DE X W (.Constant k j pos) f := by
  unfold cConst at h
  split at h <;> first
    | (cases h; exact de_int)
    | (cases h; exact de_bool)
    | (cases h; exact de_str)
    | (cases h; exact de_none)
    | cases h
/-! ### operators -/
def cOp : Operator → Option (Bool × (D → D → Res D))
  | .Add => some (true, dAdd)
  | .Mult => some (true, dMul)
  | .Sub => some (false, dSub)
  | .FloorDiv => some (false, dDiv)
  | .Mod => some (false, dMod)
  | _ => none
theorem cOp_ok {X : Cx} {op : Operator} {b : Bool} {g : D → D → Res D} (h : cOp op = some (b, g)) : (b = true → OpR X (binaryOp op) (rG2 X.K g)) ∧ OpR X (binaryOp op) (rD2 X.K g) := by
  unfold cOp at h
  split at h
  · cases h; exact ⟨fun _ => opG_add, opD_add⟩
  · cases h; exact ⟨fun _ => opG_mul, opD_mul⟩
  · cases h; exact ⟨fun z => absurd z Bool.false_ne_true, opD_sub⟩
  · cases h; exact ⟨fun z => absurd z Bool.false_ne_true, opD_div⟩
  · cases h; exact ⟨fun z => absurd z Bool.false_ne_true, opD_mod⟩
  · cases h
/-! x in xs -/
def flat1 : D → Bool
  | .none => true
  | .bool _ => true
  | .int _ => true
  | .str _ => true
  | _ => false
def eq1 : D → D → Bool
  | .none, .none => true
  | .bool a, .bool b => a == b
  | .int a, .int b => a == b
  | .str a, .str b => a == b
  | .int a, .bool b => a == (if b then 1 else 0)
  | .bool a, .int b => (if a then 1 else 0) == b
  | _, _ => false
def dIn : D → D → Res D
  | x, .list ys => if flat1 x && ys.all flat1 then .ok (.bool (ys.any fun y => eq1 y x)) else if okEq 9 x && okEq 9 (.list ys) then .ok (.bool (ys.any fun y => PyData.eqv y x)) else .stuck
  | x, .tuple ys => if flat1 x && ys.all flat1 then .ok (.bool (ys.any fun y => eq1 y x)) else .stuck
  | _, _ => .stuck
def dNotIn : D → D → Res D
  | x, .list ys => if flat1 x && ys.all flat1 then .ok (.bool (!ys.any fun y => eq1 y x)) else if okEq 9 x && okEq 9 (.list ys) then .ok (.bool (!ys.any fun y => PyData.eqv y x)) else .stuck
  | x, .tuple ys => if flat1 x && ys.all flat1 then .ok (.bool (!ys.any fun y => eq1 y x)) else .stuck
  | _, _ => .stuck
section
variable {K : PySem.W.Frag} {F : Hp}
theorem flat1_V {v : V} {d : D} (r : Rp K F v d) (h : flat1 d = true) : flatV v = true := by
  cases r <;> first | rfl | cases h
theorem flat1_all : ∀ {vs : List V} {ds : List D}, RpL K F vs ds → ds.all flat1 = true → vs.all flatV = true
  | _, _, .nil, _ => rfl
  | _, _, .cons r t, h => by
    rw [List.all_cons, Bool.and_eq_true] at h ⊢
    exact ⟨flat1_V r h.1, flat1_all t h.2⟩
theorem eq1_V {v w : V} {d e : D} (r : Rp K F v d) (q : Rp K F w e) (h : flat1 d = true) (h' : flat1 e = true) : eqV v w = eq1 d e := by
  cases r <;> first
    | (cases q <;> first | rfl | cases h')
    | cases h
theorem any_V {v : V} {d : D} (r : Rp K F v d) (h : flat1 d = true) : ∀ {vs : List V} {ds : List D}, RpL K F vs ds → ds.all flat1 = true → (vs.any fun y => eqV y v) = ds.any fun y => eq1 y d
  | _, _, .nil, _ => rfl
  | _, _, .cons q t, z => by
    rw [List.all_cons, Bool.and_eq_true] at z
    rw [List.any_cons, List.any_cons, eq1_V q r z.1 h, any_V r h t z.2]
end
theorem opD_in {X : Cx} (hu : X.A.units + 65 < cLine) : OpR X (compareOp .In) (rD2 X.K dIn) := by
  intro pins s σ H x y v u Q I rx ry h
  obtain ⟨XX, F, d, e, sb, r1, r2, q⟩ := h
  unfold dIn at q
  split at q
  · split at q
    · rename_i hf
      rw [Bool.and_eq_true] at hf
      obtain ⟨a, xs, rfl, h1, h2⟩ := r2.lst'
      refine op_in_seq pins s σ H _ _ v u Q I rx ry ⟨a, xs, rfl, .inl ((h1.mono sb).seq), flat1_V r1 hf.1, flat1_all h2 hf.2, ?_⟩
      rw [if_neg Bool.false_ne_true]
      unfold inV
      rw [any_V r1 hf.1 h2 hf.2]
      exact q.ok0 sb (.bl _)
    · split at q
      · rename_i hl
        rw [Bool.and_eq_true] at hl
        exact op_inD hu pins s σ H _ _ v u Q I rx ry ⟨_, _, Rp.dp sb 9 hl.1 r1, Rp.dp sb 9 hl.2 r2, okEq_shaped (by decide) hl.1, okEq_shaped (by decide) hl.2, q.ok0 sb (.bl _)⟩
      · exact q.elim
  · split at q
    · rename_i hf
      rw [Bool.and_eq_true] at hf
      obtain ⟨a, xs, rfl, h1, h2⟩ := r2.tup'
      refine op_in_seq pins s σ H _ _ v u Q I rx ry ⟨a, xs, rfl, .inr (sqT_mono sb h1), flat1_V r1 hf.1, flat1_all h2 hf.2, ?_⟩
      rw [if_neg Bool.false_ne_true]
      unfold inV
      rw [any_V r1 hf.1 h2 hf.2]
      exact q.ok0 sb (.bl _)
    · exact q.elim
  · exact q.elim
theorem opD_notIn {X : Cx} (hu : X.A.units + 65 < cLine) : OpR X (compareOp .NotIn) (rD2 X.K dNotIn) := by
  intro pins s σ H x y v u Q I rx ry h
  obtain ⟨XX, F, d, e, sb, r1, r2, q⟩ := h
  unfold dNotIn at q
  split at q
  · split at q
    · rename_i hf
      rw [Bool.and_eq_true] at hf
      obtain ⟨a, xs, rfl, h1, h2⟩ := r2.lst'
      refine op_notIn_seq pins s σ H _ _ v u Q I rx ry ⟨a, xs, rfl, .inl ((h1.mono sb).seq), flat1_V r1 hf.1, flat1_all h2 hf.2, ?_⟩
      rw [if_pos rfl]
      unfold inV
      rw [any_V r1 hf.1 h2 hf.2]
      exact q.ok0 sb (.bl _)
    · split at q
      · rename_i hl
        rw [Bool.and_eq_true] at hl
        exact op_notInD hu pins s σ H _ _ v u Q I rx ry ⟨_, _, Rp.dp sb 9 hl.1 r1, Rp.dp sb 9 hl.2 r2, okEq_shaped (by decide) hl.1, okEq_shaped (by decide) hl.2, q.ok0 sb (.bl _)⟩
      · exact q.elim
  · split at q
    · rename_i hf
      rw [Bool.and_eq_true] at hf
      obtain ⟨a, xs, rfl, h1, h2⟩ := r2.tup'
      refine op_notIn_seq pins s σ H _ _ v u Q I rx ry ⟨a, xs, rfl, .inr (sqT_mono sb h1), flat1_V r1 hf.1, flat1_all h2 hf.2, ?_⟩
      rw [if_pos rfl]
      unfold inV
      rw [any_V r1 hf.1 h2 hf.2]
      exact q.ok0 sb (.bl _)
    · exact q.elim
  · exact q.elim
def cCmp : CmpOp → Option (D → D → Res D)
  | .Eq => some dEq
  | .NotEq => some dNe
  | .Lt => some dLt
  | .LtE => some dLe
  | .Gt => some dGt
  | .GtE => some dGe
  | .Is => some dIs
  | .IsNot => some dIsNot
  | .In => some dIn
  | .NotIn => some dNotIn
theorem cCmp_op {X : Cx} {op : CmpOp} {g : D → D → Res D} (hu : X.A.units + 65 < cLine) (h : cCmp op = some g) : OpR X (compareOp op) (rD2 X.K g) := by
  unfold cCmp at h
  split at h <;> cases h
  · exact opD_eq (by omega)
  · exact opD_ne (by omega)
  · exact opD_lt
  · exact opD_le
  · exact opD_gt
  · exact opD_ge
  · exact opD_is
  · exact opD_isNot
  · exact opD_in hu
  · exact opD_notIn hu
end SH


set_option Elab.async false
set_option linter.all false
set_option maxRecDepth 100000
set_option maxHeartbeats 4000000
/-! The layer, part ka: sorted of a tuple. -/
namespace SH
open PySem PySem.Spec PyProof.Rows PySem.W PySem.Calls
section
variable {prog : Program} {w : World} {A : Around} {E : Value → Shared → Prop} {s : Shared}
theorem gather_tup {l : Addr} {us : List Value} {Q : List Value → Shared → Prop} (ht : s.heap.IsTuple l us.toArray) (hz : us.length ≤ sizeLine)
    (h : Q us { s with heap := (s.heap.push (seqObj "list" #[] 0)).update s.heap.objs.size (Obj.mapSeq (· ++ us.toArray)) }) : wpAny (model prog w) A (collect (.ref l)) Q E s := by
  obtain ⟨ob, hob, hcl, m, hdt⟩ := id ht
  have hob2 : (s.heap.push (seqObj "list" #[] 0)).get? l = some ob := Heap.get?_push_of_some _ hob
  have hty : (Value.type "tuple" == Value.type "list") = false := by decide
  have new0 : (s.heap.push (seqObj "list" #[] 0)).get? s.heap.objs.size = some (seqObj "list" #[] 0) := Heap.get?_push_size _ rfl
  have hsz : (#[] ++ us.toArray).size ≤ sizeLine + 1 := by simp only [Array.size_append, List.size_toArray]; simp; omega
  have elist : ((#[] : Array Value) ++ us.toArray).toList = us := by simp
  unfold collect
  refine wpAny_bind (wpAny_runValue (codeAny_builtin entry_proto_collect' (?_ : wpAny _ _ (do again (.builtin "list.__iadd__" ⟨[← newList [], .ref l], []⟩)) _ _ s)))
  refine wpAny_bind (wpAny_newList (wpAny_pure ⟨Code.quiet_builtin _ (by decide +kernel), codeAny_builtin entry_list_iadd' (?_ : wpAny _ _ (Builtin.List.listExtendWith (.ref s.heap.objs.size) (.ref l) (.ref s.heap.objs.size)) _ _ { s with heap := s.heap.push (seqObj "list" #[] 0) })⟩))
  unfold Builtin.List.listExtendWith
  refine wpAny_bind (wpAny_typeOf (T := "tuple") ⟨ob, hob2, hcl⟩ ?_)
  rw [if_pos (by rw [hty]; simp)]
  refine wpAny_bind (listItems_at hob2 hdt (wpAny_bind (listItems_at (xs := #[]) (n := 0) new0 rfl ?_)))
  rw [if_neg (by simp)]
  refine wpAny_bind (listUpdate_at (xs := #[]) (n := 0) new0 rfl (wpAny_pure ?_) (Nat.zero_le _) hsz)
  show wpAny (model prog w) A (load s.heap.objs.size >>= fun o => match o.data with
      | .seq xs _ => pure xs.toList
      | _ => unsupported "internal:collect") Q E { s with heap := (s.heap.push (seqObj "list" #[] 0)).update s.heap.objs.size (Obj.mapSeq (· ++ us.toArray)) }
  refine wpAny_bind (wpAny_load (get?_update_seq new0 _) (?_ : wpAny _ _ (pure ((#[] : Array Value) ++ us.toArray).toList) Q E _))
  rw [elist]
  exact wpAny_pure h
/-- sorted(t, ..): list.sort(..) of a new list of t's items -/
theorem sortedT_by {l : Addr} {us : List Value} {kw : List (Str × Value)} {Q : Value → Shared → Prop} (ht : s.heap.IsTuple l us.toArray) (hz : us.length ≤ sizeLine) (a1 : argsOk "sorted" ⟨[.ref l], kw⟩) (a2 : ∀ x, argsOk "list.sort" ⟨[.ref x], kw⟩)
    (body : ∀ E2 : Value → Shared → Prop, wpAny (model prog w) A.in1.in1 (Builtin.«list.sort» ⟨[.ref (s.heap.objs.size + 1)], kw⟩) (fun f t => f = .done (.ret .none) ∧ Q (.ref (s.heap.objs.size + 1)) t) E2 { s with heap := copyHeap s.heap us }) :
    wpAny (model prog w) A (call (.builtin "sorted") [.ref l] kw) Q E s := by
  have hn : ((s.heap.push (seqObj "list" #[] 0)).update s.heap.objs.size (Obj.mapSeq (· ++ us.toArray))).objs.size = s.heap.objs.size + 1 := by rw [Heap.size_update, size_push']
  refine call_function_entry_kw kind_sorted plain_sorted entry_sorted a1 ?_
  unfold Builtin.«sorted»
  refine wpAny_bind (m := checkCount "sorted" 1 1 _) (wpAny_pure (wpAny_bind (gather_tup ht hz (wpAny_bind (wpAny_newList ?_ hz)))))
  show wpAny (model prog w) _ _ _ _ { s with heap := copyHeap s.heap us }
  rw [hn]
  refine wpAny_bind (wpAny_holding (wpAny_call_entry_kw slot_list_sort ⟨_, copyHeap_at s.heap us, rfl⟩ entry_list_sort (wpAny_mono (body _) (fun f t hf => ?_) fun _ _ e => e) (a2 _)))
  obtain ⟨rfl, hq⟩ := hf
  exact ⟨_, rfl, wpAny_pure ⟨_, rfl, hq⟩⟩
theorem sortedT_data {β : Type} {us : List Value} {bs : List β} {enc : β → PyData} {R : Value → β → Prop} {l : Addr} {Q : Value → Shared → Prop} (ht : s.heap.IsTuple l us.toArray) (e : EachIs R us bs) (er : EachIs (fun v b => ∃ as, Reads s.heap v (enc b) as) us bs)
    (hal : AllAlike (bs.map enc)) (hk : Sortable (bs.map enc)) (hz : bs.length ≤ sizeLine) (hu : ∀ b, b ∈ bs → A.units + 2 + (enc b).depth < cLine)
    (h : ∀ out, out.length = bs.length → EachIs R out (bs.mergeSort (dataLe false enc)) → Q (.ref (s.heap.objs.size + 1)) { s with heap := sortedAll s.heap us (List.toArray out) }) : wpAny (model prog w) A (call (.builtin "sorted") [.ref l]) Q E s := by
  have er2 : EachIs (fun v b => ∃ as, Reads (sortingHeap (copyHeap s.heap us) (s.heap.objs.size + 1) us) v (enc b) as) us bs := er.mono fun _ _ ⟨as, r⟩ => ⟨as, PyProof.Rows.Reads.keeps (fun _ _ q => sorting_copy_old q) r⟩
  have zl : us.length ≤ sizeLine := by rw [e.length]; exact hz
  have so := SortsAt.data (prog := prog) (w := w) (A := A.in1.in1) (s := { s with heap := sortingHeap (copyHeap s.heap us) (s.heap.objs.size + 1) us }) (each_map (R := fun v d => ∃ as, Reads (sortingHeap (copyHeap s.heap us) (s.heap.objs.size + 1) us) v d as) enc er2) hal hk (bound_map hu)
  refine sortedT_by ht zl (args_sorted1 _) (fun _ => args_list_sort _) fun _ => ?_
  exact list_sort_vals (s := { s with heap := copyHeap s.heap us }) (copyHeap_at s.heap us) so zl ⟨rfl, h _ ((sortVals_length false rfl).trans e.length) (sortVals_data false e er2 hal)⟩
end
end SH


set_option Elab.async false
set_option linter.all false
set_option maxRecDepth 100000
set_option maxHeartbeats 4000000
/-! The layer, part kb: sorted, min and max of data. -/
namespace SH
open PySem PySem.Spec PyProof.Rows L2

def ddle : D → D → Bool := PySem.W.dataLe false id
def alikeB (xs : List D) : Bool := xs.all fun d => xs.all fun e => PySem.W.alike d e
def tupNE : D → Bool
  | .tuple (_ :: _) => true
  | _ => false
def notNT : D → Bool
  | .none => false
  | .tuple _ => false
  | _ => true
def notN : D → Bool
  | .none => false
  | _ => true
def sortB (xs : List D) : Bool := alikeB xs && ((xs.all tupNE || xs.all notNT) && xs.all (okEq 9))
theorem alikeB_ok {xs : List D} (h : alikeB xs = true) : ∀ d, d ∈ xs → ∀ d', d' ∈ xs → PySem.W.alike d d' = true := fun d hd d' hd' => List.all_eq_true.mp (List.all_eq_true.mp h d hd) d' hd'
theorem sortable_ok {xs : List D} (h : (xs.all tupNE || xs.all notNT) = true) : PySem.W.Sortable xs := by
  rcases Bool.or_eq_true_iff.mp h with h | h
  · refine .inl fun d hd => ?_
    have := List.all_eq_true.mp h d hd
    unfold tupNE at this
    split at this
    · exact ⟨_, _, rfl⟩
    · cases this
  · refine .inr fun d hd => ?_
    have := List.all_eq_true.mp h d hd
    refine ⟨fun z => ?_, fun ys z => ?_⟩
    · rw [z] at this
      cases this
    · rw [z] at this
      cases this
section
variable {X : Cx} {pins : List (Addr × Obj)} {σ : L2.St} {F H : Hp} {s : Shared}
theorem each_of (I : Inv X pins σ H s) (sb : Same F H) : ∀ {vs : List V} {us : List Value} {ds : List D}, Vals vs us → RpL X.K F vs ds → ds.all (okEq 9) = true →
    PySem.W.EachIs (fun u d => ∃ v, RelV v u ∧ Rp X.K F v d) us ds ∧ PySem.W.EachIs (fun u d => ∃ as, PySem.Reads s.heap u (id d) as) us ds
  | _, _, _, .nil, .nil, _ => ⟨.nil, .nil⟩
  | _, _, _, .cons r rs, .cons q qs, h => by
    rw [List.all_cons, Bool.and_eq_true] at h
    obtain ⟨h1, h2⟩ := each_of I sb rs qs h.2
    exact ⟨.cons ⟨_, r, q⟩ h1, .cons (Dp.reads I _ _ _ (Rp.dp sb 9 h.1 q) r) h2⟩
theorem each_back : ∀ {us : List Value} {ds : List D}, PySem.W.EachIs (fun u d => ∃ v, RelV v u ∧ Rp X.K F v d) us ds → ∃ vs : List V, Vals vs us ∧ RpL X.K F vs ds
  | _, _, .nil => ⟨[], .nil, .nil⟩
  | _, _, .cons h t => by
    obtain ⟨v, h1, h2⟩ := h
    obtain ⟨vs, h3, h4⟩ := each_back t
    exact ⟨v :: vs, .cons h1 h3, .cons h2 h4⟩
end
def dSorted : List D → Res D
  | [.list xs] => if sortB xs then .ok (.list (xs.mergeSort ddle)) else .stuck
  | [.tuple xs] => if sortB xs then .ok (.list (xs.mergeSort ddle)) else .stuck
  | _ => .stuck
theorem cG_sorted {X : Cx} (hu : X.A.units + 66 < cLine) : CallR X (.builtin "sorted") (rGL X.K dSorted) := by
  intro pins s σ H vs us Q I rv h
  obtain ⟨XX, F, ds, sb, rl, q⟩ := h
  unfold dSorted at q
  split at q
  · rename_i xs
    split at q
    · rename_i hs
      unfold sortB at hs
      rw [Bool.and_eq_true, Bool.and_eq_true] at hs
      obtain ⟨v, rfl, r⟩ := one' rl
      obtain ⟨a, ys, rfl, h1, h2⟩ := r.lst'
      obtain ⟨its, ri, hl, hz⟩ := I.list (h1.mono sb).seq
      rw [Vals.ref1 rv]
      obtain ⟨e1, e2⟩ := each_of I sb ri h2 hs.2.2
      refine PySem.W.sorted_data (enc := id) (bs := xs) hl.isList e1 e2 (by rw [List.map_id]; exact alikeB_ok hs.1) (by rw [List.map_id]; exact sortable_ok hs.2.1) (by rw [← h2.length]; exact hz) (fun b hb => ?_) fun out hlen e3 => ?_
      · have := SeqAt.depth_of_shaped (okEq_shaped (by decide) (List.all_eq_true.mp hs.2.2 b hb))
        show X.A.units + 2 + b.depth < cLine
        omega
      · obtain ⟨zs, r1, r2⟩ := each_back e3
        obtain ⟨ep, he⟩ := PyProof.Rows.sortedAll_at s.heap its out.toArray
        have hz' : zs.length ≤ sizeLine := by rw [r1.length, hlen, ← h2.length]; exact hz
        exact ⟨.ref _, upd H (s.heap.objs.size + 1) (.lst zs), I.laid (t' := s.toks) (fun _ _ => PyProof.Rows.sortedAll_old) (Nat.le_succ _) ⟨hz', out, ep, r1, he⟩, rfl, q.newL sb r2 _ (I.hok.fresh (Nat.le_succ _))⟩
    · exact q.elim
  · rename_i xs
    split at q
    · rename_i hs
      unfold sortB at hs
      rw [Bool.and_eq_true, Bool.and_eq_true] at hs
      obtain ⟨v, rfl, r⟩ := one' rl
      obtain ⟨a, ys, rfl, h1, h2⟩ := r.tup'
      obtain ⟨its, ri, hl, hz⟩ := I.tuple (sqT_mono sb h1)
      rw [Vals.ref1 rv]
      obtain ⟨e1, e2⟩ := each_of I sb ri h2 hs.2.2
      refine sortedT_data (enc := id) (bs := xs) hl e1 e2 (by rw [List.map_id]; exact alikeB_ok hs.1) (by rw [List.map_id]; exact sortable_ok hs.2.1) (by rw [← h2.length]; exact hz) (fun b hb => ?_) fun out hlen e3 => ?_
      · have := SeqAt.depth_of_shaped (okEq_shaped (by decide) (List.all_eq_true.mp hs.2.2 b hb))
        show X.A.units + 2 + b.depth < cLine
        omega
      · obtain ⟨zs, r1, r2⟩ := each_back e3
        obtain ⟨ep, he⟩ := PyProof.Rows.sortedAll_at s.heap its out.toArray
        have hz' : zs.length ≤ sizeLine := by rw [r1.length, hlen, ← h2.length]; exact hz
        exact ⟨.ref _, upd H (s.heap.objs.size + 1) (.lst zs), I.laid (t' := s.toks) (fun _ _ => PyProof.Rows.sortedAll_old) (Nat.le_succ _) ⟨hz', out, ep, r1, he⟩, rfl, q.newL sb r2 _ (I.hok.fresh (Nat.le_succ _))⟩
    · exact q.elim
  · exact q.elim
/-! min and max of a list of data -/
theorem each_at {R : Value → D → Prop} : ∀ {us : List Value} {ds : List D} {i : Nat} {u : Value}, PySem.W.EachIs R us ds → us[i]? = some u → ∃ d, ds[i]? = some d ∧ R u d
  | _, _, 0, _, .cons h t, e => by
    cases e
    exact ⟨_, rfl, h⟩
  | _, _, i + 1, _, .cons h t, e => each_at (i := i) t e
theorem reads_all {h : Heap} : ∀ {us : List Value} {ds : List D}, PySem.W.EachIs (fun u d => ∃ as, PySem.Reads h u (id d) as) us ds → ∃ as, PySem.ReadsAll h us ds as
  | _, _, .nil => ⟨_, .nil⟩
  | _, _, .cons ⟨as, r⟩ t => by
    obtain ⟨bs, r2⟩ := reads_all t
    exact ⟨_, .cons r r2⟩
def minOk (xs : List D) : Bool := alikeB xs && (xs.all notN && xs.all (okEq 9))
theorem alikeAll_ok {xs : List D} (h : minOk xs = true) : PySem.W.AlikeAll xs := by
  unfold minOk at h
  rw [Bool.and_eq_true, Bool.and_eq_true] at h
  refine ⟨fun x hx y hy => alikeB_ok h.1 x hx y hy, fun x hx z => ?_⟩
  have := List.all_eq_true.mp h.2.1 x hx
  rw [z] at this
  cases this
/-- the value's own datum -/
theorem at_back {X : Cx} {F : Hp} {u : Value} {d : D} (h : ∃ v, RelV v u ∧ Rp X.K F v d) : ∃ v, RelV v u ∧ Rp X.K F v d := h
def dMinD : List D → Res D
  | [.list (x :: xs)] => if minOk (x :: xs) then .ok (PySem.W.minD x xs) else .stuck
  | _ => .stuck
def dMaxD : List D → Res D
  | [.list (x :: xs)] => if minOk (x :: xs) then .ok (PySem.W.maxD x xs) else .stuck
  | [.tuple (x :: xs)] => if minOk (x :: xs) then .ok (PySem.W.maxD x xs) else .stuck
  | _ => .stuck
theorem depthAll_le {xs : List D} (h : xs.all (okEq 9) = true) : PyData.depthAll xs ≤ 64 := by
  induction xs with
  | nil => exact Nat.zero_le _
  | cons x xs ih =>
    rw [List.all_cons, Bool.and_eq_true] at h
    have h1 := SeqAt.depth_of_shaped (okEq_shaped (by decide) h.1)
    have h2 := ih h.2
    show max x.depth (PyData.depthAll xs) ≤ 64
    omega
theorem minD_mem (x : D) : ∀ (xs : List D) , PySem.W.minD x xs ∈ x :: xs := by
  intro xs
  unfold PySem.W.minD
  induction xs generalizing x with
  | nil => exact List.mem_cons_self ..
  | cons y r ih =>
    rw [List.foldl_cons]
    have h := ih (if PySem.W.dataLt y x = true then y else x)
    rcases List.mem_cons.mp h with h | h
    · rw [h]
      split
      · exact List.mem_cons_of_mem _ (List.mem_cons_self ..)
      · exact List.mem_cons_self ..
    · exact List.mem_cons_of_mem _ (List.mem_cons_of_mem _ h)
theorem maxD_mem (x : D) : ∀ (xs : List D) , PySem.W.maxD x xs ∈ x :: xs := by
  intro xs
  unfold PySem.W.maxD
  induction xs generalizing x with
  | nil => exact List.mem_cons_self ..
  | cons y r ih =>
    rw [List.foldl_cons]
    have h := ih (if PySem.W.dataLt x y = true then y else x)
    rcases List.mem_cons.mp h with h | h
    · rw [h]
      split
      · exact List.mem_cons_of_mem _ (List.mem_cons_self ..)
      · exact List.mem_cons_self ..
    · exact List.mem_cons_of_mem _ (List.mem_cons_of_mem _ h)
section
variable {X : Cx}
theorem pick {pins : List (Addr × Obj)} {σ : L2.St} {F H : Hp} {s : Shared} {XX : XW} {Q : VK} {its : List Value} {ys : List V} {xs : List D} {m : D} {i : Nat} {v : Value} {h' : Heap} {tk : Tok} {bs : List Addr} (I : Inv X pins σ H s) (sb : Same F H) (ri : Vals ys its) (h2 : RpL X.K F ys xs) (hs : minOk xs = true)
    (hm : m ∈ xs) (hv : its[i]? = some v) (hr : PySem.Reads h' v m bs) (hk : ∀ b o, s.heap.get? b = some o → h'.get? b = some o) (q : Post X.K XX F H (.ok m) Q) : EP X pins σ Q v { s with heap := h', toks := tk } := by
  have hs' := hs
  unfold minOk at hs'
  rw [Bool.and_eq_true, Bool.and_eq_true] at hs'
  obtain ⟨e1, e2⟩ := each_of I sb ri h2 hs'.2.2
  obtain ⟨d, hd, w, rw1, rp⟩ := each_at e1 hv
  obtain ⟨d2, hd2, as, rd⟩ := each_at e2 hv
  rw [hd] at hd2
  cases hd2
  have e : d = m := PySem.W.alike_unique d m v _ _ (alikeB_ok hs'.1 d (List.mem_of_getElem? hd) m hm) (PyProof.Rows.Reads.keeps hk rd) hr
  subst e
  exact ⟨w, H, I.kept (t' := tk) hk, rw1, q.ok0 sb rp⟩
theorem cD_minD (hc : X.calm = true) (hu : X.A.units + 66 < cLine) : CallR X (.builtin "min") (rDL X.K dMinD) := by
  intro pins s σ H vs us Q I rv h
  obtain ⟨XX, F, ds, sb, rl, q⟩ := h
  unfold dMinD at q
  split at q
  · rename_i x xs
    split at q
    · rename_i hs
      obtain ⟨v, rfl, r⟩ := one' rl
      obtain ⟨a, ys, rfl, h1, h2⟩ := r.lst'
      obtain ⟨its, ri, hl, hz⟩ := I.list (h1.mono sb).seq
      rw [Vals.ref1 rv]
      have hs' := hs
      unfold minOk at hs'
      rw [Bool.and_eq_true, Bool.and_eq_true] at hs'
      obtain ⟨as, ra⟩ := reads_all (each_of I sb ri h2 hs'.2.2).2
      refine PySem.W.min_list_data (as := as) (I.ok.hd hc) hl.isList (by simpa using ra) (alikeAll_ok hs) ?_ fun i v h' tk bs hv hr hk => pick I sb ri h2 hs (minD_mem x xs) (by simpa using hv) hr hk q
      have := depthAll_le hs'.2.2
      omega
    · exact q.elim
  · exact q.elim
theorem cD_maxD (hc : X.calm = true) (hu : X.A.units + 66 < cLine) : CallR X (.builtin "max") (rDL X.K dMaxD) := by
  intro pins s σ H vs us Q I rv h
  obtain ⟨XX, F, ds, sb, rl, q⟩ := h
  unfold dMaxD at q
  split at q
  · rename_i x xs
    split at q
    · rename_i hs
      obtain ⟨v, rfl, r⟩ := one' rl
      obtain ⟨a, ys, rfl, h1, h2⟩ := r.lst'
      obtain ⟨its, ri, hl, hz⟩ := I.list (h1.mono sb).seq
      rw [Vals.ref1 rv]
      have hs' := hs
      unfold minOk at hs'
      rw [Bool.and_eq_true, Bool.and_eq_true] at hs'
      obtain ⟨as, ra⟩ := reads_all (each_of I sb ri h2 hs'.2.2).2
      refine PySem.W.max_list_data (as := as) (I.ok.hd hc) hl.isList (by simpa using ra) (alikeAll_ok hs) ?_ fun i v h' tk bs hv hr hk => pick I sb ri h2 hs (maxD_mem x xs) (by simpa using hv) hr hk q
      have := depthAll_le hs'.2.2
      omega
    · exact q.elim
  · rename_i x xs
    split at q
    · rename_i hs
      obtain ⟨v, rfl, r⟩ := one' rl
      obtain ⟨a, ys, rfl, h1, h2⟩ := r.tup'
      obtain ⟨its, ri, hl, hz⟩ := I.tuple (sqT_mono sb h1)
      rw [Vals.ref1 rv]
      have hs' := hs
      unfold minOk at hs'
      rw [Bool.and_eq_true, Bool.and_eq_true] at hs'
      obtain ⟨as, ra⟩ := reads_all (each_of I sb ri h2 hs'.2.2).2
      refine PySem.W.max_tuple_data (as := as) (I.ok.hd hc) hl (by simpa using ra) (alikeAll_ok hs) ?_ fun i v h' tk bs hv hr hk => pick I sb ri h2 hs (maxD_mem x xs) (by simpa using hv) hr hk q
      have := depthAll_le hs'.2.2
      omega
    · exact q.elim
  · exact q.elim
def dMin (ds : List D) : Res D := match dMinL ds with
  | .stuck => dMinD ds
  | r => r
def dMax (ds : List D) : Res D := match dMaxL ds with
  | .stuck => dMaxD ds
  | r => r
theorem cD_minA (hc : X.calm = true) (hu : X.A.units + 66 < cLine) : CallR X (.builtin "min") (rDL X.K dMin) := by
  intro pins s σ H vs us Q I rv h
  obtain ⟨XX, F, ds, sb, rl, q⟩ := h
  unfold dMin at q
  cases e : dMinL ds with
  | stuck =>
    rw [e] at q
    exact cD_minD hc hu pins s σ H vs us Q I rv ⟨XX, F, ds, sb, rl, q⟩
  | ok d =>
    rw [e] at q
    exact cD_min hc pins s σ H vs us Q I rv ⟨XX, F, ds, sb, rl, by rw [e]; exact q⟩
  | exc c =>
    rw [e] at q
    exact cD_min hc pins s σ H vs us Q I rv ⟨XX, F, ds, sb, rl, by rw [e]; exact q⟩
theorem cD_maxA (hc : X.calm = true) (hu : X.A.units + 66 < cLine) : CallR X (.builtin "max") (rDL X.K dMax) := by
  intro pins s σ H vs us Q I rv h
  obtain ⟨XX, F, ds, sb, rl, q⟩ := h
  unfold dMax at q
  cases e : dMaxL ds with
  | stuck =>
    rw [e] at q
    exact cD_maxD hc hu pins s σ H vs us Q I rv ⟨XX, F, ds, sb, rl, q⟩
  | ok d =>
    rw [e] at q
    exact cD_max hc pins s σ H vs us Q I rv ⟨XX, F, ds, sb, rl, by rw [e]; exact q⟩
  | exc c =>
    rw [e] at q
    exact cD_max hc pins s σ H vs us Q I rv ⟨XX, F, ds, sb, rl, by rw [e]; exact q⟩
end
/-! list(range(..)), tuple(range(..)) -/
def rgB (a b : Int) : Bool := decide (-1000000 ≤ a ∧ a ≤ 1000000) && decide (-1000000 ≤ b ∧ b ≤ 1000000)
theorem rgB_ok {a b : Int} (h : rgB a b = true) : RgOk a b := by
  unfold rgB at h
  rw [Bool.and_eq_true, decide_eq_true_eq, decide_eq_true_eq] at h
  exact ⟨by omega, by omega, by omega, by omega, by omega⟩
def dLR1 : D → Res D
  | .int n => if rgB 0 n then .ok (.list (rangeD 0 n.toNat)) else .stuck
  | _ => .stuck
def dLR2 : D → D → Res D
  | .int a, .int b => if rgB a b then .ok (.list (rangeD a (b - a).toNat)) else .stuck
  | _, _ => .stuck
def dTR1 : D → Res D
  | .int n => if rgB 0 n then .ok (.tuple (rangeD 0 n.toNat)) else .stuck
  | _ => .stuck
def dTR2 : D → D → Res D
  | .int a, .int b => if rgB a b then .ok (.tuple (rangeD a (b - a).toNat)) else .stuck
  | _, _ => .stuck
theorem rpl_rg {K : PySem.W.Frag} {F : Hp} (a b : Int) : RpL K F (rgV a b) (rangeD a (b - a).toNat) := by
  unfold rgV rangeD
  induction List.range (b - a).toNat with
  | nil => exact .nil
  | cons i r ih => exact .cons (.int _) ih
section
variable {X : Cx} {W : WX0} {a b c : Expr} {fa fb : SF} {pos p p2 pos2 : Pos}
theorem ge_lr1 (hc : X.calm = true) (hg : Gl X "list") (hm : X.mg "list" = none) (hg2 : Gl X "range") (hm2 : X.mg "range" = none) (ha : DE X W a fa) (na : starEach [a] X.env = (false, eval a X.env) :: starEach [] X.env) :
    GE X W (.Call (.Name "list" p) [.Call (.Name "range" p2) [a] [] pos2] [] pos) (vUn dLR1 fa) :=
  ge_ok (pe_listRg hc hg hm (prg_1 hg2 hm2 ha na)) fun env F σ H Q er q => ⟨env, F, er, PostG.bind q fun d v F1 H1 _ e1 g1 r1 q1 => by
    unfold dLR1 at q1
    split at q1
    · split at q1
      · rename_i n _ h
        refine ⟨_, r1.int', rgB_ok h, fun q hq => q1.newL g1.sub ?_ q hq⟩
        have := rpl_rg (K := X.K) (F := F1) 0 n
        rw [Int.sub_zero] at this
        exact this
      · exact q1.elim
    · exact q1.elim⟩
theorem de_tr1 (hc : X.calm = true) (hg : Gl X "tuple") (hm : X.mg "tuple" = none) (hg2 : Gl X "range") (hm2 : X.mg "range" = none) (ha : DE X W a fa) (na : starEach [a] X.env = (false, eval a X.env) :: starEach [] X.env) :
    DE X W (.Call (.Name "tuple" p) [.Call (.Name "range" p2) [a] [] pos2] [] pos) (vUn dTR1 fa) :=
  de_ok (pe_tupRg hc hg hm (prg_1 hg2 hm2 ha na)) fun env F σ H Q er q => ⟨env, F, er, Post.bind q fun d v F1 H1 _ e1 g1 r1 q1 => by
    unfold dTR1 at q1
    split at q1
    · split at q1
      · rename_i n _ h
        refine ⟨_, r1.int', rgB_ok h, fun q hq => q1.newT g1.sub ?_ q hq⟩
        have := rpl_rg (K := X.K) (F := F1) 0 n
        rw [Int.sub_zero] at this
        exact this
      · exact q1.elim
    · exact q1.elim⟩
theorem ge_lr2 (hc : X.calm = true) (hg : Gl X "list") (hm : X.mg "list" = none) (hg2 : Gl X "range") (hm2 : X.mg "range" = none) (ha : DE X W a fa) (hb : DE X W b fb) (na : starEach [a, b] X.env = (false, eval a X.env) :: starEach [b] X.env) (nb : starEach [b] X.env = (false, eval b X.env) :: starEach [] X.env)
    (hp : (backTo pos2 (starEach [b] X.env)).any (·.1) = false) : GE X W (.Call (.Name "list" p) [.Call (.Name "range" p2) [a, b] [] pos2] [] pos) (vBin dLR2 fa fb) :=
  ge_ok (pe_listRg hc hg hm (prg_2 hg2 hm2 ha hb na nb hp)) fun env F σ H Q er q => twoG er q fun x y d e F1 H1 s1 r1 r2 q1 => by
    unfold dLR2 at q1
    split at q1
    · split at q1
      · rename_i h
        exact ⟨_, _, r1.int', r2.int', rgB_ok h, fun q hq => q1.newL s1 (rpl_rg _ _) q hq⟩
      · exact q1.elim
    · exact q1.elim
theorem de_tr2 (hc : X.calm = true) (hg : Gl X "tuple") (hm : X.mg "tuple" = none) (hg2 : Gl X "range") (hm2 : X.mg "range" = none) (ha : DE X W a fa) (hb : DE X W b fb) (na : starEach [a, b] X.env = (false, eval a X.env) :: starEach [b] X.env) (nb : starEach [b] X.env = (false, eval b X.env) :: starEach [] X.env)
    (hp : (backTo pos2 (starEach [b] X.env)).any (·.1) = false) : DE X W (.Call (.Name "tuple" p) [.Call (.Name "range" p2) [a, b] [] pos2] [] pos) (vBin dTR2 fa fb) :=
  de_ok (pe_tupRg hc hg hm (prg_2 hg2 hm2 ha hb na nb hp)) fun env F σ H Q er q => two er q fun x y d e F1 H1 s1 r1 r2 q1 => by
    unfold dTR2 at q1
    split at q1
    · split at q1
      · rename_i h
        exact ⟨_, _, r1.int', r2.int', rgB_ok h, fun q hq => q1.newT s1 (rpl_rg _ _) q hq⟩
      · exact q1.elim
    · exact q1.elim
end
end SH


set_option Elab.async false
set_option linter.all false
set_option maxRecDepth 100000
set_option maxHeartbeats 4000000
/-! The layer, part kc: xs[::-1], xs.index, xs.count, xs.remove (lists). -/
namespace SH
open PySem PySem.Spec PyProof.Rows L2

def dRev : D → Res D
  | .list xs => .ok (.list xs.reverse)
  | _ => .stuck
theorem RpL.rev {K : PySem.W.Frag} {F : Hp} : ∀ {vs : List V} {ds : List D}, RpL K F vs ds → RpL K F vs.reverse ds.reverse
  | _, _, .nil => .nil
  | _, _, .cons h t => by
    rw [List.reverse_cons, List.reverse_cons]
    exact t.rev.append (.cons h .nil)
section
variable {X : Cx} {W : WX0} {a b : Expr} {fa fb : SF} {pos : Pos}
theorem ge_rev {k : Nat} {p1 p2 p3 : Pos} (ha : DE X W a fa) : GE X W (.Subscript a (.Slice none none (some (.UnaryOp .USub (.Constant (.int 1) k p1) p2)) p3) pos) (vUn dRev fa) :=
  ge_ok (pe_revL ha) fun env F σ H Q er q => ⟨env, F, er, PostG.bind q fun d v F1 H1 _ e1 g1 r1 q1 => by
    unfold dRev at q1
    split at q1
    · obtain ⟨p, vs, rfl, h1, h2⟩ := r1.lst'
      exact ⟨p, vs, rfl, (h1.mono g1.sub).seq, fun p hp => q1.newL g1.sub h2.rev p hp⟩
    · exact q1.elim⟩
def ixR (xs : List D) (k : Int) : Res D := match asInts xs with
  | some ns => if k ∈ ns then .ok (.int (ns.idxOf k : Nat)) else .stuck
  | none => .stuck
def dIndex : D → D → Res D
  | .list xs, .int k => ixR xs k
  | _, _ => .stuck
def ctR (xs : List D) (k : Int) : Res D := match asInts xs with
  | some ns => .ok (.int (ns.count k : Nat))
  | none => .stuck
def dCount : D → D → Res D
  | .list xs, .int k => ctR xs k
  | _, _ => .stuck
theorem flat_ints (ns : List Int) : (ns.map V.int).all flatV = true := by
  rw [List.all_map]
  exact List.all_eq_true.mpr fun _ _ => rfl
theorem idx_is {ns : List Int} {k : Int} (h : k ∈ ns) : (ns.map V.int)[ns.idxOf k]? = some (V.int k) ∧ ∀ (m : Nat) (z : V), m < ns.idxOf k → (ns.map V.int)[m]? = some z → eqV z (V.int k) = false := by
  have hl := List.idxOf_lt_length_of_mem h
  refine ⟨?_, fun m z hm hz => ?_⟩
  · rw [List.getElem?_map, List.getElem?_eq_getElem hl, List.getElem_idxOf]
    rfl
  · rw [List.getElem?_map, List.getElem?_eq_getElem (by omega)] at hz
    cases hz
    have hne : ns[m] ≠ k := fun e => by
      have := List.not_of_lt_findIdx (xs := ns) (p := fun x => x == k) (i := m) hm
      rw [e] at this
      simp at this
    show decide (ns[m] = k) = false
    simpa using hne
/-- a list's method with one argument -/
def vMeth (g : D → D → Res D) (a b : SF) : SF := fun env => (a env).bind fun x => match x with
  | .list xs => (b env).bind fun y => g (.list xs) y
  | _ => .stuck
theorem de_meth {nm : Str} {id : String} {r : V → List V → Hp → VK → Prop} {g : D → D → Res D} {x : Str} {p1 apos cpos : Pos} (slot : PySem.Slot "list" nm id) (hty : typeOf (.builtin id) = pure (.type "method_descriptor")) (hm : MtR X id r)
    (hr : ∀ (p : Addr) (xs : List V) (v : V) (F H : Hp) (XX : XW) (d e : D) (Q : VK), Same F H → Rp X.K F (.ref p) d → SqL X.K H p xs → Rp X.K F v e → Post X.K XX F H (g d e) Q → r (.ref p) [v] H Q)
    (ha : DE X W (.Name x p1) fa) (hb : DE X W b fb) (hs1 : starEach [b] X.env = (false, eval b X.env) :: starEach [] X.env)
    (hbase : attributeBase (.Name x p1) nm X.env (eval (.Name x p1) X.env) = eval (.Name x p1) X.env)
    (hfew : ((backTo cpos (starEach [b] X.env)).all (fun x => !x.1) && (backToKw cpos (keywordEach [] X.env)).all (fun x => x.1.isSome)
      && decide ([b].length + ([] : List Keyword).length + (if ([] : List Keyword).isEmpty then 0 else 1) < 30)) = true)
    (hline : (apos.endLine == cpos.line) = true) : DE X W (.Call (.Attribute (.Name x p1) nm apos) [b] [] cpos) (vMeth g fa fb) :=
  de_ok (pe_bm PySem.F.plainAttrs_list slot hty hm ha (pa_cons hb pa_nil hs1) hbase hfew hline hs1 (by rfl)) fun env F σ H Q er q => ⟨env, F, er, Post.bind q fun d v F1 H1 _ e1 g1 r1 q1 => by
    split at q1
    rotate_left
    · exact q1.elim
    rename_i xs
    obtain ⟨p, vs, rfl, h1, h2⟩ := r1.lst'
    refine ⟨.inl ⟨rfl, vs, (h1.mono g1.sub).seq⟩, env, F1, er.grow g1, Post.bind q1 fun d2 v2 F2 H2 _ e2 g2 r2 q2 => hr p vs v2 F2 H2 _ _ _ Q g2.sub (r1.mono g2.fix) (h1.mono (g1.sub.trans e2)).seq r2 q2⟩⟩
theorem de_index {x : Str} {p1 apos cpos : Pos} (ha : DE X W (.Name x p1) fa) (hb : DE X W b fb) (hs1 : starEach [b] X.env = (false, eval b X.env) :: starEach [] X.env)
    (hbase : attributeBase (.Name x p1) "index" X.env (eval (.Name x p1) X.env) = eval (.Name x p1) X.env)
    (hfew : ((backTo cpos (starEach [b] X.env)).all (fun x => !x.1) && (backToKw cpos (keywordEach [] X.env)).all (fun x => x.1.isSome)
      && decide ([b].length + ([] : List Keyword).length + (if ([] : List Keyword).isEmpty then 0 else 1) < 30)) = true)
    (hline : (apos.endLine == cpos.line) = true) : DE X W (.Call (.Attribute (.Name x p1) "index" apos) [b] [] cpos) (vMeth dIndex fa fb) :=
  de_meth PySem.F.slot_list_index PySem.F.type_list_index mt_index (fun p xs v F H XX d e Q sb r1 hs r2 q => by
    unfold dIndex at q
    split at q
    · rename_i ys k
      unfold ixR at q
      split at q
      · rename_i ns hns
        split at q
        · rename_i hk
          have hy := asInts_eq hns
          subst hy
          obtain ⟨a, zs, z, h1, h2⟩ := r1.lst'
          cases z
          obtain rfl := h2.ints'
          obtain rfl := r2.int'
          obtain ⟨i1, i2⟩ := idx_is hk
          exact ⟨p, _, _, _, _, rfl, rfl, (h1.mono sb).seq, rfl, flat_ints ns, i1, by show decide (k = k) = true; simp, i2, q.ok0 sb (.int _)⟩
        · exact q.elim
      · exact q.elim
    · exact q.elim) ha hb hs1 hbase hfew hline
theorem de_count {x : Str} {p1 apos cpos : Pos} (ha : DE X W (.Name x p1) fa) (hb : DE X W b fb) (hs1 : starEach [b] X.env = (false, eval b X.env) :: starEach [] X.env)
    (hbase : attributeBase (.Name x p1) "count" X.env (eval (.Name x p1) X.env) = eval (.Name x p1) X.env)
    (hfew : ((backTo cpos (starEach [b] X.env)).all (fun x => !x.1) && (backToKw cpos (keywordEach [] X.env)).all (fun x => x.1.isSome)
      && decide ([b].length + ([] : List Keyword).length + (if ([] : List Keyword).isEmpty then 0 else 1) < 30)) = true)
    (hline : (apos.endLine == cpos.line) = true) : DE X W (.Call (.Attribute (.Name x p1) "count" apos) [b] [] cpos) (vMeth dCount fa fb) :=
  de_meth PySem.F.slot_list_count PySem.F.type_list_count mt_lcount (fun p xs v F H XX d e Q sb r1 hs r2 q => by
    unfold dCount at q
    split at q
    · rename_i ys k
      unfold ctR at q
      split at q
      · rename_i ns hns
        have hy := asInts_eq hns
        subst hy
        obtain ⟨a, zs, z, h1, h2⟩ := r1.lst'
        cases z
        obtain rfl := h2.ints'
        obtain rfl := r2.int'
        exact ⟨p, ns, _, rfl, rfl, (h1.mono sb).seq, q.ok0 sb (.int _)⟩
      · exact q.elim
    · exact q.elim) ha hb hs1 hbase hfew hline
end
/-! x.remove(e) of one's own list of whole numbers -/
def remE (ds : List D) : D → Option (List D)
  | .int k => match asInts ds with
    | some ns => if k ∈ ns then some ((ns.erase k).map .int) else none
    | none => none
  | _ => none
def xRem (i : Nat) (m : List Nat) (f : SF) : SEn → Out := fun env => match ownL env i with
  | some _ => onR env (evS m f env) fun p => match ownL p.2 i with
    | some ds => match remE ds p.1 with
      | some es => .nx (p.2.set i (some (true, .list es)))
      | none => .stuck
    | none => .stuck
  | none => .stuck
section
variable {X : Cx} {W : WX0} {e : Expr} {f : SF} {pos : Pos} {m : List Nat}
theorem ds_rem {i : Nat} {x : Str} {p1 apos cpos : Pos} (hN : X.N[i]? = some x) (hv : Vis X.env.scope x) (hd : (x == ("__debug__" : Str)) = false) (hcd : (x == ("__classdict__" : Str)) = false) (he : DE X W e f)
    (hs1 : starEach [e] X.env = (false, eval e X.env) :: starEach [] X.env)
    (hbase : attributeBase (.Name x p1) "remove" X.env (eval (.Name x p1) X.env) = eval (.Name x p1) X.env)
    (hfew : ((backTo cpos (starEach [e] X.env)).all (fun x => !x.1) && (backToKw cpos (keywordEach [] X.env)).all (fun x => x.1.isSome)
      && decide ([e].length + ([] : List Keyword).length + (if ([] : List Keyword).isEmpty then 0 else 1) < 30)) = true)
    (hline : (apos.endLine == cpos.line) = true) (hs : swapsWith (.Call (.Attribute (.Name x p1) "remove" apos) [e] [] cpos) none pos.line X.env = pure false) :
    DS X W (.Expr (.Call (.Attribute (.Name x p1) "remove" apos) [e] [] cpos) pos) (xRem i m f) :=
  ds_ok (ps_expr (pe_bm PySem.F.plainAttrs_list PySem.F.slot_list_remove PySem.F.type_list_remove mt_remove (pe_var hN hv hd hcd) (pa_cons (se_of (m := m) he) pa_nil hs1) hbase hfew hline hs1 (by rfl)) hs) fun F0 H0 F env D σ H s q => by
    unfold xRem at q
    split at q
    · rename_i ds0 h0
      obtain ⟨a, xs, h1, h2, h3⟩ := s.ownAt h0
      refine ⟨_, h1, .inl ⟨rfl, xs, SqL.of h2⟩, F0, H0, F, env, s, pst_on q fun d env' v F' H' _ s' r q' => ?_⟩
      simp only at q'
      split at q'
      · rename_i ds h4
        split at q'
        · rename_i es hes
          obtain ⟨a', xs', h5, h6, h7⟩ := s'.ownAt h4
          rw [h1] at h5
          cases h5
          unfold remE at hes
          split at hes
          · rename_i k
            split at hes
            · rename_i ns hns
              split at hes
              · rename_i hk
                cases hes
                have hy := asInts_eq hns
                subst hy
                obtain rfl := h7.ints'
                obtain rfl := r.int'
                obtain ⟨j, j1, j2, j3, j4⟩ := first_at hk
                exact ⟨a, ns, _, j, rfl, rfl, h6, j2, j3, by rw [j4]; exact q' σ F' _ (s'.put (ownL_some h4) h1 (RpL.ints _))⟩
              · cases hes
            · cases hes
          · cases hes
        · exact q'.elim
      · exact q'.elim
    · exact q.elim
end
/-! x = xs.pop() and xs.extend(a new list), of one's own lists -/
def xPop (i j : Nat) : SEn → Out := fun env => match ownL env j with
  | some ds => (match ds.getLast? with
    | some d => .nx ((env.set j (some (true, .list ds.dropLast))).set i (some (false, d)))
    | none => .stuck)
  | none => .stuck
def xExtL (i : Nat) (env : SEn) (ds : List D) : D → Out
  | .list es => if ds.length + es.length ≤ LIM then .nx (env.set i (some (true, .list (ds ++ es)))) else .stuck
  | _ => .stuck
def xExtK (i : Nat) (p : D × SEn) : Out := match ownL p.2 i with
  | some ds => xExtL i p.2 ds p.1
  | none => .stuck
def xExt (i : Nat) (m : List Nat) (f : SF) : SEn → Out := fun env => match ownL env i with
  | some _ => onR env (evG m f env) (xExtK i)
  | none => .stuck
section
variable {X : Cx} {W : WX0} {e : Expr} {f : SF} {pos : Pos} {m : List Nat}
theorem ds_pop {i j : Nat} {x y : Str} {p0 p1 apos cpos : Pos} (hNd : X.N.Nodup) (hi : X.N[i]? = some x) (hx : Loc X.env.scope x) (hf : X.fn x = true ∨ X.env.scope.names.lookup x = some .local)
    (hN : X.N[j]? = some y) (hv : Vis X.env.scope y) (hd : (y == ("__debug__" : Str)) = false) (hcd : (y == ("__classdict__" : Str)) = false)
    (hbase : attributeBase (.Name y p1) "pop" X.env (eval (.Name y p1) X.env) = eval (.Name y p1) X.env) (hline : (apos.endLine == cpos.line) = true)
    (hs : swapsWith (.Call (.Attribute (.Name y p1) "pop" apos) [] [] cpos) (some (.Name x p0)) pos.line X.env = pure false) :
    DS X W (.Assign [.Name x p0] (.Call (.Attribute (.Name y p1) "pop" apos) [] [] cpos) pos) (xPop i j) :=
  ds_ok (ps_set hNd hi hx (pe_bm0 PySem.F.plainAttrs_list PySem.F.slot_list_pop PySem.F.type_list_pop mt_pop (pe_var hN hv hd hcd) hbase hline) hs hf) fun F0 H0 F env D σ H s q => by
    unfold xPop at q
    split at q
    · rename_i ds h0
      split at q
      · rename_i d h4
        obtain ⟨a, xs, h1, h2, h3⟩ := s.ownAt h0
        have hl := h3.length
        have h5 : ds[ds.length - 1]? = some d := by rw [← List.getLast?_eq_getElem?]; exact h4
        obtain ⟨y, h6, h7⟩ := h3.get' h5
        rw [← hl] at h6
        refine ⟨_, h1, .inl ⟨rfl, xs, SqL.of h2⟩, a, xs, y, rfl, rfl, h2, h6, ?_⟩
        have r : RpL X.K F xs.dropLast ds.dropLast := by
          rw [List.dropLast_eq_take, List.dropLast_eq_take, hl]
          exact h3.take _
        exact q _ F _ ((s.put (ownL_some h0) h1 r).set i h7)
      · exact q.elim
    · exact q.elim
theorem ds_ext {i : Nat} {x : Str} {p1 apos cpos : Pos} (hN : X.N[i]? = some x) (hv : Vis X.env.scope x) (hd : (x == ("__debug__" : Str)) = false) (hcd : (x == ("__classdict__" : Str)) = false) (he : GE X W e f)
    (hs1 : starEach [e] X.env = (false, eval e X.env) :: starEach [] X.env)
    (hbase : attributeBase (.Name x p1) "extend" X.env (eval (.Name x p1) X.env) = eval (.Name x p1) X.env)
    (hfew : ((backTo cpos (starEach [e] X.env)).all (fun x => !x.1) && (backToKw cpos (keywordEach [] X.env)).all (fun x => x.1.isSome)
      && decide ([e].length + ([] : List Keyword).length + (if ([] : List Keyword).isEmpty then 0 else 1) < 30)) = true)
    (hline : (apos.endLine == cpos.line) = true) (hs : swapsWith (.Call (.Attribute (.Name x p1) "extend" apos) [e] [] cpos) none pos.line X.env = pure false) :
    DS X W (.Expr (.Call (.Attribute (.Name x p1) "extend" apos) [e] [] cpos) pos) (xExt i m f) :=
  ds_ok (ps_expr (pe_bm PySem.F.plainAttrs_list PySem.F.slot_list_extend PySem.F.type_list_extend mt_extend (pe_var hN hv hd hcd) (pa_cons (ge_of (m := m) he) pa_nil hs1) hbase hfew hline hs1 (by rfl)) hs) fun F0 H0 F env D σ H s q => by
    unfold xExt at q
    split at q
    · rename_i ds0 h0
      obtain ⟨a, xs, h1, h2, h3⟩ := s.ownAt h0
      refine ⟨_, h1, .inl ⟨rfl, xs, SqL.of h2⟩, F0, H0, F, env, s, ?_⟩
      cases ev : evG m f env with
      | exc c => rw [ev] at q; exact fun F' H' s' => q σ F' H' s'
      | stuck => rw [ev] at q; exact q
      | ok p =>
        rw [ev] at q
        obtain ⟨d, env'⟩ := p
        have q : PostS X.K W F0 H0 D (xExtK i (d, env')) := q
        unfold xExtK at q
        split at q
        · rename_i ds h4
          cases d with
          | list es =>
            have q : PostS X.K W F0 H0 D (if ds.length + es.length ≤ LIM then .nx (env'.set i (some (true, .list (ds ++ es)))) else .stuck) := q
            by_cases hlm : ds.length + es.length ≤ LIM
            · rw [if_pos hlm] at q
              intro b zs F' H' s' nb hb r
              obtain ⟨a', xs', h5, h6, h7⟩ := s'.ownAt h4
              have h8 : σ[i]? = some (some (.ref a)) := h1
              rw [h8] at h5
              cases h5
              refine ⟨a, b, xs', zs, rfl, rfl, h6, hb, ?_, q σ F' _ (s'.put (ownL_some h4) h1 (h7.append r))⟩
              rw [h7.length, r.length]
              exact Nat.le_trans hlm (by rw [sizeLine_eq]; decide)
            · rw [if_neg hlm] at q
              exact q.elim
          | _ => exact q.elim
        · exact q.elim
    · exact q.elim
end
end SH


set_option Elab.async false
set_option linter.all false
set_option maxRecDepth 100000
set_option maxHeartbeats 4000000
/-! The layer, part kd: lambdas: what a lambda's body comes to, all that stood being kept. -/
namespace SH
open PySem PySem.Spec PyProof.Rows L2

/-- all of h stands in h' -/
def Ext (h h' : Heap) : Prop := ∀ b o, h.get? b = some o → h'.get? b = some o
theorem Ext.refl (h : Heap) : Ext h h := fun _ _ e => e
theorem Ext.trans {h h1 h2 : Heap} (a : Ext h h1) (b : Ext h1 h2) : Ext h h2 := fun c o e => b c o (a c o e)
def RdV (h : Heap) (v : Value) (d : D) : Prop := ∃ as, PySem.Reads h v d as
theorem RdV.ext {h h' : Heap} {v : Value} {d : D} (r : RdV h v d) (e : Ext h h') : RdV h' v d := by
  obtain ⟨as, r⟩ := r
  exact ⟨as, PyProof.Rows.Reads.keeps e r⟩
theorem RdV.int {h : Heap} {v : Value} {i : Int} (r : RdV h v (.int i)) : ∃ t, v = .int i t := by
  obtain ⟨as, r⟩ := r
  cases r
  exact ⟨_, rfl⟩
mutual
theorem reads_flat {h : Heap} : ∀ (d : D) (v : Value) (as : List Addr), flat d = true → PySem.Reads h v d as → as = []
  | .none, _, _, _, .none => rfl
  | .bool _, _, _, _, .bool _ => rfl
  | .int _, _, _, _, .int _ _ => rfl
  | .str _, _, _, _, .str _ _ => rfl
  | .tuple xs, _, _, f, .tuple _ _ _ r => reads_flatL xs _ _ f r
  | .list _, _, _, f, _ => nomatch f
  | .dict _, _, _, f, _ => nomatch f
theorem reads_flatL {h : Heap} : ∀ (ds : List D) (vs : List Value) (as : List Addr), flatL ds = true → PySem.ReadsAll h vs ds as → as = []
  | [], _, _, _, .nil => rfl
  | d :: ds, _, _, f, .cons r rs => by
    rw [flatL, Bool.and_eq_true] at f
    rw [reads_flat d _ _ f.1 r, reads_flatL ds _ _ f.2 rs]
    rfl
end
theorem reads_at {h : Heap} : ∀ {vs : List Value} {ds : List D} {as : List Addr}, PySem.ReadsAll h vs ds as → vs.length = ds.length ∧ ∀ {i : Nat} {d : D}, ds[i]? = some d → ∃ v, vs[i]? = some v ∧ RdV h v d
  | _, _, _, .nil => ⟨rfl, fun h => by simp at h⟩
  | _, _, _, .cons r rs => by
    obtain ⟨h1, h2⟩ := reads_at rs
    refine ⟨by rw [List.length_cons, List.length_cons, h1], fun {i d} h => ?_⟩
    cases i with
    | zero =>
      cases h
      exact ⟨_, rfl, _, r⟩
    | succ i => exact h2 (i := i) h
section
variable {P : Program} {w : World} {A : Around} {env : Env} {G : Heap → Prop}
/-- e comes to d, and nothing else is turned -/
structure XE (P : Program) (w : World) (A : Around) (env : Env) (G : Heap → Prop) (e : Expr) (d : D) : Prop where
  run : ∀ (s : Shared) (Q : Value → Shared → Prop) (E : Value → Shared → Prop), G s.heap → (∀ v h' tk, Ext s.heap h' → RdV h' v d → Q v { s with heap := h', toks := tk }) → wpAny (model P w) A (eval e env) Q E s
structure XA (P : Program) (w : World) (A : Around) (env : Env) (G : Heap → Prop) (es : List Expr) (ds : List D) : Prop where
  run : ∀ (pos : Pos) (s : Shared) (Q : List Value → Shared → Prop) (E : Value → Shared → Prop), G s.heap → (∀ vs h' tk, Ext s.heap h' → vs.length = ds.length → (∃ as, PySem.ReadsAll h' vs ds as) → Q vs { s with heap := h', toks := tk }) → wpAny (model P w) A (spliced (backTo pos (starEach es env))) Q E s
theorem xe_loc {x : Str} {pos : Pos} {d : D} (hk : env.scope.kind = .function) (hl : env.kindOf x = some .local) (hd : (x == ("__debug__" : Str)) = false) (hG : ∀ h, G h → ∃ m v, h.Ns env.locals m ∧ m x = some v ∧ RdV h v d) : XE P w A env G (.Name x pos) d := ⟨fun s Q E g q => by
  obtain ⟨m, v, h1, h2, h3⟩ := hG _ g
  exact wpAny_Name (wpAny_loadName_local hk hl h1 h2 (q v s.heap s.toks (Ext.refl _) h3)) hd⟩
theorem xe_free {x : Str} {pos : Pos} {d : D} {c : Addr} (hk : env.scope.kind = .function) (hl : env.kindOf x = some .free) (hc : env.cells.lookup x = some c) (hd : (x == ("__debug__" : Str)) = false) (hcd : (x == ("__classdict__" : Str)) = false) (hG : ∀ h, G h → ∃ v, h.IsCell c (some v) ∧ RdV h v d) : XE P w A env G (.Name x pos) d := ⟨fun s Q E g q => by
  obtain ⟨v, h2, h3⟩ := hG _ g
  exact wpAny_Name (wpAny_loadName_free hk hl hc h2 (q v s.heap s.toks (Ext.refl _) h3) hcd) hd⟩
theorem xe_int {i : Int} {j : Nat} {pos : Pos} : XE P w A env G (.Constant (.int i) j pos) (.int i) := ⟨fun s Q E g q => wpAny_Constant_int (q _ s.heap _ (Ext.refl _) ⟨_, .int i _⟩)⟩
section
variable {a b : Expr} {pos : Pos} (hG : ∀ h h', Ext h h' → G h → G h')
theorem xe_neg {i : Int} (ha : XE P w A env G a (.int i)) : XE P w A env G (.UnaryOp .USub a pos) (.int (-i)) := ⟨fun s Q E g q => by
  refine wpAny_UnaryOp (ha.run s _ E g fun v h' tk e r => ?_)
  obtain ⟨t, rfl⟩ := r.int
  exact neg_int (q _ h' _ e ⟨_, .int _ _⟩)⟩
include hG
theorem xe_bin {op : Operator} {i j k : Int} (ho : ∀ (t u : Tok) (s : Shared) (Q : Value → Shared → Prop) (E : Value → Shared → Prop), Q (.int k s.toks) { s with toks := s.toks + 1 } → wpAny (model P w) A (binaryOp op (.int i t) (.int j u)) Q E s)
    (ha : XE P w A env G a (.int i)) (hb : XE P w A env G b (.int j)) : XE P w A env G (.BinOp a op b pos) (.int k) := ⟨fun s Q E g q => by
  refine wpAny_BinOp (ha.run s _ E g fun v h' tk e r => hb.run _ _ E (hG _ _ e g) fun v2 h2 tk2 e2 r2 => ?_)
  obtain ⟨t, rfl⟩ := r.int
  obtain ⟨t2, rfl⟩ := r2.int
  exact ho _ _ _ _ _ (q _ h2 _ (e.trans e2) ⟨_, .int _ _⟩)⟩
theorem xe_sub {i j : Int} (ha : XE P w A env G a (.int i)) (hb : XE P w A env G b (.int j)) : XE P w A env G (.BinOp a .Sub b pos) (.int (i - j)) := xe_bin hG (fun _ _ _ _ _ h => sub_int h) ha hb
theorem xe_add {i j : Int} (ha : XE P w A env G a (.int i)) (hb : XE P w A env G b (.int j)) : XE P w A env G (.BinOp a .Add b pos) (.int (i + j)) := xe_bin hG (fun _ _ _ _ _ h => add_int h) ha hb
theorem xe_mul {i j : Int} (hs : -(2 ^ 64) < i ∧ i < 2 ^ 64) (ha : XE P w A env G a (.int i)) (hb : XE P w A env G b (.int j)) : XE P w A env G (.BinOp a .Mult b pos) (.int (i * j)) := xe_bin hG (fun _ _ _ _ _ h => mul_int h (.of_left (intBits_le_64 hs.1 hs.2))) ha hb
theorem xe_ixL {xs : List D} {i : Int} {d : D} (hx : atI xs i = some d) (hz : xs.length ≤ sizeLine) (hs : PlainIx b) (ha : XE P w A env G a (.list xs)) (hb : XE P w A env G b (.int i)) : XE P w A env G (.Subscript a b pos) d := ⟨fun s Q E g q => by
  refine Subscript_ (ha.run s _ E g fun v h' tk e r => hb.run _ _ E (hG _ _ e g) fun v2 h2 tk2 e2 r2 => ?_)
  obtain ⟨t, rfl⟩ := r2.int
  obtain ⟨as, r⟩ := r.ext e2
  cases r with
  | list ho hc hd hr =>
    rename_i p o its n bs
    obtain ⟨hl, hat⟩ := reads_at hr
    obtain ⟨j, h1, h3, h4, h5, h6⟩ := atI_get hx
    obtain ⟨u, hu, ru⟩ := hat h3
    have pl : Heap.IsList h2 p its := ⟨_, ho, hc, _, hd⟩
    have hn := line63
    rw [Array.length_toList] at hl
    have fin := q u h2 tk2 (e.trans e2) ru
    by_cases h0 : 0 ≤ i
    · have hj : i.toNat = j := by
        rw [seqIndex_of h0 h6] at h1
        exact Option.some.inj h1
      exact item_listR (s := { s with heap := h2, toks := tk2 }) pl h0 (by omega) (by rw [hj, ← Array.getElem?_toList]; exact hu) fin (hs _ _)
    · have hj : (i + (its.size : Int)).toNat = j := by
        rw [seqIndex_neg (by omega) h5] at h1
        rw [hl]
        exact Option.some.inj h1
      exact subscriptTail_builtinR (s := { s with heap := h2, toks := tk2 }) (x := u) (Q := Q) pl.typeIs slot_list_getitem.lookup
        (wpAny_getItem_list_neg (Q := fun r s' => r = u ∧ Q r s') pl (by omega) (by rw [hl]; omega) (by omega) (by rw [hj, ← Array.getElem?_toList]; exact hu) ⟨rfl, fin⟩) (hs _ _)⟩
theorem xe_ixT {xs : List D} {i : Int} {d : D} (hx : atI xs i = some d) (hz : xs.length ≤ sizeLine) (hs : PlainIx b) (ha : XE P w A env G a (.tuple xs)) (hb : XE P w A env G b (.int i)) : XE P w A env G (.Subscript a b pos) d := ⟨fun s Q E g q => by
  refine Subscript_ (ha.run s _ E g fun v h' tk e r => hb.run _ _ E (hG _ _ e g) fun v2 h2 tk2 e2 r2 => ?_)
  obtain ⟨t, rfl⟩ := r2.int
  obtain ⟨as, r⟩ := r.ext e2
  cases r with
  | tuple ho hc hd hr =>
    rename_i p o its n
    obtain ⟨hl, hat⟩ := reads_at hr
    obtain ⟨j, h1, h3, h4, h5, h6⟩ := atI_get hx
    obtain ⟨u, hu, ru⟩ := hat h3
    have pl : IsTup h2 p its := ⟨_, ho, hc, _, hd⟩
    have hn := line63
    rw [Array.length_toList] at hl
    have fin := q u h2 tk2 (e.trans e2) ru
    exact subscriptTail_builtinR (s := { s with heap := h2, toks := tk2 }) (x := u) (Q := Q) pl.typeIs slot_tuple_getitem.lookup
      (getItem_tuple (j := j) (Q := fun r s' => r = u ∧ Q r s') pl (by omega) (by omega) (by rw [hl]; exact h1) (by rw [← Array.getElem?_toList]; exact hu) ⟨rfl, fin⟩) (hs _ _)⟩
theorem xa_nil : XA P w A env G [] [] := ⟨fun pos s Q E g q => Calls.spliced_nil (q [] s.heap s.toks (Ext.refl _) rfl ⟨_, .nil⟩)⟩
theorem xa_cons {e : Expr} {es : List Expr} {d : D} {ds : List D} (he : XE P w A env G e d) (hr : XA P w A env G es ds) (hs : starEach (e :: es) env = (false, eval e env) :: starEach es env) : XA P w A env G (e :: es) (d :: ds) := ⟨fun pos s Q E g q => by
  rw [hs]
  show wpAny _ _ (spliced ((false, eval e env) :: backTo pos (starEach es env))) _ _ s
  refine Calls.spliced_cons (he.run s _ E g fun v h1 tk1 e1 r1 => hr.run pos _ _ E (hG _ _ e1 g) fun vs h2 tk2 e2 hl ⟨as, r2⟩ => ?_)
  obtain ⟨bs, r3⟩ := r1.ext e2
  exact q (v :: vs) h2 tk2 (e1.trans e2) (by rw [List.length_cons, List.length_cons, hl]) ⟨_, .cons r3 r2⟩⟩
theorem xe_tup {es : List Expr} {ds : List D} {x1 : Nat} (h : XA P w A env G es ds) (hz : ds.length ≤ sizeLine) : XE P w A env G (.Tuple es x1 pos) (.tuple ds) := ⟨fun s Q E g q => by
  refine wpAny_Tuple_spliced (h.run pos s _ E g fun vs h' tk e hl ⟨as, r⟩ => ⟨by rw [hl]; exact hz, ?_⟩)
  refine q (.ref h'.objs.size) (h'.push { cls := .type "tuple", data := .seq vs.toArray }) tk (e.trans fun b o eb => Heap.get?_push_of_some _ eb) ⟨as, ?_⟩
  exact .tuple (Heap.get?_push_size _ rfl) rfl rfl (by
    have : (vs.toArray).toList = vs := by simp
    rw [this]
    exact PyProof.Rows.ReadsAll.keeps (fun b o eb => Heap.get?_push_of_some _ eb) r)⟩
end
end
end SH


set_option Elab.async false
set_option linter.all false
set_option maxRecDepth 100000
set_option maxHeartbeats 4000000
/-! The layer, part ke: a lambda is made, called. -/
namespace SH
open PySem PySem.Spec PyProof.Rows L2

/-- a call of a function whose body is an expression, its code object named as it may be -/
theorem lam_run {P : Program} {w : World} {A : Around} {R : Result → Shared → Prop} {s : Shared} {a : Addr} {o : Obj} {fd : FuncData} {e : Expr} {u : Value} {binds : List (Str × Value)} {n : Str}
    (room : A.depth < recursionLimit) (at_ : s.heap.get? a = some o) (fn : o.data = .func fd) (nc : fd.scope.isCoroutine = false) (ng : fd.scope.isGenerator = false) (bd : fd.body = .expr e) (cr : s.heap.CodeRec fd.code n) (lim : s.heap.NoLimit)
    (hb : bindArgs fd ⟨[u], []⟩ = pure binds) (nocell : ∀ x ∈ fd.scope.names, x.2 ≠ .cell) (loc : ∀ x ∈ binds, fd.scope.names.lookup x.1 = some .local) (kd : fd.scope.kind = .function)
    (h : ∀ h', h'.Ns s.heap.objs.size (fun x => binds.reverse.lookup x) → Ext s.heap h' → codeAny (model P w) A (.expr e (newEnv fd.scope s.heap.objs.size fd.globals fd.closure (n ++ ".<locals>.") (some a) fd.code none fd.builtins)) R { s with heap := h', toks := s.toks + binds.length }) :
    codeAny (model P w) A (.call (.ref a) ⟨[u], []⟩) R s := by
  obtain ⟨c, oc, fs, t, ec, hoc, hfs, hn⟩ := cr
  apply codeAny_of_tree
  show wpAny (model P w) A.in1 (callAny (.ref a) ⟨[u], []⟩) _ _ s
  simp only [callAny]
  apply wpAny_bind
  apply wpAny_load at_
  simp only [fn, callFunction, nc, ng, bd, ec, hb]
  refine wpAny_bind (wpAny_field hoc hfs hn ?_)
  refine wpAny_bind (wpAny_pure ?_)
  refine wpAny_bind (wpAny_pure ?_)
  refine wpAny_bind (wpAny_newFunctionEnv nocell loc (fun h' h1 h2 => ?_) kd)
  have ext : Ext s.heap h' := fun b o e => h2.extBut b o (Nat.ne_of_lt (Heap.lt_size e)) (Heap.get?_push_of_some _ e)
  have := h h' h1 ext
  rw [ec] at this
  exact wpAny_bind (wpAny_enterFrame (lim.fresh _ h2) room (wpAny_pure ⟨rfl, this⟩))
section
variable {X : Cx} {pins : List (Addr × Obj)} {σ : L2.St} {H : Hp} {s : Shared}
/-- a lambda is made -/
theorem lam_make {P c : Addr} {q : Str} {params : Arguments} {body : Expr} {scope : Scope} {pos : Pos} {E : Value → Shared → Prop} {Q : Value → Shared → Prop} (I : Inv X pins σ H s) (TB : LamX.TabB X.base X.mg c P) (code : X.env.code = .ref c) (hT : TabS H P q)
    (hdef : defaultsOf params X.env = ([], [])) (hfree : ∀ y ∈ scope.names, y.2 = .free → ∃ c, X.env.cells.lookup y.1 = some c)
    (h : ∀ (f c' : Addr) (pm ctv : Value) (n : Str) (H1 : Hp) (s' : Shared), Inv X pins σ H1 s' → Same H H1 → (∀ b o, s.heap.get? b = some o → o.cls ≠ .none → s'.heap.get? b = some o) →
      s'.heap.get? f = some (PySem.W.kla_obj "<lambda>" (X.env.qual ++ "<lambda>") params body scope (cloFrom X.env.cells scope.names []) pm c' ctv) → s'.heap.CodeRec (.ref c') n → Q (.ref f) s') :
    wpAny (model X.prog X.w) X.A (eval (.Lambda params body scope pos) X.env) Q E s := by
  obtain ⟨ps, hP, ok, old⟩ := hT
  apply PySem.W.kla_eval hdef
  have oP : s.heap.get? P = some { cls := .none, data := .fields ps } := I.hok P _ hP
  cases hc : codeAmong pos ps.toList with
  | some cv =>
    obtain ⟨c', n, rfl, hco⟩ := old pos cv hc
    obtain ⟨⟨oc, vs, t, k1, k2, k3⟩, _, _⟩ := I.hok c' _ hco
    refine PySem.W.kla_makeFunctionHit (c := c) (P := P) (ps := ps) (closure_ok hfree) I.ok.glob (I.mod.glob.keeps I.bk) code (TB.code.keeps I.bk) oP ok hc (TB.bm.keeps I.bk) fun ctv h' tk kx _ => ?_
    have kp : Ext s.heap (h'.push (PySem.W.kla_obj "<lambda>" (X.env.qual ++ "<lambda>") params body scope (cloFrom X.env.cells scope.names []) ((X.mg "__name__").getD .none) c' ctv)) := fun b o e => Heap.get?_push_of_some _ (kx b o e)
    exact h _ c' _ ctv n H _ (I.kept (t' := tk) kp) (Same.refl H) (fun b o e _ => kp b o e) (Heap.get?_push_size _ rfl) ⟨c', oc, vs, t, rfl, kp _ _ k1, k2, k3⟩
  | none =>
    refine PySem.W.kla_makeFunction (c := c) (P := P) (ps := ps) (closure_ok hfree) I.ok.glob (I.mod.glob.keeps I.bk) code (TB.code.keeps I.bk) oP ok hc TB.gP (TB.bm.keeps I.bk) fun c' ctv h' tk kx ge lt rec tb => ?_
    obtain ⟨c2, oc, vs, t, e2, k1, k2, k3⟩ := rec
    cases e2
    have nC : H c' = none := I.hok.fresh ge
    have nP : P ≠ c' := ne_of_none hP nC
    let fo := PySem.W.kla_obj "<lambda>" (X.env.qual ++ "<lambda>") params body scope (cloFrom X.env.cells scope.names []) ((X.mg "__name__").getD .none) c' ctv
    have I1 := LamX.inv_table (t' := tk) (more := #[rawInt pos.line, rawInt pos.col, .ref c']) (h' := h'.push fo) I hP (fun b o hb e => Heap.get?_push_of_some _ (kx b o hb e)) (Heap.get?_push_of_some _ tb) ge ⟨oc, vs, t, Heap.get?_push_of_some _ k1, k2, k3⟩
    refine h _ c' _ ctv _ _ _ I1 ⟨fun b o e n => ?_, fun P2 q2 t2 => ?_, fun {b} e => ?_⟩ (fun b o e n => Heap.get?_push_of_some _ (kx b o (fun z => n (by rw [z, oP] at e; cases e; rfl)) e)) (Heap.get?_push_size _ rfl) ⟨c', oc, vs, t, rfl, Heap.get?_push_of_some _ k1, k2, k3⟩
    · rw [upd_ne (ne_of_none e nC), upd_ne (fun z => n ps (Option.some.inj (e.symm.trans (by rw [z]; exact hP))))]
      exact e
    · obtain ⟨ps2, a1, a2, a3⟩ := t2
      have keep : ∀ (b : Addr) (n : Str), H b = some (LamX.CodeO b n) → upd (upd H P (.tbl (ps ++ #[rawInt pos.line, rawInt pos.col, .ref c']))) c' (LamX.CodeO c' (X.env.qual ++ "<lambda>")) b = some (LamX.CodeO b n) := fun b n e => by
        rw [upd_ne (ne_of_none e nC), upd_ne (fun z => LamX.codeO_ne ps (Option.some.inj (e.symm.trans (by rw [z]; exact hP))))]
        exact e
      by_cases hb : P2 = P
      · subst hb
        rw [hP] at a1
        cases a1
        have eL : (ps ++ #[rawInt pos.line, rawInt pos.col, .ref c']).toList = ps.toList ++ [rawInt pos.line, rawInt pos.col, .ref c'] := by simp
        refine ⟨_, by rw [upd_ne nP, upd_same], by rw [eL]; exact PySem.TriplesOk_snoc _ _ _ _ ok, fun p' cv hcv => ?_⟩
        rw [eL] at hcv
        rcases LamX.among_app _ ok hcv with z | z
        · obtain ⟨c0, n0, e1, e2⟩ := a3 p' cv z
          exact ⟨c0, n0, e1, keep _ _ e2⟩
        · exact ⟨c', _, z, upd_same⟩
      · refine ⟨ps2, by rw [upd_ne (ne_of_none a1 nC), upd_ne hb]; exact a1, a2, fun p' cv hcv => ?_⟩
        obtain ⟨c0, n0, e1, e2⟩ := a3 p' cv hcv
        exact ⟨c0, n0, e1, keep _ _ e2⟩
    · by_cases h1 : b = c'
      · rw [h1]; exact nC
      · rw [upd_ne h1] at e
        by_cases h2 : b = P
        · rw [h2, upd_same] at e
          cases e
        · rw [upd_ne h2] at e
          exact e
end
/-- a lambda of one parameter -/
structure LamP (sc scope : Scope) (p : Str) : Prop where
  kind : scope.kind = .function
  co : scope.isCoroutine = false
  gen : scope.isGenerator = false
  own : ∀ y ∈ scope.names, y.2 ≠ .cell
  par : scope.names.lookup p = some .local
  cap : ∀ y ∈ scope.names, y.2 = .free → sc.names.lookup y.1 = some .cell ∨ sc.names.lookup y.1 = some .free
/-- the lambda's frame -/
abbrev lamE1 (qual : Str) (scope : Scope) (L f : Addr) (c' : Addr) (cl : List (Str × Addr)) : Env := newEnv scope L mainGlobals cl qual (some f) (.ref c') none builtinsNs
theorem key_call {P : Program} {w : World} {A : Around} {s : Shared} {f c' : Addr} {qual n p : Str} {params : Arguments} {body : Expr} {sc scope : Scope} {cl : List (Str × Addr)} {pm ctv u : Value} {k : D}
    (room : A.depth < recursionLimit) (hf : s.heap.get? f = some (PySem.W.kla_obj "<lambda>" qual params body scope cl pm c' ctv)) (cr : s.heap.CodeRec (.ref c') n) (lim : s.heap.NoLimit)
    (hb : bindArgs (PySem.W.kla_fn "<lambda>" qual params body scope cl pm (.ref c') ctv) ⟨[u], []⟩ = pure [(p, u)]) (S : LamP sc scope p) (fk : flat k = true)
    (hx : ∀ A', XE P w A' (lamE1 (n ++ ".<locals>.") scope s.heap.objs.size f c' cl) (fun h => Ext s.heap h ∧ h.Ns s.heap.objs.size (fun x => [(p, u)].reverse.lookup x)) body k) :
    wpAny (model P w) A (call (.ref f) [u]) (PySem.W.KeyPure k s) (fun _ _ => False) s := by
  refine wpAny_call (codeAny_mono (R := fun r s' => ∃ v, r = .ok (.ret v) ∧ PySem.W.KeyPure k s v s') ?_ fun r s' hq => ?_)
  · refine lam_run room hf rfl S.co S.gen rfl cr lim hb S.own (fun x hx => ?_) S.kind fun h' h1 h2 => ?_
    · rw [List.mem_singleton] at hx
      rw [hx]
      exact S.par
    · refine PySem.W.kla_codeExpr ((hx _).run _ _ _ ⟨h2, h1⟩ fun v h'' tk e r => ?_)
      obtain ⟨as, r⟩ := r
      have := reads_flat k v as fk r
      subst this
      exact ⟨v, rfl, h'', tk, rfl, h2.trans e, r⟩
  · obtain ⟨v, rfl, q⟩ := hq
    exact q
end SH


set_option Elab.async false
set_option linter.all false
set_option maxRecDepth 100000
set_option maxHeartbeats 4000000
/-! The layer, part kf: sorted by a key that a lambda tells. -/
namespace SH
open PySem PySem.Spec PyProof.Rows L2 PySem.Calls

/-! ### what a lambda's body tells: of the parameter and of the names around -/
abbrev KF := D → En → Res D
def qPar : KF := fun x _ => .ok x
def capR : Option (Option D) → Res D
  | some (some d) => if okEq 9 d = true then .ok d else .stuck
  | _ => .stuck
def qCap (i : Nat) : KF := fun _ en => capR en[i]?
def qInt (i : Int) : KF := fun _ _ => .ok (.int i)
def dNegK : D → Res D
  | .int i => .ok (.int (-i))
  | _ => .stuck
def dSubK : D → D → Res D
  | .int i, .int j => .ok (.int (i - j))
  | _, _ => .stuck
def dAddK : D → D → Res D
  | .int i, .int j => .ok (.int (i + j))
  | _, _ => .stuck
def dMulK : D → D → Res D
  | .int i, .int j => if small i = true then .ok (.int (i * j)) else .stuck
  | _, _ => .stuck
def dIdxK : D → D → Res D
  | .list xs, .int i => (match atI xs i with
    | some d => if xs.length ≤ LIM then .ok d else .stuck
    | none => .stuck)
  | .tuple xs, .int i => (match atI xs i with
    | some d => if xs.length ≤ LIM then .ok d else .stuck
    | none => .stuck)
  | _, _ => .stuck
def qNeg (a : KF) : KF := fun x en => (a x en).bind dNegK
def qBinK (g : D → D → Res D) (b : KF) (x : D) (en : En) (p : D) : Res D := (b x en).bind (g p)
def qBin (g : D → D → Res D) (a b : KF) : KF := fun x en => (a x en).bind (qBinK g b x en)
def qTupL : List KF → D → En → Res (List D)
  | [], _, _ => .ok []
  | f :: fs, x, en => (f x en).bind fun d => (qTupL fs x en).bind fun ds => .ok (d :: ds)
def qTup (fs : List KF) : KF := fun x en => (qTupL fs x en).bind fun ds => .ok (.tuple ds)
/-! ### the reader -/
def qMap (rec : Expr → Option KF) : List Expr → Option (List KF)
  | [] => some []
  | e :: es => (rec e).bind fun f => (qMap rec es).map fun fs => f :: fs
def qOp : Operator → Option (D → D → Res D)
  | .Sub => some dSubK
  | .Add => some dAddK
  | .Mult => some dMulK
  | _ => none
def cK (p : Str) (sc : Scope) (N : List Str) : Nat → Expr → Option KF
  | 0, _ => none
  | n + 1, e => match e with
    | .Name x _ => if dunder x = false then (if x = p then some qPar else if sc.names.lookup x = some .free then (ixOf x N).map qCap else none) else none
    | .Constant (.int i) _ _ => some (qInt i)
    | .UnaryOp .USub a _ => (cK p sc N n a).map qNeg
    | .BinOp a op b _ => (qOp op).bind fun g => (cK p sc N n a).bind fun f => (cK p sc N n b).map fun h => qBin g f h
    | .Subscript a b _ => if plainI b = true then (cK p sc N n a).bind fun f => (cK p sc N n b).map fun h => qBin dIdxK f h else none
    | .Tuple es _ _ => if es.all noStar = true ∧ es.length ≤ 100 then (qMap (cK p sc N n) es).map qTup else none
    | _ => none
theorem bind_inv {r : Res D} {f : D → Res D} {d : D} (h : r.bind f = .ok d) : ∃ a, r = .ok a ∧ f a = .ok d := by
  cases r with
  | ok a => exact ⟨a, rfl, h⟩
  | exc c => cases h
  | stuck => cases h
section
variable {P : Program} {w : World} {A : Around} {env : Env} {G : Heap → Prop} {p : Str} {sc : Scope} {N : List Str} {en : En} {x : D}
theorem cK_ok (hG : ∀ h h', Ext h h' → G h → G h') (hk : env.scope.kind = .function) (hp : env.kindOf p = some .local) (hx : ∀ h, G h → ∃ m v, h.Ns env.locals m ∧ m p = some v ∧ RdV h v x)
    (hcap : ∀ y i d, sc.names.lookup y = some .free → ixOf y N = some i → en[i]? = some (some d) → okEq 9 d = true → env.kindOf y = some .free ∧ ∃ c, env.cells.lookup y = some c ∧ ∀ h, G h → ∃ v, h.IsCell c (some v) ∧ RdV h v d) :
    ∀ (n : Nat) (e : Expr) (f : KF), cK p sc N n e = some f → ∀ d, f x en = .ok d → XE P w A env G e d := by
  intro n
  induction n with
  | zero => intro e f h; cases h
  | succ n ih =>
    intro e f h d hd
    unfold cK at h
    split at h
    · rename_i y pos
      split at h
      · rename_i hdu
        obtain ⟨d1, d2⟩ := dunder_no hdu
        split at h
        · rename_i hyp
          cases h
          cases hd
          rw [hyp] at d1 ⊢
          exact xe_loc hk hp d1 hx
        · split at h
          · rename_i hfr
            obtain ⟨i, h1, rfl⟩ := Option.map_eq_some_iff.mp h
            have hd : capR en[i]? = .ok d := hd
            cases he : en[i]? with
            | none => rw [he] at hd; cases hd
            | some o =>
              rw [he] at hd
              cases o with
              | none => cases hd
              | some d' =>
                have hd : (if okEq 9 d' = true then Res.ok d' else .stuck) = .ok d := hd
                split at hd
                · rename_i hok
                  cases hd
                  obtain ⟨k1, c, k2, k3⟩ := hcap y i d hfr h1 he hok
                  exact xe_free hk k1 k2 d1 d2 k3
                · cases hd
          · cases h
      · cases h
    · cases h
      cases hd
      exact xe_int
    · obtain ⟨f', h1, rfl⟩ := Option.map_eq_some_iff.mp h
      obtain ⟨a, h2, h3⟩ := bind_inv hd
      unfold dNegK at h3
      split at h3
      · cases h3
        exact xe_neg (ih _ _ h1 _ h2)
      · cases h3
    · obtain ⟨g, h0, h⟩ := Option.bind_eq_some_iff.mp h
      obtain ⟨f1, h1, h⟩ := Option.bind_eq_some_iff.mp h
      obtain ⟨f2, h2, rfl⟩ := Option.map_eq_some_iff.mp h
      obtain ⟨a, k1, k⟩ := bind_inv hd
      obtain ⟨b, k2, k3⟩ := bind_inv (show (f2 x en).bind (g a) = .ok d from k)
      have xa := ih _ _ h1 _ k1
      have xb := ih _ _ h2 _ k2
      unfold qOp at h0
      split at h0
      · cases h0
        unfold dSubK at k3
        split at k3
        · cases k3
          exact xe_sub hG xa xb
        · cases k3
      · cases h0
        unfold dAddK at k3
        split at k3
        · cases k3
          exact xe_add hG xa xb
        · cases k3
      · cases h0
        unfold dMulK at k3
        split at k3
        · split at k3
          · rename_i hs
            cases k3
            unfold small at hs
            exact xe_mul hG (of_decide_eq_true hs) xa xb
          · cases k3
        · cases k3
      · cases h0
    · split at h
      · rename_i hpl
        obtain ⟨f1, h1, h⟩ := Option.bind_eq_some_iff.mp h
        obtain ⟨f2, h2, rfl⟩ := Option.map_eq_some_iff.mp h
        obtain ⟨a, k1, k⟩ := bind_inv hd
        obtain ⟨b, k2, k3⟩ := bind_inv (show (f2 x en).bind (dIdxK a) = .ok d from k)
        have xa := ih _ _ h1 _ k1
        have xb := ih _ _ h2 _ k2
        unfold dIdxK at k3
        split at k3
        · split at k3
          · rename_i hat
            split at k3
            · rename_i hl
              cases k3
              exact xe_ixL hG hat (lim_line hl) (plainIx_ok hpl) xa xb
            · cases k3
          · cases k3
        · split at k3
          · rename_i hat
            split at k3
            · rename_i hl
              cases k3
              exact xe_ixT hG hat (lim_line hl) (plainIx_ok hpl) xa xb
            · cases k3
          · cases k3
        · cases k3
      · cases h
    · split at h
      · rename_i es _ _ hh
        obtain ⟨hns, hlen⟩ := hh
        obtain ⟨fs, h1, rfl⟩ := Option.map_eq_some_iff.mp h
        have hd : (qTupL fs x en).bind (fun ds => Res.ok (.tuple ds)) = .ok d := hd
        have all : ∀ (es : List Expr) (fs : List KF) (ds : List D), es.all noStar = true → qMap (cK p sc N n) es = some fs → qTupL fs x en = .ok ds → XA P w A env G es ds ∧ ds.length = es.length := by
          intro es
          induction es with
          | nil =>
            intro fs ds _ q1 q2
            cases q1
            cases q2
            exact ⟨xa_nil hG, rfl⟩
          | cons e es ih2 =>
            intro fs ds q0 q1 q2
            rw [List.all_cons, Bool.and_eq_true] at q0
            obtain ⟨f1, q3, q4⟩ := Option.bind_eq_some_iff.mp q1
            obtain ⟨fs', q5, rfl⟩ := Option.map_eq_some_iff.mp q4
            have q2 : (f1 x en).bind (fun d => (qTupL fs' x en).bind fun ds => Res.ok (d :: ds)) = .ok ds := q2
            cases e1 : f1 x en with
            | ok d1 =>
              rw [e1, Res.bind_ok] at q2
              cases e2 : qTupL fs' x en with
              | ok ds1 =>
                rw [e2, Res.bind_ok] at q2
                cases q2
                obtain ⟨r1, r2⟩ := ih2 fs' ds1 q0.2 q5 e2
                exact ⟨xa_cons hG (ih _ _ q3 _ e1) r1 (star_cons q0.1), by rw [List.length_cons, List.length_cons, r2]⟩
              | exc c => rw [e2] at q2; cases q2
              | stuck => rw [e2] at q2; cases q2
            | exc c => rw [e1] at q2; cases q2
            | stuck => rw [e1] at q2; cases q2
        cases e3 : qTupL fs x en with
        | ok ds =>
          rw [e3, Res.bind_ok] at hd
          cases hd
          obtain ⟨r1, r2⟩ := all es fs ds hns h1 e3
          exact xe_tup hG r1 (by rw [r2]; exact Nat.le_trans hlen (by rw [sizeLine_eq]; decide))
        | exc c => rw [e3] at hd; cases hd
        | stuck => rw [e3] at hd; cases hd
      · cases h
    · cases h
end
/-! ### sorted -/
def keysOf (fk : KF) (en : En) : List D → Res (List D)
  | [] => .ok []
  | x :: r => (noX (fk x en)).bind fun k => (keysOf fk en r).bind fun ks => .ok (k :: ks)
def dltK : D × D → D × D → Bool := PySem.W.dataLe false (fun q : D × D => q.2)
def kSort2 (xs ks : List D) : Res D := if sortB ks && (flatL ks && xs.all (okEq 9)) then .ok (.list (((xs.zip ks).mergeSort dltK).map (·.1))) else .stuck
def kSort (fk : KF) (en : En) (xs : List D) : Res D := (keysOf fk en xs).bind (kSort2 xs)
theorem keysOf_at {fk : KF} {en : En} : ∀ {xs ks : List D}, keysOf fk en xs = .ok ks → ks.length = xs.length ∧ ∀ {i : Nat} {x k : D}, xs[i]? = some x → ks[i]? = some k → fk x en = .ok k
  | [], ks, h => by
    cases h
    exact ⟨rfl, fun h => by simp at h⟩
  | x :: r, ks, h => by
    have h : (noX (fk x en)).bind (fun k => (keysOf fk en r).bind fun ks => Res.ok (k :: ks)) = .ok ks := h
    cases e1 : noX (fk x en) with
    | ok k =>
      rw [e1, Res.bind_ok] at h
      cases e2 : keysOf fk en r with
      | ok ks' =>
        rw [e2, Res.bind_ok] at h
        cases h
        obtain ⟨h1, h2⟩ := keysOf_at e2
        refine ⟨by rw [List.length_cons, List.length_cons, h1], fun {i} {y} {k'} q1 q2 => ?_⟩
        cases i with
        | zero =>
          cases q1
          cases q2
          exact noX_ok e1
        | succ i => exact h2 q1 q2
      | exc c => rw [e2] at h; cases h
      | stuck => rw [e2] at h; cases h
    | exc c => rw [e1] at h; cases h
    | stuck => rw [e1] at h; cases h
theorem keysOf_exc {fk : KF} {en : En} {c : Nat} : ∀ {xs : List D}, keysOf fk en xs ≠ .exc c
  | [], h => by cases h
  | x :: r, h => by
    have h : (noX (fk x en)).bind (fun k => (keysOf fk en r).bind fun ks => Res.ok (k :: ks)) = .exc c := h
    cases e1 : noX (fk x en) with
    | ok k =>
      rw [e1, Res.bind_ok] at h
      cases e2 : keysOf fk en r with
      | ok ks' => rw [e2] at h; cases h
      | exc c' => exact keysOf_exc e2
      | stuck => rw [e2] at h; cases h
    | exc c' => cases hq : fk x en <;> rw [hq] at e1 <;> cases e1
    | stuck => rw [e1] at h; cases h
theorem each_zip {R : Value → D → Prop} : ∀ {us : List Value} {xs ks : List D}, PySem.W.EachIs R us xs → ks.length = xs.length → PySem.W.EachIs (fun u (b : D × D) => R u b.1) us (xs.zip ks)
  | _, _, [], .nil, _ => .nil
  | _, _, [], .cons h t, e => by simp at e
  | _, _, _ :: _, .nil, e => by simp at e
  | _, _, k :: ks, .cons h t, e => .cons h (each_zip t (by simpa using e))
theorem each_fst {R : Value → D → Prop} : ∀ {us : List Value} {bs : List (D × D)}, PySem.W.EachIs (fun u (b : D × D) => R u b.1) us bs → PySem.W.EachIs R us (bs.map (·.1))
  | _, _, .nil => .nil
  | _, _, .cons h t => .cons h (each_fst t)
theorem flat_mem : ∀ {ks : List D} {k : D}, flatL ks = true → k ∈ ks → flat k = true
  | [], _, _, h => nomatch h
  | x :: r, k, f, h => by
    rw [flatL, Bool.and_eq_true] at f
    rcases List.mem_cons.mp h with rfl | h
    · exact f.1
    · exact flat_mem f.2 h
section
variable {X : Cx} {pins : List (Addr × Obj)} {σ : L2.St} {F H : Hp} {s : Shared} {XX : XW} {Q : VK} {fk : KF} {en : En} {xs : List D} {f : Addr} {u : Value}
theorem sortK_core (I : Inv X pins σ H s) (sb : Same F H) (hu : X.A.units + 66 < cLine)
    (src : ∀ (A' : Around) (Q : List Value → Shared → Prop) (E : Value → Shared → Prop), A'.handled = X.A.handled → (∀ h1 tk its ys, Ext s.heap h1 → Vals ys its → RpL X.K F ys xs → its.length ≤ sizeLine → Q its { s with heap := h1, toks := tk }) → wpAny (model X.prog X.w) A' (collect u) Q E s)
    (turn : ∀ (v : Value) (x k : D), okEq 9 x = true → fk x en = .ok k → flat k = true → ∀ (h : Heap) (tk : Nat), Ext s.heap h → RdV h v x → wpAny (model X.prog X.w) X.A.in1.in1 (call (.ref f) [v]) (PySem.W.KeyPure k { s with heap := h, toks := tk }) (fun _ _ => False) { s with heap := h, toks := tk })
    (q : PostG X.K XX F H (kSort fk en xs) Q) : wpAny (model X.prog X.w) X.A (call (.builtin "sorted") [u] [(Str.ofString "key", .ref f)]) (EP X pins σ Q) X.xe s := by
  unfold kSort at q
  cases ek : keysOf fk en xs with
  | exc c => exact absurd ek keysOf_exc
  | stuck => rw [ek] at q; exact q.elim
  | ok ks =>
    rw [ek, Res.bind_ok] at q
    unfold kSort2 at q
    split at q
    · rename_i hb
      rw [Bool.and_eq_true, Bool.and_eq_true] at hb
      obtain ⟨hs, hfl, hx9⟩ := hb
      unfold sortB at hs
      rw [Bool.and_eq_true, Bool.and_eq_true] at hs
      obtain ⟨hl, hk⟩ := keysOf_at ek
      refine PyProof.Rows.call_function_entry_kw PyProof.Rows.kind_sorted PyProof.Rows.plain_sorted PyProof.Rows.entry_sorted (ksk_s1 _ _) ?_
      unfold Builtin.«sorted»
      refine wpAny_bind (m := checkCount "sorted" 1 1 _) (wpAny_pure (wpAny_bind (src _ _ _ rfl fun h1 tk its ys kx rv rl hz => wpAny_bind (wpAny_newList ?_ hz))))
      have I1 : Inv X pins σ H { s with heap := h1, toks := tk } := I.kept kx
      obtain ⟨e1, e2⟩ := each_of I1 sb rv rl hx9
      have hkl : ks.length = its.length := by rw [hl, ← e1.length]
      have hbm : (xs.zip ks).map (·.2) = ks := by
        rw [List.map_snd_zip]
        omega
      have ho : (h1.push { cls := .type "list", data := .seq its.toArray }).get? h1.objs.size = some (seqObj "list" its.toArray 0) := Heap.get?_push_size _ rfl
      have kp2 : Ext h1 (h1.push { cls := .type "list", data := .seq its.toArray }) := fun b o e => Heap.get?_push_of_some _ e
      have sort : ∀ E2 : Value → Shared → Prop, wpAny (model X.prog X.w) X.A.in1.in1 (Builtin.«list.sort» ⟨[.ref h1.objs.size], [(Str.ofString "key", .ref f)]⟩) (fun fl t => fl = .done (.ret .none) ∧ EP X pins σ Q (.ref h1.objs.size) t) E2 { s with heap := h1.push { cls := .type "list", data := .seq its.toArray }, toks := tk } := by
        intro E2
        rw [ksk_t1]
        refine PySem.W.keyH_tree (vs := its) (kz := ks) (s := { s with heap := h1.push { cls := .type "list", data := .seq its.toArray }, toks := tk }) ho hkl hz (alikeB_ok hs.1) (sortable_ok hs.2.1) (fun d hd => ?_) (fun i v k hv hk' h tk2 kb => ?_) fun h' tk2 out c kb hD ko => ⟨rfl, ?_⟩
        · have := SeqAt.depth_of_shaped (okEq_shaped (by decide) (List.all_eq_true.mp hs.2.2 d hd))
          show X.A.units + 2 + d.depth < cLine
          omega
        · obtain ⟨x, hx, rx⟩ := each_at e2 hv
          have hne : ∀ b o, h1.get? b = some o → b ≠ h1.objs.size := fun b o e => Nat.ne_of_lt (Heap.lt_size e)
          have kx2 : Ext h1 h := fun b o e => kb b o (hne b o e) (kp2 b o e)
          exact turn v x k (List.all_eq_true.mp hx9 x (List.mem_of_getElem? hx)) (hk hx hk') (flat_mem hfl (List.mem_of_getElem? hk')) h tk2 (kx.trans kx2) (RdV.ext rx kx2)
        · have hne : ∀ b o, h1.get? b = some o → b ≠ h1.objs.size := fun b o e => Nat.ne_of_lt (Heap.lt_size e)
          have kx2 : Ext h1 h' := fun b o e => kb b o (hne b o e) (kp2 b o e)
          have eo := PySem.W.keyedOut_each (bs := xs.zip ks) (fun q : D × D => q.2) (by rw [hbm]; exact ko) (each_zip e1 hl)
          obtain ⟨zs, r1, r2⟩ := each_back (each_fst eo)
          have hol := ko.length hkl
          have hz' : zs.length ≤ sizeLine := by rw [r1.length, hol]; exact hz
          refine ⟨.ref h1.objs.size, L2.upd H h1.objs.size (.lst zs), I1.laid (t' := tk2) kx2 (Nat.le_refl _) ⟨hz', out, c, r1, hD⟩, rfl, ?_⟩
          exact q.newL sb r2 _ (I1.hok.fresh (Nat.le_refl _))
      refine wpAny_bind (wpAny_holding (PyProof.Rows.wpAny_call_entry_kw PyProof.Rows.slot_list_sort ⟨_, ho, rfl⟩ PyProof.Rows.entry_list_sort (wpAny_mono (sort _) (fun fl t hf => ?_) fun _ _ e => e) (ksk_l1 _ _)))
      obtain ⟨rfl, hq⟩ := hf
      exact ⟨_, rfl, wpAny_pure ⟨_, rfl, hq⟩⟩
    · exact q.elim
end
end SH


set_option Elab.async false
set_option linter.all false
set_option maxRecDepth 100000
set_option maxHeartbeats 4000000
/-! The layer, part kg: sorted(xs, key=lambda p: ..), sorted(range(..), key=lambda p: ..). -/
namespace SH
open PySem PySem.Spec PyProof.Rows L2 PySem.Calls

/-- the parameter, if there is just one -/
def parOf : Arguments → Option Str
  | ⟨[], [⟨p, none, _⟩], none, [], [], none, []⟩ => some p
  | _ => none
theorem par_dflt {a : Arguments} {p : Str} {env : Env} (h : parOf a = some p) : defaultsOf a env = ([], []) := by
  unfold parOf at h
  split at h
  · rfl
  · cases h
theorem par_bind {a : Arguments} {p : Str} {qual : Str} {body : Expr} {scope : Scope} {cl : List (Str × Addr)} {pm cd ct u : Value} (h : parOf a = some p) : bindArgs (PySem.W.kla_fn "<lambda>" qual a body scope cl pm cd ct) ⟨[u], []⟩ = pure [(p, u)] := by
  unfold parOf at h
  split at h
  · cases h
    rename_i po
    simp [bindArgs, List.lookup, seqItems?]
    rfl
  · cases h
def lamPB (sc scope : Scope) (p : Str) : Bool :=
  decide (scope.kind = .function) && !scope.isCoroutine && !scope.isGenerator && decide (scope.names.lookup p = some .local) &&
    scope.names.all fun y => !decide (y.2 = .cell) && (!decide (y.2 = .free) || decide (sc.names.lookup y.1 = some .cell) || decide (sc.names.lookup y.1 = some .free))
theorem lamP_by {sc scope : Scope} {p : Str} (h : lamPB sc scope p = true) : LamP sc scope p := by
  unfold lamPB at h
  simp only [Bool.and_eq_true, Bool.or_eq_true, Bool.not_eq_true', decide_eq_true_eq, decide_eq_false_iff_not, List.all_eq_true] at h
  obtain ⟨⟨⟨⟨h1, h2⟩, h3⟩, h5⟩, h4⟩ := h
  refine ⟨h1, h2, h3, fun y hy => (h4 y hy).1, h5, fun y hy e => ?_⟩
  rcases (h4 y hy).2 with (z | z) | z
  · exact absurd e z
  · exact .inl z
  · exact .inr z
theorem look_some {α : Type} : ∀ {l : List (Str × α)} {n : Str} {c : α}, (n, c) ∈ l → ∃ c', l.lookup n = some c'
  | (m, d) :: r, n, c, h => by
    rw [List.lookup_cons]
    split
    · exact ⟨_, rfl⟩
    · rename_i hne
      rcases List.mem_cons.mp h with e | e
      · cases e
        simp at hne
      · exact look_some e
section
variable {X : Cx} {pins : List (Addr × Obj)} {σ : L2.St} {F H : Hp} {s : Shared} {fk : KF} {en : En} {T : TB}
/-- the lambda's call tells the key -/
theorem lam_turn (I : Inv X pins σ H s) (er : ERx X.K T F H σ en) {f c' : Addr} {qual n p : Str} {params : Arguments} {body : Expr} {scope : Scope} {pm ctv : Value} {m : Nat} (L : LamP X.env.scope scope p) (hp : parOf params = some p) (hK : cK p scope X.N m body = some fk)
    (hf : s.heap.get? f = some (PySem.W.kla_obj "<lambda>" qual params body scope (cloFrom X.env.cells scope.names []) pm c' ctv)) (cr : s.heap.CodeRec (.ref c') n) {v : Value} {x k : D} (hk : fk x en = .ok k) (fl : flat k = true) {h : Heap} {tk : Nat} (e : Ext s.heap h) (rx : RdV h v x)
    {A : Around} (room : A.depth < recursionLimit) : wpAny (model X.prog X.w) A (call (.ref f) [v]) (PySem.W.KeyPure k { s with heap := h, toks := tk }) (fun _ _ => False) { s with heap := h, toks := tk } := by
  refine key_call (s := { s with heap := h, toks := tk }) room (e _ _ hf) (cr.keeps e) (I.nolimit.keeps e) (par_bind hp) L fl fun A' => ?_
  have hfree : ∀ y ∈ scope.names, y.2 = .free → ∃ c, X.env.cells.lookup y.1 = some c := fun y hy e => by
    rcases L.cap y hy e with k | k
    · exact I.ok.has _ (.inl k)
    · exact I.ok.has _ (.inr k)
  refine cK_ok (env := lamE1 (n ++ ".<locals>.") scope h.objs.size f c' (cloFrom X.env.cells scope.names [])) (p := p) (x := x) (fun h1 h2 e2 ⟨a, b⟩ => ⟨a.trans e2, b.keeps e2⟩) L.kind (show scope.names.lookup p = some .local from L.par) (fun h1 ⟨a, b⟩ => ⟨_, v, b, ?_, rx.ext a⟩) (fun y i d hy hi he hok => ?_) m body fk hK k hk
  · have hm := PySem.mem_of_lookup hy
    obtain ⟨c, hc⟩ := look_some (cloFrom_has (cells := X.env.cells) (acc := []) hm)
    have hxc := NdefX.clo_cm hfree hc
    refine ⟨hy, c, hc, fun h1 ⟨a, b⟩ => ?_⟩
    obtain ⟨z, h2, h3⟩ := er.at_ i d he
    obtain ⟨m', _, hl⟩ := I.loc
    have hcap := L.cap _ hm rfl
    obtain ⟨u, r1, r2⟩ := hl i y z (ixOf_get hi) h2 (by rcases hcap with q | q; exact .inr (.inl q); exact .inr (.inr q))
    rcases r2 with ⟨q, _⟩ | ⟨_, c2, q1, q2⟩
    · have q : X.env.scope.names.lookup y = some .local := q
      rcases hcap with q' | q' <;> rw [show X.env.scope.names.lookup y = _ from q'] at q <;> cases q
    · rw [hxc] at q1
      cases q1
      refine ⟨u, q2.keeps (e.trans a), ?_⟩
      obtain ⟨as, rd⟩ := Dp.reads I _ _ _ (Rp.dp er.sub 9 hok h3) r1
      exact RdV.ext ⟨as, rd⟩ (e.trans a)
  · show List.lookup p [(p, v)].reverse = some v
    simp [List.lookup]
end
def vSortK1 (fk : KF) (en : En) : List D → Res D
  | [.list xs] => kSort fk en xs
  | _ => .stuck
def vSortK (fe : SF) (fk : KF) : SF := fun en => (vL [fe] en).bind (vSortK1 fk en)
theorem boot_sorted : bootBuiltins "sorted" = some (.builtin "sorted") := by decide +kernel
section
variable {X : Cx} {W : WX0} {e : Expr} {fe : SF} {fk : KF} {p : Str} {params : Arguments} {body : Expr} {scope : Scope} {m : Nat} {p1 lp kp pos : Pos}
/-- the keyword's value is made, then the call -/
theorem kw_lam {pins : List (Addr × Obj)} {σ : L2.St} {F H : Hp} {s : Shared} {en : En} {us : List Value} {Q : Value → Shared → Prop} {nm : Str} {g : Value} (I : Inv X pins σ H s) (er : ERx X.K W.T F H σ en) (la : LamAt X W.T) (L : LamP X.env.scope scope p) (hp : parOf params = some p)
    (hQ : ∀ (f c' : Addr) (pm ctv : Value) (n : Str) (H1 : Hp) (s' : Shared), Inv X pins σ H1 s' → ERx X.K W.T F H1 σ en → Same H H1 → (∀ b o, s.heap.get? b = some o → o.cls ≠ .none → s'.heap.get? b = some o) → s'.heap.get? f = some (PySem.W.kla_obj "<lambda>" (X.env.qual ++ "<lambda>") params body scope (cloFrom X.env.cells scope.names []) pm c' ctv) → s'.heap.CodeRec (.ref c') n →
      wpAny (model X.prog X.w) X.A (call g us [(nm, .ref f)]) Q X.xe s') :
    wpAny (model X.prog X.w) X.A (evalAll ((backToKw pos (keywordEach [⟨some nm, .Lambda params body scope lp, kp⟩] X.env)).map (·.2))) (fun ks s2 => True ∧ wpAny (model X.prog X.w) X.A (call g us (((backToKw pos (keywordEach [⟨some nm, .Lambda params body scope lp, kp⟩] X.env)).filterMap (·.1)).zip ks)) Q X.xe s2) X.xe s := by
  obtain ⟨cc, Pa, h1, h2, h3, _⟩ := la.ex
  have tb : TabS H Pa _ := er.sub.tabs er.tb _ h3
  refine kwAll_cons (lam_make I h2 h1 tb (par_dflt hp) (fun y hy e => ?_) fun f c' pm ctv n H1 s' I1 sm kp hf hc => kwAll_nil ⟨trivial, ?_⟩)
  · rcases L.cap y hy e with k | k
    · exact I.ok.has _ (.inl k)
    · exact I.ok.has _ (.inr k)
  · exact hQ f c' pm ctv n H1 s' I1 ⟨er.sub.trans sm, er.tb, er.len, er.at_⟩ sm kp hf hc
theorem ge_sortK (hu : X.A.units + 66 < cLine) (room : X.A.depth < recursionLimit) (la : LamAt X W.T) (L : LamP X.env.scope scope p) (hp : parOf params = some p) (hK : cK p scope X.N m body = some fk) (hg : Gl X "sorted") (hm : X.mg "sorted" = none) (he : DE X W e fe) (hs : starEach [e] X.env = (false, eval e X.env) :: starEach [] X.env) :
    GE X W (.Call (.Name "sorted" p1) [e] [⟨some "key", .Lambda params body scope lp, kp⟩] pos) (vSortK fe fk) := by
  refine ⟨fun pins s σ H Q I ⟨en, F, er, q⟩ => ?_⟩
  have ha := da_cons he da_nil hs
  refine wpAny_Call_Name_kw (ld_blt I hg hm boot_sorted ?_ (by decide) (by decide))
  refine PySem.W.callWith_of (P := fun _ => True) (by rw [hs]; rfl) (fun h _ => ⟨.machine, .inr (.inl rfl), PySem.W.Looks.of_pure rfl⟩) (evalArgs_kw2 rfl ?_ hs)
  refine thn (ha.run pos pins s σ H (fun vs H1 => ∃ xs F1, Same H H1 ∧ Grow F H F1 H1 ∧ RpL X.K F1 vs xs ∧ PostG X.K (fun c => W c σ) F1 H1 (vSortK1 fk en xs) Q) I ⟨en, F, er, postGL_bind q fun ds vs F1 H1 _ e1 g1 r1 q1 => ⟨ds, F1, e1, g1, r1, q1⟩⟩) fun us s1 ⟨vs, H1, I1, r, xs, F1, e1, g1, r1, q1⟩ => ?_
  refine kw_lam I1 (er.grow g1) la L hp fun f c' pm ctv n H2 s2 I2 er2 sm kp hf hc => ?_
  unfold vSortK1 at q1
  split at q1
  · rename_i ys
    obtain ⟨v, rfl, rv⟩ := one' r1
    obtain ⟨a, zs, rfl, h1, h2⟩ := rv.lst'
    rw [Vals.ref1 r]
    refine sortK_core I2 er2.sub hu (fun A' Q' E' _ hq => ?_) (fun v x k _ hk fl h tk e rx => lam_turn I2 er2 L hp hK hf hc hk fl e rx room) (q1.cut sm (Grow.stay g1.sub sm))
    obtain ⟨its, r2, hl, hz⟩ := I2.list (h1.mono er2.sub).seq
    refine collect_list hl.isList (hq _ s2.toks its zs (fun b o e => ?_) r2 h2 (by rw [← r2.length]; exact hz)) (by rw [← r2.length]; exact hz)
    have hne : b ≠ s2.heap.objs.size := Nat.ne_of_lt (Heap.lt_size e)
    exact ((Heap.SameBut.update _ _ _).2 b hne).trans (Heap.get?_push_of_some _ e)
  · exact q1.elim
/-- the argument is a range -/
theorem sortK_rg {pins : List (Addr × Obj)} {σ : L2.St} {F H : Hp} {s : Shared} {en : En} {Q : VK} {XX : XW} {a b : Int} {r f : Addr} {t u v : Tok} (hc : X.calm = true) (hu : X.A.units + 66 < cLine) (I : Inv X pins σ H s) (sb : Same F H) (hr : IsRange s.heap r a b 1 t u v) (hb : rgB a b = true)
    (turn : ∀ (v : Value) (x k : D), okEq 9 x = true → fk x en = .ok k → flat k = true → ∀ (h : Heap) (tk : Nat), Ext s.heap h → RdV h v x → wpAny (model X.prog X.w) X.A.in1.in1 (call (.ref f) [v]) (PySem.W.KeyPure k { s with heap := h, toks := tk }) (fun _ _ => False) { s with heap := h, toks := tk })
    (q : PostG X.K XX F H (kSort fk en (rangeD a (b - a).toNat)) Q) : wpAny (model X.prog X.w) X.A (call (.builtin "sorted") [.ref r] [(Str.ofString "key", .ref f)]) (EP X pins σ Q) X.xe s := by
  obtain ⟨b1, b2, b3, b4, b5⟩ := rgB_ok hb
  refine sortK_core I sb hu (fun A' Q' E' hA hq => ?_) turn q
  refine collect_range (n := (b - a).toNat) (by rw [hA]; exact I.ok.hd hc) hr (small_one b1 b2 b3 b4) (rangeSize_nat a b) b5 fun h' tk acc hk hi => ?_
  refine hq h' tk acc.toList (rgV a b) hk (vals_rg hi) (rpl_rg a b) ?_
  rw [← (vals_rg hi).length, rgV_length, sizeLine_eq]
  omega
theorem ge_sortKR1 {a : Expr} {fa : SF} {p2 pos2 : Pos} (hc : X.calm = true) (hu : X.A.units + 66 < cLine) (room : X.A.depth < recursionLimit) (la : LamAt X W.T) (L : LamP X.env.scope scope p) (hp : parOf params = some p) (hK : cK p scope X.N m body = some fk) (hg : Gl X "sorted") (hm : X.mg "sorted" = none)
    (hg2 : Gl X "range") (hm2 : X.mg "range" = none) (ha : DE X W a fa) (na : starEach [a] X.env = (false, eval a X.env) :: starEach [] X.env) :
    GE X W (.Call (.Name "sorted" p1) [.Call (.Name "range" p2) [a] [] pos2] [⟨some "key", .Lambda params body scope lp, kp⟩] pos) (vSortK (vUn dLR1 fa) fk) := by
  refine ⟨fun pins s σ H Q I ⟨en, F, er, q⟩ => ?_⟩
  refine wpAny_Call_Name_kw (ld_blt I hg hm boot_sorted ?_ (by decide) (by decide))
  refine PySem.W.callWith_of (P := fun _ => True) rfl (fun h _ => ⟨.machine, .inr (.inl rfl), PySem.W.Looks.of_pure rfl⟩) (evalArgs_kw2 rfl ?_ rfl)
  have e0 : vSortK (vUn dLR1 fa) fk en = (fa en).bind fun d => (dLR1 d).bind fun l => vSortK1 fk en [l] := by
    unfold vSortK
    simp only [vL, vUn]
    cases fa en with
    | ok d => cases hd : dLR1 d <;> simp [hd]
    | exc c => rfl
    | stuck => rfl
  rw [e0] at q
  have hq : Post X.K (fun c => W c σ) F H (fa en) (fun x H1 => ∃ n, x = .int n ∧ ∃ F1, (0 : Int) = 0 ∧ Same H H1 ∧ Grow F H F1 H1 ∧ rgB 0 n = true ∧ PostG X.K (fun c => W c σ) F1 H1 (kSort fk en (rangeD 0 (n - 0).toNat)) Q) := PostG.bind q fun d v F1 H1 _ e1 g1 r1 q1 => by
    unfold dLR1 at q1
    split at q1
    · split at q1
      · rename_i n h
        refine ⟨_, r1.int', F1, rfl, e1, g1, h, ?_⟩
        rw [Int.sub_zero]
        exact q1
      · exact q1.elim
    · exact q1.elim
  refine Calls.spliced_cons (thn ((prg_1 hg2 hm2 ha na) pins s σ H (fun i j H1 => ∃ F1, i = 0 ∧ Same H H1 ∧ Grow F H F1 H1 ∧ rgB 0 j = true ∧ PostG X.K (fun c => W c σ) F1 H1 (kSort fk en (rangeD 0 (j - 0).toNat)) Q) I ⟨en, F, er, hq⟩) fun x s1 ⟨r, i, j, t, u, v, H1, ex, hr, I1, F1, e2, e1, g1, hb, q1⟩ => Calls.spliced_nil ?_)
  subst ex
  subst e2
  refine kw_lam I1 (er.grow g1) la L hp fun f c' pm ctv n H2 s2 I2 er2 sm kp hf hc' => ?_
  exact sortK_rg hc hu I2 er2.sub (kp _ _ hr (fun z => nomatch z)) hb (fun v x k _ hk fl h tk e rx => lam_turn I2 er2 L hp hK hf hc' hk fl e rx room) (q1.cut sm (Grow.stay g1.sub sm))
end
end SH


set_option Elab.async false
set_option linter.all false
set_option maxRecDepth 100000
set_option maxHeartbeats 4000000
/-! The layer, part kh: max(xs, default=d). -/
namespace SH
open PySem PySem.Spec PyProof.Rows L2 PySem.Calls

def dMaxDf : D → D → Res D
  | .list [], k => .ok k
  | .list (x :: xs), _ => if minOk (x :: xs) = true then .ok (PySem.W.maxD x xs) else .stuck
  | _, _ => .stuck
def maxDf1 (fk : SF) (en : En) : List D → Res D
  | [d] => (fk en).bind (dMaxDf d)
  | _ => .stuck
theorem maxDf_eq {fe fk : SF} {en : En} : vBin dMaxDf fe fk en = (vL [fe] en).bind (maxDf1 fk en) := by
  unfold vBin
  simp only [vL]
  cases fe en <;> rfl
theorem boot_max : bootBuiltins "max" = some (.builtin "max") := by decide +kernel
section
variable {X : Cx} {W : WX0} {e ke : Expr} {fe fk : SF} {p1 kp pos : Pos}
theorem de_maxDf (hc : X.calm = true) (hu : X.A.units + 66 < cLine) (hg : Gl X "max") (hm : X.mg "max" = none) (he : DE X W e fe) (hk : DE X W ke fk) (hs : starEach [e] X.env = (false, eval e X.env) :: starEach [] X.env) :
    DE X W (.Call (.Name "max" p1) [e] [⟨some "default", ke, kp⟩] pos) (vBin dMaxDf fe fk) := by
  refine ⟨fun pins s σ H Q I ⟨en, F, er, q⟩ => ?_⟩
  have ha := da_cons he da_nil hs
  rw [maxDf_eq] at q
  refine wpAny_Call_Name_kw (ld_blt I hg hm boot_max ?_ (by decide) (by decide))
  refine PySem.W.callWith_of (P := fun _ => True) (by rw [hs]; rfl) (fun h _ => ⟨.machine, .inr (.inl rfl), PySem.W.Looks.of_pure rfl⟩) (evalArgs_kw2 rfl ?_ hs)
  refine thn (ha.run pos pins s σ H (fun vs H1 => ∃ xs F1, Same H H1 ∧ Grow F H F1 H1 ∧ RpL X.K F1 vs xs ∧ Post X.K (fun c => W c σ) F1 H1 (maxDf1 fk en xs) Q) I ⟨en, F, er, postL_bind q fun ds vs F1 H1 _ e1 g1 r1 q1 => ⟨ds, F1, e1, g1, r1, q1⟩⟩) fun us s1 ⟨vs, H1, I1, r, xs, F1, e1, g1, r1, q1⟩ => ?_
  unfold maxDf1 at q1
  split at q1
  · rename_i d
    obtain ⟨v, rfl, rv⟩ := one' r1
    refine kwAll_cons (thn (hk.run pins s1 σ H1 (fun kv H2 => ∃ kd F2, Same H1 H2 ∧ Grow F1 H1 F2 H2 ∧ Rp X.K F2 kv kd ∧ Post X.K (fun c => W c σ) F2 H2 (dMaxDf d kd) Q) I1 ⟨en, F1, er.grow g1, Post.bind q1 fun kd kv F2 H2 _ e2 g2 r2 q2 => ⟨kd, F2, e2, g2, r2, q2⟩⟩) fun ku s2 ⟨kv, H2, I2, rk, kd, F2, e2, g2, r2, q2⟩ => kwAll_nil ⟨trivial, ?_⟩)
    show wpAny _ X.A (call (.builtin "max") us [(Str.ofString "default", ku)]) _ _ _
    unfold dMaxDf at q2
    split at q2
    · obtain ⟨a, ys, rfl, h1, h2⟩ := (rv.mono g2.fix).lst'
      obtain ⟨its, ri, hl, hz⟩ := I2.list (h1.mono g2.sub).seq
      obtain ⟨as, ra⟩ := reads_all (each_of I2 g2.sub ri h2 rfl).2
      rw [Vals.ref1 r]
      exact PySem.W.max_list_default (as := as) (xs := []) (I2.ok.hd hc) hl.isList (by simpa using ra) (alikeAll_ok (show minOk [] = true from rfl)) (by show _ + 1 + 0 < cLine; omega)
        (fun _ h' tk hk' => ⟨kv, H2, I2.kept (t' := tk) hk', rk, q2.ok0 g2.sub r2⟩) fun y ys i v h' tk bs e => nomatch e
    · rename_i _ _ x xs _
      split at q2
      · rename_i hs'
        obtain ⟨a, ys, rfl, h1, h2⟩ := (rv.mono g2.fix).lst'
        obtain ⟨its, ri, hl, hz⟩ := I2.list (h1.mono g2.sub).seq
        rw [Vals.ref1 r]
        have hs2 := hs'
        unfold minOk at hs2
        rw [Bool.and_eq_true, Bool.and_eq_true] at hs2
        obtain ⟨as, ra⟩ := reads_all (each_of I2 g2.sub ri h2 hs2.2.2).2
        refine PySem.W.max_list_default (as := as) (xs := x :: xs) (I2.ok.hd hc) hl.isList (by simpa using ra) (alikeAll_ok hs') ?_ (fun e => nomatch e) fun y ys i v h' tk bs e hv hr hk' => ?_
        · have := depthAll_le hs2.2.2
          omega
        · cases e
          exact pick I2 g2.sub ri h2 hs' (maxD_mem x xs) (by simpa using hv) hr hk' q2
      · exact q2.elim
    · exact q2.elim
  · exact q1.elim
end
end SH


set_option Elab.async false
set_option linter.all false
set_option maxRecDepth 100000
set_option maxHeartbeats 4000000
/-! The layer, part l: a reader of expressions, and that it is right. -/
namespace SH
open PySem PySem.Spec PyProof.Rows L2

theorem cCmp_tot {op : CmpOp} {g : D → D → Res D} (h : cCmp op = some g) : ∀ x y, (∃ k, g x y = .ok (.bool k)) ∨ g x y = .stuck := by
  unfold cCmp at h
  split at h <;> cases h <;> intro x y
  · unfold dEq; split <;> first | exact .inl ⟨_, rfl⟩ | exact .inr rfl
  · unfold dNe; split <;> first | exact .inl ⟨_, rfl⟩ | exact .inr rfl
  · unfold dLt; split <;> first | exact .inl ⟨_, rfl⟩ | exact .inr rfl
  · unfold dLe; split <;> first | exact .inl ⟨_, rfl⟩ | exact .inr rfl
  · unfold dGt; split <;> first | exact .inl ⟨_, rfl⟩ | exact .inr rfl
  · unfold dGe; split <;> first | exact .inl ⟨_, rfl⟩ | exact .inr rfl
  · unfold dIs; split <;> first | exact .inl ⟨_, rfl⟩ | exact .inr rfl
  · unfold dIsNot; split <;> first | exact .inl ⟨_, rfl⟩ | exact .inr rfl
  · unfold dIn; split <;> first | exact .inr rfl | (split <;> first | exact .inl ⟨_, rfl⟩ | exact .inr rfl | (split <;> first | exact .inl ⟨_, rfl⟩ | exact .inr rfl))
  · unfold dNotIn; split <;> first | exact .inr rfl | (split <;> first | exact .inl ⟨_, rfl⟩ | exact .inr rfl | (split <;> first | exact .inl ⟨_, rfl⟩ | exact .inr rfl))

/-! ### built-ins -/
def cB (x : Str) : Option (List D → Res D) :=
  if x = "len" then some dLen else if x = "sum" then some dSum else if x = "max" then some dMax else if x = "min" then some dMin
  else if x = "all" then some dAll else if x = "any" then some dAny else if x = "int" then some dInt else if x = "abs" then some dAbs
  else if x = "tuple" then some dTuple else none
def BltAt (X : Cx) (x : Str) (g : List D → Res D) : Prop := x ≠ "__name__" ∧ ((∃ id, CallR X (.builtin id) (rDL X.K g) ∧ bootBuiltins x = some (.builtin id)) ∨ (∃ id, CallR X (.type id) (rDL X.K g) ∧ bootBuiltins x = some (.type id)))
theorem cB_ok {X : Cx} {x : Str} {g : List D → Res D} (hc : X.calm = true) (hu : X.A.units + 66 < cLine) (h : cB x = some g) : BltAt X x g := by
  unfold cB at h
  split at h
  · rename_i e; cases h; subst e; exact ⟨by decide +kernel, .inl ⟨_, cD_len, by decide +kernel⟩⟩
  split at h
  · rename_i e; cases h; subst e; exact ⟨by decide +kernel, .inl ⟨_, cD_sum hc, by decide +kernel⟩⟩
  split at h
  · rename_i e; cases h; subst e; exact ⟨by decide +kernel, .inl ⟨_, cD_maxA hc hu, by decide +kernel⟩⟩
  split at h
  · rename_i e; cases h; subst e; exact ⟨by decide +kernel, .inl ⟨_, cD_minA hc hu, by decide +kernel⟩⟩
  split at h
  · rename_i e; cases h; subst e; exact ⟨by decide +kernel, .inl ⟨_, cD_all hc, by decide +kernel⟩⟩
  split at h
  · rename_i e; cases h; subst e; exact ⟨by decide +kernel, .inl ⟨_, cD_any hc, by decide +kernel⟩⟩
  split at h
  · rename_i e; cases h; subst e; exact ⟨by decide +kernel, .inr ⟨_, cD_int, by decide +kernel⟩⟩
  split at h
  · rename_i e; cases h; subst e; exact ⟨by decide +kernel, .inl ⟨_, cD_abs, by decide +kernel⟩⟩
  split at h
  · rename_i e; cases h; subst e; exact ⟨by decide +kernel, .inr ⟨_, cD_tuple, by decide +kernel⟩⟩
  · cases h
def cTy (x : Str) : Option String := if x = "int" then some "int" else if x = "bool" then some "bool" else if x = "tuple" then some "tuple" else if x = "list" then some "list" else if x = "str" then some "str" else none
theorem cTy_ok {x : Str} {t : String} (h : cTy x = some t) : x ≠ "__name__" ∧ bootBuiltins x = some (.type t) ∧ (x == ("__debug__" : Str)) = false := by
  unfold cTy at h
  split at h
  · rename_i e; cases h; subst e; decide +kernel
  split at h
  · rename_i e; cases h; subst e; decide +kernel
  split at h
  · rename_i e; cases h; subst e; decide +kernel
  split at h
  · rename_i e; cases h; subst e; decide +kernel
  split at h
  · rename_i e; cases h; subst e; decide +kernel
  · cases h

/-! ### the reader -/
abbrev RecE := SC → Expr → Option (Bool × SF)
abbrev RecT := SC → Expr → Option SF
def cL (rec : Expr → Option (Bool × SF)) : List Expr → Option (List SF)
  | [] => some []
  | a :: es => if noStar a = true then (rec a).bind fun p => (cL rec es).map fun fs => p.2 :: fs else none
def cAnd (rec : Expr → Option (Bool × SF)) : List Expr → Option SF
  | [] => none
  | [a] => (rec a).map (·.2)
  | a :: b :: r => (rec a).bind fun p => (cAnd rec (b :: r)).map fun f => vAnd p.2 f
def cOr (rec : Expr → Option (Bool × SF)) : List Expr → Option SF
  | [] => none
  | [a] => (rec a).map (·.2)
  | a :: b :: r => (rec a).bind fun p => (cOr rec (b :: r)).map fun f => vOr p.2 f
def cAndT (rec : Expr → Option SF) : List Expr → Option SF
  | [] => none
  | [a] => rec a
  | a :: b :: r => (rec a).bind fun p => (cAndT rec (b :: r)).map fun f => vAnd p f
def cOrT (rec : Expr → Option SF) : List Expr → Option SF
  | [] => none
  | [a] => rec a
  | a :: b :: r => (rec a).bind fun p => (cOrT rec (b :: r)).map fun f => vOr p f
def isiOf (T : Tab) (c : SC) (a y : Expr) : Option (Expr × String) := match y with
  | .Name y _ => if ("isinstance" : Str) ∈ T.blts ∧ y ∈ T.blts ∧ c.sc.names.lookup y = some .globalImplicit ∧ noStar a = true then (cTy y).map fun t => (a, t) else none
  | _ => none
def cCall (T : Tab) (c : SC) (x : Str) (fs : List SF) : Option (Bool × SF) := match T.fns.lookup x with
  | some (n, f) => if fs.length = n then some (false, vCall f fs) else none
  | none => if x ∈ T.gcds then some (false, vCall dGcd fs)
    else if x ∈ T.blts then (if x = "list" then some (true, vCall dList fs) else if x = "sorted" then some (true, vCall dSorted fs) else (cB x).map fun g => (false, vCall g fs))
    else none
/-- list(range(..)), tuple(range(..)) -/
def cRg (T : Tab) (rec : RecE) (c : SC) (x : Str) (args : List Expr) : Option (Bool × SF) := match args with
  | [.Call (.Name r _) rs [] _] => if r = "range" ∧ r ∈ T.blts ∧ x ∈ T.blts ∧ c.sc.names.lookup r = some .globalImplicit ∧ T.fns.lookup x = none then (match rs with
    | [a] => if noStar a = true then (if x = "list" then (rec c a).map fun p => (true, vUn dLR1 p.2) else if x = "tuple" then (rec c a).map fun p => (false, vUn dTR1 p.2) else none) else none
    | [a, b] => if noStar a = true ∧ noStar b = true then (if x = "list" then (rec c a).bind fun p => (rec c b).map fun q => (true, vBin dLR2 p.2 q.2) else if x = "tuple" then (rec c a).bind fun p => (rec c b).map fun q => (false, vBin dTR2 p.2 q.2) else none) else none
    | _ => none) else none
  | _ => none
def cCallN (T : Tab) (rec : RecE) (c : SC) (x : Str) (args : List Expr) : Option (Bool × SF) :=
  if dunder x = false ∧ c.sc.names.lookup x = some .globalImplicit then
    if x = "isinstance" then match args with
      | [a, y] => (isiOf T c a y).bind fun q => (rec c a).map fun p => (false, vUn (dIsi q.2) p.2)
      | _ => none
    else if c.calm = true then (match cRg T rec c x args with
      | some r => some r
      | none => (match args with
        | [] => none
        | a :: es => (cL (rec c) (a :: es)).bind (cCall T c x)))
    else none
  else none
/-- a list's method with one argument -/
def cMeth (rec : RecE) (c : SC) (x a : Str) (p1 : Pos) (line : Bool) (arg : Expr) : Option (Bool × SF) := if noStar arg = true ∧ line = true then
    (rec c (.Name x p1)).bind fun p => (rec c arg).bind fun q => if a = "index" then some (false, vMeth dIndex p.2 q.2) else if a = "count" then some (false, vMeth dCount p.2 q.2) else none
  else none
/-- sorted(.., key=lambda ..) -/
def cKeyR (T : Tab) (rec : RecE) (c : SC) (args : List Expr) (fk : KF) : Option SF := match args with
  | [.Call (.Name r _) [a] [] _] => if r = "range" ∧ r ∈ T.blts ∧ c.sc.names.lookup r = some .globalImplicit ∧ noStar a = true then (rec c a).map fun p => vSortK (vUn dLR1 p.2) fk else none
  | _ => none
def cKey (T : Tab) (rec : RecE) (c : SC) (x : Str) (args : List Expr) (kw : Str) (params : Arguments) (body : Expr) (scope : Scope) : Option (Bool × SF) :=
  if x = "sorted" ∧ kw = "key" ∧ x ∈ T.blts ∧ c.sc.names.lookup x = some .globalImplicit ∧ c.calm = true ∧ c.lam = true then
    (parOf params).bind fun p => if lamPB c.sc scope p = true then (cK p scope c.N 8 body).bind fun fk => (match cKeyR T rec c args fk with
      | some f => some (true, f)
      | none => (match args with
        | [e] => if noStar e = true then (rec c e).map fun q => (true, vSortK q.2 fk) else none
        | _ => none)) else none
  else none
/-- max(.., default=..) -/
def cDfl (T : Tab) (rec : RecE) (c : SC) (x : Str) (args : List Expr) (kw : Str) (ke : Expr) : Option (Bool × SF) :=
  if x = "max" ∧ kw = "default" ∧ x ∈ T.blts ∧ c.sc.names.lookup x = some .globalImplicit ∧ c.calm = true then (match args with
    | [e] => if noStar e = true then (rec c e).bind fun p => (rec c ke).map fun q => (false, vBin dMaxDf p.2 q.2) else none
    | _ => none)
  else none
def cCallE (T : Tab) (rec : RecE) (c : SC) (f : Expr) (args : List Expr) (kws : List Keyword) (cpos : Pos) : Option (Bool × SF) := match f, kws with
  | .Name x _, [⟨some kw, .Lambda params body scope _, _⟩] => cKey T rec c x args kw params body scope
  | .Name x _, [⟨some kw, ke, _⟩] => cDfl T rec c x args kw ke
  | .Name x _, [] => cCallN T rec c x args
  | .Attribute (.Name x p1) a apos, [] => (match args with
    | [arg] => cMeth rec c x a p1 (apos.endLine == cpos.line) arg
    | _ => none)
  | _, _ => none
def cPart (rec : RecE) (c : SC) : Option Expr → Option (Option SF)
  | none => some none
  | some e => (rec c e).map fun p => some p.2
def cSub (rec : RecE) (c : SC) (a s : Expr) : Option (Bool × SF) := match s with
  | .Slice lo hi none _ => (rec c a).bind fun p => (cPart rec c lo).bind fun l => (cPart rec c hi).map fun h => (true, vCut p.2 l h)
  | .Slice none none (some (.UnaryOp .USub (.Constant (.int 1) _ _) _)) _ => (rec c a).map fun p => (true, vUn dRev p.2)
  | s => if plainI s = true then (rec c a).bind fun p => (rec c s).map fun q => (false, vBin dIdx p.2 q.2) else none
def cCmpE (rec : RecE) (c : SC) (a : Expr) (ops : List CmpOp) (es : List Expr) : Option SF := match ops, es with
  | [op], [b] => if behindInMarks op b = false then (cCmp op).bind fun g => (rec c a).bind fun p => (rec c b).map fun q => vBin g p.2 q.2 else none
  | [op, op'], [b, b'] => if lastMarks [op, op'] [b, b'] = false then (cCmp op).bind fun g => (cCmp op').bind fun g' => (rec c a).bind fun p => (rec c b).bind fun q => (rec c b').map fun r => vChain g g' p.2 q.2 r.2 else none
  | _, _ => none
/-! targets, what is walked -/
def locB (c : SC) (x : Str) : Bool := match c.sc.names.lookup x with
  | some .local => true
  | some .cell => c.top || decide (c.own.lookup x = some .cell)
  | _ => false
def cTgs (rec : Expr → Option Tgt) : List Expr → Option Tgts
  | [] => some .nil
  | a :: es => if noStar a = true then (rec a).bind fun t => (cTgs rec es).map fun ts => .cons t ts else none
def cTg : Nat → SC → Expr → Option Tgt
  | 0, _, _ => none
  | n + 1, c, e => match e with
    | .Name x _ => if locB c x = true then (ixOf x c.N).map .slot else none
    | .Tuple es _ _ => if c.calm = true then (cTgs (cTg n c) es).map .tup else none
    | _ => none
def isTupE : Expr → Bool
  | .Tuple .. => true
  | _ => false
def cIk (x : Str) (tg : Expr) (n : Nat) : Option (List D → Res (List D)) :=
  if x = "range" then (if n = 1 ∨ n = 2 ∨ n = 3 then some iRange else none)
  else if x = "enumerate" then (if n = 1 ∧ isTupE tg = true then some iEnumD else none)
  else if x = "zip" then (if n = 2 ∧ isTupE tg = true then some iZipD else none)
  else none
def cIc (T : Tab) (rec : RecE) (c : SC) (tg iter : Expr) : Option ((List D → Res (List D)) × List SF) := match iter with
  | .Call (.Name x _) args [] _ => if x ∈ T.blts ∧ c.sc.names.lookup x = some .globalImplicit then (cIk x tg args.length).bind fun k => (cL (rec c) args).map fun fs => (k, fs) else none
  | _ => none
def cI (T : Tab) (rec : RecE) (c : SC) (tg iter : Expr) : Option (En → Res (List D)) := match cIc T rec c tg iter with
  | some q => some (wCall q.1 q.2)
  | none => (rec c iter).map fun p => wSeq p.2
def ownOf (N : List Str) : List (Str × NameKind) → List (Str × Nat)
  | [] => []
  | (x, k) :: r => match k with
    | .local => (match ixOf x N with
      | some i => (x, i) :: ownOf N r
      | none => ownOf N r)
    | .cell => (match ixOf x N with
      | some i => (x, i) :: ownOf N r
      | none => ownOf N r)
    | _ => ownOf N r
def cIfs (recT : Expr → Option SF) : List Expr → Option (Option SF)
  | [] => some none
  | [e] => (recT e).map some
  | _ => none
def cComp (T : Tab) (rec : RecE) (recT : RecT) (c : SC) (elt : Expr) (gens : List Comprehension) (scope : Scope) : Option SF := match gens with
  | [⟨tg, iter, ifs, a⟩] => if c.calm = true ∧ a = 0 ∧ blkC c.N c.sc scope (ownOf c.N scope.names) = true ∧ notSet iter = true then
      (cI T rec c tg iter).bind fun fi => (cTg 4 (c.blk scope) tg).bind fun t =>
        if (t.slots.all fun i => ((ownOf c.N scope.names).map (·.2)).contains i) = true then
          (cIfs (recT (c.blk scope)) ifs).bind fun cond => (rec (c.blk scope) elt).map fun p =>
            vComp fi t ((ownOf c.N scope.names).map (·.2)) (cond.map vTest) p.2
        else none
    else none
  | _ => none
def stepE (T : Tab) (rec : RecE) (recT : RecT) : RecE := fun c e => match e with
  | .Name x _ => (cName T c x).map fun f => (false, f)
  | .Constant k _ _ => (cConst k).map fun f => (false, f)
  | .BinOp a op b _ => (cOp op).bind fun g => (rec c a).bind fun p => (rec c b).map fun q => (g.1, vBin g.2 p.2 q.2)
  | .UnaryOp op a _ => match op with
    | .USub => (rec c a).map fun p => (false, vUn dNeg p.2)
    | .Not => (rec c a).map fun p => (false, vNot p.2)
    | _ => none
  | .BoolOp op es _ => match op with
    | .And => (cAnd (rec c) es).map fun f => (false, f)
    | .Or => (cOr (rec c) es).map fun f => (false, f)
  | .IfExp t a b _ => (recT c t).bind fun ft => (rec c a).bind fun p => (rec c b).map fun q => (false, vIf (vTest ft) p.2 q.2)
  | .Compare a ops es _ => (cCmpE rec c a ops es).map fun f => (false, f)
  | .Tuple es _ _ => (cL (rec c) es).bind fun fs => if fs.length ≤ 1000 then some (false, vTup fs) else none
  | .List es _ => (cL (rec c) es).bind fun fs => if fs.length ≤ 1000 then some (true, vLst fs) else none
  | .Subscript a s _ => cSub rec c a s
  | .Call f args kws cp => cCallE T rec c f args kws cp
  | .ListComp elt gens scope _ => (cComp T rec recT c elt gens scope).map fun f => (true, f)
  | _ => none
def stepT (rec : RecE) (recT : RecT) : RecT := fun c e => match e with
  | .BoolOp op es _ => match op with
    | .And => cAndT (recT c) es
    | .Or => cOrT (recT c) es
  | .Compare a ops es _ => cCmpE rec c a ops es
  | .UnaryOp op a p => match op with
    | .Not => (recT c a).map fun f => vNot f
    | .USub => (rec c (.UnaryOp .USub a p)).map (·.2)
    | _ => none
  | e => if plainT e = true then (rec c e).map (·.2) else none
def cET (T : Tab) : Nat → RecE × RecT
  | 0 => (fun _ _ => none, fun _ _ => none)
  | n + 1 => (stepE T (cET T n).1 (cET T n).2, stepT (cET T n).1 (cET T n).2)
def cE (T : Tab) (n : Nat) : RecE := (cET T n).1
def cT (T : Tab) (n : Nat) : RecT := (cET T n).2

/-! ### it is right -/
theorem AE.de {X : Cx} {W : WX0} {b : Bool} {e : Expr} {f : SF} (h : AE X W b e f) : DE X W e f := by
  unfold AE at h
  cases b with
  | true => rw [if_pos rfl] at h; exact GE.de h
  | false => rw [if_neg Bool.false_ne_true] at h; exact h
theorem ae_f {X : Cx} {W : WX0} {e : Expr} {f : SF} (h : DE X W e f) : AE X W false e f := by
  unfold AE; rw [if_neg Bool.false_ne_true]; exact h
theorem ae_t {X : Cx} {W : WX0} {e : Expr} {f : SF} (h : GE X W e f) : AE X W true e f := by
  unfold AE; rw [if_pos rfl]; exact h
def SoE (rec : Expr → Option (Bool × SF)) (X : Cx) (W : WX0) : Prop := ∀ e b f, rec e = some (b, f) → AE X W b e f
def SoT (rec : Expr → Option SF) (X : Cx) (W : WX0) : Prop := ∀ e f, rec e = some f → DT X W e (vTest f)
theorem SoE.de {rec : Expr → Option (Bool × SF)} {X : Cx} {W : WX0} (h : SoE rec X W) {e : Expr} {p : Bool × SF} (q : rec e = some p) : DE X W e p.2 := (h e p.1 p.2 q).de
section
variable {X : Cx} {W : WX0} {rec : Expr → Option (Bool × SF)} {recT : Expr → Option SF} {pos : Pos}
theorem cL_ok (h : SoE rec X W) : ∀ {es : List Expr} {fs : List SF}, cL rec es = some fs → DA X W es (vL fs) ∧ es.all noStar = true ∧ fs.length = es.length
  | [], fs, e => by
    cases e
    exact ⟨da_nil, rfl, rfl⟩
  | a :: es, fs, e => by
    rw [cL] at e
    split at e
    · rename_i ns
      obtain ⟨p, h1, e⟩ := Option.bind_eq_some_iff.mp e
      obtain ⟨gs, h2, rfl⟩ := Option.map_eq_some_iff.mp e
      obtain ⟨d, n, l⟩ := cL_ok h h2
      exact ⟨da_cons (h.de h1) d (star_cons ns), by rw [List.all_cons, ns, n]; rfl, by simp [l]⟩
    · cases e
theorem cAnd_ok (h : SoE rec X W) : ∀ {es : List Expr} {f : SF}, cAnd rec es = some f → DE X W (.BoolOp .And es pos) f
  | [], _, e => by cases e
  | [a], f, e => by
    obtain ⟨p, h1, rfl⟩ := Option.map_eq_some_iff.mp e
    exact de_one (h.de h1)
  | a :: b :: r, f, e => by
    rw [cAnd] at e
    obtain ⟨p, h1, e⟩ := Option.bind_eq_some_iff.mp e
    obtain ⟨g, h2, rfl⟩ := Option.map_eq_some_iff.mp e
    exact de_and (h.de h1) (cAnd_ok h h2)
theorem cOr_ok (h : SoE rec X W) : ∀ {es : List Expr} {f : SF}, cOr rec es = some f → DE X W (.BoolOp .Or es pos) f
  | [], _, e => by cases e
  | [a], f, e => by
    obtain ⟨p, h1, rfl⟩ := Option.map_eq_some_iff.mp e
    exact de_one (h.de h1)
  | a :: b :: r, f, e => by
    rw [cOr] at e
    obtain ⟨p, h1, e⟩ := Option.bind_eq_some_iff.mp e
    obtain ⟨g, h2, rfl⟩ := Option.map_eq_some_iff.mp e
    exact de_or (h.de h1) (cOr_ok h h2)
theorem cAndT_ok (h : SoT recT X W) : ∀ {es : List Expr} {f : SF}, cAndT recT es = some f → DW X W (.BoolOp .And es pos) (vTest f)
  | [], _, e => by cases e
  | [a], f, e => dw_one (h a f e)
  | a :: b :: r, f, e => by
    rw [cAndT] at e
    obtain ⟨p, h1, e⟩ := Option.bind_eq_some_iff.mp e
    obtain ⟨g, h2, rfl⟩ := Option.map_eq_some_iff.mp e
    exact dw_and (h a p h1) (cAndT_ok h h2)
theorem cOrT_ok (h : SoT recT X W) : ∀ {es : List Expr} {f : SF}, cOrT recT es = some f → DW X W (.BoolOp .Or es pos) (vTest f)
  | [], _, e => by cases e
  | [a], f, e => dw_one (h a f e)
  | a :: b :: r, f, e => by
    rw [cOrT] at e
    obtain ⟨p, h1, e⟩ := Option.bind_eq_some_iff.mp e
    obtain ⟨g, h2, rfl⟩ := Option.map_eq_some_iff.mp e
    exact dw_or (h a p h1) (cOrT_ok h h2)
end
section
variable {X : Cx} {W : WX0} {ca : CA} {k : Nat} {T : Tab} {c : SC} {rec : RecE} {recT : RecT} {pos p : Pos}
theorem Ok.hu66 (o : Ok X ca k T W c) : X.A.units + 66 < cLine := o.un
theorem Ok.hu (o : Ok X ca k T W c) : X.A.units + 65 < cLine := by have := o.un; omega
theorem cCmpE_ok (o : Ok X ca k T W c) (h : SoE (rec c) X W) {a : Expr} {ops : List CmpOp} {es : List Expr} {f : SF} (e : cCmpE rec c a ops es = some f) : DE X W (.Compare a ops es pos) f ∧ DT X W (.Compare a ops es pos) (vTest f) := by
  unfold cCmpE at e
  split at e
  · split at e
    · rename_i hm
      obtain ⟨g, h1, e⟩ := Option.bind_eq_some_iff.mp e
      obtain ⟨p, h2, e⟩ := Option.bind_eq_some_iff.mp e
      obtain ⟨q, h3, rfl⟩ := Option.map_eq_some_iff.mp e
      exact ⟨de_cmp (cCmp_op o.hu h1) (h.de h2) (h.de h3) hm, dt_cmp (cCmp_op o.hu h1) (cCmp_tot h1) (h.de h2) (h.de h3) hm⟩
    · cases e
  · split at e
    · rename_i hm
      obtain ⟨g, h1, e⟩ := Option.bind_eq_some_iff.mp e
      obtain ⟨g', h1', e⟩ := Option.bind_eq_some_iff.mp e
      obtain ⟨p, h2, e⟩ := Option.bind_eq_some_iff.mp e
      obtain ⟨q, h3, e⟩ := Option.bind_eq_some_iff.mp e
      obtain ⟨r, h4, rfl⟩ := Option.map_eq_some_iff.mp e
      exact ⟨de_chain (cCmp_op o.hu h1) (cCmp_op o.hu h1') (cCmp_tot h1) (h.de h2) (h.de h3) (h.de h4) hm, dt_chain (cCmp_op o.hu h1) (cCmp_op o.hu h1') (cCmp_tot h1) (cCmp_tot h1') (h.de h2) (h.de h3) (h.de h4) hm⟩
    · cases e
  · cases e
theorem cPart_ok (h : SoE (rec c) X W) {e : Option Expr} {f : Option SF} (q : cPart rec c e = some f) : DP X W e f := by
  cases e with
  | none => cases q; exact dp_none
  | some e =>
    obtain ⟨p, h1, rfl⟩ := Option.map_eq_some_iff.mp q
    exact dp_some (h.de h1)
theorem cSub_ok (h : SoE (rec c) X W) {a s : Expr} {b : Bool} {f : SF} (e : cSub rec c a s = some (b, f)) : AE X W b (.Subscript a s pos) f := by
  unfold cSub at e
  split at e
  · obtain ⟨p, h1, e⟩ := Option.bind_eq_some_iff.mp e
    obtain ⟨l, h2, e⟩ := Option.bind_eq_some_iff.mp e
    obtain ⟨u, h3, e⟩ := Option.map_eq_some_iff.mp e
    cases e
    exact ae_t (ge_cut (h.de h1) (cPart_ok h h2) (cPart_ok h h3))
  · obtain ⟨p, h1, e⟩ := Option.map_eq_some_iff.mp e
    cases e
    exact ae_t (ge_rev (h.de h1))
  · split at e
    · rename_i hp
      obtain ⟨p, h1, e⟩ := Option.bind_eq_some_iff.mp e
      obtain ⟨q, h2, e⟩ := Option.map_eq_some_iff.mp e
      cases e
      exact ae_f (de_idx (h.de h1) (h.de h2) (plainIx_ok hp))
    · cases e
theorem cRg_ok (o : Ok X ca k T W c) (calm : X.calm = true) (h : SoE (rec c) X W) {x : Str} {args : List Expr} {b : Bool} {f : SF} (hg : Gl X x) (e : cRg T rec c x args = some (b, f)) : AE X W b (.Call (.Name x p) args [] pos) f := by
  unfold cRg at e
  split at e
  · split at e
    · rename_i hh
      obtain ⟨rfl, h1, h2, h3, _⟩ := hh
      have m1 := o.mo.blts _ h1
      have m2 := o.mo.blts _ h2
      have g1 := o.gl h3
      split at e
      · split at e
        · rename_i ns
          split at e
          · rename_i hx
            subst hx
            obtain ⟨p1, h4, e⟩ := Option.map_eq_some_iff.mp e
            cases e
            exact ae_t (ge_lr1 calm hg m2 g1 m1 (h.de h4) (star_cons ns))
          · split at e
            · rename_i hx
              subst hx
              obtain ⟨p1, h4, e⟩ := Option.map_eq_some_iff.mp e
              cases e
              exact ae_f (de_tr1 calm hg m2 g1 m1 (h.de h4) (star_cons ns))
            · cases e
        · cases e
      · split at e
        · rename_i ns
          split at e
          · rename_i hx
            subst hx
            obtain ⟨p1, h4, e⟩ := Option.bind_eq_some_iff.mp e
            obtain ⟨p2, h5, e⟩ := Option.map_eq_some_iff.mp e
            cases e
            exact ae_t (ge_lr2 calm hg m2 g1 m1 (h.de h4) (h.de h5) (star_cons ns.1) (star_cons ns.2) (by rw [star_cons ns.2]; rfl))
          · split at e
            · rename_i hx
              subst hx
              obtain ⟨p1, h4, e⟩ := Option.bind_eq_some_iff.mp e
              obtain ⟨p2, h5, e⟩ := Option.map_eq_some_iff.mp e
              cases e
              exact ae_f (de_tr2 calm hg m2 g1 m1 (h.de h4) (h.de h5) (star_cons ns.1) (star_cons ns.2) (by rw [star_cons ns.2]; rfl))
            · cases e
        · cases e
      · cases e
    · cases e
  · cases e
theorem cCall_ok (o : Ok X ca k T W c) (hcalm : c.calm = true) (h : SoE (rec c) X W) {x : Str} {a : Expr} {es : List Expr} {b : Bool} {f : SF} (hx : dunder x = false ∧ c.sc.names.lookup x = some .globalImplicit) (hg : Gl X x) (e : (cL (rec c) (a :: es)).bind (cCall T c x) = some (b, f)) : AE X W b (.Call (.Name x p) (a :: es) [] pos) f := by
  obtain ⟨d1, d2⟩ := dunder_no hx.1
  obtain ⟨fs, h1, e⟩ := Option.bind_eq_some_iff.mp e
  obtain ⟨da, ns, hl⟩ := cL_ok h h1
  rw [List.all_cons, Bool.and_eq_true] at ns
  have s1 := star_cons (es := es) (env := X.env) ns.1
  have s2 := star_any (pos := pos) (env := X.env) ns.2
  unfold cCall at e
  split at e
  · rename_i n g hl2
    split at e
    · rename_i hn
      cases e
      obtain ⟨⟨gf, fd, ps, F, e1, e2, e3, e4⟩⟩ := o.mo.fns x n g hl2
      rw [← o.wt] at F
      exact ae_f (de_call o.tk F (o.room hcalm) hg e2 e3 e4 da (hn.trans e1.symm) d1 s1 s2)
    · cases e
  · split at e
    · rename_i hm
      cases e
      exact ae_f (de_callM cD_gcd hg (o.mo.gcds x hm) da d1 s1 s2)
    · split at e
      · rename_i hb
        split at e
        · rename_i hl3
          cases e
          subst hl3
          exact ae_t (ge_callTy cG_list hg (o.mo.blts _ hb) (by decide +kernel) da (by decide +kernel) d1 s1 s2)
        · split at e
          · rename_i hl4
            cases e
            subst hl4
            exact ae_t (ge_callB (cG_sorted o.hu66) hg (o.mo.blts _ hb) (by decide +kernel) da (by decide +kernel) d1 s1 s2)
          · obtain ⟨g, h3, e⟩ := Option.map_eq_some_iff.mp e
            cases e
            obtain ⟨hn, ⟨id, c1, c2⟩ | ⟨id, c1, c2⟩⟩ := cB_ok (o.calm hcalm) o.hu66 h3
            · exact ae_f (de_callB c1 hg (o.mo.blts _ hb) c2 da hn d1 s1 s2)
            · exact ae_f (de_callTy c1 hg (o.mo.blts _ hb) c2 da hn d1 s1 s2)
      · cases e
theorem cCallN_ok (o : Ok X ca k T W c) (h : SoE (rec c) X W) {x : Str} {args : List Expr} {b : Bool} {f : SF} (e : cCallN T rec c x args = some (b, f)) : AE X W b (.Call (.Name x p) args [] pos) f := by
  unfold cCallN at e
  split at e
  · rename_i hx
    obtain ⟨d1, d2⟩ := dunder_no hx.1
    have hg := o.gl hx.2
    split at e
    · rename_i hi
      subst hi
      split at e
      · rename_i a y
        obtain ⟨q, h1, e⟩ := Option.bind_eq_some_iff.mp e
        obtain ⟨p', h2, e⟩ := Option.map_eq_some_iff.mp e
        cases e
        unfold isiOf at h1
        split at h1
        · split at h1
          · rename_i y _ hh
            obtain ⟨t, h3, rfl⟩ := Option.map_eq_some_iff.mp h1
            obtain ⟨n1, n2, n3⟩ := cTy_ok h3
            exact ae_f (de_isi (h.de h2) hg (o.mo.blts _ hh.1) (o.gl hh.2.2.1) (o.mo.blts _ hh.2.1) n2 n1 n3 (star_cons hh.2.2.2))
          · cases h1
        · cases h1
      · cases e
    · split at e
      next hcalm =>
       have calm := o.calm hcalm
       split at e
       · rename_i r hr
         cases e
         exact cRg_ok o calm h hg hr
       split at e
       · cases e
       rename_i a es _
       exact cCall_ok o hcalm h hx hg e
      next => cases e
  · cases e
theorem loc_ok (o : Ok X ca k T W c) {x : Str} (h : locB c x = true) : Loc X.env.scope x ∧ (X.fn x = true ∨ X.env.scope.names.lookup x = some .local) := by
  unfold locB at h
  rw [o.sc]
  split at h
  · rename_i e
    exact ⟨.inl e, .inr e⟩
  · rename_i e
    rcases Bool.or_eq_true_iff.mp h with h | h
    · exact ⟨.inr e, .inl (o.fn h x)⟩
    · exact ⟨.inr e, .inl (o.fnb x (of_decide_eq_true h))⟩
  · cases h
theorem asgs_ok {env : Env} : ∀ {es : List Expr}, es.all noStar = true → (assignEach es env).length = es.length ∧ (assignEach es env).findIdx? (·.1) = none
  | [], _ => ⟨rfl, rfl⟩
  | a :: es, h => by
    rw [List.all_cons, Bool.and_eq_true] at h
    rw [asg_cons h.1]
    obtain ⟨h1, h2⟩ := asgs_ok (env := env) (es := es) h.2
    refine ⟨by simp [h1], ?_⟩
    rw [List.findIdx?_cons]
    simp [h2]
theorem cTg_ok (o : Ok X ca k T W c) : ∀ (n : Nat) {e : Expr} {t : Tgt}, cTg n c e = some t → DG X e t ∧ SG X e t
  | 0, _, _, h => by cases h
  | n + 1, e, t, h => by
    have many : ∀ {es : List Expr} {ts : Tgts}, cTgs (cTg n c) es = some ts → DGs X es ts ∧ SGs X es ts ∧ es.all noStar = true ∧ es.length = ts.len := by
      intro es
      induction es with
      | nil => intro ts h; cases h; exact ⟨dgs_nil, sgs_nil, rfl, rfl⟩
      | cons a es ih =>
        intro ts h
        rw [cTgs] at h
        split at h
        · rename_i ns
          obtain ⟨t, h1, h⟩ := Option.bind_eq_some_iff.mp h
          obtain ⟨ts, h2, rfl⟩ := Option.map_eq_some_iff.mp h
          obtain ⟨d1, d2⟩ := cTg_ok o n h1
          obtain ⟨e1, e2, e3, e4⟩ := ih h2
          have he : (assignEach (a :: es) X.env).map (·.2) = assign a X.env :: (assignEach es X.env).map (·.2) := by rw [asg_cons ns]; rfl
          exact ⟨dgs_cons d1 e1 he, sgs_cons d2 e2 he, by rw [List.all_cons, ns, e3]; rfl, by rw [List.length_cons, e4]; rfl⟩
        · cases h
    unfold cTg at h
    split at h
    · split at h
      · rename_i hl
        obtain ⟨i, h1, rfl⟩ := Option.map_eq_some_iff.mp h
        obtain ⟨l1, l2⟩ := loc_ok o hl
        exact ⟨dg_slot o.nd' (o.ix h1) l1 l2, sg_slot o.nd' (o.ix h1) l1 l2⟩
      · cases h
    · split at h
      · rename_i hcalm
        obtain ⟨ts, h1, rfl⟩ := Option.map_eq_some_iff.mp h
        obtain ⟨e1, e2, e3, e4⟩ := many h1
        obtain ⟨a1, a2⟩ := asgs_ok (env := X.env) e3
        exact ⟨dg_tup (o.calm hcalm) e1 (a1.trans e4) a2, sg_tup (o.calm hcalm) e2 (a1.trans e4) a2⟩
      · cases h
    · cases h
theorem cIc_ok (o : Ok X ca k T W c) (h : SoE (rec c) X W) {tg iter : Expr} {q : (List D → Res (List D)) × List SF} (e : cIc T rec c tg iter = some q) : DI X W tg iter (wCall q.1 q.2) ∧ (∀ m, PV X tg iter q.1 (tSL X.K W m q.2)) ∧ notSet iter = true := by
  unfold cIc at e
  split at e
  · rename_i x p args pos
    split at e
    · rename_i hh
      obtain ⟨ik, h1, e⟩ := Option.bind_eq_some_iff.mp e
      obtain ⟨fs, h2, rfl⟩ := Option.map_eq_some_iff.mp e
      obtain ⟨da, ns, hl⟩ := cL_ok h h2
      have hg := o.gl hh.2
      have hm := o.mo.blts _ hh.1
      refine ⟨?_, fun m => ?_, rfl⟩
      all_goals
        unfold cIk at h1
        split at h1
        · rename_i hx
          subst hx
          split at h1
          · rename_i hn
            cases h1
            match args, fs, hl, ns, da, hn with
            | [a], [fa], _, ns, da, _ =>
              simp only [List.all_cons, List.all_nil, Bool.and_true] at ns
              first
                | exact di_range1 hg hm da (star_cons ns)
                | exact pv_range1 hg hm (sl_of da) mono_tSL (star_cons ns) (len_tSL (m := m))
            | [a, b], [fa, fb], _, ns, da, _ =>
              simp only [List.all_cons, List.all_nil, Bool.and_true, Bool.and_eq_true] at ns
              have s2 := star_cons (es := []) (env := X.env) ns.2
              have s1 : starEach [a, b] X.env = [(false, eval a X.env), (false, eval b X.env)] := (star_cons ns.1).trans (by rw [s2]; rfl)
              first
                | exact di_range2 hg hm da s1 s2
                | exact pv_range2 hg hm (sl_of da) mono_tSL s1 s2 (len_tSL (m := m))
            | [a, b, d], [fa, fb, fd], _, ns, da, _ =>
              rw [List.all_cons, Bool.and_eq_true] at ns
              first
                | exact di_range3 hg hm da (star_cons ns.1) (star_any ns.2)
                | exact pv_range3 hg hm (sl_of da) mono_tSL (star_cons ns.1) (star_any ns.2) (len_tSL (m := m))
            | [], _, _, _, _, hn => simp at hn
            | _ :: _ :: _ :: _ :: _, _, _, _, _, hn => simp at hn
          · cases h1
        · split at h1
          · rename_i hx
            subst hx
            split at h1
            · rename_i hn
              cases h1
              cases tg <;> first | exact absurd hn.2 Bool.false_ne_true | skip
              match args, fs, hl, ns, da, hn.1 with
              | [a], [fa], _, ns, da, _ =>
                simp only [List.all_cons, List.all_nil, Bool.and_true] at ns
                first
                  | exact di_enum hg hm da (star_cons ns)
                  | exact pv_enum hg hm (sl_of da) mono_tSL (star_cons ns)
            · cases h1
          · split at h1
            · rename_i hx
              subst hx
              split at h1
              · rename_i hn
                cases h1
                cases tg <;> first | exact absurd hn.2 Bool.false_ne_true | skip
                match args, fs, hl, ns, da, hn.1 with
                | [a, b], [fa, fb], _, ns, da, _ =>
                  rw [List.all_cons, Bool.and_eq_true] at ns
                  first
                    | exact di_zip hg hm da (star_cons ns.1) (star_any ns.2)
                    | exact pv_zip hg hm (sl_of da) mono_tSL (star_cons ns.1) (star_any ns.2)
              · cases h1
            · cases h1
    · cases e
  · cases e
theorem cI_ok (o : Ok X ca k T W c) (h : SoE (rec c) X W) {tg iter : Expr} {fi : En → Res (List D)} (e : cI T rec c tg iter = some fi) : DI X W tg iter fi := by
  unfold cI at e
  split at e
  · rename_i q hq
    cases e
    exact (cIc_ok o h hq).1
  · obtain ⟨p, h1, rfl⟩ := Option.map_eq_some_iff.mp e
    exact di_seq (h.de h1)
theorem takes_w0 {X : Cx} : Takes X (wx ca.a W.z) := takes0.imp fun c d σ H h => by
  obtain ⟨_, _, _, z⟩ := h
  exact z
theorem Ok.blk (o : Ok X ca k T W c) (hcalm : c.calm = true) {scope : Scope} (s : Shared) (H : Hp) (C : Addr) (cl : List (Str × Addr)) (fp : List Addr) (hk : scope.kind = .function) : Ok (X.blk s H scope (compEnvC scope cl C X.env) fp) ca k T W.z (c.blk scope) :=
  ⟨o.mo, o.hN, o.nd, by show relS scope X.env.scope = _; rw [o.sc]; rfl, hk, fun _ => o.calm hcalm, fun _ => o.room hcalm, o.un, fun z => absurd z Bool.false_ne_true, fun x z => by show (scope.names.lookup x == some .cell) = true; rw [show scope.names.lookup x = some .cell from z]; rfl, takes_w0, o.wt, fun z => absurd z Bool.false_ne_true⟩
theorem cComp_ok (o : Ok X ca k T W c) (h : ∀ X W c, Ok X ca k T W c → SoE (rec c) X W) (hT : ∀ X W c, Ok X ca k T W c → SoT (recT c) X W) {elt : Expr} {gens : List Comprehension} {scope : Scope} {f : SF} (e : cComp T rec recT c elt gens scope = some f) :
    GE X W (.ListComp elt gens scope pos) f := by
  unfold cComp at e
  split at e
  · split at e
    · rename_i hh
      obtain ⟨hcalm, ha, hb, hs⟩ := hh
      subst ha
      obtain ⟨fi, h1, e⟩ := Option.bind_eq_some_iff.mp e
      obtain ⟨t, h2, e⟩ := Option.bind_eq_some_iff.mp e
      split at e
      · rename_i hsl
        obtain ⟨cond, h3, e⟩ := Option.bind_eq_some_iff.mp e
        obtain ⟨p, h4, rfl⟩ := Option.map_eq_some_iff.mp e
        have bo : BlkOk X.N X.env.scope scope (ownOf c.N scope.names) := by
          rw [o.hN, o.sc]
          exact blkOk_by hb
        refine ge_comp (o.calm hcalm) o.nd' (cI_ok o (h X W c o) h1) bo (fun i hi => ?_) (fun s H C cl fp => (cTg_ok (o.blk hcalm s H C cl fp bo.kind) 4 h2).1) (fun s H C cl fp => ?_) (fun s H C cl fp => (h _ _ _ (o.blk hcalm s H C cl fp bo.kind)).de h4) (folded_ok hs)
        · have := List.all_eq_true.mp hsl i hi
          simpa using this
        · unfold cIfs at h3
          split at h3
          · cases h3
            rfl
          · obtain ⟨g, h5, rfl⟩ := Option.map_eq_some_iff.mp h3
            exact ⟨_, rfl, hT _ _ _ (o.blk hcalm s H C cl fp bo.kind) _ _ h5⟩
          · cases h3
      · cases e
    · cases e
  · cases e
theorem cKey_ok (o : Ok X ca k T W c) (h : SoE (rec c) X W) {x kw : Str} {args : List Expr} {params : Arguments} {body : Expr} {scope : Scope} {lp kp cp : Pos} {b : Bool} {f : SF} (e : cKey T rec c x args kw params body scope = some (b, f)) :
    AE X W b (.Call (.Name x p) args [⟨some kw, .Lambda params body scope lp, kp⟩] cp) f := by
  unfold cKey at e
  split at e
  · rename_i hh
    obtain ⟨rfl, rfl, h1, h2, h3, h4⟩ := hh
    obtain ⟨q, h5, e⟩ := Option.bind_eq_some_iff.mp e
    split at e
    · rename_i hl
      obtain ⟨fk, h6, e⟩ := Option.bind_eq_some_iff.mp e
      have L : LamP X.env.scope scope q := lamP_by (by rw [o.sc]; exact hl)
      rw [← o.hN] at h6
      split at e
      · rename_i g hg
        cases e
        unfold cKeyR at hg
        split at hg
        · split at hg
          · rename_i hr
            obtain ⟨rfl, r1, r2, r3⟩ := hr
            obtain ⟨p1, h7, rfl⟩ := Option.map_eq_some_iff.mp hg
            exact ae_t (ge_sortKR1 (o.calm h3) o.hu66 (o.room h3).depth (o.la h4) L h5 h6 (o.gl h2) (o.mo.blts _ h1) (o.gl r2) (o.mo.blts _ r1) (h.de h7) (star_cons r3))
          · cases hg
        · cases hg
      · split at e
        · split at e
          · rename_i hs
            obtain ⟨p1, h7, e⟩ := Option.map_eq_some_iff.mp e
            cases e
            exact ae_t (ge_sortK o.hu66 (o.room h3).depth (o.la h4) L h5 h6 (o.gl h2) (o.mo.blts _ h1) (h.de h7) (star_cons hs))
          · cases e
        · cases e
    · cases e
  · cases e
theorem cDfl_ok (o : Ok X ca k T W c) (h : SoE (rec c) X W) {x kw : Str} {args : List Expr} {ke : Expr} {kp cp : Pos} {b : Bool} {f : SF} (e : cDfl T rec c x args kw ke = some (b, f)) :
    AE X W b (.Call (.Name x p) args [⟨some kw, ke, kp⟩] cp) f := by
  unfold cDfl at e
  split at e
  · rename_i hh
    obtain ⟨rfl, rfl, h1, h2, h3⟩ := hh
    split at e
    · split at e
      · rename_i hs
        obtain ⟨p1, h4, e⟩ := Option.bind_eq_some_iff.mp e
        obtain ⟨p2, h5, e⟩ := Option.map_eq_some_iff.mp e
        cases e
        exact ae_f (de_maxDf (o.calm h3) o.hu66 (o.gl h2) (o.mo.blts _ h1) (h.de h4) (h.de h5) (star_cons hs))
      · cases e
    · cases e
  · cases e
theorem stepE_ok (h : ∀ X W c, Ok X ca k T W c → SoE (rec c) X W) (hT : ∀ X W c, Ok X ca k T W c → SoT (recT c) X W) (o : Ok X ca k T W c) : SoE (stepE T rec recT c) X W := by
  intro e b f q
  have hh := h X W c o
  have ht := hT X W c o
  unfold stepE at q
  split at q
  · obtain ⟨g, h1, q⟩ := Option.map_eq_some_iff.mp q
    cases q
    exact ae_f (cName_ok o h1)
  · obtain ⟨g, h1, q⟩ := Option.map_eq_some_iff.mp q
    cases q
    exact ae_f (cConst_ok h1)
  · obtain ⟨⟨fr, g⟩, h1, q⟩ := Option.bind_eq_some_iff.mp q
    obtain ⟨p1, h2, q⟩ := Option.bind_eq_some_iff.mp q
    obtain ⟨p2, h3, q⟩ := Option.map_eq_some_iff.mp q
    cases q
    obtain ⟨o1, o2⟩ := cOp_ok (X := X) h1
    cases fr with
    | true => exact ae_t (ge_bin (o1 rfl) (hh.de h2) (hh.de h3))
    | false => exact ae_f (de_bin o2 (hh.de h2) (hh.de h3))
  · split at q
    · obtain ⟨p1, h1, q⟩ := Option.map_eq_some_iff.mp q
      cases q
      exact ae_f (de_neg (hh.de h1))
    · obtain ⟨p1, h1, q⟩ := Option.map_eq_some_iff.mp q
      cases q
      exact ae_f (de_not (hh.de h1))
    · cases q
  · split at q
    · obtain ⟨g, h1, q⟩ := Option.map_eq_some_iff.mp q
      cases q
      exact ae_f (cAnd_ok hh h1)
    · obtain ⟨g, h1, q⟩ := Option.map_eq_some_iff.mp q
      cases q
      exact ae_f (cOr_ok hh h1)
  · obtain ⟨ft, h1, q⟩ := Option.bind_eq_some_iff.mp q
    obtain ⟨p1, h2, q⟩ := Option.bind_eq_some_iff.mp q
    obtain ⟨p2, h3, q⟩ := Option.map_eq_some_iff.mp q
    cases q
    exact ae_f (de_if (ht _ _ h1) (hh.de h2) (hh.de h3))
  · obtain ⟨g, h1, q⟩ := Option.map_eq_some_iff.mp q
    cases q
    exact ae_f (cCmpE_ok o hh h1).1
  · obtain ⟨fs, h1, q⟩ := Option.bind_eq_some_iff.mp q
    split at q
    · rename_i hl
      cases q
      exact ae_f (de_tup (cL_ok hh h1).1 (Nat.le_trans hl (by decide)))
    · cases q
  · obtain ⟨fs, h1, q⟩ := Option.bind_eq_some_iff.mp q
    split at q
    · rename_i hl
      cases q
      exact ae_t (ge_lst (cL_ok hh h1).1 (Nat.le_trans hl (by decide)))
    · cases q
  · exact cSub_ok hh q
  · unfold cCallE at q
    split at q
    · exact cKey_ok o hh q
    · exact cDfl_ok o hh q
    · exact cCallN_ok o hh q
    · split at q
      · unfold cMeth at q
        split at q
        · rename_i hm
          obtain ⟨p1, h1, q1⟩ := Option.bind_eq_some_iff.mp q
          obtain ⟨p2, h2, q2⟩ := Option.bind_eq_some_iff.mp q1
          clear q q1
          split at q2
          · rename_i ha
            subst ha
            cases q2
            exact ae_f (de_index (hh.de h1) (hh.de h2) (star_cons hm.1) rfl (by rw [star_cons hm.1]; rfl) hm.2)
          · split at q2
            · rename_i ha
              subst ha
              cases q2
              exact ae_f (de_count (hh.de h1) (hh.de h2) (star_cons hm.1) rfl (by rw [star_cons hm.1]; rfl) hm.2)
            · cases q2
        · cases q
      · cases q
    · cases q
  · obtain ⟨g, h1, q⟩ := Option.map_eq_some_iff.mp q
    cases q
    exact ae_t (cComp_ok o h hT h1)
  · cases q
theorem stepT_ok (h : ∀ X W c, Ok X ca k T W c → SoE (rec c) X W) (hT : ∀ X W c, Ok X ca k T W c → SoT (recT c) X W) (o : Ok X ca k T W c) : SoT (stepT rec recT c) X W := by
  intro e f q
  have hh := h X W c o
  have ht := hT X W c o
  unfold stepT at q
  split at q
  · split at q
    · exact dw_dt (cAndT_ok ht q)
    · exact dw_dt (cOrT_ok ht q)
  · exact (cCmpE_ok o hh q).2
  · split at q
    · obtain ⟨g, h1, rfl⟩ := Option.map_eq_some_iff.mp q
      exact dt_not (ht _ _ h1)
    · obtain ⟨g, h1, rfl⟩ := Option.map_eq_some_iff.mp q
      exact dt_truth (hh.de h1) (isTrue_ok rfl)
    · cases q
  · split at q
    · rename_i hp
      obtain ⟨g, h1, rfl⟩ := Option.map_eq_some_iff.mp q
      exact dt_truth (hh.de h1) (isTrue_ok hp)
    · cases q
theorem cET_ok : ∀ n : Nat, (∀ X W c, Ok X ca k T W c → SoE ((cET T n).1 c) X W) ∧ (∀ X W c, Ok X ca k T W c → SoT ((cET T n).2 c) X W)
  | 0 => ⟨fun X W c o e b f h => (nomatch (show (none : Option (Bool × SF)) = some (b, f) from h)), fun X W c o e f h => nomatch (show (none : Option SF) = some f from h)⟩
  | n + 1 => ⟨fun X W c o => stepE_ok (cET_ok n).1 (cET_ok n).2 o, fun X W c o => stepT_ok (cET_ok n).1 (cET_ok n).2 o⟩
theorem cE_ok {n : Nat} (o : Ok X ca k T W c) : SoE (cE T n c) X W := (cET_ok n).1 X W c o
theorem cT_ok {n : Nat} (o : Ok X ca k T W c) : SoT (cT T n c) X W := (cET_ok n).2 X W c o
end
end SH


set_option Elab.async false
set_option linter.all false
set_option maxRecDepth 100000
set_option maxHeartbeats 4000000
/-! The layer, part lb: except suites, read once for each class of error. -/
namespace SH
open PySem PySem.Spec PyProof.Rows L2

/-- what stands in a suite: known words -/
inductive Cv where
  | s (x : Str)
  | b (k : Bool)
  | i (n : Int)
def Cv.v : Cv → V
  | .s x => .str x
  | .b k => .bl k
  | .i n => .int n
def Cv.d : Cv → D
  | .s x => .str x
  | .b k => .bool k
  | .i n => .int n
theorem Cv.rp (c : Cv) {K : PySem.W.Frag} {F : Hp} : Rp K F c.v c.d := by
  cases c with
  | s x => exact .str x
  | b k => exact .bl k
  | i n => exact .int n
structure HC where
  T : Tab
  c : SC
  wr : Str
  sub : Str → Option Bool
def hAdd : Cv → Cv → Option Cv
  | .s x, .s y => if x.length + y.length ≤ 1000 then some (.s (x ++ y)) else none
  | _, _ => none
def hMul : Cv → Cv → Option Cv
  | .s x, .i k => if k = 1 ∧ x.length ≤ 1000 then some (.s x) else if k = 0 then some (.s Str.empty) else none
  | _, _ => none
def hNot : Cv → Option Cv
  | .b k => some (.b (!k))
  | _ => none
def hInt : Cv → Option Cv
  | .b k => some (.i (if k then 1 else 0))
  | _ => none
def hGl (h : HC) (x : Str) : Bool := decide (x ∈ h.T.blts) && (match h.c.sc.names.lookup x with | some .globalImplicit => true | _ => false)
def hE (h : HC) (ws : List (Nat × Cv)) : Nat → Expr → Option Cv
  | 0, _ => none
  | n + 1, e => match e with
    | .Constant k _ _ => (match k with
      | .str x => some (.s x)
      | .bool b => some (.b b)
      | _ => none)
    | .Name x _ => if dunder x = false ∧ visB (h.c.sc.names.lookup x) = true then (ixOf x h.c.N).bind fun j => ws.lookup j else none
    | .BinOp a op b _ => (match op with
      | .Add => (hE h ws n a).bind fun x => (hE h ws n b).bind fun y => hAdd x y
      | .Mult => (hE h ws n a).bind fun x => (hE h ws n b).bind fun y => hMul x y
      | _ => none)
    | .UnaryOp op a _ => (match op with
      | .Not => (hE h ws n a).bind hNot
      | _ => none)
    | .Call f args kws _ => (match f, args, kws with
      | .Name g _, [a], [] => if g = "int" ∧ hGl h g = true ∧ noStar a = true then (hE h ws n a).bind hInt else none
      | .Name g _, [.Name w _, .Name C _], [] => if g = "isinstance" ∧ hGl h g = true ∧ w = h.wr ∧ dunder w = false ∧ visB (h.c.sc.names.lookup w) = true ∧ dunder C = false ∧ h.c.sc.names.lookup C = some .globalImplicit then (h.sub C).map .b else none
      | _, _, _ => none)
    | _ => none
/-! what is known of the slots -/
abbrev W00 (T : TB) : WX0 := ⟨fun _ _ _ => False, T⟩
def Kn (iw : Nat) (a : Addr) (ws : List (Nat × Cv)) (σ : L2.St) : Prop := σ[iw]? = some (some (V.ref a)) ∧ ∀ j v, ws.lookup j = some v → σ[j]? = some (some v.v)
def tK (iw : Nat) (a : Addr) (ws : List (Nat × Cv)) (v : Cv) : TE := fun σ H Q => Kn iw a ws σ ∧ ∀ H', Same H H' → Q v.v H'
structure HOk (X : Cx) (a : Addr) (oe : Obj) (pn : List (Addr × Obj)) (D0 : Addr) (ca : CA) (k : Nat) (h : HC) (iw : Nat) : Prop where
  o : Ok (X.suite a ((a, oe) :: pn)) ca k h.T (W00 ca.T) h.c
  iw : ixOf h.wr h.c.N = some iw
  exc : ExcC X.K D0
  z : Zc (.ref D0) none oe
  hf : ∃ vs, oe.data = .fields vs
  sub : ∀ C b, h.sub C = some b → ∃ A : Addr, X.mg C = some (.ref A) ∧ PySem.W.kitOne X.K (.ref D0) (.ref A) = some b
section
variable {X : Cx} {a : Addr} {oe : Obj} {pn : List (Addr × Obj)} {D0 : Addr} {ca : CA} {k : Nat} {h : HC} {iw : Nat} {ws : List (Nat × Cv)}
theorem hGl_ok (o : HOk X a oe pn D0 ca k h iw) {x : Str} (e : hGl h x = true) : Gl (X.suite a ((a, oe) :: pn)) x ∧ X.mg x = none := by
  unfold hGl at e
  rw [Bool.and_eq_true, decide_eq_true_eq] at e
  refine ⟨o.o.gl ?_, o.o.mo.blts x e.1⟩
  have e2 := e.2
  split at e2
  · assumption
  · cases e2
theorem op_strMul {X : Cx} : OpR X (binaryOp .Mult) (fun x y H Q => ∃ z k, x = V.str z ∧ y = V.int k ∧ ((k = 0 ∧ Q (.str Str.empty) H) ∨ (k = 1 ∧ Q (.str z) H))) := by
  intro pins s σ H x y v u Q I rx ry h
  obtain ⟨z, k, rfl, rfl, h⟩ := h
  obtain ⟨t, rfl⟩ := rx
  obtain ⟨t2, rfl⟩ := ry
  rcases h with ⟨rfl, q⟩ | ⟨rfl, q⟩
  · exact PySem.P.mul_str_none (by decide) (by decide) ⟨.str Str.empty, H, I.tok _, ⟨_, rfl⟩, q⟩
  · refine PySem.P.mul_str (by decide) (fun _ e => absurd e (by simp)) (fun _ e => absurd e (by simp)) ?_
    rw [if_neg (by decide), if_pos (by simp)]
    exact ⟨.str z, H, I, ⟨t, rfl⟩, q⟩
theorem hE_ok (o : HOk X a oe pn D0 ca k h iw) : ∀ (n : Nat) {e : Expr} {v : Cv}, hE h ws n e = some v → PE (X.suite a ((a, oe) :: pn)) e (tK iw a ws v)
  | 0, _, _, q => by cases q
  | n + 1, e, v, q => by
    have two : ∀ {x y : Expr} {vx vy : Cv}, hE h ws n x = some vx → hE h ws n y = some vy → PE (X.suite a ((a, oe) :: pn)) x (tK iw a ws vx) ∧ PE (X.suite a ((a, oe) :: pn)) y (tK iw a ws vy) := fun h1 h2 => ⟨hE_ok o n h1, hE_ok o n h2⟩
    unfold hE at q
    split at q
    · split at q
      · cases q
        exact PE.imp pe_str fun σ H Q ⟨_, q⟩ => q H (Same.refl _)
      · cases q
        exact PE.imp pe_bl fun σ H Q ⟨_, q⟩ => q H (Same.refl _)
      · cases q
    · split at q
      · rename_i hh
        obtain ⟨d1, d2⟩ := dunder_no hh.1
        obtain ⟨j, h1, h2⟩ := Option.bind_eq_some_iff.mp q
        exact PE.imp (pe_var (o.o.ix h1) (by rw [o.o.sc]; exact vis_ok hh.2) d1 d2) fun σ H Q ⟨kn, q⟩ => ⟨_, kn.2 j v h2, q H (Same.refl _)⟩
      · cases q
    · split at q
      · obtain ⟨vx, h1, q⟩ := Option.bind_eq_some_iff.mp q
        obtain ⟨vy, h2, q⟩ := Option.bind_eq_some_iff.mp q
        obtain ⟨p1, p2⟩ := two h1 h2
        unfold hAdd at q
        split at q
        · split at q
          · rename_i hl
            cases q
            exact PE.imp (pe_op op_add_str p1 p2) fun σ H Q ⟨kn, q⟩ => ⟨kn, fun H1 e1 => ⟨kn, fun H2 e2 => ⟨_, _, rfl, rfl, lim_line (Nat.le_trans hl (by decide)), q H2 (e1.trans e2)⟩⟩⟩
          · cases q
        · cases q
      · obtain ⟨vx, h1, q⟩ := Option.bind_eq_some_iff.mp q
        obtain ⟨vy, h2, q⟩ := Option.bind_eq_some_iff.mp q
        obtain ⟨p1, p2⟩ := two h1 h2
        unfold hMul at q
        split at q
        · split at q
          · rename_i hl
            cases q
            exact PE.imp (pe_op op_strMul p1 p2) fun σ H Q ⟨kn, q⟩ => ⟨kn, fun H1 e1 => ⟨kn, fun H2 e2 => ⟨_, _, rfl, rfl, .inr ⟨hl.1, q H2 (e1.trans e2)⟩⟩⟩⟩
          · split at q
            · rename_i hl
              cases q
              exact PE.imp (pe_op op_strMul p1 p2) fun σ H Q ⟨kn, q⟩ => ⟨kn, fun H1 e1 => ⟨kn, fun H2 e2 => ⟨_, _, rfl, rfl, .inl ⟨hl, q H2 (e1.trans e2)⟩⟩⟩⟩
            · cases q
        · cases q
      · cases q
    · split at q
      · obtain ⟨vx, h1, q⟩ := Option.bind_eq_some_iff.mp q
        have p1 := hE_ok o n h1
        unfold hNot at q
        split at q
        · cases q
          exact PE.imp (pe_notT p1) fun σ H Q ⟨kn, q⟩ => ⟨kn, fun H1 e1 => ⟨_, rfl, q H1 e1⟩⟩
        · cases q
      · cases q
    · split at q
      · split at q
        · rename_i hh
          obtain ⟨rfl, h1, h2⟩ := hh
          obtain ⟨g1, g2⟩ := hGl_ok o h1
          obtain ⟨vx, h3, q⟩ := Option.bind_eq_some_iff.mp q
          have p1 := hE_ok o n h3
          unfold hInt at q
          split at q
          · cases q
            refine PE.imp (pe_callTy cD_int g1 g2 (by decide +kernel) (pa_cons p1 pa_nil (star_cons h2)) (by decide +kernel) (by decide +kernel) (star_cons h2) rfl) fun σ H Q ⟨kn, q⟩ => ⟨kn, fun H1 e1 => ?_⟩
            refine ⟨fun _ _ => True, fun _ => none, [.bool _], same_all (fun _ _ z => (nomatch (show (none : Option HO) = some _ from z))), .cons (.bl _) .nil, fun v' F' H' e g r => ?_⟩
            have r := r.int'
            subst r
            exact q H' (e1.trans e)
          · cases q
        · cases q
      · split at q
        · rename_i hh
          obtain ⟨rfl, h1, rfl, h3, h4, h5, h6⟩ := hh
          obtain ⟨g1, g2⟩ := hGl_ok o h1
          obtain ⟨b, h7, rfl⟩ := Option.map_eq_some_iff.mp q
          obtain ⟨A, m1, m2⟩ := o.sub _ b h7
          obtain ⟨d1, d2⟩ := dunder_no h3
          refine PE.imp (pe_callB (call_isE o.exc o.z o.hf) g1 g2 (by decide +kernel) (pa_cons (pe_var (X := X.suite a ((a, oe) :: pn)) (o.o.ix o.iw) (by rw [o.o.sc]; exact vis_ok h4) d1 d2) (pa_cons (pe_glob (o.o.gl h6) m1 (v := .ref A) rfl (dunder_no h5).1) pa_nil))) fun σ H Q ⟨kn, q⟩ => ⟨_, kn.1, ?_⟩
          exact ⟨_, _, b, rfl, fun u hu => hu, m2, q H (Same.refl _)⟩
        · cases q
      · cases q
    · cases q
/-! statements -/
theorem Kn.set {nN j : Nat} {v : Cv} {σ : L2.St} (kn : Kn iw a ws σ) (hj : iw ≠ j) (hl : j < σ.length) : Kn iw a ((j, v) :: ws) (σ.set j (some v.v)) := by
  refine ⟨by rw [List.getElem?_set_ne (Ne.symm hj)]; exact kn.1, fun j' v' e => ?_⟩
  rw [List.lookup_cons] at e
  split at e
  · rename_i q
    cases e
    have q := eq_of_beq q
    subst q
    exact List.getElem?_set_self hl
  · rename_i q
    have q : j' ≠ j := fun z => by
      rw [z] at q
      simp at q
    rw [List.getElem?_set_ne (Ne.symm q)]
    exact kn.2 j' v' e
end
inductive Hr where
  | rt (d : Cv)
  | nx (ws : List (Nat × Cv))
def hT (h : HC) (ws : List (Nat × Cv)) (t : Expr) : Option Bool :=
  if plainT t = true then (match hE h ws 8 t with
    | some (.b k) => some k
    | _ => none)
  else match t with
    | .UnaryOp .Not x _ => if plainT x = true then (match hE h ws 8 x with
      | some (.b k) => some (!k)
      | _ => none) else none
    | _ => none
def hSs (rec : List (Nat × Cv) → Stmt → Option Hr) : List (Nat × Cv) → List Stmt → Option Hr
  | ws, [] => some (.nx ws)
  | ws, st :: rest => match rec ws st with
    | some (.nx ws') => hSs rec ws' rest
    | r => r
def hSt (h : HC) : Nat → List (Nat × Cv) → Stmt → Option Hr
  | 0, _, _ => none
  | n + 1, ws, st => match st with
    | .Return e _ => (match e with
      | some e => (hE h ws 8 e).map .rt
      | none => none)
    | .If t p q _ => (match q with
      | [] => (match hT h ws t with
        | some true => hSs (hSt h n) ws p
        | some false => some (.nx ws)
        | none => none)
      | _ => none)
    | .Assign ts e _ => (match ts with
      | [.Name x _] => if h.c.sc.names.lookup x = some .local ∧ x ≠ h.wr ∧ notComp e = true then (ixOf x h.c.N).bind fun j => (hE h ws 8 e).map fun v => .nx ((j, v) :: ws) else none
      | _ => none)
    | .Pass _ => some (.nx ws)
    | _ => none
def tH (iw : Nat) (a : Addr) (nN : Nat) (ws : List (Nat × Cv)) (r : Hr) : TS := fun D σ H => Kn iw a ws σ ∧ σ.length = nN ∧ match r with
  | .rt d => ∀ H', Same H H' → D.rt d.v H'
  | .nx ws' => ∀ σ' H', Kn iw a ws' σ' → Chg (ws'.map (·.1)) σ σ' → Same H H' → D.nx σ' H'
/-- what is known grows -/
def Grown (ws : List (Nat × Cv)) : Hr → Prop
  | .rt _ => True
  | .nx ws' => ∀ j ∈ ws.map (·.1), j ∈ ws'.map (·.1)
section
variable {X : Cx} {a : Addr} {oe : Obj} {pn : List (Addr × Obj)} {D0 : Addr} {ca : CA} {k : Nat} {h : HC} {iw : Nat} {ws : List (Nat × Cv)}
theorem Chg.mono {vs ws : List Nat} {σ σ' : L2.St} (c : Chg vs σ σ') (h : ∀ j ∈ vs, j ∈ ws) : Chg ws σ σ' := ⟨c.1, fun j hj => c.2 j fun z => hj (h j z)⟩
theorem hT_ok (o : HOk X a oe pn D0 ca k h iw) {t : Expr} {b : Bool} (q : hT h ws t = some b) : PT (X.suite a ((a, oe) :: pn)) t (fun σ H Q => Kn iw a ws σ ∧ ∀ H', Same H H' → Q b H') := by
  unfold hT at q
  split at q
  · rename_i hp
    split at q
    · rename_i k' hk
      cases q
      exact PT.imp (pt_truth (hE_ok o 8 hk) (isTrue_ok hp)) fun σ H Q ⟨kn, q⟩ => ⟨kn, fun H1 e1 => ⟨_, rfl, q H1 e1⟩⟩
    · cases q
  · split at q
    · split at q
      · rename_i hp
        split at q
        · rename_i k' hk
          cases q
          exact PT.imp (pt_not (pt_truth (hE_ok o 8 hk) (isTrue_ok hp))) fun σ H Q ⟨kn, q⟩ => ⟨kn, fun H1 e1 => ⟨_, rfl, q H1 e1⟩⟩
        · cases q
      · cases q
    · cases q
theorem hSt_ok (o : HOk X a oe pn D0 ca k h iw) : ∀ (n : Nat) {ws : List (Nat × Cv)} {st : Stmt} {r : Hr}, hSt h n ws st = some r → PS (X.suite a ((a, oe) :: pn)) st (tH iw a h.c.N.length ws r) ∧ Grown ws r
  | 0, _, _, _, q => by cases q
  | n + 1, ws, st, r, q => by
    have many : ∀ {p : List Stmt} {ws : List (Nat × Cv)} {r : Hr}, hSs (hSt h n) ws p = some r → PSs (X.suite a ((a, oe) :: pn)) p (tH iw a h.c.N.length ws r) ∧ Grown ws r := by
      intro p
      induction p with
      | nil =>
        intro ws r q
        cases q
        exact ⟨PSs.imp pss_nil fun D σ H ⟨kn, hl, q⟩ => q σ H kn ⟨rfl, fun _ _ => rfl⟩ (Same.refl _), fun j hj => hj⟩
      | cons st p ih =>
        intro ws r q
        rw [hSs] at q
        cases e : hSt h n ws st with
        | none => rw [e] at q; cases q
        | some r1 =>
          rw [e] at q
          obtain ⟨p1, g1⟩ := hSt_ok o n e
          cases r1 with
          | rt d =>
            cases q
            exact ⟨PSs.imp (pss_cons p1 (pss_never (sts := p))) fun D σ H ⟨kn, hl, q⟩ => ⟨kn, hl, q⟩, trivial⟩
          | nx ws1 =>
            obtain ⟨p2, g2⟩ := ih q
            refine ⟨PSs.imp (pss_cons p1 p2) fun D σ H ⟨kn, hl, q⟩ => ⟨kn, hl, fun σ1 H1 kn1 c1 e1 => ⟨kn1, c1.1.trans hl, ?_⟩⟩, ?_⟩
            · cases r with
              | rt d => exact fun H2 e2 => q H2 (e1.trans e2)
              | nx ws2 => exact fun σ2 H2 kn2 c2 e2 => q σ2 H2 kn2 ((c1.mono g2).trans c2 |>.mono fun j hj => by rcases List.mem_append.mp hj with z | z <;> exact z) (e1.trans e2)
            · cases r with
              | rt d => trivial
              | nx ws2 => exact fun j hj => g2 j (g1 j hj)
    unfold hSt at q
    split at q
    · split at q
      · obtain ⟨v, h1, rfl⟩ := Option.map_eq_some_iff.mp q
        exact ⟨PS.imp (ps_ret (hE_ok o 8 h1)) fun D σ H ⟨kn, hl, q⟩ => ⟨kn, fun H1 e1 => q H1 e1⟩, trivial⟩
      · cases q
    · split at q
      · split at q
        · rename_i ht
          obtain ⟨p1, g1⟩ := many q
          refine ⟨PS.imp (ps_if (hT_ok o ht) p1 pss_nil) fun D σ H ⟨kn, hl, q⟩ => ⟨kn, fun H1 e1 => ⟨kn, hl, ?_⟩⟩, g1⟩
          cases r with
          | rt d => exact fun H2 e2 => q H2 (e1.trans e2)
          | nx ws2 => exact fun σ2 H2 kn2 c2 e2 => q σ2 H2 kn2 c2 (e1.trans e2)
        · rename_i ht
          cases q
          exact ⟨PS.imp (ps_if (hT_ok o ht) pss_never pss_nil) fun D σ H ⟨kn, hl, q⟩ => ⟨kn, fun H1 e1 => q σ H1 kn ⟨rfl, fun _ _ => rfl⟩ e1⟩, fun j hj => hj⟩
        · cases q
      · cases q
    · split at q
      · split at q
        · rename_i hh
          obtain ⟨h1, h2, h3⟩ := hh
          obtain ⟨j, h4, q⟩ := Option.bind_eq_some_iff.mp q
          obtain ⟨v, h5, rfl⟩ := Option.map_eq_some_iff.mp q
          have hj := (List.getElem?_eq_some_iff.mp (ixOf_get h4)).1
          have hne : iw ≠ j := fun z => by
            have e1 := ixOf_get o.iw
            rw [z, ixOf_get h4] at e1
            cases e1
            exact h2 rfl
          have hx : Loc (X.suite a ((a, oe) :: pn)).env.scope _ := .inl (by rw [o.o.sc]; exact h1)
          refine ⟨PS.imp (ps_set o.o.nd' (o.o.ix h4) hx (hE_ok o 8 h5) (swap_no h3) (.inr (by rw [o.o.sc]; exact h1))) fun D σ H ⟨kn, hl, q⟩ => ⟨kn, fun H1 e1 => ?_⟩, fun i hi => List.mem_cons_of_mem _ hi⟩
          exact q _ H1 (kn.set (nN := 0) hne (by rw [hl]; exact hj)) ((Chg.set σ j _).mono fun i hi => by
            rw [List.mem_singleton] at hi
            rw [hi]
            exact List.mem_cons_self ..) e1
        · cases q
      · cases q
    · cases q
      exact ⟨PS.imp ps_pass fun D σ H ⟨kn, hl, q⟩ => q σ H kn ⟨rfl, fun _ _ => rfl⟩ (Same.refl _), fun j hj => hj⟩
    · cases q
end
end SH


set_option Elab.async false
set_option linter.all false
set_option maxRecDepth 100000
set_option maxHeartbeats 4000000
/-! The layer, part lc: try .. except C as x. -/
namespace SH
open PySem PySem.Spec PyProof.Rows L2

def wipeS (env : SEn) : List Nat → SEn
  | [] => env
  | v :: vs => (wipeS env vs).set v none
theorem wipeS_length (env : SEn) : ∀ vs : List Nat, (wipeS env vs).length = env.length
  | [] => rfl
  | v :: vs => by unfold wipeS; rw [List.length_set, wipeS_length env vs]
theorem wipeS_some {env : SEn} {i : Nat} {p : Bool × D} : ∀ {vs : List Nat}, (wipeS env vs)[i]? = some (some p) → env[i]? = some (some p) ∧ i ∉ vs
  | [], h => ⟨h, by simp⟩
  | v :: vs, h => by
    unfold wipeS at h
    by_cases hi : v = i
    · subst hi
      by_cases hv : v < (wipeS env vs).length
      · rw [List.getElem?_set_self hv] at h; cases h
      · rw [List.getElem?_eq_none (by simpa using hv)] at h; cases h
    · rw [List.getElem?_set_ne hi] at h
      obtain ⟨h1, h2⟩ := wipeS_some h
      exact ⟨h1, by simp only [List.mem_cons, not_or]; exact ⟨fun e => hi e.symm, h2⟩⟩
theorem SR.wipeS {K : PySem.W.Frag} {T : TB} {F0 H0 F H : Hp} {σ σ' : L2.St} {env : SEn} (s : SR K T F0 H0 F H σ env) {vs : List Nat} (hl : σ'.length = σ.length) (c : ∀ j, j ∉ vs → σ'[j]? = σ[j]?) : SR K T F0 H0 F H σ' (SH.wipeS env vs) := by
  refine ⟨s.base, s.tb, s.grow, by rw [wipeS_length, hl]; exact s.len, fun i d e => ?_, fun i d e => ?_, fun i j d e a h1 h2 h3 h4 => ?_⟩
  · obtain ⟨h1, h2⟩ := wipeS_some e
    rw [c i h2]
    exact s.fro i d h1
  · obtain ⟨h1, h2⟩ := wipeS_some e
    rw [c i h2]
    exact s.own i d h1
  · obtain ⟨g1, g2⟩ := wipeS_some h1
    obtain ⟨g3, g4⟩ := wipeS_some h2
    rw [c i g2] at h3
    rw [c j g4] at h4
    exact s.apart i j d e a g1 g3 h3 h4
/-- what a class of error comes to: none: not known; some none: it goes on; some (some r): the suite's end -/
abbrev Hand := Nat → Option (Option Hr)
def xTry (g : SEn → Out) (i : Nat) (HH : Hand) : SEn → Out := fun env => match g env with
  | .exc c env' => (match HH c with
    | some (some (.rt d)) => .rt d.d
    | some (some (.nx ws)) => .nx (wipeS env' (i :: ws.map (·.1)))
    | some none => .exc c env'
    | none => .stuck)
  | o => o
/-- hands by a list -/
def handL (hs : List (Nat × Option (Option Hr))) : Hand := fun c => match hs.lookup c with
  | some r => r
  | none => none
def xTryL (g : SEn → Out) (i : Nat) (hs : List (Nat × Option (Option Hr))) : SEn → Out := xTry g i (handL hs)
section
variable {X : Cx} {W : WX0} {ca : CA}
theorem ds_try {n x : Str} {i : Nat} {C : Addr} {b0 : Stmt} {body suite : List Stmt} {np pos pos' : Pos} {g : SEn → Out} {HH : Hand} (hs : X.stack = X.env :: X.outer) (hf : X.env.frame = some X.env.locals) (hN : X.N.Nodup) (hi : X.N[i]? = some n) (hln : X.env.scope.names.lookup n = some .local)
    (hc : Names X x (.ref C)) (tk : Takes X (wx ca.a W)) (hb : ∀ (W' : WX0), W'.T = W.T → ∀ (pn : List (Addr × Obj)) (xe : Value → Shared → Prop), Takes (X.tr pn xe) (wx ca.a W') → PassesOwn (model X.prog X.w) X.A X.env xe → DSs (X.tr pn xe) W' body g)
    (hH : ∀ c r, HH c = some (some r) → PySem.W.exmOne X.K (.ref (ca c)) (.ref C) = some true ∧ ∀ (a : Addr) (oe : Obj) (pn : List (Addr × Obj)), Zc (.ref (ca c)) none oe → (∃ vs, oe.data = .fields vs) → PSs (X.suite a ((a, oe) :: pn)) (b0 :: suite) (tH i a X.N.length [] r))
    (hH0 : ∀ c, HH c = some none → PySem.W.exmOne X.K (.ref (ca c)) (.ref C) = some false) :
    DS X W (.Try body [.ExceptHandler (some (.Name x np)) (some n) (b0 :: suite) pos'] [] [] pos) (xTry g i HH) := by
  refine ds_ok (ps_try_as (tb := fun W1 => tSt X.K ⟨fun c σ H => W1 (.ref (ca c)) none σ H, W.T⟩ g) (ts := fun a cls d D σ H => ∃ c r, cls = .ref (ca c) ∧ d = none ∧ HH c = some (some r) ∧ (σ.length = X.N.length → tH i a X.N.length [] r D σ H)) hs hf hN hi hln hc tk (fun W1 pn xe tk1 hp => ?_) (fun a oe cls d pn hz hv => ⟨fun pins s σ H D I q => ?_⟩)) fun F0 H0 F env D σ H s q => ⟨F0, H0, F, env, s, ?_⟩
  · exact hb ⟨fun c σ H => W1 (.ref (ca c)) none σ H, W.T⟩ rfl pn xe (tk1.imp fun cls d σ H h => by
      obtain ⟨c, rfl, rfl, h⟩ := h
      exact h) hp
  · obtain ⟨c, r, rfl, rfl, e, q⟩ := q
    exact ((hH c r e).2 a oe pn hz hv).run pins s σ H D I (q I.len)
  · unfold xTry at q
    cases e : g env with
    | nx e1 => rw [e] at q; exact q
    | rt d => rw [e] at q; exact q
    | bk e1 => rw [e] at q; exact q
    | ct e1 => rw [e] at q; exact q
    | stuck => rw [e] at q; exact q
    | exc c env1 =>
      rw [e] at q
      simp only at q
      intro σ1 F1 H1 s1
      split at q
      · rename_i d hh
        refine ⟨true, (hH c _ hh).1, fun _ a ha => ⟨c, _, rfl, rfl, hh, fun hl => ⟨⟨?_, fun j v z => (nomatch (show (none : Option Cv) = some v from z))⟩, hl, fun H2 e2 => ?_⟩⟩, fun z => (nomatch z)⟩
        · rw [List.length_set] at hl
          exact List.getElem?_set_self (by rw [hl]; exact (List.getElem?_eq_some_iff.mp hi).1)
        · have s2 := s1.later e2
          exact q _ F1 H2 s2.base s2.grow d.rp
      · rename_i ws hh
        refine ⟨true, (hH c _ hh).1, fun _ a ha => ⟨c, _, rfl, rfl, hh, fun hl => ⟨⟨?_, fun j v z => (nomatch (show (none : Option Cv) = some v from z))⟩, hl, fun σ2 H2 kn ch e2 => ?_⟩⟩, fun z => (nomatch z)⟩
        · rw [List.length_set] at hl
          exact List.getElem?_set_self (by rw [hl]; exact (List.getElem?_eq_some_iff.mp hi).1)
        · refine q _ F1 H2 ((s1.later e2).wipeS ?_ fun j hj => ?_)
          · rw [List.length_set, ch.1, List.length_set]
          · simp only [List.mem_cons, not_or] at hj
            rw [List.getElem?_set_ne (Ne.symm hj.1), ch.2 j hj.2, List.getElem?_set_ne (Ne.symm hj.1)]
      · rename_i hh
        exact ⟨false, hH0 c hh, fun z => (nomatch z), fun _ => ⟨c, rfl, rfl, q σ1 F1 H1 s1⟩⟩
      · exact q.elim
end
end SH


set_option Elab.async false
set_option linter.all false
set_option maxRecDepth 100000
set_option maxHeartbeats 4000000
/-! The layer, part m: a reader of statements, and that it is right; defs. -/
namespace SH
open PySem PySem.Spec PyProof.Rows L2

/-! ### the names that an expression names -/
def ment : Nat → Expr → List Str
  | 0, _ => []
  | n + 1, e => match e with
    | .Name x _ => [x]
    | .BoolOp _ es _ => es.flatMap (ment n)
    | .BinOp a _ b _ => ment n a ++ ment n b
    | .UnaryOp _ a _ => ment n a
    | .IfExp t a b _ => ment n t ++ ment n a ++ ment n b
    | .Compare a _ es _ => ment n a ++ es.flatMap (ment n)
    | .Call f es kws _ => ment n f ++ es.flatMap (ment n) ++ kws.flatMap fun k => ment n k.value
    | .Attribute a _ _ => ment n a
    | .Subscript a s _ => ment n a ++ ment n s
    | .Slice a b c _ => (match a with | some a => ment n a | none => []) ++ (match b with | some b => ment n b | none => []) ++ (match c with | some c => ment n c | none => [])
    | .List es _ => es.flatMap (ment n)
    | .Tuple es _ _ => es.flatMap (ment n)
    | .Set es _ _ => es.flatMap (ment n)
    | .Dict _ es _ => es.flatMap (ment n)
    | .ListComp a gs _ _ => ment n a ++ gs.flatMap fun g => ment n g.iter ++ g.ifs.flatMap (ment n)
    | .SetComp a gs _ _ => ment n a ++ gs.flatMap fun g => ment n g.iter ++ g.ifs.flatMap (ment n)
    | .DictComp k a gs _ _ => ment n k ++ ment n a ++ gs.flatMap fun g => ment n g.iter ++ g.ifs.flatMap (ment n)
    | .Lambda _ a _ _ => ment n a
    | _ => []
def ins (i : Nat) (l : List Nat) : List Nat := if l.contains i then l else i :: l
def mIx (c : SC) (e : Expr) : List Nat := (ment 12 e).foldr (fun x l => match ixOf x c.N with
  | some i => ins i l
  | none => l) []

/-! ### side conditions -/
def notTup : Expr → Bool
  | .Tuple .. => false
  | _ => true
def isNm : Expr → Bool
  | .Name .. => true
  | _ => false
def notSl : Expr → Bool
  | .Slice .. => false
  | _ => true
theorem swap_tg {e t : Expr} {l : Nat} {env : Env} (h : isNm t = false) : swapsWithSole [t] e l env = pure false := by
  cases e <;> first | rfl | (cases t <;> first | rfl | cases h)
theorem swap_none {tg e : Expr} {env : Env} (h : notTup e = true) : swappedStores [tg] e env = pure none := by
  cases tg <;> cases e <;> first | rfl | cases h
theorem swap_none' {tg e : Expr} {env : Env} (h : match tg with | .Tuple .. => false | .List .. => false | _ => true) : swappedStores [tg] e env = pure none := by
  cases tg <;> first | rfl | cases h
theorem asg_one {tg : Expr} {env : Env} (h : noStar tg = true) : (assignEach [tg] env).map (·.2) = [assign tg env] := by
  rw [asg_cons h]
  rfl
theorem assign_sub {o j : Expr} {pj : Pos} {env : Env} (h : notSl j = true) : ∀ v, assign (.Subscript o j pj) env v = (do
      let ov ← holding [v] (eval o env)
      let iv ← holding [v, ov] (eval j env)
      standAt pj
      holding [v, ov, iv] (setItem ov iv v)
      release [v, ov, iv] []) := by
  intro v
  cases j <;> first | rfl | cases h
theorem augStore_ok {j : Expr} (h : notSl j = true) : ∀ ov iv new, augStore j ov iv new = (do holding [new, ov, iv] (setItem ov iv new); release [new, ov, iv] []; pure .next) := by
  intro ov iv new
  cases j <;> first | rfl | cases h
/-- swappedStores, by the text -/
def swapS (sc : Scope) (ts vs : List Expr) : Option (Option (List Str)) :=
  if !(ts.length == 2 || ts.length == 3) || vs.length != ts.length then some none
  else if (vs.any fun | .Starred .. => true | _ => false) = true then some none
  else if ((ts.filterMap fun
      | .Name id pos => if sc.names.lookup id == some .local && pos.line == ((ts.head?.map (·.pos.line)).getD 0) then some id else none
      | _ => none).length != ts.length || (ts.filterMap fun
      | .Name id pos => if sc.names.lookup id == some .local && pos.line == ((ts.head?.map (·.pos.line)).getD 0) then some id else none
      | _ => none).eraseDups.length != (ts.filterMap fun
      | .Name id pos => if sc.names.lookup id == some .local && pos.line == ((ts.head?.map (·.pos.line)).getD 0) then some id else none
      | _ => none).length) = true then some none
  else if vs.all (foldedForSure 8) = true then some none
  else if vs.all (constantsAlone 8) = true then none
  else some (some (ts.filterMap fun
      | .Name id pos => if sc.names.lookup id == some .local && pos.line == ((ts.head?.map (·.pos.line)).getD 0) then some id else none
      | _ => none))
theorem swapS_ok {sc : Scope} {env : Env} {ts vs : List Expr} {r : Option (List Str)} {k k2 : Nat} {p p2 : Pos} (hs : env.scope = sc) (hk : sc.kind = .function) (h : swapS sc ts vs = some r) : swappedStores [.Tuple ts k p] (.Tuple vs k2 p2) env = pure r := by
  subst hs
  have hb : env.blockKind = .function := by unfold Env.blockKind; rw [hk]; rfl
  have hko : ∀ id, env.kindOf id = env.scope.names.lookup id := fun _ => rfl
  unfold swapS at h
  unfold swappedStores
  simp only [hb, hko, bne_self_eq_false, Bool.or_false, pure_bind]
  split at h
  · rename_i h1
    cases h
    exact if_pos (by simpa using h1)
  · rename_i h1
    refine (if_neg (by simpa using h1)).trans ?_
    split at h
    · rename_i h2
      cases h
      exact if_pos h2
    · rename_i h2
      refine (if_neg h2).trans ?_
      split at h
      · rename_i h3
        cases h
        exact if_pos h3
      · rename_i h3
        refine (if_neg h3).trans ?_
        split at h
        · rename_i h4
          cases h
          exact if_pos h4
        · rename_i h4
          refine (if_neg h4).trans ?_
          split at h
          · cases h
          · rename_i h5
            cases h
            exact if_neg h5
def swB (c : SC) (x : Str) (l l' : Nat) (scope : Scope) : Bool := (match c.sc.names.lookup x with | some .local => true | _ => false) && l == l' && !(scope.names.any fun (n, k) => n == x && (k == .local || k == .cell))

def cellB (c : SC) (x : Str) : Bool := match c.sc.names.lookup x with
  | some .cell => true
  | _ => false
/-! ### the reader -/
abbrev RecS := SC → Stmt → Option (SEn → Out)
def cSs (rec : Stmt → Option (SEn → Out)) : List Stmt → Option (SEn → Out)
  | [] => some xSkip
  | [a] => rec a
  | a :: b :: r => (rec a).bind fun g => (cSs rec (b :: r)).map fun h => xSeq g h
def cIp : Operator → Option (Int → Int → Int)
  | .Add => some fun i j => i + j
  | .Sub => some fun i j => i - j
  | _ => none
/-- a name that is seen -/
def cSee (c : SC) (x : Str) : Option Nat := if dunder x = false ∧ visB (c.sc.names.lookup x) = true then ixOf x c.N else none
def cSetLc (T : Tab) (rec : RecE) (recT : RecT) (c : SC) (x : Str) (l : Nat) (e : Expr) : Option SF := match e with
  | .ListComp elt gens scope pos => if swB c x l pos.line scope = true ∨ cellB c x = true then cComp T rec recT c elt gens scope else none
  | _ => none
def cPar (rec : RecE) (c : SC) (ts vs : List Expr) : Option (SEn → Out) := match ts, vs with
  | [.Name x _, .Name y _], [a, b] => if ((swapS c.sc ts vs = some (some [x, y]) ∧ c.sc.names.lookup x = some .local ∧ c.sc.names.lookup y = some .local) ∨ (swapS c.sc ts vs = some none ∧ locB c x = true ∧ locB c y = true)) ∧ noStar a = true ∧ noStar b = true ∧ c.calm = true then
      (ixOf x c.N).bind fun i => (ixOf y c.N).bind fun j => if i = j then none else (rec c a).bind fun p => (rec c b).map fun q => xPar i j p.1 (mIx c a) p.2 q.1 (mIx c b) q.2
    else none
  | _, _ => none
def cAsgT (rec : RecE) (c : SC) (tg e : Expr) (ts : List Expr) : Option (SEn → Out) := match e with
  | .Tuple vs _ _ => (match cPar rec c ts vs with
    | some g => some g
    | none => if swapS c.sc ts vs = some none then (cTg 4 c tg).bind fun t => (rec c e).map fun p => xUnp t (mIx c e) p.2 else none)
  | e => (cTg 4 c tg).bind fun t => (rec c e).map fun p => xUnp t (mIx c e) p.2
def cPop (c : SC) (i : Nat) (e : Expr) : Option (SEn → Out) := match e with
  | .Call (.Attribute (.Name y _) a apos) [] [] cpos => if a = "pop" ∧ (apos.endLine == cpos.line) = true then (cSee c y).map fun j => xPop i j else none
  | _ => none
def cAsg (T : Tab) (rec : RecE) (recT : RecT) (c : SC) (tg e : Expr) : Option (SEn → Out) := match tg with
  | .Name x p => if locB c x = true then (ixOf x c.N).bind fun i => match cPop c i e with
    | some g => some g
    | none => 
      if notComp e = true then (rec c e).map fun q => if q.1 = true then xSetG i (mIx c e) q.2 else xSet i (mIx c e) q.2
      else (cSetLc T rec recT c x p.line e).map fun f => xSetG i (mIx c e) f
    else none
  | .Tuple ts _ _ => cAsgT rec c tg e ts
  | .Subscript (.Name x _) j _ => if notSl j = true then (cSee c x).bind fun i => (rec c e).bind fun p => (rec c j).map fun q => xPut i (mIx c e) p.2 (mIx c j) q.2 else none
  | _ => none
def cAug (rec : RecE) (c : SC) (tg : Expr) (op : Operator) (e : Expr) : Option (SEn → Out) := match tg with
  | .Name x _ => if locB c x = true then (ixOf x c.N).bind fun i => (cIp op).bind fun g => (rec c e).map fun p => xAug g i (mIx c e) p.2 else none
  | .Subscript (.Name x _) j _ => if notSl j = true then (cSee c x).bind fun i => (cIp op).bind fun g => (rec c e).bind fun p => (rec c j).map fun q => xPutA g i (mIx c e) p.2 (mIx c j) q.2 else none
  | _ => none
def cFor (T : Tab) (rec : RecE) (c : SC) (tg iter : Expr) (g : SEn → Out) : Option (SEn → Out) := if c.calm = true then (cTg 4 c tg).bind fun t => match cIc T rec c tg iter with
  | some q => some (xFor q.1 (mIx c iter) q.2 t g)
  | none => if notSet iter = true then (rec c iter).map fun p => if p.1 = true then xForG (mIx c iter) p.2 t g else xForS (mIx c iter) p.2 t g else none
  else none
def cDrop (rec : RecE) (c : SC) (e : Expr) : Option (SEn → Out) := if notComp e = true then (rec c e).map fun p => xDrop (mIx c e) p.2 else none
def cExpr (rec : RecE) (c : SC) (e : Expr) : Option (SEn → Out) := match e with
  | .Call (.Attribute (.Name x _) a apos) [arg] [] cpos => if a = "append" ∧ noStar arg = true ∧ (apos.endLine == cpos.line) = true then (cSee c x).bind fun i => (rec c arg).map fun p => xApp i (mIx c arg) p.2
    else if a = "remove" ∧ noStar arg = true ∧ (apos.endLine == cpos.line) = true then (cSee c x).bind fun i => (rec c arg).map fun p => xRem i (mIx c arg) p.2
    else if a = "extend" ∧ noStar arg = true ∧ (apos.endLine == cpos.line) = true then (cSee c x).bind fun i => (rec c arg).bind fun p => if p.1 = true then some (xExt i (mIx c arg) p.2) else none
    else none
  | e => cDrop rec c e
def cRaise (T : Tab) (c : SC) (e : Option Expr) (k : Option Expr) : Option (SEn → Out) := match e, k with
  | some (.Call (.Name x _) [] [] _), none => if dunder x = false ∧ c.sc.names.lookup x = some .globalImplicit ∧ c.calm = true then (T.excs.lookup x).map xRaise else none
  | _, _ => none
/-- a try's hands: for each class of error of the table, what comes of it -/
def hand1 (T : Tab) (c : SC) (C nm : Str) (suite : List Stmt) (l : List (Str × Bool)) : Option (Option Hr) := match l.lookup C with
  | none => none
  | some false => some none
  | some true => (hSs (hSt ⟨T, { c with calm := false, lam := false }, nm, fun x => l.lookup x⟩ 8) [] suite).map some
def cHand (T : Tab) (c : SC) (C nm : Str) (suite : List Stmt) : List (Nat × Option (Option Hr)) := T.subs.map fun p => (p.1, hand1 T c C nm suite p.2)
def cTry (T : Tab) (c : SC) (g : SEn → Out) (hs : List ExceptHandler) : Option (SEn → Out) := match hs with
  | [.ExceptHandler (some (.Name C _)) (some nm) (b0 :: suite) _] => if c.top = true ∧ dunder C = false ∧ c.sc.names.lookup C = some .globalImplicit ∧ c.sc.names.lookup nm = some .local ∧ (T.excs.lookup C).isSome = true then
      (ixOf nm c.N).map fun i => xTryL g i (cHand T c C nm (b0 :: suite))
    else none
  | _ => none
def stepS (T : Tab) (rec : RecE) (recT : RecT) (recS : RecS) : RecS := fun c st => match st with
  | .Pass _ => some xSkip
  | .Break _ => some xBreak
  | .Continue _ => some xCont
  | .Return e _ => (match e with
    | none => some xRetN
    | some e => (rec c e).map fun p => xRet (mIx c e) p.2)
  | .Expr e _ => cExpr rec c e
  | .Assign ts e _ => (match ts with
    | [tg] => cAsg T rec recT c tg e
    | _ => none)
  | .AugAssign tg op e _ => cAug rec c tg op e
  | .For tg iter body els _ => (match els with
    | [] => (cSs (recS c) body).bind fun g => cFor T rec c tg iter g
    | _ => none)
  | .While t body els _ => (match els with
    | [] => (recT c t).bind fun f => (cSs (recS c) body).map fun g => xWhile (mIx c t) (vTest f) g
    | _ => none)
  | .If t p q _ => (recT c t).bind fun f => (cSs (recS c) p).bind fun g => (cSs (recS c) q).map fun h => xIf (mIx c t) (vTest f) g h
  | .Raise e k _ => cRaise T c e k
  | .Try body hs els fin _ => (match els, fin with
    | [], [] => (cSs (recS c) body).bind fun g => cTry T c g hs
    | _, _ => none)
  | _ => none
def cS (T : Tab) (n : Nat) : Nat → RecS
  | 0 => fun _ _ => none
  | k + 1 => stepS T (cE T n) (cT T n) (cS T n k)

/-! ### it is right -/
structure OkS (X : Cx) (ca : CA) (k : Nat) (T : Tab) (W : WX0) (c : SC) : Prop extends Ok X ca k T W c where
  hp : PassesOwn (model X.prog X.w) X.A X.env X.xe
  stk : X.stack = X.env :: X.outer
  frm : X.env.frame = some X.env.locals
def SoS (rec : Stmt → Option (SEn → Out)) (X : Cx) (W : WX0) : Prop := ∀ st g, rec st = some g → DS X W st g
section
variable {X : Cx} {W : WX0} {ca : CA} {k : Nat} {T : Tab} {c : SC} {rec : RecE} {recT : RecT} {recS : RecS} {pos p : Pos}
theorem cSs_ok {rec : Stmt → Option (SEn → Out)} (h : SoS rec X W) : ∀ {st : List Stmt} {g : SEn → Out}, cSs rec st = some g → DSs X W st g
  | [], g, e => by cases e; exact dss_nil
  | [a], g, e => dss_one (h a g e)
  | a :: b :: r, g, e => by
    rw [cSs] at e
    obtain ⟨g1, h1, e⟩ := Option.bind_eq_some_iff.mp e
    obtain ⟨g2, h2, rfl⟩ := Option.map_eq_some_iff.mp e
    exact dss_cons (h a g1 h1) (cSs_ok h h2)
theorem cIp_ok {op : Operator} {g : Int → Int → Int} (h : cIp op = some g) : PIp X op (ipI g) := by
  unfold cIp at h
  split at h <;> cases h
  · exact ip_add
  · exact ip_sub
theorem cSee_ok (o : Ok X ca k T W c) {x : Str} {i : Nat} (h : cSee c x = some i) : X.N[i]? = some x ∧ Vis X.env.scope x ∧ (x == ("__debug__" : Str)) = false ∧ (x == ("__classdict__" : Str)) = false := by
  unfold cSee at h
  split at h
  · rename_i hh
    obtain ⟨d1, d2⟩ := dunder_no hh.1
    exact ⟨o.ix h, by rw [o.sc]; exact vis_ok hh.2, d1, d2⟩
  · cases h
theorem swB_ok (o : Ok X ca k T W c) {x : Str} {py cp : Pos} {l : Nat} {elt : Expr} {gs : List Comprehension} {scope : Scope} (h : swB c x py.line cp.line scope = true) : X.env.scope.names.lookup x = some .local ∧ swapsWith (.ListComp elt gs scope cp) (some (.Name x py)) l X.env = pure true := by
  unfold swB at h
  rw [Bool.and_eq_true, Bool.and_eq_true] at h
  obtain ⟨⟨h1, h2⟩, h3⟩ := h
  have h4 : X.env.scope.names.lookup x = some .local := by
    rw [o.sc]
    split at h1
    · assumption
    · cases h1
  exact ⟨h4, sw_true (by rw [o.sc]; exact o.fk) h4 h2 (by simpa using h3)⟩
theorem sw_cell {elt : Expr} {gs : List Comprehension} {scope : Scope} {pos py : Pos} {y : Str} {l : Nat} {env : Env} (hy : env.scope.names.lookup y = some .cell) : swapsWith (.ListComp elt gs scope pos) (some (.Name y py)) l env = pure false := by
  have ky : env.kindOf y = some .cell := hy
  have e : (some NameKind.cell == some NameKind.local) = false := rfl
  unfold swapsWith
  simp only [ky, e, Bool.and_false, Bool.false_and]
theorem cSetLc_ok (o : Ok X ca k T W c) (h : ∀ X W c, Ok X ca k T W c → SoE (rec c) X W) (hT : ∀ X W c, Ok X ca k T W c → SoT (recT c) X W) {x : Str} {i : Nat} {py : Pos} {m : List Nat} {e : Expr} {f : SF} (hi : ixOf x c.N = some i) (l1 : Loc X.env.scope x) (l2 : X.fn x = true ∨ X.env.scope.names.lookup x = some .local) (q : cSetLc T rec recT c x py.line e = some f) :
    DS X W (.Assign [.Name x py] e pos) (xSetG i m f) := by
  unfold cSetLc at q
  split at q
  · split at q
    · rename_i elt gens scope cp hsw
      by_cases hcl : cellB c x = true
      · refine ds_setG o.nd' (o.ix hi) l1 (cComp_ok o h hT q) (sw_cell ?_) l2
        rw [o.sc]
        unfold cellB at hcl
        split at hcl
        · assumption
        · cases hcl
      replace hsw := hsw.resolve_right hcl
      obtain ⟨w1, w2⟩ := swB_ok (l := pos.line) (elt := elt) (gs := gens) o hsw
      unfold cComp at q
      split at q
      · split at q
        · rename_i hh
          obtain ⟨hcalm, ha, hb, hs⟩ := hh
          subst ha
          obtain ⟨fi, h1, q⟩ := Option.bind_eq_some_iff.mp q
          obtain ⟨t, h2, q⟩ := Option.bind_eq_some_iff.mp q
          split at q
          · rename_i hsl
            obtain ⟨cond, h3, q⟩ := Option.bind_eq_some_iff.mp q
            obtain ⟨p, h4, rfl⟩ := Option.map_eq_some_iff.mp q
            have bo : BlkOk X.N X.env.scope scope (ownOf c.N scope.names) := by
              rw [o.hN, o.sc]
              exact blkOk_by hb
            refine ds_setLc w2 (o.ix hi) w1 (o.calm hcalm) o.nd' (cI_ok o (h X W c o) h1) bo (fun i hi => ?_) (fun s H C cl fp => (cTg_ok (o.blk hcalm s H C cl fp bo.kind) 4 h2).1) (fun s H C cl fp => ?_) (fun s H C cl fp => (h _ _ _ (o.blk hcalm s H C cl fp bo.kind)).de h4) (folded_ok hs)
            · have := List.all_eq_true.mp hsl i hi
              simpa using this
            · unfold cIfs at h3
              split at h3
              · cases h3
                rfl
              · obtain ⟨g, h5, rfl⟩ := Option.map_eq_some_iff.mp h3
                exact ⟨_, rfl, hT _ _ _ (o.blk hcalm s H C cl fp bo.kind) _ _ h5⟩
              · cases h3
          · cases q
        · cases q
      · cases q
    · cases q
  · cases q
theorem cPar_ok (o : Ok X ca k T W c) (h : SoE (rec c) X W) {ts vs : List Expr} {g : SEn → Out} {kt k2 : Nat} {pt pt2 : Pos} (q : cPar rec c ts vs = some g) : DS X W (.Assign [.Tuple ts kt pt] (.Tuple vs k2 pt2) pos) g := by
  unfold cPar at q
  split at q
  · split at q
    · rename_i x px y py a b hh
      obtain ⟨e1, e4, e5, hcalm⟩ := hh
      obtain ⟨i, h1, q⟩ := Option.bind_eq_some_iff.mp q
      obtain ⟨j, h2, q⟩ := Option.bind_eq_some_iff.mp q
      split at q
      · cases q
      · rename_i hij
        obtain ⟨p, h3, q⟩ := Option.bind_eq_some_iff.mp q
        obtain ⟨p2, h4, rfl⟩ := Option.map_eq_some_iff.mp q
        rcases e1 with ⟨e1, e2, e3⟩ | ⟨e1, e2, e3⟩
        · exact ds_par (o.calm hcalm) o.nd' (o.ix h1) (o.ix h2) hij (by rw [o.sc]; exact e2) (by rw [o.sc]; exact e3) (h a p.1 p.2 h3) (h b p2.1 p2.2 h4) (star_cons e4) (star_cons e5) (swapS_ok o.sc o.fk e1) (swap_tg rfl)
        · obtain ⟨l1, l2⟩ := loc_ok o e2
          obtain ⟨l3, l4⟩ := loc_ok o e3
          exact ds_parU (o.calm hcalm) o.nd' (o.ix h1) (o.ix h2) l1 l2 l3 l4 (h a p.1 p.2 h3) (h b p2.1 p2.2 h4) (star_cons e4) (star_cons e5) (swapS_ok o.sc o.fk e1) (swap_tg rfl)
    · cases q
  · cases q
theorem cAsg_ok (o : Ok X ca k T W c) (h : ∀ X W c, Ok X ca k T W c → SoE (rec c) X W) (hT : ∀ X W c, Ok X ca k T W c → SoT (recT c) X W) {tg e : Expr} {g : SEn → Out} (q : cAsg T rec recT c tg e = some g) : DS X W (.Assign [tg] e pos) g := by
  have hh := h X W c o
  unfold cAsg at q
  split at q
  · split at q
    · rename_i hl
      obtain ⟨i, h1, q⟩ := Option.bind_eq_some_iff.mp q
      obtain ⟨l1, l2⟩ := loc_ok o hl
      split at q
      · rename_i g' hp
        cases q
        unfold cPop at hp
        split at hp
        · split at hp
          · rename_i hh2
            obtain ⟨ha, hl2⟩ := hh2
            subst ha
            obtain ⟨j, h3, rfl⟩ := Option.map_eq_some_iff.mp hp
            obtain ⟨n1, n2, n3, n4⟩ := cSee_ok o h3
            exact ds_pop o.nd' (o.ix h1) l1 l2 n1 n2 n3 n4 rfl hl2 (swap_no rfl)
          · cases hp
        · cases hp
      · split at q
        · rename_i hn
          obtain ⟨p, h2, rfl⟩ := Option.map_eq_some_iff.mp q
          have ha := hh e p.1 p.2 h2
          unfold AE at ha
          cases hb : p.1 with
          | true =>
            rw [hb, if_pos rfl] at ha
            rw [if_pos rfl]
            exact ds_setG o.nd' (o.ix h1) l1 ha (swap_no hn) l2
          | false =>
            rw [hb, if_neg Bool.false_ne_true] at ha
            rw [if_neg Bool.false_ne_true]
            exact ds_set o.nd' (o.ix h1) l1 ha (swap_no hn) l2
        · obtain ⟨f, h2, rfl⟩ := Option.map_eq_some_iff.mp q
          exact cSetLc_ok o h hT h1 l1 l2 h2
    · cases q
  · unfold cAsgT at q
    split at q
    · split at q
      · rename_i g' hp
        cases q
        exact cPar_ok o hh hp
      · split at q
        · rename_i hs
          obtain ⟨t, h1, q⟩ := Option.bind_eq_some_iff.mp q
          obtain ⟨p, h2, rfl⟩ := Option.map_eq_some_iff.mp q
          exact ds_unp (hh.de h2) (cTg_ok o 4 h1).2 (swap_tg rfl) (swapS_ok o.sc o.fk hs) (asg_one rfl)
        · cases q
    · rename_i hnt
      obtain ⟨t, h1, q⟩ := Option.bind_eq_some_iff.mp q
      obtain ⟨p, h2, rfl⟩ := Option.map_eq_some_iff.mp q
      refine ds_unp (hh.de h2) (cTg_ok o 4 h1).2 (swap_tg rfl) (swap_none ?_) (asg_one rfl)
      cases e <;> first | rfl | exact absurd rfl (hnt _ _ _)
  · split at q
    · rename_i hs
      obtain ⟨i, h1, q⟩ := Option.bind_eq_some_iff.mp q
      obtain ⟨p, h2, q⟩ := Option.bind_eq_some_iff.mp q
      obtain ⟨p2, h3, rfl⟩ := Option.map_eq_some_iff.mp q
      obtain ⟨n1, n2, n3, n4⟩ := cSee_ok o h1
      exact ds_put n1 n2 n3 n4 (hh.de h2) (hh.de h3) (assign_sub hs) (swap_tg rfl) (swap_none' rfl) (asg_one rfl)
    · cases q
  · cases q
theorem cAug_ok (o : Ok X ca k T W c) (h : SoE (rec c) X W) {tg e : Expr} {op : Operator} {g : SEn → Out} (q : cAug rec c tg op e = some g) : DS X W (.AugAssign tg op e pos) g := by
  unfold cAug at q
  split at q
  · split at q
    · rename_i hl
      obtain ⟨i, h1, q⟩ := Option.bind_eq_some_iff.mp q
      obtain ⟨gg, h2, q⟩ := Option.bind_eq_some_iff.mp q
      obtain ⟨p, h3, rfl⟩ := Option.map_eq_some_iff.mp q
      obtain ⟨l1, l2⟩ := loc_ok o hl
      exact ds_aug o.nd' (o.ix h1) l1 (h.de h3) (cIp_ok h2) l2
    · cases q
  · split at q
    · rename_i hs
      obtain ⟨i, h1, q⟩ := Option.bind_eq_some_iff.mp q
      obtain ⟨gg, h2, q⟩ := Option.bind_eq_some_iff.mp q
      obtain ⟨p, h3, q⟩ := Option.bind_eq_some_iff.mp q
      obtain ⟨p2, h4, rfl⟩ := Option.map_eq_some_iff.mp q
      obtain ⟨n1, n2, n3, n4⟩ := cSee_ok o h1
      exact ds_putA n1 n2 n3 n4 (h.de h3) (h.de h4) (cIp_ok h2) (augStore_ok hs)
    · cases q
  · cases q
theorem cFor_ok (o : OkS X ca k T W c) (h : SoE (rec c) X W) {tg iter : Expr} {body : List Stmt} {g g' : SEn → Out} (hb : DSs X W body g) (q : cFor T rec c tg iter g = some g') : DS X W (.For tg iter body [] pos) g' := by
  unfold cFor at q
  split at q
  rotate_left
  · cases q
  rename_i hcalm
  obtain ⟨t, h1, q⟩ := Option.bind_eq_some_iff.mp q
  have ht := (cTg_ok o.toOk 4 h1).2
  split at q
  · rename_i r hr
    cases q
    obtain ⟨_, h3, h4⟩ := cIc_ok o.toOk h hr
    exact ds_for o.hp (o.calm hcalm) (h3 _) ht hb (folded_ok h4)
  · split at q
    · rename_i hs
      obtain ⟨p, h2, rfl⟩ := Option.map_eq_some_iff.mp q
      have ha := h iter p.1 p.2 h2
      unfold AE at ha
      cases hb' : p.1 with
      | true =>
        rw [hb', if_pos rfl] at ha
        rw [if_pos rfl]
        exact ds_forG o.hp (o.calm hcalm) ha ht hb (folded_ok hs)
      | false =>
        rw [hb', if_neg Bool.false_ne_true] at ha
        rw [if_neg Bool.false_ne_true]
        exact ds_forS o.hp (o.calm hcalm) ha ht hb (folded_ok hs)
    · cases q
theorem cExpr_ok (o : Ok X ca k T W c) (h : SoE (rec c) X W) {e : Expr} {g : SEn → Out} (q : cExpr rec c e = some g) : DS X W (.Expr e pos) g := by
  unfold cExpr at q
  split at q
  · split at q
    · rename_i hh
      obtain ⟨ha, hs, hl⟩ := hh
      subst ha
      obtain ⟨i, h1, q⟩ := Option.bind_eq_some_iff.mp q
      obtain ⟨p, h3, rfl⟩ := Option.map_eq_some_iff.mp q
      obtain ⟨n1, n2, n3, n4⟩ := cSee_ok o h1
      exact ds_app n1 n2 n3 n4 (h.de h3) (star_cons hs) rfl (by rw [star_cons hs]; rfl) hl rfl
    · split at q
      · rename_i hh
        obtain ⟨ha, hs, hl⟩ := hh
        subst ha
        obtain ⟨i, h1, q⟩ := Option.bind_eq_some_iff.mp q
        obtain ⟨p, h3, rfl⟩ := Option.map_eq_some_iff.mp q
        obtain ⟨n1, n2, n3, n4⟩ := cSee_ok o h1
        exact ds_rem n1 n2 n3 n4 (h.de h3) (star_cons hs) rfl (by rw [star_cons hs]; rfl) hl rfl
      · split at q
        · rename_i hh
          obtain ⟨ha, hs, hl⟩ := hh
          subst ha
          obtain ⟨i, h1, q⟩ := Option.bind_eq_some_iff.mp q
          obtain ⟨p, h3, q⟩ := Option.bind_eq_some_iff.mp q
          split at q
          · rename_i hb
            cases q
            obtain ⟨n1, n2, n3, n4⟩ := cSee_ok o h1
            have ha := h _ p.1 p.2 h3
            unfold AE at ha
            rw [hb, if_pos rfl] at ha
            exact ds_ext n1 n2 n3 n4 ha (star_cons hs) rfl (by rw [star_cons hs]; rfl) hl rfl
          · cases q
        · cases q
  · unfold cDrop at q
    split at q
    · rename_i hn
      obtain ⟨p, h3, rfl⟩ := Option.map_eq_some_iff.mp q
      exact ds_drop (h.de h3) (swap_no hn)
    · cases q
theorem cRaise_ok (o : Ok X ca k T W c) {e e2 : Option Expr} {g : SEn → Out} (q : cRaise T c e e2 = some g) : DS X W (.Raise e e2 pos) g := by
  unfold cRaise at q
  split at q
  · split at q
    · rename_i hh
      obtain ⟨n, h1, rfl⟩ := Option.map_eq_some_iff.mp q
      obtain ⟨⟨bmB, B, nid, iid, F, q1⟩, q2, q3, q4, q5⟩ := o.mo.excs _ _ h1
      exact ds_raise (o.calm hh.2.2) o.tk F q1 q2 q3 (raises_own q4 q5) (o.gl hh.2.1) (dunder_no hh.1).1
    · cases q
  · cases q
theorem handL_map {f : List (Str × Bool) → Option (Option Hr)} {c' : Nat} {r : Option Hr} : ∀ {l : List (Nat × List (Str × Bool))}, handL (l.map fun p => (p.1, f p.2)) c' = some r → ∃ q, l.lookup c' = some q ∧ f q = some r
  | [], e => by cases e
  | (j, q) :: l, e => by
    unfold handL at e
    rw [List.map_cons, List.lookup_cons] at e
    rw [List.lookup_cons]
    cases h : (c' == j) with
    | true => rw [h] at e; exact ⟨q, rfl, e⟩
    | false => rw [h] at e; exact handL_map e
theorem hSs_ok {X : Cx} {a : Addr} {oe : Obj} {pn : List (Addr × Obj)} {D0 : Addr} {h : HC} {iw : Nat} (o : HOk X a oe pn D0 ca k h iw) (n : Nat) : ∀ {p : List Stmt} {ws : List (Nat × Cv)} {r : Hr}, hSs (hSt h n) ws p = some r → PSs (X.suite a ((a, oe) :: pn)) p (tH iw a h.c.N.length ws r) ∧ Grown ws r := by
  intro p
  induction p with
  | nil =>
    intro ws r q
    cases q
    exact ⟨PSs.imp pss_nil fun D σ H ⟨kn, hl, q⟩ => q σ H kn ⟨rfl, fun _ _ => rfl⟩ (Same.refl _), fun j hj => hj⟩
  | cons st p ih =>
    intro ws r q
    rw [hSs] at q
    cases e : hSt h n ws st with
    | none => rw [e] at q; cases q
    | some r1 =>
      rw [e] at q
      obtain ⟨p1, g1⟩ := hSt_ok o n e
      cases r1 with
      | rt d =>
        cases q
        exact ⟨PSs.imp (pss_cons p1 (pss_never (sts := p))) fun D σ H ⟨kn, hl, q⟩ => ⟨kn, hl, q⟩, trivial⟩
      | nx ws1 =>
        obtain ⟨p2, g2⟩ := ih q
        refine ⟨PSs.imp (pss_cons p1 p2) fun D σ H ⟨kn, hl, q⟩ => ⟨kn, hl, fun σ1 H1 kn1 c1 e1 => ⟨kn1, c1.1.trans hl, ?_⟩⟩, ?_⟩
        · cases r with
          | rt d => exact fun H2 e2 => q H2 (e1.trans e2)
          | nx ws2 => exact fun σ2 H2 kn2 c2 e2 => q σ2 H2 kn2 ((c1.mono g2).trans c2 |>.mono fun j hj => by rcases List.mem_append.mp hj with z | z <;> exact z) (e1.trans e2)
        · cases r with
          | rt d => trivial
          | nx ws2 => exact fun j hj => g2 j (g1 j hj)
theorem cTry_ok (o : OkS X ca k T W c) {body : List Stmt} {hs : List ExceptHandler} {g g' : SEn → Out} (hb : ∀ (W' : WX0), W'.T = W.T → ∀ (pn : List (Addr × Obj)) (xe : Value → Shared → Prop), Takes (X.tr pn xe) (wx ca.a W') → PassesOwn (model X.prog X.w) X.A X.env xe → DSs (X.tr pn xe) W' body g)
    (q : cTry T c g hs = some g') : DS X W (.Try body hs [] [] pos) g' := by
  unfold cTry at q
  split at q
  · rename_i C pc nm b0 suite pos'
    split at q
    · rename_i hh
      obtain ⟨h1, h2, h3, h4, h5⟩ := hh
      obtain ⟨i, h6, rfl⟩ := Option.map_eq_some_iff.mp q
      obtain ⟨cn, h7⟩ := Option.isSome_iff_exists.mp h5
      have hC := o.mo.excs _ _ h7
      have hsub : ∀ c' l b, T.subs.lookup c' = some l → l.lookup C = some b → PySem.W.exmOne X.K (.ref (ca c')) (.ref (ca cn)) = some b := fun c' l b e1 e2 => by
        obtain ⟨A, m1, m2, m3⟩ := o.mo.subs c' l C b e1 e2
        have : A = ca cn := by
          have e := m1.symm.trans hC.mg
          cases e
          rfl
        rw [← this]
        exact m2
      unfold xTryL
      refine ds_try (C := ca cn) o.stk o.frm o.nd' (o.ix h6) (by rw [o.sc]; exact h4) ⟨o.gl h3, (dunder_no h2).1, .inl hC.mg⟩ o.tk hb (fun c' r e => ?_) fun c' e => ?_
      · obtain ⟨l, e1, e2⟩ := handL_map (f := hand1 T c C nm (b0 :: suite)) e
        unfold hand1 at e2
        split at e2
        · cases e2
        · cases e2
        · rename_i e3
          obtain ⟨r', e4, e5⟩ := Option.map_eq_some_iff.mp e2
          cases e5
          refine ⟨hsub c' l true e1 e3, fun a oe pn hz hv => ?_⟩
          have ho : HOk X a oe pn (ca c') ca k ⟨T, { c with calm := false, lam := false }, nm, fun x => l.lookup x⟩ i :=
            ⟨⟨o.mo, o.hN, o.nd, o.sc, o.fk, fun z => absurd (show false = true from z) Bool.false_ne_true, fun z => absurd (show false = true from z) Bool.false_ne_true, o.un, o.fn, o.fnb, takes_w0 (W := W00 ca.T), rfl, fun z => absurd (show false = true from z) Bool.false_ne_true⟩, h6, o.mo.excC c' l e1, hz, hv, fun x b e => by
              obtain ⟨A, m1, m2, m3⟩ := o.mo.subs c' l x b e1 e
              exact ⟨A, m1, m3⟩⟩
          have := (hSs_ok ho 8 e4).1
          rw [o.hN]
          exact this
      · obtain ⟨l, e1, e2⟩ := handL_map (f := hand1 T c C nm (b0 :: suite)) e
        unfold hand1 at e2
        split at e2
        · cases e2
        · rename_i e3
          exact hsub c' l false e1 e3
        · obtain ⟨r', e4, e5⟩ := Option.map_eq_some_iff.mp e2
          cases e5
    · cases q
  · cases q
theorem stepS_ok (h : ∀ X W c, Ok X ca k T W c → SoE (rec c) X W) (hT : ∀ X W c, Ok X ca k T W c → SoT (recT c) X W) (hS : ∀ X W, OkS X ca k T W c → SoS (recS c) X W) (o : OkS X ca k T W c) : SoS (stepS T rec recT recS c) X W := by
  intro st g q
  have hS0 := hS X W o
  have hh := h X W c o.toOk
  have ht := hT X W c o.toOk
  unfold stepS at q
  split at q
  · cases q; exact ds_pass
  · cases q; exact ds_break
  · cases q; exact ds_cont
  · split at q
    · cases q; exact ds_retN
    · obtain ⟨p, h1, rfl⟩ := Option.map_eq_some_iff.mp q
      exact ds_ret (hh.de h1)
  · exact cExpr_ok o.toOk hh q
  · split at q
    · exact cAsg_ok o.toOk h hT q
    · cases q
  · exact cAug_ok o.toOk hh q
  · split at q
    · obtain ⟨g1, h1, q⟩ := Option.bind_eq_some_iff.mp q
      exact cFor_ok o hh (cSs_ok hS0 h1) q
    · cases q
  · split at q
    · obtain ⟨f, h1, q⟩ := Option.bind_eq_some_iff.mp q
      obtain ⟨g1, h2, rfl⟩ := Option.map_eq_some_iff.mp q
      exact ds_while o.hp (ht _ _ h1) (cSs_ok hS0 h2)
    · cases q
  · obtain ⟨f, h1, q⟩ := Option.bind_eq_some_iff.mp q
    obtain ⟨g1, h2, q⟩ := Option.bind_eq_some_iff.mp q
    obtain ⟨g2, h3, rfl⟩ := Option.map_eq_some_iff.mp q
    exact ds_if (ht _ _ h1) (cSs_ok hS0 h2) (cSs_ok hS0 h3)
  · exact cRaise_ok o.toOk q
  · split at q
    · obtain ⟨g1, h1, q⟩ := Option.bind_eq_some_iff.mp q
      exact cTry_ok o (fun W' wt pn xe tk hp => cSs_ok (hS (X.tr pn xe) W' ⟨⟨o.mo, o.hN, o.nd, o.sc, o.fk, o.calm, o.room, o.un, o.fn, o.fnb, tk, wt.trans o.wt, fun z => ⟨by rw [wt]; exact (o.la z).ex⟩⟩, hp, o.stk, o.frm⟩) h1) q
    · cases q
  · cases q
theorem cS_ok (n : Nat) : ∀ (j : Nat) {X : Cx} {W : WX0}, OkS X ca k T W c → SoS (cS T n j c) X W
  | 0, _, _, _ => fun st g h => (nomatch (show (none : Option (SEn → Out)) = some g from h))
  | j + 1, _, _, o => stepS_ok (fun X W c o => cE_ok o) (fun X W c o => cT_ok o) (fun X W o => cS_ok n j o) o
end

/-! ### defs -/
def startE (n : Nat) (ds : List D) : SEn := ds.map (fun d => some (false, d)) ++ List.replicate (n - ds.length) none
def outR : Out → Res D
  | .nx _ => .ok .none
  | .rt d => .ok d
  | .exc c _ => .exc c
  | _ => .stuck
def runFn (np n : Nat) (g : SEn → Out) : List D → Res D := fun ds => if ds.length = np then outR (g (startE n ds)) else .stuck
theorem sr_start {K : PySem.W.Frag} {T : TB} {F H : Hp} {N : List Str} {vs : List V} {ds : List D} (sb : Same F H) (tb : Tabs T F) (r : RpL K F vs ds) : SR K T F H F H (L2.start N vs) (startE N.length ds) := by
  have hl := r.length
  refine ⟨Same.refl _, tb, Grow.refl sb, by unfold startE L2.start; simp [hl], fun i d h => ?_, fun i d h => ?_, fun i j d e a h => ?_⟩
  · unfold startE at h
    unfold L2.start
    by_cases hi : i < ds.length
    · rw [List.getElem?_append_left (by simpa using hi), List.getElem?_map] at h
      rw [List.getElem?_append_left (by simpa [hl] using hi), List.getElem?_map]
      obtain ⟨d', h1, h2⟩ := Option.map_eq_some_iff.mp h
      cases h2
      obtain ⟨v, h3, h4⟩ := r.get' h1
      exact ⟨v, by rw [h3]; rfl, h4⟩
    · rw [List.getElem?_append_right (by simpa using Nat.le_of_not_lt hi), List.getElem?_replicate] at h
      split at h <;> cases h
  · unfold startE at h
    by_cases hi : i < ds.length
    · rw [List.getElem?_append_left (by simpa using hi), List.getElem?_map] at h
      obtain ⟨d', h1, h2⟩ := Option.map_eq_some_iff.mp h
      cases h2
    · rw [List.getElem?_append_right (by simpa using Nat.le_of_not_lt hi), List.getElem?_replicate] at h
      split at h <;> cases h
  · unfold startE at h
    by_cases hi : i < ds.length
    · rw [List.getElem?_append_left (by simpa using hi), List.getElem?_map] at h
      obtain ⟨d', h1, h2⟩ := Option.map_eq_some_iff.mp h
      cases h2
    · rw [List.getElem?_append_right (by simpa using Nat.le_of_not_lt hi), List.getElem?_replicate] at h
      split at h <;> cases h
theorem body_ok {P : Program} {w : World} {K : PySem.W.Frag} {mg : Str → Option Value} {base : Heap} {qual : Str} {body : List Stmt} {scope : Scope} {f : Addr} {N ps : List Str} {ca : CA} {k n j : Nat} {T : Tab} {g : SEn → Out}
    {lm : Bool} (S : FnScope N ps scope) (mo : Mo P w K mg base ca k T) (h : cSs (cS T n j (mkSCB lm N scope)) body = some g)
    (cdv : Value) (hlm : lm = true → ∃ cc Pa : Addr, cdv = .ref cc ∧ LamX.TabB base mg cc Pa ∧ (Pa, (qual ++ ".<locals>.") ++ "<lambda>") ∈ ca.T ∧ ∀ p ∈ ca.T, p.1 = Pa → p.2 = (qual ++ ".<locals>.") ++ "<lambda>") (A : Around) (outer : List Env) (s : Shared) (H : Hp) (vs : List V) (Q : VK) (E : XK) (hr : Room k (A.deeper (envOfC qual scope s.heap.objs.size f cdv))) (sp : spOf ca.a K ca.T ps.length (runFn ps.length N.length g) vs H Q E) :
      ∃ t, PSs (cxOf (L2.CX P w) P w K mg base N qual scope f cdv A outer s H E) body t ∧ t { nx := fun _ H' => Q .non H', rt := Q } (L2.start N vs) H := by
  obtain ⟨ds, F, sb, tb, rl, hl, q⟩ := sp
  have o : OkS (cxOf (L2.CX P w) P w K mg base N qual scope f cdv A outer s H E) ca k T ⟨fun c _ H' => E (.ref (ca c)) none H', ca.T⟩ (mkSCB lm N scope) :=
    ⟨⟨mo, rfl, S.nd, rfl, S.kind, fun _ => rfl, fun _ => hr, (show (A.deeper (envOfC qual scope s.heap.objs.size f cdv)).units + 66 < cLine from Nat.lt_of_le_of_lt (by omega) hr.un), fun _ _ => rfl, fun _ z => (nomatch (show (none : Option NameKind) = some .cell from z)), (takes_of rfl rfl rfl rfl).imp fun cls d σ H h => by
      obtain ⟨c, rfl, rfl, h⟩ := h
      exact h, rfl, fun z => by
      obtain ⟨cc, Pa, h1, h2, h3, h4⟩ := hlm z
      exact ⟨⟨cc, Pa, h1, h2, h3, h4⟩⟩⟩, passes_of rfl, rfl, rfl⟩
  refine ⟨_, cSs_ok (cS_ok n j o) h, F, H, F, startE N.length ds, sr_start sb tb rl, ?_⟩
  unfold runFn at q
  rw [if_pos hl] at q
  cases e : g (startE N.length ds) with
  | nx e' =>
    rw [e] at q
    exact fun σ F' H' s' => q .non F' H' s'.base s'.grow .non
  | rt d =>
    rw [e] at q
    exact fun v F' H' a b r => q v F' H' a b r
  | exc c e' =>
    rw [e] at q
    exact fun σ F' H' s' => q H' s'.base
  | bk e' => rw [e] at q; exact q.elim
  | ct e' => rw [e] at q; exact q.elim
  | stuck => rw [e] at q; exact q.elim
end SH


set_option Elab.async false
set_option linter.all false
set_option maxRecDepth 100000
set_option maxHeartbeats 4000000
/-! The layer, part n: a text's module, the law's end. -/
namespace SH
open PySem PySem.Spec PyProof.Rows L2

structure ModD where
  mInts : List (Str × Int)
  mStrs : List (Str × Str)
  mExcs : List Str
  mBlts : List Str
  mGcds : List Str
  mFns : List He.DefD
  mSubs : List (Nat × List (Str × Bool))
  mLams : List Str
def ModD.tf (m : ModD) : List He.Defn := m.mLams.map fun x => (x, none)
/-- the tables of the defs that make lambdas -/
def ModD.tbl (m : ModD) (K : PySem.W.Frag) : TB := m.mLams.map fun x => ((He.cT K (x, none)).2, x ++ ".<locals>." ++ "<lambda>")
def ModD.fa (m : ModD) : List He.Fa := m.mInts.map (fun p => .int p.1 p.2) ++ (m.mStrs.map (fun p => .str p.1 p.2) ++ (m.mExcs.map .glo ++ (m.mExcs.map .exc ++ (m.mBlts.map .free ++ m.mFns.map (fun d => .glo d.name)))))
def ModD.ca (m : ModD) (K : PySem.W.Frag) : CA := ⟨fun i => He.ga K (m.mExcs.getD i ""), m.tbl K⟩
def ModD.lamU (m : ModD) (K : PySem.W.Frag) : Bool := (m.tbl K).all fun p => (m.tbl K).all fun q => decide (p.1 = q.1 → p.2 = q.2)
/-- what is known of the tables in a base -/
def ModD.tbs (m : ModD) (K : PySem.W.Frag) (base : Heap) (mg : Str → Option Value) : Prop := ∀ p ∈ m.tf.map (He.cT K), LamX.TabB base mg p.1 p.2
def excCB (K : PySem.W.Frag) (D : Addr) : Bool := He.eqO (PySem.W.findIn K (.ref D) "__getattribute__") (some (some (.builtin "BaseException.__getattribute__"))) && (He.eqO (PySem.W.findIn K (.ref D) "__getattr__") (some none) && (decide (PySem.W.subIn K (.ref D) (.type "BaseException") = some true) && (PySem.W.hasDictIn K D &&
  (He.eqO (PySem.W.findIn K (.ref D) "__class__") (some (some (.builtin "object.__class__"))) && (He.eqO (PySem.W.specialIn K (.builtin "object.__class__") "__get__") (some (some (.builtin "getset_descriptor.__get__"))) && (decide (PySem.W.takesIn K (.builtin "object.__class__") = some true) && decide (PySem.W.mroIn K D (.type "object") = some true)))))))
theorem excCB_ok {K : PySem.W.Frag} {D : Addr} (h : excCB K D = true) : ExcC K D := by
  unfold excCB at h
  simp only [Bool.and_eq_true, decide_eq_true_eq] at h
  obtain ⟨h1, h2, h3, h4, h5, h6, h7, h8⟩ := h
  exact ⟨He.eqO_ok h1, He.eqO_ok h2, h3, h4, He.eqO_ok h5, He.eqO_ok h6, h7, h8⟩
def subB (K : PySem.W.Frag) (C : Addr) (p : Str × Bool) : Bool := He.eqO (PySem.W.nsIn K mainGlobals p.1) (some (some (.ref (He.ga K p.1)))) && (decide (PySem.W.exmOne K (.ref C) (.ref (He.ga K p.1)) = some p.2) && decide (PySem.W.kitOne K (.ref C) (.ref (He.ga K p.1)) = some p.2))
def ModD.ex (m : ModD) (K : PySem.W.Frag) : Bool := (m.mGcds.all fun x => He.eqO (PySem.W.nsIn K mainGlobals x) (some (some (.builtin "math.gcd")))) && ((m.mSubs.all fun p => excCB K (m.ca K p.1) && p.2.all (subB K (m.ca K p.1))) && m.lamU K)
def numL : Nat → List Str → List (Str × Nat)
  | _, [] => []
  | i, x :: r => (x, i) :: numL (i + 1) r
def ModD.tab (m : ModD) : Tab := ⟨[], m.mInts.map (fun p => (p.1, .int p.2)) ++ m.mStrs.map (fun p => (p.1, .str p.2)), numL 0 m.mExcs, m.mBlts, m.mGcds, m.mSubs⟩
theorem numL_ok : ∀ {l : List Str} {i c : Nat} {x : Str}, (numL i l).lookup x = some c → i ≤ c ∧ l[c - i]? = some x
  | [], _, _, _, h => by cases h
  | y :: r, i, c, x, h => by
    rw [numL, List.lookup_cons] at h
    split at h
    · rename_i e
      cases h
      rw [eq_of_beq e, Nat.sub_self]
      exact ⟨Nat.le_refl _, rfl⟩
    · obtain ⟨h1, h2⟩ := numL_ok h
      have e : c - i = (c - (i + 1)) + 1 := by omega
      rw [e, List.getElem?_cons_succ]
      exact ⟨by omega, h2⟩
theorem lookup_map {α : Type} {g : α → D} : ∀ {l : List (Str × α)} {x : Str} {d : D}, (l.map fun p => (p.1, g p.2)).lookup x = some d → ∃ a, (x, a) ∈ l ∧ d = g a
  | [], _, _, h => by cases h
  | (y, a) :: r, x, d, h => by
    rw [List.map_cons, List.lookup_cons] at h
    split at h
    · rename_i e
      cases h
      have e := eq_of_beq e
      exact ⟨a, by rw [e]; exact List.mem_cons_self .., rfl⟩
    · obtain ⟨b, h1, h2⟩ := lookup_map h
      exact ⟨b, List.mem_cons_of_mem _ h1, h2⟩
theorem lookup_app {α : Type} : ∀ {l r : List (Str × α)} {x : Str} {a : α}, (l ++ r).lookup x = some a → l.lookup x = some a ∨ r.lookup x = some a
  | [], r, x, a, h => .inr h
  | (y, b) :: l, r, x, a, h => by
    rw [List.cons_append, List.lookup_cons] at h
    rw [List.lookup_cons]
    split at h
    · exact .inl h
    · exact lookup_app h
theorem mem_lookupN {α : Type} : ∀ {l : List (Nat × α)} {i : Nat} {a : α}, l.lookup i = some a → (i, a) ∈ l
  | [], _, _, h => by cases h
  | (j, b) :: l, i, a, h => by
    rw [List.lookup_cons] at h
    split at h
    · rename_i e
      cases h
      have e := eq_of_beq e
      rw [e]
      exact List.mem_cons_self ..
    · exact List.mem_cons_of_mem _ (mem_lookupN h)
section
variable {P : Program} {w : World} {K : PySem.W.Frag} {mg : Str → Option Value} {base h : Heap} {ca : CA} {k : Nat} {T : Tab} {m : ModD} {fns : List He.DefD}
theorem mo_zero (X : K.In h) (G : h.Ns mainGlobals mg) (c : He.SaysX m.fa m.mFns [] m.tf m.ex w h K) : Mo P w K mg base (m.ca K) 0 m.tab := by
  have hf : ∀ f ∈ m.fa, He.Fa.ok K f = true := fun f hf => He.SaysD.facts c.t.d hf
  have hm := c.more
  unfold ModD.ex at hm
  rw [Bool.and_eq_true, Bool.and_eq_true] at hm
  replace hm := And.intro hm.1 hm.2.1
  have sub0 : ∀ i l, m.mSubs.lookup i = some l → (excCB K (m.ca K i) && l.all (subB K (m.ca K i))) = true := fun i l e => List.all_eq_true.mp hm.2 (i, l) (mem_lookupN e)
  refine ⟨fun x n f e => (nomatch (show (none : Option (Nat × (List D → Res D))) = some (n, f) from e)), fun x d e => ?_, fun x i e => ?_, fun x hx => ?_, fun x hx => ?_, fun i l x b e1 e2 => ?_, fun i l e1 => ?_⟩
  · rcases lookup_app e with e | e
    · obtain ⟨i, h1, rfl⟩ := lookup_map (g := fun i => PyData.int i) e
      obtain ⟨t, h2⟩ := He.int_ok X G (hf (.int x i) (by unfold ModD.fa; exact List.mem_append_left _ (List.mem_map.mpr ⟨_, h1, rfl⟩)))
      exact ⟨_, .int i, h2, ⟨t, rfl⟩, fun F => .int i⟩
    · obtain ⟨i, h1, rfl⟩ := lookup_map (g := fun i => PyData.str i) e
      obtain ⟨t, h2⟩ := He.str_ok X G (hf (.str x i) (by unfold ModD.fa; exact List.mem_append_right _ (List.mem_append_left _ (List.mem_map.mpr ⟨_, h1, rfl⟩))))
      exact ⟨_, .str i, h2, ⟨t, rfl⟩, fun F => .str i⟩
  · obtain ⟨_, h1⟩ := numL_ok e
    rw [Nat.sub_zero] at h1
    have hm := List.mem_of_getElem? h1
    have ec : m.ca K i = He.ga K x := by
      show He.ga K (m.mExcs.getD i "") = _
      rw [List.getD_eq_getElem?_getD, h1]
      rfl
    have g := He.glo_ok X G (hf (.glo x) (by unfold ModD.fa; exact List.mem_append_right _ (List.mem_append_right _ (List.mem_append_left _ (List.mem_map.mpr ⟨_, hm, rfl⟩)))))
    obtain ⟨q1, q2, q3, q4⟩ := He.exc_ok (hf (.exc x) (by unfold ModD.fa; exact List.mem_append_right _ (List.mem_append_right _ (List.mem_append_right _ (List.mem_append_left _ (List.mem_map.mpr ⟨_, hm, rfl⟩))))))
    rw [ec]
    exact ⟨⟨_, _, _, _, PySem.F.excBase_ValueError, q1⟩, g, q2, q3, q4⟩
  · exact He.free_ok X G (hf (.free x) (by unfold ModD.fa; exact List.mem_append_right _ (List.mem_append_right _ (List.mem_append_right _ (List.mem_append_right _ (List.mem_append_left _ (List.mem_map.mpr ⟨_, hx, rfl⟩)))))))
  · exact PySem.W.mg_of X G (He.eqO_ok (List.all_eq_true.mp hm.1 x hx))
  · have h1 := sub0 i l e1
    rw [Bool.and_eq_true] at h1
    have h2 := List.all_eq_true.mp h1.2 (x, b) (PySem.mem_of_lookup e2)
    unfold subB at h2
    simp only [Bool.and_eq_true, decide_eq_true_eq] at h2
    exact ⟨_, PySem.W.mg_of X G (He.eqO_ok h2.1), h2.2.1, h2.2.2⟩
  · have h1 := sub0 i l e1
    rw [Bool.and_eq_true] at h1
    exact excCB_ok h1.1
theorem glo_of (X : K.In h) (G : h.Ns mainGlobals mg) (c : He.SaysX m.fa m.mFns [] m.tf m.ex w h K) {d : He.DefD} (hd : d ∈ m.mFns) : mg d.name = some (.ref (He.ga K d.name)) :=
  He.glo_ok X G (He.SaysD.facts c.t.d (by unfold ModD.fa; exact List.mem_append_right _ (List.mem_append_right _ (List.mem_append_right _ (List.mem_append_right _ (List.mem_append_right _ (List.mem_map.mpr ⟨d, hd, rfl⟩)))))))
theorem fn_step {x qual : Str} {params : Arguments} {body : List Stmt} {scope : Scope} {f : Addr} {fd : FuncData} {N ps : List Str} {n j : Nat} {g : SEn → Out} (F : FunD K x qual params body scope [] [] f fd)
    (S : FnScope N ps scope) (mo : Mo P w K mg base ca k T) (h : cSs (cS T n j (mkSC N scope)) body = some g) : FnOk P w K mg base (L2.CX P w) (k + 1) f fd ps (spOf ca.a K ca.T ps.length (runFn ps.length N.length g)) :=
  FunD.ok F S (fun vs H Q E ⟨ds, F, _, _, rl, hl, _⟩ => by rw [rl.length]; exact hl) fun cdv A outer s H vs Q E hr sp => body_ok (lm := false) S mo h cdv (fun z => absurd z Bool.false_ne_true) A outer s H vs Q E hr sp
/-- a def that makes lambdas -/
theorem fn_stepL {x qual : Str} {params : Arguments} {body : List Stmt} {scope : Scope} {f : Addr} {fd : FuncData} {N ps : List Str} {n j : Nat} {g : SEn → Out} {p : He.Defn} (F : FunD K x qual params body scope [] [] f fd) (ef : He.fAd K p = f)
    (S : FnScope N ps scope) (mo : Mo P w K mg base ca k T) (h : cSs (cS T n j (mkSCL N scope)) body = some g)
    (tb : LamX.TabB base mg (He.cT K p).1 (He.cT K p).2) (hm : ((He.cT K p).2, (qual ++ ".<locals>.") ++ "<lambda>") ∈ ca.T) (hu : ∀ q ∈ ca.T, q.1 = (He.cT K p).2 → q.2 = (qual ++ ".<locals>.") ++ "<lambda>") :
    FnOk P w K mg base (L2.CX P w) (k + 1) f fd ps (spOf ca.a K ca.T ps.length (runFn ps.length N.length g)) := by
  obtain ⟨oc, od, dV, kV, doc, pm, an, cdv, ct, osl, rfl, lk, hcd, _, _⟩ := F.ex
  obtain ⟨cc, rfl⟩ := He.codeIn_ref hcd
  have ec : He.codeOf K p = cc := He.codeOf_eq (by rw [ef]; exact lk) rfl
  refine fn_of lk hcd S (fun vs H Q E ⟨ds, F, _, _, rl, hl, _⟩ => by rw [rl.length]; exact hl) fun A outer s H vs Q E hr sp => body_ok (lm := true) S mo h (.ref cc) (fun _ => ⟨cc, _, rfl, ?_, hm, hu⟩) A outer s H vs Q E hr sp
  have e1 : (He.cT K p).1 = cc := ec
  rw [e1] at tb
  exact tb
theorem Mo.add {x : Str} {f : Addr} {fd : FuncData} {ps : List Str} {F : List D → Res D} (mo : Mo P w K mg base ca k T) (ok : FnOk P w K mg base (L2.CX P w) (k + 1) f fd ps (spOf ca.a K ca.T ps.length F)) (hm : mg x = some (.ref f)) (hk : PySem.W.keepIn K (.ref f) = true) (hb : Binds K fd ps []) :
    Mo P w K mg base ca (k + 1) { T with fns := (x, ps.length, F) :: T.fns } := by
  refine ⟨fun y n g e => ?_, mo.cons, mo.excs, mo.blts, mo.gcds, mo.subs, mo.excC⟩
  rw [List.lookup_cons] at e
  split at e
  · rename_i q
    cases e
    rw [eq_of_beq q]
    exact ⟨⟨f, fd, ps, ok, rfl, hm, hk, hb⟩⟩
  · obtain ⟨⟨g', fd', ps', h1, h2, h3, h4, h5⟩⟩ := mo.fns y n g e
    exact ⟨⟨g', fd', ps', h1.mono (Nat.le_succ k), h2, h3, h4, h5⟩⟩
/-- a def's parameters are bound one by one -/
def BindOk (d : He.DefD) (ps : List Str) : Prop := ∀ (kV doc pm : Value) (an : Option Addr) (cdv ct : Value) (us : List Value), us.length = ps.length → bindArgs (PySem.W.fnOf d.name d.qual d.params d.body d.scope .none kV doc pm an cdv ct) ⟨us, []⟩ = pure (ps.zip us)
theorem mo_def (X : K.In h) (G : h.Ns mainGlobals mg) (c : He.SaysX m.fa m.mFns [] m.tf m.ex w h K) {d : He.DefD} {N ps : List Str} {n j : Nat} {g : SEn → Out} (hd : d ∈ m.mFns) (ha : d.at_ = (d.name, none)) (hv : d.dfl = []) (hk : d.kwd = []) (S : FnScope N ps d.scope) (hb : BindOk d ps)
    (mo : Mo P w K mg base ca k T) (hc : cSs (cS T n j (mkSC N d.scope)) d.body = some g) : Mo P w K mg base ca (k + 1) { T with fns := (d.name, ps.length, runFn ps.length N.length g) :: T.fns } := by
  obtain ⟨fd, F⟩ := He.SaysD.defs c.t.d hd
  have e1 : d.dvs K = [] := by unfold He.DefD.dvs; rw [hv]; rfl
  have e2 : d.kws K = [] := by unfold He.DefD.kws; rw [hk]; rfl
  have e3 : He.fAd K d.at_ = He.ga K d.name := by rw [ha]; rfl
  rw [e1, e2, e3] at F
  exact mo.add (fn_step F S mo hc) (glo_of X G c hd) F.kp (FunD.bindsN F hb)
theorem lam_hu (c : He.SaysX m.fa m.mFns [] m.tf m.ex w h K) {x : Str} (hx : x ∈ m.mLams) : ((He.cT K (x, none)).2, (x ++ ".<locals>.") ++ "<lambda>") ∈ (m.ca K).T ∧ ∀ q ∈ (m.ca K).T, q.1 = (He.cT K (x, none)).2 → q.2 = (x ++ ".<locals>.") ++ "<lambda>" := by
  have hm := c.more
  unfold ModD.ex at hm
  rw [Bool.and_eq_true, Bool.and_eq_true] at hm
  have h1 : ((He.cT K (x, none)).2, (x ++ ".<locals>.") ++ "<lambda>") ∈ m.tbl K := List.mem_map.mpr ⟨x, hx, rfl⟩
  refine ⟨h1, fun q hq e => ?_⟩
  have h2 := List.all_eq_true.mp (List.all_eq_true.mp hm.2.2 q hq) _ h1
  exact of_decide_eq_true h2 e
theorem mo_defL (X : K.In h) (G : h.Ns mainGlobals mg) (c : He.SaysX m.fa m.mFns [] m.tf m.ex w h K) (tb : m.tbs K base mg) {d : He.DefD} {N ps : List Str} {n j : Nat} {g : SEn → Out} (hl : d.name ∈ m.mLams) (hq : d.qual = d.name) (hd : d ∈ m.mFns) (ha : d.at_ = (d.name, none)) (hv : d.dfl = []) (hk : d.kwd = []) (S : FnScope N ps d.scope) (hb : BindOk d ps)
    (mo : Mo P w K mg base (m.ca K) k T) (hc : cSs (cS T n j (mkSCL N d.scope)) d.body = some g) : Mo P w K mg base (m.ca K) (k + 1) { T with fns := (d.name, ps.length, runFn ps.length N.length g) :: T.fns } := by
  obtain ⟨fd, F⟩ := He.SaysD.defs c.t.d hd
  have e1 : d.dvs K = [] := by unfold He.DefD.dvs; rw [hv]; rfl
  have e2 : d.kws K = [] := by unfold He.DefD.kws; rw [hk]; rfl
  have e3 : He.fAd K d.at_ = He.ga K d.name := by rw [ha]; rfl
  rw [e1, e2, e3] at F
  obtain ⟨h1, h2⟩ := lam_hu c hl
  rw [← hq] at h1 h2
  refine mo.add (fn_stepL (p := (d.name, none)) F rfl S mo hc (tb _ (List.mem_map_of_mem (List.mem_map_of_mem hl))) ?_ ?_) (glo_of X G c hd) F.kp (FunD.bindsN F hb)
  · rw [hq] at h1 ⊢
    exact h1
  · rw [hq] at h2 ⊢
    exact h2
/-- the law's def -/
structure LawDef (P : Program) (w : World) (m : ModD) (h : Heap) (K : PySem.W.Frag) (mg : Str → Option Value) (k : Nat) (f : Addr) (x : Str) (F : List D → Res D) (fd : FuncData) : Prop where
  bind : ∀ (s : Shared) (u : Value), BindsTo s fd ⟨[u], []⟩ [(x, u)]
  ok : ∀ base : Heap, m.tbs K base mg → FnOk P w K mg base (L2.CX P w) k f fd [x] (spOf (m.ca K).a K (m.ca K).T 1 F)
  hd : ∀ p ∈ m.tf.map (He.cT K), PySem.W.CodeHd h p.1 p.2
  out : ∀ p ∈ m.tf.map (He.cT K), K.lookup p.2 = none
  empty : ∀ p ∈ m.tf.map (He.cT K), h.get? p.2 = some { cls := .none, data := .fields #[] }
theorem law_def (X : K.In h) (G : h.Ns mainGlobals mg) (c : He.SaysX m.fa m.mFns [] m.tf m.ex w h K) {d : He.DefD} {N : List Str} {x : Str} {n j : Nat} {g : SEn → Out} (hd : d ∈ m.mFns) (ha : d.at_ = (d.name, none)) (hv : d.dfl = []) (hk : d.kwd = []) (S : FnScope N [x] d.scope) (hb : BindOk d [x])
    (mo : ∀ base : Heap, m.tbs K base mg → Mo P w K mg base (m.ca K) k T) (hc : cSs (cS T n j (mkSC N d.scope)) d.body = some g) : ∃ fd : FuncData, LawDef P w m h K mg (k + 1) (He.ga K d.name) x (runFn 1 N.length g) fd := by
  obtain ⟨fd, F⟩ := He.SaysD.defs c.t.d hd
  have e1 : d.dvs K = [] := by unfold He.DefD.dvs; rw [hv]; rfl
  have e2 : d.kws K = [] := by unfold He.DefD.kws; rw [hk]; rfl
  have e3 : He.fAd K d.at_ = He.ga K d.name := by rw [ha]; rfl
  rw [e1, e2, e3] at F
  refine ⟨fd, fun s u => FunD.bindsA F hb s [u] rfl, fun base tb => fn_step F S (mo base tb) hc, fun p hp => ?_, fun p hp => ?_, fun p hp => ?_⟩
  · obtain ⟨q, hq, rfl⟩ := List.mem_map.mp hp
    exact PySem.W.codeHd_of_K X (c.hd q hq)
  · obtain ⟨q, hq, rfl⟩ := List.mem_map.mp hp
    exact c.out q hq
  · obtain ⟨q, hq, rfl⟩ := List.mem_map.mp hp
    exact c.empty q hq
/-- the script as a datum -/
theorem rp_script {H : Hp} {a : Addr} {s : Heap} {vs : List Value} {ns : List Int} (KX : K.In s) (ha : s.get? a = some { cls := .type "list", data := .seq vs.toArray }) (hq : SqL K H a (ns.map V.int)) : Rp K H (.ref a) (.list (ns.map PyData.int)) := by
  have rl : RpL K H (ns.map V.int) (ns.map PyData.int) := by
    clear ha hq
    induction ns with
    | nil => exact .nil
    | cons n r ih => exact .cons (.int n) ih
  refine .lst ?_ rl
  rcases hq with q | ⟨o, its, n, h1, h2, h3, h4, h5, h6⟩
  · exact .inl q
  · have e := KX a o h1
    rw [ha] at e
    cases e
    have e2 : Data.seq vs.toArray 0 = Data.seq its n := h4
    cases e2
    exact .inr ⟨_, 0, h1, h5, h6⟩
end
/-- the law: what its def comes to at every script -/
theorem law_end {l : PySem.W.OpenLaw} {k : Nat} {q : Program} {loose : List Str} {XP : (Str → Option Value) → Heap → Prop} {YP : World → Heap → Prop} {d : DefRec} {x : Str} {f : List D → Res D} {m : ModD}
    (hn : l.most = some 63) (hdf : d.params.defaults = []) (hr : Room k callerA) (hf : ∀ ns : List Int, ns.length ≤ 63 → f [.list (ns.map PyData.int)] = .ok (.bool true))
    (F : ∀ (w : World) (mg : Str → Option Value) (fa : Addr) (h : Heap), YP w h → h.Ns mainGlobals mg → mg d.name = some (.ref fa) →
      ∃ (K : PySem.W.Frag) (fd : FuncData), K.In h ∧ LawDef l.prog w m h K mg k fa x f fd) :
    PySem.W.WalkO q loose XP YP l.row.toRowW d [] (fun f vs => PySem.call f vs) := by
  refine Att.attach_callB hn hdf fun w s₀ s₁ mg mb fa o pm cd doc a vs ns G Y ho hd hcd hmg hobj hints hlen hbits hg => ?_
  obtain ⟨K, fd, KX, L⟩ := F w mg fa _ Y G.T.g hmg
  refine LamX.law_callTs (cs := m.tf.map (He.cT K)) KX G.T.g G.T.b G.T.builtins G.T.nolimit hg L.empty L.out L.hd G.T.bmain hobj hints (Nat.le_trans hlen (by decide)) hr (fun base _ _ tb => L.ok base tb) L.bind (fun H hH hS => ?_) fun H e s' z => ?_
  · refine ⟨[.list (ns.map PyData.int)], H, Same.refl _, fun p hp => ?_, .cons (rp_script KX hobj hS) .nil, rfl, ?_⟩
    · obtain ⟨y, hy, rfl⟩ := List.mem_map.mp hp
      exact TabS.nil (hH _ (List.mem_map_of_mem (List.mem_map_of_mem hy)))
    · rw [hf ns hlen]
      exact fun v F' H' _ _ r => r.bl'
  · obtain ⟨_, _, _, _, _, _, _, _, _, _, _, _, z⟩ := z
    exact z.elim
end SH


set_option Elab.async false
set_option linter.all false
set_option maxRecDepth 100000
set_option maxHeartbeats 4000000
/-! The layer, part o: words for reckoning with what the reader gives. -/
namespace SH
open PySem PySem.Spec PyProof.Rows L2

/-! ### loops -/
theorem compGo_eq {α : Type} {f : D → Res (Option D)} {enc : α → D} {o : α → Option D} : ∀ {xs : List α}, (∀ x ∈ xs, f (enc x) = .ok (o x)) → compGo f (xs.map enc) = .ok (xs.filterMap o)
  | [], _ => rfl
  | x :: r, h => by
    rw [List.map_cons, compGo, h x (List.mem_cons_self ..), Res.bind_ok, compGo_eq fun y hy => h y (List.mem_cons_of_mem _ hy), Res.bind_ok, List.filterMap_cons]
    cases o x <;> rfl
theorem compGo_map {α : Type} {f : D → Res (Option D)} {enc : α → D} {o : α → D} {xs : List α} (h : ∀ x ∈ xs, f (enc x) = .ok (some (o x))) : compGo f (xs.map enc) = .ok (xs.map o) := by
  rw [compGo_eq (o := fun x => some (o x)) h, ← List.filterMap_eq_map]
  rfl
/-- a loop that comes to its end -/
theorem forGo_inv {α : Type} {g : SEn → Out} {t : Tgt} {enc : α → D} {xs : List α} (I : List α → SEn → Prop) {env : SEn} (h0 : I [] env)
    (hs : ∀ pre x post env, xs = pre ++ x :: post → I pre env → ∃ e1 env', bindS t (enc x) env = some e1 ∧ (g e1 = .nx env' ∨ g e1 = .ct env') ∧ I (pre ++ [x]) env') : ∃ env', forGo g t (xs.map enc) env = .nx env' ∧ I xs env' := by
  have go : ∀ (post pre : List α) (env : SEn), xs = pre ++ post → I pre env → ∃ env', forGo g t (post.map enc) env = .nx env' ∧ I xs env' := by
    intro post
    induction post with
    | nil =>
      intro pre env e h
      rw [List.append_nil] at e
      rw [e]
      exact ⟨env, rfl, h⟩
    | cons x post ih =>
      intro pre env e h
      obtain ⟨e1, env', h1, h2, h3⟩ := hs pre x post env e h
      obtain ⟨env'', h4, h5⟩ := ih (pre ++ [x]) env' (by rw [e]; simp) h3
      refine ⟨env'', ?_, h5⟩
      rw [List.map_cons, forGo, h1]
      simp only
      rcases h2 with h2 | h2 <;> rw [h2] <;> exact h4
  exact go xs [] env rfl h0
/-- a loop that may return -/
theorem forGo_ret {α : Type} {g : SEn → Out} {t : Tgt} {enc : α → D} {xs : List α} (I : List α → SEn → Prop) (R : D → Prop) {env : SEn} (h0 : I [] env)
    (hs : ∀ pre x post env, xs = pre ++ x :: post → I pre env → ∃ e1, bindS t (enc x) env = some e1 ∧ ((∃ env', (g e1 = .nx env' ∨ g e1 = .ct env') ∧ I (pre ++ [x]) env') ∨ ∃ d, g e1 = .rt d ∧ R d)) :
    (∃ env', forGo g t (xs.map enc) env = .nx env' ∧ I xs env') ∨ ∃ d, forGo g t (xs.map enc) env = .rt d ∧ R d := by
  have go : ∀ (post pre : List α) (env : SEn), xs = pre ++ post → I pre env → (∃ env', forGo g t (post.map enc) env = .nx env' ∧ I xs env') ∨ ∃ d, forGo g t (post.map enc) env = .rt d ∧ R d := by
    intro post
    induction post with
    | nil =>
      intro pre env e h
      rw [List.append_nil] at e
      rw [e]
      exact .inl ⟨env, rfl, h⟩
    | cons x post ih =>
      intro pre env e h
      obtain ⟨e1, h1, h2⟩ := hs pre x post env e h
      rw [List.map_cons, forGo, h1]
      simp only
      rcases h2 with ⟨env', h2, h3⟩ | ⟨d, h2, h3⟩
      · rcases h2 with h2 | h2 <;> rw [h2] <;> exact ih (pre ++ [x]) env' (by rw [e]; simp) h3
      · rw [h2]
        exact .inr ⟨d, rfl, h3⟩
  exact go xs [] env rfl h0

theorem range_split {n x : Nat} {pre post : List Nat} (h : List.range n = pre ++ x :: post) : x = pre.length ∧ pre.length < n := by
  have hl : pre.length < n := by
    have := congrArg List.length h
    simp at this
    omega
  have e : (List.range n)[pre.length]? = some x := by rw [h]; simp
  rw [List.getElem?_range hl] at e
  exact ⟨(Option.some.inj e).symm, hl⟩
/-- a loop over a range -/
theorem forGo_range {g : SEn → Out} {t : Tgt} {lo : Int} {n : Nat} (I : Nat → SEn → Prop) {env : SEn} (h0 : I 0 env)
    (hs : ∀ k env, k < n → I k env → ∃ e1 env', bindS t (.int (lo + k)) env = some e1 ∧ (g e1 = .nx env' ∨ g e1 = .ct env') ∧ I (k + 1) env') : ∃ env', forGo g t (rangeD lo n) env = .nx env' ∧ I n env' := by
  have := forGo_inv (g := g) (t := t) (enc := fun i : Nat => PyData.int (lo + i)) (xs := List.range n) (fun pre env => I pre.length env) h0 fun pre x post env e h => by
    obtain ⟨h1, h2⟩ := range_split e
    subst h1
    obtain ⟨e1, env', q1, q2, q3⟩ := hs _ env h2 h
    exact ⟨e1, env', q1, q2, by rw [List.length_append]; exact q3⟩
  rw [List.length_range] at this
  exact this
theorem forGo_rangeR {g : SEn → Out} {t : Tgt} {lo : Int} {n : Nat} (I : Nat → SEn → Prop) (R : D → Prop) {env : SEn} (h0 : I 0 env)
    (hs : ∀ k env, k < n → I k env → ∃ e1, bindS t (.int (lo + k)) env = some e1 ∧ ((∃ env', (g e1 = .nx env' ∨ g e1 = .ct env') ∧ I (k + 1) env') ∨ ∃ d, g e1 = .rt d ∧ R d)) :
    (∃ env', forGo g t (rangeD lo n) env = .nx env' ∧ I n env') ∨ ∃ d, forGo g t (rangeD lo n) env = .rt d ∧ R d := by
  have := forGo_ret (g := g) (t := t) (enc := fun i : Nat => PyData.int (lo + i)) (xs := List.range n) (fun pre env => I pre.length env) R h0 fun pre x post env e h => by
    obtain ⟨h1, h2⟩ := range_split e
    subst h1
    obtain ⟨e1, q1, q2⟩ := hs _ env h2 h
    refine ⟨e1, q1, ?_⟩
    rcases q2 with ⟨env', q2, q3⟩ | q2
    · exact .inl ⟨env', q2, by rw [List.length_append]; exact q3⟩
    · exact .inr q2
  rw [List.length_range] at this
  exact this
theorem xSeq_of_nx {g h : SEn → Out} {env e : SEn} (q : g env = .nx e) : xSeq g h env = h e := by unfold xSeq; rw [q]
theorem xSeq_of_rt {g h : SEn → Out} {env : SEn} {d : D} (q : g env = .rt d) : xSeq g h env = .rt d := by unfold xSeq; rw [q]

/-- how a turn may end: on it goes (I), break (B), return (R) -/
def Turn (I B : SEn → Prop) (R : D → Prop) : Out → Prop
  | .nx e => I e
  | .ct e => I e
  | .bk e => B e
  | .rt d => R d
  | _ => False
theorem turn_nx {I B : SEn → Prop} {R : D → Prop} {e : SEn} (h : I e) : Turn I B R (.nx e) := h
theorem turn_ct {I B : SEn → Prop} {R : D → Prop} {e : SEn} (h : I e) : Turn I B R (.ct e) := h
theorem turn_rt {I B : SEn → Prop} {R : D → Prop} {d : D} (h : R d) : Turn I B R (.rt d) := h
theorem turn_bk {I B : SEn → Prop} {R : D → Prop} {e : SEn} (h : B e) : Turn I B R (.bk e) := h
def NoE : SEn → Prop := fun _ => False
def NoD : D → Prop := fun _ => False
theorem seq_list {α : Type} {enc : α → D} {xs : List α} {ds : List D} {g h : SEn → Out} {t : Tgt} {env : SEn} {P : Out → Prop} (I : List α → SEn → Prop) (B : SEn → Prop) (R : D → Prop) (e : ds = xs.map enc) (h0 : I [] env)
    (hs : ∀ pre x post env, xs = pre ++ x :: post → I pre env → ∃ e1, bindS t (enc x) env = some e1 ∧ Turn (I (pre ++ [x])) B R (g e1))
    (hk : ∀ env, I xs env → P (h env)) (hb : ∀ env, B env → P (h env)) (hr : ∀ d, R d → P (.rt d)) : P (xSeq (forGo g t ds) h env) := by
  subst e
  have go : ∀ (post pre : List α) (env : SEn), xs = pre ++ post → I pre env → P (xSeq (forGo g t (post.map enc)) h env) := by
    intro post
    induction post with
    | nil =>
      intro pre env e q
      rw [List.append_nil] at e
      rw [e] at hk
      exact hk env q
    | cons x post ih =>
      intro pre env e q
      obtain ⟨e1, h1, h2⟩ := hs pre x post env e q
      have eq : forGo g t ((x :: post).map enc) env = match g e1 with
        | .nx e => forGo g t (post.map enc) e
        | .ct e => forGo g t (post.map enc) e
        | .bk e => .nx e
        | o => o := by
        rw [List.map_cons, forGo, h1]
        try simp only
        all_goals (cases g e1 <;> rfl)
      unfold xSeq
      rw [eq]
      cases o : g e1 with
      | nx e' => rw [o] at h2; exact ih (pre ++ [x]) e' (by rw [e]; simp) h2
      | ct e' => rw [o] at h2; exact ih (pre ++ [x]) e' (by rw [e]; simp) h2
      | bk e' => rw [o] at h2; exact hb e' h2
      | rt d => rw [o] at h2; exact hr d h2
      | exc c e' => rw [o] at h2; exact h2.elim
      | stuck => rw [o] at h2; exact h2.elim
  exact go xs [] env rfl h0
theorem seq_range {lo : Int} {n : Nat} {g h : SEn → Out} {t : Tgt} {env : SEn} {P : Out → Prop} (I : Nat → SEn → Prop) (B : SEn → Prop) (R : D → Prop) (h0 : I 0 env)
    (hs : ∀ k env, k < n → I k env → ∃ e1, bindS t (.int (lo + k)) env = some e1 ∧ Turn (I (k + 1)) B R (g e1))
    (hk : ∀ env, I n env → P (h env)) (hb : ∀ env, B env → P (h env)) (hr : ∀ d, R d → P (.rt d)) : P (xSeq (forGo g t (rangeD lo n)) h env) := by
  refine seq_list (enc := fun i : Nat => PyData.int (lo + i)) (xs := List.range n) (fun pre env => I pre.length env) B R rfl h0 (fun pre x post env e q => ?_) (fun env q => hk env (by rw [List.length_range] at q; exact q)) hb hr
  obtain ⟨h1, h2⟩ := range_split e
  subst h1
  obtain ⟨e1, q1, q2⟩ := hs _ env h2 q
  exact ⟨e1, q1, by rw [List.length_append]; exact q2⟩
/-- while, by a measure -/
theorem while_seq {m : List Nat} {c : En → Res Bool} {g h : SEn → Out} {env : SEn} {P : Out → Prop} {n : Nat} (I : Nat → SEn → Prop) (B : SEn → Prop) (R : D → Prop) (hn : n < 1000000) (h0 : I n env)
    (hs : ∀ n env, I n env → (c (mview m 0 env) = .ok false ∧ P (h env)) ∨ (c (mview m 0 env) = .ok true ∧ Turn (fun e => ∃ n', n' < n ∧ I n' e) B R (g env)))
    (hb : ∀ env, B env → P (h env)) (hr : ∀ d, R d → P (.rt d)) : P (xSeq (xWhile m c g) h env) := by
  have go : ∀ (f n : Nat) (env : SEn), n < f → I n env → P (xSeq (whileGo m c g f) h env) := by
    intro f
    induction f with
    | zero => intro n env hf; omega
    | succ f ih =>
      intro n env hf q
      unfold xSeq
      rw [whileGo]
      rcases hs n env q with ⟨h1, h2⟩ | ⟨h1, h2⟩
      · rw [h1]
        exact h2
      · rw [h1]
        show P (match (if true = true then (match g env with
          | .nx e => whileGo m c g f e
          | .ct e => whileGo m c g f e
          | .bk e => Out.nx e
          | o => o) else Out.nx env) with
          | .nx e => h e
          | o => o)
        rw [if_pos rfl]
        cases o : g env with
        | nx e' => rw [o] at h2; obtain ⟨n', hn', q'⟩ := h2; exact ih n' e' (by omega) q'
        | ct e' => rw [o] at h2; obtain ⟨n', hn', q'⟩ := h2; exact ih n' e' (by omega) q'
        | bk e' => rw [o] at h2; exact hb e' h2
        | rt d => rw [o] at h2; exact hr d h2
        | exc c e' => rw [o] at h2; exact h2.elim
        | stuck => rw [o] at h2; exact h2.elim
  exact go 1000000 n env hn h0

/-- a loop that returns the first find -/
def FindT (I : SEn → Prop) (r : Option D) (o : Out) : Prop := match r with
  | some d => o = .rt d
  | none => ∃ e, (o = .nx e ∨ o = .ct e) ∧ I e
theorem findT_some {I : SEn → Prop} {d : D} {r : Option D} (h : r = some d) : FindT I r (.rt d) := by rw [h]; rfl
theorem findT_none {I : SEn → Prop} {e : SEn} {r : Option D} (h : r = none) (q : I e) : FindT I r (.nx e) := by rw [h]; exact ⟨e, .inl rfl, q⟩
theorem seq_findL {α : Type} {enc : α → D} {xs : List α} {ds : List D} {g h : SEn → Out} {t : Tgt} {env : SEn} {P : Out → Prop} (I : SEn → Prop) (F : α → Option D) (e : ds = xs.map enc) (h0 : I env)
    (hs : ∀ x env, x ∈ xs → I env → ∃ e1, bindS t (enc x) env = some e1 ∧ FindT I (F x) (g e1))
    (hk : ∀ env, I env → xs.findSome? F = none → P (h env)) (hr : ∀ d, xs.findSome? F = some d → P (.rt d)) : P (xSeq (forGo g t ds) h env) := by
  refine seq_list (enc := enc) (xs := xs) (fun pre env => I env ∧ pre.findSome? F = none) NoE (fun d => xs.findSome? F = some d) e ⟨h0, rfl⟩ (fun pre x post env e q => ?_) (fun env q => hk env q.1 q.2) (fun _ z => z.elim) hr
  obtain ⟨e1, h1, h2⟩ := hs x env (by rw [e]; simp) q.1
  refine ⟨e1, h1, ?_⟩
  unfold FindT at h2
  cases hf : F x with
  | some d =>
    rw [hf] at h2
    have h2 : g e1 = .rt d := h2
    rw [h2]
    show xs.findSome? F = some d
    rw [e, List.findSome?_append, q.2]
    simp [hf]
  | none =>
    rw [hf] at h2
    have h2 : ∃ e, (g e1 = .nx e ∨ g e1 = .ct e) ∧ I e := h2
    obtain ⟨e2, h3, h4⟩ := h2
    have h5 : (pre ++ [x]).findSome? F = none := by rw [List.findSome?_append, q.2]; simp [hf]
    rcases h3 with h3 | h3 <;> rw [h3] <;> exact ⟨h4, h5⟩
theorem seq_find {lo : Int} {n : Nat} {g h : SEn → Out} {t : Tgt} {env : SEn} {P : Out → Prop} (I : SEn → Prop) (F : Nat → Option D) (h0 : I env)
    (hs : ∀ k env, k < n → I env → ∃ e1, bindS t (.int (lo + k)) env = some e1 ∧ FindT I (F k) (g e1))
    (hk : ∀ env, I env → (List.range n).findSome? F = none → P (h env)) (hr : ∀ d, (List.range n).findSome? F = some d → P (.rt d)) : P (xSeq (forGo g t (rangeD lo n)) h env) :=
  seq_findL (enc := fun i : Nat => PyData.int (lo + i)) (xs := List.range n) I F rfl h0 (fun k env hk q => hs k env (List.mem_range.mp hk) q) hk hr
theorem enumD_map {α : Type} {enc : α → D} : ∀ (xs : List α) (i : Nat), enumD i (xs.map enc) = (xs.zipIdx i).map fun p => .tuple [.int (p.2 : Nat), enc p.1]
  | [], _ => rfl
  | x :: r, i => by rw [List.map_cons, enumD, enumD_map r (i + 1), List.zipIdx_cons, List.map_cons]
theorem zipD_map {α β : Type} {f : α → D} {g : β → D} : ∀ (xs : List α) (ys : List β), zipD (xs.map f) (ys.map g) = (xs.zip ys).map fun p => .tuple [f p.1, g p.2]
  | [], _ => by simp [zipD]
  | _ :: _, [] => by simp [zipD]
  | x :: xs, y :: ys => by rw [List.map_cons, List.map_cons, zipD, zipD_map xs ys]; rfl

/-! ### data -/
theorem flatL_map {α : Type} {enc : α → D} : ∀ {xs : List α}, (∀ x ∈ xs, flat (enc x) = true) → flatL (xs.map enc) = true
  | [], _ => rfl
  | x :: r, h => by rw [List.map_cons, flatL, h x (List.mem_cons_self ..), flatL_map fun y hy => h y (List.mem_cons_of_mem _ hy)]; rfl
@[simp] theorem flatL_ints (ns : List Int) : flatL (ns.map PyData.int) = true := flatL_map fun _ _ => rfl
@[simp] theorem flatL_bools (ns : List Bool) : flatL (ns.map PyData.bool) = true := flatL_map fun _ _ => rfl
@[simp] theorem flatL_rangeD (lo : Int) (n : Nat) : flatL (rangeD lo n) = true := flatL_map fun _ _ => rfl
theorem flatL_app : ∀ (xs ys : List D), flatL (xs ++ ys) = (flatL xs && flatL ys)
  | [], ys => by simp [flatL]
  | x :: xs, ys => by rw [List.cons_append, flatL, flatL, flatL_app xs ys, Bool.and_assoc]
theorem atI_map {α : Type} {enc : α → D} {xs : List α} {i : Nat} {x : α} (h : xs[i]? = some x) : atI (xs.map enc) (i : Int) = some (enc x) := by
  have hl := (List.getElem?_eq_some_iff.mp h).1
  have e : ixN (xs.map enc).length (i : Int) = some i := by
    unfold ixN
    simp [hl]
  unfold atI
  rw [e]
  simp [h]

/-! ### reckoning: one step each -/
section
variable {α : Type} {env : SEn} {m : List Nat} {d e : D} {i j : Int} {xs ys : List D} {f : SF} {k : D × SEn → Out}
theorem rb_ok {β γ : Type} {a : β} {f : β → Res γ} : (Res.ok a).bind f = f a := id rfl
theorem rb_exc {β γ : Type} {c : Nat} {f : β → Res γ} : (Res.exc c : Res β).bind f = .exc c := id rfl
theorem onR_ok {β : Type} {a : β} {k : β → Out} : onR env (.ok a) k = k a := id rfl
theorem onR_exc {β : Type} {c : Nat} {k : β → Out} : onR env (.exc c) k = .exc c env := id rfl
theorem runFn_eq {np n : Nat} {g : SEn → Out} {ds : List D} {r : Res D} (hl : ds.length = np) (h : outR (g (startE n ds)) = r) : runFn np n g ds = r := by
  unfold runFn
  rw [if_pos hl, h]
theorem outR_rt : outR (.rt d) = .ok d := id rfl
theorem outR_nx : outR (.nx env) = .ok .none := id rfl
theorem outR_exc {c : Nat} : outR (.exc c env) = .exc c := id rfl
theorem after_t : after true m env = env := id rfl
theorem after_f : after false m env = freeze m 0 env := id rfl
theorem tr_bool {b : Bool} : truthR (.bool b) = .ok b := id rfl
theorem tr_none : truthR .none = .ok false := id rfl
theorem tr_int : truthR (.int i) = .ok (decide (i ≠ 0)) := by
  show Res.ok (i != 0) = _
  congr 1
  by_cases h : i = 0 <;> simp [h]
theorem tr_list : truthR (.list xs) = .ok (!xs.isEmpty) := by
  unfold truthR truth
  first | rfl | (cases xs <;> rfl)
theorem tr_tuple : truthR (.tuple xs) = .ok (!xs.isEmpty) := by
  unfold truthR truth
  first | rfl | (cases xs <;> rfl)
theorem toB_bool {b : Bool} : toB (.bool b) = .ok b := id rfl
theorem toI_int : toI (.int i) = .ok i := id rfl
theorem dAdd_int : dAdd (.int i) (.int j) = .ok (.int (i + j)) := id rfl
theorem dAdd_list (h : xs.length + ys.length ≤ 1000000) : dAdd (.list xs) (.list ys) = .ok (.list (xs ++ ys)) := by
  unfold dAdd
  exact if_pos h
theorem dAdd_tuple (h : xs.length + ys.length ≤ 1000000) : dAdd (.tuple xs) (.tuple ys) = .ok (.tuple (xs ++ ys)) := by
  unfold dAdd
  exact if_pos h
theorem dSub_int : dSub (.int i) (.int j) = .ok (.int (i - j)) := id rfl
theorem dMul_l (h : -18446744073709551616 < i ∧ i < 18446744073709551616) : dMul (.int i) (.int j) = .ok (.int (i * j)) := by
  have e : small i = true := decide_eq_true h
  show (if (small i || small j) = true then _ else _) = _
  rw [e]
  rfl
theorem dMul_r (h : -18446744073709551616 < j ∧ j < 18446744073709551616) : dMul (.int i) (.int j) = .ok (.int (i * j)) := by
  have e : small j = true := decide_eq_true h
  show (if (small i || small j) = true then _ else _) = _
  rw [e, Bool.or_true]
  rfl
theorem dDiv_int (h : 0 < j ∧ j < 1073741824) : dDiv (.int i) (.int j) = .ok (.int (i / j)) := if_pos h
theorem dNeg_int : dNeg (.int i) = .ok (.int (-i)) := id rfl
theorem dLt_int : dLt (.int i) (.int j) = .ok (.bool (decide (i < j))) := id rfl
theorem dLe_int : dLe (.int i) (.int j) = .ok (.bool (decide (i ≤ j))) := id rfl
theorem dGt_int : dGt (.int i) (.int j) = .ok (.bool (decide (i > j))) := id rfl
theorem dGe_int : dGe (.int i) (.int j) = .ok (.bool (decide (i ≥ j))) := id rfl
theorem dEq_int : dEq (.int i) (.int j) = .ok (.bool (decide (i = j))) := by
  show Res.ok (PyData.bool (i == j)) = _
  rw [Bool.beq_eq_decide_eq]
theorem dNe_int : dNe (.int i) (.int j) = .ok (.bool (!decide (i = j))) := by
  show Res.ok (PyData.bool (!(i == j))) = _
  rw [Bool.beq_eq_decide_eq]
theorem dEq_bool {a b : Bool} : dEq (.bool a) (.bool b) = .ok (.bool (decide (a = b))) := by
  cases a <;> cases b <;> rfl
theorem dNe_bool {a b : Bool} : dNe (.bool a) (.bool b) = .ok (.bool (!decide (a = b))) := by
  cases a <;> cases b <;> rfl
theorem dIs_none : dIs d .none = .ok (.bool (isNone d)) := by
  cases d <;> rfl
theorem dIsNot_none : dIsNot d .none = .ok (.bool (!isNone d)) := by
  cases d <;> rfl
theorem dIs_bool {a b : Bool} : dIs (.bool a) (.bool b) = .ok (.bool (decide (a = b))) := id rfl
theorem isNone_none : isNone .none = true := id rfl
theorem isNone_int : isNone (.int i) = false := id rfl
theorem isNone_bool {b : Bool} : isNone (.bool b) = false := id rfl
theorem isNone_tuple : isNone (.tuple xs) = false := id rfl
theorem isNone_list : isNone (.list xs) = false := id rfl
def optR : Option D → Res D
  | some d => .ok d
  | none => .stuck
theorem optR_ok : optR (some d) = .ok d := id rfl
theorem dIdx_list : dIdx (.list xs) (.int i) = optR (atI xs i) := id rfl
theorem dIdx_tuple : dIdx (.tuple xs) (.int i) = optR (atI xs i) := id rfl
theorem atI_0 {a : α} {r : List α} : atI (a :: r) 0 = some a := by
  unfold atI ixN
  simp
theorem atI_1 {a b : α} {r : List α} : atI (a :: b :: r) 1 = some b := by
  unfold atI ixN
  have h : (1 : Int) < ((a :: b :: r).length : Int) := by simp only [List.length_cons]; omega
  simp only [show (0 : Int) ≤ 1 by decide, if_true, h]
  rfl
theorem atI_2 {a b c : α} {r : List α} : atI (a :: b :: c :: r) 2 = some c := by
  unfold atI ixN
  have h : (2 : Int) < ((a :: b :: c :: r).length : Int) := by simp only [List.length_cons]; omega
  simp only [show (0 : Int) ≤ 2 by decide, if_true, h]
  rfl
theorem dLen_list : dLen [.list xs] = .ok (.int xs.length) := id rfl
theorem dLen_tuple : dLen [.tuple xs] = .ok (.int xs.length) := id rfl
theorem dInt_int : dInt [.int i] = .ok (.int i) := id rfl
theorem dAbs_int : dAbs [.int i] = .ok (.int (if i < 0 then -i else i)) := id rfl
theorem dTuple_list : dTuple [.list xs] = .ok (.tuple xs) := id rfl
theorem dTuple_tuple : dTuple [.tuple xs] = .ok (.tuple xs) := id rfl
theorem dList_list : dList [.list xs] = .ok (.list xs) := id rfl
theorem dList_tuple : dList [.tuple xs] = .ok (.list xs) := id rfl
theorem dSum_list {ns : List Int} (h : asInts xs = some ns) : dSum [.list xs] = .ok (.int ns.sum) := by
  show ofO (fun ns => PyData.int ns.sum) (asInts xs) = _
  rw [h]
  rfl
theorem dSum_ints {ns : List Int} : dSum [.list (ns.map PyData.int)] = .ok (.int ns.sum) := dSum_list (asInts_map ns)
theorem dSum_intsT {ns : List Int} : dSum [.tuple (ns.map PyData.int)] = .ok (.int ns.sum) := by
  show ofO (fun ns => PyData.int ns.sum) (asInts (ns.map PyData.int)) = _
  rw [asInts_map]
  rfl
theorem dAll_bools {bs : List Bool} : dAll [.list (bs.map PyData.bool)] = .ok (.bool (bs.all id)) := by
  show ofO (fun bs => PyData.bool (bs.all id)) (asBools (bs.map PyData.bool)) = _
  rw [asBools_map]
  rfl
theorem dMin_2 : dMin [.int i, .int j] = .ok (.int (if j < i then j else i)) := id rfl
theorem dMax_2 : dMax [.int i, .int j] = .ok (.int (if j > i then j else i)) := id rfl
theorem isi_int_int : dIsi "int" (.int i) = .ok (.bool true) := id rfl
theorem isi_int_bool {b : Bool} : dIsi "int" (.bool b) = .ok (.bool true) := id rfl
theorem isi_int_none : dIsi "int" .none = .ok (.bool false) := id rfl
theorem isi_int_tuple : dIsi "int" (.tuple xs) = .ok (.bool false) := id rfl
theorem isi_int_list : dIsi "int" (.list xs) = .ok (.bool false) := id rfl
theorem isi_bool_int : dIsi "bool" (.int i) = .ok (.bool false) := id rfl
theorem isi_bool_bool {b : Bool} : dIsi "bool" (.bool b) = .ok (.bool true) := id rfl
theorem isi_tuple_tuple : dIsi "tuple" (.tuple xs) = .ok (.bool true) := id rfl
theorem isi_tuple_int : dIsi "tuple" (.int i) = .ok (.bool false) := id rfl
theorem isi_tuple_none : dIsi "tuple" .none = .ok (.bool false) := id rfl
theorem isi_list_list : dIsi "list" (.list xs) = .ok (.bool true) := id rfl
theorem asSeq_list : asSeq (.list xs) = .ok xs := id rfl
theorem asSeq_tuple : asSeq (.tuple xs) = .ok xs := id rfl
theorem iRange_1 (h : -1000000 ≤ i ∧ i ≤ 1000000) : iRange [.int i] = .ok (rangeD 0 i.toNat) := by
  unfold iRange
  have e : okR i = true := decide_eq_true h
  simp only [e, if_true]
theorem iRange_2 (h : -1000000 ≤ i ∧ i ≤ 1000000) (h' : -1000000 ≤ j ∧ j ≤ 1000000) : iRange [.int i, .int j] = .ok (rangeD i (j - i).toNat) := by
  unfold iRange
  have e : okR i = true := decide_eq_true h
  have e' : okR j = true := decide_eq_true h'
  simp only [e, e', Bool.and_self, if_true]
theorem iEnum_list : iEnumD [.list xs] = .ok (enumD 0 xs) := id rfl
theorem iEnum_tuple : iEnumD [.tuple xs] = .ok (enumD 0 xs) := id rfl
theorem iZip_list : iZipD [.list xs, .list ys] = .ok (zipD xs ys) := id rfl
theorem iZip_tuple : iZipD [.tuple xs, .tuple ys] = .ok (zipD xs ys) := id rfl
theorem dCut_list {lo hi : Option Int} : dCut (.list xs) lo hi = .ok (.list (cut xs lo hi)) := id rfl
theorem dCut_tuple {lo hi : Option Int} : dCut (.tuple xs) lo hi = .ok (.tuple (cut xs lo hi)) := id rfl
theorem keepS_list : keepS (.list xs) = false := id rfl
theorem keepG_list : keepG (.list xs) = flatL xs := id rfl
theorem flat_none : flat .none = true := id rfl
theorem flat_bool {b : Bool} : flat (.bool b) = true := id rfl
theorem flat_int : flat (.int i) = true := id rfl
theorem flat_str {s : Str} : flat (.str s) = true := id rfl
theorem flat_tuple : flat (.tuple xs) = flatL xs := id rfl
theorem flat_list : flat (.list xs) = false := id rfl
theorem keepS_eq (h : d = d) : keepS d = flat d := id rfl
theorem isL_list : isL (.list xs) = true := id rfl
theorem isL_int : isL (.int i) = false := id rfl
theorem isL_bool {b : Bool} : isL (.bool b) = false := id rfl
theorem isL_tuple : isL (.tuple xs) = false := id rfl
theorem isL_none : isL .none = false := id rfl
theorem mview_nil {k : Nat} : mview m k [] = [] := id rfl
theorem mview_cons {k : Nat} {o : Option (Bool × D)} {r : SEn} : mview m k (o :: r) = mv1 m k o :: mview m (k + 1) r := id rfl
theorem mv1_f {k : Nat} : mv1 m k (some (false, d)) = some d := id rfl
theorem mv1_n {k : Nat} : mv1 m k none = none := id rfl
theorem mv1_t {k : Nat} : mv1 m k (some (true, d)) = if k ∈ m then some d else none := id rfl
theorem freeze_nil {k : Nat} : freeze m k [] = [] := id rfl
theorem freeze_cons {k : Nat} {o : Option (Bool × D)} {r : SEn} : freeze m k (o :: r) = fr1 m k o :: freeze m (k + 1) r := id rfl
theorem fr1_f {k : Nat} : fr1 m k (some (false, d)) = some (false, d) := id rfl
theorem fr1_n {k : Nat} : fr1 m k none = none := id rfl
theorem fr1_t {k : Nat} : fr1 m k (some (true, d)) = if k ∈ m then some (false, d) else some (true, d) := id rfl
/-! whole statements and expressions at a place (what goes on is a word of its own: simp does not walk into it) -/
section
variable {a b c : SF} {g h p q : SEn → Out} {t : Tgt} {op op' : D → D → Res D} {en : En} {fs : List SF} {mj : List Nat} {ik : List D → Res (List D)} {cc : En → Res Bool} {n l : Nat} {F : List D → Res D} {iop : Int → Int → Int} {e : SEn}
def kSet (n : Nat) (h : SEn → Out) (p : D × SEn) : Out := h (p.2.set n (some (false, p.1)))
def kSetG (n : Nat) (h : SEn → Out) (p : D × SEn) : Out := h (p.2.set n (some (isL p.1, p.1)))
def kIfS (p q h : SEn → Out) (env : SEn) (k : Bool) : Out := if k = true then xSeq p h env else xSeq q h env
def kIf0 (p q : SEn → Out) (env : SEn) (k : Bool) : Out := if k = true then p env else q env
def kRet (d : D) : Out := .rt d
def kDrop (h : SEn → Out) (p : D × SEn) : Out := h p.2
def kUnp (t : Tgt) (h : SEn → Out) (p : D × SEn) : Out := match bindS t p.1 p.2 with
  | some e => h e
  | none => .stuck
def kApp (n : Nat) (h : SEn → Out) (p : D × SEn) : Out := match ownL p.2 n with
  | some ds => if ds.length < LIM then h (p.2.set n (some (true, .list (ds ++ [p.1])))) else .stuck
  | none => .stuck
def kPar2 (i j : Nat) (b1 b2 : Bool) (h : SEn → Out) (p : D) (q : D × SEn) : Out := h ((q.2.set i (some (b1 && isL p, p))).set j (some (b2 && isL q.1, q.1)))
def kPar1 (i j : Nat) (b1 b2 : Bool) (mj : List Nat) (b : SF) (h : SEn → Out) (p : D × SEn) : Out := onR p.2 (evA b2 mj b p.2) (kPar2 i j b1 b2 h p.1)
def kAug (n : Nat) (iop : Int → Int → Int) (x : Int) (h : SEn → Out) (p : D × SEn) : Out := match p.1 with
  | .int y => h (p.2.set n (some (false, .int (iop x y))))
  | _ => .stuck
def kFor (ik : List D → Res (List D)) (t : Tgt) (g h : SEn → Out) (p : List D × SEn) : Out := match ik p.1 with
  | .ok ds => xSeq (forGo g t ds) h p.2
  | _ => .stuck
def kForS (t : Tgt) (g h : SEn → Out) (p : D × SEn) : Out := match asSeq p.1 with
  | .ok ds => xSeq (forGo g t ds) h p.2
  | _ => .stuck
theorem kSet_ap : kSet n h (d, e) = h (e.set n (some (false, d))) := id rfl
theorem kSetG_ap : kSetG n h (d, e) = h (e.set n (some (isL d, d))) := id rfl
theorem kIfS_ap {k : Bool} : kIfS p q h env k = if k = true then xSeq p h env else xSeq q h env := id rfl
theorem kIf0_ap {k : Bool} : kIf0 p q env k = if k = true then p env else q env := id rfl
theorem kRet_ap : kRet d = .rt d := id rfl
theorem kDrop_ap : kDrop h (d, e) = h e := id rfl
theorem kUnp_slot : kUnp (.slot n) h (d, e) = h (e.set n (some (false, d))) := id rfl
theorem kUnp_ok {e' : SEn} (q : bindS t d e = some e') : kUnp t h (d, e) = h e' := by
  unfold kUnp
  simp only [q]
theorem kUnp2 {d1 d2 : D} {i j : Nat} : kUnp (.tup (.cons (.slot i) (.cons (.slot j) .nil))) h (.tuple [d1, d2], e) = h ((e.set i (some (false, d1))).set j (some (false, d2))) := id rfl
theorem kUnp3 {d1 d2 d3 : D} {i j l : Nat} : kUnp (.tup (.cons (.slot i) (.cons (.slot j) (.cons (.slot l) .nil)))) h (.tuple [d1, d2, d3], e) = h (((e.set i (some (false, d1))).set j (some (false, d2))).set l (some (false, d3))) := id rfl
theorem ownL_ok {ds : List D} (q : env[n]? = some (some (true, .list ds))) : ownL env n = some ds := by
  unfold ownL
  rw [q]
def appR (n : Nat) (h : SEn → Out) (e : SEn) (d : D) : Option (Option (Bool × D)) → Out
  | some (some (true, .list ds)) => if ds.length < LIM then h (e.set n (some (true, .list (ds ++ [d])))) else .stuck
  | _ => .stuck
theorem appR_ok {ds : List D} (hl : ds.length < 1000000) : appR n h e d (some (some (true, .list ds))) = h (e.set n (some (true, .list (ds ++ [d])))) := if_pos hl
theorem kApp_ap : kApp n h (d, e) = appR n h e d e[n]? := by
  unfold kApp appR ownL
  rcases e[n]? with _ | _ | ⟨b, x⟩
  · rfl
  · rfl
  · cases b <;> cases x <;> rfl
def ownR (o : Out) : Option (Option (Bool × D)) → Out
  | some (some (true, .list _)) => o
  | _ => .stuck
theorem ownR_ok {o : Out} {ds : List D} : ownR o (some (some (true, .list ds))) = o := id rfl
theorem kPar1_ap {i j : Nat} {b1 b2 : Bool} : kPar1 i j b1 b2 mj b h (d, e) = onR e (evA b2 mj b e) (kPar2 i j b1 b2 h d) := id rfl
theorem kPar2_ap {i j : Nat} {b1 b2 : Bool} {d' : D} : kPar2 i j b1 b2 h d (d', e) = h ((e.set i (some (b1 && isL d, d))).set j (some (b2 && isL d', d'))) := id rfl
theorem kAug_ap {x y : Int} : kAug n iop x h (.int y, e) = h (e.set n (some (false, .int (iop x y)))) := id rfl
theorem kFor_ap {ds ds' : List D} (q : ik ds = .ok ds') : kFor ik t g h (ds, e) = xSeq (forGo g t ds') h e := by
  unfold kFor
  rw [q]
theorem kForS_l {ds : List D} : kForS t g h (.list ds, e) = xSeq (forGo g t ds) h e := id rfl
theorem kForS_t {ds : List D} : kForS t g h (.tuple ds, e) = xSeq (forGo g t ds) h e := id rfl
theorem xSkip_ap : xSkip env = .nx env := id rfl
theorem xSeq_skip : xSeq xSkip h env = h env := id rfl
theorem xSeq_seq : xSeq (xSeq g q) h env = xSeq g (xSeq q h) env := by
  unfold xSeq
  cases g env <;> rfl
theorem xSeq_set : xSeq (xSet n m a) h env = onR env (evS m a env) (kSet n h) := by
  unfold xSeq xSet onR
  cases evS m a env <;> rfl
theorem xSeq_setG : xSeq (xSetG n m a) h env = onR env (evG m a env) (kSetG n h) := by
  unfold xSeq xSetG onR
  cases evG m a env <;> rfl
theorem xSeq_if : xSeq (xIf m cc p q) h env = onR env (cc (mview m 0 env)) (kIfS p q h env) := by
  unfold xSeq xIf onR kIfS
  cases cc (mview m 0 env) with
  | ok k => cases k <;> rfl
  | exc c => rfl
  | stuck => rfl
theorem xSeq_ret : xSeq (xRet m a) h env = onR env (a (mview m 0 env)) kRet := by
  unfold xSeq xRet onR
  cases a (mview m 0 env) <;> rfl
theorem xSeq_retN : xSeq xRetN h env = .rt .none := id rfl
theorem xSeq_raise : xSeq (xRaise n) h env = .exc n env := id rfl
theorem xSeq_drop : xSeq (xDrop m a) h env = onR env (evS m a env) (kDrop h) := by
  unfold xSeq xDrop onR
  cases evS m a env <;> rfl
theorem xSeq_brk : xSeq xBreak h env = .bk env := id rfl
theorem xSeq_cnt : xSeq xCont h env = .ct env := id rfl
theorem xSeq_unp : xSeq (xUnp t m a) h env = onR env (evS m a env) (kUnp t h) := by
  unfold xSeq xUnp onR kUnp
  cases evS m a env with
  | ok p => simp only; cases bindS t p.1 p.2 <;> rfl
  | exc c => rfl
  | stuck => rfl
theorem xSeq_par {i j : Nat} {b1 b2 : Bool} : xSeq (xPar i j b1 m a b2 mj b) h env = onR env (evA b1 m a env) (kPar1 i j b1 b2 mj b h) := by
  unfold xSeq xPar onR kPar1 onR kPar2
  cases evA b1 m a env with
  | ok p => simp only; cases evA b2 mj b p.2 <;> rfl
  | exc c => rfl
  | stuck => rfl
theorem xSeq_app : xSeq (xApp n m a) h env = ownR (onR env (evS m a env) (kApp n h)) env[n]? := by
  unfold xSeq xApp ownR ownL onR kApp ownL
  rcases env[n]? with _ | _ | ⟨b, x⟩
  · rfl
  · rfl
  · cases b <;> cases x <;> try rfl
    simp only
    cases evS m a env with
    | ok p =>
      simp only
      rcases p.2[n]? with _ | _ | ⟨b', x'⟩
      · rfl
      · rfl
      · cases b' <;> cases x' <;> try rfl
        rename_i es
        by_cases hl : es.length < LIM <;> simp only [hl, if_true, if_false]
    | exc c => rfl
    | stuck => rfl
theorem xSeq_r : xSeq g xSkip env = g env := by
  unfold xSeq
  cases g env <;> rfl
theorem xApp_ap : xApp n m a env = ownR (onR env (evS m a env) (kApp n xSkip)) env[n]? := by rw [← xSeq_app, xSeq_r]
def augR (iop : Int → Int → Int) (n : Nat) (h : SEn → Out) (env : SEn) (r : Res (D × SEn)) : Option (Option (Bool × D)) → Out
  | some (some (_, .int x)) => onR env r (kAug n iop x h)
  | _ => .stuck
theorem augR_ok {r : Res (D × SEn)} {fl : Bool} {x : Int} : augR iop n h env r (some (some (fl, .int x))) = onR env r (kAug n iop x h) := id rfl
theorem xSeq_aug : xSeq (xAug iop n m a) h env = augR iop n h env (evS m a env) env[n]? := by
  unfold xSeq xAug augR onR kAug
  rcases env[n]? with _ | _ | ⟨b, x⟩
  · rfl
  · rfl
  · cases x <;> try rfl
    simp only
    cases evS m a env with
    | ok p =>
      simp only
      cases p.1 <;> rfl
    | exc c => rfl
    | stuck => rfl
theorem xAug_ap : xAug iop n m a env = augR iop n xSkip env (evS m a env) env[n]? := by rw [← xSeq_aug, xSeq_r]
theorem xSeq_for : xSeq (xFor ik m fs t g) h env = onR env (evL m fs env) (kFor ik t g h) := by
  unfold xSeq xFor onR kFor xSeq
  cases evL m fs env with
  | ok p => simp only; cases ik p.1 <;> rfl
  | exc c => rfl
  | stuck => rfl
theorem xSeq_forS : xSeq (xForS m a t g) h env = onR env (evS m a env) (kForS t g h) := by
  unfold xSeq xForS onR kForS xSeq
  cases evS m a env with
  | ok p => simp only; cases asSeq p.1 <;> rfl
  | exc c => rfl
  | stuck => rfl
theorem xSeq_forG : xSeq (xForG m a t g) h env = onR env (evG m a env) (kForS t g h) := by
  unfold xSeq xForG onR kForS xSeq
  cases evG m a env with
  | ok p => simp only; cases asSeq p.1 <;> rfl
  | exc c => rfl
  | stuck => rfl
theorem xFor_ap : xFor ik m fs t g env = onR env (evL m fs env) (kFor ik t g xSkip) := by rw [← xSeq_for, xSeq_r]
theorem xForS_ap : xForS m a t g env = onR env (evS m a env) (kForS t g xSkip) := by rw [← xSeq_forS, xSeq_r]
theorem xForG_ap : xForG m a t g env = onR env (evG m a env) (kForS t g xSkip) := by rw [← xSeq_forG, xSeq_r]
theorem xPar_ap {i j : Nat} {b1 b2 : Bool} : xPar i j b1 m a b2 mj b env = onR env (evA b1 m a env) (kPar1 i j b1 b2 mj b xSkip) := id rfl
theorem xSet_ap : xSet n m a env = onR env (evS m a env) (kSet n xSkip) := id rfl
theorem xSetG_ap : xSetG n m a env = onR env (evG m a env) (kSetG n xSkip) := id rfl
theorem xIf_ap : xIf m cc p q env = onR env (cc (mview m 0 env)) (kIf0 p q env) := id rfl
theorem xRet_ap : xRet m a env = onR env (a (mview m 0 env)) kRet := id rfl
theorem xRetN_ap : xRetN env = .rt .none := id rfl
theorem xDrop_ap : xDrop m a env = onR env (evS m a env) (kDrop xSkip) := id rfl
theorem xRaise_ap : xRaise n env = .exc n env := id rfl
theorem xBreak_ap : xBreak env = .bk env := id rfl
theorem xCont_ap : xCont env = .ct env := id rfl
theorem xUnp_ap : xUnp t m a env = onR env (evS m a env) (kUnp t xSkip) := id rfl
/-! expressions -/
def kEv (m : List Nat) (env : SEn) (d : D) : Res (D × SEn) := .ok (d, after (flat d) m env)
def kEvG (m : List Nat) (env : SEn) (d : D) : Res (D × SEn) := .ok (d, after (keepG d) m env)
def kEvL (m : List Nat) (env : SEn) (ds : List D) : Res (List D × SEn) := .ok (ds, after (flatL ds) m env)
theorem kEv_ap : kEv m env d = .ok (d, after (flat d) m env) := id rfl
theorem kEvG_ap : kEvG m env d = .ok (d, after (keepG d) m env) := id rfl
theorem kEvL_ap : kEvL m env xs = .ok (xs, after (flatL xs) m env) := id rfl
theorem evS_ap : evS m a env = (a (mview m 0 env)).bind (kEv m env) := id rfl
theorem evG_ap : evG m a env = (a (mview m 0 env)).bind (kEvG m env) := id rfl
theorem evL_ap : evL m fs env = (vL fs (mview m 0 env)).bind (kEvL m env) := id rfl
theorem evA_t : evA true m a env = evG m a env := id rfl
theorem evA_f : evA false m a env = evS m a env := id rfl
theorem keepG_int : keepG (.int i) = true := id rfl
theorem keepG_bool {b : Bool} : keepG (.bool b) = true := id rfl
theorem keepG_none : keepG .none = true := id rfl
theorem keepG_tuple : keepG (.tuple xs) = flatL xs := id rfl
theorem flatL_nil : flatL [] = true := id rfl
theorem flatL_cons : flatL (d :: xs) = (flat d && flatL xs) := id rfl
def varR : Option (Option D) → Res D
  | some (some d) => .ok d
  | _ => .stuck
theorem varR_ok : varR (some (some d)) = .ok d := id rfl
theorem vVar_ap : vVar n en = varR en[n]? := by
  unfold vVar varR
  rcases en[n]? with _ | _ | _ <;> rfl
theorem vC_ap : vC d en = .ok d := id rfl
def kB (op : D → D → Res D) (b : SF) (en : En) (x : D) : Res D := (b en).bind (op x)
theorem kB_ap : kB op b en d = (b en).bind (op d) := id rfl
theorem vBin_ap : vBin op a b en = (a en).bind (kB op b en) := id rfl
theorem vUn_ap {u : D → Res D} : vUn u a en = (a en).bind u := id rfl
theorem vTest_ap : vTest a en = (a en).bind truthR := id rfl
def kAnd2 (b : SF) (en : En) (x : D) (k : Bool) : Res D := if k = true then b en else .ok x
def kAnd (b : SF) (en : En) (x : D) : Res D := (truthR x).bind (kAnd2 b en x)
theorem kAnd_ap : kAnd b en d = (truthR d).bind (kAnd2 b en d) := id rfl
theorem kAnd2_t : kAnd2 b en d true = b en := id rfl
theorem kAnd2_f : kAnd2 b en d false = .ok d := id rfl
theorem kAnd2_ap {k : Bool} : kAnd2 b en d k = if k = true then b en else .ok d := id rfl
theorem vAnd_ap : vAnd a b en = (a en).bind (kAnd b en) := id rfl
def kOr2 (b : SF) (en : En) (x : D) (k : Bool) : Res D := if k = true then .ok x else b en
def kOr (b : SF) (en : En) (x : D) : Res D := (truthR x).bind (kOr2 b en x)
theorem kOr_ap : kOr b en d = (truthR d).bind (kOr2 b en d) := id rfl
theorem kOr2_ap {k : Bool} : kOr2 b en d k = if k = true then .ok d else b en := id rfl
theorem vOr_ap : vOr a b en = (a en).bind (kOr b en) := id rfl
def kNot2 (k : Bool) : Res D := .ok (.bool (!k))
def kNot (x : D) : Res D := (truthR x).bind kNot2
theorem kNot_ap : kNot d = (truthR d).bind kNot2 := id rfl
theorem kNot2_ap {k : Bool} : kNot2 k = .ok (.bool (!k)) := id rfl
theorem vNot_ap : vNot a en = (a en).bind kNot := id rfl
def kIfE (a b : SF) (en : En) (k : Bool) : Res D := if k = true then a en else b en
theorem kIfE_ap {k : Bool} : kIfE a b en k = if k = true then a en else b en := id rfl
theorem vIf_ap : vIf cc a b en = (cc en).bind (kIfE a b en) := id rfl
def kC3 (op' : D → D → Res D) (c : SF) (en : En) (y : D) (z : D) : Res D := (toB z).bind fun k => if k = true then (c en).bind (op' y) else .ok (.bool false)
theorem kC3_ap {k : Bool} : kC3 op' c en d (.bool k) = if k = true then (c en).bind (op' d) else .ok (.bool false) := id rfl
def kC2 (op op' : D → D → Res D) (c : SF) (en : En) (x y : D) : Res D := (op x y).bind (kC3 op' c en y)
theorem kC2_ap {d' : D} : kC2 op op' c en d d' = (op d d').bind (kC3 op' c en d') := id rfl
def kC1 (op op' : D → D → Res D) (b c : SF) (en : En) (x : D) : Res D := (b en).bind (kC2 op op' c en x)
theorem kC1_ap : kC1 op op' b c en d = (b en).bind (kC2 op op' c en d) := id rfl
theorem vChain_ap : vChain op op' a b c en = (a en).bind (kC1 op op' b c en) := id rfl
def kL2 (x : D) (xs : List D) : Res (List D) := .ok (x :: xs)
def kL (fs : List SF) (en : En) (x : D) : Res (List D) := (vL fs en).bind (kL2 x)
theorem kL_ap : kL fs en d = (vL fs en).bind (kL2 d) := id rfl
theorem kL2_ap : kL2 d xs = .ok (d :: xs) := id rfl
theorem vL_nil : vL [] en = .ok [] := id rfl
theorem vL_cons : vL (a :: fs) en = (a en).bind (kL fs en) := id rfl
def kTup (ds : List D) : Res D := .ok (.tuple ds)
def kLst (ds : List D) : Res D := .ok (.list ds)
theorem kTup_ap : kTup xs = .ok (.tuple xs) := id rfl
theorem kLst_ap : kLst xs = .ok (.list xs) := id rfl
theorem vTup_ap : vTup fs en = (vL fs en).bind kTup := id rfl
theorem vLst_ap : vLst fs en = (vL fs en).bind kLst := id rfl
theorem vCall_ap : vCall F fs en = (vL fs en).bind F := id rfl
def kCut3 (x : D) (l : Option Int) (h : Option Int) : Res D := dCut x l h
def kCut2 (hi : Option SF) (en : En) (x : D) (l : Option Int) : Res D := (vPart hi en).bind (kCut3 x l)
def kCut1 (lo hi : Option SF) (en : En) (x : D) : Res D := (vPart lo en).bind (kCut2 hi en x)
theorem kCut1_ap {lo hi : Option SF} : kCut1 lo hi en d = (vPart lo en).bind (kCut2 hi en d) := id rfl
theorem kCut2_ap {hi : Option SF} {l : Option Int} : kCut2 hi en d l = (vPart hi en).bind (kCut3 d l) := id rfl
theorem kCut3_ap {l h : Option Int} : kCut3 d l h = dCut d l h := id rfl
theorem vCut_ap {lo hi : Option SF} : vCut a lo hi en = (a en).bind (kCut1 lo hi en) := id rfl
def kPart (d : D) : Res (Option Int) := (toI d).bind fun i => .ok (some i)
theorem kPart_ap : kPart (.int i) = .ok (some i) := id rfl
theorem vPart_none : vPart none en = .ok none := id rfl
theorem vPart_some : vPart (some a) en = (a en).bind kPart := id rfl
/-! comprehensions -/
def kCompO (ys : List D) : Res D := .ok (.list ys)
def kComp (t : Tgt) (vs : List Nat) (cond : Option (En → Res Bool)) (elt : SF) (en : En) (ds : List D) : Res D := (compGo (compTurnD t vs cond elt en) ds).bind kCompO
theorem kComp_ap {vs : List Nat} {cond : Option (En → Res Bool)} : kComp t vs cond a en xs = (compGo (compTurnD t vs cond a en) xs).bind kCompO := id rfl
theorem kCompO_ap : kCompO xs = .ok (.list xs) := id rfl
theorem vComp_ap {fi : En → Res (List D)} {vs : List Nat} {cond : Option (En → Res Bool)} : vComp fi t vs cond a en = (fi en).bind (kComp t vs cond a en) := id rfl
theorem wSeq_ap : wSeq a en = (a en).bind asSeq := id rfl
theorem wCall_ap : wCall ik fs en = (vL fs en).bind ik := id rfl
def kTurn2 (y : D) : Res (Option D) := .ok (some y)
theorem turn_all {vs : List Nat} {en' : En} {y : D} (q : bindT t d (wipeE en vs) = some en') (ha : a en' = .ok y) : compTurnD t vs none a en d = .ok (some y) := by
  unfold compTurnD
  rw [q]
  simp only [Res.bind_ok, if_true, ha]
  rfl
theorem turn_if {vs : List Nat} {en' : En} {y : D} {k : Bool} (q : bindT t d (wipeE en vs) = some en') (hc : cc en' = .ok k) (ha : k = true → a en' = .ok y) : compTurnD t vs (some cc) a en d = .ok (if k = true then some y else none) := by
  unfold compTurnD
  rw [q]
  simp only [hc]
  cases k with
  | true =>
    simp only [ha rfl]
    rfl
  | false => rfl
theorem wipe_nil : wipeE en [] = en := id rfl
theorem wipe_cons {v : Nat} {vs : List Nat} : wipeE en (v :: vs) = (wipeE en vs).set v none := id rfl
theorem dMod_int (h : 0 < j) : dMod (.int i) (.int j) = .ok (.int (i % j)) := if_pos h
theorem bindS_slot : bindS (.slot n) d env = some (env.set n (some (false, d))) := id rfl
theorem bindS_tup {ts : Tgts} : bindS (.tup ts) (.tuple xs) env = bindSs ts xs env := id rfl
theorem bindSs_nil : bindSs .nil [] env = some env := id rfl
theorem bindSs_slot {ts : Tgts} : bindSs (.cons (.slot n) ts) (d :: xs) env = bindSs ts xs (env.set n (some (false, d))) := id rfl
theorem bindT_slot {en : En} : bindT (.slot n) d en = some (en.set n (some d)) := id rfl
theorem bindT_tup {ts : Tgts} : bindT (.tup ts) (.tuple xs) en = bindTs ts xs en := id rfl
theorem bindTs_nil : bindTs .nil [] en = some en := id rfl
theorem bindTs_slot {ts : Tgts} : bindTs (.cons (.slot n) ts) (d :: xs) en = bindTs ts xs (en.set n (some d)) := id rfl
theorem startE_eq : startE n xs = xs.map (fun d => some (false, d)) ++ List.replicate (n - xs.length) none := id rfl
/-! == of data -/
theorem eqv_int {i j : Int} : PyData.eqv (.int i) (.int j) = decide (i = j) := by
  show (i == j) = _
  rw [Bool.beq_eq_decide_eq]
theorem eqv_tuple : PyData.eqv (.tuple xs) (.tuple ys) = PyData.eqvAll xs ys := by
  first | rfl | (unfold PyData.eqv; rfl) | simp [PyData.eqv]
theorem eqv_list : PyData.eqv (.list xs) (.list ys) = PyData.eqvAll xs ys := by
  first | rfl | (unfold PyData.eqv; rfl) | simp [PyData.eqv]
theorem eqvAll_nil : PyData.eqvAll [] [] = true := by
  first | rfl | simp [PyData.eqvAll]
theorem eqvAll_cons {e' : D} : PyData.eqvAll (d :: xs) (e' :: ys) = (PyData.eqv d e' && PyData.eqvAll xs ys) := by
  first | rfl | (rw [PyData.eqvAll]; cases PyData.eqv d e' <;> rfl) | (rw [PyData.eqvAll])
/-! x[j] = e -/
def putJ (n : Nat) (h : SEn → Out) (e : SEn) (v : D) (ds : List D) : Option Nat → Out
  | some j => h (e.set n (some (true, .list (ds.set j v))))
  | none => .stuck
def putR (n : Nat) (h : SEn → Out) (e : SEn) (v : D) (k : Int) : Option (Option (Bool × D)) → Out
  | some (some (true, .list ds)) => putJ n h e v ds (ixN ds.length k)
  | _ => .stuck
def kPut2 (n : Nat) (h : SEn → Out) (v : D) (q : D × SEn) : Out := match ownL q.2 n with
  | some ds => (match q.1 with
    | .int k => (match ixN ds.length k with
      | some j => h (q.2.set n (some (true, .list (ds.set j v))))
      | none => .stuck)
    | _ => .stuck)
  | none => .stuck
def kPut1 (n : Nat) (mj : List Nat) (b : SF) (h : SEn → Out) (p : D × SEn) : Out := match ownL p.2 n with
  | some _ => onR p.2 (evS mj b p.2) (kPut2 n h p.1)
  | none => .stuck
theorem putJ_ok {v : D} {ds : List D} {j : Nat} : putJ n h e v ds (some j) = h (e.set n (some (true, .list (ds.set j v)))) := id rfl
theorem putR_ok {v : D} {ds : List D} {k : Int} : putR n h e v k (some (some (true, .list ds))) = putJ n h e v ds (ixN ds.length k) := id rfl
theorem kPut2_ap {v : D} {k : Int} : kPut2 n h v (.int k, e) = putR n h e v k e[n]? := by
  unfold kPut2 putR ownL putJ
  rcases e[n]? with _ | _ | ⟨b, x⟩
  · rfl
  · rfl
  · cases b <;> cases x <;> rfl
theorem kPut1_ap : kPut1 n mj b h (d, e) = ownR (onR e (evS mj b e) (kPut2 n h d)) e[n]? := by
  unfold kPut1 ownR ownL
  rcases e[n]? with _ | _ | ⟨b, x⟩
  · rfl
  · rfl
  · cases b <;> cases x <;> rfl
theorem xSeq_put : xSeq (xPut n m a mj b) h env = onR env (evS m a env) (kPut1 n mj b h) := by
  unfold xSeq xPut onR kPut1 onR kPut2
  cases evS m a env with
  | ok p =>
    simp only
    cases ownL p.2 n with
    | none => rfl
    | some es =>
      simp only
      cases evS mj b p.2 with
      | ok q =>
        simp only
        cases ownL q.2 n with
        | none => rfl
        | some gs =>
          simp only
          cases q.1 <;> try rfl
          rename_i k
          simp only
          cases ixN gs.length k <;> rfl
      | exc c => rfl
      | stuck => rfl
  | exc c => rfl
  | stuck => rfl
theorem xPut_ap : xPut n m a mj b env = onR env (evS m a env) (kPut1 n mj b xSkip) := by rw [← xSeq_put, xSeq_r]
/-! x[j] op= e -/
def paK2 (n : Nat) (iop : Int → Int → Int) (h : SEn → Out) (k x : Int) (p : D × SEn) : Out := match ownL p.2 n with
  | some ds' => (match p.1 with
    | .int y => (match ixN ds'.length k with
      | some j => h (p.2.set n (some (true, .list (ds'.set j (.int (iop x y))))))
      | none => .stuck)
    | _ => .stuck)
  | none => .stuck
def paK1 (n : Nat) (iop : Int → Int → Int) (m : List Nat) (a : SF) (h : SEn → Out) (q : D × SEn) : Out := match ownL q.2 n with
  | some ds => (match q.1 with
    | .int k => (match atI ds k with
      | some (.int x) => onR q.2 (evS m a q.2) (paK2 n iop h k x)
      | _ => .stuck)
    | _ => .stuck)
  | none => .stuck
def paX1 (n : Nat) (iop : Int → Int → Int) (m : List Nat) (a : SF) (h : SEn → Out) (e : SEn) (k : Int) : Option D → Out
  | some (.int x) => onR e (evS m a e) (paK2 n iop h k x)
  | _ => .stuck
def paR1 (n : Nat) (iop : Int → Int → Int) (m : List Nat) (a : SF) (h : SEn → Out) (e : SEn) (k : Int) : Option (Option (Bool × D)) → Out
  | some (some (true, .list ds)) => paX1 n iop m a h e k (atI ds k)
  | _ => .stuck
theorem paX1_ok {k x : Int} : paX1 n iop m a h e k (some (.int x)) = onR e (evS m a e) (paK2 n iop h k x) := id rfl
theorem paR1_ok {k : Int} {ds : List D} : paR1 n iop m a h e k (some (some (true, .list ds))) = paX1 n iop m a h e k (atI ds k) := id rfl
theorem paK1_ap {k : Int} : paK1 n iop m a h (.int k, e) = paR1 n iop m a h e k e[n]? := by
  unfold paK1 paR1 ownL paX1
  rcases e[n]? with _ | _ | ⟨b, x⟩
  · rfl
  · rfl
  · cases b <;> cases x <;> rfl
theorem paK2_ap {k x y : Int} : paK2 n iop h k x (.int y, e) = putR n h e (.int (iop x y)) k e[n]? := by
  unfold paK2 putR ownL putJ
  rcases e[n]? with _ | _ | ⟨b, x⟩
  · rfl
  · rfl
  · cases b <;> cases x <;> rfl
theorem xSeq_putA : xSeq (xPutA iop n m a mj b) h env = ownR (onR env (evS mj b env) (paK1 n iop m a h)) env[n]? := by
  unfold xSeq xPutA ownR ownL onR paK1 ownL onR paK2 ownL
  rcases env[n]? with _ | _ | ⟨fl, x⟩
  · rfl
  · rfl
  · cases fl <;> cases x <;> try rfl
    simp only
    cases evS mj b env with
    | ok q =>
      simp only
      rcases q.2[n]? with _ | _ | ⟨fl', x'⟩
      · rfl
      · rfl
      · cases fl' <;> cases x' <;> try rfl
        rename_i es
        simp only
        cases q.1 <;> try rfl
        rename_i k
        simp only
        rcases atI es k with _ | x
        · rfl
        · cases x <;> try rfl
          simp only
          cases evS m a q.2 with
          | ok p =>
            simp only
            rcases p.2[n]? with _ | _ | ⟨fl'', x''⟩
            · rfl
            · rfl
            · cases fl'' <;> cases x'' <;> try rfl
              rename_i gs
              simp only
              cases p.1 <;> try rfl
              simp only
              cases ixN gs.length k <;> rfl
          | exc c => rfl
          | stuck => rfl
    | exc c => rfl
    | stuck => rfl
theorem xPutA_ap : xPutA iop n m a mj b env = ownR (onR env (evS mj b env) (paK1 n iop m a xSkip)) env[n]? := by rw [← xSeq_putA, xSeq_r]
theorem dMul_list {x : D} {k : Int} (h : 0 ≤ k ∧ k ≤ 100000) : dMul (.list [x]) (.int k) = .ok (.list (List.replicate k.toNat x)) := by
  show (if [x].length * k.toNat ≤ LIM ∧ k < 1000000 ∧ -1000000 < k then Res.ok (PyData.list (List.replicate k.toNat [x]).flatten) else .stuck) = _
  have e : ([x] : List D).length * k.toNat ≤ LIM := by
    rw [List.length_singleton, Nat.one_mul]
    show k.toNat ≤ 1000000
    omega
  rw [if_pos ⟨e, by omega, by omega⟩]
  congr 2
  induction k.toNat with
  | zero => rfl
  | succ n ih => rw [List.replicate_succ, List.flatten_cons, ih]; rfl
theorem ixN_nat {k n : Nat} (h : k < n) : ixN n (k : Int) = some k := by
  unfold ixN
  simp [h]
theorem cut_none {xs : List α} {k : Nat} (h : k ≤ xs.length) : cut xs none (some (k : Int)) = xs.take k := by
  unfold cut
  rw [HT.sIx_nat, HT.sIx_none, List.drop_zero, Nat.sub_zero, Nat.min_eq_left h]
theorem cut_some {xs : List α} {k : Nat} (h : k ≤ xs.length) : cut xs (some (k : Int)) none = xs.drop k := by
  unfold cut
  rw [HT.sIx_nat, HT.sIx_none, Nat.min_eq_left h, List.take_of_length_le (by rw [List.length_drop]; exact Nat.le_refl _)]
theorem comp_if {lo : Int} {n : Nat} {vs : List Nat} {cond : Option (En → Res Bool)} {q : Nat → Bool} {f : Nat → D} (h : ∀ k, k < n → compTurnD t vs cond a en (.int (lo + k)) = .ok (if q k = true then some (f k) else none)) :
    compGo (compTurnD t vs cond a en) (rangeD lo n) = .ok (((List.range n).filter q).map f) := by
  have := compGo_eq (enc := fun i : Nat => PyData.int (lo + i)) (xs := List.range n) (f := compTurnD t vs cond a en) (o := fun k => if q k = true then some (f k) else none) fun k hk => h k (List.mem_range.mp hk)
  refine this.trans ?_
  congr 1
  clear this h
  induction List.range n with
  | nil => rfl
  | cons k r ih =>
    rw [List.filterMap_cons, List.filter_cons]
    by_cases hq : q k = true
    · rw [if_pos hq, if_pos hq, List.map_cons, ih]
    · rw [if_neg hq, if_neg hq, ih]
theorem comp_filter {xs : List D} {vs : List Nat} {cond : Option (En → Res Bool)} {q : D → Bool} (h : ∀ x ∈ xs, compTurnD t vs cond a en x = .ok (if q x = true then some x else none)) : compGo (compTurnD t vs cond a en) xs = .ok (xs.filter q) := by
  have := compGo_eq (enc := id) (xs := xs) (f := compTurnD t vs cond a en) (o := fun k => if q k = true then some k else none) fun k hk => h k hk
  rw [List.map_id] at this
  refine this.trans ?_
  congr 1
  clear this h
  induction xs with
  | nil => rfl
  | cons k r ih =>
    rw [List.filterMap_cons, List.filter_cons]
    by_cases hq : q k = true
    · rw [if_pos hq, if_pos hq, ih]
    · rw [if_neg hq, if_neg hq, ih]
theorem comp_range {n : Nat} {vs : List Nat} {F : Nat → D} {lo : Int} (h : ∀ k, k < n → ∃ en', bindT t (.int (lo + k)) (wipeE en vs) = some en' ∧ a en' = .ok (F k)) :
    compGo (compTurnD t vs none a en) (rangeD lo n) = .ok ((List.range n).map F) := by
  refine compGo_map (enc := fun i : Nat => PyData.int (lo + i)) fun k hk => ?_
  obtain ⟨en', h1, h2⟩ := h k (List.mem_range.mp hk)
  exact turn_all h1 h2
theorem comp_ints {ns : List Int} {vs : List Nat} {F : Int → D} (h : ∀ x, x ∈ ns → ∃ en', bindT t (.int x) (wipeE en vs) = some en' ∧ a en' = .ok (F x)) :
    compGo (compTurnD t vs none a en) (ns.map .int) = .ok (ns.map F) := by
  refine compGo_map fun k hk => ?_
  obtain ⟨en', h1, h2⟩ := h k hk
  exact turn_all h1 h2
end
end
/-! a list's methods -/
section
variable {g : D → D → Res D} {a b : SF} {en : En} {env e : SEn} {n i : Nat} {m : List Nat} {h G : SEn → Out}
def kMeth (g : D → D → Res D) (b : SF) (en : En) : D → Res D
  | .list xs => (b en).bind (g (.list xs))
  | _ => .stuck
theorem vMeth_ap : vMeth g a b en = (a en).bind (kMeth g b en) := by
  unfold vMeth
  cases a en with
  | ok d => cases d <;> rfl
  | exc c => rfl
  | stuck => rfl
theorem kMeth_l {xs : List D} : kMeth g b en (.list xs) = (b en).bind (g (.list xs)) := id rfl
theorem dRev_list {xs : List D} : dRev (.list xs) = .ok (.list xs.reverse) := id rfl
theorem dIndex_ints {ns : List Int} {k : Int} (hk : k ∈ ns) : dIndex (.list (ns.map PyData.int)) (.int k) = .ok (.int (ns.idxOf k : Nat)) := by
  show ixR (ns.map PyData.int) k = _
  unfold ixR
  rw [asInts_map]
  exact if_pos hk
theorem dCount_ints {ns : List Int} {k : Int} : dCount (.list (ns.map PyData.int)) (.int k) = .ok (.int (ns.count k : Nat)) := by
  show ctR (ns.map PyData.int) k = _
  unfold ctR
  rw [asInts_map]
def remR (n : Nat) (h : SEn → Out) (e : SEn) (d : D) : Option (Option (Bool × D)) → Out
  | some (some (true, .list ds)) => match remE ds d with
    | some es => h (e.set n (some (true, .list es)))
    | none => .stuck
  | _ => .stuck
def kRem (n : Nat) (h : SEn → Out) (p : D × SEn) : Out := match ownL p.2 n with
  | some ds => match remE ds p.1 with
    | some es => h (p.2.set n (some (true, .list es)))
    | none => .stuck
  | none => .stuck
theorem kRem_ap {d : D} : kRem n h (d, e) = remR n h e d e[n]? := by
  unfold kRem remR ownL
  rcases e[n]? with _ | _ | ⟨b, x⟩
  · rfl
  · rfl
  · cases b <;> cases x <;> rfl
theorem remR_ok {ns : List Int} {k : Int} (hk : k ∈ ns) : remR n h e (.int k) (some (some (true, .list (ns.map PyData.int)))) = h (e.set n (some (true, .list ((ns.erase k).map .int)))) := by
  have e1 : remE (ns.map PyData.int) (.int k) = some ((ns.erase k).map .int) := by
    show (match asInts (ns.map PyData.int) with
      | some ns => if k ∈ ns then some ((ns.erase k).map PyData.int) else none
      | none => none) = _
    rw [asInts_map]
    exact if_pos hk
  unfold remR
  simp only [e1]
theorem xSeq_rem : xSeq (xRem n m a) h env = ownR (onR env (evS m a env) (kRem n h)) env[n]? := by
  unfold xSeq xRem ownR ownL onR kRem ownL
  rcases env[n]? with _ | _ | ⟨b, x⟩
  · rfl
  · rfl
  · cases b <;> cases x <;> try rfl
    simp only
    cases evS m a env with
    | ok p =>
      simp only
      rcases p.2[n]? with _ | _ | ⟨b', x'⟩
      · rfl
      · rfl
      · cases b' <;> cases x' <;> try rfl
        rename_i es
        simp only
        cases remE es p.1 <;> rfl
    | exc c => rfl
    | stuck => rfl
theorem xRem_ap : xRem n m a env = ownR (onR env (evS m a env) (kRem n xSkip)) env[n]? := by rw [← xSeq_rem, xSeq_r]
/-! pop, extend -/
def kExt (n : Nat) (h : SEn → Out) (p : D × SEn) : Out := match ownL p.2 n with
  | some ds => (match p.1 with
    | .list es => if ds.length + es.length ≤ LIM then h (p.2.set n (some (true, .list (ds ++ es)))) else .stuck
    | _ => .stuck)
  | none => .stuck
def extR (n : Nat) (h : SEn → Out) (e : SEn) : D → Option (Option (Bool × D)) → Out
  | .list es, some (some (true, .list ds)) => if ds.length + es.length ≤ LIM then h (e.set n (some (true, .list (ds ++ es)))) else .stuck
  | _, _ => .stuck
theorem kExt_ap {d : D} : kExt n h (d, e) = extR n h e d e[n]? := by
  unfold kExt extR ownL
  rcases e[n]? with _ | _ | ⟨b, x⟩
  · cases d <;> rfl
  · cases d <;> rfl
  · cases b <;> cases x <;> cases d <;> rfl
theorem extR_ok {ds es : List D} (hl : ds.length + es.length ≤ LIM) : extR n h e (.list es) (some (some (true, .list ds))) = h (e.set n (some (true, .list (ds ++ es)))) := if_pos hl
theorem xSeq_ext : xSeq (xExt n m a) h env = ownR (onR env (evG m a env) (kExt n h)) env[n]? := by
  unfold xSeq xExt ownR ownL onR kExt
  rcases hq : env[n]? with _ | _ | ⟨b, x⟩
  · rfl
  · rfl
  · cases b <;> cases x <;> try rfl
    simp only
    cases evG m a env with
    | ok p =>
      obtain ⟨d, e⟩ := p
      unfold xExtK ownL
      simp only
      rcases e[n]? with _ | _ | ⟨b', x'⟩
      · rfl
      · rfl
      · cases b' <;> cases x' <;> try rfl
        rename_i es
        simp only
        cases d <;> try rfl
        rename_i es2
        unfold xExtL
        by_cases hc : es.length + es2.length ≤ LIM
        · simp only [if_pos hc]
        · simp only [if_neg hc]
    | exc c => rfl
    | stuck => rfl
theorem xExt_ap : xExt n m a env = ownR (onR env (evG m a env) (kExt n xSkip)) env[n]? := by rw [← xSeq_ext, xSeq_r]
def popR (i j : Nat) (h : SEn → Out) (e : SEn) : Option (Option (Bool × D)) → Out
  | some (some (true, .list ds)) => (match ds.getLast? with
    | some d => h ((e.set j (some (true, .list ds.dropLast))).set i (some (false, d)))
    | none => .stuck)
  | _ => .stuck
theorem popR_ok {ds : List D} {d : D} : popR i j h e (some (some (true, .list (ds ++ [d])))) = h ((e.set j (some (true, .list ds))).set i (some (false, d))) := by
  unfold popR
  simp only [List.getLast?_concat, List.dropLast_concat]
theorem xSeq_pop : xSeq (xPop i j) h env = popR i j h env env[j]? := by
  unfold xSeq xPop popR ownL
  rcases env[j]? with _ | _ | ⟨b, x⟩
  · rfl
  · rfl
  · cases b <;> cases x <;> try rfl
    rename_i es
    simp only
    cases es.getLast? <;> rfl
theorem xPop_ap : xPop i j env = popR i j xSkip env env[j]? := by rw [← xSeq_pop, xSeq_r]
/-! try -/
def tryR (i : Nat) (h : SEn → Out) (c : Nat) (e : SEn) : Option (Option Hr) → Out
  | some (some (.rt d)) => .rt d.d
  | some (some (.nx ws)) => h (wipeS e (i :: ws.map (·.1)))
  | some none => .exc c e
  | none => .stuck
def kTry (i : Nat) (hs : List (Nat × Option (Option Hr))) (h : SEn → Out) : Out → Out
  | .exc c e => tryR i h c e (handL hs c)
  | .nx e => h e
  | o => o
theorem xSeq_try {hs : List (Nat × Option (Option Hr))} : xSeq (xTryL G i hs) h env = kTry i hs h (G env) := by
  unfold xSeq xTryL xTry kTry
  cases G env with
  | exc c e1 =>
    simp only
    unfold tryR
    rcases handL hs c with _ | _ | r
    · rfl
    · rfl
    · cases r <;> rfl
  | _ => rfl
theorem xTryL_ap {hs : List (Nat × Option (Option Hr))} : xTryL G i hs env = kTry i hs xSkip (G env) := by rw [← xSeq_try, xSeq_r]
theorem kTry_nx {hs : List (Nat × Option (Option Hr))} : kTry i hs h (.nx e) = h e := id rfl
theorem kTry_rt {hs : List (Nat × Option (Option Hr))} {d : D} : kTry i hs h (.rt d) = .rt d := id rfl
theorem kTry_exc {hs : List (Nat × Option (Option Hr))} {c : Nat} : kTry i hs h (.exc c e) = tryR i h c e (handL hs c) := id rfl
theorem tryR_rt {c : Nat} {d : Cv} : tryR i h c e (some (some (.rt d))) = .rt d.d := id rfl
theorem tryR_nx {c : Nat} {ws : List (Nat × Cv)} : tryR i h c e (some (some (.nx ws))) = h (wipeS e (i :: ws.map (·.1))) := id rfl
theorem tryR_no {c : Nat} : tryR i h c e (some none) = .exc c e := id rfl
theorem handL_cons {c j : Nat} {r : Option (Option Hr)} {l : List (Nat × Option (Option Hr))} : handL ((j, r) :: l) c = if c = j then r else handL l c := by
  unfold handL
  rw [List.lookup_cons]
  by_cases q : c = j
  · rw [if_pos q, show (c == j) = true by simpa using q]
  · rw [if_neg q, show (c == j) = false by simpa using q]
theorem wipeS_nil {x : SEn} : wipeS x [] = x := id rfl
theorem wipeS_cons {x : SEn} {v : Nat} {vs : List Nat} : wipeS x (v :: vs) = (wipeS x vs).set v none := id rfl
theorem cv_s {x : Str} : (Cv.s x).d = .str x := id rfl
theorem cv_b {k : Bool} : (Cv.b k).d = .bool k := id rfl
theorem cv_i {k : Int} : (Cv.i k).d = .int k := id rfl
end
end SH


set_option Elab.async false
set_option linter.all false
set_option maxRecDepth 100000
set_option maxHeartbeats 4000000
/-! The layer, part q: pairs of whole numbers, their order. -/
namespace SH
open PySem PySem.Spec PyProof.Rows L2

def pr2 (p : Int × Int) : D := .tuple [.int p.1, .int p.2]
def plt (p q : Int × Int) : Prop := p.1 < q.1 ∨ (p.1 = q.1 ∧ p.2 < q.2)
instance (p q : Int × Int) : Decidable (plt p q) := by unfold plt; exact inferInstance
theorem pr2_lt (p q : Int × Int) : PySem.W.dataLt (pr2 p) (pr2 q) = decide (plt p q) := PySem.W.dataLt_ii _ _ _ _
theorem pr2_ok (p : Int × Int) : okEq 9 (pr2 p) = true := rfl
theorem pr2_alike (p q : Int × Int) : PySem.W.alike (pr2 p) (pr2 q) = true := rfl
theorem prs_alike (ps : List (Int × Int)) : alikeB (ps.map pr2) = true := by
  unfold alikeB
  simp only [List.all_map, List.all_eq_true, Function.comp]
  exact fun p _ q _ => pr2_alike p q
theorem prs_ok (ps : List (Int × Int)) : (ps.map pr2).all (okEq 9) = true := by
  simp only [List.all_map, List.all_eq_true, Function.comp]
  exact fun p _ => pr2_ok p
theorem prs_minOk (ps : List (Int × Int)) : minOk (ps.map pr2) = true := by
  unfold minOk
  rw [prs_alike, prs_ok]
  simp only [List.all_map, Bool.and_true, Bool.true_and, List.all_eq_true, Function.comp]
  exact fun p _ => rfl
theorem prs_sortB (ps : List (Int × Int)) : sortB (ps.map pr2) = true := by
  unfold sortB
  rw [prs_alike, prs_ok]
  have : (ps.map pr2).all tupNE = true := by
    simp only [List.all_map, List.all_eq_true, Function.comp]
    exact fun p _ => rfl
  rw [this]
  rfl
theorem minD_prs : ∀ (ps : List (Int × Int)) (p : Int × Int), ∃ q ∈ p :: ps, PySem.W.minD (pr2 p) (ps.map pr2) = pr2 q ∧ ∀ r ∈ p :: ps, ¬ plt r q
  | [], p => ⟨p, List.mem_cons_self .., rfl, fun r hr => by
      simp only [List.mem_singleton] at hr
      subst hr
      unfold plt
      omega⟩
  | a :: ps, p => by
    unfold PySem.W.minD
    rw [List.map_cons, List.foldl_cons, pr2_lt]
    by_cases h : plt a p
    · rw [if_pos (by simpa using h)]
      obtain ⟨q, h1, h2, h3⟩ := minD_prs ps a
      refine ⟨q, List.mem_cons_of_mem _ h1, h2, fun r hr => ?_⟩
      rcases List.mem_cons.mp hr with rfl | hr
      · have := h3 a (List.mem_cons_self ..)
        unfold plt at *
        omega
      · exact h3 r hr
    · rw [if_neg (by simpa using h)]
      obtain ⟨q, h1, h2, h3⟩ := minD_prs ps p
      refine ⟨q, ?_, h2, fun r hr => ?_⟩
      · rcases List.mem_cons.mp h1 with rfl | h1
        · exact List.mem_cons_self ..
        · exact List.mem_cons_of_mem _ (List.mem_cons_of_mem _ h1)
      · rcases List.mem_cons.mp hr with rfl | hr
        · exact h3 r (List.mem_cons_self ..)
        · rcases List.mem_cons.mp hr with rfl | hr
          · have := h3 p (List.mem_cons_self ..)
            unfold plt at *
            omega
          · exact h3 r (List.mem_cons_of_mem _ hr)
theorem maxD_prs : ∀ (ps : List (Int × Int)) (p : Int × Int), ∃ q ∈ p :: ps, PySem.W.maxD (pr2 p) (ps.map pr2) = pr2 q ∧ ∀ r ∈ p :: ps, ¬ plt q r
  | [], p => ⟨p, List.mem_cons_self .., rfl, fun r hr => by
      simp only [List.mem_singleton] at hr
      subst hr
      unfold plt
      omega⟩
  | a :: ps, p => by
    unfold PySem.W.maxD
    rw [List.map_cons, List.foldl_cons, pr2_lt]
    by_cases h : plt p a
    · rw [if_pos (by simpa using h)]
      obtain ⟨q, h1, h2, h3⟩ := maxD_prs ps a
      refine ⟨q, List.mem_cons_of_mem _ h1, h2, fun r hr => ?_⟩
      rcases List.mem_cons.mp hr with rfl | hr
      · have := h3 a (List.mem_cons_self ..)
        unfold plt at *
        omega
      · exact h3 r hr
    · rw [if_neg (by simpa using h)]
      obtain ⟨q, h1, h2, h3⟩ := maxD_prs ps p
      refine ⟨q, ?_, h2, fun r hr => ?_⟩
      · rcases List.mem_cons.mp h1 with rfl | h1
        · exact List.mem_cons_self ..
        · exact List.mem_cons_of_mem _ (List.mem_cons_of_mem _ h1)
      · rcases List.mem_cons.mp hr with rfl | hr
        · exact h3 r (List.mem_cons_self ..)
        · rcases List.mem_cons.mp hr with rfl | hr
          · have := h3 p (List.mem_cons_self ..)
            unfold plt at *
            omega
          · exact h3 r (List.mem_cons_of_mem _ hr)
theorem dMin_prs {ps : List (Int × Int)} (h : ps ≠ []) : ∃ q ∈ ps, dMin [.list (ps.map pr2)] = .ok (pr2 q) ∧ ∀ r ∈ ps, ¬ plt r q := by
  cases ps with
  | nil => exact absurd rfl h
  | cons p ps =>
    obtain ⟨q, h1, h2, h3⟩ := minD_prs ps p
    refine ⟨q, h1, ?_, h3⟩
    have e : dMin [.list ((p :: ps).map pr2)] = (if minOk ((p :: ps).map pr2) then Res.ok (PySem.W.minD (pr2 p) (ps.map pr2)) else .stuck) := rfl
    rw [e, prs_minOk, if_pos rfl, h2]
theorem dMax_prs {ps : List (Int × Int)} (h : ps ≠ []) : ∃ q ∈ ps, dMax [.list (ps.map pr2)] = .ok (pr2 q) ∧ ∀ r ∈ ps, ¬ plt q r := by
  cases ps with
  | nil => exact absurd rfl h
  | cons p ps =>
    obtain ⟨q, h1, h2, h3⟩ := maxD_prs ps p
    refine ⟨q, h1, ?_, h3⟩
    have e : dMax [.list ((p :: ps).map pr2)] = (if minOk ((p :: ps).map pr2) then Res.ok (PySem.W.maxD (pr2 p) (ps.map pr2)) else .stuck) := rfl
    rw [e, prs_minOk, if_pos rfl, h2]
theorem dMul_tup1 {x : D} {k : Int} (h : 0 ≤ k ∧ k ≤ 100000) : dMul (.tuple [x]) (.int k) = .ok (.tuple (List.replicate k.toNat x)) := by
  show (if [x].length * k.toNat ≤ LIM ∧ k < 1000000 ∧ -1000000 < k then Res.ok (PyData.tuple (List.replicate k.toNat [x]).flatten) else .stuck) = _
  have e : ([x] : List D).length * k.toNat ≤ LIM := by
    rw [List.length_singleton, Nat.one_mul]
    show k.toNat ≤ 1000000
    omega
  rw [if_pos ⟨e, by omega, by omega⟩]
  congr 2
  induction k.toNat with
  | zero => rfl
  | succ n ih => rw [List.replicate_succ, List.flatten_cons, ih]; rfl
theorem eqv_str {x y : Str} : PyData.eqv (.str x) (.str y) = decide (x = y) := by
  simp [PyData.eqv, Bool.beq_eq_decide_eq]
theorem dEq_str {x y : Str} (h : okEq 9 (.str x) = true) (h' : okEq 9 (.str y) = true) : dEq (.str x) (.str y) = .ok (.bool (decide (x = y))) := by
  unfold dEq
  rw [h, h', eqv_str]
  rfl
theorem dNe_str {x y : Str} (h : okEq 9 (.str x) = true) (h' : okEq 9 (.str y) = true) : dNe (.str x) (.str y) = .ok (.bool (!decide (x = y))) := by
  unfold dNe
  rw [h, h', eqv_str]
  rfl
theorem compGo_filter {α : Type} {f : D → Res (Option D)} {enc enc' : α → D} {q : α → Bool} : ∀ {xs : List α}, (∀ x ∈ xs, f (enc x) = .ok (if q x = true then some (enc' x) else none)) → compGo f (xs.map enc) = .ok ((xs.filter q).map enc')
  | [], _ => rfl
  | x :: r, h => by
    rw [List.map_cons, compGo, h x (List.mem_cons_self ..), Res.bind_ok, compGo_filter fun y hy => h y (List.mem_cons_of_mem _ hy), Res.bind_ok, List.filter_cons]
    cases q x <;> rfl
theorem atI_last {α : Type} {xs : List α} {x : α} {n : Nat} (hl : xs.length = n + 1) (h : xs[n]? = some x) : atI xs (-1) = some x := by
  have e : ixN xs.length (-1) = some n := by
    unfold ixN
    simp only [show ¬ (0 : Int) ≤ -1 by decide, if_false, hl]
    rw [if_pos (by omega)]
    congr 1
    omega
  unfold atI
  rw [e]
  exact h
end SH


set_option Elab.async false
set_option linter.all false
set_option maxRecDepth 100000
set_option maxHeartbeats 4000000
/-! The layer, part r: sorted by a key, max with a default: the words for reckoning. -/
namespace SH
open PySem PySem.Spec PyProof.Rows L2

section
variable {fe : SF} {fk fk' : KF} {fs : List KF} {en : En} {x d p : D} {xs ds : List D} {i j : Int} {n : Nat} {g : D → D → Res D} {a b : KF}
theorem vSortK_ap : vSortK fe fk en = (vL [fe] en).bind (vSortK1 fk en) := id rfl
theorem qPar_ap : qPar x en = .ok x := id rfl
theorem qCap_ap : qCap n x en = capR en[n]? := id rfl
theorem capR_ok (h : okEq 9 d = true) : capR (some (some d)) = .ok d := if_pos h
theorem qInt_ap : qInt i x en = .ok (.int i) := id rfl
theorem qNeg_ap : qNeg a x en = (a x en).bind dNegK := id rfl
theorem dNegK_int : dNegK (.int i) = .ok (.int (-i)) := id rfl
theorem qBin_ap : qBin g a b x en = (a x en).bind (qBinK g b x en) := id rfl
theorem qBinK_ap : qBinK g b x en p = (b x en).bind (g p) := id rfl
theorem dSubK_int : dSubK (.int i) (.int j) = .ok (.int (i - j)) := id rfl
theorem dAddK_int : dAddK (.int i) (.int j) = .ok (.int (i + j)) := id rfl
def limR (n : Nat) : Option D → Res D
  | some d => if n ≤ LIM then .ok d else .stuck
  | none => .stuck
theorem limR_ok (h : n ≤ 1000000) : limR n (some d) = .ok d := if_pos h
theorem dIdxK_list : dIdxK (.list xs) (.int i) = limR xs.length (atI xs i) := by
  show (match atI xs i with | some d => if xs.length ≤ LIM then Res.ok d else .stuck | none => .stuck) = _
  cases atI xs i <;> rfl
theorem dIdxK_tuple : dIdxK (.tuple xs) (.int i) = limR xs.length (atI xs i) := by
  show (match atI xs i with | some d => if xs.length ≤ LIM then Res.ok d else .stuck | none => .stuck) = _
  cases atI xs i <;> rfl
def qTup1 (ds : List D) : Res D := .ok (.tuple ds)
theorem qTup_ap : qTup fs x en = (qTupL fs x en).bind qTup1 := id rfl
theorem qTup1_ap : qTup1 ds = .ok (.tuple ds) := id rfl
def qTupC (fs : List KF) (x : D) (en : En) (d : D) : Res (List D) := (qTupL fs x en).bind fun ds => .ok (d :: ds)
def qTupC2 (d : D) (ds : List D) : Res (List D) := .ok (d :: ds)
theorem qTupL_nil : qTupL [] x en = .ok [] := id rfl
theorem qTupL_cons : qTupL (fk :: fs) x en = (fk x en).bind (qTupC fs x en) := id rfl
theorem qTupC_ap : qTupC fs x en d = (qTupL fs x en).bind (qTupC2 d) := id rfl
theorem qTupC2_ap : qTupC2 d ds = .ok (d :: ds) := id rfl
end
section
variable {α : Type} {fk : KF} {en : En} {enc key : α → D}
theorem keysOf_map : ∀ {xs : List α}, (∀ x ∈ xs, fk (enc x) en = .ok (key x)) → keysOf fk en (xs.map enc) = .ok (xs.map key)
  | [], _ => rfl
  | x :: r, h => by
    rw [List.map_cons, keysOf, h x (List.mem_cons_self ..), keysOf_map fun y hy => h y (List.mem_cons_of_mem _ hy)]
    rfl
theorem zip_map2 : ∀ {xs : List α}, (xs.map enc).zip (xs.map key) = xs.map fun x => (enc x, key x)
  | [] => rfl
  | x :: r => by rw [List.map_cons, List.map_cons, List.zip_cons_cons, zip_map2, List.map_cons]
theorem sortK_list {xs : List α} (hk : ∀ x ∈ xs, fk (enc x) en = .ok (key x)) (h1 : sortB (xs.map key) = true) (h2 : ∀ x ∈ xs, flat (key x) = true) (h3 : ∀ x ∈ xs, okEq 9 (enc x) = true) :
    vSortK1 fk en [.list (xs.map enc)] = .ok (.list ((xs.mergeSort (PySem.W.dataLe false key)).map enc)) := by
  have e1 : vSortK1 fk en [.list (xs.map enc)] = (keysOf fk en (xs.map enc)).bind (kSort2 (xs.map enc)) := rfl
  have h4 : (xs.map enc).all (okEq 9) = true := by
    rw [List.all_map, List.all_eq_true]
    exact fun x hx => h3 x hx
  rw [e1, keysOf_map hk, Res.bind_ok]
  unfold kSort2
  rw [h1, flatL_map h2, h4]
  simp only [Bool.and_self, if_true]
  have e2 : (xs.map fun x => (enc x, key x)).mergeSort dltK = (xs.mergeSort (PySem.W.dataLe false key)).map fun x => (enc x, key x) :=
    (List.map_mergeSort (r := PySem.W.dataLe false key) (s := dltK) (f := fun x => (enc x, key x)) fun a _ b _ => (rfl : PySem.W.dataLe false key a b = dltK (enc a, key a) (enc b, key b))).symm
  rw [zip_map2, e2, List.map_map]
  rfl
end
section
variable {α : Type} {fk : KF} {en : En} {enc : α → D} {k : α → Int × Int}
theorem flat_pr2 (p : Int × Int) : flat (pr2 p) = true := rfl
/-- sorted by pairs of whole numbers -/
theorem sortK_prs {xs : List α} (hk : ∀ x ∈ xs, fk (enc x) en = .ok (pr2 (k x))) (h3 : ∀ x ∈ xs, okEq 9 (enc x) = true) :
    ∃ ys : List α, ys.Perm xs ∧ ys.Pairwise (fun a b => ¬ plt (k b) (k a)) ∧ vSortK1 fk en [.list (xs.map enc)] = .ok (.list (ys.map enc)) := by
  refine ⟨xs.mergeSort (PySem.W.dataLe false fun x => pr2 (k x)), List.mergeSort_perm _ _, ?_, ?_⟩
  · have e : PySem.W.dataLe false (fun x => pr2 (k x)) = fun p q => decide ((k p).1 < (k q).1 ∨ ((k p).1 = (k q).1 ∧ (k p).2 ≤ (k q).2)) := PySem.W.dataLe_ii _ _
    rw [e]
    have := List.pairwise_mergeSort (le := fun p q => decide ((k p).1 < (k q).1 ∨ ((k p).1 = (k q).1 ∧ (k p).2 ≤ (k q).2)))
      (fun a b c h1 h2 => by simp only [decide_eq_true_eq] at *; omega) (fun a b => by simp only [Bool.or_eq_true, decide_eq_true_eq]; omega) xs
    refine this.imp fun {a b} h => ?_
    simp only [decide_eq_true_eq] at h
    unfold plt
    omega
  · refine sortK_list hk ?_ (fun x _ => flat_pr2 _) h3
    have e : xs.map (fun x => pr2 (k x)) = (xs.map k).map pr2 := by rw [List.map_map]; rfl
    rw [e]
    exact prs_sortB _
end
/-! max with a default -/
theorem dMaxDf_nil {c : D} : dMaxDf (.list []) c = .ok c := id rfl
theorem ints_minOk (ns : List Int) : minOk (ns.map .int) = true := by
  unfold minOk alikeB
  simp only [List.all_map, Bool.and_eq_true, List.all_eq_true, Function.comp]
  exact ⟨fun _ _ _ _ => rfl, fun _ _ => rfl, fun _ _ => rfl⟩
theorem maxD_ints : ∀ (ns : List Int) (m : Int), ∃ q ∈ m :: ns, PySem.W.maxD (.int m) (ns.map .int) = .int q ∧ ∀ r ∈ m :: ns, r ≤ q
  | [], m => ⟨m, List.mem_cons_self .., rfl, fun r hr => by
      simp only [List.mem_singleton] at hr
      omega⟩
  | a :: ns, m => by
    unfold PySem.W.maxD
    rw [List.map_cons, List.foldl_cons, PySem.W.dataLt_int]
    by_cases h : m < a
    · rw [if_pos (by simpa using h)]
      obtain ⟨q, h1, h2, h3⟩ := maxD_ints ns a
      refine ⟨q, List.mem_cons_of_mem _ h1, h2, fun r hr => ?_⟩
      rcases List.mem_cons.mp hr with rfl | hr
      · have := h3 a (List.mem_cons_self ..)
        omega
      · exact h3 r hr
    · rw [if_neg (by simpa using h)]
      obtain ⟨q, h1, h2, h3⟩ := maxD_ints ns m
      refine ⟨q, ?_, h2, fun r hr => ?_⟩
      · rcases List.mem_cons.mp h1 with rfl | h1
        · exact List.mem_cons_self ..
        · exact List.mem_cons_of_mem _ (List.mem_cons_of_mem _ h1)
      · rcases List.mem_cons.mp hr with rfl | hr
        · exact h3 r (List.mem_cons_self ..)
        · rcases List.mem_cons.mp hr with rfl | hr
          · have := h3 m (List.mem_cons_self ..)
            omega
          · exact h3 r (List.mem_cons_of_mem _ hr)
theorem dMaxDf_ints {ns : List Int} {c : D} (h : ns ≠ []) : ∃ q ∈ ns, dMaxDf (.list (ns.map .int)) c = .ok (.int q) ∧ ∀ r ∈ ns, r ≤ q := by
  cases ns with
  | nil => exact absurd rfl h
  | cons m ns =>
    obtain ⟨q, h1, h2, h3⟩ := maxD_ints ns m
    refine ⟨q, h1, ?_, h3⟩
    have e : dMaxDf (.list ((m :: ns).map .int)) c = (if minOk ((m :: ns).map .int) = true then Res.ok (PySem.W.maxD (.int m) (ns.map .int)) else .stuck) := rfl
    rw [e, ints_minOk, if_pos rfl, h2]
end SH


set_option Elab.async false
set_option linter.all false
set_option maxRecDepth 100000
set_option maxHeartbeats 4000000
namespace K68
open PySem PySem.Spec PyProof.Rows L2 SH
def top (i : Nat) : Stmt := PySem.Challenge.pw_shelfhouse_k68_depths_piles_and_gaps.main.body.getD i (.Pass ⟨0, 0, 0, 0⟩)
abbrev iadd : Int → Int → Int := fun i j => i + j
abbrev isub : Int → Int → Int := fun i j => i - j
def d__law_mixed : He.DefD := ⟨("_law_mixed", none), "_law_mixed", "_law_mixed", defArgs (top 25), defBody (top 25), defScope (top 25), [], []⟩
def d__law_row : He.DefD := ⟨("_law_row", none), "_law_row", "_law_row", defArgs (top 26), defBody (top 26), defScope (top 26), [], []⟩
def d__law_books : He.DefD := ⟨("_law_books", none), "_law_books", "_law_books", defArgs (top 22), defBody (top 22), defScope (top 22), [], []⟩
def d__law_at : He.DefD := ⟨("_law_at", none), "_law_at", "_law_at", defArgs (top 24), defBody (top 24), defScope (top 24), [], []⟩
def d_is_tuple_of : He.DefD := ⟨("is_tuple_of", none), "is_tuple_of", "is_tuple_of", defArgs (top 7), defBody (top 7), defScope (top 7), [], []⟩
def d_is_integer : He.DefD := ⟨("is_integer", none), "is_integer", "is_integer", defArgs (top 5), defBody (top 5), defScope (top 5), [], []⟩
def d_is_between : He.DefD := ⟨("is_between", none), "is_between", "is_between", defArgs (top 6), defBody (top 6), defScope (top 6), [], []⟩
def d_is_stretch : He.DefD := ⟨("is_stretch", none), "is_stretch", "is_stretch", defArgs (top 11), defBody (top 11), defScope (top 11), [], []⟩
def d_are_books : He.DefD := ⟨("are_books", none), "are_books", "are_books", defArgs (top 12), defBody (top 12), defScope (top 12), [], []⟩
def d_need_books : He.DefD := ⟨("need_books", none), "need_books", "need_books", defArgs (top 13), defBody (top 13), defScope (top 13), [], []⟩
def d_tells : He.DefD := ⟨("tells", none), "tells", "tells", defArgs (top 14), defBody (top 14), defScope (top 14), [], []⟩
def d_subject_depth : He.DefD := ⟨("subject_depth", none), "subject_depth", "subject_depth", defArgs (top 16), defBody (top 16), defScope (top 16), [], []⟩
def d_subject_joined : He.DefD := ⟨("subject_joined", none), "subject_joined", "subject_joined", defArgs (top 17), defBody (top 17), defScope (top 17), [], []⟩
def d_covered_by : He.DefD := ⟨("covered_by", none), "covered_by", "covered_by", defArgs (top 15), defBody (top 15), defScope (top 15), [], []⟩
def d_subject_spare : He.DefD := ⟨("subject_spare", none), "subject_spare", "subject_spare", defArgs (top 18), defBody (top 18), defScope (top 18), [], []⟩
def d_subject_found : He.DefD := ⟨("subject_found", none), "subject_found", "subject_found", defArgs (top 20), defBody (top 20), defScope (top 20), [], []⟩
def d_subject_piles : He.DefD := ⟨("subject_piles", none), "subject_piles", "subject_piles", defArgs (top 19), defBody (top 19), defScope (top 19), [], []⟩
def d__law_refused : He.DefD := ⟨("_law_refused", none), "_law_refused", "_law_refused", defArgs (top 27), defBody (top 27), defScope (top 27), [], []⟩
def d__law_tells : He.DefD := ⟨("_law_tells", none), "_law_tells", "_law_tells", defArgs (top 23), defBody (top 23), defScope (top 23), [], []⟩
def d_law : He.DefD := ⟨("law", none), "law", "law", defArgs (top 28), defBody (top 28), defScope (top 28), [], []⟩
def md : ModD := ⟨[("MOST_BOOKS", 12), ("MOST_YEAR", 60)], [], ["ShelfError", "NoBooks", "NoStretch"], ["all", "any", "bool", "enumerate", "int", "isinstance", "len", "max", "min", "range", "sorted", "tuple"], [], [d__law_mixed, d__law_row, d__law_books, d__law_at, d_is_tuple_of, d_is_integer, d_is_between, d_is_stretch, d_are_books, d_need_books, d_tells, d_subject_depth, d_subject_joined, d_covered_by, d_subject_spare, d_subject_found, d_subject_piles, d__law_refused, d__law_tells, d_law], [(1, [("ShelfError", true), ("NoStretch", false)]), (2, [("ShelfError", true), ("NoStretch", true)])], ["subject_piles"]⟩
def T0 : Tab := md.tab
def N__law_mixed : List Str := ["cell", "k", "first"]
def b__law_mixed : SEn → Out :=
  xSeq (xSetG 2 [0, 1] (vBin dAdd (vBin dAdd (vBin dMul (vCall dInt [(vVar 0)]) (vC (.int 48271))) (vBin dMul (vVar 1) (vC (.int 69621)))) (vC (.int 11))))
  (xRet [2] (vBin dMod (vCall dInt [(vBin dAdd (vBin dMul (vVar 2) (vC (.int 16807))) (vBin dDiv (vVar 2) (vC (.int 8191))))]) (vC (.int 2147483647))))
def f__law_mixed : List D → Res D := runFn 2 3 b__law_mixed
theorem c__law_mixed : cSs (cS T0 14 10 (mkSC N__law_mixed d__law_mixed.scope)) d__law_mixed.body = some b__law_mixed := by kernel_rfl
theorem s__law_mixed : FnScope N__law_mixed ["cell", "k"] d__law_mixed.scope := ⟨by kernel_rfl, by kernel_rfl, by kernel_rfl, by decide +kernel, by kernel_rfl, by decide +kernel, by decide +kernel⟩
theorem a__law_mixed : BindOk d__law_mixed ["cell", "k"] := fun _ _ _ _ _ _ us hl => match us, hl with | [_, _], _ => rfl
def T1 : Tab := { T0 with fns := ("_law_mixed", 2, f__law_mixed) :: T0.fns }
def N__law_row : List Str := ["cell", "many", "top", "found", "left", "great", "k"]
def b__law_row : SEn → Out :=
  xSeq (xSetG 3 [] (vLst []))
  (xSeq (xSet 4 [0] (vCall dInt [(vVar 0)]))
  (xSeq (xSet 5 [4] (vBin dGe (vVar 4) (vC (.int 1000000000000000000))))
  (xSeq (xFor iRange [1] [(vVar 1)] (.slot 6)
  (xIf [5] (vTest (vVar 5))
  (xSeq (xApp 3 [4, 2] (vBin dMod (vCall dInt [(vVar 4)]) (vVar 2)))
  (xSet 4 [4, 2] (vBin dDiv (vVar 4) (vVar 2))))
  (xApp 3 [0, 6, 2] (vBin dMod (vBin dDiv (vCall f__law_mixed [(vVar 0), (vVar 6)]) (vC (.int 7))) (vVar 2)))))
  (xRet [3] (vVar 3)))))
def f__law_row : List D → Res D := runFn 3 7 b__law_row
theorem c__law_row : cSs (cS T1 14 10 (mkSC N__law_row d__law_row.scope)) d__law_row.body = some b__law_row := by kernel_rfl
theorem s__law_row : FnScope N__law_row ["cell", "many", "top"] d__law_row.scope := ⟨by kernel_rfl, by kernel_rfl, by kernel_rfl, by decide +kernel, by kernel_rfl, by decide +kernel, by decide +kernel⟩
theorem a__law_row : BindOk d__law_row ["cell", "many", "top"] := fun _ _ _ _ _ _ us hl => match us, hl with | [_, _, _], _ => rfl
def T2 : Tab := { T1 with fns := ("_law_row", 3, f__law_row) :: T1.fns }
def N__law_books : List Str := ["cell", "more", "many", "long", "digits", "found", "k", "first", "most"]
def b__law_books : SEn → Out :=
  xSeq (xSet 2 [0] (vBin dIdx (vCall f__law_row [(vVar 0), (vC (.int 1)), (vC (.int 11))]) (vC (.int 0))))
  (xSeq (xSet 3 [0] (vBin dIdx (vLst [(vC (.int 4)), (vC (.int 10)), (vC (.int 25)), (vC (.int 60))]) (vBin dIdx (vCall f__law_row [(vVar 0), (vC (.int 2)), (vC (.int 4))]) (vC (.int 1)))))
  (xSeq (xSet 4 [1, 2] (vCall f__law_row [(vVar 1), (vBin dAdd (vBin dMul (vC (.int 2)) (vVar 2)) (vC (.int 2))), (vC (.int 1000))]))
  (xSeq (xSetG 5 [] (vLst []))
  (xSeq (xFor iRange [2] [(vVar 2)] (.slot 6)
  (xSeq (xSet 7 [4, 6, 3] (vBin dMod (vBin dIdx (vVar 4) (vBin dMul (vC (.int 2)) (vVar 6))) (vVar 3)))
  (xSeq (xSet 8 [7, 3, 4, 2] (vBin dIdx (vLst [(vBin dSub (vVar 3) (vVar 7)), (vCall dMin [(vBin dSub (vVar 3) (vVar 7)), (vBin dAdd (vC (.int 1)) (vBin dDiv (vVar 3) (vC (.int 3))))])]) (vBin dMod (vBin dIdx (vVar 4) (vBin dMul (vC (.int 2)) (vVar 2))) (vC (.int 2)))))
  (xApp 5 [7, 4, 6, 8] (vTup [(vVar 7), (vBin dAdd (vBin dAdd (vVar 7) (vC (.int 1))) (vBin dMod (vBin dIdx (vVar 4) (vBin dAdd (vBin dMul (vC (.int 2)) (vVar 6)) (vC (.int 1)))) (vVar 8)))])))))
  (xRet [5] (vCall dTuple [(vVar 5)]))))))
def f__law_books : List D → Res D := runFn 2 9 b__law_books
theorem c__law_books : cSs (cS T2 14 10 (mkSC N__law_books d__law_books.scope)) d__law_books.body = some b__law_books := by kernel_rfl
theorem s__law_books : FnScope N__law_books ["cell", "more"] d__law_books.scope := ⟨by kernel_rfl, by kernel_rfl, by kernel_rfl, by decide +kernel, by kernel_rfl, by decide +kernel, by decide +kernel⟩
theorem a__law_books : BindOk d__law_books ["cell", "more"] := fun _ _ _ _ _ _ us hl => match us, hl with | [_, _], _ => rfl
def T3 : Tab := { T2 with fns := ("_law_books", 2, f__law_books) :: T2.fns }
def N__law_at : List Str := ["script", "k"]
def b__law_at : SEn → Out :=
  xSeq (xIf [1, 0] (vTest (vBin dLt (vVar 1) (vCall dLen [(vVar 0)])))
  (xRet [0, 1] (vCall dInt [(vBin dIdx (vVar 0) (vVar 1))]))
  (xSkip))
  (xRet [1] (vBin dAdd (vC (.int 5)) (vBin dMul (vC (.int 3)) (vVar 1))))
def f__law_at : List D → Res D := runFn 2 2 b__law_at
theorem c__law_at : cSs (cS T3 14 10 (mkSC N__law_at d__law_at.scope)) d__law_at.body = some b__law_at := by kernel_rfl
theorem s__law_at : FnScope N__law_at ["script", "k"] d__law_at.scope := ⟨by kernel_rfl, by kernel_rfl, by kernel_rfl, by decide +kernel, by kernel_rfl, by decide +kernel, by decide +kernel⟩
theorem a__law_at : BindOk d__law_at ["script", "k"] := fun _ _ _ _ _ _ us hl => match us, hl with | [_, _], _ => rfl
def T4 : Tab := { T3 with fns := ("_law_at", 2, f__law_at) :: T3.fns }
def N_is_tuple_of : List Str := ["thing", "many"]
def b_is_tuple_of : SEn → Out :=
  xRet [0, 1] (vAnd (vUn (dIsi "tuple") (vVar 0)) (vBin dEq (vCall dLen [(vVar 0)]) (vVar 1)))
def f_is_tuple_of : List D → Res D := runFn 2 2 b_is_tuple_of
theorem c_is_tuple_of : cSs (cS T4 14 10 (mkSC N_is_tuple_of d_is_tuple_of.scope)) d_is_tuple_of.body = some b_is_tuple_of := by kernel_rfl
theorem s_is_tuple_of : FnScope N_is_tuple_of ["thing", "many"] d_is_tuple_of.scope := ⟨by kernel_rfl, by kernel_rfl, by kernel_rfl, by decide +kernel, by kernel_rfl, by decide +kernel, by decide +kernel⟩
theorem a_is_tuple_of : BindOk d_is_tuple_of ["thing", "many"] := fun _ _ _ _ _ _ us hl => match us, hl with | [_, _], _ => rfl
def T5 : Tab := { T4 with fns := ("is_tuple_of", 2, f_is_tuple_of) :: T4.fns }
def N_is_integer : List Str := ["thing"]
def b_is_integer : SEn → Out :=
  xRet [0] (vAnd (vUn (dIsi "int") (vVar 0)) (vNot (vUn (dIsi "bool") (vVar 0))))
def f_is_integer : List D → Res D := runFn 1 1 b_is_integer
theorem c_is_integer : cSs (cS T5 14 10 (mkSC N_is_integer d_is_integer.scope)) d_is_integer.body = some b_is_integer := by kernel_rfl
theorem s_is_integer : FnScope N_is_integer ["thing"] d_is_integer.scope := ⟨by kernel_rfl, by kernel_rfl, by kernel_rfl, by decide +kernel, by kernel_rfl, by decide +kernel, by decide +kernel⟩
theorem a_is_integer : BindOk d_is_integer ["thing"] := fun _ _ _ _ _ _ us hl => match us, hl with | [_], _ => rfl
def T6 : Tab := { T5 with fns := ("is_integer", 1, f_is_integer) :: T5.fns }
def N_is_between : List Str := ["thing", "least", "most"]
def b_is_between : SEn → Out :=
  xRet [1, 0, 2] (vAnd (vCall f_is_integer [(vVar 0)]) (vChain dLe dLe (vVar 1) (vVar 0) (vVar 2)))
def f_is_between : List D → Res D := runFn 3 3 b_is_between
theorem c_is_between : cSs (cS T6 14 10 (mkSC N_is_between d_is_between.scope)) d_is_between.body = some b_is_between := by kernel_rfl
theorem s_is_between : FnScope N_is_between ["thing", "least", "most"] d_is_between.scope := ⟨by kernel_rfl, by kernel_rfl, by kernel_rfl, by decide +kernel, by kernel_rfl, by decide +kernel, by decide +kernel⟩
theorem a_is_between : BindOk d_is_between ["thing", "least", "most"] := fun _ _ _ _ _ _ us hl => match us, hl with | [_, _, _], _ => rfl
def T7 : Tab := { T6 with fns := ("is_between", 3, f_is_between) :: T6.fns }
def N_is_stretch : List Str := ["thing"]
def b_is_stretch : SEn → Out :=
  xSeq (xIf [0] (vTest (vOr (vNot (vCall f_is_tuple_of [(vVar 0), (vC (.int 2))])) (vOr (vNot (vCall f_is_between [(vBin dIdx (vVar 0) (vC (.int 0))), (vC (.int 0)), (vC (.int 60))])) (vNot (vCall f_is_between [(vBin dIdx (vVar 0) (vC (.int 1))), (vC (.int 0)), (vC (.int 60))])))))
  (xRet [] (vC (.bool false)))
  (xSkip))
  (xRet [0] (vBin dLt (vBin dIdx (vVar 0) (vC (.int 0))) (vBin dIdx (vVar 0) (vC (.int 1)))))
def f_is_stretch : List D → Res D := runFn 1 1 b_is_stretch
theorem c_is_stretch : cSs (cS T7 14 10 (mkSC N_is_stretch d_is_stretch.scope)) d_is_stretch.body = some b_is_stretch := by kernel_rfl
theorem s_is_stretch : FnScope N_is_stretch ["thing"] d_is_stretch.scope := ⟨by kernel_rfl, by kernel_rfl, by kernel_rfl, by decide +kernel, by kernel_rfl, by decide +kernel, by decide +kernel⟩
theorem a_is_stretch : BindOk d_is_stretch ["thing"] := fun _ _ _ _ _ _ us hl => match us, hl with | [_], _ => rfl
def T8 : Tab := { T7 with fns := ("is_stretch", 1, f_is_stretch) :: T7.fns }
def N_are_books : List Str := ["thing", "one"]
def b_are_books : SEn → Out :=
  xRet [1, 0] (vAnd (vUn (dIsi "tuple") (vVar 0)) (vAnd (vBin dLe (vCall dLen [(vVar 0)]) (vC (.int 12))) (vCall dAll [(vComp (wSeq (vVar 0)) (.slot 1) [1] none (vCall f_is_stretch [(vVar 1)]))])))
def f_are_books : List D → Res D := runFn 1 2 b_are_books
theorem c_are_books : cSs (cS T8 14 10 (mkSC N_are_books d_are_books.scope)) d_are_books.body = some b_are_books := by kernel_rfl
theorem s_are_books : FnScope N_are_books ["thing"] d_are_books.scope := ⟨by kernel_rfl, by kernel_rfl, by kernel_rfl, by decide +kernel, by kernel_rfl, by decide +kernel, by decide +kernel⟩
theorem a_are_books : BindOk d_are_books ["thing"] := fun _ _ _ _ _ _ us hl => match us, hl with | [_], _ => rfl
def T9 : Tab := { T8 with fns := ("are_books", 1, f_are_books) :: T8.fns }
def N_need_books : List Str := ["thing"]
def b_need_books : SEn → Out :=
  xIf [0] (vTest (vNot (vCall f_are_books [(vVar 0)])))
  (xRaise 1)
  (xSkip)
def f_need_books : List D → Res D := runFn 1 1 b_need_books
theorem c_need_books : cSs (cS T9 14 10 (mkSC N_need_books d_need_books.scope)) d_need_books.body = some b_need_books := by kernel_rfl
theorem s_need_books : FnScope N_need_books ["thing"] d_need_books.scope := ⟨by kernel_rfl, by kernel_rfl, by kernel_rfl, by decide +kernel, by kernel_rfl, by decide +kernel, by decide +kernel⟩
theorem a_need_books : BindOk d_need_books ["thing"] := fun _ _ _ _ _ _ us hl => match us, hl with | [_], _ => rfl
def T10 : Tab := { T9 with fns := ("need_books", 1, f_need_books) :: T9.fns }
def N_tells : List Str := ["book", "year"]
def b_tells : SEn → Out :=
  xRet [1, 0] (vChain dLe dLt (vBin dIdx (vVar 0) (vC (.int 0))) (vVar 1) (vBin dIdx (vVar 0) (vC (.int 1))))
def f_tells : List D → Res D := runFn 2 2 b_tells
theorem c_tells : cSs (cS T10 14 10 (mkSC N_tells d_tells.scope)) d_tells.body = some b_tells := by kernel_rfl
theorem s_tells : FnScope N_tells ["book", "year"] d_tells.scope := ⟨by kernel_rfl, by kernel_rfl, by kernel_rfl, by decide +kernel, by kernel_rfl, by decide +kernel, by decide +kernel⟩
theorem a_tells : BindOk d_tells ["book", "year"] := fun _ _ _ _ _ _ us hl => match us, hl with | [_, _], _ => rfl
def T11 : Tab := { T10 with fns := ("tells", 2, f_tells) :: T10.fns }
def N_subject_depth : List Str := ["books", "last", "book", "year"]
def b_subject_depth : SEn → Out :=
  xSeq (xDrop [0] (vCall f_need_books [(vVar 0)]))
  (xSeq (xSet 1 [2, 0] (vBin dMaxDf (vComp (wSeq (vVar 0)) (.slot 2) [2] none (vBin dIdx (vVar 2) (vC (.int 1)))) (vC (.int 0))))
  (xRet [0, 2, 3, 1] (vCall dTuple [(vComp (wCall iRange [(vVar 1)]) (.slot 3) [3] none (vCall dLen [(vComp (wSeq (vVar 0)) (.slot 2) [2] (some (vTest (vCall f_tells [(vVar 2), (vVar 3)]))) (vVar 2))]))])))
def f_subject_depth : List D → Res D := runFn 1 4 b_subject_depth
theorem c_subject_depth : cSs (cS T11 14 10 (mkSC N_subject_depth d_subject_depth.scope)) d_subject_depth.body = some b_subject_depth := by kernel_rfl
theorem s_subject_depth : FnScope N_subject_depth ["books"] d_subject_depth.scope := ⟨by kernel_rfl, by kernel_rfl, by kernel_rfl, by decide +kernel, by kernel_rfl, by decide +kernel, by decide +kernel⟩
theorem a_subject_depth : BindOk d_subject_depth ["books"] := fun _ _ _ _ _ _ us hl => match us, hl with | [_], _ => rfl
def T12 : Tab := { T11 with fns := ("subject_depth", 1, f_subject_depth) :: T11.fns }
def N_subject_joined : List Str := ["books", "found", "first", "behind"]
def b_subject_joined : SEn → Out :=
  xSeq (xDrop [0] (vCall f_need_books [(vVar 0)]))
  (xSeq (xSetG 1 [] (vLst []))
  (xSeq (xForG [0] (vCall dSorted [(vVar 0)]) (.tup (.cons (.slot 2) (.cons (.slot 3) .nil)))
  (xIf [2, 1] (vTest (vAnd (vVar 1) (vBin dLe (vVar 2) (vBin dIdx (vBin dIdx (vVar 1) (vUn dNeg (vC (.int 1)))) (vC (.int 1))))))
  (xPut 1 [1, 3] (vTup [(vBin dIdx (vBin dIdx (vVar 1) (vUn dNeg (vC (.int 1)))) (vC (.int 0))), (vCall dMax [(vBin dIdx (vBin dIdx (vVar 1) (vUn dNeg (vC (.int 1)))) (vC (.int 1))), (vVar 3)])]) [] (vUn dNeg (vC (.int 1))))
  (xApp 1 [2, 3] (vTup [(vVar 2), (vVar 3)]))))
  (xRet [1] (vCall dTuple [(vVar 1)]))))
def f_subject_joined : List D → Res D := runFn 1 4 b_subject_joined
theorem c_subject_joined : cSs (cS T12 14 10 (mkSC N_subject_joined d_subject_joined.scope)) d_subject_joined.body = some b_subject_joined := by kernel_rfl
theorem s_subject_joined : FnScope N_subject_joined ["books"] d_subject_joined.scope := ⟨by kernel_rfl, by kernel_rfl, by kernel_rfl, by decide +kernel, by kernel_rfl, by decide +kernel, by decide +kernel⟩
theorem a_subject_joined : BindOk d_subject_joined ["books"] := fun _ _ _ _ _ _ us hl => match us, hl with | [_], _ => rfl
def T13 : Tab := { T12 with fns := ("subject_joined", 1, f_subject_joined) :: T12.fns }
def N_covered_by : List Str := ["books", "lot", "wish", "one", "year"]
def b_covered_by : SEn → Out :=
  xRet [0, 3, 4, 1, 2] (vCall dAll [(vComp (wCall iRange [(vBin dIdx (vVar 2) (vC (.int 0))), (vBin dIdx (vVar 2) (vC (.int 1)))]) (.slot 4) [4] none (vCall dAny [(vComp (wSeq (vVar 1)) (.slot 3) [3] none (vCall f_tells [(vBin dIdx (vVar 0) (vVar 3)), (vVar 4)]))]))])
def f_covered_by : List D → Res D := runFn 3 5 b_covered_by
theorem c_covered_by : cSs (cS T13 14 10 (mkSC N_covered_by d_covered_by.scope)) d_covered_by.body = some b_covered_by := by kernel_rfl
theorem s_covered_by : FnScope N_covered_by ["books", "lot", "wish"] d_covered_by.scope := ⟨by kernel_rfl, by kernel_rfl, by kernel_rfl, by decide +kernel, by kernel_rfl, by decide +kernel, by decide +kernel⟩
theorem a_covered_by : BindOk d_covered_by ["books", "lot", "wish"] := fun _ _ _ _ _ _ us hl => match us, hl with | [_, _, _], _ => rfl
def T14 : Tab := { T13 with fns := ("covered_by", 3, f_covered_by) :: T13.fns }
def N_subject_spare : List Str := ["books", "found", "number", "book", "others", "one"]
def b_subject_spare : SEn → Out :=
  xSeq (xDrop [0] (vCall f_need_books [(vVar 0)]))
  (xSeq (xSetG 1 [] (vLst []))
  (xSeq (xFor iEnumD [0] [(vVar 0)] (.tup (.cons (.slot 2) (.cons (.slot 3) .nil)))
  (xSeq (xSetG 4 [0, 5, 2] (vComp (wCall iRange [(vCall dLen [(vVar 0)])]) (.slot 5) [5] (some (vTest (vBin dNe (vVar 5) (vVar 2)))) (vVar 5)))
  (xIf [0, 4, 3] (vTest (vCall f_covered_by [(vVar 0), (vVar 4), (vVar 3)]))
  (xApp 1 [2] (vVar 2))
  (xSkip))))
  (xRet [1] (vCall dTuple [(vVar 1)]))))
def f_subject_spare : List D → Res D := runFn 1 6 b_subject_spare
theorem c_subject_spare : cSs (cS T14 14 10 (mkSC N_subject_spare d_subject_spare.scope)) d_subject_spare.body = some b_subject_spare := by kernel_rfl
theorem s_subject_spare : FnScope N_subject_spare ["books"] d_subject_spare.scope := ⟨by kernel_rfl, by kernel_rfl, by kernel_rfl, by decide +kernel, by kernel_rfl, by decide +kernel, by decide +kernel⟩
theorem a_subject_spare : BindOk d_subject_spare ["books"] := fun _ _ _ _ _ _ us hl => match us, hl with | [_], _ => rfl
def T15 : Tab := { T14 with fns := ("subject_spare", 1, f_subject_spare) :: T14.fns }
def N_subject_found : List Str := ["books", "year", "number", "book"]
def b_subject_found : SEn → Out :=
  xSeq (xDrop [0] (vCall f_need_books [(vVar 0)]))
  (xSeq (xIf [1] (vTest (vNot (vCall f_is_between [(vVar 1), (vC (.int 0)), (vC (.int 60))])))
  (xRaise 2)
  (xSkip))
  (xRet [2, 0, 3, 1] (vCall dTuple [(vComp (wCall iEnumD [(vVar 0)]) (.tup (.cons (.slot 2) (.cons (.slot 3) .nil))) [2, 3] (some (vTest (vCall f_tells [(vVar 3), (vVar 1)]))) (vVar 2))])))
def f_subject_found : List D → Res D := runFn 2 4 b_subject_found
theorem c_subject_found : cSs (cS T15 14 10 (mkSC N_subject_found d_subject_found.scope)) d_subject_found.body = some b_subject_found := by kernel_rfl
theorem s_subject_found : FnScope N_subject_found ["books", "year"] d_subject_found.scope := ⟨by kernel_rfl, by kernel_rfl, by kernel_rfl, by decide +kernel, by kernel_rfl, by decide +kernel, by decide +kernel⟩
theorem a_subject_found : BindOk d_subject_found ["books", "year"] := fun _ _ _ _ _ _ us hl => match us, hl with | [_, _], _ => rfl
def T16 : Tab := { T15 with fns := ("subject_found", 2, f_subject_found) :: T15.fns }
def N_subject_piles : List Str := ["books", "piles", "number", "taken", "other", "pile"]
def b_subject_piles : SEn → Out :=
  xSeq (xDrop [0] (vCall f_need_books [(vVar 0)]))
  (xSeq (xSetG 1 [0] (vBin dMul (vLst [(vC .none)]) (vCall dLen [(vVar 0)])))
  (xSeq (xForG [0] (vSortK (vUn dLR1 (vCall dLen [(vVar 0)])) (qTup [(qBin dIdxK (qCap 0) qPar), qPar])) (.slot 2)
  (xSeq (xSetG 3 [1, 2, 0, 4] (vComp (wCall iRange [(vCall dLen [(vVar 0)])]) (.slot 4) [4] (some (vTest (vAnd (vBin dIsNot (vBin dIdx (vVar 1) (vVar 4)) (vC .none)) (vAnd (vBin dLt (vBin dIdx (vBin dIdx (vVar 0) (vVar 4)) (vC (.int 0))) (vBin dIdx (vBin dIdx (vVar 0) (vVar 2)) (vC (.int 1)))) (vBin dLt (vBin dIdx (vBin dIdx (vVar 0) (vVar 2)) (vC (.int 0))) (vBin dIdx (vBin dIdx (vVar 0) (vVar 4)) (vC (.int 1)))))))) (vBin dIdx (vVar 1) (vVar 4))))
  (xPut 1 [0, 5, 3] (vBin dIdx (vComp (wCall iRange [(vCall dLen [(vVar 0)])]) (.slot 5) [5] (some (vTest (vBin dNotIn (vVar 5) (vVar 3)))) (vVar 5)) (vC (.int 0))) [2] (vVar 2))))
  (xRet [1] (vCall dTuple [(vVar 1)]))))
def f_subject_piles : List D → Res D := runFn 1 6 b_subject_piles
theorem c_subject_piles : cSs (cS T16 14 10 (mkSCL N_subject_piles d_subject_piles.scope)) d_subject_piles.body = some b_subject_piles := by kernel_rfl
theorem s_subject_piles : FnScope N_subject_piles ["books"] d_subject_piles.scope := ⟨by kernel_rfl, by kernel_rfl, by kernel_rfl, by decide +kernel, by kernel_rfl, by decide +kernel, by decide +kernel⟩
theorem a_subject_piles : BindOk d_subject_piles ["books"] := fun _ _ _ _ _ _ us hl => match us, hl with | [_], _ => rfl
def T17 : Tab := { T16 with fns := ("subject_piles", 1, f_subject_piles) :: T16.fns }
def N__law_refused : List Str := ["books", "year", "wrong"]
def b__law_refused : SEn → Out :=
  xSeq (xTryL (xDrop [0, 1] (vCall f_subject_found [(vVar 0), (vVar 1)])) 2 [(1, some (some (.rt (.b false)))), (2, some (some (.rt (.b true))))])
  (xRet [] (vC (.bool false)))
def f__law_refused : List D → Res D := runFn 2 3 b__law_refused
theorem c__law_refused : cSs (cS T17 14 10 (mkSC N__law_refused d__law_refused.scope)) d__law_refused.body = some b__law_refused := by kernel_rfl
theorem s__law_refused : FnScope N__law_refused ["books", "year"] d__law_refused.scope := ⟨by kernel_rfl, by kernel_rfl, by kernel_rfl, by decide +kernel, by kernel_rfl, by decide +kernel, by decide +kernel⟩
theorem a__law_refused : BindOk d__law_refused ["books", "year"] := fun _ _ _ _ _ _ us hl => match us, hl with | [_, _], _ => rfl
def T18 : Tab := { T17 with fns := ("_law_refused", 2, f__law_refused) :: T17.fns }
def N__law_tells : List Str := ["book", "year"]
def b__law_tells : SEn → Out :=
  xRet [1, 0] (vChain dLe dLt (vBin dIdx (vVar 0) (vC (.int 0))) (vVar 1) (vBin dIdx (vVar 0) (vC (.int 1))))
def f__law_tells : List D → Res D := runFn 2 2 b__law_tells
theorem c__law_tells : cSs (cS T18 14 10 (mkSC N__law_tells d__law_tells.scope)) d__law_tells.body = some b__law_tells := by kernel_rfl
theorem s__law_tells : FnScope N__law_tells ["book", "year"] d__law_tells.scope := ⟨by kernel_rfl, by kernel_rfl, by kernel_rfl, by decide +kernel, by kernel_rfl, by decide +kernel, by decide +kernel⟩
theorem a__law_tells : BindOk d__law_tells ["book", "year"] := fun _ _ _ _ _ _ us hl => match us, hl with | [_, _], _ => rfl
def T19 : Tab := { T18 with fns := ("_law_tells", 2, f__law_tells) :: T18.fns }
def N_law : List Str := ["script", "books", "last", "book", "depth", "joined", "begin", "year", "inside", "spare", "k", "piles", "pair", "taken", "j", "one", "thing"]
def b_law : SEn → Out :=
  xSeq (xSet 1 [0] (vCall f__law_books [(vCall f__law_at [(vVar 0), (vC (.int 0))]), (vCall f__law_at [(vVar 0), (vC (.int 1))])]))
  (xSeq (xSet 2 [] (vC (.int 0)))
  (xSeq (xForS [1] (vVar 1) (.slot 3)
  (xSet 2 [2, 3] (vCall dMax [(vVar 2), (vBin dIdx (vVar 3) (vC (.int 1)))])))
  (xSeq (xSet 4 [1, 3, 7, 2] (vCall dTuple [(vComp (wCall iRange [(vVar 2)]) (.slot 7) [7] none (vCall dLen [(vComp (wSeq (vVar 1)) (.slot 3) [3] (some (vTest (vCall f__law_tells [(vVar 3), (vVar 7)]))) (vVar 3))]))]))
  (xSeq (xIf [1, 4] (vTest (vBin dNe (vCall f_subject_depth [(vVar 1)]) (vVar 4)))
  (xRet [] (vC (.bool false)))
  (xSkip))
  (xSeq (xSetG 5 [] (vLst []))
  (xSeq (xSet 6 [] (vC .none))
  (xSeq (xFor iRange [] [(vC (.int 62))] (.slot 7)
  (xSeq (xSet 8 [2, 4, 7] (vAnd (vBin dLt (vVar 7) (vVar 2)) (vBin dGt (vBin dIdx (vVar 4) (vVar 7)) (vC (.int 0)))))
  (xSeq (xIf [8, 6] (vTest (vAnd (vVar 8) (vBin dIs (vVar 6) (vC .none))))
  (xSet 6 [7] (vVar 7))
  (xSkip))
  (xIf [8, 6] (vTest (vAnd (vNot (vVar 8)) (vBin dIsNot (vVar 6) (vC .none))))
  (xSeq (xApp 5 [6, 7] (vTup [(vVar 6), (vVar 7)]))
  (xSet 6 [] (vC .none)))
  (xSkip)))))
  (xSeq (xIf [1, 5] (vTest (vBin dNe (vCall f_subject_joined [(vVar 1)]) (vCall dTuple [(vVar 5)])))
  (xRet [] (vC (.bool false)))
  (xSkip))
  (xSeq (xSetG 9 [] (vLst []))
  (xSeq (xFor iRange [1] [(vCall dLen [(vVar 1)])] (.slot 10)
  (xIf [4, 7, 1, 10] (vTest (vCall dAll [(vComp (wCall iRange [(vBin dIdx (vBin dIdx (vVar 1) (vVar 10)) (vC (.int 0))), (vBin dIdx (vBin dIdx (vVar 1) (vVar 10)) (vC (.int 1)))]) (.slot 7) [7] none (vBin dGt (vBin dIdx (vVar 4) (vVar 7)) (vC (.int 1))))]))
  (xApp 9 [10] (vVar 10))
  (xSkip)))
  (xSeq (xIf [1, 9] (vTest (vBin dNe (vCall f_subject_spare [(vVar 1)]) (vCall dTuple [(vVar 9)])))
  (xRet [] (vC (.bool false)))
  (xSkip))
  (xSeq (xSetG 11 [1] (vComp (wSeq (vVar 1)) (.slot 3) [3] none (vC .none)))
  (xSeq (xForG [10, 1] (vCall dSorted [(vComp (wCall iRange [(vCall dLen [(vVar 1)])]) (.slot 10) [10] none (vTup [(vBin dIdx (vVar 1) (vVar 10)), (vVar 10)]))]) (.slot 12)
  (xSeq (xSet 10 [12] (vBin dIdx (vVar 12) (vC (.int 1))))
  (xSeq (xSetG 13 [] (vLst []))
  (xSeq (xFor iRange [1] [(vCall dLen [(vVar 1)])] (.slot 14)
  (xIf [11, 10, 1, 14] (vTest (vAnd (vBin dIsNot (vBin dIdx (vVar 11) (vVar 14)) (vC .none)) (vAnd (vBin dLt (vBin dIdx (vBin dIdx (vVar 1) (vVar 14)) (vC (.int 0))) (vBin dIdx (vBin dIdx (vVar 1) (vVar 10)) (vC (.int 1)))) (vBin dLt (vBin dIdx (vBin dIdx (vVar 1) (vVar 10)) (vC (.int 0))) (vBin dIdx (vBin dIdx (vVar 1) (vVar 14)) (vC (.int 1)))))))
  (xApp 13 [11, 14] (vBin dIdx (vVar 11) (vVar 14)))
  (xSkip)))
  (xPut 11 [1, 15, 13] (vBin dIdx (vComp (wCall iRange [(vCall dLen [(vVar 1)])]) (.slot 15) [15] (some (vTest (vBin dNotIn (vVar 15) (vVar 13)))) (vVar 15)) (vC (.int 0))) [10] (vVar 10))))))
  (xSeq (xIf [1, 11, 4] (vTest (vOr (vBin dNe (vCall f_subject_piles [(vVar 1)]) (vCall dTuple [(vVar 11)])) (vBin dNe (vBin dAdd (vCall dMax [(vBin dAdd (vVar 11) (vLst [(vBin dSub (vC (.int 0)) (vC (.int 1)))]))]) (vC (.int 1))) (vCall dMax [(vBin dAdd (vVar 4) (vTup [(vC (.int 0))]))]))))
  (xRet [] (vC (.bool false)))
  (xSkip))
  (xSeq (xSet 7 [0] (vBin dIdx (vCall f__law_row [(vCall f__law_at [(vVar 0), (vC (.int 2))]), (vC (.int 1)), (vC (.int 61))]) (vC (.int 0))))
  (xSeq (xIf [1, 10, 7] (vTest (vBin dNe (vCall f_subject_found [(vVar 1), (vVar 7)]) (vCall dTuple [(vComp (wCall iRange [(vCall dLen [(vVar 1)])]) (.slot 10) [10] (some (vTest (vCall f__law_tells [(vBin dIdx (vVar 1) (vVar 10)), (vVar 7)]))) (vVar 10))])))
  (xRet [] (vC (.bool false)))
  (xSkip))
  (xRet [1, 16] (vCall dAll [(vComp (wSeq (vLst [(vC .none), (vBin dSub (vC (.int 0)) (vC (.int 1))), (vC (.int 61)), (vC (.bool true)), (vC (.str "0"))])) (.slot 16) [16] none (vCall f__law_refused [(vVar 1), (vVar 16)]))]))))))))))))))))))
def f_law : List D → Res D := runFn 1 17 b_law
theorem c_law : cSs (cS T19 14 10 (mkSC N_law d_law.scope)) d_law.body = some b_law := by kernel_rfl
theorem s_law : FnScope N_law ["script"] d_law.scope := ⟨by kernel_rfl, by kernel_rfl, by kernel_rfl, by decide +kernel, by kernel_rfl, by decide +kernel, by decide +kernel⟩
theorem a_law : BindOk d_law ["script"] := fun _ _ _ _ _ _ us hl => match us, hl with | [_], _ => rfl
def T20 : Tab := { T19 with fns := ("law", 1, f_law) :: T19.fns }
section
variable {P : Program} {w : World} {K : PySem.W.Frag} {mg : Str → Option Value} {base h : Heap}
theorem m_0 (X : K.In h) (G : h.Ns mainGlobals mg) (c : He.SaysX md.fa md.mFns [] md.tf md.ex w h K) (tb : md.tbs K base mg) : Mo P w K mg base (md.ca K) 0 T0 := mo_zero X G c
theorem m_1 (X : K.In h) (G : h.Ns mainGlobals mg) (c : He.SaysX md.fa md.mFns [] md.tf md.ex w h K) (tb : md.tbs K base mg) : Mo P w K mg base (md.ca K) 1 T1 := mo_def X G c (d := d__law_mixed) (N := N__law_mixed) (ps := ["cell", "k"]) (n := 14) (j := 10) (g := b__law_mixed) (List.mem_of_getElem? (i := 0) rfl) rfl rfl rfl s__law_mixed a__law_mixed (m_0 X G c tb) c__law_mixed
theorem m_2 (X : K.In h) (G : h.Ns mainGlobals mg) (c : He.SaysX md.fa md.mFns [] md.tf md.ex w h K) (tb : md.tbs K base mg) : Mo P w K mg base (md.ca K) 2 T2 := mo_def X G c (d := d__law_row) (N := N__law_row) (ps := ["cell", "many", "top"]) (n := 14) (j := 10) (g := b__law_row) (List.mem_of_getElem? (i := 1) rfl) rfl rfl rfl s__law_row a__law_row (m_1 X G c tb) c__law_row
theorem m_3 (X : K.In h) (G : h.Ns mainGlobals mg) (c : He.SaysX md.fa md.mFns [] md.tf md.ex w h K) (tb : md.tbs K base mg) : Mo P w K mg base (md.ca K) 3 T3 := mo_def X G c (d := d__law_books) (N := N__law_books) (ps := ["cell", "more"]) (n := 14) (j := 10) (g := b__law_books) (List.mem_of_getElem? (i := 2) rfl) rfl rfl rfl s__law_books a__law_books (m_2 X G c tb) c__law_books
theorem m_4 (X : K.In h) (G : h.Ns mainGlobals mg) (c : He.SaysX md.fa md.mFns [] md.tf md.ex w h K) (tb : md.tbs K base mg) : Mo P w K mg base (md.ca K) 4 T4 := mo_def X G c (d := d__law_at) (N := N__law_at) (ps := ["script", "k"]) (n := 14) (j := 10) (g := b__law_at) (List.mem_of_getElem? (i := 3) rfl) rfl rfl rfl s__law_at a__law_at (m_3 X G c tb) c__law_at
theorem m_5 (X : K.In h) (G : h.Ns mainGlobals mg) (c : He.SaysX md.fa md.mFns [] md.tf md.ex w h K) (tb : md.tbs K base mg) : Mo P w K mg base (md.ca K) 5 T5 := mo_def X G c (d := d_is_tuple_of) (N := N_is_tuple_of) (ps := ["thing", "many"]) (n := 14) (j := 10) (g := b_is_tuple_of) (List.mem_of_getElem? (i := 4) rfl) rfl rfl rfl s_is_tuple_of a_is_tuple_of (m_4 X G c tb) c_is_tuple_of
theorem m_6 (X : K.In h) (G : h.Ns mainGlobals mg) (c : He.SaysX md.fa md.mFns [] md.tf md.ex w h K) (tb : md.tbs K base mg) : Mo P w K mg base (md.ca K) 6 T6 := mo_def X G c (d := d_is_integer) (N := N_is_integer) (ps := ["thing"]) (n := 14) (j := 10) (g := b_is_integer) (List.mem_of_getElem? (i := 5) rfl) rfl rfl rfl s_is_integer a_is_integer (m_5 X G c tb) c_is_integer
theorem m_7 (X : K.In h) (G : h.Ns mainGlobals mg) (c : He.SaysX md.fa md.mFns [] md.tf md.ex w h K) (tb : md.tbs K base mg) : Mo P w K mg base (md.ca K) 7 T7 := mo_def X G c (d := d_is_between) (N := N_is_between) (ps := ["thing", "least", "most"]) (n := 14) (j := 10) (g := b_is_between) (List.mem_of_getElem? (i := 6) rfl) rfl rfl rfl s_is_between a_is_between (m_6 X G c tb) c_is_between
theorem m_8 (X : K.In h) (G : h.Ns mainGlobals mg) (c : He.SaysX md.fa md.mFns [] md.tf md.ex w h K) (tb : md.tbs K base mg) : Mo P w K mg base (md.ca K) 8 T8 := mo_def X G c (d := d_is_stretch) (N := N_is_stretch) (ps := ["thing"]) (n := 14) (j := 10) (g := b_is_stretch) (List.mem_of_getElem? (i := 7) rfl) rfl rfl rfl s_is_stretch a_is_stretch (m_7 X G c tb) c_is_stretch
theorem m_9 (X : K.In h) (G : h.Ns mainGlobals mg) (c : He.SaysX md.fa md.mFns [] md.tf md.ex w h K) (tb : md.tbs K base mg) : Mo P w K mg base (md.ca K) 9 T9 := mo_def X G c (d := d_are_books) (N := N_are_books) (ps := ["thing"]) (n := 14) (j := 10) (g := b_are_books) (List.mem_of_getElem? (i := 8) rfl) rfl rfl rfl s_are_books a_are_books (m_8 X G c tb) c_are_books
theorem m_10 (X : K.In h) (G : h.Ns mainGlobals mg) (c : He.SaysX md.fa md.mFns [] md.tf md.ex w h K) (tb : md.tbs K base mg) : Mo P w K mg base (md.ca K) 10 T10 := mo_def X G c (d := d_need_books) (N := N_need_books) (ps := ["thing"]) (n := 14) (j := 10) (g := b_need_books) (List.mem_of_getElem? (i := 9) rfl) rfl rfl rfl s_need_books a_need_books (m_9 X G c tb) c_need_books
theorem m_11 (X : K.In h) (G : h.Ns mainGlobals mg) (c : He.SaysX md.fa md.mFns [] md.tf md.ex w h K) (tb : md.tbs K base mg) : Mo P w K mg base (md.ca K) 11 T11 := mo_def X G c (d := d_tells) (N := N_tells) (ps := ["book", "year"]) (n := 14) (j := 10) (g := b_tells) (List.mem_of_getElem? (i := 10) rfl) rfl rfl rfl s_tells a_tells (m_10 X G c tb) c_tells
theorem m_12 (X : K.In h) (G : h.Ns mainGlobals mg) (c : He.SaysX md.fa md.mFns [] md.tf md.ex w h K) (tb : md.tbs K base mg) : Mo P w K mg base (md.ca K) 12 T12 := mo_def X G c (d := d_subject_depth) (N := N_subject_depth) (ps := ["books"]) (n := 14) (j := 10) (g := b_subject_depth) (List.mem_of_getElem? (i := 11) rfl) rfl rfl rfl s_subject_depth a_subject_depth (m_11 X G c tb) c_subject_depth
theorem m_13 (X : K.In h) (G : h.Ns mainGlobals mg) (c : He.SaysX md.fa md.mFns [] md.tf md.ex w h K) (tb : md.tbs K base mg) : Mo P w K mg base (md.ca K) 13 T13 := mo_def X G c (d := d_subject_joined) (N := N_subject_joined) (ps := ["books"]) (n := 14) (j := 10) (g := b_subject_joined) (List.mem_of_getElem? (i := 12) rfl) rfl rfl rfl s_subject_joined a_subject_joined (m_12 X G c tb) c_subject_joined
theorem m_14 (X : K.In h) (G : h.Ns mainGlobals mg) (c : He.SaysX md.fa md.mFns [] md.tf md.ex w h K) (tb : md.tbs K base mg) : Mo P w K mg base (md.ca K) 14 T14 := mo_def X G c (d := d_covered_by) (N := N_covered_by) (ps := ["books", "lot", "wish"]) (n := 14) (j := 10) (g := b_covered_by) (List.mem_of_getElem? (i := 13) rfl) rfl rfl rfl s_covered_by a_covered_by (m_13 X G c tb) c_covered_by
theorem m_15 (X : K.In h) (G : h.Ns mainGlobals mg) (c : He.SaysX md.fa md.mFns [] md.tf md.ex w h K) (tb : md.tbs K base mg) : Mo P w K mg base (md.ca K) 15 T15 := mo_def X G c (d := d_subject_spare) (N := N_subject_spare) (ps := ["books"]) (n := 14) (j := 10) (g := b_subject_spare) (List.mem_of_getElem? (i := 14) rfl) rfl rfl rfl s_subject_spare a_subject_spare (m_14 X G c tb) c_subject_spare
theorem m_16 (X : K.In h) (G : h.Ns mainGlobals mg) (c : He.SaysX md.fa md.mFns [] md.tf md.ex w h K) (tb : md.tbs K base mg) : Mo P w K mg base (md.ca K) 16 T16 := mo_def X G c (d := d_subject_found) (N := N_subject_found) (ps := ["books", "year"]) (n := 14) (j := 10) (g := b_subject_found) (List.mem_of_getElem? (i := 15) rfl) rfl rfl rfl s_subject_found a_subject_found (m_15 X G c tb) c_subject_found
theorem m_17 (X : K.In h) (G : h.Ns mainGlobals mg) (c : He.SaysX md.fa md.mFns [] md.tf md.ex w h K) (tb : md.tbs K base mg) : Mo P w K mg base (md.ca K) 17 T17 := mo_defL X G c tb (d := d_subject_piles) (N := N_subject_piles) (ps := ["books"]) (n := 14) (j := 10) (g := b_subject_piles) (List.mem_of_getElem? (i := 0) rfl) rfl (List.mem_of_getElem? (i := 16) rfl) rfl rfl rfl s_subject_piles a_subject_piles (m_16 X G c tb) c_subject_piles
theorem m_18 (X : K.In h) (G : h.Ns mainGlobals mg) (c : He.SaysX md.fa md.mFns [] md.tf md.ex w h K) (tb : md.tbs K base mg) : Mo P w K mg base (md.ca K) 18 T18 := mo_def X G c (d := d__law_refused) (N := N__law_refused) (ps := ["books", "year"]) (n := 14) (j := 10) (g := b__law_refused) (List.mem_of_getElem? (i := 17) rfl) rfl rfl rfl s__law_refused a__law_refused (m_17 X G c tb) c__law_refused
theorem m_19 (X : K.In h) (G : h.Ns mainGlobals mg) (c : He.SaysX md.fa md.mFns [] md.tf md.ex w h K) (tb : md.tbs K base mg) : Mo P w K mg base (md.ca K) 19 T19 := mo_def X G c (d := d__law_tells) (N := N__law_tells) (ps := ["book", "year"]) (n := 14) (j := 10) (g := b__law_tells) (List.mem_of_getElem? (i := 18) rfl) rfl rfl rfl s__law_tells a__law_tells (m_18 X G c tb) c__law_tells
end
def loose : List Str := (["__name__", "ShelfError", "NoBooks", "NoStretch", "is_integer", "is_between", "is_tuple_of", "MOST_BOOKS", "MOST_YEAR", "is_stretch", "are_books", "need_books", "tells", "covered_by", "subject_depth", "subject_joined", "subject_spare", "subject_piles", "subject_found", "_law_books", "_law_tells", "_law_at", "_law_mixed", "_law_row", "_law_refused"] : List Str)
abbrev R : PySem.W.OpenRow := PySem.W.OpenLaw.row PySem.Challenge.rw_shelfhouse_k68_depths_piles_and_gaps
abbrev hk : PySem.W.Hook := He.hookX 5 md.fa md.mFns [] md.tf md.ex
def ob (s : PySem.W.SharedT) : He.AlX := He.obsX 5 md.fa md.mFns [] md.tf md.ex (HandSHeadRun.getT s)
theorem ob_eq (s : PySem.W.SharedT) : ob s = hk.obs s.abs := He.obsX_eq (HandSHeadRun.getT_eq s)
end K68


set_option Elab.async false
set_option linter.all false
set_option maxRecDepth 100000
set_option maxHeartbeats 1000000
namespace K68
open PySem PySem.Spec PyProof.Rows L2 SH
def mixI (cell k : Int) : Int := ((cell * 48271 + k * 69621 + 11) * 16807 + (cell * 48271 + k * 69621 + 11) / 8191) % 2147483647
theorem mixed_eq (cell k : Int) : f__law_mixed [.int cell, .int k] = .ok (.int (mixI cell k)) := by
  refine runFn_eq rfl ?_
  simp only [startE_eq, kSet_ap, kSetG_ap, kIfS_ap, kIf0_ap, kRet_ap, kDrop_ap, kUnp_slot, kUnp2, kUnp3, kApp_ap, appR_ok, ownR_ok, augR_ok, kPar1_ap, kPar2_ap, kAug_ap, kForS_l, kForS_t, xSkip_ap, xSeq_skip, xSeq_seq, xSeq_set, xSeq_setG, xSeq_if, xSeq_ret, xSeq_retN, xSeq_raise, xSeq_drop, xSeq_brk, xSeq_cnt, xSeq_unp, xSeq_par, xSeq_app, xApp_ap, xSeq_aug, xAug_ap, xSeq_for, xSeq_forS, xSeq_forG, xFor_ap, xForS_ap, xForG_ap, xPar_ap, xSet_ap, xSetG_ap, xIf_ap, xRet_ap, xRetN_ap, xDrop_ap, xRaise_ap, xBreak_ap, xCont_ap, xUnp_ap, xSeq_put, xPut_ap, xSeq_putA, xPutA_ap, paK1_ap, paR1_ok, paX1_ok, paK2_ap, kPut1_ap, kPut2_ap, putR_ok, putJ_ok, kEv_ap, kEvG_ap, kEvL_ap, evS_ap, evG_ap, evL_ap, evA_t, evA_f, keepG_int, keepG_bool, keepG_none, keepG_tuple, keepG_list, flatL_nil, flatL_cons, vVar_ap, varR_ok, optR_ok, vC_ap, kB_ap, vBin_ap, vUn_ap, vTest_ap, kAnd_ap, kAnd2_ap, vAnd_ap, kOr_ap, kOr2_ap, vOr_ap, kNot_ap, kNot2_ap, vNot_ap, kIfE_ap, vIf_ap, kC3_ap, kC2_ap, kC1_ap, vChain_ap, kL_ap, kL2_ap, vL_nil, vL_cons, kTup_ap, kLst_ap, vTup_ap, vLst_ap, vCall_ap, kCut1_ap, kCut2_ap, kCut3_ap, vCut_ap, kPart_ap, vPart_none, vPart_some, kComp_ap, kCompO_ap, vComp_ap, wSeq_ap, wCall_ap, wipe_nil, wipe_cons, dMod_int, bindS_slot, bindS_tup, bindSs_nil, bindSs_slot, bindT_slot, bindT_tup, bindTs_nil, bindTs_slot, onR_ok, onR_exc, outR_rt, outR_nx, outR_exc, after_t, after_f, rb_ok, rb_exc, tr_bool, tr_none, tr_int, tr_list, tr_tuple, toB_bool, toI_int, dAdd_int, dSub_int, dNeg_int, dMul_l, dMul_r, dDiv_int, dLt_int, dLe_int, dGt_int, dGe_int, dEq_int, dNe_int, dEq_bool, dNe_bool, dIs_none, dIsNot_none, dIs_bool, isNone_none, isNone_int, isNone_bool, isNone_tuple, isNone_list, dIdx_list, dIdx_tuple, atI_0, atI_1, atI_2, dLen_list, dLen_tuple, dInt_int, dAbs_int, dTuple_list, dTuple_tuple, dList_list, dList_tuple, dSum_ints, dSum_intsT, dAll_bools, dMin_2, dMax_2, isi_int_int, isi_int_bool, isi_int_none, isi_int_tuple, isi_int_list, isi_bool_int, isi_bool_bool, isi_tuple_tuple, isi_tuple_int, isi_tuple_none, isi_list_list, asSeq_list, asSeq_tuple, iEnum_list, iEnum_tuple, iZip_list, iZip_tuple, dCut_list, dCut_tuple, flat_none, flat_bool, flat_int, flat_str, flat_tuple, flat_list, flatL_ints, flatL_bools, isL_list, isL_int, isL_bool, isL_tuple, isL_none, mview_nil, mview_cons, mv1_f, mv1_n, mv1_t, freeze_nil, freeze_cons, fr1_f, fr1_n, fr1_t, List.set_cons_zero, List.set_cons_succ, List.map_cons, List.map_nil, List.length_cons, List.length_nil, List.replicate_succ, List.replicate_zero, List.cons_append, List.nil_append, List.getElem?_cons_zero, List.getElem?_cons_succ, List.mem_cons, List.not_mem_nil, or_false, false_or, or_true, true_or, if_true, if_false, Bool.false_eq_true, Bool.not_true, Bool.not_false, decide_true, decide_false, and_self, true_and, and_true, Bool.true_and, Bool.and_true, Bool.and_self, Bool.false_and, Bool.and_false, ↓reduceIte, reduceIte, Int.reduceLT, Int.reduceLE, Int.reduceNeg, Int.reduceAdd, Int.reduceSub, Int.reduceMul, Int.reduceToNat, Nat.reduceLT, Nat.reduceLeDiff, Nat.reduceEqDiff, Nat.reduceAdd, Nat.reduceSub, Nat.reduceMul, reduceCtorEq, Int.cast_ofNat_Int, Int.natCast_one, Int.natCast_zero, Int.reduceEq, vMeth_ap, kMeth_l, dRev_list, dCount_ints, kRem_ap, xSeq_rem, xSeq_ext, xExt_ap, kExt_ap, xSeq_pop, xPop_ap, popR_ok, xRem_ap, xSeq_try, xTryL_ap, kTry_nx, kTry_rt, kTry_exc, tryR_rt, tryR_nx, tryR_no, handL_cons, wipeS_nil, wipeS_cons, cv_s, cv_b, cv_i, b__law_mixed]
  rfl
theorem at_eq (ns : List Int) (k : Nat) : f__law_at [.list (ns.map .int), .int k] = .ok (.int (ns.getD k (5 + 3 * k))) := by
  refine runFn_eq rfl ?_
  by_cases h : k < ns.length
  · have e : ns[k]? = some ns[k] := by simp [h]
    simp only [startE_eq, kSet_ap, kSetG_ap, kIfS_ap, kIf0_ap, kRet_ap, kDrop_ap, kUnp_slot, kUnp2, kUnp3, kApp_ap, appR_ok, ownR_ok, augR_ok, kPar1_ap, kPar2_ap, kAug_ap, kForS_l, kForS_t, xSkip_ap, xSeq_skip, xSeq_seq, xSeq_set, xSeq_setG, xSeq_if, xSeq_ret, xSeq_retN, xSeq_raise, xSeq_drop, xSeq_brk, xSeq_cnt, xSeq_unp, xSeq_par, xSeq_app, xApp_ap, xSeq_aug, xAug_ap, xSeq_for, xSeq_forS, xSeq_forG, xFor_ap, xForS_ap, xForG_ap, xPar_ap, xSet_ap, xSetG_ap, xIf_ap, xRet_ap, xRetN_ap, xDrop_ap, xRaise_ap, xBreak_ap, xCont_ap, xUnp_ap, xSeq_put, xPut_ap, xSeq_putA, xPutA_ap, paK1_ap, paR1_ok, paX1_ok, paK2_ap, kPut1_ap, kPut2_ap, putR_ok, putJ_ok, kEv_ap, kEvG_ap, kEvL_ap, evS_ap, evG_ap, evL_ap, evA_t, evA_f, keepG_int, keepG_bool, keepG_none, keepG_tuple, keepG_list, flatL_nil, flatL_cons, vVar_ap, varR_ok, optR_ok, vC_ap, kB_ap, vBin_ap, vUn_ap, vTest_ap, kAnd_ap, kAnd2_ap, vAnd_ap, kOr_ap, kOr2_ap, vOr_ap, kNot_ap, kNot2_ap, vNot_ap, kIfE_ap, vIf_ap, kC3_ap, kC2_ap, kC1_ap, vChain_ap, kL_ap, kL2_ap, vL_nil, vL_cons, kTup_ap, kLst_ap, vTup_ap, vLst_ap, vCall_ap, kCut1_ap, kCut2_ap, kCut3_ap, vCut_ap, kPart_ap, vPart_none, vPart_some, kComp_ap, kCompO_ap, vComp_ap, wSeq_ap, wCall_ap, wipe_nil, wipe_cons, dMod_int, bindS_slot, bindS_tup, bindSs_nil, bindSs_slot, bindT_slot, bindT_tup, bindTs_nil, bindTs_slot, onR_ok, onR_exc, outR_rt, outR_nx, outR_exc, after_t, after_f, rb_ok, rb_exc, tr_bool, tr_none, tr_int, tr_list, tr_tuple, toB_bool, toI_int, dAdd_int, dSub_int, dNeg_int, dMul_l, dMul_r, dDiv_int, dLt_int, dLe_int, dGt_int, dGe_int, dEq_int, dNe_int, dEq_bool, dNe_bool, dIs_none, dIsNot_none, dIs_bool, isNone_none, isNone_int, isNone_bool, isNone_tuple, isNone_list, dIdx_list, dIdx_tuple, atI_0, atI_1, atI_2, dLen_list, dLen_tuple, dInt_int, dAbs_int, dTuple_list, dTuple_tuple, dList_list, dList_tuple, dSum_ints, dSum_intsT, dAll_bools, dMin_2, dMax_2, isi_int_int, isi_int_bool, isi_int_none, isi_int_tuple, isi_int_list, isi_bool_int, isi_bool_bool, isi_tuple_tuple, isi_tuple_int, isi_tuple_none, isi_list_list, asSeq_list, asSeq_tuple, iEnum_list, iEnum_tuple, iZip_list, iZip_tuple, dCut_list, dCut_tuple, flat_none, flat_bool, flat_int, flat_str, flat_tuple, flat_list, flatL_ints, flatL_bools, isL_list, isL_int, isL_bool, isL_tuple, isL_none, mview_nil, mview_cons, mv1_f, mv1_n, mv1_t, freeze_nil, freeze_cons, fr1_f, fr1_n, fr1_t, List.set_cons_zero, List.set_cons_succ, List.map_cons, List.map_nil, List.length_cons, List.length_nil, List.replicate_succ, List.replicate_zero, List.cons_append, List.nil_append, List.getElem?_cons_zero, List.getElem?_cons_succ, List.mem_cons, List.not_mem_nil, or_false, false_or, or_true, true_or, if_true, if_false, Bool.false_eq_true, Bool.not_true, Bool.not_false, decide_true, decide_false, and_self, true_and, and_true, Bool.true_and, Bool.and_true, Bool.and_self, Bool.false_and, Bool.and_false, ↓reduceIte, reduceIte, Int.reduceLT, Int.reduceLE, Int.reduceNeg, Int.reduceAdd, Int.reduceSub, Int.reduceMul, Int.reduceToNat, Nat.reduceLT, Nat.reduceLeDiff, Nat.reduceEqDiff, Nat.reduceAdd, Nat.reduceSub, Nat.reduceMul, reduceCtorEq, Int.cast_ofNat_Int, Int.natCast_one, Int.natCast_zero, Int.reduceEq, vMeth_ap, kMeth_l, dRev_list, dCount_ints, kRem_ap, xSeq_rem, xSeq_ext, xExt_ap, kExt_ap, xSeq_pop, xPop_ap, popR_ok, xRem_ap, xSeq_try, xTryL_ap, kTry_nx, kTry_rt, kTry_exc, tryR_rt, tryR_nx, tryR_no, handL_cons, wipeS_nil, wipeS_cons, cv_s, cv_b, cv_i, b__law_at, List.length_map, Int.ofNat_lt, h, atI_map e]
    simp [h]
  · simp only [startE_eq, kSet_ap, kSetG_ap, kIfS_ap, kIf0_ap, kRet_ap, kDrop_ap, kUnp_slot, kUnp2, kUnp3, kApp_ap, appR_ok, ownR_ok, augR_ok, kPar1_ap, kPar2_ap, kAug_ap, kForS_l, kForS_t, xSkip_ap, xSeq_skip, xSeq_seq, xSeq_set, xSeq_setG, xSeq_if, xSeq_ret, xSeq_retN, xSeq_raise, xSeq_drop, xSeq_brk, xSeq_cnt, xSeq_unp, xSeq_par, xSeq_app, xApp_ap, xSeq_aug, xAug_ap, xSeq_for, xSeq_forS, xSeq_forG, xFor_ap, xForS_ap, xForG_ap, xPar_ap, xSet_ap, xSetG_ap, xIf_ap, xRet_ap, xRetN_ap, xDrop_ap, xRaise_ap, xBreak_ap, xCont_ap, xUnp_ap, xSeq_put, xPut_ap, xSeq_putA, xPutA_ap, paK1_ap, paR1_ok, paX1_ok, paK2_ap, kPut1_ap, kPut2_ap, putR_ok, putJ_ok, kEv_ap, kEvG_ap, kEvL_ap, evS_ap, evG_ap, evL_ap, evA_t, evA_f, keepG_int, keepG_bool, keepG_none, keepG_tuple, keepG_list, flatL_nil, flatL_cons, vVar_ap, varR_ok, optR_ok, vC_ap, kB_ap, vBin_ap, vUn_ap, vTest_ap, kAnd_ap, kAnd2_ap, vAnd_ap, kOr_ap, kOr2_ap, vOr_ap, kNot_ap, kNot2_ap, vNot_ap, kIfE_ap, vIf_ap, kC3_ap, kC2_ap, kC1_ap, vChain_ap, kL_ap, kL2_ap, vL_nil, vL_cons, kTup_ap, kLst_ap, vTup_ap, vLst_ap, vCall_ap, kCut1_ap, kCut2_ap, kCut3_ap, vCut_ap, kPart_ap, vPart_none, vPart_some, kComp_ap, kCompO_ap, vComp_ap, wSeq_ap, wCall_ap, wipe_nil, wipe_cons, dMod_int, bindS_slot, bindS_tup, bindSs_nil, bindSs_slot, bindT_slot, bindT_tup, bindTs_nil, bindTs_slot, onR_ok, onR_exc, outR_rt, outR_nx, outR_exc, after_t, after_f, rb_ok, rb_exc, tr_bool, tr_none, tr_int, tr_list, tr_tuple, toB_bool, toI_int, dAdd_int, dSub_int, dNeg_int, dMul_l, dMul_r, dDiv_int, dLt_int, dLe_int, dGt_int, dGe_int, dEq_int, dNe_int, dEq_bool, dNe_bool, dIs_none, dIsNot_none, dIs_bool, isNone_none, isNone_int, isNone_bool, isNone_tuple, isNone_list, dIdx_list, dIdx_tuple, atI_0, atI_1, atI_2, dLen_list, dLen_tuple, dInt_int, dAbs_int, dTuple_list, dTuple_tuple, dList_list, dList_tuple, dSum_ints, dSum_intsT, dAll_bools, dMin_2, dMax_2, isi_int_int, isi_int_bool, isi_int_none, isi_int_tuple, isi_int_list, isi_bool_int, isi_bool_bool, isi_tuple_tuple, isi_tuple_int, isi_tuple_none, isi_list_list, asSeq_list, asSeq_tuple, iEnum_list, iEnum_tuple, iZip_list, iZip_tuple, dCut_list, dCut_tuple, flat_none, flat_bool, flat_int, flat_str, flat_tuple, flat_list, flatL_ints, flatL_bools, isL_list, isL_int, isL_bool, isL_tuple, isL_none, mview_nil, mview_cons, mv1_f, mv1_n, mv1_t, freeze_nil, freeze_cons, fr1_f, fr1_n, fr1_t, List.set_cons_zero, List.set_cons_succ, List.map_cons, List.map_nil, List.length_cons, List.length_nil, List.replicate_succ, List.replicate_zero, List.cons_append, List.nil_append, List.getElem?_cons_zero, List.getElem?_cons_succ, List.mem_cons, List.not_mem_nil, or_false, false_or, or_true, true_or, if_true, if_false, Bool.false_eq_true, Bool.not_true, Bool.not_false, decide_true, decide_false, and_self, true_and, and_true, Bool.true_and, Bool.and_true, Bool.and_self, Bool.false_and, Bool.and_false, ↓reduceIte, reduceIte, Int.reduceLT, Int.reduceLE, Int.reduceNeg, Int.reduceAdd, Int.reduceSub, Int.reduceMul, Int.reduceToNat, Nat.reduceLT, Nat.reduceLeDiff, Nat.reduceEqDiff, Nat.reduceAdd, Nat.reduceSub, Nat.reduceMul, reduceCtorEq, Int.cast_ofNat_Int, Int.natCast_one, Int.natCast_zero, Int.reduceEq, vMeth_ap, kMeth_l, dRev_list, dCount_ints, kRem_ap, xSeq_rem, xSeq_ext, xExt_ap, kExt_ap, xSeq_pop, xPop_ap, popR_ok, xRem_ap, xSeq_try, xTryL_ap, kTry_nx, kTry_rt, kTry_exc, tryR_rt, tryR_nx, tryR_no, handL_cons, wipeS_nil, wipeS_cons, cv_s, cv_b, cv_i, b__law_at, List.length_map, Int.ofNat_lt, h]
    simp [h]
def divN (c t : Int) : Nat → Int
  | 0 => c
  | k + 1 => divN c t k / t
def rowI (cell top : Int) (k : Nat) : Int := if cell ≥ 1000000000000000000 then divN cell top k % top else mixI cell k / 7 % top
def rowL (cell top : Int) (n : Nat) : List Int := (List.range n).map (rowI cell top)
theorem rowL_length (cell top : Int) (n : Nat) : (rowL cell top n).length = n := by simp [rowL]
theorem rowL_succ (cell top : Int) (n : Nat) : rowL cell top (n + 1) = rowL cell top n ++ [rowI cell top n] := by simp [rowL, List.range_succ]
theorem rowL_get {cell top : Int} {n k : Nat} (h : k < n) : (rowL cell top n)[k]? = some (rowI cell top k) := by simp [rowL, h]
theorem rowI_nn {cell top : Int} {k : Nat} (h : 0 < top) : 0 ≤ rowI cell top k ∧ rowI cell top k < top := by
  unfold rowI
  split <;> exact ⟨Int.emod_nonneg _ (by omega), Int.emod_lt_of_pos _ h⟩
theorem row_eq (cell top : Int) (n : Nat) (hn : n ≤ 1000) (h0 : 0 < top) (h1 : top < 1073741824) : f__law_row [.int cell, .int n, .int top] = .ok (.list ((rowL cell top n).map .int)) := by
  refine runFn_eq rfl ?_
  have hr : iRange [.int n] = .ok (rangeD 0 n) := iRange_1 (by omega)
  simp only [startE_eq, kSet_ap, kSetG_ap, kIfS_ap, kIf0_ap, kRet_ap, kDrop_ap, kUnp_slot, kUnp2, kUnp3, kApp_ap, appR_ok, ownR_ok, augR_ok, kPar1_ap, kPar2_ap, kAug_ap, kForS_l, kForS_t, xSkip_ap, xSeq_skip, xSeq_seq, xSeq_set, xSeq_setG, xSeq_if, xSeq_ret, xSeq_retN, xSeq_raise, xSeq_drop, xSeq_brk, xSeq_cnt, xSeq_unp, xSeq_par, xSeq_app, xApp_ap, xSeq_aug, xAug_ap, xSeq_for, xSeq_forS, xSeq_forG, xFor_ap, xForS_ap, xForG_ap, xPar_ap, xSet_ap, xSetG_ap, xIf_ap, xRet_ap, xRetN_ap, xDrop_ap, xRaise_ap, xBreak_ap, xCont_ap, xUnp_ap, xSeq_put, xPut_ap, xSeq_putA, xPutA_ap, paK1_ap, paR1_ok, paX1_ok, paK2_ap, kPut1_ap, kPut2_ap, putR_ok, putJ_ok, kEv_ap, kEvG_ap, kEvL_ap, evS_ap, evG_ap, evL_ap, evA_t, evA_f, keepG_int, keepG_bool, keepG_none, keepG_tuple, keepG_list, flatL_nil, flatL_cons, vVar_ap, varR_ok, optR_ok, vC_ap, kB_ap, vBin_ap, vUn_ap, vTest_ap, kAnd_ap, kAnd2_ap, vAnd_ap, kOr_ap, kOr2_ap, vOr_ap, kNot_ap, kNot2_ap, vNot_ap, kIfE_ap, vIf_ap, kC3_ap, kC2_ap, kC1_ap, vChain_ap, kL_ap, kL2_ap, vL_nil, vL_cons, kTup_ap, kLst_ap, vTup_ap, vLst_ap, vCall_ap, kCut1_ap, kCut2_ap, kCut3_ap, vCut_ap, kPart_ap, vPart_none, vPart_some, kComp_ap, kCompO_ap, vComp_ap, wSeq_ap, wCall_ap, wipe_nil, wipe_cons, dMod_int, bindS_slot, bindS_tup, bindSs_nil, bindSs_slot, bindT_slot, bindT_tup, bindTs_nil, bindTs_slot, onR_ok, onR_exc, outR_rt, outR_nx, outR_exc, after_t, after_f, rb_ok, rb_exc, tr_bool, tr_none, tr_int, tr_list, tr_tuple, toB_bool, toI_int, dAdd_int, dSub_int, dNeg_int, dMul_l, dMul_r, dDiv_int, dLt_int, dLe_int, dGt_int, dGe_int, dEq_int, dNe_int, dEq_bool, dNe_bool, dIs_none, dIsNot_none, dIs_bool, isNone_none, isNone_int, isNone_bool, isNone_tuple, isNone_list, dIdx_list, dIdx_tuple, atI_0, atI_1, atI_2, dLen_list, dLen_tuple, dInt_int, dAbs_int, dTuple_list, dTuple_tuple, dList_list, dList_tuple, dSum_ints, dSum_intsT, dAll_bools, dMin_2, dMax_2, isi_int_int, isi_int_bool, isi_int_none, isi_int_tuple, isi_int_list, isi_bool_int, isi_bool_bool, isi_tuple_tuple, isi_tuple_int, isi_tuple_none, isi_list_list, asSeq_list, asSeq_tuple, iEnum_list, iEnum_tuple, iZip_list, iZip_tuple, dCut_list, dCut_tuple, flat_none, flat_bool, flat_int, flat_str, flat_tuple, flat_list, flatL_ints, flatL_bools, isL_list, isL_int, isL_bool, isL_tuple, isL_none, mview_nil, mview_cons, mv1_f, mv1_n, mv1_t, freeze_nil, freeze_cons, fr1_f, fr1_n, fr1_t, List.set_cons_zero, List.set_cons_succ, List.map_cons, List.map_nil, List.length_cons, List.length_nil, List.replicate_succ, List.replicate_zero, List.cons_append, List.nil_append, List.getElem?_cons_zero, List.getElem?_cons_succ, List.mem_cons, List.not_mem_nil, or_false, false_or, or_true, true_or, if_true, if_false, Bool.false_eq_true, Bool.not_true, Bool.not_false, decide_true, decide_false, and_self, true_and, and_true, Bool.true_and, Bool.and_true, Bool.and_self, Bool.false_and, Bool.and_false, ↓reduceIte, reduceIte, Int.reduceLT, Int.reduceLE, Int.reduceNeg, Int.reduceAdd, Int.reduceSub, Int.reduceMul, Int.reduceToNat, Nat.reduceLT, Nat.reduceLeDiff, Nat.reduceEqDiff, Nat.reduceAdd, Nat.reduceSub, Nat.reduceMul, reduceCtorEq, Int.cast_ofNat_Int, Int.natCast_one, Int.natCast_zero, Int.reduceEq, vMeth_ap, kMeth_l, dRev_list, dCount_ints, kRem_ap, xSeq_rem, xSeq_ext, xExt_ap, kExt_ap, xSeq_pop, xPop_ap, popR_ok, xRem_ap, xSeq_try, xTryL_ap, kTry_nx, kTry_rt, kTry_exc, tryR_rt, tryR_nx, tryR_no, handL_cons, wipeS_nil, wipeS_cons, cv_s, cv_b, cv_i, b__law_row, kFor_ap hr]
  refine seq_range (P := fun o => outR o = _)
    (fun k env => ∃ x6, env = [some (false, .int cell), some (false, .int n), some (false, .int top), some (true, .list ((rowL cell top k).map .int)), some (false, .int (if cell ≥ 1000000000000000000 then divN cell top k else cell)), some (false, .bool (decide (cell ≥ 1000000000000000000))), x6])
    NoE NoD ⟨none, by simp [rowL, divN]⟩ ?_ ?_ (fun _ z => z.elim) (fun _ z => z.elim)
  · rintro k env hk ⟨x6, rfl⟩
    refine ⟨_, rfl, ?_⟩
    have hl : ((rowL cell top k).map PyData.int).length < 1000000 := by rw [List.length_map, rowL_length]; omega
    by_cases hg : cell ≥ 1000000000000000000
    · simp only [startE_eq, kSet_ap, kSetG_ap, kIfS_ap, kIf0_ap, kRet_ap, kDrop_ap, kUnp_slot, kUnp2, kUnp3, kApp_ap, appR_ok, ownR_ok, augR_ok, kPar1_ap, kPar2_ap, kAug_ap, kForS_l, kForS_t, xSkip_ap, xSeq_skip, xSeq_seq, xSeq_set, xSeq_setG, xSeq_if, xSeq_ret, xSeq_retN, xSeq_raise, xSeq_drop, xSeq_brk, xSeq_cnt, xSeq_unp, xSeq_par, xSeq_app, xApp_ap, xSeq_aug, xAug_ap, xSeq_for, xSeq_forS, xSeq_forG, xFor_ap, xForS_ap, xForG_ap, xPar_ap, xSet_ap, xSetG_ap, xIf_ap, xRet_ap, xRetN_ap, xDrop_ap, xRaise_ap, xBreak_ap, xCont_ap, xUnp_ap, xSeq_put, xPut_ap, xSeq_putA, xPutA_ap, paK1_ap, paR1_ok, paX1_ok, paK2_ap, kPut1_ap, kPut2_ap, putR_ok, putJ_ok, kEv_ap, kEvG_ap, kEvL_ap, evS_ap, evG_ap, evL_ap, evA_t, evA_f, keepG_int, keepG_bool, keepG_none, keepG_tuple, keepG_list, flatL_nil, flatL_cons, vVar_ap, varR_ok, optR_ok, vC_ap, kB_ap, vBin_ap, vUn_ap, vTest_ap, kAnd_ap, kAnd2_ap, vAnd_ap, kOr_ap, kOr2_ap, vOr_ap, kNot_ap, kNot2_ap, vNot_ap, kIfE_ap, vIf_ap, kC3_ap, kC2_ap, kC1_ap, vChain_ap, kL_ap, kL2_ap, vL_nil, vL_cons, kTup_ap, kLst_ap, vTup_ap, vLst_ap, vCall_ap, kCut1_ap, kCut2_ap, kCut3_ap, vCut_ap, kPart_ap, vPart_none, vPart_some, kComp_ap, kCompO_ap, vComp_ap, wSeq_ap, wCall_ap, wipe_nil, wipe_cons, dMod_int, bindS_slot, bindS_tup, bindSs_nil, bindSs_slot, bindT_slot, bindT_tup, bindTs_nil, bindTs_slot, onR_ok, onR_exc, outR_rt, outR_nx, outR_exc, after_t, after_f, rb_ok, rb_exc, tr_bool, tr_none, tr_int, tr_list, tr_tuple, toB_bool, toI_int, dAdd_int, dSub_int, dNeg_int, dMul_l, dMul_r, dDiv_int, dLt_int, dLe_int, dGt_int, dGe_int, dEq_int, dNe_int, dEq_bool, dNe_bool, dIs_none, dIsNot_none, dIs_bool, isNone_none, isNone_int, isNone_bool, isNone_tuple, isNone_list, dIdx_list, dIdx_tuple, atI_0, atI_1, atI_2, dLen_list, dLen_tuple, dInt_int, dAbs_int, dTuple_list, dTuple_tuple, dList_list, dList_tuple, dSum_ints, dSum_intsT, dAll_bools, dMin_2, dMax_2, isi_int_int, isi_int_bool, isi_int_none, isi_int_tuple, isi_int_list, isi_bool_int, isi_bool_bool, isi_tuple_tuple, isi_tuple_int, isi_tuple_none, isi_list_list, asSeq_list, asSeq_tuple, iEnum_list, iEnum_tuple, iZip_list, iZip_tuple, dCut_list, dCut_tuple, flat_none, flat_bool, flat_int, flat_str, flat_tuple, flat_list, flatL_ints, flatL_bools, isL_list, isL_int, isL_bool, isL_tuple, isL_none, mview_nil, mview_cons, mv1_f, mv1_n, mv1_t, freeze_nil, freeze_cons, fr1_f, fr1_n, fr1_t, List.set_cons_zero, List.set_cons_succ, List.map_cons, List.map_nil, List.length_cons, List.length_nil, List.replicate_succ, List.replicate_zero, List.cons_append, List.nil_append, List.getElem?_cons_zero, List.getElem?_cons_succ, List.mem_cons, List.not_mem_nil, or_false, false_or, or_true, true_or, if_true, if_false, Bool.false_eq_true, Bool.not_true, Bool.not_false, decide_true, decide_false, and_self, true_and, and_true, Bool.true_and, Bool.and_true, Bool.and_self, Bool.false_and, Bool.and_false, ↓reduceIte, reduceIte, Int.reduceLT, Int.reduceLE, Int.reduceNeg, Int.reduceAdd, Int.reduceSub, Int.reduceMul, Int.reduceToNat, Nat.reduceLT, Nat.reduceLeDiff, Nat.reduceEqDiff, Nat.reduceAdd, Nat.reduceSub, Nat.reduceMul, reduceCtorEq, Int.cast_ofNat_Int, Int.natCast_one, Int.natCast_zero, Int.reduceEq, vMeth_ap, kMeth_l, dRev_list, dCount_ints, kRem_ap, xSeq_rem, xSeq_ext, xExt_ap, kExt_ap, xSeq_pop, xPop_ap, popR_ok, xRem_ap, xSeq_try, xTryL_ap, kTry_nx, kTry_rt, kTry_exc, tryR_rt, tryR_nx, tryR_no, handL_cons, wipeS_nil, wipeS_cons, cv_s, cv_b, cv_i, hg, hl, h0, h1]
      refine turn_nx ⟨some (false, .int (0 + k)), ?_⟩
      simp [hg, rowL_succ, rowI, divN]
    · simp only [startE_eq, kSet_ap, kSetG_ap, kIfS_ap, kIf0_ap, kRet_ap, kDrop_ap, kUnp_slot, kUnp2, kUnp3, kApp_ap, appR_ok, ownR_ok, augR_ok, kPar1_ap, kPar2_ap, kAug_ap, kForS_l, kForS_t, xSkip_ap, xSeq_skip, xSeq_seq, xSeq_set, xSeq_setG, xSeq_if, xSeq_ret, xSeq_retN, xSeq_raise, xSeq_drop, xSeq_brk, xSeq_cnt, xSeq_unp, xSeq_par, xSeq_app, xApp_ap, xSeq_aug, xAug_ap, xSeq_for, xSeq_forS, xSeq_forG, xFor_ap, xForS_ap, xForG_ap, xPar_ap, xSet_ap, xSetG_ap, xIf_ap, xRet_ap, xRetN_ap, xDrop_ap, xRaise_ap, xBreak_ap, xCont_ap, xUnp_ap, xSeq_put, xPut_ap, xSeq_putA, xPutA_ap, paK1_ap, paR1_ok, paX1_ok, paK2_ap, kPut1_ap, kPut2_ap, putR_ok, putJ_ok, kEv_ap, kEvG_ap, kEvL_ap, evS_ap, evG_ap, evL_ap, evA_t, evA_f, keepG_int, keepG_bool, keepG_none, keepG_tuple, keepG_list, flatL_nil, flatL_cons, vVar_ap, varR_ok, optR_ok, vC_ap, kB_ap, vBin_ap, vUn_ap, vTest_ap, kAnd_ap, kAnd2_ap, vAnd_ap, kOr_ap, kOr2_ap, vOr_ap, kNot_ap, kNot2_ap, vNot_ap, kIfE_ap, vIf_ap, kC3_ap, kC2_ap, kC1_ap, vChain_ap, kL_ap, kL2_ap, vL_nil, vL_cons, kTup_ap, kLst_ap, vTup_ap, vLst_ap, vCall_ap, kCut1_ap, kCut2_ap, kCut3_ap, vCut_ap, kPart_ap, vPart_none, vPart_some, kComp_ap, kCompO_ap, vComp_ap, wSeq_ap, wCall_ap, wipe_nil, wipe_cons, dMod_int, bindS_slot, bindS_tup, bindSs_nil, bindSs_slot, bindT_slot, bindT_tup, bindTs_nil, bindTs_slot, onR_ok, onR_exc, outR_rt, outR_nx, outR_exc, after_t, after_f, rb_ok, rb_exc, tr_bool, tr_none, tr_int, tr_list, tr_tuple, toB_bool, toI_int, dAdd_int, dSub_int, dNeg_int, dMul_l, dMul_r, dDiv_int, dLt_int, dLe_int, dGt_int, dGe_int, dEq_int, dNe_int, dEq_bool, dNe_bool, dIs_none, dIsNot_none, dIs_bool, isNone_none, isNone_int, isNone_bool, isNone_tuple, isNone_list, dIdx_list, dIdx_tuple, atI_0, atI_1, atI_2, dLen_list, dLen_tuple, dInt_int, dAbs_int, dTuple_list, dTuple_tuple, dList_list, dList_tuple, dSum_ints, dSum_intsT, dAll_bools, dMin_2, dMax_2, isi_int_int, isi_int_bool, isi_int_none, isi_int_tuple, isi_int_list, isi_bool_int, isi_bool_bool, isi_tuple_tuple, isi_tuple_int, isi_tuple_none, isi_list_list, asSeq_list, asSeq_tuple, iEnum_list, iEnum_tuple, iZip_list, iZip_tuple, dCut_list, dCut_tuple, flat_none, flat_bool, flat_int, flat_str, flat_tuple, flat_list, flatL_ints, flatL_bools, isL_list, isL_int, isL_bool, isL_tuple, isL_none, mview_nil, mview_cons, mv1_f, mv1_n, mv1_t, freeze_nil, freeze_cons, fr1_f, fr1_n, fr1_t, List.set_cons_zero, List.set_cons_succ, List.map_cons, List.map_nil, List.length_cons, List.length_nil, List.replicate_succ, List.replicate_zero, List.cons_append, List.nil_append, List.getElem?_cons_zero, List.getElem?_cons_succ, List.mem_cons, List.not_mem_nil, or_false, false_or, or_true, true_or, if_true, if_false, Bool.false_eq_true, Bool.not_true, Bool.not_false, decide_true, decide_false, and_self, true_and, and_true, Bool.true_and, Bool.and_true, Bool.and_self, Bool.false_and, Bool.and_false, ↓reduceIte, reduceIte, Int.reduceLT, Int.reduceLE, Int.reduceNeg, Int.reduceAdd, Int.reduceSub, Int.reduceMul, Int.reduceToNat, Nat.reduceLT, Nat.reduceLeDiff, Nat.reduceEqDiff, Nat.reduceAdd, Nat.reduceSub, Nat.reduceMul, reduceCtorEq, Int.cast_ofNat_Int, Int.natCast_one, Int.natCast_zero, Int.reduceEq, vMeth_ap, kMeth_l, dRev_list, dCount_ints, kRem_ap, xSeq_rem, xSeq_ext, xExt_ap, kExt_ap, xSeq_pop, xPop_ap, popR_ok, xRem_ap, xSeq_try, xTryL_ap, kTry_nx, kTry_rt, kTry_exc, tryR_rt, tryR_nx, tryR_no, handL_cons, wipeS_nil, wipeS_cons, cv_s, cv_b, cv_i, hg, hl, h0, h1, mixed_eq]
      refine turn_nx ⟨some (false, .int (0 + k)), ?_⟩
      simp [hg, rowL_succ, rowI]
  · rintro env ⟨x6, rfl⟩
    simp only [startE_eq, kSet_ap, kSetG_ap, kIfS_ap, kIf0_ap, kRet_ap, kDrop_ap, kUnp_slot, kUnp2, kUnp3, kApp_ap, appR_ok, ownR_ok, augR_ok, kPar1_ap, kPar2_ap, kAug_ap, kForS_l, kForS_t, xSkip_ap, xSeq_skip, xSeq_seq, xSeq_set, xSeq_setG, xSeq_if, xSeq_ret, xSeq_retN, xSeq_raise, xSeq_drop, xSeq_brk, xSeq_cnt, xSeq_unp, xSeq_par, xSeq_app, xApp_ap, xSeq_aug, xAug_ap, xSeq_for, xSeq_forS, xSeq_forG, xFor_ap, xForS_ap, xForG_ap, xPar_ap, xSet_ap, xSetG_ap, xIf_ap, xRet_ap, xRetN_ap, xDrop_ap, xRaise_ap, xBreak_ap, xCont_ap, xUnp_ap, xSeq_put, xPut_ap, xSeq_putA, xPutA_ap, paK1_ap, paR1_ok, paX1_ok, paK2_ap, kPut1_ap, kPut2_ap, putR_ok, putJ_ok, kEv_ap, kEvG_ap, kEvL_ap, evS_ap, evG_ap, evL_ap, evA_t, evA_f, keepG_int, keepG_bool, keepG_none, keepG_tuple, keepG_list, flatL_nil, flatL_cons, vVar_ap, varR_ok, optR_ok, vC_ap, kB_ap, vBin_ap, vUn_ap, vTest_ap, kAnd_ap, kAnd2_ap, vAnd_ap, kOr_ap, kOr2_ap, vOr_ap, kNot_ap, kNot2_ap, vNot_ap, kIfE_ap, vIf_ap, kC3_ap, kC2_ap, kC1_ap, vChain_ap, kL_ap, kL2_ap, vL_nil, vL_cons, kTup_ap, kLst_ap, vTup_ap, vLst_ap, vCall_ap, kCut1_ap, kCut2_ap, kCut3_ap, vCut_ap, kPart_ap, vPart_none, vPart_some, kComp_ap, kCompO_ap, vComp_ap, wSeq_ap, wCall_ap, wipe_nil, wipe_cons, dMod_int, bindS_slot, bindS_tup, bindSs_nil, bindSs_slot, bindT_slot, bindT_tup, bindTs_nil, bindTs_slot, onR_ok, onR_exc, outR_rt, outR_nx, outR_exc, after_t, after_f, rb_ok, rb_exc, tr_bool, tr_none, tr_int, tr_list, tr_tuple, toB_bool, toI_int, dAdd_int, dSub_int, dNeg_int, dMul_l, dMul_r, dDiv_int, dLt_int, dLe_int, dGt_int, dGe_int, dEq_int, dNe_int, dEq_bool, dNe_bool, dIs_none, dIsNot_none, dIs_bool, isNone_none, isNone_int, isNone_bool, isNone_tuple, isNone_list, dIdx_list, dIdx_tuple, atI_0, atI_1, atI_2, dLen_list, dLen_tuple, dInt_int, dAbs_int, dTuple_list, dTuple_tuple, dList_list, dList_tuple, dSum_ints, dSum_intsT, dAll_bools, dMin_2, dMax_2, isi_int_int, isi_int_bool, isi_int_none, isi_int_tuple, isi_int_list, isi_bool_int, isi_bool_bool, isi_tuple_tuple, isi_tuple_int, isi_tuple_none, isi_list_list, asSeq_list, asSeq_tuple, iEnum_list, iEnum_tuple, iZip_list, iZip_tuple, dCut_list, dCut_tuple, flat_none, flat_bool, flat_int, flat_str, flat_tuple, flat_list, flatL_ints, flatL_bools, isL_list, isL_int, isL_bool, isL_tuple, isL_none, mview_nil, mview_cons, mv1_f, mv1_n, mv1_t, freeze_nil, freeze_cons, fr1_f, fr1_n, fr1_t, List.set_cons_zero, List.set_cons_succ, List.map_cons, List.map_nil, List.length_cons, List.length_nil, List.replicate_succ, List.replicate_zero, List.cons_append, List.nil_append, List.getElem?_cons_zero, List.getElem?_cons_succ, List.mem_cons, List.not_mem_nil, or_false, false_or, or_true, true_or, if_true, if_false, Bool.false_eq_true, Bool.not_true, Bool.not_false, decide_true, decide_false, and_self, true_and, and_true, Bool.true_and, Bool.and_true, Bool.and_self, Bool.false_and, Bool.and_false, ↓reduceIte, reduceIte, Int.reduceLT, Int.reduceLE, Int.reduceNeg, Int.reduceAdd, Int.reduceSub, Int.reduceMul, Int.reduceToNat, Nat.reduceLT, Nat.reduceLeDiff, Nat.reduceEqDiff, Nat.reduceAdd, Nat.reduceSub, Nat.reduceMul, reduceCtorEq, Int.cast_ofNat_Int, Int.natCast_one, Int.natCast_zero, Int.reduceEq, vMeth_ap, kMeth_l, dRev_list, dCount_ints, kRem_ap, xSeq_rem, xSeq_ext, xExt_ap, kExt_ap, xSeq_pop, xPop_ap, popR_ok, xRem_ap, xSeq_try, xTryL_ap, kTry_nx, kTry_rt, kTry_exc, tryR_rt, tryR_nx, tryR_no, handL_cons, wipeS_nil, wipeS_cons, cv_s, cv_b, cv_i]
theorem isInt_eq (i : Int) : f_is_integer [.int i] = .ok (.bool true) := by
  refine runFn_eq rfl ?_
  simp only [startE_eq, kSet_ap, kSetG_ap, kIfS_ap, kIf0_ap, kRet_ap, kDrop_ap, kUnp_slot, kUnp2, kUnp3, kApp_ap, appR_ok, ownR_ok, augR_ok, kPar1_ap, kPar2_ap, kAug_ap, kForS_l, kForS_t, xSkip_ap, xSeq_skip, xSeq_seq, xSeq_set, xSeq_setG, xSeq_if, xSeq_ret, xSeq_retN, xSeq_raise, xSeq_drop, xSeq_brk, xSeq_cnt, xSeq_unp, xSeq_par, xSeq_app, xApp_ap, xSeq_aug, xAug_ap, xSeq_for, xSeq_forS, xSeq_forG, xFor_ap, xForS_ap, xForG_ap, xPar_ap, xSet_ap, xSetG_ap, xIf_ap, xRet_ap, xRetN_ap, xDrop_ap, xRaise_ap, xBreak_ap, xCont_ap, xUnp_ap, xSeq_put, xPut_ap, xSeq_putA, xPutA_ap, paK1_ap, paR1_ok, paX1_ok, paK2_ap, kPut1_ap, kPut2_ap, putR_ok, putJ_ok, kEv_ap, kEvG_ap, kEvL_ap, evS_ap, evG_ap, evL_ap, evA_t, evA_f, keepG_int, keepG_bool, keepG_none, keepG_tuple, keepG_list, flatL_nil, flatL_cons, vVar_ap, varR_ok, optR_ok, vC_ap, kB_ap, vBin_ap, vUn_ap, vTest_ap, kAnd_ap, kAnd2_ap, vAnd_ap, kOr_ap, kOr2_ap, vOr_ap, kNot_ap, kNot2_ap, vNot_ap, kIfE_ap, vIf_ap, kC3_ap, kC2_ap, kC1_ap, vChain_ap, kL_ap, kL2_ap, vL_nil, vL_cons, kTup_ap, kLst_ap, vTup_ap, vLst_ap, vCall_ap, kCut1_ap, kCut2_ap, kCut3_ap, vCut_ap, kPart_ap, vPart_none, vPart_some, kComp_ap, kCompO_ap, vComp_ap, wSeq_ap, wCall_ap, wipe_nil, wipe_cons, dMod_int, bindS_slot, bindS_tup, bindSs_nil, bindSs_slot, bindT_slot, bindT_tup, bindTs_nil, bindTs_slot, onR_ok, onR_exc, outR_rt, outR_nx, outR_exc, after_t, after_f, rb_ok, rb_exc, tr_bool, tr_none, tr_int, tr_list, tr_tuple, toB_bool, toI_int, dAdd_int, dSub_int, dNeg_int, dMul_l, dMul_r, dDiv_int, dLt_int, dLe_int, dGt_int, dGe_int, dEq_int, dNe_int, dEq_bool, dNe_bool, dIs_none, dIsNot_none, dIs_bool, isNone_none, isNone_int, isNone_bool, isNone_tuple, isNone_list, dIdx_list, dIdx_tuple, atI_0, atI_1, atI_2, dLen_list, dLen_tuple, dInt_int, dAbs_int, dTuple_list, dTuple_tuple, dList_list, dList_tuple, dSum_ints, dSum_intsT, dAll_bools, dMin_2, dMax_2, isi_int_int, isi_int_bool, isi_int_none, isi_int_tuple, isi_int_list, isi_bool_int, isi_bool_bool, isi_tuple_tuple, isi_tuple_int, isi_tuple_none, isi_list_list, asSeq_list, asSeq_tuple, iEnum_list, iEnum_tuple, iZip_list, iZip_tuple, dCut_list, dCut_tuple, flat_none, flat_bool, flat_int, flat_str, flat_tuple, flat_list, flatL_ints, flatL_bools, isL_list, isL_int, isL_bool, isL_tuple, isL_none, mview_nil, mview_cons, mv1_f, mv1_n, mv1_t, freeze_nil, freeze_cons, fr1_f, fr1_n, fr1_t, List.set_cons_zero, List.set_cons_succ, List.map_cons, List.map_nil, List.length_cons, List.length_nil, List.replicate_succ, List.replicate_zero, List.cons_append, List.nil_append, List.getElem?_cons_zero, List.getElem?_cons_succ, List.mem_cons, List.not_mem_nil, or_false, false_or, or_true, true_or, if_true, if_false, Bool.false_eq_true, Bool.not_true, Bool.not_false, decide_true, decide_false, and_self, true_and, and_true, Bool.true_and, Bool.and_true, Bool.and_self, Bool.false_and, Bool.and_false, ↓reduceIte, reduceIte, Int.reduceLT, Int.reduceLE, Int.reduceNeg, Int.reduceAdd, Int.reduceSub, Int.reduceMul, Int.reduceToNat, Nat.reduceLT, Nat.reduceLeDiff, Nat.reduceEqDiff, Nat.reduceAdd, Nat.reduceSub, Nat.reduceMul, reduceCtorEq, Int.cast_ofNat_Int, Int.natCast_one, Int.natCast_zero, Int.reduceEq, vMeth_ap, kMeth_l, dRev_list, dCount_ints, kRem_ap, xSeq_rem, xSeq_ext, xExt_ap, kExt_ap, xSeq_pop, xPop_ap, popR_ok, xRem_ap, xSeq_try, xTryL_ap, kTry_nx, kTry_rt, kTry_exc, tryR_rt, tryR_nx, tryR_no, handL_cons, wipeS_nil, wipeS_cons, cv_s, cv_b, cv_i, b_is_integer]
theorem between_eq (i l m : Int) : f_is_between [.int i, .int l, .int m] = .ok (.bool (decide (l ≤ i) && decide (i ≤ m))) := by
  refine runFn_eq rfl ?_
  simp only [startE_eq, kSet_ap, kSetG_ap, kIfS_ap, kIf0_ap, kRet_ap, kDrop_ap, kUnp_slot, kUnp2, kUnp3, kApp_ap, appR_ok, ownR_ok, augR_ok, kPar1_ap, kPar2_ap, kAug_ap, kForS_l, kForS_t, xSkip_ap, xSeq_skip, xSeq_seq, xSeq_set, xSeq_setG, xSeq_if, xSeq_ret, xSeq_retN, xSeq_raise, xSeq_drop, xSeq_brk, xSeq_cnt, xSeq_unp, xSeq_par, xSeq_app, xApp_ap, xSeq_aug, xAug_ap, xSeq_for, xSeq_forS, xSeq_forG, xFor_ap, xForS_ap, xForG_ap, xPar_ap, xSet_ap, xSetG_ap, xIf_ap, xRet_ap, xRetN_ap, xDrop_ap, xRaise_ap, xBreak_ap, xCont_ap, xUnp_ap, xSeq_put, xPut_ap, xSeq_putA, xPutA_ap, paK1_ap, paR1_ok, paX1_ok, paK2_ap, kPut1_ap, kPut2_ap, putR_ok, putJ_ok, kEv_ap, kEvG_ap, kEvL_ap, evS_ap, evG_ap, evL_ap, evA_t, evA_f, keepG_int, keepG_bool, keepG_none, keepG_tuple, keepG_list, flatL_nil, flatL_cons, vVar_ap, varR_ok, optR_ok, vC_ap, kB_ap, vBin_ap, vUn_ap, vTest_ap, kAnd_ap, kAnd2_ap, vAnd_ap, kOr_ap, kOr2_ap, vOr_ap, kNot_ap, kNot2_ap, vNot_ap, kIfE_ap, vIf_ap, kC3_ap, kC2_ap, kC1_ap, vChain_ap, kL_ap, kL2_ap, vL_nil, vL_cons, kTup_ap, kLst_ap, vTup_ap, vLst_ap, vCall_ap, kCut1_ap, kCut2_ap, kCut3_ap, vCut_ap, kPart_ap, vPart_none, vPart_some, kComp_ap, kCompO_ap, vComp_ap, wSeq_ap, wCall_ap, wipe_nil, wipe_cons, dMod_int, bindS_slot, bindS_tup, bindSs_nil, bindSs_slot, bindT_slot, bindT_tup, bindTs_nil, bindTs_slot, onR_ok, onR_exc, outR_rt, outR_nx, outR_exc, after_t, after_f, rb_ok, rb_exc, tr_bool, tr_none, tr_int, tr_list, tr_tuple, toB_bool, toI_int, dAdd_int, dSub_int, dNeg_int, dMul_l, dMul_r, dDiv_int, dLt_int, dLe_int, dGt_int, dGe_int, dEq_int, dNe_int, dEq_bool, dNe_bool, dIs_none, dIsNot_none, dIs_bool, isNone_none, isNone_int, isNone_bool, isNone_tuple, isNone_list, dIdx_list, dIdx_tuple, atI_0, atI_1, atI_2, dLen_list, dLen_tuple, dInt_int, dAbs_int, dTuple_list, dTuple_tuple, dList_list, dList_tuple, dSum_ints, dSum_intsT, dAll_bools, dMin_2, dMax_2, isi_int_int, isi_int_bool, isi_int_none, isi_int_tuple, isi_int_list, isi_bool_int, isi_bool_bool, isi_tuple_tuple, isi_tuple_int, isi_tuple_none, isi_list_list, asSeq_list, asSeq_tuple, iEnum_list, iEnum_tuple, iZip_list, iZip_tuple, dCut_list, dCut_tuple, flat_none, flat_bool, flat_int, flat_str, flat_tuple, flat_list, flatL_ints, flatL_bools, isL_list, isL_int, isL_bool, isL_tuple, isL_none, mview_nil, mview_cons, mv1_f, mv1_n, mv1_t, freeze_nil, freeze_cons, fr1_f, fr1_n, fr1_t, List.set_cons_zero, List.set_cons_succ, List.map_cons, List.map_nil, List.length_cons, List.length_nil, List.replicate_succ, List.replicate_zero, List.cons_append, List.nil_append, List.getElem?_cons_zero, List.getElem?_cons_succ, List.mem_cons, List.not_mem_nil, or_false, false_or, or_true, true_or, if_true, if_false, Bool.false_eq_true, Bool.not_true, Bool.not_false, decide_true, decide_false, and_self, true_and, and_true, Bool.true_and, Bool.and_true, Bool.and_self, Bool.false_and, Bool.and_false, ↓reduceIte, reduceIte, Int.reduceLT, Int.reduceLE, Int.reduceNeg, Int.reduceAdd, Int.reduceSub, Int.reduceMul, Int.reduceToNat, Nat.reduceLT, Nat.reduceLeDiff, Nat.reduceEqDiff, Nat.reduceAdd, Nat.reduceSub, Nat.reduceMul, reduceCtorEq, Int.cast_ofNat_Int, Int.natCast_one, Int.natCast_zero, Int.reduceEq, vMeth_ap, kMeth_l, dRev_list, dCount_ints, kRem_ap, xSeq_rem, xSeq_ext, xExt_ap, kExt_ap, xSeq_pop, xPop_ap, popR_ok, xRem_ap, xSeq_try, xTryL_ap, kTry_nx, kTry_rt, kTry_exc, tryR_rt, tryR_nx, tryR_no, handL_cons, wipeS_nil, wipeS_cons, cv_s, cv_b, cv_i, b_is_between, isInt_eq]
  by_cases h : l ≤ i <;> simp only [startE_eq, kSet_ap, kSetG_ap, kIfS_ap, kIf0_ap, kRet_ap, kDrop_ap, kUnp_slot, kUnp2, kUnp3, kApp_ap, appR_ok, ownR_ok, augR_ok, kPar1_ap, kPar2_ap, kAug_ap, kForS_l, kForS_t, xSkip_ap, xSeq_skip, xSeq_seq, xSeq_set, xSeq_setG, xSeq_if, xSeq_ret, xSeq_retN, xSeq_raise, xSeq_drop, xSeq_brk, xSeq_cnt, xSeq_unp, xSeq_par, xSeq_app, xApp_ap, xSeq_aug, xAug_ap, xSeq_for, xSeq_forS, xSeq_forG, xFor_ap, xForS_ap, xForG_ap, xPar_ap, xSet_ap, xSetG_ap, xIf_ap, xRet_ap, xRetN_ap, xDrop_ap, xRaise_ap, xBreak_ap, xCont_ap, xUnp_ap, xSeq_put, xPut_ap, xSeq_putA, xPutA_ap, paK1_ap, paR1_ok, paX1_ok, paK2_ap, kPut1_ap, kPut2_ap, putR_ok, putJ_ok, kEv_ap, kEvG_ap, kEvL_ap, evS_ap, evG_ap, evL_ap, evA_t, evA_f, keepG_int, keepG_bool, keepG_none, keepG_tuple, keepG_list, flatL_nil, flatL_cons, vVar_ap, varR_ok, optR_ok, vC_ap, kB_ap, vBin_ap, vUn_ap, vTest_ap, kAnd_ap, kAnd2_ap, vAnd_ap, kOr_ap, kOr2_ap, vOr_ap, kNot_ap, kNot2_ap, vNot_ap, kIfE_ap, vIf_ap, kC3_ap, kC2_ap, kC1_ap, vChain_ap, kL_ap, kL2_ap, vL_nil, vL_cons, kTup_ap, kLst_ap, vTup_ap, vLst_ap, vCall_ap, kCut1_ap, kCut2_ap, kCut3_ap, vCut_ap, kPart_ap, vPart_none, vPart_some, kComp_ap, kCompO_ap, vComp_ap, wSeq_ap, wCall_ap, wipe_nil, wipe_cons, dMod_int, bindS_slot, bindS_tup, bindSs_nil, bindSs_slot, bindT_slot, bindT_tup, bindTs_nil, bindTs_slot, onR_ok, onR_exc, outR_rt, outR_nx, outR_exc, after_t, after_f, rb_ok, rb_exc, tr_bool, tr_none, tr_int, tr_list, tr_tuple, toB_bool, toI_int, dAdd_int, dSub_int, dNeg_int, dMul_l, dMul_r, dDiv_int, dLt_int, dLe_int, dGt_int, dGe_int, dEq_int, dNe_int, dEq_bool, dNe_bool, dIs_none, dIsNot_none, dIs_bool, isNone_none, isNone_int, isNone_bool, isNone_tuple, isNone_list, dIdx_list, dIdx_tuple, atI_0, atI_1, atI_2, dLen_list, dLen_tuple, dInt_int, dAbs_int, dTuple_list, dTuple_tuple, dList_list, dList_tuple, dSum_ints, dSum_intsT, dAll_bools, dMin_2, dMax_2, isi_int_int, isi_int_bool, isi_int_none, isi_int_tuple, isi_int_list, isi_bool_int, isi_bool_bool, isi_tuple_tuple, isi_tuple_int, isi_tuple_none, isi_list_list, asSeq_list, asSeq_tuple, iEnum_list, iEnum_tuple, iZip_list, iZip_tuple, dCut_list, dCut_tuple, flat_none, flat_bool, flat_int, flat_str, flat_tuple, flat_list, flatL_ints, flatL_bools, isL_list, isL_int, isL_bool, isL_tuple, isL_none, mview_nil, mview_cons, mv1_f, mv1_n, mv1_t, freeze_nil, freeze_cons, fr1_f, fr1_n, fr1_t, List.set_cons_zero, List.set_cons_succ, List.map_cons, List.map_nil, List.length_cons, List.length_nil, List.replicate_succ, List.replicate_zero, List.cons_append, List.nil_append, List.getElem?_cons_zero, List.getElem?_cons_succ, List.mem_cons, List.not_mem_nil, or_false, false_or, or_true, true_or, if_true, if_false, Bool.false_eq_true, Bool.not_true, Bool.not_false, decide_true, decide_false, and_self, true_and, and_true, Bool.true_and, Bool.and_true, Bool.and_self, Bool.false_and, Bool.and_false, ↓reduceIte, reduceIte, Int.reduceLT, Int.reduceLE, Int.reduceNeg, Int.reduceAdd, Int.reduceSub, Int.reduceMul, Int.reduceToNat, Nat.reduceLT, Nat.reduceLeDiff, Nat.reduceEqDiff, Nat.reduceAdd, Nat.reduceSub, Nat.reduceMul, reduceCtorEq, Int.cast_ofNat_Int, Int.natCast_one, Int.natCast_zero, Int.reduceEq, vMeth_ap, kMeth_l, dRev_list, dCount_ints, kRem_ap, xSeq_rem, xSeq_ext, xExt_ap, kExt_ap, xSeq_pop, xPop_ap, popR_ok, xRem_ap, xSeq_try, xTryL_ap, kTry_nx, kTry_rt, kTry_exc, tryR_rt, tryR_nx, tryR_no, handL_cons, wipeS_nil, wipeS_cons, cv_s, cv_b, cv_i, h]
theorem tupleOf_eq (xs : List D) (n : Int) : f_is_tuple_of [.tuple xs, .int n] = .ok (.bool (decide ((xs.length : Int) = n))) := by
  refine runFn_eq rfl ?_
  simp only [startE_eq, kSet_ap, kSetG_ap, kIfS_ap, kIf0_ap, kRet_ap, kDrop_ap, kUnp_slot, kUnp2, kUnp3, kApp_ap, appR_ok, ownR_ok, augR_ok, kPar1_ap, kPar2_ap, kAug_ap, kForS_l, kForS_t, xSkip_ap, xSeq_skip, xSeq_seq, xSeq_set, xSeq_setG, xSeq_if, xSeq_ret, xSeq_retN, xSeq_raise, xSeq_drop, xSeq_brk, xSeq_cnt, xSeq_unp, xSeq_par, xSeq_app, xApp_ap, xSeq_aug, xAug_ap, xSeq_for, xSeq_forS, xSeq_forG, xFor_ap, xForS_ap, xForG_ap, xPar_ap, xSet_ap, xSetG_ap, xIf_ap, xRet_ap, xRetN_ap, xDrop_ap, xRaise_ap, xBreak_ap, xCont_ap, xUnp_ap, xSeq_put, xPut_ap, xSeq_putA, xPutA_ap, paK1_ap, paR1_ok, paX1_ok, paK2_ap, kPut1_ap, kPut2_ap, putR_ok, putJ_ok, kEv_ap, kEvG_ap, kEvL_ap, evS_ap, evG_ap, evL_ap, evA_t, evA_f, keepG_int, keepG_bool, keepG_none, keepG_tuple, keepG_list, flatL_nil, flatL_cons, vVar_ap, varR_ok, optR_ok, vC_ap, kB_ap, vBin_ap, vUn_ap, vTest_ap, kAnd_ap, kAnd2_ap, vAnd_ap, kOr_ap, kOr2_ap, vOr_ap, kNot_ap, kNot2_ap, vNot_ap, kIfE_ap, vIf_ap, kC3_ap, kC2_ap, kC1_ap, vChain_ap, kL_ap, kL2_ap, vL_nil, vL_cons, kTup_ap, kLst_ap, vTup_ap, vLst_ap, vCall_ap, kCut1_ap, kCut2_ap, kCut3_ap, vCut_ap, kPart_ap, vPart_none, vPart_some, kComp_ap, kCompO_ap, vComp_ap, wSeq_ap, wCall_ap, wipe_nil, wipe_cons, dMod_int, bindS_slot, bindS_tup, bindSs_nil, bindSs_slot, bindT_slot, bindT_tup, bindTs_nil, bindTs_slot, onR_ok, onR_exc, outR_rt, outR_nx, outR_exc, after_t, after_f, rb_ok, rb_exc, tr_bool, tr_none, tr_int, tr_list, tr_tuple, toB_bool, toI_int, dAdd_int, dSub_int, dNeg_int, dMul_l, dMul_r, dDiv_int, dLt_int, dLe_int, dGt_int, dGe_int, dEq_int, dNe_int, dEq_bool, dNe_bool, dIs_none, dIsNot_none, dIs_bool, isNone_none, isNone_int, isNone_bool, isNone_tuple, isNone_list, dIdx_list, dIdx_tuple, atI_0, atI_1, atI_2, dLen_list, dLen_tuple, dInt_int, dAbs_int, dTuple_list, dTuple_tuple, dList_list, dList_tuple, dSum_ints, dSum_intsT, dAll_bools, dMin_2, dMax_2, isi_int_int, isi_int_bool, isi_int_none, isi_int_tuple, isi_int_list, isi_bool_int, isi_bool_bool, isi_tuple_tuple, isi_tuple_int, isi_tuple_none, isi_list_list, asSeq_list, asSeq_tuple, iEnum_list, iEnum_tuple, iZip_list, iZip_tuple, dCut_list, dCut_tuple, flat_none, flat_bool, flat_int, flat_str, flat_tuple, flat_list, flatL_ints, flatL_bools, isL_list, isL_int, isL_bool, isL_tuple, isL_none, mview_nil, mview_cons, mv1_f, mv1_n, mv1_t, freeze_nil, freeze_cons, fr1_f, fr1_n, fr1_t, List.set_cons_zero, List.set_cons_succ, List.map_cons, List.map_nil, List.length_cons, List.length_nil, List.replicate_succ, List.replicate_zero, List.cons_append, List.nil_append, List.getElem?_cons_zero, List.getElem?_cons_succ, List.mem_cons, List.not_mem_nil, or_false, false_or, or_true, true_or, if_true, if_false, Bool.false_eq_true, Bool.not_true, Bool.not_false, decide_true, decide_false, and_self, true_and, and_true, Bool.true_and, Bool.and_true, Bool.and_self, Bool.false_and, Bool.and_false, ↓reduceIte, reduceIte, Int.reduceLT, Int.reduceLE, Int.reduceNeg, Int.reduceAdd, Int.reduceSub, Int.reduceMul, Int.reduceToNat, Nat.reduceLT, Nat.reduceLeDiff, Nat.reduceEqDiff, Nat.reduceAdd, Nat.reduceSub, Nat.reduceMul, reduceCtorEq, Int.cast_ofNat_Int, Int.natCast_one, Int.natCast_zero, Int.reduceEq, vMeth_ap, kMeth_l, dRev_list, dCount_ints, kRem_ap, xSeq_rem, xSeq_ext, xExt_ap, kExt_ap, xSeq_pop, xPop_ap, popR_ok, xRem_ap, xSeq_try, xTryL_ap, kTry_nx, kTry_rt, kTry_exc, tryR_rt, tryR_nx, tryR_no, handL_cons, wipeS_nil, wipeS_cons, cv_s, cv_b, cv_i, b_is_tuple_of]
theorem all_true {α : Type} (ws : List α) : ((ws.map fun _ => true).all id) = true := by
  induction ws with
  | nil => rfl
  | cons w ws ih => simp [ih]
theorem comp_rangeI {t : Tgt} {vs : List Nat} {a : SF} {en : En} {p : Nat} {F : Nat → Int} (h : ∀ k, k < p → ∃ en', bindT t (.int (0 + k)) (wipeE en vs) = some en' ∧ a en' = .ok (.int (F k))) :
    compGo (compTurnD t vs none a en) (rangeD 0 p) = .ok (((List.range p).map F).map .int) := by
  rw [List.map_map]
  refine compGo_map (enc := fun i : Nat => PyData.int (0 + i)) fun k hk => ?_
  obtain ⟨en', h1, h2⟩ := h k (List.mem_range.mp hk)
  exact turn_all h1 h2
def natD (k : Nat) : D := .int k
def ordD (o : List Nat) : D := .tuple (o.map natD)
theorem nat_lt (a b : Nat) : PySem.W.dataLt (natD a) (natD b) = decide (a < b) := by
  show PySem.W.dataLt (.int a) (.int b) = _
  rw [PySem.W.dataLt_int]
  exact decide_eq_decide.mpr ⟨fun z => by omega, fun z => by omega⟩
theorem nats_sortB (o : List Nat) : sortB (o.map natD) = true := by
  unfold sortB alikeB
  rw [Bool.and_eq_true, Bool.and_eq_true, Bool.or_eq_true]
  refine ⟨?_, .inr ?_, ?_⟩ <;> simp only [List.all_map, List.all_eq_true, Function.comp] <;> intros <;> rfl
theorem ddle_nat (a b : Nat) : ddle (natD a) (natD b) = decide (a ≤ b) := by
  show (!PySem.W.dataLt (natD b) (natD a)) = _
  rw [nat_lt]
  by_cases h : a ≤ b
  · rw [decide_eq_true h, decide_eq_false (by omega)]
    rfl
  · rw [decide_eq_false h, decide_eq_true (by omega)]
    rfl
/-! books -/
structure Bk (bs : List (Int × Int)) : Prop where
  l1 : bs.length ≤ 10
  v : ∀ p ∈ bs, 0 ≤ p.1 ∧ p.1 < p.2 ∧ p.2 ≤ 60
def bkD (bs : List (Int × Int)) : D := .tuple (bs.map pr2)
theorem flat_bk (bs : List (Int × Int)) : flat (bkD bs) = true := by
  unfold bkD
  rw [flat_tuple]
  exact flatL_map fun _ _ => rfl
theorem bk_seq (bs : List (Int × Int)) : asSeq (bkD bs) = .ok (bs.map pr2) := rfl
theorem bk_len (bs : List (Int × Int)) : dLen [bkD bs] = .ok (.int bs.length) := by
  unfold bkD
  simp only [startE_eq, kSet_ap, kSetG_ap, kIfS_ap, kIf0_ap, kRet_ap, kDrop_ap, kUnp_slot, kUnp2, kUnp3, kApp_ap, appR_ok, ownR_ok, augR_ok, kPar1_ap, kPar2_ap, kAug_ap, kForS_l, kForS_t, xSkip_ap, xSeq_skip, xSeq_seq, xSeq_set, xSeq_setG, xSeq_if, xSeq_ret, xSeq_retN, xSeq_raise, xSeq_drop, xSeq_brk, xSeq_cnt, xSeq_unp, xSeq_par, xSeq_app, xApp_ap, xSeq_aug, xAug_ap, xSeq_for, xSeq_forS, xSeq_forG, xFor_ap, xForS_ap, xForG_ap, xPar_ap, xSet_ap, xSetG_ap, xIf_ap, xRet_ap, xRetN_ap, xDrop_ap, xRaise_ap, xBreak_ap, xCont_ap, xUnp_ap, xSeq_put, xPut_ap, xSeq_putA, xPutA_ap, paK1_ap, paR1_ok, paX1_ok, paK2_ap, kPut1_ap, kPut2_ap, putR_ok, putJ_ok, kEv_ap, kEvG_ap, kEvL_ap, evS_ap, evG_ap, evL_ap, evA_t, evA_f, keepG_int, keepG_bool, keepG_none, keepG_tuple, keepG_list, flatL_nil, flatL_cons, vVar_ap, varR_ok, optR_ok, vC_ap, kB_ap, vBin_ap, vUn_ap, vTest_ap, kAnd_ap, kAnd2_ap, vAnd_ap, kOr_ap, kOr2_ap, vOr_ap, kNot_ap, kNot2_ap, vNot_ap, kIfE_ap, vIf_ap, kC3_ap, kC2_ap, kC1_ap, vChain_ap, kL_ap, kL2_ap, vL_nil, vL_cons, kTup_ap, kLst_ap, vTup_ap, vLst_ap, vCall_ap, kCut1_ap, kCut2_ap, kCut3_ap, vCut_ap, kPart_ap, vPart_none, vPart_some, kComp_ap, kCompO_ap, vComp_ap, wSeq_ap, wCall_ap, wipe_nil, wipe_cons, dMod_int, bindS_slot, bindS_tup, bindSs_nil, bindSs_slot, bindT_slot, bindT_tup, bindTs_nil, bindTs_slot, onR_ok, onR_exc, outR_rt, outR_nx, outR_exc, after_t, after_f, rb_ok, rb_exc, tr_bool, tr_none, tr_int, tr_list, tr_tuple, toB_bool, toI_int, dAdd_int, dSub_int, dNeg_int, dMul_l, dMul_r, dDiv_int, dLt_int, dLe_int, dGt_int, dGe_int, dEq_int, dNe_int, dEq_bool, dNe_bool, dIs_none, dIsNot_none, dIs_bool, isNone_none, isNone_int, isNone_bool, isNone_tuple, isNone_list, dIdx_list, dIdx_tuple, atI_0, atI_1, atI_2, dLen_list, dLen_tuple, dInt_int, dAbs_int, dTuple_list, dTuple_tuple, dList_list, dList_tuple, dSum_ints, dSum_intsT, dAll_bools, dMin_2, dMax_2, isi_int_int, isi_int_bool, isi_int_none, isi_int_tuple, isi_int_list, isi_bool_int, isi_bool_bool, isi_tuple_tuple, isi_tuple_int, isi_tuple_none, isi_list_list, asSeq_list, asSeq_tuple, iEnum_list, iEnum_tuple, iZip_list, iZip_tuple, dCut_list, dCut_tuple, flat_none, flat_bool, flat_int, flat_str, flat_tuple, flat_list, flatL_ints, flatL_bools, isL_list, isL_int, isL_bool, isL_tuple, isL_none, mview_nil, mview_cons, mv1_f, mv1_n, mv1_t, freeze_nil, freeze_cons, fr1_f, fr1_n, fr1_t, List.set_cons_zero, List.set_cons_succ, List.map_cons, List.map_nil, List.length_cons, List.length_nil, List.replicate_succ, List.replicate_zero, List.cons_append, List.nil_append, List.getElem?_cons_zero, List.getElem?_cons_succ, List.mem_cons, List.not_mem_nil, or_false, false_or, or_true, true_or, if_true, if_false, Bool.false_eq_true, Bool.not_true, Bool.not_false, decide_true, decide_false, and_self, true_and, and_true, Bool.true_and, Bool.and_true, Bool.and_self, Bool.false_and, Bool.and_false, ↓reduceIte, reduceIte, Int.reduceLT, Int.reduceLE, Int.reduceNeg, Int.reduceAdd, Int.reduceSub, Int.reduceMul, Int.reduceToNat, Nat.reduceLT, Nat.reduceLeDiff, Nat.reduceEqDiff, Nat.reduceAdd, Nat.reduceSub, Nat.reduceMul, reduceCtorEq, Int.cast_ofNat_Int, Int.natCast_one, Int.natCast_zero, Int.reduceEq, vMeth_ap, kMeth_l, dRev_list, dCount_ints, kRem_ap, xSeq_rem, xSeq_ext, xExt_ap, kExt_ap, xSeq_pop, xPop_ap, popR_ok, xRem_ap, xSeq_try, xTryL_ap, kTry_nx, kTry_rt, kTry_exc, tryR_rt, tryR_nx, tryR_no, handL_cons, wipeS_nil, wipeS_cons, cv_s, cv_b, cv_i, List.length_map]
theorem bk_enum (bs : List (Int × Int)) : iEnumD [bkD bs] = .ok (enumD 0 (bs.map pr2)) := rfl
theorem bk_at {bs : List (Int × Int)} {k : Nat} {p : Int × Int} (h : bs[k]? = some p) : dIdx (bkD bs) (.int k) = .ok (.tuple [.int p.1, .int p.2]) := by
  show optR (atI (bs.map pr2) (k : Int)) = _
  rw [atI_map h]
  rfl
theorem stretch_eq {p : Int × Int} (h : 0 ≤ p.1 ∧ p.1 < p.2 ∧ p.2 ≤ 60) : f_is_stretch [pr2 p] = .ok (.bool true) := by
  refine runFn_eq rfl ?_
  have h1 : p.1 ≤ 60 := by omega
  have h2 : 0 ≤ p.2 := by omega
  simp only [startE_eq, kSet_ap, kSetG_ap, kIfS_ap, kIf0_ap, kRet_ap, kDrop_ap, kUnp_slot, kUnp2, kUnp3, kApp_ap, appR_ok, ownR_ok, augR_ok, kPar1_ap, kPar2_ap, kAug_ap, kForS_l, kForS_t, xSkip_ap, xSeq_skip, xSeq_seq, xSeq_set, xSeq_setG, xSeq_if, xSeq_ret, xSeq_retN, xSeq_raise, xSeq_drop, xSeq_brk, xSeq_cnt, xSeq_unp, xSeq_par, xSeq_app, xApp_ap, xSeq_aug, xAug_ap, xSeq_for, xSeq_forS, xSeq_forG, xFor_ap, xForS_ap, xForG_ap, xPar_ap, xSet_ap, xSetG_ap, xIf_ap, xRet_ap, xRetN_ap, xDrop_ap, xRaise_ap, xBreak_ap, xCont_ap, xUnp_ap, xSeq_put, xPut_ap, xSeq_putA, xPutA_ap, paK1_ap, paR1_ok, paX1_ok, paK2_ap, kPut1_ap, kPut2_ap, putR_ok, putJ_ok, kEv_ap, kEvG_ap, kEvL_ap, evS_ap, evG_ap, evL_ap, evA_t, evA_f, keepG_int, keepG_bool, keepG_none, keepG_tuple, keepG_list, flatL_nil, flatL_cons, vVar_ap, varR_ok, optR_ok, vC_ap, kB_ap, vBin_ap, vUn_ap, vTest_ap, kAnd_ap, kAnd2_ap, vAnd_ap, kOr_ap, kOr2_ap, vOr_ap, kNot_ap, kNot2_ap, vNot_ap, kIfE_ap, vIf_ap, kC3_ap, kC2_ap, kC1_ap, vChain_ap, kL_ap, kL2_ap, vL_nil, vL_cons, kTup_ap, kLst_ap, vTup_ap, vLst_ap, vCall_ap, kCut1_ap, kCut2_ap, kCut3_ap, vCut_ap, kPart_ap, vPart_none, vPart_some, kComp_ap, kCompO_ap, vComp_ap, wSeq_ap, wCall_ap, wipe_nil, wipe_cons, dMod_int, bindS_slot, bindS_tup, bindSs_nil, bindSs_slot, bindT_slot, bindT_tup, bindTs_nil, bindTs_slot, onR_ok, onR_exc, outR_rt, outR_nx, outR_exc, after_t, after_f, rb_ok, rb_exc, tr_bool, tr_none, tr_int, tr_list, tr_tuple, toB_bool, toI_int, dAdd_int, dSub_int, dNeg_int, dMul_l, dMul_r, dDiv_int, dLt_int, dLe_int, dGt_int, dGe_int, dEq_int, dNe_int, dEq_bool, dNe_bool, dIs_none, dIsNot_none, dIs_bool, isNone_none, isNone_int, isNone_bool, isNone_tuple, isNone_list, dIdx_list, dIdx_tuple, atI_0, atI_1, atI_2, dLen_list, dLen_tuple, dInt_int, dAbs_int, dTuple_list, dTuple_tuple, dList_list, dList_tuple, dSum_ints, dSum_intsT, dAll_bools, dMin_2, dMax_2, isi_int_int, isi_int_bool, isi_int_none, isi_int_tuple, isi_int_list, isi_bool_int, isi_bool_bool, isi_tuple_tuple, isi_tuple_int, isi_tuple_none, isi_list_list, asSeq_list, asSeq_tuple, iEnum_list, iEnum_tuple, iZip_list, iZip_tuple, dCut_list, dCut_tuple, flat_none, flat_bool, flat_int, flat_str, flat_tuple, flat_list, flatL_ints, flatL_bools, isL_list, isL_int, isL_bool, isL_tuple, isL_none, mview_nil, mview_cons, mv1_f, mv1_n, mv1_t, freeze_nil, freeze_cons, fr1_f, fr1_n, fr1_t, List.set_cons_zero, List.set_cons_succ, List.map_cons, List.map_nil, List.length_cons, List.length_nil, List.replicate_succ, List.replicate_zero, List.cons_append, List.nil_append, List.getElem?_cons_zero, List.getElem?_cons_succ, List.mem_cons, List.not_mem_nil, or_false, false_or, or_true, true_or, if_true, if_false, Bool.false_eq_true, Bool.not_true, Bool.not_false, decide_true, decide_false, and_self, true_and, and_true, Bool.true_and, Bool.and_true, Bool.and_self, Bool.false_and, Bool.and_false, ↓reduceIte, reduceIte, Int.reduceLT, Int.reduceLE, Int.reduceNeg, Int.reduceAdd, Int.reduceSub, Int.reduceMul, Int.reduceToNat, Nat.reduceLT, Nat.reduceLeDiff, Nat.reduceEqDiff, Nat.reduceAdd, Nat.reduceSub, Nat.reduceMul, reduceCtorEq, Int.cast_ofNat_Int, Int.natCast_one, Int.natCast_zero, Int.reduceEq, vMeth_ap, kMeth_l, dRev_list, dCount_ints, kRem_ap, xSeq_rem, xSeq_ext, xExt_ap, kExt_ap, xSeq_pop, xPop_ap, popR_ok, xRem_ap, xSeq_try, xTryL_ap, kTry_nx, kTry_rt, kTry_exc, tryR_rt, tryR_nx, tryR_no, handL_cons, wipeS_nil, wipeS_cons, cv_s, cv_b, cv_i, b_is_stretch, pr2, tupleOf_eq, between_eq, h, h1, h2]
theorem areBooks_eq {bs : List (Int × Int)} (c : Bk bs) : f_are_books [bkD bs] = .ok (.bool true) := by
  refine runFn_eq rfl ?_
  have h2 : (bs.length : Int) ≤ 12 := by have := c.l1; omega
  have cc : ∀ s0 s1, compGo (compTurnD (.slot 1) [1] none (vCall f_is_stretch [vVar 1]) [s0, s1]) (bs.map pr2) = .ok ((bs.map fun _ => true).map .bool) := by
    intro s0 s1
    rw [List.map_map]
    refine compGo_map fun p hp => turn_all rfl ?_
    have := stretch_eq (c.v p hp)
    simp only [startE_eq, kSet_ap, kSetG_ap, kIfS_ap, kIf0_ap, kRet_ap, kDrop_ap, kUnp_slot, kUnp2, kUnp3, kApp_ap, appR_ok, ownR_ok, augR_ok, kPar1_ap, kPar2_ap, kAug_ap, kForS_l, kForS_t, xSkip_ap, xSeq_skip, xSeq_seq, xSeq_set, xSeq_setG, xSeq_if, xSeq_ret, xSeq_retN, xSeq_raise, xSeq_drop, xSeq_brk, xSeq_cnt, xSeq_unp, xSeq_par, xSeq_app, xApp_ap, xSeq_aug, xAug_ap, xSeq_for, xSeq_forS, xSeq_forG, xFor_ap, xForS_ap, xForG_ap, xPar_ap, xSet_ap, xSetG_ap, xIf_ap, xRet_ap, xRetN_ap, xDrop_ap, xRaise_ap, xBreak_ap, xCont_ap, xUnp_ap, xSeq_put, xPut_ap, xSeq_putA, xPutA_ap, paK1_ap, paR1_ok, paX1_ok, paK2_ap, kPut1_ap, kPut2_ap, putR_ok, putJ_ok, kEv_ap, kEvG_ap, kEvL_ap, evS_ap, evG_ap, evL_ap, evA_t, evA_f, keepG_int, keepG_bool, keepG_none, keepG_tuple, keepG_list, flatL_nil, flatL_cons, vVar_ap, varR_ok, optR_ok, vC_ap, kB_ap, vBin_ap, vUn_ap, vTest_ap, kAnd_ap, kAnd2_ap, vAnd_ap, kOr_ap, kOr2_ap, vOr_ap, kNot_ap, kNot2_ap, vNot_ap, kIfE_ap, vIf_ap, kC3_ap, kC2_ap, kC1_ap, vChain_ap, kL_ap, kL2_ap, vL_nil, vL_cons, kTup_ap, kLst_ap, vTup_ap, vLst_ap, vCall_ap, kCut1_ap, kCut2_ap, kCut3_ap, vCut_ap, kPart_ap, vPart_none, vPart_some, kComp_ap, kCompO_ap, vComp_ap, wSeq_ap, wCall_ap, wipe_nil, wipe_cons, dMod_int, bindS_slot, bindS_tup, bindSs_nil, bindSs_slot, bindT_slot, bindT_tup, bindTs_nil, bindTs_slot, onR_ok, onR_exc, outR_rt, outR_nx, outR_exc, after_t, after_f, rb_ok, rb_exc, tr_bool, tr_none, tr_int, tr_list, tr_tuple, toB_bool, toI_int, dAdd_int, dSub_int, dNeg_int, dMul_l, dMul_r, dDiv_int, dLt_int, dLe_int, dGt_int, dGe_int, dEq_int, dNe_int, dEq_bool, dNe_bool, dIs_none, dIsNot_none, dIs_bool, isNone_none, isNone_int, isNone_bool, isNone_tuple, isNone_list, dIdx_list, dIdx_tuple, atI_0, atI_1, atI_2, dLen_list, dLen_tuple, dInt_int, dAbs_int, dTuple_list, dTuple_tuple, dList_list, dList_tuple, dSum_ints, dSum_intsT, dAll_bools, dMin_2, dMax_2, isi_int_int, isi_int_bool, isi_int_none, isi_int_tuple, isi_int_list, isi_bool_int, isi_bool_bool, isi_tuple_tuple, isi_tuple_int, isi_tuple_none, isi_list_list, asSeq_list, asSeq_tuple, iEnum_list, iEnum_tuple, iZip_list, iZip_tuple, dCut_list, dCut_tuple, flat_none, flat_bool, flat_int, flat_str, flat_tuple, flat_list, flatL_ints, flatL_bools, isL_list, isL_int, isL_bool, isL_tuple, isL_none, mview_nil, mview_cons, mv1_f, mv1_n, mv1_t, freeze_nil, freeze_cons, fr1_f, fr1_n, fr1_t, List.set_cons_zero, List.set_cons_succ, List.map_cons, List.map_nil, List.length_cons, List.length_nil, List.replicate_succ, List.replicate_zero, List.cons_append, List.nil_append, List.getElem?_cons_zero, List.getElem?_cons_succ, List.mem_cons, List.not_mem_nil, or_false, false_or, or_true, true_or, if_true, if_false, Bool.false_eq_true, Bool.not_true, Bool.not_false, decide_true, decide_false, and_self, true_and, and_true, Bool.true_and, Bool.and_true, Bool.and_self, Bool.false_and, Bool.and_false, ↓reduceIte, reduceIte, Int.reduceLT, Int.reduceLE, Int.reduceNeg, Int.reduceAdd, Int.reduceSub, Int.reduceMul, Int.reduceToNat, Nat.reduceLT, Nat.reduceLeDiff, Nat.reduceEqDiff, Nat.reduceAdd, Nat.reduceSub, Nat.reduceMul, reduceCtorEq, Int.cast_ofNat_Int, Int.natCast_one, Int.natCast_zero, Int.reduceEq, vMeth_ap, kMeth_l, dRev_list, dCount_ints, kRem_ap, xSeq_rem, xSeq_ext, xExt_ap, kExt_ap, xSeq_pop, xPop_ap, popR_ok, xRem_ap, xSeq_try, xTryL_ap, kTry_nx, kTry_rt, kTry_exc, tryR_rt, tryR_nx, tryR_no, handL_cons, wipeS_nil, wipeS_cons, cv_s, cv_b, cv_i, this]
    rfl
  simp only [startE_eq, kSet_ap, kSetG_ap, kIfS_ap, kIf0_ap, kRet_ap, kDrop_ap, kUnp_slot, kUnp2, kUnp3, kApp_ap, appR_ok, ownR_ok, augR_ok, kPar1_ap, kPar2_ap, kAug_ap, kForS_l, kForS_t, xSkip_ap, xSeq_skip, xSeq_seq, xSeq_set, xSeq_setG, xSeq_if, xSeq_ret, xSeq_retN, xSeq_raise, xSeq_drop, xSeq_brk, xSeq_cnt, xSeq_unp, xSeq_par, xSeq_app, xApp_ap, xSeq_aug, xAug_ap, xSeq_for, xSeq_forS, xSeq_forG, xFor_ap, xForS_ap, xForG_ap, xPar_ap, xSet_ap, xSetG_ap, xIf_ap, xRet_ap, xRetN_ap, xDrop_ap, xRaise_ap, xBreak_ap, xCont_ap, xUnp_ap, xSeq_put, xPut_ap, xSeq_putA, xPutA_ap, paK1_ap, paR1_ok, paX1_ok, paK2_ap, kPut1_ap, kPut2_ap, putR_ok, putJ_ok, kEv_ap, kEvG_ap, kEvL_ap, evS_ap, evG_ap, evL_ap, evA_t, evA_f, keepG_int, keepG_bool, keepG_none, keepG_tuple, keepG_list, flatL_nil, flatL_cons, vVar_ap, varR_ok, optR_ok, vC_ap, kB_ap, vBin_ap, vUn_ap, vTest_ap, kAnd_ap, kAnd2_ap, vAnd_ap, kOr_ap, kOr2_ap, vOr_ap, kNot_ap, kNot2_ap, vNot_ap, kIfE_ap, vIf_ap, kC3_ap, kC2_ap, kC1_ap, vChain_ap, kL_ap, kL2_ap, vL_nil, vL_cons, kTup_ap, kLst_ap, vTup_ap, vLst_ap, vCall_ap, kCut1_ap, kCut2_ap, kCut3_ap, vCut_ap, kPart_ap, vPart_none, vPart_some, kComp_ap, kCompO_ap, vComp_ap, wSeq_ap, wCall_ap, wipe_nil, wipe_cons, dMod_int, bindS_slot, bindS_tup, bindSs_nil, bindSs_slot, bindT_slot, bindT_tup, bindTs_nil, bindTs_slot, onR_ok, onR_exc, outR_rt, outR_nx, outR_exc, after_t, after_f, rb_ok, rb_exc, tr_bool, tr_none, tr_int, tr_list, tr_tuple, toB_bool, toI_int, dAdd_int, dSub_int, dNeg_int, dMul_l, dMul_r, dDiv_int, dLt_int, dLe_int, dGt_int, dGe_int, dEq_int, dNe_int, dEq_bool, dNe_bool, dIs_none, dIsNot_none, dIs_bool, isNone_none, isNone_int, isNone_bool, isNone_tuple, isNone_list, dIdx_list, dIdx_tuple, atI_0, atI_1, atI_2, dLen_list, dLen_tuple, dInt_int, dAbs_int, dTuple_list, dTuple_tuple, dList_list, dList_tuple, dSum_ints, dSum_intsT, dAll_bools, dMin_2, dMax_2, isi_int_int, isi_int_bool, isi_int_none, isi_int_tuple, isi_int_list, isi_bool_int, isi_bool_bool, isi_tuple_tuple, isi_tuple_int, isi_tuple_none, isi_list_list, asSeq_list, asSeq_tuple, iEnum_list, iEnum_tuple, iZip_list, iZip_tuple, dCut_list, dCut_tuple, flat_none, flat_bool, flat_int, flat_str, flat_tuple, flat_list, flatL_ints, flatL_bools, isL_list, isL_int, isL_bool, isL_tuple, isL_none, mview_nil, mview_cons, mv1_f, mv1_n, mv1_t, freeze_nil, freeze_cons, fr1_f, fr1_n, fr1_t, List.set_cons_zero, List.set_cons_succ, List.map_cons, List.map_nil, List.length_cons, List.length_nil, List.replicate_succ, List.replicate_zero, List.cons_append, List.nil_append, List.getElem?_cons_zero, List.getElem?_cons_succ, List.mem_cons, List.not_mem_nil, or_false, false_or, or_true, true_or, if_true, if_false, Bool.false_eq_true, Bool.not_true, Bool.not_false, decide_true, decide_false, and_self, true_and, and_true, Bool.true_and, Bool.and_true, Bool.and_self, Bool.false_and, Bool.and_false, ↓reduceIte, reduceIte, Int.reduceLT, Int.reduceLE, Int.reduceNeg, Int.reduceAdd, Int.reduceSub, Int.reduceMul, Int.reduceToNat, Nat.reduceLT, Nat.reduceLeDiff, Nat.reduceEqDiff, Nat.reduceAdd, Nat.reduceSub, Nat.reduceMul, reduceCtorEq, Int.cast_ofNat_Int, Int.natCast_one, Int.natCast_zero, Int.reduceEq, vMeth_ap, kMeth_l, dRev_list, dCount_ints, kRem_ap, xSeq_rem, xSeq_ext, xExt_ap, kExt_ap, xSeq_pop, xPop_ap, popR_ok, xRem_ap, xSeq_try, xTryL_ap, kTry_nx, kTry_rt, kTry_exc, tryR_rt, tryR_nx, tryR_no, handL_cons, wipeS_nil, wipeS_cons, cv_s, cv_b, cv_i, b_are_books, bkD, List.length_map, h2, cc, all_true]
theorem need_eq {bs : List (Int × Int)} (c : Bk bs) : f_need_books [bkD bs] = .ok .none := by
  refine runFn_eq rfl ?_
  have := areBooks_eq c
  simp only [startE_eq, kSet_ap, kSetG_ap, kIfS_ap, kIf0_ap, kRet_ap, kDrop_ap, kUnp_slot, kUnp2, kUnp3, kApp_ap, appR_ok, ownR_ok, augR_ok, kPar1_ap, kPar2_ap, kAug_ap, kForS_l, kForS_t, xSkip_ap, xSeq_skip, xSeq_seq, xSeq_set, xSeq_setG, xSeq_if, xSeq_ret, xSeq_retN, xSeq_raise, xSeq_drop, xSeq_brk, xSeq_cnt, xSeq_unp, xSeq_par, xSeq_app, xApp_ap, xSeq_aug, xAug_ap, xSeq_for, xSeq_forS, xSeq_forG, xFor_ap, xForS_ap, xForG_ap, xPar_ap, xSet_ap, xSetG_ap, xIf_ap, xRet_ap, xRetN_ap, xDrop_ap, xRaise_ap, xBreak_ap, xCont_ap, xUnp_ap, xSeq_put, xPut_ap, xSeq_putA, xPutA_ap, paK1_ap, paR1_ok, paX1_ok, paK2_ap, kPut1_ap, kPut2_ap, putR_ok, putJ_ok, kEv_ap, kEvG_ap, kEvL_ap, evS_ap, evG_ap, evL_ap, evA_t, evA_f, keepG_int, keepG_bool, keepG_none, keepG_tuple, keepG_list, flatL_nil, flatL_cons, vVar_ap, varR_ok, optR_ok, vC_ap, kB_ap, vBin_ap, vUn_ap, vTest_ap, kAnd_ap, kAnd2_ap, vAnd_ap, kOr_ap, kOr2_ap, vOr_ap, kNot_ap, kNot2_ap, vNot_ap, kIfE_ap, vIf_ap, kC3_ap, kC2_ap, kC1_ap, vChain_ap, kL_ap, kL2_ap, vL_nil, vL_cons, kTup_ap, kLst_ap, vTup_ap, vLst_ap, vCall_ap, kCut1_ap, kCut2_ap, kCut3_ap, vCut_ap, kPart_ap, vPart_none, vPart_some, kComp_ap, kCompO_ap, vComp_ap, wSeq_ap, wCall_ap, wipe_nil, wipe_cons, dMod_int, bindS_slot, bindS_tup, bindSs_nil, bindSs_slot, bindT_slot, bindT_tup, bindTs_nil, bindTs_slot, onR_ok, onR_exc, outR_rt, outR_nx, outR_exc, after_t, after_f, rb_ok, rb_exc, tr_bool, tr_none, tr_int, tr_list, tr_tuple, toB_bool, toI_int, dAdd_int, dSub_int, dNeg_int, dMul_l, dMul_r, dDiv_int, dLt_int, dLe_int, dGt_int, dGe_int, dEq_int, dNe_int, dEq_bool, dNe_bool, dIs_none, dIsNot_none, dIs_bool, isNone_none, isNone_int, isNone_bool, isNone_tuple, isNone_list, dIdx_list, dIdx_tuple, atI_0, atI_1, atI_2, dLen_list, dLen_tuple, dInt_int, dAbs_int, dTuple_list, dTuple_tuple, dList_list, dList_tuple, dSum_ints, dSum_intsT, dAll_bools, dMin_2, dMax_2, isi_int_int, isi_int_bool, isi_int_none, isi_int_tuple, isi_int_list, isi_bool_int, isi_bool_bool, isi_tuple_tuple, isi_tuple_int, isi_tuple_none, isi_list_list, asSeq_list, asSeq_tuple, iEnum_list, iEnum_tuple, iZip_list, iZip_tuple, dCut_list, dCut_tuple, flat_none, flat_bool, flat_int, flat_str, flat_tuple, flat_list, flatL_ints, flatL_bools, isL_list, isL_int, isL_bool, isL_tuple, isL_none, mview_nil, mview_cons, mv1_f, mv1_n, mv1_t, freeze_nil, freeze_cons, fr1_f, fr1_n, fr1_t, List.set_cons_zero, List.set_cons_succ, List.map_cons, List.map_nil, List.length_cons, List.length_nil, List.replicate_succ, List.replicate_zero, List.cons_append, List.nil_append, List.getElem?_cons_zero, List.getElem?_cons_succ, List.mem_cons, List.not_mem_nil, or_false, false_or, or_true, true_or, if_true, if_false, Bool.false_eq_true, Bool.not_true, Bool.not_false, decide_true, decide_false, and_self, true_and, and_true, Bool.true_and, Bool.and_true, Bool.and_self, Bool.false_and, Bool.and_false, ↓reduceIte, reduceIte, Int.reduceLT, Int.reduceLE, Int.reduceNeg, Int.reduceAdd, Int.reduceSub, Int.reduceMul, Int.reduceToNat, Nat.reduceLT, Nat.reduceLeDiff, Nat.reduceEqDiff, Nat.reduceAdd, Nat.reduceSub, Nat.reduceMul, reduceCtorEq, Int.cast_ofNat_Int, Int.natCast_one, Int.natCast_zero, Int.reduceEq, vMeth_ap, kMeth_l, dRev_list, dCount_ints, kRem_ap, xSeq_rem, xSeq_ext, xExt_ap, kExt_ap, xSeq_pop, xPop_ap, popR_ok, xRem_ap, xSeq_try, xTryL_ap, kTry_nx, kTry_rt, kTry_exc, tryR_rt, tryR_nx, tryR_no, handL_cons, wipeS_nil, wipeS_cons, cv_s, cv_b, cv_i, b_need_books, this]
/-- does p tell the year -/
def tl (p : Int × Int) (y : Int) : Bool := decide (p.1 ≤ y) && decide (y < p.2)
theorem tl_iff {p : Int × Int} {y : Int} : tl p y = true ↔ p.1 ≤ y ∧ y < p.2 := by
  unfold tl
  rw [Bool.and_eq_true, decide_eq_true_eq, decide_eq_true_eq]
theorem tells_eq (p : Int × Int) (y : Int) : f_tells [pr2 p, .int y] = .ok (.bool (tl p y)) := by
  refine runFn_eq rfl ?_
  unfold tl
  by_cases h : p.1 ≤ y <;> simp only [startE_eq, kSet_ap, kSetG_ap, kIfS_ap, kIf0_ap, kRet_ap, kDrop_ap, kUnp_slot, kUnp2, kUnp3, kApp_ap, appR_ok, ownR_ok, augR_ok, kPar1_ap, kPar2_ap, kAug_ap, kForS_l, kForS_t, xSkip_ap, xSeq_skip, xSeq_seq, xSeq_set, xSeq_setG, xSeq_if, xSeq_ret, xSeq_retN, xSeq_raise, xSeq_drop, xSeq_brk, xSeq_cnt, xSeq_unp, xSeq_par, xSeq_app, xApp_ap, xSeq_aug, xAug_ap, xSeq_for, xSeq_forS, xSeq_forG, xFor_ap, xForS_ap, xForG_ap, xPar_ap, xSet_ap, xSetG_ap, xIf_ap, xRet_ap, xRetN_ap, xDrop_ap, xRaise_ap, xBreak_ap, xCont_ap, xUnp_ap, xSeq_put, xPut_ap, xSeq_putA, xPutA_ap, paK1_ap, paR1_ok, paX1_ok, paK2_ap, kPut1_ap, kPut2_ap, putR_ok, putJ_ok, kEv_ap, kEvG_ap, kEvL_ap, evS_ap, evG_ap, evL_ap, evA_t, evA_f, keepG_int, keepG_bool, keepG_none, keepG_tuple, keepG_list, flatL_nil, flatL_cons, vVar_ap, varR_ok, optR_ok, vC_ap, kB_ap, vBin_ap, vUn_ap, vTest_ap, kAnd_ap, kAnd2_ap, vAnd_ap, kOr_ap, kOr2_ap, vOr_ap, kNot_ap, kNot2_ap, vNot_ap, kIfE_ap, vIf_ap, kC3_ap, kC2_ap, kC1_ap, vChain_ap, kL_ap, kL2_ap, vL_nil, vL_cons, kTup_ap, kLst_ap, vTup_ap, vLst_ap, vCall_ap, kCut1_ap, kCut2_ap, kCut3_ap, vCut_ap, kPart_ap, vPart_none, vPart_some, kComp_ap, kCompO_ap, vComp_ap, wSeq_ap, wCall_ap, wipe_nil, wipe_cons, dMod_int, bindS_slot, bindS_tup, bindSs_nil, bindSs_slot, bindT_slot, bindT_tup, bindTs_nil, bindTs_slot, onR_ok, onR_exc, outR_rt, outR_nx, outR_exc, after_t, after_f, rb_ok, rb_exc, tr_bool, tr_none, tr_int, tr_list, tr_tuple, toB_bool, toI_int, dAdd_int, dSub_int, dNeg_int, dMul_l, dMul_r, dDiv_int, dLt_int, dLe_int, dGt_int, dGe_int, dEq_int, dNe_int, dEq_bool, dNe_bool, dIs_none, dIsNot_none, dIs_bool, isNone_none, isNone_int, isNone_bool, isNone_tuple, isNone_list, dIdx_list, dIdx_tuple, atI_0, atI_1, atI_2, dLen_list, dLen_tuple, dInt_int, dAbs_int, dTuple_list, dTuple_tuple, dList_list, dList_tuple, dSum_ints, dSum_intsT, dAll_bools, dMin_2, dMax_2, isi_int_int, isi_int_bool, isi_int_none, isi_int_tuple, isi_int_list, isi_bool_int, isi_bool_bool, isi_tuple_tuple, isi_tuple_int, isi_tuple_none, isi_list_list, asSeq_list, asSeq_tuple, iEnum_list, iEnum_tuple, iZip_list, iZip_tuple, dCut_list, dCut_tuple, flat_none, flat_bool, flat_int, flat_str, flat_tuple, flat_list, flatL_ints, flatL_bools, isL_list, isL_int, isL_bool, isL_tuple, isL_none, mview_nil, mview_cons, mv1_f, mv1_n, mv1_t, freeze_nil, freeze_cons, fr1_f, fr1_n, fr1_t, List.set_cons_zero, List.set_cons_succ, List.map_cons, List.map_nil, List.length_cons, List.length_nil, List.replicate_succ, List.replicate_zero, List.cons_append, List.nil_append, List.getElem?_cons_zero, List.getElem?_cons_succ, List.mem_cons, List.not_mem_nil, or_false, false_or, or_true, true_or, if_true, if_false, Bool.false_eq_true, Bool.not_true, Bool.not_false, decide_true, decide_false, and_self, true_and, and_true, Bool.true_and, Bool.and_true, Bool.and_self, Bool.false_and, Bool.and_false, ↓reduceIte, reduceIte, Int.reduceLT, Int.reduceLE, Int.reduceNeg, Int.reduceAdd, Int.reduceSub, Int.reduceMul, Int.reduceToNat, Nat.reduceLT, Nat.reduceLeDiff, Nat.reduceEqDiff, Nat.reduceAdd, Nat.reduceSub, Nat.reduceMul, reduceCtorEq, Int.cast_ofNat_Int, Int.natCast_one, Int.natCast_zero, Int.reduceEq, vMeth_ap, kMeth_l, dRev_list, dCount_ints, kRem_ap, xSeq_rem, xSeq_ext, xExt_ap, kExt_ap, xSeq_pop, xPop_ap, popR_ok, xRem_ap, xSeq_try, xTryL_ap, kTry_nx, kTry_rt, kTry_exc, tryR_rt, tryR_nx, tryR_no, handL_cons, wipeS_nil, wipeS_cons, cv_s, cv_b, cv_i, b_tells, pr2, h]
theorem ltells_eq (p : Int × Int) (y : Int) : f__law_tells [pr2 p, .int y] = .ok (.bool (tl p y)) := by
  refine runFn_eq rfl ?_
  unfold tl
  by_cases h : p.1 ≤ y <;> simp only [startE_eq, kSet_ap, kSetG_ap, kIfS_ap, kIf0_ap, kRet_ap, kDrop_ap, kUnp_slot, kUnp2, kUnp3, kApp_ap, appR_ok, ownR_ok, augR_ok, kPar1_ap, kPar2_ap, kAug_ap, kForS_l, kForS_t, xSkip_ap, xSeq_skip, xSeq_seq, xSeq_set, xSeq_setG, xSeq_if, xSeq_ret, xSeq_retN, xSeq_raise, xSeq_drop, xSeq_brk, xSeq_cnt, xSeq_unp, xSeq_par, xSeq_app, xApp_ap, xSeq_aug, xAug_ap, xSeq_for, xSeq_forS, xSeq_forG, xFor_ap, xForS_ap, xForG_ap, xPar_ap, xSet_ap, xSetG_ap, xIf_ap, xRet_ap, xRetN_ap, xDrop_ap, xRaise_ap, xBreak_ap, xCont_ap, xUnp_ap, xSeq_put, xPut_ap, xSeq_putA, xPutA_ap, paK1_ap, paR1_ok, paX1_ok, paK2_ap, kPut1_ap, kPut2_ap, putR_ok, putJ_ok, kEv_ap, kEvG_ap, kEvL_ap, evS_ap, evG_ap, evL_ap, evA_t, evA_f, keepG_int, keepG_bool, keepG_none, keepG_tuple, keepG_list, flatL_nil, flatL_cons, vVar_ap, varR_ok, optR_ok, vC_ap, kB_ap, vBin_ap, vUn_ap, vTest_ap, kAnd_ap, kAnd2_ap, vAnd_ap, kOr_ap, kOr2_ap, vOr_ap, kNot_ap, kNot2_ap, vNot_ap, kIfE_ap, vIf_ap, kC3_ap, kC2_ap, kC1_ap, vChain_ap, kL_ap, kL2_ap, vL_nil, vL_cons, kTup_ap, kLst_ap, vTup_ap, vLst_ap, vCall_ap, kCut1_ap, kCut2_ap, kCut3_ap, vCut_ap, kPart_ap, vPart_none, vPart_some, kComp_ap, kCompO_ap, vComp_ap, wSeq_ap, wCall_ap, wipe_nil, wipe_cons, dMod_int, bindS_slot, bindS_tup, bindSs_nil, bindSs_slot, bindT_slot, bindT_tup, bindTs_nil, bindTs_slot, onR_ok, onR_exc, outR_rt, outR_nx, outR_exc, after_t, after_f, rb_ok, rb_exc, tr_bool, tr_none, tr_int, tr_list, tr_tuple, toB_bool, toI_int, dAdd_int, dSub_int, dNeg_int, dMul_l, dMul_r, dDiv_int, dLt_int, dLe_int, dGt_int, dGe_int, dEq_int, dNe_int, dEq_bool, dNe_bool, dIs_none, dIsNot_none, dIs_bool, isNone_none, isNone_int, isNone_bool, isNone_tuple, isNone_list, dIdx_list, dIdx_tuple, atI_0, atI_1, atI_2, dLen_list, dLen_tuple, dInt_int, dAbs_int, dTuple_list, dTuple_tuple, dList_list, dList_tuple, dSum_ints, dSum_intsT, dAll_bools, dMin_2, dMax_2, isi_int_int, isi_int_bool, isi_int_none, isi_int_tuple, isi_int_list, isi_bool_int, isi_bool_bool, isi_tuple_tuple, isi_tuple_int, isi_tuple_none, isi_list_list, asSeq_list, asSeq_tuple, iEnum_list, iEnum_tuple, iZip_list, iZip_tuple, dCut_list, dCut_tuple, flat_none, flat_bool, flat_int, flat_str, flat_tuple, flat_list, flatL_ints, flatL_bools, isL_list, isL_int, isL_bool, isL_tuple, isL_none, mview_nil, mview_cons, mv1_f, mv1_n, mv1_t, freeze_nil, freeze_cons, fr1_f, fr1_n, fr1_t, List.set_cons_zero, List.set_cons_succ, List.map_cons, List.map_nil, List.length_cons, List.length_nil, List.replicate_succ, List.replicate_zero, List.cons_append, List.nil_append, List.getElem?_cons_zero, List.getElem?_cons_succ, List.mem_cons, List.not_mem_nil, or_false, false_or, or_true, true_or, if_true, if_false, Bool.false_eq_true, Bool.not_true, Bool.not_false, decide_true, decide_false, and_self, true_and, and_true, Bool.true_and, Bool.and_true, Bool.and_self, Bool.false_and, Bool.and_false, ↓reduceIte, reduceIte, Int.reduceLT, Int.reduceLE, Int.reduceNeg, Int.reduceAdd, Int.reduceSub, Int.reduceMul, Int.reduceToNat, Nat.reduceLT, Nat.reduceLeDiff, Nat.reduceEqDiff, Nat.reduceAdd, Nat.reduceSub, Nat.reduceMul, reduceCtorEq, Int.cast_ofNat_Int, Int.natCast_one, Int.natCast_zero, Int.reduceEq, vMeth_ap, kMeth_l, dRev_list, dCount_ints, kRem_ap, xSeq_rem, xSeq_ext, xExt_ap, kExt_ap, xSeq_pop, xPop_ap, popR_ok, xRem_ap, xSeq_try, xTryL_ap, kTry_nx, kTry_rt, kTry_exc, tryR_rt, tryR_nx, tryR_no, handL_cons, wipeS_nil, wipeS_cons, cv_s, cv_b, cv_i, b__law_tells, pr2, h]
theorem books_eq (cell more : Int) : ∃ bs, Bk bs ∧ f__law_books [.int cell, .int more] = .ok (bkD bs) := by
  have r1 : f__law_row [.int cell, .int 1, .int 11] = _ := row_eq cell 11 1 (by decide) (by decide) (by decide)
  have i1 : atI ((rowL cell 11 1).map PyData.int) 0 = some (.int (rowI cell 11 0)) := atI_map (i := 0) (rowL_get (by decide))
  obtain ⟨m0, m1⟩ := rowI_nn (cell := cell) (top := 11) (k := 0) (by decide)
  obtain ⟨many, hmany⟩ := Int.eq_ofNat_of_zero_le m0
  have r2 : f__law_row [.int cell, .int 2, .int 4] = _ := row_eq cell 4 2 (by decide) (by decide) (by decide)
  have i2 : atI ((rowL cell 4 2).map PyData.int) 1 = some (.int (rowI cell 4 1)) := atI_map (i := 1) (rowL_get (by decide))
  obtain ⟨x, hx, x0, x1⟩ : ∃ x : Int, atI [PyData.int 4, .int 10, .int 25, .int 60] (rowI cell 4 1) = some (.int x) ∧ 1 ≤ x ∧ x ≤ 60 := by
    obtain ⟨h1, h2⟩ := rowI_nn (cell := cell) (top := 4) (k := 1) (by decide)
    have : rowI cell 4 1 = 0 ∨ rowI cell 4 1 = 1 ∨ rowI cell 4 1 = 2 ∨ rowI cell 4 1 = 3 := by omega
    rcases this with h | h | h | h <;> rw [h] <;> exact ⟨_, rfl, by decide, by decide⟩
  have r3 : f__law_row [.int more, .int (2 * (many : Int) + 2), .int 1000] = _ := row_eq more 1000 (2 * many + 2) (by omega) (by decide) (by decide)
  have im : ∀ k, k < 2 * many + 2 → atI ((rowL more 1000 (2 * many + 2)).map PyData.int) (k : Int) = some (.int (rowI more 1000 k)) := fun k hk => atI_map (rowL_get hk)
  have iM := im (2 * many) (by omega)
  have eM : ((2 * many : Nat) : Int) = 2 * (many : Int) := by omega
  rw [eM] at iM
  have hr : iRange [.int (many : Int)] = .ok (rangeD 0 many) := iRange_1 (by omega)
  have hx0 : (0 : Int) < x := by omega
  have key : ∃ bs : List (Int × Int), Bk bs ∧ outR (xSeq (xFor iRange [2] [(vVar 2)] (.slot 6)
    (xSeq (xSet 7 [4, 6, 3] (vBin dMod (vBin dIdx (vVar 4) (vBin dMul (vC (.int 2)) (vVar 6))) (vVar 3)))
    (xSeq (xSet 8 [7, 3, 4, 2] (vBin dIdx (vLst [(vBin dSub (vVar 3) (vVar 7)), (vCall dMin [(vBin dSub (vVar 3) (vVar 7)), (vBin dAdd (vC (.int 1)) (vBin dDiv (vVar 3) (vC (.int 3))))])]) (vBin dMod (vBin dIdx (vVar 4) (vBin dMul (vC (.int 2)) (vVar 2))) (vC (.int 2)))))
    (xApp 5 [7, 4, 6, 8] (vTup [(vVar 7), (vBin dAdd (vBin dAdd (vVar 7) (vC (.int 1))) (vBin dMod (vBin dIdx (vVar 4) (vBin dAdd (vBin dMul (vC (.int 2)) (vVar 6)) (vC (.int 1)))) (vVar 8)))])))))
    (xRet [5] (vCall dTuple [(vVar 5)])) [some (false, .int cell), some (false, .int more), some (false, .int many), some (false, .int x), some (false, .list ((rowL more 1000 (2 * many + 2)).map .int)), some (true, .list []), none, none, none]) = .ok (bkD bs) := by
    simp only [startE_eq, kSet_ap, kSetG_ap, kIfS_ap, kIf0_ap, kRet_ap, kDrop_ap, kUnp_slot, kUnp2, kUnp3, kApp_ap, appR_ok, ownR_ok, augR_ok, kPar1_ap, kPar2_ap, kAug_ap, kForS_l, kForS_t, xSkip_ap, xSeq_skip, xSeq_seq, xSeq_set, xSeq_setG, xSeq_if, xSeq_ret, xSeq_retN, xSeq_raise, xSeq_drop, xSeq_brk, xSeq_cnt, xSeq_unp, xSeq_par, xSeq_app, xApp_ap, xSeq_aug, xAug_ap, xSeq_for, xSeq_forS, xSeq_forG, xFor_ap, xForS_ap, xForG_ap, xPar_ap, xSet_ap, xSetG_ap, xIf_ap, xRet_ap, xRetN_ap, xDrop_ap, xRaise_ap, xBreak_ap, xCont_ap, xUnp_ap, xSeq_put, xPut_ap, xSeq_putA, xPutA_ap, paK1_ap, paR1_ok, paX1_ok, paK2_ap, kPut1_ap, kPut2_ap, putR_ok, putJ_ok, kEv_ap, kEvG_ap, kEvL_ap, evS_ap, evG_ap, evL_ap, evA_t, evA_f, keepG_int, keepG_bool, keepG_none, keepG_tuple, keepG_list, flatL_nil, flatL_cons, vVar_ap, varR_ok, optR_ok, vC_ap, kB_ap, vBin_ap, vUn_ap, vTest_ap, kAnd_ap, kAnd2_ap, vAnd_ap, kOr_ap, kOr2_ap, vOr_ap, kNot_ap, kNot2_ap, vNot_ap, kIfE_ap, vIf_ap, kC3_ap, kC2_ap, kC1_ap, vChain_ap, kL_ap, kL2_ap, vL_nil, vL_cons, kTup_ap, kLst_ap, vTup_ap, vLst_ap, vCall_ap, kCut1_ap, kCut2_ap, kCut3_ap, vCut_ap, kPart_ap, vPart_none, vPart_some, kComp_ap, kCompO_ap, vComp_ap, wSeq_ap, wCall_ap, wipe_nil, wipe_cons, dMod_int, bindS_slot, bindS_tup, bindSs_nil, bindSs_slot, bindT_slot, bindT_tup, bindTs_nil, bindTs_slot, onR_ok, onR_exc, outR_rt, outR_nx, outR_exc, after_t, after_f, rb_ok, rb_exc, tr_bool, tr_none, tr_int, tr_list, tr_tuple, toB_bool, toI_int, dAdd_int, dSub_int, dNeg_int, dMul_l, dMul_r, dDiv_int, dLt_int, dLe_int, dGt_int, dGe_int, dEq_int, dNe_int, dEq_bool, dNe_bool, dIs_none, dIsNot_none, dIs_bool, isNone_none, isNone_int, isNone_bool, isNone_tuple, isNone_list, dIdx_list, dIdx_tuple, atI_0, atI_1, atI_2, dLen_list, dLen_tuple, dInt_int, dAbs_int, dTuple_list, dTuple_tuple, dList_list, dList_tuple, dSum_ints, dSum_intsT, dAll_bools, dMin_2, dMax_2, isi_int_int, isi_int_bool, isi_int_none, isi_int_tuple, isi_int_list, isi_bool_int, isi_bool_bool, isi_tuple_tuple, isi_tuple_int, isi_tuple_none, isi_list_list, asSeq_list, asSeq_tuple, iEnum_list, iEnum_tuple, iZip_list, iZip_tuple, dCut_list, dCut_tuple, flat_none, flat_bool, flat_int, flat_str, flat_tuple, flat_list, flatL_ints, flatL_bools, isL_list, isL_int, isL_bool, isL_tuple, isL_none, mview_nil, mview_cons, mv1_f, mv1_n, mv1_t, freeze_nil, freeze_cons, fr1_f, fr1_n, fr1_t, List.set_cons_zero, List.set_cons_succ, List.map_cons, List.map_nil, List.length_cons, List.length_nil, List.replicate_succ, List.replicate_zero, List.cons_append, List.nil_append, List.getElem?_cons_zero, List.getElem?_cons_succ, List.mem_cons, List.not_mem_nil, or_false, false_or, or_true, true_or, if_true, if_false, Bool.false_eq_true, Bool.not_true, Bool.not_false, decide_true, decide_false, and_self, true_and, and_true, Bool.true_and, Bool.and_true, Bool.and_self, Bool.false_and, Bool.and_false, ↓reduceIte, reduceIte, Int.reduceLT, Int.reduceLE, Int.reduceNeg, Int.reduceAdd, Int.reduceSub, Int.reduceMul, Int.reduceToNat, Nat.reduceLT, Nat.reduceLeDiff, Nat.reduceEqDiff, Nat.reduceAdd, Nat.reduceSub, Nat.reduceMul, reduceCtorEq, Int.cast_ofNat_Int, Int.natCast_one, Int.natCast_zero, Int.reduceEq, vMeth_ap, kMeth_l, dRev_list, dCount_ints, kRem_ap, xSeq_rem, xSeq_ext, xExt_ap, kExt_ap, xSeq_pop, xPop_ap, popR_ok, xRem_ap, xSeq_try, xTryL_ap, kTry_nx, kTry_rt, kTry_exc, tryR_rt, tryR_nx, tryR_no, handL_cons, wipeS_nil, wipeS_cons, cv_s, cv_b, cv_i, kFor_ap hr]
    generalize hP : (fun o => ∃ bs : List (Int × Int), Bk bs ∧ outR o = .ok (bkD bs)) = P
    have goal : P (xSeq (forGo (xSeq (xSet 7 [4, 6, 3] (vBin dMod (vBin dIdx (vVar 4) (vBin dMul (vC (.int 2)) (vVar 6))) (vVar 3)))
      (xSeq (xSet 8 [7, 3, 4, 2] (vBin dIdx (vLst [(vBin dSub (vVar 3) (vVar 7)), (vCall dMin [(vBin dSub (vVar 3) (vVar 7)), (vBin dAdd (vC (.int 1)) (vBin dDiv (vVar 3) (vC (.int 3))))])]) (vBin dMod (vBin dIdx (vVar 4) (vBin dMul (vC (.int 2)) (vVar 2))) (vC (.int 2)))))
      (xApp 5 [7, 4, 6, 8] (vTup [(vVar 7), (vBin dAdd (vBin dAdd (vVar 7) (vC (.int 1))) (vBin dMod (vBin dIdx (vVar 4) (vBin dAdd (vBin dMul (vC (.int 2)) (vVar 6)) (vC (.int 1)))) (vVar 8)))])))) (.slot 6) (rangeD 0 many)) (xRet [5] (vCall dTuple [(vVar 5)]))
      [some (false, .int cell), some (false, .int more), some (false, .int many), some (false, .int x), some (false, .list ((rowL more 1000 (2 * many + 2)).map .int)), some (true, .list []), none, none, none]) := by
      refine seq_range (P := P) (fun k env => ∃ (bs : List (Int × Int)) (x6 x7 x8 : Option (Bool × D)), bs.length = k ∧ (∀ p ∈ bs, 0 ≤ p.1 ∧ p.1 < p.2 ∧ p.2 ≤ 60) ∧ env = [some (false, .int cell), some (false, .int more), some (false, .int many), some (false, .int x), some (false, .list ((rowL more 1000 (2 * many + 2)).map .int)), some (true, .list (bs.map pr2)), x6, x7, x8])
        NoE NoD ⟨[], none, none, none, rfl, fun p hp => (nomatch hp), rfl⟩ ?_ ?_ (fun _ z => z.elim) (fun _ z => z.elim)
      · rintro k env hk ⟨bs, x6, x7, x8, hl, hv, rfl⟩
        refine ⟨_, rfl, ?_⟩
        have a1 := im (2 * k) (by omega)
        have a2 := im (2 * k + 1) (by omega)
        have e1 : ((2 * k : Nat) : Int) = 2 * (k : Int) := by omega
        have e2 : ((2 * k + 1 : Nat) : Int) = 2 * (k : Int) + 1 := by omega
        rw [e1] at a1
        rw [e2] at a2
        have f0 : 0 ≤ rowI more 1000 (2 * k) % x := Int.emod_nonneg _ (by omega)
        have f1 : rowI more 1000 (2 * k) % x < x := Int.emod_lt_of_pos _ hx0
        obtain ⟨f, hf⟩ : ∃ f, rowI more 1000 (2 * k) % x = f := ⟨_, rfl⟩
        rw [hf] at f0 f1
        obtain ⟨w, hw, w0, w1⟩ : ∃ w : Int, atI [PyData.int (x - f), .int (if 1 + x / 3 < x - f then 1 + x / 3 else x - f)] (rowI more 1000 (2 * many) % 2) = some (.int w) ∧ 0 < w ∧ w ≤ x - f := by
          have h1 : 0 ≤ rowI more 1000 (2 * many) % 2 := Int.emod_nonneg _ (by decide)
          have h2 : rowI more 1000 (2 * many) % 2 < 2 := Int.emod_lt_of_pos _ (by decide)
          have : rowI more 1000 (2 * many) % 2 = 0 ∨ rowI more 1000 (2 * many) % 2 = 1 := by omega
          rcases this with h | h <;> rw [h]
          · exact ⟨_, rfl, by omega, by omega⟩
          · exact ⟨_, rfl, by split <;> omega, by split <;> omega⟩
        have g0 : 0 ≤ rowI more 1000 (2 * k + 1) % w := Int.emod_nonneg _ (by omega)
        have g1 : rowI more 1000 (2 * k + 1) % w < w := Int.emod_lt_of_pos _ w0
        have hl5 : (bs.map pr2).length < 1000000 := by rw [List.length_map]; omega
        simp only [startE_eq, kSet_ap, kSetG_ap, kIfS_ap, kIf0_ap, kRet_ap, kDrop_ap, kUnp_slot, kUnp2, kUnp3, kApp_ap, appR_ok, ownR_ok, augR_ok, kPar1_ap, kPar2_ap, kAug_ap, kForS_l, kForS_t, xSkip_ap, xSeq_skip, xSeq_seq, xSeq_set, xSeq_setG, xSeq_if, xSeq_ret, xSeq_retN, xSeq_raise, xSeq_drop, xSeq_brk, xSeq_cnt, xSeq_unp, xSeq_par, xSeq_app, xApp_ap, xSeq_aug, xAug_ap, xSeq_for, xSeq_forS, xSeq_forG, xFor_ap, xForS_ap, xForG_ap, xPar_ap, xSet_ap, xSetG_ap, xIf_ap, xRet_ap, xRetN_ap, xDrop_ap, xRaise_ap, xBreak_ap, xCont_ap, xUnp_ap, xSeq_put, xPut_ap, xSeq_putA, xPutA_ap, paK1_ap, paR1_ok, paX1_ok, paK2_ap, kPut1_ap, kPut2_ap, putR_ok, putJ_ok, kEv_ap, kEvG_ap, kEvL_ap, evS_ap, evG_ap, evL_ap, evA_t, evA_f, keepG_int, keepG_bool, keepG_none, keepG_tuple, keepG_list, flatL_nil, flatL_cons, vVar_ap, varR_ok, optR_ok, vC_ap, kB_ap, vBin_ap, vUn_ap, vTest_ap, kAnd_ap, kAnd2_ap, vAnd_ap, kOr_ap, kOr2_ap, vOr_ap, kNot_ap, kNot2_ap, vNot_ap, kIfE_ap, vIf_ap, kC3_ap, kC2_ap, kC1_ap, vChain_ap, kL_ap, kL2_ap, vL_nil, vL_cons, kTup_ap, kLst_ap, vTup_ap, vLst_ap, vCall_ap, kCut1_ap, kCut2_ap, kCut3_ap, vCut_ap, kPart_ap, vPart_none, vPart_some, kComp_ap, kCompO_ap, vComp_ap, wSeq_ap, wCall_ap, wipe_nil, wipe_cons, dMod_int, bindS_slot, bindS_tup, bindSs_nil, bindSs_slot, bindT_slot, bindT_tup, bindTs_nil, bindTs_slot, onR_ok, onR_exc, outR_rt, outR_nx, outR_exc, after_t, after_f, rb_ok, rb_exc, tr_bool, tr_none, tr_int, tr_list, tr_tuple, toB_bool, toI_int, dAdd_int, dSub_int, dNeg_int, dMul_l, dMul_r, dDiv_int, dLt_int, dLe_int, dGt_int, dGe_int, dEq_int, dNe_int, dEq_bool, dNe_bool, dIs_none, dIsNot_none, dIs_bool, isNone_none, isNone_int, isNone_bool, isNone_tuple, isNone_list, dIdx_list, dIdx_tuple, atI_0, atI_1, atI_2, dLen_list, dLen_tuple, dInt_int, dAbs_int, dTuple_list, dTuple_tuple, dList_list, dList_tuple, dSum_ints, dSum_intsT, dAll_bools, dMin_2, dMax_2, isi_int_int, isi_int_bool, isi_int_none, isi_int_tuple, isi_int_list, isi_bool_int, isi_bool_bool, isi_tuple_tuple, isi_tuple_int, isi_tuple_none, isi_list_list, asSeq_list, asSeq_tuple, iEnum_list, iEnum_tuple, iZip_list, iZip_tuple, dCut_list, dCut_tuple, flat_none, flat_bool, flat_int, flat_str, flat_tuple, flat_list, flatL_ints, flatL_bools, isL_list, isL_int, isL_bool, isL_tuple, isL_none, mview_nil, mview_cons, mv1_f, mv1_n, mv1_t, freeze_nil, freeze_cons, fr1_f, fr1_n, fr1_t, List.set_cons_zero, List.set_cons_succ, List.map_cons, List.map_nil, List.length_cons, List.length_nil, List.replicate_succ, List.replicate_zero, List.cons_append, List.nil_append, List.getElem?_cons_zero, List.getElem?_cons_succ, List.mem_cons, List.not_mem_nil, or_false, false_or, or_true, true_or, if_true, if_false, Bool.false_eq_true, Bool.not_true, Bool.not_false, decide_true, decide_false, and_self, true_and, and_true, Bool.true_and, Bool.and_true, Bool.and_self, Bool.false_and, Bool.and_false, ↓reduceIte, reduceIte, Int.reduceLT, Int.reduceLE, Int.reduceNeg, Int.reduceAdd, Int.reduceSub, Int.reduceMul, Int.reduceToNat, Nat.reduceLT, Nat.reduceLeDiff, Nat.reduceEqDiff, Nat.reduceAdd, Nat.reduceSub, Nat.reduceMul, reduceCtorEq, Int.cast_ofNat_Int, Int.natCast_one, Int.natCast_zero, Int.reduceEq, vMeth_ap, kMeth_l, dRev_list, dCount_ints, kRem_ap, xSeq_rem, xSeq_ext, xExt_ap, kExt_ap, xSeq_pop, xPop_ap, popR_ok, xRem_ap, xSeq_try, xTryL_ap, kTry_nx, kTry_rt, kTry_exc, tryR_rt, tryR_nx, tryR_no, handL_cons, wipeS_nil, wipeS_cons, cv_s, cv_b, cv_i, Int.zero_add, a1, a2, iM, hx0, hf, hw, w0, hl5]
        refine turn_nx ⟨bs ++ [(f, f + 1 + rowI more 1000 (2 * k + 1) % w)], _, _, _, by simp [hl], fun p hp => ?_, by simp only [List.map_append, List.map_cons, List.map_nil, pr2]; rfl⟩
        rcases List.mem_append.mp hp with h | h
        · exact hv p h
        · rw [List.mem_singleton] at h
          subst h
          exact ⟨f0, by show f < f + 1 + _; omega, by show f + 1 + _ ≤ 60; omega⟩
      · rintro env ⟨bs, x6, x7, x8, hl, hv, rfl⟩
        rw [← hP]
        refine ⟨bs, ⟨by omega, hv⟩, ?_⟩
        simp only [startE_eq, kSet_ap, kSetG_ap, kIfS_ap, kIf0_ap, kRet_ap, kDrop_ap, kUnp_slot, kUnp2, kUnp3, kApp_ap, appR_ok, ownR_ok, augR_ok, kPar1_ap, kPar2_ap, kAug_ap, kForS_l, kForS_t, xSkip_ap, xSeq_skip, xSeq_seq, xSeq_set, xSeq_setG, xSeq_if, xSeq_ret, xSeq_retN, xSeq_raise, xSeq_drop, xSeq_brk, xSeq_cnt, xSeq_unp, xSeq_par, xSeq_app, xApp_ap, xSeq_aug, xAug_ap, xSeq_for, xSeq_forS, xSeq_forG, xFor_ap, xForS_ap, xForG_ap, xPar_ap, xSet_ap, xSetG_ap, xIf_ap, xRet_ap, xRetN_ap, xDrop_ap, xRaise_ap, xBreak_ap, xCont_ap, xUnp_ap, xSeq_put, xPut_ap, xSeq_putA, xPutA_ap, paK1_ap, paR1_ok, paX1_ok, paK2_ap, kPut1_ap, kPut2_ap, putR_ok, putJ_ok, kEv_ap, kEvG_ap, kEvL_ap, evS_ap, evG_ap, evL_ap, evA_t, evA_f, keepG_int, keepG_bool, keepG_none, keepG_tuple, keepG_list, flatL_nil, flatL_cons, vVar_ap, varR_ok, optR_ok, vC_ap, kB_ap, vBin_ap, vUn_ap, vTest_ap, kAnd_ap, kAnd2_ap, vAnd_ap, kOr_ap, kOr2_ap, vOr_ap, kNot_ap, kNot2_ap, vNot_ap, kIfE_ap, vIf_ap, kC3_ap, kC2_ap, kC1_ap, vChain_ap, kL_ap, kL2_ap, vL_nil, vL_cons, kTup_ap, kLst_ap, vTup_ap, vLst_ap, vCall_ap, kCut1_ap, kCut2_ap, kCut3_ap, vCut_ap, kPart_ap, vPart_none, vPart_some, kComp_ap, kCompO_ap, vComp_ap, wSeq_ap, wCall_ap, wipe_nil, wipe_cons, dMod_int, bindS_slot, bindS_tup, bindSs_nil, bindSs_slot, bindT_slot, bindT_tup, bindTs_nil, bindTs_slot, onR_ok, onR_exc, outR_rt, outR_nx, outR_exc, after_t, after_f, rb_ok, rb_exc, tr_bool, tr_none, tr_int, tr_list, tr_tuple, toB_bool, toI_int, dAdd_int, dSub_int, dNeg_int, dMul_l, dMul_r, dDiv_int, dLt_int, dLe_int, dGt_int, dGe_int, dEq_int, dNe_int, dEq_bool, dNe_bool, dIs_none, dIsNot_none, dIs_bool, isNone_none, isNone_int, isNone_bool, isNone_tuple, isNone_list, dIdx_list, dIdx_tuple, atI_0, atI_1, atI_2, dLen_list, dLen_tuple, dInt_int, dAbs_int, dTuple_list, dTuple_tuple, dList_list, dList_tuple, dSum_ints, dSum_intsT, dAll_bools, dMin_2, dMax_2, isi_int_int, isi_int_bool, isi_int_none, isi_int_tuple, isi_int_list, isi_bool_int, isi_bool_bool, isi_tuple_tuple, isi_tuple_int, isi_tuple_none, isi_list_list, asSeq_list, asSeq_tuple, iEnum_list, iEnum_tuple, iZip_list, iZip_tuple, dCut_list, dCut_tuple, flat_none, flat_bool, flat_int, flat_str, flat_tuple, flat_list, flatL_ints, flatL_bools, isL_list, isL_int, isL_bool, isL_tuple, isL_none, mview_nil, mview_cons, mv1_f, mv1_n, mv1_t, freeze_nil, freeze_cons, fr1_f, fr1_n, fr1_t, List.set_cons_zero, List.set_cons_succ, List.map_cons, List.map_nil, List.length_cons, List.length_nil, List.replicate_succ, List.replicate_zero, List.cons_append, List.nil_append, List.getElem?_cons_zero, List.getElem?_cons_succ, List.mem_cons, List.not_mem_nil, or_false, false_or, or_true, true_or, if_true, if_false, Bool.false_eq_true, Bool.not_true, Bool.not_false, decide_true, decide_false, and_self, true_and, and_true, Bool.true_and, Bool.and_true, Bool.and_self, Bool.false_and, Bool.and_false, ↓reduceIte, reduceIte, Int.reduceLT, Int.reduceLE, Int.reduceNeg, Int.reduceAdd, Int.reduceSub, Int.reduceMul, Int.reduceToNat, Nat.reduceLT, Nat.reduceLeDiff, Nat.reduceEqDiff, Nat.reduceAdd, Nat.reduceSub, Nat.reduceMul, reduceCtorEq, Int.cast_ofNat_Int, Int.natCast_one, Int.natCast_zero, Int.reduceEq, vMeth_ap, kMeth_l, dRev_list, dCount_ints, kRem_ap, xSeq_rem, xSeq_ext, xExt_ap, kExt_ap, xSeq_pop, xPop_ap, popR_ok, xRem_ap, xSeq_try, xTryL_ap, kTry_nx, kTry_rt, kTry_exc, tryR_rt, tryR_nx, tryR_no, handL_cons, wipeS_nil, wipeS_cons, cv_s, cv_b, cv_i]
        rfl
    rw [← hP] at goal
    exact goal
  obtain ⟨bs, c, hk⟩ := key
  refine ⟨bs, c, runFn_eq rfl ?_⟩
  simp only [startE_eq, kSet_ap, kSetG_ap, kIfS_ap, kIf0_ap, kRet_ap, kDrop_ap, kUnp_slot, kUnp2, kUnp3, kApp_ap, appR_ok, ownR_ok, augR_ok, kPar1_ap, kPar2_ap, kAug_ap, kForS_l, kForS_t, xSkip_ap, xSeq_skip, xSeq_seq, xSeq_set, xSeq_setG, xSeq_if, xSeq_ret, xSeq_retN, xSeq_raise, xSeq_drop, xSeq_brk, xSeq_cnt, xSeq_unp, xSeq_par, xSeq_app, xApp_ap, xSeq_aug, xAug_ap, xSeq_for, xSeq_forS, xSeq_forG, xFor_ap, xForS_ap, xForG_ap, xPar_ap, xSet_ap, xSetG_ap, xIf_ap, xRet_ap, xRetN_ap, xDrop_ap, xRaise_ap, xBreak_ap, xCont_ap, xUnp_ap, xSeq_put, xPut_ap, xSeq_putA, xPutA_ap, paK1_ap, paR1_ok, paX1_ok, paK2_ap, kPut1_ap, kPut2_ap, putR_ok, putJ_ok, kEv_ap, kEvG_ap, kEvL_ap, evS_ap, evG_ap, evL_ap, evA_t, evA_f, keepG_int, keepG_bool, keepG_none, keepG_tuple, keepG_list, flatL_nil, flatL_cons, vVar_ap, varR_ok, optR_ok, vC_ap, kB_ap, vBin_ap, vUn_ap, vTest_ap, kAnd_ap, kAnd2_ap, vAnd_ap, kOr_ap, kOr2_ap, vOr_ap, kNot_ap, kNot2_ap, vNot_ap, kIfE_ap, vIf_ap, kC3_ap, kC2_ap, kC1_ap, vChain_ap, kL_ap, kL2_ap, vL_nil, vL_cons, kTup_ap, kLst_ap, vTup_ap, vLst_ap, vCall_ap, kCut1_ap, kCut2_ap, kCut3_ap, vCut_ap, kPart_ap, vPart_none, vPart_some, kComp_ap, kCompO_ap, vComp_ap, wSeq_ap, wCall_ap, wipe_nil, wipe_cons, dMod_int, bindS_slot, bindS_tup, bindSs_nil, bindSs_slot, bindT_slot, bindT_tup, bindTs_nil, bindTs_slot, onR_ok, onR_exc, outR_rt, outR_nx, outR_exc, after_t, after_f, rb_ok, rb_exc, tr_bool, tr_none, tr_int, tr_list, tr_tuple, toB_bool, toI_int, dAdd_int, dSub_int, dNeg_int, dMul_l, dMul_r, dDiv_int, dLt_int, dLe_int, dGt_int, dGe_int, dEq_int, dNe_int, dEq_bool, dNe_bool, dIs_none, dIsNot_none, dIs_bool, isNone_none, isNone_int, isNone_bool, isNone_tuple, isNone_list, dIdx_list, dIdx_tuple, atI_0, atI_1, atI_2, dLen_list, dLen_tuple, dInt_int, dAbs_int, dTuple_list, dTuple_tuple, dList_list, dList_tuple, dSum_ints, dSum_intsT, dAll_bools, dMin_2, dMax_2, isi_int_int, isi_int_bool, isi_int_none, isi_int_tuple, isi_int_list, isi_bool_int, isi_bool_bool, isi_tuple_tuple, isi_tuple_int, isi_tuple_none, isi_list_list, asSeq_list, asSeq_tuple, iEnum_list, iEnum_tuple, iZip_list, iZip_tuple, dCut_list, dCut_tuple, flat_none, flat_bool, flat_int, flat_str, flat_tuple, flat_list, flatL_ints, flatL_bools, isL_list, isL_int, isL_bool, isL_tuple, isL_none, mview_nil, mview_cons, mv1_f, mv1_n, mv1_t, freeze_nil, freeze_cons, fr1_f, fr1_n, fr1_t, List.set_cons_zero, List.set_cons_succ, List.map_cons, List.map_nil, List.length_cons, List.length_nil, List.replicate_succ, List.replicate_zero, List.cons_append, List.nil_append, List.getElem?_cons_zero, List.getElem?_cons_succ, List.mem_cons, List.not_mem_nil, or_false, false_or, or_true, true_or, if_true, if_false, Bool.false_eq_true, Bool.not_true, Bool.not_false, decide_true, decide_false, and_self, true_and, and_true, Bool.true_and, Bool.and_true, Bool.and_self, Bool.false_and, Bool.and_false, ↓reduceIte, reduceIte, Int.reduceLT, Int.reduceLE, Int.reduceNeg, Int.reduceAdd, Int.reduceSub, Int.reduceMul, Int.reduceToNat, Nat.reduceLT, Nat.reduceLeDiff, Nat.reduceEqDiff, Nat.reduceAdd, Nat.reduceSub, Nat.reduceMul, reduceCtorEq, Int.cast_ofNat_Int, Int.natCast_one, Int.natCast_zero, Int.reduceEq, vMeth_ap, kMeth_l, dRev_list, dCount_ints, kRem_ap, xSeq_rem, xSeq_ext, xExt_ap, kExt_ap, xSeq_pop, xPop_ap, popR_ok, xRem_ap, xSeq_try, xTryL_ap, kTry_nx, kTry_rt, kTry_exc, tryR_rt, tryR_nx, tryR_no, handL_cons, wipeS_nil, wipeS_cons, cv_s, cv_b, cv_i, b__law_books, r1, i1, hmany, r2, i2, hx, r3]
  simpa only [startE_eq, kSet_ap, kSetG_ap, kIfS_ap, kIf0_ap, kRet_ap, kDrop_ap, kUnp_slot, kUnp2, kUnp3, kApp_ap, appR_ok, ownR_ok, augR_ok, kPar1_ap, kPar2_ap, kAug_ap, kForS_l, kForS_t, xSkip_ap, xSeq_skip, xSeq_seq, xSeq_set, xSeq_setG, xSeq_if, xSeq_ret, xSeq_retN, xSeq_raise, xSeq_drop, xSeq_brk, xSeq_cnt, xSeq_unp, xSeq_par, xSeq_app, xApp_ap, xSeq_aug, xAug_ap, xSeq_for, xSeq_forS, xSeq_forG, xFor_ap, xForS_ap, xForG_ap, xPar_ap, xSet_ap, xSetG_ap, xIf_ap, xRet_ap, xRetN_ap, xDrop_ap, xRaise_ap, xBreak_ap, xCont_ap, xUnp_ap, xSeq_put, xPut_ap, xSeq_putA, xPutA_ap, paK1_ap, paR1_ok, paX1_ok, paK2_ap, kPut1_ap, kPut2_ap, putR_ok, putJ_ok, kEv_ap, kEvG_ap, kEvL_ap, evS_ap, evG_ap, evL_ap, evA_t, evA_f, keepG_int, keepG_bool, keepG_none, keepG_tuple, keepG_list, flatL_nil, flatL_cons, vVar_ap, varR_ok, optR_ok, vC_ap, kB_ap, vBin_ap, vUn_ap, vTest_ap, kAnd_ap, kAnd2_ap, vAnd_ap, kOr_ap, kOr2_ap, vOr_ap, kNot_ap, kNot2_ap, vNot_ap, kIfE_ap, vIf_ap, kC3_ap, kC2_ap, kC1_ap, vChain_ap, kL_ap, kL2_ap, vL_nil, vL_cons, kTup_ap, kLst_ap, vTup_ap, vLst_ap, vCall_ap, kCut1_ap, kCut2_ap, kCut3_ap, vCut_ap, kPart_ap, vPart_none, vPart_some, kComp_ap, kCompO_ap, vComp_ap, wSeq_ap, wCall_ap, wipe_nil, wipe_cons, dMod_int, bindS_slot, bindS_tup, bindSs_nil, bindSs_slot, bindT_slot, bindT_tup, bindTs_nil, bindTs_slot, onR_ok, onR_exc, outR_rt, outR_nx, outR_exc, after_t, after_f, rb_ok, rb_exc, tr_bool, tr_none, tr_int, tr_list, tr_tuple, toB_bool, toI_int, dAdd_int, dSub_int, dNeg_int, dMul_l, dMul_r, dDiv_int, dLt_int, dLe_int, dGt_int, dGe_int, dEq_int, dNe_int, dEq_bool, dNe_bool, dIs_none, dIsNot_none, dIs_bool, isNone_none, isNone_int, isNone_bool, isNone_tuple, isNone_list, dIdx_list, dIdx_tuple, atI_0, atI_1, atI_2, dLen_list, dLen_tuple, dInt_int, dAbs_int, dTuple_list, dTuple_tuple, dList_list, dList_tuple, dSum_ints, dSum_intsT, dAll_bools, dMin_2, dMax_2, isi_int_int, isi_int_bool, isi_int_none, isi_int_tuple, isi_int_list, isi_bool_int, isi_bool_bool, isi_tuple_tuple, isi_tuple_int, isi_tuple_none, isi_list_list, asSeq_list, asSeq_tuple, iEnum_list, iEnum_tuple, iZip_list, iZip_tuple, dCut_list, dCut_tuple, flat_none, flat_bool, flat_int, flat_str, flat_tuple, flat_list, flatL_ints, flatL_bools, isL_list, isL_int, isL_bool, isL_tuple, isL_none, mview_nil, mview_cons, mv1_f, mv1_n, mv1_t, freeze_nil, freeze_cons, fr1_f, fr1_n, fr1_t, List.set_cons_zero, List.set_cons_succ, List.map_cons, List.map_nil, List.length_cons, List.length_nil, List.replicate_succ, List.replicate_zero, List.cons_append, List.nil_append, List.getElem?_cons_zero, List.getElem?_cons_succ, List.mem_cons, List.not_mem_nil, or_false, false_or, or_true, true_or, if_true, if_false, Bool.false_eq_true, Bool.not_true, Bool.not_false, decide_true, decide_false, and_self, true_and, and_true, Bool.true_and, Bool.and_true, Bool.and_self, Bool.false_and, Bool.and_false, ↓reduceIte, reduceIte, Int.reduceLT, Int.reduceLE, Int.reduceNeg, Int.reduceAdd, Int.reduceSub, Int.reduceMul, Int.reduceToNat, Nat.reduceLT, Nat.reduceLeDiff, Nat.reduceEqDiff, Nat.reduceAdd, Nat.reduceSub, Nat.reduceMul, reduceCtorEq, Int.cast_ofNat_Int, Int.natCast_one, Int.natCast_zero, Int.reduceEq, vMeth_ap, kMeth_l, dRev_list, dCount_ints, kRem_ap, xSeq_rem, xSeq_ext, xExt_ap, kExt_ap, xSeq_pop, xPop_ap, popR_ok, xRem_ap, xSeq_try, xTryL_ap, kTry_nx, kTry_rt, kTry_exc, tryR_rt, tryR_nx, tryR_no, handL_cons, wipeS_nil, wipeS_cons, cv_s, cv_b, cv_i] using hk
end K68


set_option Elab.async false
set_option linter.all false
set_option maxRecDepth 100000
set_option maxHeartbeats 1000000
namespace K68
open PySem PySem.Spec PyProof.Rows L2 SH
theorem dAny_bools {bs : List Bool} : dAny [.list (bs.map PyData.bool)] = .ok (.bool (bs.any id)) := by
  show ofO (fun bs => PyData.bool (bs.any id)) (asBools (bs.map PyData.bool)) = _
  rw [asBools_map]
  rfl
def at2 (bs : List (Int × Int)) (k : Nat) : Int × Int := bs.getD k (0, 0)
theorem at2_get {bs : List (Int × Int)} {k : Nat} (h : k < bs.length) : bs[k]? = some (at2 bs k) := by simp [at2, h]
theorem bk_at2 {bs : List (Int × Int)} {k : Nat} (h : k < bs.length) : dIdx (bkD bs) (.int k) = .ok (pr2 (at2 bs k)) := bk_at (at2_get h)
theorem at2_ok {bs : List (Int × Int)} (c : Bk bs) {k : Nat} (h : k < bs.length) : 0 ≤ (at2 bs k).1 ∧ (at2 bs k).1 < (at2 bs k).2 ∧ (at2 bs k).2 ≤ 60 := c.v _ (List.mem_of_getElem? (at2_get h))
theorem range_at2 (bs : List (Int × Int)) : (List.range bs.length).map (at2 bs) = bs := by
  apply List.ext_getElem?
  intro i
  rw [List.getElem?_map]
  by_cases h : i < bs.length
  · rw [List.getElem?_range h, at2_get h]
    rfl
  · rw [List.getElem?_eq_none (by simp; omega), List.getElem?_eq_none (by omega)]
    rfl
/-! depths -/
def dep (bs : List (Int × Int)) (y : Int) : Nat := (bs.filter fun p => tl p y).length
theorem dep_range (bs : List (Int × Int)) (y : Int) : dep bs y = ((List.range bs.length).filter fun k => tl (at2 bs k) y).length := by
  unfold dep
  rw [← range_at2 bs, List.filter_map, List.length_map, range_at2]
  rfl
def lastI (bs : List (Int × Int)) : Int := bs.foldl (fun m p => if p.2 > m then p.2 else m) 0
theorem last_fold : ∀ (l : List (Int × Int)) (m : Int), m ≤ l.foldl (fun m p => if p.2 > m then p.2 else m) m ∧ (∀ p ∈ l, p.2 ≤ l.foldl (fun m p => if p.2 > m then p.2 else m) m) ∧ (l.foldl (fun m p => if p.2 > m then p.2 else m) m = m ∨ ∃ p ∈ l, p.2 = l.foldl (fun m p => if p.2 > m then p.2 else m) m)
  | [], m => ⟨Int.le_refl _, fun p hp => (nomatch hp), .inl rfl⟩
  | a :: l, m => by
    rw [List.foldl_cons]
    obtain ⟨h1, h2, h3⟩ := last_fold l (if a.2 > m then a.2 else m)
    generalize l.foldl (fun m p => if p.2 > m then p.2 else m) (if a.2 > m then a.2 else m) = z at *
    refine ⟨by split at h1 <;> omega, fun p hp => ?_, ?_⟩
    · rcases List.mem_cons.mp hp with rfl | hp
      · split at h1 <;> omega
      · exact h2 p hp
    · rcases h3 with h3 | ⟨p, hp, h3⟩
      · split at h3
        · exact .inr ⟨a, List.mem_cons_self .., h3.symm⟩
        · exact .inl h3
      · exact .inr ⟨p, List.mem_cons_of_mem _ hp, h3⟩
theorem last_nn (bs : List (Int × Int)) : 0 ≤ lastI bs := (last_fold bs 0).1
theorem last_ge {bs : List (Int × Int)} {p : Int × Int} (h : p ∈ bs) : p.2 ≤ lastI bs := (last_fold bs 0).2.1 p h
theorem last_le {bs : List (Int × Int)} (c : Bk bs) : lastI bs ≤ 60 := by
  rcases (last_fold bs 0).2.2 with h | ⟨p, hp, h⟩
  · show bs.foldl _ 0 ≤ 60
    omega
  · have := (c.v p hp).2.2
    show bs.foldl _ 0 ≤ 60
    omega
theorem last_max {bs : List (Int × Int)} (c : Bk bs) : dMaxDf (.list ((bs.map fun p => p.2).map .int)) (.int 0) = .ok (.int (lastI bs)) := by
  by_cases h : bs = []
  · subst h
    rfl
  · obtain ⟨q, h1, h2, h3⟩ := dMaxDf_ints (ns := bs.map fun p => p.2) (c := .int 0) (by simpa using h)
    rw [h2]
    obtain ⟨p, hp, rfl⟩ := List.mem_map.mp h1
    have a1 := last_ge hp
    have a2 := (c.v p hp)
    rcases (last_fold bs 0).2.2 with e | ⟨p', hp', e⟩
    · have e : lastI bs = 0 := e
      omega
    · have e : p'.2 = lastI bs := e
      have := h3 p'.2 (List.mem_map.mpr ⟨p', hp', rfl⟩)
      have : lastI bs = p.2 := by omega
      rw [this]
def depL (bs : List (Int × Int)) : List Int := (List.range (lastI bs).toNat).map fun y : Nat => (dep bs (y : Int) : Int)
def depD (bs : List (Int × Int)) : D := .tuple ((depL bs).map .int)
theorem depL_len (bs : List (Int × Int)) : (depL bs).length = (lastI bs).toNat := by simp [depL]
theorem depL_at {bs : List (Int × Int)} {y : Nat} (h : (y : Int) < lastI bs) : (depL bs)[y]? = some (dep bs (y : Int) : Int) := by
  unfold depL
  rw [List.getElem?_map, List.getElem?_range (by omega)]
  rfl
theorem dep_at {bs : List (Int × Int)} {y : Nat} (h : (y : Int) < lastI bs) : dIdx (depD bs) (.int y) = .ok (.int (dep bs (y : Int) : Int)) := by
  show optR (atI ((depL bs).map PyData.int) (y : Int)) = _
  rw [atI_map (depL_at h)]
  rfl
theorem depth_eq {bs : List (Int × Int)} (c : Bk bs) : f_subject_depth [bkD bs] = .ok (depD bs) := by
  refine runFn_eq rfl ?_
  have h1 := need_eq c
  have fb := flat_bk bs
  have dt := bk_seq bs
  have c1 : ∀ s0 s1 s2 s3, compGo (compTurnD (.slot 2) [2] none (vBin dIdx (vVar 2) (vC (.int 1))) [s0, s1, s2, s3]) (bs.map pr2) = .ok ((bs.map fun p => p.2).map .int) := by
    intro s0 s1 s2 s3
    rw [List.map_map]
    exact compGo_map fun p hp => turn_all rfl (by simp only [startE_eq, kSet_ap, kSetG_ap, kIfS_ap, kIf0_ap, kRet_ap, kDrop_ap, kUnp_slot, kUnp2, kUnp3, kApp_ap, appR_ok, ownR_ok, augR_ok, kPar1_ap, kPar2_ap, kAug_ap, kForS_l, kForS_t, xSkip_ap, xSeq_skip, xSeq_seq, xSeq_set, xSeq_setG, xSeq_if, xSeq_ret, xSeq_retN, xSeq_raise, xSeq_drop, xSeq_brk, xSeq_cnt, xSeq_unp, xSeq_par, xSeq_app, xApp_ap, xSeq_aug, xAug_ap, xSeq_for, xSeq_forS, xSeq_forG, xFor_ap, xForS_ap, xForG_ap, xPar_ap, xSet_ap, xSetG_ap, xIf_ap, xRet_ap, xRetN_ap, xDrop_ap, xRaise_ap, xBreak_ap, xCont_ap, xUnp_ap, xSeq_put, xPut_ap, xSeq_putA, xPutA_ap, paK1_ap, paR1_ok, paX1_ok, paK2_ap, kPut1_ap, kPut2_ap, putR_ok, putJ_ok, kEv_ap, kEvG_ap, kEvL_ap, evS_ap, evG_ap, evL_ap, evA_t, evA_f, keepG_int, keepG_bool, keepG_none, keepG_tuple, keepG_list, flatL_nil, flatL_cons, vVar_ap, varR_ok, optR_ok, vC_ap, kB_ap, vBin_ap, vUn_ap, vTest_ap, kAnd_ap, kAnd2_ap, vAnd_ap, kOr_ap, kOr2_ap, vOr_ap, kNot_ap, kNot2_ap, vNot_ap, kIfE_ap, vIf_ap, kC3_ap, kC2_ap, kC1_ap, vChain_ap, kL_ap, kL2_ap, vL_nil, vL_cons, kTup_ap, kLst_ap, vTup_ap, vLst_ap, vCall_ap, kCut1_ap, kCut2_ap, kCut3_ap, vCut_ap, kPart_ap, vPart_none, vPart_some, kComp_ap, kCompO_ap, vComp_ap, wSeq_ap, wCall_ap, wipe_nil, wipe_cons, dMod_int, bindS_slot, bindS_tup, bindSs_nil, bindSs_slot, bindT_slot, bindT_tup, bindTs_nil, bindTs_slot, onR_ok, onR_exc, outR_rt, outR_nx, outR_exc, after_t, after_f, rb_ok, rb_exc, tr_bool, tr_none, tr_int, tr_list, tr_tuple, toB_bool, toI_int, dAdd_int, dSub_int, dNeg_int, dMul_l, dMul_r, dDiv_int, dLt_int, dLe_int, dGt_int, dGe_int, dEq_int, dNe_int, dEq_bool, dNe_bool, dIs_none, dIsNot_none, dIs_bool, isNone_none, isNone_int, isNone_bool, isNone_tuple, isNone_list, dIdx_list, dIdx_tuple, atI_0, atI_1, atI_2, dLen_list, dLen_tuple, dInt_int, dAbs_int, dTuple_list, dTuple_tuple, dList_list, dList_tuple, dSum_ints, dSum_intsT, dAll_bools, dMin_2, dMax_2, isi_int_int, isi_int_bool, isi_int_none, isi_int_tuple, isi_int_list, isi_bool_int, isi_bool_bool, isi_tuple_tuple, isi_tuple_int, isi_tuple_none, isi_list_list, asSeq_list, asSeq_tuple, iEnum_list, iEnum_tuple, iZip_list, iZip_tuple, dCut_list, dCut_tuple, flat_none, flat_bool, flat_int, flat_str, flat_tuple, flat_list, flatL_ints, flatL_bools, isL_list, isL_int, isL_bool, isL_tuple, isL_none, mview_nil, mview_cons, mv1_f, mv1_n, mv1_t, freeze_nil, freeze_cons, fr1_f, fr1_n, fr1_t, List.set_cons_zero, List.set_cons_succ, List.map_cons, List.map_nil, List.length_cons, List.length_nil, List.replicate_succ, List.replicate_zero, List.cons_append, List.nil_append, List.getElem?_cons_zero, List.getElem?_cons_succ, List.mem_cons, List.not_mem_nil, or_false, false_or, or_true, true_or, if_true, if_false, Bool.false_eq_true, Bool.not_true, Bool.not_false, decide_true, decide_false, and_self, true_and, and_true, Bool.true_and, Bool.and_true, Bool.and_self, Bool.false_and, Bool.and_false, ↓reduceIte, reduceIte, Int.reduceLT, Int.reduceLE, Int.reduceNeg, Int.reduceAdd, Int.reduceSub, Int.reduceMul, Int.reduceToNat, Nat.reduceLT, Nat.reduceLeDiff, Nat.reduceEqDiff, Nat.reduceAdd, Nat.reduceSub, Nat.reduceMul, reduceCtorEq, Int.cast_ofNat_Int, Int.natCast_one, Int.natCast_zero, Int.reduceEq, vMeth_ap, kMeth_l, dRev_list, dCount_ints, kRem_ap, xSeq_rem, xSeq_ext, xExt_ap, kExt_ap, xSeq_pop, xPop_ap, popR_ok, xRem_ap, xSeq_try, xTryL_ap, kTry_nx, kTry_rt, kTry_exc, tryR_rt, tryR_nx, tryR_no, handL_cons, wipeS_nil, wipeS_cons, cv_s, cv_b, cv_i, pr2]; rfl)
  have h2 := last_max c
  have h3 := last_nn bs
  have h4 := last_le c
  have hr : iRange [.int (lastI bs)] = .ok (rangeD 0 (lastI bs).toNat) := iRange_1 (by omega)
  have c2 : ∀ s1 s2 (y : Int), compGo (compTurnD (.slot 2) [2] (some (vTest (vCall f_tells [vVar 2, vVar 3]))) (vVar 2) [some (bkD bs), s1, s2, some (.int y)]) (bs.map pr2) = .ok ((bs.filter fun p => tl p y).map pr2) := by
    intro s1 s2 y
    refine compGo_filter fun p hp => ?_
    have := tells_eq p y
    exact turn_if rfl (by simp only [startE_eq, kSet_ap, kSetG_ap, kIfS_ap, kIf0_ap, kRet_ap, kDrop_ap, kUnp_slot, kUnp2, kUnp3, kApp_ap, appR_ok, ownR_ok, augR_ok, kPar1_ap, kPar2_ap, kAug_ap, kForS_l, kForS_t, xSkip_ap, xSeq_skip, xSeq_seq, xSeq_set, xSeq_setG, xSeq_if, xSeq_ret, xSeq_retN, xSeq_raise, xSeq_drop, xSeq_brk, xSeq_cnt, xSeq_unp, xSeq_par, xSeq_app, xApp_ap, xSeq_aug, xAug_ap, xSeq_for, xSeq_forS, xSeq_forG, xFor_ap, xForS_ap, xForG_ap, xPar_ap, xSet_ap, xSetG_ap, xIf_ap, xRet_ap, xRetN_ap, xDrop_ap, xRaise_ap, xBreak_ap, xCont_ap, xUnp_ap, xSeq_put, xPut_ap, xSeq_putA, xPutA_ap, paK1_ap, paR1_ok, paX1_ok, paK2_ap, kPut1_ap, kPut2_ap, putR_ok, putJ_ok, kEv_ap, kEvG_ap, kEvL_ap, evS_ap, evG_ap, evL_ap, evA_t, evA_f, keepG_int, keepG_bool, keepG_none, keepG_tuple, keepG_list, flatL_nil, flatL_cons, vVar_ap, varR_ok, optR_ok, vC_ap, kB_ap, vBin_ap, vUn_ap, vTest_ap, kAnd_ap, kAnd2_ap, vAnd_ap, kOr_ap, kOr2_ap, vOr_ap, kNot_ap, kNot2_ap, vNot_ap, kIfE_ap, vIf_ap, kC3_ap, kC2_ap, kC1_ap, vChain_ap, kL_ap, kL2_ap, vL_nil, vL_cons, kTup_ap, kLst_ap, vTup_ap, vLst_ap, vCall_ap, kCut1_ap, kCut2_ap, kCut3_ap, vCut_ap, kPart_ap, vPart_none, vPart_some, kComp_ap, kCompO_ap, vComp_ap, wSeq_ap, wCall_ap, wipe_nil, wipe_cons, dMod_int, bindS_slot, bindS_tup, bindSs_nil, bindSs_slot, bindT_slot, bindT_tup, bindTs_nil, bindTs_slot, onR_ok, onR_exc, outR_rt, outR_nx, outR_exc, after_t, after_f, rb_ok, rb_exc, tr_bool, tr_none, tr_int, tr_list, tr_tuple, toB_bool, toI_int, dAdd_int, dSub_int, dNeg_int, dMul_l, dMul_r, dDiv_int, dLt_int, dLe_int, dGt_int, dGe_int, dEq_int, dNe_int, dEq_bool, dNe_bool, dIs_none, dIsNot_none, dIs_bool, isNone_none, isNone_int, isNone_bool, isNone_tuple, isNone_list, dIdx_list, dIdx_tuple, atI_0, atI_1, atI_2, dLen_list, dLen_tuple, dInt_int, dAbs_int, dTuple_list, dTuple_tuple, dList_list, dList_tuple, dSum_ints, dSum_intsT, dAll_bools, dMin_2, dMax_2, isi_int_int, isi_int_bool, isi_int_none, isi_int_tuple, isi_int_list, isi_bool_int, isi_bool_bool, isi_tuple_tuple, isi_tuple_int, isi_tuple_none, isi_list_list, asSeq_list, asSeq_tuple, iEnum_list, iEnum_tuple, iZip_list, iZip_tuple, dCut_list, dCut_tuple, flat_none, flat_bool, flat_int, flat_str, flat_tuple, flat_list, flatL_ints, flatL_bools, isL_list, isL_int, isL_bool, isL_tuple, isL_none, mview_nil, mview_cons, mv1_f, mv1_n, mv1_t, freeze_nil, freeze_cons, fr1_f, fr1_n, fr1_t, List.set_cons_zero, List.set_cons_succ, List.map_cons, List.map_nil, List.length_cons, List.length_nil, List.replicate_succ, List.replicate_zero, List.cons_append, List.nil_append, List.getElem?_cons_zero, List.getElem?_cons_succ, List.mem_cons, List.not_mem_nil, or_false, false_or, or_true, true_or, if_true, if_false, Bool.false_eq_true, Bool.not_true, Bool.not_false, decide_true, decide_false, and_self, true_and, and_true, Bool.true_and, Bool.and_true, Bool.and_self, Bool.false_and, Bool.and_false, ↓reduceIte, reduceIte, Int.reduceLT, Int.reduceLE, Int.reduceNeg, Int.reduceAdd, Int.reduceSub, Int.reduceMul, Int.reduceToNat, Nat.reduceLT, Nat.reduceLeDiff, Nat.reduceEqDiff, Nat.reduceAdd, Nat.reduceSub, Nat.reduceMul, reduceCtorEq, Int.cast_ofNat_Int, Int.natCast_one, Int.natCast_zero, Int.reduceEq, vMeth_ap, kMeth_l, dRev_list, dCount_ints, kRem_ap, xSeq_rem, xSeq_ext, xExt_ap, kExt_ap, xSeq_pop, xPop_ap, popR_ok, xRem_ap, xSeq_try, xTryL_ap, kTry_nx, kTry_rt, kTry_exc, tryR_rt, tryR_nx, tryR_no, handL_cons, wipeS_nil, wipeS_cons, cv_s, cv_b, cv_i, this]) fun _ => by simp only [startE_eq, kSet_ap, kSetG_ap, kIfS_ap, kIf0_ap, kRet_ap, kDrop_ap, kUnp_slot, kUnp2, kUnp3, kApp_ap, appR_ok, ownR_ok, augR_ok, kPar1_ap, kPar2_ap, kAug_ap, kForS_l, kForS_t, xSkip_ap, xSeq_skip, xSeq_seq, xSeq_set, xSeq_setG, xSeq_if, xSeq_ret, xSeq_retN, xSeq_raise, xSeq_drop, xSeq_brk, xSeq_cnt, xSeq_unp, xSeq_par, xSeq_app, xApp_ap, xSeq_aug, xAug_ap, xSeq_for, xSeq_forS, xSeq_forG, xFor_ap, xForS_ap, xForG_ap, xPar_ap, xSet_ap, xSetG_ap, xIf_ap, xRet_ap, xRetN_ap, xDrop_ap, xRaise_ap, xBreak_ap, xCont_ap, xUnp_ap, xSeq_put, xPut_ap, xSeq_putA, xPutA_ap, paK1_ap, paR1_ok, paX1_ok, paK2_ap, kPut1_ap, kPut2_ap, putR_ok, putJ_ok, kEv_ap, kEvG_ap, kEvL_ap, evS_ap, evG_ap, evL_ap, evA_t, evA_f, keepG_int, keepG_bool, keepG_none, keepG_tuple, keepG_list, flatL_nil, flatL_cons, vVar_ap, varR_ok, optR_ok, vC_ap, kB_ap, vBin_ap, vUn_ap, vTest_ap, kAnd_ap, kAnd2_ap, vAnd_ap, kOr_ap, kOr2_ap, vOr_ap, kNot_ap, kNot2_ap, vNot_ap, kIfE_ap, vIf_ap, kC3_ap, kC2_ap, kC1_ap, vChain_ap, kL_ap, kL2_ap, vL_nil, vL_cons, kTup_ap, kLst_ap, vTup_ap, vLst_ap, vCall_ap, kCut1_ap, kCut2_ap, kCut3_ap, vCut_ap, kPart_ap, vPart_none, vPart_some, kComp_ap, kCompO_ap, vComp_ap, wSeq_ap, wCall_ap, wipe_nil, wipe_cons, dMod_int, bindS_slot, bindS_tup, bindSs_nil, bindSs_slot, bindT_slot, bindT_tup, bindTs_nil, bindTs_slot, onR_ok, onR_exc, outR_rt, outR_nx, outR_exc, after_t, after_f, rb_ok, rb_exc, tr_bool, tr_none, tr_int, tr_list, tr_tuple, toB_bool, toI_int, dAdd_int, dSub_int, dNeg_int, dMul_l, dMul_r, dDiv_int, dLt_int, dLe_int, dGt_int, dGe_int, dEq_int, dNe_int, dEq_bool, dNe_bool, dIs_none, dIsNot_none, dIs_bool, isNone_none, isNone_int, isNone_bool, isNone_tuple, isNone_list, dIdx_list, dIdx_tuple, atI_0, atI_1, atI_2, dLen_list, dLen_tuple, dInt_int, dAbs_int, dTuple_list, dTuple_tuple, dList_list, dList_tuple, dSum_ints, dSum_intsT, dAll_bools, dMin_2, dMax_2, isi_int_int, isi_int_bool, isi_int_none, isi_int_tuple, isi_int_list, isi_bool_int, isi_bool_bool, isi_tuple_tuple, isi_tuple_int, isi_tuple_none, isi_list_list, asSeq_list, asSeq_tuple, iEnum_list, iEnum_tuple, iZip_list, iZip_tuple, dCut_list, dCut_tuple, flat_none, flat_bool, flat_int, flat_str, flat_tuple, flat_list, flatL_ints, flatL_bools, isL_list, isL_int, isL_bool, isL_tuple, isL_none, mview_nil, mview_cons, mv1_f, mv1_n, mv1_t, freeze_nil, freeze_cons, fr1_f, fr1_n, fr1_t, List.set_cons_zero, List.set_cons_succ, List.map_cons, List.map_nil, List.length_cons, List.length_nil, List.replicate_succ, List.replicate_zero, List.cons_append, List.nil_append, List.getElem?_cons_zero, List.getElem?_cons_succ, List.mem_cons, List.not_mem_nil, or_false, false_or, or_true, true_or, if_true, if_false, Bool.false_eq_true, Bool.not_true, Bool.not_false, decide_true, decide_false, and_self, true_and, and_true, Bool.true_and, Bool.and_true, Bool.and_self, Bool.false_and, Bool.and_false, ↓reduceIte, reduceIte, Int.reduceLT, Int.reduceLE, Int.reduceNeg, Int.reduceAdd, Int.reduceSub, Int.reduceMul, Int.reduceToNat, Nat.reduceLT, Nat.reduceLeDiff, Nat.reduceEqDiff, Nat.reduceAdd, Nat.reduceSub, Nat.reduceMul, reduceCtorEq, Int.cast_ofNat_Int, Int.natCast_one, Int.natCast_zero, Int.reduceEq, vMeth_ap, kMeth_l, dRev_list, dCount_ints, kRem_ap, xSeq_rem, xSeq_ext, xExt_ap, kExt_ap, xSeq_pop, xPop_ap, popR_ok, xRem_ap, xSeq_try, xTryL_ap, kTry_nx, kTry_rt, kTry_exc, tryR_rt, tryR_nx, tryR_no, handL_cons, wipeS_nil, wipeS_cons, cv_s, cv_b, cv_i]
  have c3 : ∀ s1 s2 s3, compGo (compTurnD (.slot 3) [3] none (vCall dLen [vComp (wSeq (vVar 0)) (.slot 2) [2] (some (vTest (vCall f_tells [vVar 2, vVar 3]))) (vVar 2)]) [some (bkD bs), s1, s2, s3]) (rangeD 0 (lastI bs).toNat) = .ok ((depL bs).map .int) := by
    intro s1 s2 s3
    unfold depL
    rw [List.map_map]
    refine SH.comp_range fun y hy => ⟨_, rfl, ?_⟩
    simp only [startE_eq, kSet_ap, kSetG_ap, kIfS_ap, kIf0_ap, kRet_ap, kDrop_ap, kUnp_slot, kUnp2, kUnp3, kApp_ap, appR_ok, ownR_ok, augR_ok, kPar1_ap, kPar2_ap, kAug_ap, kForS_l, kForS_t, xSkip_ap, xSeq_skip, xSeq_seq, xSeq_set, xSeq_setG, xSeq_if, xSeq_ret, xSeq_retN, xSeq_raise, xSeq_drop, xSeq_brk, xSeq_cnt, xSeq_unp, xSeq_par, xSeq_app, xApp_ap, xSeq_aug, xAug_ap, xSeq_for, xSeq_forS, xSeq_forG, xFor_ap, xForS_ap, xForG_ap, xPar_ap, xSet_ap, xSetG_ap, xIf_ap, xRet_ap, xRetN_ap, xDrop_ap, xRaise_ap, xBreak_ap, xCont_ap, xUnp_ap, xSeq_put, xPut_ap, xSeq_putA, xPutA_ap, paK1_ap, paR1_ok, paX1_ok, paK2_ap, kPut1_ap, kPut2_ap, putR_ok, putJ_ok, kEv_ap, kEvG_ap, kEvL_ap, evS_ap, evG_ap, evL_ap, evA_t, evA_f, keepG_int, keepG_bool, keepG_none, keepG_tuple, keepG_list, flatL_nil, flatL_cons, vVar_ap, varR_ok, optR_ok, vC_ap, kB_ap, vBin_ap, vUn_ap, vTest_ap, kAnd_ap, kAnd2_ap, vAnd_ap, kOr_ap, kOr2_ap, vOr_ap, kNot_ap, kNot2_ap, vNot_ap, kIfE_ap, vIf_ap, kC3_ap, kC2_ap, kC1_ap, vChain_ap, kL_ap, kL2_ap, vL_nil, vL_cons, kTup_ap, kLst_ap, vTup_ap, vLst_ap, vCall_ap, kCut1_ap, kCut2_ap, kCut3_ap, vCut_ap, kPart_ap, vPart_none, vPart_some, kComp_ap, kCompO_ap, vComp_ap, wSeq_ap, wCall_ap, wipe_nil, wipe_cons, dMod_int, bindS_slot, bindS_tup, bindSs_nil, bindSs_slot, bindT_slot, bindT_tup, bindTs_nil, bindTs_slot, onR_ok, onR_exc, outR_rt, outR_nx, outR_exc, after_t, after_f, rb_ok, rb_exc, tr_bool, tr_none, tr_int, tr_list, tr_tuple, toB_bool, toI_int, dAdd_int, dSub_int, dNeg_int, dMul_l, dMul_r, dDiv_int, dLt_int, dLe_int, dGt_int, dGe_int, dEq_int, dNe_int, dEq_bool, dNe_bool, dIs_none, dIsNot_none, dIs_bool, isNone_none, isNone_int, isNone_bool, isNone_tuple, isNone_list, dIdx_list, dIdx_tuple, atI_0, atI_1, atI_2, dLen_list, dLen_tuple, dInt_int, dAbs_int, dTuple_list, dTuple_tuple, dList_list, dList_tuple, dSum_ints, dSum_intsT, dAll_bools, dMin_2, dMax_2, isi_int_int, isi_int_bool, isi_int_none, isi_int_tuple, isi_int_list, isi_bool_int, isi_bool_bool, isi_tuple_tuple, isi_tuple_int, isi_tuple_none, isi_list_list, asSeq_list, asSeq_tuple, iEnum_list, iEnum_tuple, iZip_list, iZip_tuple, dCut_list, dCut_tuple, flat_none, flat_bool, flat_int, flat_str, flat_tuple, flat_list, flatL_ints, flatL_bools, isL_list, isL_int, isL_bool, isL_tuple, isL_none, mview_nil, mview_cons, mv1_f, mv1_n, mv1_t, freeze_nil, freeze_cons, fr1_f, fr1_n, fr1_t, List.set_cons_zero, List.set_cons_succ, List.map_cons, List.map_nil, List.length_cons, List.length_nil, List.replicate_succ, List.replicate_zero, List.cons_append, List.nil_append, List.getElem?_cons_zero, List.getElem?_cons_succ, List.mem_cons, List.not_mem_nil, or_false, false_or, or_true, true_or, if_true, if_false, Bool.false_eq_true, Bool.not_true, Bool.not_false, decide_true, decide_false, and_self, true_and, and_true, Bool.true_and, Bool.and_true, Bool.and_self, Bool.false_and, Bool.and_false, ↓reduceIte, reduceIte, Int.reduceLT, Int.reduceLE, Int.reduceNeg, Int.reduceAdd, Int.reduceSub, Int.reduceMul, Int.reduceToNat, Nat.reduceLT, Nat.reduceLeDiff, Nat.reduceEqDiff, Nat.reduceAdd, Nat.reduceSub, Nat.reduceMul, reduceCtorEq, Int.cast_ofNat_Int, Int.natCast_one, Int.natCast_zero, Int.reduceEq, vMeth_ap, kMeth_l, dRev_list, dCount_ints, kRem_ap, xSeq_rem, xSeq_ext, xExt_ap, kExt_ap, xSeq_pop, xPop_ap, popR_ok, xRem_ap, xSeq_try, xTryL_ap, kTry_nx, kTry_rt, kTry_exc, tryR_rt, tryR_nx, tryR_no, handL_cons, wipeS_nil, wipeS_cons, cv_s, cv_b, cv_i, dt, c2, List.length_map, Int.zero_add]
    rfl
  generalize hL : PyData.list ((bs.map fun p => p.2).map PyData.int) = L at c1 h2
  simp only [startE_eq, kSet_ap, kSetG_ap, kIfS_ap, kIf0_ap, kRet_ap, kDrop_ap, kUnp_slot, kUnp2, kUnp3, kApp_ap, appR_ok, ownR_ok, augR_ok, kPar1_ap, kPar2_ap, kAug_ap, kForS_l, kForS_t, xSkip_ap, xSeq_skip, xSeq_seq, xSeq_set, xSeq_setG, xSeq_if, xSeq_ret, xSeq_retN, xSeq_raise, xSeq_drop, xSeq_brk, xSeq_cnt, xSeq_unp, xSeq_par, xSeq_app, xApp_ap, xSeq_aug, xAug_ap, xSeq_for, xSeq_forS, xSeq_forG, xFor_ap, xForS_ap, xForG_ap, xPar_ap, xSet_ap, xSetG_ap, xIf_ap, xRet_ap, xRetN_ap, xDrop_ap, xRaise_ap, xBreak_ap, xCont_ap, xUnp_ap, xSeq_put, xPut_ap, xSeq_putA, xPutA_ap, paK1_ap, paR1_ok, paX1_ok, paK2_ap, kPut1_ap, kPut2_ap, putR_ok, putJ_ok, kEv_ap, kEvG_ap, kEvL_ap, evS_ap, evG_ap, evL_ap, evA_t, evA_f, keepG_int, keepG_bool, keepG_none, keepG_tuple, keepG_list, flatL_nil, flatL_cons, vVar_ap, varR_ok, optR_ok, vC_ap, kB_ap, vBin_ap, vUn_ap, vTest_ap, kAnd_ap, kAnd2_ap, vAnd_ap, kOr_ap, kOr2_ap, vOr_ap, kNot_ap, kNot2_ap, vNot_ap, kIfE_ap, vIf_ap, kC3_ap, kC2_ap, kC1_ap, vChain_ap, kL_ap, kL2_ap, vL_nil, vL_cons, kTup_ap, kLst_ap, vTup_ap, vLst_ap, vCall_ap, kCut1_ap, kCut2_ap, kCut3_ap, vCut_ap, kPart_ap, vPart_none, vPart_some, kComp_ap, kCompO_ap, vComp_ap, wSeq_ap, wCall_ap, wipe_nil, wipe_cons, dMod_int, bindS_slot, bindS_tup, bindSs_nil, bindSs_slot, bindT_slot, bindT_tup, bindTs_nil, bindTs_slot, onR_ok, onR_exc, outR_rt, outR_nx, outR_exc, after_t, after_f, rb_ok, rb_exc, tr_bool, tr_none, tr_int, tr_list, tr_tuple, toB_bool, toI_int, dAdd_int, dSub_int, dNeg_int, dMul_l, dMul_r, dDiv_int, dLt_int, dLe_int, dGt_int, dGe_int, dEq_int, dNe_int, dEq_bool, dNe_bool, dIs_none, dIsNot_none, dIs_bool, isNone_none, isNone_int, isNone_bool, isNone_tuple, isNone_list, dIdx_list, dIdx_tuple, atI_0, atI_1, atI_2, dLen_list, dLen_tuple, dInt_int, dAbs_int, dTuple_list, dTuple_tuple, dList_list, dList_tuple, dSum_ints, dSum_intsT, dAll_bools, dMin_2, dMax_2, isi_int_int, isi_int_bool, isi_int_none, isi_int_tuple, isi_int_list, isi_bool_int, isi_bool_bool, isi_tuple_tuple, isi_tuple_int, isi_tuple_none, isi_list_list, asSeq_list, asSeq_tuple, iEnum_list, iEnum_tuple, iZip_list, iZip_tuple, dCut_list, dCut_tuple, flat_none, flat_bool, flat_int, flat_str, flat_tuple, flat_list, flatL_ints, flatL_bools, isL_list, isL_int, isL_bool, isL_tuple, isL_none, mview_nil, mview_cons, mv1_f, mv1_n, mv1_t, freeze_nil, freeze_cons, fr1_f, fr1_n, fr1_t, List.set_cons_zero, List.set_cons_succ, List.map_cons, List.map_nil, List.length_cons, List.length_nil, List.replicate_succ, List.replicate_zero, List.cons_append, List.nil_append, List.getElem?_cons_zero, List.getElem?_cons_succ, List.mem_cons, List.not_mem_nil, or_false, false_or, or_true, true_or, if_true, if_false, Bool.false_eq_true, Bool.not_true, Bool.not_false, decide_true, decide_false, and_self, true_and, and_true, Bool.true_and, Bool.and_true, Bool.and_self, Bool.false_and, Bool.and_false, ↓reduceIte, reduceIte, Int.reduceLT, Int.reduceLE, Int.reduceNeg, Int.reduceAdd, Int.reduceSub, Int.reduceMul, Int.reduceToNat, Nat.reduceLT, Nat.reduceLeDiff, Nat.reduceEqDiff, Nat.reduceAdd, Nat.reduceSub, Nat.reduceMul, reduceCtorEq, Int.cast_ofNat_Int, Int.natCast_one, Int.natCast_zero, Int.reduceEq, vMeth_ap, kMeth_l, dRev_list, dCount_ints, kRem_ap, xSeq_rem, xSeq_ext, xExt_ap, kExt_ap, xSeq_pop, xPop_ap, popR_ok, xRem_ap, xSeq_try, xTryL_ap, kTry_nx, kTry_rt, kTry_exc, tryR_rt, tryR_nx, tryR_no, handL_cons, wipeS_nil, wipeS_cons, cv_s, cv_b, cv_i, b_subject_depth, h1, dt, c1, hL, h2, hr, c3]
  rfl
/-! who tells the year -/
theorem zip_filter (bs : List (Int × Int)) (q : Int × Int → Bool) : ((bs.zipIdx.filter fun p => q p.1).map fun p => PyData.int (p.2 : Nat)) = ((List.range bs.length).filter fun k => q (at2 bs k)).map natD := by
  have e : bs.zipIdx = (List.range bs.length).map fun k => (at2 bs k, k) := by
    apply List.ext_getElem?
    intro i
    rw [List.getElem?_map, List.getElem?_zipIdx]
    by_cases h : i < bs.length
    · rw [List.getElem?_range h, at2_get h]
      simp
    · rw [List.getElem?_eq_none (by omega), List.getElem?_eq_none (by simp; omega)]
      rfl
  rw [e, List.filter_map, List.map_map]
  rfl
theorem found_eq {bs : List (Int × Int)} (c : Bk bs) {y : Int} (h0 : 0 ≤ y) (h1 : y ≤ 60) : f_subject_found [bkD bs, .int y] = .ok (ordD ((List.range bs.length).filter fun k => tl (at2 bs k) y)) := by
  refine runFn_eq rfl ?_
  have n1 := need_eq c
  have fb := flat_bk bs
  have de := bk_enum bs
  have c1 : ∀ s0 s2 s3, compGo (compTurnD (.tup (.cons (.slot 2) (.cons (.slot 3) .nil))) [2, 3] (some (vTest (vCall f_tells [vVar 3, vVar 1]))) (vVar 2) [s0, some (.int y), s2, s3]) (enumD 0 (bs.map pr2)) = .ok (((List.range bs.length).filter fun k => tl (at2 bs k) y).map natD) := by
    intro s0 s2 s3
    rw [enumD_map, ← zip_filter bs fun p => tl p y]
    refine compGo_filter (enc := fun p : (Int × Int) × Nat => PyData.tuple [.int (p.2 : Nat), pr2 p.1]) fun p hp => ?_
    have := tells_eq p.1 y
    exact turn_if rfl (by simp only [startE_eq, kSet_ap, kSetG_ap, kIfS_ap, kIf0_ap, kRet_ap, kDrop_ap, kUnp_slot, kUnp2, kUnp3, kApp_ap, appR_ok, ownR_ok, augR_ok, kPar1_ap, kPar2_ap, kAug_ap, kForS_l, kForS_t, xSkip_ap, xSeq_skip, xSeq_seq, xSeq_set, xSeq_setG, xSeq_if, xSeq_ret, xSeq_retN, xSeq_raise, xSeq_drop, xSeq_brk, xSeq_cnt, xSeq_unp, xSeq_par, xSeq_app, xApp_ap, xSeq_aug, xAug_ap, xSeq_for, xSeq_forS, xSeq_forG, xFor_ap, xForS_ap, xForG_ap, xPar_ap, xSet_ap, xSetG_ap, xIf_ap, xRet_ap, xRetN_ap, xDrop_ap, xRaise_ap, xBreak_ap, xCont_ap, xUnp_ap, xSeq_put, xPut_ap, xSeq_putA, xPutA_ap, paK1_ap, paR1_ok, paX1_ok, paK2_ap, kPut1_ap, kPut2_ap, putR_ok, putJ_ok, kEv_ap, kEvG_ap, kEvL_ap, evS_ap, evG_ap, evL_ap, evA_t, evA_f, keepG_int, keepG_bool, keepG_none, keepG_tuple, keepG_list, flatL_nil, flatL_cons, vVar_ap, varR_ok, optR_ok, vC_ap, kB_ap, vBin_ap, vUn_ap, vTest_ap, kAnd_ap, kAnd2_ap, vAnd_ap, kOr_ap, kOr2_ap, vOr_ap, kNot_ap, kNot2_ap, vNot_ap, kIfE_ap, vIf_ap, kC3_ap, kC2_ap, kC1_ap, vChain_ap, kL_ap, kL2_ap, vL_nil, vL_cons, kTup_ap, kLst_ap, vTup_ap, vLst_ap, vCall_ap, kCut1_ap, kCut2_ap, kCut3_ap, vCut_ap, kPart_ap, vPart_none, vPart_some, kComp_ap, kCompO_ap, vComp_ap, wSeq_ap, wCall_ap, wipe_nil, wipe_cons, dMod_int, bindS_slot, bindS_tup, bindSs_nil, bindSs_slot, bindT_slot, bindT_tup, bindTs_nil, bindTs_slot, onR_ok, onR_exc, outR_rt, outR_nx, outR_exc, after_t, after_f, rb_ok, rb_exc, tr_bool, tr_none, tr_int, tr_list, tr_tuple, toB_bool, toI_int, dAdd_int, dSub_int, dNeg_int, dMul_l, dMul_r, dDiv_int, dLt_int, dLe_int, dGt_int, dGe_int, dEq_int, dNe_int, dEq_bool, dNe_bool, dIs_none, dIsNot_none, dIs_bool, isNone_none, isNone_int, isNone_bool, isNone_tuple, isNone_list, dIdx_list, dIdx_tuple, atI_0, atI_1, atI_2, dLen_list, dLen_tuple, dInt_int, dAbs_int, dTuple_list, dTuple_tuple, dList_list, dList_tuple, dSum_ints, dSum_intsT, dAll_bools, dMin_2, dMax_2, isi_int_int, isi_int_bool, isi_int_none, isi_int_tuple, isi_int_list, isi_bool_int, isi_bool_bool, isi_tuple_tuple, isi_tuple_int, isi_tuple_none, isi_list_list, asSeq_list, asSeq_tuple, iEnum_list, iEnum_tuple, iZip_list, iZip_tuple, dCut_list, dCut_tuple, flat_none, flat_bool, flat_int, flat_str, flat_tuple, flat_list, flatL_ints, flatL_bools, isL_list, isL_int, isL_bool, isL_tuple, isL_none, mview_nil, mview_cons, mv1_f, mv1_n, mv1_t, freeze_nil, freeze_cons, fr1_f, fr1_n, fr1_t, List.set_cons_zero, List.set_cons_succ, List.map_cons, List.map_nil, List.length_cons, List.length_nil, List.replicate_succ, List.replicate_zero, List.cons_append, List.nil_append, List.getElem?_cons_zero, List.getElem?_cons_succ, List.mem_cons, List.not_mem_nil, or_false, false_or, or_true, true_or, if_true, if_false, Bool.false_eq_true, Bool.not_true, Bool.not_false, decide_true, decide_false, and_self, true_and, and_true, Bool.true_and, Bool.and_true, Bool.and_self, Bool.false_and, Bool.and_false, ↓reduceIte, reduceIte, Int.reduceLT, Int.reduceLE, Int.reduceNeg, Int.reduceAdd, Int.reduceSub, Int.reduceMul, Int.reduceToNat, Nat.reduceLT, Nat.reduceLeDiff, Nat.reduceEqDiff, Nat.reduceAdd, Nat.reduceSub, Nat.reduceMul, reduceCtorEq, Int.cast_ofNat_Int, Int.natCast_one, Int.natCast_zero, Int.reduceEq, vMeth_ap, kMeth_l, dRev_list, dCount_ints, kRem_ap, xSeq_rem, xSeq_ext, xExt_ap, kExt_ap, xSeq_pop, xPop_ap, popR_ok, xRem_ap, xSeq_try, xTryL_ap, kTry_nx, kTry_rt, kTry_exc, tryR_rt, tryR_nx, tryR_no, handL_cons, wipeS_nil, wipeS_cons, cv_s, cv_b, cv_i, this]) fun _ => by simp only [startE_eq, kSet_ap, kSetG_ap, kIfS_ap, kIf0_ap, kRet_ap, kDrop_ap, kUnp_slot, kUnp2, kUnp3, kApp_ap, appR_ok, ownR_ok, augR_ok, kPar1_ap, kPar2_ap, kAug_ap, kForS_l, kForS_t, xSkip_ap, xSeq_skip, xSeq_seq, xSeq_set, xSeq_setG, xSeq_if, xSeq_ret, xSeq_retN, xSeq_raise, xSeq_drop, xSeq_brk, xSeq_cnt, xSeq_unp, xSeq_par, xSeq_app, xApp_ap, xSeq_aug, xAug_ap, xSeq_for, xSeq_forS, xSeq_forG, xFor_ap, xForS_ap, xForG_ap, xPar_ap, xSet_ap, xSetG_ap, xIf_ap, xRet_ap, xRetN_ap, xDrop_ap, xRaise_ap, xBreak_ap, xCont_ap, xUnp_ap, xSeq_put, xPut_ap, xSeq_putA, xPutA_ap, paK1_ap, paR1_ok, paX1_ok, paK2_ap, kPut1_ap, kPut2_ap, putR_ok, putJ_ok, kEv_ap, kEvG_ap, kEvL_ap, evS_ap, evG_ap, evL_ap, evA_t, evA_f, keepG_int, keepG_bool, keepG_none, keepG_tuple, keepG_list, flatL_nil, flatL_cons, vVar_ap, varR_ok, optR_ok, vC_ap, kB_ap, vBin_ap, vUn_ap, vTest_ap, kAnd_ap, kAnd2_ap, vAnd_ap, kOr_ap, kOr2_ap, vOr_ap, kNot_ap, kNot2_ap, vNot_ap, kIfE_ap, vIf_ap, kC3_ap, kC2_ap, kC1_ap, vChain_ap, kL_ap, kL2_ap, vL_nil, vL_cons, kTup_ap, kLst_ap, vTup_ap, vLst_ap, vCall_ap, kCut1_ap, kCut2_ap, kCut3_ap, vCut_ap, kPart_ap, vPart_none, vPart_some, kComp_ap, kCompO_ap, vComp_ap, wSeq_ap, wCall_ap, wipe_nil, wipe_cons, dMod_int, bindS_slot, bindS_tup, bindSs_nil, bindSs_slot, bindT_slot, bindT_tup, bindTs_nil, bindTs_slot, onR_ok, onR_exc, outR_rt, outR_nx, outR_exc, after_t, after_f, rb_ok, rb_exc, tr_bool, tr_none, tr_int, tr_list, tr_tuple, toB_bool, toI_int, dAdd_int, dSub_int, dNeg_int, dMul_l, dMul_r, dDiv_int, dLt_int, dLe_int, dGt_int, dGe_int, dEq_int, dNe_int, dEq_bool, dNe_bool, dIs_none, dIsNot_none, dIs_bool, isNone_none, isNone_int, isNone_bool, isNone_tuple, isNone_list, dIdx_list, dIdx_tuple, atI_0, atI_1, atI_2, dLen_list, dLen_tuple, dInt_int, dAbs_int, dTuple_list, dTuple_tuple, dList_list, dList_tuple, dSum_ints, dSum_intsT, dAll_bools, dMin_2, dMax_2, isi_int_int, isi_int_bool, isi_int_none, isi_int_tuple, isi_int_list, isi_bool_int, isi_bool_bool, isi_tuple_tuple, isi_tuple_int, isi_tuple_none, isi_list_list, asSeq_list, asSeq_tuple, iEnum_list, iEnum_tuple, iZip_list, iZip_tuple, dCut_list, dCut_tuple, flat_none, flat_bool, flat_int, flat_str, flat_tuple, flat_list, flatL_ints, flatL_bools, isL_list, isL_int, isL_bool, isL_tuple, isL_none, mview_nil, mview_cons, mv1_f, mv1_n, mv1_t, freeze_nil, freeze_cons, fr1_f, fr1_n, fr1_t, List.set_cons_zero, List.set_cons_succ, List.map_cons, List.map_nil, List.length_cons, List.length_nil, List.replicate_succ, List.replicate_zero, List.cons_append, List.nil_append, List.getElem?_cons_zero, List.getElem?_cons_succ, List.mem_cons, List.not_mem_nil, or_false, false_or, or_true, true_or, if_true, if_false, Bool.false_eq_true, Bool.not_true, Bool.not_false, decide_true, decide_false, and_self, true_and, and_true, Bool.true_and, Bool.and_true, Bool.and_self, Bool.false_and, Bool.and_false, ↓reduceIte, reduceIte, Int.reduceLT, Int.reduceLE, Int.reduceNeg, Int.reduceAdd, Int.reduceSub, Int.reduceMul, Int.reduceToNat, Nat.reduceLT, Nat.reduceLeDiff, Nat.reduceEqDiff, Nat.reduceAdd, Nat.reduceSub, Nat.reduceMul, reduceCtorEq, Int.cast_ofNat_Int, Int.natCast_one, Int.natCast_zero, Int.reduceEq, vMeth_ap, kMeth_l, dRev_list, dCount_ints, kRem_ap, xSeq_rem, xSeq_ext, xExt_ap, kExt_ap, xSeq_pop, xPop_ap, popR_ok, xRem_ap, xSeq_try, xTryL_ap, kTry_nx, kTry_rt, kTry_exc, tryR_rt, tryR_nx, tryR_no, handL_cons, wipeS_nil, wipeS_cons, cv_s, cv_b, cv_i]
  simp only [startE_eq, kSet_ap, kSetG_ap, kIfS_ap, kIf0_ap, kRet_ap, kDrop_ap, kUnp_slot, kUnp2, kUnp3, kApp_ap, appR_ok, ownR_ok, augR_ok, kPar1_ap, kPar2_ap, kAug_ap, kForS_l, kForS_t, xSkip_ap, xSeq_skip, xSeq_seq, xSeq_set, xSeq_setG, xSeq_if, xSeq_ret, xSeq_retN, xSeq_raise, xSeq_drop, xSeq_brk, xSeq_cnt, xSeq_unp, xSeq_par, xSeq_app, xApp_ap, xSeq_aug, xAug_ap, xSeq_for, xSeq_forS, xSeq_forG, xFor_ap, xForS_ap, xForG_ap, xPar_ap, xSet_ap, xSetG_ap, xIf_ap, xRet_ap, xRetN_ap, xDrop_ap, xRaise_ap, xBreak_ap, xCont_ap, xUnp_ap, xSeq_put, xPut_ap, xSeq_putA, xPutA_ap, paK1_ap, paR1_ok, paX1_ok, paK2_ap, kPut1_ap, kPut2_ap, putR_ok, putJ_ok, kEv_ap, kEvG_ap, kEvL_ap, evS_ap, evG_ap, evL_ap, evA_t, evA_f, keepG_int, keepG_bool, keepG_none, keepG_tuple, keepG_list, flatL_nil, flatL_cons, vVar_ap, varR_ok, optR_ok, vC_ap, kB_ap, vBin_ap, vUn_ap, vTest_ap, kAnd_ap, kAnd2_ap, vAnd_ap, kOr_ap, kOr2_ap, vOr_ap, kNot_ap, kNot2_ap, vNot_ap, kIfE_ap, vIf_ap, kC3_ap, kC2_ap, kC1_ap, vChain_ap, kL_ap, kL2_ap, vL_nil, vL_cons, kTup_ap, kLst_ap, vTup_ap, vLst_ap, vCall_ap, kCut1_ap, kCut2_ap, kCut3_ap, vCut_ap, kPart_ap, vPart_none, vPart_some, kComp_ap, kCompO_ap, vComp_ap, wSeq_ap, wCall_ap, wipe_nil, wipe_cons, dMod_int, bindS_slot, bindS_tup, bindSs_nil, bindSs_slot, bindT_slot, bindT_tup, bindTs_nil, bindTs_slot, onR_ok, onR_exc, outR_rt, outR_nx, outR_exc, after_t, after_f, rb_ok, rb_exc, tr_bool, tr_none, tr_int, tr_list, tr_tuple, toB_bool, toI_int, dAdd_int, dSub_int, dNeg_int, dMul_l, dMul_r, dDiv_int, dLt_int, dLe_int, dGt_int, dGe_int, dEq_int, dNe_int, dEq_bool, dNe_bool, dIs_none, dIsNot_none, dIs_bool, isNone_none, isNone_int, isNone_bool, isNone_tuple, isNone_list, dIdx_list, dIdx_tuple, atI_0, atI_1, atI_2, dLen_list, dLen_tuple, dInt_int, dAbs_int, dTuple_list, dTuple_tuple, dList_list, dList_tuple, dSum_ints, dSum_intsT, dAll_bools, dMin_2, dMax_2, isi_int_int, isi_int_bool, isi_int_none, isi_int_tuple, isi_int_list, isi_bool_int, isi_bool_bool, isi_tuple_tuple, isi_tuple_int, isi_tuple_none, isi_list_list, asSeq_list, asSeq_tuple, iEnum_list, iEnum_tuple, iZip_list, iZip_tuple, dCut_list, dCut_tuple, flat_none, flat_bool, flat_int, flat_str, flat_tuple, flat_list, flatL_ints, flatL_bools, isL_list, isL_int, isL_bool, isL_tuple, isL_none, mview_nil, mview_cons, mv1_f, mv1_n, mv1_t, freeze_nil, freeze_cons, fr1_f, fr1_n, fr1_t, List.set_cons_zero, List.set_cons_succ, List.map_cons, List.map_nil, List.length_cons, List.length_nil, List.replicate_succ, List.replicate_zero, List.cons_append, List.nil_append, List.getElem?_cons_zero, List.getElem?_cons_succ, List.mem_cons, List.not_mem_nil, or_false, false_or, or_true, true_or, if_true, if_false, Bool.false_eq_true, Bool.not_true, Bool.not_false, decide_true, decide_false, and_self, true_and, and_true, Bool.true_and, Bool.and_true, Bool.and_self, Bool.false_and, Bool.and_false, ↓reduceIte, reduceIte, Int.reduceLT, Int.reduceLE, Int.reduceNeg, Int.reduceAdd, Int.reduceSub, Int.reduceMul, Int.reduceToNat, Nat.reduceLT, Nat.reduceLeDiff, Nat.reduceEqDiff, Nat.reduceAdd, Nat.reduceSub, Nat.reduceMul, reduceCtorEq, Int.cast_ofNat_Int, Int.natCast_one, Int.natCast_zero, Int.reduceEq, vMeth_ap, kMeth_l, dRev_list, dCount_ints, kRem_ap, xSeq_rem, xSeq_ext, xExt_ap, kExt_ap, xSeq_pop, xPop_ap, popR_ok, xRem_ap, xSeq_try, xTryL_ap, kTry_nx, kTry_rt, kTry_exc, tryR_rt, tryR_nx, tryR_no, handL_cons, wipeS_nil, wipeS_cons, cv_s, cv_b, cv_i, b_subject_found, n1, between_eq, h0, h1, de, c1]
  rfl
theorem refused_eq {bs : List (Int × Int)} (c : Bk bs) {d : D} (hd : f_is_between [d, .int 0, .int 60] = .ok (.bool false)) (hl : isL d = false) (hn : isNone d = isNone d) : f__law_refused [bkD bs, d] = .ok (.bool true) := by
  have n1 := need_eq c
  have fb := flat_bk bs
  obtain ⟨b, hb⟩ : ∃ b, flat d = b := ⟨_, rfl⟩
  have h1 : f_subject_found [bkD bs, d] = .exc 2 := by
    refine runFn_eq rfl ?_
    simp only [startE_eq, kSet_ap, kSetG_ap, kIfS_ap, kIf0_ap, kRet_ap, kDrop_ap, kUnp_slot, kUnp2, kUnp3, kApp_ap, appR_ok, ownR_ok, augR_ok, kPar1_ap, kPar2_ap, kAug_ap, kForS_l, kForS_t, xSkip_ap, xSeq_skip, xSeq_seq, xSeq_set, xSeq_setG, xSeq_if, xSeq_ret, xSeq_retN, xSeq_raise, xSeq_drop, xSeq_brk, xSeq_cnt, xSeq_unp, xSeq_par, xSeq_app, xApp_ap, xSeq_aug, xAug_ap, xSeq_for, xSeq_forS, xSeq_forG, xFor_ap, xForS_ap, xForG_ap, xPar_ap, xSet_ap, xSetG_ap, xIf_ap, xRet_ap, xRetN_ap, xDrop_ap, xRaise_ap, xBreak_ap, xCont_ap, xUnp_ap, xSeq_put, xPut_ap, xSeq_putA, xPutA_ap, paK1_ap, paR1_ok, paX1_ok, paK2_ap, kPut1_ap, kPut2_ap, putR_ok, putJ_ok, kEv_ap, kEvG_ap, kEvL_ap, evS_ap, evG_ap, evL_ap, evA_t, evA_f, keepG_int, keepG_bool, keepG_none, keepG_tuple, keepG_list, flatL_nil, flatL_cons, vVar_ap, varR_ok, optR_ok, vC_ap, kB_ap, vBin_ap, vUn_ap, vTest_ap, kAnd_ap, kAnd2_ap, vAnd_ap, kOr_ap, kOr2_ap, vOr_ap, kNot_ap, kNot2_ap, vNot_ap, kIfE_ap, vIf_ap, kC3_ap, kC2_ap, kC1_ap, vChain_ap, kL_ap, kL2_ap, vL_nil, vL_cons, kTup_ap, kLst_ap, vTup_ap, vLst_ap, vCall_ap, kCut1_ap, kCut2_ap, kCut3_ap, vCut_ap, kPart_ap, vPart_none, vPart_some, kComp_ap, kCompO_ap, vComp_ap, wSeq_ap, wCall_ap, wipe_nil, wipe_cons, dMod_int, bindS_slot, bindS_tup, bindSs_nil, bindSs_slot, bindT_slot, bindT_tup, bindTs_nil, bindTs_slot, onR_ok, onR_exc, outR_rt, outR_nx, outR_exc, after_t, after_f, rb_ok, rb_exc, tr_bool, tr_none, tr_int, tr_list, tr_tuple, toB_bool, toI_int, dAdd_int, dSub_int, dNeg_int, dMul_l, dMul_r, dDiv_int, dLt_int, dLe_int, dGt_int, dGe_int, dEq_int, dNe_int, dEq_bool, dNe_bool, dIs_none, dIsNot_none, dIs_bool, isNone_none, isNone_int, isNone_bool, isNone_tuple, isNone_list, dIdx_list, dIdx_tuple, atI_0, atI_1, atI_2, dLen_list, dLen_tuple, dInt_int, dAbs_int, dTuple_list, dTuple_tuple, dList_list, dList_tuple, dSum_ints, dSum_intsT, dAll_bools, dMin_2, dMax_2, isi_int_int, isi_int_bool, isi_int_none, isi_int_tuple, isi_int_list, isi_bool_int, isi_bool_bool, isi_tuple_tuple, isi_tuple_int, isi_tuple_none, isi_list_list, asSeq_list, asSeq_tuple, iEnum_list, iEnum_tuple, iZip_list, iZip_tuple, dCut_list, dCut_tuple, flat_none, flat_bool, flat_int, flat_str, flat_tuple, flat_list, flatL_ints, flatL_bools, isL_list, isL_int, isL_bool, isL_tuple, isL_none, mview_nil, mview_cons, mv1_f, mv1_n, mv1_t, freeze_nil, freeze_cons, fr1_f, fr1_n, fr1_t, List.set_cons_zero, List.set_cons_succ, List.map_cons, List.map_nil, List.length_cons, List.length_nil, List.replicate_succ, List.replicate_zero, List.cons_append, List.nil_append, List.getElem?_cons_zero, List.getElem?_cons_succ, List.mem_cons, List.not_mem_nil, or_false, false_or, or_true, true_or, if_true, if_false, Bool.false_eq_true, Bool.not_true, Bool.not_false, decide_true, decide_false, and_self, true_and, and_true, Bool.true_and, Bool.and_true, Bool.and_self, Bool.false_and, Bool.and_false, ↓reduceIte, reduceIte, Int.reduceLT, Int.reduceLE, Int.reduceNeg, Int.reduceAdd, Int.reduceSub, Int.reduceMul, Int.reduceToNat, Nat.reduceLT, Nat.reduceLeDiff, Nat.reduceEqDiff, Nat.reduceAdd, Nat.reduceSub, Nat.reduceMul, reduceCtorEq, Int.cast_ofNat_Int, Int.natCast_one, Int.natCast_zero, Int.reduceEq, vMeth_ap, kMeth_l, dRev_list, dCount_ints, kRem_ap, xSeq_rem, xSeq_ext, xExt_ap, kExt_ap, xSeq_pop, xPop_ap, popR_ok, xRem_ap, xSeq_try, xTryL_ap, kTry_nx, kTry_rt, kTry_exc, tryR_rt, tryR_nx, tryR_no, handL_cons, wipeS_nil, wipeS_cons, cv_s, cv_b, cv_i, b_subject_found, n1, hd]
  refine runFn_eq rfl ?_
  simp only [startE_eq, kSet_ap, kSetG_ap, kIfS_ap, kIf0_ap, kRet_ap, kDrop_ap, kUnp_slot, kUnp2, kUnp3, kApp_ap, appR_ok, ownR_ok, augR_ok, kPar1_ap, kPar2_ap, kAug_ap, kForS_l, kForS_t, xSkip_ap, xSeq_skip, xSeq_seq, xSeq_set, xSeq_setG, xSeq_if, xSeq_ret, xSeq_retN, xSeq_raise, xSeq_drop, xSeq_brk, xSeq_cnt, xSeq_unp, xSeq_par, xSeq_app, xApp_ap, xSeq_aug, xAug_ap, xSeq_for, xSeq_forS, xSeq_forG, xFor_ap, xForS_ap, xForG_ap, xPar_ap, xSet_ap, xSetG_ap, xIf_ap, xRet_ap, xRetN_ap, xDrop_ap, xRaise_ap, xBreak_ap, xCont_ap, xUnp_ap, xSeq_put, xPut_ap, xSeq_putA, xPutA_ap, paK1_ap, paR1_ok, paX1_ok, paK2_ap, kPut1_ap, kPut2_ap, putR_ok, putJ_ok, kEv_ap, kEvG_ap, kEvL_ap, evS_ap, evG_ap, evL_ap, evA_t, evA_f, keepG_int, keepG_bool, keepG_none, keepG_tuple, keepG_list, flatL_nil, flatL_cons, vVar_ap, varR_ok, optR_ok, vC_ap, kB_ap, vBin_ap, vUn_ap, vTest_ap, kAnd_ap, kAnd2_ap, vAnd_ap, kOr_ap, kOr2_ap, vOr_ap, kNot_ap, kNot2_ap, vNot_ap, kIfE_ap, vIf_ap, kC3_ap, kC2_ap, kC1_ap, vChain_ap, kL_ap, kL2_ap, vL_nil, vL_cons, kTup_ap, kLst_ap, vTup_ap, vLst_ap, vCall_ap, kCut1_ap, kCut2_ap, kCut3_ap, vCut_ap, kPart_ap, vPart_none, vPart_some, kComp_ap, kCompO_ap, vComp_ap, wSeq_ap, wCall_ap, wipe_nil, wipe_cons, dMod_int, bindS_slot, bindS_tup, bindSs_nil, bindSs_slot, bindT_slot, bindT_tup, bindTs_nil, bindTs_slot, onR_ok, onR_exc, outR_rt, outR_nx, outR_exc, after_t, after_f, rb_ok, rb_exc, tr_bool, tr_none, tr_int, tr_list, tr_tuple, toB_bool, toI_int, dAdd_int, dSub_int, dNeg_int, dMul_l, dMul_r, dDiv_int, dLt_int, dLe_int, dGt_int, dGe_int, dEq_int, dNe_int, dEq_bool, dNe_bool, dIs_none, dIsNot_none, dIs_bool, isNone_none, isNone_int, isNone_bool, isNone_tuple, isNone_list, dIdx_list, dIdx_tuple, atI_0, atI_1, atI_2, dLen_list, dLen_tuple, dInt_int, dAbs_int, dTuple_list, dTuple_tuple, dList_list, dList_tuple, dSum_ints, dSum_intsT, dAll_bools, dMin_2, dMax_2, isi_int_int, isi_int_bool, isi_int_none, isi_int_tuple, isi_int_list, isi_bool_int, isi_bool_bool, isi_tuple_tuple, isi_tuple_int, isi_tuple_none, isi_list_list, asSeq_list, asSeq_tuple, iEnum_list, iEnum_tuple, iZip_list, iZip_tuple, dCut_list, dCut_tuple, flat_none, flat_bool, flat_int, flat_str, flat_tuple, flat_list, flatL_ints, flatL_bools, isL_list, isL_int, isL_bool, isL_tuple, isL_none, mview_nil, mview_cons, mv1_f, mv1_n, mv1_t, freeze_nil, freeze_cons, fr1_f, fr1_n, fr1_t, List.set_cons_zero, List.set_cons_succ, List.map_cons, List.map_nil, List.length_cons, List.length_nil, List.replicate_succ, List.replicate_zero, List.cons_append, List.nil_append, List.getElem?_cons_zero, List.getElem?_cons_succ, List.mem_cons, List.not_mem_nil, or_false, false_or, or_true, true_or, if_true, if_false, Bool.false_eq_true, Bool.not_true, Bool.not_false, decide_true, decide_false, and_self, true_and, and_true, Bool.true_and, Bool.and_true, Bool.and_self, Bool.false_and, Bool.and_false, ↓reduceIte, reduceIte, Int.reduceLT, Int.reduceLE, Int.reduceNeg, Int.reduceAdd, Int.reduceSub, Int.reduceMul, Int.reduceToNat, Nat.reduceLT, Nat.reduceLeDiff, Nat.reduceEqDiff, Nat.reduceAdd, Nat.reduceSub, Nat.reduceMul, reduceCtorEq, Int.cast_ofNat_Int, Int.natCast_one, Int.natCast_zero, Int.reduceEq, vMeth_ap, kMeth_l, dRev_list, dCount_ints, kRem_ap, xSeq_rem, xSeq_ext, xExt_ap, kExt_ap, xSeq_pop, xPop_ap, popR_ok, xRem_ap, xSeq_try, xTryL_ap, kTry_nx, kTry_rt, kTry_exc, tryR_rt, tryR_nx, tryR_no, handL_cons, wipeS_nil, wipeS_cons, cv_s, cv_b, cv_i, b__law_refused, h1]
  try rfl
/-! spare ones -/
def covB (bs : List (Int × Int)) (lot : List Nat) (p : Int × Int) : Bool := ((List.range (p.2 - p.1).toNat).map fun i : Nat => (lot.map fun j => tl (at2 bs j) (p.1 + (i : Int))).any id).all id
theorem covered_eq {bs : List (Int × Int)} {lot : List Nat} {p : Int × Int} (hp : 0 ≤ p.1 ∧ p.1 < p.2 ∧ p.2 ≤ 60) (hl : ∀ j ∈ lot, j < bs.length) {d : D} (hd : asSeq d = .ok (lot.map natD)) : f_covered_by [bkD bs, d, pr2 p] = .ok (.bool (covB bs lot p)) := by
  refine runFn_eq rfl ?_
  have hr : iRange [.int p.1, .int p.2] = .ok (rangeD p.1 (p.2 - p.1).toNat) := iRange_2 (by omega) (by omega)
  have c1 : ∀ s1 s2 s3 (y : Int), compGo (compTurnD (.slot 3) [3] none (vCall f_tells [vBin dIdx (vVar 0) (vVar 3), vVar 4]) [some (bkD bs), s1, s2, s3, some (.int y)]) (lot.map natD) = .ok ((lot.map fun j => tl (at2 bs j) y).map .bool) := by
    intro s1 s2 s3 y
    rw [List.map_map]
    refine compGo_map fun j hj => turn_all rfl ?_
    have h1 := bk_at2 (hl j hj)
    have h2 := tells_eq (at2 bs j) y
    simp only [startE_eq, kSet_ap, kSetG_ap, kIfS_ap, kIf0_ap, kRet_ap, kDrop_ap, kUnp_slot, kUnp2, kUnp3, kApp_ap, appR_ok, ownR_ok, augR_ok, kPar1_ap, kPar2_ap, kAug_ap, kForS_l, kForS_t, xSkip_ap, xSeq_skip, xSeq_seq, xSeq_set, xSeq_setG, xSeq_if, xSeq_ret, xSeq_retN, xSeq_raise, xSeq_drop, xSeq_brk, xSeq_cnt, xSeq_unp, xSeq_par, xSeq_app, xApp_ap, xSeq_aug, xAug_ap, xSeq_for, xSeq_forS, xSeq_forG, xFor_ap, xForS_ap, xForG_ap, xPar_ap, xSet_ap, xSetG_ap, xIf_ap, xRet_ap, xRetN_ap, xDrop_ap, xRaise_ap, xBreak_ap, xCont_ap, xUnp_ap, xSeq_put, xPut_ap, xSeq_putA, xPutA_ap, paK1_ap, paR1_ok, paX1_ok, paK2_ap, kPut1_ap, kPut2_ap, putR_ok, putJ_ok, kEv_ap, kEvG_ap, kEvL_ap, evS_ap, evG_ap, evL_ap, evA_t, evA_f, keepG_int, keepG_bool, keepG_none, keepG_tuple, keepG_list, flatL_nil, flatL_cons, vVar_ap, varR_ok, optR_ok, vC_ap, kB_ap, vBin_ap, vUn_ap, vTest_ap, kAnd_ap, kAnd2_ap, vAnd_ap, kOr_ap, kOr2_ap, vOr_ap, kNot_ap, kNot2_ap, vNot_ap, kIfE_ap, vIf_ap, kC3_ap, kC2_ap, kC1_ap, vChain_ap, kL_ap, kL2_ap, vL_nil, vL_cons, kTup_ap, kLst_ap, vTup_ap, vLst_ap, vCall_ap, kCut1_ap, kCut2_ap, kCut3_ap, vCut_ap, kPart_ap, vPart_none, vPart_some, kComp_ap, kCompO_ap, vComp_ap, wSeq_ap, wCall_ap, wipe_nil, wipe_cons, dMod_int, bindS_slot, bindS_tup, bindSs_nil, bindSs_slot, bindT_slot, bindT_tup, bindTs_nil, bindTs_slot, onR_ok, onR_exc, outR_rt, outR_nx, outR_exc, after_t, after_f, rb_ok, rb_exc, tr_bool, tr_none, tr_int, tr_list, tr_tuple, toB_bool, toI_int, dAdd_int, dSub_int, dNeg_int, dMul_l, dMul_r, dDiv_int, dLt_int, dLe_int, dGt_int, dGe_int, dEq_int, dNe_int, dEq_bool, dNe_bool, dIs_none, dIsNot_none, dIs_bool, isNone_none, isNone_int, isNone_bool, isNone_tuple, isNone_list, dIdx_list, dIdx_tuple, atI_0, atI_1, atI_2, dLen_list, dLen_tuple, dInt_int, dAbs_int, dTuple_list, dTuple_tuple, dList_list, dList_tuple, dSum_ints, dSum_intsT, dAll_bools, dMin_2, dMax_2, isi_int_int, isi_int_bool, isi_int_none, isi_int_tuple, isi_int_list, isi_bool_int, isi_bool_bool, isi_tuple_tuple, isi_tuple_int, isi_tuple_none, isi_list_list, asSeq_list, asSeq_tuple, iEnum_list, iEnum_tuple, iZip_list, iZip_tuple, dCut_list, dCut_tuple, flat_none, flat_bool, flat_int, flat_str, flat_tuple, flat_list, flatL_ints, flatL_bools, isL_list, isL_int, isL_bool, isL_tuple, isL_none, mview_nil, mview_cons, mv1_f, mv1_n, mv1_t, freeze_nil, freeze_cons, fr1_f, fr1_n, fr1_t, List.set_cons_zero, List.set_cons_succ, List.map_cons, List.map_nil, List.length_cons, List.length_nil, List.replicate_succ, List.replicate_zero, List.cons_append, List.nil_append, List.getElem?_cons_zero, List.getElem?_cons_succ, List.mem_cons, List.not_mem_nil, or_false, false_or, or_true, true_or, if_true, if_false, Bool.false_eq_true, Bool.not_true, Bool.not_false, decide_true, decide_false, and_self, true_and, and_true, Bool.true_and, Bool.and_true, Bool.and_self, Bool.false_and, Bool.and_false, ↓reduceIte, reduceIte, Int.reduceLT, Int.reduceLE, Int.reduceNeg, Int.reduceAdd, Int.reduceSub, Int.reduceMul, Int.reduceToNat, Nat.reduceLT, Nat.reduceLeDiff, Nat.reduceEqDiff, Nat.reduceAdd, Nat.reduceSub, Nat.reduceMul, reduceCtorEq, Int.cast_ofNat_Int, Int.natCast_one, Int.natCast_zero, Int.reduceEq, vMeth_ap, kMeth_l, dRev_list, dCount_ints, kRem_ap, xSeq_rem, xSeq_ext, xExt_ap, kExt_ap, xSeq_pop, xPop_ap, popR_ok, xRem_ap, xSeq_try, xTryL_ap, kTry_nx, kTry_rt, kTry_exc, tryR_rt, tryR_nx, tryR_no, handL_cons, wipeS_nil, wipeS_cons, cv_s, cv_b, cv_i, natD, h1, h2]
    rfl
  have c2 : ∀ s2 s3 s4, compGo (compTurnD (.slot 4) [4] none (vCall dAny [vComp (wSeq (vVar 1)) (.slot 3) [3] none (vCall f_tells [vBin dIdx (vVar 0) (vVar 3), vVar 4])]) [some (bkD bs), some d, s2, s3, s4]) (rangeD p.1 (p.2 - p.1).toNat) = .ok (((List.range (p.2 - p.1).toNat).map fun i : Nat => (lot.map fun j => tl (at2 bs j) (p.1 + (i : Int))).any id).map .bool) := by
    intro s2 s3 s4
    rw [List.map_map]
    refine SH.comp_range fun i hi => ⟨_, rfl, ?_⟩
    simp only [startE_eq, kSet_ap, kSetG_ap, kIfS_ap, kIf0_ap, kRet_ap, kDrop_ap, kUnp_slot, kUnp2, kUnp3, kApp_ap, appR_ok, ownR_ok, augR_ok, kPar1_ap, kPar2_ap, kAug_ap, kForS_l, kForS_t, xSkip_ap, xSeq_skip, xSeq_seq, xSeq_set, xSeq_setG, xSeq_if, xSeq_ret, xSeq_retN, xSeq_raise, xSeq_drop, xSeq_brk, xSeq_cnt, xSeq_unp, xSeq_par, xSeq_app, xApp_ap, xSeq_aug, xAug_ap, xSeq_for, xSeq_forS, xSeq_forG, xFor_ap, xForS_ap, xForG_ap, xPar_ap, xSet_ap, xSetG_ap, xIf_ap, xRet_ap, xRetN_ap, xDrop_ap, xRaise_ap, xBreak_ap, xCont_ap, xUnp_ap, xSeq_put, xPut_ap, xSeq_putA, xPutA_ap, paK1_ap, paR1_ok, paX1_ok, paK2_ap, kPut1_ap, kPut2_ap, putR_ok, putJ_ok, kEv_ap, kEvG_ap, kEvL_ap, evS_ap, evG_ap, evL_ap, evA_t, evA_f, keepG_int, keepG_bool, keepG_none, keepG_tuple, keepG_list, flatL_nil, flatL_cons, vVar_ap, varR_ok, optR_ok, vC_ap, kB_ap, vBin_ap, vUn_ap, vTest_ap, kAnd_ap, kAnd2_ap, vAnd_ap, kOr_ap, kOr2_ap, vOr_ap, kNot_ap, kNot2_ap, vNot_ap, kIfE_ap, vIf_ap, kC3_ap, kC2_ap, kC1_ap, vChain_ap, kL_ap, kL2_ap, vL_nil, vL_cons, kTup_ap, kLst_ap, vTup_ap, vLst_ap, vCall_ap, kCut1_ap, kCut2_ap, kCut3_ap, vCut_ap, kPart_ap, vPart_none, vPart_some, kComp_ap, kCompO_ap, vComp_ap, wSeq_ap, wCall_ap, wipe_nil, wipe_cons, dMod_int, bindS_slot, bindS_tup, bindSs_nil, bindSs_slot, bindT_slot, bindT_tup, bindTs_nil, bindTs_slot, onR_ok, onR_exc, outR_rt, outR_nx, outR_exc, after_t, after_f, rb_ok, rb_exc, tr_bool, tr_none, tr_int, tr_list, tr_tuple, toB_bool, toI_int, dAdd_int, dSub_int, dNeg_int, dMul_l, dMul_r, dDiv_int, dLt_int, dLe_int, dGt_int, dGe_int, dEq_int, dNe_int, dEq_bool, dNe_bool, dIs_none, dIsNot_none, dIs_bool, isNone_none, isNone_int, isNone_bool, isNone_tuple, isNone_list, dIdx_list, dIdx_tuple, atI_0, atI_1, atI_2, dLen_list, dLen_tuple, dInt_int, dAbs_int, dTuple_list, dTuple_tuple, dList_list, dList_tuple, dSum_ints, dSum_intsT, dAll_bools, dMin_2, dMax_2, isi_int_int, isi_int_bool, isi_int_none, isi_int_tuple, isi_int_list, isi_bool_int, isi_bool_bool, isi_tuple_tuple, isi_tuple_int, isi_tuple_none, isi_list_list, asSeq_list, asSeq_tuple, iEnum_list, iEnum_tuple, iZip_list, iZip_tuple, dCut_list, dCut_tuple, flat_none, flat_bool, flat_int, flat_str, flat_tuple, flat_list, flatL_ints, flatL_bools, isL_list, isL_int, isL_bool, isL_tuple, isL_none, mview_nil, mview_cons, mv1_f, mv1_n, mv1_t, freeze_nil, freeze_cons, fr1_f, fr1_n, fr1_t, List.set_cons_zero, List.set_cons_succ, List.map_cons, List.map_nil, List.length_cons, List.length_nil, List.replicate_succ, List.replicate_zero, List.cons_append, List.nil_append, List.getElem?_cons_zero, List.getElem?_cons_succ, List.mem_cons, List.not_mem_nil, or_false, false_or, or_true, true_or, if_true, if_false, Bool.false_eq_true, Bool.not_true, Bool.not_false, decide_true, decide_false, and_self, true_and, and_true, Bool.true_and, Bool.and_true, Bool.and_self, Bool.false_and, Bool.and_false, ↓reduceIte, reduceIte, Int.reduceLT, Int.reduceLE, Int.reduceNeg, Int.reduceAdd, Int.reduceSub, Int.reduceMul, Int.reduceToNat, Nat.reduceLT, Nat.reduceLeDiff, Nat.reduceEqDiff, Nat.reduceAdd, Nat.reduceSub, Nat.reduceMul, reduceCtorEq, Int.cast_ofNat_Int, Int.natCast_one, Int.natCast_zero, Int.reduceEq, vMeth_ap, kMeth_l, dRev_list, dCount_ints, kRem_ap, xSeq_rem, xSeq_ext, xExt_ap, kExt_ap, xSeq_pop, xPop_ap, popR_ok, xRem_ap, xSeq_try, xTryL_ap, kTry_nx, kTry_rt, kTry_exc, tryR_rt, tryR_nx, tryR_no, handL_cons, wipeS_nil, wipeS_cons, cv_s, cv_b, cv_i, hd, c1, dAny_bools]
    rfl
  obtain ⟨b, hb⟩ : ∃ b, flat d = b := ⟨_, rfl⟩
  cases b <;> (simp only [startE_eq, kSet_ap, kSetG_ap, kIfS_ap, kIf0_ap, kRet_ap, kDrop_ap, kUnp_slot, kUnp2, kUnp3, kApp_ap, appR_ok, ownR_ok, augR_ok, kPar1_ap, kPar2_ap, kAug_ap, kForS_l, kForS_t, xSkip_ap, xSeq_skip, xSeq_seq, xSeq_set, xSeq_setG, xSeq_if, xSeq_ret, xSeq_retN, xSeq_raise, xSeq_drop, xSeq_brk, xSeq_cnt, xSeq_unp, xSeq_par, xSeq_app, xApp_ap, xSeq_aug, xAug_ap, xSeq_for, xSeq_forS, xSeq_forG, xFor_ap, xForS_ap, xForG_ap, xPar_ap, xSet_ap, xSetG_ap, xIf_ap, xRet_ap, xRetN_ap, xDrop_ap, xRaise_ap, xBreak_ap, xCont_ap, xUnp_ap, xSeq_put, xPut_ap, xSeq_putA, xPutA_ap, paK1_ap, paR1_ok, paX1_ok, paK2_ap, kPut1_ap, kPut2_ap, putR_ok, putJ_ok, kEv_ap, kEvG_ap, kEvL_ap, evS_ap, evG_ap, evL_ap, evA_t, evA_f, keepG_int, keepG_bool, keepG_none, keepG_tuple, keepG_list, flatL_nil, flatL_cons, vVar_ap, varR_ok, optR_ok, vC_ap, kB_ap, vBin_ap, vUn_ap, vTest_ap, kAnd_ap, kAnd2_ap, vAnd_ap, kOr_ap, kOr2_ap, vOr_ap, kNot_ap, kNot2_ap, vNot_ap, kIfE_ap, vIf_ap, kC3_ap, kC2_ap, kC1_ap, vChain_ap, kL_ap, kL2_ap, vL_nil, vL_cons, kTup_ap, kLst_ap, vTup_ap, vLst_ap, vCall_ap, kCut1_ap, kCut2_ap, kCut3_ap, vCut_ap, kPart_ap, vPart_none, vPart_some, kComp_ap, kCompO_ap, vComp_ap, wSeq_ap, wCall_ap, wipe_nil, wipe_cons, dMod_int, bindS_slot, bindS_tup, bindSs_nil, bindSs_slot, bindT_slot, bindT_tup, bindTs_nil, bindTs_slot, onR_ok, onR_exc, outR_rt, outR_nx, outR_exc, after_t, after_f, rb_ok, rb_exc, tr_bool, tr_none, tr_int, tr_list, tr_tuple, toB_bool, toI_int, dAdd_int, dSub_int, dNeg_int, dMul_l, dMul_r, dDiv_int, dLt_int, dLe_int, dGt_int, dGe_int, dEq_int, dNe_int, dEq_bool, dNe_bool, dIs_none, dIsNot_none, dIs_bool, isNone_none, isNone_int, isNone_bool, isNone_tuple, isNone_list, dIdx_list, dIdx_tuple, atI_0, atI_1, atI_2, dLen_list, dLen_tuple, dInt_int, dAbs_int, dTuple_list, dTuple_tuple, dList_list, dList_tuple, dSum_ints, dSum_intsT, dAll_bools, dMin_2, dMax_2, isi_int_int, isi_int_bool, isi_int_none, isi_int_tuple, isi_int_list, isi_bool_int, isi_bool_bool, isi_tuple_tuple, isi_tuple_int, isi_tuple_none, isi_list_list, asSeq_list, asSeq_tuple, iEnum_list, iEnum_tuple, iZip_list, iZip_tuple, dCut_list, dCut_tuple, flat_none, flat_bool, flat_int, flat_str, flat_tuple, flat_list, flatL_ints, flatL_bools, isL_list, isL_int, isL_bool, isL_tuple, isL_none, mview_nil, mview_cons, mv1_f, mv1_n, mv1_t, freeze_nil, freeze_cons, fr1_f, fr1_n, fr1_t, List.set_cons_zero, List.set_cons_succ, List.map_cons, List.map_nil, List.length_cons, List.length_nil, List.replicate_succ, List.replicate_zero, List.cons_append, List.nil_append, List.getElem?_cons_zero, List.getElem?_cons_succ, List.mem_cons, List.not_mem_nil, or_false, false_or, or_true, true_or, if_true, if_false, Bool.false_eq_true, Bool.not_true, Bool.not_false, decide_true, decide_false, and_self, true_and, and_true, Bool.true_and, Bool.and_true, Bool.and_self, Bool.false_and, Bool.and_false, ↓reduceIte, reduceIte, Int.reduceLT, Int.reduceLE, Int.reduceNeg, Int.reduceAdd, Int.reduceSub, Int.reduceMul, Int.reduceToNat, Nat.reduceLT, Nat.reduceLeDiff, Nat.reduceEqDiff, Nat.reduceAdd, Nat.reduceSub, Nat.reduceMul, reduceCtorEq, Int.cast_ofNat_Int, Int.natCast_one, Int.natCast_zero, Int.reduceEq, vMeth_ap, kMeth_l, dRev_list, dCount_ints, kRem_ap, xSeq_rem, xSeq_ext, xExt_ap, kExt_ap, xSeq_pop, xPop_ap, popR_ok, xRem_ap, xSeq_try, xTryL_ap, kTry_nx, kTry_rt, kTry_exc, tryR_rt, tryR_nx, tryR_no, handL_cons, wipeS_nil, wipeS_cons, cv_s, cv_b, cv_i, b_covered_by, pr2, hr, c2]; rfl)
def others (n k : Nat) : List Nat := (List.range n).filter fun j => !decide (j = k)
def spareQ (bs : List (Int × Int)) (k : Nat) : Bool := covB bs (others bs.length k) (at2 bs k)
theorem two_of {l : List Nat} {k : Nat} (hn : l.Nodup) (hk : k ∈ l) : 1 < l.length ↔ ∃ j ∈ l, j ≠ k := by
  match l, hn, hk with
  | [x], _, hk =>
    simp only [List.mem_singleton] at hk
    subst hk
    simp
  | x :: y :: r, hn, hk =>
    refine ⟨fun _ => ?_, fun _ => by simp⟩
    by_cases h : x = k
    · refine ⟨y, by simp, fun e => ?_⟩
      subst h
      subst e
      simp at hn
    · exact ⟨x, by simp, h⟩
theorem spare_is {bs : List (Int × Int)} {k : Nat} (h : k < bs.length) : spareQ bs k = ((List.range ((at2 bs k).2 - (at2 bs k).1).toNat).map fun i : Nat => decide (dep bs ((at2 bs k).1 + (i : Int)) > 1)).all id := by
  unfold spareQ covB
  congr 1
  refine List.map_congr_left fun i hi => ?_
  have hi := List.mem_range.mp hi
  have tk : tl (at2 bs k) ((at2 bs k).1 + (i : Int)) = true := tl_iff.mpr ⟨by omega, by omega⟩
  rw [dep_range]
  have key := two_of (l := (List.range bs.length).filter fun j => tl (at2 bs j) ((at2 bs k).1 + (i : Int))) (k := k) (List.Pairwise.filter _ List.nodup_range) (List.mem_filter.mpr ⟨List.mem_range.mpr h, tk⟩)
  rw [Bool.eq_iff_iff, decide_eq_true_eq, GT.gt, key, List.any_map, List.any_eq_true]
  constructor
  · rintro ⟨j, hj, ht⟩
    unfold others at hj
    rw [List.mem_filter] at hj
    refine ⟨j, List.mem_filter.mpr ⟨hj.1, ht⟩, ?_⟩
    have := hj.2
    simpa using this
  · rintro ⟨j, hj, hne⟩
    rw [List.mem_filter] at hj
    exact ⟨j, List.mem_filter.mpr ⟨hj.1, by simpa using hne⟩, hj.2⟩
theorem zip_mem {bs : List (Int × Int)} {p : (Int × Int) × Nat} (h : p ∈ bs.zipIdx) : p.2 < bs.length ∧ p.1 = at2 bs p.2 := by
  have := List.mem_zipIdx_iff_getElem?.mp h
  have h1 := (List.getElem?_eq_some_iff.mp this).1
  refine ⟨h1, ?_⟩
  rw [at2_get h1] at this
  exact (Option.some.inj this).symm
theorem spare_eq {bs : List (Int × Int)} (c : Bk bs) : f_subject_spare [bkD bs] = .ok (ordD ((List.range bs.length).filter (spareQ bs))) := by
  refine runFn_eq rfl ?_
  have n1 := need_eq c
  have fb := flat_bk bs
  have de := bk_enum bs
  have dl := bk_len bs
  have hl := c.l1
  have hr : iRange [.int (bs.length : Int)] = .ok (rangeD 0 bs.length) := iRange_1 (by omega)
  have e0 : ((List.range bs.length).filter (spareQ bs)).map natD = (bs.zipIdx.filter fun p => spareQ bs p.2).map fun p => PyData.int (p.2 : Nat) := by
    have e : bs.zipIdx = (List.range bs.length).map fun k => (at2 bs k, k) := by
      apply List.ext_getElem?
      intro i
      rw [List.getElem?_map, List.getElem?_zipIdx]
      by_cases h : i < bs.length
      · rw [List.getElem?_range h, at2_get h]
        simp
      · rw [List.getElem?_eq_none (by omega), List.getElem?_eq_none (by simp; omega)]
        rfl
    rw [e, List.filter_map, List.map_map]
    rfl
  unfold ordD
  rw [e0]
  simp only [startE_eq, kSet_ap, kSetG_ap, kIfS_ap, kIf0_ap, kRet_ap, kDrop_ap, kUnp_slot, kUnp2, kUnp3, kApp_ap, appR_ok, ownR_ok, augR_ok, kPar1_ap, kPar2_ap, kAug_ap, kForS_l, kForS_t, xSkip_ap, xSeq_skip, xSeq_seq, xSeq_set, xSeq_setG, xSeq_if, xSeq_ret, xSeq_retN, xSeq_raise, xSeq_drop, xSeq_brk, xSeq_cnt, xSeq_unp, xSeq_par, xSeq_app, xApp_ap, xSeq_aug, xAug_ap, xSeq_for, xSeq_forS, xSeq_forG, xFor_ap, xForS_ap, xForG_ap, xPar_ap, xSet_ap, xSetG_ap, xIf_ap, xRet_ap, xRetN_ap, xDrop_ap, xRaise_ap, xBreak_ap, xCont_ap, xUnp_ap, xSeq_put, xPut_ap, xSeq_putA, xPutA_ap, paK1_ap, paR1_ok, paX1_ok, paK2_ap, kPut1_ap, kPut2_ap, putR_ok, putJ_ok, kEv_ap, kEvG_ap, kEvL_ap, evS_ap, evG_ap, evL_ap, evA_t, evA_f, keepG_int, keepG_bool, keepG_none, keepG_tuple, keepG_list, flatL_nil, flatL_cons, vVar_ap, varR_ok, optR_ok, vC_ap, kB_ap, vBin_ap, vUn_ap, vTest_ap, kAnd_ap, kAnd2_ap, vAnd_ap, kOr_ap, kOr2_ap, vOr_ap, kNot_ap, kNot2_ap, vNot_ap, kIfE_ap, vIf_ap, kC3_ap, kC2_ap, kC1_ap, vChain_ap, kL_ap, kL2_ap, vL_nil, vL_cons, kTup_ap, kLst_ap, vTup_ap, vLst_ap, vCall_ap, kCut1_ap, kCut2_ap, kCut3_ap, vCut_ap, kPart_ap, vPart_none, vPart_some, kComp_ap, kCompO_ap, vComp_ap, wSeq_ap, wCall_ap, wipe_nil, wipe_cons, dMod_int, bindS_slot, bindS_tup, bindSs_nil, bindSs_slot, bindT_slot, bindT_tup, bindTs_nil, bindTs_slot, onR_ok, onR_exc, outR_rt, outR_nx, outR_exc, after_t, after_f, rb_ok, rb_exc, tr_bool, tr_none, tr_int, tr_list, tr_tuple, toB_bool, toI_int, dAdd_int, dSub_int, dNeg_int, dMul_l, dMul_r, dDiv_int, dLt_int, dLe_int, dGt_int, dGe_int, dEq_int, dNe_int, dEq_bool, dNe_bool, dIs_none, dIsNot_none, dIs_bool, isNone_none, isNone_int, isNone_bool, isNone_tuple, isNone_list, dIdx_list, dIdx_tuple, atI_0, atI_1, atI_2, dLen_list, dLen_tuple, dInt_int, dAbs_int, dTuple_list, dTuple_tuple, dList_list, dList_tuple, dSum_ints, dSum_intsT, dAll_bools, dMin_2, dMax_2, isi_int_int, isi_int_bool, isi_int_none, isi_int_tuple, isi_int_list, isi_bool_int, isi_bool_bool, isi_tuple_tuple, isi_tuple_int, isi_tuple_none, isi_list_list, asSeq_list, asSeq_tuple, iEnum_list, iEnum_tuple, iZip_list, iZip_tuple, dCut_list, dCut_tuple, flat_none, flat_bool, flat_int, flat_str, flat_tuple, flat_list, flatL_ints, flatL_bools, isL_list, isL_int, isL_bool, isL_tuple, isL_none, mview_nil, mview_cons, mv1_f, mv1_n, mv1_t, freeze_nil, freeze_cons, fr1_f, fr1_n, fr1_t, List.set_cons_zero, List.set_cons_succ, List.map_cons, List.map_nil, List.length_cons, List.length_nil, List.replicate_succ, List.replicate_zero, List.cons_append, List.nil_append, List.getElem?_cons_zero, List.getElem?_cons_succ, List.mem_cons, List.not_mem_nil, or_false, false_or, or_true, true_or, if_true, if_false, Bool.false_eq_true, Bool.not_true, Bool.not_false, decide_true, decide_false, and_self, true_and, and_true, Bool.true_and, Bool.and_true, Bool.and_self, Bool.false_and, Bool.and_false, ↓reduceIte, reduceIte, Int.reduceLT, Int.reduceLE, Int.reduceNeg, Int.reduceAdd, Int.reduceSub, Int.reduceMul, Int.reduceToNat, Nat.reduceLT, Nat.reduceLeDiff, Nat.reduceEqDiff, Nat.reduceAdd, Nat.reduceSub, Nat.reduceMul, reduceCtorEq, Int.cast_ofNat_Int, Int.natCast_one, Int.natCast_zero, Int.reduceEq, vMeth_ap, kMeth_l, dRev_list, dCount_ints, kRem_ap, xSeq_rem, xSeq_ext, xExt_ap, kExt_ap, xSeq_pop, xPop_ap, popR_ok, xRem_ap, xSeq_try, xTryL_ap, kTry_nx, kTry_rt, kTry_exc, tryR_rt, tryR_nx, tryR_no, handL_cons, wipeS_nil, wipeS_cons, cv_s, cv_b, cv_i, b_subject_spare, n1, kFor_ap de, enumD_map, fb]
  refine seq_list (P := fun o => outR o = _) (enc := fun p : (Int × Int) × Nat => PyData.tuple [.int (p.2 : Nat), pr2 p.1]) (xs := bs.zipIdx) (fun pre env => ∃ x2 x3 x4, pre.length ≤ 10 ∧ env = [some (false, bkD bs), some (true, .list ((pre.filter fun p => spareQ bs p.2).map fun p => PyData.int (p.2 : Nat))), x2, x3, x4, none]) NoE NoD rfl ⟨none, none, none, by simp, rfl⟩ ?_ ?_ (fun _ z => z.elim) (fun _ z => z.elim)
  · rintro pre p post env hxs ⟨x2, x3, x4, hpl, rfl⟩
    refine ⟨_, rfl, ?_⟩
    obtain ⟨hk, hp⟩ := zip_mem (bs := bs) (p := p) (by rw [hxs]; simp)
    have c1 : ∀ s0 s1 s3 s4 s5, compGo (compTurnD (.slot 5) [5] (some (vTest (vBin dNe (vVar 5) (vVar 2)))) (vVar 5) [s0, s1, some (.int (p.2 : Nat)), s3, s4, s5]) (rangeD 0 bs.length) = .ok ((others bs.length p.2).map natD) := by
      intro s0 s1 s3 s4 s5
      refine comp_if fun j hj => ?_
      have hd : decide ((j : Int) = (p.2 : Int)) = decide (j = p.2) := decide_eq_decide.mpr ⟨fun z => by omega, fun z => by omega⟩
      exact turn_if rfl (by simp only [startE_eq, kSet_ap, kSetG_ap, kIfS_ap, kIf0_ap, kRet_ap, kDrop_ap, kUnp_slot, kUnp2, kUnp3, kApp_ap, appR_ok, ownR_ok, augR_ok, kPar1_ap, kPar2_ap, kAug_ap, kForS_l, kForS_t, xSkip_ap, xSeq_skip, xSeq_seq, xSeq_set, xSeq_setG, xSeq_if, xSeq_ret, xSeq_retN, xSeq_raise, xSeq_drop, xSeq_brk, xSeq_cnt, xSeq_unp, xSeq_par, xSeq_app, xApp_ap, xSeq_aug, xAug_ap, xSeq_for, xSeq_forS, xSeq_forG, xFor_ap, xForS_ap, xForG_ap, xPar_ap, xSet_ap, xSetG_ap, xIf_ap, xRet_ap, xRetN_ap, xDrop_ap, xRaise_ap, xBreak_ap, xCont_ap, xUnp_ap, xSeq_put, xPut_ap, xSeq_putA, xPutA_ap, paK1_ap, paR1_ok, paX1_ok, paK2_ap, kPut1_ap, kPut2_ap, putR_ok, putJ_ok, kEv_ap, kEvG_ap, kEvL_ap, evS_ap, evG_ap, evL_ap, evA_t, evA_f, keepG_int, keepG_bool, keepG_none, keepG_tuple, keepG_list, flatL_nil, flatL_cons, vVar_ap, varR_ok, optR_ok, vC_ap, kB_ap, vBin_ap, vUn_ap, vTest_ap, kAnd_ap, kAnd2_ap, vAnd_ap, kOr_ap, kOr2_ap, vOr_ap, kNot_ap, kNot2_ap, vNot_ap, kIfE_ap, vIf_ap, kC3_ap, kC2_ap, kC1_ap, vChain_ap, kL_ap, kL2_ap, vL_nil, vL_cons, kTup_ap, kLst_ap, vTup_ap, vLst_ap, vCall_ap, kCut1_ap, kCut2_ap, kCut3_ap, vCut_ap, kPart_ap, vPart_none, vPart_some, kComp_ap, kCompO_ap, vComp_ap, wSeq_ap, wCall_ap, wipe_nil, wipe_cons, dMod_int, bindS_slot, bindS_tup, bindSs_nil, bindSs_slot, bindT_slot, bindT_tup, bindTs_nil, bindTs_slot, onR_ok, onR_exc, outR_rt, outR_nx, outR_exc, after_t, after_f, rb_ok, rb_exc, tr_bool, tr_none, tr_int, tr_list, tr_tuple, toB_bool, toI_int, dAdd_int, dSub_int, dNeg_int, dMul_l, dMul_r, dDiv_int, dLt_int, dLe_int, dGt_int, dGe_int, dEq_int, dNe_int, dEq_bool, dNe_bool, dIs_none, dIsNot_none, dIs_bool, isNone_none, isNone_int, isNone_bool, isNone_tuple, isNone_list, dIdx_list, dIdx_tuple, atI_0, atI_1, atI_2, dLen_list, dLen_tuple, dInt_int, dAbs_int, dTuple_list, dTuple_tuple, dList_list, dList_tuple, dSum_ints, dSum_intsT, dAll_bools, dMin_2, dMax_2, isi_int_int, isi_int_bool, isi_int_none, isi_int_tuple, isi_int_list, isi_bool_int, isi_bool_bool, isi_tuple_tuple, isi_tuple_int, isi_tuple_none, isi_list_list, asSeq_list, asSeq_tuple, iEnum_list, iEnum_tuple, iZip_list, iZip_tuple, dCut_list, dCut_tuple, flat_none, flat_bool, flat_int, flat_str, flat_tuple, flat_list, flatL_ints, flatL_bools, isL_list, isL_int, isL_bool, isL_tuple, isL_none, mview_nil, mview_cons, mv1_f, mv1_n, mv1_t, freeze_nil, freeze_cons, fr1_f, fr1_n, fr1_t, List.set_cons_zero, List.set_cons_succ, List.map_cons, List.map_nil, List.length_cons, List.length_nil, List.replicate_succ, List.replicate_zero, List.cons_append, List.nil_append, List.getElem?_cons_zero, List.getElem?_cons_succ, List.mem_cons, List.not_mem_nil, or_false, false_or, or_true, true_or, if_true, if_false, Bool.false_eq_true, Bool.not_true, Bool.not_false, decide_true, decide_false, and_self, true_and, and_true, Bool.true_and, Bool.and_true, Bool.and_self, Bool.false_and, Bool.and_false, ↓reduceIte, reduceIte, Int.reduceLT, Int.reduceLE, Int.reduceNeg, Int.reduceAdd, Int.reduceSub, Int.reduceMul, Int.reduceToNat, Nat.reduceLT, Nat.reduceLeDiff, Nat.reduceEqDiff, Nat.reduceAdd, Nat.reduceSub, Nat.reduceMul, reduceCtorEq, Int.cast_ofNat_Int, Int.natCast_one, Int.natCast_zero, Int.reduceEq, vMeth_ap, kMeth_l, dRev_list, dCount_ints, kRem_ap, xSeq_rem, xSeq_ext, xExt_ap, kExt_ap, xSeq_pop, xPop_ap, popR_ok, xRem_ap, xSeq_try, xTryL_ap, kTry_nx, kTry_rt, kTry_exc, tryR_rt, tryR_nx, tryR_no, handL_cons, wipeS_nil, wipeS_cons, cv_s, cv_b, cv_i, Int.zero_add, hd]) fun _ => by simp only [startE_eq, kSet_ap, kSetG_ap, kIfS_ap, kIf0_ap, kRet_ap, kDrop_ap, kUnp_slot, kUnp2, kUnp3, kApp_ap, appR_ok, ownR_ok, augR_ok, kPar1_ap, kPar2_ap, kAug_ap, kForS_l, kForS_t, xSkip_ap, xSeq_skip, xSeq_seq, xSeq_set, xSeq_setG, xSeq_if, xSeq_ret, xSeq_retN, xSeq_raise, xSeq_drop, xSeq_brk, xSeq_cnt, xSeq_unp, xSeq_par, xSeq_app, xApp_ap, xSeq_aug, xAug_ap, xSeq_for, xSeq_forS, xSeq_forG, xFor_ap, xForS_ap, xForG_ap, xPar_ap, xSet_ap, xSetG_ap, xIf_ap, xRet_ap, xRetN_ap, xDrop_ap, xRaise_ap, xBreak_ap, xCont_ap, xUnp_ap, xSeq_put, xPut_ap, xSeq_putA, xPutA_ap, paK1_ap, paR1_ok, paX1_ok, paK2_ap, kPut1_ap, kPut2_ap, putR_ok, putJ_ok, kEv_ap, kEvG_ap, kEvL_ap, evS_ap, evG_ap, evL_ap, evA_t, evA_f, keepG_int, keepG_bool, keepG_none, keepG_tuple, keepG_list, flatL_nil, flatL_cons, vVar_ap, varR_ok, optR_ok, vC_ap, kB_ap, vBin_ap, vUn_ap, vTest_ap, kAnd_ap, kAnd2_ap, vAnd_ap, kOr_ap, kOr2_ap, vOr_ap, kNot_ap, kNot2_ap, vNot_ap, kIfE_ap, vIf_ap, kC3_ap, kC2_ap, kC1_ap, vChain_ap, kL_ap, kL2_ap, vL_nil, vL_cons, kTup_ap, kLst_ap, vTup_ap, vLst_ap, vCall_ap, kCut1_ap, kCut2_ap, kCut3_ap, vCut_ap, kPart_ap, vPart_none, vPart_some, kComp_ap, kCompO_ap, vComp_ap, wSeq_ap, wCall_ap, wipe_nil, wipe_cons, dMod_int, bindS_slot, bindS_tup, bindSs_nil, bindSs_slot, bindT_slot, bindT_tup, bindTs_nil, bindTs_slot, onR_ok, onR_exc, outR_rt, outR_nx, outR_exc, after_t, after_f, rb_ok, rb_exc, tr_bool, tr_none, tr_int, tr_list, tr_tuple, toB_bool, toI_int, dAdd_int, dSub_int, dNeg_int, dMul_l, dMul_r, dDiv_int, dLt_int, dLe_int, dGt_int, dGe_int, dEq_int, dNe_int, dEq_bool, dNe_bool, dIs_none, dIsNot_none, dIs_bool, isNone_none, isNone_int, isNone_bool, isNone_tuple, isNone_list, dIdx_list, dIdx_tuple, atI_0, atI_1, atI_2, dLen_list, dLen_tuple, dInt_int, dAbs_int, dTuple_list, dTuple_tuple, dList_list, dList_tuple, dSum_ints, dSum_intsT, dAll_bools, dMin_2, dMax_2, isi_int_int, isi_int_bool, isi_int_none, isi_int_tuple, isi_int_list, isi_bool_int, isi_bool_bool, isi_tuple_tuple, isi_tuple_int, isi_tuple_none, isi_list_list, asSeq_list, asSeq_tuple, iEnum_list, iEnum_tuple, iZip_list, iZip_tuple, dCut_list, dCut_tuple, flat_none, flat_bool, flat_int, flat_str, flat_tuple, flat_list, flatL_ints, flatL_bools, isL_list, isL_int, isL_bool, isL_tuple, isL_none, mview_nil, mview_cons, mv1_f, mv1_n, mv1_t, freeze_nil, freeze_cons, fr1_f, fr1_n, fr1_t, List.set_cons_zero, List.set_cons_succ, List.map_cons, List.map_nil, List.length_cons, List.length_nil, List.replicate_succ, List.replicate_zero, List.cons_append, List.nil_append, List.getElem?_cons_zero, List.getElem?_cons_succ, List.mem_cons, List.not_mem_nil, or_false, false_or, or_true, true_or, if_true, if_false, Bool.false_eq_true, Bool.not_true, Bool.not_false, decide_true, decide_false, and_self, true_and, and_true, Bool.true_and, Bool.and_true, Bool.and_self, Bool.false_and, Bool.and_false, ↓reduceIte, reduceIte, Int.reduceLT, Int.reduceLE, Int.reduceNeg, Int.reduceAdd, Int.reduceSub, Int.reduceMul, Int.reduceToNat, Nat.reduceLT, Nat.reduceLeDiff, Nat.reduceEqDiff, Nat.reduceAdd, Nat.reduceSub, Nat.reduceMul, reduceCtorEq, Int.cast_ofNat_Int, Int.natCast_one, Int.natCast_zero, Int.reduceEq, vMeth_ap, kMeth_l, dRev_list, dCount_ints, kRem_ap, xSeq_rem, xSeq_ext, xExt_ap, kExt_ap, xSeq_pop, xPop_ap, popR_ok, xRem_ap, xSeq_try, xTryL_ap, kTry_nx, kTry_rt, kTry_exc, tryR_rt, tryR_nx, tryR_no, handL_cons, wipeS_nil, wipeS_cons, cv_s, cv_b, cv_i, Int.zero_add]; rfl
    have c2 := covered_eq (bs := bs) (lot := others bs.length p.2) (p := p.1) (by rw [hp]; exact at2_ok c hk) (fun j hj => List.mem_range.mp (List.mem_filter.mp hj).1) (d := .list ((others bs.length p.2).map natD)) rfl
    have e1 : covB bs (others bs.length p.2) p.1 = spareQ bs p.2 := by rw [hp]; rfl
    rw [e1] at c2
    have fo : flatL ((others bs.length p.2).map natD) = true := flatL_map fun _ _ => rfl
    have hlen : (pre ++ [p]).length ≤ 10 := by
      have := congrArg List.length hxs
      simp only [List.length_zipIdx, List.length_append, List.length_cons] at this
      simp only [List.length_append, List.length_cons, List.length_nil]
      omega
    have hpf : ((pre.filter fun p => spareQ bs p.2).map fun p => PyData.int (p.2 : Nat)).length < 1000000 := by
      rw [List.length_map]
      have := List.length_filter_le (fun p => spareQ bs p.2) pre
      omega
    have hfl : flat (pr2 p.1) = true := rfl
    cases hq : spareQ bs p.2 with
    | true =>
      rw [hq] at c2
      simp only [startE_eq, kSet_ap, kSetG_ap, kIfS_ap, kIf0_ap, kRet_ap, kDrop_ap, kUnp_slot, kUnp2, kUnp3, kApp_ap, appR_ok, ownR_ok, augR_ok, kPar1_ap, kPar2_ap, kAug_ap, kForS_l, kForS_t, xSkip_ap, xSeq_skip, xSeq_seq, xSeq_set, xSeq_setG, xSeq_if, xSeq_ret, xSeq_retN, xSeq_raise, xSeq_drop, xSeq_brk, xSeq_cnt, xSeq_unp, xSeq_par, xSeq_app, xApp_ap, xSeq_aug, xAug_ap, xSeq_for, xSeq_forS, xSeq_forG, xFor_ap, xForS_ap, xForG_ap, xPar_ap, xSet_ap, xSetG_ap, xIf_ap, xRet_ap, xRetN_ap, xDrop_ap, xRaise_ap, xBreak_ap, xCont_ap, xUnp_ap, xSeq_put, xPut_ap, xSeq_putA, xPutA_ap, paK1_ap, paR1_ok, paX1_ok, paK2_ap, kPut1_ap, kPut2_ap, putR_ok, putJ_ok, kEv_ap, kEvG_ap, kEvL_ap, evS_ap, evG_ap, evL_ap, evA_t, evA_f, keepG_int, keepG_bool, keepG_none, keepG_tuple, keepG_list, flatL_nil, flatL_cons, vVar_ap, varR_ok, optR_ok, vC_ap, kB_ap, vBin_ap, vUn_ap, vTest_ap, kAnd_ap, kAnd2_ap, vAnd_ap, kOr_ap, kOr2_ap, vOr_ap, kNot_ap, kNot2_ap, vNot_ap, kIfE_ap, vIf_ap, kC3_ap, kC2_ap, kC1_ap, vChain_ap, kL_ap, kL2_ap, vL_nil, vL_cons, kTup_ap, kLst_ap, vTup_ap, vLst_ap, vCall_ap, kCut1_ap, kCut2_ap, kCut3_ap, vCut_ap, kPart_ap, vPart_none, vPart_some, kComp_ap, kCompO_ap, vComp_ap, wSeq_ap, wCall_ap, wipe_nil, wipe_cons, dMod_int, bindS_slot, bindS_tup, bindSs_nil, bindSs_slot, bindT_slot, bindT_tup, bindTs_nil, bindTs_slot, onR_ok, onR_exc, outR_rt, outR_nx, outR_exc, after_t, after_f, rb_ok, rb_exc, tr_bool, tr_none, tr_int, tr_list, tr_tuple, toB_bool, toI_int, dAdd_int, dSub_int, dNeg_int, dMul_l, dMul_r, dDiv_int, dLt_int, dLe_int, dGt_int, dGe_int, dEq_int, dNe_int, dEq_bool, dNe_bool, dIs_none, dIsNot_none, dIs_bool, isNone_none, isNone_int, isNone_bool, isNone_tuple, isNone_list, dIdx_list, dIdx_tuple, atI_0, atI_1, atI_2, dLen_list, dLen_tuple, dInt_int, dAbs_int, dTuple_list, dTuple_tuple, dList_list, dList_tuple, dSum_ints, dSum_intsT, dAll_bools, dMin_2, dMax_2, isi_int_int, isi_int_bool, isi_int_none, isi_int_tuple, isi_int_list, isi_bool_int, isi_bool_bool, isi_tuple_tuple, isi_tuple_int, isi_tuple_none, isi_list_list, asSeq_list, asSeq_tuple, iEnum_list, iEnum_tuple, iZip_list, iZip_tuple, dCut_list, dCut_tuple, flat_none, flat_bool, flat_int, flat_str, flat_tuple, flat_list, flatL_ints, flatL_bools, isL_list, isL_int, isL_bool, isL_tuple, isL_none, mview_nil, mview_cons, mv1_f, mv1_n, mv1_t, freeze_nil, freeze_cons, fr1_f, fr1_n, fr1_t, List.set_cons_zero, List.set_cons_succ, List.map_cons, List.map_nil, List.length_cons, List.length_nil, List.replicate_succ, List.replicate_zero, List.cons_append, List.nil_append, List.getElem?_cons_zero, List.getElem?_cons_succ, List.mem_cons, List.not_mem_nil, or_false, false_or, or_true, true_or, if_true, if_false, Bool.false_eq_true, Bool.not_true, Bool.not_false, decide_true, decide_false, and_self, true_and, and_true, Bool.true_and, Bool.and_true, Bool.and_self, Bool.false_and, Bool.and_false, ↓reduceIte, reduceIte, Int.reduceLT, Int.reduceLE, Int.reduceNeg, Int.reduceAdd, Int.reduceSub, Int.reduceMul, Int.reduceToNat, Nat.reduceLT, Nat.reduceLeDiff, Nat.reduceEqDiff, Nat.reduceAdd, Nat.reduceSub, Nat.reduceMul, reduceCtorEq, Int.cast_ofNat_Int, Int.natCast_one, Int.natCast_zero, Int.reduceEq, vMeth_ap, kMeth_l, dRev_list, dCount_ints, kRem_ap, xSeq_rem, xSeq_ext, xExt_ap, kExt_ap, xSeq_pop, xPop_ap, popR_ok, xRem_ap, xSeq_try, xTryL_ap, kTry_nx, kTry_rt, kTry_exc, tryR_rt, tryR_nx, tryR_no, handL_cons, wipeS_nil, wipeS_cons, cv_s, cv_b, cv_i, dl, hr, c1, c2, fo, hpf, hfl]
      refine turn_nx ⟨some (false, .int (p.2 : Nat)), some (false, pr2 p.1), some (true, .list ((others bs.length p.2).map natD)), hlen, ?_⟩
      rw [List.filter_append, List.map_append]
      simp only [List.filter_cons, hq, if_true, List.filter_nil, List.map_cons, List.map_nil]
    | false =>
      rw [hq] at c2
      simp only [startE_eq, kSet_ap, kSetG_ap, kIfS_ap, kIf0_ap, kRet_ap, kDrop_ap, kUnp_slot, kUnp2, kUnp3, kApp_ap, appR_ok, ownR_ok, augR_ok, kPar1_ap, kPar2_ap, kAug_ap, kForS_l, kForS_t, xSkip_ap, xSeq_skip, xSeq_seq, xSeq_set, xSeq_setG, xSeq_if, xSeq_ret, xSeq_retN, xSeq_raise, xSeq_drop, xSeq_brk, xSeq_cnt, xSeq_unp, xSeq_par, xSeq_app, xApp_ap, xSeq_aug, xAug_ap, xSeq_for, xSeq_forS, xSeq_forG, xFor_ap, xForS_ap, xForG_ap, xPar_ap, xSet_ap, xSetG_ap, xIf_ap, xRet_ap, xRetN_ap, xDrop_ap, xRaise_ap, xBreak_ap, xCont_ap, xUnp_ap, xSeq_put, xPut_ap, xSeq_putA, xPutA_ap, paK1_ap, paR1_ok, paX1_ok, paK2_ap, kPut1_ap, kPut2_ap, putR_ok, putJ_ok, kEv_ap, kEvG_ap, kEvL_ap, evS_ap, evG_ap, evL_ap, evA_t, evA_f, keepG_int, keepG_bool, keepG_none, keepG_tuple, keepG_list, flatL_nil, flatL_cons, vVar_ap, varR_ok, optR_ok, vC_ap, kB_ap, vBin_ap, vUn_ap, vTest_ap, kAnd_ap, kAnd2_ap, vAnd_ap, kOr_ap, kOr2_ap, vOr_ap, kNot_ap, kNot2_ap, vNot_ap, kIfE_ap, vIf_ap, kC3_ap, kC2_ap, kC1_ap, vChain_ap, kL_ap, kL2_ap, vL_nil, vL_cons, kTup_ap, kLst_ap, vTup_ap, vLst_ap, vCall_ap, kCut1_ap, kCut2_ap, kCut3_ap, vCut_ap, kPart_ap, vPart_none, vPart_some, kComp_ap, kCompO_ap, vComp_ap, wSeq_ap, wCall_ap, wipe_nil, wipe_cons, dMod_int, bindS_slot, bindS_tup, bindSs_nil, bindSs_slot, bindT_slot, bindT_tup, bindTs_nil, bindTs_slot, onR_ok, onR_exc, outR_rt, outR_nx, outR_exc, after_t, after_f, rb_ok, rb_exc, tr_bool, tr_none, tr_int, tr_list, tr_tuple, toB_bool, toI_int, dAdd_int, dSub_int, dNeg_int, dMul_l, dMul_r, dDiv_int, dLt_int, dLe_int, dGt_int, dGe_int, dEq_int, dNe_int, dEq_bool, dNe_bool, dIs_none, dIsNot_none, dIs_bool, isNone_none, isNone_int, isNone_bool, isNone_tuple, isNone_list, dIdx_list, dIdx_tuple, atI_0, atI_1, atI_2, dLen_list, dLen_tuple, dInt_int, dAbs_int, dTuple_list, dTuple_tuple, dList_list, dList_tuple, dSum_ints, dSum_intsT, dAll_bools, dMin_2, dMax_2, isi_int_int, isi_int_bool, isi_int_none, isi_int_tuple, isi_int_list, isi_bool_int, isi_bool_bool, isi_tuple_tuple, isi_tuple_int, isi_tuple_none, isi_list_list, asSeq_list, asSeq_tuple, iEnum_list, iEnum_tuple, iZip_list, iZip_tuple, dCut_list, dCut_tuple, flat_none, flat_bool, flat_int, flat_str, flat_tuple, flat_list, flatL_ints, flatL_bools, isL_list, isL_int, isL_bool, isL_tuple, isL_none, mview_nil, mview_cons, mv1_f, mv1_n, mv1_t, freeze_nil, freeze_cons, fr1_f, fr1_n, fr1_t, List.set_cons_zero, List.set_cons_succ, List.map_cons, List.map_nil, List.length_cons, List.length_nil, List.replicate_succ, List.replicate_zero, List.cons_append, List.nil_append, List.getElem?_cons_zero, List.getElem?_cons_succ, List.mem_cons, List.not_mem_nil, or_false, false_or, or_true, true_or, if_true, if_false, Bool.false_eq_true, Bool.not_true, Bool.not_false, decide_true, decide_false, and_self, true_and, and_true, Bool.true_and, Bool.and_true, Bool.and_self, Bool.false_and, Bool.and_false, ↓reduceIte, reduceIte, Int.reduceLT, Int.reduceLE, Int.reduceNeg, Int.reduceAdd, Int.reduceSub, Int.reduceMul, Int.reduceToNat, Nat.reduceLT, Nat.reduceLeDiff, Nat.reduceEqDiff, Nat.reduceAdd, Nat.reduceSub, Nat.reduceMul, reduceCtorEq, Int.cast_ofNat_Int, Int.natCast_one, Int.natCast_zero, Int.reduceEq, vMeth_ap, kMeth_l, dRev_list, dCount_ints, kRem_ap, xSeq_rem, xSeq_ext, xExt_ap, kExt_ap, xSeq_pop, xPop_ap, popR_ok, xRem_ap, xSeq_try, xTryL_ap, kTry_nx, kTry_rt, kTry_exc, tryR_rt, tryR_nx, tryR_no, handL_cons, wipeS_nil, wipeS_cons, cv_s, cv_b, cv_i, dl, hr, c1, c2, fo, hpf, hfl]
      refine turn_nx ⟨some (false, .int (p.2 : Nat)), some (false, pr2 p.1), some (true, .list ((others bs.length p.2).map natD)), hlen, ?_⟩
      rw [List.filter_append, List.map_append]
      simp only [List.filter_cons, hq, Bool.false_eq_true, if_false, List.filter_nil, List.map_nil, List.append_nil]
  · rintro env ⟨x2, x3, x4, _, rfl⟩
    simp only [startE_eq, kSet_ap, kSetG_ap, kIfS_ap, kIf0_ap, kRet_ap, kDrop_ap, kUnp_slot, kUnp2, kUnp3, kApp_ap, appR_ok, ownR_ok, augR_ok, kPar1_ap, kPar2_ap, kAug_ap, kForS_l, kForS_t, xSkip_ap, xSeq_skip, xSeq_seq, xSeq_set, xSeq_setG, xSeq_if, xSeq_ret, xSeq_retN, xSeq_raise, xSeq_drop, xSeq_brk, xSeq_cnt, xSeq_unp, xSeq_par, xSeq_app, xApp_ap, xSeq_aug, xAug_ap, xSeq_for, xSeq_forS, xSeq_forG, xFor_ap, xForS_ap, xForG_ap, xPar_ap, xSet_ap, xSetG_ap, xIf_ap, xRet_ap, xRetN_ap, xDrop_ap, xRaise_ap, xBreak_ap, xCont_ap, xUnp_ap, xSeq_put, xPut_ap, xSeq_putA, xPutA_ap, paK1_ap, paR1_ok, paX1_ok, paK2_ap, kPut1_ap, kPut2_ap, putR_ok, putJ_ok, kEv_ap, kEvG_ap, kEvL_ap, evS_ap, evG_ap, evL_ap, evA_t, evA_f, keepG_int, keepG_bool, keepG_none, keepG_tuple, keepG_list, flatL_nil, flatL_cons, vVar_ap, varR_ok, optR_ok, vC_ap, kB_ap, vBin_ap, vUn_ap, vTest_ap, kAnd_ap, kAnd2_ap, vAnd_ap, kOr_ap, kOr2_ap, vOr_ap, kNot_ap, kNot2_ap, vNot_ap, kIfE_ap, vIf_ap, kC3_ap, kC2_ap, kC1_ap, vChain_ap, kL_ap, kL2_ap, vL_nil, vL_cons, kTup_ap, kLst_ap, vTup_ap, vLst_ap, vCall_ap, kCut1_ap, kCut2_ap, kCut3_ap, vCut_ap, kPart_ap, vPart_none, vPart_some, kComp_ap, kCompO_ap, vComp_ap, wSeq_ap, wCall_ap, wipe_nil, wipe_cons, dMod_int, bindS_slot, bindS_tup, bindSs_nil, bindSs_slot, bindT_slot, bindT_tup, bindTs_nil, bindTs_slot, onR_ok, onR_exc, outR_rt, outR_nx, outR_exc, after_t, after_f, rb_ok, rb_exc, tr_bool, tr_none, tr_int, tr_list, tr_tuple, toB_bool, toI_int, dAdd_int, dSub_int, dNeg_int, dMul_l, dMul_r, dDiv_int, dLt_int, dLe_int, dGt_int, dGe_int, dEq_int, dNe_int, dEq_bool, dNe_bool, dIs_none, dIsNot_none, dIs_bool, isNone_none, isNone_int, isNone_bool, isNone_tuple, isNone_list, dIdx_list, dIdx_tuple, atI_0, atI_1, atI_2, dLen_list, dLen_tuple, dInt_int, dAbs_int, dTuple_list, dTuple_tuple, dList_list, dList_tuple, dSum_ints, dSum_intsT, dAll_bools, dMin_2, dMax_2, isi_int_int, isi_int_bool, isi_int_none, isi_int_tuple, isi_int_list, isi_bool_int, isi_bool_bool, isi_tuple_tuple, isi_tuple_int, isi_tuple_none, isi_list_list, asSeq_list, asSeq_tuple, iEnum_list, iEnum_tuple, iZip_list, iZip_tuple, dCut_list, dCut_tuple, flat_none, flat_bool, flat_int, flat_str, flat_tuple, flat_list, flatL_ints, flatL_bools, isL_list, isL_int, isL_bool, isL_tuple, isL_none, mview_nil, mview_cons, mv1_f, mv1_n, mv1_t, freeze_nil, freeze_cons, fr1_f, fr1_n, fr1_t, List.set_cons_zero, List.set_cons_succ, List.map_cons, List.map_nil, List.length_cons, List.length_nil, List.replicate_succ, List.replicate_zero, List.cons_append, List.nil_append, List.getElem?_cons_zero, List.getElem?_cons_succ, List.mem_cons, List.not_mem_nil, or_false, false_or, or_true, true_or, if_true, if_false, Bool.false_eq_true, Bool.not_true, Bool.not_false, decide_true, decide_false, and_self, true_and, and_true, Bool.true_and, Bool.and_true, Bool.and_self, Bool.false_and, Bool.and_false, ↓reduceIte, reduceIte, Int.reduceLT, Int.reduceLE, Int.reduceNeg, Int.reduceAdd, Int.reduceSub, Int.reduceMul, Int.reduceToNat, Nat.reduceLT, Nat.reduceLeDiff, Nat.reduceEqDiff, Nat.reduceAdd, Nat.reduceSub, Nat.reduceMul, reduceCtorEq, Int.cast_ofNat_Int, Int.natCast_one, Int.natCast_zero, Int.reduceEq, vMeth_ap, kMeth_l, dRev_list, dCount_ints, kRem_ap, xSeq_rem, xSeq_ext, xExt_ap, kExt_ap, xSeq_pop, xPop_ap, popR_ok, xRem_ap, xSeq_try, xTryL_ap, kTry_nx, kTry_rt, kTry_exc, tryR_rt, tryR_nx, tryR_no, handL_cons, wipeS_nil, wipeS_cons, cv_s, cv_b, cv_i]
end K68


set_option Elab.async false
set_option linter.all false
set_option maxRecDepth 100000
set_option maxHeartbeats 1000000
namespace K68
open PySem PySem.Spec PyProof.Rows L2 SH
/-! joined stretches -/
def covP (J : List (Int × Int)) (y : Int) : Prop := ∃ q ∈ J, q.1 ≤ y ∧ y < q.2
def SepJ (J : List (Int × Int)) : Prop := J.Pairwise (fun p q => p.2 < q.1) ∧ ∀ q ∈ J, q.1 < q.2
theorem cov_nil (y : Int) : ¬ covP [] y := fun ⟨_, h, _⟩ => (nomatch h)
theorem cov_cons {a : Int × Int} {r : List (Int × Int)} {y : Int} : covP (a :: r) y ↔ (a.1 ≤ y ∧ y < a.2) ∨ covP r y := by
  unfold covP
  constructor
  · rintro ⟨q, h, h2⟩
    rcases List.mem_cons.mp h with rfl | h
    · exact .inl h2
    · exact .inr ⟨q, h, h2⟩
  · rintro (h | ⟨q, h, h2⟩)
    · exact ⟨a, List.mem_cons_self .., h⟩
    · exact ⟨q, List.mem_cons_of_mem _ h, h2⟩
theorem cov_snoc {a : Int × Int} {r : List (Int × Int)} {y : Int} : covP (r ++ [a]) y ↔ covP r y ∨ (a.1 ≤ y ∧ y < a.2) := by
  unfold covP
  constructor
  · rintro ⟨q, h, h2⟩
    rcases List.mem_append.mp h with h | h
    · exact .inl ⟨q, h, h2⟩
    · rw [List.mem_singleton] at h
      subst h
      exact .inr h2
  · rintro (⟨q, h, h2⟩ | h)
    · exact ⟨q, List.mem_append_left _ h, h2⟩
    · exact ⟨a, List.mem_append_right _ (List.mem_singleton.mpr rfl), h⟩
theorem sep_tail {a : Int × Int} {r : List (Int × Int)} (h : SepJ (a :: r)) : SepJ r ∧ a.1 < a.2 ∧ ∀ q ∈ r, a.2 < q.1 := by
  obtain ⟨h1, h2⟩ := h
  rw [List.pairwise_cons] at h1
  exact ⟨⟨h1.2, fun q hq => h2 q (List.mem_cons_of_mem _ hq)⟩, h2 a (List.mem_cons_self ..), h1.1⟩
theorem sep_snoc {J : List (Int × Int)} {a : Int × Int} : SepJ (J ++ [a]) ↔ SepJ J ∧ a.1 < a.2 ∧ ∀ q ∈ J, q.2 < a.1 := by
  unfold SepJ
  rw [List.pairwise_append]
  constructor
  · rintro ⟨⟨h1, _, h3⟩, h4⟩
    exact ⟨⟨h1, fun q hq => h4 q (List.mem_append_left _ hq)⟩, h4 a (by simp), fun q hq => h3 q hq a (by simp)⟩
  · rintro ⟨⟨h1, h2⟩, h3, h4⟩
    refine ⟨⟨h1, List.pairwise_singleton .., fun q hq p hp => ?_⟩, fun q hq => ?_⟩
    · rw [List.mem_singleton] at hp
      subst hp
      exact h4 q hq
    · rcases List.mem_append.mp hq with hq | hq
      · exact h2 q hq
      · rw [List.mem_singleton] at hq
        subst hq
        exact h3
theorem joined_uniq : ∀ (J J' : List (Int × Int)), SepJ J → SepJ J' → (∀ y, covP J y ↔ covP J' y) → J = J'
  | [], [], _, _, _ => rfl
  | [], q :: r, _, h', e => absurd ((e q.1).mpr (cov_cons.mpr (.inl ⟨Int.le_refl _, (sep_tail h').2.1⟩))) (cov_nil _)
  | q :: r, [], h, _, e => absurd ((e q.1).mp (cov_cons.mpr (.inl ⟨Int.le_refl _, (sep_tail h).2.1⟩))) (cov_nil _)
  | a :: r, c :: r', h, h', e => by
    obtain ⟨s1, a1, t1⟩ := sep_tail h
    obtain ⟨s2, c1, t2⟩ := sep_tail h'
    have lo : ∀ (a : Int × Int) (r : List (Int × Int)) (y : Int), a.1 < a.2 → (∀ q ∈ r, a.2 < q.1) → covP (a :: r) y → a.1 ≤ y := by
      intro a r y h1 h2 h3
      rcases cov_cons.mp h3 with h | ⟨q, hq, h⟩
      · exact h.1
      · have := h2 q hq
        omega
    have ge1 := lo c r' a.1 c1 t2 ((e a.1).mp (cov_cons.mpr (.inl ⟨Int.le_refl _, a1⟩)))
    have ge2 := lo a r c.1 a1 t1 ((e c.1).mpr (cov_cons.mpr (.inl ⟨Int.le_refl _, c1⟩)))
    have e1 : a.1 = c.1 := by omega
    have no : ∀ (a : Int × Int) (r : List (Int × Int)), (∀ q ∈ r, a.2 < q.1) → ¬ covP (a :: r) a.2 := by
      intro a r h2 h3
      rcases cov_cons.mp h3 with h | ⟨q, hq, h⟩
      · omega
      · have := h2 q hq
        omega
    have e2 : a.2 = c.2 := by
      rcases Int.lt_trichotomy a.2 c.2 with h | h | h
      · exact absurd ((e a.2).mpr (cov_cons.mpr (.inl ⟨by omega, h⟩))) (no a r t1)
      · exact h
      · exact absurd ((e c.2).mp (cov_cons.mpr (.inl ⟨by omega, h⟩))) (no c r' t2)
    have ea : a = c := Prod.ext e1 e2
    subst ea
    rw [joined_uniq r r' s1 s2 fun y => ?_]
    constructor
    · rintro ⟨q, hq, h1, h2⟩
      have hb := t1 q hq
      rcases cov_cons.mp ((e y).mp (cov_cons.mpr (.inr ⟨q, hq, h1, h2⟩))) with h | h
      · omega
      · exact h
    · rintro ⟨q, hq, h1, h2⟩
      have hb := t2 q hq
      rcases cov_cons.mp ((e y).mpr (cov_cons.mpr (.inr ⟨q, hq, h1, h2⟩))) with h | h
      · omega
      · exact h
theorem sorted_prs (bs : List (Int × Int)) : ∃ ps : List (Int × Int), ps.Perm bs ∧ ps.Pairwise (fun a b => ¬ plt b a) ∧ dSorted [bkD bs] = .ok (.list (ps.map pr2)) := by
  have e : PySem.W.dataLe false (fun x : Int × Int => pr2 x) = fun p q => decide (p.1 < q.1 ∨ (p.1 = q.1 ∧ p.2 ≤ q.2)) := PySem.W.dataLe_ii (fun p : Int × Int => p.1) (fun p : Int × Int => p.2)
  refine ⟨bs.mergeSort (PySem.W.dataLe false fun x => pr2 x), List.mergeSort_perm _ _, ?_, ?_⟩
  · rw [e]
    have := List.pairwise_mergeSort (le := fun p q : Int × Int => decide (p.1 < q.1 ∨ (p.1 = q.1 ∧ p.2 ≤ q.2)))
      (fun a b c h1 h2 => by simp only [decide_eq_true_eq] at *; omega) (fun a b => by simp only [Bool.or_eq_true, decide_eq_true_eq]; omega) bs
    refine this.imp fun {a b} h => ?_
    simp only [decide_eq_true_eq] at h
    unfold plt
    omega
  · show (if sortB (bs.map pr2) then Res.ok (PyData.list ((bs.map pr2).mergeSort ddle)) else .stuck) = _
    rw [prs_sortB, if_pos rfl, List.map_mergeSort (r := PySem.W.dataLe false fun x => pr2 x) (s := ddle) (f := pr2) (l := bs) fun a _ b _ => rfl]
theorem ixN_last (n : Nat) : ixN (n + 1) (-1) = some n := by
  unfold ixN
  simp only [show ¬ (0 : Int) ≤ -1 by decide, if_false]
  rw [if_pos (by omega)]
  congr 1
  omega
theorem snoc_of {J : List (Int × Int)} (h : J ≠ []) : ∃ J0 q, J = J0 ++ [q] := ⟨J.dropLast, J.getLast h, (List.dropLast_concat_getLast h).symm⟩
theorem joined_eq {bs : List (Int × Int)} (c : Bk bs) : ∃ J, SepJ J ∧ (∀ y, covP bs y ↔ covP J y) ∧ f_subject_joined [bkD bs] = .ok (bkD J) := by
  obtain ⟨ps, hp, hs, hd⟩ := sorted_prs bs
  have n1 := need_eq c
  have fb := flat_bk bs
  have fp : flatL (ps.map pr2) = true := flatL_map fun _ _ => rfl
  have hlen : ps.length ≤ 10 := by rw [hp.length_eq]; exact c.l1
  have key : ∃ J, SepJ J ∧ (∀ y, covP ps y ↔ covP J y) ∧ f_subject_joined [bkD bs] = .ok (bkD J) := by
    generalize hP : (fun o => ∃ J, SepJ J ∧ (∀ y, covP ps y ↔ covP J y) ∧ outR o = .ok (bkD J)) = P
    have goal : P (b_subject_joined (startE 4 [bkD bs])) := by
      simp only [startE_eq, kSet_ap, kSetG_ap, kIfS_ap, kIf0_ap, kRet_ap, kDrop_ap, kUnp_slot, kUnp2, kUnp3, kApp_ap, appR_ok, ownR_ok, augR_ok, kPar1_ap, kPar2_ap, kAug_ap, kForS_l, kForS_t, xSkip_ap, xSeq_skip, xSeq_seq, xSeq_set, xSeq_setG, xSeq_if, xSeq_ret, xSeq_retN, xSeq_raise, xSeq_drop, xSeq_brk, xSeq_cnt, xSeq_unp, xSeq_par, xSeq_app, xApp_ap, xSeq_aug, xAug_ap, xSeq_for, xSeq_forS, xSeq_forG, xFor_ap, xForS_ap, xForG_ap, xPar_ap, xSet_ap, xSetG_ap, xIf_ap, xRet_ap, xRetN_ap, xDrop_ap, xRaise_ap, xBreak_ap, xCont_ap, xUnp_ap, xSeq_put, xPut_ap, xSeq_putA, xPutA_ap, paK1_ap, paR1_ok, paX1_ok, paK2_ap, kPut1_ap, kPut2_ap, putR_ok, putJ_ok, kEv_ap, kEvG_ap, kEvL_ap, evS_ap, evG_ap, evL_ap, evA_t, evA_f, keepG_int, keepG_bool, keepG_none, keepG_tuple, keepG_list, flatL_nil, flatL_cons, vVar_ap, varR_ok, optR_ok, vC_ap, kB_ap, vBin_ap, vUn_ap, vTest_ap, kAnd_ap, kAnd2_ap, vAnd_ap, kOr_ap, kOr2_ap, vOr_ap, kNot_ap, kNot2_ap, vNot_ap, kIfE_ap, vIf_ap, kC3_ap, kC2_ap, kC1_ap, vChain_ap, kL_ap, kL2_ap, vL_nil, vL_cons, kTup_ap, kLst_ap, vTup_ap, vLst_ap, vCall_ap, kCut1_ap, kCut2_ap, kCut3_ap, vCut_ap, kPart_ap, vPart_none, vPart_some, kComp_ap, kCompO_ap, vComp_ap, wSeq_ap, wCall_ap, wipe_nil, wipe_cons, dMod_int, bindS_slot, bindS_tup, bindSs_nil, bindSs_slot, bindT_slot, bindT_tup, bindTs_nil, bindTs_slot, onR_ok, onR_exc, outR_rt, outR_nx, outR_exc, after_t, after_f, rb_ok, rb_exc, tr_bool, tr_none, tr_int, tr_list, tr_tuple, toB_bool, toI_int, dAdd_int, dSub_int, dNeg_int, dMul_l, dMul_r, dDiv_int, dLt_int, dLe_int, dGt_int, dGe_int, dEq_int, dNe_int, dEq_bool, dNe_bool, dIs_none, dIsNot_none, dIs_bool, isNone_none, isNone_int, isNone_bool, isNone_tuple, isNone_list, dIdx_list, dIdx_tuple, atI_0, atI_1, atI_2, dLen_list, dLen_tuple, dInt_int, dAbs_int, dTuple_list, dTuple_tuple, dList_list, dList_tuple, dSum_ints, dSum_intsT, dAll_bools, dMin_2, dMax_2, isi_int_int, isi_int_bool, isi_int_none, isi_int_tuple, isi_int_list, isi_bool_int, isi_bool_bool, isi_tuple_tuple, isi_tuple_int, isi_tuple_none, isi_list_list, asSeq_list, asSeq_tuple, iEnum_list, iEnum_tuple, iZip_list, iZip_tuple, dCut_list, dCut_tuple, flat_none, flat_bool, flat_int, flat_str, flat_tuple, flat_list, flatL_ints, flatL_bools, isL_list, isL_int, isL_bool, isL_tuple, isL_none, mview_nil, mview_cons, mv1_f, mv1_n, mv1_t, freeze_nil, freeze_cons, fr1_f, fr1_n, fr1_t, List.set_cons_zero, List.set_cons_succ, List.map_cons, List.map_nil, List.length_cons, List.length_nil, List.replicate_succ, List.replicate_zero, List.cons_append, List.nil_append, List.getElem?_cons_zero, List.getElem?_cons_succ, List.mem_cons, List.not_mem_nil, or_false, false_or, or_true, true_or, if_true, if_false, Bool.false_eq_true, Bool.not_true, Bool.not_false, decide_true, decide_false, and_self, true_and, and_true, Bool.true_and, Bool.and_true, Bool.and_self, Bool.false_and, Bool.and_false, ↓reduceIte, reduceIte, Int.reduceLT, Int.reduceLE, Int.reduceNeg, Int.reduceAdd, Int.reduceSub, Int.reduceMul, Int.reduceToNat, Nat.reduceLT, Nat.reduceLeDiff, Nat.reduceEqDiff, Nat.reduceAdd, Nat.reduceSub, Nat.reduceMul, reduceCtorEq, Int.cast_ofNat_Int, Int.natCast_one, Int.natCast_zero, Int.reduceEq, vMeth_ap, kMeth_l, dRev_list, dCount_ints, kRem_ap, xSeq_rem, xSeq_ext, xExt_ap, kExt_ap, xSeq_pop, xPop_ap, popR_ok, xRem_ap, xSeq_try, xTryL_ap, kTry_nx, kTry_rt, kTry_exc, tryR_rt, tryR_nx, tryR_no, handL_cons, wipeS_nil, wipeS_cons, cv_s, cv_b, cv_i, b_subject_joined, n1, fb, hd, fp]
      refine seq_list (P := P) (enc := pr2) (xs := ps) (fun pre env => ∃ J x2 x3, SepJ J ∧ (∀ y, covP pre y ↔ covP J y) ∧ (∀ q ∈ J, ∃ p ∈ pre, q.1 = p.1) ∧ J.length ≤ pre.length ∧ env = [some (false, bkD bs), some (true, .list (J.map pr2)), x2, x3]) NoE NoD rfl
        ⟨[], none, none, ⟨List.Pairwise.nil, fun q hq => (nomatch hq)⟩, fun y => Iff.rfl, fun q hq => (nomatch hq), by simp, rfl⟩ ?_ ?_ (fun _ z => z.elim) (fun _ z => z.elim)
      · rintro pre p post env hxs ⟨J, x2, x3, hJ, hcov, hbeg, hl, rfl⟩
        refine ⟨_, rfl, ?_⟩
        have hpv := c.v p (hp.mem_iff.mp (by rw [hxs]; simp))
        have hle : ∀ q ∈ J, q.1 ≤ p.1 := fun q hq => by
          obtain ⟨p', hp', e⟩ := hbeg q hq
          rw [hxs, List.pairwise_append] at hs
          have := hs.2.2 p' hp' p (List.mem_cons_self ..)
          unfold plt at this
          omega
        have hpre : pre.length < 1000000 := by
          have := congrArg List.length hxs
          rw [List.length_append, List.length_cons] at this
          omega
        have hlJ : (J.map pr2).length < 1000000 := by rw [List.length_map]; omega
        by_cases hne : J = []
        · subst hne
          simp only [startE_eq, kSet_ap, kSetG_ap, kIfS_ap, kIf0_ap, kRet_ap, kDrop_ap, kUnp_slot, kUnp2, kUnp3, kApp_ap, appR_ok, ownR_ok, augR_ok, kPar1_ap, kPar2_ap, kAug_ap, kForS_l, kForS_t, xSkip_ap, xSeq_skip, xSeq_seq, xSeq_set, xSeq_setG, xSeq_if, xSeq_ret, xSeq_retN, xSeq_raise, xSeq_drop, xSeq_brk, xSeq_cnt, xSeq_unp, xSeq_par, xSeq_app, xApp_ap, xSeq_aug, xAug_ap, xSeq_for, xSeq_forS, xSeq_forG, xFor_ap, xForS_ap, xForG_ap, xPar_ap, xSet_ap, xSetG_ap, xIf_ap, xRet_ap, xRetN_ap, xDrop_ap, xRaise_ap, xBreak_ap, xCont_ap, xUnp_ap, xSeq_put, xPut_ap, xSeq_putA, xPutA_ap, paK1_ap, paR1_ok, paX1_ok, paK2_ap, kPut1_ap, kPut2_ap, putR_ok, putJ_ok, kEv_ap, kEvG_ap, kEvL_ap, evS_ap, evG_ap, evL_ap, evA_t, evA_f, keepG_int, keepG_bool, keepG_none, keepG_tuple, keepG_list, flatL_nil, flatL_cons, vVar_ap, varR_ok, optR_ok, vC_ap, kB_ap, vBin_ap, vUn_ap, vTest_ap, kAnd_ap, kAnd2_ap, vAnd_ap, kOr_ap, kOr2_ap, vOr_ap, kNot_ap, kNot2_ap, vNot_ap, kIfE_ap, vIf_ap, kC3_ap, kC2_ap, kC1_ap, vChain_ap, kL_ap, kL2_ap, vL_nil, vL_cons, kTup_ap, kLst_ap, vTup_ap, vLst_ap, vCall_ap, kCut1_ap, kCut2_ap, kCut3_ap, vCut_ap, kPart_ap, vPart_none, vPart_some, kComp_ap, kCompO_ap, vComp_ap, wSeq_ap, wCall_ap, wipe_nil, wipe_cons, dMod_int, bindS_slot, bindS_tup, bindSs_nil, bindSs_slot, bindT_slot, bindT_tup, bindTs_nil, bindTs_slot, onR_ok, onR_exc, outR_rt, outR_nx, outR_exc, after_t, after_f, rb_ok, rb_exc, tr_bool, tr_none, tr_int, tr_list, tr_tuple, toB_bool, toI_int, dAdd_int, dSub_int, dNeg_int, dMul_l, dMul_r, dDiv_int, dLt_int, dLe_int, dGt_int, dGe_int, dEq_int, dNe_int, dEq_bool, dNe_bool, dIs_none, dIsNot_none, dIs_bool, isNone_none, isNone_int, isNone_bool, isNone_tuple, isNone_list, dIdx_list, dIdx_tuple, atI_0, atI_1, atI_2, dLen_list, dLen_tuple, dInt_int, dAbs_int, dTuple_list, dTuple_tuple, dList_list, dList_tuple, dSum_ints, dSum_intsT, dAll_bools, dMin_2, dMax_2, isi_int_int, isi_int_bool, isi_int_none, isi_int_tuple, isi_int_list, isi_bool_int, isi_bool_bool, isi_tuple_tuple, isi_tuple_int, isi_tuple_none, isi_list_list, asSeq_list, asSeq_tuple, iEnum_list, iEnum_tuple, iZip_list, iZip_tuple, dCut_list, dCut_tuple, flat_none, flat_bool, flat_int, flat_str, flat_tuple, flat_list, flatL_ints, flatL_bools, isL_list, isL_int, isL_bool, isL_tuple, isL_none, mview_nil, mview_cons, mv1_f, mv1_n, mv1_t, freeze_nil, freeze_cons, fr1_f, fr1_n, fr1_t, List.set_cons_zero, List.set_cons_succ, List.map_cons, List.map_nil, List.length_cons, List.length_nil, List.replicate_succ, List.replicate_zero, List.cons_append, List.nil_append, List.getElem?_cons_zero, List.getElem?_cons_succ, List.mem_cons, List.not_mem_nil, or_false, false_or, or_true, true_or, if_true, if_false, Bool.false_eq_true, Bool.not_true, Bool.not_false, decide_true, decide_false, and_self, true_and, and_true, Bool.true_and, Bool.and_true, Bool.and_self, Bool.false_and, Bool.and_false, ↓reduceIte, reduceIte, Int.reduceLT, Int.reduceLE, Int.reduceNeg, Int.reduceAdd, Int.reduceSub, Int.reduceMul, Int.reduceToNat, Nat.reduceLT, Nat.reduceLeDiff, Nat.reduceEqDiff, Nat.reduceAdd, Nat.reduceSub, Nat.reduceMul, reduceCtorEq, Int.cast_ofNat_Int, Int.natCast_one, Int.natCast_zero, Int.reduceEq, vMeth_ap, kMeth_l, dRev_list, dCount_ints, kRem_ap, xSeq_rem, xSeq_ext, xExt_ap, kExt_ap, xSeq_pop, xPop_ap, popR_ok, xRem_ap, xSeq_try, xTryL_ap, kTry_nx, kTry_rt, kTry_exc, tryR_rt, tryR_nx, tryR_no, handL_cons, wipeS_nil, wipeS_cons, cv_s, cv_b, cv_i, pr2, List.isEmpty_nil, hlJ]
          refine turn_nx ⟨[p], some (false, .int p.1), some (false, .int p.2), ⟨List.pairwise_singleton .., fun q hq => ?_⟩, fun y => ?_, fun q hq => ?_, by simp, rfl⟩
          · rw [List.mem_singleton] at hq
            subst hq
            exact hpv.2.1
          · rw [cov_snoc, hcov, cov_cons]
            exact Or.comm
          · rw [List.mem_singleton] at hq
            subst hq
            exact ⟨q, by simp, rfl⟩
        · obtain ⟨J0, q, rfl⟩ := snoc_of hne
          obtain ⟨s0, q1, q2⟩ := sep_snoc.mp hJ
          have a1 : atI ((J0 ++ [q]).map pr2) (-1) = some (pr2 q) := atI_last (n := J0.length) (by simp) (by simp)
          have a2 : ixN ((J0 ++ [q]).map pr2).length (-1) = some J0.length := by rw [List.length_map, List.length_append]; exact ixN_last _
          have a3 : ∀ x : Int × Int, ((J0 ++ [q]).map pr2).set J0.length (pr2 x) = (J0 ++ [x]).map pr2 := fun x => by simp
          have a4 : ((J0 ++ [q]).map pr2).isEmpty = false := by simp
          have hq := hle q (by simp)
          generalize hM : (J0 ++ [q]).map pr2 = M at a1 a2 a3 a4 hlJ
          by_cases hcmp : p.1 ≤ q.2
          · simp only [startE_eq, kSet_ap, kSetG_ap, kIfS_ap, kIf0_ap, kRet_ap, kDrop_ap, kUnp_slot, kUnp2, kUnp3, kApp_ap, appR_ok, ownR_ok, augR_ok, kPar1_ap, kPar2_ap, kAug_ap, kForS_l, kForS_t, xSkip_ap, xSeq_skip, xSeq_seq, xSeq_set, xSeq_setG, xSeq_if, xSeq_ret, xSeq_retN, xSeq_raise, xSeq_drop, xSeq_brk, xSeq_cnt, xSeq_unp, xSeq_par, xSeq_app, xApp_ap, xSeq_aug, xAug_ap, xSeq_for, xSeq_forS, xSeq_forG, xFor_ap, xForS_ap, xForG_ap, xPar_ap, xSet_ap, xSetG_ap, xIf_ap, xRet_ap, xRetN_ap, xDrop_ap, xRaise_ap, xBreak_ap, xCont_ap, xUnp_ap, xSeq_put, xPut_ap, xSeq_putA, xPutA_ap, paK1_ap, paR1_ok, paX1_ok, paK2_ap, kPut1_ap, kPut2_ap, putR_ok, putJ_ok, kEv_ap, kEvG_ap, kEvL_ap, evS_ap, evG_ap, evL_ap, evA_t, evA_f, keepG_int, keepG_bool, keepG_none, keepG_tuple, keepG_list, flatL_nil, flatL_cons, vVar_ap, varR_ok, optR_ok, vC_ap, kB_ap, vBin_ap, vUn_ap, vTest_ap, kAnd_ap, kAnd2_ap, vAnd_ap, kOr_ap, kOr2_ap, vOr_ap, kNot_ap, kNot2_ap, vNot_ap, kIfE_ap, vIf_ap, kC3_ap, kC2_ap, kC1_ap, vChain_ap, kL_ap, kL2_ap, vL_nil, vL_cons, kTup_ap, kLst_ap, vTup_ap, vLst_ap, vCall_ap, kCut1_ap, kCut2_ap, kCut3_ap, vCut_ap, kPart_ap, vPart_none, vPart_some, kComp_ap, kCompO_ap, vComp_ap, wSeq_ap, wCall_ap, wipe_nil, wipe_cons, dMod_int, bindS_slot, bindS_tup, bindSs_nil, bindSs_slot, bindT_slot, bindT_tup, bindTs_nil, bindTs_slot, onR_ok, onR_exc, outR_rt, outR_nx, outR_exc, after_t, after_f, rb_ok, rb_exc, tr_bool, tr_none, tr_int, tr_list, tr_tuple, toB_bool, toI_int, dAdd_int, dSub_int, dNeg_int, dMul_l, dMul_r, dDiv_int, dLt_int, dLe_int, dGt_int, dGe_int, dEq_int, dNe_int, dEq_bool, dNe_bool, dIs_none, dIsNot_none, dIs_bool, isNone_none, isNone_int, isNone_bool, isNone_tuple, isNone_list, dIdx_list, dIdx_tuple, atI_0, atI_1, atI_2, dLen_list, dLen_tuple, dInt_int, dAbs_int, dTuple_list, dTuple_tuple, dList_list, dList_tuple, dSum_ints, dSum_intsT, dAll_bools, dMin_2, dMax_2, isi_int_int, isi_int_bool, isi_int_none, isi_int_tuple, isi_int_list, isi_bool_int, isi_bool_bool, isi_tuple_tuple, isi_tuple_int, isi_tuple_none, isi_list_list, asSeq_list, asSeq_tuple, iEnum_list, iEnum_tuple, iZip_list, iZip_tuple, dCut_list, dCut_tuple, flat_none, flat_bool, flat_int, flat_str, flat_tuple, flat_list, flatL_ints, flatL_bools, isL_list, isL_int, isL_bool, isL_tuple, isL_none, mview_nil, mview_cons, mv1_f, mv1_n, mv1_t, freeze_nil, freeze_cons, fr1_f, fr1_n, fr1_t, List.set_cons_zero, List.set_cons_succ, List.map_cons, List.map_nil, List.length_cons, List.length_nil, List.replicate_succ, List.replicate_zero, List.cons_append, List.nil_append, List.getElem?_cons_zero, List.getElem?_cons_succ, List.mem_cons, List.not_mem_nil, or_false, false_or, or_true, true_or, if_true, if_false, Bool.false_eq_true, Bool.not_true, Bool.not_false, decide_true, decide_false, and_self, true_and, and_true, Bool.true_and, Bool.and_true, Bool.and_self, Bool.false_and, Bool.and_false, ↓reduceIte, reduceIte, Int.reduceLT, Int.reduceLE, Int.reduceNeg, Int.reduceAdd, Int.reduceSub, Int.reduceMul, Int.reduceToNat, Nat.reduceLT, Nat.reduceLeDiff, Nat.reduceEqDiff, Nat.reduceAdd, Nat.reduceSub, Nat.reduceMul, reduceCtorEq, Int.cast_ofNat_Int, Int.natCast_one, Int.natCast_zero, Int.reduceEq, vMeth_ap, kMeth_l, dRev_list, dCount_ints, kRem_ap, xSeq_rem, xSeq_ext, xExt_ap, kExt_ap, xSeq_pop, xPop_ap, popR_ok, xRem_ap, xSeq_try, xTryL_ap, kTry_nx, kTry_rt, kTry_exc, tryR_rt, tryR_nx, tryR_no, handL_cons, wipeS_nil, wipeS_cons, cv_s, cv_b, cv_i, a4, a1, pr2, hcmp, a2]
            have a5 := a3 (q.1, if p.2 > q.2 then p.2 else q.2)
            simp only [pr2] at a5
            refine turn_nx ⟨J0 ++ [(q.1, if p.2 > q.2 then p.2 else q.2)], some (false, .int p.1), some (false, .int p.2), sep_snoc.mpr ⟨s0, by show q.1 < if p.2 > q.2 then p.2 else q.2; split <;> omega, q2⟩, fun y => ?_, fun z hz => ?_, by simp at hl ⊢; omega, by rw [a5]⟩
            · rw [cov_snoc, hcov, cov_snoc, cov_snoc]
              show (covP J0 y ∨ q.1 ≤ y ∧ y < q.2) ∨ p.1 ≤ y ∧ y < p.2 ↔ covP J0 y ∨ q.1 ≤ y ∧ y < if p.2 > q.2 then p.2 else q.2
              have : (q.1 ≤ y ∧ y < if p.2 > q.2 then p.2 else q.2) ↔ (q.1 ≤ y ∧ y < q.2) ∨ (p.1 ≤ y ∧ y < p.2) := by
                split <;> omega
              rw [this, or_assoc]
            · rcases List.mem_append.mp hz with hz | hz
              · obtain ⟨p', h1, h2⟩ := hbeg z (List.mem_append_left _ hz)
                exact ⟨p', List.mem_append_left _ h1, h2⟩
              · rw [List.mem_singleton] at hz
                subst hz
                obtain ⟨p', h1, h2⟩ := hbeg q (by simp)
                exact ⟨p', List.mem_append_left _ h1, h2⟩
          · simp only [startE_eq, kSet_ap, kSetG_ap, kIfS_ap, kIf0_ap, kRet_ap, kDrop_ap, kUnp_slot, kUnp2, kUnp3, kApp_ap, appR_ok, ownR_ok, augR_ok, kPar1_ap, kPar2_ap, kAug_ap, kForS_l, kForS_t, xSkip_ap, xSeq_skip, xSeq_seq, xSeq_set, xSeq_setG, xSeq_if, xSeq_ret, xSeq_retN, xSeq_raise, xSeq_drop, xSeq_brk, xSeq_cnt, xSeq_unp, xSeq_par, xSeq_app, xApp_ap, xSeq_aug, xAug_ap, xSeq_for, xSeq_forS, xSeq_forG, xFor_ap, xForS_ap, xForG_ap, xPar_ap, xSet_ap, xSetG_ap, xIf_ap, xRet_ap, xRetN_ap, xDrop_ap, xRaise_ap, xBreak_ap, xCont_ap, xUnp_ap, xSeq_put, xPut_ap, xSeq_putA, xPutA_ap, paK1_ap, paR1_ok, paX1_ok, paK2_ap, kPut1_ap, kPut2_ap, putR_ok, putJ_ok, kEv_ap, kEvG_ap, kEvL_ap, evS_ap, evG_ap, evL_ap, evA_t, evA_f, keepG_int, keepG_bool, keepG_none, keepG_tuple, keepG_list, flatL_nil, flatL_cons, vVar_ap, varR_ok, optR_ok, vC_ap, kB_ap, vBin_ap, vUn_ap, vTest_ap, kAnd_ap, kAnd2_ap, vAnd_ap, kOr_ap, kOr2_ap, vOr_ap, kNot_ap, kNot2_ap, vNot_ap, kIfE_ap, vIf_ap, kC3_ap, kC2_ap, kC1_ap, vChain_ap, kL_ap, kL2_ap, vL_nil, vL_cons, kTup_ap, kLst_ap, vTup_ap, vLst_ap, vCall_ap, kCut1_ap, kCut2_ap, kCut3_ap, vCut_ap, kPart_ap, vPart_none, vPart_some, kComp_ap, kCompO_ap, vComp_ap, wSeq_ap, wCall_ap, wipe_nil, wipe_cons, dMod_int, bindS_slot, bindS_tup, bindSs_nil, bindSs_slot, bindT_slot, bindT_tup, bindTs_nil, bindTs_slot, onR_ok, onR_exc, outR_rt, outR_nx, outR_exc, after_t, after_f, rb_ok, rb_exc, tr_bool, tr_none, tr_int, tr_list, tr_tuple, toB_bool, toI_int, dAdd_int, dSub_int, dNeg_int, dMul_l, dMul_r, dDiv_int, dLt_int, dLe_int, dGt_int, dGe_int, dEq_int, dNe_int, dEq_bool, dNe_bool, dIs_none, dIsNot_none, dIs_bool, isNone_none, isNone_int, isNone_bool, isNone_tuple, isNone_list, dIdx_list, dIdx_tuple, atI_0, atI_1, atI_2, dLen_list, dLen_tuple, dInt_int, dAbs_int, dTuple_list, dTuple_tuple, dList_list, dList_tuple, dSum_ints, dSum_intsT, dAll_bools, dMin_2, dMax_2, isi_int_int, isi_int_bool, isi_int_none, isi_int_tuple, isi_int_list, isi_bool_int, isi_bool_bool, isi_tuple_tuple, isi_tuple_int, isi_tuple_none, isi_list_list, asSeq_list, asSeq_tuple, iEnum_list, iEnum_tuple, iZip_list, iZip_tuple, dCut_list, dCut_tuple, flat_none, flat_bool, flat_int, flat_str, flat_tuple, flat_list, flatL_ints, flatL_bools, isL_list, isL_int, isL_bool, isL_tuple, isL_none, mview_nil, mview_cons, mv1_f, mv1_n, mv1_t, freeze_nil, freeze_cons, fr1_f, fr1_n, fr1_t, List.set_cons_zero, List.set_cons_succ, List.map_cons, List.map_nil, List.length_cons, List.length_nil, List.replicate_succ, List.replicate_zero, List.cons_append, List.nil_append, List.getElem?_cons_zero, List.getElem?_cons_succ, List.mem_cons, List.not_mem_nil, or_false, false_or, or_true, true_or, if_true, if_false, Bool.false_eq_true, Bool.not_true, Bool.not_false, decide_true, decide_false, and_self, true_and, and_true, Bool.true_and, Bool.and_true, Bool.and_self, Bool.false_and, Bool.and_false, ↓reduceIte, reduceIte, Int.reduceLT, Int.reduceLE, Int.reduceNeg, Int.reduceAdd, Int.reduceSub, Int.reduceMul, Int.reduceToNat, Nat.reduceLT, Nat.reduceLeDiff, Nat.reduceEqDiff, Nat.reduceAdd, Nat.reduceSub, Nat.reduceMul, reduceCtorEq, Int.cast_ofNat_Int, Int.natCast_one, Int.natCast_zero, Int.reduceEq, vMeth_ap, kMeth_l, dRev_list, dCount_ints, kRem_ap, xSeq_rem, xSeq_ext, xExt_ap, kExt_ap, xSeq_pop, xPop_ap, popR_ok, xRem_ap, xSeq_try, xTryL_ap, kTry_nx, kTry_rt, kTry_exc, tryR_rt, tryR_nx, tryR_no, handL_cons, wipeS_nil, wipeS_cons, cv_s, cv_b, cv_i, a4, a1, pr2, hcmp, hlJ]
            refine turn_nx ⟨J0 ++ [q] ++ [p], some (false, .int p.1), some (false, .int p.2), sep_snoc.mpr ⟨hJ, hpv.2.1, fun z hz => ?_⟩, fun y => ?_, fun z hz => ?_, by simp at hl ⊢; omega, by rw [List.map_append, hM]; rfl⟩
            · rcases List.mem_append.mp hz with hz | hz
              · have := q2 z hz
                omega
              · rw [List.mem_singleton] at hz
                subst hz
                omega
            · rw [cov_snoc, hcov, cov_snoc (r := J0 ++ [q])]
            · rcases List.mem_append.mp hz with hz | hz
              · obtain ⟨p', h1, h2⟩ := hbeg z hz
                exact ⟨p', List.mem_append_left _ h1, h2⟩
              · rw [List.mem_singleton] at hz
                subst hz
                exact ⟨z, by simp, rfl⟩
      · rintro env ⟨J, x2, x3, hJ, hcov, hbeg, hl, rfl⟩
        rw [← hP]
        refine ⟨J, hJ, hcov, ?_⟩
        simp only [startE_eq, kSet_ap, kSetG_ap, kIfS_ap, kIf0_ap, kRet_ap, kDrop_ap, kUnp_slot, kUnp2, kUnp3, kApp_ap, appR_ok, ownR_ok, augR_ok, kPar1_ap, kPar2_ap, kAug_ap, kForS_l, kForS_t, xSkip_ap, xSeq_skip, xSeq_seq, xSeq_set, xSeq_setG, xSeq_if, xSeq_ret, xSeq_retN, xSeq_raise, xSeq_drop, xSeq_brk, xSeq_cnt, xSeq_unp, xSeq_par, xSeq_app, xApp_ap, xSeq_aug, xAug_ap, xSeq_for, xSeq_forS, xSeq_forG, xFor_ap, xForS_ap, xForG_ap, xPar_ap, xSet_ap, xSetG_ap, xIf_ap, xRet_ap, xRetN_ap, xDrop_ap, xRaise_ap, xBreak_ap, xCont_ap, xUnp_ap, xSeq_put, xPut_ap, xSeq_putA, xPutA_ap, paK1_ap, paR1_ok, paX1_ok, paK2_ap, kPut1_ap, kPut2_ap, putR_ok, putJ_ok, kEv_ap, kEvG_ap, kEvL_ap, evS_ap, evG_ap, evL_ap, evA_t, evA_f, keepG_int, keepG_bool, keepG_none, keepG_tuple, keepG_list, flatL_nil, flatL_cons, vVar_ap, varR_ok, optR_ok, vC_ap, kB_ap, vBin_ap, vUn_ap, vTest_ap, kAnd_ap, kAnd2_ap, vAnd_ap, kOr_ap, kOr2_ap, vOr_ap, kNot_ap, kNot2_ap, vNot_ap, kIfE_ap, vIf_ap, kC3_ap, kC2_ap, kC1_ap, vChain_ap, kL_ap, kL2_ap, vL_nil, vL_cons, kTup_ap, kLst_ap, vTup_ap, vLst_ap, vCall_ap, kCut1_ap, kCut2_ap, kCut3_ap, vCut_ap, kPart_ap, vPart_none, vPart_some, kComp_ap, kCompO_ap, vComp_ap, wSeq_ap, wCall_ap, wipe_nil, wipe_cons, dMod_int, bindS_slot, bindS_tup, bindSs_nil, bindSs_slot, bindT_slot, bindT_tup, bindTs_nil, bindTs_slot, onR_ok, onR_exc, outR_rt, outR_nx, outR_exc, after_t, after_f, rb_ok, rb_exc, tr_bool, tr_none, tr_int, tr_list, tr_tuple, toB_bool, toI_int, dAdd_int, dSub_int, dNeg_int, dMul_l, dMul_r, dDiv_int, dLt_int, dLe_int, dGt_int, dGe_int, dEq_int, dNe_int, dEq_bool, dNe_bool, dIs_none, dIsNot_none, dIs_bool, isNone_none, isNone_int, isNone_bool, isNone_tuple, isNone_list, dIdx_list, dIdx_tuple, atI_0, atI_1, atI_2, dLen_list, dLen_tuple, dInt_int, dAbs_int, dTuple_list, dTuple_tuple, dList_list, dList_tuple, dSum_ints, dSum_intsT, dAll_bools, dMin_2, dMax_2, isi_int_int, isi_int_bool, isi_int_none, isi_int_tuple, isi_int_list, isi_bool_int, isi_bool_bool, isi_tuple_tuple, isi_tuple_int, isi_tuple_none, isi_list_list, asSeq_list, asSeq_tuple, iEnum_list, iEnum_tuple, iZip_list, iZip_tuple, dCut_list, dCut_tuple, flat_none, flat_bool, flat_int, flat_str, flat_tuple, flat_list, flatL_ints, flatL_bools, isL_list, isL_int, isL_bool, isL_tuple, isL_none, mview_nil, mview_cons, mv1_f, mv1_n, mv1_t, freeze_nil, freeze_cons, fr1_f, fr1_n, fr1_t, List.set_cons_zero, List.set_cons_succ, List.map_cons, List.map_nil, List.length_cons, List.length_nil, List.replicate_succ, List.replicate_zero, List.cons_append, List.nil_append, List.getElem?_cons_zero, List.getElem?_cons_succ, List.mem_cons, List.not_mem_nil, or_false, false_or, or_true, true_or, if_true, if_false, Bool.false_eq_true, Bool.not_true, Bool.not_false, decide_true, decide_false, and_self, true_and, and_true, Bool.true_and, Bool.and_true, Bool.and_self, Bool.false_and, Bool.and_false, ↓reduceIte, reduceIte, Int.reduceLT, Int.reduceLE, Int.reduceNeg, Int.reduceAdd, Int.reduceSub, Int.reduceMul, Int.reduceToNat, Nat.reduceLT, Nat.reduceLeDiff, Nat.reduceEqDiff, Nat.reduceAdd, Nat.reduceSub, Nat.reduceMul, reduceCtorEq, Int.cast_ofNat_Int, Int.natCast_one, Int.natCast_zero, Int.reduceEq, vMeth_ap, kMeth_l, dRev_list, dCount_ints, kRem_ap, xSeq_rem, xSeq_ext, xExt_ap, kExt_ap, xSeq_pop, xPop_ap, popR_ok, xRem_ap, xSeq_try, xTryL_ap, kTry_nx, kTry_rt, kTry_exc, tryR_rt, tryR_nx, tryR_no, handL_cons, wipeS_nil, wipeS_cons, cv_s, cv_b, cv_i]
        rfl
    rw [← hP] at goal
    obtain ⟨J, h1, h2, h3⟩ := goal
    exact ⟨J, h1, h2, runFn_eq rfl h3⟩
  obtain ⟨J, h1, h2, h3⟩ := key
  refine ⟨J, h1, fun y => ?_, h3⟩
  rw [← h2]
  unfold covP
  exact ⟨fun ⟨q, h, h'⟩ => ⟨q, hp.mem_iff.mpr h, h'⟩, fun ⟨q, h, h'⟩ => ⟨q, hp.mem_iff.mp h, h'⟩⟩
/-! the law's way through the years -/
def ScanI (bs : List (Int × Int)) (k : Int) (J : List (Int × Int)) : Option Int → Prop
  | none => SepJ J ∧ (∀ y, covP J y ↔ covP bs y ∧ y < k) ∧ ∀ q ∈ J, q.2 < k
  | some b => SepJ J ∧ b < k ∧ (∀ y, b ≤ y → y < k → covP bs y) ∧ (∀ y, covP J y ↔ covP bs y ∧ y < b) ∧ ∀ q ∈ J, q.2 < b
theorem scan_0 {bs : List (Int × Int)} (c : Bk bs) : ScanI bs 0 [] none := by
  refine ⟨⟨List.Pairwise.nil, fun q hq => (nomatch hq)⟩, fun y => ⟨fun h => absurd h (cov_nil _), fun ⟨⟨q, hq, h1, _⟩, h⟩ => ?_⟩, fun q hq => (nomatch hq)⟩
  have := (c.v q hq).1
  omega
section
variable {bs : List (Int × Int)} {k b : Int} {J : List (Int × Int)}
theorem scan_in0 (h : ScanI bs k J none) (hc : covP bs k) : ScanI bs (k + 1) J (some k) := by
  obtain ⟨h1, h2, h3⟩ := h
  refine ⟨h1, by omega, fun y a b => ?_, h2, h3⟩
  have : y = k := by omega
  subst this
  exact hc
theorem scan_in1 (h : ScanI bs k J (some b)) (hc : covP bs k) : ScanI bs (k + 1) J (some b) := by
  obtain ⟨h1, h2, h3, h4⟩ := h
  refine ⟨h1, by omega, fun y a b => ?_, h4⟩
  by_cases e : y = k
  · subst e
    exact hc
  · exact h3 y a (by omega)
theorem scan_out0 (h : ScanI bs k J none) (hc : ¬ covP bs k) : ScanI bs (k + 1) J none := by
  obtain ⟨h1, h2, h3⟩ := h
  refine ⟨h1, fun y => ?_, fun q hq => by have := h3 q hq; omega⟩
  rw [h2]
  refine and_congr_right fun hy => ⟨fun z => by omega, fun z => ?_⟩
  by_cases e : y = k
  · subst e
    exact absurd hy hc
  · omega
theorem scan_out1 (h : ScanI bs k J (some b)) (hc : ¬ covP bs k) : ScanI bs (k + 1) (J ++ [(b, k)]) none := by
  obtain ⟨h1, h2, h3, h4, h5⟩ := h
  refine ⟨sep_snoc.mpr ⟨h1, h2, h5⟩, fun y => ?_, fun q hq => ?_⟩
  · rw [cov_snoc, h4]
    constructor
    · rintro (⟨z1, z2⟩ | ⟨z1, z2⟩)
      · exact ⟨z1, by omega⟩
      · have z1 : b ≤ y := z1
        have z2 : y < k := z2
        exact ⟨h3 y z1 z2, by omega⟩
    · rintro ⟨z1, z2⟩
      by_cases e : y < b
      · exact .inl ⟨z1, e⟩
      · refine .inr ⟨by show b ≤ y; omega, ?_⟩
        show y < k
        by_cases e : y = k
        · subst e
          exact absurd z1 hc
        · omega
  · rcases List.mem_append.mp hq with hq | hq
    · have := h5 q hq
      omega
    · rw [List.mem_singleton] at hq
      subst hq
      show k < k + 1
      omega
theorem scan_end (c : Bk bs) {o : Option Int} (h : ScanI bs 62 J o) : SepJ J ∧ ∀ y, covP bs y ↔ covP J y := by
  have hi : ∀ y, covP bs y → y < 60 := fun y ⟨q, hq, _, h⟩ => by
    have := (c.v q hq).2.2
    omega
  cases o with
  | none =>
    refine ⟨h.1, fun y => ?_⟩
    rw [h.2.1]
    exact ⟨fun z => ⟨z, by have := hi y z; omega⟩, fun z => z.1⟩
  | some b =>
    obtain ⟨_, h2, h3, _⟩ := h
    have := hi 61 (h3 61 (by omega) (by omega))
    omega
theorem cov_dep {y : Int} : covP bs y ↔ 0 < dep bs y := by
  unfold dep covP
  rw [List.length_pos_iff_exists_mem]
  constructor
  · rintro ⟨q, h, h2⟩
    exact ⟨q, List.mem_filter.mpr ⟨h, tl_iff.mpr h2⟩⟩
  · rintro ⟨q, h⟩
    rw [List.mem_filter] at h
    exact ⟨q, h.1, tl_iff.mp h.2⟩
end
end K68


set_option Elab.async false
set_option linter.all false
set_option maxRecDepth 100000
set_option maxHeartbeats 1000000
namespace K68
open PySem PySem.Spec PyProof.Rows L2 SH
/-! the order: by stretch, then by number -/
def keyD (bs : List (Int × Int)) (k : Nat) : D := .tuple [pr2 (at2 bs k), natD k]
def ordK (bs : List (Int × Int)) : List Nat := (List.range bs.length).mergeSort (PySem.W.dataLe false (keyD bs))
theorem ordK_perm (bs : List (Int × Int)) : (ordK bs).Perm (List.range bs.length) := List.mergeSort_perm _ _
theorem eqv_pr2 (p q : Int × Int) : PyData.eqv (pr2 p) (pr2 q) = (decide (p.1 = q.1) && decide (p.2 = q.2)) := by
  unfold pr2
  rw [eqv_tuple, eqvAll_cons, eqvAll_cons, eqvAll_nil, eqv_int, eqv_int, Bool.and_true]
theorem ordK_sorted (bs : List (Int × Int)) : (ordK bs).Pairwise fun j k => (at2 bs j).1 ≤ (at2 bs k).1 := by
  have h := PySem.W.sortLe_total (α := Nat) (PyProof.Rows.listOrd PyProof.Rows.itemOrd) false (fun k => PySem.W.keyToks (keyD bs k))
  have := List.pairwise_mergeSort (le := PySem.W.dataLe false (keyD bs)) h.trans (fun a b => by rw [Bool.or_eq_true]; exact h.total a b) (List.range bs.length)
  refine this.imp fun {a b} hab => ?_
  have hab : (!PySem.W.dataLt (keyD bs b) (keyD bs a)) = true := hab
  unfold keyD at hab
  rw [PySem.W.dataLt_pair (pr2_alike _ _) rfl, eqv_pr2, pr2_lt] at hab
  have key : ¬ (at2 bs b).1 < (at2 bs a).1 := fun hlt => by
    rw [decide_eq_false (show ¬ (at2 bs b).1 = (at2 bs a).1 by omega), Bool.false_and, if_neg Bool.false_ne_true, decide_eq_true (show plt (at2 bs b) (at2 bs a) from .inl hlt)] at hab
    cases hab
  omega
theorem keys_sortB (bs : List (Int × Int)) (l : List Nat) : sortB (l.map (keyD bs)) = true := by
  unfold sortB alikeB
  rw [Bool.and_eq_true, Bool.and_eq_true, Bool.or_eq_true]
  refine ⟨?_, .inl ?_, ?_⟩ <;> simp only [List.all_map, List.all_eq_true, Function.comp] <;> intros <;> rfl
theorem sortK_ord {bs : List (Int × Int)} {s1 s2 s3 s4 s5 : Option D} (hl : bs.length ≤ 10) :
    vSortK1 (qTup [(qBin dIdxK (qCap 0) qPar), qPar]) [some (bkD bs), s1, s2, s3, s4, s5] [.list ((List.range bs.length).map natD)] = .ok (.list ((ordK bs).map natD)) := by
  refine sortK_list (enc := natD) (key := keyD bs) (fun k hk => ?_) (keys_sortB bs _) (fun k _ => rfl) (fun k _ => rfl)
  have hk := List.mem_range.mp hk
  have ok : okEq 9 (bkD bs) = true := by
    unfold bkD
    show (bs.map pr2).all (okEq 8) = true
    rw [List.all_map, List.all_eq_true]
    exact fun _ _ => rfl
  have a1 : atI (bs.map pr2) (k : Int) = some (pr2 (at2 bs k)) := atI_map (at2_get hk)
  have hl2 : (bs.map pr2).length ≤ 1000000 := by rw [List.length_map]; omega
  have e1 : dIdxK (bkD bs) (natD k) = .ok (pr2 (at2 bs k)) := by
    unfold bkD natD
    rw [dIdxK_tuple, a1, limR_ok hl2]
  have e2 : qCap 0 (natD k) [some (bkD bs), s1, s2, s3, s4, s5] = .ok (bkD bs) := by
    rw [qCap_ap]
    exact capR_ok ok
  have e3 : qBin dIdxK (qCap 0) qPar (natD k) [some (bkD bs), s1, s2, s3, s4, s5] = .ok (pr2 (at2 bs k)) := by
    rw [qBin_ap, e2, rb_ok, qBinK_ap, qPar_ap, rb_ok, e1]
  simp only [qTup_ap, qTupL_cons, e3, rb_ok, qTupC_ap, qPar_ap, qTupL_nil, qTupC2_ap, qTup1_ap]
  rfl
theorem sort_law {bs : List (Int × Int)} : dSorted [.list ((List.range bs.length).map (keyD bs))] = .ok (.list ((ordK bs).map (keyD bs))) := by
  show (if sortB ((List.range bs.length).map (keyD bs)) then Res.ok (PyData.list (((List.range bs.length).map (keyD bs)).mergeSort ddle)) else .stuck) = _
  rw [keys_sortB, if_pos rfl]
  unfold ordK
  rw [List.map_mergeSort (r := PySem.W.dataLe false (keyD bs)) (s := ddle) (f := keyD bs) (l := List.range bs.length) fun a _ b _ => rfl]
/-! piles -/
def meetsB (bs : List (Int × Int)) (j k : Nat) : Bool := decide ((at2 bs j).1 < (at2 bs k).2) && decide ((at2 bs k).1 < (at2 bs j).2)
def oD : Option Nat → D
  | none => .none
  | some c => natD c
def pl (P : List (Option Nat)) (j : Nat) : Option Nat := P.getD j none
def takenF (bs : List (Int × Int)) (P : List (Option Nat)) (k j : Nat) : Option Nat := if meetsB bs j k = true then pl P j else none
def takenOf (bs : List (Int × Int)) (P : List (Option Nat)) (k : Nat) : List Nat := (List.range bs.length).filterMap (takenF bs P k)
def freeOf (n : Nat) (t : List Nat) : Nat := (((List.range n).filter fun p => !decide (p ∈ t)).head?).getD 0
def stepP (bs : List (Int × Int)) (P : List (Option Nat)) (k : Nat) : List (Option Nat) := P.set k (some (freeOf bs.length (takenOf bs P k)))
theorem mem_taken {bs : List (Int × Int)} {P : List (Option Nat)} {k i : Nat} : i ∈ takenOf bs P k ↔ ∃ j, j < bs.length ∧ meetsB bs j k = true ∧ pl P j = some i := by
  unfold takenOf takenF
  rw [List.mem_filterMap]
  constructor
  · rintro ⟨j, hj, h⟩
    split at h
    · rename_i hm
      exact ⟨j, List.mem_range.mp hj, hm, h⟩
    · cases h
  · rintro ⟨j, hj, hm, h⟩
    exact ⟨j, List.mem_range.mpr hj, by rw [if_pos hm]; exact h⟩
theorem free_is {n : Nat} {t : List Nat} {u : Nat} (hu : u < n) (hut : u ∉ t) : ((List.range n).filter fun p => !decide (p ∈ t)).head? = some (freeOf n t) ∧ freeOf n t ∉ t ∧ freeOf n t ≤ u ∧ ∀ i, i < freeOf n t → i ∈ t := by
  have hmem : u ∈ (List.range n).filter fun p => !decide (p ∈ t) := List.mem_filter.mpr ⟨List.mem_range.mpr hu, by simpa using hut⟩
  obtain ⟨m, hm⟩ : ∃ m, ((List.range n).filter fun p => !decide (p ∈ t)).head? = some m := by
    cases h : (List.range n).filter fun p => !decide (p ∈ t) with
    | nil => rw [h] at hmem; cases hmem
    | cons a r => exact ⟨a, rfl⟩
  have e : freeOf n t = m := by unfold freeOf; rw [hm]; rfl
  rw [e]
  refine ⟨hm, ?_⟩
  rw [List.head?_filter, List.find?_range_eq_some] at hm
  obtain ⟨h1, h2, h3⟩ := hm
  refine ⟨by simpa using h1, ?_, fun i hi => by simpa using h3 i hi⟩
  rcases Nat.lt_or_ge u m with h | h
  · have := h3 u h
    simp only [Bool.not_not, decide_eq_true_eq] at this
    exact absurd this hut
  · exact h
structure Col (bs : List (Int × Int)) (P : List (Option Nat)) (pre : List Nat) : Prop where
  len : P.length = bs.length
  lt : ∀ j ∈ pre, j < bs.length
  out : ∀ j, j ∉ pre → pl P j = none
  inn : ∀ j ∈ pre, ∃ c, pl P j = some c ∧ c < pre.length ∧ ∀ i, i < c → ∃ j' ∈ pre, (at2 bs j').1 ≤ (at2 bs j).1 ∧ meetsB bs j' j = true ∧ pl P j' = some i
  dif : ∀ j ∈ pre, ∀ j' ∈ pre, j ≠ j' → meetsB bs j j' = true → pl P j ≠ pl P j'
theorem pl_set {P : List (Option Nat)} {k j : Nat} {o : Option Nat} (hk : k < P.length) : pl (P.set k o) j = if j = k then o else pl P j := by
  unfold pl
  rw [List.getD_eq_getElem?_getD, List.getD_eq_getElem?_getD, List.getElem?_set]
  by_cases h : j = k
  · subst h
    simp [hk]
  · rw [if_neg h, if_neg (fun e => h e.symm)]
theorem meets_symm {bs : List (Int × Int)} {j k : Nat} : meetsB bs j k = meetsB bs k j := by
  unfold meetsB
  exact Bool.and_comm _ _
theorem col_new {bs : List (Int × Int)} {P : List (Option Nat)} {pre : List Nat} {k : Nat} (h : Col bs P pre) (hk : k ∉ pre) (hkn : k < bs.length) (hn : pre.length < bs.length) : pre.length ∉ takenOf bs P k := by
  intro hc
  obtain ⟨j, _, _, hj⟩ := mem_taken.mp hc
  by_cases hp : j ∈ pre
  · obtain ⟨c, h1, h2, _⟩ := h.inn j hp
    rw [hj] at h1
    cases h1
    omega
  · rw [h.out j hp] at hj
    cases hj
theorem col_step {bs : List (Int × Int)} {P : List (Option Nat)} {pre : List Nat} {k : Nat} (h : Col bs P pre) (hk : k ∉ pre) (hkn : k < bs.length) (hn : pre.length < bs.length) (hs : ∀ j ∈ pre, (at2 bs j).1 ≤ (at2 bs k).1) : Col bs (stepP bs P k) (pre ++ [k]) := by
  obtain ⟨_, f1, f2, f3⟩ := free_is hn (col_new h hk hkn hn)
  have hkP : k < P.length := by rw [h.len]; exact hkn
  have ps : ∀ j, pl (stepP bs P k) j = if j = k then some (freeOf bs.length (takenOf bs P k)) else pl P j := fun j => pl_set hkP
  generalize freeOf bs.length (takenOf bs P k) = m at f1 f2 f3 ps
  have ps1 : ∀ j ∈ pre, pl (stepP bs P k) j = pl P j := fun j hj => by
    rw [ps, if_neg fun e => hk (by rw [← e]; exact hj)]
  have ps2 : pl (stepP bs P k) k = some m := by rw [ps, if_pos rfl]
  refine ⟨by unfold stepP; rw [List.length_set]; exact h.len, fun j hj => ?_, fun j hj => ?_, fun j hj => ?_, fun j hj j' hj' hne hm => ?_⟩
  · rcases List.mem_append.mp hj with hj | hj
    · exact h.lt j hj
    · rw [List.mem_singleton] at hj
      subst hj
      exact hkn
  · rw [List.mem_append, List.mem_singleton, not_or] at hj
    rw [ps, if_neg hj.2]
    exact h.out j hj.1
  · rw [List.length_append]
    rcases List.mem_append.mp hj with hj | hj
    · obtain ⟨c, h1, h2, h3⟩ := h.inn j hj
      refine ⟨c, by rw [ps1 j hj]; exact h1, by simp; omega, fun i hi => ?_⟩
      obtain ⟨j', a1, a2, a3, a4⟩ := h3 i hi
      exact ⟨j', List.mem_append_left _ a1, a2, a3, by rw [ps1 j' a1]; exact a4⟩
    · rw [List.mem_singleton] at hj
      subst hj
      refine ⟨m, ps2, by simp; omega, fun i hi => ?_⟩
      obtain ⟨j', b1, b2, b3⟩ := mem_taken.mp (f3 i hi)
      have hp : j' ∈ pre := Classical.byContradiction fun hp => by
        rw [h.out j' hp] at b3
        cases b3
      exact ⟨j', List.mem_append_left _ hp, hs j' hp, b2, by rw [ps1 j' hp]; exact b3⟩
  · have key : ∀ j ∈ pre, meetsB bs j k = true → pl P j ≠ some m := fun j hj hm e => f1 (mem_taken.mpr ⟨j, h.lt j hj, hm, e⟩)
    rcases List.mem_append.mp hj with q1 | q1
    · rcases List.mem_append.mp hj' with q2 | q2
      · rw [ps1 j q1, ps1 j' q2]
        exact h.dif j q1 j' q2 hne hm
      · rw [List.mem_singleton] at q2
        rw [q2] at hm ⊢
        rw [ps1 j q1, ps2]
        exact key j q1 hm
    · rw [List.mem_singleton] at q1
      rw [q1] at hm hne ⊢
      rcases List.mem_append.mp hj' with q2 | q2
      · rw [ps1 j' q2, ps2]
        rw [meets_symm] at hm
        exact fun e => key j' q2 hm e.symm
      · rw [List.mem_singleton] at q2
        exact absurd q2.symm hne
theorem col_0 (bs : List (Int × Int)) : Col bs (List.replicate bs.length none) [] := by
  refine ⟨by simp, fun j hj => (nomatch hj), fun j _ => ?_, fun j hj => (nomatch hj), fun j hj => (nomatch hj)⟩
  unfold pl
  rw [List.getD_eq_getElem?_getD, List.getElem?_replicate]
  split <;> rfl
def pileP (bs : List (Int × Int)) (pre : List Nat) : List (Option Nat) := pre.foldl (stepP bs) (List.replicate bs.length none)
theorem ord_split {bs : List (Int × Int)} {pre post : List Nat} {k : Nat} (h : ordK bs = pre ++ k :: post) : k ∉ pre ∧ k < bs.length ∧ pre.length < bs.length ∧ ∀ j ∈ pre, (at2 bs j).1 ≤ (at2 bs k).1 := by
  have hp := ordK_perm bs
  have hn : (ordK bs).Nodup := hp.nodup_iff.mpr List.nodup_range
  have hs := ordK_sorted bs
  have hl := hp.length_eq
  have hm : k ∈ List.range bs.length := hp.mem_iff.mp (by rw [h]; simp)
  rw [h] at hn hs hl
  rw [List.pairwise_append] at hs
  refine ⟨fun hk => ?_, List.mem_range.mp hm, ?_, fun j hj => hs.2.2 j hj k (List.mem_cons_self ..)⟩
  · unfold List.Nodup at hn
    rw [List.pairwise_append] at hn
    exact hn.2.2 k hk k (List.mem_cons_self ..) rfl
  · rw [List.length_append, List.length_cons, List.length_range] at hl
    omega
theorem col_pre {bs : List (Int × Int)} : ∀ (n : Nat) (pre post : List Nat), pre.length = n → ordK bs = pre ++ post → Col bs (pileP bs pre) pre
  | 0, pre, post, hn, _ => by
    have := List.eq_nil_of_length_eq_zero hn
    subst this
    exact col_0 bs
  | n + 1, pre, post, hn, h => by
    have hne : pre ≠ [] := fun e => by rw [e] at hn; cases hn
    obtain ⟨pre', k, rfl⟩ : ∃ pre' k, pre = pre' ++ [k] := ⟨pre.dropLast, pre.getLast hne, (List.dropLast_concat_getLast hne).symm⟩
    rw [List.append_assoc] at h
    obtain ⟨h1, h2, h3, h4⟩ := ord_split (post := post) (k := k) (pre := pre') h
    have := col_pre n pre' ([k] ++ post) (by rw [List.length_append] at hn; simpa using hn) h
    unfold pileP at *
    rw [List.foldl_append]
    exact col_step this h1 h2 h3 h4
end K68


set_option Elab.async false
set_option linter.all false
set_option maxRecDepth 100000
set_option maxHeartbeats 1000000
namespace K68
open PySem PySem.Spec PyProof.Rows L2 SH
theorem dNotIn_nats {y : Nat} {ys : List Nat} : dNotIn (.int y) (.list (ys.map natD)) = .ok (.bool (!decide (y ∈ ys))) := by
  have h1 : (ys.map natD).all flat1 = true := by
    rw [List.all_map, List.all_eq_true]
    exact fun a _ => rfl
  have h2 : ((ys.map natD).any fun z => eq1 z (.int y)) = decide (y ∈ ys) := by
    rw [List.any_map, Bool.eq_iff_iff, List.any_eq_true, decide_eq_true_eq]
    constructor
    · rintro ⟨a, ha, hb⟩
      have hb : ((a : Int) == (y : Int)) = true := hb
      have : a = y := by
        have := eq_of_beq hb
        omega
      exact this ▸ ha
    · intro h
      exact ⟨y, h, by show ((y : Int) == (y : Int)) = true; simp⟩
  show (if flat1 (PyData.int y) && (ys.map natD).all flat1 then Res.ok (PyData.bool (!(ys.map natD).any fun z => eq1 z (.int y))) else if okEq 9 (PyData.int y) && okEq 9 (.list (ys.map natD)) then _ else _) = _
  rw [h1, h2]
  rfl
theorem fm_map {bs : List (Int × Int)} {P : List (Option Nat)} {k : Nat} : ((List.range bs.length).filterMap fun j => (takenF bs P k j).map natD) = (takenOf bs P k).map natD := by
  unfold takenOf
  rw [List.map_filterMap]
theorem P_at {P : List (Option Nat)} {j : Nat} (h : j < P.length) : atI (P.map oD) (j : Int) = some (oD (pl P j)) := by
  refine atI_map ?_
  unfold pl
  simp [h]
theorem P_set {P : List (Option Nat)} {k m : Nat} : (P.map oD).set k (natD m) = (P.set k (some m)).map oD := by
  rw [List.map_set]
  rfl
theorem none_list (n : Nat) (hn : n ≤ 10) : dMul (.list [.none]) (.int (n : Int)) = .ok (.list ((List.replicate n (none : Option Nat)).map oD)) := by
  rw [dMul_list (by omega), Int.toNat_natCast, List.map_replicate]
  rfl
/-- one that is asked for its pile: what the test says -/
theorem taken_turn {bs : List (Int × Int)} (hl : bs.length ≤ 10) {P : List (Option Nat)} {k j : Nat} (hk : k < bs.length) (hj : j < bs.length) (hP : P.length = bs.length) {d : SF} {cc : En → Res Bool} {en' : En} {f : Res (Option D)}
    (hf : ∀ b : Bool, (b = true → ∃ c, pl P j = some c ∧ d en' = .ok (natD c)) → cc en' = .ok b → f = .ok (if b = true then some (oD (pl P j)) else none))
    (hc : cc en' = .ok ((!isNone (oD (pl P j))) && meetsB bs j k)) (hd : ∀ c, pl P j = some c → d en' = .ok (natD c)) : f = .ok ((takenF bs P k j).map natD) := by
  rw [hf _ (fun hb => ?_) hc]
  · unfold takenF
    cases h : pl P j with
    | none => simp [oD, isNone]
    | some c =>
      have : isNone (oD (some c)) = false := rfl
      rw [this]
      cases meetsB bs j k <;> rfl
  · cases h : pl P j with
    | none => rw [h] at hb; simp [oD, isNone] at hb
    | some c => exact ⟨c, rfl, hd c h⟩
theorem piles_eq {bs : List (Int × Int)} (c : Bk bs) : f_subject_piles [bkD bs] = .ok (.tuple ((pileP bs (ordK bs)).map oD)) := by
  refine runFn_eq rfl ?_
  have hl := c.l1
  have n1 := need_eq c
  have fb := flat_bk bs
  have dl := bk_len bs
  have hm := none_list bs.length hl
  have hr1 : dLR1 (.int (bs.length : Int)) = .ok (.list ((List.range bs.length).map natD)) := by
    show (if rgB 0 (bs.length : Int) = true then Res.ok (PyData.list (rangeD 0 (bs.length : Int).toNat)) else .stuck) = _
    have h1 : rgB 0 (bs.length : Int) = true := by
      unfold rgB
      simp
      omega
    rw [h1, if_pos rfl, Int.toNat_natCast]
    have : rangeD 0 bs.length = (List.range bs.length).map natD := by
      show (List.range bs.length).map (fun i : Nat => PyData.int (0 + i)) = _
      refine List.map_congr_left fun k _ => ?_
      show PyData.int (0 + (k : Int)) = .int (k : Int)
      rw [Int.zero_add]
    rw [this]
  have hs : ∀ s1 s2 s3 s4 s5, _ := fun s1 s2 s3 s4 s5 => sortK_ord (s1 := s1) (s2 := s2) (s3 := s3) (s4 := s4) (s5 := s5) hl
  have fo : flatL ((ordK bs).map natD) = true := flatL_map fun _ _ => rfl
  have f0 : flatL ((List.replicate bs.length (none : Option Nat)).map oD) = true := flatL_map fun o _ => by cases o <;> rfl
  have hr : iRange [.int (bs.length : Int)] = .ok (rangeD 0 bs.length) := iRange_1 (by omega)
  simp only [startE_eq, kSet_ap, kSetG_ap, kIfS_ap, kIf0_ap, kRet_ap, kDrop_ap, kUnp_slot, kUnp2, kUnp3, kApp_ap, appR_ok, ownR_ok, augR_ok, kPar1_ap, kPar2_ap, kAug_ap, kForS_l, kForS_t, xSkip_ap, xSeq_skip, xSeq_seq, xSeq_set, xSeq_setG, xSeq_if, xSeq_ret, xSeq_retN, xSeq_raise, xSeq_drop, xSeq_brk, xSeq_cnt, xSeq_unp, xSeq_par, xSeq_app, xApp_ap, xSeq_aug, xAug_ap, xSeq_for, xSeq_forS, xSeq_forG, xFor_ap, xForS_ap, xForG_ap, xPar_ap, xSet_ap, xSetG_ap, xIf_ap, xRet_ap, xRetN_ap, xDrop_ap, xRaise_ap, xBreak_ap, xCont_ap, xUnp_ap, xSeq_put, xPut_ap, xSeq_putA, xPutA_ap, paK1_ap, paR1_ok, paX1_ok, paK2_ap, kPut1_ap, kPut2_ap, putR_ok, putJ_ok, kEv_ap, kEvG_ap, kEvL_ap, evS_ap, evG_ap, evL_ap, evA_t, evA_f, keepG_int, keepG_bool, keepG_none, keepG_tuple, keepG_list, flatL_nil, flatL_cons, vVar_ap, varR_ok, optR_ok, vC_ap, kB_ap, vBin_ap, vUn_ap, vTest_ap, kAnd_ap, kAnd2_ap, vAnd_ap, kOr_ap, kOr2_ap, vOr_ap, kNot_ap, kNot2_ap, vNot_ap, kIfE_ap, vIf_ap, kC3_ap, kC2_ap, kC1_ap, vChain_ap, kL_ap, kL2_ap, vL_nil, vL_cons, kTup_ap, kLst_ap, vTup_ap, vLst_ap, vCall_ap, kCut1_ap, kCut2_ap, kCut3_ap, vCut_ap, kPart_ap, vPart_none, vPart_some, kComp_ap, kCompO_ap, vComp_ap, wSeq_ap, wCall_ap, wipe_nil, wipe_cons, dMod_int, bindS_slot, bindS_tup, bindSs_nil, bindSs_slot, bindT_slot, bindT_tup, bindTs_nil, bindTs_slot, onR_ok, onR_exc, outR_rt, outR_nx, outR_exc, after_t, after_f, rb_ok, rb_exc, tr_bool, tr_none, tr_int, tr_list, tr_tuple, toB_bool, toI_int, dAdd_int, dSub_int, dNeg_int, dMul_l, dMul_r, dDiv_int, dLt_int, dLe_int, dGt_int, dGe_int, dEq_int, dNe_int, dEq_bool, dNe_bool, dIs_none, dIsNot_none, dIs_bool, isNone_none, isNone_int, isNone_bool, isNone_tuple, isNone_list, dIdx_list, dIdx_tuple, atI_0, atI_1, atI_2, dLen_list, dLen_tuple, dInt_int, dAbs_int, dTuple_list, dTuple_tuple, dList_list, dList_tuple, dSum_ints, dSum_intsT, dAll_bools, dMin_2, dMax_2, isi_int_int, isi_int_bool, isi_int_none, isi_int_tuple, isi_int_list, isi_bool_int, isi_bool_bool, isi_tuple_tuple, isi_tuple_int, isi_tuple_none, isi_list_list, asSeq_list, asSeq_tuple, iEnum_list, iEnum_tuple, iZip_list, iZip_tuple, dCut_list, dCut_tuple, flat_none, flat_bool, flat_int, flat_str, flat_tuple, flat_list, flatL_ints, flatL_bools, isL_list, isL_int, isL_bool, isL_tuple, isL_none, mview_nil, mview_cons, mv1_f, mv1_n, mv1_t, freeze_nil, freeze_cons, fr1_f, fr1_n, fr1_t, List.set_cons_zero, List.set_cons_succ, List.map_cons, List.map_nil, List.length_cons, List.length_nil, List.replicate_succ, List.replicate_zero, List.cons_append, List.nil_append, List.getElem?_cons_zero, List.getElem?_cons_succ, List.mem_cons, List.not_mem_nil, or_false, false_or, or_true, true_or, if_true, if_false, Bool.false_eq_true, Bool.not_true, Bool.not_false, decide_true, decide_false, and_self, true_and, and_true, Bool.true_and, Bool.and_true, Bool.and_self, Bool.false_and, Bool.and_false, ↓reduceIte, reduceIte, Int.reduceLT, Int.reduceLE, Int.reduceNeg, Int.reduceAdd, Int.reduceSub, Int.reduceMul, Int.reduceToNat, Nat.reduceLT, Nat.reduceLeDiff, Nat.reduceEqDiff, Nat.reduceAdd, Nat.reduceSub, Nat.reduceMul, reduceCtorEq, Int.cast_ofNat_Int, Int.natCast_one, Int.natCast_zero, Int.reduceEq, vMeth_ap, kMeth_l, dRev_list, dCount_ints, kRem_ap, xSeq_rem, xSeq_ext, xExt_ap, kExt_ap, xSeq_pop, xPop_ap, popR_ok, xRem_ap, xSeq_try, xTryL_ap, kTry_nx, kTry_rt, kTry_exc, tryR_rt, tryR_nx, tryR_no, handL_cons, wipeS_nil, wipeS_cons, cv_s, cv_b, cv_i, vSortK_ap, qPar_ap, qCap_ap, capR_ok, qInt_ap, qNeg_ap, dNegK_int, qBin_ap, qBinK_ap, dSubK_int, dAddK_int, limR_ok, dIdxK_list, dIdxK_tuple, qTup_ap, qTup1_ap, qTupL_nil, qTupL_cons, qTupC_ap, qTupC2_ap, b_subject_piles, n1, fb, dl, hm, hr1, hs, fo, f0]
  refine seq_list (P := fun o => outR o = _) (enc := natD) (xs := ordK bs) (fun pre env => ∃ x2 x3, env = [some (false, bkD bs), some (true, .list ((pileP bs pre).map oD)), x2, x3, none, none]) NoE NoD rfl ⟨none, none, rfl⟩ ?_ ?_ (fun _ z => z.elim) (fun _ z => z.elim)
  · rintro pre k post env hxs ⟨x2, x3, rfl⟩
    refine ⟨_, rfl, ?_⟩
    obtain ⟨h1, h2, h3, h4⟩ := ord_split hxs
    have hcol := col_pre pre.length pre (k :: post) rfl hxs
    have hfree := free_is h3 (col_new hcol h1 h2 h3)
    have e0 : pileP bs (pre ++ [k]) = stepP bs (pileP bs pre) k := by unfold pileP; rw [List.foldl_append]; rfl
    generalize hPP : pileP bs pre = P at hcol hfree e0
    have hPl := hcol.len
    have c1 : ∀ s3 s4 s5, compGo (compTurnD (.slot 4) [4] (some (vTest (vAnd (vBin dIsNot (vBin dIdx (vVar 1) (vVar 4)) (vC .none)) (vAnd (vBin dLt (vBin dIdx (vBin dIdx (vVar 0) (vVar 4)) (vC (.int 0))) (vBin dIdx (vBin dIdx (vVar 0) (vVar 2)) (vC (.int 1)))) (vBin dLt (vBin dIdx (vBin dIdx (vVar 0) (vVar 2)) (vC (.int 0))) (vBin dIdx (vBin dIdx (vVar 0) (vVar 4)) (vC (.int 1)))))))) (vBin dIdx (vVar 1) (vVar 4))
        [some (bkD bs), some (.list (P.map oD)), some (.int k), s3, s4, s5]) (rangeD 0 bs.length) = .ok ((takenOf bs P k).map natD) := by
      intro s3 s4 s5
      rw [← fm_map]
      refine compGo_eq (enc := fun i : Nat => PyData.int (0 + i)) fun j hj => ?_
      have hj := List.mem_range.mp hj
      have a1 := P_at (P := P) (j := j) (by omega)
      have a2 := bk_at (at2_get hj)
      have a3 := bk_at (at2_get h2)
      refine taken_turn (d := vBin dIdx (vVar 1) (vVar 4)) hl h2 hj hPl (fun b hb hc => turn_if rfl hc fun hbt => ?_) ?_ fun cc hcc => ?_
      · obtain ⟨cc, q1, q2⟩ := hb hbt
        rw [q2, q1]
        rfl
      · unfold meetsB
        cases hz : pl P j with
        | none =>
          rw [hz] at a1
          simp only [startE_eq, kSet_ap, kSetG_ap, kIfS_ap, kIf0_ap, kRet_ap, kDrop_ap, kUnp_slot, kUnp2, kUnp3, kApp_ap, appR_ok, ownR_ok, augR_ok, kPar1_ap, kPar2_ap, kAug_ap, kForS_l, kForS_t, xSkip_ap, xSeq_skip, xSeq_seq, xSeq_set, xSeq_setG, xSeq_if, xSeq_ret, xSeq_retN, xSeq_raise, xSeq_drop, xSeq_brk, xSeq_cnt, xSeq_unp, xSeq_par, xSeq_app, xApp_ap, xSeq_aug, xAug_ap, xSeq_for, xSeq_forS, xSeq_forG, xFor_ap, xForS_ap, xForG_ap, xPar_ap, xSet_ap, xSetG_ap, xIf_ap, xRet_ap, xRetN_ap, xDrop_ap, xRaise_ap, xBreak_ap, xCont_ap, xUnp_ap, xSeq_put, xPut_ap, xSeq_putA, xPutA_ap, paK1_ap, paR1_ok, paX1_ok, paK2_ap, kPut1_ap, kPut2_ap, putR_ok, putJ_ok, kEv_ap, kEvG_ap, kEvL_ap, evS_ap, evG_ap, evL_ap, evA_t, evA_f, keepG_int, keepG_bool, keepG_none, keepG_tuple, keepG_list, flatL_nil, flatL_cons, vVar_ap, varR_ok, optR_ok, vC_ap, kB_ap, vBin_ap, vUn_ap, vTest_ap, kAnd_ap, kAnd2_ap, vAnd_ap, kOr_ap, kOr2_ap, vOr_ap, kNot_ap, kNot2_ap, vNot_ap, kIfE_ap, vIf_ap, kC3_ap, kC2_ap, kC1_ap, vChain_ap, kL_ap, kL2_ap, vL_nil, vL_cons, kTup_ap, kLst_ap, vTup_ap, vLst_ap, vCall_ap, kCut1_ap, kCut2_ap, kCut3_ap, vCut_ap, kPart_ap, vPart_none, vPart_some, kComp_ap, kCompO_ap, vComp_ap, wSeq_ap, wCall_ap, wipe_nil, wipe_cons, dMod_int, bindS_slot, bindS_tup, bindSs_nil, bindSs_slot, bindT_slot, bindT_tup, bindTs_nil, bindTs_slot, onR_ok, onR_exc, outR_rt, outR_nx, outR_exc, after_t, after_f, rb_ok, rb_exc, tr_bool, tr_none, tr_int, tr_list, tr_tuple, toB_bool, toI_int, dAdd_int, dSub_int, dNeg_int, dMul_l, dMul_r, dDiv_int, dLt_int, dLe_int, dGt_int, dGe_int, dEq_int, dNe_int, dEq_bool, dNe_bool, dIs_none, dIsNot_none, dIs_bool, isNone_none, isNone_int, isNone_bool, isNone_tuple, isNone_list, dIdx_list, dIdx_tuple, atI_0, atI_1, atI_2, dLen_list, dLen_tuple, dInt_int, dAbs_int, dTuple_list, dTuple_tuple, dList_list, dList_tuple, dSum_ints, dSum_intsT, dAll_bools, dMin_2, dMax_2, isi_int_int, isi_int_bool, isi_int_none, isi_int_tuple, isi_int_list, isi_bool_int, isi_bool_bool, isi_tuple_tuple, isi_tuple_int, isi_tuple_none, isi_list_list, asSeq_list, asSeq_tuple, iEnum_list, iEnum_tuple, iZip_list, iZip_tuple, dCut_list, dCut_tuple, flat_none, flat_bool, flat_int, flat_str, flat_tuple, flat_list, flatL_ints, flatL_bools, isL_list, isL_int, isL_bool, isL_tuple, isL_none, mview_nil, mview_cons, mv1_f, mv1_n, mv1_t, freeze_nil, freeze_cons, fr1_f, fr1_n, fr1_t, List.set_cons_zero, List.set_cons_succ, List.map_cons, List.map_nil, List.length_cons, List.length_nil, List.replicate_succ, List.replicate_zero, List.cons_append, List.nil_append, List.getElem?_cons_zero, List.getElem?_cons_succ, List.mem_cons, List.not_mem_nil, or_false, false_or, or_true, true_or, if_true, if_false, Bool.false_eq_true, Bool.not_true, Bool.not_false, decide_true, decide_false, and_self, true_and, and_true, Bool.true_and, Bool.and_true, Bool.and_self, Bool.false_and, Bool.and_false, ↓reduceIte, reduceIte, Int.reduceLT, Int.reduceLE, Int.reduceNeg, Int.reduceAdd, Int.reduceSub, Int.reduceMul, Int.reduceToNat, Nat.reduceLT, Nat.reduceLeDiff, Nat.reduceEqDiff, Nat.reduceAdd, Nat.reduceSub, Nat.reduceMul, reduceCtorEq, Int.cast_ofNat_Int, Int.natCast_one, Int.natCast_zero, Int.reduceEq, vMeth_ap, kMeth_l, dRev_list, dCount_ints, kRem_ap, xSeq_rem, xSeq_ext, xExt_ap, kExt_ap, xSeq_pop, xPop_ap, popR_ok, xRem_ap, xSeq_try, xTryL_ap, kTry_nx, kTry_rt, kTry_exc, tryR_rt, tryR_nx, tryR_no, handL_cons, wipeS_nil, wipeS_cons, cv_s, cv_b, cv_i, Int.zero_add, a1, oD]
        | some cc =>
          rw [hz] at a1
          have hnn : isNone (natD cc) = false := rfl
          by_cases g1 : (at2 bs j).1 < (at2 bs k).2
          · by_cases g2 : (at2 bs k).1 < (at2 bs j).2 <;> simp only [startE_eq, kSet_ap, kSetG_ap, kIfS_ap, kIf0_ap, kRet_ap, kDrop_ap, kUnp_slot, kUnp2, kUnp3, kApp_ap, appR_ok, ownR_ok, augR_ok, kPar1_ap, kPar2_ap, kAug_ap, kForS_l, kForS_t, xSkip_ap, xSeq_skip, xSeq_seq, xSeq_set, xSeq_setG, xSeq_if, xSeq_ret, xSeq_retN, xSeq_raise, xSeq_drop, xSeq_brk, xSeq_cnt, xSeq_unp, xSeq_par, xSeq_app, xApp_ap, xSeq_aug, xAug_ap, xSeq_for, xSeq_forS, xSeq_forG, xFor_ap, xForS_ap, xForG_ap, xPar_ap, xSet_ap, xSetG_ap, xIf_ap, xRet_ap, xRetN_ap, xDrop_ap, xRaise_ap, xBreak_ap, xCont_ap, xUnp_ap, xSeq_put, xPut_ap, xSeq_putA, xPutA_ap, paK1_ap, paR1_ok, paX1_ok, paK2_ap, kPut1_ap, kPut2_ap, putR_ok, putJ_ok, kEv_ap, kEvG_ap, kEvL_ap, evS_ap, evG_ap, evL_ap, evA_t, evA_f, keepG_int, keepG_bool, keepG_none, keepG_tuple, keepG_list, flatL_nil, flatL_cons, vVar_ap, varR_ok, optR_ok, vC_ap, kB_ap, vBin_ap, vUn_ap, vTest_ap, kAnd_ap, kAnd2_ap, vAnd_ap, kOr_ap, kOr2_ap, vOr_ap, kNot_ap, kNot2_ap, vNot_ap, kIfE_ap, vIf_ap, kC3_ap, kC2_ap, kC1_ap, vChain_ap, kL_ap, kL2_ap, vL_nil, vL_cons, kTup_ap, kLst_ap, vTup_ap, vLst_ap, vCall_ap, kCut1_ap, kCut2_ap, kCut3_ap, vCut_ap, kPart_ap, vPart_none, vPart_some, kComp_ap, kCompO_ap, vComp_ap, wSeq_ap, wCall_ap, wipe_nil, wipe_cons, dMod_int, bindS_slot, bindS_tup, bindSs_nil, bindSs_slot, bindT_slot, bindT_tup, bindTs_nil, bindTs_slot, onR_ok, onR_exc, outR_rt, outR_nx, outR_exc, after_t, after_f, rb_ok, rb_exc, tr_bool, tr_none, tr_int, tr_list, tr_tuple, toB_bool, toI_int, dAdd_int, dSub_int, dNeg_int, dMul_l, dMul_r, dDiv_int, dLt_int, dLe_int, dGt_int, dGe_int, dEq_int, dNe_int, dEq_bool, dNe_bool, dIs_none, dIsNot_none, dIs_bool, isNone_none, isNone_int, isNone_bool, isNone_tuple, isNone_list, dIdx_list, dIdx_tuple, atI_0, atI_1, atI_2, dLen_list, dLen_tuple, dInt_int, dAbs_int, dTuple_list, dTuple_tuple, dList_list, dList_tuple, dSum_ints, dSum_intsT, dAll_bools, dMin_2, dMax_2, isi_int_int, isi_int_bool, isi_int_none, isi_int_tuple, isi_int_list, isi_bool_int, isi_bool_bool, isi_tuple_tuple, isi_tuple_int, isi_tuple_none, isi_list_list, asSeq_list, asSeq_tuple, iEnum_list, iEnum_tuple, iZip_list, iZip_tuple, dCut_list, dCut_tuple, flat_none, flat_bool, flat_int, flat_str, flat_tuple, flat_list, flatL_ints, flatL_bools, isL_list, isL_int, isL_bool, isL_tuple, isL_none, mview_nil, mview_cons, mv1_f, mv1_n, mv1_t, freeze_nil, freeze_cons, fr1_f, fr1_n, fr1_t, List.set_cons_zero, List.set_cons_succ, List.map_cons, List.map_nil, List.length_cons, List.length_nil, List.replicate_succ, List.replicate_zero, List.cons_append, List.nil_append, List.getElem?_cons_zero, List.getElem?_cons_succ, List.mem_cons, List.not_mem_nil, or_false, false_or, or_true, true_or, if_true, if_false, Bool.false_eq_true, Bool.not_true, Bool.not_false, decide_true, decide_false, and_self, true_and, and_true, Bool.true_and, Bool.and_true, Bool.and_self, Bool.false_and, Bool.and_false, ↓reduceIte, reduceIte, Int.reduceLT, Int.reduceLE, Int.reduceNeg, Int.reduceAdd, Int.reduceSub, Int.reduceMul, Int.reduceToNat, Nat.reduceLT, Nat.reduceLeDiff, Nat.reduceEqDiff, Nat.reduceAdd, Nat.reduceSub, Nat.reduceMul, reduceCtorEq, Int.cast_ofNat_Int, Int.natCast_one, Int.natCast_zero, Int.reduceEq, vMeth_ap, kMeth_l, dRev_list, dCount_ints, kRem_ap, xSeq_rem, xSeq_ext, xExt_ap, kExt_ap, xSeq_pop, xPop_ap, popR_ok, xRem_ap, xSeq_try, xTryL_ap, kTry_nx, kTry_rt, kTry_exc, tryR_rt, tryR_nx, tryR_no, handL_cons, wipeS_nil, wipeS_cons, cv_s, cv_b, cv_i, Int.zero_add, a1, oD, a2, a3, g1, g2, hnn]
          · simp only [startE_eq, kSet_ap, kSetG_ap, kIfS_ap, kIf0_ap, kRet_ap, kDrop_ap, kUnp_slot, kUnp2, kUnp3, kApp_ap, appR_ok, ownR_ok, augR_ok, kPar1_ap, kPar2_ap, kAug_ap, kForS_l, kForS_t, xSkip_ap, xSeq_skip, xSeq_seq, xSeq_set, xSeq_setG, xSeq_if, xSeq_ret, xSeq_retN, xSeq_raise, xSeq_drop, xSeq_brk, xSeq_cnt, xSeq_unp, xSeq_par, xSeq_app, xApp_ap, xSeq_aug, xAug_ap, xSeq_for, xSeq_forS, xSeq_forG, xFor_ap, xForS_ap, xForG_ap, xPar_ap, xSet_ap, xSetG_ap, xIf_ap, xRet_ap, xRetN_ap, xDrop_ap, xRaise_ap, xBreak_ap, xCont_ap, xUnp_ap, xSeq_put, xPut_ap, xSeq_putA, xPutA_ap, paK1_ap, paR1_ok, paX1_ok, paK2_ap, kPut1_ap, kPut2_ap, putR_ok, putJ_ok, kEv_ap, kEvG_ap, kEvL_ap, evS_ap, evG_ap, evL_ap, evA_t, evA_f, keepG_int, keepG_bool, keepG_none, keepG_tuple, keepG_list, flatL_nil, flatL_cons, vVar_ap, varR_ok, optR_ok, vC_ap, kB_ap, vBin_ap, vUn_ap, vTest_ap, kAnd_ap, kAnd2_ap, vAnd_ap, kOr_ap, kOr2_ap, vOr_ap, kNot_ap, kNot2_ap, vNot_ap, kIfE_ap, vIf_ap, kC3_ap, kC2_ap, kC1_ap, vChain_ap, kL_ap, kL2_ap, vL_nil, vL_cons, kTup_ap, kLst_ap, vTup_ap, vLst_ap, vCall_ap, kCut1_ap, kCut2_ap, kCut3_ap, vCut_ap, kPart_ap, vPart_none, vPart_some, kComp_ap, kCompO_ap, vComp_ap, wSeq_ap, wCall_ap, wipe_nil, wipe_cons, dMod_int, bindS_slot, bindS_tup, bindSs_nil, bindSs_slot, bindT_slot, bindT_tup, bindTs_nil, bindTs_slot, onR_ok, onR_exc, outR_rt, outR_nx, outR_exc, after_t, after_f, rb_ok, rb_exc, tr_bool, tr_none, tr_int, tr_list, tr_tuple, toB_bool, toI_int, dAdd_int, dSub_int, dNeg_int, dMul_l, dMul_r, dDiv_int, dLt_int, dLe_int, dGt_int, dGe_int, dEq_int, dNe_int, dEq_bool, dNe_bool, dIs_none, dIsNot_none, dIs_bool, isNone_none, isNone_int, isNone_bool, isNone_tuple, isNone_list, dIdx_list, dIdx_tuple, atI_0, atI_1, atI_2, dLen_list, dLen_tuple, dInt_int, dAbs_int, dTuple_list, dTuple_tuple, dList_list, dList_tuple, dSum_ints, dSum_intsT, dAll_bools, dMin_2, dMax_2, isi_int_int, isi_int_bool, isi_int_none, isi_int_tuple, isi_int_list, isi_bool_int, isi_bool_bool, isi_tuple_tuple, isi_tuple_int, isi_tuple_none, isi_list_list, asSeq_list, asSeq_tuple, iEnum_list, iEnum_tuple, iZip_list, iZip_tuple, dCut_list, dCut_tuple, flat_none, flat_bool, flat_int, flat_str, flat_tuple, flat_list, flatL_ints, flatL_bools, isL_list, isL_int, isL_bool, isL_tuple, isL_none, mview_nil, mview_cons, mv1_f, mv1_n, mv1_t, freeze_nil, freeze_cons, fr1_f, fr1_n, fr1_t, List.set_cons_zero, List.set_cons_succ, List.map_cons, List.map_nil, List.length_cons, List.length_nil, List.replicate_succ, List.replicate_zero, List.cons_append, List.nil_append, List.getElem?_cons_zero, List.getElem?_cons_succ, List.mem_cons, List.not_mem_nil, or_false, false_or, or_true, true_or, if_true, if_false, Bool.false_eq_true, Bool.not_true, Bool.not_false, decide_true, decide_false, and_self, true_and, and_true, Bool.true_and, Bool.and_true, Bool.and_self, Bool.false_and, Bool.and_false, ↓reduceIte, reduceIte, Int.reduceLT, Int.reduceLE, Int.reduceNeg, Int.reduceAdd, Int.reduceSub, Int.reduceMul, Int.reduceToNat, Nat.reduceLT, Nat.reduceLeDiff, Nat.reduceEqDiff, Nat.reduceAdd, Nat.reduceSub, Nat.reduceMul, reduceCtorEq, Int.cast_ofNat_Int, Int.natCast_one, Int.natCast_zero, Int.reduceEq, vMeth_ap, kMeth_l, dRev_list, dCount_ints, kRem_ap, xSeq_rem, xSeq_ext, xExt_ap, kExt_ap, xSeq_pop, xPop_ap, popR_ok, xRem_ap, xSeq_try, xTryL_ap, kTry_nx, kTry_rt, kTry_exc, tryR_rt, tryR_nx, tryR_no, handL_cons, wipeS_nil, wipeS_cons, cv_s, cv_b, cv_i, Int.zero_add, a1, oD, a2, a3, g1, hnn]
      · rw [hcc] at a1
        simp only [startE_eq, kSet_ap, kSetG_ap, kIfS_ap, kIf0_ap, kRet_ap, kDrop_ap, kUnp_slot, kUnp2, kUnp3, kApp_ap, appR_ok, ownR_ok, augR_ok, kPar1_ap, kPar2_ap, kAug_ap, kForS_l, kForS_t, xSkip_ap, xSeq_skip, xSeq_seq, xSeq_set, xSeq_setG, xSeq_if, xSeq_ret, xSeq_retN, xSeq_raise, xSeq_drop, xSeq_brk, xSeq_cnt, xSeq_unp, xSeq_par, xSeq_app, xApp_ap, xSeq_aug, xAug_ap, xSeq_for, xSeq_forS, xSeq_forG, xFor_ap, xForS_ap, xForG_ap, xPar_ap, xSet_ap, xSetG_ap, xIf_ap, xRet_ap, xRetN_ap, xDrop_ap, xRaise_ap, xBreak_ap, xCont_ap, xUnp_ap, xSeq_put, xPut_ap, xSeq_putA, xPutA_ap, paK1_ap, paR1_ok, paX1_ok, paK2_ap, kPut1_ap, kPut2_ap, putR_ok, putJ_ok, kEv_ap, kEvG_ap, kEvL_ap, evS_ap, evG_ap, evL_ap, evA_t, evA_f, keepG_int, keepG_bool, keepG_none, keepG_tuple, keepG_list, flatL_nil, flatL_cons, vVar_ap, varR_ok, optR_ok, vC_ap, kB_ap, vBin_ap, vUn_ap, vTest_ap, kAnd_ap, kAnd2_ap, vAnd_ap, kOr_ap, kOr2_ap, vOr_ap, kNot_ap, kNot2_ap, vNot_ap, kIfE_ap, vIf_ap, kC3_ap, kC2_ap, kC1_ap, vChain_ap, kL_ap, kL2_ap, vL_nil, vL_cons, kTup_ap, kLst_ap, vTup_ap, vLst_ap, vCall_ap, kCut1_ap, kCut2_ap, kCut3_ap, vCut_ap, kPart_ap, vPart_none, vPart_some, kComp_ap, kCompO_ap, vComp_ap, wSeq_ap, wCall_ap, wipe_nil, wipe_cons, dMod_int, bindS_slot, bindS_tup, bindSs_nil, bindSs_slot, bindT_slot, bindT_tup, bindTs_nil, bindTs_slot, onR_ok, onR_exc, outR_rt, outR_nx, outR_exc, after_t, after_f, rb_ok, rb_exc, tr_bool, tr_none, tr_int, tr_list, tr_tuple, toB_bool, toI_int, dAdd_int, dSub_int, dNeg_int, dMul_l, dMul_r, dDiv_int, dLt_int, dLe_int, dGt_int, dGe_int, dEq_int, dNe_int, dEq_bool, dNe_bool, dIs_none, dIsNot_none, dIs_bool, isNone_none, isNone_int, isNone_bool, isNone_tuple, isNone_list, dIdx_list, dIdx_tuple, atI_0, atI_1, atI_2, dLen_list, dLen_tuple, dInt_int, dAbs_int, dTuple_list, dTuple_tuple, dList_list, dList_tuple, dSum_ints, dSum_intsT, dAll_bools, dMin_2, dMax_2, isi_int_int, isi_int_bool, isi_int_none, isi_int_tuple, isi_int_list, isi_bool_int, isi_bool_bool, isi_tuple_tuple, isi_tuple_int, isi_tuple_none, isi_list_list, asSeq_list, asSeq_tuple, iEnum_list, iEnum_tuple, iZip_list, iZip_tuple, dCut_list, dCut_tuple, flat_none, flat_bool, flat_int, flat_str, flat_tuple, flat_list, flatL_ints, flatL_bools, isL_list, isL_int, isL_bool, isL_tuple, isL_none, mview_nil, mview_cons, mv1_f, mv1_n, mv1_t, freeze_nil, freeze_cons, fr1_f, fr1_n, fr1_t, List.set_cons_zero, List.set_cons_succ, List.map_cons, List.map_nil, List.length_cons, List.length_nil, List.replicate_succ, List.replicate_zero, List.cons_append, List.nil_append, List.getElem?_cons_zero, List.getElem?_cons_succ, List.mem_cons, List.not_mem_nil, or_false, false_or, or_true, true_or, if_true, if_false, Bool.false_eq_true, Bool.not_true, Bool.not_false, decide_true, decide_false, and_self, true_and, and_true, Bool.true_and, Bool.and_true, Bool.and_self, Bool.false_and, Bool.and_false, ↓reduceIte, reduceIte, Int.reduceLT, Int.reduceLE, Int.reduceNeg, Int.reduceAdd, Int.reduceSub, Int.reduceMul, Int.reduceToNat, Nat.reduceLT, Nat.reduceLeDiff, Nat.reduceEqDiff, Nat.reduceAdd, Nat.reduceSub, Nat.reduceMul, reduceCtorEq, Int.cast_ofNat_Int, Int.natCast_one, Int.natCast_zero, Int.reduceEq, vMeth_ap, kMeth_l, dRev_list, dCount_ints, kRem_ap, xSeq_rem, xSeq_ext, xExt_ap, kExt_ap, xSeq_pop, xPop_ap, popR_ok, xRem_ap, xSeq_try, xTryL_ap, kTry_nx, kTry_rt, kTry_exc, tryR_rt, tryR_nx, tryR_no, handL_cons, wipeS_nil, wipeS_cons, cv_s, cv_b, cv_i, Int.zero_add, a1, oD]
    have c2 : ∀ s1 s2 s4 s5, compGo (compTurnD (.slot 5) [5] (some (vTest (vBin dNotIn (vVar 5) (vVar 3)))) (vVar 5) [some (bkD bs), s1, s2, some (.list ((takenOf bs P k).map natD)), s4, s5]) (rangeD 0 bs.length) = .ok (((List.range bs.length).filter fun p => !decide (p ∈ takenOf bs P k)).map natD) := by
      intro s1 s2 s4 s5
      refine comp_if fun p hp => turn_if rfl (by simp only [startE_eq, kSet_ap, kSetG_ap, kIfS_ap, kIf0_ap, kRet_ap, kDrop_ap, kUnp_slot, kUnp2, kUnp3, kApp_ap, appR_ok, ownR_ok, augR_ok, kPar1_ap, kPar2_ap, kAug_ap, kForS_l, kForS_t, xSkip_ap, xSeq_skip, xSeq_seq, xSeq_set, xSeq_setG, xSeq_if, xSeq_ret, xSeq_retN, xSeq_raise, xSeq_drop, xSeq_brk, xSeq_cnt, xSeq_unp, xSeq_par, xSeq_app, xApp_ap, xSeq_aug, xAug_ap, xSeq_for, xSeq_forS, xSeq_forG, xFor_ap, xForS_ap, xForG_ap, xPar_ap, xSet_ap, xSetG_ap, xIf_ap, xRet_ap, xRetN_ap, xDrop_ap, xRaise_ap, xBreak_ap, xCont_ap, xUnp_ap, xSeq_put, xPut_ap, xSeq_putA, xPutA_ap, paK1_ap, paR1_ok, paX1_ok, paK2_ap, kPut1_ap, kPut2_ap, putR_ok, putJ_ok, kEv_ap, kEvG_ap, kEvL_ap, evS_ap, evG_ap, evL_ap, evA_t, evA_f, keepG_int, keepG_bool, keepG_none, keepG_tuple, keepG_list, flatL_nil, flatL_cons, vVar_ap, varR_ok, optR_ok, vC_ap, kB_ap, vBin_ap, vUn_ap, vTest_ap, kAnd_ap, kAnd2_ap, vAnd_ap, kOr_ap, kOr2_ap, vOr_ap, kNot_ap, kNot2_ap, vNot_ap, kIfE_ap, vIf_ap, kC3_ap, kC2_ap, kC1_ap, vChain_ap, kL_ap, kL2_ap, vL_nil, vL_cons, kTup_ap, kLst_ap, vTup_ap, vLst_ap, vCall_ap, kCut1_ap, kCut2_ap, kCut3_ap, vCut_ap, kPart_ap, vPart_none, vPart_some, kComp_ap, kCompO_ap, vComp_ap, wSeq_ap, wCall_ap, wipe_nil, wipe_cons, dMod_int, bindS_slot, bindS_tup, bindSs_nil, bindSs_slot, bindT_slot, bindT_tup, bindTs_nil, bindTs_slot, onR_ok, onR_exc, outR_rt, outR_nx, outR_exc, after_t, after_f, rb_ok, rb_exc, tr_bool, tr_none, tr_int, tr_list, tr_tuple, toB_bool, toI_int, dAdd_int, dSub_int, dNeg_int, dMul_l, dMul_r, dDiv_int, dLt_int, dLe_int, dGt_int, dGe_int, dEq_int, dNe_int, dEq_bool, dNe_bool, dIs_none, dIsNot_none, dIs_bool, isNone_none, isNone_int, isNone_bool, isNone_tuple, isNone_list, dIdx_list, dIdx_tuple, atI_0, atI_1, atI_2, dLen_list, dLen_tuple, dInt_int, dAbs_int, dTuple_list, dTuple_tuple, dList_list, dList_tuple, dSum_ints, dSum_intsT, dAll_bools, dMin_2, dMax_2, isi_int_int, isi_int_bool, isi_int_none, isi_int_tuple, isi_int_list, isi_bool_int, isi_bool_bool, isi_tuple_tuple, isi_tuple_int, isi_tuple_none, isi_list_list, asSeq_list, asSeq_tuple, iEnum_list, iEnum_tuple, iZip_list, iZip_tuple, dCut_list, dCut_tuple, flat_none, flat_bool, flat_int, flat_str, flat_tuple, flat_list, flatL_ints, flatL_bools, isL_list, isL_int, isL_bool, isL_tuple, isL_none, mview_nil, mview_cons, mv1_f, mv1_n, mv1_t, freeze_nil, freeze_cons, fr1_f, fr1_n, fr1_t, List.set_cons_zero, List.set_cons_succ, List.map_cons, List.map_nil, List.length_cons, List.length_nil, List.replicate_succ, List.replicate_zero, List.cons_append, List.nil_append, List.getElem?_cons_zero, List.getElem?_cons_succ, List.mem_cons, List.not_mem_nil, or_false, false_or, or_true, true_or, if_true, if_false, Bool.false_eq_true, Bool.not_true, Bool.not_false, decide_true, decide_false, and_self, true_and, and_true, Bool.true_and, Bool.and_true, Bool.and_self, Bool.false_and, Bool.and_false, ↓reduceIte, reduceIte, Int.reduceLT, Int.reduceLE, Int.reduceNeg, Int.reduceAdd, Int.reduceSub, Int.reduceMul, Int.reduceToNat, Nat.reduceLT, Nat.reduceLeDiff, Nat.reduceEqDiff, Nat.reduceAdd, Nat.reduceSub, Nat.reduceMul, reduceCtorEq, Int.cast_ofNat_Int, Int.natCast_one, Int.natCast_zero, Int.reduceEq, vMeth_ap, kMeth_l, dRev_list, dCount_ints, kRem_ap, xSeq_rem, xSeq_ext, xExt_ap, kExt_ap, xSeq_pop, xPop_ap, popR_ok, xRem_ap, xSeq_try, xTryL_ap, kTry_nx, kTry_rt, kTry_exc, tryR_rt, tryR_nx, tryR_no, handL_cons, wipeS_nil, wipeS_cons, cv_s, cv_b, cv_i, Int.zero_add, dNotIn_nats]) fun _ => by simp only [startE_eq, kSet_ap, kSetG_ap, kIfS_ap, kIf0_ap, kRet_ap, kDrop_ap, kUnp_slot, kUnp2, kUnp3, kApp_ap, appR_ok, ownR_ok, augR_ok, kPar1_ap, kPar2_ap, kAug_ap, kForS_l, kForS_t, xSkip_ap, xSeq_skip, xSeq_seq, xSeq_set, xSeq_setG, xSeq_if, xSeq_ret, xSeq_retN, xSeq_raise, xSeq_drop, xSeq_brk, xSeq_cnt, xSeq_unp, xSeq_par, xSeq_app, xApp_ap, xSeq_aug, xAug_ap, xSeq_for, xSeq_forS, xSeq_forG, xFor_ap, xForS_ap, xForG_ap, xPar_ap, xSet_ap, xSetG_ap, xIf_ap, xRet_ap, xRetN_ap, xDrop_ap, xRaise_ap, xBreak_ap, xCont_ap, xUnp_ap, xSeq_put, xPut_ap, xSeq_putA, xPutA_ap, paK1_ap, paR1_ok, paX1_ok, paK2_ap, kPut1_ap, kPut2_ap, putR_ok, putJ_ok, kEv_ap, kEvG_ap, kEvL_ap, evS_ap, evG_ap, evL_ap, evA_t, evA_f, keepG_int, keepG_bool, keepG_none, keepG_tuple, keepG_list, flatL_nil, flatL_cons, vVar_ap, varR_ok, optR_ok, vC_ap, kB_ap, vBin_ap, vUn_ap, vTest_ap, kAnd_ap, kAnd2_ap, vAnd_ap, kOr_ap, kOr2_ap, vOr_ap, kNot_ap, kNot2_ap, vNot_ap, kIfE_ap, vIf_ap, kC3_ap, kC2_ap, kC1_ap, vChain_ap, kL_ap, kL2_ap, vL_nil, vL_cons, kTup_ap, kLst_ap, vTup_ap, vLst_ap, vCall_ap, kCut1_ap, kCut2_ap, kCut3_ap, vCut_ap, kPart_ap, vPart_none, vPart_some, kComp_ap, kCompO_ap, vComp_ap, wSeq_ap, wCall_ap, wipe_nil, wipe_cons, dMod_int, bindS_slot, bindS_tup, bindSs_nil, bindSs_slot, bindT_slot, bindT_tup, bindTs_nil, bindTs_slot, onR_ok, onR_exc, outR_rt, outR_nx, outR_exc, after_t, after_f, rb_ok, rb_exc, tr_bool, tr_none, tr_int, tr_list, tr_tuple, toB_bool, toI_int, dAdd_int, dSub_int, dNeg_int, dMul_l, dMul_r, dDiv_int, dLt_int, dLe_int, dGt_int, dGe_int, dEq_int, dNe_int, dEq_bool, dNe_bool, dIs_none, dIsNot_none, dIs_bool, isNone_none, isNone_int, isNone_bool, isNone_tuple, isNone_list, dIdx_list, dIdx_tuple, atI_0, atI_1, atI_2, dLen_list, dLen_tuple, dInt_int, dAbs_int, dTuple_list, dTuple_tuple, dList_list, dList_tuple, dSum_ints, dSum_intsT, dAll_bools, dMin_2, dMax_2, isi_int_int, isi_int_bool, isi_int_none, isi_int_tuple, isi_int_list, isi_bool_int, isi_bool_bool, isi_tuple_tuple, isi_tuple_int, isi_tuple_none, isi_list_list, asSeq_list, asSeq_tuple, iEnum_list, iEnum_tuple, iZip_list, iZip_tuple, dCut_list, dCut_tuple, flat_none, flat_bool, flat_int, flat_str, flat_tuple, flat_list, flatL_ints, flatL_bools, isL_list, isL_int, isL_bool, isL_tuple, isL_none, mview_nil, mview_cons, mv1_f, mv1_n, mv1_t, freeze_nil, freeze_cons, fr1_f, fr1_n, fr1_t, List.set_cons_zero, List.set_cons_succ, List.map_cons, List.map_nil, List.length_cons, List.length_nil, List.replicate_succ, List.replicate_zero, List.cons_append, List.nil_append, List.getElem?_cons_zero, List.getElem?_cons_succ, List.mem_cons, List.not_mem_nil, or_false, false_or, or_true, true_or, if_true, if_false, Bool.false_eq_true, Bool.not_true, Bool.not_false, decide_true, decide_false, and_self, true_and, and_true, Bool.true_and, Bool.and_true, Bool.and_self, Bool.false_and, Bool.and_false, ↓reduceIte, reduceIte, Int.reduceLT, Int.reduceLE, Int.reduceNeg, Int.reduceAdd, Int.reduceSub, Int.reduceMul, Int.reduceToNat, Nat.reduceLT, Nat.reduceLeDiff, Nat.reduceEqDiff, Nat.reduceAdd, Nat.reduceSub, Nat.reduceMul, reduceCtorEq, Int.cast_ofNat_Int, Int.natCast_one, Int.natCast_zero, Int.reduceEq, vMeth_ap, kMeth_l, dRev_list, dCount_ints, kRem_ap, xSeq_rem, xSeq_ext, xExt_ap, kExt_ap, xSeq_pop, xPop_ap, popR_ok, xRem_ap, xSeq_try, xTryL_ap, kTry_nx, kTry_rt, kTry_exc, tryR_rt, tryR_nx, tryR_no, handL_cons, wipeS_nil, wipeS_cons, cv_s, cv_b, cv_i, Int.zero_add]; rfl
    have hat : atI (((List.range bs.length).filter fun p => !decide (p ∈ takenOf bs P k)).map natD) 0 = some (natD (freeOf bs.length (takenOf bs P k))) := by
      refine atI_map (i := 0) ?_
      rw [← List.head?_eq_getElem?]
      exact hfree.1
    have hix : ixN (P.map oD).length (k : Int) = some k := ixN_nat (by rw [List.length_map]; omega)
    have hset := P_set (P := P) (k := k) (m := freeOf bs.length (takenOf bs P k))
    have ft : flatL ((takenOf bs P k).map natD) = true := flatL_map fun _ _ => rfl
    have ff : flat (natD (freeOf bs.length (takenOf bs P k))) = true := rfl
    rw [e0]
    unfold stepP
    rw [← hset]
    simp only [startE_eq, kSet_ap, kSetG_ap, kIfS_ap, kIf0_ap, kRet_ap, kDrop_ap, kUnp_slot, kUnp2, kUnp3, kApp_ap, appR_ok, ownR_ok, augR_ok, kPar1_ap, kPar2_ap, kAug_ap, kForS_l, kForS_t, xSkip_ap, xSeq_skip, xSeq_seq, xSeq_set, xSeq_setG, xSeq_if, xSeq_ret, xSeq_retN, xSeq_raise, xSeq_drop, xSeq_brk, xSeq_cnt, xSeq_unp, xSeq_par, xSeq_app, xApp_ap, xSeq_aug, xAug_ap, xSeq_for, xSeq_forS, xSeq_forG, xFor_ap, xForS_ap, xForG_ap, xPar_ap, xSet_ap, xSetG_ap, xIf_ap, xRet_ap, xRetN_ap, xDrop_ap, xRaise_ap, xBreak_ap, xCont_ap, xUnp_ap, xSeq_put, xPut_ap, xSeq_putA, xPutA_ap, paK1_ap, paR1_ok, paX1_ok, paK2_ap, kPut1_ap, kPut2_ap, putR_ok, putJ_ok, kEv_ap, kEvG_ap, kEvL_ap, evS_ap, evG_ap, evL_ap, evA_t, evA_f, keepG_int, keepG_bool, keepG_none, keepG_tuple, keepG_list, flatL_nil, flatL_cons, vVar_ap, varR_ok, optR_ok, vC_ap, kB_ap, vBin_ap, vUn_ap, vTest_ap, kAnd_ap, kAnd2_ap, vAnd_ap, kOr_ap, kOr2_ap, vOr_ap, kNot_ap, kNot2_ap, vNot_ap, kIfE_ap, vIf_ap, kC3_ap, kC2_ap, kC1_ap, vChain_ap, kL_ap, kL2_ap, vL_nil, vL_cons, kTup_ap, kLst_ap, vTup_ap, vLst_ap, vCall_ap, kCut1_ap, kCut2_ap, kCut3_ap, vCut_ap, kPart_ap, vPart_none, vPart_some, kComp_ap, kCompO_ap, vComp_ap, wSeq_ap, wCall_ap, wipe_nil, wipe_cons, dMod_int, bindS_slot, bindS_tup, bindSs_nil, bindSs_slot, bindT_slot, bindT_tup, bindTs_nil, bindTs_slot, onR_ok, onR_exc, outR_rt, outR_nx, outR_exc, after_t, after_f, rb_ok, rb_exc, tr_bool, tr_none, tr_int, tr_list, tr_tuple, toB_bool, toI_int, dAdd_int, dSub_int, dNeg_int, dMul_l, dMul_r, dDiv_int, dLt_int, dLe_int, dGt_int, dGe_int, dEq_int, dNe_int, dEq_bool, dNe_bool, dIs_none, dIsNot_none, dIs_bool, isNone_none, isNone_int, isNone_bool, isNone_tuple, isNone_list, dIdx_list, dIdx_tuple, atI_0, atI_1, atI_2, dLen_list, dLen_tuple, dInt_int, dAbs_int, dTuple_list, dTuple_tuple, dList_list, dList_tuple, dSum_ints, dSum_intsT, dAll_bools, dMin_2, dMax_2, isi_int_int, isi_int_bool, isi_int_none, isi_int_tuple, isi_int_list, isi_bool_int, isi_bool_bool, isi_tuple_tuple, isi_tuple_int, isi_tuple_none, isi_list_list, asSeq_list, asSeq_tuple, iEnum_list, iEnum_tuple, iZip_list, iZip_tuple, dCut_list, dCut_tuple, flat_none, flat_bool, flat_int, flat_str, flat_tuple, flat_list, flatL_ints, flatL_bools, isL_list, isL_int, isL_bool, isL_tuple, isL_none, mview_nil, mview_cons, mv1_f, mv1_n, mv1_t, freeze_nil, freeze_cons, fr1_f, fr1_n, fr1_t, List.set_cons_zero, List.set_cons_succ, List.map_cons, List.map_nil, List.length_cons, List.length_nil, List.replicate_succ, List.replicate_zero, List.cons_append, List.nil_append, List.getElem?_cons_zero, List.getElem?_cons_succ, List.mem_cons, List.not_mem_nil, or_false, false_or, or_true, true_or, if_true, if_false, Bool.false_eq_true, Bool.not_true, Bool.not_false, decide_true, decide_false, and_self, true_and, and_true, Bool.true_and, Bool.and_true, Bool.and_self, Bool.false_and, Bool.and_false, ↓reduceIte, reduceIte, Int.reduceLT, Int.reduceLE, Int.reduceNeg, Int.reduceAdd, Int.reduceSub, Int.reduceMul, Int.reduceToNat, Nat.reduceLT, Nat.reduceLeDiff, Nat.reduceEqDiff, Nat.reduceAdd, Nat.reduceSub, Nat.reduceMul, reduceCtorEq, Int.cast_ofNat_Int, Int.natCast_one, Int.natCast_zero, Int.reduceEq, vMeth_ap, kMeth_l, dRev_list, dCount_ints, kRem_ap, xSeq_rem, xSeq_ext, xExt_ap, kExt_ap, xSeq_pop, xPop_ap, popR_ok, xRem_ap, xSeq_try, xTryL_ap, kTry_nx, kTry_rt, kTry_exc, tryR_rt, tryR_nx, tryR_no, handL_cons, wipeS_nil, wipeS_cons, cv_s, cv_b, cv_i, dl, hr, show ∀ k : Nat, natD k = PyData.int k from fun _ => rfl, c1, c2, hat, hix, ft, ff]
    exact turn_nx ⟨some (false, .int k), some (true, .list ((takenOf bs P k).map natD)), rfl⟩
  · rintro env ⟨x2, x3, rfl⟩
    simp only [startE_eq, kSet_ap, kSetG_ap, kIfS_ap, kIf0_ap, kRet_ap, kDrop_ap, kUnp_slot, kUnp2, kUnp3, kApp_ap, appR_ok, ownR_ok, augR_ok, kPar1_ap, kPar2_ap, kAug_ap, kForS_l, kForS_t, xSkip_ap, xSeq_skip, xSeq_seq, xSeq_set, xSeq_setG, xSeq_if, xSeq_ret, xSeq_retN, xSeq_raise, xSeq_drop, xSeq_brk, xSeq_cnt, xSeq_unp, xSeq_par, xSeq_app, xApp_ap, xSeq_aug, xAug_ap, xSeq_for, xSeq_forS, xSeq_forG, xFor_ap, xForS_ap, xForG_ap, xPar_ap, xSet_ap, xSetG_ap, xIf_ap, xRet_ap, xRetN_ap, xDrop_ap, xRaise_ap, xBreak_ap, xCont_ap, xUnp_ap, xSeq_put, xPut_ap, xSeq_putA, xPutA_ap, paK1_ap, paR1_ok, paX1_ok, paK2_ap, kPut1_ap, kPut2_ap, putR_ok, putJ_ok, kEv_ap, kEvG_ap, kEvL_ap, evS_ap, evG_ap, evL_ap, evA_t, evA_f, keepG_int, keepG_bool, keepG_none, keepG_tuple, keepG_list, flatL_nil, flatL_cons, vVar_ap, varR_ok, optR_ok, vC_ap, kB_ap, vBin_ap, vUn_ap, vTest_ap, kAnd_ap, kAnd2_ap, vAnd_ap, kOr_ap, kOr2_ap, vOr_ap, kNot_ap, kNot2_ap, vNot_ap, kIfE_ap, vIf_ap, kC3_ap, kC2_ap, kC1_ap, vChain_ap, kL_ap, kL2_ap, vL_nil, vL_cons, kTup_ap, kLst_ap, vTup_ap, vLst_ap, vCall_ap, kCut1_ap, kCut2_ap, kCut3_ap, vCut_ap, kPart_ap, vPart_none, vPart_some, kComp_ap, kCompO_ap, vComp_ap, wSeq_ap, wCall_ap, wipe_nil, wipe_cons, dMod_int, bindS_slot, bindS_tup, bindSs_nil, bindSs_slot, bindT_slot, bindT_tup, bindTs_nil, bindTs_slot, onR_ok, onR_exc, outR_rt, outR_nx, outR_exc, after_t, after_f, rb_ok, rb_exc, tr_bool, tr_none, tr_int, tr_list, tr_tuple, toB_bool, toI_int, dAdd_int, dSub_int, dNeg_int, dMul_l, dMul_r, dDiv_int, dLt_int, dLe_int, dGt_int, dGe_int, dEq_int, dNe_int, dEq_bool, dNe_bool, dIs_none, dIsNot_none, dIs_bool, isNone_none, isNone_int, isNone_bool, isNone_tuple, isNone_list, dIdx_list, dIdx_tuple, atI_0, atI_1, atI_2, dLen_list, dLen_tuple, dInt_int, dAbs_int, dTuple_list, dTuple_tuple, dList_list, dList_tuple, dSum_ints, dSum_intsT, dAll_bools, dMin_2, dMax_2, isi_int_int, isi_int_bool, isi_int_none, isi_int_tuple, isi_int_list, isi_bool_int, isi_bool_bool, isi_tuple_tuple, isi_tuple_int, isi_tuple_none, isi_list_list, asSeq_list, asSeq_tuple, iEnum_list, iEnum_tuple, iZip_list, iZip_tuple, dCut_list, dCut_tuple, flat_none, flat_bool, flat_int, flat_str, flat_tuple, flat_list, flatL_ints, flatL_bools, isL_list, isL_int, isL_bool, isL_tuple, isL_none, mview_nil, mview_cons, mv1_f, mv1_n, mv1_t, freeze_nil, freeze_cons, fr1_f, fr1_n, fr1_t, List.set_cons_zero, List.set_cons_succ, List.map_cons, List.map_nil, List.length_cons, List.length_nil, List.replicate_succ, List.replicate_zero, List.cons_append, List.nil_append, List.getElem?_cons_zero, List.getElem?_cons_succ, List.mem_cons, List.not_mem_nil, or_false, false_or, or_true, true_or, if_true, if_false, Bool.false_eq_true, Bool.not_true, Bool.not_false, decide_true, decide_false, and_self, true_and, and_true, Bool.true_and, Bool.and_true, Bool.and_self, Bool.false_and, Bool.and_false, ↓reduceIte, reduceIte, Int.reduceLT, Int.reduceLE, Int.reduceNeg, Int.reduceAdd, Int.reduceSub, Int.reduceMul, Int.reduceToNat, Nat.reduceLT, Nat.reduceLeDiff, Nat.reduceEqDiff, Nat.reduceAdd, Nat.reduceSub, Nat.reduceMul, reduceCtorEq, Int.cast_ofNat_Int, Int.natCast_one, Int.natCast_zero, Int.reduceEq, vMeth_ap, kMeth_l, dRev_list, dCount_ints, kRem_ap, xSeq_rem, xSeq_ext, xExt_ap, kExt_ap, xSeq_pop, xPop_ap, popR_ok, xRem_ap, xSeq_try, xTryL_ap, kTry_nx, kTry_rt, kTry_exc, tryR_rt, tryR_nx, tryR_no, handL_cons, wipeS_nil, wipeS_cons, cv_s, cv_b, cv_i]
/-! as many piles as the greatest depth -/
theorem subset_len : ∀ (l m : List Nat), l.Nodup → (∀ a ∈ l, a ∈ m) → l.length ≤ m.length
  | [], _, _, _ => Nat.zero_le _
  | a :: l, m, hn, hs => by
    rw [List.nodup_cons] at hn
    have ha := hs a (List.mem_cons_self ..)
    have := subset_len l (m.erase a) hn.2 fun b hb => (List.mem_erase_of_ne fun e => hn.1 (by rw [← e]; exact hb)).mpr (hs b (List.mem_cons_of_mem _ hb))
    rw [List.length_erase_of_mem ha] at this
    have := List.length_pos_of_mem ha
    rw [List.length_cons]
    omega
theorem map_nodup {f : Nat → Nat} : ∀ {l : List Nat}, l.Nodup → (∀ a ∈ l, ∀ b ∈ l, a ≠ b → f a ≠ f b) → (l.map f).Nodup
  | [], _, _ => List.Pairwise.nil
  | a :: l, hn, hf => by
    rw [List.nodup_cons] at hn
    rw [List.map_cons, List.nodup_cons]
    refine ⟨fun h => ?_, map_nodup hn.2 fun x hx y hy => hf x (List.mem_cons_of_mem _ hx) y (List.mem_cons_of_mem _ hy)⟩
    obtain ⟨b, hb, e⟩ := List.mem_map.mp h
    exact hf a (List.mem_cons_self ..) b (List.mem_cons_of_mem _ hb) (fun z => hn.1 (by rw [z]; exact hb)) e.symm
def colr (P : List (Option Nat)) (j : Nat) : Nat := (pl P j).getD 0
def tellers (bs : List (Int × Int)) (y : Int) : List Nat := (List.range bs.length).filter fun k => tl (at2 bs k) y
section
variable {bs : List (Int × Int)} {P : List (Option Nat)}
theorem col_some (h : Col bs P (ordK bs)) {j : Nat} (hj : j < bs.length) : pl P j = some (colr P j) := by
  obtain ⟨c, h1, _⟩ := h.inn j ((ordK_perm bs).mem_iff.mpr (List.mem_range.mpr hj))
  unfold colr
  rw [h1]
  rfl
theorem tellers_meet {y : Int} {j k : Nat} (hj : j ∈ tellers bs y) (hk : k ∈ tellers bs y) : meetsB bs j k = true := by
  unfold tellers at hj hk
  rw [List.mem_filter] at hj hk
  have h1 := tl_iff.mp hj.2
  have h2 := tl_iff.mp hk.2
  unfold meetsB
  rw [Bool.and_eq_true, decide_eq_true_eq, decide_eq_true_eq]
  omega
theorem tellers_lt {y : Int} {j : Nat} (hj : j ∈ tellers bs y) : j < bs.length := List.mem_range.mp (List.mem_filter.mp hj).1
theorem dep_le (h : Col bs P (ordK bs)) {M : Nat} (hM : ∀ j, j < bs.length → colr P j ≤ M) (y : Int) : dep bs y ≤ M + 1 := by
  have e : dep bs y = (tellers bs y).length := dep_range bs y
  have hn : ((tellers bs y).map (colr P)).Nodup := map_nodup (List.Pairwise.filter _ List.nodup_range) fun a ha b hb hne e => by
    have ha1 := tellers_lt ha
    have hb1 := tellers_lt hb
    have := h.dif a ((ordK_perm bs).mem_iff.mpr (List.mem_range.mpr ha1)) b ((ordK_perm bs).mem_iff.mpr (List.mem_range.mpr hb1)) hne (tellers_meet ha hb)
    rw [col_some h ha1, col_some h hb1, e] at this
    exact this rfl
  have := subset_len _ (List.range (M + 1)) hn fun a ha => by
    obtain ⟨j, hj, rfl⟩ := List.mem_map.mp ha
    have := hM j (tellers_lt hj)
    exact List.mem_range.mpr (by omega)
  rw [List.length_map, List.length_range] at this
  omega
theorem dep_ge (c : Bk bs) (h : Col bs P (ordK bs)) {k : Nat} (hk : k < bs.length) : colr P k + 1 ≤ dep bs (at2 bs k).1 := by
  have e : dep bs (at2 bs k).1 = (tellers bs (at2 bs k).1).length := dep_range bs _
  have hv := at2_ok c hk
  have := subset_len (List.range (colr P k + 1)) ((tellers bs (at2 bs k).1).map (colr P)) List.nodup_range fun i hi => by
    have hi := List.mem_range.mp hi
    rw [List.mem_map]
    by_cases e : i = colr P k
    · exact ⟨k, List.mem_filter.mpr ⟨List.mem_range.mpr hk, tl_iff.mpr ⟨Int.le_refl _, hv.2.1⟩⟩, e.symm⟩
    · obtain ⟨cc, h1, _, h3⟩ := h.inn k ((ordK_perm bs).mem_iff.mpr (List.mem_range.mpr hk))
      have hc : cc = colr P k := by unfold colr; rw [h1]; rfl
      obtain ⟨j, a1, a2, a3, a4⟩ := h3 i (by omega)
      refine ⟨j, List.mem_filter.mpr ⟨(ordK_perm bs).mem_iff.mp a1, tl_iff.mpr ⟨a2, ?_⟩⟩, by unfold colr; rw [a4]; rfl⟩
      unfold meetsB at a3
      rw [Bool.and_eq_true, decide_eq_true_eq, decide_eq_true_eq] at a3
      exact a3.2
  rw [List.length_map, List.length_range] at this
  omega
theorem dMax_is {ns : List Int} {m : Int} (hm : m ∈ ns) (hle : ∀ x ∈ ns, x ≤ m) : dMax [.list (ns.map PyData.int)] = .ok (.int m) := by
  have h : ns.max? = some m := List.max?_eq_some_iff.mpr ⟨hm, hle⟩
  have e : dMaxL [.list (ns.map PyData.int)] = .ok (.int m) := by
    show ofO PyData.int ((asInts (ns.map PyData.int)).bind (·.max?)) = _
    rw [asInts_map]
    show ofO PyData.int ns.max? = _
    rw [h]
    rfl
  unfold dMax
  rw [e]
theorem dMax_isT {ns : List Int} {m : Int} (hm : m ∈ ns) (hle : ∀ x ∈ ns, x ≤ m) : dMax [.tuple (ns.map PyData.int)] = .ok (.int m) := by
  cases ns with
  | nil => cases hm
  | cons a ns =>
    obtain ⟨q, h1, h2, h3⟩ := maxD_ints ns a
    have e : dMax [.tuple ((a :: ns).map PyData.int)] = (if minOk ((a :: ns).map PyData.int) = true then Res.ok (PySem.W.maxD (.int a) (ns.map .int)) else .stuck) := rfl
    rw [e, ints_minOk, if_pos rfl, h2]
    have := hle q h1
    have := h3 m hm
    have : q = m := by omega
    rw [this]
theorem piles_D (h : Col bs P (ordK bs)) : P.map oD = ((List.range bs.length).map fun k => (colr P k : Int)).map .int := by
  apply List.ext_getElem?
  intro i
  rw [List.map_map, List.getElem?_map, List.getElem?_map]
  by_cases hi : i < bs.length
  · have hP : i < P.length := by rw [h.len]; exact hi
    have e : P[i]? = some (pl P i) := by unfold pl; simp [hP]
    rw [e, List.getElem?_range hi, col_some h hi]
    rfl
  · rw [List.getElem?_eq_none (by rw [h.len]; omega), List.getElem?_eq_none (by simp; omega)]
    rfl
theorem depth_mem {y : Int} (hy : 0 ≤ y) (hl : y < lastI bs) : (dep bs y : Int) ∈ depL bs := by
  unfold depL
  rw [List.mem_map]
  exact ⟨y.toNat, List.mem_range.mpr (by omega), by rw [Int.toNat_of_nonneg hy]⟩
theorem max_both (c : Bk bs) (h : Col bs P (ordK bs)) : ∃ M : Int, dMax [.list (P.map oD ++ [.int (-1)])] = .ok (.int M) ∧ dMax [.tuple ((depL bs).map .int ++ [.int 0])] = .ok (.int (M + 1)) := by
  rw [piles_D h]
  have e1 : ((List.range bs.length).map fun k => (colr P k : Int)).map PyData.int ++ [.int (-1)] = (((List.range bs.length).map fun k => (colr P k : Int)) ++ [-1]).map PyData.int := by simp
  have e2 : (depL bs).map PyData.int ++ [.int 0] = (depL bs ++ [0]).map PyData.int := by simp
  rw [e1, e2]
  by_cases hb : bs.length = 0
  · refine ⟨-1, dMax_is (by simp) fun x hx => ?_, dMax_isT (by simp) fun x hx => ?_⟩
    · simp [hb] at hx
      omega
    · have hbs := List.eq_nil_of_length_eq_zero hb
      subst hbs
      have : depL [] = [] := rfl
      rw [this] at hx
      simp at hx
      omega
  · have hne : ((List.range bs.length).map fun k => (colr P k : Int)) ≠ [] := fun e => hb (by simpa using congrArg List.length e)
    obtain ⟨q, q1, _, q3⟩ := maxD_ints ((List.range bs.length).map fun k => (colr P k : Int)) (-1)
    have hq : ∃ k, k < bs.length ∧ q = (colr P k : Int) := by
      rcases List.mem_cons.mp q1 with e | e
      · have hm : (colr P 0 : Int) ∈ (-1 : Int) :: (List.range bs.length).map fun k => (colr P k : Int) := List.mem_cons_of_mem _ (List.mem_map.mpr ⟨0, List.mem_range.mpr (by omega), rfl⟩)
        have := q3 _ hm
        omega
      · obtain ⟨k, hk, e⟩ := List.mem_map.mp e
        exact ⟨k, List.mem_range.mp hk, e.symm⟩
    obtain ⟨k, hk, rfl⟩ := hq
    have hM : ∀ j, j < bs.length → colr P j ≤ colr P k := fun j hj => by
      have := q3 (colr P j : Int) (List.mem_cons_of_mem _ (List.mem_map.mpr ⟨j, List.mem_range.mpr hj, rfl⟩))
      omega
    have hv := at2_ok c hk
    have hd : dep bs (at2 bs k).1 = colr P k + 1 := Nat.le_antisymm (dep_le h hM _) (dep_ge c h hk)
    have hla : (at2 bs k).1 < lastI bs := by
      have := last_ge (List.mem_of_getElem? (at2_get hk))
      omega
    refine ⟨colr P k, dMax_is (List.mem_append_left _ (List.mem_map.mpr ⟨k, List.mem_range.mpr hk, rfl⟩)) fun x hx => ?_, dMax_isT (List.mem_append_left _ ?_) fun x hx => ?_⟩
    · rcases List.mem_append.mp hx with hx | hx
      · exact q3 x (List.mem_cons_of_mem _ hx)
      · rw [List.mem_singleton] at hx
        omega
    · have := depth_mem hv.1 hla
      rw [hd] at this
      exact this
    · rcases List.mem_append.mp hx with hx | hx
      · unfold depL at hx
        obtain ⟨y, _, rfl⟩ := List.mem_map.mp hx
        have := dep_le h hM (y : Int)
        omega
      · rw [List.mem_singleton] at hx
        omega
end
end K68


set_option Elab.async false
set_option linter.all false
set_option maxRecDepth 100000
set_option maxHeartbeats 4000000
namespace K68
open PySem PySem.Spec PyProof.Rows L2 SH

mutual
theorem eqv_self : ∀ (n : Nat) (d : D), okEq n d = true → PyData.eqv d d = true
  | n, .none, _ => by simp [PyData.eqv]
  | n, .bool b, _ => by simp [PyData.eqv]
  | n, .int i, _ => by simp [PyData.eqv]
  | n, .str x, _ => by simp [PyData.eqv]
  | 0, .list xs, h => by simp [okEq] at h
  | 0, .tuple xs, h => by simp [okEq] at h
  | n + 1, .list xs, h => by
    rw [eqv_list]
    exact eqvAll_self n xs (by simpa [okEq] using h)
  | n + 1, .tuple xs, h => by
    rw [eqv_tuple]
    exact eqvAll_self n xs (by simpa [okEq] using h)
  | n, .dict x, h => by cases n <;> simp [okEq] at h
theorem eqvAll_self : ∀ (n : Nat) (xs : List D), (∀ x ∈ xs, okEq n x = true) → PyData.eqvAll xs xs = true
  | _, [], _ => eqvAll_nil
  | n, x :: xs, h => by
    rw [eqvAll_cons, eqv_self n x (h x (List.mem_cons_self ..)), eqvAll_self n xs fun y hy => h y (List.mem_cons_of_mem _ hy)]
    rfl
end
theorem dNe_self {d : D} (h : okEq 9 d = true) : dNe d d = .ok (.bool false) := by
  unfold dNe
  rw [h, eqv_self 9 d h]
  rfl
theorem ok_bk (J : List (Int × Int)) : okEq 9 (bkD J) = true := by
  show (J.map pr2).all (okEq 8) = true
  rw [List.all_map, List.all_eq_true]
  exact fun _ _ => rfl
theorem ok_ord (o : List Nat) : okEq 9 (ordD o) = true := by
  show (o.map natD).all (okEq 8) = true
  rw [List.all_map, List.all_eq_true]
  exact fun _ _ => rfl
theorem ok_dep (bs : List (Int × Int)) : okEq 9 (depD bs) = true := by
  show ((depL bs).map PyData.int).all (okEq 8) = true
  rw [List.all_map, List.all_eq_true]
  exact fun _ _ => rfl
theorem ok_P (P : List (Option Nat)) : okEq 9 (.tuple (P.map oD)) = true := by
  show (P.map oD).all (okEq 8) = true
  rw [List.all_map, List.all_eq_true]
  exact fun o _ => by cases o <;> rfl
theorem flat_dep (bs : List (Int × Int)) : flat (depD bs) = true := by
  unfold depD
  rw [flat_tuple]
  exact flatL_map fun _ _ => rfl
theorem bet_none : f_is_between [.none, .int 0, .int 60] = .ok (.bool false) := by
  have h1 : f_is_integer [.none] = .ok (.bool false) := by
    refine runFn_eq rfl ?_
    simp only [startE_eq, kSet_ap, kSetG_ap, kIfS_ap, kIf0_ap, kRet_ap, kDrop_ap, kUnp_slot, kUnp2, kUnp3, kApp_ap, appR_ok, ownR_ok, augR_ok, kPar1_ap, kPar2_ap, kAug_ap, kForS_l, kForS_t, xSkip_ap, xSeq_skip, xSeq_seq, xSeq_set, xSeq_setG, xSeq_if, xSeq_ret, xSeq_retN, xSeq_raise, xSeq_drop, xSeq_brk, xSeq_cnt, xSeq_unp, xSeq_par, xSeq_app, xApp_ap, xSeq_aug, xAug_ap, xSeq_for, xSeq_forS, xSeq_forG, xFor_ap, xForS_ap, xForG_ap, xPar_ap, xSet_ap, xSetG_ap, xIf_ap, xRet_ap, xRetN_ap, xDrop_ap, xRaise_ap, xBreak_ap, xCont_ap, xUnp_ap, xSeq_put, xPut_ap, xSeq_putA, xPutA_ap, paK1_ap, paR1_ok, paX1_ok, paK2_ap, kPut1_ap, kPut2_ap, putR_ok, putJ_ok, kEv_ap, kEvG_ap, kEvL_ap, evS_ap, evG_ap, evL_ap, evA_t, evA_f, keepG_int, keepG_bool, keepG_none, keepG_tuple, keepG_list, flatL_nil, flatL_cons, vVar_ap, varR_ok, optR_ok, vC_ap, kB_ap, vBin_ap, vUn_ap, vTest_ap, kAnd_ap, kAnd2_ap, vAnd_ap, kOr_ap, kOr2_ap, vOr_ap, kNot_ap, kNot2_ap, vNot_ap, kIfE_ap, vIf_ap, kC3_ap, kC2_ap, kC1_ap, vChain_ap, kL_ap, kL2_ap, vL_nil, vL_cons, kTup_ap, kLst_ap, vTup_ap, vLst_ap, vCall_ap, kCut1_ap, kCut2_ap, kCut3_ap, vCut_ap, kPart_ap, vPart_none, vPart_some, kComp_ap, kCompO_ap, vComp_ap, wSeq_ap, wCall_ap, wipe_nil, wipe_cons, dMod_int, bindS_slot, bindS_tup, bindSs_nil, bindSs_slot, bindT_slot, bindT_tup, bindTs_nil, bindTs_slot, onR_ok, onR_exc, outR_rt, outR_nx, outR_exc, after_t, after_f, rb_ok, rb_exc, tr_bool, tr_none, tr_int, tr_list, tr_tuple, toB_bool, toI_int, dAdd_int, dSub_int, dNeg_int, dMul_l, dMul_r, dDiv_int, dLt_int, dLe_int, dGt_int, dGe_int, dEq_int, dNe_int, dEq_bool, dNe_bool, dIs_none, dIsNot_none, dIs_bool, isNone_none, isNone_int, isNone_bool, isNone_tuple, isNone_list, dIdx_list, dIdx_tuple, atI_0, atI_1, atI_2, dLen_list, dLen_tuple, dInt_int, dAbs_int, dTuple_list, dTuple_tuple, dList_list, dList_tuple, dSum_ints, dSum_intsT, dAll_bools, dMin_2, dMax_2, isi_int_int, isi_int_bool, isi_int_none, isi_int_tuple, isi_int_list, isi_bool_int, isi_bool_bool, isi_tuple_tuple, isi_tuple_int, isi_tuple_none, isi_list_list, asSeq_list, asSeq_tuple, iEnum_list, iEnum_tuple, iZip_list, iZip_tuple, dCut_list, dCut_tuple, flat_none, flat_bool, flat_int, flat_str, flat_tuple, flat_list, flatL_ints, flatL_bools, isL_list, isL_int, isL_bool, isL_tuple, isL_none, mview_nil, mview_cons, mv1_f, mv1_n, mv1_t, freeze_nil, freeze_cons, fr1_f, fr1_n, fr1_t, List.set_cons_zero, List.set_cons_succ, List.map_cons, List.map_nil, List.length_cons, List.length_nil, List.replicate_succ, List.replicate_zero, List.cons_append, List.nil_append, List.getElem?_cons_zero, List.getElem?_cons_succ, List.mem_cons, List.not_mem_nil, or_false, false_or, or_true, true_or, if_true, if_false, Bool.false_eq_true, Bool.not_true, Bool.not_false, decide_true, decide_false, and_self, true_and, and_true, Bool.true_and, Bool.and_true, Bool.and_self, Bool.false_and, Bool.and_false, ↓reduceIte, reduceIte, Int.reduceLT, Int.reduceLE, Int.reduceNeg, Int.reduceAdd, Int.reduceSub, Int.reduceMul, Int.reduceToNat, Nat.reduceLT, Nat.reduceLeDiff, Nat.reduceEqDiff, Nat.reduceAdd, Nat.reduceSub, Nat.reduceMul, reduceCtorEq, Int.cast_ofNat_Int, Int.natCast_one, Int.natCast_zero, Int.reduceEq, vMeth_ap, kMeth_l, dRev_list, dCount_ints, kRem_ap, xSeq_rem, xSeq_ext, xExt_ap, kExt_ap, xSeq_pop, xPop_ap, popR_ok, xRem_ap, xSeq_try, xTryL_ap, kTry_nx, kTry_rt, kTry_exc, tryR_rt, tryR_nx, tryR_no, handL_cons, wipeS_nil, wipeS_cons, cv_s, cv_b, cv_i, b_is_integer]
  refine runFn_eq rfl ?_
  simp only [startE_eq, kSet_ap, kSetG_ap, kIfS_ap, kIf0_ap, kRet_ap, kDrop_ap, kUnp_slot, kUnp2, kUnp3, kApp_ap, appR_ok, ownR_ok, augR_ok, kPar1_ap, kPar2_ap, kAug_ap, kForS_l, kForS_t, xSkip_ap, xSeq_skip, xSeq_seq, xSeq_set, xSeq_setG, xSeq_if, xSeq_ret, xSeq_retN, xSeq_raise, xSeq_drop, xSeq_brk, xSeq_cnt, xSeq_unp, xSeq_par, xSeq_app, xApp_ap, xSeq_aug, xAug_ap, xSeq_for, xSeq_forS, xSeq_forG, xFor_ap, xForS_ap, xForG_ap, xPar_ap, xSet_ap, xSetG_ap, xIf_ap, xRet_ap, xRetN_ap, xDrop_ap, xRaise_ap, xBreak_ap, xCont_ap, xUnp_ap, xSeq_put, xPut_ap, xSeq_putA, xPutA_ap, paK1_ap, paR1_ok, paX1_ok, paK2_ap, kPut1_ap, kPut2_ap, putR_ok, putJ_ok, kEv_ap, kEvG_ap, kEvL_ap, evS_ap, evG_ap, evL_ap, evA_t, evA_f, keepG_int, keepG_bool, keepG_none, keepG_tuple, keepG_list, flatL_nil, flatL_cons, vVar_ap, varR_ok, optR_ok, vC_ap, kB_ap, vBin_ap, vUn_ap, vTest_ap, kAnd_ap, kAnd2_ap, vAnd_ap, kOr_ap, kOr2_ap, vOr_ap, kNot_ap, kNot2_ap, vNot_ap, kIfE_ap, vIf_ap, kC3_ap, kC2_ap, kC1_ap, vChain_ap, kL_ap, kL2_ap, vL_nil, vL_cons, kTup_ap, kLst_ap, vTup_ap, vLst_ap, vCall_ap, kCut1_ap, kCut2_ap, kCut3_ap, vCut_ap, kPart_ap, vPart_none, vPart_some, kComp_ap, kCompO_ap, vComp_ap, wSeq_ap, wCall_ap, wipe_nil, wipe_cons, dMod_int, bindS_slot, bindS_tup, bindSs_nil, bindSs_slot, bindT_slot, bindT_tup, bindTs_nil, bindTs_slot, onR_ok, onR_exc, outR_rt, outR_nx, outR_exc, after_t, after_f, rb_ok, rb_exc, tr_bool, tr_none, tr_int, tr_list, tr_tuple, toB_bool, toI_int, dAdd_int, dSub_int, dNeg_int, dMul_l, dMul_r, dDiv_int, dLt_int, dLe_int, dGt_int, dGe_int, dEq_int, dNe_int, dEq_bool, dNe_bool, dIs_none, dIsNot_none, dIs_bool, isNone_none, isNone_int, isNone_bool, isNone_tuple, isNone_list, dIdx_list, dIdx_tuple, atI_0, atI_1, atI_2, dLen_list, dLen_tuple, dInt_int, dAbs_int, dTuple_list, dTuple_tuple, dList_list, dList_tuple, dSum_ints, dSum_intsT, dAll_bools, dMin_2, dMax_2, isi_int_int, isi_int_bool, isi_int_none, isi_int_tuple, isi_int_list, isi_bool_int, isi_bool_bool, isi_tuple_tuple, isi_tuple_int, isi_tuple_none, isi_list_list, asSeq_list, asSeq_tuple, iEnum_list, iEnum_tuple, iZip_list, iZip_tuple, dCut_list, dCut_tuple, flat_none, flat_bool, flat_int, flat_str, flat_tuple, flat_list, flatL_ints, flatL_bools, isL_list, isL_int, isL_bool, isL_tuple, isL_none, mview_nil, mview_cons, mv1_f, mv1_n, mv1_t, freeze_nil, freeze_cons, fr1_f, fr1_n, fr1_t, List.set_cons_zero, List.set_cons_succ, List.map_cons, List.map_nil, List.length_cons, List.length_nil, List.replicate_succ, List.replicate_zero, List.cons_append, List.nil_append, List.getElem?_cons_zero, List.getElem?_cons_succ, List.mem_cons, List.not_mem_nil, or_false, false_or, or_true, true_or, if_true, if_false, Bool.false_eq_true, Bool.not_true, Bool.not_false, decide_true, decide_false, and_self, true_and, and_true, Bool.true_and, Bool.and_true, Bool.and_self, Bool.false_and, Bool.and_false, ↓reduceIte, reduceIte, Int.reduceLT, Int.reduceLE, Int.reduceNeg, Int.reduceAdd, Int.reduceSub, Int.reduceMul, Int.reduceToNat, Nat.reduceLT, Nat.reduceLeDiff, Nat.reduceEqDiff, Nat.reduceAdd, Nat.reduceSub, Nat.reduceMul, reduceCtorEq, Int.cast_ofNat_Int, Int.natCast_one, Int.natCast_zero, Int.reduceEq, vMeth_ap, kMeth_l, dRev_list, dCount_ints, kRem_ap, xSeq_rem, xSeq_ext, xExt_ap, kExt_ap, xSeq_pop, xPop_ap, popR_ok, xRem_ap, xSeq_try, xTryL_ap, kTry_nx, kTry_rt, kTry_exc, tryR_rt, tryR_nx, tryR_no, handL_cons, wipeS_nil, wipeS_cons, cv_s, cv_b, cv_i, b_is_between, h1]
theorem bet_true : f_is_between [.bool true, .int 0, .int 60] = .ok (.bool false) := by
  have h1 : f_is_integer [.bool true] = .ok (.bool false) := by
    refine runFn_eq rfl ?_
    simp only [startE_eq, kSet_ap, kSetG_ap, kIfS_ap, kIf0_ap, kRet_ap, kDrop_ap, kUnp_slot, kUnp2, kUnp3, kApp_ap, appR_ok, ownR_ok, augR_ok, kPar1_ap, kPar2_ap, kAug_ap, kForS_l, kForS_t, xSkip_ap, xSeq_skip, xSeq_seq, xSeq_set, xSeq_setG, xSeq_if, xSeq_ret, xSeq_retN, xSeq_raise, xSeq_drop, xSeq_brk, xSeq_cnt, xSeq_unp, xSeq_par, xSeq_app, xApp_ap, xSeq_aug, xAug_ap, xSeq_for, xSeq_forS, xSeq_forG, xFor_ap, xForS_ap, xForG_ap, xPar_ap, xSet_ap, xSetG_ap, xIf_ap, xRet_ap, xRetN_ap, xDrop_ap, xRaise_ap, xBreak_ap, xCont_ap, xUnp_ap, xSeq_put, xPut_ap, xSeq_putA, xPutA_ap, paK1_ap, paR1_ok, paX1_ok, paK2_ap, kPut1_ap, kPut2_ap, putR_ok, putJ_ok, kEv_ap, kEvG_ap, kEvL_ap, evS_ap, evG_ap, evL_ap, evA_t, evA_f, keepG_int, keepG_bool, keepG_none, keepG_tuple, keepG_list, flatL_nil, flatL_cons, vVar_ap, varR_ok, optR_ok, vC_ap, kB_ap, vBin_ap, vUn_ap, vTest_ap, kAnd_ap, kAnd2_ap, vAnd_ap, kOr_ap, kOr2_ap, vOr_ap, kNot_ap, kNot2_ap, vNot_ap, kIfE_ap, vIf_ap, kC3_ap, kC2_ap, kC1_ap, vChain_ap, kL_ap, kL2_ap, vL_nil, vL_cons, kTup_ap, kLst_ap, vTup_ap, vLst_ap, vCall_ap, kCut1_ap, kCut2_ap, kCut3_ap, vCut_ap, kPart_ap, vPart_none, vPart_some, kComp_ap, kCompO_ap, vComp_ap, wSeq_ap, wCall_ap, wipe_nil, wipe_cons, dMod_int, bindS_slot, bindS_tup, bindSs_nil, bindSs_slot, bindT_slot, bindT_tup, bindTs_nil, bindTs_slot, onR_ok, onR_exc, outR_rt, outR_nx, outR_exc, after_t, after_f, rb_ok, rb_exc, tr_bool, tr_none, tr_int, tr_list, tr_tuple, toB_bool, toI_int, dAdd_int, dSub_int, dNeg_int, dMul_l, dMul_r, dDiv_int, dLt_int, dLe_int, dGt_int, dGe_int, dEq_int, dNe_int, dEq_bool, dNe_bool, dIs_none, dIsNot_none, dIs_bool, isNone_none, isNone_int, isNone_bool, isNone_tuple, isNone_list, dIdx_list, dIdx_tuple, atI_0, atI_1, atI_2, dLen_list, dLen_tuple, dInt_int, dAbs_int, dTuple_list, dTuple_tuple, dList_list, dList_tuple, dSum_ints, dSum_intsT, dAll_bools, dMin_2, dMax_2, isi_int_int, isi_int_bool, isi_int_none, isi_int_tuple, isi_int_list, isi_bool_int, isi_bool_bool, isi_tuple_tuple, isi_tuple_int, isi_tuple_none, isi_list_list, asSeq_list, asSeq_tuple, iEnum_list, iEnum_tuple, iZip_list, iZip_tuple, dCut_list, dCut_tuple, flat_none, flat_bool, flat_int, flat_str, flat_tuple, flat_list, flatL_ints, flatL_bools, isL_list, isL_int, isL_bool, isL_tuple, isL_none, mview_nil, mview_cons, mv1_f, mv1_n, mv1_t, freeze_nil, freeze_cons, fr1_f, fr1_n, fr1_t, List.set_cons_zero, List.set_cons_succ, List.map_cons, List.map_nil, List.length_cons, List.length_nil, List.replicate_succ, List.replicate_zero, List.cons_append, List.nil_append, List.getElem?_cons_zero, List.getElem?_cons_succ, List.mem_cons, List.not_mem_nil, or_false, false_or, or_true, true_or, if_true, if_false, Bool.false_eq_true, Bool.not_true, Bool.not_false, decide_true, decide_false, and_self, true_and, and_true, Bool.true_and, Bool.and_true, Bool.and_self, Bool.false_and, Bool.and_false, ↓reduceIte, reduceIte, Int.reduceLT, Int.reduceLE, Int.reduceNeg, Int.reduceAdd, Int.reduceSub, Int.reduceMul, Int.reduceToNat, Nat.reduceLT, Nat.reduceLeDiff, Nat.reduceEqDiff, Nat.reduceAdd, Nat.reduceSub, Nat.reduceMul, reduceCtorEq, Int.cast_ofNat_Int, Int.natCast_one, Int.natCast_zero, Int.reduceEq, vMeth_ap, kMeth_l, dRev_list, dCount_ints, kRem_ap, xSeq_rem, xSeq_ext, xExt_ap, kExt_ap, xSeq_pop, xPop_ap, popR_ok, xRem_ap, xSeq_try, xTryL_ap, kTry_nx, kTry_rt, kTry_exc, tryR_rt, tryR_nx, tryR_no, handL_cons, wipeS_nil, wipeS_cons, cv_s, cv_b, cv_i, b_is_integer]
  refine runFn_eq rfl ?_
  simp only [startE_eq, kSet_ap, kSetG_ap, kIfS_ap, kIf0_ap, kRet_ap, kDrop_ap, kUnp_slot, kUnp2, kUnp3, kApp_ap, appR_ok, ownR_ok, augR_ok, kPar1_ap, kPar2_ap, kAug_ap, kForS_l, kForS_t, xSkip_ap, xSeq_skip, xSeq_seq, xSeq_set, xSeq_setG, xSeq_if, xSeq_ret, xSeq_retN, xSeq_raise, xSeq_drop, xSeq_brk, xSeq_cnt, xSeq_unp, xSeq_par, xSeq_app, xApp_ap, xSeq_aug, xAug_ap, xSeq_for, xSeq_forS, xSeq_forG, xFor_ap, xForS_ap, xForG_ap, xPar_ap, xSet_ap, xSetG_ap, xIf_ap, xRet_ap, xRetN_ap, xDrop_ap, xRaise_ap, xBreak_ap, xCont_ap, xUnp_ap, xSeq_put, xPut_ap, xSeq_putA, xPutA_ap, paK1_ap, paR1_ok, paX1_ok, paK2_ap, kPut1_ap, kPut2_ap, putR_ok, putJ_ok, kEv_ap, kEvG_ap, kEvL_ap, evS_ap, evG_ap, evL_ap, evA_t, evA_f, keepG_int, keepG_bool, keepG_none, keepG_tuple, keepG_list, flatL_nil, flatL_cons, vVar_ap, varR_ok, optR_ok, vC_ap, kB_ap, vBin_ap, vUn_ap, vTest_ap, kAnd_ap, kAnd2_ap, vAnd_ap, kOr_ap, kOr2_ap, vOr_ap, kNot_ap, kNot2_ap, vNot_ap, kIfE_ap, vIf_ap, kC3_ap, kC2_ap, kC1_ap, vChain_ap, kL_ap, kL2_ap, vL_nil, vL_cons, kTup_ap, kLst_ap, vTup_ap, vLst_ap, vCall_ap, kCut1_ap, kCut2_ap, kCut3_ap, vCut_ap, kPart_ap, vPart_none, vPart_some, kComp_ap, kCompO_ap, vComp_ap, wSeq_ap, wCall_ap, wipe_nil, wipe_cons, dMod_int, bindS_slot, bindS_tup, bindSs_nil, bindSs_slot, bindT_slot, bindT_tup, bindTs_nil, bindTs_slot, onR_ok, onR_exc, outR_rt, outR_nx, outR_exc, after_t, after_f, rb_ok, rb_exc, tr_bool, tr_none, tr_int, tr_list, tr_tuple, toB_bool, toI_int, dAdd_int, dSub_int, dNeg_int, dMul_l, dMul_r, dDiv_int, dLt_int, dLe_int, dGt_int, dGe_int, dEq_int, dNe_int, dEq_bool, dNe_bool, dIs_none, dIsNot_none, dIs_bool, isNone_none, isNone_int, isNone_bool, isNone_tuple, isNone_list, dIdx_list, dIdx_tuple, atI_0, atI_1, atI_2, dLen_list, dLen_tuple, dInt_int, dAbs_int, dTuple_list, dTuple_tuple, dList_list, dList_tuple, dSum_ints, dSum_intsT, dAll_bools, dMin_2, dMax_2, isi_int_int, isi_int_bool, isi_int_none, isi_int_tuple, isi_int_list, isi_bool_int, isi_bool_bool, isi_tuple_tuple, isi_tuple_int, isi_tuple_none, isi_list_list, asSeq_list, asSeq_tuple, iEnum_list, iEnum_tuple, iZip_list, iZip_tuple, dCut_list, dCut_tuple, flat_none, flat_bool, flat_int, flat_str, flat_tuple, flat_list, flatL_ints, flatL_bools, isL_list, isL_int, isL_bool, isL_tuple, isL_none, mview_nil, mview_cons, mv1_f, mv1_n, mv1_t, freeze_nil, freeze_cons, fr1_f, fr1_n, fr1_t, List.set_cons_zero, List.set_cons_succ, List.map_cons, List.map_nil, List.length_cons, List.length_nil, List.replicate_succ, List.replicate_zero, List.cons_append, List.nil_append, List.getElem?_cons_zero, List.getElem?_cons_succ, List.mem_cons, List.not_mem_nil, or_false, false_or, or_true, true_or, if_true, if_false, Bool.false_eq_true, Bool.not_true, Bool.not_false, decide_true, decide_false, and_self, true_and, and_true, Bool.true_and, Bool.and_true, Bool.and_self, Bool.false_and, Bool.and_false, ↓reduceIte, reduceIte, Int.reduceLT, Int.reduceLE, Int.reduceNeg, Int.reduceAdd, Int.reduceSub, Int.reduceMul, Int.reduceToNat, Nat.reduceLT, Nat.reduceLeDiff, Nat.reduceEqDiff, Nat.reduceAdd, Nat.reduceSub, Nat.reduceMul, reduceCtorEq, Int.cast_ofNat_Int, Int.natCast_one, Int.natCast_zero, Int.reduceEq, vMeth_ap, kMeth_l, dRev_list, dCount_ints, kRem_ap, xSeq_rem, xSeq_ext, xExt_ap, kExt_ap, xSeq_pop, xPop_ap, popR_ok, xRem_ap, xSeq_try, xTryL_ap, kTry_nx, kTry_rt, kTry_exc, tryR_rt, tryR_nx, tryR_no, handL_cons, wipeS_nil, wipeS_cons, cv_s, cv_b, cv_i, b_is_between, h1]
theorem bet_str : f_is_between [.str "0", .int 0, .int 60] = .ok (.bool false) := by
  have h1 : f_is_integer [.str "0"] = .ok (.bool false) := by
    refine runFn_eq rfl ?_
    have : dIsi "int" (.str "0") = .ok (.bool false) := rfl
    simp only [startE_eq, kSet_ap, kSetG_ap, kIfS_ap, kIf0_ap, kRet_ap, kDrop_ap, kUnp_slot, kUnp2, kUnp3, kApp_ap, appR_ok, ownR_ok, augR_ok, kPar1_ap, kPar2_ap, kAug_ap, kForS_l, kForS_t, xSkip_ap, xSeq_skip, xSeq_seq, xSeq_set, xSeq_setG, xSeq_if, xSeq_ret, xSeq_retN, xSeq_raise, xSeq_drop, xSeq_brk, xSeq_cnt, xSeq_unp, xSeq_par, xSeq_app, xApp_ap, xSeq_aug, xAug_ap, xSeq_for, xSeq_forS, xSeq_forG, xFor_ap, xForS_ap, xForG_ap, xPar_ap, xSet_ap, xSetG_ap, xIf_ap, xRet_ap, xRetN_ap, xDrop_ap, xRaise_ap, xBreak_ap, xCont_ap, xUnp_ap, xSeq_put, xPut_ap, xSeq_putA, xPutA_ap, paK1_ap, paR1_ok, paX1_ok, paK2_ap, kPut1_ap, kPut2_ap, putR_ok, putJ_ok, kEv_ap, kEvG_ap, kEvL_ap, evS_ap, evG_ap, evL_ap, evA_t, evA_f, keepG_int, keepG_bool, keepG_none, keepG_tuple, keepG_list, flatL_nil, flatL_cons, vVar_ap, varR_ok, optR_ok, vC_ap, kB_ap, vBin_ap, vUn_ap, vTest_ap, kAnd_ap, kAnd2_ap, vAnd_ap, kOr_ap, kOr2_ap, vOr_ap, kNot_ap, kNot2_ap, vNot_ap, kIfE_ap, vIf_ap, kC3_ap, kC2_ap, kC1_ap, vChain_ap, kL_ap, kL2_ap, vL_nil, vL_cons, kTup_ap, kLst_ap, vTup_ap, vLst_ap, vCall_ap, kCut1_ap, kCut2_ap, kCut3_ap, vCut_ap, kPart_ap, vPart_none, vPart_some, kComp_ap, kCompO_ap, vComp_ap, wSeq_ap, wCall_ap, wipe_nil, wipe_cons, dMod_int, bindS_slot, bindS_tup, bindSs_nil, bindSs_slot, bindT_slot, bindT_tup, bindTs_nil, bindTs_slot, onR_ok, onR_exc, outR_rt, outR_nx, outR_exc, after_t, after_f, rb_ok, rb_exc, tr_bool, tr_none, tr_int, tr_list, tr_tuple, toB_bool, toI_int, dAdd_int, dSub_int, dNeg_int, dMul_l, dMul_r, dDiv_int, dLt_int, dLe_int, dGt_int, dGe_int, dEq_int, dNe_int, dEq_bool, dNe_bool, dIs_none, dIsNot_none, dIs_bool, isNone_none, isNone_int, isNone_bool, isNone_tuple, isNone_list, dIdx_list, dIdx_tuple, atI_0, atI_1, atI_2, dLen_list, dLen_tuple, dInt_int, dAbs_int, dTuple_list, dTuple_tuple, dList_list, dList_tuple, dSum_ints, dSum_intsT, dAll_bools, dMin_2, dMax_2, isi_int_int, isi_int_bool, isi_int_none, isi_int_tuple, isi_int_list, isi_bool_int, isi_bool_bool, isi_tuple_tuple, isi_tuple_int, isi_tuple_none, isi_list_list, asSeq_list, asSeq_tuple, iEnum_list, iEnum_tuple, iZip_list, iZip_tuple, dCut_list, dCut_tuple, flat_none, flat_bool, flat_int, flat_str, flat_tuple, flat_list, flatL_ints, flatL_bools, isL_list, isL_int, isL_bool, isL_tuple, isL_none, mview_nil, mview_cons, mv1_f, mv1_n, mv1_t, freeze_nil, freeze_cons, fr1_f, fr1_n, fr1_t, List.set_cons_zero, List.set_cons_succ, List.map_cons, List.map_nil, List.length_cons, List.length_nil, List.replicate_succ, List.replicate_zero, List.cons_append, List.nil_append, List.getElem?_cons_zero, List.getElem?_cons_succ, List.mem_cons, List.not_mem_nil, or_false, false_or, or_true, true_or, if_true, if_false, Bool.false_eq_true, Bool.not_true, Bool.not_false, decide_true, decide_false, and_self, true_and, and_true, Bool.true_and, Bool.and_true, Bool.and_self, Bool.false_and, Bool.and_false, ↓reduceIte, reduceIte, Int.reduceLT, Int.reduceLE, Int.reduceNeg, Int.reduceAdd, Int.reduceSub, Int.reduceMul, Int.reduceToNat, Nat.reduceLT, Nat.reduceLeDiff, Nat.reduceEqDiff, Nat.reduceAdd, Nat.reduceSub, Nat.reduceMul, reduceCtorEq, Int.cast_ofNat_Int, Int.natCast_one, Int.natCast_zero, Int.reduceEq, vMeth_ap, kMeth_l, dRev_list, dCount_ints, kRem_ap, xSeq_rem, xSeq_ext, xExt_ap, kExt_ap, xSeq_pop, xPop_ap, popR_ok, xRem_ap, xSeq_try, xTryL_ap, kTry_nx, kTry_rt, kTry_exc, tryR_rt, tryR_nx, tryR_no, handL_cons, wipeS_nil, wipeS_cons, cv_s, cv_b, cv_i, b_is_integer, this]
  refine runFn_eq rfl ?_
  simp only [startE_eq, kSet_ap, kSetG_ap, kIfS_ap, kIf0_ap, kRet_ap, kDrop_ap, kUnp_slot, kUnp2, kUnp3, kApp_ap, appR_ok, ownR_ok, augR_ok, kPar1_ap, kPar2_ap, kAug_ap, kForS_l, kForS_t, xSkip_ap, xSeq_skip, xSeq_seq, xSeq_set, xSeq_setG, xSeq_if, xSeq_ret, xSeq_retN, xSeq_raise, xSeq_drop, xSeq_brk, xSeq_cnt, xSeq_unp, xSeq_par, xSeq_app, xApp_ap, xSeq_aug, xAug_ap, xSeq_for, xSeq_forS, xSeq_forG, xFor_ap, xForS_ap, xForG_ap, xPar_ap, xSet_ap, xSetG_ap, xIf_ap, xRet_ap, xRetN_ap, xDrop_ap, xRaise_ap, xBreak_ap, xCont_ap, xUnp_ap, xSeq_put, xPut_ap, xSeq_putA, xPutA_ap, paK1_ap, paR1_ok, paX1_ok, paK2_ap, kPut1_ap, kPut2_ap, putR_ok, putJ_ok, kEv_ap, kEvG_ap, kEvL_ap, evS_ap, evG_ap, evL_ap, evA_t, evA_f, keepG_int, keepG_bool, keepG_none, keepG_tuple, keepG_list, flatL_nil, flatL_cons, vVar_ap, varR_ok, optR_ok, vC_ap, kB_ap, vBin_ap, vUn_ap, vTest_ap, kAnd_ap, kAnd2_ap, vAnd_ap, kOr_ap, kOr2_ap, vOr_ap, kNot_ap, kNot2_ap, vNot_ap, kIfE_ap, vIf_ap, kC3_ap, kC2_ap, kC1_ap, vChain_ap, kL_ap, kL2_ap, vL_nil, vL_cons, kTup_ap, kLst_ap, vTup_ap, vLst_ap, vCall_ap, kCut1_ap, kCut2_ap, kCut3_ap, vCut_ap, kPart_ap, vPart_none, vPart_some, kComp_ap, kCompO_ap, vComp_ap, wSeq_ap, wCall_ap, wipe_nil, wipe_cons, dMod_int, bindS_slot, bindS_tup, bindSs_nil, bindSs_slot, bindT_slot, bindT_tup, bindTs_nil, bindTs_slot, onR_ok, onR_exc, outR_rt, outR_nx, outR_exc, after_t, after_f, rb_ok, rb_exc, tr_bool, tr_none, tr_int, tr_list, tr_tuple, toB_bool, toI_int, dAdd_int, dSub_int, dNeg_int, dMul_l, dMul_r, dDiv_int, dLt_int, dLe_int, dGt_int, dGe_int, dEq_int, dNe_int, dEq_bool, dNe_bool, dIs_none, dIsNot_none, dIs_bool, isNone_none, isNone_int, isNone_bool, isNone_tuple, isNone_list, dIdx_list, dIdx_tuple, atI_0, atI_1, atI_2, dLen_list, dLen_tuple, dInt_int, dAbs_int, dTuple_list, dTuple_tuple, dList_list, dList_tuple, dSum_ints, dSum_intsT, dAll_bools, dMin_2, dMax_2, isi_int_int, isi_int_bool, isi_int_none, isi_int_tuple, isi_int_list, isi_bool_int, isi_bool_bool, isi_tuple_tuple, isi_tuple_int, isi_tuple_none, isi_list_list, asSeq_list, asSeq_tuple, iEnum_list, iEnum_tuple, iZip_list, iZip_tuple, dCut_list, dCut_tuple, flat_none, flat_bool, flat_int, flat_str, flat_tuple, flat_list, flatL_ints, flatL_bools, isL_list, isL_int, isL_bool, isL_tuple, isL_none, mview_nil, mview_cons, mv1_f, mv1_n, mv1_t, freeze_nil, freeze_cons, fr1_f, fr1_n, fr1_t, List.set_cons_zero, List.set_cons_succ, List.map_cons, List.map_nil, List.length_cons, List.length_nil, List.replicate_succ, List.replicate_zero, List.cons_append, List.nil_append, List.getElem?_cons_zero, List.getElem?_cons_succ, List.mem_cons, List.not_mem_nil, or_false, false_or, or_true, true_or, if_true, if_false, Bool.false_eq_true, Bool.not_true, Bool.not_false, decide_true, decide_false, and_self, true_and, and_true, Bool.true_and, Bool.and_true, Bool.and_self, Bool.false_and, Bool.and_false, ↓reduceIte, reduceIte, Int.reduceLT, Int.reduceLE, Int.reduceNeg, Int.reduceAdd, Int.reduceSub, Int.reduceMul, Int.reduceToNat, Nat.reduceLT, Nat.reduceLeDiff, Nat.reduceEqDiff, Nat.reduceAdd, Nat.reduceSub, Nat.reduceMul, reduceCtorEq, Int.cast_ofNat_Int, Int.natCast_one, Int.natCast_zero, Int.reduceEq, vMeth_ap, kMeth_l, dRev_list, dCount_ints, kRem_ap, xSeq_rem, xSeq_ext, xExt_ap, kExt_ap, xSeq_pop, xPop_ap, popR_ok, xRem_ap, xSeq_try, xTryL_ap, kTry_nx, kTry_rt, kTry_exc, tryR_rt, tryR_nx, tryR_no, handL_cons, wipeS_nil, wipeS_cons, cv_s, cv_b, cv_i, b_is_between, h1]
def things : List D := [.none, .int (-1), .int 61, .bool true, .str "0"]
theorem things_ok {bs : List (Int × Int)} (c : Bk bs) : ∀ d ∈ things, f__law_refused [bkD bs, d] = .ok (.bool true) := by
  intro d hd
  unfold things at hd
  simp only [List.mem_cons, List.not_mem_nil, or_false] at hd
  rcases hd with rfl | rfl | rfl | rfl | rfl
  · exact refused_eq c bet_none rfl rfl
  · exact refused_eq c (by rw [between_eq]; rfl) rfl rfl
  · exact refused_eq c (by rw [between_eq]; rfl) rfl rfl
  · exact refused_eq c bet_true rfl rfl
  · exact refused_eq c bet_str rfl rfl
def b_r3 : SEn → Out :=
  (xSeq (xIf [1, 11, 4] (vTest (vOr (vBin dNe (vCall f_subject_piles [(vVar 1)]) (vCall dTuple [(vVar 11)])) (vBin dNe (vBin dAdd (vCall dMax [(vBin dAdd (vVar 11) (vLst [(vBin dSub (vC (.int 0)) (vC (.int 1)))]))]) (vC (.int 1))) (vCall dMax [(vBin dAdd (vVar 4) (vTup [(vC (.int 0))]))]))))
  (xRet [] (vC (.bool false)))
  (xSkip))
  (xSeq (xSet 7 [0] (vBin dIdx (vCall f__law_row [(vCall f__law_at [(vVar 0), (vC (.int 2))]), (vC (.int 1)), (vC (.int 61))]) (vC (.int 0))))
  (xSeq (xIf [1, 10, 7] (vTest (vBin dNe (vCall f_subject_found [(vVar 1), (vVar 7)]) (vCall dTuple [(vComp (wCall iRange [(vCall dLen [(vVar 1)])]) (.slot 10) [10] (some (vTest (vCall f__law_tells [(vBin dIdx (vVar 1) (vVar 10)), (vVar 7)]))) (vVar 10))])))
  (xRet [] (vC (.bool false)))
  (xSkip))
  (xRet [1, 16] (vCall dAll [(vComp (wSeq (vLst [(vC .none), (vBin dSub (vC (.int 0)) (vC (.int 1))), (vC (.int 61)), (vC (.bool true)), (vC (.str "0"))])) (.slot 16) [16] none (vCall f__law_refused [(vVar 1), (vVar 16)]))])))))
section
variable {bs : List (Int × Int)}
theorem r3_ok (c : Bk bs) {scr : D} {z2 : Int} (a2 : f__law_at [scr, .int 2] = .ok (.int z2)) (x2 x3 x5 x6 x7 x8 x9 x10 x12 x13 x14 x15 : Option (Bool × D)) :
    outR (b_r3 [some (false, scr), some (false, bkD bs), x2, x3, some (false, depD bs), x5, x6, x7, x8, x9, x10, some (true, .list ((pileP bs (ordK bs)).map oD)), x12, x13, x14, x15, none]) = .ok (.bool true) := by
  have hl := c.l1
  have hcol : Col bs (pileP bs (ordK bs)) (ordK bs) := col_pre _ (ordK bs) [] rfl (by simp)
  have h1 := piles_eq c
  obtain ⟨M, m1, m2⟩ := max_both c hcol
  have hP := ok_P (pileP bs (ordK bs))
  have hlen := hcol.len
  generalize pileP bs (ordK bs) = P at *
  have d1 := dNe_self hP
  have a1 : dAdd (.list (P.map oD)) (.list [.int (-1)]) = .ok (.list (P.map oD ++ [.int (-1)])) := dAdd_list (by rw [List.length_map, List.length_singleton]; omega)
  have hdl := depL_len bs
  have hl1 := last_le c
  have a3 : dAdd (depD bs) (.tuple [.int 0]) = .ok (.tuple ((depL bs).map .int ++ [.int 0])) := dAdd_tuple (by rw [List.length_map, List.length_singleton]; omega)
  have nn : ∀ x : Int, dNe (.int x) (.int x) = .ok (.bool false) := fun x => dNe_self rfl
  have r1 : f__law_row [.int z2, .int 1, .int 61] = _ := row_eq z2 61 1 (by decide) (by decide) (by decide)
  have i1 : atI ((rowL z2 61 1).map PyData.int) 0 = some (.int (rowI z2 61 0)) := atI_map (i := 0) (rowL_get (by decide))
  obtain ⟨y0, y1⟩ := rowI_nn (cell := z2) (top := 61) (k := 0) (by decide)
  generalize rowI z2 61 0 = y at i1 y0 y1
  have hf := found_eq c y0 (by omega)
  have d2 := dNe_self (ok_ord ((List.range bs.length).filter fun k => tl (at2 bs k) y))
  have fb := flat_bk bs
  have dl := bk_len bs
  have hr : iRange [.int (bs.length : Int)] = .ok (rangeD 0 bs.length) := iRange_1 (by omega)
  have c1 : ∀ s0 s2 s3 s4 s5 s6 s8 s9 s10 s11 s12 s13 s14 s15 s16, compGo (compTurnD (.slot 10) [10] (some (vTest (vCall f__law_tells [vBin dIdx (vVar 1) (vVar 10), vVar 7]))) (vVar 10) [s0, some (bkD bs), s2, s3, s4, s5, s6, some (.int y), s8, s9, s10, s11, s12, s13, s14, s15, s16]) (rangeD 0 bs.length) = .ok (((List.range bs.length).filter fun k => tl (at2 bs k) y).map natD) := by
    intro s0 s2 s3 s4 s5 s6 s8 s9 s10 s11 s12 s13 s14 s15 s16
    refine comp_if fun k hk => ?_
    have b1 := bk_at2 hk
    have b2 := ltells_eq (at2 bs k) y
    exact turn_if rfl (by simp only [startE_eq, kSet_ap, kSetG_ap, kIfS_ap, kIf0_ap, kRet_ap, kDrop_ap, kUnp_slot, kUnp2, kUnp3, kApp_ap, appR_ok, ownR_ok, augR_ok, kPar1_ap, kPar2_ap, kAug_ap, kForS_l, kForS_t, xSkip_ap, xSeq_skip, xSeq_seq, xSeq_set, xSeq_setG, xSeq_if, xSeq_ret, xSeq_retN, xSeq_raise, xSeq_drop, xSeq_brk, xSeq_cnt, xSeq_unp, xSeq_par, xSeq_app, xApp_ap, xSeq_aug, xAug_ap, xSeq_for, xSeq_forS, xSeq_forG, xFor_ap, xForS_ap, xForG_ap, xPar_ap, xSet_ap, xSetG_ap, xIf_ap, xRet_ap, xRetN_ap, xDrop_ap, xRaise_ap, xBreak_ap, xCont_ap, xUnp_ap, xSeq_put, xPut_ap, xSeq_putA, xPutA_ap, paK1_ap, paR1_ok, paX1_ok, paK2_ap, kPut1_ap, kPut2_ap, putR_ok, putJ_ok, kEv_ap, kEvG_ap, kEvL_ap, evS_ap, evG_ap, evL_ap, evA_t, evA_f, keepG_int, keepG_bool, keepG_none, keepG_tuple, keepG_list, flatL_nil, flatL_cons, vVar_ap, varR_ok, optR_ok, vC_ap, kB_ap, vBin_ap, vUn_ap, vTest_ap, kAnd_ap, kAnd2_ap, vAnd_ap, kOr_ap, kOr2_ap, vOr_ap, kNot_ap, kNot2_ap, vNot_ap, kIfE_ap, vIf_ap, kC3_ap, kC2_ap, kC1_ap, vChain_ap, kL_ap, kL2_ap, vL_nil, vL_cons, kTup_ap, kLst_ap, vTup_ap, vLst_ap, vCall_ap, kCut1_ap, kCut2_ap, kCut3_ap, vCut_ap, kPart_ap, vPart_none, vPart_some, kComp_ap, kCompO_ap, vComp_ap, wSeq_ap, wCall_ap, wipe_nil, wipe_cons, dMod_int, bindS_slot, bindS_tup, bindSs_nil, bindSs_slot, bindT_slot, bindT_tup, bindTs_nil, bindTs_slot, onR_ok, onR_exc, outR_rt, outR_nx, outR_exc, after_t, after_f, rb_ok, rb_exc, tr_bool, tr_none, tr_int, tr_list, tr_tuple, toB_bool, toI_int, dAdd_int, dSub_int, dNeg_int, dMul_l, dMul_r, dDiv_int, dLt_int, dLe_int, dGt_int, dGe_int, dEq_int, dNe_int, dEq_bool, dNe_bool, dIs_none, dIsNot_none, dIs_bool, isNone_none, isNone_int, isNone_bool, isNone_tuple, isNone_list, dIdx_list, dIdx_tuple, atI_0, atI_1, atI_2, dLen_list, dLen_tuple, dInt_int, dAbs_int, dTuple_list, dTuple_tuple, dList_list, dList_tuple, dSum_ints, dSum_intsT, dAll_bools, dMin_2, dMax_2, isi_int_int, isi_int_bool, isi_int_none, isi_int_tuple, isi_int_list, isi_bool_int, isi_bool_bool, isi_tuple_tuple, isi_tuple_int, isi_tuple_none, isi_list_list, asSeq_list, asSeq_tuple, iEnum_list, iEnum_tuple, iZip_list, iZip_tuple, dCut_list, dCut_tuple, flat_none, flat_bool, flat_int, flat_str, flat_tuple, flat_list, flatL_ints, flatL_bools, isL_list, isL_int, isL_bool, isL_tuple, isL_none, mview_nil, mview_cons, mv1_f, mv1_n, mv1_t, freeze_nil, freeze_cons, fr1_f, fr1_n, fr1_t, List.set_cons_zero, List.set_cons_succ, List.map_cons, List.map_nil, List.length_cons, List.length_nil, List.replicate_succ, List.replicate_zero, List.cons_append, List.nil_append, List.getElem?_cons_zero, List.getElem?_cons_succ, List.mem_cons, List.not_mem_nil, or_false, false_or, or_true, true_or, if_true, if_false, Bool.false_eq_true, Bool.not_true, Bool.not_false, decide_true, decide_false, and_self, true_and, and_true, Bool.true_and, Bool.and_true, Bool.and_self, Bool.false_and, Bool.and_false, ↓reduceIte, reduceIte, Int.reduceLT, Int.reduceLE, Int.reduceNeg, Int.reduceAdd, Int.reduceSub, Int.reduceMul, Int.reduceToNat, Nat.reduceLT, Nat.reduceLeDiff, Nat.reduceEqDiff, Nat.reduceAdd, Nat.reduceSub, Nat.reduceMul, reduceCtorEq, Int.cast_ofNat_Int, Int.natCast_one, Int.natCast_zero, Int.reduceEq, vMeth_ap, kMeth_l, dRev_list, dCount_ints, kRem_ap, xSeq_rem, xSeq_ext, xExt_ap, kExt_ap, xSeq_pop, xPop_ap, popR_ok, xRem_ap, xSeq_try, xTryL_ap, kTry_nx, kTry_rt, kTry_exc, tryR_rt, tryR_nx, tryR_no, handL_cons, wipeS_nil, wipeS_cons, cv_s, cv_b, cv_i, Int.zero_add, b1, b2]) fun _ => by simp only [startE_eq, kSet_ap, kSetG_ap, kIfS_ap, kIf0_ap, kRet_ap, kDrop_ap, kUnp_slot, kUnp2, kUnp3, kApp_ap, appR_ok, ownR_ok, augR_ok, kPar1_ap, kPar2_ap, kAug_ap, kForS_l, kForS_t, xSkip_ap, xSeq_skip, xSeq_seq, xSeq_set, xSeq_setG, xSeq_if, xSeq_ret, xSeq_retN, xSeq_raise, xSeq_drop, xSeq_brk, xSeq_cnt, xSeq_unp, xSeq_par, xSeq_app, xApp_ap, xSeq_aug, xAug_ap, xSeq_for, xSeq_forS, xSeq_forG, xFor_ap, xForS_ap, xForG_ap, xPar_ap, xSet_ap, xSetG_ap, xIf_ap, xRet_ap, xRetN_ap, xDrop_ap, xRaise_ap, xBreak_ap, xCont_ap, xUnp_ap, xSeq_put, xPut_ap, xSeq_putA, xPutA_ap, paK1_ap, paR1_ok, paX1_ok, paK2_ap, kPut1_ap, kPut2_ap, putR_ok, putJ_ok, kEv_ap, kEvG_ap, kEvL_ap, evS_ap, evG_ap, evL_ap, evA_t, evA_f, keepG_int, keepG_bool, keepG_none, keepG_tuple, keepG_list, flatL_nil, flatL_cons, vVar_ap, varR_ok, optR_ok, vC_ap, kB_ap, vBin_ap, vUn_ap, vTest_ap, kAnd_ap, kAnd2_ap, vAnd_ap, kOr_ap, kOr2_ap, vOr_ap, kNot_ap, kNot2_ap, vNot_ap, kIfE_ap, vIf_ap, kC3_ap, kC2_ap, kC1_ap, vChain_ap, kL_ap, kL2_ap, vL_nil, vL_cons, kTup_ap, kLst_ap, vTup_ap, vLst_ap, vCall_ap, kCut1_ap, kCut2_ap, kCut3_ap, vCut_ap, kPart_ap, vPart_none, vPart_some, kComp_ap, kCompO_ap, vComp_ap, wSeq_ap, wCall_ap, wipe_nil, wipe_cons, dMod_int, bindS_slot, bindS_tup, bindSs_nil, bindSs_slot, bindT_slot, bindT_tup, bindTs_nil, bindTs_slot, onR_ok, onR_exc, outR_rt, outR_nx, outR_exc, after_t, after_f, rb_ok, rb_exc, tr_bool, tr_none, tr_int, tr_list, tr_tuple, toB_bool, toI_int, dAdd_int, dSub_int, dNeg_int, dMul_l, dMul_r, dDiv_int, dLt_int, dLe_int, dGt_int, dGe_int, dEq_int, dNe_int, dEq_bool, dNe_bool, dIs_none, dIsNot_none, dIs_bool, isNone_none, isNone_int, isNone_bool, isNone_tuple, isNone_list, dIdx_list, dIdx_tuple, atI_0, atI_1, atI_2, dLen_list, dLen_tuple, dInt_int, dAbs_int, dTuple_list, dTuple_tuple, dList_list, dList_tuple, dSum_ints, dSum_intsT, dAll_bools, dMin_2, dMax_2, isi_int_int, isi_int_bool, isi_int_none, isi_int_tuple, isi_int_list, isi_bool_int, isi_bool_bool, isi_tuple_tuple, isi_tuple_int, isi_tuple_none, isi_list_list, asSeq_list, asSeq_tuple, iEnum_list, iEnum_tuple, iZip_list, iZip_tuple, dCut_list, dCut_tuple, flat_none, flat_bool, flat_int, flat_str, flat_tuple, flat_list, flatL_ints, flatL_bools, isL_list, isL_int, isL_bool, isL_tuple, isL_none, mview_nil, mview_cons, mv1_f, mv1_n, mv1_t, freeze_nil, freeze_cons, fr1_f, fr1_n, fr1_t, List.set_cons_zero, List.set_cons_succ, List.map_cons, List.map_nil, List.length_cons, List.length_nil, List.replicate_succ, List.replicate_zero, List.cons_append, List.nil_append, List.getElem?_cons_zero, List.getElem?_cons_succ, List.mem_cons, List.not_mem_nil, or_false, false_or, or_true, true_or, if_true, if_false, Bool.false_eq_true, Bool.not_true, Bool.not_false, decide_true, decide_false, and_self, true_and, and_true, Bool.true_and, Bool.and_true, Bool.and_self, Bool.false_and, Bool.and_false, ↓reduceIte, reduceIte, Int.reduceLT, Int.reduceLE, Int.reduceNeg, Int.reduceAdd, Int.reduceSub, Int.reduceMul, Int.reduceToNat, Nat.reduceLT, Nat.reduceLeDiff, Nat.reduceEqDiff, Nat.reduceAdd, Nat.reduceSub, Nat.reduceMul, reduceCtorEq, Int.cast_ofNat_Int, Int.natCast_one, Int.natCast_zero, Int.reduceEq, vMeth_ap, kMeth_l, dRev_list, dCount_ints, kRem_ap, xSeq_rem, xSeq_ext, xExt_ap, kExt_ap, xSeq_pop, xPop_ap, popR_ok, xRem_ap, xSeq_try, xTryL_ap, kTry_nx, kTry_rt, kTry_exc, tryR_rt, tryR_nx, tryR_no, handL_cons, wipeS_nil, wipeS_cons, cv_s, cv_b, cv_i, Int.zero_add]; rfl
  have hT : dTuple [.list (((List.range bs.length).filter fun k => tl (at2 bs k) y).map natD)] = .ok (ordD ((List.range bs.length).filter fun k => tl (at2 bs k) y)) := rfl
  have c2 : ∀ s0 s2 s3 s4 s5 s6 s7 s8 s9 s10 s11 s12 s13 s14 s15 s16, compGo (compTurnD (.slot 16) [16] none (vCall f__law_refused [vVar 1, vVar 16]) [s0, some (bkD bs), s2, s3, s4, s5, s6, s7, s8, s9, s10, s11, s12, s13, s14, s15, s16]) [.none, .int (-1), .int 61, .bool true, .str "0"] = .ok ((things.map fun _ => true).map .bool) := by
    intro s0 s2 s3 s4 s5 s6 s7 s8 s9 s10 s11 s12 s13 s14 s15 s16
    rw [List.map_map]
    have := compGo_map (f := compTurnD (.slot 16) [16] none (vCall f__law_refused [vVar 1, vVar 16]) [s0, some (bkD bs), s2, s3, s4, s5, s6, s7, s8, s9, s10, s11, s12, s13, s14, s15, s16]) (enc := id) (o := fun _ => PyData.bool true) (xs := things) fun d hd => by
      have := things_ok c d hd
      exact turn_all rfl (by simp only [startE_eq, kSet_ap, kSetG_ap, kIfS_ap, kIf0_ap, kRet_ap, kDrop_ap, kUnp_slot, kUnp2, kUnp3, kApp_ap, appR_ok, ownR_ok, augR_ok, kPar1_ap, kPar2_ap, kAug_ap, kForS_l, kForS_t, xSkip_ap, xSeq_skip, xSeq_seq, xSeq_set, xSeq_setG, xSeq_if, xSeq_ret, xSeq_retN, xSeq_raise, xSeq_drop, xSeq_brk, xSeq_cnt, xSeq_unp, xSeq_par, xSeq_app, xApp_ap, xSeq_aug, xAug_ap, xSeq_for, xSeq_forS, xSeq_forG, xFor_ap, xForS_ap, xForG_ap, xPar_ap, xSet_ap, xSetG_ap, xIf_ap, xRet_ap, xRetN_ap, xDrop_ap, xRaise_ap, xBreak_ap, xCont_ap, xUnp_ap, xSeq_put, xPut_ap, xSeq_putA, xPutA_ap, paK1_ap, paR1_ok, paX1_ok, paK2_ap, kPut1_ap, kPut2_ap, putR_ok, putJ_ok, kEv_ap, kEvG_ap, kEvL_ap, evS_ap, evG_ap, evL_ap, evA_t, evA_f, keepG_int, keepG_bool, keepG_none, keepG_tuple, keepG_list, flatL_nil, flatL_cons, vVar_ap, varR_ok, optR_ok, vC_ap, kB_ap, vBin_ap, vUn_ap, vTest_ap, kAnd_ap, kAnd2_ap, vAnd_ap, kOr_ap, kOr2_ap, vOr_ap, kNot_ap, kNot2_ap, vNot_ap, kIfE_ap, vIf_ap, kC3_ap, kC2_ap, kC1_ap, vChain_ap, kL_ap, kL2_ap, vL_nil, vL_cons, kTup_ap, kLst_ap, vTup_ap, vLst_ap, vCall_ap, kCut1_ap, kCut2_ap, kCut3_ap, vCut_ap, kPart_ap, vPart_none, vPart_some, kComp_ap, kCompO_ap, vComp_ap, wSeq_ap, wCall_ap, wipe_nil, wipe_cons, dMod_int, bindS_slot, bindS_tup, bindSs_nil, bindSs_slot, bindT_slot, bindT_tup, bindTs_nil, bindTs_slot, onR_ok, onR_exc, outR_rt, outR_nx, outR_exc, after_t, after_f, rb_ok, rb_exc, tr_bool, tr_none, tr_int, tr_list, tr_tuple, toB_bool, toI_int, dAdd_int, dSub_int, dNeg_int, dMul_l, dMul_r, dDiv_int, dLt_int, dLe_int, dGt_int, dGe_int, dEq_int, dNe_int, dEq_bool, dNe_bool, dIs_none, dIsNot_none, dIs_bool, isNone_none, isNone_int, isNone_bool, isNone_tuple, isNone_list, dIdx_list, dIdx_tuple, atI_0, atI_1, atI_2, dLen_list, dLen_tuple, dInt_int, dAbs_int, dTuple_list, dTuple_tuple, dList_list, dList_tuple, dSum_ints, dSum_intsT, dAll_bools, dMin_2, dMax_2, isi_int_int, isi_int_bool, isi_int_none, isi_int_tuple, isi_int_list, isi_bool_int, isi_bool_bool, isi_tuple_tuple, isi_tuple_int, isi_tuple_none, isi_list_list, asSeq_list, asSeq_tuple, iEnum_list, iEnum_tuple, iZip_list, iZip_tuple, dCut_list, dCut_tuple, flat_none, flat_bool, flat_int, flat_str, flat_tuple, flat_list, flatL_ints, flatL_bools, isL_list, isL_int, isL_bool, isL_tuple, isL_none, mview_nil, mview_cons, mv1_f, mv1_n, mv1_t, freeze_nil, freeze_cons, fr1_f, fr1_n, fr1_t, List.set_cons_zero, List.set_cons_succ, List.map_cons, List.map_nil, List.length_cons, List.length_nil, List.replicate_succ, List.replicate_zero, List.cons_append, List.nil_append, List.getElem?_cons_zero, List.getElem?_cons_succ, List.mem_cons, List.not_mem_nil, or_false, false_or, or_true, true_or, if_true, if_false, Bool.false_eq_true, Bool.not_true, Bool.not_false, decide_true, decide_false, and_self, true_and, and_true, Bool.true_and, Bool.and_true, Bool.and_self, Bool.false_and, Bool.and_false, ↓reduceIte, reduceIte, Int.reduceLT, Int.reduceLE, Int.reduceNeg, Int.reduceAdd, Int.reduceSub, Int.reduceMul, Int.reduceToNat, Nat.reduceLT, Nat.reduceLeDiff, Nat.reduceEqDiff, Nat.reduceAdd, Nat.reduceSub, Nat.reduceMul, reduceCtorEq, Int.cast_ofNat_Int, Int.natCast_one, Int.natCast_zero, Int.reduceEq, vMeth_ap, kMeth_l, dRev_list, dCount_ints, kRem_ap, xSeq_rem, xSeq_ext, xExt_ap, kExt_ap, xSeq_pop, xPop_ap, popR_ok, xRem_ap, xSeq_try, xTryL_ap, kTry_nx, kTry_rt, kTry_exc, tryR_rt, tryR_nx, tryR_no, handL_cons, wipeS_nil, wipeS_cons, cv_s, cv_b, cv_i, id, this])
    rw [List.map_id] at this
    exact this
  generalize hOD : ordD ((List.range bs.length).filter fun k => tl (at2 bs k) y) = OD at *
  generalize hFL : ((List.range bs.length).filter fun k => tl (at2 bs k) y).map natD = FL at *
  have eT := all_true things
  simp only [startE_eq, kSet_ap, kSetG_ap, kIfS_ap, kIf0_ap, kRet_ap, kDrop_ap, kUnp_slot, kUnp2, kUnp3, kApp_ap, appR_ok, ownR_ok, augR_ok, kPar1_ap, kPar2_ap, kAug_ap, kForS_l, kForS_t, xSkip_ap, xSeq_skip, xSeq_seq, xSeq_set, xSeq_setG, xSeq_if, xSeq_ret, xSeq_retN, xSeq_raise, xSeq_drop, xSeq_brk, xSeq_cnt, xSeq_unp, xSeq_par, xSeq_app, xApp_ap, xSeq_aug, xAug_ap, xSeq_for, xSeq_forS, xSeq_forG, xFor_ap, xForS_ap, xForG_ap, xPar_ap, xSet_ap, xSetG_ap, xIf_ap, xRet_ap, xRetN_ap, xDrop_ap, xRaise_ap, xBreak_ap, xCont_ap, xUnp_ap, xSeq_put, xPut_ap, xSeq_putA, xPutA_ap, paK1_ap, paR1_ok, paX1_ok, paK2_ap, kPut1_ap, kPut2_ap, putR_ok, putJ_ok, kEv_ap, kEvG_ap, kEvL_ap, evS_ap, evG_ap, evL_ap, evA_t, evA_f, keepG_int, keepG_bool, keepG_none, keepG_tuple, keepG_list, flatL_nil, flatL_cons, vVar_ap, varR_ok, optR_ok, vC_ap, kB_ap, vBin_ap, vUn_ap, vTest_ap, kAnd_ap, kAnd2_ap, vAnd_ap, kOr_ap, kOr2_ap, vOr_ap, kNot_ap, kNot2_ap, vNot_ap, kIfE_ap, vIf_ap, kC3_ap, kC2_ap, kC1_ap, vChain_ap, kL_ap, kL2_ap, vL_nil, vL_cons, kTup_ap, kLst_ap, vTup_ap, vLst_ap, vCall_ap, kCut1_ap, kCut2_ap, kCut3_ap, vCut_ap, kPart_ap, vPart_none, vPart_some, kComp_ap, kCompO_ap, vComp_ap, wSeq_ap, wCall_ap, wipe_nil, wipe_cons, dMod_int, bindS_slot, bindS_tup, bindSs_nil, bindSs_slot, bindT_slot, bindT_tup, bindTs_nil, bindTs_slot, onR_ok, onR_exc, outR_rt, outR_nx, outR_exc, after_t, after_f, rb_ok, rb_exc, tr_bool, tr_none, tr_int, tr_list, tr_tuple, toB_bool, toI_int, dAdd_int, dSub_int, dNeg_int, dMul_l, dMul_r, dDiv_int, dLt_int, dLe_int, dGt_int, dGe_int, dEq_int, dNe_int, dEq_bool, dNe_bool, dIs_none, dIsNot_none, dIs_bool, isNone_none, isNone_int, isNone_bool, isNone_tuple, isNone_list, dIdx_list, dIdx_tuple, atI_0, atI_1, atI_2, dLen_list, dLen_tuple, dInt_int, dAbs_int, dTuple_list, dTuple_tuple, dList_list, dList_tuple, dSum_ints, dSum_intsT, dAll_bools, dMin_2, dMax_2, isi_int_int, isi_int_bool, isi_int_none, isi_int_tuple, isi_int_list, isi_bool_int, isi_bool_bool, isi_tuple_tuple, isi_tuple_int, isi_tuple_none, isi_list_list, asSeq_list, asSeq_tuple, iEnum_list, iEnum_tuple, iZip_list, iZip_tuple, dCut_list, dCut_tuple, flat_none, flat_bool, flat_int, flat_str, flat_tuple, flat_list, flatL_ints, flatL_bools, isL_list, isL_int, isL_bool, isL_tuple, isL_none, mview_nil, mview_cons, mv1_f, mv1_n, mv1_t, freeze_nil, freeze_cons, fr1_f, fr1_n, fr1_t, List.set_cons_zero, List.set_cons_succ, List.map_cons, List.map_nil, List.length_cons, List.length_nil, List.replicate_succ, List.replicate_zero, List.cons_append, List.nil_append, List.getElem?_cons_zero, List.getElem?_cons_succ, List.mem_cons, List.not_mem_nil, or_false, false_or, or_true, true_or, if_true, if_false, Bool.false_eq_true, Bool.not_true, Bool.not_false, decide_true, decide_false, and_self, true_and, and_true, Bool.true_and, Bool.and_true, Bool.and_self, Bool.false_and, Bool.and_false, ↓reduceIte, reduceIte, Int.reduceLT, Int.reduceLE, Int.reduceNeg, Int.reduceAdd, Int.reduceSub, Int.reduceMul, Int.reduceToNat, Nat.reduceLT, Nat.reduceLeDiff, Nat.reduceEqDiff, Nat.reduceAdd, Nat.reduceSub, Nat.reduceMul, reduceCtorEq, Int.cast_ofNat_Int, Int.natCast_one, Int.natCast_zero, Int.reduceEq, vMeth_ap, kMeth_l, dRev_list, dCount_ints, kRem_ap, xSeq_rem, xSeq_ext, xExt_ap, kExt_ap, xSeq_pop, xPop_ap, popR_ok, xRem_ap, xSeq_try, xTryL_ap, kTry_nx, kTry_rt, kTry_exc, tryR_rt, tryR_nx, tryR_no, handL_cons, wipeS_nil, wipeS_cons, cv_s, cv_b, cv_i, b_r3, h1, d1, a1, m1, a3, m2, nn, a2, r1, i1, hf, dl, hr, c1, hT, d2, c2, eT]
end
end K68


set_option Elab.async false
set_option linter.all false
set_option maxRecDepth 100000
set_option maxHeartbeats 4000000
namespace K68
open PySem PySem.Spec PyProof.Rows L2 SH
def b_tb : SEn → Out :=
  (xIf [11, 10, 1, 14] (vTest (vAnd (vBin dIsNot (vBin dIdx (vVar 11) (vVar 14)) (vC .none)) (vAnd (vBin dLt (vBin dIdx (vBin dIdx (vVar 1) (vVar 14)) (vC (.int 0))) (vBin dIdx (vBin dIdx (vVar 1) (vVar 10)) (vC (.int 1)))) (vBin dLt (vBin dIdx (vBin dIdx (vVar 1) (vVar 10)) (vC (.int 0))) (vBin dIdx (vBin dIdx (vVar 1) (vVar 14)) (vC (.int 1)))))))
  (xApp 13 [11, 14] (vBin dIdx (vVar 11) (vVar 14)))
  (xSkip))
def b_pb : SEn → Out :=
  (xSeq (xSet 10 [12] (vBin dIdx (vVar 12) (vC (.int 1))))
  (xSeq (xSetG 13 [] (vLst []))
  (xSeq (xFor iRange [1] [(vCall dLen [(vVar 1)])] (.slot 14)
  b_tb)
  (xPut 11 [1, 15, 13] (vBin dIdx (vComp (wCall iRange [(vCall dLen [(vVar 1)])]) (.slot 15) [15] (some (vTest (vBin dNotIn (vVar 15) (vVar 13)))) (vVar 15)) (vC (.int 0))) [10] (vVar 10)))))
def b_r2 : SEn → Out :=
  (xSeq (xIf [1, 9] (vTest (vBin dNe (vCall f_subject_spare [(vVar 1)]) (vCall dTuple [(vVar 9)])))
  (xRet [] (vC (.bool false)))
  (xSkip))
  (xSeq (xSetG 11 [1] (vComp (wSeq (vVar 1)) (.slot 3) [3] none (vC .none)))
  (xSeq (xForG [10, 1] (vCall dSorted [(vComp (wCall iRange [(vCall dLen [(vVar 1)])]) (.slot 10) [10] none (vTup [(vBin dIdx (vVar 1) (vVar 10)), (vVar 10)]))]) (.slot 12)
  b_pb)
  b_r3)))
section
variable {bs : List (Int × Int)}
def tkL (bs : List (Int × Int)) (P : List (Option Nat)) (k j : Nat) : List Nat := (List.range j).filterMap (takenF bs P k)
theorem tk_succ {P : List (Option Nat)} {k j : Nat} : tkL bs P k (j + 1) = tkL bs P k j ++ (takenF bs P k j).toList := by
  unfold tkL
  rw [List.range_succ, List.filterMap_append]
  congr 1
theorem natD_eq (k : Nat) : natD k = PyData.int k := rfl
theorem tk_len {P : List (Option Nat)} {k j : Nat} : (tkL bs P k j).length ≤ j := by
  have := List.length_filterMap_le (takenF bs P k) (List.range j)
  rw [List.length_range] at this
  exact this
theorem pb_turn (c : Bk bs) {pre post : List Nat} {k : Nat} (hxs : ordK bs = pre ++ k :: post) (x0 x2 x3 x4 x5 x6 x7 x8 x9 x10 x13 x14 x15 : Option (Bool × D)) :
    SH.Turn (fun env => ∃ x10 x12 x13 x14 x15, env = [x0, some (false, bkD bs), x2, x3, x4, x5, x6, x7, x8, x9, x10, some (true, .list ((pileP bs (pre ++ [k])).map oD)), x12, x13, x14, x15, none]) NoE NoD
      (b_pb [x0, some (false, bkD bs), x2, x3, x4, x5, x6, x7, x8, x9, x10, some (true, .list ((pileP bs pre).map oD)), some (false, keyD bs k), x13, x14, x15, none]) := by
  have hl := c.l1
  have fb := flat_bk bs
  have dl := bk_len bs
  have hr : iRange [.int (bs.length : Int)] = .ok (rangeD 0 bs.length) := iRange_1 (by omega)
  obtain ⟨h1, h2, h3, h4⟩ := ord_split hxs
  have hcol := col_pre pre.length pre (k :: post) rfl hxs
  have hfree := free_is h3 (col_new hcol h1 h2 h3)
  have e0 : pileP bs (pre ++ [k]) = stepP bs (pileP bs pre) k := by unfold pileP; rw [List.foldl_append]; rfl
  rw [e0]
  generalize pileP bs pre = P at hcol hfree ⊢
  have hPl := hcol.len
  have fk : flat (keyD bs k) = true := rfl
  have k1 : dIdx (keyD bs k) (.int 1) = .ok (.int k) := rfl
  simp only [startE_eq, kSet_ap, kSetG_ap, kIfS_ap, kIf0_ap, kRet_ap, kDrop_ap, kUnp_slot, kUnp2, kUnp3, kApp_ap, appR_ok, ownR_ok, augR_ok, kPar1_ap, kPar2_ap, kAug_ap, kForS_l, kForS_t, xSkip_ap, xSeq_skip, xSeq_seq, xSeq_set, xSeq_setG, xSeq_if, xSeq_ret, xSeq_retN, xSeq_raise, xSeq_drop, xSeq_brk, xSeq_cnt, xSeq_unp, xSeq_par, xSeq_app, xApp_ap, xSeq_aug, xAug_ap, xSeq_for, xSeq_forS, xSeq_forG, xFor_ap, xForS_ap, xForG_ap, xPar_ap, xSet_ap, xSetG_ap, xIf_ap, xRet_ap, xRetN_ap, xDrop_ap, xRaise_ap, xBreak_ap, xCont_ap, xUnp_ap, xSeq_put, xPut_ap, xSeq_putA, xPutA_ap, paK1_ap, paR1_ok, paX1_ok, paK2_ap, kPut1_ap, kPut2_ap, putR_ok, putJ_ok, kEv_ap, kEvG_ap, kEvL_ap, evS_ap, evG_ap, evL_ap, evA_t, evA_f, keepG_int, keepG_bool, keepG_none, keepG_tuple, keepG_list, flatL_nil, flatL_cons, vVar_ap, varR_ok, optR_ok, vC_ap, kB_ap, vBin_ap, vUn_ap, vTest_ap, kAnd_ap, kAnd2_ap, vAnd_ap, kOr_ap, kOr2_ap, vOr_ap, kNot_ap, kNot2_ap, vNot_ap, kIfE_ap, vIf_ap, kC3_ap, kC2_ap, kC1_ap, vChain_ap, kL_ap, kL2_ap, vL_nil, vL_cons, kTup_ap, kLst_ap, vTup_ap, vLst_ap, vCall_ap, kCut1_ap, kCut2_ap, kCut3_ap, vCut_ap, kPart_ap, vPart_none, vPart_some, kComp_ap, kCompO_ap, vComp_ap, wSeq_ap, wCall_ap, wipe_nil, wipe_cons, dMod_int, bindS_slot, bindS_tup, bindSs_nil, bindSs_slot, bindT_slot, bindT_tup, bindTs_nil, bindTs_slot, onR_ok, onR_exc, outR_rt, outR_nx, outR_exc, after_t, after_f, rb_ok, rb_exc, tr_bool, tr_none, tr_int, tr_list, tr_tuple, toB_bool, toI_int, dAdd_int, dSub_int, dNeg_int, dMul_l, dMul_r, dDiv_int, dLt_int, dLe_int, dGt_int, dGe_int, dEq_int, dNe_int, dEq_bool, dNe_bool, dIs_none, dIsNot_none, dIs_bool, isNone_none, isNone_int, isNone_bool, isNone_tuple, isNone_list, dIdx_list, dIdx_tuple, atI_0, atI_1, atI_2, dLen_list, dLen_tuple, dInt_int, dAbs_int, dTuple_list, dTuple_tuple, dList_list, dList_tuple, dSum_ints, dSum_intsT, dAll_bools, dMin_2, dMax_2, isi_int_int, isi_int_bool, isi_int_none, isi_int_tuple, isi_int_list, isi_bool_int, isi_bool_bool, isi_tuple_tuple, isi_tuple_int, isi_tuple_none, isi_list_list, asSeq_list, asSeq_tuple, iEnum_list, iEnum_tuple, iZip_list, iZip_tuple, dCut_list, dCut_tuple, flat_none, flat_bool, flat_int, flat_str, flat_tuple, flat_list, flatL_ints, flatL_bools, isL_list, isL_int, isL_bool, isL_tuple, isL_none, mview_nil, mview_cons, mv1_f, mv1_n, mv1_t, freeze_nil, freeze_cons, fr1_f, fr1_n, fr1_t, List.set_cons_zero, List.set_cons_succ, List.map_cons, List.map_nil, List.length_cons, List.length_nil, List.replicate_succ, List.replicate_zero, List.cons_append, List.nil_append, List.getElem?_cons_zero, List.getElem?_cons_succ, List.mem_cons, List.not_mem_nil, or_false, false_or, or_true, true_or, if_true, if_false, Bool.false_eq_true, Bool.not_true, Bool.not_false, decide_true, decide_false, and_self, true_and, and_true, Bool.true_and, Bool.and_true, Bool.and_self, Bool.false_and, Bool.and_false, ↓reduceIte, reduceIte, Int.reduceLT, Int.reduceLE, Int.reduceNeg, Int.reduceAdd, Int.reduceSub, Int.reduceMul, Int.reduceToNat, Nat.reduceLT, Nat.reduceLeDiff, Nat.reduceEqDiff, Nat.reduceAdd, Nat.reduceSub, Nat.reduceMul, reduceCtorEq, Int.cast_ofNat_Int, Int.natCast_one, Int.natCast_zero, Int.reduceEq, vMeth_ap, kMeth_l, dRev_list, dCount_ints, kRem_ap, xSeq_rem, xSeq_ext, xExt_ap, kExt_ap, xSeq_pop, xPop_ap, popR_ok, xRem_ap, xSeq_try, xTryL_ap, kTry_nx, kTry_rt, kTry_exc, tryR_rt, tryR_nx, tryR_no, handL_cons, wipeS_nil, wipeS_cons, cv_s, cv_b, cv_i, b_pb, k1, dl, kFor_ap hr]
  refine seq_range (P := SH.Turn _ _ _) (fun j env => ∃ x14, env = [x0, some (false, bkD bs), x2, x3, x4, x5, x6, x7, x8, x9, some (false, .int k), some (true, .list (P.map oD)), some (false, keyD bs k), some (true, .list ((tkL bs P k j).map natD)), x14, x15, none]) NoE NoD ⟨x14, rfl⟩ ?_ ?_ (fun _ z => z.elim) (fun _ z => z.elim)
  · rintro j env hj ⟨x14, rfl⟩
    refine ⟨_, rfl, ?_⟩
    have a1 := P_at (P := P) (j := j) (by omega)
    have a2 := bk_at (at2_get hj)
    have a3 := bk_at (at2_get h2)
    have hlt : ((tkL bs P k j).map natD).length < 1000000 := by
      rw [List.length_map]
      have := tk_len (bs := bs) (P := P) (k := k) (j := j)
      omega
    cases hz : pl P j with
    | none =>
      have et : takenF bs P k j = none := by
        unfold takenF
        rw [hz]
        split <;> rfl
      rw [hz] at a1
      simp only [startE_eq, kSet_ap, kSetG_ap, kIfS_ap, kIf0_ap, kRet_ap, kDrop_ap, kUnp_slot, kUnp2, kUnp3, kApp_ap, appR_ok, ownR_ok, augR_ok, kPar1_ap, kPar2_ap, kAug_ap, kForS_l, kForS_t, xSkip_ap, xSeq_skip, xSeq_seq, xSeq_set, xSeq_setG, xSeq_if, xSeq_ret, xSeq_retN, xSeq_raise, xSeq_drop, xSeq_brk, xSeq_cnt, xSeq_unp, xSeq_par, xSeq_app, xApp_ap, xSeq_aug, xAug_ap, xSeq_for, xSeq_forS, xSeq_forG, xFor_ap, xForS_ap, xForG_ap, xPar_ap, xSet_ap, xSetG_ap, xIf_ap, xRet_ap, xRetN_ap, xDrop_ap, xRaise_ap, xBreak_ap, xCont_ap, xUnp_ap, xSeq_put, xPut_ap, xSeq_putA, xPutA_ap, paK1_ap, paR1_ok, paX1_ok, paK2_ap, kPut1_ap, kPut2_ap, putR_ok, putJ_ok, kEv_ap, kEvG_ap, kEvL_ap, evS_ap, evG_ap, evL_ap, evA_t, evA_f, keepG_int, keepG_bool, keepG_none, keepG_tuple, keepG_list, flatL_nil, flatL_cons, vVar_ap, varR_ok, optR_ok, vC_ap, kB_ap, vBin_ap, vUn_ap, vTest_ap, kAnd_ap, kAnd2_ap, vAnd_ap, kOr_ap, kOr2_ap, vOr_ap, kNot_ap, kNot2_ap, vNot_ap, kIfE_ap, vIf_ap, kC3_ap, kC2_ap, kC1_ap, vChain_ap, kL_ap, kL2_ap, vL_nil, vL_cons, kTup_ap, kLst_ap, vTup_ap, vLst_ap, vCall_ap, kCut1_ap, kCut2_ap, kCut3_ap, vCut_ap, kPart_ap, vPart_none, vPart_some, kComp_ap, kCompO_ap, vComp_ap, wSeq_ap, wCall_ap, wipe_nil, wipe_cons, dMod_int, bindS_slot, bindS_tup, bindSs_nil, bindSs_slot, bindT_slot, bindT_tup, bindTs_nil, bindTs_slot, onR_ok, onR_exc, outR_rt, outR_nx, outR_exc, after_t, after_f, rb_ok, rb_exc, tr_bool, tr_none, tr_int, tr_list, tr_tuple, toB_bool, toI_int, dAdd_int, dSub_int, dNeg_int, dMul_l, dMul_r, dDiv_int, dLt_int, dLe_int, dGt_int, dGe_int, dEq_int, dNe_int, dEq_bool, dNe_bool, dIs_none, dIsNot_none, dIs_bool, isNone_none, isNone_int, isNone_bool, isNone_tuple, isNone_list, dIdx_list, dIdx_tuple, atI_0, atI_1, atI_2, dLen_list, dLen_tuple, dInt_int, dAbs_int, dTuple_list, dTuple_tuple, dList_list, dList_tuple, dSum_ints, dSum_intsT, dAll_bools, dMin_2, dMax_2, isi_int_int, isi_int_bool, isi_int_none, isi_int_tuple, isi_int_list, isi_bool_int, isi_bool_bool, isi_tuple_tuple, isi_tuple_int, isi_tuple_none, isi_list_list, asSeq_list, asSeq_tuple, iEnum_list, iEnum_tuple, iZip_list, iZip_tuple, dCut_list, dCut_tuple, flat_none, flat_bool, flat_int, flat_str, flat_tuple, flat_list, flatL_ints, flatL_bools, isL_list, isL_int, isL_bool, isL_tuple, isL_none, mview_nil, mview_cons, mv1_f, mv1_n, mv1_t, freeze_nil, freeze_cons, fr1_f, fr1_n, fr1_t, List.set_cons_zero, List.set_cons_succ, List.map_cons, List.map_nil, List.length_cons, List.length_nil, List.replicate_succ, List.replicate_zero, List.cons_append, List.nil_append, List.getElem?_cons_zero, List.getElem?_cons_succ, List.mem_cons, List.not_mem_nil, or_false, false_or, or_true, true_or, if_true, if_false, Bool.false_eq_true, Bool.not_true, Bool.not_false, decide_true, decide_false, and_self, true_and, and_true, Bool.true_and, Bool.and_true, Bool.and_self, Bool.false_and, Bool.and_false, ↓reduceIte, reduceIte, Int.reduceLT, Int.reduceLE, Int.reduceNeg, Int.reduceAdd, Int.reduceSub, Int.reduceMul, Int.reduceToNat, Nat.reduceLT, Nat.reduceLeDiff, Nat.reduceEqDiff, Nat.reduceAdd, Nat.reduceSub, Nat.reduceMul, reduceCtorEq, Int.cast_ofNat_Int, Int.natCast_one, Int.natCast_zero, Int.reduceEq, vMeth_ap, kMeth_l, dRev_list, dCount_ints, kRem_ap, xSeq_rem, xSeq_ext, xExt_ap, kExt_ap, xSeq_pop, xPop_ap, popR_ok, xRem_ap, xSeq_try, xTryL_ap, kTry_nx, kTry_rt, kTry_exc, tryR_rt, tryR_nx, tryR_no, handL_cons, wipeS_nil, wipeS_cons, cv_s, cv_b, cv_i, b_tb, Int.zero_add, a1, oD]
      refine turn_nx ⟨some (false, .int j), ?_⟩
      rw [tk_succ, et]
      simp
    | some cc =>
      rw [hz] at a1
      have hnn : isNone (natD cc) = false := rfl
      by_cases g1 : (at2 bs j).1 < (at2 bs k).2
      · by_cases g2 : (at2 bs k).1 < (at2 bs j).2
        · have et : takenF bs P k j = some cc := by
            unfold takenF meetsB
            rw [decide_eq_true g1, decide_eq_true g2, hz]
            rfl
          simp only [startE_eq, kSet_ap, kSetG_ap, kIfS_ap, kIf0_ap, kRet_ap, kDrop_ap, kUnp_slot, kUnp2, kUnp3, kApp_ap, appR_ok, ownR_ok, augR_ok, kPar1_ap, kPar2_ap, kAug_ap, kForS_l, kForS_t, xSkip_ap, xSeq_skip, xSeq_seq, xSeq_set, xSeq_setG, xSeq_if, xSeq_ret, xSeq_retN, xSeq_raise, xSeq_drop, xSeq_brk, xSeq_cnt, xSeq_unp, xSeq_par, xSeq_app, xApp_ap, xSeq_aug, xAug_ap, xSeq_for, xSeq_forS, xSeq_forG, xFor_ap, xForS_ap, xForG_ap, xPar_ap, xSet_ap, xSetG_ap, xIf_ap, xRet_ap, xRetN_ap, xDrop_ap, xRaise_ap, xBreak_ap, xCont_ap, xUnp_ap, xSeq_put, xPut_ap, xSeq_putA, xPutA_ap, paK1_ap, paR1_ok, paX1_ok, paK2_ap, kPut1_ap, kPut2_ap, putR_ok, putJ_ok, kEv_ap, kEvG_ap, kEvL_ap, evS_ap, evG_ap, evL_ap, evA_t, evA_f, keepG_int, keepG_bool, keepG_none, keepG_tuple, keepG_list, flatL_nil, flatL_cons, vVar_ap, varR_ok, optR_ok, vC_ap, kB_ap, vBin_ap, vUn_ap, vTest_ap, kAnd_ap, kAnd2_ap, vAnd_ap, kOr_ap, kOr2_ap, vOr_ap, kNot_ap, kNot2_ap, vNot_ap, kIfE_ap, vIf_ap, kC3_ap, kC2_ap, kC1_ap, vChain_ap, kL_ap, kL2_ap, vL_nil, vL_cons, kTup_ap, kLst_ap, vTup_ap, vLst_ap, vCall_ap, kCut1_ap, kCut2_ap, kCut3_ap, vCut_ap, kPart_ap, vPart_none, vPart_some, kComp_ap, kCompO_ap, vComp_ap, wSeq_ap, wCall_ap, wipe_nil, wipe_cons, dMod_int, bindS_slot, bindS_tup, bindSs_nil, bindSs_slot, bindT_slot, bindT_tup, bindTs_nil, bindTs_slot, onR_ok, onR_exc, outR_rt, outR_nx, outR_exc, after_t, after_f, rb_ok, rb_exc, tr_bool, tr_none, tr_int, tr_list, tr_tuple, toB_bool, toI_int, dAdd_int, dSub_int, dNeg_int, dMul_l, dMul_r, dDiv_int, dLt_int, dLe_int, dGt_int, dGe_int, dEq_int, dNe_int, dEq_bool, dNe_bool, dIs_none, dIsNot_none, dIs_bool, isNone_none, isNone_int, isNone_bool, isNone_tuple, isNone_list, dIdx_list, dIdx_tuple, atI_0, atI_1, atI_2, dLen_list, dLen_tuple, dInt_int, dAbs_int, dTuple_list, dTuple_tuple, dList_list, dList_tuple, dSum_ints, dSum_intsT, dAll_bools, dMin_2, dMax_2, isi_int_int, isi_int_bool, isi_int_none, isi_int_tuple, isi_int_list, isi_bool_int, isi_bool_bool, isi_tuple_tuple, isi_tuple_int, isi_tuple_none, isi_list_list, asSeq_list, asSeq_tuple, iEnum_list, iEnum_tuple, iZip_list, iZip_tuple, dCut_list, dCut_tuple, flat_none, flat_bool, flat_int, flat_str, flat_tuple, flat_list, flatL_ints, flatL_bools, isL_list, isL_int, isL_bool, isL_tuple, isL_none, mview_nil, mview_cons, mv1_f, mv1_n, mv1_t, freeze_nil, freeze_cons, fr1_f, fr1_n, fr1_t, List.set_cons_zero, List.set_cons_succ, List.map_cons, List.map_nil, List.length_cons, List.length_nil, List.replicate_succ, List.replicate_zero, List.cons_append, List.nil_append, List.getElem?_cons_zero, List.getElem?_cons_succ, List.mem_cons, List.not_mem_nil, or_false, false_or, or_true, true_or, if_true, if_false, Bool.false_eq_true, Bool.not_true, Bool.not_false, decide_true, decide_false, and_self, true_and, and_true, Bool.true_and, Bool.and_true, Bool.and_self, Bool.false_and, Bool.and_false, ↓reduceIte, reduceIte, Int.reduceLT, Int.reduceLE, Int.reduceNeg, Int.reduceAdd, Int.reduceSub, Int.reduceMul, Int.reduceToNat, Nat.reduceLT, Nat.reduceLeDiff, Nat.reduceEqDiff, Nat.reduceAdd, Nat.reduceSub, Nat.reduceMul, reduceCtorEq, Int.cast_ofNat_Int, Int.natCast_one, Int.natCast_zero, Int.reduceEq, vMeth_ap, kMeth_l, dRev_list, dCount_ints, kRem_ap, xSeq_rem, xSeq_ext, xExt_ap, kExt_ap, xSeq_pop, xPop_ap, popR_ok, xRem_ap, xSeq_try, xTryL_ap, kTry_nx, kTry_rt, kTry_exc, tryR_rt, tryR_nx, tryR_no, handL_cons, wipeS_nil, wipeS_cons, cv_s, cv_b, cv_i, b_tb, Int.zero_add, a1, oD, natD_eq, a2, a3, g1, g2, hnn, hlt]
          refine turn_nx ⟨some (false, .int j), ?_⟩
          rw [tk_succ, et]
          simp [natD_eq]
        · have et : takenF bs P k j = none := by
            unfold takenF meetsB
            rw [decide_eq_false g2, Bool.and_false]
            rfl
          simp only [startE_eq, kSet_ap, kSetG_ap, kIfS_ap, kIf0_ap, kRet_ap, kDrop_ap, kUnp_slot, kUnp2, kUnp3, kApp_ap, appR_ok, ownR_ok, augR_ok, kPar1_ap, kPar2_ap, kAug_ap, kForS_l, kForS_t, xSkip_ap, xSeq_skip, xSeq_seq, xSeq_set, xSeq_setG, xSeq_if, xSeq_ret, xSeq_retN, xSeq_raise, xSeq_drop, xSeq_brk, xSeq_cnt, xSeq_unp, xSeq_par, xSeq_app, xApp_ap, xSeq_aug, xAug_ap, xSeq_for, xSeq_forS, xSeq_forG, xFor_ap, xForS_ap, xForG_ap, xPar_ap, xSet_ap, xSetG_ap, xIf_ap, xRet_ap, xRetN_ap, xDrop_ap, xRaise_ap, xBreak_ap, xCont_ap, xUnp_ap, xSeq_put, xPut_ap, xSeq_putA, xPutA_ap, paK1_ap, paR1_ok, paX1_ok, paK2_ap, kPut1_ap, kPut2_ap, putR_ok, putJ_ok, kEv_ap, kEvG_ap, kEvL_ap, evS_ap, evG_ap, evL_ap, evA_t, evA_f, keepG_int, keepG_bool, keepG_none, keepG_tuple, keepG_list, flatL_nil, flatL_cons, vVar_ap, varR_ok, optR_ok, vC_ap, kB_ap, vBin_ap, vUn_ap, vTest_ap, kAnd_ap, kAnd2_ap, vAnd_ap, kOr_ap, kOr2_ap, vOr_ap, kNot_ap, kNot2_ap, vNot_ap, kIfE_ap, vIf_ap, kC3_ap, kC2_ap, kC1_ap, vChain_ap, kL_ap, kL2_ap, vL_nil, vL_cons, kTup_ap, kLst_ap, vTup_ap, vLst_ap, vCall_ap, kCut1_ap, kCut2_ap, kCut3_ap, vCut_ap, kPart_ap, vPart_none, vPart_some, kComp_ap, kCompO_ap, vComp_ap, wSeq_ap, wCall_ap, wipe_nil, wipe_cons, dMod_int, bindS_slot, bindS_tup, bindSs_nil, bindSs_slot, bindT_slot, bindT_tup, bindTs_nil, bindTs_slot, onR_ok, onR_exc, outR_rt, outR_nx, outR_exc, after_t, after_f, rb_ok, rb_exc, tr_bool, tr_none, tr_int, tr_list, tr_tuple, toB_bool, toI_int, dAdd_int, dSub_int, dNeg_int, dMul_l, dMul_r, dDiv_int, dLt_int, dLe_int, dGt_int, dGe_int, dEq_int, dNe_int, dEq_bool, dNe_bool, dIs_none, dIsNot_none, dIs_bool, isNone_none, isNone_int, isNone_bool, isNone_tuple, isNone_list, dIdx_list, dIdx_tuple, atI_0, atI_1, atI_2, dLen_list, dLen_tuple, dInt_int, dAbs_int, dTuple_list, dTuple_tuple, dList_list, dList_tuple, dSum_ints, dSum_intsT, dAll_bools, dMin_2, dMax_2, isi_int_int, isi_int_bool, isi_int_none, isi_int_tuple, isi_int_list, isi_bool_int, isi_bool_bool, isi_tuple_tuple, isi_tuple_int, isi_tuple_none, isi_list_list, asSeq_list, asSeq_tuple, iEnum_list, iEnum_tuple, iZip_list, iZip_tuple, dCut_list, dCut_tuple, flat_none, flat_bool, flat_int, flat_str, flat_tuple, flat_list, flatL_ints, flatL_bools, isL_list, isL_int, isL_bool, isL_tuple, isL_none, mview_nil, mview_cons, mv1_f, mv1_n, mv1_t, freeze_nil, freeze_cons, fr1_f, fr1_n, fr1_t, List.set_cons_zero, List.set_cons_succ, List.map_cons, List.map_nil, List.length_cons, List.length_nil, List.replicate_succ, List.replicate_zero, List.cons_append, List.nil_append, List.getElem?_cons_zero, List.getElem?_cons_succ, List.mem_cons, List.not_mem_nil, or_false, false_or, or_true, true_or, if_true, if_false, Bool.false_eq_true, Bool.not_true, Bool.not_false, decide_true, decide_false, and_self, true_and, and_true, Bool.true_and, Bool.and_true, Bool.and_self, Bool.false_and, Bool.and_false, ↓reduceIte, reduceIte, Int.reduceLT, Int.reduceLE, Int.reduceNeg, Int.reduceAdd, Int.reduceSub, Int.reduceMul, Int.reduceToNat, Nat.reduceLT, Nat.reduceLeDiff, Nat.reduceEqDiff, Nat.reduceAdd, Nat.reduceSub, Nat.reduceMul, reduceCtorEq, Int.cast_ofNat_Int, Int.natCast_one, Int.natCast_zero, Int.reduceEq, vMeth_ap, kMeth_l, dRev_list, dCount_ints, kRem_ap, xSeq_rem, xSeq_ext, xExt_ap, kExt_ap, xSeq_pop, xPop_ap, popR_ok, xRem_ap, xSeq_try, xTryL_ap, kTry_nx, kTry_rt, kTry_exc, tryR_rt, tryR_nx, tryR_no, handL_cons, wipeS_nil, wipeS_cons, cv_s, cv_b, cv_i, b_tb, Int.zero_add, a1, oD, natD_eq, a2, a3, g1, g2, hnn, hlt]
          refine turn_nx ⟨some (false, .int j), ?_⟩
          rw [tk_succ, et]
          simp
      · have et : takenF bs P k j = none := by
          unfold takenF meetsB
          rw [decide_eq_false g1, Bool.false_and]
          rfl
        simp only [startE_eq, kSet_ap, kSetG_ap, kIfS_ap, kIf0_ap, kRet_ap, kDrop_ap, kUnp_slot, kUnp2, kUnp3, kApp_ap, appR_ok, ownR_ok, augR_ok, kPar1_ap, kPar2_ap, kAug_ap, kForS_l, kForS_t, xSkip_ap, xSeq_skip, xSeq_seq, xSeq_set, xSeq_setG, xSeq_if, xSeq_ret, xSeq_retN, xSeq_raise, xSeq_drop, xSeq_brk, xSeq_cnt, xSeq_unp, xSeq_par, xSeq_app, xApp_ap, xSeq_aug, xAug_ap, xSeq_for, xSeq_forS, xSeq_forG, xFor_ap, xForS_ap, xForG_ap, xPar_ap, xSet_ap, xSetG_ap, xIf_ap, xRet_ap, xRetN_ap, xDrop_ap, xRaise_ap, xBreak_ap, xCont_ap, xUnp_ap, xSeq_put, xPut_ap, xSeq_putA, xPutA_ap, paK1_ap, paR1_ok, paX1_ok, paK2_ap, kPut1_ap, kPut2_ap, putR_ok, putJ_ok, kEv_ap, kEvG_ap, kEvL_ap, evS_ap, evG_ap, evL_ap, evA_t, evA_f, keepG_int, keepG_bool, keepG_none, keepG_tuple, keepG_list, flatL_nil, flatL_cons, vVar_ap, varR_ok, optR_ok, vC_ap, kB_ap, vBin_ap, vUn_ap, vTest_ap, kAnd_ap, kAnd2_ap, vAnd_ap, kOr_ap, kOr2_ap, vOr_ap, kNot_ap, kNot2_ap, vNot_ap, kIfE_ap, vIf_ap, kC3_ap, kC2_ap, kC1_ap, vChain_ap, kL_ap, kL2_ap, vL_nil, vL_cons, kTup_ap, kLst_ap, vTup_ap, vLst_ap, vCall_ap, kCut1_ap, kCut2_ap, kCut3_ap, vCut_ap, kPart_ap, vPart_none, vPart_some, kComp_ap, kCompO_ap, vComp_ap, wSeq_ap, wCall_ap, wipe_nil, wipe_cons, dMod_int, bindS_slot, bindS_tup, bindSs_nil, bindSs_slot, bindT_slot, bindT_tup, bindTs_nil, bindTs_slot, onR_ok, onR_exc, outR_rt, outR_nx, outR_exc, after_t, after_f, rb_ok, rb_exc, tr_bool, tr_none, tr_int, tr_list, tr_tuple, toB_bool, toI_int, dAdd_int, dSub_int, dNeg_int, dMul_l, dMul_r, dDiv_int, dLt_int, dLe_int, dGt_int, dGe_int, dEq_int, dNe_int, dEq_bool, dNe_bool, dIs_none, dIsNot_none, dIs_bool, isNone_none, isNone_int, isNone_bool, isNone_tuple, isNone_list, dIdx_list, dIdx_tuple, atI_0, atI_1, atI_2, dLen_list, dLen_tuple, dInt_int, dAbs_int, dTuple_list, dTuple_tuple, dList_list, dList_tuple, dSum_ints, dSum_intsT, dAll_bools, dMin_2, dMax_2, isi_int_int, isi_int_bool, isi_int_none, isi_int_tuple, isi_int_list, isi_bool_int, isi_bool_bool, isi_tuple_tuple, isi_tuple_int, isi_tuple_none, isi_list_list, asSeq_list, asSeq_tuple, iEnum_list, iEnum_tuple, iZip_list, iZip_tuple, dCut_list, dCut_tuple, flat_none, flat_bool, flat_int, flat_str, flat_tuple, flat_list, flatL_ints, flatL_bools, isL_list, isL_int, isL_bool, isL_tuple, isL_none, mview_nil, mview_cons, mv1_f, mv1_n, mv1_t, freeze_nil, freeze_cons, fr1_f, fr1_n, fr1_t, List.set_cons_zero, List.set_cons_succ, List.map_cons, List.map_nil, List.length_cons, List.length_nil, List.replicate_succ, List.replicate_zero, List.cons_append, List.nil_append, List.getElem?_cons_zero, List.getElem?_cons_succ, List.mem_cons, List.not_mem_nil, or_false, false_or, or_true, true_or, if_true, if_false, Bool.false_eq_true, Bool.not_true, Bool.not_false, decide_true, decide_false, and_self, true_and, and_true, Bool.true_and, Bool.and_true, Bool.and_self, Bool.false_and, Bool.and_false, ↓reduceIte, reduceIte, Int.reduceLT, Int.reduceLE, Int.reduceNeg, Int.reduceAdd, Int.reduceSub, Int.reduceMul, Int.reduceToNat, Nat.reduceLT, Nat.reduceLeDiff, Nat.reduceEqDiff, Nat.reduceAdd, Nat.reduceSub, Nat.reduceMul, reduceCtorEq, Int.cast_ofNat_Int, Int.natCast_one, Int.natCast_zero, Int.reduceEq, vMeth_ap, kMeth_l, dRev_list, dCount_ints, kRem_ap, xSeq_rem, xSeq_ext, xExt_ap, kExt_ap, xSeq_pop, xPop_ap, popR_ok, xRem_ap, xSeq_try, xTryL_ap, kTry_nx, kTry_rt, kTry_exc, tryR_rt, tryR_nx, tryR_no, handL_cons, wipeS_nil, wipeS_cons, cv_s, cv_b, cv_i, b_tb, Int.zero_add, a1, oD, natD_eq, a2, a3, g1, hnn, hlt]
        refine turn_nx ⟨some (false, .int j), ?_⟩
        rw [tk_succ, et]
        simp
  · rintro env ⟨x14, rfl⟩
    have etk : tkL bs P k bs.length = takenOf bs P k := rfl
    rw [etk]
    have c2 : ∀ s0 s2 s3 s4 s5 s6 s7 s8 s9 s10 s11 s12 s14 s15 s16, compGo (compTurnD (.slot 15) [15] (some (vTest (vBin dNotIn (vVar 15) (vVar 13)))) (vVar 15) [s0, some (bkD bs), s2, s3, s4, s5, s6, s7, s8, s9, s10, s11, s12, some (.list ((takenOf bs P k).map natD)), s14, s15, s16]) (rangeD 0 bs.length) = .ok (((List.range bs.length).filter fun p => !decide (p ∈ takenOf bs P k)).map natD) := by
      intro s0 s2 s3 s4 s5 s6 s7 s8 s9 s10 s11 s12 s14 s15 s16
      refine comp_if fun p hp => turn_if rfl (by simp only [startE_eq, kSet_ap, kSetG_ap, kIfS_ap, kIf0_ap, kRet_ap, kDrop_ap, kUnp_slot, kUnp2, kUnp3, kApp_ap, appR_ok, ownR_ok, augR_ok, kPar1_ap, kPar2_ap, kAug_ap, kForS_l, kForS_t, xSkip_ap, xSeq_skip, xSeq_seq, xSeq_set, xSeq_setG, xSeq_if, xSeq_ret, xSeq_retN, xSeq_raise, xSeq_drop, xSeq_brk, xSeq_cnt, xSeq_unp, xSeq_par, xSeq_app, xApp_ap, xSeq_aug, xAug_ap, xSeq_for, xSeq_forS, xSeq_forG, xFor_ap, xForS_ap, xForG_ap, xPar_ap, xSet_ap, xSetG_ap, xIf_ap, xRet_ap, xRetN_ap, xDrop_ap, xRaise_ap, xBreak_ap, xCont_ap, xUnp_ap, xSeq_put, xPut_ap, xSeq_putA, xPutA_ap, paK1_ap, paR1_ok, paX1_ok, paK2_ap, kPut1_ap, kPut2_ap, putR_ok, putJ_ok, kEv_ap, kEvG_ap, kEvL_ap, evS_ap, evG_ap, evL_ap, evA_t, evA_f, keepG_int, keepG_bool, keepG_none, keepG_tuple, keepG_list, flatL_nil, flatL_cons, vVar_ap, varR_ok, optR_ok, vC_ap, kB_ap, vBin_ap, vUn_ap, vTest_ap, kAnd_ap, kAnd2_ap, vAnd_ap, kOr_ap, kOr2_ap, vOr_ap, kNot_ap, kNot2_ap, vNot_ap, kIfE_ap, vIf_ap, kC3_ap, kC2_ap, kC1_ap, vChain_ap, kL_ap, kL2_ap, vL_nil, vL_cons, kTup_ap, kLst_ap, vTup_ap, vLst_ap, vCall_ap, kCut1_ap, kCut2_ap, kCut3_ap, vCut_ap, kPart_ap, vPart_none, vPart_some, kComp_ap, kCompO_ap, vComp_ap, wSeq_ap, wCall_ap, wipe_nil, wipe_cons, dMod_int, bindS_slot, bindS_tup, bindSs_nil, bindSs_slot, bindT_slot, bindT_tup, bindTs_nil, bindTs_slot, onR_ok, onR_exc, outR_rt, outR_nx, outR_exc, after_t, after_f, rb_ok, rb_exc, tr_bool, tr_none, tr_int, tr_list, tr_tuple, toB_bool, toI_int, dAdd_int, dSub_int, dNeg_int, dMul_l, dMul_r, dDiv_int, dLt_int, dLe_int, dGt_int, dGe_int, dEq_int, dNe_int, dEq_bool, dNe_bool, dIs_none, dIsNot_none, dIs_bool, isNone_none, isNone_int, isNone_bool, isNone_tuple, isNone_list, dIdx_list, dIdx_tuple, atI_0, atI_1, atI_2, dLen_list, dLen_tuple, dInt_int, dAbs_int, dTuple_list, dTuple_tuple, dList_list, dList_tuple, dSum_ints, dSum_intsT, dAll_bools, dMin_2, dMax_2, isi_int_int, isi_int_bool, isi_int_none, isi_int_tuple, isi_int_list, isi_bool_int, isi_bool_bool, isi_tuple_tuple, isi_tuple_int, isi_tuple_none, isi_list_list, asSeq_list, asSeq_tuple, iEnum_list, iEnum_tuple, iZip_list, iZip_tuple, dCut_list, dCut_tuple, flat_none, flat_bool, flat_int, flat_str, flat_tuple, flat_list, flatL_ints, flatL_bools, isL_list, isL_int, isL_bool, isL_tuple, isL_none, mview_nil, mview_cons, mv1_f, mv1_n, mv1_t, freeze_nil, freeze_cons, fr1_f, fr1_n, fr1_t, List.set_cons_zero, List.set_cons_succ, List.map_cons, List.map_nil, List.length_cons, List.length_nil, List.replicate_succ, List.replicate_zero, List.cons_append, List.nil_append, List.getElem?_cons_zero, List.getElem?_cons_succ, List.mem_cons, List.not_mem_nil, or_false, false_or, or_true, true_or, if_true, if_false, Bool.false_eq_true, Bool.not_true, Bool.not_false, decide_true, decide_false, and_self, true_and, and_true, Bool.true_and, Bool.and_true, Bool.and_self, Bool.false_and, Bool.and_false, ↓reduceIte, reduceIte, Int.reduceLT, Int.reduceLE, Int.reduceNeg, Int.reduceAdd, Int.reduceSub, Int.reduceMul, Int.reduceToNat, Nat.reduceLT, Nat.reduceLeDiff, Nat.reduceEqDiff, Nat.reduceAdd, Nat.reduceSub, Nat.reduceMul, reduceCtorEq, Int.cast_ofNat_Int, Int.natCast_one, Int.natCast_zero, Int.reduceEq, vMeth_ap, kMeth_l, dRev_list, dCount_ints, kRem_ap, xSeq_rem, xSeq_ext, xExt_ap, kExt_ap, xSeq_pop, xPop_ap, popR_ok, xRem_ap, xSeq_try, xTryL_ap, kTry_nx, kTry_rt, kTry_exc, tryR_rt, tryR_nx, tryR_no, handL_cons, wipeS_nil, wipeS_cons, cv_s, cv_b, cv_i, Int.zero_add, dNotIn_nats]) fun _ => by simp only [startE_eq, kSet_ap, kSetG_ap, kIfS_ap, kIf0_ap, kRet_ap, kDrop_ap, kUnp_slot, kUnp2, kUnp3, kApp_ap, appR_ok, ownR_ok, augR_ok, kPar1_ap, kPar2_ap, kAug_ap, kForS_l, kForS_t, xSkip_ap, xSeq_skip, xSeq_seq, xSeq_set, xSeq_setG, xSeq_if, xSeq_ret, xSeq_retN, xSeq_raise, xSeq_drop, xSeq_brk, xSeq_cnt, xSeq_unp, xSeq_par, xSeq_app, xApp_ap, xSeq_aug, xAug_ap, xSeq_for, xSeq_forS, xSeq_forG, xFor_ap, xForS_ap, xForG_ap, xPar_ap, xSet_ap, xSetG_ap, xIf_ap, xRet_ap, xRetN_ap, xDrop_ap, xRaise_ap, xBreak_ap, xCont_ap, xUnp_ap, xSeq_put, xPut_ap, xSeq_putA, xPutA_ap, paK1_ap, paR1_ok, paX1_ok, paK2_ap, kPut1_ap, kPut2_ap, putR_ok, putJ_ok, kEv_ap, kEvG_ap, kEvL_ap, evS_ap, evG_ap, evL_ap, evA_t, evA_f, keepG_int, keepG_bool, keepG_none, keepG_tuple, keepG_list, flatL_nil, flatL_cons, vVar_ap, varR_ok, optR_ok, vC_ap, kB_ap, vBin_ap, vUn_ap, vTest_ap, kAnd_ap, kAnd2_ap, vAnd_ap, kOr_ap, kOr2_ap, vOr_ap, kNot_ap, kNot2_ap, vNot_ap, kIfE_ap, vIf_ap, kC3_ap, kC2_ap, kC1_ap, vChain_ap, kL_ap, kL2_ap, vL_nil, vL_cons, kTup_ap, kLst_ap, vTup_ap, vLst_ap, vCall_ap, kCut1_ap, kCut2_ap, kCut3_ap, vCut_ap, kPart_ap, vPart_none, vPart_some, kComp_ap, kCompO_ap, vComp_ap, wSeq_ap, wCall_ap, wipe_nil, wipe_cons, dMod_int, bindS_slot, bindS_tup, bindSs_nil, bindSs_slot, bindT_slot, bindT_tup, bindTs_nil, bindTs_slot, onR_ok, onR_exc, outR_rt, outR_nx, outR_exc, after_t, after_f, rb_ok, rb_exc, tr_bool, tr_none, tr_int, tr_list, tr_tuple, toB_bool, toI_int, dAdd_int, dSub_int, dNeg_int, dMul_l, dMul_r, dDiv_int, dLt_int, dLe_int, dGt_int, dGe_int, dEq_int, dNe_int, dEq_bool, dNe_bool, dIs_none, dIsNot_none, dIs_bool, isNone_none, isNone_int, isNone_bool, isNone_tuple, isNone_list, dIdx_list, dIdx_tuple, atI_0, atI_1, atI_2, dLen_list, dLen_tuple, dInt_int, dAbs_int, dTuple_list, dTuple_tuple, dList_list, dList_tuple, dSum_ints, dSum_intsT, dAll_bools, dMin_2, dMax_2, isi_int_int, isi_int_bool, isi_int_none, isi_int_tuple, isi_int_list, isi_bool_int, isi_bool_bool, isi_tuple_tuple, isi_tuple_int, isi_tuple_none, isi_list_list, asSeq_list, asSeq_tuple, iEnum_list, iEnum_tuple, iZip_list, iZip_tuple, dCut_list, dCut_tuple, flat_none, flat_bool, flat_int, flat_str, flat_tuple, flat_list, flatL_ints, flatL_bools, isL_list, isL_int, isL_bool, isL_tuple, isL_none, mview_nil, mview_cons, mv1_f, mv1_n, mv1_t, freeze_nil, freeze_cons, fr1_f, fr1_n, fr1_t, List.set_cons_zero, List.set_cons_succ, List.map_cons, List.map_nil, List.length_cons, List.length_nil, List.replicate_succ, List.replicate_zero, List.cons_append, List.nil_append, List.getElem?_cons_zero, List.getElem?_cons_succ, List.mem_cons, List.not_mem_nil, or_false, false_or, or_true, true_or, if_true, if_false, Bool.false_eq_true, Bool.not_true, Bool.not_false, decide_true, decide_false, and_self, true_and, and_true, Bool.true_and, Bool.and_true, Bool.and_self, Bool.false_and, Bool.and_false, ↓reduceIte, reduceIte, Int.reduceLT, Int.reduceLE, Int.reduceNeg, Int.reduceAdd, Int.reduceSub, Int.reduceMul, Int.reduceToNat, Nat.reduceLT, Nat.reduceLeDiff, Nat.reduceEqDiff, Nat.reduceAdd, Nat.reduceSub, Nat.reduceMul, reduceCtorEq, Int.cast_ofNat_Int, Int.natCast_one, Int.natCast_zero, Int.reduceEq, vMeth_ap, kMeth_l, dRev_list, dCount_ints, kRem_ap, xSeq_rem, xSeq_ext, xExt_ap, kExt_ap, xSeq_pop, xPop_ap, popR_ok, xRem_ap, xSeq_try, xTryL_ap, kTry_nx, kTry_rt, kTry_exc, tryR_rt, tryR_nx, tryR_no, handL_cons, wipeS_nil, wipeS_cons, cv_s, cv_b, cv_i, Int.zero_add]; rfl
    have hat : atI (((List.range bs.length).filter fun p => !decide (p ∈ takenOf bs P k)).map natD) 0 = some (natD (freeOf bs.length (takenOf bs P k))) := by
      refine atI_map (i := 0) ?_
      rw [← List.head?_eq_getElem?]
      exact hfree.1
    have hix : ixN (P.map oD).length (k : Int) = some k := ixN_nat (by rw [List.length_map]; omega)
    have hset := P_set (P := P) (k := k) (m := freeOf bs.length (takenOf bs P k))
    have ft : flatL ((takenOf bs P k).map natD) = true := flatL_map fun _ _ => rfl
    have ff : flat (natD (freeOf bs.length (takenOf bs P k))) = true := rfl
    unfold stepP
    rw [← hset]
    simp only [startE_eq, kSet_ap, kSetG_ap, kIfS_ap, kIf0_ap, kRet_ap, kDrop_ap, kUnp_slot, kUnp2, kUnp3, kApp_ap, appR_ok, ownR_ok, augR_ok, kPar1_ap, kPar2_ap, kAug_ap, kForS_l, kForS_t, xSkip_ap, xSeq_skip, xSeq_seq, xSeq_set, xSeq_setG, xSeq_if, xSeq_ret, xSeq_retN, xSeq_raise, xSeq_drop, xSeq_brk, xSeq_cnt, xSeq_unp, xSeq_par, xSeq_app, xApp_ap, xSeq_aug, xAug_ap, xSeq_for, xSeq_forS, xSeq_forG, xFor_ap, xForS_ap, xForG_ap, xPar_ap, xSet_ap, xSetG_ap, xIf_ap, xRet_ap, xRetN_ap, xDrop_ap, xRaise_ap, xBreak_ap, xCont_ap, xUnp_ap, xSeq_put, xPut_ap, xSeq_putA, xPutA_ap, paK1_ap, paR1_ok, paX1_ok, paK2_ap, kPut1_ap, kPut2_ap, putR_ok, putJ_ok, kEv_ap, kEvG_ap, kEvL_ap, evS_ap, evG_ap, evL_ap, evA_t, evA_f, keepG_int, keepG_bool, keepG_none, keepG_tuple, keepG_list, flatL_nil, flatL_cons, vVar_ap, varR_ok, optR_ok, vC_ap, kB_ap, vBin_ap, vUn_ap, vTest_ap, kAnd_ap, kAnd2_ap, vAnd_ap, kOr_ap, kOr2_ap, vOr_ap, kNot_ap, kNot2_ap, vNot_ap, kIfE_ap, vIf_ap, kC3_ap, kC2_ap, kC1_ap, vChain_ap, kL_ap, kL2_ap, vL_nil, vL_cons, kTup_ap, kLst_ap, vTup_ap, vLst_ap, vCall_ap, kCut1_ap, kCut2_ap, kCut3_ap, vCut_ap, kPart_ap, vPart_none, vPart_some, kComp_ap, kCompO_ap, vComp_ap, wSeq_ap, wCall_ap, wipe_nil, wipe_cons, dMod_int, bindS_slot, bindS_tup, bindSs_nil, bindSs_slot, bindT_slot, bindT_tup, bindTs_nil, bindTs_slot, onR_ok, onR_exc, outR_rt, outR_nx, outR_exc, after_t, after_f, rb_ok, rb_exc, tr_bool, tr_none, tr_int, tr_list, tr_tuple, toB_bool, toI_int, dAdd_int, dSub_int, dNeg_int, dMul_l, dMul_r, dDiv_int, dLt_int, dLe_int, dGt_int, dGe_int, dEq_int, dNe_int, dEq_bool, dNe_bool, dIs_none, dIsNot_none, dIs_bool, isNone_none, isNone_int, isNone_bool, isNone_tuple, isNone_list, dIdx_list, dIdx_tuple, atI_0, atI_1, atI_2, dLen_list, dLen_tuple, dInt_int, dAbs_int, dTuple_list, dTuple_tuple, dList_list, dList_tuple, dSum_ints, dSum_intsT, dAll_bools, dMin_2, dMax_2, isi_int_int, isi_int_bool, isi_int_none, isi_int_tuple, isi_int_list, isi_bool_int, isi_bool_bool, isi_tuple_tuple, isi_tuple_int, isi_tuple_none, isi_list_list, asSeq_list, asSeq_tuple, iEnum_list, iEnum_tuple, iZip_list, iZip_tuple, dCut_list, dCut_tuple, flat_none, flat_bool, flat_int, flat_str, flat_tuple, flat_list, flatL_ints, flatL_bools, isL_list, isL_int, isL_bool, isL_tuple, isL_none, mview_nil, mview_cons, mv1_f, mv1_n, mv1_t, freeze_nil, freeze_cons, fr1_f, fr1_n, fr1_t, List.set_cons_zero, List.set_cons_succ, List.map_cons, List.map_nil, List.length_cons, List.length_nil, List.replicate_succ, List.replicate_zero, List.cons_append, List.nil_append, List.getElem?_cons_zero, List.getElem?_cons_succ, List.mem_cons, List.not_mem_nil, or_false, false_or, or_true, true_or, if_true, if_false, Bool.false_eq_true, Bool.not_true, Bool.not_false, decide_true, decide_false, and_self, true_and, and_true, Bool.true_and, Bool.and_true, Bool.and_self, Bool.false_and, Bool.and_false, ↓reduceIte, reduceIte, Int.reduceLT, Int.reduceLE, Int.reduceNeg, Int.reduceAdd, Int.reduceSub, Int.reduceMul, Int.reduceToNat, Nat.reduceLT, Nat.reduceLeDiff, Nat.reduceEqDiff, Nat.reduceAdd, Nat.reduceSub, Nat.reduceMul, reduceCtorEq, Int.cast_ofNat_Int, Int.natCast_one, Int.natCast_zero, Int.reduceEq, vMeth_ap, kMeth_l, dRev_list, dCount_ints, kRem_ap, xSeq_rem, xSeq_ext, xExt_ap, kExt_ap, xSeq_pop, xPop_ap, popR_ok, xRem_ap, xSeq_try, xTryL_ap, kTry_nx, kTry_rt, kTry_exc, tryR_rt, tryR_nx, tryR_no, handL_cons, wipeS_nil, wipeS_cons, cv_s, cv_b, cv_i, dl, hr, show ∀ k : Nat, natD k = PyData.int k from fun _ => rfl, c2, hat, hix, ft, ff]
    exact turn_nx ⟨_, _, _, _, _, rfl⟩
theorem nones_eq (bs : List (Int × Int)) : bs.map (fun _ => PyData.none) = (List.replicate bs.length (none : Option Nat)).map oD := by
  rw [List.map_replicate]
  induction bs with
  | nil => rfl
  | cons a r ih => rw [List.map_cons, ih, List.length_cons, List.replicate_succ]; rfl
theorem r2_ok (c : Bk bs) {scr : D} {z2 : Int} (a2 : f__law_at [scr, .int 2] = .ok (.int z2)) (x2 x3 x5 x6 x7 x8 x10 : Option (Bool × D)) :
    outR (b_r2 [some (false, scr), some (false, bkD bs), x2, x3, some (false, depD bs), x5, x6, x7, x8, some (true, .list (((List.range bs.length).filter (spareQ bs)).map natD)), x10, none, none, none, none, none, none]) = .ok (.bool true) := by
  have hl := c.l1
  have fb := flat_bk bs
  have dl := bk_len bs
  have dt := bk_seq bs
  have hr : iRange [.int (bs.length : Int)] = .ok (rangeD 0 bs.length) := iRange_1 (by omega)
  have h1 := spare_eq c
  have d1 := dNe_self (ok_ord ((List.range bs.length).filter (spareQ bs)))
  have hT : dTuple [.list (((List.range bs.length).filter (spareQ bs)).map natD)] = .ok (ordD ((List.range bs.length).filter (spareQ bs))) := rfl
  generalize hOD : ordD ((List.range bs.length).filter (spareQ bs)) = OD at h1 d1 hT
  generalize hFL : ((List.range bs.length).filter (spareQ bs)).map natD = FL at hT ⊢
  have c1 : ∀ s0 s1 s2 s3 s4 s5 s6 s7 s8 s9 s10 s11 s12 s13 s14 s15 s16, compGo (compTurnD (.slot 3) [3] none (vC .none) [s0, s1, s2, s3, s4, s5, s6, s7, s8, s9, s10, s11, s12, s13, s14, s15, s16]) (bs.map pr2) = .ok ((List.replicate bs.length (none : Option Nat)).map oD) := by
    intro s0 s1 s2 s3 s4 s5 s6 s7 s8 s9 s10 s11 s12 s13 s14 s15 s16
    rw [← nones_eq]
    exact compGo_map fun p hp => turn_all rfl (by simp only [startE_eq, kSet_ap, kSetG_ap, kIfS_ap, kIf0_ap, kRet_ap, kDrop_ap, kUnp_slot, kUnp2, kUnp3, kApp_ap, appR_ok, ownR_ok, augR_ok, kPar1_ap, kPar2_ap, kAug_ap, kForS_l, kForS_t, xSkip_ap, xSeq_skip, xSeq_seq, xSeq_set, xSeq_setG, xSeq_if, xSeq_ret, xSeq_retN, xSeq_raise, xSeq_drop, xSeq_brk, xSeq_cnt, xSeq_unp, xSeq_par, xSeq_app, xApp_ap, xSeq_aug, xAug_ap, xSeq_for, xSeq_forS, xSeq_forG, xFor_ap, xForS_ap, xForG_ap, xPar_ap, xSet_ap, xSetG_ap, xIf_ap, xRet_ap, xRetN_ap, xDrop_ap, xRaise_ap, xBreak_ap, xCont_ap, xUnp_ap, xSeq_put, xPut_ap, xSeq_putA, xPutA_ap, paK1_ap, paR1_ok, paX1_ok, paK2_ap, kPut1_ap, kPut2_ap, putR_ok, putJ_ok, kEv_ap, kEvG_ap, kEvL_ap, evS_ap, evG_ap, evL_ap, evA_t, evA_f, keepG_int, keepG_bool, keepG_none, keepG_tuple, keepG_list, flatL_nil, flatL_cons, vVar_ap, varR_ok, optR_ok, vC_ap, kB_ap, vBin_ap, vUn_ap, vTest_ap, kAnd_ap, kAnd2_ap, vAnd_ap, kOr_ap, kOr2_ap, vOr_ap, kNot_ap, kNot2_ap, vNot_ap, kIfE_ap, vIf_ap, kC3_ap, kC2_ap, kC1_ap, vChain_ap, kL_ap, kL2_ap, vL_nil, vL_cons, kTup_ap, kLst_ap, vTup_ap, vLst_ap, vCall_ap, kCut1_ap, kCut2_ap, kCut3_ap, vCut_ap, kPart_ap, vPart_none, vPart_some, kComp_ap, kCompO_ap, vComp_ap, wSeq_ap, wCall_ap, wipe_nil, wipe_cons, dMod_int, bindS_slot, bindS_tup, bindSs_nil, bindSs_slot, bindT_slot, bindT_tup, bindTs_nil, bindTs_slot, onR_ok, onR_exc, outR_rt, outR_nx, outR_exc, after_t, after_f, rb_ok, rb_exc, tr_bool, tr_none, tr_int, tr_list, tr_tuple, toB_bool, toI_int, dAdd_int, dSub_int, dNeg_int, dMul_l, dMul_r, dDiv_int, dLt_int, dLe_int, dGt_int, dGe_int, dEq_int, dNe_int, dEq_bool, dNe_bool, dIs_none, dIsNot_none, dIs_bool, isNone_none, isNone_int, isNone_bool, isNone_tuple, isNone_list, dIdx_list, dIdx_tuple, atI_0, atI_1, atI_2, dLen_list, dLen_tuple, dInt_int, dAbs_int, dTuple_list, dTuple_tuple, dList_list, dList_tuple, dSum_ints, dSum_intsT, dAll_bools, dMin_2, dMax_2, isi_int_int, isi_int_bool, isi_int_none, isi_int_tuple, isi_int_list, isi_bool_int, isi_bool_bool, isi_tuple_tuple, isi_tuple_int, isi_tuple_none, isi_list_list, asSeq_list, asSeq_tuple, iEnum_list, iEnum_tuple, iZip_list, iZip_tuple, dCut_list, dCut_tuple, flat_none, flat_bool, flat_int, flat_str, flat_tuple, flat_list, flatL_ints, flatL_bools, isL_list, isL_int, isL_bool, isL_tuple, isL_none, mview_nil, mview_cons, mv1_f, mv1_n, mv1_t, freeze_nil, freeze_cons, fr1_f, fr1_n, fr1_t, List.set_cons_zero, List.set_cons_succ, List.map_cons, List.map_nil, List.length_cons, List.length_nil, List.replicate_succ, List.replicate_zero, List.cons_append, List.nil_append, List.getElem?_cons_zero, List.getElem?_cons_succ, List.mem_cons, List.not_mem_nil, or_false, false_or, or_true, true_or, if_true, if_false, Bool.false_eq_true, Bool.not_true, Bool.not_false, decide_true, decide_false, and_self, true_and, and_true, Bool.true_and, Bool.and_true, Bool.and_self, Bool.false_and, Bool.and_false, ↓reduceIte, reduceIte, Int.reduceLT, Int.reduceLE, Int.reduceNeg, Int.reduceAdd, Int.reduceSub, Int.reduceMul, Int.reduceToNat, Nat.reduceLT, Nat.reduceLeDiff, Nat.reduceEqDiff, Nat.reduceAdd, Nat.reduceSub, Nat.reduceMul, reduceCtorEq, Int.cast_ofNat_Int, Int.natCast_one, Int.natCast_zero, Int.reduceEq, vMeth_ap, kMeth_l, dRev_list, dCount_ints, kRem_ap, xSeq_rem, xSeq_ext, xExt_ap, kExt_ap, xSeq_pop, xPop_ap, popR_ok, xRem_ap, xSeq_try, xTryL_ap, kTry_nx, kTry_rt, kTry_exc, tryR_rt, tryR_nx, tryR_no, handL_cons, wipeS_nil, wipeS_cons, cv_s, cv_b, cv_i])
  have f0 : flatL ((List.replicate bs.length (none : Option Nat)).map oD) = true := flatL_map fun o _ => by cases o <;> rfl
  have c2 : ∀ s0 s2 s3 s4 s5 s6 s7 s8 s9 s10 s11 s12 s13 s14 s15 s16, compGo (compTurnD (.slot 10) [10] none (vTup [vBin dIdx (vVar 1) (vVar 10), vVar 10]) [s0, some (bkD bs), s2, s3, s4, s5, s6, s7, s8, s9, s10, s11, s12, s13, s14, s15, s16]) (rangeD 0 bs.length) = .ok ((List.range bs.length).map (keyD bs)) := by
    intro s0 s2 s3 s4 s5 s6 s7 s8 s9 s10 s11 s12 s13 s14 s15 s16
    refine SH.comp_range fun k hk => ⟨_, rfl, ?_⟩
    have b1 := bk_at2 hk
    simp only [startE_eq, kSet_ap, kSetG_ap, kIfS_ap, kIf0_ap, kRet_ap, kDrop_ap, kUnp_slot, kUnp2, kUnp3, kApp_ap, appR_ok, ownR_ok, augR_ok, kPar1_ap, kPar2_ap, kAug_ap, kForS_l, kForS_t, xSkip_ap, xSeq_skip, xSeq_seq, xSeq_set, xSeq_setG, xSeq_if, xSeq_ret, xSeq_retN, xSeq_raise, xSeq_drop, xSeq_brk, xSeq_cnt, xSeq_unp, xSeq_par, xSeq_app, xApp_ap, xSeq_aug, xAug_ap, xSeq_for, xSeq_forS, xSeq_forG, xFor_ap, xForS_ap, xForG_ap, xPar_ap, xSet_ap, xSetG_ap, xIf_ap, xRet_ap, xRetN_ap, xDrop_ap, xRaise_ap, xBreak_ap, xCont_ap, xUnp_ap, xSeq_put, xPut_ap, xSeq_putA, xPutA_ap, paK1_ap, paR1_ok, paX1_ok, paK2_ap, kPut1_ap, kPut2_ap, putR_ok, putJ_ok, kEv_ap, kEvG_ap, kEvL_ap, evS_ap, evG_ap, evL_ap, evA_t, evA_f, keepG_int, keepG_bool, keepG_none, keepG_tuple, keepG_list, flatL_nil, flatL_cons, vVar_ap, varR_ok, optR_ok, vC_ap, kB_ap, vBin_ap, vUn_ap, vTest_ap, kAnd_ap, kAnd2_ap, vAnd_ap, kOr_ap, kOr2_ap, vOr_ap, kNot_ap, kNot2_ap, vNot_ap, kIfE_ap, vIf_ap, kC3_ap, kC2_ap, kC1_ap, vChain_ap, kL_ap, kL2_ap, vL_nil, vL_cons, kTup_ap, kLst_ap, vTup_ap, vLst_ap, vCall_ap, kCut1_ap, kCut2_ap, kCut3_ap, vCut_ap, kPart_ap, vPart_none, vPart_some, kComp_ap, kCompO_ap, vComp_ap, wSeq_ap, wCall_ap, wipe_nil, wipe_cons, dMod_int, bindS_slot, bindS_tup, bindSs_nil, bindSs_slot, bindT_slot, bindT_tup, bindTs_nil, bindTs_slot, onR_ok, onR_exc, outR_rt, outR_nx, outR_exc, after_t, after_f, rb_ok, rb_exc, tr_bool, tr_none, tr_int, tr_list, tr_tuple, toB_bool, toI_int, dAdd_int, dSub_int, dNeg_int, dMul_l, dMul_r, dDiv_int, dLt_int, dLe_int, dGt_int, dGe_int, dEq_int, dNe_int, dEq_bool, dNe_bool, dIs_none, dIsNot_none, dIs_bool, isNone_none, isNone_int, isNone_bool, isNone_tuple, isNone_list, dIdx_list, dIdx_tuple, atI_0, atI_1, atI_2, dLen_list, dLen_tuple, dInt_int, dAbs_int, dTuple_list, dTuple_tuple, dList_list, dList_tuple, dSum_ints, dSum_intsT, dAll_bools, dMin_2, dMax_2, isi_int_int, isi_int_bool, isi_int_none, isi_int_tuple, isi_int_list, isi_bool_int, isi_bool_bool, isi_tuple_tuple, isi_tuple_int, isi_tuple_none, isi_list_list, asSeq_list, asSeq_tuple, iEnum_list, iEnum_tuple, iZip_list, iZip_tuple, dCut_list, dCut_tuple, flat_none, flat_bool, flat_int, flat_str, flat_tuple, flat_list, flatL_ints, flatL_bools, isL_list, isL_int, isL_bool, isL_tuple, isL_none, mview_nil, mview_cons, mv1_f, mv1_n, mv1_t, freeze_nil, freeze_cons, fr1_f, fr1_n, fr1_t, List.set_cons_zero, List.set_cons_succ, List.map_cons, List.map_nil, List.length_cons, List.length_nil, List.replicate_succ, List.replicate_zero, List.cons_append, List.nil_append, List.getElem?_cons_zero, List.getElem?_cons_succ, List.mem_cons, List.not_mem_nil, or_false, false_or, or_true, true_or, if_true, if_false, Bool.false_eq_true, Bool.not_true, Bool.not_false, decide_true, decide_false, and_self, true_and, and_true, Bool.true_and, Bool.and_true, Bool.and_self, Bool.false_and, Bool.and_false, ↓reduceIte, reduceIte, Int.reduceLT, Int.reduceLE, Int.reduceNeg, Int.reduceAdd, Int.reduceSub, Int.reduceMul, Int.reduceToNat, Nat.reduceLT, Nat.reduceLeDiff, Nat.reduceEqDiff, Nat.reduceAdd, Nat.reduceSub, Nat.reduceMul, reduceCtorEq, Int.cast_ofNat_Int, Int.natCast_one, Int.natCast_zero, Int.reduceEq, vMeth_ap, kMeth_l, dRev_list, dCount_ints, kRem_ap, xSeq_rem, xSeq_ext, xExt_ap, kExt_ap, xSeq_pop, xPop_ap, popR_ok, xRem_ap, xSeq_try, xTryL_ap, kTry_nx, kTry_rt, kTry_exc, tryR_rt, tryR_nx, tryR_no, handL_cons, wipeS_nil, wipeS_cons, cv_s, cv_b, cv_i, Int.zero_add, b1]
    rfl
  have hs := sort_law (bs := bs)
  have fo : flatL ((ordK bs).map (keyD bs)) = true := flatL_map fun _ _ => rfl
  simp only [startE_eq, kSet_ap, kSetG_ap, kIfS_ap, kIf0_ap, kRet_ap, kDrop_ap, kUnp_slot, kUnp2, kUnp3, kApp_ap, appR_ok, ownR_ok, augR_ok, kPar1_ap, kPar2_ap, kAug_ap, kForS_l, kForS_t, xSkip_ap, xSeq_skip, xSeq_seq, xSeq_set, xSeq_setG, xSeq_if, xSeq_ret, xSeq_retN, xSeq_raise, xSeq_drop, xSeq_brk, xSeq_cnt, xSeq_unp, xSeq_par, xSeq_app, xApp_ap, xSeq_aug, xAug_ap, xSeq_for, xSeq_forS, xSeq_forG, xFor_ap, xForS_ap, xForG_ap, xPar_ap, xSet_ap, xSetG_ap, xIf_ap, xRet_ap, xRetN_ap, xDrop_ap, xRaise_ap, xBreak_ap, xCont_ap, xUnp_ap, xSeq_put, xPut_ap, xSeq_putA, xPutA_ap, paK1_ap, paR1_ok, paX1_ok, paK2_ap, kPut1_ap, kPut2_ap, putR_ok, putJ_ok, kEv_ap, kEvG_ap, kEvL_ap, evS_ap, evG_ap, evL_ap, evA_t, evA_f, keepG_int, keepG_bool, keepG_none, keepG_tuple, keepG_list, flatL_nil, flatL_cons, vVar_ap, varR_ok, optR_ok, vC_ap, kB_ap, vBin_ap, vUn_ap, vTest_ap, kAnd_ap, kAnd2_ap, vAnd_ap, kOr_ap, kOr2_ap, vOr_ap, kNot_ap, kNot2_ap, vNot_ap, kIfE_ap, vIf_ap, kC3_ap, kC2_ap, kC1_ap, vChain_ap, kL_ap, kL2_ap, vL_nil, vL_cons, kTup_ap, kLst_ap, vTup_ap, vLst_ap, vCall_ap, kCut1_ap, kCut2_ap, kCut3_ap, vCut_ap, kPart_ap, vPart_none, vPart_some, kComp_ap, kCompO_ap, vComp_ap, wSeq_ap, wCall_ap, wipe_nil, wipe_cons, dMod_int, bindS_slot, bindS_tup, bindSs_nil, bindSs_slot, bindT_slot, bindT_tup, bindTs_nil, bindTs_slot, onR_ok, onR_exc, outR_rt, outR_nx, outR_exc, after_t, after_f, rb_ok, rb_exc, tr_bool, tr_none, tr_int, tr_list, tr_tuple, toB_bool, toI_int, dAdd_int, dSub_int, dNeg_int, dMul_l, dMul_r, dDiv_int, dLt_int, dLe_int, dGt_int, dGe_int, dEq_int, dNe_int, dEq_bool, dNe_bool, dIs_none, dIsNot_none, dIs_bool, isNone_none, isNone_int, isNone_bool, isNone_tuple, isNone_list, dIdx_list, dIdx_tuple, atI_0, atI_1, atI_2, dLen_list, dLen_tuple, dInt_int, dAbs_int, dTuple_list, dTuple_tuple, dList_list, dList_tuple, dSum_ints, dSum_intsT, dAll_bools, dMin_2, dMax_2, isi_int_int, isi_int_bool, isi_int_none, isi_int_tuple, isi_int_list, isi_bool_int, isi_bool_bool, isi_tuple_tuple, isi_tuple_int, isi_tuple_none, isi_list_list, asSeq_list, asSeq_tuple, iEnum_list, iEnum_tuple, iZip_list, iZip_tuple, dCut_list, dCut_tuple, flat_none, flat_bool, flat_int, flat_str, flat_tuple, flat_list, flatL_ints, flatL_bools, isL_list, isL_int, isL_bool, isL_tuple, isL_none, mview_nil, mview_cons, mv1_f, mv1_n, mv1_t, freeze_nil, freeze_cons, fr1_f, fr1_n, fr1_t, List.set_cons_zero, List.set_cons_succ, List.map_cons, List.map_nil, List.length_cons, List.length_nil, List.replicate_succ, List.replicate_zero, List.cons_append, List.nil_append, List.getElem?_cons_zero, List.getElem?_cons_succ, List.mem_cons, List.not_mem_nil, or_false, false_or, or_true, true_or, if_true, if_false, Bool.false_eq_true, Bool.not_true, Bool.not_false, decide_true, decide_false, and_self, true_and, and_true, Bool.true_and, Bool.and_true, Bool.and_self, Bool.false_and, Bool.and_false, ↓reduceIte, reduceIte, Int.reduceLT, Int.reduceLE, Int.reduceNeg, Int.reduceAdd, Int.reduceSub, Int.reduceMul, Int.reduceToNat, Nat.reduceLT, Nat.reduceLeDiff, Nat.reduceEqDiff, Nat.reduceAdd, Nat.reduceSub, Nat.reduceMul, reduceCtorEq, Int.cast_ofNat_Int, Int.natCast_one, Int.natCast_zero, Int.reduceEq, vMeth_ap, kMeth_l, dRev_list, dCount_ints, kRem_ap, xSeq_rem, xSeq_ext, xExt_ap, kExt_ap, xSeq_pop, xPop_ap, popR_ok, xRem_ap, xSeq_try, xTryL_ap, kTry_nx, kTry_rt, kTry_exc, tryR_rt, tryR_nx, tryR_no, handL_cons, wipeS_nil, wipeS_cons, cv_s, cv_b, cv_i, b_r2, h1, d1, hT, dt, c1, f0, dl, hr, c2, hs, fo]
  refine seq_list (P := fun o => outR o = _) (enc := keyD bs) (xs := ordK bs) (fun pre env => ∃ x10 x12 x13 x14 x15, env = [some (false, scr), some (false, bkD bs), x2, x3, some (false, depD bs), x5, x6, x7, x8, some (true, .list FL), x10, some (true, .list ((pileP bs pre).map oD)), x12, x13, x14, x15, none]) NoE NoD rfl ⟨x10, none, none, none, none, rfl⟩ ?_ ?_ (fun _ z => z.elim) (fun _ z => z.elim)
  · rintro pre k post env hxs ⟨x10, x12, x13, x14, x15, rfl⟩
    exact ⟨_, rfl, pb_turn c hxs _ _ _ _ _ _ _ _ _ _ _ _ _⟩
  · rintro env ⟨x10, x12, x13, x14, x15, rfl⟩
    exact r3_ok c a2 _ _ _ _ _ _ _ _ _ _ _ _
end
end K68


set_option Elab.async false
set_option linter.all false
set_option maxRecDepth 100000
set_option maxHeartbeats 4000000
namespace K68
open PySem PySem.Spec PyProof.Rows L2 SH
def b_sb : SEn → Out :=
  (xIf [4, 7, 1, 10] (vTest (vCall dAll [(vComp (wCall iRange [(vBin dIdx (vBin dIdx (vVar 1) (vVar 10)) (vC (.int 0))), (vBin dIdx (vBin dIdx (vVar 1) (vVar 10)) (vC (.int 1)))]) (.slot 7) [7] none (vBin dGt (vBin dIdx (vVar 4) (vVar 7)) (vC (.int 1))))]))
  (xApp 9 [10] (vVar 10))
  (xSkip))
def b_r1 : SEn → Out :=
  (xSeq (xIf [1, 5] (vTest (vBin dNe (vCall f_subject_joined [(vVar 1)]) (vCall dTuple [(vVar 5)])))
  (xRet [] (vC (.bool false)))
  (xSkip))
  (xSeq (xSetG 9 [] (vLst []))
  (xSeq (xFor iRange [1] [(vCall dLen [(vVar 1)])] (.slot 10)
  b_sb)
  b_r2)))
def b_yb : SEn → Out :=
  (xSeq (xSet 8 [2, 4, 7] (vAnd (vBin dLt (vVar 7) (vVar 2)) (vBin dGt (vBin dIdx (vVar 4) (vVar 7)) (vC (.int 0)))))
  (xSeq (xIf [8, 6] (vTest (vAnd (vVar 8) (vBin dIs (vVar 6) (vC .none))))
  (xSet 6 [7] (vVar 7))
  (xSkip))
  (xIf [8, 6] (vTest (vAnd (vNot (vVar 8)) (vBin dIsNot (vVar 6) (vC .none))))
  (xSeq (xApp 5 [6, 7] (vTup [(vVar 6), (vVar 7)]))
  (xSet 6 [] (vC .none)))
  (xSkip))))
def b_s2 : SEn → Out :=
  (xSeq (xSet 4 [1, 3, 7, 2] (vCall dTuple [(vComp (wCall iRange [(vVar 2)]) (.slot 7) [7] none (vCall dLen [(vComp (wSeq (vVar 1)) (.slot 3) [3] (some (vTest (vCall f__law_tells [(vVar 3), (vVar 7)]))) (vVar 3))]))]))
  (xSeq (xIf [1, 4] (vTest (vBin dNe (vCall f_subject_depth [(vVar 1)]) (vVar 4)))
  (xRet [] (vC (.bool false)))
  (xSkip))
  (xSeq (xSetG 5 [] (vLst []))
  (xSeq (xSet 6 [] (vC .none))
  (xSeq (xFor iRange [] [(vC (.int 62))] (.slot 7)
  b_yb)
  b_r1)))))

section
variable {bs : List (Int × Int)}
theorem dep_atI {y : Int} (h0 : 0 ≤ y) (h : y < lastI bs) : dIdx (depD bs) (.int y) = .ok (.int (dep bs y)) := by
  obtain ⟨n, rfl⟩ := Int.eq_ofNat_of_zero_le h0
  exact dep_at h
theorem r1_ok (c : Bk bs) {scr : D} {z2 : Int} (a2 : f__law_at [scr, .int 2] = .ok (.int z2)) {J : List (Int × Int)} (hJ : SepJ J) (hcov : ∀ y, covP bs y ↔ covP J y) (x2 x3 x6 x7 x8 : Option (Bool × D)) :
    outR (b_r1 [some (false, scr), some (false, bkD bs), x2, x3, some (false, depD bs), some (true, .list (J.map pr2)), x6, x7, x8, none, none, none, none, none, none, none, none]) = .ok (.bool true) := by
  have hl := c.l1
  have dl := bk_len bs
  have hr : iRange [.int (bs.length : Int)] = .ok (rangeD 0 bs.length) := iRange_1 (by omega)
  obtain ⟨J', h1, h2, h3⟩ := joined_eq c
  have e : J = J' := joined_uniq J J' hJ h1 fun y => by rw [← hcov, h2]
  subst e
  have d1 := dNe_self (ok_bk J)
  have hT : dTuple [.list (J.map pr2)] = .ok (bkD J) := rfl
  simp only [startE_eq, kSet_ap, kSetG_ap, kIfS_ap, kIf0_ap, kRet_ap, kDrop_ap, kUnp_slot, kUnp2, kUnp3, kApp_ap, appR_ok, ownR_ok, augR_ok, kPar1_ap, kPar2_ap, kAug_ap, kForS_l, kForS_t, xSkip_ap, xSeq_skip, xSeq_seq, xSeq_set, xSeq_setG, xSeq_if, xSeq_ret, xSeq_retN, xSeq_raise, xSeq_drop, xSeq_brk, xSeq_cnt, xSeq_unp, xSeq_par, xSeq_app, xApp_ap, xSeq_aug, xAug_ap, xSeq_for, xSeq_forS, xSeq_forG, xFor_ap, xForS_ap, xForG_ap, xPar_ap, xSet_ap, xSetG_ap, xIf_ap, xRet_ap, xRetN_ap, xDrop_ap, xRaise_ap, xBreak_ap, xCont_ap, xUnp_ap, xSeq_put, xPut_ap, xSeq_putA, xPutA_ap, paK1_ap, paR1_ok, paX1_ok, paK2_ap, kPut1_ap, kPut2_ap, putR_ok, putJ_ok, kEv_ap, kEvG_ap, kEvL_ap, evS_ap, evG_ap, evL_ap, evA_t, evA_f, keepG_int, keepG_bool, keepG_none, keepG_tuple, keepG_list, flatL_nil, flatL_cons, vVar_ap, varR_ok, optR_ok, vC_ap, kB_ap, vBin_ap, vUn_ap, vTest_ap, kAnd_ap, kAnd2_ap, vAnd_ap, kOr_ap, kOr2_ap, vOr_ap, kNot_ap, kNot2_ap, vNot_ap, kIfE_ap, vIf_ap, kC3_ap, kC2_ap, kC1_ap, vChain_ap, kL_ap, kL2_ap, vL_nil, vL_cons, kTup_ap, kLst_ap, vTup_ap, vLst_ap, vCall_ap, kCut1_ap, kCut2_ap, kCut3_ap, vCut_ap, kPart_ap, vPart_none, vPart_some, kComp_ap, kCompO_ap, vComp_ap, wSeq_ap, wCall_ap, wipe_nil, wipe_cons, dMod_int, bindS_slot, bindS_tup, bindSs_nil, bindSs_slot, bindT_slot, bindT_tup, bindTs_nil, bindTs_slot, onR_ok, onR_exc, outR_rt, outR_nx, outR_exc, after_t, after_f, rb_ok, rb_exc, tr_bool, tr_none, tr_int, tr_list, tr_tuple, toB_bool, toI_int, dAdd_int, dSub_int, dNeg_int, dMul_l, dMul_r, dDiv_int, dLt_int, dLe_int, dGt_int, dGe_int, dEq_int, dNe_int, dEq_bool, dNe_bool, dIs_none, dIsNot_none, dIs_bool, isNone_none, isNone_int, isNone_bool, isNone_tuple, isNone_list, dIdx_list, dIdx_tuple, atI_0, atI_1, atI_2, dLen_list, dLen_tuple, dInt_int, dAbs_int, dTuple_list, dTuple_tuple, dList_list, dList_tuple, dSum_ints, dSum_intsT, dAll_bools, dMin_2, dMax_2, isi_int_int, isi_int_bool, isi_int_none, isi_int_tuple, isi_int_list, isi_bool_int, isi_bool_bool, isi_tuple_tuple, isi_tuple_int, isi_tuple_none, isi_list_list, asSeq_list, asSeq_tuple, iEnum_list, iEnum_tuple, iZip_list, iZip_tuple, dCut_list, dCut_tuple, flat_none, flat_bool, flat_int, flat_str, flat_tuple, flat_list, flatL_ints, flatL_bools, isL_list, isL_int, isL_bool, isL_tuple, isL_none, mview_nil, mview_cons, mv1_f, mv1_n, mv1_t, freeze_nil, freeze_cons, fr1_f, fr1_n, fr1_t, List.set_cons_zero, List.set_cons_succ, List.map_cons, List.map_nil, List.length_cons, List.length_nil, List.replicate_succ, List.replicate_zero, List.cons_append, List.nil_append, List.getElem?_cons_zero, List.getElem?_cons_succ, List.mem_cons, List.not_mem_nil, or_false, false_or, or_true, true_or, if_true, if_false, Bool.false_eq_true, Bool.not_true, Bool.not_false, decide_true, decide_false, and_self, true_and, and_true, Bool.true_and, Bool.and_true, Bool.and_self, Bool.false_and, Bool.and_false, ↓reduceIte, reduceIte, Int.reduceLT, Int.reduceLE, Int.reduceNeg, Int.reduceAdd, Int.reduceSub, Int.reduceMul, Int.reduceToNat, Nat.reduceLT, Nat.reduceLeDiff, Nat.reduceEqDiff, Nat.reduceAdd, Nat.reduceSub, Nat.reduceMul, reduceCtorEq, Int.cast_ofNat_Int, Int.natCast_one, Int.natCast_zero, Int.reduceEq, vMeth_ap, kMeth_l, dRev_list, dCount_ints, kRem_ap, xSeq_rem, xSeq_ext, xExt_ap, kExt_ap, xSeq_pop, xPop_ap, popR_ok, xRem_ap, xSeq_try, xTryL_ap, kTry_nx, kTry_rt, kTry_exc, tryR_rt, tryR_nx, tryR_no, handL_cons, wipeS_nil, wipeS_cons, cv_s, cv_b, cv_i, b_r1, h3, hT, d1, dl, kFor_ap hr]
  refine seq_range (P := fun o => outR o = _) (fun k env => ∃ x10, env = [some (false, scr), some (false, bkD bs), x2, x3, some (false, depD bs), some (true, .list (J.map pr2)), x6, x7, x8, some (true, .list (((List.range k).filter (spareQ bs)).map natD)), x10, none, none, none, none, none, none]) NoE NoD ⟨none, rfl⟩ ?_ ?_ (fun _ z => z.elim) (fun _ z => z.elim)
  · rintro k env hk ⟨x10, rfl⟩
    refine ⟨_, rfl, ?_⟩
    have hv := at2_ok c hk
    have b1 := bk_at (at2_get hk)
    have hla : (at2 bs k).2 ≤ lastI bs := last_ge (List.mem_of_getElem? (at2_get hk))
    have hr2 : iRange [.int (at2 bs k).1, .int (at2 bs k).2] = .ok (rangeD (at2 bs k).1 ((at2 bs k).2 - (at2 bs k).1).toNat) := iRange_2 (by omega) (by omega)
    have c1 : ∀ s0 s1 s2 s3 s5 s6 s7 s8 s9 s10 s11 s12 s13 s14 s15 s16, compGo (compTurnD (.slot 7) [7] none (vBin dGt (vBin dIdx (vVar 4) (vVar 7)) (vC (.int 1))) [s0, s1, s2, s3, some (depD bs), s5, s6, s7, s8, s9, s10, s11, s12, s13, s14, s15, s16]) (rangeD (at2 bs k).1 ((at2 bs k).2 - (at2 bs k).1).toNat) = .ok (((List.range ((at2 bs k).2 - (at2 bs k).1).toNat).map fun i : Nat => decide (dep bs ((at2 bs k).1 + (i : Int)) > 1)).map .bool) := by
      intro s0 s1 s2 s3 s5 s6 s7 s8 s9 s10 s11 s12 s13 s14 s15 s16
      rw [List.map_map]
      refine SH.comp_range fun i hi => ⟨_, rfl, ?_⟩
      have q1 := dep_atI (bs := bs) (y := (at2 bs k).1 + (i : Int)) (by omega) (by omega)
      have q2 : decide ((dep bs ((at2 bs k).1 + (i : Int)) : Int) > 1) = decide (dep bs ((at2 bs k).1 + (i : Int)) > 1) := decide_eq_decide.mpr ⟨fun z => by omega, fun z => by omega⟩
      simp only [startE_eq, kSet_ap, kSetG_ap, kIfS_ap, kIf0_ap, kRet_ap, kDrop_ap, kUnp_slot, kUnp2, kUnp3, kApp_ap, appR_ok, ownR_ok, augR_ok, kPar1_ap, kPar2_ap, kAug_ap, kForS_l, kForS_t, xSkip_ap, xSeq_skip, xSeq_seq, xSeq_set, xSeq_setG, xSeq_if, xSeq_ret, xSeq_retN, xSeq_raise, xSeq_drop, xSeq_brk, xSeq_cnt, xSeq_unp, xSeq_par, xSeq_app, xApp_ap, xSeq_aug, xAug_ap, xSeq_for, xSeq_forS, xSeq_forG, xFor_ap, xForS_ap, xForG_ap, xPar_ap, xSet_ap, xSetG_ap, xIf_ap, xRet_ap, xRetN_ap, xDrop_ap, xRaise_ap, xBreak_ap, xCont_ap, xUnp_ap, xSeq_put, xPut_ap, xSeq_putA, xPutA_ap, paK1_ap, paR1_ok, paX1_ok, paK2_ap, kPut1_ap, kPut2_ap, putR_ok, putJ_ok, kEv_ap, kEvG_ap, kEvL_ap, evS_ap, evG_ap, evL_ap, evA_t, evA_f, keepG_int, keepG_bool, keepG_none, keepG_tuple, keepG_list, flatL_nil, flatL_cons, vVar_ap, varR_ok, optR_ok, vC_ap, kB_ap, vBin_ap, vUn_ap, vTest_ap, kAnd_ap, kAnd2_ap, vAnd_ap, kOr_ap, kOr2_ap, vOr_ap, kNot_ap, kNot2_ap, vNot_ap, kIfE_ap, vIf_ap, kC3_ap, kC2_ap, kC1_ap, vChain_ap, kL_ap, kL2_ap, vL_nil, vL_cons, kTup_ap, kLst_ap, vTup_ap, vLst_ap, vCall_ap, kCut1_ap, kCut2_ap, kCut3_ap, vCut_ap, kPart_ap, vPart_none, vPart_some, kComp_ap, kCompO_ap, vComp_ap, wSeq_ap, wCall_ap, wipe_nil, wipe_cons, dMod_int, bindS_slot, bindS_tup, bindSs_nil, bindSs_slot, bindT_slot, bindT_tup, bindTs_nil, bindTs_slot, onR_ok, onR_exc, outR_rt, outR_nx, outR_exc, after_t, after_f, rb_ok, rb_exc, tr_bool, tr_none, tr_int, tr_list, tr_tuple, toB_bool, toI_int, dAdd_int, dSub_int, dNeg_int, dMul_l, dMul_r, dDiv_int, dLt_int, dLe_int, dGt_int, dGe_int, dEq_int, dNe_int, dEq_bool, dNe_bool, dIs_none, dIsNot_none, dIs_bool, isNone_none, isNone_int, isNone_bool, isNone_tuple, isNone_list, dIdx_list, dIdx_tuple, atI_0, atI_1, atI_2, dLen_list, dLen_tuple, dInt_int, dAbs_int, dTuple_list, dTuple_tuple, dList_list, dList_tuple, dSum_ints, dSum_intsT, dAll_bools, dMin_2, dMax_2, isi_int_int, isi_int_bool, isi_int_none, isi_int_tuple, isi_int_list, isi_bool_int, isi_bool_bool, isi_tuple_tuple, isi_tuple_int, isi_tuple_none, isi_list_list, asSeq_list, asSeq_tuple, iEnum_list, iEnum_tuple, iZip_list, iZip_tuple, dCut_list, dCut_tuple, flat_none, flat_bool, flat_int, flat_str, flat_tuple, flat_list, flatL_ints, flatL_bools, isL_list, isL_int, isL_bool, isL_tuple, isL_none, mview_nil, mview_cons, mv1_f, mv1_n, mv1_t, freeze_nil, freeze_cons, fr1_f, fr1_n, fr1_t, List.set_cons_zero, List.set_cons_succ, List.map_cons, List.map_nil, List.length_cons, List.length_nil, List.replicate_succ, List.replicate_zero, List.cons_append, List.nil_append, List.getElem?_cons_zero, List.getElem?_cons_succ, List.mem_cons, List.not_mem_nil, or_false, false_or, or_true, true_or, if_true, if_false, Bool.false_eq_true, Bool.not_true, Bool.not_false, decide_true, decide_false, and_self, true_and, and_true, Bool.true_and, Bool.and_true, Bool.and_self, Bool.false_and, Bool.and_false, ↓reduceIte, reduceIte, Int.reduceLT, Int.reduceLE, Int.reduceNeg, Int.reduceAdd, Int.reduceSub, Int.reduceMul, Int.reduceToNat, Nat.reduceLT, Nat.reduceLeDiff, Nat.reduceEqDiff, Nat.reduceAdd, Nat.reduceSub, Nat.reduceMul, reduceCtorEq, Int.cast_ofNat_Int, Int.natCast_one, Int.natCast_zero, Int.reduceEq, vMeth_ap, kMeth_l, dRev_list, dCount_ints, kRem_ap, xSeq_rem, xSeq_ext, xExt_ap, kExt_ap, xSeq_pop, xPop_ap, popR_ok, xRem_ap, xSeq_try, xTryL_ap, kTry_nx, kTry_rt, kTry_exc, tryR_rt, tryR_nx, tryR_no, handL_cons, wipeS_nil, wipeS_cons, cv_s, cv_b, cv_i, q1, q2]
      rfl
    have e1 := (spare_is (bs := bs) hk).symm
    have hlen : (((List.range k).filter (spareQ bs)).map natD).length < 1000000 := by
      rw [List.length_map]
      have := List.length_filter_le (spareQ bs) (List.range k)
      rw [List.length_range] at this
      omega
    generalize hB : ((List.range ((at2 bs k).2 - (at2 bs k).1).toNat).map fun i : Nat => decide (dep bs ((at2 bs k).1 + (i : Int)) > 1)) = B at c1 e1
    cases hq : spareQ bs k with
    | true =>
      rw [hq] at e1
      simp only [startE_eq, kSet_ap, kSetG_ap, kIfS_ap, kIf0_ap, kRet_ap, kDrop_ap, kUnp_slot, kUnp2, kUnp3, kApp_ap, appR_ok, ownR_ok, augR_ok, kPar1_ap, kPar2_ap, kAug_ap, kForS_l, kForS_t, xSkip_ap, xSeq_skip, xSeq_seq, xSeq_set, xSeq_setG, xSeq_if, xSeq_ret, xSeq_retN, xSeq_raise, xSeq_drop, xSeq_brk, xSeq_cnt, xSeq_unp, xSeq_par, xSeq_app, xApp_ap, xSeq_aug, xAug_ap, xSeq_for, xSeq_forS, xSeq_forG, xFor_ap, xForS_ap, xForG_ap, xPar_ap, xSet_ap, xSetG_ap, xIf_ap, xRet_ap, xRetN_ap, xDrop_ap, xRaise_ap, xBreak_ap, xCont_ap, xUnp_ap, xSeq_put, xPut_ap, xSeq_putA, xPutA_ap, paK1_ap, paR1_ok, paX1_ok, paK2_ap, kPut1_ap, kPut2_ap, putR_ok, putJ_ok, kEv_ap, kEvG_ap, kEvL_ap, evS_ap, evG_ap, evL_ap, evA_t, evA_f, keepG_int, keepG_bool, keepG_none, keepG_tuple, keepG_list, flatL_nil, flatL_cons, vVar_ap, varR_ok, optR_ok, vC_ap, kB_ap, vBin_ap, vUn_ap, vTest_ap, kAnd_ap, kAnd2_ap, vAnd_ap, kOr_ap, kOr2_ap, vOr_ap, kNot_ap, kNot2_ap, vNot_ap, kIfE_ap, vIf_ap, kC3_ap, kC2_ap, kC1_ap, vChain_ap, kL_ap, kL2_ap, vL_nil, vL_cons, kTup_ap, kLst_ap, vTup_ap, vLst_ap, vCall_ap, kCut1_ap, kCut2_ap, kCut3_ap, vCut_ap, kPart_ap, vPart_none, vPart_some, kComp_ap, kCompO_ap, vComp_ap, wSeq_ap, wCall_ap, wipe_nil, wipe_cons, dMod_int, bindS_slot, bindS_tup, bindSs_nil, bindSs_slot, bindT_slot, bindT_tup, bindTs_nil, bindTs_slot, onR_ok, onR_exc, outR_rt, outR_nx, outR_exc, after_t, after_f, rb_ok, rb_exc, tr_bool, tr_none, tr_int, tr_list, tr_tuple, toB_bool, toI_int, dAdd_int, dSub_int, dNeg_int, dMul_l, dMul_r, dDiv_int, dLt_int, dLe_int, dGt_int, dGe_int, dEq_int, dNe_int, dEq_bool, dNe_bool, dIs_none, dIsNot_none, dIs_bool, isNone_none, isNone_int, isNone_bool, isNone_tuple, isNone_list, dIdx_list, dIdx_tuple, atI_0, atI_1, atI_2, dLen_list, dLen_tuple, dInt_int, dAbs_int, dTuple_list, dTuple_tuple, dList_list, dList_tuple, dSum_ints, dSum_intsT, dAll_bools, dMin_2, dMax_2, isi_int_int, isi_int_bool, isi_int_none, isi_int_tuple, isi_int_list, isi_bool_int, isi_bool_bool, isi_tuple_tuple, isi_tuple_int, isi_tuple_none, isi_list_list, asSeq_list, asSeq_tuple, iEnum_list, iEnum_tuple, iZip_list, iZip_tuple, dCut_list, dCut_tuple, flat_none, flat_bool, flat_int, flat_str, flat_tuple, flat_list, flatL_ints, flatL_bools, isL_list, isL_int, isL_bool, isL_tuple, isL_none, mview_nil, mview_cons, mv1_f, mv1_n, mv1_t, freeze_nil, freeze_cons, fr1_f, fr1_n, fr1_t, List.set_cons_zero, List.set_cons_succ, List.map_cons, List.map_nil, List.length_cons, List.length_nil, List.replicate_succ, List.replicate_zero, List.cons_append, List.nil_append, List.getElem?_cons_zero, List.getElem?_cons_succ, List.mem_cons, List.not_mem_nil, or_false, false_or, or_true, true_or, if_true, if_false, Bool.false_eq_true, Bool.not_true, Bool.not_false, decide_true, decide_false, and_self, true_and, and_true, Bool.true_and, Bool.and_true, Bool.and_self, Bool.false_and, Bool.and_false, ↓reduceIte, reduceIte, Int.reduceLT, Int.reduceLE, Int.reduceNeg, Int.reduceAdd, Int.reduceSub, Int.reduceMul, Int.reduceToNat, Nat.reduceLT, Nat.reduceLeDiff, Nat.reduceEqDiff, Nat.reduceAdd, Nat.reduceSub, Nat.reduceMul, reduceCtorEq, Int.cast_ofNat_Int, Int.natCast_one, Int.natCast_zero, Int.reduceEq, vMeth_ap, kMeth_l, dRev_list, dCount_ints, kRem_ap, xSeq_rem, xSeq_ext, xExt_ap, kExt_ap, xSeq_pop, xPop_ap, popR_ok, xRem_ap, xSeq_try, xTryL_ap, kTry_nx, kTry_rt, kTry_exc, tryR_rt, tryR_nx, tryR_no, handL_cons, wipeS_nil, wipeS_cons, cv_s, cv_b, cv_i, b_sb, Int.zero_add, b1, hr2, c1, e1, hlen]
      refine turn_nx ⟨some (false, .int k), ?_⟩
      rw [List.range_succ, List.filter_append, List.map_append]
      simp only [List.filter_cons, hq, if_true, List.filter_nil, List.map_cons, List.map_nil, natD_eq]
    | false =>
      rw [hq] at e1
      simp only [startE_eq, kSet_ap, kSetG_ap, kIfS_ap, kIf0_ap, kRet_ap, kDrop_ap, kUnp_slot, kUnp2, kUnp3, kApp_ap, appR_ok, ownR_ok, augR_ok, kPar1_ap, kPar2_ap, kAug_ap, kForS_l, kForS_t, xSkip_ap, xSeq_skip, xSeq_seq, xSeq_set, xSeq_setG, xSeq_if, xSeq_ret, xSeq_retN, xSeq_raise, xSeq_drop, xSeq_brk, xSeq_cnt, xSeq_unp, xSeq_par, xSeq_app, xApp_ap, xSeq_aug, xAug_ap, xSeq_for, xSeq_forS, xSeq_forG, xFor_ap, xForS_ap, xForG_ap, xPar_ap, xSet_ap, xSetG_ap, xIf_ap, xRet_ap, xRetN_ap, xDrop_ap, xRaise_ap, xBreak_ap, xCont_ap, xUnp_ap, xSeq_put, xPut_ap, xSeq_putA, xPutA_ap, paK1_ap, paR1_ok, paX1_ok, paK2_ap, kPut1_ap, kPut2_ap, putR_ok, putJ_ok, kEv_ap, kEvG_ap, kEvL_ap, evS_ap, evG_ap, evL_ap, evA_t, evA_f, keepG_int, keepG_bool, keepG_none, keepG_tuple, keepG_list, flatL_nil, flatL_cons, vVar_ap, varR_ok, optR_ok, vC_ap, kB_ap, vBin_ap, vUn_ap, vTest_ap, kAnd_ap, kAnd2_ap, vAnd_ap, kOr_ap, kOr2_ap, vOr_ap, kNot_ap, kNot2_ap, vNot_ap, kIfE_ap, vIf_ap, kC3_ap, kC2_ap, kC1_ap, vChain_ap, kL_ap, kL2_ap, vL_nil, vL_cons, kTup_ap, kLst_ap, vTup_ap, vLst_ap, vCall_ap, kCut1_ap, kCut2_ap, kCut3_ap, vCut_ap, kPart_ap, vPart_none, vPart_some, kComp_ap, kCompO_ap, vComp_ap, wSeq_ap, wCall_ap, wipe_nil, wipe_cons, dMod_int, bindS_slot, bindS_tup, bindSs_nil, bindSs_slot, bindT_slot, bindT_tup, bindTs_nil, bindTs_slot, onR_ok, onR_exc, outR_rt, outR_nx, outR_exc, after_t, after_f, rb_ok, rb_exc, tr_bool, tr_none, tr_int, tr_list, tr_tuple, toB_bool, toI_int, dAdd_int, dSub_int, dNeg_int, dMul_l, dMul_r, dDiv_int, dLt_int, dLe_int, dGt_int, dGe_int, dEq_int, dNe_int, dEq_bool, dNe_bool, dIs_none, dIsNot_none, dIs_bool, isNone_none, isNone_int, isNone_bool, isNone_tuple, isNone_list, dIdx_list, dIdx_tuple, atI_0, atI_1, atI_2, dLen_list, dLen_tuple, dInt_int, dAbs_int, dTuple_list, dTuple_tuple, dList_list, dList_tuple, dSum_ints, dSum_intsT, dAll_bools, dMin_2, dMax_2, isi_int_int, isi_int_bool, isi_int_none, isi_int_tuple, isi_int_list, isi_bool_int, isi_bool_bool, isi_tuple_tuple, isi_tuple_int, isi_tuple_none, isi_list_list, asSeq_list, asSeq_tuple, iEnum_list, iEnum_tuple, iZip_list, iZip_tuple, dCut_list, dCut_tuple, flat_none, flat_bool, flat_int, flat_str, flat_tuple, flat_list, flatL_ints, flatL_bools, isL_list, isL_int, isL_bool, isL_tuple, isL_none, mview_nil, mview_cons, mv1_f, mv1_n, mv1_t, freeze_nil, freeze_cons, fr1_f, fr1_n, fr1_t, List.set_cons_zero, List.set_cons_succ, List.map_cons, List.map_nil, List.length_cons, List.length_nil, List.replicate_succ, List.replicate_zero, List.cons_append, List.nil_append, List.getElem?_cons_zero, List.getElem?_cons_succ, List.mem_cons, List.not_mem_nil, or_false, false_or, or_true, true_or, if_true, if_false, Bool.false_eq_true, Bool.not_true, Bool.not_false, decide_true, decide_false, and_self, true_and, and_true, Bool.true_and, Bool.and_true, Bool.and_self, Bool.false_and, Bool.and_false, ↓reduceIte, reduceIte, Int.reduceLT, Int.reduceLE, Int.reduceNeg, Int.reduceAdd, Int.reduceSub, Int.reduceMul, Int.reduceToNat, Nat.reduceLT, Nat.reduceLeDiff, Nat.reduceEqDiff, Nat.reduceAdd, Nat.reduceSub, Nat.reduceMul, reduceCtorEq, Int.cast_ofNat_Int, Int.natCast_one, Int.natCast_zero, Int.reduceEq, vMeth_ap, kMeth_l, dRev_list, dCount_ints, kRem_ap, xSeq_rem, xSeq_ext, xExt_ap, kExt_ap, xSeq_pop, xPop_ap, popR_ok, xRem_ap, xSeq_try, xTryL_ap, kTry_nx, kTry_rt, kTry_exc, tryR_rt, tryR_nx, tryR_no, handL_cons, wipeS_nil, wipeS_cons, cv_s, cv_b, cv_i, b_sb, Int.zero_add, b1, hr2, c1, e1, hlen]
      refine turn_nx ⟨some (false, .int k), ?_⟩
      rw [List.range_succ, List.filter_append, List.map_append]
      simp only [List.filter_cons, hq, Bool.false_eq_true, if_false, List.filter_nil, List.map_nil, List.append_nil]
  · rintro env ⟨x10, rfl⟩
    exact r2_ok c a2 _ _ _ _ _ _ _
/-! the years -/
def oI : Option Int → D
  | none => .none
  | some b => .int b
def YI (bs : List (Int × Int)) (scr : D) (x3 : Option (Bool × D)) (k : Nat) (env : SEn) : Prop := ∃ J beg x7 x8, ScanI bs (k : Int) J beg ∧ J.length ≤ k ∧ env = [some (false, scr), some (false, bkD bs), some (false, .int (lastI bs)), x3, some (false, depD bs), some (true, .list (J.map pr2)), some (false, oI beg), x7, x8, none, none, none, none, none, none, none, none]
theorem yb_turn (c : Bk bs) {scr : D} {x3 : Option (Bool × D)} {k : Nat} (hk : k < 62) {env : SEn} (h : YI bs scr x3 k env) : SH.Turn (YI bs scr x3 (k + 1)) NoE NoD (b_yb (env.set 7 (some (false, .int (k : Int))))) := by
  obtain ⟨J, beg, x7, x8, hs, hJ, rfl⟩ := h
  have hlen : (J.map pr2).length < 1000000 := by rw [List.length_map]; omega
  have ek : ((k + 1 : Nat) : Int) = (k : Int) + 1 := by omega
  by_cases hc : covP bs (k : Int)
  · have hla : (k : Int) < lastI bs := by
      obtain ⟨q, hq, _, h2⟩ := hc
      have := last_ge hq
      omega
    have hd := dep_at hla
    have hg : ((dep bs (k : Int) : Int) > 0) = True := eq_true (by have := cov_dep.mp hc; omega)
    cases beg with
    | none =>
      simp only [startE_eq, kSet_ap, kSetG_ap, kIfS_ap, kIf0_ap, kRet_ap, kDrop_ap, kUnp_slot, kUnp2, kUnp3, kApp_ap, appR_ok, ownR_ok, augR_ok, kPar1_ap, kPar2_ap, kAug_ap, kForS_l, kForS_t, xSkip_ap, xSeq_skip, xSeq_seq, xSeq_set, xSeq_setG, xSeq_if, xSeq_ret, xSeq_retN, xSeq_raise, xSeq_drop, xSeq_brk, xSeq_cnt, xSeq_unp, xSeq_par, xSeq_app, xApp_ap, xSeq_aug, xAug_ap, xSeq_for, xSeq_forS, xSeq_forG, xFor_ap, xForS_ap, xForG_ap, xPar_ap, xSet_ap, xSetG_ap, xIf_ap, xRet_ap, xRetN_ap, xDrop_ap, xRaise_ap, xBreak_ap, xCont_ap, xUnp_ap, xSeq_put, xPut_ap, xSeq_putA, xPutA_ap, paK1_ap, paR1_ok, paX1_ok, paK2_ap, kPut1_ap, kPut2_ap, putR_ok, putJ_ok, kEv_ap, kEvG_ap, kEvL_ap, evS_ap, evG_ap, evL_ap, evA_t, evA_f, keepG_int, keepG_bool, keepG_none, keepG_tuple, keepG_list, flatL_nil, flatL_cons, vVar_ap, varR_ok, optR_ok, vC_ap, kB_ap, vBin_ap, vUn_ap, vTest_ap, kAnd_ap, kAnd2_ap, vAnd_ap, kOr_ap, kOr2_ap, vOr_ap, kNot_ap, kNot2_ap, vNot_ap, kIfE_ap, vIf_ap, kC3_ap, kC2_ap, kC1_ap, vChain_ap, kL_ap, kL2_ap, vL_nil, vL_cons, kTup_ap, kLst_ap, vTup_ap, vLst_ap, vCall_ap, kCut1_ap, kCut2_ap, kCut3_ap, vCut_ap, kPart_ap, vPart_none, vPart_some, kComp_ap, kCompO_ap, vComp_ap, wSeq_ap, wCall_ap, wipe_nil, wipe_cons, dMod_int, bindS_slot, bindS_tup, bindSs_nil, bindSs_slot, bindT_slot, bindT_tup, bindTs_nil, bindTs_slot, onR_ok, onR_exc, outR_rt, outR_nx, outR_exc, after_t, after_f, rb_ok, rb_exc, tr_bool, tr_none, tr_int, tr_list, tr_tuple, toB_bool, toI_int, dAdd_int, dSub_int, dNeg_int, dMul_l, dMul_r, dDiv_int, dLt_int, dLe_int, dGt_int, dGe_int, dEq_int, dNe_int, dEq_bool, dNe_bool, dIs_none, dIsNot_none, dIs_bool, isNone_none, isNone_int, isNone_bool, isNone_tuple, isNone_list, dIdx_list, dIdx_tuple, atI_0, atI_1, atI_2, dLen_list, dLen_tuple, dInt_int, dAbs_int, dTuple_list, dTuple_tuple, dList_list, dList_tuple, dSum_ints, dSum_intsT, dAll_bools, dMin_2, dMax_2, isi_int_int, isi_int_bool, isi_int_none, isi_int_tuple, isi_int_list, isi_bool_int, isi_bool_bool, isi_tuple_tuple, isi_tuple_int, isi_tuple_none, isi_list_list, asSeq_list, asSeq_tuple, iEnum_list, iEnum_tuple, iZip_list, iZip_tuple, dCut_list, dCut_tuple, flat_none, flat_bool, flat_int, flat_str, flat_tuple, flat_list, flatL_ints, flatL_bools, isL_list, isL_int, isL_bool, isL_tuple, isL_none, mview_nil, mview_cons, mv1_f, mv1_n, mv1_t, freeze_nil, freeze_cons, fr1_f, fr1_n, fr1_t, List.set_cons_zero, List.set_cons_succ, List.map_cons, List.map_nil, List.length_cons, List.length_nil, List.replicate_succ, List.replicate_zero, List.cons_append, List.nil_append, List.getElem?_cons_zero, List.getElem?_cons_succ, List.mem_cons, List.not_mem_nil, or_false, false_or, or_true, true_or, if_true, if_false, Bool.false_eq_true, Bool.not_true, Bool.not_false, decide_true, decide_false, and_self, true_and, and_true, Bool.true_and, Bool.and_true, Bool.and_self, Bool.false_and, Bool.and_false, ↓reduceIte, reduceIte, Int.reduceLT, Int.reduceLE, Int.reduceNeg, Int.reduceAdd, Int.reduceSub, Int.reduceMul, Int.reduceToNat, Nat.reduceLT, Nat.reduceLeDiff, Nat.reduceEqDiff, Nat.reduceAdd, Nat.reduceSub, Nat.reduceMul, reduceCtorEq, Int.cast_ofNat_Int, Int.natCast_one, Int.natCast_zero, Int.reduceEq, vMeth_ap, kMeth_l, dRev_list, dCount_ints, kRem_ap, xSeq_rem, xSeq_ext, xExt_ap, kExt_ap, xSeq_pop, xPop_ap, popR_ok, xRem_ap, xSeq_try, xTryL_ap, kTry_nx, kTry_rt, kTry_exc, tryR_rt, tryR_nx, tryR_no, handL_cons, wipeS_nil, wipeS_cons, cv_s, cv_b, cv_i, b_yb, oI, hla, hd, hg]
      refine turn_nx ⟨J, some (k : Int), _, _, ?_, by omega, rfl⟩
      rw [ek]
      exact scan_in0 hs hc
    | some b =>
      simp only [startE_eq, kSet_ap, kSetG_ap, kIfS_ap, kIf0_ap, kRet_ap, kDrop_ap, kUnp_slot, kUnp2, kUnp3, kApp_ap, appR_ok, ownR_ok, augR_ok, kPar1_ap, kPar2_ap, kAug_ap, kForS_l, kForS_t, xSkip_ap, xSeq_skip, xSeq_seq, xSeq_set, xSeq_setG, xSeq_if, xSeq_ret, xSeq_retN, xSeq_raise, xSeq_drop, xSeq_brk, xSeq_cnt, xSeq_unp, xSeq_par, xSeq_app, xApp_ap, xSeq_aug, xAug_ap, xSeq_for, xSeq_forS, xSeq_forG, xFor_ap, xForS_ap, xForG_ap, xPar_ap, xSet_ap, xSetG_ap, xIf_ap, xRet_ap, xRetN_ap, xDrop_ap, xRaise_ap, xBreak_ap, xCont_ap, xUnp_ap, xSeq_put, xPut_ap, xSeq_putA, xPutA_ap, paK1_ap, paR1_ok, paX1_ok, paK2_ap, kPut1_ap, kPut2_ap, putR_ok, putJ_ok, kEv_ap, kEvG_ap, kEvL_ap, evS_ap, evG_ap, evL_ap, evA_t, evA_f, keepG_int, keepG_bool, keepG_none, keepG_tuple, keepG_list, flatL_nil, flatL_cons, vVar_ap, varR_ok, optR_ok, vC_ap, kB_ap, vBin_ap, vUn_ap, vTest_ap, kAnd_ap, kAnd2_ap, vAnd_ap, kOr_ap, kOr2_ap, vOr_ap, kNot_ap, kNot2_ap, vNot_ap, kIfE_ap, vIf_ap, kC3_ap, kC2_ap, kC1_ap, vChain_ap, kL_ap, kL2_ap, vL_nil, vL_cons, kTup_ap, kLst_ap, vTup_ap, vLst_ap, vCall_ap, kCut1_ap, kCut2_ap, kCut3_ap, vCut_ap, kPart_ap, vPart_none, vPart_some, kComp_ap, kCompO_ap, vComp_ap, wSeq_ap, wCall_ap, wipe_nil, wipe_cons, dMod_int, bindS_slot, bindS_tup, bindSs_nil, bindSs_slot, bindT_slot, bindT_tup, bindTs_nil, bindTs_slot, onR_ok, onR_exc, outR_rt, outR_nx, outR_exc, after_t, after_f, rb_ok, rb_exc, tr_bool, tr_none, tr_int, tr_list, tr_tuple, toB_bool, toI_int, dAdd_int, dSub_int, dNeg_int, dMul_l, dMul_r, dDiv_int, dLt_int, dLe_int, dGt_int, dGe_int, dEq_int, dNe_int, dEq_bool, dNe_bool, dIs_none, dIsNot_none, dIs_bool, isNone_none, isNone_int, isNone_bool, isNone_tuple, isNone_list, dIdx_list, dIdx_tuple, atI_0, atI_1, atI_2, dLen_list, dLen_tuple, dInt_int, dAbs_int, dTuple_list, dTuple_tuple, dList_list, dList_tuple, dSum_ints, dSum_intsT, dAll_bools, dMin_2, dMax_2, isi_int_int, isi_int_bool, isi_int_none, isi_int_tuple, isi_int_list, isi_bool_int, isi_bool_bool, isi_tuple_tuple, isi_tuple_int, isi_tuple_none, isi_list_list, asSeq_list, asSeq_tuple, iEnum_list, iEnum_tuple, iZip_list, iZip_tuple, dCut_list, dCut_tuple, flat_none, flat_bool, flat_int, flat_str, flat_tuple, flat_list, flatL_ints, flatL_bools, isL_list, isL_int, isL_bool, isL_tuple, isL_none, mview_nil, mview_cons, mv1_f, mv1_n, mv1_t, freeze_nil, freeze_cons, fr1_f, fr1_n, fr1_t, List.set_cons_zero, List.set_cons_succ, List.map_cons, List.map_nil, List.length_cons, List.length_nil, List.replicate_succ, List.replicate_zero, List.cons_append, List.nil_append, List.getElem?_cons_zero, List.getElem?_cons_succ, List.mem_cons, List.not_mem_nil, or_false, false_or, or_true, true_or, if_true, if_false, Bool.false_eq_true, Bool.not_true, Bool.not_false, decide_true, decide_false, and_self, true_and, and_true, Bool.true_and, Bool.and_true, Bool.and_self, Bool.false_and, Bool.and_false, ↓reduceIte, reduceIte, Int.reduceLT, Int.reduceLE, Int.reduceNeg, Int.reduceAdd, Int.reduceSub, Int.reduceMul, Int.reduceToNat, Nat.reduceLT, Nat.reduceLeDiff, Nat.reduceEqDiff, Nat.reduceAdd, Nat.reduceSub, Nat.reduceMul, reduceCtorEq, Int.cast_ofNat_Int, Int.natCast_one, Int.natCast_zero, Int.reduceEq, vMeth_ap, kMeth_l, dRev_list, dCount_ints, kRem_ap, xSeq_rem, xSeq_ext, xExt_ap, kExt_ap, xSeq_pop, xPop_ap, popR_ok, xRem_ap, xSeq_try, xTryL_ap, kTry_nx, kTry_rt, kTry_exc, tryR_rt, tryR_nx, tryR_no, handL_cons, wipeS_nil, wipeS_cons, cv_s, cv_b, cv_i, b_yb, oI, hla, hd, hg]
      refine turn_nx ⟨J, some b, _, _, ?_, by omega, rfl⟩
      rw [ek]
      exact scan_in1 hs hc
  · have hin : ∀ x, (vAnd (vBin dLt (vVar 7) (vVar 2)) (vBin dGt (vBin dIdx (vVar 4) (vVar 7)) (vC (.int 0)))) x = .ok (.bool false) ∨ True := fun _ => .inr trivial
    have key : ∀ (o : Option Int), ScanI bs (k : Int) J o → SH.Turn (YI bs scr x3 (k + 1)) NoE NoD (b_yb [some (false, scr), some (false, bkD bs), some (false, .int (lastI bs)), x3, some (false, depD bs), some (true, .list (J.map pr2)), some (false, oI o), some (false, .int (k : Int)), x8, none, none, none, none, none, none, none, none]) := by
      intro o ho
      by_cases hla : (k : Int) < lastI bs
      · have hd := dep_at hla
        have hg : ((dep bs (k : Int) : Int) > 0) = False := eq_false (fun z => hc (cov_dep.mpr (by omega)))
        cases o with
        | none =>
          simp only [startE_eq, kSet_ap, kSetG_ap, kIfS_ap, kIf0_ap, kRet_ap, kDrop_ap, kUnp_slot, kUnp2, kUnp3, kApp_ap, appR_ok, ownR_ok, augR_ok, kPar1_ap, kPar2_ap, kAug_ap, kForS_l, kForS_t, xSkip_ap, xSeq_skip, xSeq_seq, xSeq_set, xSeq_setG, xSeq_if, xSeq_ret, xSeq_retN, xSeq_raise, xSeq_drop, xSeq_brk, xSeq_cnt, xSeq_unp, xSeq_par, xSeq_app, xApp_ap, xSeq_aug, xAug_ap, xSeq_for, xSeq_forS, xSeq_forG, xFor_ap, xForS_ap, xForG_ap, xPar_ap, xSet_ap, xSetG_ap, xIf_ap, xRet_ap, xRetN_ap, xDrop_ap, xRaise_ap, xBreak_ap, xCont_ap, xUnp_ap, xSeq_put, xPut_ap, xSeq_putA, xPutA_ap, paK1_ap, paR1_ok, paX1_ok, paK2_ap, kPut1_ap, kPut2_ap, putR_ok, putJ_ok, kEv_ap, kEvG_ap, kEvL_ap, evS_ap, evG_ap, evL_ap, evA_t, evA_f, keepG_int, keepG_bool, keepG_none, keepG_tuple, keepG_list, flatL_nil, flatL_cons, vVar_ap, varR_ok, optR_ok, vC_ap, kB_ap, vBin_ap, vUn_ap, vTest_ap, kAnd_ap, kAnd2_ap, vAnd_ap, kOr_ap, kOr2_ap, vOr_ap, kNot_ap, kNot2_ap, vNot_ap, kIfE_ap, vIf_ap, kC3_ap, kC2_ap, kC1_ap, vChain_ap, kL_ap, kL2_ap, vL_nil, vL_cons, kTup_ap, kLst_ap, vTup_ap, vLst_ap, vCall_ap, kCut1_ap, kCut2_ap, kCut3_ap, vCut_ap, kPart_ap, vPart_none, vPart_some, kComp_ap, kCompO_ap, vComp_ap, wSeq_ap, wCall_ap, wipe_nil, wipe_cons, dMod_int, bindS_slot, bindS_tup, bindSs_nil, bindSs_slot, bindT_slot, bindT_tup, bindTs_nil, bindTs_slot, onR_ok, onR_exc, outR_rt, outR_nx, outR_exc, after_t, after_f, rb_ok, rb_exc, tr_bool, tr_none, tr_int, tr_list, tr_tuple, toB_bool, toI_int, dAdd_int, dSub_int, dNeg_int, dMul_l, dMul_r, dDiv_int, dLt_int, dLe_int, dGt_int, dGe_int, dEq_int, dNe_int, dEq_bool, dNe_bool, dIs_none, dIsNot_none, dIs_bool, isNone_none, isNone_int, isNone_bool, isNone_tuple, isNone_list, dIdx_list, dIdx_tuple, atI_0, atI_1, atI_2, dLen_list, dLen_tuple, dInt_int, dAbs_int, dTuple_list, dTuple_tuple, dList_list, dList_tuple, dSum_ints, dSum_intsT, dAll_bools, dMin_2, dMax_2, isi_int_int, isi_int_bool, isi_int_none, isi_int_tuple, isi_int_list, isi_bool_int, isi_bool_bool, isi_tuple_tuple, isi_tuple_int, isi_tuple_none, isi_list_list, asSeq_list, asSeq_tuple, iEnum_list, iEnum_tuple, iZip_list, iZip_tuple, dCut_list, dCut_tuple, flat_none, flat_bool, flat_int, flat_str, flat_tuple, flat_list, flatL_ints, flatL_bools, isL_list, isL_int, isL_bool, isL_tuple, isL_none, mview_nil, mview_cons, mv1_f, mv1_n, mv1_t, freeze_nil, freeze_cons, fr1_f, fr1_n, fr1_t, List.set_cons_zero, List.set_cons_succ, List.map_cons, List.map_nil, List.length_cons, List.length_nil, List.replicate_succ, List.replicate_zero, List.cons_append, List.nil_append, List.getElem?_cons_zero, List.getElem?_cons_succ, List.mem_cons, List.not_mem_nil, or_false, false_or, or_true, true_or, if_true, if_false, Bool.false_eq_true, Bool.not_true, Bool.not_false, decide_true, decide_false, and_self, true_and, and_true, Bool.true_and, Bool.and_true, Bool.and_self, Bool.false_and, Bool.and_false, ↓reduceIte, reduceIte, Int.reduceLT, Int.reduceLE, Int.reduceNeg, Int.reduceAdd, Int.reduceSub, Int.reduceMul, Int.reduceToNat, Nat.reduceLT, Nat.reduceLeDiff, Nat.reduceEqDiff, Nat.reduceAdd, Nat.reduceSub, Nat.reduceMul, reduceCtorEq, Int.cast_ofNat_Int, Int.natCast_one, Int.natCast_zero, Int.reduceEq, vMeth_ap, kMeth_l, dRev_list, dCount_ints, kRem_ap, xSeq_rem, xSeq_ext, xExt_ap, kExt_ap, xSeq_pop, xPop_ap, popR_ok, xRem_ap, xSeq_try, xTryL_ap, kTry_nx, kTry_rt, kTry_exc, tryR_rt, tryR_nx, tryR_no, handL_cons, wipeS_nil, wipeS_cons, cv_s, cv_b, cv_i, b_yb, oI, hla, hd, hg]
          refine turn_nx ⟨J, none, _, _, ?_, by omega, rfl⟩
          rw [ek]
          exact scan_out0 ho hc
        | some b =>
          simp only [startE_eq, kSet_ap, kSetG_ap, kIfS_ap, kIf0_ap, kRet_ap, kDrop_ap, kUnp_slot, kUnp2, kUnp3, kApp_ap, appR_ok, ownR_ok, augR_ok, kPar1_ap, kPar2_ap, kAug_ap, kForS_l, kForS_t, xSkip_ap, xSeq_skip, xSeq_seq, xSeq_set, xSeq_setG, xSeq_if, xSeq_ret, xSeq_retN, xSeq_raise, xSeq_drop, xSeq_brk, xSeq_cnt, xSeq_unp, xSeq_par, xSeq_app, xApp_ap, xSeq_aug, xAug_ap, xSeq_for, xSeq_forS, xSeq_forG, xFor_ap, xForS_ap, xForG_ap, xPar_ap, xSet_ap, xSetG_ap, xIf_ap, xRet_ap, xRetN_ap, xDrop_ap, xRaise_ap, xBreak_ap, xCont_ap, xUnp_ap, xSeq_put, xPut_ap, xSeq_putA, xPutA_ap, paK1_ap, paR1_ok, paX1_ok, paK2_ap, kPut1_ap, kPut2_ap, putR_ok, putJ_ok, kEv_ap, kEvG_ap, kEvL_ap, evS_ap, evG_ap, evL_ap, evA_t, evA_f, keepG_int, keepG_bool, keepG_none, keepG_tuple, keepG_list, flatL_nil, flatL_cons, vVar_ap, varR_ok, optR_ok, vC_ap, kB_ap, vBin_ap, vUn_ap, vTest_ap, kAnd_ap, kAnd2_ap, vAnd_ap, kOr_ap, kOr2_ap, vOr_ap, kNot_ap, kNot2_ap, vNot_ap, kIfE_ap, vIf_ap, kC3_ap, kC2_ap, kC1_ap, vChain_ap, kL_ap, kL2_ap, vL_nil, vL_cons, kTup_ap, kLst_ap, vTup_ap, vLst_ap, vCall_ap, kCut1_ap, kCut2_ap, kCut3_ap, vCut_ap, kPart_ap, vPart_none, vPart_some, kComp_ap, kCompO_ap, vComp_ap, wSeq_ap, wCall_ap, wipe_nil, wipe_cons, dMod_int, bindS_slot, bindS_tup, bindSs_nil, bindSs_slot, bindT_slot, bindT_tup, bindTs_nil, bindTs_slot, onR_ok, onR_exc, outR_rt, outR_nx, outR_exc, after_t, after_f, rb_ok, rb_exc, tr_bool, tr_none, tr_int, tr_list, tr_tuple, toB_bool, toI_int, dAdd_int, dSub_int, dNeg_int, dMul_l, dMul_r, dDiv_int, dLt_int, dLe_int, dGt_int, dGe_int, dEq_int, dNe_int, dEq_bool, dNe_bool, dIs_none, dIsNot_none, dIs_bool, isNone_none, isNone_int, isNone_bool, isNone_tuple, isNone_list, dIdx_list, dIdx_tuple, atI_0, atI_1, atI_2, dLen_list, dLen_tuple, dInt_int, dAbs_int, dTuple_list, dTuple_tuple, dList_list, dList_tuple, dSum_ints, dSum_intsT, dAll_bools, dMin_2, dMax_2, isi_int_int, isi_int_bool, isi_int_none, isi_int_tuple, isi_int_list, isi_bool_int, isi_bool_bool, isi_tuple_tuple, isi_tuple_int, isi_tuple_none, isi_list_list, asSeq_list, asSeq_tuple, iEnum_list, iEnum_tuple, iZip_list, iZip_tuple, dCut_list, dCut_tuple, flat_none, flat_bool, flat_int, flat_str, flat_tuple, flat_list, flatL_ints, flatL_bools, isL_list, isL_int, isL_bool, isL_tuple, isL_none, mview_nil, mview_cons, mv1_f, mv1_n, mv1_t, freeze_nil, freeze_cons, fr1_f, fr1_n, fr1_t, List.set_cons_zero, List.set_cons_succ, List.map_cons, List.map_nil, List.length_cons, List.length_nil, List.replicate_succ, List.replicate_zero, List.cons_append, List.nil_append, List.getElem?_cons_zero, List.getElem?_cons_succ, List.mem_cons, List.not_mem_nil, or_false, false_or, or_true, true_or, if_true, if_false, Bool.false_eq_true, Bool.not_true, Bool.not_false, decide_true, decide_false, and_self, true_and, and_true, Bool.true_and, Bool.and_true, Bool.and_self, Bool.false_and, Bool.and_false, ↓reduceIte, reduceIte, Int.reduceLT, Int.reduceLE, Int.reduceNeg, Int.reduceAdd, Int.reduceSub, Int.reduceMul, Int.reduceToNat, Nat.reduceLT, Nat.reduceLeDiff, Nat.reduceEqDiff, Nat.reduceAdd, Nat.reduceSub, Nat.reduceMul, reduceCtorEq, Int.cast_ofNat_Int, Int.natCast_one, Int.natCast_zero, Int.reduceEq, vMeth_ap, kMeth_l, dRev_list, dCount_ints, kRem_ap, xSeq_rem, xSeq_ext, xExt_ap, kExt_ap, xSeq_pop, xPop_ap, popR_ok, xRem_ap, xSeq_try, xTryL_ap, kTry_nx, kTry_rt, kTry_exc, tryR_rt, tryR_nx, tryR_no, handL_cons, wipeS_nil, wipeS_cons, cv_s, cv_b, cv_i, b_yb, oI, hla, hd, hg, hlen]
          refine turn_nx ⟨J ++ [(b, (k : Int))], none, _, _, ?_, by simp; omega, by simp only [List.map_append, List.map_cons, List.map_nil, pr2]; rfl⟩
          rw [ek]
          exact scan_out1 ho hc
      · cases o with
        | none =>
          simp only [startE_eq, kSet_ap, kSetG_ap, kIfS_ap, kIf0_ap, kRet_ap, kDrop_ap, kUnp_slot, kUnp2, kUnp3, kApp_ap, appR_ok, ownR_ok, augR_ok, kPar1_ap, kPar2_ap, kAug_ap, kForS_l, kForS_t, xSkip_ap, xSeq_skip, xSeq_seq, xSeq_set, xSeq_setG, xSeq_if, xSeq_ret, xSeq_retN, xSeq_raise, xSeq_drop, xSeq_brk, xSeq_cnt, xSeq_unp, xSeq_par, xSeq_app, xApp_ap, xSeq_aug, xAug_ap, xSeq_for, xSeq_forS, xSeq_forG, xFor_ap, xForS_ap, xForG_ap, xPar_ap, xSet_ap, xSetG_ap, xIf_ap, xRet_ap, xRetN_ap, xDrop_ap, xRaise_ap, xBreak_ap, xCont_ap, xUnp_ap, xSeq_put, xPut_ap, xSeq_putA, xPutA_ap, paK1_ap, paR1_ok, paX1_ok, paK2_ap, kPut1_ap, kPut2_ap, putR_ok, putJ_ok, kEv_ap, kEvG_ap, kEvL_ap, evS_ap, evG_ap, evL_ap, evA_t, evA_f, keepG_int, keepG_bool, keepG_none, keepG_tuple, keepG_list, flatL_nil, flatL_cons, vVar_ap, varR_ok, optR_ok, vC_ap, kB_ap, vBin_ap, vUn_ap, vTest_ap, kAnd_ap, kAnd2_ap, vAnd_ap, kOr_ap, kOr2_ap, vOr_ap, kNot_ap, kNot2_ap, vNot_ap, kIfE_ap, vIf_ap, kC3_ap, kC2_ap, kC1_ap, vChain_ap, kL_ap, kL2_ap, vL_nil, vL_cons, kTup_ap, kLst_ap, vTup_ap, vLst_ap, vCall_ap, kCut1_ap, kCut2_ap, kCut3_ap, vCut_ap, kPart_ap, vPart_none, vPart_some, kComp_ap, kCompO_ap, vComp_ap, wSeq_ap, wCall_ap, wipe_nil, wipe_cons, dMod_int, bindS_slot, bindS_tup, bindSs_nil, bindSs_slot, bindT_slot, bindT_tup, bindTs_nil, bindTs_slot, onR_ok, onR_exc, outR_rt, outR_nx, outR_exc, after_t, after_f, rb_ok, rb_exc, tr_bool, tr_none, tr_int, tr_list, tr_tuple, toB_bool, toI_int, dAdd_int, dSub_int, dNeg_int, dMul_l, dMul_r, dDiv_int, dLt_int, dLe_int, dGt_int, dGe_int, dEq_int, dNe_int, dEq_bool, dNe_bool, dIs_none, dIsNot_none, dIs_bool, isNone_none, isNone_int, isNone_bool, isNone_tuple, isNone_list, dIdx_list, dIdx_tuple, atI_0, atI_1, atI_2, dLen_list, dLen_tuple, dInt_int, dAbs_int, dTuple_list, dTuple_tuple, dList_list, dList_tuple, dSum_ints, dSum_intsT, dAll_bools, dMin_2, dMax_2, isi_int_int, isi_int_bool, isi_int_none, isi_int_tuple, isi_int_list, isi_bool_int, isi_bool_bool, isi_tuple_tuple, isi_tuple_int, isi_tuple_none, isi_list_list, asSeq_list, asSeq_tuple, iEnum_list, iEnum_tuple, iZip_list, iZip_tuple, dCut_list, dCut_tuple, flat_none, flat_bool, flat_int, flat_str, flat_tuple, flat_list, flatL_ints, flatL_bools, isL_list, isL_int, isL_bool, isL_tuple, isL_none, mview_nil, mview_cons, mv1_f, mv1_n, mv1_t, freeze_nil, freeze_cons, fr1_f, fr1_n, fr1_t, List.set_cons_zero, List.set_cons_succ, List.map_cons, List.map_nil, List.length_cons, List.length_nil, List.replicate_succ, List.replicate_zero, List.cons_append, List.nil_append, List.getElem?_cons_zero, List.getElem?_cons_succ, List.mem_cons, List.not_mem_nil, or_false, false_or, or_true, true_or, if_true, if_false, Bool.false_eq_true, Bool.not_true, Bool.not_false, decide_true, decide_false, and_self, true_and, and_true, Bool.true_and, Bool.and_true, Bool.and_self, Bool.false_and, Bool.and_false, ↓reduceIte, reduceIte, Int.reduceLT, Int.reduceLE, Int.reduceNeg, Int.reduceAdd, Int.reduceSub, Int.reduceMul, Int.reduceToNat, Nat.reduceLT, Nat.reduceLeDiff, Nat.reduceEqDiff, Nat.reduceAdd, Nat.reduceSub, Nat.reduceMul, reduceCtorEq, Int.cast_ofNat_Int, Int.natCast_one, Int.natCast_zero, Int.reduceEq, vMeth_ap, kMeth_l, dRev_list, dCount_ints, kRem_ap, xSeq_rem, xSeq_ext, xExt_ap, kExt_ap, xSeq_pop, xPop_ap, popR_ok, xRem_ap, xSeq_try, xTryL_ap, kTry_nx, kTry_rt, kTry_exc, tryR_rt, tryR_nx, tryR_no, handL_cons, wipeS_nil, wipeS_cons, cv_s, cv_b, cv_i, b_yb, oI, hla]
          refine turn_nx ⟨J, none, _, _, ?_, by omega, rfl⟩
          rw [ek]
          exact scan_out0 ho hc
        | some b =>
          simp only [startE_eq, kSet_ap, kSetG_ap, kIfS_ap, kIf0_ap, kRet_ap, kDrop_ap, kUnp_slot, kUnp2, kUnp3, kApp_ap, appR_ok, ownR_ok, augR_ok, kPar1_ap, kPar2_ap, kAug_ap, kForS_l, kForS_t, xSkip_ap, xSeq_skip, xSeq_seq, xSeq_set, xSeq_setG, xSeq_if, xSeq_ret, xSeq_retN, xSeq_raise, xSeq_drop, xSeq_brk, xSeq_cnt, xSeq_unp, xSeq_par, xSeq_app, xApp_ap, xSeq_aug, xAug_ap, xSeq_for, xSeq_forS, xSeq_forG, xFor_ap, xForS_ap, xForG_ap, xPar_ap, xSet_ap, xSetG_ap, xIf_ap, xRet_ap, xRetN_ap, xDrop_ap, xRaise_ap, xBreak_ap, xCont_ap, xUnp_ap, xSeq_put, xPut_ap, xSeq_putA, xPutA_ap, paK1_ap, paR1_ok, paX1_ok, paK2_ap, kPut1_ap, kPut2_ap, putR_ok, putJ_ok, kEv_ap, kEvG_ap, kEvL_ap, evS_ap, evG_ap, evL_ap, evA_t, evA_f, keepG_int, keepG_bool, keepG_none, keepG_tuple, keepG_list, flatL_nil, flatL_cons, vVar_ap, varR_ok, optR_ok, vC_ap, kB_ap, vBin_ap, vUn_ap, vTest_ap, kAnd_ap, kAnd2_ap, vAnd_ap, kOr_ap, kOr2_ap, vOr_ap, kNot_ap, kNot2_ap, vNot_ap, kIfE_ap, vIf_ap, kC3_ap, kC2_ap, kC1_ap, vChain_ap, kL_ap, kL2_ap, vL_nil, vL_cons, kTup_ap, kLst_ap, vTup_ap, vLst_ap, vCall_ap, kCut1_ap, kCut2_ap, kCut3_ap, vCut_ap, kPart_ap, vPart_none, vPart_some, kComp_ap, kCompO_ap, vComp_ap, wSeq_ap, wCall_ap, wipe_nil, wipe_cons, dMod_int, bindS_slot, bindS_tup, bindSs_nil, bindSs_slot, bindT_slot, bindT_tup, bindTs_nil, bindTs_slot, onR_ok, onR_exc, outR_rt, outR_nx, outR_exc, after_t, after_f, rb_ok, rb_exc, tr_bool, tr_none, tr_int, tr_list, tr_tuple, toB_bool, toI_int, dAdd_int, dSub_int, dNeg_int, dMul_l, dMul_r, dDiv_int, dLt_int, dLe_int, dGt_int, dGe_int, dEq_int, dNe_int, dEq_bool, dNe_bool, dIs_none, dIsNot_none, dIs_bool, isNone_none, isNone_int, isNone_bool, isNone_tuple, isNone_list, dIdx_list, dIdx_tuple, atI_0, atI_1, atI_2, dLen_list, dLen_tuple, dInt_int, dAbs_int, dTuple_list, dTuple_tuple, dList_list, dList_tuple, dSum_ints, dSum_intsT, dAll_bools, dMin_2, dMax_2, isi_int_int, isi_int_bool, isi_int_none, isi_int_tuple, isi_int_list, isi_bool_int, isi_bool_bool, isi_tuple_tuple, isi_tuple_int, isi_tuple_none, isi_list_list, asSeq_list, asSeq_tuple, iEnum_list, iEnum_tuple, iZip_list, iZip_tuple, dCut_list, dCut_tuple, flat_none, flat_bool, flat_int, flat_str, flat_tuple, flat_list, flatL_ints, flatL_bools, isL_list, isL_int, isL_bool, isL_tuple, isL_none, mview_nil, mview_cons, mv1_f, mv1_n, mv1_t, freeze_nil, freeze_cons, fr1_f, fr1_n, fr1_t, List.set_cons_zero, List.set_cons_succ, List.map_cons, List.map_nil, List.length_cons, List.length_nil, List.replicate_succ, List.replicate_zero, List.cons_append, List.nil_append, List.getElem?_cons_zero, List.getElem?_cons_succ, List.mem_cons, List.not_mem_nil, or_false, false_or, or_true, true_or, if_true, if_false, Bool.false_eq_true, Bool.not_true, Bool.not_false, decide_true, decide_false, and_self, true_and, and_true, Bool.true_and, Bool.and_true, Bool.and_self, Bool.false_and, Bool.and_false, ↓reduceIte, reduceIte, Int.reduceLT, Int.reduceLE, Int.reduceNeg, Int.reduceAdd, Int.reduceSub, Int.reduceMul, Int.reduceToNat, Nat.reduceLT, Nat.reduceLeDiff, Nat.reduceEqDiff, Nat.reduceAdd, Nat.reduceSub, Nat.reduceMul, reduceCtorEq, Int.cast_ofNat_Int, Int.natCast_one, Int.natCast_zero, Int.reduceEq, vMeth_ap, kMeth_l, dRev_list, dCount_ints, kRem_ap, xSeq_rem, xSeq_ext, xExt_ap, kExt_ap, xSeq_pop, xPop_ap, popR_ok, xRem_ap, xSeq_try, xTryL_ap, kTry_nx, kTry_rt, kTry_exc, tryR_rt, tryR_nx, tryR_no, handL_cons, wipeS_nil, wipeS_cons, cv_s, cv_b, cv_i, b_yb, oI, hla, hlen]
          refine turn_nx ⟨J ++ [(b, (k : Int))], none, _, _, ?_, by simp; omega, by simp only [List.map_append, List.map_cons, List.map_nil, pr2]; rfl⟩
          rw [ek]
          exact scan_out1 ho hc
    exact key beg hs
theorem s2_ok (c : Bk bs) {scr : D} {z2 : Int} (a2 : f__law_at [scr, .int 2] = .ok (.int z2)) (x3 : Option (Bool × D)) :
    outR (b_s2 [some (false, scr), some (false, bkD bs), some (false, .int (lastI bs)), x3, none, none, none, none, none, none, none, none, none, none, none, none, none]) = .ok (.bool true) := by
  have h1 := depth_eq c
  have d1 := dNe_self (ok_dep bs)
  have dt := bk_seq bs
  have h3 := last_nn bs
  have h4 := last_le c
  have fd := flat_dep bs
  have hr : iRange [.int (lastI bs)] = .ok (rangeD 0 (lastI bs).toNat) := iRange_1 (by omega)
  have c2 : ∀ s0 s1 s2 s3 s4 s5 s6 s8 s9 s10 s11 s12 s13 s14 s15 s16 (y : Int), compGo (compTurnD (.slot 3) [3] (some (vTest (vCall f__law_tells [vVar 3, vVar 7]))) (vVar 3) [s0, s1, s2, s3, s4, s5, s6, some (.int y), s8, s9, s10, s11, s12, s13, s14, s15, s16]) (bs.map pr2) = .ok ((bs.filter fun p => tl p y).map pr2) := by
    intro s0 s1 s2 s3 s4 s5 s6 s8 s9 s10 s11 s12 s13 s14 s15 s16 y
    refine compGo_filter fun p hp => ?_
    have := ltells_eq p y
    exact turn_if rfl (by simp only [startE_eq, kSet_ap, kSetG_ap, kIfS_ap, kIf0_ap, kRet_ap, kDrop_ap, kUnp_slot, kUnp2, kUnp3, kApp_ap, appR_ok, ownR_ok, augR_ok, kPar1_ap, kPar2_ap, kAug_ap, kForS_l, kForS_t, xSkip_ap, xSeq_skip, xSeq_seq, xSeq_set, xSeq_setG, xSeq_if, xSeq_ret, xSeq_retN, xSeq_raise, xSeq_drop, xSeq_brk, xSeq_cnt, xSeq_unp, xSeq_par, xSeq_app, xApp_ap, xSeq_aug, xAug_ap, xSeq_for, xSeq_forS, xSeq_forG, xFor_ap, xForS_ap, xForG_ap, xPar_ap, xSet_ap, xSetG_ap, xIf_ap, xRet_ap, xRetN_ap, xDrop_ap, xRaise_ap, xBreak_ap, xCont_ap, xUnp_ap, xSeq_put, xPut_ap, xSeq_putA, xPutA_ap, paK1_ap, paR1_ok, paX1_ok, paK2_ap, kPut1_ap, kPut2_ap, putR_ok, putJ_ok, kEv_ap, kEvG_ap, kEvL_ap, evS_ap, evG_ap, evL_ap, evA_t, evA_f, keepG_int, keepG_bool, keepG_none, keepG_tuple, keepG_list, flatL_nil, flatL_cons, vVar_ap, varR_ok, optR_ok, vC_ap, kB_ap, vBin_ap, vUn_ap, vTest_ap, kAnd_ap, kAnd2_ap, vAnd_ap, kOr_ap, kOr2_ap, vOr_ap, kNot_ap, kNot2_ap, vNot_ap, kIfE_ap, vIf_ap, kC3_ap, kC2_ap, kC1_ap, vChain_ap, kL_ap, kL2_ap, vL_nil, vL_cons, kTup_ap, kLst_ap, vTup_ap, vLst_ap, vCall_ap, kCut1_ap, kCut2_ap, kCut3_ap, vCut_ap, kPart_ap, vPart_none, vPart_some, kComp_ap, kCompO_ap, vComp_ap, wSeq_ap, wCall_ap, wipe_nil, wipe_cons, dMod_int, bindS_slot, bindS_tup, bindSs_nil, bindSs_slot, bindT_slot, bindT_tup, bindTs_nil, bindTs_slot, onR_ok, onR_exc, outR_rt, outR_nx, outR_exc, after_t, after_f, rb_ok, rb_exc, tr_bool, tr_none, tr_int, tr_list, tr_tuple, toB_bool, toI_int, dAdd_int, dSub_int, dNeg_int, dMul_l, dMul_r, dDiv_int, dLt_int, dLe_int, dGt_int, dGe_int, dEq_int, dNe_int, dEq_bool, dNe_bool, dIs_none, dIsNot_none, dIs_bool, isNone_none, isNone_int, isNone_bool, isNone_tuple, isNone_list, dIdx_list, dIdx_tuple, atI_0, atI_1, atI_2, dLen_list, dLen_tuple, dInt_int, dAbs_int, dTuple_list, dTuple_tuple, dList_list, dList_tuple, dSum_ints, dSum_intsT, dAll_bools, dMin_2, dMax_2, isi_int_int, isi_int_bool, isi_int_none, isi_int_tuple, isi_int_list, isi_bool_int, isi_bool_bool, isi_tuple_tuple, isi_tuple_int, isi_tuple_none, isi_list_list, asSeq_list, asSeq_tuple, iEnum_list, iEnum_tuple, iZip_list, iZip_tuple, dCut_list, dCut_tuple, flat_none, flat_bool, flat_int, flat_str, flat_tuple, flat_list, flatL_ints, flatL_bools, isL_list, isL_int, isL_bool, isL_tuple, isL_none, mview_nil, mview_cons, mv1_f, mv1_n, mv1_t, freeze_nil, freeze_cons, fr1_f, fr1_n, fr1_t, List.set_cons_zero, List.set_cons_succ, List.map_cons, List.map_nil, List.length_cons, List.length_nil, List.replicate_succ, List.replicate_zero, List.cons_append, List.nil_append, List.getElem?_cons_zero, List.getElem?_cons_succ, List.mem_cons, List.not_mem_nil, or_false, false_or, or_true, true_or, if_true, if_false, Bool.false_eq_true, Bool.not_true, Bool.not_false, decide_true, decide_false, and_self, true_and, and_true, Bool.true_and, Bool.and_true, Bool.and_self, Bool.false_and, Bool.and_false, ↓reduceIte, reduceIte, Int.reduceLT, Int.reduceLE, Int.reduceNeg, Int.reduceAdd, Int.reduceSub, Int.reduceMul, Int.reduceToNat, Nat.reduceLT, Nat.reduceLeDiff, Nat.reduceEqDiff, Nat.reduceAdd, Nat.reduceSub, Nat.reduceMul, reduceCtorEq, Int.cast_ofNat_Int, Int.natCast_one, Int.natCast_zero, Int.reduceEq, vMeth_ap, kMeth_l, dRev_list, dCount_ints, kRem_ap, xSeq_rem, xSeq_ext, xExt_ap, kExt_ap, xSeq_pop, xPop_ap, popR_ok, xRem_ap, xSeq_try, xTryL_ap, kTry_nx, kTry_rt, kTry_exc, tryR_rt, tryR_nx, tryR_no, handL_cons, wipeS_nil, wipeS_cons, cv_s, cv_b, cv_i, this]) fun _ => by simp only [startE_eq, kSet_ap, kSetG_ap, kIfS_ap, kIf0_ap, kRet_ap, kDrop_ap, kUnp_slot, kUnp2, kUnp3, kApp_ap, appR_ok, ownR_ok, augR_ok, kPar1_ap, kPar2_ap, kAug_ap, kForS_l, kForS_t, xSkip_ap, xSeq_skip, xSeq_seq, xSeq_set, xSeq_setG, xSeq_if, xSeq_ret, xSeq_retN, xSeq_raise, xSeq_drop, xSeq_brk, xSeq_cnt, xSeq_unp, xSeq_par, xSeq_app, xApp_ap, xSeq_aug, xAug_ap, xSeq_for, xSeq_forS, xSeq_forG, xFor_ap, xForS_ap, xForG_ap, xPar_ap, xSet_ap, xSetG_ap, xIf_ap, xRet_ap, xRetN_ap, xDrop_ap, xRaise_ap, xBreak_ap, xCont_ap, xUnp_ap, xSeq_put, xPut_ap, xSeq_putA, xPutA_ap, paK1_ap, paR1_ok, paX1_ok, paK2_ap, kPut1_ap, kPut2_ap, putR_ok, putJ_ok, kEv_ap, kEvG_ap, kEvL_ap, evS_ap, evG_ap, evL_ap, evA_t, evA_f, keepG_int, keepG_bool, keepG_none, keepG_tuple, keepG_list, flatL_nil, flatL_cons, vVar_ap, varR_ok, optR_ok, vC_ap, kB_ap, vBin_ap, vUn_ap, vTest_ap, kAnd_ap, kAnd2_ap, vAnd_ap, kOr_ap, kOr2_ap, vOr_ap, kNot_ap, kNot2_ap, vNot_ap, kIfE_ap, vIf_ap, kC3_ap, kC2_ap, kC1_ap, vChain_ap, kL_ap, kL2_ap, vL_nil, vL_cons, kTup_ap, kLst_ap, vTup_ap, vLst_ap, vCall_ap, kCut1_ap, kCut2_ap, kCut3_ap, vCut_ap, kPart_ap, vPart_none, vPart_some, kComp_ap, kCompO_ap, vComp_ap, wSeq_ap, wCall_ap, wipe_nil, wipe_cons, dMod_int, bindS_slot, bindS_tup, bindSs_nil, bindSs_slot, bindT_slot, bindT_tup, bindTs_nil, bindTs_slot, onR_ok, onR_exc, outR_rt, outR_nx, outR_exc, after_t, after_f, rb_ok, rb_exc, tr_bool, tr_none, tr_int, tr_list, tr_tuple, toB_bool, toI_int, dAdd_int, dSub_int, dNeg_int, dMul_l, dMul_r, dDiv_int, dLt_int, dLe_int, dGt_int, dGe_int, dEq_int, dNe_int, dEq_bool, dNe_bool, dIs_none, dIsNot_none, dIs_bool, isNone_none, isNone_int, isNone_bool, isNone_tuple, isNone_list, dIdx_list, dIdx_tuple, atI_0, atI_1, atI_2, dLen_list, dLen_tuple, dInt_int, dAbs_int, dTuple_list, dTuple_tuple, dList_list, dList_tuple, dSum_ints, dSum_intsT, dAll_bools, dMin_2, dMax_2, isi_int_int, isi_int_bool, isi_int_none, isi_int_tuple, isi_int_list, isi_bool_int, isi_bool_bool, isi_tuple_tuple, isi_tuple_int, isi_tuple_none, isi_list_list, asSeq_list, asSeq_tuple, iEnum_list, iEnum_tuple, iZip_list, iZip_tuple, dCut_list, dCut_tuple, flat_none, flat_bool, flat_int, flat_str, flat_tuple, flat_list, flatL_ints, flatL_bools, isL_list, isL_int, isL_bool, isL_tuple, isL_none, mview_nil, mview_cons, mv1_f, mv1_n, mv1_t, freeze_nil, freeze_cons, fr1_f, fr1_n, fr1_t, List.set_cons_zero, List.set_cons_succ, List.map_cons, List.map_nil, List.length_cons, List.length_nil, List.replicate_succ, List.replicate_zero, List.cons_append, List.nil_append, List.getElem?_cons_zero, List.getElem?_cons_succ, List.mem_cons, List.not_mem_nil, or_false, false_or, or_true, true_or, if_true, if_false, Bool.false_eq_true, Bool.not_true, Bool.not_false, decide_true, decide_false, and_self, true_and, and_true, Bool.true_and, Bool.and_true, Bool.and_self, Bool.false_and, Bool.and_false, ↓reduceIte, reduceIte, Int.reduceLT, Int.reduceLE, Int.reduceNeg, Int.reduceAdd, Int.reduceSub, Int.reduceMul, Int.reduceToNat, Nat.reduceLT, Nat.reduceLeDiff, Nat.reduceEqDiff, Nat.reduceAdd, Nat.reduceSub, Nat.reduceMul, reduceCtorEq, Int.cast_ofNat_Int, Int.natCast_one, Int.natCast_zero, Int.reduceEq, vMeth_ap, kMeth_l, dRev_list, dCount_ints, kRem_ap, xSeq_rem, xSeq_ext, xExt_ap, kExt_ap, xSeq_pop, xPop_ap, popR_ok, xRem_ap, xSeq_try, xTryL_ap, kTry_nx, kTry_rt, kTry_exc, tryR_rt, tryR_nx, tryR_no, handL_cons, wipeS_nil, wipeS_cons, cv_s, cv_b, cv_i]
  have c3 : ∀ s0 s2 s3 s4 s5 s6 s7 s8 s9 s10 s11 s12 s13 s14 s15 s16, compGo (compTurnD (.slot 7) [7] none (vCall dLen [vComp (wSeq (vVar 1)) (.slot 3) [3] (some (vTest (vCall f__law_tells [vVar 3, vVar 7]))) (vVar 3)]) [s0, some (bkD bs), s2, s3, s4, s5, s6, s7, s8, s9, s10, s11, s12, s13, s14, s15, s16]) (rangeD 0 (lastI bs).toNat) = .ok ((depL bs).map .int) := by
    intro s0 s2 s3 s4 s5 s6 s7 s8 s9 s10 s11 s12 s13 s14 s15 s16
    unfold depL
    rw [List.map_map]
    refine SH.comp_range fun y hy => ⟨_, rfl, ?_⟩
    simp only [startE_eq, kSet_ap, kSetG_ap, kIfS_ap, kIf0_ap, kRet_ap, kDrop_ap, kUnp_slot, kUnp2, kUnp3, kApp_ap, appR_ok, ownR_ok, augR_ok, kPar1_ap, kPar2_ap, kAug_ap, kForS_l, kForS_t, xSkip_ap, xSeq_skip, xSeq_seq, xSeq_set, xSeq_setG, xSeq_if, xSeq_ret, xSeq_retN, xSeq_raise, xSeq_drop, xSeq_brk, xSeq_cnt, xSeq_unp, xSeq_par, xSeq_app, xApp_ap, xSeq_aug, xAug_ap, xSeq_for, xSeq_forS, xSeq_forG, xFor_ap, xForS_ap, xForG_ap, xPar_ap, xSet_ap, xSetG_ap, xIf_ap, xRet_ap, xRetN_ap, xDrop_ap, xRaise_ap, xBreak_ap, xCont_ap, xUnp_ap, xSeq_put, xPut_ap, xSeq_putA, xPutA_ap, paK1_ap, paR1_ok, paX1_ok, paK2_ap, kPut1_ap, kPut2_ap, putR_ok, putJ_ok, kEv_ap, kEvG_ap, kEvL_ap, evS_ap, evG_ap, evL_ap, evA_t, evA_f, keepG_int, keepG_bool, keepG_none, keepG_tuple, keepG_list, flatL_nil, flatL_cons, vVar_ap, varR_ok, optR_ok, vC_ap, kB_ap, vBin_ap, vUn_ap, vTest_ap, kAnd_ap, kAnd2_ap, vAnd_ap, kOr_ap, kOr2_ap, vOr_ap, kNot_ap, kNot2_ap, vNot_ap, kIfE_ap, vIf_ap, kC3_ap, kC2_ap, kC1_ap, vChain_ap, kL_ap, kL2_ap, vL_nil, vL_cons, kTup_ap, kLst_ap, vTup_ap, vLst_ap, vCall_ap, kCut1_ap, kCut2_ap, kCut3_ap, vCut_ap, kPart_ap, vPart_none, vPart_some, kComp_ap, kCompO_ap, vComp_ap, wSeq_ap, wCall_ap, wipe_nil, wipe_cons, dMod_int, bindS_slot, bindS_tup, bindSs_nil, bindSs_slot, bindT_slot, bindT_tup, bindTs_nil, bindTs_slot, onR_ok, onR_exc, outR_rt, outR_nx, outR_exc, after_t, after_f, rb_ok, rb_exc, tr_bool, tr_none, tr_int, tr_list, tr_tuple, toB_bool, toI_int, dAdd_int, dSub_int, dNeg_int, dMul_l, dMul_r, dDiv_int, dLt_int, dLe_int, dGt_int, dGe_int, dEq_int, dNe_int, dEq_bool, dNe_bool, dIs_none, dIsNot_none, dIs_bool, isNone_none, isNone_int, isNone_bool, isNone_tuple, isNone_list, dIdx_list, dIdx_tuple, atI_0, atI_1, atI_2, dLen_list, dLen_tuple, dInt_int, dAbs_int, dTuple_list, dTuple_tuple, dList_list, dList_tuple, dSum_ints, dSum_intsT, dAll_bools, dMin_2, dMax_2, isi_int_int, isi_int_bool, isi_int_none, isi_int_tuple, isi_int_list, isi_bool_int, isi_bool_bool, isi_tuple_tuple, isi_tuple_int, isi_tuple_none, isi_list_list, asSeq_list, asSeq_tuple, iEnum_list, iEnum_tuple, iZip_list, iZip_tuple, dCut_list, dCut_tuple, flat_none, flat_bool, flat_int, flat_str, flat_tuple, flat_list, flatL_ints, flatL_bools, isL_list, isL_int, isL_bool, isL_tuple, isL_none, mview_nil, mview_cons, mv1_f, mv1_n, mv1_t, freeze_nil, freeze_cons, fr1_f, fr1_n, fr1_t, List.set_cons_zero, List.set_cons_succ, List.map_cons, List.map_nil, List.length_cons, List.length_nil, List.replicate_succ, List.replicate_zero, List.cons_append, List.nil_append, List.getElem?_cons_zero, List.getElem?_cons_succ, List.mem_cons, List.not_mem_nil, or_false, false_or, or_true, true_or, if_true, if_false, Bool.false_eq_true, Bool.not_true, Bool.not_false, decide_true, decide_false, and_self, true_and, and_true, Bool.true_and, Bool.and_true, Bool.and_self, Bool.false_and, Bool.and_false, ↓reduceIte, reduceIte, Int.reduceLT, Int.reduceLE, Int.reduceNeg, Int.reduceAdd, Int.reduceSub, Int.reduceMul, Int.reduceToNat, Nat.reduceLT, Nat.reduceLeDiff, Nat.reduceEqDiff, Nat.reduceAdd, Nat.reduceSub, Nat.reduceMul, reduceCtorEq, Int.cast_ofNat_Int, Int.natCast_one, Int.natCast_zero, Int.reduceEq, vMeth_ap, kMeth_l, dRev_list, dCount_ints, kRem_ap, xSeq_rem, xSeq_ext, xExt_ap, kExt_ap, xSeq_pop, xPop_ap, popR_ok, xRem_ap, xSeq_try, xTryL_ap, kTry_nx, kTry_rt, kTry_exc, tryR_rt, tryR_nx, tryR_no, handL_cons, wipeS_nil, wipeS_cons, cv_s, cv_b, cv_i, dt, c2, List.length_map, Int.zero_add]
    rfl
  have hT : dTuple [.list ((depL bs).map .int)] = .ok (depD bs) := rfl
  have hr62 : iRange [.int 62] = .ok (rangeD 0 62) := iRange_1 (by decide)
  generalize hDL : (depL bs).map PyData.int = DL at c3 hT
  simp only [startE_eq, kSet_ap, kSetG_ap, kIfS_ap, kIf0_ap, kRet_ap, kDrop_ap, kUnp_slot, kUnp2, kUnp3, kApp_ap, appR_ok, ownR_ok, augR_ok, kPar1_ap, kPar2_ap, kAug_ap, kForS_l, kForS_t, xSkip_ap, xSeq_skip, xSeq_seq, xSeq_set, xSeq_setG, xSeq_if, xSeq_ret, xSeq_retN, xSeq_raise, xSeq_drop, xSeq_brk, xSeq_cnt, xSeq_unp, xSeq_par, xSeq_app, xApp_ap, xSeq_aug, xAug_ap, xSeq_for, xSeq_forS, xSeq_forG, xFor_ap, xForS_ap, xForG_ap, xPar_ap, xSet_ap, xSetG_ap, xIf_ap, xRet_ap, xRetN_ap, xDrop_ap, xRaise_ap, xBreak_ap, xCont_ap, xUnp_ap, xSeq_put, xPut_ap, xSeq_putA, xPutA_ap, paK1_ap, paR1_ok, paX1_ok, paK2_ap, kPut1_ap, kPut2_ap, putR_ok, putJ_ok, kEv_ap, kEvG_ap, kEvL_ap, evS_ap, evG_ap, evL_ap, evA_t, evA_f, keepG_int, keepG_bool, keepG_none, keepG_tuple, keepG_list, flatL_nil, flatL_cons, vVar_ap, varR_ok, optR_ok, vC_ap, kB_ap, vBin_ap, vUn_ap, vTest_ap, kAnd_ap, kAnd2_ap, vAnd_ap, kOr_ap, kOr2_ap, vOr_ap, kNot_ap, kNot2_ap, vNot_ap, kIfE_ap, vIf_ap, kC3_ap, kC2_ap, kC1_ap, vChain_ap, kL_ap, kL2_ap, vL_nil, vL_cons, kTup_ap, kLst_ap, vTup_ap, vLst_ap, vCall_ap, kCut1_ap, kCut2_ap, kCut3_ap, vCut_ap, kPart_ap, vPart_none, vPart_some, kComp_ap, kCompO_ap, vComp_ap, wSeq_ap, wCall_ap, wipe_nil, wipe_cons, dMod_int, bindS_slot, bindS_tup, bindSs_nil, bindSs_slot, bindT_slot, bindT_tup, bindTs_nil, bindTs_slot, onR_ok, onR_exc, outR_rt, outR_nx, outR_exc, after_t, after_f, rb_ok, rb_exc, tr_bool, tr_none, tr_int, tr_list, tr_tuple, toB_bool, toI_int, dAdd_int, dSub_int, dNeg_int, dMul_l, dMul_r, dDiv_int, dLt_int, dLe_int, dGt_int, dGe_int, dEq_int, dNe_int, dEq_bool, dNe_bool, dIs_none, dIsNot_none, dIs_bool, isNone_none, isNone_int, isNone_bool, isNone_tuple, isNone_list, dIdx_list, dIdx_tuple, atI_0, atI_1, atI_2, dLen_list, dLen_tuple, dInt_int, dAbs_int, dTuple_list, dTuple_tuple, dList_list, dList_tuple, dSum_ints, dSum_intsT, dAll_bools, dMin_2, dMax_2, isi_int_int, isi_int_bool, isi_int_none, isi_int_tuple, isi_int_list, isi_bool_int, isi_bool_bool, isi_tuple_tuple, isi_tuple_int, isi_tuple_none, isi_list_list, asSeq_list, asSeq_tuple, iEnum_list, iEnum_tuple, iZip_list, iZip_tuple, dCut_list, dCut_tuple, flat_none, flat_bool, flat_int, flat_str, flat_tuple, flat_list, flatL_ints, flatL_bools, isL_list, isL_int, isL_bool, isL_tuple, isL_none, mview_nil, mview_cons, mv1_f, mv1_n, mv1_t, freeze_nil, freeze_cons, fr1_f, fr1_n, fr1_t, List.set_cons_zero, List.set_cons_succ, List.map_cons, List.map_nil, List.length_cons, List.length_nil, List.replicate_succ, List.replicate_zero, List.cons_append, List.nil_append, List.getElem?_cons_zero, List.getElem?_cons_succ, List.mem_cons, List.not_mem_nil, or_false, false_or, or_true, true_or, if_true, if_false, Bool.false_eq_true, Bool.not_true, Bool.not_false, decide_true, decide_false, and_self, true_and, and_true, Bool.true_and, Bool.and_true, Bool.and_self, Bool.false_and, Bool.and_false, ↓reduceIte, reduceIte, Int.reduceLT, Int.reduceLE, Int.reduceNeg, Int.reduceAdd, Int.reduceSub, Int.reduceMul, Int.reduceToNat, Nat.reduceLT, Nat.reduceLeDiff, Nat.reduceEqDiff, Nat.reduceAdd, Nat.reduceSub, Nat.reduceMul, reduceCtorEq, Int.cast_ofNat_Int, Int.natCast_one, Int.natCast_zero, Int.reduceEq, vMeth_ap, kMeth_l, dRev_list, dCount_ints, kRem_ap, xSeq_rem, xSeq_ext, xExt_ap, kExt_ap, xSeq_pop, xPop_ap, popR_ok, xRem_ap, xSeq_try, xTryL_ap, kTry_nx, kTry_rt, kTry_exc, tryR_rt, tryR_nx, tryR_no, handL_cons, wipeS_nil, wipeS_cons, cv_s, cv_b, cv_i, b_s2, hr, c3, hT, fd, h1, d1, kFor_ap hr62]
  refine seq_range (P := fun o => outR o = _) (YI bs scr x3) NoE NoD ⟨[], none, none, none, scan_0 c, by simp, rfl⟩ ?_ ?_ (fun _ z => z.elim) (fun _ z => z.elim)
  · rintro k env hk h
    refine ⟨_, rfl, ?_⟩
    have := yb_turn c hk h
    rw [show (0 : Int) + (k : Int) = (k : Int) from Int.zero_add _]
    exact this
  · rintro env ⟨J, beg, x7, x8, hs, hJ, rfl⟩
    obtain ⟨q1, q2⟩ := scan_end c hs
    exact r1_ok c a2 q1 q2 _ _ _ _ _
end
theorem law_true (ns : List Int) (hns : ns.length ≤ 63) : f_law [.list (ns.map PyData.int)] = .ok (.bool true) := by
  refine runFn_eq rfl ?_
  obtain ⟨z0, a0⟩ : ∃ z, f__law_at [.list (ns.map PyData.int), .int 0] = .ok (.int z) := ⟨_, at_eq ns 0⟩
  obtain ⟨z1, a1⟩ : ∃ z, f__law_at [.list (ns.map PyData.int), .int 1] = .ok (.int z) := ⟨_, at_eq ns 1⟩
  obtain ⟨z2, a2⟩ : ∃ z, f__law_at [.list (ns.map PyData.int), .int 2] = .ok (.int z) := ⟨_, at_eq ns 2⟩
  generalize PyData.list (ns.map PyData.int) = scr at a0 a1 a2 ⊢
  obtain ⟨bs, c, hb⟩ := books_eq z0 z1
  have fb := flat_bk bs
  have e : b_law = xSeq (xSet 1 [0] (vCall f__law_books [(vCall f__law_at [(vVar 0), (vC (.int 0))]), (vCall f__law_at [(vVar 0), (vC (.int 1))])]))
    (xSeq (xSet 2 [] (vC (.int 0)))
    (xSeq (xForS [1] (vVar 1) (.slot 3)
    (xSet 2 [2, 3] (vCall dMax [(vVar 2), (vBin dIdx (vVar 3) (vC (.int 1)))])))
    b_s2)) := rfl
  rw [e]
  have key : outR (xSeq (forGo (xSet 2 [2, 3] (vCall dMax [(vVar 2), (vBin dIdx (vVar 3) (vC (.int 1)))])) (.slot 3) (bs.map pr2)) b_s2
      [some (false, scr), some (false, bkD bs), some (false, .int 0), none, none, none, none, none, none, none, none, none, none, none, none, none, none]) = .ok (.bool true) := by
    refine seq_list (P := fun o => outR o = _) (enc := pr2) (xs := bs) (fun pre env => ∃ x3, env = [some (false, scr), some (false, bkD bs), some (false, .int (pre.foldl (fun m p => if p.2 > m then p.2 else m) 0)), x3, none, none, none, none, none, none, none, none, none, none, none, none, none]) NoE NoD rfl ⟨none, rfl⟩ ?_ ?_ (fun _ z => z.elim) (fun _ z => z.elim)
    · rintro pre p post env hxs ⟨x3, rfl⟩
      refine ⟨_, rfl, ?_⟩
      simp only [startE_eq, kSet_ap, kSetG_ap, kIfS_ap, kIf0_ap, kRet_ap, kDrop_ap, kUnp_slot, kUnp2, kUnp3, kApp_ap, appR_ok, ownR_ok, augR_ok, kPar1_ap, kPar2_ap, kAug_ap, kForS_l, kForS_t, xSkip_ap, xSeq_skip, xSeq_seq, xSeq_set, xSeq_setG, xSeq_if, xSeq_ret, xSeq_retN, xSeq_raise, xSeq_drop, xSeq_brk, xSeq_cnt, xSeq_unp, xSeq_par, xSeq_app, xApp_ap, xSeq_aug, xAug_ap, xSeq_for, xSeq_forS, xSeq_forG, xFor_ap, xForS_ap, xForG_ap, xPar_ap, xSet_ap, xSetG_ap, xIf_ap, xRet_ap, xRetN_ap, xDrop_ap, xRaise_ap, xBreak_ap, xCont_ap, xUnp_ap, xSeq_put, xPut_ap, xSeq_putA, xPutA_ap, paK1_ap, paR1_ok, paX1_ok, paK2_ap, kPut1_ap, kPut2_ap, putR_ok, putJ_ok, kEv_ap, kEvG_ap, kEvL_ap, evS_ap, evG_ap, evL_ap, evA_t, evA_f, keepG_int, keepG_bool, keepG_none, keepG_tuple, keepG_list, flatL_nil, flatL_cons, vVar_ap, varR_ok, optR_ok, vC_ap, kB_ap, vBin_ap, vUn_ap, vTest_ap, kAnd_ap, kAnd2_ap, vAnd_ap, kOr_ap, kOr2_ap, vOr_ap, kNot_ap, kNot2_ap, vNot_ap, kIfE_ap, vIf_ap, kC3_ap, kC2_ap, kC1_ap, vChain_ap, kL_ap, kL2_ap, vL_nil, vL_cons, kTup_ap, kLst_ap, vTup_ap, vLst_ap, vCall_ap, kCut1_ap, kCut2_ap, kCut3_ap, vCut_ap, kPart_ap, vPart_none, vPart_some, kComp_ap, kCompO_ap, vComp_ap, wSeq_ap, wCall_ap, wipe_nil, wipe_cons, dMod_int, bindS_slot, bindS_tup, bindSs_nil, bindSs_slot, bindT_slot, bindT_tup, bindTs_nil, bindTs_slot, onR_ok, onR_exc, outR_rt, outR_nx, outR_exc, after_t, after_f, rb_ok, rb_exc, tr_bool, tr_none, tr_int, tr_list, tr_tuple, toB_bool, toI_int, dAdd_int, dSub_int, dNeg_int, dMul_l, dMul_r, dDiv_int, dLt_int, dLe_int, dGt_int, dGe_int, dEq_int, dNe_int, dEq_bool, dNe_bool, dIs_none, dIsNot_none, dIs_bool, isNone_none, isNone_int, isNone_bool, isNone_tuple, isNone_list, dIdx_list, dIdx_tuple, atI_0, atI_1, atI_2, dLen_list, dLen_tuple, dInt_int, dAbs_int, dTuple_list, dTuple_tuple, dList_list, dList_tuple, dSum_ints, dSum_intsT, dAll_bools, dMin_2, dMax_2, isi_int_int, isi_int_bool, isi_int_none, isi_int_tuple, isi_int_list, isi_bool_int, isi_bool_bool, isi_tuple_tuple, isi_tuple_int, isi_tuple_none, isi_list_list, asSeq_list, asSeq_tuple, iEnum_list, iEnum_tuple, iZip_list, iZip_tuple, dCut_list, dCut_tuple, flat_none, flat_bool, flat_int, flat_str, flat_tuple, flat_list, flatL_ints, flatL_bools, isL_list, isL_int, isL_bool, isL_tuple, isL_none, mview_nil, mview_cons, mv1_f, mv1_n, mv1_t, freeze_nil, freeze_cons, fr1_f, fr1_n, fr1_t, List.set_cons_zero, List.set_cons_succ, List.map_cons, List.map_nil, List.length_cons, List.length_nil, List.replicate_succ, List.replicate_zero, List.cons_append, List.nil_append, List.getElem?_cons_zero, List.getElem?_cons_succ, List.mem_cons, List.not_mem_nil, or_false, false_or, or_true, true_or, if_true, if_false, Bool.false_eq_true, Bool.not_true, Bool.not_false, decide_true, decide_false, and_self, true_and, and_true, Bool.true_and, Bool.and_true, Bool.and_self, Bool.false_and, Bool.and_false, ↓reduceIte, reduceIte, Int.reduceLT, Int.reduceLE, Int.reduceNeg, Int.reduceAdd, Int.reduceSub, Int.reduceMul, Int.reduceToNat, Nat.reduceLT, Nat.reduceLeDiff, Nat.reduceEqDiff, Nat.reduceAdd, Nat.reduceSub, Nat.reduceMul, reduceCtorEq, Int.cast_ofNat_Int, Int.natCast_one, Int.natCast_zero, Int.reduceEq, vMeth_ap, kMeth_l, dRev_list, dCount_ints, kRem_ap, xSeq_rem, xSeq_ext, xExt_ap, kExt_ap, xSeq_pop, xPop_ap, popR_ok, xRem_ap, xSeq_try, xTryL_ap, kTry_nx, kTry_rt, kTry_exc, tryR_rt, tryR_nx, tryR_no, handL_cons, wipeS_nil, wipeS_cons, cv_s, cv_b, cv_i, pr2]
      refine turn_nx ⟨some (false, pr2 p), ?_⟩
      rw [List.foldl_append]
      rfl
    · rintro env ⟨x3, rfl⟩
      exact s2_ok c a2 x3
  simp only [startE_eq, kSet_ap, kSetG_ap, kIfS_ap, kIf0_ap, kRet_ap, kDrop_ap, kUnp_slot, kUnp2, kUnp3, kApp_ap, appR_ok, ownR_ok, augR_ok, kPar1_ap, kPar2_ap, kAug_ap, kForS_l, kForS_t, xSkip_ap, xSeq_skip, xSeq_seq, xSeq_set, xSeq_setG, xSeq_if, xSeq_ret, xSeq_retN, xSeq_raise, xSeq_drop, xSeq_brk, xSeq_cnt, xSeq_unp, xSeq_par, xSeq_app, xApp_ap, xSeq_aug, xAug_ap, xSeq_for, xSeq_forS, xSeq_forG, xFor_ap, xForS_ap, xForG_ap, xPar_ap, xSet_ap, xSetG_ap, xIf_ap, xRet_ap, xRetN_ap, xDrop_ap, xRaise_ap, xBreak_ap, xCont_ap, xUnp_ap, xSeq_put, xPut_ap, xSeq_putA, xPutA_ap, paK1_ap, paR1_ok, paX1_ok, paK2_ap, kPut1_ap, kPut2_ap, putR_ok, putJ_ok, kEv_ap, kEvG_ap, kEvL_ap, evS_ap, evG_ap, evL_ap, evA_t, evA_f, keepG_int, keepG_bool, keepG_none, keepG_tuple, keepG_list, flatL_nil, flatL_cons, vVar_ap, varR_ok, optR_ok, vC_ap, kB_ap, vBin_ap, vUn_ap, vTest_ap, kAnd_ap, kAnd2_ap, vAnd_ap, kOr_ap, kOr2_ap, vOr_ap, kNot_ap, kNot2_ap, vNot_ap, kIfE_ap, vIf_ap, kC3_ap, kC2_ap, kC1_ap, vChain_ap, kL_ap, kL2_ap, vL_nil, vL_cons, kTup_ap, kLst_ap, vTup_ap, vLst_ap, vCall_ap, kCut1_ap, kCut2_ap, kCut3_ap, vCut_ap, kPart_ap, vPart_none, vPart_some, kComp_ap, kCompO_ap, vComp_ap, wSeq_ap, wCall_ap, wipe_nil, wipe_cons, dMod_int, bindS_slot, bindS_tup, bindSs_nil, bindSs_slot, bindT_slot, bindT_tup, bindTs_nil, bindTs_slot, onR_ok, onR_exc, outR_rt, outR_nx, outR_exc, after_t, after_f, rb_ok, rb_exc, tr_bool, tr_none, tr_int, tr_list, tr_tuple, toB_bool, toI_int, dAdd_int, dSub_int, dNeg_int, dMul_l, dMul_r, dDiv_int, dLt_int, dLe_int, dGt_int, dGe_int, dEq_int, dNe_int, dEq_bool, dNe_bool, dIs_none, dIsNot_none, dIs_bool, isNone_none, isNone_int, isNone_bool, isNone_tuple, isNone_list, dIdx_list, dIdx_tuple, atI_0, atI_1, atI_2, dLen_list, dLen_tuple, dInt_int, dAbs_int, dTuple_list, dTuple_tuple, dList_list, dList_tuple, dSum_ints, dSum_intsT, dAll_bools, dMin_2, dMax_2, isi_int_int, isi_int_bool, isi_int_none, isi_int_tuple, isi_int_list, isi_bool_int, isi_bool_bool, isi_tuple_tuple, isi_tuple_int, isi_tuple_none, isi_list_list, asSeq_list, asSeq_tuple, iEnum_list, iEnum_tuple, iZip_list, iZip_tuple, dCut_list, dCut_tuple, flat_none, flat_bool, flat_int, flat_str, flat_tuple, flat_list, flatL_ints, flatL_bools, isL_list, isL_int, isL_bool, isL_tuple, isL_none, mview_nil, mview_cons, mv1_f, mv1_n, mv1_t, freeze_nil, freeze_cons, fr1_f, fr1_n, fr1_t, List.set_cons_zero, List.set_cons_succ, List.map_cons, List.map_nil, List.length_cons, List.length_nil, List.replicate_succ, List.replicate_zero, List.cons_append, List.nil_append, List.getElem?_cons_zero, List.getElem?_cons_succ, List.mem_cons, List.not_mem_nil, or_false, false_or, or_true, true_or, if_true, if_false, Bool.false_eq_true, Bool.not_true, Bool.not_false, decide_true, decide_false, and_self, true_and, and_true, Bool.true_and, Bool.and_true, Bool.and_self, Bool.false_and, Bool.and_false, ↓reduceIte, reduceIte, Int.reduceLT, Int.reduceLE, Int.reduceNeg, Int.reduceAdd, Int.reduceSub, Int.reduceMul, Int.reduceToNat, Nat.reduceLT, Nat.reduceLeDiff, Nat.reduceEqDiff, Nat.reduceAdd, Nat.reduceSub, Nat.reduceMul, reduceCtorEq, Int.cast_ofNat_Int, Int.natCast_one, Int.natCast_zero, Int.reduceEq, vMeth_ap, kMeth_l, dRev_list, dCount_ints, kRem_ap, xSeq_rem, xSeq_ext, xExt_ap, kExt_ap, xSeq_pop, xPop_ap, popR_ok, xRem_ap, xSeq_try, xTryL_ap, kTry_nx, kTry_rt, kTry_exc, tryR_rt, tryR_nx, tryR_no, handL_cons, wipeS_nil, wipeS_cons, cv_s, cv_b, cv_i, a0, a1, hb, fb]
  exact key
end K68


set_option Elab.async false
set_option maxRecDepth 100000
set_option maxHeartbeats 0
namespace K68
open PySem PySem.Spec PyProof.Rows L2 SH
theorem run (w : World) : HandSHeadRun.RunEq R (PySem.W.view R.prog [28]) hk ob 3000 loose w := by
  intro os
  kernel_rfl
end K68



namespace K68
open PySem PySem.Spec PyProof.Rows L2 SH
theorem room0 : Room 20 callerA := ⟨rfl, by decide, by decide⟩
end K68
open PySem PySem.W PySem.Calls PyProof.Rows
theorem PySem.Challenge.cw_shelfhouse_k68_depths_piles_and_gaps_holds : PySem.Challenge.rw_shelfhouse_k68_depths_piles_and_gaps.Holds := by
  w_on; o_law
  refine HandSHeadRun.head_any (r := OpenLaw.row PySem.Challenge.rw_shelfhouse_k68_depths_piles_and_gaps) (q := view (OpenLaw.row PySem.Challenge.rw_shelfhouse_k68_depths_piles_and_gaps).prog [28]) (H := K68.hk) (ob := K68.ob) (M := 3000) (loose := K68.loose) (d := HandSHeadRun.topDef (OpenLaw.row PySem.Challenge.rw_shelfhouse_k68_depths_piles_and_gaps).prog 28) (kwd := []) K68.ob_eq
    (by kernel_rfl) (fun s => by kernel_rfl) K68.run (by kernel_rfl) (by kernel_rfl) (by kernel_rfl) (by rfl) (by first | assumption | decide +kernel) (by decide +kernel) ⟨rfl, rfl, rfl, rfl, rfl, by decide +kernel⟩ ?hw ?hc
  case hw => w_witness2
  case hc =>
    refine SH.law_end (l := PySem.Challenge.rw_shelfhouse_k68_depths_piles_and_gaps) (k := 20) (x := "script") (f := K68.f_law) (m := K68.md) rfl (by kernel_rfl) K68.room0 K68.law_true ?F
    intro w mg fa h Y G hmg0
    obtain ⟨K, KX, c⟩ := Y
    have hmg : mg ("law" : PySem.Str) = some (.ref fa) := by
      have e : (HandSHeadRun.topDef (OpenLaw.row PySem.Challenge.rw_shelfhouse_k68_depths_piles_and_gaps).prog 28).name = ("law" : PySem.Str) := by kernel_rfl
      rw [← e]
      exact hmg0
    obtain ⟨fd, hL⟩ := SH.law_def KX G c (P := (PySem.Challenge.rw_shelfhouse_k68_depths_piles_and_gaps).prog) (d := K68.d_law) (N := K68.N_law) (x := "script") (n := 14) (j := 10) (g := K68.b_law) (List.mem_of_getElem? (i := 19) rfl) rfl rfl rfl K68.s_law K68.a_law (fun base tb => K68.m_19 KX G c tb) K68.c_law
    have g0 := SH.glo_of KX G c (d := K68.d_law) (List.mem_of_getElem? (i := 19) rfl)
    have e : He.ga K "law" = fa := by
      have e2 : some (Value.ref (He.ga K "law")) = some (Value.ref fa) := g0.symm.trans hmg
      cases e2
      rfl
    rw [← e]
    exact ⟨K, fd, KX, hL⟩


