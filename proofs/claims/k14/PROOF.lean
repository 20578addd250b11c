import PyProof.Rows.All
import Wide.All
import OpenK.AllK
import Wide.FinOn
import PySem.Challenge.RW_halvefolds_k14_whole_first_place
import HandS.ForMost
import HandS.ForExc
import HandS.Style
import HandS.Deep
import HandS.TupMul
import HandS.IsInst
import KE.GoesMore
import HandS.Defaults
import HandS.EndBits
import HandS.HotCalls
import HandS.ExcField
import HandS.ExcInit
import KE.KExcIs
import KE.SortData
import KE.DataMinMax
import HandS.WideBits
import HandS.RevRange
import HandS.Conv
import HandS.RaiseMore
set_option Elab.async false
set_option linter.all false
set_option maxRecDepth 100000
set_option maxHeartbeats 4000000
set_option autoImplicit false
/-! DL: programs over plain data. A def's meaning is a Lean function over data (PyData) and a small store of lists that change; each rule ties a construct to its meaning. -/
namespace DL
open PySem PySem.Spec PyProof.Rows L2

/-- what a name holds: data, the j-th object of the store, or the law's script -/
inductive SV where
  | d (x : PyData)
  | o (j : Nat)
  | s (ns : List Int)
/-- an object of the store: a list of data, a list of lists of the store, a dict, or one that is not looked at any more -/
inductive Ob where
  | l (xs : List PyData)
  | rows (js : List Nat)
  | dead
/-- an expression's end -/
inductive Rs where
  | ok (d : PyData)
  | ex (c : Str) (p : Option PyData)
inductive RA where
  | ok (vs : List SV)
  | ex (c : Str) (p : Option PyData)
inductive Fl where
  | nx | bk | ct
  | rt (d : PyData)
  | ex (c : Str) (p : Option PyData)
abbrev DE := List (Option SV)
abbrev SE := List Ob
abbrev EF := DE → SE → Option (Rs × SE)
abbrev AF := DE → SE → Option (RA × SE)
abbrev SF := DE → SE → Option (Fl × DE × SE)
abbrev FF := List SV → SE → Option (Rs × SE)

theorem same_rd {H H' : Hp} {a : Addr} {u : HO} (e : Same H H') (h : Rd H a u) : Rd H' a u := by
  rcases h with h | ⟨o, h⟩
  · exact Or.inl (e a _ h)
  · exact Or.inr ⟨o, e a _ h⟩
theorem same_l {K : PySem.W.Frag} {H H' : Hp} {a : Addr} {xs : List V} (e : Same H H') (h : SqL K H a xs) : SqL K H' a xs := by
  rcases h with h | h
  · exact Or.inl (same_rd e h)
  · exact Or.inr h
theorem same_t {K : PySem.W.Frag} {H H' : Hp} {a : Addr} {xs : List V} (e : Same H H') (h : SqT K H a xs) : SqT K H' a xs := by
  rcases h with h | h
  · exact Or.inl (same_rd e h)
  · exact Or.inr h
/-! ### how data lie in the heap -/
mutual
/-- the value v is the data d: lists stand in Z by themselves, tuples there or in the written part -/
inductive Rp (K : PySem.W.Frag) (H : Hp) : V → PyData → Prop
  | non : Rp K H .non .none
  | bl (b : Bool) : Rp K H (.bl b) (.bool b)
  | int (i : Int) : Rp K H (.int i) (.int i)
  | str (x : Str) : Rp K H (.str x) (.str x)
  | lst {a : Addr} {xs : List V} {ds : List PyData} : H a = some (.lst xs) → RpA K H xs ds → Rp K H (.ref a) (.list ds)
  | tup {a : Addr} {xs : List V} {ds : List PyData} : SqT K H a xs → RpA K H xs ds → Rp K H (.ref a) (.tuple ds)
inductive RpA (K : PySem.W.Frag) (H : Hp) : List V → List PyData → Prop
  | nil : RpA K H [] []
  | cons {v : V} {vs : List V} {d : PyData} {ds : List PyData} : Rp K H v d → RpA K H vs ds → RpA K H (v :: vs) (d :: ds)
end
mutual
theorem Rp.dp {K : PySem.W.Frag} {Z H : Hp} (e : Same Z H) : ∀ (d : PyData) (v : V), Rp K Z v d → Dp K H v d
  | .none, _, h => by cases h; exact .non
  | .bool b, _, h => by cases h; exact .bl b
  | .int i, _, h => by cases h; exact .int i
  | .str x, _, h => by cases h; exact .str x
  | .list ds, _, h => by
    cases h with
    | lst hs ha => exact .lst (SqL.of (e _ _ hs)) (RpA.dp e ds _ ha)
  | .tuple ds, _, h => by
    cases h with
    | tup hs ha => exact .tup (same_t e hs) (RpA.dp e ds _ ha)
  | .dict _, _, h => by cases h
theorem RpA.dp {K : PySem.W.Frag} {Z H : Hp} (e : Same Z H) : ∀ (ds : List PyData) (vs : List V), RpA K Z vs ds → DpAll K H vs ds
  | [], _, h => by cases h; exact .nil
  | d :: ds, _, h => by
    cases h with
    | cons h1 h2 => exact .cons (Rp.dp e d _ h1) (RpA.dp e ds _ h2)
end
mutual
theorem dp_mono {K : PySem.W.Frag} {Z Z' : Hp} (e : Same Z Z') : ∀ (d : PyData) (v : V), Rp K Z v d → Rp K Z' v d
  | .none, _, h => by cases h; exact .non
  | .bool b, _, h => by cases h; exact .bl b
  | .int i, _, h => by cases h; exact .int i
  | .str x, _, h => by cases h; exact .str x
  | .list ds, _, h => by
    cases h with
    | lst hs ha => exact .lst (e _ _ hs) (dpa_mono e ds _ ha)
  | .tuple ds, _, h => by
    cases h with
    | tup hs ha => exact .tup (same_t e hs) (dpa_mono e ds _ ha)
  | .dict _, _, h => by cases h
theorem dpa_mono {K : PySem.W.Frag} {Z Z' : Hp} (e : Same Z Z') : ∀ (ds : List PyData) (vs : List V), RpA K Z vs ds → RpA K Z' vs ds
  | [], _, h => by cases h; exact .nil
  | d :: ds, _, h => by
    cases h with
    | cons h1 h2 => exact .cons (dp_mono e d _ h1) (dpa_mono e ds _ h2)
end
theorem Rp.mono' {K : PySem.W.Frag} {Z Z' : Hp} {d : PyData} {v : V} (h : Rp K Z v d) (e : Same Z Z') : Rp K Z' v d := dp_mono e d v h
theorem RpA.mono' {K : PySem.W.Frag} {Z Z' : Hp} {d : List PyData} {v : List V} (h : RpA K Z v d) (e : Same Z Z') : RpA K Z' v d := dpa_mono e d v h
theorem RpA.len {K : PySem.W.Frag} {Z : Hp} : ∀ {d : List PyData} {v : List V}, RpA K Z v d → v.length = d.length
  | [], _, h => by cases h; rfl
  | _ :: ds, _, h => by
    cases h with
    | cons h1 h2 => simp [RpA.len h2]
theorem RpA.get {K : PySem.W.Frag} {Z : Hp} : ∀ {ds : List PyData} {vs : List V} {i : Nat} {d : PyData}, RpA K Z vs ds → ds[i]? = some d → ∃ v, vs[i]? = some v ∧ Rp K Z v d
  | [], _, _, _, h, e => by simp at e
  | x :: ds, _, 0, d, h, e => by
    cases h with
    | cons h1 h2 => simp at e; subst e; exact ⟨_, rfl, h1⟩
  | x :: ds, _, i + 1, d, h, e => by
    cases h with
    | cons h1 h2 => exact RpA.get (i := i) h2 (by simpa using e)
theorem RpA.get' {K : PySem.W.Frag} {Z : Hp} : ∀ {ds : List PyData} {vs : List V} {i : Nat} {v : V}, RpA K Z vs ds → vs[i]? = some v → ∃ d, ds[i]? = some d ∧ Rp K Z v d
  | [], _, i, v, h, e => by cases h; simp at e
  | x :: ds, _, 0, v, h, e => by
    cases h with
    | cons h1 h2 => simp at e; subst e; exact ⟨_, rfl, h1⟩
  | x :: ds, _, i + 1, v, h, e => by
    cases h with
    | cons h1 h2 => exact RpA.get' (i := i) h2 (by simpa using e)
theorem RpA.app {K : PySem.W.Frag} {Z : Hp} : ∀ {ds es : List PyData} {vs ws : List V}, RpA K Z vs ds → RpA K Z ws es → RpA K Z (vs ++ ws) (ds ++ es)
  | [], _, _, _, h, k => by cases h; exact k
  | x :: ds, _, _, _, h, k => by
    cases h with
    | cons h1 h2 => exact .cons h1 (RpA.app h2 k)
theorem RpA.set {K : PySem.W.Frag} {Z : Hp} {d : PyData} {v : V} (k : Rp K Z v d) : ∀ {ds : List PyData} {vs : List V} {i : Nat}, RpA K Z vs ds → RpA K Z (vs.set i v) (ds.set i d)
  | [], _, _, h => by cases h; exact .nil
  | x :: ds, _, 0, h => by
    cases h with
    | cons h1 h2 => exact .cons k h2
  | x :: ds, _, i + 1, h => by
    cases h with
    | cons h1 h2 => exact .cons h1 (RpA.set k (i := i) h2)
theorem RpA.take {K : PySem.W.Frag} {Z : Hp} : ∀ {ds : List PyData} {vs : List V} (n : Nat), RpA K Z vs ds → RpA K Z (vs.take n) (ds.take n)
  | _, _, 0, _ => .nil
  | [], _, _ + 1, h => by cases h; exact .nil
  | _ :: _, _, n + 1, h => by
    cases h with
    | cons h1 h2 => exact .cons h1 (RpA.take n h2)
theorem RpA.drop {K : PySem.W.Frag} {Z : Hp} : ∀ {ds : List PyData} {vs : List V} (n : Nat), RpA K Z vs ds → RpA K Z (vs.drop n) (ds.drop n)
  | _, _, 0, h => h
  | [], _, _ + 1, h => by cases h; exact .nil
  | _ :: _, _, n + 1, h => by
    cases h with
    | cons h1 h2 => exact RpA.drop n h2
theorem RpA.rev {K : PySem.W.Frag} {Z : Hp} : ∀ {ds : List PyData} {vs : List V}, RpA K Z vs ds → RpA K Z vs.reverse ds.reverse
  | [], _, h => by cases h; exact .nil
  | _ :: _, _, h => by
    cases h with
    | cons h1 h2 => rw [List.reverse_cons, List.reverse_cons]; exact RpA.app (RpA.rev h2) (.cons h1 .nil)

/-- data's own part Z of the heap H: a step that makes new things alone -/
structure Grow (Z H Z' H' : Hp) : Prop where
  z : Same Z Z'
  h : Same H H'
  s : Same Z' H'
  n : ∀ b o, H b = some o → Z' b = Z b
theorem Grow.refl {Z H : Hp} (s : Same Z H) : Grow Z H Z H := ⟨Same.refl Z, Same.refl H, s, fun _ _ _ => rfl⟩
theorem Grow.trans {Z H Z1 H1 Z2 H2 : Hp} (a : Grow Z H Z1 H1) (b : Grow Z1 H1 Z2 H2) : Grow Z H Z2 H2 :=
  ⟨a.z.trans b.z, a.h.trans b.h, b.s, fun c o e => (b.n c o (a.h c o e)).trans (a.n c o e)⟩
theorem same_new {H : Hp} {p : Addr} {o : HO} (h : H p = none) : Same H (upd H p o) := fun b x e => by
  rw [upd_ne (ne_of_none e h)]
  exact e
/-- a new object that belongs to the data -/
theorem Grow.new {Z H : Hp} {p : Addr} {o : HO} (s : Same Z H) (h : H p = none) : Grow Z H (upd Z p o) (upd H p o) := by
  refine ⟨same_new (s.free h), same_new h, fun b x e => ?_, fun b x e => upd_ne (ne_of_none e h)⟩
  by_cases q : b = p
  · subst q; rw [upd_same] at e ⊢; exact e
  · rw [upd_ne q] at e ⊢; exact s b x e

/-! ### names and the store -/
def RepV (K : PySem.W.Frag) (Z : Hp) (B : List Addr) (v : V) : SV → Prop
  | .d x => Rp K Z v x
  | .o j => ∃ a, B[j]? = some a ∧ v = .ref a
  | .s ns => ∃ a, v = .ref a ∧ SqL K Z a (ns.map V.int)
def RepO (K : PySem.W.Frag) (Z : Hp) (B : List Addr) (H : Hp) (j : Nat) : Ob → Prop
  | .l xs => ∃ a vs, B[j]? = some a ∧ Z a = none ∧ H a = some (.lst vs) ∧ RpA K Z vs xs
  | .rows js => ∃ a as, B[j]? = some a ∧ Z a = none ∧ H a = some (.lst (as.map V.ref)) ∧ Paired (fun i b => B[i]? = some b ∧ i < j) js as
  | .dead => True
structure Rl (K : PySem.W.Frag) (Z : Hp) (B : List Addr) (dl : DE) (st : SE) (σ : L2.St) (H : Hp) : Prop where
  sub : Same Z H
  len : dl.length = σ.length
  bl : B.length = st.length
  nd : B.Nodup
  tr : ∀ a ∈ B, H a ≠ none
  rep : ∀ (i : Nat) (sv : SV), dl[i]? = some (some sv) → ∃ v, σ[i]? = some (some v) ∧ RepV K Z B v sv
  obj : ∀ (j : Nat) (ob : Ob), st[j]? = some ob → RepO K Z B H j ob
/-- what a step leaves as it was; B: the store's places -/
structure Ext (B : List Addr) (Z H : Hp) (B' : List Addr) (Z' H' : Hp) : Prop where
  z : Same Z Z'
  h : ∀ b o, H b = some o → b ∉ B → H' b = some o ∧ Z' b = Z b
  t : ∀ b, H' b = none → H b = none
  b : ∃ C, B' = B ++ C ∧ ∀ c ∈ C, H c = none
theorem Ext.refl {B : List Addr} {Z H : Hp} : Ext B Z H B Z H := ⟨Same.refl Z, fun _ _ e _ => ⟨e, rfl⟩, fun _ h => h, [], by simp, fun _ h => nomatch h⟩
theorem Ext.trans {B B1 B2 : List Addr} {Z H Z1 H1 Z2 H2 : Hp} (x : Ext B Z H B1 Z1 H1) (y : Ext B1 Z1 H1 B2 Z2 H2) : Ext B Z H B2 Z2 H2 := by
  obtain ⟨C, rfl, hC⟩ := x.b
  obtain ⟨C', rfl, hC'⟩ := y.b
  refine ⟨x.z.trans y.z, fun b o e nb => ?_, fun b e => x.t b (y.t b e), C ++ C', by simp, fun c hc => ?_⟩
  · obtain ⟨h1, z1⟩ := x.h b o e nb
    have nb1 : b ∉ B ++ C := fun q => by
      rcases List.mem_append.mp q with q | q
      · exact nb q
      · rw [hC b q] at e; cases e
    obtain ⟨h2, z2⟩ := y.h b o h1 nb1
    exact ⟨h2, z2.trans z1⟩
  · rcases List.mem_append.mp hc with q | q
    · exact hC c q
    · exact x.t c (hC' c q)
theorem Grow.ext {B : List Addr} {Z H Z' H' : Hp} (g : Grow Z H Z' H') : Ext B Z H B Z' H' :=
  ⟨g.z, fun b o e _ => ⟨g.h b o e, g.n b o e⟩, fun b e => g.h.free e, [], by simp, fun _ h => nomatch h⟩
theorem RepV.mono {K : PySem.W.Frag} {Z Z' : Hp} {B B' : List Addr} {v : V} {sv : SV} (h : RepV K Z B v sv) (z : Same Z Z') (b : ∃ C, B' = B ++ C) : RepV K Z' B' v sv := by
  cases sv with
  | d x => exact Rp.mono' h z
  | o j =>
    obtain ⟨a, e, r⟩ := h
    obtain ⟨C, rfl⟩ := b
    refine ⟨a, ?_, r⟩
    rw [List.getElem?_append_left (List.getElem?_eq_some_iff.mp e).1]
    exact e
  | s ns =>
    obtain ⟨a, e, r⟩ := h
    exact ⟨a, e, same_l z r⟩
theorem RepO.grow {K : PySem.W.Frag} {Z H Z' H' : Hp} {B : List Addr} {j : Nat} {ob : Ob} (h : RepO K Z B H j ob) (g : Grow Z H Z' H') : RepO K Z' B H' j ob := by
  cases ob with
  | l xs =>
    obtain ⟨a, vs, e, z, q, r⟩ := h
    exact ⟨a, vs, e, (g.n a _ q).trans z, g.h a _ q, r.mono' g.z⟩
  | rows js =>
    obtain ⟨a, as, e, z, q, r⟩ := h
    exact ⟨a, as, e, (g.n a _ q).trans z, g.h a _ q, r⟩
  | dead => trivial
theorem Rl.grow {K : PySem.W.Frag} {Z H Z' H' : Hp} {B : List Addr} {dl : DE} {st : SE} {σ : L2.St} (r : Rl K Z B dl st σ H) (g : Grow Z H Z' H') : Rl K Z' B dl st σ H' :=
  ⟨g.s, r.len, r.bl, r.nd, fun a ha z => r.tr a ha (g.h.free z), fun i sv e => let ⟨v, q, x⟩ := r.rep i sv e; ⟨v, q, x.mono g.z ⟨[], by simp⟩⟩, fun j ob e => (r.obj j ob e).grow g⟩

/-! ### readings -/
/-- what is wanted of an exception: its class's name, what it holds, data's part of the heap, the heap -/
abbrev XW := Str → Option PyData → Hp → Hp → Prop
def Aft (K : PySem.W.Frag) (W : XW) (Z : Hp) (B : List Addr) (dl : DE) (σ : L2.St) (H : Hp) (st' : SE) (Q : VK) : Rs → Prop
  | .ok d => ∀ v Z' H', Rl K Z' B dl st' σ H' → Ext B Z H B Z' H' → Rp K Z' v d → Q v H'
  | .ex c p => ∀ Z' H', Rl K Z' B dl st' σ H' → Ext B Z H B Z' H' → W c p Z' H'
def tE (K : PySem.W.Frag) (W : XW) (f : EF) : TE := fun σ H Q => ∃ Z B dl st r st', Rl K Z B dl st σ H ∧ f dl st = some (r, st') ∧ Aft K W Z B dl σ H st' Q r
/-- an expression and its meaning -/
def JE (X : Cx) (W : XW) (e : Expr) (f : EF) : Prop := PE X e (tE X.K W f)
theorem pe_imp {X : Cx} {e : Expr} {t t' : TE} (h : PE X e t) (k : ∀ σ H Q, t' σ H Q → t σ H Q) : PE X e t' := ⟨fun pins s σ H Q I q => h.run pins s σ H Q I (k σ H Q q)⟩
theorem pt_imp {X : Cx} {e : Expr} {t t' : TT} (h : PT X e t) (k : ∀ σ H Q, t' σ H Q → t σ H Q) : PT X e t' := ⟨fun pins s σ H Q I q => h.run pins s σ H Q I (k σ H Q q)⟩
theorem pw_imp {X : Cx} {e : Expr} {t t' : TT} (h : PW X e t) (k : ∀ σ H Q, t' σ H Q → t σ H Q) : PW X e t' := ⟨fun w pins s σ H Q I q => h.run w pins s σ H Q I (k σ H Q q)⟩
theorem pa_imp {X : Cx} {e : List Expr} {t t' : TA} (h : PA X e t) (k : ∀ σ H Q, t' σ H Q → t σ H Q) : PA X e t' := ⟨fun p pins s σ H Q I q => h.run p pins s σ H Q I (k σ H Q q)⟩
theorem ps_imp {X : Cx} {e : Stmt} {t t' : TS} (h : PS X e t) (k : ∀ D σ H, t' D σ H → t D σ H) : PS X e t' := ⟨fun pins s σ H D I q => h.run pins s σ H D I (k D σ H q)⟩
theorem pss_imp {X : Cx} {e : List Stmt} {t t' : TS} (h : PSs X e t) (k : ∀ D σ H, t' D σ H → t D σ H) : PSs X e t' := ⟨fun pins s σ H D I q => h.run pins s σ H D I (k D σ H q)⟩

def bnd (r : Option (Rs × SE)) (k : PyData → SE → Option (Rs × SE)) : Option (Rs × SE) := match r with
  | some (.ok d, st) => k d st
  | some (.ex c p, st) => some (.ex c p, st)
  | none => none
/-- one thing is evaluated, then the rest -/
def eB (f : EF) (k : PyData → EF) : EF := fun dl st => bnd (f dl st) fun d st1 => k d dl st1
def tK (K : PySem.W.Frag) (W : XW) (k : PyData → EF) (v : V) : TE := fun σ H Q => ∃ Z B dl st d r st', Rl K Z B dl st σ H ∧ Rp K Z v d ∧ k d dl st = some (r, st') ∧ Aft K W Z B dl σ H st' Q r
theorem Aft.ext {K : PySem.W.Frag} {W : XW} {Z Z1 H H1 : Hp} {B : List Addr} {dl : DE} {σ : L2.St} {st' : SE} {Q : VK} {r : Rs} (a : Aft K W Z B dl σ H st' Q r) (x : Ext B Z H B Z1 H1) : Aft K W Z1 B dl σ H1 st' Q r := by
  cases r with
  | ok d => exact fun v Z' H' r' y h => a v Z' H' r' (x.trans y) h
  | ex c p => exact fun Z' H' r' y => a Z' H' r' (x.trans y)
theorem tE_bnd {K : PySem.W.Frag} {W : XW} {f : EF} {k : PyData → EF} {σ : L2.St} {H : Hp} {Q : VK} (h : tE K W (eB f k) σ H Q) : tE K W f σ H fun v H1 => tK K W k v σ H1 Q := by
  obtain ⟨Z, B, dl, st, r, st', rl, e, a⟩ := h
  unfold eB at e
  cases q : f dl st with
  | none => rw [q] at e; cases e
  | some y =>
    obtain ⟨r1, st1⟩ := y
    rw [q] at e
    cases r1 with
    | ok d => exact ⟨Z, B, dl, st, .ok d, st1, rl, q, fun v Z1 H1 rl1 x1 h1 => ⟨Z1, B, dl, st1, d, r, st', rl1, h1, e, a.ext x1⟩⟩
    | ex c p =>
      have e' : some (Rs.ex c p, st1) = some (r, st') := e
      cases e'
      exact ⟨Z, B, dl, st, .ex c p, _, rl, q, a⟩
/-- the rest behind a value that is held: a second expression -/
theorem tK_bnd {K : PySem.W.Frag} {W : XW} {g : PyData → EF} {k : PyData → PyData → EF} {x : V} {σ : L2.St} {H : Hp} {Q : VK} (h : tK K W (fun a => eB (g a) (k a)) x σ H Q) :
    ∃ a, tE K W (g a) σ H fun y H1 => ∃ Z B dl st b r st', Rl K Z B dl st σ H1 ∧ Rp K Z x a ∧ Rp K Z y b ∧ k a b dl st = some (r, st') ∧ Aft K W Z B dl σ H1 st' Q r := by
  obtain ⟨Z, B, dl, st, a, r, st', rl, ha, e, af⟩ := h
  refine ⟨a, ?_⟩
  have e : bnd (g a dl st) (fun d st1 => k a d dl st1) = some (r, st') := e
  cases q : g a dl st with
  | none => rw [q] at e; cases e
  | some y =>
    obtain ⟨r1, st1⟩ := y
    rw [q] at e
    cases r1 with
    | ok d => exact ⟨Z, B, dl, st, .ok d, st1, rl, q, fun v Z1 H1 rl1 x1 h1 => ⟨Z1, B, dl, st1, d, r, st', rl1, ha.mono' x1.z, h1, e, af.ext x1⟩⟩
    | ex c p =>
      have e' : some (Rs.ex c p, st1) = some (r, st') := e
      cases e'
      exact ⟨Z, B, dl, st, .ex c p, _, rl, q, af⟩

/-- a plain operation's end -/
def Gq (K : PySem.W.Frag) (Z H : Hp) (c : PyData) (Q : VK) : Prop := ∀ v Z' H', Grow Z H Z' H' → Rp K Z' v c → Q v H'
def eR (c : Option PyData) : EF := fun _ st => c.map fun d => (.ok d, st)
theorem Aft.gq {K : PySem.W.Frag} {W : XW} {Z H : Hp} {B : List Addr} {dl : DE} {st st' : SE} {σ : L2.St} {Q : VK} {r : Rs} {c : Option PyData} (rl : Rl K Z B dl st σ H) (e : eR c dl st = some (r, st')) (a : Aft K W Z B dl σ H st' Q r) : ∃ d, c = some d ∧ Gq K Z H d Q := by
  cases c with
  | none => cases e
  | some d =>
    have e' : some (Rs.ok d, st) = some (r, st') := e
    cases e'
    exact ⟨d, rfl, fun v Z' H' g h => a v Z' H' (rl.grow g) g.ext h⟩

/-! ### operations on data -/
def rD2 (K : PySem.W.Frag) (op : PyData → PyData → Option PyData) : R2 := fun x y H Q => ∃ Z a b c, Same Z H ∧ Rp K Z x a ∧ Rp K Z y b ∧ op a b = some c ∧ Gq K Z H c Q
def rD1 (K : PySem.W.Frag) (op : PyData → Option PyData) : V → Hp → VK → Prop := fun x H Q => ∃ Z a c, Same Z H ∧ Rp K Z x a ∧ op a = some c ∧ Gq K Z H c Q
def rDL (K : PySem.W.Frag) (op : List PyData → Option PyData) : List V → Hp → VK → Prop := fun xs H Q => ∃ Z ds c, Same Z H ∧ RpA K Z xs ds ∧ op ds = some c ∧ Gq K Z H c Q
def eBin (op : PyData → PyData → Option PyData) (f g : EF) : EF := eB f fun a => eB g fun b => eR (op a b)
def eUn (op : PyData → Option PyData) (f : EF) : EF := eB f fun a => eR (op a)
theorem tE_bin {K : PySem.W.Frag} {W : XW} {op : PyData → PyData → Option PyData} {f g : EF} {σ : L2.St} {H : Hp} {Q : VK} (h : tE K W (eBin op f g) σ H Q) : tOp (rD2 K op) (tE K W f) (tE K W g) σ H Q := by
  obtain ⟨Z, B, dl, st, r, st', rl, e, a⟩ := tE_bnd h
  refine ⟨Z, B, dl, st, r, st', rl, e, ?_⟩
  cases r with
  | ex c p => exact a
  | ok d =>
    refine fun v Z' H' rl' x' h' => ?_
    obtain ⟨a1, z⟩ := tK_bnd (g := fun _ => g) (a v Z' H' rl' x' h')
    obtain ⟨Z2, B2, dl2, st2, r2, st2', rl2, e2, af2⟩ := z
    refine ⟨Z2, B2, dl2, st2, r2, st2', rl2, e2, ?_⟩
    cases r2 with
    | ex c p => exact af2
    | ok d2 =>
      refine fun v3 Z3 H3 rl3 x3 h3 => ?_
      obtain ⟨Z4, B4, dl4, st4, b4, r4, st4', rl4, ha4, hb4, e4, af4⟩ := af2 v3 Z3 H3 rl3 x3 h3
      obtain ⟨c, ec, gq⟩ := Aft.gq rl4 e4 af4
      exact ⟨Z4, a1, b4, c, rl4.sub, ha4, hb4, ec, gq⟩
theorem tE_un {K : PySem.W.Frag} {W : XW} {op : PyData → Option PyData} {f : EF} {σ : L2.St} {H : Hp} {Q : VK} (h : tE K W (eUn op f) σ H Q) : tUn (rD1 K op) (tE K W f) σ H Q := by
  obtain ⟨Z, B, dl, st, r, st', rl, e, a⟩ := tE_bnd h
  refine ⟨Z, B, dl, st, r, st', rl, e, ?_⟩
  cases r with
  | ex c p => exact a
  | ok d =>
    refine fun v Z' H' rl' x' h' => ?_
    obtain ⟨Z4, B4, dl4, st4, b4, r4, st4', rl4, ha4, e4, af4⟩ := a v Z' H' rl' x' h'
    obtain ⟨c, ec, gq⟩ := Aft.gq rl4 e4 af4
    exact ⟨Z4, b4, c, rl4.sub, ha4, ec, gq⟩
section
variable {X : Cx} {W : XW} {a b c : Expr} {f g h : EF} {pos : Pos}
theorem xe_bin {op : Operator} {p : PyData → PyData → Option PyData} (ho : OpR X (binaryOp op) (rD2 X.K p)) (ha : JE X W a f) (hb : JE X W b g) : JE X W (.BinOp a op b pos) (eBin p f g) := pe_imp (pe_op ho ha hb) fun _ _ _ q => tE_bin q
theorem xe_un {op : UnaryOp} {p : PyData → Option PyData} (ho : UnR X (unaryOp op) (rD1 X.K p)) (ha : JE X W a f) : JE X W (.UnaryOp op a pos) (eUn p f) := pe_imp (pe_un ho ha) fun _ _ _ q => tE_un q
theorem xe_cmp {op : CmpOp} {p : PyData → PyData → Option PyData} (ho : OpR X (compareOp op) (rD2 X.K p)) (ha : JE X W a f) (hb : JE X W b g) (hm : behindInMarks op b = false := by first | exact nomark _ | rfl) : JE X W (.Compare a [op] [b] pos) (eBin p f g) :=
  pe_imp (pe_cmpR ho ha hb hm) fun _ _ _ q => tE_bin q
/-! ### names, constants -/
def eV (i : Nat) : EF := fun dl st => match dl[i]? with
  | some (some (.d x)) => some (.ok x, st)
  | _ => none
def eC (d : PyData) : EF := fun _ st => some (.ok d, st)
theorem xe_var {i : Nat} {x : Str} (hN : X.N[i]? = some x := by rfl) (hv : Vis X.env.scope x := by first | exact Or.inl rfl | exact Or.inr (Or.inl rfl) | exact Or.inr (Or.inr rfl)) (hd : (x == ("__debug__" : Str)) = false := by decide)
    (hcd : (x == ("__classdict__" : Str)) = false := by decide) : JE X W (.Name x pos) (eV i) := by
  refine pe_imp (pe_var (i := i) hN hv hd hcd) fun σ H Q q => ?_
  obtain ⟨Z, B, dl, st, r, st', rl, e, af⟩ := q
  unfold eV at e
  split at e
  · rename_i x hx
    cases e
    obtain ⟨v, hv, rv⟩ := rl.rep i _ hx
    exact ⟨v, hv, af v Z H rl Ext.refl rv⟩
  · cases e
theorem tE_c {K : PySem.W.Frag} {d : PyData} {v : V} {σ : L2.St} {H : Hp} {Q : VK} (hd : ∀ Z, Rp K Z v d) (q : tE K W (eC d) σ H Q) : tC v σ H Q := by
  obtain ⟨Z, B, dl, st, r, st', rl, e, af⟩ := q
  cases e
  exact af v Z H rl Ext.refl (hd Z)
theorem xe_int {i : Int} {j : Nat} : JE X W (.Constant (.int i) j pos) (eC (.int i)) := pe_imp pe_int fun _ _ _ q => tE_c (fun _ => .int i) q
theorem xe_bl {i : Bool} {j : Nat} : JE X W (.Constant (.bool i) j pos) (eC (.bool i)) := pe_imp pe_bl fun _ _ _ q => tE_c (fun _ => .bl i) q
theorem xe_non {j : Nat} : JE X W (.Constant .none j pos) (eC .none) := pe_imp pe_non fun _ _ _ q => tE_c (fun _ => .non) q
theorem xe_str {i : Str} {j : Nat} : JE X W (.Constant (.str i) j pos) (eC (.str i)) := pe_imp pe_str fun _ _ _ q => tE_c (fun _ => .str i) q
/-- a constant of the module -/
theorem xe_glob {x : Str} {u : Value} {v : V} {d : PyData} (hm : X.mg x = some u) (r : RelV v u) (hd : ∀ Z, Rp X.K Z v d) (hg : Gl X x := by rfl) (hb : (x == ("__debug__" : Str)) = false := by decide) : JE X W (.Name x pos) (eC d) := pe_imp (pe_glob hg hm r hb) fun _ _ _ q => tE_c hd q
end
end DL
set_option autoImplicit false
namespace DL
open PySem PySem.Spec PyProof.Rows L2

/-! ### the context of a body -/
/-- an exception as it lies: its class by name; what it holds (NoPlace's place) -/
def XWof (K : PySem.W.Frag) (mg : Str → Option Value) (E : XK) : XW := fun c p Z H => ∀ C, mg c = some (.ref C) → match p with
  | none => E (.ref C) none H
  | some x => ∀ d v, H d = some (.xd [(("place" : Str), v)]) → Rp K Z v x → E (.ref C) (some d) H
structure Cxe (X : Cx) (W : XW) (k : Nat) : Prop where
  px : ∃ E, W = XWof X.K X.mg E ∧ Passes (L2.CX X.prog X.w) X E
  hr : Room k X.A
  calm : X.calm = true
  nd : X.N.Nodup
abbrev W0 (X : Cx) : XW := XWof X.K X.mg E0
theorem Cxe.blk {X : Cx} {W : XW} {k : Nat} (c : Cxe X W k) (s : Shared) (H : Hp) (scope : Scope) (cenv : PySem.Env) (fp : List Addr) : Cxe (X.blk s H scope cenv fp) (W0 X) k :=
  ⟨⟨E0, rfl, passL⟩, c.hr, c.calm, c.nd⟩

theorem tE_mono {K : PySem.W.Frag} {W : XW} {f : EF} {σ : L2.St} {H : Hp} {Q Q' : VK} (h : tE K W f σ H Q) (q : ∀ v H1, Q v H1 → Q' v H1) : tE K W f σ H Q' := by
  obtain ⟨Z, B, dl, st, r, st', rl, e, a⟩ := h
  refine ⟨Z, B, dl, st, r, st', rl, e, ?_⟩
  cases r with
  | ok d => exact fun v Z' H' r' y h => q _ _ (a v Z' H' r' y h)
  | ex c p => exact a

/-! ### tests -/
def JT (X : Cx) (W : XW) (e : Expr) (f : EF) : Prop := PT X e (tB (tE X.K W f))
def JW (X : Cx) (W : XW) (e : Expr) (f : EF) : Prop := PW X e (tB (tE X.K W f))
def pNot : PyData → Option PyData
  | .bool b => some (.bool (!b))
  | _ => none
def eAnd (f g : EF) : EF := eB f fun a => match a with
  | .bool true => g
  | .bool false => eC (.bool false)
  | _ => fun _ _ => none
def eOr (f g : EF) : EF := eB f fun a => match a with
  | .bool true => eC (.bool true)
  | .bool false => g
  | _ => fun _ _ => none
def eIf (c f g : EF) : EF := eB c fun a => match a with
  | .bool true => f
  | .bool false => g
  | _ => fun _ _ => none
theorem dp_bool {K : PySem.W.Frag} {Z : Hp} {v : V} {b : Bool} (h : Rp K Z v (.bool b)) : v = .bl b := by cases h; rfl
theorem dp_int {K : PySem.W.Frag} {Z : Hp} {v : V} {i : Int} (h : Rp K Z v (.int i)) : v = .int i := by cases h; rfl
theorem dp_str {K : PySem.W.Frag} {Z : Hp} {v : V} {i : Str} (h : Rp K Z v (.str i)) : v = .str i := by cases h; rfl
theorem dp_none {K : PySem.W.Frag} {Z : Hp} {v : V} (h : Rp K Z v .none) : v = .non := by cases h; rfl
/-- a bool is asked, then one of two -/
theorem tE_two {K : PySem.W.Frag} {W : XW} {f : EF} {g1 g2 : EF} {k : PyData → EF} {σ : L2.St} {H : Hp} {Q : VK} (h : tE K W (eB f k) σ H Q) (hk : k = fun a => match a with
  | .bool true => g1
  | .bool false => g2
  | _ => fun _ _ => none) : tE K W f σ H fun v H1 => ∃ c, v = .bl c ∧ if c = true then tE K W g1 σ H1 Q else tE K W g2 σ H1 Q := by
  refine tE_mono (tE_bnd h) fun v H1 q => ?_
  obtain ⟨Z, B, dl, st, d, r, st', rl, hd, e, a⟩ := q
  subst hk
  cases d with
  | bool b =>
    refine ⟨b, dp_bool hd, ?_⟩
    cases b with
    | true => rw [if_pos rfl]; exact ⟨Z, B, dl, st, r, st', rl, e, a⟩
    | false => rw [if_neg Bool.false_ne_true]; exact ⟨Z, B, dl, st, r, st', rl, e, a⟩
  | _ => cases e
theorem tE_ret {K : PySem.W.Frag} {W : XW} {d : PyData} {v : V} {σ : L2.St} {H : Hp} {Q : VK} (hd : ∀ Z, Rp K Z v d) (q : tE K W (eC d) σ H Q) : Q v H := tE_c hd q
section
variable {X : Cx} {W : XW} {a b c : Expr} {rest : List Expr} {f g h : EF} {pos : Pos}
theorem jt_val (ha : JE X W a f) (he : ∀ whole, isTrue a X.env whole = (do let v ← whole; standAt a.pos; holding [v] (truthy v)) := by intro _; rfl) : JT X W a f := pt_val ha he
theorem jt_cmp {op : CmpOp} {p : PyData → PyData → Option PyData} (ho : OpR X (compareOp op) (rD2 X.K p)) (ha : JE X W a f) (hb : JE X W b g) (hm : behindInMarks op b = false := by first | exact nomark _ | rfl) : JT X W (.Compare a [op] [b] pos) (eBin p f g) :=
  pt_imp (pt_cmpR ho ha hb hm) fun _ _ _ q => tE_bin q
theorem jt_not (ha : JT X W a f) : JT X W (.UnaryOp .Not a pos) (eUn pNot f) := by
  refine pt_imp (pt_not ha) fun σ H Q q => ?_
  show tE X.K W f σ H _
  refine tE_mono (tE_bnd q) fun v H1 q => ?_
  obtain ⟨Z, B, dl, st, d, r, st', rl, hd, e, a⟩ := q
  cases d with
  | bool b =>
    refine ⟨b, dp_bool hd, ?_⟩
    obtain ⟨d', ed, gq⟩ := Aft.gq rl e a
    cases ed
    obtain ⟨b', e', q'⟩ := gq (.bl (!b)) Z H1 (Grow.refl rl.sub) (.bl _)
    cases e'
    exact q'
  | _ => cases e
theorem jw_and1 (ha : JT X W a f) : JW X W (.BoolOp .And [a] pos) f := pw_and1 ha
theorem jw_or1 (ha : JT X W a f) : JW X W (.BoolOp .Or [a] pos) f := pw_or1 ha
theorem jw_and (ha : JT X W a f) (hb : JW X W (.BoolOp .And (b :: rest) pos) g) : JW X W (.BoolOp .And (a :: b :: rest) pos) (eAnd f g) := by
  refine pw_imp (pw_and ha hb) fun σ H Q q => ?_
  show tE X.K W f σ H _
  refine tE_mono (tE_two q rfl) fun v H1 q => ?_
  obtain ⟨b, e, q⟩ := q
  refine ⟨b, e, ?_⟩
  cases b with
  | true => exact q
  | false =>
    rw [if_neg Bool.false_ne_true] at q ⊢
    obtain ⟨c, e, q⟩ := tE_ret (fun _ => Rp.bl false) q
    cases e
    exact q
theorem jw_or (ha : JT X W a f) (hb : JW X W (.BoolOp .Or (b :: rest) pos) g) : JW X W (.BoolOp .Or (a :: b :: rest) pos) (eOr f g) := by
  refine pw_imp (pw_or ha hb) fun σ H Q q => ?_
  show tE X.K W f σ H _
  refine tE_mono (tE_two q rfl) fun v H1 q => ?_
  obtain ⟨b, e, q⟩ := q
  refine ⟨b, e, ?_⟩
  cases b with
  | false => exact q
  | true =>
    rw [if_pos rfl] at q ⊢
    obtain ⟨c, e, q⟩ := tE_ret (fun _ => Rp.bl true) q
    cases e
    exact q
theorem jt_w (h : JW X W a f) : JT X W a f := PW.pt h
/-! as values -/
theorem je_not (ha : JE X W a f) : JE X W (.UnaryOp .Not a pos) (eUn pNot f) := by
  refine pe_imp (pe_not ha) fun σ H Q q => ?_
  refine tE_mono (tE_bnd q) fun v H1 q => ?_
  obtain ⟨Z, B, dl, st, d, r, st', rl, hd, e, a⟩ := q
  cases d with
  | bool b =>
    refine ⟨b, dp_bool hd, ?_⟩
    obtain ⟨d', ed, gq⟩ := Aft.gq rl e a
    cases ed
    exact gq (.bl (!b)) Z H1 (Grow.refl rl.sub) (.bl _)
  | _ => cases e
theorem je_one {op : BoolOp} (ha : JE X W a f) : JE X W (.BoolOp op [a] pos) f := pe_one ha
theorem je_and (ha : JE X W a f) (hb : JE X W (.BoolOp .And (b :: rest) pos) g) : JE X W (.BoolOp .And (a :: b :: rest) pos) (eAnd f g) := by
  refine pe_imp (pe_and ha hb) fun σ H Q q => ?_
  refine tE_mono (tE_two q rfl) fun v H1 q => ?_
  obtain ⟨b, e, q⟩ := q
  refine ⟨b, e, ?_⟩
  cases b with
  | true => exact q
  | false =>
    rw [if_neg Bool.false_ne_true] at q ⊢
    exact tE_ret (fun _ => Rp.bl false) q
theorem je_or (ha : JE X W a f) (hb : JE X W (.BoolOp .Or (b :: rest) pos) g) : JE X W (.BoolOp .Or (a :: b :: rest) pos) (eOr f g) := by
  refine pe_imp (pe_or ha hb) fun σ H Q q => ?_
  refine tE_mono (tE_two q rfl) fun v H1 q => ?_
  obtain ⟨b, e, q⟩ := q
  refine ⟨b, e, ?_⟩
  cases b with
  | false => exact q
  | true =>
    rw [if_pos rfl] at q ⊢
    exact tE_ret (fun _ => Rp.bl true) q
theorem je_if (hc : JT X W c h) (ha : JE X W a f) (hb : JE X W b g) : JE X W (.IfExp c a b pos) (eIf h f g) := by
  refine pe_imp (pe_ifExp hc ha hb) fun σ H Q q => ?_
  show tE X.K W h σ H _
  exact tE_two q rfl
end

/-! ### arguments -/
def RVs (K : PySem.W.Frag) (Z : Hp) (B : List Addr) : List V → List SV → Prop := Paired (fun v sv => RepV K Z B v sv)
theorem RVs.mono {K : PySem.W.Frag} {Z Z' : Hp} {B B' : List Addr} (z : Same Z Z') (b : ∃ C, B' = B ++ C) : ∀ {vs : List V} {svs : List SV}, RVs K Z B vs svs → RVs K Z' B' vs svs
  | _, _, .nil => .nil
  | _, _, .cons h t => .cons (h.mono z b) (RVs.mono z b t)
def AftA (K : PySem.W.Frag) (W : XW) (Z : Hp) (B : List Addr) (dl : DE) (σ : L2.St) (H : Hp) (st' : SE) (Q : List V → Hp → Prop) : RA → Prop
  | .ok svs => ∀ vs Z' H', Rl K Z' B dl st' σ H' → Ext B Z H B Z' H' → RVs K Z' B vs svs → Q vs H'
  | .ex c p => ∀ Z' H', Rl K Z' B dl st' σ H' → Ext B Z H B Z' H' → W c p Z' H'
theorem AftA.ext {K : PySem.W.Frag} {W : XW} {Z Z1 H H1 : Hp} {B : List Addr} {dl : DE} {σ : L2.St} {st' : SE} {Q : List V → Hp → Prop} {r : RA} (a : AftA K W Z B dl σ H st' Q r) (x : Ext B Z H B Z1 H1) : AftA K W Z1 B dl σ H1 st' Q r := by
  cases r with
  | ok d => exact fun v Z' H' r' y h => a v Z' H' r' (x.trans y) h
  | ex c p => exact fun Z' H' r' y => a Z' H' r' (x.trans y)
def tA (K : PySem.W.Frag) (W : XW) (g : AF) : TA := fun σ H Q => ∃ Z B dl st r st', Rl K Z B dl st σ H ∧ g dl st = some (r, st') ∧ AftA K W Z B dl σ H st' Q r
def JA (X : Cx) (W : XW) (es : List Expr) (g : AF) : Prop := PA X es (tA X.K W g)
def aN : AF := fun _ st => some (.ok [], st)
def consA (v : SV) (r : Option (RA × SE)) : Option (RA × SE) := match r with
  | some (.ok vs, st) => some (.ok (v :: vs), st)
  | r => r
/-- data, then the rest -/
def aD (f : EF) (g : AF) : AF := fun dl st => match f dl st with
  | some (.ok d, st1) => consA (.d d) (g dl st1)
  | some (.ex c p, st1) => some (.ex c p, st1)
  | none => none
/-- an object of the store, by its name -/
def aO (i : Nat) (g : AF) : AF := fun dl st => match dl[i]? with
  | some (some v) => consA v (g dl st)
  | _ => none
theorem consA_some {v : SV} {r : Option (RA × SE)} {a : RA} {st' : SE} (h : consA v r = some (a, st')) : (∃ vs, r = some (.ok vs, st') ∧ a = .ok (v :: vs)) ∨ (∃ c p, r = some (.ex c p, st') ∧ a = .ex c p) := by
  cases r with
  | none => cases h
  | some y =>
    obtain ⟨y, s⟩ := y
    cases y with
    | ok vs => cases h; exact .inl ⟨vs, rfl, rfl⟩
    | ex c p => cases h; exact .inr ⟨c, p, rfl, rfl⟩
theorem tA_rest {K : PySem.W.Frag} {W : XW} {Z H : Hp} {B : List Addr} {dl : DE} {st st' : SE} {σ : L2.St} {v : V} {sv : SV} {g : AF} {Q : List V → Hp → Prop} {r : RA} (rl : Rl K Z B dl st σ H) (hv : RepV K Z B v sv) (e : consA sv (g dl st) = some (r, st'))
    (a : AftA K W Z B dl σ H st' Q r) : tA K W g σ H fun vs H1 => Q (v :: vs) H1 := by
  rcases consA_some e with ⟨vs, e1, rfl⟩ | ⟨c, p, e1, rfl⟩
  · exact ⟨Z, B, dl, st, _, st', rl, e1, fun ws Z' H' rl' x' h' => a (v :: ws) Z' H' rl' x' (.cons (hv.mono x'.z ⟨[], by simp⟩) h')⟩
  · exact ⟨Z, B, dl, st, _, st', rl, e1, a⟩
section
variable {X : Cx} {W : XW} {e : Expr} {es : List Expr} {f : EF} {g : AF} {pos : Pos}
theorem ja_nil : JA X W [] aN := by
  refine pa_imp pa_nil fun σ H Q q => ?_
  obtain ⟨Z, B, dl, st, r, st', rl, e, a⟩ := q
  cases e
  exact a [] Z H rl Ext.refl .nil
theorem ja_cons (ha : JE X W e f) (hr : JA X W es g) (hs : starEach (e :: es) X.env = (false, eval e X.env) :: starEach es X.env := by rfl) : JA X W (e :: es) (aD f g) := by
  refine pa_imp (pa_cons ha hr hs) fun σ H Q q => ?_
  obtain ⟨Z, B, dl, st, r, st', rl, e, a⟩ := q
  unfold aD at e
  split at e
  · rename_i d st1 e1
    exact ⟨Z, B, dl, st, .ok d, st1, rl, e1, fun v Z' H' rl' x' h' => tA_rest (sv := .d d) rl' h' e (a.ext x')⟩
  · rename_i c p st1 e1
    cases e
    exact ⟨Z, B, dl, st, .ex c p, _, rl, e1, a⟩
  · cases e
theorem ja_ref {i : Nat} {x : Str} {p' : Pos} (hr : JA X W es g) (hs : starEach (.Name x p' :: es) X.env = (false, eval (.Name x p') X.env) :: starEach es X.env := by rfl)
    (hN : X.N[i]? = some x := by rfl) (hv : Vis X.env.scope x := by first | exact Or.inl rfl | exact Or.inr (Or.inl rfl) | exact Or.inr (Or.inr rfl)) (hd : (x == ("__debug__" : Str)) = false := by decide)
    (hcd : (x == ("__classdict__" : Str)) = false := by decide) : JA X W (.Name x p' :: es) (aO i g) := by
  refine pa_imp (pa_cons (pe_var (i := i) hN hv hd hcd) hr hs) fun σ H Q q => ?_
  obtain ⟨Z, B, dl, st, r, st', rl, e, a⟩ := q
  unfold aO at e
  split at e
  · rename_i j hj
    obtain ⟨v, ev, rv⟩ := rl.rep i _ hj
    exact ⟨v, ev, tA_rest rl rv e a⟩
  · cases e
end

/-! ### displays, calls of built-ins -/
def svD : List SV → Option (List PyData)
  | [] => some []
  | .d x :: r => (svD r).map (x :: ·)
  | .o _ :: _ => none
  | .s _ :: _ => none
def eA (g : AF) (k : List SV → EF) : EF := fun dl st => match g dl st with
  | some (.ok vs, st1) => k vs dl st1
  | some (.ex c p, st1) => some (.ex c p, st1)
  | none => none
def eAD (g : AF) (k : List PyData → EF) : EF := eA g fun vs dl st => match svD vs with
  | some ds => k ds dl st
  | none => none
theorem rvs_data {K : PySem.W.Frag} {Z : Hp} {B : List Addr} : ∀ {vs : List V} {svs : List SV} {ds : List PyData}, RVs K Z B vs svs → svD svs = some ds → RpA K Z vs ds
  | _, _, _, .nil, e => by cases e; exact .nil
  | _, .d x :: svs, ds, .cons h t, e => by
    unfold svD at e
    cases q : svD svs with
    | none => rw [q] at e; cases e
    | some es =>
      rw [q] at e
      cases e
      exact .cons h (rvs_data t q)
  | _, .o _ :: _, _, .cons h t, e => by cases e
  | _, .s _ :: _, _, .cons h t, e => by cases e
theorem tE_args {K : PySem.W.Frag} {W : XW} {g : AF} {k : List SV → EF} {σ : L2.St} {H : Hp} {Q : VK} (h : tE K W (eA g k) σ H Q) : tA K W g σ H fun vs H1 => ∃ Z B dl st svs r st', Rl K Z B dl st σ H1 ∧ RVs K Z B vs svs ∧ k svs dl st = some (r, st') ∧ Aft K W Z B dl σ H1 st' Q r := by
  obtain ⟨Z, B, dl, st, r, st', rl, e, a⟩ := h
  unfold eA at e
  split at e
  · rename_i svs st1 e1
    exact ⟨Z, B, dl, st, _, _, rl, e1, fun vs Z' H' rl' x' h' => ⟨Z', B, dl, st1, svs, r, st', rl', h', e, a.ext x'⟩⟩
  · rename_i c p st1 e1
    cases e
    exact ⟨Z, B, dl, st, _, _, rl, e1, a⟩
  · cases e
theorem tA_mono {K : PySem.W.Frag} {W : XW} {f : AF} {σ : L2.St} {H : Hp} {Q Q' : List V → Hp → Prop} (h : tA K W f σ H Q) (q : ∀ v H1, Q v H1 → Q' v H1) : tA K W f σ H Q' := by
  obtain ⟨Z, B, dl, st, r, st', rl, e, a⟩ := h
  refine ⟨Z, B, dl, st, r, st', rl, e, ?_⟩
  cases r with
  | ok d => exact fun v Z' H' r' y h => q _ _ (a v Z' H' r' y h)
  | ex c p => exact a
theorem tE_argsD {K : PySem.W.Frag} {W : XW} {g : AF} {op : List PyData → Option PyData} {σ : L2.St} {H : Hp} {Q : VK} (h : tE K W (eAD g fun ds => eR (op ds)) σ H Q) : tA K W g σ H fun vs H1 => rDL K op vs H1 Q := by
  refine tA_mono (tE_args h) fun vs H1 q => ?_
  obtain ⟨Z, B, dl, st, svs, r, st', rl, hv, e, a⟩ := q
  dsimp only at e
  cases q : svD svs with
  | none => rw [q] at e; cases e
  | some ds =>
    rw [q] at e
    obtain ⟨c, ec, gq⟩ := Aft.gq rl e a
    exact ⟨Z, ds, c, rl.sub, rvs_data hv q, ec, gq⟩
def pTup : List PyData → Option PyData := fun ds => if ds.length ≤ 1000 then some (.tuple ds) else none
def pLst : List PyData → Option PyData := fun ds => if ds.length ≤ 1000 then some (.list ds) else none
/-- a call of a built-in, of a built-in type -/
def eCB (op : List PyData → Option PyData) (g : AF) : EF := eAD g fun ds => eR (op ds)
theorem sz1000 {n : Nat} (h : n ≤ 1000) : n ≤ sizeLine := Nat.le_trans h (by decide)
section
variable {X : Cx} {W : XW} {e : Expr} {es : List Expr} {f : EF} {g : AF} {pos : Pos} {id T : String} {x : Str} {p : Pos} {op : List PyData → Option PyData}
theorem je_tup {k : Nat} (ha : JA X W es g) : JE X W (.Tuple es k pos) (eCB pTup g) := by
  refine pe_imp (pe_tup ha) fun σ H Q q => ?_
  refine tA_mono (tE_argsD q) fun vs H1 q => ?_
  obtain ⟨Z, ds, c, s, h, ec, gq⟩ := q
  unfold pTup at ec
  split at ec
  · rename_i hl
    cases ec
    refine ⟨sz1000 (h.len ▸ hl), fun p hp => ?_⟩
    have gr := Grow.new (o := .tup vs) s hp
    exact gq _ _ _ gr (.tup (.inl (.inl upd_same)) (h.mono' gr.z))
  · cases ec
theorem je_lst (ha : JA X W es g) : JE X W (.List es pos) (eCB pLst g) := by
  refine pe_imp (pe_lst ha) fun σ H Q q => ?_
  refine tA_mono (tE_argsD q) fun vs H1 q => ?_
  obtain ⟨Z, ds, c, s, h, ec, gq⟩ := q
  unfold pLst at ec
  split at ec
  · rename_i hl
    cases ec
    refine ⟨sz1000 (h.len ▸ hl), fun p hp => ?_⟩
    have gr := Grow.new (o := .lst vs) s hp
    exact gq _ _ _ gr (.lst upd_same (h.mono' gr.z))
  · cases ec
theorem je_callB (hc : CallR X (.builtin id) (rDL X.K op)) (hm : X.mg x = none) (ha : JA X W (e :: es) g) (hv : bootBuiltins x = some (.builtin id) := by decide +kernel) (hg : Gl X x := by rfl) (hn : x ≠ "__name__" := by decide) (hdb : (x == ("__debug__" : Str)) = false := by decide)
    (he : starEach (e :: es) X.env = (false, eval e X.env) :: starEach es X.env := by rfl) (hpl : (backTo pos (starEach es X.env)).any (·.1) = false := by rfl) : JE X W (.Call (.Name x p) (e :: es) [] pos) (eCB op g) :=
  pe_imp (pe_callB hc hg hm hv ha hn hdb he hpl) fun _ _ _ q => tE_argsD q
theorem je_callTy (hc : CallR X (.type T) (rDL X.K op)) (hm : X.mg x = none) (ha : JA X W (e :: es) g) (hv : bootBuiltins x = some (.type T) := by decide +kernel) (hg : Gl X x := by rfl) (hn : x ≠ "__name__" := by decide) (hdb : (x == ("__debug__" : Str)) = false := by decide)
    (he : starEach (e :: es) X.env = (false, eval e X.env) :: starEach es X.env := by rfl) (hpl : (backTo pos (starEach es X.env)).any (·.1) = false := by rfl) : JE X W (.Call (.Name x p) (e :: es) [] pos) (eCB op g) :=
  pe_imp (pe_callTy hc hg hm hv ha hn hdb he hpl) fun _ _ _ q => tE_argsD q
end

/-! ### calls of the program's own defs -/
theorem Rl.after {K : PySem.W.Frag} {Z H Z' H' : Hp} {B : List Addr} {dl : DE} {st st' : SE} {σ : L2.St} (r : Rl K Z B dl st σ H) (x : Ext B Z H B Z' H') (q : Rl K Z' B [] st' [] H') : Rl K Z' B dl st' σ H' :=
  ⟨q.sub, r.len, q.bl, r.nd, q.tr, fun i sv e => let ⟨v, w, y⟩ := r.rep i sv e; ⟨v, w, y.mono x.z ⟨[], by simp⟩⟩, q.obj⟩
def spD (K : PySem.W.Frag) (mg : Str → Option Value) (F : FF) : Sp := fun vs H Q E => ∃ Z B svs st r st', Rl K Z B [] st [] H ∧ RVs K Z B vs svs ∧ F svs st = some (r, st') ∧ match r with
  | .ok d => ∀ v Z' H', Rl K Z' B [] st' [] H' → Ext B Z H B Z' H' → Rp K Z' v d → Q v H'
  | .ex c p => ∀ Z' H', Rl K Z' B [] st' [] H' → Ext B Z H B Z' H' → XWof K mg E c p Z' H'
/-- the def x of the text means F -/
structure FnD (P : Program) (w : World) (K : PySem.W.Frag) (mg : Str → Option Value) (base : Heap) (k : Nat) (x : Str) (F : FF) : Prop where
  ex : ∃ f fd ps, mg x = some (.ref f) ∧ PySem.W.keepIn K (.ref f) = true ∧ Binds K fd ps [] ∧ FnOk P w K mg base (L2.CX P w) k f fd ps (spD K mg F)
def eCall (F : FF) (g : AF) : EF := eA g fun vs _ st => F vs st
theorem Rl.bare {K : PySem.W.Frag} {Z H : Hp} {B : List Addr} {dl : DE} {st : SE} {σ : L2.St} (r : Rl K Z B dl st σ H) : Rl K Z B [] st [] H :=
  ⟨r.sub, rfl, r.bl, r.nd, r.tr, fun i sv e => by simp at e, r.obj⟩
section
variable {X : Cx} {W : XW} {e : Expr} {es : List Expr} {f : EF} {g : AF} {pos p : Pos} {x : Str} {k m : Nat} {F : FF}
theorem je_call (G : FnD X.prog X.w X.K X.mg X.base m x F) (c : Cxe X W k) (hk : m ≤ k) (ha : JA X W (e :: es) g) (hg : Gl X x := by rfl) (hdb : (x == ("__debug__" : Str)) = false := by decide)
    (he : starEach (e :: es) X.env = (false, eval e X.env) :: starEach es X.env := by rfl) (hpl : (backTo pos (starEach es X.env)).any (·.1) = false := by rfl) : JE X W (.Call (.Name x p) (e :: es) [] pos) (eCall F g) := by
  obtain ⟨fa, fd, ps, hm, kp, hb, ok⟩ := G.ex
  obtain ⟨E, hW, hx⟩ := c.px
  refine pe_imp (pe_call ok (c.hr.mono hk) hg hm kp hb .nil hx ha hdb he hpl) fun σ H Q q => ?_
  refine tA_mono (tE_args q) fun vs H1 q => ?_
  obtain ⟨Z, B, dl, st, svs, r, st', rl, hv, e, a⟩ := q
  show spD X.K X.mg F (vs ++ []) H1 Q E
  rw [List.append_nil]
  refine ⟨Z, B, svs, st, r, st', rl.bare, hv, e, ?_⟩
  cases r with
  | ok d => exact fun v Z' H' rl' x' h' => a v Z' H' (rl.after x' rl') x' h'
  | ex c p =>
    subst hW
    exact fun Z' H' rl' x' => a Z' H' (rl.after x' rl') x'
end
end DL
set_option autoImplicit false
namespace DL
open PySem PySem.Spec PyProof.Rows L2

/-! ### statements -/
structure Cxs (X : Cx) (W : XW) (k : Nat) : Prop extends Cxe X W k where
  po : PassesOwn (model X.prog X.w) X.A X.env X.xe
def AftS (K : PySem.W.Frag) (W : XW) (Z : Hp) (B : List Addr) (H : Hp) (D : Ends) : Fl × DE × SE → Prop
  | (.nx, dl', st') => ∀ σ' Z' B' H', Rl K Z' B' dl' st' σ' H' → Ext B Z H B' Z' H' → D.nx σ' H'
  | (.bk, dl', st') => ∀ σ' Z' B' H', Rl K Z' B' dl' st' σ' H' → Ext B Z H B' Z' H' → D.bk σ' H'
  | (.ct, dl', st') => ∀ σ' Z' B' H', Rl K Z' B' dl' st' σ' H' → Ext B Z H B' Z' H' → D.ct σ' H'
  | (.rt d, _, st') => ∀ v Z' B' H', Rl K Z' B' [] st' [] H' → Ext B Z H B' Z' H' → Rp K Z' v d → D.rt v H'
  | (.ex c p, _, st') => ∀ Z' B' H', Rl K Z' B' [] st' [] H' → Ext B Z H B' Z' H' → W c p Z' H'
def tS (K : PySem.W.Frag) (W : XW) (f : SF) : TS := fun D σ H => ∃ Z B dl st r, Rl K Z B dl st σ H ∧ f dl st = some r ∧ AftS K W Z B H D r
def JS (X : Cx) (W : XW) (s : Stmt) (f : SF) : Prop := PS X s (tS X.K W f)
def JSs (X : Cx) (W : XW) (s : List Stmt) (f : SF) : Prop := PSs X s (tS X.K W f)
theorem AftS.ext {K : PySem.W.Frag} {W : XW} {Z H Z1 H1 : Hp} {B B1 : List Addr} {D : Ends} {r : Fl × DE × SE} (a : AftS K W Z B H D r) (x : Ext B Z H B1 Z1 H1) : AftS K W Z1 B1 H1 D r := by
  obtain ⟨fl, dl, st⟩ := r
  cases fl with
  | nx => exact fun σ' Z' B' H' rl y => a σ' Z' B' H' rl (x.trans y)
  | bk => exact fun σ' Z' B' H' rl y => a σ' Z' B' H' rl (x.trans y)
  | ct => exact fun σ' Z' B' H' rl y => a σ' Z' B' H' rl (x.trans y)
  | rt d => exact fun v Z' B' H' rl y h => a v Z' B' H' rl (x.trans y) h
  | ex c p => exact fun Z' B' H' rl y => a Z' B' H' rl (x.trans y)
def sN : SF := fun dl st => some (.nx, dl, st)
def sQ (f g : SF) : SF := fun dl st => match f dl st with
  | some (.nx, dl1, st1) => g dl1 st1
  | r => r
/-- an expression, then what is done with it -/
def sB (f : EF) (k : PyData → SF) : SF := fun dl st => match f dl st with
  | some (.ok d, st1) => k d dl st1
  | some (.ex c p, st1) => some (.ex c p, dl, st1)
  | none => none
theorem tS_bnd {K : PySem.W.Frag} {W : XW} {f : EF} {k : PyData → SF} {D : Ends} {σ : L2.St} {H : Hp} (h : tS K W (sB f k) D σ H) : tE K W f σ H fun v H1 => ∃ Z B dl st d r, Rl K Z B dl st σ H1 ∧ Rp K Z v d ∧ k d dl st = some r ∧ AftS K W Z B H1 D r := by
  obtain ⟨Z, B, dl, st, r, rl, e, a⟩ := h
  unfold sB at e
  split at e
  · rename_i d st1 e1
    exact ⟨Z, B, dl, st, _, _, rl, e1, fun v Z' H' rl' x' h' => ⟨Z', B, dl, st1, d, r, rl', h', e, a.ext x'⟩⟩
  · rename_i c p st1 e1
    cases e
    exact ⟨Z, B, dl, st, _, _, rl, e1, fun Z' H' rl' x' => a Z' B H' rl'.bare x'⟩
  · cases e
section
variable {X : Cx} {W : XW} {s : Stmt} {ss : List Stmt} {f g : SF} {e c : Expr} {ef : EF} {pos : Pos}
theorem jss_nil : JSs X W [] sN := by
  refine pss_imp pss_nil fun D σ H q => ?_
  obtain ⟨Z, B, dl, st, r, rl, e, a⟩ := q
  cases e
  exact a σ Z B H rl Ext.refl
theorem tS_seq {K : PySem.W.Frag} {D : Ends} {σ : L2.St} {H : Hp} (q : tS K W (sQ f g) D σ H) : tSeq (tS K W f) (tS K W g) D σ H := by
  obtain ⟨Z, B, dl, st, r, rl, e, a⟩ := q
  unfold sQ at e
  cases q : f dl st with
  | none => rw [q] at e; cases e
  | some y =>
    obtain ⟨fl, dl1, st1⟩ := y
    rw [q] at e
    refine ⟨Z, B, dl, st, _, rl, q, ?_⟩
    cases fl with
    | nx => exact fun σ' Z' B' H' rl' x' => ⟨Z', B', dl1, st1, r, rl', e, a.ext x'⟩
    | bk => cases e; exact a
    | ct => cases e; exact a
    | rt d => cases e; exact a
    | ex c p => cases e; exact a
theorem jss_cons (h1 : JS X W s f) (h2 : JSs X W ss g) : JSs X W (s :: ss) (sQ f g) := pss_imp (pss_cons h1 h2) fun _ _ _ q => tS_seq q
theorem jss_one (h1 : JS X W s f) : JSs X W [s] f := pss_one h1
theorem js_pass : JS X W (.Pass pos) sN := by
  refine ps_imp ps_pass fun D σ H q => ?_
  obtain ⟨Z, B, dl, st, r, rl, e, a⟩ := q
  cases e
  exact a σ Z B H rl Ext.refl
def sBk : SF := fun dl st => some (.bk, dl, st)
def sCt : SF := fun dl st => some (.ct, dl, st)
theorem js_break : JS X W (.Break pos) sBk := by
  refine ps_imp ps_break fun D σ H q => ?_
  obtain ⟨Z, B, dl, st, r, rl, e, a⟩ := q
  cases e
  exact a σ Z B H rl Ext.refl
theorem js_continue : JS X W (.Continue pos) sCt := by
  refine ps_imp ps_continue fun D σ H q => ?_
  obtain ⟨Z, B, dl, st, r, rl, e, a⟩ := q
  cases e
  exact a σ Z B H rl Ext.refl
/-- e alone -/
def sE (f : EF) : SF := sB f fun _ => sN
theorem js_expr (he : JE X W e ef) (hs : swapsWith e none pos.line X.env = pure false := by rfl) : JS X W (.Expr e pos) (sE ef) := by
  refine ps_imp (ps_expr he hs) fun D σ H q => ?_
  refine tE_mono (tS_bnd q) fun v H1 q => ?_
  obtain ⟨Z, B, dl, st, d, r, rl, hd, e, a⟩ := q
  cases e
  exact a σ Z B H1 rl Ext.refl
/-- return e -/
def sR (f : EF) : SF := sB f fun d dl st => some (.rt d, dl, st)
theorem js_ret (he : JE X W e ef) : JS X W (.Return (some e) pos) (sR ef) := by
  refine ps_imp (ps_ret he) fun D σ H q => ?_
  refine tE_mono (tS_bnd q) fun v H1 q => ?_
  obtain ⟨Z, B, dl, st, d, r, rl, hd, e, a⟩ := q
  cases e
  exact a v Z B H1 rl.bare Ext.refl hd
/-- if -/
def sI (c : EF) (f g : SF) : SF := sB c fun d => match d with
  | .bool true => f
  | .bool false => g
  | _ => fun _ _ => none
theorem js_if {a b : List Stmt} (hc : JT X W c ef) (ha : JSs X W a f) (hb : JSs X W b g) : JS X W (.If c a b pos) (sI ef f g) := by
  refine ps_imp (ps_if hc ha hb) fun D σ H q => ?_
  show tE X.K W ef σ H _
  refine tE_mono (tS_bnd q) fun v H1 q => ?_
  obtain ⟨Z, B, dl, st, d, r, rl, hd, e, a⟩ := q
  cases d with
  | bool b =>
    refine ⟨b, dp_bool hd, ?_⟩
    cases b with
    | true => rw [if_pos rfl]; exact ⟨Z, B, dl, st, r, rl, e, a⟩
    | false => rw [if_neg Bool.false_ne_true]; exact ⟨Z, B, dl, st, r, rl, e, a⟩
  | _ => cases e
end

/-! ### targets -/
abbrev BF := PyData → DE → Option DE
def tG (K : PySem.W.Frag) (vs : List Nat) (bd : BF) : TG := fun v σ H Q => ∃ Z B dl st d dl', Rl K Z B dl st σ H ∧ Rp K Z v d ∧ bd d dl = some dl' ∧ ∀ σ', Rl K Z B dl' st σ' H → σ'.length = σ.length → (∀ j, j ∉ vs → σ'[j]? = σ[j]?) → Q σ' H
def JG (X : Cx) (tg : Expr) (vs : List Nat) (bd : BF) : Prop := PG X tg (tG X.K vs bd)
abbrev BFs := List PyData → DE → Option DE
def tGs (K : PySem.W.Frag) (vs : List Nat) (bd : BFs) : TGs := fun ws σ H Q => ∃ Z B dl st ds dl', Rl K Z B dl st σ H ∧ RpA K Z ws ds ∧ bd ds dl = some dl' ∧ ∀ σ', Rl K Z B dl' st σ' H → σ'.length = σ.length → (∀ j, j ∉ vs → σ'[j]? = σ[j]?) → Q σ' H
def JGs (X : Cx) (tg : List Expr) (vs : List Nat) (bd : BFs) : Prop := PGs X tg (tGs X.K vs bd)
def bN (i : Nat) : BF := fun d dl => some (dl.set i (some (.d d)))
def bsN : BFs := fun ds dl => match ds with
  | [] => some dl
  | _ => none
def bsC (b : BF) (r : BFs) : BFs := fun ds dl => match ds with
  | [] => none
  | d :: ds => match b d dl with
    | some dl1 => r ds dl1
    | none => none
def bT (r : BFs) : BF := fun d dl => match d with
  | .tuple ds => r ds dl
  | _ => none
theorem Rl.setD {K : PySem.W.Frag} {Z H : Hp} {B : List Addr} {dl : DE} {st : SE} {σ : L2.St} {v : V} {sv : SV} (r : Rl K Z B dl st σ H) (i : Nat) (h : RepV K Z B v sv) : Rl K Z B (dl.set i (some sv)) st (σ.set i (some v)) H := by
  refine ⟨r.sub, by simp [r.len], r.bl, r.nd, r.tr, fun j sv' e => ?_, r.obj⟩
  by_cases hj : i = j
  · subst hj
    have hi : i < dl.length := by
      have := (List.getElem?_eq_some_iff.mp e).1
      simpa using this
    rw [List.getElem?_set_self hi] at e
    cases e
    exact ⟨v, by rw [List.getElem?_set_self (by rw [← r.len]; exact hi)], h⟩
  · rw [List.getElem?_set_ne hj] at e
    rw [List.getElem?_set_ne hj]
    exact r.rep j sv' e
section
variable {X : Cx} {W : XW} {pos : Pos}
theorem pg_imp {e : Expr} {t t' : TG} (h : PG X e t) (k : ∀ v σ H Q, t' v σ H Q → t v σ H Q) : PG X e t' := ⟨fun pins s σ H v u Q I r q => h.run pins s σ H v u Q I r (k v σ H Q q)⟩
theorem pgs_imp {e : List Expr} {t t' : TGs} (h : PGs X e t) (k : ∀ v σ H Q, t' v σ H Q → t v σ H Q) : PGs X e t' := ⟨fun pins s σ H v u Q I r q => h.run pins s σ H v u Q I r (k v σ H Q q)⟩
theorem jg_name {i : Nat} {x : Str} (hN : X.N.Nodup) (hi : X.N[i]? = some x := by rfl) (hx : Loc X.env.scope x := by first | exact Or.inl rfl | exact Or.inr rfl) (hf : X.fn x = true ∨ X.env.scope.names.lookup x = some .local := by first | exact .inl rfl | exact .inr rfl) : JG X (.Name x pos) [i] (bN i) := by
  refine pg_imp (pg_name (i := i) hN hi hx hf) fun v σ H Q q => ?_
  obtain ⟨Z, B, dl, st, d, dl', rl, hd, e, q⟩ := q
  cases e
  exact q _ (rl.setD i (sv := .d d) hd) (by simp) fun j hj => by rw [List.getElem?_set_ne (fun z => hj (by simp [z]))]
theorem jgs_nil : JGs X [] [] bsN := by
  refine pgs_imp pgs_nil fun v σ H Q q => ?_
  obtain ⟨Z, B, dl, st, ds, dl', rl, hd, e, q⟩ := q
  cases ds with
  | nil => cases e; cases hd; exact ⟨rfl, q σ rl rfl fun _ _ => rfl⟩
  | cons _ _ => cases e
theorem jgs_cons {e : Expr} {es : List Expr} {vs us : List Nat} {b : BF} {r : BFs} (h1 : JG X e vs b) (h2 : JGs X es us r) (hs : (assignEach (e :: es) X.env).map (·.2) = assign e X.env :: (assignEach es X.env).map (·.2) := by rfl) : JGs X (e :: es) (vs ++ us) (bsC b r) := by
  refine pgs_imp (pgs_cons h1 h2 hs) fun v σ H Q q => ?_
  obtain ⟨Z, B, dl, st, ds, dl', rl, hd, e, q⟩ := q
  cases ds with
  | nil => cases e
  | cons d ds =>
    cases hd with
    | cons hd1 hd2 =>
      rename_i v1 vr
      refine ⟨v1, vr, rfl, ?_⟩
      unfold bsC at e
      dsimp only at e
      cases q1 : b d dl with
      | none => rw [q1] at e; cases e
      | some dl1 =>
        rw [q1] at e
        refine ⟨Z, B, dl, st, d, dl1, rl, hd1, q1, fun σ1 rl1 l1 o1 => ⟨Z, B, dl1, st, ds, dl', rl1, hd2, e, fun σ2 rl2 l2 o2 => q σ2 rl2 (l2.trans l1) fun j hj => ?_⟩⟩
        rw [List.mem_append, not_or] at hj
        exact (o2 j hj.2).trans (o1 j hj.1)
theorem bsC_len {b : BF} {r : BFs} : ∀ {ds : List PyData} {dl dl' : DE}, bsC b r ds dl = some dl' → ∃ d es, ds = d :: es := fun {ds dl dl'} e => by
  cases ds with
  | nil => cases e
  | cons d es => exact ⟨d, es, rfl⟩
theorem jg_tup {es : List Expr} {k n : Nat} {vs : List Nat} {r : BFs} (hc : X.calm = true) (h : JGs X es vs r) (hl : ∀ ds dl dl', r ds dl = some dl' → ds.length = n) (hn : (assignEach es X.env).length = n := by rfl) (hst : (assignEach es X.env).findIdx? (·.1) = none := by rfl) : JG X (.Tuple es k pos) vs (bT r) := by
  refine pg_imp (pg_tup hc h hn hst) fun v σ H Q q => ?_
  obtain ⟨Z, B, dl, st, d, dl', rl, hd, e, q⟩ := q
  cases d with
  | tuple ds =>
    cases hd with
    | tup hs ha => exact ⟨_, _, rfl, same_t rl.sub hs, ha.len.trans (hl _ _ _ e), Z, B, dl, st, ds, dl', rl, ha, e, q⟩
  | _ => cases e
end
theorem bs_len0 (ds : List PyData) (dl dl' : DE) (e : bsN ds dl = some dl') : ds.length = 0 := by
  cases ds with
  | nil => rfl
  | cons _ _ => cases e
theorem bs_lenS {b : BF} {r : BFs} {n : Nat} (h : ∀ ds dl dl', r ds dl = some dl' → ds.length = n) (ds : List PyData) (dl dl' : DE) (e : bsC b r ds dl = some dl') : ds.length = n + 1 := by
  cases ds with
  | nil => cases e
  | cons d es =>
    unfold bsC at e
    dsimp only at e
    cases q : b d dl with
    | none => rw [q] at e; cases e
    | some dl1 => rw [q] at e; rw [List.length_cons, h _ _ _ e]
section
variable {X : Cx} {W : XW} {pos : Pos} {e tg : Expr} {ef : EF} {vs : List Nat} {bd : BF}
/-- target = e -/
def sG (bd : BF) (f : EF) : SF := sB f fun d dl st => (bd d dl).map fun dl' => (.nx, dl', st)
abbrev sV (i : Nat) (f : EF) : SF := sG (bN i) f
theorem tS_asg {K : PySem.W.Frag} {D : Ends} {σ : L2.St} {H : Hp} (q : tS K W (sG bd ef) D σ H) : tAsg (tE K W ef) (tG K vs bd) D σ H := by
  refine tE_mono (tS_bnd q) fun v H1 q => ?_
  obtain ⟨Z, B, dl, st, d, r, rl, hd, e, a⟩ := q
  cases q1 : bd d dl with
  | none => rw [q1] at e; cases e
  | some dl' =>
    rw [q1] at e
    cases e
    exact ⟨Z, B, dl, st, d, dl', rl, hd, q1, fun σ' rl' _ _ => a σ' Z B H1 rl' Ext.refl⟩
theorem js_asg (he : JE X W e ef) (hg : JG X tg vs bd) (hs : swapsWithSole [tg] e pos.line X.env = pure false := by rfl) (hw : swappedStores [tg] e X.env = pure none := by rfl) (h1 : (assignEach [tg] X.env).map (·.2) = [assign tg X.env] := by rfl) : JS X W (.Assign [tg] e pos) (sG bd ef) :=
  ps_imp (ps_asg he hg hs hw h1) fun _ _ _ q => tS_asg q
theorem js_set {i : Nat} {x : Str} {pos' : Pos} (hN : X.N.Nodup) (he : JE X W e ef) (hi : X.N[i]? = some x := by rfl) (hx : Loc X.env.scope x := by first | exact Or.inl rfl | exact Or.inr rfl) (hs : swapsWith e (some (.Name x pos')) pos.line X.env = pure false := by rfl)
    (hf : X.fn x = true ∨ X.env.scope.names.lookup x = some .local := by first | exact .inl rfl | exact .inr rfl) : JS X W (.Assign [.Name x pos'] e pos) (sV i ef) := by
  refine ps_imp (ps_set hN hi hx he hs hf) fun D σ H q => ?_
  have q1 := tS_asg (vs := [i]) q
  refine tE_mono q1 fun v H1 q => ?_
  obtain ⟨Z, B, dl, st, d, dl', rl, hd, e, q⟩ := q
  cases e
  exact q _ (rl.setD i (sv := .d d) hd) (by simp) fun j hj => by rw [List.getElem?_set_ne (fun z => hj (by simp [z]))]
end
end DL
set_option autoImplicit false
namespace DL
open PySem PySem.Spec PyProof.Rows L2

/-! ### a, b = x, y -/
def bs2 (i j : Nat) : BFs := bsC (bN i) (bsC (bN j) bsN)
def bs3 (i j l : Nat) : BFs := bsC (bN i) (bsC (bN j) (bsC (bN l) bsN))
theorem tS_bndA {K : PySem.W.Frag} {W : XW} {op : List PyData → Option PyData} {g : AF} {k : PyData → SF} {D : Ends} {σ : L2.St} {H : Hp} (h : tS K W (sB (eCB op g) k) D σ H) :
    tA K W g σ H fun vs H1 => ∃ Z B dl st ds d r, Rl K Z B dl st σ H1 ∧ RpA K Z vs ds ∧ op ds = some d ∧ k d dl st = some r ∧ AftS K W Z B H1 D r := by
  obtain ⟨Z, B, dl, st, r, rl, e, a⟩ := h
  unfold sB eCB eAD eA at e
  cases q : g dl st with
  | none => rw [q] at e; cases e
  | some y =>
    obtain ⟨ra, st1⟩ := y
    rw [q] at e
    refine ⟨Z, B, dl, st, ra, st1, rl, q, ?_⟩
    cases ra with
    | ex c p => cases e; exact fun Z' H' rl' x' => a Z' B H' rl'.bare x'
    | ok svs =>
      dsimp only at e
      cases q2 : svD svs with
      | none => rw [q2] at e; cases e
      | some ds =>
        rw [q2] at e
        cases q3 : op ds with
        | none => simp only [eR, q3] at e; cases e
        | some d =>
          simp only [eR, q3, Option.map_some] at e
          exact fun vs Z' H' rl' x' h' => ⟨Z', B, dl, st1, ds, d, r, rl', rvs_data h' q2, q3, e, a.ext x'⟩
section
variable {X : Cx} {W : XW} {pos : Pos} {g : AF}
theorem js_par2 {i j : Nat} {x y : Str} {a b : Expr} {px py pt : Pos} {kt k2 : Nat} {pt2 : Pos} (hc : X.calm = true) (hN : X.N.Nodup) (ha : JA X W [a, b] g) (hi : X.N[i]? = some x := by rfl) (hj : X.N[j]? = some y := by rfl) (hij : i ≠ j := by decide)
    (hx : X.env.scope.names.lookup x = some .local := by rfl) (hy : X.env.scope.names.lookup y = some .local := by rfl)
    (hw : swappedStores [.Tuple [.Name x px, .Name y py] kt pt] (.Tuple [a, b] k2 pt2) X.env = pure (some [x, y]) := by rfl)
    (hs : swapsWithSole [.Tuple [.Name x px, .Name y py] kt pt] (.Tuple [a, b] k2 pt2) pos.line X.env = pure false := by rfl) :
    JS X W (.Assign [.Tuple [.Name x px, .Name y py] kt pt] (.Tuple [a, b] k2 pt2) pos) (sG (bT (bs2 i j)) (eCB pTup g)) := by
  refine ps_imp (ps_par hc hN hi hj hij hx hy ha hw hs) fun D σ H q => ?_
  refine tA_mono (tS_bndA q) fun vs H1 q => ?_
  obtain ⟨Z, B, dl, st, ds, d, r, rl, hd, eo, e, a⟩ := q
  unfold pTup at eo
  split at eo
  · cases eo
    cases hd with
    | nil => cases e
    | cons h1 t1 =>
      cases t1 with
      | nil => cases e
      | cons h2 t2 =>
        cases t2 with
        | cons _ _ => cases e
        | nil =>
          cases e
          exact ⟨_, _, rfl, a _ Z B H1 ((rl.setD i (sv := .d _) h1).setD j (sv := .d _) h2) Ext.refl⟩
  · cases eo
theorem js_par3 {i j l : Nat} {x y z : Str} {a b c : Expr} {px py pz pt : Pos} {kt k2 : Nat} {pt2 : Pos} (hc : X.calm = true) (hN : X.N.Nodup) (ha : JA X W [a, b, c] g) (hi : X.N[i]? = some x := by rfl) (hj : X.N[j]? = some y := by rfl) (hl : X.N[l]? = some z := by rfl)
    (hij : i ≠ j := by decide) (hil : i ≠ l := by decide) (hjl : j ≠ l := by decide)
    (hx : X.env.scope.names.lookup x = some .local := by rfl) (hy : X.env.scope.names.lookup y = some .local := by rfl) (hz : X.env.scope.names.lookup z = some .local := by rfl)
    (hw : swappedStores [.Tuple [.Name x px, .Name y py, .Name z pz] kt pt] (.Tuple [a, b, c] k2 pt2) X.env = pure (some [x, y, z]) := by rfl)
    (hs : swapsWithSole [.Tuple [.Name x px, .Name y py, .Name z pz] kt pt] (.Tuple [a, b, c] k2 pt2) pos.line X.env = pure false := by rfl) :
    JS X W (.Assign [.Tuple [.Name x px, .Name y py, .Name z pz] kt pt] (.Tuple [a, b, c] k2 pt2) pos) (sG (bT (bs3 i j l)) (eCB pTup g)) := by
  refine ps_imp (ps_par3 hc hN hi hj hl hij hil hjl hx hy hz ha hw hs) fun D σ H q => ?_
  refine tA_mono (tS_bndA q) fun vs H1 q => ?_
  obtain ⟨Z, B, dl, st, ds, d, r, rl, hd, eo, e, a⟩ := q
  unfold pTup at eo
  split at eo
  · cases eo
    cases hd with
    | nil => cases e
    | cons h1 t1 =>
      cases t1 with
      | nil => cases e
      | cons h2 t2 =>
        cases t2 with
        | nil => cases e
        | cons h3 t3 =>
          cases t3 with
          | cons _ _ => cases e
          | nil =>
            cases e
            exact ⟨_, _, _, rfl, a _ Z B H1 (((rl.setD i (sv := .d _) h1).setD j (sv := .d _) h2).setD l (sv := .d _) h3) Ext.refl⟩
  · cases eo
end

/-! ### what a loop walks -/
inductive RI where
  | ok (xs : List PyData)
  | ex (c : Str) (p : Option PyData)
abbrev IF := DE → SE → Option (RI × SE)
/-- at each turn the next of xs comes, whatever was made beside -/
def ItD (K : PySem.W.Frag) (J : It) (Z : Hp) (xs : List PyData) : Prop := ∀ Z1 H, Same Z Z1 → Same Z1 H → ∀ i : Nat,
  (i < xs.length → J.go i H ∧ ∀ x H', J.yld i H x H' → ∃ Z', Grow Z1 H Z' H' ∧ ∃ d, xs[i]? = some d ∧ Rp K Z' x d) ∧ (xs.length ≤ i → J.stop i H)
def AftI (K : PySem.W.Frag) (W : XW) (Z : Hp) (B : List Addr) (dl : DE) (σ : L2.St) (H : Hp) (st' : SE) (R : It → Hp → Prop) : RI → Prop
  | .ok xs => ∀ J Z' H', Rl K Z' B dl st' σ H' → Ext B Z H B Z' H' → ItD K J Z' xs → R J H'
  | .ex c p => ∀ Z' H', Rl K Z' B dl st' σ H' → Ext B Z H B Z' H' → W c p Z' H'
def tI (K : PySem.W.Frag) (W : XW) (f : IF) : TI := fun σ H R => ∃ Z B dl st r st', Rl K Z B dl st σ H ∧ f dl st = some (r, st') ∧ AftI K W Z B dl σ H st' R r
def JI (X : Cx) (W : XW) (tg e : Expr) (f : IF) : Prop := PI X tg e (tI X.K W f)
theorem pi_imp {X : Cx} {tg e : Expr} {t t' : TI} (h : PI X tg e t) (k : ∀ σ H Q, t' σ H Q → t σ H Q) : PI X tg e t' := ⟨fun pins s σ H R I q => h.run pins s σ H R I (k σ H R q)⟩

/-! ### for -/
def forGo (bd : BF) (body : SF) : List PyData → SF
  | [] => fun dl st => some (.nx, dl, st)
  | x :: xs => fun dl st => match bd x dl with
    | none => none
    | some dl1 => match body dl1 st with
      | some (.nx, dl2, st2) => forGo bd body xs dl2 st2
      | some (.ct, dl2, st2) => forGo bd body xs dl2 st2
      | some (.bk, dl2, st2) => some (.nx, dl2, st2)
      | r => r
def sF (src : IF) (bd : BF) (body : SF) : SF := fun dl st => match src dl st with
  | some (.ok xs, st1) => forGo bd body xs dl st1
  | some (.ex c p, st1) => some (.ex c p, dl, st1)
  | none => none
theorem tS_for {K : PySem.W.Frag} {W : XW} {src : IF} {vs : List Nat} {bd : BF} {body : SF} {D : Ends} {σ : L2.St} {H : Hp} (q : tS K W (sF src bd body) D σ H) : tFor (tI K W src) (tG K vs bd) (tS K W body) D σ H := by
  obtain ⟨Z, B, dl, st, r, rl, e, a⟩ := q
  unfold sF at e
  cases q : src dl st with
  | none => rw [q] at e; cases e
  | some y =>
    obtain ⟨ri, st1⟩ := y
    rw [q] at e
    refine ⟨Z, B, dl, st, ri, st1, rl, q, ?_⟩
    cases ri with
    | ex c p => cases e; exact fun Z' H' rl' x' => a Z' B H' rl'.bare x'
    | ok xs =>
      refine fun J Z0 H0 rl0 x0 itd => ?_
      refine ⟨fun i m σ H => ∃ Z B dl st r, Rl K Z B dl st σ H ∧ Same Z0 Z ∧ m = xs.length - i ∧ i ≤ xs.length ∧ forGo bd body (xs.drop i) dl st = some r ∧ AftS K W Z B H D r, ⟨xs.length, Z0, B, dl, st1, r, rl0, Same.refl _, by simp, Nat.zero_le _, by simpa using e, a.ext x0⟩, ?_⟩
      rintro i m σ1 H1 ⟨Z1, B1, dl1, st1, r1, rl1, s1, rfl, hi, e1, a1⟩
      obtain ⟨hgo, hstop⟩ := itd Z1 H1 s1 rl1.sub i
      by_cases hlt : i < xs.length
      · obtain ⟨go, yl⟩ := hgo hlt
        have ed : xs.drop i = xs[i] :: xs.drop (i + 1) := List.drop_eq_getElem_cons hlt
        rw [ed] at e1
        refine .inr ⟨go, fun σ H => ∃ Z B dl st r, Rl K Z B dl st σ H ∧ Same Z0 Z ∧ forGo bd body (xs.drop (i + 1)) dl st = some r ∧ AftS K W Z B H D r, fun σ' H' ⟨Z', B', dl', st', r', h1, h2, h3, h4⟩ => ⟨_, Nat.sub_lt_sub_left hlt (Nat.lt_succ_self i), Z', B', dl', st', r', h1, h2, rfl, hlt, h3, h4⟩, fun x H2 hy => ?_⟩
        obtain ⟨Z2, gr, d, ex, hd⟩ := yl x H2 hy
        have exd : xs[i] = d := by
          rw [List.getElem?_eq_getElem hlt] at ex
          exact Option.some.inj ex
        rw [exd] at e1
        unfold forGo at e1
        cases qb : bd d dl1 with
        | none => simp only [qb] at e1; cases e1
        | some dl2 =>
          simp only [qb] at e1
          refine ⟨Z2, B1, dl1, st1, d, dl2, rl1.grow gr, hd, qb, fun σ2 rl2 _ _ => ?_⟩
          have a2 := a1.ext (gr.ext (B := B1))
          cases qc : body dl2 st1 with
          | none => rw [qc] at e1; cases e1
          | some y =>
            obtain ⟨fl, dl3, st3⟩ := y
            rw [qc] at e1
            refine ⟨Z2, B1, dl2, st1, _, rl2, qc, ?_⟩
            cases fl with
            | nx => exact fun σ3 Z3 B3 H3 rl3 x3 => ⟨Z3, B3, dl3, st3, r1, rl3, (s1.trans gr.z).trans x3.z, e1, a2.ext x3⟩
            | ct => exact fun σ3 Z3 B3 H3 rl3 x3 => ⟨Z3, B3, dl3, st3, r1, rl3, (s1.trans gr.z).trans x3.z, e1, a2.ext x3⟩
            | bk => cases e1; exact a2
            | rt d => cases e1; exact a2
            | ex c p => cases e1; exact a2
      · have ei : i = xs.length := by omega
        subst ei
        rw [List.drop_length] at e1
        cases e1
        exact .inl ⟨hstop (Nat.le_refl _), a1 σ1 Z1 B1 H1 rl1 Ext.refl⟩
section
variable {X : Cx} {W : XW} {pos : Pos} {k : Nat}
theorem js_for {tg iter : Expr} {body : List Stmt} {src : IF} {vs : List Nat} {bd : BF} {bf : SF} (c : Cxs X W k) (hi : JI X W tg iter src) (hg : JG X tg vs bd) (hb : JSs X W body bf) (hs : ∀ x, foldedSetIterable iter X.env x = pure x := by intro _; rfl) :
    JS X W (.For tg iter body [] pos) (sF src bd bf) := ps_imp (ps_for c.po c.calm hi hg hb hs) fun _ _ _ q => tS_for q
end

/-! ### while -/
def whGo (c : EF) (body : SF) : Nat → SF
  | 0 => fun _ _ => none
  | n + 1 => sB c fun d => match d with
    | .bool true => fun dl st => match body dl st with
      | some (.nx, dl2, st2) => whGo c body n dl2 st2
      | some (.ct, dl2, st2) => whGo c body n dl2 st2
      | some (.bk, dl2, st2) => some (.nx, dl2, st2)
      | r => r
    | .bool false => sN
    | _ => fun _ _ => none
theorem tS_while {K : PySem.W.Frag} {W : XW} {c : EF} {body : SF} {n : Nat} {D : Ends} {σ : L2.St} {H : Hp} (q : tS K W (whGo c body n) D σ H) : tWhile (tB (tE K W c)) (tS K W body) D σ H := by
  refine ⟨fun m σ H => tS K W (whGo c body m) D σ H, ⟨n, q⟩, fun m σ1 H1 q => ?_⟩
  cases m with
  | zero =>
    obtain ⟨Z, B, dl, st, r, rl, e, a⟩ := q
    cases e
  | succ m =>
    show tE K W c σ1 H1 _
    refine tE_mono (tS_bnd q) fun v H2 q => ?_
    obtain ⟨Z, B, dl, st, d, r, rl, hd, e, a⟩ := q
    cases d with
    | bool b =>
      refine ⟨b, dp_bool hd, ?_⟩
      cases b with
      | false =>
        rw [if_neg Bool.false_ne_true]
        cases e
        exact a σ1 Z B H2 rl Ext.refl
      | true =>
        rw [if_pos rfl]
        refine ⟨fun σ' H' => tS K W (whGo c body m) D σ' H', fun σ' H' h => ⟨m, Nat.lt_succ_self m, h⟩, ?_⟩
        dsimp only at e
        cases qc : body dl st with
        | none => rw [qc] at e; cases e
        | some y =>
          obtain ⟨fl, dl3, st3⟩ := y
          rw [qc] at e
          refine ⟨Z, B, dl, st, _, rl, qc, ?_⟩
          cases fl with
          | nx => exact fun σ3 Z3 B3 H3 rl3 x3 => ⟨Z3, B3, dl3, st3, r, rl3, e, a.ext x3⟩
          | ct => exact fun σ3 Z3 B3 H3 rl3 x3 => ⟨Z3, B3, dl3, st3, r, rl3, e, a.ext x3⟩
          | bk => cases e; exact a
          | rt d => cases e; exact a
          | ex c p => cases e; exact a
    | _ => cases e
section
variable {X : Cx} {W : XW} {pos : Pos} {k : Nat}
theorem js_while {c : Expr} {body : List Stmt} {cf : EF} {bf : SF} (n : Nat) (cx : Cxs X W k) (hc : JT X W c cf) (hb : JSs X W body bf) : JS X W (.While c body [] pos) (whGo cf bf n) := ps_imp (ps_while cx.po hc hb) fun _ _ _ q => tS_while q
end

/-! ### defs -/
/-- n names; the parameters first -/
def fnB (n np : Nat) (sf : SF) : FF := fun svs st => if svs.length = np then (match sf (svs.map some ++ List.replicate (n - np) none) st with
  | some (.rt d, _, st') => some (.ok d, st'.take st.length)
  | some (.nx, _, st') => some (.ok .none, st'.take st.length)
  | some (.ex c p, _, st') => some (.ex c p, st'.take st.length)
  | _ => none) else none
theorem RVs.len {K : PySem.W.Frag} {Z : Hp} {B : List Addr} : ∀ {vs : List V} {svs : List SV}, RVs K Z B vs svs → vs.length = svs.length
  | _, _, .nil => rfl
  | _, _, .cons h t => by simp [RVs.len t]
theorem RVs.get {K : PySem.W.Frag} {Z : Hp} {B : List Addr} : ∀ {vs : List V} {svs : List SV} {i : Nat} {sv : SV}, RVs K Z B vs svs → svs[i]? = some sv → ∃ v, vs[i]? = some v ∧ RepV K Z B v sv
  | _, _, _, _, .nil, e => by simp at e
  | _, _, 0, _, .cons h t, e => by simp at e; subst e; exact ⟨_, rfl, h⟩
  | _, _, i + 1, sv, .cons h t, e => by
    obtain ⟨v, h1, h2⟩ := RVs.get (i := i) t (by simpa using e)
    exact ⟨v, by simpa using h1, h2⟩
theorem Rl.start {K : PySem.W.Frag} {Z H : Hp} {B : List Addr} {st : SE} {vs : List V} {svs : List SV} {N : List Str} (r : Rl K Z B [] st [] H) (h : RVs K Z B vs svs) : Rl K Z B (svs.map some ++ List.replicate (N.length - svs.length) none) st (L2.start N vs) H := by
  refine ⟨r.sub, ?_, r.bl, r.nd, r.tr, fun i sv e => ?_, r.obj⟩
  · unfold L2.start
    simp [h.len]
  · have hi : i < svs.length := by
      by_cases hi : i < svs.length
      · exact hi
      · rw [List.getElem?_append_right (by simpa using hi), List.getElem?_replicate] at e
        split at e <;> cases e
    rw [List.getElem?_append_left (by simpa using hi), List.getElem?_map] at e
    cases q : svs[i]? with
    | none => rw [q] at e; cases e
    | some sv' =>
      rw [q] at e
      cases e
      obtain ⟨v, h1, h2⟩ := h.get q
      refine ⟨v, ?_, h2⟩
      unfold L2.start
      rw [List.getElem?_append_left (by simpa [h.len] using hi), List.getElem?_map, h1]
      rfl
theorem Rl.cut {K : PySem.W.Frag} {Z H : Hp} {B C : List Addr} {st : SE} {n : Nat} (r : Rl K Z (B ++ C) [] st [] H) (hn : B.length = n) : Rl K Z B [] (st.take n) [] H := by
  have hl : n ≤ st.length := by
    have := r.bl
    rw [List.length_append] at this
    omega
  have up : ∀ (j : Nat) (a : Addr), (B ++ C)[j]? = some a → j < n → B[j]? = some a := fun j a e hj => by
    rw [List.getElem?_append_left (by omega)] at e
    exact e
  refine ⟨r.sub, rfl, by simp [hn, Nat.min_eq_left hl], (List.nodup_append.mp r.nd).1, fun a ha => r.tr a (List.mem_append_left _ ha), fun i sv e => by simp at e, fun j ob e => ?_⟩
  have hj : j < n := by
    have := (List.getElem?_eq_some_iff.mp e).1
    rw [List.length_take] at this
    omega
  rw [List.getElem?_take_of_lt hj] at e
  have q := r.obj j ob e
  cases ob with
  | l xs =>
    obtain ⟨a, vs, e1, rest⟩ := q
    exact ⟨a, vs, up j a e1 hj, rest⟩
  | rows js =>
    obtain ⟨a, as, e1, z, h, p⟩ := q
    refine ⟨a, as, up j a e1 hj, z, h, ?_⟩
    exact L2.Paired.mapP p fun i b ⟨h1, h2⟩ => ⟨up i b h1 (Nat.lt_trans h2 hj), h2⟩
  | dead => trivial
theorem Ext.cut {B B' : List Addr} {Z H Z' H' : Hp} (x : Ext B Z H B' Z' H') : Ext B Z H B Z' H' := ⟨x.z, x.h, x.t, [], by simp, fun _ h => nomatch h⟩
section
variable {P : Program} {w : World} {K : PySem.W.Frag} {mg : Str → Option Value} {base : Heap}
theorem fnB_len {n np : Nat} {sf : SF} {svs : List SV} {st : SE} {r : Rs × SE} (e : fnB n np sf svs st = some r) : svs.length = np := by
  unfold fnB at e
  split at e
  · assumption
  · cases e
/-- THE RULE for a def -/
theorem fnOk_of {x qual : Str} {st : Stmt} {f : Addr} {fd : FuncData} {N ps : List Str} {k : Nat} {sf : SF} (F : Fun K x qual st f fd) (S : FnScope N ps (defScope st))
    (hbody : ∀ (cdv : Value) (A : Around) (outer : List PySem.Env) (s : Shared) (H : Hp) (E : XK), Cxs (cxOf (L2.CX P w) P w K mg base N qual (defScope st) f cdv A outer s H E) (XWof K mg E) k →
      Takes (cxOf (L2.CX P w) P w K mg base N qual (defScope st) f cdv A outer s H E) (fun cls d _ H => E cls d H) → JSs (cxOf (L2.CX P w) P w K mg base N qual (defScope st) f cdv A outer s H E) (XWof K mg E) (defBody st) sf) :
    FnOk P w K mg base (L2.CX P w) (k + 1) f fd ps (spD K mg (fnB N.length ps.length sf)) := by
  refine F.okX S (fun vs H Q E h => ?_) (fun cdv A outer s H vs Q E hr h => ?_)
  · obtain ⟨Z, B, svs, st, r, st', rl, hv, e, _⟩ := h
    rw [hv.len]
    exact fnB_len e
  · obtain ⟨Z, B, svs, s0, r, s0', rl, hv, e, a⟩ := h
    have hl := fnB_len e
    refine ⟨_, hbody cdv A outer s H E ⟨⟨⟨E, rfl, passes_call (takes_of rfl rfl rfl rfl) fun _ _ _ _ h => h⟩, hr, rfl, S.nd⟩, passes_of rfl⟩ (takes_of rfl rfl rfl rfl), ?_⟩
    unfold fnB at e
    rw [if_pos hl] at e
    have rl0 := rl.start (N := N) hv
    rw [hl] at rl0
    cases q : sf (svs.map some ++ List.replicate (N.length - ps.length) none) s0 with
    | none => rw [q] at e; cases e
    | some y =>
      obtain ⟨fl, dl1, st1⟩ := y
      rw [q] at e
      refine ⟨Z, B, _, s0, _, rl0, q, ?_⟩
      cases fl with
      | nx =>
        cases e
        refine fun σ' Z' B' H' rl' x' => ?_
        obtain ⟨C, rfl, _⟩ := x'.b
        exact a .non Z' H' (rl'.bare.cut rl.bl) x'.cut .non
      | bk => cases e
      | ct => cases e
      | rt d =>
        cases e
        refine fun v Z' B' H' rl' x' h' => ?_
        obtain ⟨C, rfl, _⟩ := x'.b
        exact a v Z' H' (rl'.cut rl.bl) x'.cut h'
      | ex c p =>
        cases e
        refine fun Z' B' H' rl' x' => ?_
        obtain ⟨C, rfl, _⟩ := x'.b
        exact a Z' H' (rl'.cut rl.bl) x'.cut
theorem fnD_of {x qual : Str} {st : Stmt} {f : Addr} {fd : FuncData} {N ps : List Str} {k : Nat} {sf : SF} (F : Fun K x qual st f fd) (S : FnScope N ps (defScope st)) (hm : mg x = some (.ref f)) (hb : Binds K fd ps [])
    (hbody : ∀ (cdv : Value) (A : Around) (outer : List PySem.Env) (s : Shared) (H : Hp) (E : XK), Cxs (cxOf (L2.CX P w) P w K mg base N qual (defScope st) f cdv A outer s H E) (XWof K mg E) k →
      Takes (cxOf (L2.CX P w) P w K mg base N qual (defScope st) f cdv A outer s H E) (fun cls d _ H => E cls d H) → JSs (cxOf (L2.CX P w) P w K mg base N qual (defScope st) f cdv A outer s H E) (XWof K mg E) (defBody st) sf) :
    FnD P w K mg base (k + 1) x (fnB N.length ps.length sf) := ⟨f, fd, ps, hm, F.kp, hb, fnOk_of F S hbody⟩
/-! ### the law -/
def spLaw (K : PySem.W.Frag) (F : FF) : Sp := fun vs H Q _ => ∃ (a : Addr) (ns : List Int), vs = [.ref a] ∧ SqL K H a (ns.map V.int) ∧ (∃ st', F [.s ns] [] = some (.ok (.bool true), st')) ∧ ∀ H', Q (.bl true) H'
theorem law_imp {k : Nat} {f : Addr} {fd : FuncData} {ps : List Str} {F : FF} (h : FnOk P w K mg base (L2.CX P w) k f fd ps (spD K mg F)) : FnOk P w K mg base (L2.CX P w) k f fd ps (spLaw K F) := by
  refine h.imp fun vs H Q E q => ?_
  obtain ⟨a, ns, rfl, hs, ⟨st', e⟩, q⟩ := q
  refine ⟨H, [], [.s ns], [], _, st', ⟨Same.refl H, rfl, rfl, by simp, (fun a h => nomatch h), (fun i sv e => by simp at e), (fun j ob e => by simp at e)⟩, .cons ⟨a, rfl, hs⟩ .nil, e, ?_⟩
  intro v Z' H' _ _ h
  cases h
  exact q H'
theorem cx_no {P : Program} {w : World} (H : Hp) (s : Shared) (e : Value) (s' : Shared) (h : L2.CX P w [] H s (fun _ _ _ => False) e s') : False := by
  obtain ⟨_, _, _, _, _, _, _, _, _, _, _, _, z⟩ := h
  exact z
end
theorem xe_globI {X : Cx} {W : XW} {x : Str} {i : Int} {pos : Pos} (hm : ∃ t, X.mg x = some (.int i t)) (hg : Gl X x := by rfl) (hb : (x == ("__debug__" : Str)) = false := by decide) : JE X W (.Name x pos) (eC (.int i)) := by
  obtain ⟨t, hm⟩ := hm
  exact xe_glob (v := .int i) hm ⟨_, rfl⟩ (fun _ => .int i) hg hb
end DL
set_option autoImplicit false
namespace DL
open PySem PySem.Spec PyProof.Rows L2

/-! ### texts by their signs -/
def tx (l : List Nat) : Str := ⟨l.toArray⟩
theorem tx_cps (x : Str) : tx x.cps.toList = x := by cases x; rfl
theorem tx_toList (l : List Nat) : (tx l).cps.toList = l := rfl
theorem tx_length (l : List Nat) : (tx l).length = l.length := rfl
theorem tx_inj {l m : List Nat} : tx l = tx m ↔ l = m := ⟨fun h => by have := congrArg (fun z : Str => z.cps.toList) h; exact this, fun h => by rw [h]⟩
theorem tx_app (l m : List Nat) : tx l ++ tx m = tx (l ++ m) := by
  show (⟨l.toArray ++ m.toArray⟩ : Str) = ⟨(l ++ m).toArray⟩
  simp
theorem str_len (x : Str) : x.length = x.cps.toList.length := by cases x; simp [Str.length]
theorem gq_lst {K : PySem.W.Frag} {Z H : Hp} {p : Addr} {vs : List V} {ds : List PyData} {Q : VK} (sub : Same Z H) (hp : H p = none) (h : RpA K Z vs ds) (gq : Gq K Z H (.list ds) Q) : Q (.ref p) (upd H p (.lst vs)) :=
  have gr := Grow.new (o := .lst vs) sub hp
  gq _ _ _ gr (.lst upd_same (h.mono' gr.z))
theorem gq_tup {K : PySem.W.Frag} {Z H : Hp} {p : Addr} {vs : List V} {ds : List PyData} {Q : VK} (sub : Same Z H) (hp : H p = none) (h : RpA K Z vs ds) (gq : Gq K Z H (.tuple ds) Q) : Q (.ref p) (upd H p (.tup vs)) :=
  have gr := Grow.new (o := .tup vs) sub hp
  gq _ _ _ gr (.tup (SqT.of upd_same) (h.mono' gr.z))
theorem gq_of {K : PySem.W.Frag} {Z H : Hp} {v : V} {d : PyData} {Q : VK} (sub : Same Z H) (h : Rp K Z v d) (gq : Gq K Z H d Q) : Q v H := gq v Z H (Grow.refl sub) h
/-! ### ints -/
def pI2 (C : Int → Int → Bool) (g : Int → Int → Int) : PyData → PyData → Option PyData
  | .int i, .int j => if C i j then some (.int (g i j)) else none
  | _, _ => none
theorem pI2_some {C : Int → Int → Bool} {g : Int → Int → Int} {a b c : PyData} (h : pI2 C g a b = some c) : ∃ i j, a = .int i ∧ b = .int j ∧ C i j = true ∧ c = .int (g i j) := by
  unfold pI2 at h
  split at h
  · split at h
    · cases h; exact ⟨_, _, rfl, rfl, by assumption, rfl⟩
    · cases h
  · cases h
section
variable {X : Cx}
theorem od_I2 {f : Value → Value → Sem Value} {C : Int → Int → Prop} {C' : Int → Int → Bool} {g : Int → Int → Int} (h : OpR X f (rI C fun i j => .int (g i j))) (hC : ∀ i j, C' i j = true → C i j) : OpR X f (rD2 X.K (pI2 C' g)) := by
  intro pins s σ H x y v u Q I rx ry q
  obtain ⟨Z, a, b, c, sub, ha, hb, e, gq⟩ := q
  obtain ⟨i, j, rfl, rfl, hc, rfl⟩ := pI2_some e
  cases ha
  cases hb
  exact h pins s σ H _ _ v u Q I rx ry ⟨i, j, rfl, rfl, hC i j hc, gq _ _ _ (Grow.refl sub) (.int _)⟩
def yes2 : Int → Int → Bool := fun _ _ => true
abbrev pSub := pI2 yes2 fun i j => i - j
abbrev pFdv := pI2 (fun _ j => decide (0 < j) && decide (j < 1073741824)) fun i j => i / j
abbrev pMod := pI2 (fun _ j => decide (0 < j)) fun i j => i % j
abbrev pPow := pI2 (fun i j => decide (0 ≤ j) && decide (j ≤ 1000000) && decide (i.natAbs < 2 ^ 64)) fun i j => i ^ j.toNat
abbrev pShl := pI2 (fun i j => decide (0 ≤ j) && decide (j ≤ 1000000) && decide (i.natAbs < 2 ^ 64)) fun i j => i * 2 ^ j.toNat
abbrev pShr := pI2 (fun _ j => decide (0 ≤ j)) fun i j => i / 2 ^ j.toNat
abbrev pBnd := pI2 yes2 fun i j => Builtin.bitAnd i j
theorem rI_of_rI0 {f : Value → Value → Sem Value} {g : Int → Int → V} (h : OpR X f (rI0 g)) : OpR X f (rI (fun _ _ => True) g) := by
  intro pins s σ H x y v u Q I rx ry ⟨i, j, e1, e2, _, q⟩
  exact h pins s σ H x y v u Q I rx ry ⟨i, j, e1, e2, q⟩
theorem od_sub : OpR X (binaryOp .Sub) (rD2 X.K pSub) := od_I2 (rI_of_rI0 op_sub) fun _ _ _ => trivial
theorem od_fdv : OpR X (binaryOp .FloorDiv) (rD2 X.K pFdv) := od_I2 op_fdiv fun i j h => by simpa [CDiv] using h
theorem od_mod : OpR X (binaryOp .Mod) (rD2 X.K pMod) := od_I2 op_mod fun i j h => by simpa using h
theorem od_pow : OpR X (binaryOp .Pow) (rD2 X.K pPow) := od_I2 op_pow fun i j h => by
  simp only [Bool.and_eq_true, decide_eq_true_eq] at h
  exact ⟨h.1.1, h.1.2, h.2⟩
theorem od_shl : OpR X (binaryOp .LShift) (rD2 X.K pShl) := od_I2 op_shl fun i j h => by
  simp only [Bool.and_eq_true, decide_eq_true_eq] at h
  exact ⟨h.1.1, h.1.2, h.2⟩
theorem od_shr : OpR X (binaryOp .RShift) (rD2 X.K pShr) := od_I2 op_shr fun i j h => by simpa using h
theorem od_bnd : OpR X (binaryOp .BitAnd) (rD2 X.K pBnd) := od_I2 (rI_of_rI0 op_and) fun _ _ _ => trivial
def pNeg : PyData → Option PyData
  | .int i => some (.int (-i))
  | _ => none
theorem od_neg : UnR X (unaryOp .USub) (rD1 X.K pNeg) := by
  intro pins s σ H x v Q I rx q
  obtain ⟨Z, a, c, sub, ha, e, gq⟩ := q
  cases a with
  | int i =>
    cases e
    cases ha
    exact un_neg pins s σ H _ v Q I rx ⟨i, rfl, gq _ _ _ (Grow.refl sub) (.int _)⟩
  | _ => cases e

/-! ### +, * -/
def pAdd : PyData → PyData → Option PyData
  | .int i, .int j => some (.int (i + j))
  | .str x, .str y => if x.length + y.length ≤ 1000000 then some (.str (x ++ y)) else none
  | .list x, .list y => if x.length + y.length ≤ 1000000 then some (.list (x ++ y)) else none
  | _, _ => none
theorem million {n : Nat} (h : n ≤ 1000000) : n ≤ sizeLine := Nat.le_trans h (by decide)
theorem od_add : OpR X (binaryOp .Add) (rD2 X.K pAdd) := by
  intro pins s σ H x y v u Q I rx ry q
  obtain ⟨Z, a, b, c, sub, ha, hb, e, gq⟩ := q
  unfold pAdd at e
  split at e
  · cases e
    cases ha
    cases hb
    exact op_add pins s σ H _ _ v u Q I rx ry ⟨_, _, rfl, rfl, gq _ _ _ (Grow.refl sub) (.int _)⟩
  · split at e
    · cases e
      cases ha
      cases hb
      exact op_add_str pins s σ H _ _ v u Q I rx ry ⟨_, _, rfl, rfl, million (by assumption), gq _ _ _ (Grow.refl sub) (.str _)⟩
    · cases e
  · split at e
    · rename_i xs ys hl
      cases e
      cases ha with
      | lst ea ra =>
        cases hb with
        | lst eb rb =>
          refine op_cat pins s σ H _ _ v u Q I rx ry ⟨_, _, _, _, rfl, rfl, sub _ _ ea, sub _ _ eb, million (by rw [ra.len, rb.len]; exact hl), fun p hp => gq_lst sub hp (ra.app rb) gq⟩
    · cases e
  · cases e
def repL {α : Type} (k : Int) (xs : List α) : List α := (List.replicate k.toNat xs).flatten
def pMul : PyData → PyData → Option PyData
  | .int i, .int j => if i.natAbs < 2 ^ 64 ∨ j.natAbs < 2 ^ 64 then some (.int (i * j)) else none
  | .str x, .int k => if x.length ≤ 100 ∧ -10000 ≤ k ∧ k ≤ 10000 then some (.str (tx (repL k x.cps.toList))) else none
  | .list x, .int k => if x.length ≤ 100 ∧ -10000 ≤ k ∧ k ≤ 10000 then some (.list (repL k x)) else none
  | .tuple x, .int k => if x.length ≤ 100 ∧ x ≠ [] ∧ 2 ≤ k ∧ k ≤ 1000 then some (.tuple (repL k x)) else none
  | _, _ => none
theorem RpA.rep {K : PySem.W.Frag} {Z : Hp} {ds : List PyData} {vs : List V} (h : RpA K Z vs ds) : ∀ n : Nat, RpA K Z (List.replicate n vs).flatten (List.replicate n ds).flatten
  | 0 => .nil
  | n + 1 => by
    rw [List.replicate_succ, List.replicate_succ, List.flatten_cons, List.flatten_cons]
    exact h.app (RpA.rep h n)
theorem foldl_app (l : List Nat) : ∀ (n : Nat) (a : List Nat), (List.replicate n l.toArray).foldl (· ++ ·) a.toArray = (a ++ (List.replicate n l).flatten).toArray
  | 0, a => by simp
  | n + 1, a => by
    rw [List.replicate_succ, List.foldl_cons, List.append_toArray, foldl_app l n, List.replicate_succ, List.flatten_cons, List.append_assoc]
theorem txt_mul (x : Str) (k : Int) : Txt.mul x k = tx (repL k x.cps.toList) := by
  obtain ⟨⟨l⟩⟩ := x
  unfold Txt.mul repL
  split
  · rename_i h
    rw [show k.toNat = 0 by omega]
    rfl
  · rename_i h
    split
    · rename_i h2
      simp only [Bool.or_eq_true, beq_iff_eq] at h2
      rcases h2 with h2 | h2
      · subst h2
        show _ = tx ((List.replicate 1 l).flatten)
        simp [tx]
      · have hl : l = [] := by
          have : (l.toArray).size = 0 := h2
          simpa using this
        subst hl
        simp [tx]
    · have := foldl_app l k.toNat []
      rw [List.nil_append] at this
      show (⟨_⟩ : Str) = ⟨_⟩
      congr 1
theorem flat_len {α : Type} (xs : List α) : ∀ n : Nat, (List.replicate n xs).flatten.length = n * xs.length
  | 0 => by simp
  | n + 1 => by rw [List.replicate_succ, List.flatten_cons, List.length_append, flat_len xs n, Nat.succ_mul]; omega
theorem mulOk {x : Str} {k : Int} (h1 : x.length ≤ 100) (h2 : -10000 ≤ k) (h3 : k ≤ 10000) : MulOk x k := by
  refine ⟨by simp; omega, fun h4 _ h5 => ?_, fun h4 _ => ?_⟩
  · have h6 : (2 ^ 63 - 1 : Int) / k ≥ 100 := by
      rw [ge_iff_le, Int.le_ediv_iff_mul_le (by omega)]
      omega
    omega
  · have : x.length * k.toNat ≤ 100 * 10000 := Nat.mul_le_mul h1 (by omega)
    exact decide_eq_false (Nat.not_lt.mpr (million (by omega)))
theorem od_mul : OpR X (binaryOp .Mult) (rD2 X.K pMul) := by
  intro pins s σ H x y v u Q I rx ry q
  obtain ⟨Z, a, b, c, sub, ha, hb, e, gq⟩ := q
  unfold pMul at e
  split at e
  · split at e
    · rename_i i j hc
      cases e
      cases ha
      cases hb
      refine op_mul pins s σ H _ _ v u Q I rx ry ⟨_, _, rfl, rfl, ?_, gq _ _ _ (Grow.refl sub) (.int _)⟩
      unfold CMul
      omega
    · cases e
  · split at e
    · rename_i x k hc
      cases e
      cases ha
      cases hb
      obtain ⟨t, rfl⟩ := rx
      obtain ⟨t', rfl⟩ := ry
      refine SB.mul (mulOk hc.1 hc.2.1 hc.2.2) fun t2 n => ?_
      rw [txt_mul]
      exact ⟨.str _, H, I.tok _, ⟨_, rfl⟩, gq _ _ _ (Grow.refl sub) (.str _)⟩
    · cases e
  · split at e
    · rename_i xs k hc
      cases e
      cases hb
      cases ha with
      | lst ea ra =>
        have hm : xs.length * k.toNat ≤ 100 * 10000 := Nat.mul_le_mul hc.1 (by omega)
        refine op_rep pins s σ H _ _ v u Q I rx ry ⟨_, _, _, rfl, rfl, sub _ _ ea, by omega, by omega, million (by rw [ra.len]; omega), fun p hp => gq_lst sub hp (ra.rep k.toNat) gq⟩
    · cases e
  · split at e
    · rename_i xs k hc
      cases e
      cases hb
      cases ha with
      | tup ea ra =>
        refine op_repT pins s σ H _ _ v u Q I rx ry ⟨_, _, _, rfl, rfl, same_t sub ea, fun z => hc.2.1 ?_, hc.2.2.1, hc.2.2.2, by rw [ra.len]; omega, fun p hp => gq_tup sub hp (ra.rep k.toNat) gq⟩
        have := ra.len
        rw [z] at this
        exact List.eq_nil_of_length_eq_zero this.symm
    · cases e
  · cases e

/-! ### comparisons -/
/-- at most n deep, no dict -/
def dpt : Nat → PyData → Bool
  | _, .none => true
  | _, .bool _ => true
  | _, .int _ => true
  | _, .str x => x.cps.toList.all fun c => decide (c < 1114112)
  | 0, _ => false
  | n + 1, .list xs => xs.all (dpt n)
  | n + 1, .tuple xs => xs.all (dpt n)
  | _ + 1, .dict _ => false
theorem dpt_all {n : Nat} (ih : ∀ d, dpt n d = true → d.canLay0 = true ∧ d.depth ≤ n) : ∀ xs : List PyData, xs.all (dpt n) = true → PyData.canLayAll0 xs = true ∧ PyData.depthAll xs ≤ n
  | [], _ => by simp [PyData.canLayAll0, PyData.depthAll]
  | x :: xs, h => by
    simp only [List.all_cons, Bool.and_eq_true] at h
    obtain ⟨h1, h2⟩ := ih x h.1
    obtain ⟨h3, h4⟩ := dpt_all ih xs h.2
    simp only [PyData.canLayAll0, PyData.depthAll, h1, h3, Bool.and_self, true_and]
    omega
theorem dpt_ok : ∀ (n : Nat) (d : PyData), dpt n d = true → d.canLay0 = true ∧ d.depth ≤ n
  | _, .none, _ => by simp [PyData.canLay0, PyData.depth]
  | _, .bool _, _ => by simp [PyData.canLay0, PyData.depth]
  | _, .int _, _ => by simp [PyData.canLay0, PyData.depth]
  | n, .str x, h => by
    refine ⟨?_, by simp [PyData.depth]⟩
    have h' : (x.cps.toList.all fun c => decide (c < 1114112)) = true := by
      cases n <;> exact h
    show PyData.strOk x = true
    unfold PyData.strOk
    rw [← Array.all_toList]
    exact h'
  | 0, .list _, h => by simp [dpt] at h
  | 0, .tuple _, h => by simp [dpt] at h
  | 0, .dict _, h => by simp [dpt] at h
  | n + 1, .list xs, h => by
    have := dpt_all (dpt_ok n) xs (by simpa [dpt] using h)
    simp only [PyData.canLay0, PyData.depth]
    exact ⟨this.1, by omega⟩
  | n + 1, .tuple xs, h => by
    have := dpt_all (dpt_ok n) xs (by simpa [dpt] using h)
    simp only [PyData.canLay0, PyData.depth]
    exact ⟨this.1, by omega⟩
  | _ + 1, .dict _, h => by simp [dpt] at h
theorem dpt_shaped {d : PyData} (h : dpt 8 d = true) : SeqAt.shaped d = true := by
  obtain ⟨h1, h2⟩ := dpt_ok 8 d h
  unfold SeqAt.shaped
  rw [h1, decide_eq_true (by omega)]
  rfl
def pEqB : PyData → PyData → Option Bool
  | .str x, .str y => some (decide (x = y))
  | a, b => if dpt 8 a && dpt 8 b then some (PyData.eqv a b) else none
def pEq (a b : PyData) : Option PyData := (pEqB a b).map .bool
def pNe (a b : PyData) : Option PyData := (pEqB a b).map fun k => .bool (!k)
theorem od_eq {n : Nat} (hr : Room n X.A) : OpR X (compareOp .Eq) (rD2 X.K pEq) := by
  intro pins s σ H x y v u Q I rx ry q
  obtain ⟨Z, a, b, c, sub, ha, hb, e, gq⟩ := q
  unfold pEq at e
  cases q : pEqB a b with
  | none => rw [q] at e; cases e
  | some k =>
    rw [q] at e
    cases e
    have gb := gq_of sub (.bl (k)) gq
    unfold pEqB at q
    split at q
    · cases q
      cases ha
      cases hb
      refine op_eq pins s σ H _ _ v u Q I rx ry ⟨rfl, ?_⟩
      simpa using gb
    · split at q
      · rename_i h
        cases q
        rw [Bool.and_eq_true] at h
        exact op_eqD hr.units pins s σ H _ _ v u Q I rx ry ⟨a, b, Rp.dp sub a x ha, Rp.dp sub b y hb, dpt_shaped h.1, dpt_shaped h.2, gb⟩
      · cases q
theorem od_ne {n : Nat} (hr : Room n X.A) : OpR X (compareOp .NotEq) (rD2 X.K pNe) := by
  intro pins s σ H x y v u Q I rx ry q
  obtain ⟨Z, a, b, c, sub, ha, hb, e, gq⟩ := q
  unfold pNe at e
  cases q : pEqB a b with
  | none => rw [q] at e; cases e
  | some k =>
    rw [q] at e
    cases e
    have gb := gq_of sub (.bl (!k)) gq
    unfold pEqB at q
    split at q
    · cases q
      cases ha
      cases hb
      refine op_ne pins s σ H _ _ v u Q I rx ry ⟨rfl, ?_⟩
      simpa using gb
    · split at q
      · rename_i h
        cases q
        rw [Bool.and_eq_true] at h
        exact op_neD hr.units pins s σ H _ _ v u Q I rx ry ⟨a, b, Rp.dp sub a x ha, Rp.dp sub b y hb, dpt_shaped h.1, dpt_shaped h.2, gb⟩
      · cases q
def pIB (g : Int → Int → Bool) : PyData → PyData → Option PyData
  | .int i, .int j => some (.bool (g i j))
  | _, _ => none
theorem od_IB {f : Value → Value → Sem Value} {g : Int → Int → Bool} (h : OpR X f (rI0 fun i j => .bl (g i j))) : OpR X f (rD2 X.K (pIB g)) := by
  intro pins s σ H x y v u Q I rx ry q
  obtain ⟨Z, a, b, c, sub, ha, hb, e, gq⟩ := q
  unfold pIB at e
  split at e
  · cases e
    cases ha
    cases hb
    exact h pins s σ H _ _ v u Q I rx ry ⟨_, _, rfl, rfl, gq_of sub (.bl _) gq⟩
  · cases e
abbrev pLt := pIB fun i j => decide (i < j)
abbrev pLe := pIB fun i j => decide (i ≤ j)
abbrev pGt := pIB fun i j => decide (j < i)
abbrev pGe := pIB fun i j => decide (j ≤ i)
theorem od_lt : OpR X (compareOp .Lt) (rD2 X.K pLt) := od_IB op_lt
theorem od_le : OpR X (compareOp .LtE) (rD2 X.K pLe) := od_IB op_le
theorem od_gt : OpR X (compareOp .Gt) (rD2 X.K pGt) := od_IB op_gt
theorem od_ge : OpR X (compareOp .GtE) (rD2 X.K pGe) := od_IB op_ge
def isN : PyData → Bool
  | .none => true
  | _ => false
def pIs : PyData → PyData → Option PyData
  | a, .none => some (.bool (isN a))
  | .bool a, .bool b => some (.bool (decide (a = b)))
  | _, _ => none
def pIsn : PyData → PyData → Option PyData
  | a, .none => some (.bool (!isN a))
  | .bool a, .bool b => some (.bool (!decide (a = b)))
  | _, _ => none
theorem rp_isN {K : PySem.W.Frag} {Z : Hp} {v : V} {d : PyData} (h : Rp K Z v d) : decide (v = .non) = isN d := by
  cases h <;> simp [isN]
theorem od_is : OpR X (compareOp .Is) (rD2 X.K pIs) := by
  intro pins s σ H x y v u Q I rx ry q
  obtain ⟨Z, a, b, c, sub, ha, hb, e, gq⟩ := q
  unfold pIs at e
  split at e
  · cases e
    cases hb
    refine op_isN pins s σ H _ _ v u Q I rx ry ⟨rfl, ?_⟩
    rw [rp_isN ha]
    exact gq_of sub (.bl _) gq
  · cases e
    cases ha
    cases hb
    exact op_isBl pins s σ H _ _ v u Q I rx ry ⟨_, _, rfl, rfl, gq_of sub (.bl _) gq⟩
  · cases e
theorem od_isn : OpR X (compareOp .IsNot) (rD2 X.K pIsn) := by
  intro pins s σ H x y v u Q I rx ry q
  obtain ⟨Z, a, b, c, sub, ha, hb, e, gq⟩ := q
  unfold pIsn at e
  split at e
  · cases e
    cases hb
    refine op_notN pins s σ H _ _ v u Q I rx ry ⟨rfl, ?_⟩
    rw [rp_isN ha]
    exact gq_of sub (.bl _) gq
  · cases e
    cases ha
    cases hb
    exact op_notBl pins s σ H _ _ v u Q I rx ry ⟨_, _, rfl, rfl, gq_of sub (.bl _) gq⟩
  · cases e
/-- a text in a text; a thing in a list of flat things, in a tuple of such -/
def flatD : PyData → Bool
  | .none => true
  | .bool _ => true
  | .int _ => true
  | .str _ => true
  | _ => false
theorem rp_flat {K : PySem.W.Frag} {Z : Hp} {v : V} {d : PyData} (h : Rp K Z v d) (f : flatD d = true) : flatV v = true := by
  cases h <;> first | rfl | cases f
theorem rpa_flat {K : PySem.W.Frag} {Z : Hp} : ∀ {ds : List PyData} {vs : List V}, RpA K Z vs ds → ds.all flatD = true → vs.all flatV = true
  | [], _, h, _ => by cases h; rfl
  | d :: ds, _, h, f => by
    cases h with
    | cons h1 h2 =>
      simp only [List.all_cons, Bool.and_eq_true] at f ⊢
      exact ⟨rp_flat h1 f.1, rpa_flat h2 f.2⟩
def b2i' (b : Bool) : Int := if b then 1 else 0
def eqF : PyData → PyData → Bool
  | .none, .none => true
  | .bool a, .bool b => a == b
  | .bool a, .int b => b2i' a == b
  | .int a, .bool b => a == b2i' b
  | .int a, .int b => a == b
  | .str a, .str b => a == b
  | _, _ => false
theorem rp_eqF {K : PySem.W.Frag} {Z : Hp} {v w : V} {d e : PyData} (h : Rp K Z v d) (k : Rp K Z w e) (f : flatD d = true) (g : flatD e = true) : eqV v w = eqF d e := by
  cases h <;> cases k <;> first | rfl | cases f | cases g
theorem rpa_inF {K : PySem.W.Frag} {Z : Hp} {v : V} {d : PyData} (k : Rp K Z v d) (g : flatD d = true) : ∀ {ds : List PyData} {vs : List V}, RpA K Z vs ds → ds.all flatD = true → inV v vs = ds.any fun y => eqF y d
  | [], _, h, _ => by cases h; rfl
  | x :: ds, _, h, f => by
    cases h with
    | cons h1 h2 =>
      simp only [List.all_cons, Bool.and_eq_true] at f
      have ih := rpa_inF k g h2 f.2
      unfold inV at ih ⊢
      rw [List.any_cons, List.any_cons, ih, rp_eqF h1 k f.1 g]
def pInB : PyData → PyData → Option Bool
  | .str x, .str y => if x.length = 1 then some (decide (x.cps.toList.headD 0 ∈ y.cps.toList)) else some (!(Builtin.Str.occurrences y x 0 y.length 1).isEmpty)
  | x, .list ys => if flatD x && ys.all flatD then some (ys.any fun y => eqF y x) else none
  | x, .tuple ys => if flatD x && ys.all flatD then some (ys.any fun y => eqF y x) else none
  | _, _ => none
def pIn (a b : PyData) : Option PyData := (pInB a b).map .bool
def pNin (a b : PyData) : Option PyData := (pInB a b).map fun k => .bool (!k)
theorem one_sign {x : Str} (h : x.length = 1) : x = ⟨#[x.cps.toList.headD 0]⟩ := by
  obtain ⟨⟨l⟩⟩ := x
  have h' : l.length = 1 := h
  match l, h' with
  | [c], _ => rfl
theorem od_in : OpR X (compareOp .In) (rD2 X.K pIn) := by
  intro pins s σ H x y v u Q I rx ry q
  obtain ⟨Z, a, b, c, sub, ha, hb, e, gq⟩ := q
  unfold pIn at e
  cases q : pInB a b with
  | none => rw [q] at e; cases e
  | some k =>
    rw [q] at e
    cases e
    have gb := gq_of sub (.bl k) gq
    unfold pInB at q
    split at q
    · split at q
      · rename_i x y hx
        cases q
        cases ha
        cases hb
        refine op_in_sign pins s σ H _ _ v u Q I rx ry ⟨_, _, ?_, rfl, gb⟩
        rw [← one_sign hx]
      · cases q
        cases ha
        cases hb
        exact op_in_str pins s σ H _ _ v u Q I rx ry ⟨_, _, rfl, rfl, gb⟩
    · split at q
      · rename_i ys hf
        cases q
        rw [Bool.and_eq_true] at hf
        cases hb with
        | lst eb rb =>
          refine op_in_seq pins s σ H _ _ v u Q I rx ry ⟨_, _, rfl, .inl (SqL.of (sub _ _ eb)), rp_flat ha hf.1, rpa_flat rb hf.2, ?_⟩
          rw [if_neg Bool.false_ne_true, rpa_inF ha hf.1 rb hf.2]
          exact gb
      · cases q
    · split at q
      · rename_i ys hf
        cases q
        rw [Bool.and_eq_true] at hf
        cases hb with
        | tup eb rb =>
          refine op_in_seq pins s σ H _ _ v u Q I rx ry ⟨_, _, rfl, .inr (same_t sub eb), rp_flat ha hf.1, rpa_flat rb hf.2, ?_⟩
          rw [if_neg Bool.false_ne_true, rpa_inF ha hf.1 rb hf.2]
          exact gb
      · cases q
    · cases q
theorem od_nin : OpR X (compareOp .NotIn) (rD2 X.K pNin) := by
  intro pins s σ H x y v u Q I rx ry q
  obtain ⟨Z, a, b, c, sub, ha, hb, e, gq⟩ := q
  unfold pNin at e
  cases q : pInB a b with
  | none => rw [q] at e; cases e
  | some k =>
    rw [q] at e
    cases e
    have gb := gq_of sub (.bl (!k)) gq
    unfold pInB at q
    split at q
    · split at q
      · rename_i x y hx
        cases q
        cases ha
        cases hb
        refine op_notIn_sign pins s σ H _ _ v u Q I rx ry ⟨_, _, ?_, rfl, gb⟩
        rw [← one_sign hx]
      · cases q
        cases ha
        cases hb
        exact op_notin_str pins s σ H _ _ v u Q I rx ry ⟨_, _, rfl, rfl, gb⟩
    · split at q
      · rename_i ys hf
        cases q
        rw [Bool.and_eq_true] at hf
        cases hb with
        | lst eb rb =>
          refine op_notIn_seq pins s σ H _ _ v u Q I rx ry ⟨_, _, rfl, .inl (SqL.of (sub _ _ eb)), rp_flat ha hf.1, rpa_flat rb hf.2, ?_⟩
          rw [if_pos rfl, rpa_inF ha hf.1 rb hf.2]
          exact gb
      · cases q
    · split at q
      · rename_i ys hf
        cases q
        rw [Bool.and_eq_true] at hf
        cases hb with
        | tup eb rb =>
          refine op_notIn_seq pins s σ H _ _ v u Q I rx ry ⟨_, _, rfl, .inr (same_t sub eb), rp_flat ha hf.1, rpa_flat rb hf.2, ?_⟩
          rw [if_pos rfl, rpa_inF ha hf.1 rb hf.2]
          exact gb
      · cases q
    · cases q
/-! ### a < b < c -/
def eCh (p p' : PyData → PyData → Option PyData) (f g h : EF) : EF := eB f fun a => eB g fun b => eB (eR (p a b)) fun k => match k with
  | .bool true => eB h fun c => eR (p' b c)
  | .bool false => eC (.bool false)
  | _ => fun _ _ => none
end
end DL
set_option autoImplicit false
namespace DL
open PySem PySem.Spec PyProof.Rows L2

/-! ### several values held at once -/
def tH (K : PySem.W.Frag) (W : XW) (hs : List (V × PyData)) (f : EF) : TE := fun σ H Q => ∃ Z B dl st r st', Rl K Z B dl st σ H ∧ (∀ p ∈ hs, Rp K Z p.1 p.2) ∧ f dl st = some (r, st') ∧ Aft K W Z B dl σ H st' Q r
theorem tH_of {K : PySem.W.Frag} {W : XW} {f : EF} {σ : L2.St} {H : Hp} {Q : VK} (h : tE K W f σ H Q) : tH K W [] f σ H Q := by
  obtain ⟨Z, B, dl, st, r, st', rl, e, a⟩ := h
  exact ⟨Z, B, dl, st, r, st', rl, (fun _ h => nomatch h), e, a⟩
theorem tH_bnd {K : PySem.W.Frag} {W : XW} {hs : List (V × PyData)} {f : EF} {k : PyData → EF} {σ : L2.St} {H : Hp} {Q : VK} (h : tH K W hs (eB f k) σ H Q) : tE K W f σ H fun v H1 => ∃ d, tH K W ((v, d) :: hs) (k d) σ H1 Q := by
  obtain ⟨Z, B, dl, st, r, st', rl, hh, e, a⟩ := h
  unfold eB at e
  cases q : f dl st with
  | none => rw [q] at e; cases e
  | some y =>
    obtain ⟨r1, st1⟩ := y
    rw [q] at e
    cases r1 with
    | ok d => exact ⟨Z, B, dl, st, .ok d, st1, rl, q, fun v Z1 H1 rl1 x1 h1 => ⟨d, Z1, B, dl, st1, r, st', rl1, fun p hp => by
        rcases List.mem_cons.mp hp with e | e
        · rw [e]; exact h1
        · exact (hh p e).mono' x1.z, e, a.ext x1⟩⟩
    | ex c p =>
      have e' : some (Rs.ex c p, st1) = some (r, st') := e
      cases e'
      exact ⟨Z, B, dl, st, .ex c p, _, rl, q, a⟩
theorem tH_eR {K : PySem.W.Frag} {W : XW} {hs : List (V × PyData)} {c : Option PyData} {σ : L2.St} {H : Hp} {Q : VK} (h : tH K W hs (eR c) σ H Q) : ∃ Z d, Same Z H ∧ (∀ p ∈ hs, Rp K Z p.1 p.2) ∧ c = some d ∧ Gq K Z H d Q := by
  obtain ⟨Z, B, dl, st, r, st', rl, hh, e, a⟩ := h
  obtain ⟨d, ed, gq⟩ := Aft.gq rl e a
  exact ⟨Z, d, rl.sub, hh, ed, gq⟩

/-! ### a < b < c -/
section
variable {X : Cx} {W : XW} {a b c : Expr} {f g h : EF} {pos : Pos}
theorem tE_chain {K : PySem.W.Frag} {p p' : PyData → PyData → Option PyData} {σ : L2.St} {H : Hp} {Q : VK} (q : tE K W (eCh p p' f g h) σ H Q) : tChain (rD2 K p) (rD2 K p') (tE K W f) (tE K W g) (tE K W h) σ H Q := by
  refine tE_mono (tH_bnd (tH_of q)) fun x H1 q => ?_
  obtain ⟨a, q⟩ := q
  refine tE_mono (tH_bnd q) fun y H2 q => ?_
  obtain ⟨b, Z, B, dl, st, r, st', rl, hh, e, af⟩ := q
  unfold eB at e
  cases qp : p a b with
  | none => simp only [eR, qp, Option.map_none, bnd] at e; cases e
  | some k =>
    simp only [eR, qp, Option.map_some, bnd] at e
    have hx := hh (x, a) (by simp)
    have hy := hh (y, b) (by simp)
    refine ⟨Z, a, b, k, rl.sub, hx, hy, qp, fun v Z' H' gr hv => ?_⟩
    cases k with
    | bool k =>
      refine ⟨k, dp_bool hv, ?_⟩
      cases k with
      | false =>
        rw [if_neg Bool.false_ne_true]
        cases e
        exact af _ _ _ (rl.grow gr) gr.ext (.bl false)
      | true =>
        rw [if_pos rfl]
        have q : tH K W [(y, b)] (eB h fun c => eR (p' b c)) σ H' Q := ⟨Z', B, dl, st, r, st', rl.grow gr, fun p hp => by
          have : p = (y, b) := by simpa using hp
          rw [this]
          exact hy.mono' gr.z, e, af.ext gr.ext⟩
        refine tE_mono (tH_bnd q) fun w H3 q => ?_
        obtain ⟨c, q⟩ := q
        obtain ⟨Z3, d, sub, hh, ed, gq⟩ := tH_eR q
        exact ⟨Z3, b, c, d, sub, hh (y, b) (by simp), hh (w, c) (by simp), ed, gq⟩
    | _ => cases e
theorem je_chain {op op' : CmpOp} {p p' : PyData → PyData → Option PyData} (ho : OpR X (compareOp op) (rD2 X.K p)) (ho' : OpR X (compareOp op') (rD2 X.K p')) (ha : JE X W a f) (hb : JE X W b g) (hc : JE X W c h)
    (hm : lastMarks [op, op'] [b, c] = false := by with_unfolding_all rfl) : JE X W (.Compare a [op, op'] [b, c] pos) (eCh p p' f g h) := pe_imp (pe_chain ho ho' ha hb hc hm) fun _ _ _ q => tE_chain q
theorem jt_chain {op op' : CmpOp} {p p' : PyData → PyData → Option PyData} (ho : OpR X (compareOp op) (rD2 X.K p)) (ho' : OpR X (compareOp op') (rD2 X.K p')) (ha : JE X W a f) (hb : JE X W b g) (hc : JE X W c h)
    (hm : lastMarks [op, op'] [b, c] = false := by with_unfolding_all rfl) : JT X W (.Compare a [op, op'] [b, c] pos) (eCh p p' f g h) := pt_imp (pt_chain ho ho' ha hb hc hm) fun _ _ _ q => tE_chain q

/-! ### subscripts -/
def pIx : PyData → PyData → Option PyData
  | .str z, .int i => if z.length ≤ 1000000 then (atI z.cps.toList i).map fun c => .str (tx [c]) else none
  | .list xs, .int i => atI xs i
  | .tuple xs, .int i => atI xs i
  | _, _ => none
theorem RpA.at {K : PySem.W.Frag} {Z : Hp} {ds : List PyData} {vs : List V} {i : Int} {d : PyData} (h : RpA K Z vs ds) (e : atI ds i = some d) : ∃ v, atI vs i = some v ∧ Rp K Z v d := by
  unfold atI at e ⊢
  rw [h.len]
  cases q : ixN ds.length i with
  | none => rw [q] at e; cases e
  | some j =>
    rw [q] at e
    exact h.get e
theorem ix_D : IxR X (rD2 X.K pIx) := by
  intro value slice pins s σ H x y v u Q I rx ry q hs
  obtain ⟨Z, a, b, c, sub, ha, hb, e, gq⟩ := q
  unfold pIx at e
  split at e
  · split at e
    · rename_i z i hz
      cases hb
      cases ha
      cases qa : atI z.cps.toList i with
      | none => rw [qa] at e; cases e
      | some c =>
        rw [qa] at e
        cases e
        exact ix_str value slice pins s σ H _ _ v u Q I rx ry ⟨z, i, c, rfl, rfl, million hz, qa, gq_of sub (.str _) gq⟩ hs
    · cases e
  · cases hb
    cases ha with
    | lst ea ra =>
      obtain ⟨w, hw, rw'⟩ := ra.at e
      exact ix_list value slice pins s σ H _ _ v u Q I rx ry ⟨_, _, _, w, rfl, rfl, SqL.of (sub _ _ ea), hw, gq_of sub rw' gq⟩ hs
  · cases hb
    cases ha with
    | tup ea ra =>
      obtain ⟨w, hw, rw'⟩ := ra.at e
      exact ix_tup value slice pins s σ H _ _ v u Q I rx ry ⟨_, _, _, w, rfl, rfl, same_t sub ea, hw, gq_of sub rw' gq⟩ hs
  · cases e
theorem je_ix (ha : JE X W a f) (hb : JE X W b g) (hs : PlainIx b := by exact fun _ _ => rfl) : JE X W (.Subscript a b pos) (eBin pIx f g) := pe_imp (pe_ix ix_D ha hb hs) fun _ _ _ q => tE_bin q

/-! ### slices -/
def cutL {α : Type} (xs : List α) (lo hi : Option Int) : List α := (xs.drop (HT.sIx xs.length 0 lo)).take (HT.sIx xs.length xs.length hi - HT.sIx xs.length 0 lo)
def pSl : PyData → Option Int → Option Int → Option PyData
  | .str z, lo, hi => if z.length ≤ 1000000 then some (.str (tx (cutL z.cps.toList lo hi))) else none
  | .list xs, lo, hi => some (.list (cutL xs lo hi))
  | .tuple xs, lo, hi => if HT.sIx xs.length 0 lo = 0 ∧ HT.sIx xs.length xs.length hi = xs.length then none else some (.tuple (cutL xs lo hi))
  | _, _, _ => none
theorem RpA.cut {K : PySem.W.Frag} {Z : Hp} {ds : List PyData} {vs : List V} (h : RpA K Z vs ds) (lo hi : Option Int) : RpA K Z (cutV vs lo hi) (cutL ds lo hi) := by
  unfold cutV cutL
  rw [h.len]
  exact (h.drop _).take _
def rDS (K : PySem.W.Frag) : V → Option Int → Option Int → Hp → VK → Prop := fun x lo hi H Q => ∃ Z a c, Same Z H ∧ Rp K Z x a ∧ pSl a lo hi = some c ∧ Gq K Z H c Q
theorem sl_D : SlR X (rDS X.K) := by
  intro pins s σ H x v vl vu lo hi sl Q I rx hs pl pu q
  obtain ⟨Z, a, c, sub, ha, e, gq⟩ := q
  unfold pSl at e
  split at e
  · split at e
    · rename_i z hz
      cases e
      cases ha
      refine sl_str pins s σ H _ v vl vu _ _ sl Q I rx hs pl pu ⟨z, rfl, million hz, ?_⟩
      have : cutS z lo hi = tx (cutL z.cps.toList lo hi) := by
        unfold cutS cutL tx
        rw [str_len]
      rw [this]
      exact gq_of sub (.str _) gq
    · cases e
  · cases e
    cases ha with
    | lst ea ra => exact sl_list pins s σ H _ v vl vu _ _ sl Q I rx hs pl pu ⟨_, _, rfl, SqL.of (sub _ _ ea), fun p hp => gq_lst sub hp (ra.cut lo hi) gq⟩
  · split at e
    · cases e
    · rename_i hn
      cases e
      cases ha with
      | tup ea ra => exact sl_tup pins s σ H _ v vl vu _ _ sl Q I rx hs pl pu ⟨_, _, rfl, same_t sub ea, by rw [ra.len]; exact hn, fun p hp => gq_tup sub hp (ra.cut lo hi) gq⟩
  · cases e
/-- a part of a slice -/
def eO (o : Option EF) (k : Option Int → EF) : EF := match o with
  | none => k none
  | some g => eB g fun d => match d with
    | .int i => k (some i)
    | _ => fun _ _ => none
def eSl (f : EF) (lo hi : Option EF) : EF := eB f fun d => eO lo fun l => eO hi fun h => eR (pSl d l h)
inductive JO (X : Cx) (W : XW) : Option Expr → Option EF → Prop
  | none : JO X W none none
  | some {e : Expr} {f : EF} (h : JE X W e f) : JO X W (some e) (some f)
def tO (K : PySem.W.Frag) (W : XW) : Option EF → TO
  | none => tNoPart
  | some f => tPart (tE K W f)
theorem JO.po {oe : Option Expr} {o : Option EF} (h : JO X W oe o) : PO X oe (tO X.K W o) := by
  cases h with
  | none => exact po_none
  | some h => exact po_some h
theorem tH_eO {K : PySem.W.Frag} {hs : List (V × PyData)} {o : Option EF} {k : Option Int → EF} {σ : L2.St} {H : Hp} {Q : VK} (h : tH K W hs (eO o k) σ H Q) : tO K W o σ H fun i H1 => tH K W hs (k i) σ H1 Q := by
  cases o with
  | none => exact h
  | some f =>
    refine tE_mono (tH_bnd h) fun v H1 q => ?_
    obtain ⟨d, Z, B, dl, st, r, st', rl, hh, e, a⟩ := q
    cases d with
    | int i => exact ⟨i, dp_int (hh (v, .int i) (by simp)), Z, B, dl, st, r, st', rl, fun p hp => hh p (List.mem_cons_of_mem _ hp), e, a⟩
    | _ => cases e
theorem je_slice {lo hi : Option Expr} {ol oh : Option EF} {p2 : Pos} (ha : JE X W a f) (hl : JO X W lo ol) (hh : JO X W hi oh) : JE X W (.Subscript a (.Slice lo hi none p2) pos) (eSl f ol oh) := by
  refine pe_imp (pe_slice sl_D ha hl.po hh.po) fun σ H Q q => ?_
  refine tE_mono (tH_bnd (tH_of q)) fun x H1 q => ?_
  obtain ⟨d, q⟩ := q
  have q1 := tH_eO q
  have mono : ∀ (o : Option EF) (σ : L2.St) (H : Hp) (Q Q' : Option Int → Hp → Prop), (∀ i H1, Q i H1 → Q' i H1) → tO X.K W o σ H Q → tO X.K W o σ H Q' := fun o σ H Q Q' hq t => by
    cases o with
    | none => exact hq _ _ t
    | some f => exact tE_mono t fun v H1 ⟨i, e, q⟩ => ⟨i, e, hq _ _ q⟩
  refine mono _ _ _ _ _ (fun l H2 q => ?_) q1
  refine mono _ _ _ _ _ (fun h H3 q => ?_) (tH_eO q)
  obtain ⟨Z, c, sub, hh, ed, gq⟩ := tH_eR q
  exact ⟨Z, d, c, sub, hh (x, d) (by simp), ed, gq⟩
/-! xs[::-1] -/
def pRev : PyData → Option PyData
  | .str z => if z.length ≤ 1000000 then some (.str (tx z.cps.toList.reverse)) else none
  | .list xs => some (.list xs.reverse)
  | _ => none
def tRev (K : PySem.W.Frag) (te : TE) : TE := fun σ H Q => te σ H fun x H1 => (∃ z, x = .str z ∧ z.length ≤ 1000000 ∧ Q (.str (tx z.cps.toList.reverse)) H1) ∨ (∃ a xs, x = .ref a ∧ SqL K H1 a xs ∧ ∀ p, H1 p = none → Q (.ref p) (upd H1 p (.lst xs.reverse)))
theorem rev_pick (z : Str) : ((Builtin.Str.strSliceIndices none none (-1) z.length).filterMap (z.cps[·]?)) = z.cps.toList.reverse := by
  rw [picked_rev]
  obtain ⟨⟨l⟩⟩ := z
  have hf : (fun x => (⟨⟨l⟩⟩ : Str).cps[x]?) = fun x : Nat => l[x]? := by funext x; simp
  rw [hf]
  show ((List.range l.length).map fun k => l.length - 1 - k).filterMap (fun i => l[i]?) = l.reverse
  rw [List.filterMap_map]
  have h : ∀ n, n ≤ l.length → ((List.range n).filterMap ((fun i => l[i]?) ∘ fun k => l.length - 1 - k)) = l.reverse.take n := fun n => by
    induction n with
    | zero => intro _; rfl
    | succ n ih =>
      intro hn
      rw [List.range_succ, List.filterMap_append, ih (by omega), List.take_add_one]
      congr 1
      simp only [List.filterMap_cons, List.filterMap_nil, Function.comp]
      rw [List.getElem?_reverse (by omega)]
      rw [List.getElem?_eq_getElem (by omega)]
      rfl
  rw [h l.length (Nat.le_refl _), List.take_of_length_le (by simp)]
theorem pe_rev {e : Expr} {te : TE} {k : Nat} {p1 p2 p3 pos : Pos} (he : PE X e te) : PE X (.Subscript e (.Slice none none (some (.UnaryOp .USub (.Constant (.int 1) k p1) p2)) p3) pos) (tRev X.K te) := by
  refine ⟨fun pins s σ H Q I h => ?_⟩
  refine Subscript_ (thn (he.run pins s σ H _ I h) fun v s1 ⟨x, H1, I1, r1, q1⟩ => ?_)
  have hst : PO X (some (.UnaryOp .USub (.Constant (.int 1) k p1) p2)) (tPart (tUn (rU fun i => .int (-i)) (tC (.int 1)))) := po_some (pe_un un_neg pe_int)
  refine wpAny_Slice (thn (po_none.run pins s1 σ H1 (fun o H2 => o = none ∧ H2 = H1) I1 ⟨rfl, rfl⟩) fun vl s2 ⟨l, H2, I2, pl, el, e2⟩ => ?_)
  subst el e2
  refine thn (po_none.run pins s2 σ H2 (fun o H3 => o = none ∧ H3 = H2) I2 ⟨rfl, rfl⟩) fun vu s3 ⟨u, H3, I3, pu, eu, e3⟩ => ?_
  subst eu e3
  refine thn (hst.run pins s3 σ H3 (fun o H4 => o = some (-1) ∧ H4 = H3) I3 ⟨1, rfl, -1, rfl, rfl, rfl⟩) fun vs s4 ⟨o, H4, I4, ps, eo, e4⟩ => ?_
  subst eo e4
  have I5 : Inv X pins σ H4 { s4 with heap := s4.heap.push { cls := .type "slice", data := .fields #[vl, vu, vs] } } := I4.kept (t' := s4.toks) fun b ob q => Heap.get?_push_of_some _ q
  show wpAny (model X.prog X.w) X.A (subscriptTail e (.Slice none none (some (.UnaryOp .USub (.Constant (.int 1) k p1) p2)) p3) v (.ref s4.heap.objs.size)) (EP X pins σ Q) X.xe { s4 with heap := s4.heap.push { cls := .type "slice", data := .fields #[vl, vu, vs] } }
  rcases q1 with ⟨z, ex, hz, q⟩ | ⟨a, xs, ex, hx, q⟩
  · subst ex
    obtain ⟨t, rfl⟩ := r1
    cases pl
    cases pu
    obtain ⟨ti, rfl⟩ : ∃ ti, vs = .int (-1) ti := by
      cases ps with
      | int i t => exact ⟨t, rfl⟩
    refine tail_any (ops := [.str z t, .ref s4.heap.objs.size]) (typeIs_str _ _ _) F.slot_str_getitem.lookup ?_ (by with_unfolding_all rfl)
    refine wpAny_getItem_str_slice (l := none) (u := none) (st := some (-1, ti)) ⟨_, Heap.get?_push_size _ rfl, rfl, rfl⟩ rfl ?_
    show Made.post (if (((-1 : Int)) == 1 && (Builtin.Str.strSliceIndices none none (-1) z.length).length == z.length) = true then Made.val (.str z t)
      else Made.str ⟨((Builtin.Str.strSliceIndices none none (-1) z.length).filterMap (z.cps[·]?)).toArray⟩) (EP X pins σ Q) _
    rw [if_neg (by simp), rev_pick]
    exact ⟨by
      show (tx z.cps.toList.reverse).length ≤ sizeLine
      rw [tx_length, List.length_reverse, ← str_len]
      exact million hz, .str _, H4, I5.tok _, ⟨_, rfl⟩, q⟩
  · subst ex
    cases r1
    obtain ⟨its, r, ht, hz⟩ := I5.list hx
    have hlen := r.length
    refine tail_any (ops := [.ref a, .ref s4.heap.objs.size]) ht.isList.typeIs (PySem.slot_list_getitem.lookup) ?_ (by with_unfolding_all rfl)
    refine wpAny_getItem_list_slice ht.isList (Heap.IsSliceOf.new _ vl vu vs) pl pu ps (by decide) ?_ (by rw [List.size_toArray]; omega)
    rw [PySem.W.krv_pick]
    refine ⟨.ref _, _, I5.laid (t' := s4.toks) (o := .lst xs.reverse) (fun b ob q => Heap.get?_push_of_some _ q) (Nat.le_refl _) ?_, rfl, q _ (I5.hok.fresh (Nat.le_refl _))⟩
    exact ⟨by rw [List.length_reverse]; exact hz, _, 0, r.reverse, Heap.get?_push_size _ rfl⟩
theorem je_rev {k : Nat} {p1 p2 p3 : Pos} (ha : JE X W a f) : JE X W (.Subscript a (.Slice none none (some (.UnaryOp .USub (.Constant (.int 1) k p1) p2)) p3) pos) (eUn pRev f) := by
  refine pe_imp (pe_rev ha) fun σ H Q q => ?_
  refine tE_mono (tE_un q) fun x H1 q => ?_
  obtain ⟨Z, d, c, sub, hd, e, gq⟩ := q
  unfold pRev at e
  split at e
  · split at e
    · cases e
      cases hd
      exact .inl ⟨_, rfl, by assumption, gq_of sub (.str _) gq⟩
    · cases e
  · cases e
    cases hd with
    | lst ea ra => exact .inr ⟨_, _, rfl, SqL.of (sub _ _ ea), fun p hp => gq_lst sub hp ra.rev gq⟩
  · cases e
end
end DL
set_option autoImplicit false
namespace DL
open PySem PySem.Spec PyProof.Rows L2

/-! ### built-in functions -/
def pLen : List PyData → Option PyData
  | [.str z] => if z.length ≤ 1000000 then some (.int z.cps.toList.length) else none
  | [.list xs] => some (.int xs.length)
  | [.tuple xs] => some (.int xs.length)
  | _ => none
def pMin2 : List PyData → Option PyData
  | [.int i, .int j] => some (.int (min i j))
  | _ => none
def pMax2 : List PyData → Option PyData
  | [.int i, .int j] => some (.int (max i j))
  | _ => none
def pAbs : List PyData → Option PyData
  | [.int i] => some (.int (if i < 0 then -i else i))
  | _ => none
def boolsOf : List PyData → Option (List Bool)
  | [] => some []
  | .bool b :: r => (boolsOf r).map (b :: ·)
  | _ => none
def intsOf : List PyData → Option (List Int)
  | [] => some []
  | .int b :: r => (intsOf r).map (b :: ·)
  | _ => none
def strsOf : List PyData → Option (List Str)
  | [] => some []
  | .str b :: r => (strsOf r).map (b :: ·)
  | _ => none
theorem boolsOf_map (bs : List Bool) : boolsOf (bs.map .bool) = some bs := by
  induction bs with
  | nil => rfl
  | cons b r ih => simp [boolsOf, ih]
theorem intsOf_map (bs : List Int) : intsOf (bs.map .int) = some bs := by
  induction bs with
  | nil => rfl
  | cons b r ih => simp [intsOf, ih]
theorem strsOf_map (bs : List Str) : strsOf (bs.map .str) = some bs := by
  induction bs with
  | nil => rfl
  | cons b r ih => simp [strsOf, ih]
theorem boolsOf_some : ∀ {ds : List PyData} {bs : List Bool}, boolsOf ds = some bs → ds = bs.map .bool
  | [], _, h => by cases h; rfl
  | .bool b :: r, _, h => by
    unfold boolsOf at h
    cases q : boolsOf r with
    | none => rw [q] at h; cases h
    | some bs => rw [q] at h; cases h; rw [boolsOf_some q]; rfl
  | .none :: _, _, h => by cases h
  | .int _ :: _, _, h => by cases h
  | .str _ :: _, _, h => by cases h
  | .list _ :: _, _, h => by cases h
  | .tuple _ :: _, _, h => by cases h
  | .dict _ :: _, _, h => by cases h
theorem intsOf_some : ∀ {ds : List PyData} {bs : List Int}, intsOf ds = some bs → ds = bs.map .int
  | [], _, h => by cases h; rfl
  | .int b :: r, _, h => by
    unfold intsOf at h
    cases q : intsOf r with
    | none => rw [q] at h; cases h
    | some bs => rw [q] at h; cases h; rw [intsOf_some q]; rfl
  | .none :: _, _, h => by cases h
  | .bool _ :: _, _, h => by cases h
  | .str _ :: _, _, h => by cases h
  | .list _ :: _, _, h => by cases h
  | .tuple _ :: _, _, h => by cases h
  | .dict _ :: _, _, h => by cases h
theorem strsOf_some : ∀ {ds : List PyData} {bs : List Str}, strsOf ds = some bs → ds = bs.map .str
  | [], _, h => by cases h; rfl
  | .str b :: r, _, h => by
    unfold strsOf at h
    cases q : strsOf r with
    | none => rw [q] at h; cases h
    | some bs => rw [q] at h; cases h; rw [strsOf_some q]; rfl
  | .none :: _, _, h => by cases h
  | .bool _ :: _, _, h => by cases h
  | .int _ :: _, _, h => by cases h
  | .list _ :: _, _, h => by cases h
  | .tuple _ :: _, _, h => by cases h
  | .dict _ :: _, _, h => by cases h
theorem rpa_bools {K : PySem.W.Frag} {Z : Hp} : ∀ {bs : List Bool} {vs : List V}, RpA K Z vs (bs.map .bool) → vs = bs.map V.bl
  | [], _, h => by cases h; rfl
  | b :: bs, _, h => by
    cases h with
    | cons h1 h2 => cases h1; rw [rpa_bools h2]; rfl
theorem rpa_ints {K : PySem.W.Frag} {Z : Hp} : ∀ {bs : List Int} {vs : List V}, RpA K Z vs (bs.map .int) → vs = bs.map V.int
  | [], _, h => by cases h; rfl
  | b :: bs, _, h => by
    cases h with
    | cons h1 h2 => cases h1; rw [rpa_ints h2]; rfl
theorem rpa_strs {K : PySem.W.Frag} {Z : Hp} : ∀ {bs : List Str} {vs : List V}, RpA K Z vs (bs.map .str) → vs = bs.map V.str
  | [], _, h => by cases h; rfl
  | b :: bs, _, h => by
    cases h with
    | cons h1 h2 => cases h1; rw [rpa_strs h2]; rfl
def pAll : List PyData → Option PyData
  | [.list ds] => (boolsOf ds).map fun bs => .bool (bs.all id)
  | _ => none
def pSum : List PyData → Option PyData
  | [.list ds] => (intsOf ds).map fun bs => .int bs.sum
  | _ => none
section
variable {X : Cx}
theorem rpa1 {K : PySem.W.Frag} {Z : Hp} {d : PyData} {vs : List V} (h : RpA K Z vs [d]) : ∃ v, vs = [v] ∧ Rp K Z v d := by
  cases h with
  | cons h1 h2 => cases h2; exact ⟨_, rfl, h1⟩
theorem rpa2 {K : PySem.W.Frag} {Z : Hp} {d e : PyData} {vs : List V} (h : RpA K Z vs [d, e]) : ∃ v w, vs = [v, w] ∧ Rp K Z v d ∧ Rp K Z w e := by
  cases h with
  | cons h1 h2 =>
    obtain ⟨w, rfl, h3⟩ := rpa1 h2
    exact ⟨_, w, rfl, h1, h3⟩
theorem cd_len : CallR X (.builtin "len") (rDL X.K pLen) := by
  intro pins s σ H xs us Q I r q
  obtain ⟨Z, ds, c, sub, hd, e, gq⟩ := q
  unfold pLen at e
  split at e
  · split at e
    · rename_i z hz
      cases e
      obtain ⟨v, rfl, hv⟩ := rpa1 hd
      cases hv
      refine call_len pins s σ H _ us Q I r ⟨_, z.length, rfl, ⟨million hz, rfl⟩, ?_⟩
      rw [str_len]
      exact gq_of sub (.int _) gq
    · cases e
  · cases e
    obtain ⟨v, rfl, hv⟩ := rpa1 hd
    cases hv with
    | lst ea ra =>
      refine call_len pins s σ H _ us Q I r ⟨_, _, rfl, .inl ⟨_, SqL.of (sub _ _ ea), rfl⟩, ?_⟩
      rw [ra.len]
      exact gq_of sub (.int _) gq
  · cases e
    obtain ⟨v, rfl, hv⟩ := rpa1 hd
    cases hv with
    | tup ea ra =>
      refine call_len pins s σ H _ us Q I r ⟨_, _, rfl, .inr ⟨_, same_t sub ea, rfl⟩, ?_⟩
      rw [ra.len]
      exact gq_of sub (.int _) gq
  · cases e
theorem cd_min2 (hc : X.calm = true) : CallR X (.builtin "min") (rDL X.K pMin2) := by
  intro pins s σ H xs us Q I r q
  obtain ⟨Z, ds, c, sub, hd, e, gq⟩ := q
  unfold pMin2 at e
  split at e
  · rename_i i j
    cases e
    obtain ⟨v, w, rfl, hv, hw⟩ := rpa2 hd
    cases hv
    cases hw
    refine call_min2 hc pins s σ H _ us Q I r ⟨i, j, rfl, ?_⟩
    have : (if j < i then j else i) = min i j := by split <;> omega
    rw [this]
    exact gq_of sub (.int _) gq
  · cases e
theorem cd_max2 (hc : X.calm = true) : CallR X (.builtin "max") (rDL X.K pMax2) := by
  intro pins s σ H xs us Q I r q
  obtain ⟨Z, ds, c, sub, hd, e, gq⟩ := q
  unfold pMax2 at e
  split at e
  · rename_i i j
    cases e
    obtain ⟨v, w, rfl, hv, hw⟩ := rpa2 hd
    cases hv
    cases hw
    refine call_max2 hc pins s σ H _ us Q I r ⟨i, j, rfl, ?_⟩
    have : (if j > i then j else i) = max i j := by split <;> omega
    rw [this]
    exact gq_of sub (.int _) gq
  · cases e
theorem cd_abs : CallR X (.builtin "abs") (rDL X.K pAbs) := by
  intro pins s σ H xs us Q I r q
  obtain ⟨Z, ds, c, sub, hd, e, gq⟩ := q
  unfold pAbs at e
  split at e
  · cases e
    obtain ⟨v, rfl, hv⟩ := rpa1 hd
    cases hv
    exact call_abs pins s σ H _ us Q I r ⟨_, rfl, gq_of sub (.int _) gq⟩
  · cases e
theorem cd_all (hc : X.calm = true) : CallR X (.builtin "all") (rDL X.K pAll) := by
  intro pins s σ H xs us Q I r q
  obtain ⟨Z, ds, c, sub, hd, e, gq⟩ := q
  unfold pAll at e
  split at e
  · rename_i ds
    cases qb : boolsOf ds with
    | none => rw [qb] at e; cases e
    | some bs =>
      rw [qb] at e
      cases e
      obtain ⟨v, rfl, hv⟩ := rpa1 hd
      cases hv with
      | lst ea ra =>
        rw [boolsOf_some qb] at ra
        have ev := rpa_bools ra
        subst ev
        exact cr_all hc pins s σ H _ us Q I r ⟨_, bs, rfl, SqL.of (sub _ _ ea), gq_of sub (.bl _) gq⟩
  · cases e
theorem cd_sum (hc : X.calm = true) : CallR X (.builtin "sum") (rDL X.K pSum) := by
  intro pins s σ H xs us Q I r q
  obtain ⟨Z, ds, c, sub, hd, e, gq⟩ := q
  unfold pSum at e
  split at e
  · rename_i ds
    cases qb : intsOf ds with
    | none => rw [qb] at e; cases e
    | some bs =>
      rw [qb] at e
      cases e
      obtain ⟨v, rfl, hv⟩ := rpa1 hd
      cases hv with
      | lst ea ra =>
        rw [intsOf_some qb] at ra
        have ev := rpa_ints ra
        subst ev
        exact cr_sum hc pins s σ H _ us Q I r ⟨_, bs, rfl, SqL.of (sub _ _ ea), gq_of sub (.int _) gq⟩
  · cases e
/-! isinstance(x, T), T a built-in type -/
def tyN : PyData → String
  | .none => "NoneType"
  | .bool _ => "bool"
  | .int _ => "int"
  | .str _ => "str"
  | .list _ => "list"
  | .tuple _ => "tuple"
  | .dict _ => "dict"
def pIsi (T : String) (d : PyData) : Option PyData := (kitB (tyN d) T).map .bool
theorem rp_ty {K : PySem.W.Frag} {Z H : Hp} {v : V} {d : PyData} (sub : Same Z H) (h : Rp K Z v d) : TyX K H v (.type (tyN d)) := by
  cases h with
  | non => exact .base .non
  | bl b => exact .base (.bl b)
  | int i => exact .base (.int i)
  | str x => exact .base (.str x)
  | lst ea _ => exact .base (.lst (sub _ _ ea))
  | tup ea _ =>
    rcases ea with (ea | ⟨o, ea⟩) | ⟨o, its, n, ea, hc, _⟩
    · exact .base (.tup (sub _ _ ea))
    · exact .fTuple (sub _ _ ea)
    · exact .kTuple ea hc
theorem je_isi {W : XW} {e : Expr} {f : EF} {T : String} {t : Str} {p1 p2 pos : Pos} (hm : X.mg "isinstance" = none) (ht : X.mg t = none) (he : JE X W e f) (hb : bootBuiltins t = some (.type T)) (hg : Gl X "isinstance" := by rfl) (hgt : Gl X t := by rfl)
    (hn : t ≠ "__name__" := by decide) (hd : (t == ("__debug__" : Str)) = false := by decide)
    (hs : starEach [e, .Name t p1] X.env = (false, eval e X.env) :: starEach [.Name t p1] X.env := by rfl) (hs2 : starEach [.Name t p1] X.env = (false, eval (.Name t p1) X.env) :: starEach [] X.env := by rfl)
    (hpl : (backTo pos (starEach [.Name t p1] X.env)).any (·.1) = false := by rfl) :
    JE X W (.Call (.Name "isinstance" p2) [e, .Name t p1] [] pos) (eUn (pIsi T) f) := by
  refine pe_imp (pe_callB call_isi hg hm (by decide +kernel) (pa_cons he (pa_cons (pe_bltn (v := .ty T) hgt ht hb rfl hn hd) pa_nil hs2) hs) (by decide) (by decide) hs hpl) fun σ H Q q => ?_
  refine tE_mono (tE_un q) fun x H1 q => ?_
  obtain ⟨Z, d, c, sub, hd, e, gq⟩ := q
  unfold pIsi at e
  cases qk : kitB (tyN d) T with
  | none => rw [qk] at e; cases e
  | some b =>
    rw [qk] at e
    cases e
    exact ⟨x, .ty T, _, .type T, b, rfl, .ty T, rp_ty sub hd, kit_ty qk, gq_of sub (.bl b) gq⟩
end

/-! ### methods of built-in types -/
def tyB (T : String) : PyData → Bool
  | .str _ => T == "str"
  | .int _ => T == "int"
  | .list _ => T == "list"
  | _ => false
def eM (T : String) (op : PyData → List PyData → Option PyData) (f : EF) (g : AF) : EF := eB f fun d => if tyB T d then eAD g fun ds => eR (op d ds) else fun _ _ => none
def rDM (K : PySem.W.Frag) (op : PyData → List PyData → Option PyData) : V → List V → Hp → VK → Prop := fun x xs H Q => ∃ Z d ds c, Same Z H ∧ Rp K Z x d ∧ RpA K Z xs ds ∧ op d ds = some c ∧ Gq K Z H c Q
theorem rp_tyV {K : PySem.W.Frag} {Z H : Hp} {T : String} {v : V} {d : PyData} (sub : Same Z H) (h : Rp K Z v d) (t : tyB T d = true) : tyV K T v H := by
  cases h with
  | non => cases t
  | bl b => cases t
  | int i => exact beq_iff_eq.mp t
  | str x => exact beq_iff_eq.mp t
  | lst ea _ => exact .inl ⟨beq_iff_eq.mp t, _, SqL.of (sub _ _ ea)⟩
  | tup ea _ => cases t
theorem tH_args {K : PySem.W.Frag} {W : XW} {hs : List (V × PyData)} {g : AF} {op : List PyData → Option PyData} {σ : L2.St} {H : Hp} {Q : VK} (h : tH K W hs (eAD g fun ds => eR (op ds)) σ H Q) :
    tA K W g σ H fun vs H1 => ∃ Z ds c, Same Z H1 ∧ (∀ p ∈ hs, Rp K Z p.1 p.2) ∧ RpA K Z vs ds ∧ op ds = some c ∧ Gq K Z H1 c Q := by
  obtain ⟨Z, B, dl, st, r, st', rl, hh, e, a⟩ := h
  unfold eAD eA at e
  cases q : g dl st with
  | none => rw [q] at e; cases e
  | some y =>
    obtain ⟨ra, st1⟩ := y
    rw [q] at e
    refine ⟨Z, B, dl, st, ra, st1, rl, q, ?_⟩
    cases ra with
    | ex c p => cases e; exact a
    | ok svs =>
      dsimp only at e
      cases q2 : svD svs with
      | none => rw [q2] at e; cases e
      | some ds =>
        rw [q2] at e
        refine fun vs Z' H' rl' x' h' => ?_
        obtain ⟨c, ec, gq⟩ := Aft.gq rl' e (a.ext x')
        exact ⟨Z', ds, c, rl'.sub, fun p hp => (hh p hp).mono' x'.z, rvs_data h' q2, ec, gq⟩
section
variable {X : Cx} {W : XW} {o e : Expr} {es : List Expr} {f : EF} {g : AF} {name : Str} {apos cpos : Pos} {T id : String} {op : PyData → List PyData → Option PyData}
theorem je_m (pa : PlainAttrs T) (slot : Slot T name id) (hty : typeOf (.builtin id) = pure (.type "method_descriptor")) (hm : MtR X id (rDM X.K op)) (ho : JE X W o f) (ha : JA X W (e :: es) g)
    (hbase : attributeBase o name X.env (eval o X.env) = eval o X.env := by rfl)
    (hfew : ((backTo cpos (starEach (e :: es) X.env)).all (fun x => !x.1) && (backToKw cpos (keywordEach [] X.env)).all (fun x => x.1.isSome)
      && decide ((e :: es).length + ([] : List Keyword).length + (if ([] : List Keyword).isEmpty then 0 else 1) < 30)) = true := by rfl)
    (hline : (apos.endLine == cpos.line) = true := by rfl) (hs : starEach (e :: es) X.env = (false, eval e X.env) :: starEach es X.env := by rfl) (hplain : (backTo cpos (starEach es X.env)).any (·.1) = false := by rfl) :
    JE X W (.Call (.Attribute o name apos) (e :: es) [] cpos) (eM T op f g) := by
  refine pe_imp (pe_bm pa slot hty hm ho ha hbase hfew hline hs hplain) fun σ H Q q => ?_
  refine tE_mono (tH_bnd (tH_of q)) fun x H1 q => ?_
  obtain ⟨d, q⟩ := q
  by_cases ht : tyB T d = true
  · rw [if_pos ht] at q
    obtain ⟨Z, B, dl, st, r, st', rl, hh, e, a⟩ := (show _ from q)
    refine ⟨rp_tyV rl.sub (hh (x, d) (by simp)) ht, tA_mono (tH_args q) fun vs H2 q => ?_⟩
    obtain ⟨Z2, ds, c, sub, hh2, hds, ec, gq⟩ := q
    exact ⟨Z2, d, ds, c, sub, hh2 (x, d) (by simp), hds, ec, gq⟩
  · rw [if_neg ht] at q
    obtain ⟨Z, B, dl, st, r, st', rl, hh, e, a⟩ := q
    cases e
/-- without arguments -/
theorem je_m0 (pa : PlainAttrs T) (slot : Slot T name id) (hty : typeOf (.builtin id) = pure (.type "method_descriptor")) (hm : MtR X id (rDM X.K op)) (ho : JE X W o f)
    (hbase : attributeBase o name X.env (eval o X.env) = eval o X.env := by rfl) (hline : (apos.endLine == cpos.line) = true := by rfl) : JE X W (.Call (.Attribute o name apos) [] [] cpos) (eM T op f aN) := by
  refine pe_imp (pe_bm0 pa slot hty hm ho hbase hline) fun σ H Q q => ?_
  refine tE_mono (tH_bnd (tH_of q)) fun x H1 q => ?_
  obtain ⟨d, q⟩ := q
  by_cases ht : tyB T d = true
  · rw [if_pos ht] at q
    obtain ⟨Z, B, dl, st, r, st', rl, hh, e, a⟩ := (show _ from q)
    refine ⟨rp_tyV rl.sub (hh (x, d) (by simp)) ht, ?_⟩
    obtain ⟨c, ec, gq⟩ := Aft.gq (c := op d []) rl e a
    exact ⟨Z, d, [], c, rl.sub, hh (x, d) (by simp), .nil, ec, gq⟩
  · rw [if_neg ht] at q
    obtain ⟨Z, B, dl, st, r, st', rl, hh, e, a⟩ := q
    cases e

/-! join -/
def joinL (sep : List Nat) : List (List Nat) → List Nat
  | [] => []
  | [x] => x
  | x :: y :: r => x ++ sep ++ joinL sep (y :: r)
theorem joinL_nil : ∀ xs : List (List Nat), joinL [] xs = xs.flatten
  | [] => rfl
  | [x] => by simp [joinL]
  | x :: y :: r => by rw [joinL, joinL_nil (y :: r)]; simp
def sumLen (ys : List Str) : Nat := (ys.map (·.length)).sum
def pJoin : PyData → List PyData → Option PyData
  | .str a, [.list ds] => match strsOf ds with
    | some ys => if sumLen ys + ys.length * a.length ≤ 1000000 then some (.str (tx (joinL a.cps.toList (ys.map fun y => y.cps.toList)))) else none
    | none => none
  | _, _ => none
theorem glue_fold (a : List Nat) : ∀ (r : List Str) (acc : List Nat), (r.foldl (fun (acc : Array Nat) p => acc ++ a.toArray ++ p.cps) acc.toArray) = (acc ++ (r.map fun y => a ++ y.cps.toList).flatten).toArray
  | [], acc => by simp
  | y :: r, acc => by
    rw [List.foldl_cons]
    have : acc.toArray ++ a.toArray ++ y.cps = (acc ++ a ++ y.cps.toList).toArray := by
      apply Array.ext'
      simp
    rw [this, glue_fold a r]
    simp
theorem joinL_eq (sep x : List Nat) : ∀ r : List (List Nat), joinL sep (x :: r) = x ++ (r.map fun y => sep ++ y).flatten
  | [] => by simp [joinL]
  | y :: r => by rw [joinL, joinL_eq sep y r]; simp
theorem txt_join (a : Str) (ys : List Str) : Txt.join a ys = tx (joinL a.cps.toList (ys.map fun y => y.cps.toList)) := by
  unfold Txt.join Builtin.Str.glued tx
  obtain ⟨⟨a⟩⟩ := a
  cases ys with
  | nil => rfl
  | cons y r =>
    congr 1
    rw [List.drop_one, List.tail_cons, List.headD_cons]
    have h := glue_fold a r y.cps.toList
    rw [show y.cps.toList.toArray = y.cps from by simp] at h
    show (r.foldl (fun (acc : Array Nat) p => acc ++ a.toArray ++ p.cps) y.cps) = _
    rw [h, List.map_cons, joinL_eq, List.map_map]
    rfl
theorem md_join : MtR X "str.join" (rDM X.K pJoin) := by
  intro pins s σ H x xs v us Q I rx rv q
  obtain ⟨Z, d, ds, c, sub, hx, hd, e, gq⟩ := q
  unfold pJoin at e
  split at e
  · rename_i a ds
    split at e
    · rename_i ys qs
      split at e
      · rename_i hz
        cases e
        cases hx
        obtain ⟨w, rfl, hw⟩ := rpa1 hd
        cases hw with
        | lst ea ra =>
          rw [strsOf_some qs] at ra
          have ev := rpa_strs ra
          subst ev
          refine mt_join pins s σ H _ _ v us Q I rx rv ⟨a, _, ys, rfl, rfl, .inl (SqL.of (sub _ _ ea)), ?_, ?_⟩
          · unfold sumLen at hz
            omega
          · rw [txt_join]
            exact gq_of sub (.str _) gq
      · cases e
    · cases e
  · cases e
theorem je_join (ho : JE X W o f) (ha : JA X W [e] g)
    (hbase : attributeBase o "join" X.env (eval o X.env) = eval o X.env := by rfl)
    (hfew : ((backTo cpos (starEach [e] X.env)).all (fun x => !x.1) && (backToKw cpos (keywordEach [] X.env)).all (fun x => x.1.isSome)
      && decide (([e] : List Expr).length + ([] : List Keyword).length + (if ([] : List Keyword).isEmpty then 0 else 1) < 30)) = true := by rfl)
    (hline : (apos.endLine == cpos.line) = true := by rfl) (hs : starEach [e] X.env = (false, eval e X.env) :: starEach [] X.env := by rfl) (hplain : (backTo cpos (starEach [] X.env)).any (·.1) = false := by rfl) :
    JE X W (.Call (.Attribute o "join" apos) [e] [] cpos) (eM "str" pJoin f g) :=
  je_m PySem.F.plainAttrs_str PySem.F.slot_str_join PySem.F.type_str_join md_join ho ha hbase hfew hline hs hplain
end
end DL
set_option autoImplicit false
namespace DL
open PySem PySem.Spec PyProof.Rows L2

/-! ### what is walked: a list, a tuple, a text -/
def signs (l : List Nat) : List PyData := l.map fun c => .str (tx [c])
def itemsOf : PyData → Option (List PyData)
  | .list xs => some xs
  | .tuple xs => some xs
  | .str z => some (signs z.cps.toList)
  | _ => none
def iD (f : EF) : IF := fun dl st => match f dl st with
  | some (.ok d, st1) => (itemsOf d).map fun xs => (.ok xs, st1)
  | some (.ex c p, st1) => some (.ex c p, st1)
  | none => none
def iAny (K : PySem.W.Frag) (te : TE) : TI := fun σ H R => te σ H fun x H1 =>
  (∃ a, x = .ref a ∧ (∃ xs, SqL K H1 a xs) ∧ R (Itl K a) H1) ∨ (∃ a, x = .ref a ∧ (∃ xs, SqT K H1 a xs) ∧ R (Itt K a) H1) ∨ (∃ z, x = .str z ∧ R (Its z) H1)
section
variable {X : Cx} {W : XW} {tg e : Expr} {f : EF}
theorem pi_any {te : TE} (he : PE X e te) : PI X tg e (iAny X.K te) := by
  refine ⟨fun pins s σ H R I h => ?_⟩
  refine thn (he.run pins s σ H _ I h) fun v s1 ⟨y, H1, I1, r1, q⟩ => ?_
  rcases q with ⟨a, ex, ⟨xs, hq⟩, q⟩ | ⟨a, ex, ⟨xs, hq⟩, q⟩ | ⟨x, ex, q⟩
  · subst ex
    cases r1
    obtain ⟨its, rv, p, hz⟩ := I1.list hq
    exact wpAny_pyIter_list p.isList (pi_one (tk := s1.toks) I1 _ (turn_list a _) ⟨_, Heap.get?_push_size _ rfl, rfl, rfl⟩ q)
  · subst ex
    cases r1
    obtain ⟨its, rv, p, hz⟩ := I1.tuple hq
    exact wpAny_pyIter_tuple (show s1.heap.IsTuple a its.toArray from p) (pi_one (tk := s1.toks) I1 _ (turn_tuple a _) ⟨_, Heap.get?_push_size _ rfl, rfl, rfl⟩ q)
  · subst ex
    obtain ⟨t, rfl⟩ := r1
    cases ha : x.cps.all (· < 128)
    · exact wpAny_pyIter_wide ha (pi_one (tk := s1.toks) I1 _ (turn_str _ x t "str_iterator" (.inr rfl)) ⟨_, Heap.get?_push_size _ rfl, rfl, rfl⟩ q)
    · exact wpAny_pyIter_ascii ha (pi_one (tk := s1.toks) I1 _ (turn_str _ x t "str_ascii_iterator" (.inl rfl)) ⟨_, Heap.get?_push_size _ rfl, rfl, rfl⟩ q)
theorem itd_list {K : PySem.W.Frag} {Z : Hp} {a : Addr} {vs : List V} {ds : List PyData} (ea : Z a = some (.lst vs)) (ra : RpA K Z vs ds) : ItD K (Itl K a) Z ds := by
  intro Z1 H z1 s1 i
  have hq : SqL K H a vs := SqL.of (s1 _ _ (z1 _ _ ea))
  refine ⟨fun hi => ⟨⟨vs, vs[i]'(by rw [ra.len]; exact hi), hq, by simp⟩, fun x H' y => ?_⟩, fun hi => ⟨vs, hq, by rw [ra.len]; exact hi⟩⟩
  obtain ⟨e, y⟩ := y
  subst e
  obtain ⟨d, ed, rd⟩ := ra.get' (y vs hq)
  exact ⟨Z1, Grow.refl s1, d, ed, rd.mono' z1⟩
theorem itd_tup {K : PySem.W.Frag} {Z : Hp} {a : Addr} {vs : List V} {ds : List PyData} (ea : SqT K Z a vs) (ra : RpA K Z vs ds) : ItD K (Itt K a) Z ds := by
  intro Z1 H z1 s1 i
  have hq : SqT K H a vs := same_t s1 (same_t z1 ea)
  refine ⟨fun hi => ⟨⟨vs, vs[i]'(by rw [ra.len]; exact hi), hq, by simp⟩, fun x H' y => ?_⟩, fun hi => ⟨vs, hq, by rw [ra.len]; exact hi⟩⟩
  obtain ⟨e, y⟩ := y
  subst e
  obtain ⟨d, ed, rd⟩ := ra.get' (y vs hq)
  exact ⟨Z1, Grow.refl s1, d, ed, rd.mono' z1⟩
theorem signs_len (l : List Nat) : (signs l).length = l.length := by simp [signs]
theorem itd_str {K : PySem.W.Frag} {Z : Hp} {z : Str} : ItD K (Its z) Z (signs z.cps.toList) := by
  intro Z1 H z1 s1 i
  rw [signs_len]
  refine ⟨fun hi => ⟨(by show i < z.cps.size; simpa using hi), fun x H' y => ?_⟩, fun hi => (by show z.cps.size ≤ i; simpa using hi)⟩
  obtain ⟨e, c, ec, ev⟩ := y
  subst e
  refine ⟨Z1, Grow.refl s1, .str (tx [c]), ?_, by rw [ev]; exact .str _⟩
  unfold signs
  rw [List.getElem?_map, Array.getElem?_toList, ec]
  rfl
theorem ji_any (he : JE X W e f) : JI X W tg e (iD f) := by
  refine pi_imp (pi_any he) fun σ H R q => ?_
  obtain ⟨Z, B, dl, st, r, st', rl, e, a⟩ := q
  unfold iD at e
  cases q : f dl st with
  | none => rw [q] at e; cases e
  | some y =>
    obtain ⟨rs, st1⟩ := y
    rw [q] at e
    refine ⟨Z, B, dl, st, rs, st1, rl, q, ?_⟩
    cases rs with
    | ex c p => cases e; exact a
    | ok d =>
      refine fun v Z' H' rl' x' h' => ?_
      dsimp only at e
      cases d with
      | list xs =>
        cases e
        cases h' with
        | lst ea ra => exact .inl ⟨_, rfl, ⟨_, SqL.of (rl'.sub _ _ ea)⟩, a _ Z' H' rl' x' (itd_list ea ra)⟩
      | tuple xs =>
        cases e
        cases h' with
        | tup ea ra => exact .inr (.inl ⟨_, rfl, ⟨_, same_t rl'.sub ea⟩, a _ Z' H' rl' x' (itd_tup ea ra)⟩)
      | str z =>
        cases e
        cases h'
        exact .inr (.inr ⟨_, rfl, a _ Z' H' rl' x' itd_str⟩)
      | none => cases e
      | bool _ => cases e
      | int _ => cases e
      | dict _ => cases e
end

/-! ### ranges -/
def rangeL (lo hi : Int) : List PyData := (List.range (hi - lo).toNat).map fun (i : Nat) => .int (lo + i)
def inLine (i : Int) : Bool := decide (-(2 ^ 62) ≤ i) && decide (i < 2 ^ 62)
def iA (g : AF) (k : List PyData → Option (List PyData)) : IF := fun dl st => match g dl st with
  | some (.ok svs, st1) => match svD svs with
    | some ds => (k ds).map fun xs => (.ok xs, st1)
    | none => none
  | some (.ex c p, st1) => some (.ex c p, st1)
  | none => none
def kRg1 : List PyData → Option (List PyData)
  | [.int j] => if inLine j then some (rangeL 0 j) else none
  | _ => none
def kRg2 : List PyData → Option (List PyData)
  | [.int i, .int j] => if inLine i && inLine j then some (rangeL i j) else none
  | _ => none
theorem itd_rng {K : PySem.W.Frag} {Z : Hp} {lo hi : Int} : ItD K (Itr lo (hi - lo).toNat) Z (rangeL lo hi) := by
  intro Z1 H z1 s1 i
  have hl : (rangeL lo hi).length = (hi - lo).toNat := by simp [rangeL]
  rw [hl]
  refine ⟨fun h => ⟨h, fun x H' y => ?_⟩, fun h => h⟩
  obtain ⟨e, ex⟩ := y
  subst e
  refine ⟨Z1, Grow.refl s1, .int (lo + i), ?_, by rw [ex]; exact .int _⟩
  unfold rangeL
  rw [List.getElem?_map, List.getElem?_range h]
  rfl
theorem tI_args {K : PySem.W.Frag} {W : XW} {g : AF} {k : List PyData → Option (List PyData)} {σ : L2.St} {H : Hp} {R : It → Hp → Prop} (q : tI K W (iA g k) σ H R) :
    tA K W g σ H fun vs H1 => ∃ Z ds xs, Same Z H1 ∧ RpA K Z vs ds ∧ k ds = some xs ∧ ∀ J, ItD K J Z xs → R J H1 := by
  obtain ⟨Z, B, dl, st, r, st', rl, e, a⟩ := q
  unfold iA at e
  cases q : g dl st with
  | none => rw [q] at e; cases e
  | some y =>
    obtain ⟨ra, st1⟩ := y
    rw [q] at e
    refine ⟨Z, B, dl, st, ra, st1, rl, q, ?_⟩
    cases ra with
    | ex c p => cases e; exact a
    | ok svs =>
      dsimp only at e
      cases q2 : svD svs with
      | none => rw [q2] at e; cases e
      | some ds =>
        rw [q2] at e
        dsimp only at e
        cases q3 : k ds with
        | none => rw [q3] at e; cases e
        | some xs =>
          rw [q3] at e
          cases e
          exact fun vs Z' H' rl' x' h' => ⟨Z', ds, xs, rl'.sub, rvs_data h' q2, q3, fun J itd => a J Z' H' rl' x' itd⟩
section
variable {X : Cx} {W : XW} {tg : Expr} {g : AF} {p pos : Pos}
theorem inLine_ok {i : Int} (h : inLine i = true) : -(2 ^ 62) ≤ i ∧ i < 2 ^ 62 := by
  unfold inLine at h
  simpa using h
theorem ji_range1 {a : Expr} (hm : X.mg "range" = none) (ha : JA X W [a] g) (hg : Gl X "range" := by rfl) (hs : starEach [a] X.env = [(false, eval a X.env)] := by rfl) : JI X W tg (.Call (.Name "range" p) [a] [] pos) (iA g kRg1) := by
  refine pi_imp (pi_range1 hg hm ha hs) fun σ H R q => ?_
  refine tA_mono (tI_args q) fun vs H1 q => ?_
  obtain ⟨Z, ds, xs, sub, hd, ek, q⟩ := q
  unfold kRg1 at ek
  split at ek
  · rename_i j
    split at ek
    · rename_i hj
      cases ek
      obtain ⟨v, rfl, hv⟩ := rpa1 hd
      cases hv
      obtain ⟨h1, h2⟩ := inLine_ok hj
      refine ⟨j, rfl, h1, h2, q _ ?_⟩
      have := itd_rng (K := X.K) (Z := Z) (lo := 0) (hi := j)
      rwa [Int.sub_zero] at this
    · cases ek
  · cases ek
theorem ji_range2 {a b : Expr} (hm : X.mg "range" = none) (ha : JA X W [a, b] g) (hg : Gl X "range" := by rfl) (hs : starEach [a, b] X.env = [(false, eval a X.env), (false, eval b X.env)] := by rfl) (hs2 : starEach [b] X.env = [(false, eval b X.env)] := by rfl) :
    JI X W tg (.Call (.Name "range" p) [a, b] [] pos) (iA g kRg2) := by
  refine pi_imp (pi_range2 hg hm ha hs hs2) fun σ H R q => ?_
  refine tA_mono (tI_args q) fun vs H1 q => ?_
  obtain ⟨Z, ds, xs, sub, hd, ek, q⟩ := q
  unfold kRg2 at ek
  split at ek
  · rename_i i j
    split at ek
    · rename_i hj
      cases ek
      rw [Bool.and_eq_true] at hj
      obtain ⟨v, w, rfl, hv, hw⟩ := rpa2 hd
      cases hv
      cases hw
      obtain ⟨h1, h2⟩ := inLine_ok hj.1
      obtain ⟨h3, h4⟩ := inLine_ok hj.2
      exact ⟨i, j, rfl, ⟨h1, h2, h3, h4⟩, q _ itd_rng⟩
    · cases ek
  · cases ek

/-! ### enumerate of a list, of a text -/
def enumL (n : Nat) : List PyData → List PyData
  | [] => []
  | x :: r => .tuple [.int (n : Int), x] :: enumL (n + 1) r
theorem enumL_len : ∀ (xs : List PyData) (n : Nat), (enumL n xs).length = xs.length
  | [], _ => rfl
  | _ :: r, n => by simp [enumL, enumL_len r (n + 1)]
theorem enumL_get : ∀ (xs : List PyData) (n i : Nat), (enumL n xs)[i]? = xs[i]?.map fun x => .tuple [.int ((n + i : Nat) : Int), x]
  | [], _, _ => by simp [enumL]
  | x :: r, n, 0 => by simp [enumL]
  | x :: r, n, i + 1 => by
    simp only [enumL, List.getElem?_cons_succ]
    rw [enumL_get r (n + 1) i, show n + 1 + i = n + (i + 1) by omega]
def kEnum : List PyData → Option (List PyData)
  | [.list xs] => some (enumL 0 xs)
  | [.str z] => some (enumL 0 (signs z.cps.toList))
  | _ => none
def Ites (x : Str) : It := ⟨fun i _ => i < x.cps.size, fun i H v H' => ∃ T c, v = .ref T ∧ H T = none ∧ H' = upd H T (.tup [.int (i : Nat), .str ⟨#[c]⟩]) ∧ x.cps[i]? = some c, fun i _ => x.cps.size ≤ i⟩
theorem turn_enumS {P : Program} {w : World} {K : PySem.W.Frag} {elts : List Expr} {kk : Nat} {tpos : Pos} (x : Str) (t : Tok) (e it : Addr) :
    Turn P w K (.Tuple elts kk tpos) (Ites x) [e, it] e (fun i h => i ≤ x.cps.size ∧ (∃ old, IsEnum h e it ((i : Nat) : Int) old) ∧ h.IsStrIter it (strIterType x) x t i ∧ e ≠ it) where
  mem := by simp
  obj := fun i h st b hb => by
    obtain ⟨_, ⟨old, he⟩, ⟨o, ho, hc, hd⟩, _⟩ := st
    have e' : b = e ∨ b = it := by simpa using hb
    rcases e' with z | z
    · rw [z]; exact ⟨_, he, fun v q => nomatch q⟩
    · rw [z]; exact ⟨o, ho, fun v q => by rw [hd] at q; cases q⟩
  keep := fun i h h' st k => let ⟨hi, ⟨old, he⟩, ⟨o, ho, r⟩, hne⟩ := st; ⟨hi, ⟨old, k e (by simp) _ he⟩, ⟨o, k it (by simp) o ho, r⟩, hne⟩
  item := by
    intro X hP hw hK hc i pins s σ H E I hf st hg
    subst hP hw hK
    obtain ⟨hi, ⟨old, he⟩, hit, hne⟩ := st
    have hg : i < x.cps.size := hg
    have hel : e < s.heap.objs.size := Heap.lt_size he
    have hil : it < s.heap.objs.size := by obtain ⟨_, q, _⟩ := hit; exact Heap.lt_size q
    have D : Draws X.prog X.w X.A.in1 it [it] x.cps.size (fun i v => ∃ c u, x.cps[i]? = some c ∧ v = .str ⟨#[c]⟩ u) (fun i h => h.IsStrIter it (strIterType x) x t i) := Draws.text (show X.A.in1.handled = none from I.ok.hd hc) it x t
    refine wpAny_pyNext_enum_itemD D he hit hg hne (by simpa using hne) fun u h' tk hP ho hit' hT hsz hk => ?_
    obtain ⟨c, u', hc', rfl⟩ := hP
    refine ⟨_, rfl, wpAny_letOwnedTupleGo_enum (s := { s with heap := h', toks := tk + 1 }) ho fun h'' he' sb => ?_⟩
    have hT2 : h''.get? s.heap.objs.size = some { cls := .type "tuple", data := .seq #[.int i tk, .str ⟨#[c]⟩ u'] } := (sb.2 _ (Nat.ne_of_gt hel)).trans hT
    have new : ObjOk X.prog X.w (upd H s.heap.objs.size (.tup [.int (i : Nat), .str ⟨#[c]⟩])) h'' s.heap.objs.size (.tup [.int (i : Nat), .str ⟨#[c]⟩]) :=
      ⟨by show 2 ≤ sizeLine; decide, [.int i tk, .str ⟨#[c]⟩ u'], .cons ⟨_, rfl⟩ (.cons ⟨_, rfl⟩ .nil), ⟨_, hT2, rfl, _, rfl⟩⟩
    have I1 : Inv X pins σ (upd H s.heap.objs.size (.tup [.int (i : Nat), .str ⟨#[c]⟩])) { s with heap := h'', toks := tk + 1 } :=
      I.turnedNew (ch := [e, it]) (fun b ob hb q => (sb.2 b (fun z => hb (by simp [z]))).trans (hk b ob (fun z => hb (by simp [z])) (fun z => hb (by simp [z])) q)) hf (Nat.le_refl _) new
    refine ⟨.ref s.heap.objs.size, _, I1, rfl, ⟨_, c, rfl, I.hok.fresh (Nat.le_refl _), rfl, hc'⟩, ⟨hg, ⟨.str ⟨#[c]⟩ u', ?_⟩, ?_, hne⟩, fun b hb => ?_⟩
    · have e1 : ((i + 1 : Nat) : Int) = (i : Int) + 1 := by omega
      rw [e1]; exact he'
    · obtain ⟨o, ho', r⟩ := hit'
      exact ⟨o, (sb.2 it (Ne.symm hne)).trans ho', r⟩
    · have hb' : b < s.heap.objs.size := by
        have e' : b = e ∨ b = it := by simpa using hb
        rcases e' with z | z
        · rw [z]; exact hel
        · rw [z]; exact hil
      rw [upd_ne (Nat.ne_of_lt hb')]
      exact (hf b hb).1
  done := by
    intro X hP hw hK hc i pins s σ H E I hf st hg
    subst hP hw hK
    obtain ⟨hi, ⟨old, he⟩, hit, hne⟩ := st
    have hg : x.cps.size ≤ i := hg
    have ei : i = x.cps.size := by omega
    subst ei
    obtain ⟨f0, f1, f2, f3, f4, f5⟩ := hf it (by simp)
    have D : Draws X.prog X.w X.A.in1 it [it] x.cps.size (fun i v => ∃ c u, x.cps[i]? = some c ∧ v = .str ⟨#[c]⟩ u) (fun i h => h.IsStrIter it (strIterType x) x t i) := Draws.text (show X.A.in1.handled = none from I.ok.hd hc) it x t
    exact wpAny_pyNext_enum_endD D he hit fun h' eb => ⟨rfl, I.turned (t' := s.toks) (fun b o hb q => eb b o hb q) f0 f1 f3 f4 f5⟩
  self := fun A i s Q E st h => let ⟨_, ⟨_, he⟩, _⟩ := st; wpAny_pyIter_enum he h
def iEnumA (K : PySem.W.Frag) (ta : TA) : TI := fun σ H R => ta σ H fun vs H1 => (∃ a xs, vs = [.ref a] ∧ SqL K H1 a xs ∧ R (Ite K a) H1) ∨ (∃ z, vs = [.str z] ∧ R (Ites z) H1)
theorem pi_enumA {e : Expr} {ta : TA} {tpos : Pos} {elts : List Expr} {kk : Nat} (hg : Gl X "enumerate") (hm : X.mg "enumerate" = none) (ha : PA X [e] ta) (hs : starEach [e] X.env = [(false, eval e X.env)] := by rfl) :
    PI X (.Tuple elts kk tpos) (.Call (.Name "enumerate" p) [e] [] pos) (iEnumA X.K ta) := by
  refine ⟨fun pins s σ H R I h => ?_⟩
  refine Call_ (ld_blt I hg hm boot_enumerate (PyProof.Rows.callWith_type1 (thn (ha.run pos pins s σ H _ I h) fun us s1 ⟨vs, H1, I1, r1, q1⟩ => ?_) hs rfl))
  have fp : ∀ b ∈ [s1.heap.objs.size + 1, s1.heap.objs.size], FpOk X pins H1 b := fun b hb => by
    have e' : b = s1.heap.objs.size + 1 ∨ b = s1.heap.objs.size := by simpa using hb
    have hle : s1.heap.objs.size ≤ b := by
      rcases e' with z | z
      · rw [z]; exact Nat.le_add_right _ _
      · rw [z]; exact Nat.le_refl _
    exact I1.fpOk hle (I1.hok.fresh hle)
  rcases q1 with ⟨a, xs, ex, hq, q⟩ | ⟨z, ex, q⟩
  · subst ex
    cases r1 with
    | cons r rr =>
      cases rr
      cases r
      obtain ⟨its, rv, p', hz⟩ := I1.list hq
      refine call_enumerate_list p'.isList fun h' he hit hsz hk => wpAny_pyIter_enum he ?_
      have I2 : Inv X pins σ H1 { s1 with heap := h' } := I1.kept (t' := s1.toks) hk
      exact ⟨s1.heap.objs.size + 1, [s1.heap.objs.size + 1, s1.heap.objs.size], _, _, H1, rfl, I2, turn_enum a (s1.heap.objs.size + 1) s1.heap.objs.size, ⟨⟨.none, he⟩, hit, Nat.succ_ne_self _⟩, fp, q⟩
  · subst ex
    cases r1 with
    | cons r rr =>
      cases rr
      obtain ⟨t, rfl⟩ := r
      refine call_enumerate_str fun h' he hit hsz hk => wpAny_pyIter_enum he ?_
      have I2 : Inv X pins σ H1 { s1 with heap := h' } := I1.kept (t' := s1.toks) hk
      exact ⟨s1.heap.objs.size + 1, [s1.heap.objs.size + 1, s1.heap.objs.size], _, _, H1, rfl, I2, turn_enumS z t (s1.heap.objs.size + 1) s1.heap.objs.size, ⟨Nat.zero_le _, ⟨.none, he⟩, hit, Nat.succ_ne_self _⟩, fp, q⟩
theorem itd_enum {K : PySem.W.Frag} {Z : Hp} {a : Addr} {vs : List V} {ds : List PyData} (ea : Z a = some (.lst vs)) (ra : RpA K Z vs ds) : ItD K (Ite K a) Z (enumL 0 ds) := by
  intro Z1 H z1 s1 i
  rw [enumL_len]
  have hq : SqL K H a vs := SqL.of (s1 _ _ (z1 _ _ ea))
  refine ⟨fun hi => ⟨⟨vs, vs[i]'(by rw [ra.len]; exact hi), hq, by simp⟩, fun x H' y => ?_⟩, fun hi => ⟨vs, hq, by rw [ra.len]; exact hi⟩⟩
  obtain ⟨T, w, rfl, hT, rfl, y⟩ := y
  obtain ⟨d, ed, rd⟩ := ra.get' (y vs hq)
  have gr := Grow.new (o := .tup [.int (i : Nat), w]) s1 hT
  refine ⟨_, gr, .tuple [.int (i : Int), d], ?_, .tup (SqT.of upd_same) (.cons (.int _) (.cons ((rd.mono' z1).mono' gr.z) .nil))⟩
  rw [enumL_get, ed, Nat.zero_add]
  rfl
theorem itd_enumS {K : PySem.W.Frag} {Z : Hp} {z : Str} : ItD K (Ites z) Z (enumL 0 (signs z.cps.toList)) := by
  intro Z1 H z1 s1 i
  rw [enumL_len, signs_len]
  refine ⟨fun hi => ⟨(by show i < z.cps.size; simpa using hi), fun x H' y => ?_⟩, fun hi => (by show z.cps.size ≤ i; simpa using hi)⟩
  obtain ⟨T, c, rfl, hT, rfl, ec⟩ := y
  have gr := Grow.new (o := .tup [.int (i : Nat), .str ⟨#[c]⟩]) s1 hT
  refine ⟨_, gr, .tuple [.int (i : Int), .str (tx [c])], ?_, .tup (SqT.of upd_same) (.cons (.int _) (.cons (.str _) .nil))⟩
  rw [enumL_get]
  unfold signs
  rw [List.getElem?_map, Array.getElem?_toList, ec, Nat.zero_add]
  rfl
theorem ji_enum {e : Expr} {tpos : Pos} {elts : List Expr} {kk : Nat} (hm : X.mg "enumerate" = none) (ha : JA X W [e] g) (hg : Gl X "enumerate" := by rfl) (hs : starEach [e] X.env = [(false, eval e X.env)] := by rfl) :
    JI X W (.Tuple elts kk tpos) (.Call (.Name "enumerate" p) [e] [] pos) (iA g kEnum) := by
  refine pi_imp (pi_enumA hg hm ha hs) fun σ H R q => ?_
  refine tA_mono (tI_args q) fun vs H1 q => ?_
  obtain ⟨Z, ds, xs, sub, hd, ek, q⟩ := q
  unfold kEnum at ek
  split at ek
  · cases ek
    obtain ⟨v, rfl, hv⟩ := rpa1 hd
    cases hv with
    | lst ea ra => exact .inl ⟨_, _, rfl, SqL.of (sub _ _ ea), q _ (itd_enum ea ra)⟩
  · cases ek
    obtain ⟨v, rfl, hv⟩ := rpa1 hd
    cases hv
    exact .inr ⟨_, rfl, q _ itd_enumS⟩
  · cases ek

/-! ### zip of two lists -/
def zipL : List PyData → List PyData → List PyData
  | x :: r, y :: t => .tuple [x, y] :: zipL r t
  | _, _ => []
theorem zipL_len : ∀ (xs ys : List PyData), (zipL xs ys).length = min xs.length ys.length
  | [], _ => by simp [zipL]
  | _ :: _, [] => by simp [zipL]
  | x :: r, y :: t => by simp [zipL, zipL_len r t, Nat.succ_min_succ]
theorem zipL_get : ∀ (xs ys : List PyData) (i : Nat) (x y : PyData), xs[i]? = some x → ys[i]? = some y → (zipL xs ys)[i]? = some (.tuple [x, y])
  | [], _, _, _, _, h, _ => by simp at h
  | _ :: _, [], _, _, _, _, h => by simp at h
  | a :: r, b :: t, 0, x, y, h, k => by simp at h k; subst h k; rfl
  | a :: r, b :: t, i + 1, x, y, h, k => by
    simp only [zipL, List.getElem?_cons_succ] at h k ⊢
    exact zipL_get r t i x y h k
def kZip : List PyData → Option (List PyData)
  | [.list xs, .list ys] => some (zipL xs ys)
  | _ => none
theorem itd_zip {K : PySem.W.Frag} {Z : Hp} {a b : Addr} {vs ws : List V} {ds es : List PyData} (ea : Z a = some (.lst vs)) (ra : RpA K Z vs ds) (eb : Z b = some (.lst ws)) (rb : RpA K Z ws es) : ItD K (Itz K a b) Z (zipL ds es) := by
  intro Z1 H z1 s1 i
  rw [zipL_len]
  have hq : SqL K H a vs := SqL.of (s1 _ _ (z1 _ _ ea))
  have hq' : SqL K H b ws := SqL.of (s1 _ _ (z1 _ _ eb))
  refine ⟨fun hi => ⟨⟨vs, ws, vs[i]'(by rw [ra.len]; omega), ws[i]'(by rw [rb.len]; omega), hq, hq', by simp, by simp⟩, fun x H' y => ?_⟩, fun hi => ⟨vs, ws, hq, hq', by rw [ra.len, rb.len]; omega⟩⟩
  obtain ⟨T, u, w, rfl, hT, rfl, y1, y2⟩ := y
  obtain ⟨d, ed, rd⟩ := ra.get' (y1 vs hq)
  obtain ⟨d2, ed2, rd2⟩ := rb.get' (y2 ws hq')
  have gr := Grow.new (o := .tup [u, w]) s1 hT
  exact ⟨_, gr, .tuple [d, d2], zipL_get _ _ _ _ _ ed ed2, .tup (SqT.of upd_same) (.cons ((rd.mono' z1).mono' gr.z) (.cons ((rd2.mono' z1).mono' gr.z) .nil))⟩
theorem ji_zip {e e2 : Expr} {tpos : Pos} {elts : List Expr} {kk : Nat} (hm : X.mg "zip" = none) (ha : JA X W [e, e2] g) (hg : Gl X "zip" := by rfl) (hs : starEach [e, e2] X.env = (false, eval e X.env) :: starEach [e2] X.env := by rfl) (hpl : (backTo pos (starEach [e2] X.env)).any (·.1) = false := by rfl) :
    JI X W (.Tuple elts kk tpos) (.Call (.Name "zip" p) [e, e2] [] pos) (iA g kZip) := by
  refine pi_imp (pi_zip hg hm ha hs hpl) fun σ H R q => ?_
  refine tA_mono (tI_args q) fun vs H1 q => ?_
  obtain ⟨Z, ds, xs, sub, hd, ek, q⟩ := q
  unfold kZip at ek
  split at ek
  · cases ek
    obtain ⟨v, w, rfl, hv, hw⟩ := rpa2 hd
    cases hv with
    | lst ea ra =>
      cases hw with
      | lst eb rb => exact ⟨_, _, _, _, rfl, SqL.of (sub _ _ ea), SqL.of (sub _ _ eb), q _ (itd_zip ea ra eb rb)⟩
  · cases ek
end
end DL
set_option autoImplicit false
namespace DL
open PySem PySem.Spec PyProof.Rows L2

/-! ### list comprehensions -/
def wipeD (dl : DE) : List Nat → DE
  | [] => dl
  | v :: vs => (wipeD dl vs).set v none
/-- the items made so far, then the rest -/
def lcGo (bd : BF) (t e : EF) (dl : DE) : List PyData → List PyData → SE → Option (List PyData × SE)
  | [], acc, st => some (acc, st)
  | x :: xs, acc, st => match bd x dl with
    | none => none
    | some dl1 => match t dl1 st with
      | some (.ok (.bool true), st1) => match e dl1 st1 with
        | some (.ok y, st2) => lcGo bd t e dl xs (acc ++ [y]) st2
        | _ => none
      | some (.ok (.bool false), st1) => lcGo bd t e dl xs acc st1
      | _ => none
def eLc (src : IF) (vs : List Nat) (bd : BF) (t e : EF) : EF := fun dl st => match src dl st with
  | some (.ok xs, st1) => if xs.length ≤ 1000000 then (lcGo bd t e (wipeD dl vs) xs [] st1).map fun r => (.ok (.list r.1), r.2) else none
  | some (.ex c p, st1) => some (.ex c p, st1)
  | none => none
theorem wipe_set {σ : L2.St} {i : Nat} : ∀ {vs : List Nat}, (wipe σ vs)[i]? = if i ∈ vs ∧ i < σ.length then some none else σ[i]?
  | [] => by simp [wipe]
  | v :: vs => by
    unfold wipe
    by_cases h : v = i
    · subst h
      by_cases hv : v < σ.length
      · rw [List.getElem?_set_self (by rw [wipe_length]; exact hv)]
        simp [hv]
      · rw [List.getElem?_eq_none (by rw [List.length_set, wipe_length]; omega), if_neg (by simp [hv]), List.getElem?_eq_none (by omega)]
    · rw [List.getElem?_set_ne h, wipe_set]
      have : (i ∈ v :: vs ∧ i < σ.length) ↔ (i ∈ vs ∧ i < σ.length) := by
        rw [List.mem_cons]
        exact ⟨fun ⟨a, b⟩ => ⟨a.resolve_left (fun e => h e.symm), b⟩, fun ⟨a, b⟩ => ⟨.inr a, b⟩⟩
      by_cases q : i ∈ vs ∧ i < σ.length
      · rw [if_pos q, if_pos (this.mpr q)]
      · rw [if_neg q, if_neg (fun z => q (this.mp z))]
theorem wipeD_length (dl : DE) : ∀ vs : List Nat, (wipeD dl vs).length = dl.length
  | [] => rfl
  | v :: vs => by unfold wipeD; rw [List.length_set, wipeD_length dl vs]
theorem wipeD_some {dl : DE} {i : Nat} {sv : SV} : ∀ {vs : List Nat}, (wipeD dl vs)[i]? = some (some sv) → dl[i]? = some (some sv) ∧ i ∉ vs
  | [], h => ⟨h, by simp⟩
  | v :: vs, h => by
    unfold wipeD at h
    by_cases hi : v = i
    · subst hi
      by_cases hv : v < (wipeD dl vs).length
      · rw [List.getElem?_set_self hv] at h; cases h
      · rw [List.getElem?_eq_none (by simpa using hv)] at h; cases h
    · rw [List.getElem?_set_ne hi] at h
      obtain ⟨h1, h2⟩ := wipeD_some h
      exact ⟨h1, by simp only [List.mem_cons, not_or]; exact ⟨fun e => hi e.symm, h2⟩⟩
theorem Rl.wipe {K : PySem.W.Frag} {Z H : Hp} {B : List Addr} {dl : DE} {st : SE} {σ : L2.St} (r : Rl K Z B dl st σ H) (vs : List Nat) : Rl K Z B (wipeD dl vs) st (L2.wipe σ vs) H := by
  refine ⟨r.sub, by rw [wipeD_length, wipe_length, r.len], r.bl, r.nd, r.tr, fun i sv e => ?_, r.obj⟩
  obtain ⟨h1, h2⟩ := wipeD_some e
  obtain ⟨v, ev, rv⟩ := r.rep i sv h1
  exact ⟨v, by rw [wipe_set, if_neg (fun z => h2 z.1)]; exact ev, rv⟩
theorem wipe_same {σ σ' : L2.St} {vs us : List Nat} (hl : σ'.length = σ.length) (hs : ∀ j, j ∈ us → j ∈ vs) (h : ∀ j, j ∉ us → σ'[j]? = (wipe σ vs)[j]?) : wipe σ' vs = wipe σ vs := by
  apply List.ext_getElem?
  intro i
  rw [wipe_set, hl]
  by_cases q : i ∈ vs ∧ i < σ.length
  · rw [if_pos q, wipe_set, if_pos q]
  · rw [if_neg q]
    by_cases hu : i ∈ us
    · have hv := hs i hu
      have : ¬ i < σ.length := fun z => q ⟨hv, z⟩
      rw [List.getElem?_eq_none (by omega), List.getElem?_eq_none (by rw [wipe_length]; omega)]
    · rw [h i hu]
theorem ne_mem {B : List Addr} {D c : Addr} (h : D ∉ B) (hc : c ∈ B) : c ≠ D := fun z => h (by rw [← z]; exact hc)
/-- the whole reading -/
theorem tE_lc {K : PySem.W.Frag} {W W' : XW} {src : IF} {vs us : List Nat} {bd : BF} {t e : EF} {σ : L2.St} {H : Hp} {Q : VK} (hus : ∀ j, j ∈ us → j ∈ vs) (q : tE K W (eLc src vs bd t e) σ H Q) :
    tLc (tI K W src) (tG K us bd) (tB (tE K W' t)) (tE K W' e) vs σ H Q := by
  obtain ⟨Z, B, dl, st, r, st', rl, eq, a⟩ := q
  unfold eLc at eq
  cases qs : src dl st with
  | none => rw [qs] at eq; cases eq
  | some y =>
    obtain ⟨ri, st1⟩ := y
    rw [qs] at eq
    refine ⟨Z, B, dl, st, ri, st1, rl, qs, ?_⟩
    cases ri with
    | ex c p => cases eq; exact a
    | ok xs =>
      dsimp only at eq
      split at eq
      · rename_i hsz
        refine fun J Z0 H0 rl0 x0 itd D hD => ?_
        cases qg : lcGo bd t e (wipeD dl vs) xs [] st1 with
        | none => rw [qg] at eq; cases eq
        | some res =>
          rw [qg] at eq
          cases eq
          have a0 := a.ext x0
          have DB : D ∉ B := fun h => rl0.tr D h hD
          -- the invariant: xs from i on, the list so far at D
          refine ⟨fun i m H1 => ∃ Z1 ws acc st1, Rl K Z1 B dl st1 σ H1 ∧ Ext B Z0 H0 B Z1 H1 ∧ Z1 D = none ∧ H1 D = some (.lst ws) ∧ RpA K Z1 ws acc ∧ acc.length ≤ i ∧ m = xs.length - i ∧ i ≤ xs.length ∧ lcGo bd t e (wipeD dl vs) (xs.drop i) acc st1 = some res,
            ⟨xs.length, Z0, [], [], st1, ?_, ?_, rl0.sub.free hD, upd_same, .nil, Nat.le_refl _, by simp, Nat.zero_le _, by simpa using qg⟩, ?_⟩
          · refine ⟨rl0.sub.trans (same_new hD), rl0.len, rl0.bl, rl0.nd, fun c hc => ?_, rl0.rep, fun j ob e => ?_⟩
            · rw [upd_ne (ne_mem DB hc)]
              exact rl0.tr c hc
            · have q := rl0.obj j ob e
              cases ob with
              | l ys =>
                obtain ⟨b, ws, e1, z1, h1, r1⟩ := q
                exact ⟨b, ws, e1, z1, by rw [upd_ne (ne_of_none h1 hD)]; exact h1, r1⟩
              | rows js =>
                obtain ⟨b, as, e1, z1, h1, r1⟩ := q
                exact ⟨b, as, e1, z1, by rw [upd_ne (ne_of_none h1 hD)]; exact h1, r1⟩
              | dead => trivial
          · exact ⟨Same.refl _, fun b o e _ => ⟨by rw [upd_ne (ne_of_none e hD)]; exact e, rfl⟩, fun b e => (same_new hD).free e, [], by simp, fun _ h => nomatch h⟩
          · rintro i m H1 ⟨Z1, ws, acc, st2, rl1, x1, zD, hD1, ra, hacc, rfl, hi, e1⟩
            obtain ⟨hgo, hstop⟩ := itd Z1 H1 x1.z rl1.sub i
            by_cases hlt : i < xs.length
            · obtain ⟨go, yl⟩ := hgo hlt
              have ed : xs.drop i = xs[i] :: xs.drop (i + 1) := List.drop_eq_getElem_cons hlt
              rw [ed] at e1
              refine .inr ⟨go, fun H1 => ∃ Z1 ws acc st1, Rl K Z1 B dl st1 σ H1 ∧ Ext B Z0 H0 B Z1 H1 ∧ Z1 D = none ∧ H1 D = some (.lst ws) ∧ RpA K Z1 ws acc ∧ acc.length ≤ i + 1 ∧ lcGo bd t e (wipeD dl vs) (xs.drop (i + 1)) acc st1 = some res,
                fun H' ⟨Z', ws', acc', s', h1, h2, h3, h4, h5, h6, h7⟩ => ⟨_, Nat.sub_lt_sub_left hlt (Nat.lt_succ_self i), Z', ws', acc', s', h1, h2, h3, h4, h5, h6, rfl, hlt, h7⟩, fun x H2 hy => ?_⟩
              obtain ⟨Z2, gr, d, ex, hd⟩ := yl x H2 hy
              have exd : xs[i] = d := by
                rw [List.getElem?_eq_getElem hlt] at ex
                exact Option.some.inj ex
              rw [exd] at e1
              unfold lcGo at e1
              cases qb : bd d (wipeD dl vs) with
              | none => simp only [qb] at e1; cases e1
              | some dl2 =>
                simp only [qb] at e1
                have rl2 := rl1.grow gr
                have x2 := x1.trans (gr.ext (B := B))
                have zD2 : Z2 D = none := (gr.n D _ hD1).trans zD
                have hD2 : H2 D = some (.lst ws) := gr.h D _ hD1
                refine ⟨Z2, B, wipeD dl vs, st2, d, dl2, rl2.wipe vs, hd, qb, fun σ3 rl3 l3 o3 => ⟨wipe_same (by rw [l3, wipe_length]) hus o3, ?_⟩⟩
                show tE K W' t σ3 H2 _
                cases qt : t dl2 st2 with
                | none => rw [qt] at e1; cases e1
                | some y =>
                  obtain ⟨rt, st3⟩ := y
                  rw [qt] at e1
                  refine ⟨Z2, B, dl2, st2, rt, st3, rl3, qt, ?_⟩
                  cases rt with
                  | ex c p => cases e1
                  | ok dt =>
                    refine fun v Z4 H4 rl4 x4 h4 => ?_
                    obtain ⟨hD4, zD4⟩ := x4.h D _ hD2 DB
                    have rl4' : Rl K Z4 B dl st3 σ H4 := rl2.after x4 rl4.bare
                    cases dt with
                    | bool b =>
                      refine ⟨b, dp_bool h4, ?_⟩
                      cases b with
                      | false =>
                        rw [if_neg Bool.false_ne_true]
                        exact ⟨Z4, ws, acc, st3, rl4', x2.trans x4, zD4.trans zD2, hD4, (ra.mono' gr.z).mono' x4.z, by omega, e1⟩
                      | true =>
                        rw [if_pos rfl]
                        dsimp only at e1
                        cases qe : e dl2 st3 with
                        | none => rw [qe] at e1; cases e1
                        | some y =>
                          obtain ⟨re, st5⟩ := y
                          rw [qe] at e1
                          refine ⟨Z4, B, dl2, st3, re, st5, rl4, qe, ?_⟩
                          cases re with
                          | ex c p => cases e1
                          | ok y =>
                            refine fun w Z6 H6 rl6 x6 h6 => ?_
                            obtain ⟨hD6, zD6⟩ := x6.h D _ hD4 DB
                            have rl6' : Rl K Z6 B dl st5 σ H6 := rl4'.after x6 rl6.bare
                            have ra6 := ((ra.mono' gr.z).mono' x4.z).mono' x6.z
                            have zD' : Z6 D = none := zD6.trans (zD4.trans zD2)
                            have x7 := (x2.trans x4).trans x6
                            have kp : ∀ b o, b ≠ D → H6 b = some o → (upd H6 D (.lst (ws ++ [w]))) b = some o := fun b o hb e => by rw [upd_ne hb]; exact e
                            refine ⟨ws, hD6, Nat.lt_of_le_of_lt (ra.len ▸ Nat.le_trans hacc (Nat.le_of_lt hlt)) (Nat.lt_of_le_of_lt hsz (by decide)), Z6, ws ++ [w], acc ++ [y], st5, ?_, ?_, zD', upd_same, ra6.app (.cons h6 .nil), by simp; omega, e1⟩
                            · refine ⟨fun b o e => kp b o (fun z => by rw [z, zD'] at e; cases e) (rl6'.sub b o e), rl6'.len, rl6'.bl, rl6'.nd, fun c hc => ?_, rl6'.rep, fun j ob e => ?_⟩
                              · rw [upd_ne (ne_mem DB hc)]
                                exact rl6'.tr c hc
                              · have q := rl6'.obj j ob e
                                cases ob with
                                | l ys =>
                                  obtain ⟨b, ws', e1, z1, h1, r1⟩ := q
                                  exact ⟨b, ws', e1, z1, kp b _ (ne_mem DB (List.mem_of_getElem? e1)) h1, r1⟩
                                | rows js =>
                                  obtain ⟨b, as, e1, z1, h1, r1⟩ := q
                                  exact ⟨b, as, e1, z1, kp b _ (ne_mem DB (List.mem_of_getElem? e1)) h1, r1⟩
                                | dead => trivial
                            · refine ⟨x7.z, fun b o e nb => ?_, fun b e => ?_, [], by simp, fun _ h => nomatch h⟩
                              · obtain ⟨p1, p2⟩ := x7.h b o e nb
                                exact ⟨kp b o (ne_of_none e hD) p1, p2⟩
                              · by_cases hb : b = D
                                · rw [hb, upd_same] at e; cases e
                                · rw [upd_ne hb] at e
                                  exact x7.t b e
                    | none => cases e1
                    | int _ => cases e1
                    | str _ => cases e1
                    | list _ => cases e1
                    | tuple _ => cases e1
                    | dict _ => cases e1
            · have ei : i = xs.length := by omega
              subst ei
              rw [List.drop_length] at e1
              cases e1
              refine .inl ⟨hstop (Nat.le_refl _), a0 (.ref D) (upd Z1 D (.lst ws)) H1 ?_ ?_ (.lst upd_same (ra.mono' (same_new zD)))⟩
              · refine ⟨fun b o e => ?_, rl1.len, rl1.bl, rl1.nd, rl1.tr, fun j sv e => ?_, fun j ob e => ?_⟩
                · by_cases hb : b = D
                  · subst hb; rw [upd_same] at e; rw [← e]; exact hD1
                  · rw [upd_ne hb] at e; exact rl1.sub b o e
                · obtain ⟨v, e1, r1⟩ := rl1.rep j sv e
                  exact ⟨v, e1, r1.mono (same_new zD) ⟨[], by simp⟩⟩
                · have q := rl1.obj j ob e
                  cases ob with
                  | l ys =>
                    obtain ⟨b, ws', e1, z1, h1, r1⟩ := q
                    exact ⟨b, ws', e1, by rw [upd_ne (ne_mem DB (List.mem_of_getElem? e1))]; exact z1, h1, r1.mono' (same_new zD)⟩
                  | rows js =>
                    obtain ⟨b, as, e1, z1, h1, r1⟩ := q
                    exact ⟨b, as, e1, by rw [upd_ne (ne_mem DB (List.mem_of_getElem? e1))]; exact z1, h1, r1⟩
                  | dead => trivial
              · refine ⟨x1.z.trans (same_new zD), fun b o e nb => ?_, x1.t, [], by simp, fun _ h => nomatch h⟩
                obtain ⟨p1, p2⟩ := x1.h b o e nb
                exact ⟨p1, by rw [upd_ne (ne_of_none e hD)]; exact p2⟩
      · cases eq
def JTs (X : Cx) (W : XW) (ifs : List Expr) (t : EF) : Prop := PTs X ifs (tB (tE X.K W t))
theorem pts_imp {X : Cx} {ifs : List Expr} {t t' : TT} (h : PTs X ifs t) (k : ∀ σ H Q, t' σ H Q → t σ H Q) : PTs X ifs t' := ⟨fun pins s σ H Q I q => h.run pins s σ H Q I (k σ H Q q)⟩
theorem jts_nil {X : Cx} {W : XW} : JTs X W [] (eC (.bool true)) := by
  refine pts_imp pts_nil fun σ H Q q => ?_
  obtain ⟨c, e, q⟩ := tE_ret (fun _ => Rp.bl true) q
  cases e
  exact q
theorem jts_one {X : Cx} {W : XW} {c : Expr} {t : EF} (h : JT X W c t) : JTs X W [c] t := pts_one h
section
variable {X : Cx} {W : XW} {pos : Pos} {k : Nat}
theorem je_lc {elt tg iter : Expr} {ifs : List Expr} {scope : Scope} {own : List (Str × Nat)} {src : IF} {us : List Nat} {bd : BF} {t e : EF} (c : Cxe X W k) (hi : JI X W tg iter src) (ok : blkC X.N X.env.scope scope own = true)
    (hg : ∀ (s : Shared) (H : Hp) (C : Addr) (cl : List (Str × Addr)) (fp : List Addr), JG (X.blk s H scope (compEnvC scope cl C X.env) fp) tg us bd)
    (ht : ∀ (s : Shared) (H : Hp) (C : Addr) (cl : List (Str × Addr)) (fp : List Addr), Cxe (X.blk s H scope (compEnvC scope cl C X.env) fp) (W0 X) k → JTs (X.blk s H scope (compEnvC scope cl C X.env) fp) (W0 X) ifs t)
    (he : ∀ (s : Shared) (H : Hp) (C : Addr) (cl : List (Str × Addr)) (fp : List Addr), Cxe (X.blk s H scope (compEnvC scope cl C X.env) fp) (W0 X) k → JE (X.blk s H scope (compEnvC scope cl C X.env) fp) (W0 X) elt e)
    (hus : ∀ j, j ∈ us → j ∈ own.map (·.2) := by decide) (hs : ∀ x, foldedSetIterable iter X.env x = pure x := by intro _; rfl) :
    JE X W (.ListComp elt [⟨tg, iter, ifs, 0⟩] scope pos) (eLc src (own.map (·.2)) bd t e) :=
  pe_imp (pe_lc (g := tG X.K us bd) (tt := tB (tE X.K (W0 X) t)) (te := tE X.K (W0 X) e) c.calm c.nd hi (blkOk_by ok) hg (fun s H C cl fp => ht s H C cl fp (c.blk s H scope _ fp)) (fun s H C cl fp => he s H C cl fp (c.blk s H scope _ fp)) hs) fun _ _ _ q => tE_lc hus q
/-- y = [..], y a local, on one line -/
theorem js_lc {i : Nat} {y : Str} {py spos : Pos} {elt tg iter : Expr} {ifs : List Expr} {scope : Scope} {own : List (Str × Nat)} {src : IF} {us : List Nat} {bd : BF} {t e : EF} (c : Cxe X W k) (hi : JI X W tg iter src) (ok : blkC X.N X.env.scope scope own = true)
    (hsw : swapsWith (.ListComp elt [⟨tg, iter, ifs, 0⟩] scope pos) (some (.Name y py)) spos.line X.env = pure true)
    (hg : ∀ (s : Shared) (H : Hp) (C : Addr) (cl : List (Str × Addr)) (fp : List Addr), JG (X.blk s H scope (compEnvC scope cl C X.env) fp) tg us bd)
    (ht : ∀ (s : Shared) (H : Hp) (C : Addr) (cl : List (Str × Addr)) (fp : List Addr), Cxe (X.blk s H scope (compEnvC scope cl C X.env) fp) (W0 X) k → JTs (X.blk s H scope (compEnvC scope cl C X.env) fp) (W0 X) ifs t)
    (he : ∀ (s : Shared) (H : Hp) (C : Addr) (cl : List (Str × Addr)) (fp : List Addr), Cxe (X.blk s H scope (compEnvC scope cl C X.env) fp) (W0 X) k → JE (X.blk s H scope (compEnvC scope cl C X.env) fp) (W0 X) elt e)
    (hy : X.N[i]? = some y := by rfl) (hyl : X.env.scope.names.lookup y = some .local := by rfl)
    (hus : ∀ j, j ∈ us → j ∈ own.map (·.2) := by decide) (hs : ∀ x, foldedSetIterable iter X.env x = pure x := by intro _; rfl) :
    JS X W (.Assign [.Name y py] (.ListComp elt [⟨tg, iter, ifs, 0⟩] scope pos) spos) (sV i (eLc src (own.map (·.2)) bd t e)) := by
  refine ps_imp (ps_setLc (g := tG X.K us bd) (tt := tB (tE X.K (W0 X) t)) (te := tE X.K (W0 X) e) c.calm c.nd hy hyl hsw hi (blkOk_by ok) hg (fun s H C cl fp => ht s H C cl fp (c.blk s H scope _ fp)) (fun s H C cl fp => he s H C cl fp (c.blk s H scope _ fp)) hs) fun D σ H q => ?_
  refine tE_lc hus ?_
  refine tE_mono (tS_asg (vs := [i]) q) fun v H1 q => ?_
  obtain ⟨Z, B, dl, st, d, dl', rl, hd, e, q⟩ := q
  cases e
  exact q _ (rl.setD i (sv := .d d) hd) (by simp) fun j hj => by rw [List.getElem?_set_ne (fun z => hj (by simp [z]))]
end
end DL
set_option autoImplicit false
namespace DL
open PySem PySem.Spec PyProof.Rows L2

/-! ### what is not reached -/
def sX : SF := fun _ _ => none
theorem js_never {X : Cx} {W : XW} {s : Stmt} : JS X W s sX := ps_imp ps_never fun D σ H q => by
  obtain ⟨Z, B, dl, st, r, rl, e, a⟩ := q
  cases e

/-! ### lists that change -/
theorem Rl.newO {K : PySem.W.Frag} {Z H : Hp} {B : List Addr} {dl : DE} {st : SE} {σ : L2.St} {p : Addr} {vs : List V} {ds : List PyData} (r : Rl K Z B dl st σ H) (hp : H p = none) (h : RpA K Z vs ds) :
    Rl K Z (B ++ [p]) dl (st ++ [.l ds]) σ (upd H p (.lst vs)) ∧ Ext B Z H (B ++ [p]) Z (upd H p (.lst vs)) := by
  have pB : p ∉ B := fun q => r.tr p q hp
  have up : ∀ {j : Nat} {a : Addr}, B[j]? = some a → (B ++ [p])[j]? = some a := fun {j a} e => by
    rw [List.getElem?_append_left (List.getElem?_eq_some_iff.mp e).1]
    exact e
  refine ⟨⟨r.sub.trans (same_new hp), r.len, by simp [r.bl], ?_, fun a ha => ?_, fun i sv e => ?_, fun j ob e => ?_⟩, ⟨Same.refl _, fun b o e _ => ⟨same_new hp b o e, rfl⟩, fun b e => (same_new hp).free e, [p], rfl, fun c hc => ?_⟩⟩
  · rw [List.nodup_append]
    refine ⟨r.nd, by simp, fun a ha b hb => ?_⟩
    have : b = p := by simpa using hb
    subst this
    exact ne_mem pB ha
  · rcases List.mem_append.mp ha with q | q
    · rw [upd_ne (ne_mem pB q)]
      exact r.tr a q
    · have : a = p := by simpa using q
      subst this
      rw [upd_same]
      exact fun z => nomatch z
  · obtain ⟨v, e1, r1⟩ := r.rep i sv e
    exact ⟨v, e1, r1.mono (Same.refl _) ⟨[p], rfl⟩⟩
  · by_cases hj : j < st.length
    · rw [List.getElem?_append_left hj] at e
      have q := r.obj j ob e
      cases ob with
      | l ys =>
        obtain ⟨b, ws, e1, z1, h1, r1⟩ := q
        exact ⟨b, ws, up e1, z1, same_new hp b _ h1, r1⟩
      | rows js =>
        obtain ⟨b, as, e1, z1, h1, r1⟩ := q
        exact ⟨b, as, up e1, z1, same_new hp b _ h1, L2.Paired.mapP r1 fun i b ⟨p1, p2⟩ => ⟨up p1, p2⟩⟩
      | dead => trivial
    · rw [List.getElem?_append_right (by omega)] at e
      have hj0 : j - st.length = 0 := by
        have := (List.getElem?_eq_some_iff.mp e).1
        simp at this
        omega
      rw [hj0] at e
      cases e
      have ej : j = B.length := by rw [r.bl]; omega
      exact ⟨p, vs, by rw [ej]; simp, r.sub.free hp, upd_same, h⟩
  · have : c = p := by simpa using hc
    subst this
    exact hp
def nwO (i : Nat) (ds : List PyData) (dl : DE) (st : SE) : Option (Fl × DE × SE) := some (.nx, dl.set i (some (.o st.length)), st ++ [.l ds])
/-- x = [..], x a list that is to change -/
def sNw (i : Nat) (g : AF) : SF := fun dl st => match g dl st with
  | some (.ok svs, st1) => match svD svs with
    | some ds => if ds.length ≤ 1000 then nwO i ds dl st1 else none
    | none => none
  | some (.ex c p, st1) => some (.ex c p, dl, st1)
  | none => none
theorem Rl.newS {K : PySem.W.Frag} {Z H : Hp} {B : List Addr} {dl : DE} {st : SE} {σ : L2.St} {p : Addr} {vs : List V} {ds : List PyData} (i : Nat) (r : Rl K Z B dl st σ H) (hp : H p = none) (h : RpA K Z vs ds) :
    Rl K Z (B ++ [p]) (dl.set i (some (.o st.length))) (st ++ [.l ds]) (σ.set i (some (.ref p))) (upd H p (.lst vs)) :=
  (r.newO hp h).1.setD i (sv := .o st.length) ⟨p, by rw [← r.bl]; simp, rfl⟩
section
variable {X : Cx} {W : XW} {pos : Pos} {g : AF} {e : Expr} {f : EF}
theorem js_newL {i : Nat} {x : Str} {es : List Expr} {p1 p2 : Pos} (hN : X.N.Nodup) (ha : JA X W es g) (hi : X.N[i]? = some x := by rfl) (hx : Loc X.env.scope x := by first | exact Or.inl rfl | exact Or.inr rfl) (hs : swapsWith (.List es p2) (some (.Name x p1)) pos.line X.env = pure false := by rfl)
    (hf : X.fn x = true ∨ X.env.scope.names.lookup x = some .local := by first | exact .inl rfl | exact .inr rfl) : JS X W (.Assign [.Name x p1] (.List es p2) pos) (sNw i g) := by
  refine ps_imp (ps_set hN hi hx (pe_lst ha) hs hf) fun D σ H q => ?_
  obtain ⟨Z, B, dl, st, r, rl, e, a⟩ := q
  unfold sNw at e
  cases q : g dl st with
  | none => rw [q] at e; cases e
  | some y =>
    obtain ⟨ra, st1⟩ := y
    rw [q] at e
    refine ⟨Z, B, dl, st, ra, st1, rl, q, ?_⟩
    cases ra with
    | ex c p => cases e; exact fun Z' H' rl' x' => a Z' B H' rl'.bare x'
    | ok svs =>
      dsimp only at e
      cases q2 : svD svs with
      | none => rw [q2] at e; cases e
      | some ds =>
        rw [q2] at e
        dsimp only at e
        split at e
        · rename_i hl
          cases e
          refine fun vs Z' H' rl' x' h' => ?_
          have hd := rvs_data h' q2
          exact ⟨sz1000 (hd.len ▸ hl), fun p hp => a _ Z' _ _ (rl'.newS i hp hd) (x'.trans (rl'.newO hp hd).2)⟩
        · cases e
/-- x.append(e) -/
def sAp (i : Nat) (f : EF) : SF := fun dl st => match dl[i]? with
  | some (some (.o j)) => match st[j]? with
    | some (.l _) => match f dl st with
      | some (.ok d, st1) => match st1[j]? with
        | some (.l xs) => if xs.length < 1000000 then some (.nx, dl, st1.set j (.l (xs ++ [d]))) else none
        | _ => none
      | some (.ex c p, st1) => some (.ex c p, dl, st1)
      | none => none
    | _ => none
  | _ => none
theorem nodup_inj {B : List Addr} {k j : Nat} {a : Addr} (hN : B.Nodup) (e1 : B[k]? = some a) (e2 : B[j]? = some a) : k = j := by
  obtain ⟨h1, e1⟩ := List.getElem?_eq_some_iff.mp e1
  obtain ⟨h2, e2⟩ := List.getElem?_eq_some_iff.mp e2
  exact (List.getElem_inj hN).mp (e1.trans e2.symm)
theorem ne_mem' {B : List Addr} {a b : Addr} (nb : b ∉ B) (ha : a ∈ B) : b ≠ a := fun z => nb (by rw [z]; exact ha)
theorem Rl.setO {K : PySem.W.Frag} {Z H : Hp} {B : List Addr} {dl : DE} {st : SE} {σ : L2.St} {a : Addr} {j : Nat} {vs : List V} {ds : List PyData} (r : Rl K Z B dl st σ H) (ea : B[j]? = some a) (za : Z a = none) (h : RpA K Z vs ds) :
    Rl K Z B dl (st.set j (.l ds)) σ (upd H a (.lst vs)) ∧ Ext B Z H B Z (upd H a (.lst vs)) := by
  have ha : a ∈ B := List.mem_of_getElem? ea
  have hj : j < st.length := by
    rw [← r.bl]
    exact (List.getElem?_eq_some_iff.mp ea).1
  have ne : ∀ {k : Nat} {b : Addr}, B[k]? = some b → k ≠ j → b ≠ a := fun {k b} e hk z => hk (nodup_inj r.nd (z ▸ e) ea)
  refine ⟨⟨fun b o e => ?_, r.len, by simp [r.bl], r.nd, fun b hb => ?_, r.rep, fun k ob e => ?_⟩, ⟨Same.refl _, fun b o e nb => ⟨?_, rfl⟩, fun b e => ?_, [], by simp, fun _ h => nomatch h⟩⟩
  · rw [upd_ne (fun z => by rw [z, za] at e; cases e)]
    exact r.sub b o e
  · by_cases q : b = a
    · rw [q, upd_same]; exact fun z => nomatch z
    · rw [upd_ne q]; exact r.tr b hb
  · by_cases hk : k = j
    · subst hk
      rw [List.getElem?_set_self hj] at e
      cases e
      exact ⟨a, vs, ea, za, upd_same, h⟩
    · rw [List.getElem?_set_ne (Ne.symm hk)] at e
      have q := r.obj k ob e
      cases ob with
      | l ys =>
        obtain ⟨b, ws, e1, z1, h1, r1⟩ := q
        exact ⟨b, ws, e1, z1, by rw [upd_ne (ne e1 hk)]; exact h1, r1⟩
      | rows js =>
        obtain ⟨b, as, e1, z1, h1, r1⟩ := q
        exact ⟨b, as, e1, z1, by rw [upd_ne (ne e1 hk)]; exact h1, r1⟩
      | dead => trivial
  · rw [upd_ne (ne_mem' nb ha)]
    exact e
  · by_cases q : b = a
    · rw [q, upd_same] at e; cases e
    · rw [upd_ne q] at e; exact e
theorem js_app {i : Nat} {x : Str} {p1 apos cpos : Pos} (he : JE X W e f) (hN : X.N[i]? = some x := by rfl) (hv : Vis X.env.scope x := by first | exact Or.inl rfl | exact Or.inr (Or.inl rfl) | exact Or.inr (Or.inr rfl)) (hd : (x == ("__debug__" : Str)) = false := by decide)
    (hcd : (x == ("__classdict__" : Str)) = false := by decide) (hs1 : starEach [e] X.env = (false, eval e X.env) :: starEach [] X.env := by rfl)
    (hbase : attributeBase (.Name x p1) "append" X.env (eval (.Name x p1) X.env) = eval (.Name x p1) X.env := by rfl)
    (hfew : ((backTo cpos (starEach [e] X.env)).all (fun x => !x.1) && (backToKw cpos (keywordEach [] X.env)).all (fun x => x.1.isSome)
      && decide (([e] : List Expr).length + ([] : List Keyword).length + (if ([] : List Keyword).isEmpty then 0 else 1) < 30)) = true := by rfl)
    (hline : (apos.endLine == cpos.line) = true := by rfl) (hplain : (backTo cpos (starEach [] X.env)).any (·.1) = false := by rfl)
    (hs : swapsWith (.Call (.Attribute (.Name x p1) "append" apos) [e] [] cpos) none pos.line X.env = pure false := by rfl) :
    JS X W (.Expr (.Call (.Attribute (.Name x p1) "append" apos) [e] [] cpos) pos) (sAp i f) := by
  refine ps_imp (ps_expr (pe_bm PySem.F.plainAttrs_list PySem.F.slot_list_append PySem.F.type_list_append mt_append (pe_var (i := i) hN hv hd hcd) (pa_cons he pa_nil hs1) hbase hfew hline hs1 hplain) hs) fun D σ H q => ?_
  obtain ⟨Z, B, dl, st, r, rl, e, a⟩ := q
  unfold sAp at e
  split at e
  · rename_i j hj
    split at e
    · rename_i xs0 hst
      obtain ⟨v, ev, b, eb, rfl⟩ := rl.rep i _ hj
      obtain ⟨b', vs0, eb', zb, hb, _⟩ := rl.obj j _ hst
      rw [eb] at eb'
      cases eb'
      refine ⟨.ref b, ev, .inl ⟨rfl, _, SqL.of hb⟩, ?_⟩
      show tE X.K W f σ H _
      cases qf : f dl st with
      | none => rw [qf] at e; cases e
      | some y =>
        obtain ⟨rs, st1⟩ := y
        rw [qf] at e
        refine ⟨Z, B, dl, st, rs, st1, rl, qf, ?_⟩
        cases rs with
        | ex c p => cases e; exact fun Z' H' rl' x' => a Z' B H' rl'.bare x'
        | ok d =>
          refine fun v Z' H' rl' x' h' => ?_
          dsimp only at e
          split at e
          · rename_i xs hxs
            split at e
            · rename_i hl
              cases e
              obtain ⟨c, vs, ec, zc, hc, rv⟩ := rl'.obj j _ hxs
              rw [eb] at ec
              cases ec
              obtain ⟨q1, q2⟩ := rl'.setO eb zc (rv.app (.cons h' .nil))
              exact ⟨b, vs, v, rfl, rfl, hc, Nat.lt_of_lt_of_le (rv.len ▸ hl) (by decide), a σ Z' B _ q1 (x'.trans q2)⟩
            · cases e
          · cases e
    · cases e
  · cases e
/-- from here on the list at slot i does not change any more -/
def sFz (i : Nat) (f : SF) : SF := fun dl st => match dl[i]? with
  | some (some (.o j)) => match st[j]? with
    | some (.l xs) => f (dl.set i (some (.d (.list xs)))) (st.set j .dead)
    | _ => none
  | _ => none
theorem Rl.fz {K : PySem.W.Frag} {Z H : Hp} {B : List Addr} {dl : DE} {st : SE} {σ : L2.St} {i j : Nat} {xs : List PyData} (r : Rl K Z B dl st σ H) (hi : dl[i]? = some (some (.o j))) (hj : st[j]? = some (.l xs)) :
    ∃ Z', Rl K Z' B (dl.set i (some (.d (.list xs)))) (st.set j .dead) σ H ∧ Ext B Z H B Z' H := by
  obtain ⟨v, ev, a, ea, rfl⟩ := r.rep i _ hi
  obtain ⟨a', vs, ea', za, ha, rv⟩ := r.obj j _ hj
  rw [ea] at ea'
  cases ea'
  have aB : a ∈ B := List.mem_of_getElem? ea
  have hjl : j < st.length := (List.getElem?_eq_some_iff.mp hj).1
  have sz : Same Z (upd Z a (.lst vs)) := same_new za
  have ne : ∀ {k : Nat} {b : Addr}, B[k]? = some b → k ≠ j → b ≠ a := fun {k b} e hk z => hk (nodup_inj r.nd (z ▸ e) ea)
  refine ⟨upd Z a (.lst vs), ⟨fun b o e => ?_, by simp [r.len], by simp [r.bl], r.nd, r.tr, fun k sv e => ?_, fun k ob e => ?_⟩, ⟨sz, fun b o e nb => ⟨e, by rw [upd_ne (ne_mem' nb aB)]⟩, fun b e => e, [], by simp, fun _ h => nomatch h⟩⟩
  · by_cases hb : b = a
    · subst hb; rw [upd_same] at e; rw [← e]; exact ha
    · rw [upd_ne hb] at e; exact r.sub b o e
  · by_cases hk : i = k
    · subst hk
      rw [List.getElem?_set_self (List.getElem?_eq_some_iff.mp hi).1] at e
      cases e
      exact ⟨_, ev, .lst upd_same (rv.mono' sz)⟩
    · rw [List.getElem?_set_ne hk] at e
      obtain ⟨v, e1, r1⟩ := r.rep k sv e
      exact ⟨v, e1, r1.mono sz ⟨[], by simp⟩⟩
  · by_cases hk : k = j
    · subst hk
      rw [List.getElem?_set_self hjl] at e
      cases e
      trivial
    · rw [List.getElem?_set_ne (Ne.symm hk)] at e
      have q := r.obj k ob e
      cases ob with
      | l ys =>
        obtain ⟨b, ws, e1, z1, h1, r1⟩ := q
        exact ⟨b, ws, e1, by rw [upd_ne (ne e1 hk)]; exact z1, h1, r1.mono' sz⟩
      | rows js =>
        obtain ⟨b, as, e1, z1, h1, r1⟩ := q
        exact ⟨b, as, e1, by rw [upd_ne (ne e1 hk)]; exact z1, h1, r1⟩
      | dead => trivial
theorem jss_fz {i : Nat} {ss : List Stmt} {sf : SF} (h : JSs X W ss sf) : JSs X W ss (sFz i sf) := by
  refine pss_imp h fun D σ H q => ?_
  obtain ⟨Z, B, dl, st, r, rl, e, a⟩ := q
  unfold sFz at e
  split at e
  · rename_i j hj
    split at e
    · rename_i xs hst
      obtain ⟨Z', rl', x'⟩ := rl.fz hj hst
      exact ⟨Z', B, _, _, r, rl', e, a.ext x'⟩
    · cases e
  · cases e
theorem js_fz {i : Nat} {s : Stmt} {sf : SF} (h : JS X W s sf) : JS X W s (sFz i sf) := by
  refine ps_imp h fun D σ H q => ?_
  obtain ⟨Z, B, dl, st, r, rl, e, a⟩ := q
  unfold sFz at e
  split at e
  · rename_i j hj
    split at e
    · rename_i xs hst
      obtain ⟨Z', rl', x'⟩ := rl.fz hj hst
      exact ⟨Z', B, _, _, r, rl', e, a.ext x'⟩
    · cases e
  · cases e
/-- len(x) of a list that changes, of the script -/
def eLn (i : Nat) : EF := fun dl st => match dl[i]? with
  | some (some (.o j)) => match st[j]? with
    | some (.l xs) => some (.ok (.int xs.length), st)
    | _ => none
  | some (some (.s ns)) => some (.ok (.int ns.length), st)
  | _ => none
theorem je_lenO {i : Nat} {x : Str} {p p1 : Pos} (hm : X.mg "len" = none) (hN : X.N[i]? = some x := by rfl) (hv : Vis X.env.scope x := by first | exact Or.inl rfl | exact Or.inr (Or.inl rfl) | exact Or.inr (Or.inr rfl)) (hd : (x == ("__debug__" : Str)) = false := by decide)
    (hcd : (x == ("__classdict__" : Str)) = false := by decide) (hg : Gl X "len" := by rfl)
    (he : starEach [.Name x p1] X.env = (false, eval (.Name x p1) X.env) :: starEach [] X.env := by rfl) (hpl : (backTo pos (starEach [] X.env)).any (·.1) = false := by rfl) : JE X W (.Call (.Name "len" p) [.Name x p1] [] pos) (eLn i) := by
  refine pe_imp (pe_callB call_len hg hm PySem.boot_len (pa_cons (pe_var (i := i) hN hv hd hcd) pa_nil he) (by decide) (by decide) he hpl) fun σ H Q q => ?_
  obtain ⟨Z, B, dl, st, r, st', rl, e, a⟩ := q
  unfold eLn at e
  split at e
  · rename_i j hj
    split at e
    · rename_i xs hst
      cases e
      obtain ⟨v, ev, b, eb, rfl⟩ := rl.rep i _ hj
      obtain ⟨b', vs, eb', zb, hb, rv⟩ := rl.obj j _ hst
      rw [eb] at eb'
      cases eb'
      refine ⟨.ref b, ev, _, _, rfl, .inl ⟨_, SqL.of hb, rfl⟩, ?_⟩
      rw [rv.len]
      exact a _ Z H rl Ext.refl (.int _)
    · cases e
  · rename_i ns hj
    cases e
    obtain ⟨v, ev, b, rfl, hb⟩ := rl.rep i _ hj
    refine ⟨.ref b, ev, _, _, rfl, .inl ⟨_, same_l rl.sub hb, rfl⟩, ?_⟩
    rw [List.length_map]
    exact a _ Z H rl Ext.refl (.int _)
  · cases e
/-- script[e] -/
def eIxS (i : Nat) (f : EF) : EF := fun dl st => match dl[i]? with
  | some (some (.s ns)) => bnd (f dl st) fun d st1 => match d with
    | .int k => (atI ns k).map fun n => (.ok (.int n), st1)
    | _ => none
  | _ => none
theorem atI_map {α β : Type} (h : α → β) (xs : List α) (k : Int) : atI (xs.map h) k = (atI xs k).map h := by
  unfold atI
  rw [List.length_map]
  cases ixN xs.length k with
  | none => rfl
  | some j => simp
theorem je_ixS {i : Nat} {x : Str} {p1 : Pos} (he : JE X W e f) (hN : X.N[i]? = some x := by rfl) (hv : Vis X.env.scope x := by first | exact Or.inl rfl | exact Or.inr (Or.inl rfl) | exact Or.inr (Or.inr rfl)) (hd : (x == ("__debug__" : Str)) = false := by decide)
    (hcd : (x == ("__classdict__" : Str)) = false := by decide) (hs : PlainIx e := by exact fun _ _ => rfl) : JE X W (.Subscript (.Name x p1) e pos) (eIxS i f) := by
  refine pe_imp (pe_ix ix_list (pe_var (i := i) hN hv hd hcd) he hs) fun σ H Q q => ?_
  obtain ⟨Z, B, dl, st, r, st', rl, e, a⟩ := q
  unfold eIxS at e
  split at e
  · rename_i ns hj
    obtain ⟨v, ev, b, rfl, hb⟩ := rl.rep i _ hj
    refine ⟨.ref b, ev, ?_⟩
    cases qf : f dl st with
    | none => rw [qf] at e; cases e
    | some y =>
      obtain ⟨rs, st1⟩ := y
      rw [qf] at e
      refine ⟨Z, B, dl, st, rs, st1, rl, qf, ?_⟩
      cases rs with
      | ex c p => cases e; exact a
      | ok d =>
        refine fun w Z' H' rl' x' h' => ?_
        cases d with
        | int k =>
          simp only [bnd] at e
          cases qa : atI ns k with
          | none => rw [qa] at e; cases e
          | some n =>
            rw [qa] at e
            cases e
            exact ⟨b, ns.map V.int, k, .int n, rfl, dp_int h', same_l rl'.sub (same_l x'.z hb), by rw [atI_map, qa]; rfl, a _ Z' H' rl' x' (.int n)⟩
        | _ => cases e
  · cases e
/-- script == [] -/
def eNlS (i : Nat) : EF := fun dl st => match dl[i]? with
  | some (some (.s ns)) => some (.ok (.bool ns.isEmpty), st)
  | _ => none
theorem dpa_ints {K : PySem.W.Frag} {H : Hp} : ∀ ns : List Int, DpAll K H (ns.map V.int) (ns.map .int)
  | [] => .nil
  | n :: r => .cons (.int n) (dpa_ints r)
theorem dpt_ints (n : Nat) : ∀ ns : List Int, (ns.map PyData.int).all (dpt n) = true
  | [] => rfl
  | k :: r => by
    rw [List.map_cons, List.all_cons, dpt_ints n r]
    cases n <;> rfl
theorem jt_nilS {i : Nat} {x : Str} {p1 p2 : Pos} {k : Nat} (hr : Room k X.A) (hN : X.N[i]? = some x := by rfl) (hv : Vis X.env.scope x := by first | exact Or.inl rfl | exact Or.inr (Or.inl rfl) | exact Or.inr (Or.inr rfl)) (hd : (x == ("__debug__" : Str)) = false := by decide)
    (hcd : (x == ("__classdict__" : Str)) = false := by decide) : JT X W (.Compare (.Name x p1) [.Eq] [.List [] p2] pos) (eNlS i) := by
  refine pt_imp (pt_cmpR (op_eqD hr.units) (pe_var (i := i) hN hv hd hcd) (pe_lst pa_nil) (nomark _)) fun σ H Q q => ?_
  obtain ⟨Z, B, dl, st, r, st', rl, e, a⟩ := q
  unfold eNlS at e
  split at e
  · rename_i ns hj
    cases e
    obtain ⟨v, ev, b, rfl, hb⟩ := rl.rep i _ hj
    refine ⟨.ref b, ev, Nat.zero_le _, fun p hp => ?_⟩
    have gr := Grow.new (o := .lst []) rl.sub hp
    refine ⟨.list (ns.map .int), .list [], .lst (same_l gr.s (same_l gr.z hb)) (dpa_ints ns), .lst (SqL.of upd_same) .nil, dpt_shaped (dpt_ints 7 ns), by decide, ?_⟩
    have : PyData.eqv (.list (ns.map .int)) (.list []) = ns.isEmpty := by
      cases ns <;> simp [PyData.eqv, PyData.eqvAll]
    rw [this]
    exact a _ _ _ (rl.grow gr) gr.ext (.bl _)
  · cases e
end
end DL
set_option autoImplicit false
/-! DL11: defs with defaults; calls that leave some out, or say them by keyword; calls without arguments. -/
namespace DL
open PySem PySem.Spec PyProof.Rows L2
/-- picked from the written values and the defaults, in the parameters' order -/
def selG {α : Type} (ds xs : List α) : List (Nat ⊕ Nat) → List α
  | [] => []
  | .inl i :: r => (xs[i]?).toList ++ selG ds xs r
  | .inr j :: r => (ds[j]?).toList ++ selG ds xs r
def dSel (ds : List PyData) (sel : List (Nat ⊕ Nat)) (F : FF) : FF := fun svs st => F (selG (ds.map SV.d) svs sel) st
theorem paired_get {α β : Type} {R : α → β → Prop} : ∀ {xs : List α} {ys : List β} (i : Nat), Paired R xs ys → (xs[i]? = none ∧ ys[i]? = none) ∨ ∃ x y, xs[i]? = some x ∧ ys[i]? = some y ∧ R x y
  | _, _, _, .nil => .inl ⟨rfl, rfl⟩
  | _, _, 0, .cons h _ => .inr ⟨_, _, rfl, rfl, h⟩
  | _, _, i + 1, .cons _ t => by
    simp only [List.getElem?_cons_succ]
    exact paired_get i t
theorem paired_app {α β : Type} {R : α → β → Prop} : ∀ {xs : List α} {ys : List β} {us : List α} {vs : List β}, Paired R xs ys → Paired R us vs → Paired R (xs ++ us) (ys ++ vs)
  | _, _, _, _, .nil, h => h
  | _, _, _, _, .cons h t, q => .cons h (paired_app t q)
theorem paired_one {α β : Type} {R : α → β → Prop} {xs us : List α} {ys vs : List β} (i : Nat) (h : Paired R xs ys) (t : Paired R us vs) : Paired R ((xs[i]?).toList ++ us) ((ys[i]?).toList ++ vs) := by
  rcases paired_get i h with ⟨e1, e2⟩ | ⟨x, y, e1, e2, r⟩
  · rw [e1, e2]; exact t
  · rw [e1, e2]; exact .cons r t
theorem selG_rel {α β : Type} {R : α → β → Prop} {ds xs : List α} {es ys : List β} (hd : Paired R ds es) (hx : Paired R xs ys) : ∀ sel : List (Nat ⊕ Nat), Paired R (selG ds xs sel) (selG es ys sel)
  | [] => .nil
  | .inl i :: r => paired_one i hx (selG_rel hd hx r)
  | .inr j :: r => paired_one j hd (selG_rel hd hx r)
theorem vals_paired : ∀ {vs : List V} {us : List Value}, Vals vs us → Paired RelV vs us
  | _, _, .nil => .nil
  | _, _, .cons h t => .cons h (vals_paired t)
theorem paired_vals : ∀ {vs : List V} {us : List Value}, Paired RelV vs us → Vals vs us
  | _, _, .nil => .nil
  | _, _, .cons h t => .cons h (paired_vals t)
theorem rpA_rvs {K : PySem.W.Frag} {Z : Hp} {B : List Addr} : ∀ {vs : List V} {ds : List PyData}, RpA K Z vs ds → RVs K Z B vs (ds.map SV.d)
  | _, _, .nil => .nil
  | _, _, .cons h t => .cons h (rpA_rvs t)
/-! ### keywords' values -/
def JK (X : Cx) (W : XW) (ks : List Keyword) (g : AF) : Prop := PK X ks (tA X.K W g)
theorem pk_imp {X : Cx} {ks : List Keyword} {t t' : TA} (h : PK X ks t) (k : ∀ σ H Q, t' σ H Q → t σ H Q) : PK X ks t' := ⟨fun p pins s σ H Q I q => h.run p pins s σ H Q I (k σ H Q q)⟩
section
variable {X : Cx} {W : XW} {e : Expr} {es : List Expr} {f : EF} {g g2 : AF} {kws : List Keyword} {nm : Option Str} {pos p kpos : Pos} {x : Str} {k m n : Nat} {F : FF}
theorem jk_nil : JK X W [] aN := by
  refine pk_imp pk_nil fun σ H Q q => ?_
  obtain ⟨Z, B, dl, st, r, st', rl, e, a⟩ := q
  cases e
  exact a [] Z H rl Ext.refl .nil
theorem jk_cons (ha : JE X W e f) (hr : JK X W kws g) : JK X W (⟨nm, e, kpos⟩ :: kws) (aD f g) := by
  refine pk_imp (pk_cons ha hr) fun σ H Q q => ?_
  obtain ⟨Z, B, dl, st, r, st', rl, e, a⟩ := q
  unfold aD at e
  split at e
  · rename_i d st1 e1
    exact ⟨Z, B, dl, st, .ok d, st1, rl, e1, fun v Z' H' rl' x' h' => tA_rest (sv := .d d) rl' h' e (a.ext x')⟩
  · rename_i c p st1 e1
    cases e
    exact ⟨Z, B, dl, st, .ex c p, _, rl, e1, a⟩
  · cases e
/-- a def with defaults that is called with n values and the keywords ks -/
structure FnK (P : Program) (w : World) (K : PySem.W.Frag) (mg : Str → Option Value) (base : Heap) (k : Nat) (x : Str) (F : FF) (n : Nat) (ks : List Str) (ds : List PyData) (sel : List (Nat ⊕ Nat)) : Prop where
  ex : ∃ f fd ps its dvs, mg x = some (.ref f) ∧ PySem.W.keepIn K (.ref f) = true ∧ KBn K fd ps n ks (fun us ws => selG its (us ++ ws) sel) (fun vs zs => selG dvs (vs ++ zs) sel) ∧ (∀ Z, RpA K Z dvs ds) ∧ FnOk P w K mg base (L2.CX P w) k f fd ps (spD K mg F)
def eCallK (n m : Nat) (F : FF) (g g2 : AF) : EF := eA g fun vs => eA g2 fun zs _ st => if vs.length = n ∧ zs.length = m then F (vs ++ zs) st else none
theorem je_callK {ks : List Str} {ds : List PyData} {sel : List (Nat ⊕ Nat)} (G : FnK X.prog X.w X.K X.mg X.base m x F n ks ds sel) (c : Cxe X W k) (hk : m ≤ k) (ha : JA X W (e :: es) g) (hkw : JK X W kws g2) (hg : Gl X x := by rfl) (hdb : (x == ("__debug__" : Str)) = false := by decide)
    (hall : (backToKw pos (keywordEach kws X.env)).all (·.1.isSome) = true := by rfl) (hks : (backToKw pos (keywordEach kws X.env)).filterMap (·.1) = ks := by rfl)
    (he : starEach (e :: es) X.env = (false, eval e X.env) :: starEach es X.env := by rfl) (hpl : ((backTo pos (starEach (e :: es) X.env)).any (·.1) || (backToKw pos (keywordEach kws X.env)).any (·.1.isNone)) = false := by rfl) :
    JE X W (.Call (.Name x p) (e :: es) kws pos) (eCallK n ks.length (dSel ds sel F) g g2) := by
  obtain ⟨fa, fd, ps, its, dvs, hm, kp, hb, hd, ok⟩ := G.ex
  obtain ⟨E, hW, hx⟩ := c.px
  refine pe_imp (pe_callN ok (c.hr.mono hk) hg hm kp hb hx ha hkw hall hks hdb he hpl) fun σ H Q q => ?_
  refine tA_mono (tE_args q) fun vs H1 q => ?_
  obtain ⟨Z, B, dl, st, svs, r, st', rl, hv, e, a⟩ := q
  unfold eA at e
  split at e
  · rename_i zs st1 e1
    refine ⟨Z, B, dl, st, .ok zs, st1, rl, e1, fun ws Z1 H1' rl1 x1 h1 => ?_⟩
    dsimp only at e
    split at e
    · rename_i hl
      refine ⟨(hv.len).trans hl.1, (h1.len).trans hl.2, ?_⟩
      have hv1 : RVs X.K Z1 B vs svs := RVs.mono x1.z ⟨[], by simp⟩ hv
      refine ⟨Z1, B, selG (ds.map SV.d) (svs ++ zs) sel, st1, r, st', rl1.bare, selG_rel (rpA_rvs (hd Z1)) (paired_app hv1 h1) sel, e, ?_⟩
      have a1 := a.ext x1
      cases r with
      | ok d => exact fun v Z' H' rl' x' h' => a1 v Z' H' (rl1.after x' rl') x' h'
      | ex c p =>
        subst hW
        exact fun Z' H' rl' x' => a1 Z' H' (rl1.after x' rl') x'
    · cases e
  · rename_i c p st1 e1
    cases e
    exact ⟨Z, B, dl, st, .ex c p, _, rl, e1, a⟩
  · cases e
theorem je_call0 (G : FnD X.prog X.w X.K X.mg X.base m x F) (c : Cxe X W k) (hk : m ≤ k) (hg : Gl X x := by rfl) (hdb : (x == ("__debug__" : Str)) = false := by decide) : JE X W (.Call (.Name x p) [] [] pos) (eCall F aN) := by
  obtain ⟨fa, fd, ps, hm, kp, hb, ok⟩ := G.ex
  obtain ⟨E, hW, hx⟩ := c.px
  refine pe_imp (pe_call0 ok (c.hr.mono hk) hg hm kp hb .nil hx hdb) fun σ H Q q => ?_
  obtain ⟨Z, B, dl, st, r, st', rl, e, a⟩ := q
  show spD X.K X.mg F [] H Q E
  have e : F [] st = some (r, st') := e
  refine ⟨Z, B, [], st, r, st', rl.bare, .nil, e, ?_⟩
  cases r with
  | ok d => exact fun v Z' H' rl' x' h' => a v Z' H' (rl.after x' rl') x' h'
  | ex c p =>
    subst hW
    exact fun Z' H' rl' x' => a Z' H' (rl.after x' rl') x'
end
/-! ### such a def -/
section
variable {P : Program} {w : World} {K : PySem.W.Frag} {mg : Str → Option Value} {base : Heap} {x qual : Str} {stm : Stmt} {dvs : List V} {f : Addr} {fd : FuncData} {ps : List Str}
theorem kbn_of (F : FunD K x qual (defArgs stm) (defBody stm) (defScope stm) dvs [] f fd) (n : Nat) (ks : List Str) (sel : List (Nat ⊕ Nat)) (hd : dvs ≠ [])
    (h : ∀ (T : Addr) (kV doc pm : Value) (an : Option Addr) (cdv ct : Value) (us its ws : List Value), us.length = n → its.length = dvs.length → ws.length = ks.length →
      ∃ k, bindArgs (PySem.W.fnOf x qual (defArgs stm) (defBody stm) (defScope stm) (.ref T) kV doc pm an cdv ct) ⟨us, ks.zip ws⟩ = seqItems? (.ref T) >>= k ∧ k (some its.toArray) = pure (ps.zip (selG its (us ++ ws) sel))) :
    ∃ its, KBn K fd ps n ks (fun us ws => selG its (us ++ ws) sel) (fun vs zs => selG dvs (vs ++ zs) sel) := by
  obtain ⟨oc, od, dV, kV, doc, pm, an, cdv, ct, osl, rfl, lk, hcd, hD, hK⟩ := F.ex
  rcases hD with ⟨e, _⟩ | ⟨_, T, o, its, m, rfl, lT, oT, rT⟩
  · exact absurd e hd
  · refine ⟨its, ⟨fun s us ws X l1 l2 => ?_, fun r1 r2 => paired_vals (selG_rel (vals_paired rT) (paired_app (vals_paired r1) (vals_paired r2)) sel)⟩⟩
    obtain ⟨k, e1, e2⟩ := h T kV doc pm an cdv ct us its ws l1 rT.length.symm l2
    refine BindsTo.of_looks fun M => ?_
    rw [e1]
    exact looks_items X lT oT (.of_pure e2)
theorem fnOk_ofD {N : List Str} {k : Nat} {sf : SF} (F : FunD K x qual (defArgs stm) (defBody stm) (defScope stm) dvs [] f fd) (S : FnScope N ps (defScope stm))
    (hbody : ∀ (cdv : Value) (A : Around) (outer : List PySem.Env) (s : Shared) (H : Hp) (E : XK), Cxs (cxOf (L2.CX P w) P w K mg base N qual (defScope stm) f cdv A outer s H E) (XWof K mg E) k →
      Takes (cxOf (L2.CX P w) P w K mg base N qual (defScope stm) f cdv A outer s H E) (fun cls d _ H => E cls d H) → JSs (cxOf (L2.CX P w) P w K mg base N qual (defScope stm) f cdv A outer s H E) (XWof K mg E) (defBody stm) sf) :
    FnOk P w K mg base (L2.CX P w) (k + 1) f fd ps (spD K mg (fnB N.length ps.length sf)) := by
  refine F.ok S (fun vs H Q E h => ?_) (fun cdv A outer s H vs Q E hr h => ?_)
  · obtain ⟨Z, B, svs, st, r, st', rl, hv, e, _⟩ := h
    rw [hv.len]
    exact fnB_len e
  · obtain ⟨Z, B, svs, s0, r, s0', rl, hv, e, a⟩ := h
    have hl := fnB_len e
    refine ⟨_, hbody cdv A outer s H E ⟨⟨⟨E, rfl, passes_call (takes_of rfl rfl rfl rfl) fun _ _ _ _ h => h⟩, hr, rfl, S.nd⟩, passes_of rfl⟩ (takes_of rfl rfl rfl rfl), ?_⟩
    unfold fnB at e
    rw [if_pos hl] at e
    have rl0 := rl.start (N := N) hv
    rw [hl] at rl0
    cases q : sf (svs.map some ++ List.replicate (N.length - ps.length) none) s0 with
    | none => rw [q] at e; cases e
    | some y =>
      obtain ⟨fl, dl1, st1⟩ := y
      rw [q] at e
      refine ⟨Z, B, _, s0, _, rl0, q, ?_⟩
      cases fl with
      | nx =>
        cases e
        refine fun σ' Z' B' H' rl' x' => ?_
        obtain ⟨C, rfl, _⟩ := x'.b
        exact a .non Z' H' (rl'.bare.cut rl.bl) x'.cut .non
      | bk => cases e
      | ct => cases e
      | rt d =>
        cases e
        refine fun v Z' B' H' rl' x' h' => ?_
        obtain ⟨C, rfl, _⟩ := x'.b
        exact a v Z' H' (rl'.cut rl.bl) x'.cut h'
      | ex c p =>
        cases e
        refine fun Z' B' H' rl' x' => ?_
        obtain ⟨C, rfl, _⟩ := x'.b
        exact a Z' H' (rl'.cut rl.bl) x'.cut
/-- all values are written -/
theorem fnD_ofD {k : Nat} {sf : FF} (F : FunD K x qual (defArgs stm) (defBody stm) (defScope stm) dvs [] f fd) (hm : mg x = some (.ref f)) (hd : dvs ≠ [])
    (h : ∀ (T : Addr) (kV doc pm : Value) (an : Option Addr) (cdv ct : Value) (us its : List Value), us.length = ps.length → its.length = dvs.length →
      ∃ k, bindArgs (PySem.W.fnOf x qual (defArgs stm) (defBody stm) (defScope stm) (.ref T) kV doc pm an cdv ct) ⟨us, []⟩ = seqItems? (.ref T) >>= k ∧ k (some its.toArray) = pure (ps.zip us))
    (ok : FnOk P w K mg base (L2.CX P w) k f fd ps (spD K mg sf)) : FnD P w K mg base k x sf := by
  obtain ⟨ds, hv, hb⟩ := F.binds1 (ps := ps) ps.length dvs.length hd (by omega) (fun T kV doc pm an cdv ct us its l1 l2 => by
    obtain ⟨k, e1, e2⟩ := h T kV doc pm an cdv ct us its l1 l2
    refine ⟨k, e1, ?_⟩
    rw [List.drop_eq_nil_of_le (by omega), List.append_nil]
    exact e2)
  rw [List.drop_eq_nil_of_le (Nat.le_refl _)] at hv
  cases hv
  exact ⟨f, fd, ps, hm, F.kp, hb, ok⟩
/-- some are not -/
theorem fnK_ofD {k : Nat} {sf : FF} {ds : List PyData} (F : FunD K x qual (defArgs stm) (defBody stm) (defScope stm) dvs [] f fd) (hm : mg x = some (.ref f)) (n : Nat) (ks : List Str) (sel : List (Nat ⊕ Nat)) (hd : dvs ≠ []) (hds : ∀ Z, RpA K Z dvs ds)
    (h : ∀ (T : Addr) (kV doc pm : Value) (an : Option Addr) (cdv ct : Value) (us its ws : List Value), us.length = n → its.length = dvs.length → ws.length = ks.length →
      ∃ k, bindArgs (PySem.W.fnOf x qual (defArgs stm) (defBody stm) (defScope stm) (.ref T) kV doc pm an cdv ct) ⟨us, ks.zip ws⟩ = seqItems? (.ref T) >>= k ∧ k (some its.toArray) = pure (ps.zip (selG its (us ++ ws) sel)))
    (ok : FnOk P w K mg base (L2.CX P w) k f fd ps (spD K mg sf)) : FnK P w K mg base k x sf n ks ds sel := by
  obtain ⟨its, hb⟩ := kbn_of (ps := ps) F n ks sel hd h
  exact ⟨f, fd, ps, its, dvs, hm, F.kp, hb, hds, ok⟩
theorem funD_mk {oc : Value} {od an : Option Addr} {osl : Array (Option Value)} {kV doc pm cdv ct : Value} {T : Addr} {o : Obj} {its : List Value} {n : Nat} (l : K.lookup f = some ⟨oc, od, .func (PySem.W.fnOf x qual (defArgs stm) (defBody stm) (defScope stm) (.ref T) kV doc pm an cdv ct), osl⟩)
    (c : PySem.W.codeIn K cdv qual = true) (kp : PySem.W.keepIn K (.ref f) = true) (lT : K.lookup T = some o) (oT : o.data = .seq its.toArray n) (hv : Vals dvs its) (hd : dvs ≠ []) : FunD K x qual (defArgs stm) (defBody stm) (defScope stm) dvs [] f (PySem.W.fnOf x qual (defArgs stm) (defBody stm) (defScope stm) (.ref T) kV doc pm an cdv ct) :=
  ⟨⟨oc, od, .ref T, kV, doc, pm, an, cdv, ct, osl, rfl, l, c, .inr ⟨hd, T, o, its, n, rfl, lT, oT, hv⟩, .inl rfl⟩, kp⟩
end
end DL
set_option autoImplicit false
/-! DL12: more operations: count, find, sorted, int, every other sign. -/
namespace DL
open PySem PySem.Spec PyProof.Rows L2
section
variable {X : Cx} {W : XW} {o e a : Expr} {f : EF} {g : AF} {apos cpos pos : Pos}
/-! ### text.count(x), text.find(x) -/
def pCount : PyData → List PyData → Option PyData
  | .str a, [.str b] => some (.int (Txt.count a b))
  | _, _ => none
def pFind : PyData → List PyData → Option PyData
  | .str a, [.str b] => some (.int (Txt.find a b))
  | _, _ => none
theorem md_count : MtR X "str.count" (rDM X.K pCount) := by
  intro pins s σ H x xs v us Q I rx rv q
  obtain ⟨Z, d, ds, c, sub, hx, hd, e, gq⟩ := q
  unfold pCount at e
  split at e
  · cases e
    cases hx
    obtain ⟨w, rfl, hw⟩ := rpa1 hd
    cases hw
    exact mt_count pins s σ H _ _ v us Q I rx rv ⟨_, _, rfl, rfl, gq_of sub (.int _) gq⟩
  · cases e
theorem md_find : MtR X "str.find" (rDM X.K pFind) := by
  intro pins s σ H x xs v us Q I rx rv q
  obtain ⟨Z, d, ds, c, sub, hx, hd, e, gq⟩ := q
  unfold pFind at e
  split at e
  · cases e
    cases hx
    obtain ⟨w, rfl, hw⟩ := rpa1 hd
    cases hw
    exact mt_find pins s σ H _ _ v us Q I rx rv ⟨_, _, rfl, rfl, gq_of sub (.int _) gq⟩
  · cases e
theorem je_count (ho : JE X W o f) (ha : JA X W [e] g)
    (hbase : attributeBase o "count" X.env (eval o X.env) = eval o X.env := by rfl)
    (hfew : ((backTo cpos (starEach [e] X.env)).all (fun x => !x.1) && (backToKw cpos (keywordEach [] X.env)).all (fun x => x.1.isSome)
      && decide (([e] : List Expr).length + ([] : List Keyword).length + (if ([] : List Keyword).isEmpty then 0 else 1) < 30)) = true := by rfl)
    (hline : (apos.endLine == cpos.line) = true := by rfl) (hs : starEach [e] X.env = (false, eval e X.env) :: starEach [] X.env := by rfl) (hplain : (backTo cpos (starEach [] X.env)).any (·.1) = false := by rfl) :
    JE X W (.Call (.Attribute o "count" apos) [e] [] cpos) (eM "str" pCount f g) :=
  je_m PySem.F.plainAttrs_str PySem.F.slot_str_count PySem.F.type_str_count md_count ho ha hbase hfew hline hs hplain
theorem je_find (ho : JE X W o f) (ha : JA X W [e] g)
    (hbase : attributeBase o "find" X.env (eval o X.env) = eval o X.env := by rfl)
    (hfew : ((backTo cpos (starEach [e] X.env)).all (fun x => !x.1) && (backToKw cpos (keywordEach [] X.env)).all (fun x => x.1.isSome)
      && decide (([e] : List Expr).length + ([] : List Keyword).length + (if ([] : List Keyword).isEmpty then 0 else 1) < 30)) = true := by rfl)
    (hline : (apos.endLine == cpos.line) = true := by rfl) (hs : starEach [e] X.env = (false, eval e X.env) :: starEach [] X.env := by rfl) (hplain : (backTo cpos (starEach [] X.env)).any (·.1) = false := by rfl) :
    JE X W (.Call (.Attribute o "find" apos) [e] [] cpos) (eM "str" pFind f g) :=
  je_m PySem.F.plainAttrs_str PySem.F.slot_str_find PySem.F.type_str_find md_find ho ha hbase hfew hline hs hplain
/-! ### sorted(ints) -/
def insI (x : Int) : List Int → List Int
  | [] => [x]
  | y :: r => if x ≤ y then x :: y :: r else y :: insI x r
def sortI : List Int → List Int
  | [] => []
  | x :: r => insI x (sortI r)
theorem insI_perm (x : Int) : ∀ l : List Int, (insI x l).Perm (x :: l)
  | [] => .refl _
  | y :: r => by
    unfold insI
    split
    · exact .refl _
    · exact ((insI_perm x r).cons y).trans (.swap x y r)
theorem sortI_perm : ∀ l : List Int, (sortI l).Perm l
  | [] => .refl _
  | x :: r => (insI_perm x (sortI r)).trans ((sortI_perm r).cons x)
theorem insI_sorted (x : Int) : ∀ l : List Int, l.Pairwise (· ≤ ·) → (insI x l).Pairwise (· ≤ ·)
  | [], _ => by simp [insI]
  | y :: r, h => by
    unfold insI
    rw [List.pairwise_cons] at h
    split
    · rename_i hxy
      refine List.pairwise_cons.mpr ⟨fun z hz => ?_, List.pairwise_cons.mpr h⟩
      rcases List.mem_cons.mp hz with rfl | hz
      · exact hxy
      · exact Int.le_trans hxy (h.1 z hz)
    · rename_i hxy
      refine List.pairwise_cons.mpr ⟨fun z hz => ?_, insI_sorted x r h.2⟩
      rcases List.mem_cons.mp ((insI_perm x r).mem_iff.mp hz) with rfl | hz
      · omega
      · exact h.1 z hz
theorem sortI_sorted : ∀ l : List Int, (sortI l).Pairwise (· ≤ ·)
  | [] => .nil
  | x :: r => insI_sorted x _ (sortI_sorted r)
theorem sorted_uniq : ∀ {l m : List Int}, l.Perm m → l.Pairwise (· ≤ ·) → m.Pairwise (· ≤ ·) → l = m
  | [], m, p, _, _ => p.nil_eq
  | x :: l, [], p, _, _ => absurd p.length_eq (by simp)
  | x :: l, y :: m, p, hl, hm => by
    rw [List.pairwise_cons] at hl hm
    have h1 : x ≤ y := by
      rcases List.mem_cons.mp (p.mem_iff.mpr (List.mem_cons_self ..)) with e | h
      · omega
      · exact hl.1 y h
    have h2 : y ≤ x := by
      rcases List.mem_cons.mp (p.mem_iff.mp (List.mem_cons_self ..)) with e | h
      · omega
      · exact hm.1 x h
    have : x = y := by omega
    subst this
    rw [sorted_uniq (p.cons_inv) hl.2 hm.2]
def pSorted : List PyData → Option PyData
  | [.list ds] => match intsOf ds with
    | some ns => if ns.length < 64 then some (.list ((sortI ns).map .int)) else none
    | none => none
  | _ => none
theorem rpa_intsD {K : PySem.W.Frag} {Z : Hp} : ∀ ns : List Int, RpA K Z (ns.map V.int) (ns.map PyData.int)
  | [] => .nil
  | n :: r => .cons (.int n) (rpa_intsD r)
theorem cd_sorted : CallR X (.builtin "sorted") (rDL X.K pSorted) := by
  intro pins s σ H xs us Q I r q
  obtain ⟨Z, ds, c, sub, hd, e, gq⟩ := q
  unfold pSorted at e
  split at e
  · rename_i ds
    cases qb : intsOf ds with
    | none => rw [qb] at e; cases e
    | some ns =>
      rw [qb] at e
      dsimp only at e
      split at e
      · rename_i h64
        cases e
        obtain ⟨v, rfl, hv⟩ := rpa1 hd
        cases hv with
        | lst ea ra =>
          rw [intsOf_some qb] at ra
          have ev := rpa_ints ra
          subst ev
          refine cr_sorted pins s σ H _ us Q I r ⟨_, ns, rfl, SqL.of (sub _ _ ea), h64, fun ns' p h1 h2 hp => ?_⟩
          have : ns' = sortI ns := sorted_uniq (h1.trans (sortI_perm ns).symm) h2 (sortI_sorted ns)
          subst this
          exact gq_lst sub hp (rpa_intsD _) gq
      · cases e
  · cases e
/-! ### int(b) -/
def pInt1 : List PyData → Option PyData
  | [.int i] => some (.int i)
  | [.bool b] => some (.int (if b then 1 else 0))
  | _ => none
theorem cd_int1 : CallR X (.type "int") (rDL X.K pInt1) := by
  intro pins s σ H xs us Q I r q
  obtain ⟨Z, ds, c, sub, hd, e, gq⟩ := q
  unfold pInt1 at e
  split at e
  · cases e
    obtain ⟨v, rfl, hv⟩ := rpa1 hd
    cases hv
    exact call_int1 pins s σ H _ us Q I r (.inl ⟨_, rfl, gq_of sub (.int _) gq⟩)
  · cases e
    obtain ⟨v, rfl, hv⟩ := rpa1 hd
    cases hv
    exact call_int1 pins s σ H _ us Q I r (.inr ⟨_, rfl, gq_of sub (.int _) gq⟩)
  · cases e
/-! ### text[i::2] -/
def stp {α : Type} (l : List α) (i : Nat) : List α := (List.range ((l.length + 1 - i) / 2)).filterMap fun k => l[i + 2 * k]?
def pSt2 : PyData → Option Int → Option PyData
  | .str z, lo => if z.length ≤ 1000000 ∧ 0 ≤ lo.getD 0 then some (.str (tx (stp z.cps.toList (lo.getD 0).toNat))) else none
  | _, _ => none
theorem st2_ix (lo : Option Int) (n : Nat) (h : 0 ≤ lo.getD 0) : Builtin.Str.strSliceIndices lo none 2 n = (List.range ((n + 1 - (lo.getD 0).toNat) / 2)).map fun k => (lo.getD 0).toNat + 2 * k := by
  have hclip : Builtin.Str.strSliceIndices lo none 2 n = sliceRange ((min (lo.getD 0).toNat n : Nat) : Int) (n : Int) 2 := by
    cases lo with
    | none => simp [Builtin.Str.strSliceIndices]
    | some i =>
      have h' : 0 ≤ i := h
      have : ¬ i < 0 := by omega
      have e : max (0 : Int) (min i (n : Int)) = ((min i.toNat n : Nat) : Int) := by omega
      simp only [Builtin.Str.strSliceIndices, if_neg this, show ((2 : Int) > 0) = True from by simp, if_true, e, Option.getD_some]
  rw [hclip]
  generalize (lo.getD 0).toNat = i
  simp only [sliceRange, show ((2 : Int) > 0) = True from by simp, if_true]
  by_cases hi : i < n
  · have h1 : ((min i n : Nat) : Int) < (n : Int) := by omega
    have h2 : (((n : Int) - ((min i n : Nat) : Int) + 2 - 1) / 2).toNat = (n + 1 - i) / 2 := by omega
    rw [if_pos h1, h2]
    refine List.map_congr_left fun k _ => ?_
    omega
  · have h1 : ¬ ((min i n : Nat) : Int) < (n : Int) := by omega
    have h2 : (n + 1 - i) / 2 = 0 := by omega
    rw [if_neg h1, h2]
    rfl
theorem st2_pick (z : Str) (lo : Option Int) (h : 0 ≤ lo.getD 0) : ((Builtin.Str.strSliceIndices lo none 2 z.length).filterMap (z.cps[·]?)) = stp z.cps.toList (lo.getD 0).toNat := by
  rw [st2_ix lo _ h]
  obtain ⟨⟨l⟩⟩ := z
  unfold stp
  rw [List.filterMap_map]
  show _ = ((List.range ((l.length + 1 - (lo.getD 0).toNat) / 2)).filterMap fun k => l[(lo.getD 0).toNat + 2 * k]?)
  congr 1
  funext k
  simp
theorem stp_len {α : Type} (l : List α) (i : Nat) : (stp l i).length ≤ l.length := by
  unfold stp
  refine Nat.le_trans (List.length_filterMap_le _ _) ?_
  rw [List.length_range]
  omega
def tSt2 (te : TE) (tl : TO) : TE := fun σ H Q => te σ H fun x H1 => tl σ H1 fun lo H2 => ∃ z, x = .str z ∧ z.length ≤ 1000000 ∧ 0 ≤ lo.getD 0 ∧ Q (.str (tx (stp z.cps.toList (lo.getD 0).toNat))) H2
theorem pe_st2 {te : TE} {tl : TO} {lo : Option Expr} {k : Nat} {p1 p3 : Pos} (he : PE X e te) (hl : PO X lo tl) : PE X (.Subscript e (.Slice lo none (some (.Constant (.int 2) k p1)) p3) pos) (tSt2 te tl) := by
  refine ⟨fun pins s σ H Q I h => ?_⟩
  refine Subscript_ (thn (he.run pins s σ H _ I h) fun v s1 ⟨x, H1, I1, r1, q1⟩ => ?_)
  have hst : PO X (some (.Constant (.int 2) k p1)) (tPart (tC (.int 2))) := po_some pe_int
  refine wpAny_Slice (thn (hl.run pins s1 σ H1 _ I1 q1) fun vl s2 ⟨l, H2, I2, pl, q2⟩ => ?_)
  refine thn (po_none.run pins s2 σ H2 (fun o H3 => o = none ∧ H3 = H2) I2 ⟨rfl, rfl⟩) fun vu s3 ⟨u, H3, I3, pu, eu, e3⟩ => ?_
  subst eu e3
  refine thn (hst.run pins s3 σ H3 (fun o H4 => o = some 2 ∧ H4 = H3) I3 ⟨2, rfl, rfl, rfl⟩) fun vs s4 ⟨o, H4, I4, ps, eo, e4⟩ => ?_
  subst eo e4
  have I5 : Inv X pins σ H4 { s4 with heap := s4.heap.push { cls := .type "slice", data := .fields #[vl, vu, vs] } } := I4.kept (t' := s4.toks) fun b ob q => Heap.get?_push_of_some _ q
  show wpAny (model X.prog X.w) X.A (subscriptTail e (.Slice lo none (some (.Constant (.int 2) k p1)) p3) v (.ref s4.heap.objs.size)) (EP X pins σ Q) X.xe { s4 with heap := s4.heap.push { cls := .type "slice", data := .fields #[vl, vu, vs] } }
  obtain ⟨z, ex, hz, h0, q⟩ := q2
  subst ex
  obtain ⟨t, rfl⟩ := r1
  obtain ⟨ll, el, eo⟩ := L2.IsPart.raw pl
  subst el
  cases pu
  obtain ⟨ti, rfl⟩ : ∃ ti, vs = .int 2 ti := by
    cases ps with
    | int i t => exact ⟨t, rfl⟩
  refine tail_any (ops := [.str z t, .ref s4.heap.objs.size]) (typeIs_str _ _ _) F.slot_str_getitem.lookup ?_ (by with_unfolding_all rfl)
  refine wpAny_getItem_str_slice (l := ll) (u := none) (st := some (2, ti)) ⟨_, Heap.get?_push_size _ rfl, rfl, rfl⟩ rfl ?_
  show Made.post (if (((2 : Int)) == 1 && (Builtin.Str.strSliceIndices (ll.map (·.1)) none 2 z.length).length == z.length) = true then Made.val (.str z t)
    else Made.str ⟨((Builtin.Str.strSliceIndices (ll.map (·.1)) none 2 z.length).filterMap (z.cps[·]?)).toArray⟩) (EP X pins σ Q) _
  rw [if_neg (by simp), eo, st2_pick z l h0]
  exact ⟨by
    show (tx (stp z.cps.toList (l.getD 0).toNat)).length ≤ sizeLine
    rw [tx_length]
    refine Nat.le_trans (stp_len _ _) ?_
    rw [← str_len]
    exact million hz, .str _, H4, I5.tok _, ⟨_, rfl⟩, q⟩
def eSt2 (f : EF) (lo : Option EF) : EF := eB f fun d => eO lo fun l => eR (pSt2 d l)
theorem je_st2 {lo : Option Expr} {ol : Option EF} {k : Nat} {p1 p3 : Pos} (ha : JE X W a f) (hl : JO X W lo ol) : JE X W (.Subscript a (.Slice lo none (some (.Constant (.int 2) k p1)) p3) pos) (eSt2 f ol) := by
  refine pe_imp (pe_st2 ha hl.po) fun σ H Q q => ?_
  refine tE_mono (tH_bnd (tH_of q)) fun x H1 q => ?_
  obtain ⟨d, q⟩ := q
  have q1 := tH_eO q
  have mono : ∀ (o : Option EF) (σ : L2.St) (H : Hp) (Q Q' : Option Int → Hp → Prop), (∀ i H1, Q i H1 → Q' i H1) → tO X.K W o σ H Q → tO X.K W o σ H Q' := fun o σ H Q Q' hq t => by
    cases o with
    | none => exact hq _ _ t
    | some f => exact tE_mono t fun v H1 ⟨i, e, q⟩ => ⟨i, e, hq _ _ q⟩
  refine mono _ _ _ _ _ (fun l H2 q => ?_) q1
  obtain ⟨Z, c, sub, hh, ed, gq⟩ := tH_eR q
  have hd := hh (x, d) (by simp)
  unfold pSt2 at ed
  split at ed
  · split at ed
    · rename_i hz
      cases ed
      cases hd
      exact ⟨_, rfl, hz.1, hz.2, gq_of sub (.str _) gq⟩
    · cases ed
  · cases ed
end
end DL
set_option autoImplicit false
/-! DL13: constants that are tuples; items of a list that changes; new lists side by side with data; a def that calls itself. -/
namespace DL
open PySem PySem.Spec PyProof.Rows L2
/-! ### constants -/
theorem rp_ktup {K : PySem.W.Frag} {Z : Hp} {a : Addr} {od : Option Addr} {its : List Value} {n : Nat} {sl : Array (Option Value)} {vs : List V} {ds : List PyData} (l : K.lookup a = some ⟨.type "tuple", od, .seq its.toArray n, sl⟩) (h : its.length ≤ 1000) (v : Vals vs its) (r : RpA K Z vs ds) : Rp K Z (.ref a) (.tuple ds) :=
  .tup (.inr ⟨_, _, n, l, rfl, rfl, by rw [List.size_toArray]; exact Nat.le_trans h (by decide), by simpa using v⟩) r
theorem xe_globD {X : Cx} {W : XW} {x : Str} {d : PyData} {pos : Pos} (hm : ∃ a, X.mg x = some (.ref a) ∧ ∀ Z, Rp X.K Z (.ref a) d) (hg : Gl X x := by rfl) (hb : (x == ("__debug__" : Str)) = false := by decide) : JE X W (.Name x pos) (eC d) := by
  obtain ⟨a, hm, hd⟩ := hm
  exact xe_glob (v := .ref a) hm rfl hd hg hb
section
variable {X : Cx} {W : XW} {e : Expr} {f : EF} {g : AF} {pos : Pos}
/-! ### x[e] of a list that changes -/
def eIxO (i : Nat) (f : EF) : EF := fun dl st => match dl[i]? with
  | some (some (.o j)) => bnd (f dl st) fun d st1 => match d with
    | .int k => match st1[j]? with
      | some (.l xs) => (atI xs k).map fun n => (.ok n, st1)
      | _ => none
    | _ => none
  | _ => none
theorem je_ixO {i : Nat} {x : Str} {p1 : Pos} (he : JE X W e f) (hN : X.N[i]? = some x := by rfl) (hv : Vis X.env.scope x := by first | exact Or.inl rfl | exact Or.inr (Or.inl rfl) | exact Or.inr (Or.inr rfl)) (hd : (x == ("__debug__" : Str)) = false := by decide)
    (hcd : (x == ("__classdict__" : Str)) = false := by decide) (hs : PlainIx e := by exact fun _ _ => rfl) : JE X W (.Subscript (.Name x p1) e pos) (eIxO i f) := by
  refine pe_imp (pe_ix ix_list (pe_var (i := i) hN hv hd hcd) he hs) fun σ H Q q => ?_
  obtain ⟨Z, B, dl, st, r, st', rl, e, a⟩ := q
  unfold eIxO at e
  split at e
  · rename_i j hj
    obtain ⟨v, ev, b, eb, rfl⟩ := rl.rep i _ hj
    refine ⟨.ref b, ev, ?_⟩
    cases qf : f dl st with
    | none => rw [qf] at e; cases e
    | some y =>
      obtain ⟨rs, st1⟩ := y
      rw [qf] at e
      refine ⟨Z, B, dl, st, rs, st1, rl, qf, ?_⟩
      cases rs with
      | ex c p => cases e; exact a
      | ok d =>
        refine fun w Z' H' rl' x' h' => ?_
        cases d with
        | int k =>
          simp only [bnd] at e
          split at e
          · rename_i xs hst
            cases qa : atI xs k with
            | none => rw [qa] at e; cases e
            | some n =>
              rw [qa] at e
              cases e
              cases h'
              obtain ⟨b', vs, eb', zb, hb, rv⟩ := rl'.obj j _ hst
              rw [eb] at eb'
              cases eb'
              obtain ⟨u, hu, ru⟩ := rv.at qa
              exact ⟨_, _, k, u, rfl, rfl, SqL.of hb, hu, a u Z' H' rl' x' ru⟩
          · cases e
        | _ => cases e
  · cases e
/-! ### a, b = e, [] and the like -/
theorem js_parDN {i j : Nat} {x y : Str} {a : Expr} {px py pt pl : Pos} {kt k2 : Nat} {pt2 : Pos} (hc : X.calm = true) (hN : X.N.Nodup) (ha : JE X W a f) (hi : X.N[i]? = some x := by rfl) (hj : X.N[j]? = some y := by rfl) (hij : i ≠ j := by decide)
    (hx : X.env.scope.names.lookup x = some .local := by rfl) (hy : X.env.scope.names.lookup y = some .local := by rfl)
    (hsa : starEach [a, .List [] pl] X.env = (false, eval a X.env) :: starEach [.List [] pl] X.env := by rfl) (hsb : starEach [.List [] pl] X.env = (false, eval (.List [] pl) X.env) :: starEach [] X.env := by rfl)
    (hw : swappedStores [.Tuple [.Name x px, .Name y py] kt pt] (.Tuple [a, .List [] pl] k2 pt2) X.env = pure (some [x, y]) := by rfl)
    (hs : swapsWithSole [.Tuple [.Name x px, .Name y py] kt pt] (.Tuple [a, .List [] pl] k2 pt2) pos.line X.env = pure false := by rfl) :
    JS X W (.Assign [.Tuple [.Name x px, .Name y py] kt pt] (.Tuple [a, .List [] pl] k2 pt2) pos) (sQ (sV i f) (sNw j aN)) := by
  refine ps_imp (ps_par hc hN hi hj hij hx hy (pa_cons ha (pa_cons (pe_lst pa_nil) pa_nil hsb) hsa) hw hs) fun D σ H q => ?_
  obtain ⟨Z, B, dl, st, r, rl, e, a⟩ := q
  unfold sQ sV sG sB at e
  cases q : f dl st with
  | none => rw [q] at e; cases e
  | some y =>
    obtain ⟨rs, st1⟩ := y
    rw [q] at e
    refine ⟨Z, B, dl, st, rs, st1, rl, q, ?_⟩
    cases rs with
    | ex c p => cases e; exact fun Z' H' rl' x' => a Z' B H' rl'.bare x'
    | ok d =>
      cases e
      refine fun v Z' H' rl' x' h' => ?_
      refine ⟨by decide, fun p hp => ⟨v, .ref p, rfl, ?_⟩⟩
      exact a _ Z' _ _ ((rl'.setD i (sv := .d d) h').newS j hp .nil) (x'.trans (rl'.newO hp .nil).2)
theorem js_parNN {i j : Nat} {x y : Str} {px py pt pk pl : Pos} {kt k2 : Nat} {pt2 : Pos} (hc : X.calm = true) (hN : X.N.Nodup) (hi : X.N[i]? = some x := by rfl) (hj : X.N[j]? = some y := by rfl) (hij : i ≠ j := by decide)
    (hx : X.env.scope.names.lookup x = some .local := by rfl) (hy : X.env.scope.names.lookup y = some .local := by rfl)
    (hsa : starEach [.List [] pk, .List [] pl] X.env = (false, eval (.List [] pk) X.env) :: starEach [.List [] pl] X.env := by rfl) (hsb : starEach [.List [] pl] X.env = (false, eval (.List [] pl) X.env) :: starEach [] X.env := by rfl)
    (hw : swappedStores [.Tuple [.Name x px, .Name y py] kt pt] (.Tuple [.List [] pk, .List [] pl] k2 pt2) X.env = pure (some [x, y]) := by rfl)
    (hs : swapsWithSole [.Tuple [.Name x px, .Name y py] kt pt] (.Tuple [.List [] pk, .List [] pl] k2 pt2) pos.line X.env = pure false := by rfl) :
    JS X W (.Assign [.Tuple [.Name x px, .Name y py] kt pt] (.Tuple [.List [] pk, .List [] pl] k2 pt2) pos) (sQ (sNw i aN) (sNw j aN)) := by
  refine ps_imp (ps_par hc hN hi hj hij hx hy (pa_cons (pe_lst pa_nil) (pa_cons (pe_lst pa_nil) pa_nil hsb) hsa) hw hs) fun D σ H q => ?_
  obtain ⟨Z, B, dl, st, r, rl, e, a⟩ := q
  cases e
  refine ⟨by decide, fun p hp => ⟨by decide, fun p' hp' => ⟨.ref p, .ref p', rfl, ?_⟩⟩⟩
  have r1 := rl.newS i hp (vs := []) .nil
  exact a _ Z _ _ (r1.newS j hp' .nil) ((rl.newO hp .nil).2.trans (r1.newO hp' .nil).2)
theorem js_parNI {i j : Nat} {x y : Str} {c : Int} {kc : Nat} {px py pt pk pl : Pos} {kt k2 : Nat} {pt2 : Pos} (hc : X.calm = true) (hN : X.N.Nodup) (hi : X.N[i]? = some x := by rfl) (hj : X.N[j]? = some y := by rfl) (hij : i ≠ j := by decide)
    (hx : X.env.scope.names.lookup x = some .local := by rfl) (hy : X.env.scope.names.lookup y = some .local := by rfl)
    (hsa : starEach [.List [] pk, .Constant (.int c) kc pl] X.env = (false, eval (.List [] pk) X.env) :: starEach [.Constant (.int c) kc pl] X.env := by rfl) (hsb : starEach [.Constant (.int c) kc pl] X.env = (false, eval (.Constant (.int c) kc pl) X.env) :: starEach [] X.env := by rfl)
    (hw : swappedStores [.Tuple [.Name x px, .Name y py] kt pt] (.Tuple [.List [] pk, .Constant (.int c) kc pl] k2 pt2) X.env = pure (some [x, y]) := by rfl)
    (hs : swapsWithSole [.Tuple [.Name x px, .Name y py] kt pt] (.Tuple [.List [] pk, .Constant (.int c) kc pl] k2 pt2) pos.line X.env = pure false := by rfl) :
    JS X W (.Assign [.Tuple [.Name x px, .Name y py] kt pt] (.Tuple [.List [] pk, .Constant (.int c) kc pl] k2 pt2) pos) (sQ (sNw i aN) (sV j (eC (.int c)))) := by
  refine ps_imp (ps_par hc hN hi hj hij hx hy (pa_cons (pe_lst pa_nil) (pa_cons pe_int pa_nil hsb) hsa) hw hs) fun D σ H q => ?_
  obtain ⟨Z, B, dl, st, r, rl, e, a⟩ := q
  cases e
  refine ⟨by decide, fun p hp => ⟨.ref p, .int c, rfl, ?_⟩⟩
  have r1 := rl.newS i hp (vs := []) .nil
  exact a _ Z _ _ (r1.setD j (sv := .d (.int c)) (.int c)) (rl.newO hp .nil).2
end
/-! ### a def that calls itself: so deep, and no deeper -/
def fn0 : FF := fun _ _ => none
theorem fnD_0 {P : Program} {w : World} {K : PySem.W.Frag} {mg : Str → Option Value} {base : Heap} {x : Str} {f : Addr} {fd : FuncData} {ps : List Str} {k : Nat} (hm : mg x = some (.ref f)) (kp : PySem.W.keepIn K (.ref f) = true) (hb : Binds K fd ps []) : FnD P w K mg base k x fn0 := by
  refine ⟨f, fd, ps, hm, kp, hb, ⟨fun vs H Q E h => ?_, fun A outer s H args us vs Q E _ _ _ _ h => ?_⟩⟩
  · obtain ⟨_, _, _, _, _, _, _, _, e, _⟩ := h
    cases e
  · obtain ⟨_, _, _, _, _, _, _, _, e, _⟩ := h
    cases e
end DL
set_option autoImplicit false
/-! DL14: exceptions: raise, try .. except X as e: return .., the law's _law_which(e). -/
namespace DL
open PySem PySem.Spec PyProof.Rows L2

/-! ### list.count of flat values -/
section
variable {X : Cx}
def rCntF (K : PySem.W.Frag) : V → List V → Hp → VK → Prop := fun x xs H Q => ∃ (p : Addr) (ys : List V) (y : V), x = .ref p ∧ xs = [y] ∧ SqL K H p ys ∧ flatV y = true ∧ ys.all flatV = true ∧ Q (.int ((ys.countP fun z => eqV z y : Nat) : Int)) H
theorem eqU_count {y : V} : ∀ {ys : List V} {us : List Value}, Vals ys us → ys.all flatV = true → us.countP (eqU y) = ys.countP fun z => eqV z y
  | _, _, .nil, _ => rfl
  | z :: ys, _ :: us, .cons r t, f => by
    simp only [List.all_cons, Bool.and_eq_true] at f
    rw [List.countP_cons, List.countP_cons, eqU_count t f.2, eqU_of r f.1]
theorem mt_cntF : MtR X "list.count" (rCntF X.K) := by
  intro pins s σ H x xs v us Q I rx rxs h
  obtain ⟨p, ys, y, rfl, rfl, hs, fy, fys, q⟩ := h
  cases rx
  cases rxs with
  | cons ry rt =>
    rename_i uy ut
    cases rt
    obtain ⟨its, rv, ⟨⟨cls, dd, data, sl⟩, n, ho, hc, hdn, hd⟩, hlen⟩ := I.list hs
    simp only at hc hd
    subst hc hd
    refine call_meets PySem.F.slot_list_count ⟨_, ho, rfl⟩ PySem.F.entry_list_count (PySem.F.args_list_count_2 _ _)
      (SeqAt.list_countAt p its.toArray n dd sl uy (eqU y)) ⟨ho, fun u' hu' => mem_eqAt ry fy rv fys u' (by simpa using hu'), ?_⟩
    have ec : its.toArray.toList.countP (eqU y) = ys.countP fun z => eqV z y := eqU_count rv fys
    refine ⟨.int ((ys.countP fun z => eqV z y : Nat) : Int), H, I.tok _, ⟨s.toks, ?_⟩, q⟩
    show Value.int ((its.toArray.toList.countP (eqU y) : Nat) : Int) s.toks = _
    rw [ec]
end

/-! ### the program's exception classes -/
/-- what the class at C must say -/
structure EcC (K : PySem.W.Frag) (C : Addr) : Prop where
  cl : (PySem.W.clsIn K C).isSome = true
  ga : PySem.W.findIn K (.ref C) "__getattribute__" = some (some (.builtin "BaseException.__getattribute__"))
  gt : PySem.W.findIn K (.ref C) "__getattr__" = some none
  sb : PySem.W.subIn K (.ref C) (.type "BaseException") = some true
  ca : PySem.W.findIn K (.ref C) "__class__" = some (some (.builtin "object.__class__"))
  sp : PySem.W.specialIn K (.builtin "object.__class__") "__get__" = some (some (.builtin "getset_descriptor.__get__"))
  tk : PySem.W.takesIn K (.builtin "object.__class__") = some true
  mr : PySem.W.mroIn K C (.type "object") = some true
  hd : PySem.W.hasDictIn K C = true
  ty : PySem.W.typeIn K (.ref C) = some (.type "type")
  kp : PySem.W.keepIn K (.ref C) = true
def ecB (K : PySem.W.Frag) (C : Addr) : Bool :=
  (PySem.W.clsIn K C).isSome && (decide (PySem.W.findIn K (.ref C) "__getattribute__" = some (some (.builtin "BaseException.__getattribute__"))) && (decide (PySem.W.findIn K (.ref C) "__getattr__" = some none) &&
  (decide (PySem.W.subIn K (.ref C) (.type "BaseException") = some true) && (decide (PySem.W.findIn K (.ref C) "__class__" = some (some (.builtin "object.__class__"))) &&
  (decide (PySem.W.specialIn K (.builtin "object.__class__") "__get__" = some (some (.builtin "getset_descriptor.__get__"))) && (decide (PySem.W.takesIn K (.builtin "object.__class__") = some true) &&
  (decide (PySem.W.mroIn K C (.type "object") = some true) && (PySem.W.hasDictIn K C && (decide (PySem.W.typeIn K (.ref C) = some (.type "type")) && PySem.W.keepIn K (.ref C))))))))))
theorem ecB_ok {K : PySem.W.Frag} {C : Addr} (h : ecB K C = true) : EcC K C := by
  unfold ecB at h
  simp only [Bool.and_eq_true, decide_eq_true_eq] at h
  obtain ⟨h1, h2, h3, h4, h5, h6, h7, h8, h9, h10, h11⟩ := h
  exact ⟨h1, h2, h3, h4, h5, h6, h7, h8, h9, h10, h11⟩
/-- the dict of an exception, where it has one -/
def dOk (H : Hp) (d : Option Addr) : Prop := ∀ dd, d = some dd → ∃ fs, H dd = some (.xd fs)
theorem dOk.mono {H H' : Hp} {d : Option Addr} (h : dOk H d) (s : Same H H') : dOk H' d := fun dd e => let ⟨fs, q⟩ := h dd e; ⟨fs, s _ _ q⟩
/-- isinstance(e, c), e the exception that is handled -/
def rIsX (K : PySem.W.Frag) (D a : Addr) (d : Option Addr) : List V → Hp → VK → Prop := fun xs H Q => ∃ (c : V) (cv : Value) (b : Bool), xs = [.ref a, c] ∧ (∀ u, RelV c u → u = cv) ∧ PySem.W.kitOne K (.ref D) cv = some b ∧ dOk H d ∧ Q (.bl b) H
theorem call_isX {X : Cx} {a D : Addr} {d : Option Addr} {oe : Obj} (C : EcC X.K D) (hp : (a, oe) ∈ X.pn) (hz : Zc (.ref D) d oe) (hf : ∃ vs, oe.data = .fields vs) : CallR X (.builtin "isinstance") (rIsX X.K D a d) := by
  intro pins s σ H xs us Q I r h
  obtain ⟨c, cv, b, rfl, hcv, e, hd, q⟩ := h
  cases r with
  | cons rx rr =>
    cases rr with
    | cons rt rr =>
      cases rr
      cases rx
      have ec := hcv _ rt
      subst ec
      obtain ⟨hget, _⟩ := I.pin (a, oe) (List.mem_append.mpr (.inl hp))
      obtain ⟨vs, hv⟩ := hf
      obtain ⟨oc, od, oda, osl⟩ := oe
      obtain ⟨h1, h2⟩ := hz
      dsimp only at h1 h2 hv
      subst h1 h2 hv
      cases od with
      | none =>
        have J : PySem.W.InstAt s.heap a ⟨.ref D, none, .fields vs, osl⟩ D none := ⟨hget, rfl, rfl, trivial⟩
        exact PySem.W.kia_one (PySem.W.kitx_exc C.cl C.ga C.gt C.sb C.ca C.sp C.tk C.mr) I.kIn J e (fun z => nomatch z) fun tk => ⟨.bl b, H, I.kept (t' := tk) fun _ _ z => z, rfl, q⟩
      | some dd =>
        obtain ⟨fs, ea⟩ := hd dd rfl
        have hx : ObjOk X.prog X.w H s.heap dd (.xd fs) := I.hok dd _ ea
        obtain ⟨mA, hns, hr⟩ := hx
        obtain ⟨od', ho, hl⟩ := lookIn_ns hns
        have J : PySem.W.InstAt s.heap a ⟨.ref D, some dd, .fields vs, osl⟩ D (some od') := ⟨hget, rfl, rfl, ho⟩
        exact PySem.W.kia_one (PySem.W.kitx_exc C.cl C.ga C.gt C.sb C.ca C.sp C.tk C.mr) I.kIn J e (fun z => nomatch z) fun tk => ⟨.bl b, H, I.kept (t' := tk) fun _ _ z => z, rfl, q⟩

/-! ### a def that is handed the exception, called in an except suite -/
/-- the class's number, counted from 0 -/
abbrev CsN := List Addr
def spW (a : Addr) (d : Option Addr) (i : Nat) : Sp := fun vs H Q _ => vs = [.ref a] ∧ dOk H d ∧ ∀ p H', Same H H' → H p = none → H' p = some (.tup [.str "refused", .int (i : Int)]) → Q (.ref p) H'
structure FnE (P : Program) (w : World) (K : PySem.W.Frag) (mg : Str → Option Value) (base : Heap) (k : Nat) (x : Str) (Cs : CsN) : Prop where
  ex : ∃ f fd ps, mg x = some (.ref f) ∧ PySem.W.keepIn K (.ref f) = true ∧ Binds K fd ps [] ∧ ps.length = 1 ∧
    ∀ (A : Around) (outer : List PySem.Env) (s : Shared) (H : Hp) (args : Args) (us : List Value) (a : Addr) (oe : Obj) (C : Addr) (d : Option Addr) (i : Nat) (Q : VK), L2H.RoomH k A → L2H.PinOk outer H s (a, oe) → Zc (.ref C) d oe → (∃ vs, oe.data = .fields vs) → Cs[i]? = some C →
      Env0 P w K mg base A outer s H → BindsTo s fd args (ps.zip us) → Vals [.ref a] us → spW a d i [.ref a] H Q E0 → codeAny (model P w) A (.call (.ref f) args) (CR (L2.CX P w) outer P w H s Q E0) s
theorem fnE_of {P : Program} {w : World} {K : PySem.W.Frag} {mg : Str → Option Value} {base : Heap} {k : Nat} {x qual : Str} {stm : Stmt} {f : Addr} {fd : FuncData} {N ps : List Str} {Cs : CsN} (F : Fun K x qual stm f fd) (S : FnScope N ps (defScope stm)) (hm : mg x = some (.ref f)) (hb : Binds K fd ps []) (hp1 : ps.length = 1)
    (hbody : ∀ (cdv : Value) (A : Around) (outer : List PySem.Env) (s : Shared) (H : Hp) (a : Addr) (oe : Obj) (C : Addr) (d : Option Addr) (i : Nat) (Q : VK), L2H.RoomH k (A.deeper (envOfC qual (defScope stm) s.heap.objs.size f cdv)) → Zc (.ref C) d oe → (∃ vs, oe.data = .fields vs) → Cs[i]? = some C → spW a d i [.ref a] H Q E0 →
      ∃ t, PSs (L2H.cxH (L2.CX P w) P w K mg base N qual (defScope stm) f cdv A outer s H E0 (a, oe)) (defBody stm) t ∧ t { nx := fun _ H' => Q .non H', rt := Q } (L2.start N [.ref a]) H) : FnE P w K mg base (k + 1) x Cs := by
  refine ⟨f, fd, ps, hm, F.kp, hb, hp1, fun A outer s H args us a oe C d i Q hr hpin hz hf hC e0 hb r hsp => ?_⟩
  obtain ⟨oc, od, kV, doc, pm, an, cdv, ct, osl, rfl, lk, hcd⟩ := F.ex
  have hl : ([V.ref a] : List V).length = ps.length := hp1.symm
  have KX : K.In s.heap := e0.mod.kin.keeps fun b o e => (e0.bs b o e).1
  have lim : s.heap.NoLimit := e0.mod.nolimit.keeps fun b o e => (e0.bs b o e).1
  have hkind : ∀ y ∈ ps.zip us, (defScope stm).names.lookup y.1 = some .local ∨ ((defScope stm).names.lookup y.1 = some .cell ∧ ((cellsFrom (s.heap.objs.size + 1) (defScope stm).names []).lookup y.1).isSome = true) := fun ⟨n, v⟩ hy => by
    rcases S.par n (List.of_mem_zip hy).1 with q | q
    · exact .inl q
    · exact .inr ⟨q, PySem.W.cellsFrom_some _ _ _ (.inl q)⟩
  refine codeAny_call_function hr.depth (KX _ _ lk) rfl S.co S.gen rfl (PySem.W.codeRec_of KX hcd) (hb _ _ _ _ ?_)
  refine wpAny_newFunctionEnv_cells S.kind hkind fun env he s1 x => ?_
  subst he
  refine ⟨lim.keeps x.toInCall.keep, codeAny_func ?_⟩
  obtain ⟨t, ht, hq⟩ := hbody cdv A outer s H a oe C d i Q (hr.deeper _) hz hf hC hsp
  have I := L2H.inv_startH (CX := L2.CX P w) (E := E0) S hpin e0 hl r x
  refine wpAny_mono (ht.run [] s1 (L2.start N [.ref a]) H _ I hq) (fun fl s' hs => ?_) fun e s' hs => hs
  have fin : ∀ {σ' : L2.St} {H' : Hp} {v : V} {u : Value}, Inv (L2H.cxH (L2.CX P w) P w K mg base N qual (defScope stm) f cdv A outer s H E0 (a, oe)) [] σ' H' s' → RelV v u → Q v H' → CE outer P w H s Q u s' :=
    fun {σ' H' v u} J rv q => ⟨v, H', J.os, J.bare, J.base, J.hok, rv, q⟩
  cases fl with
  | ret u =>
    obtain ⟨v, σ', H', J, rv, q⟩ := hs
    exact fin J rv q
  | next =>
    obtain ⟨σ', H', J, q⟩ := hs
    exact fin (v := V.non) (u := Value.none) J rfl q
  | brk =>
    obtain ⟨_, _, _, q⟩ := hs
    exact False.elim q
  | cont =>
    obtain ⟨_, _, _, q⟩ := hs
    exact False.elim q

/-! ### its body: isinstance asked of class after class -/
section
variable {X : Cx} {a D : Addr} {d : Option Addr} {oe : Obj}
/-- the handled exception's facts -/
structure HotE (X : Cx) (a : Addr) (oe : Obj) (D : Addr) (d : Option Addr) : Prop where
  c : EcC X.K D
  p : (a, oe) ∈ X.pn
  z : Zc (.ref D) d oe
  f : ∃ vs, oe.data = .fields vs
def tIsi (a : Addr) (d : Option Addr) (i : Nat) (b : Bool) : TE := fun σ H Q => σ[i]? = some (some (.ref a)) ∧ dOk H d ∧ Q (.bl b) H
theorem pe_isiR {i : Nat} {b : Bool} {e x : Str} {Cx : Addr} {p p1 p2 pos : Pos} (h : HotE X a oe D d) (hm : X.mg "isinstance" = none) (hc : X.mg x = some (.ref Cx)) (hk : PySem.W.kitOne X.K (.ref D) (.ref Cx) = some b) (hN : X.N[i]? = some e := by rfl) (hv : Vis X.env.scope e := by first | exact Or.inl rfl | exact Or.inr (Or.inl rfl) | exact Or.inr (Or.inr rfl))
    (hd : (e == ("__debug__" : Str)) = false := by decide) (hcd : (e == ("__classdict__" : Str)) = false := by decide) (hg : Gl X "isinstance" := by rfl) (hgt : Gl X x := by rfl) (hdx : (x == ("__debug__" : Str)) = false := by decide)
    (hs : starEach [.Name e p1, .Name x p2] X.env = (false, eval (.Name e p1) X.env) :: starEach [.Name x p2] X.env := by rfl) (hs2 : starEach [.Name x p2] X.env = (false, eval (.Name x p2) X.env) :: starEach [] X.env := by rfl)
    (hpl : (backTo pos (starEach [.Name x p2] X.env)).any (·.1) = false := by rfl) : PE X (.Call (.Name "isinstance" p) [.Name e p1, .Name x p2] [] pos) (tIsi a d i b) := by
  refine pe_imp (pe_callB (call_isX h.c h.p h.z h.f) hg hm (by decide +kernel) (pa_cons (pe_var (i := i) hN hv hd hcd) (pa_cons (pe_glob (v := .ref Cx) hgt hc rfl hdx) pa_nil hs2) hs) (by decide) (by decide) hs hpl) fun σ H Q q => ?_
  obtain ⟨q1, q2, q3⟩ := q
  exact ⟨.ref a, q1, .ref Cx, .ref Cx, b, rfl, fun u r => r, hk, q2, q3⟩
theorem pe_isiT {i : Nat} {b : Bool} {e x : Str} {T : String} {p p1 p2 pos : Pos} (h : HotE X a oe D d) (hm : X.mg "isinstance" = none) (hc : X.mg x = none) (hk : PySem.W.kitOne X.K (.ref D) (.type T) = some b) (hbt : bootBuiltins x = some (.type T)) (hN : X.N[i]? = some e := by rfl) (hv : Vis X.env.scope e := by first | exact Or.inl rfl | exact Or.inr (Or.inl rfl) | exact Or.inr (Or.inr rfl))
    (hd : (e == ("__debug__" : Str)) = false := by decide) (hcd : (e == ("__classdict__" : Str)) = false := by decide) (hg : Gl X "isinstance" := by rfl) (hgt : Gl X x := by rfl) (hdx : (x == ("__debug__" : Str)) = false := by decide) (hnx : x ≠ "__name__" := by decide)
    (hs : starEach [.Name e p1, .Name x p2] X.env = (false, eval (.Name e p1) X.env) :: starEach [.Name x p2] X.env := by rfl) (hs2 : starEach [.Name x p2] X.env = (false, eval (.Name x p2) X.env) :: starEach [] X.env := by rfl)
    (hpl : (backTo pos (starEach [.Name x p2] X.env)).any (·.1) = false := by rfl) : PE X (.Call (.Name "isinstance" p) [.Name e p1, .Name x p2] [] pos) (tIsi a d i b) := by
  refine pe_imp (pe_callB (call_isX h.c h.p h.z h.f) hg hm (by decide +kernel) (pa_cons (pe_var (i := i) hN hv hd hcd) (pa_cons (pe_bltn (v := .ty T) hgt hc hbt rfl hnx hdx) pa_nil hs2) hs) (by decide) (by decide) hs hpl) fun σ H Q q => ?_
  obtain ⟨q1, q2, q3⟩ := q
  exact ⟨.ref a, q1, .ty T, .type T, b, rfl, fun u r => r, hk, q2, q3⟩
def tBs (a : Addr) (d : Option Addr) (bs : List Bool) : TA := fun σ H Q => σ[0]? = some (some (.ref a)) ∧ dOk H d ∧ Q (bs.map V.bl) H
theorem pa_bs0 : PA X [] (tBs a d []) := pa_imp pa_nil fun _ _ _ q => q.2.2
theorem pa_bs1 {e : Expr} {es : List Expr} {b : Bool} {bs : List Bool} (h1 : PE X e (tIsi a d 0 b)) (h2 : PA X es (tBs a d bs)) (hs : starEach (e :: es) X.env = (false, eval e X.env) :: starEach es X.env := by rfl) : PA X (e :: es) (tBs a d (b :: bs)) :=
  pa_imp (pa_cons h1 h2 hs) fun _ _ _ q => ⟨q.1, q.2.1, q.1, q.2.1, q.2.2⟩
def tOwn (a : Addr) (d : Option Addr) (bs : List Bool) : TS := fun D σ H => σ[0]? = some (some (.ref a)) ∧ dOk H d ∧ bs.length ≤ 1000 ∧ ∀ l, H l = none → D.nx (σ.set 1 (some (.ref l))) (upd H l (.lst (bs.map V.bl)))
theorem ps_own {es : List Expr} {bs : List Bool} {x : Str} {p1 p2 pos : Pos} (hN : X.N.Nodup) (h : PA X es (tBs a d bs)) (hi : X.N[1]? = some x := by rfl) (hx : Loc X.env.scope x := by first | exact Or.inl rfl | exact Or.inr rfl) (hs : swapsWith (.List es p2) (some (.Name x p1)) pos.line X.env = pure false := by rfl)
    (hf : X.fn x = true ∨ X.env.scope.names.lookup x = some .local := by first | exact .inl rfl | exact .inr rfl) : PS X (.Assign [.Name x p1] (.List es p2) pos) (tOwn a d bs) := by
  refine ps_imp (ps_set hN hi hx (pe_lst h) hs hf) fun D σ H q => ?_
  obtain ⟨q1, q2, q3, q4⟩ := q
  exact ⟨q1, q2, sz1000 (by simpa using q3), q4⟩
def tExt (a : Addr) (d : Option Addr) (bs : List Bool) : TS := fun D σ H => ∃ (l : Addr) (cs : List Bool), σ[0]? = some (some (.ref a)) ∧ σ[1]? = some (some (.ref l)) ∧ dOk H d ∧ H l = some (.lst (cs.map V.bl)) ∧ cs.length + bs.length ≤ 1000 ∧ ∀ m, H m = none → D.nx σ (upd (upd H m (.lst (bs.map V.bl))) l (.lst ((cs ++ bs).map V.bl)))
theorem ps_ext {es : List Expr} {bs : List Bool} {x : Str} {p1 p2 pos apos cpos : Pos} (h : PA X es (tBs a d bs)) (hN : X.N[1]? = some x := by rfl) (hv : Vis X.env.scope x := by first | exact Or.inl rfl | exact Or.inr (Or.inl rfl) | exact Or.inr (Or.inr rfl))
    (hd : (x == ("__debug__" : Str)) = false := by decide) (hcd : (x == ("__classdict__" : Str)) = false := by decide) (hs1 : starEach [.List es p2] X.env = (false, eval (.List es p2) X.env) :: starEach [] X.env := by rfl)
    (hbase : attributeBase (.Name x p1) "extend" X.env (eval (.Name x p1) X.env) = eval (.Name x p1) X.env := by rfl)
    (hfew : ((backTo cpos (starEach [.List es p2] X.env)).all (fun x => !x.1) && (backToKw cpos (keywordEach [] X.env)).all (fun x => x.1.isSome)
      && decide (([.List es p2] : List Expr).length + ([] : List Keyword).length + (if ([] : List Keyword).isEmpty then 0 else 1) < 30)) = true := by rfl)
    (hline : (apos.endLine == cpos.line) = true := by rfl) (hplain : (backTo cpos (starEach [] X.env)).any (·.1) = false := by rfl)
    (hs : swapsWith (.Call (.Attribute (.Name x p1) "extend" apos) [.List es p2] [] cpos) none pos.line X.env = pure false := by rfl) :
    PS X (.Expr (.Call (.Attribute (.Name x p1) "extend" apos) [.List es p2] [] cpos) pos) (tExt a d bs) := by
  refine ps_imp (ps_expr (pe_bm PySem.F.plainAttrs_list PySem.F.slot_list_extend PySem.F.type_list_extend mt_extend (pe_var (i := 1) hN hv hd hcd) (pa_cons (pe_lst h) pa_nil hs1) hbase hfew hline hs1 hplain) hs) fun D σ H q => ?_
  obtain ⟨l, cs, q1, q2, q3, q4, q5, q6⟩ := q
  refine ⟨.ref l, q2, .inl ⟨rfl, _, SqL.of q4⟩, q1, q3, sz1000 (by simp; omega), fun m hm => ?_⟩
  have hl : (upd H m (.lst (bs.map V.bl))) l = some (.lst (cs.map V.bl)) := by rw [upd_ne (ne_of_none q4 hm)]; exact q4
  refine ⟨l, m, _, _, rfl, rfl, hl, upd_same, sz1000 (by simpa using q5), ?_⟩
  rw [← List.map_append]
  exact q6 m hm
/-- own.count(True) != 1 or not isinstance(e, ValueError): not so -/
def tTst (a : Addr) (d : Option Addr) : TT := fun σ H Q => ∃ (l : Addr) (cs : List Bool), σ[0]? = some (some (.ref a)) ∧ σ[1]? = some (some (.ref l)) ∧ dOk H d ∧ H l = some (.lst (cs.map V.bl)) ∧ cs.count true = 1 ∧ Q false H
theorem bl_flat (cs : List Bool) : (cs.map V.bl).all flatV = true := by simp [flatV]
theorem bl_count (cs : List Bool) : (cs.map V.bl).countP (fun z => eqV z (.bl true)) = cs.count true := by
  rw [List.countP_map]
  unfold List.count
  congr 1
theorem pt_tst {x : Str} {e2 : Expr} {p1 p2 p3 apos cpos : Pos} {k1 k2 : Nat} {p4 p5 : Pos} (h : PE X e2 (tIsi a d 0 true)) (he2 : ∀ whole, isTrue e2 X.env whole = (do let v ← whole; standAt e2.pos; holding [v] (truthy v)) := by intro _; rfl) (hN : X.N[1]? = some x := by rfl)
    (hv : Vis X.env.scope x := by first | exact Or.inl rfl | exact Or.inr (Or.inl rfl) | exact Or.inr (Or.inr rfl)) (hd : (x == ("__debug__" : Str)) = false := by decide) (hcd : (x == ("__classdict__" : Str)) = false := by decide)
    (hs1 : starEach [.Constant (.bool true) k1 p2] X.env = (false, eval (.Constant (.bool true) k1 p2) X.env) :: starEach [] X.env := by rfl)
    (hbase : attributeBase (.Name x p1) "count" X.env (eval (.Name x p1) X.env) = eval (.Name x p1) X.env := by rfl)
    (hfew : ((backTo cpos (starEach [.Constant (.bool true) k1 p2] X.env)).all (fun x => !x.1) && (backToKw cpos (keywordEach [] X.env)).all (fun x => x.1.isSome)
      && decide (([.Constant (.bool true) k1 p2] : List Expr).length + ([] : List Keyword).length + (if ([] : List Keyword).isEmpty then 0 else 1) < 30)) = true := by rfl)
    (hline : (apos.endLine == cpos.line) = true := by rfl) (hplain : (backTo cpos (starEach [] X.env)).any (·.1) = false := by rfl)
    (hm : behindInMarks .NotEq (.Constant (.int 1) k2 p3) = false := by first | exact nomark _ | rfl) {p6 : Pos} :
    PT X (.BoolOp .Or [.Compare (.Call (.Attribute (.Name x p1) "count" apos) [.Constant (.bool true) k1 p2] [] cpos) [.NotEq] [.Constant (.int 1) k2 p3] p4, .UnaryOp .Not e2 p5] p6) (tTst a d) := by
  refine pt_imp (PW.pt (pw_or (pt_cmpR op_ne (pe_bm PySem.F.plainAttrs_list PySem.F.slot_list_count PySem.F.type_list_count mt_cntF (pe_var (i := 1) hN hv hd hcd) (pa_cons pe_bl pa_nil hs1) hbase hfew hline hs1 hplain) pe_int hm) (pw_or1 (pt_not (pt_val h he2))))) fun σ H Q q => ?_
  obtain ⟨l, cs, q1, q2, q3, q4, q5, q6⟩ := q
  refine ⟨.ref l, q2, .inl ⟨rfl, _, SqL.of q4⟩, l, _, .bl true, rfl, rfl, SqL.of q4, rfl, bl_flat cs, rfl, false, ?_, ?_⟩
  · rw [bl_count, q5]
    rfl
  · show if false = true then _ else _
    rw [if_neg Bool.false_ne_true]
    exact ⟨q1, q3, true, rfl, q6⟩
/-- return ("refused", own.index(True)) -/
def tLast (i : Nat) : TS := fun D σ H => ∃ (l : Addr) (cs : List Bool), σ[1]? = some (some (.ref l)) ∧ H l = some (.lst (cs.map V.bl)) ∧ cs[i]? = some true ∧ (∀ m, m < i → cs[m]? = some false) ∧ ∀ p, H p = none → D.rt (.ref p) (upd H p (.tup [.str "refused", .int (i : Int)]))
theorem ps_last {i : Nat} {x : Str} {p1 p2 p3 p4 apos cpos pos : Pos} {k1 k2 k3 : Nat} (hN : X.N[1]? = some x := by rfl)
    (hv : Vis X.env.scope x := by first | exact Or.inl rfl | exact Or.inr (Or.inl rfl) | exact Or.inr (Or.inr rfl)) (hd : (x == ("__debug__" : Str)) = false := by decide) (hcd : (x == ("__classdict__" : Str)) = false := by decide)
    (hs1 : starEach [.Constant (.bool true) k1 p2] X.env = (false, eval (.Constant (.bool true) k1 p2) X.env) :: starEach [] X.env := by rfl)
    (hbase : attributeBase (.Name x p1) "index" X.env (eval (.Name x p1) X.env) = eval (.Name x p1) X.env := by rfl)
    (hfew : ((backTo cpos (starEach [.Constant (.bool true) k1 p2] X.env)).all (fun x => !x.1) && (backToKw cpos (keywordEach [] X.env)).all (fun x => x.1.isSome)
      && decide (([.Constant (.bool true) k1 p2] : List Expr).length + ([] : List Keyword).length + (if ([] : List Keyword).isEmpty then 0 else 1) < 30)) = true := by rfl)
    (hline : (apos.endLine == cpos.line) = true := by rfl) (hplain : (backTo cpos (starEach [] X.env)).any (·.1) = false := by rfl)
    (hs2 : starEach [.Constant (.str "refused") k2 p3, .Call (.Attribute (.Name x p1) "index" apos) [.Constant (.bool true) k1 p2] [] cpos] X.env = (false, eval (.Constant (.str "refused") k2 p3) X.env) :: starEach [.Call (.Attribute (.Name x p1) "index" apos) [.Constant (.bool true) k1 p2] [] cpos] X.env := by rfl)
    (hs3 : starEach [.Call (.Attribute (.Name x p1) "index" apos) [.Constant (.bool true) k1 p2] [] cpos] X.env = (false, eval (.Call (.Attribute (.Name x p1) "index" apos) [.Constant (.bool true) k1 p2] [] cpos) X.env) :: starEach [] X.env := by rfl) :
    PS X (.Return (some (.Tuple [.Constant (.str "refused") k2 p3, .Call (.Attribute (.Name x p1) "index" apos) [.Constant (.bool true) k1 p2] [] cpos] k3 p4)) pos) (tLast i) := by
  refine ps_imp (ps_ret (pe_tup (pa_cons pe_str (pa_cons (pe_bm PySem.F.plainAttrs_list PySem.F.slot_list_index PySem.F.type_list_index mt_index (pe_var (i := 1) hN hv hd hcd) (pa_cons pe_bl pa_nil hs1) hbase hfew hline hs1 hplain) pa_nil hs3) hs2))) fun D σ H q => ?_
  obtain ⟨l, cs, q1, q2, q3, q4, q5⟩ := q
  refine ⟨.ref l, q1, .inl ⟨rfl, _, SqL.of q2⟩, l, _, .bl true, i, .bl true, rfl, rfl, SqL.of q2, rfl, bl_flat cs, by rw [List.getElem?_map, q3]; rfl, rfl, fun m z hm hz => ?_, sz1000 (by simp), fun p hp => q5 p hp⟩
  rw [List.getElem?_map, q4 m hm] at hz
  cases hz
  rfl
/-- all of it -/
theorem which_q {i : Nat} {bs1 bs2 bs3 bs4 : List Bool} {N : List Str} {H : Hp} {Q : VK} (sp : spW a d i [.ref a] H Q E0) (hN : N.length = 2) (hl : bs1.length + bs2.length + bs3.length + bs4.length ≤ 1000) (hc : (bs1 ++ bs2 ++ bs3 ++ bs4).count true = 1) (hi : (bs1 ++ bs2 ++ bs3 ++ bs4)[i]? = some true) (ho : ∀ m, m < i → (bs1 ++ bs2 ++ bs3 ++ bs4)[m]? = some false) :
    tSeq (tOwn a d bs1) (tSeq (tExt a d bs2) (tSeq (tExt a d bs3) (tSeq (tExt a d bs4) (tSeq (tIfS (tTst a d) tNever tNext) (tLast i))))) { nx := fun _ H' => Q .non H', rt := Q } (L2.start N [.ref a]) H := by
  obtain ⟨_, hd, q⟩ := sp
  have hs : L2.start N [.ref a] = [some (.ref a), none] := by
    unfold L2.start
    rw [hN]
    rfl
  rw [hs]
  refine ⟨rfl, hd, by omega, fun l hl0 => ?_⟩
  have S1 : Same H (upd H l (.lst (bs1.map V.bl))) := same_new hl0
  refine ⟨l, bs1, rfl, rfl, hd.mono S1, upd_same, by omega, fun m2 h2 => ?_⟩
  have n2 : l ≠ m2 := fun z => by rw [← z, upd_same] at h2; cases h2
  have H2 : ∀ b o, b ≠ l → (upd H l (.lst (bs1.map V.bl))) b = some o → (upd (upd (upd H l (.lst (bs1.map V.bl))) m2 (.lst (bs2.map V.bl))) l (.lst ((bs1 ++ bs2).map V.bl))) b = some o := fun b o hb e => by
    rw [upd_ne hb, upd_ne (ne_of_none e h2)]; exact e
  have keep : ∀ (G : Hp) (ys : List Bool) (m : Addr) (zs ws : List Bool), G l = some (.lst (ys.map V.bl)) → Same H G → H l = none → G m = none → Same H (upd (upd G m (.lst (zs.map V.bl))) l (.lst (ws.map V.bl))) := fun G ys m zs ws gl sg hl hm b o e => by
    have hb : b ≠ l := fun z => by rw [z, hl] at e; cases e
    rw [upd_ne hb, upd_ne (ne_of_none (sg b o e) hm)]
    exact sg b o e
  have S2 := keep _ bs1 m2 bs2 (bs1 ++ bs2) upd_same S1 hl0 h2
  refine ⟨l, bs1 ++ bs2, rfl, rfl, hd.mono S2, upd_same, by simp; omega, fun m3 h3 => ?_⟩
  have S3 := keep _ _ m3 bs3 (bs1 ++ bs2 ++ bs3) upd_same S2 hl0 h3
  refine ⟨l, bs1 ++ bs2 ++ bs3, rfl, rfl, hd.mono S3, upd_same, by simp; omega, fun m4 h4 => ?_⟩
  have S4 := keep _ _ m4 bs4 (bs1 ++ bs2 ++ bs3 ++ bs4) upd_same S3 hl0 h4
  refine ⟨l, bs1 ++ bs2 ++ bs3 ++ bs4, rfl, rfl, hd.mono S4, upd_same, hc, ?_⟩
  show if false = true then _ else _
  rw [if_neg Bool.false_ne_true]
  refine ⟨l, bs1 ++ bs2 ++ bs3 ++ bs4, rfl, upd_same, hi, ho, fun p hp => ?_⟩
  exact q p _ (S4.trans (same_new hp)) (S4.free hp) upd_same
end
end DL
set_option autoImplicit false
/-! DL15: try .. except X as e: return .. -/
namespace DL
open PySem PySem.Spec PyProof.Rows L2

/-! ### the call of a def that is handed the exception -/
def tCallE (a : Addr) (d : Option Addr) (ie i : Nat) : TE := fun σ H Q => σ[ie]? = some (some (.ref a)) ∧ dOk H d ∧ ∀ p H', Same H H' → H p = none → H' p = some (.tup [.str "refused", .int (i : Int)]) → Q (.ref p) H'
theorem pe_callE {X : Cx} {a D : Addr} {d : Option Addr} {oe : Obj} {Cs : CsN} {k ie i : Nat} {x e : Str} {q p1 pos : Pos} (G : FnE X.prog X.w X.K X.mg X.base k x Cs) (h : HotE X a oe D d) (hC : Cs[i]? = some D) (hr : L2H.RoomH k X.A) (hN : X.N[ie]? = some e := by rfl)
    (hv : Vis X.env.scope e := by first | exact Or.inl rfl | exact Or.inr (Or.inl rfl) | exact Or.inr (Or.inr rfl)) (hd : (e == ("__debug__" : Str)) = false := by decide) (hcd : (e == ("__classdict__" : Str)) = false := by decide) (hg : Gl X x := by rfl) (hdx : (x == ("__debug__" : Str)) = false := by decide)
    (he : starEach [.Name e p1] X.env = (false, eval (.Name e p1) X.env) :: starEach [] X.env := by rfl) (hpl : (backTo pos (starEach [] X.env)).any (·.1) = false := by rfl) : PE X (.Call (.Name x q) [.Name e p1] [] pos) (tCallE a d ie i) := by
  obtain ⟨f, fd, ps, hm, kp, hb, hp1, run⟩ := G.ex
  refine ⟨fun pins s σ H Q I hh => ?_⟩
  obtain ⟨h1, h2, h3⟩ := hh
  refine wpAny_Call_Name_kw (ld_glob I hg hm ?_ hdx)
  have ha : PA X [.Name e p1] (tCons (tVar ie) tNil) := pa_cons (pe_var (i := ie) hN hv hd hcd) pa_nil he
  refine PySem.W.callWith_K (h₀ := X.base) I.ok.mod.kin kp (thn (ha.run pos pins s σ H (fun vs H1 => vs = [V.ref a] ∧ H = H1) I ⟨_, h1, rfl, rfl⟩) fun us s1 hh => ?_) he hpl
  obtain ⟨vs, H1, I1, r1, ev, eH⟩ := hh
  subst ev
  rw [← eH] at I1
  refine ⟨I1.kIn, ?_⟩
  have hl : us.length = ps.length := by rw [← r1.length, hp1]; rfl
  have b := hb s1 us I1.kIn (by rw [List.append_nil]; exact hl)
  rw [List.append_nil] at b
  have P1 := I1.pin (a, oe) (List.mem_append_left _ h.p)
  have hpin : L2H.PinOk X.stack H s1 (a, oe) := ⟨P1.1, P1.2.1, fun hm => (List.mem_cons.mp (I1.stkSub a hm)).elim P1.2.2.1 P1.2.2.2.1, P1.2.2.2.2⟩
  refine wpAny_call (codeAny_mono (run X.A X.stack s1 H ⟨us, []⟩ us a oe D d i Q hr hpin h.z h.f hC I1.env0 b r1 ⟨rfl, h2, h3⟩) fun r s' hq => ?_)
  cases r with
  | error e => exact passL pins σ H s1 e s' I1 hq
  | ok fl =>
    cases fl with
    | ret u => exact I1.after hq
    | next => exact False.elim hq
    | brk => exact False.elim hq
    | cont => exact False.elim hq

/-! ### several clauses, each 'except x as n' -/
def wAsM (K : PySem.W.Frag) (i : Nat) (D : Ends) : List (Value × (Addr → Value → Option Addr → TS)) → WX
  | [] => fun _ _ _ _ => False
  | (c, ts) :: r => fun cls d σ H => ∃ b, PySem.W.exmOne K cls c = some b ∧
    (b = true → ∀ a, H a = none → ts a cls d { nx := fun σ' H' => D.nx (σ'.set i none) H', rt := D.rt, bk := fun σ' H' => D.bk (σ'.set i none) H', ct := fun σ' H' => D.ct (σ'.set i none) H' } (σ.set i (some (.ref a))) H) ∧ (b = false → wAsM K i D r cls d σ H)
inductive HdsA (X : Cx) (n : Str) : List ExceptHandler → List (Value × (Addr → Value → Option Addr → TS)) → Prop
  | nil : HdsA X n [] []
  | cons {x : Str} {c : Value} {ts : Addr → Value → Option Addr → TS} {b₀ : Stmt} {suite : List Stmt} {np pos' : Pos} {hds : List ExceptHandler} {l : List (Value × (Addr → Value → Option Addr → TS))} (hc : Names X x c)
      (hsu : ∀ (a : Addr) (oe : Obj) (cls : Value) (d : Option Addr) (pn : List (Addr × Obj)), Zc cls d oe → (∃ vs, oe.data = .fields vs) → PSs (X.suite a ((a, oe) :: pn)) (b₀ :: suite) (ts a cls d)) (r : HdsA X n hds l) :
      HdsA X n (.ExceptHandler (some (.Name x np)) (some n) (b₀ :: suite) pos' :: hds) ((c, ts) :: l)
section
variable {X : Cx} {body : List Stmt} {h₀ : ExceptHandler} {hds : List ExceptHandler} {l : List (Value × (Addr → Value → Option Addr → TS))} {pos : Pos} {tb : WX → TS} {n : Str} {i : Nat}
theorem ps_try_asM (hs : X.stack = X.env :: X.outer) (hf : X.env.frame = some X.env.locals) (hN : X.N.Nodup) (hi : X.N[i]? = some n) (hln : X.env.kindOf n = some .local)
    (hb : ∀ (W : WX) (pn : List (Addr × Obj)) (xe : Value → Shared → Prop), Takes (X.tr pn xe) W → PassesOwn (model X.prog X.w) X.A X.env xe → PSs (X.tr pn xe) body (tb W))
    (hh : HdsA X n (h₀ :: hds) l) : PS X (.Try body (h₀ :: hds) [] [] pos) (fun D σ H => tb (wAsM X.K i D l) D σ H) := by
  refine ⟨fun pins s σ H D I h => ?_⟩
  have ok := I.ok
  have hfr : X.A.frames = some (X.env :: X.outer) := by rw [ok.frames, hs]
  have hloc : Loc X.env.scope n := .inl hln
  refine wpAny_Try_except ?_
  refine wpAny_mono ((hb (wAsM X.K i D l) (X.pn ++ pins) (fun e s₁ => wpAny (model X.prog X.w) X.A (noteFrame e X.env) (fun _ s₂ => wpAny (model X.prog X.w) X.A (setFlight e none) (fun _ s₃ =>
    wpAny (model X.prog X.w) X.A (handleBy e X.env (h₀ :: hds)) (SP X pins D) X.xe s₃) X.xe s₂) X.xe s₁) (fun u s' xx => ?_) PassesOwn.looking).run [] s σ H D (I.toTry _) h) (fun f s1 hsp => ?_) (fun e s1 he => he)
  · obtain ⟨a, B, sI, pins', σ', H', cls, d, rfl, J', nb, up, sky, na, os, ag, w⟩ := xx
    have J : Inv X pins σ' H' sI := J'.ofTry ok
    have sky' : Sky B (X.env :: X.outer) a (Zc cls d) X.env.locals s'.heap := by rw [← hs]; exact sky
    show wpAny (model X.prog X.w) X.A (noteFrame (.ref a) X.env) _ _ _
    refine Sky.land Zc.steady hfr hf sky' fun h3 fl3 up3 => ?_
    have J3 : Inv X pins σ' H' { s' with heap := h3 } := J.landed nb fl3.1 (up.trans up3) os ag
    obtain ⟨oe3, vs3, he3, hz3, hd3⟩ := fl3.there
    have notFr : ∀ {h : Heap} {o : Obj} {vs : Array Value}, h.FunFrames B (X.env :: X.outer) → h.get? a = some o → o.data = .fields vs → a ∉ frs (X.env :: X.outer) := fun {h o vs} ff e dd hm => by
      obtain ⟨_, o', e', hnf⟩ := ff.mem hm
      rw [e] at e'; cases e'
      exact hnf _ dd
    have nfr := notFr fl3.2.2.1 he3 hd3
    have nL : a ≠ X.env.locals := fun z => nfr (List.mem_filterMap.mpr ⟨X.env, List.mem_cons_self, by rw [hf, z]⟩)
    have nF : a ∉ X.fs := fun hm => by
      obtain ⟨e, he, q⟩ := List.mem_filterMap.mp hm
      exact nfr (List.mem_filterMap.mpr ⟨e, List.mem_cons_of_mem _ he, q⟩)
    have S3 := J3.suite he3 hd3 na nL nF
    have go : ∀ {hds' : List ExceptHandler} {l' : List (Value × (Addr → Value → Option Addr → TS))}, HdsA X n hds' l' → wAsM X.K i D l' cls d σ' H' →
        wpAny (model X.prog X.w) X.A (handleBy (.ref a) X.env hds') (SP X pins D) X.xe { s' with heap := h3 } := by
      intro hds' l' hk
      induction hk with
      | nil => intro w; exact w.elim
      | @cons x c ts b₀ suite np pos' hds2 l2 hc hsu r ih =>
        intro w
        obtain ⟨b, hb1, hyes, hno⟩ := w
        refine wpAny_handleBy_cons (codeAny_handlers_test ?_) (by intro q; cases q)
        have LT : PySem.W.Looks (model X.prog X.w) h3 (typeOf (.ref a)) cls := fun A Q E s k q => wpAny_typeOf_ref (k _ _ he3) (by rw [hz3.1]; exact q)
        have LM := PySem.W.exm_one (M := model X.prog X.w) (J3.kIn) LT hb1
        have test : ∀ {Q : Value → Shared → Prop} {E : Value → Shared → Prop}, Q c { s' with heap := h3 } → wpAny (model X.prog X.w) (X.A.mark (some (.ref a))) (eval (.Name x np) X.env) Q E { s' with heap := h3 } := fun {Q E} q => by
          obtain ⟨hg, hdbg, hm | ⟨hm, hv, hnn⟩⟩ := hc
          · exact ld_glob (X := X.suite a ((a, oe3) :: (X.pn ++ pins))) S3 hg hm q hdbg
          · exact ld_blt (X := X.suite a ((a, oe3) :: (X.pn ++ pins))) S3 hg hm hv q hnn hdbg
        refine test (LM.here ?_)
        cases b with
        | true =>
          refine codeAny_handlers_suite_as ?_
          refine HandSPX.lands_againZ fl3 fun h4 fl4 up4 => ?_
          have J4 : Inv X pins σ' H' { s' with heap := h4 } := J.landed nb fl4.1 ((up.trans up3).trans up4) os ag
          obtain ⟨oe4, vs4, he4, hz4, hd4⟩ := fl4.there
          have S4 := J4.suite he4 hd4 na nL nF
          refine store_ok (X := X.suite a ((a, oe4) :: (X.pn ++ pins))) (v := .ref a) S4 hN hi hloc rfl (fun s5 S5 => ?_) (.inr hln)
          refine wpAny_mono ((hsu a oe4 cls d (X.pn ++ pins) hz4 ⟨_, hd4⟩).run [] s5 _ H' _ S5 (hyes rfl a na)) (fun f s6 hsp => ?_) (fun _ _ z => False.elim z)
          have end_ : ∀ {σ6 : L2.St} {H6 : Hp} {Q : Shared → Prop}, Inv (X.suite a ((a, oe4) :: (X.pn ++ pins))) [] σ6 H6 s6 → (∀ s7, Inv X pins (σ6.set i none) H6 s7 → Q s7) →
              wpAny (model X.prog X.w) X.A (do bindName X.env n .none; unbindBehindTheSuite X.env n pos') (fun _ s7 => Q s7) X.xe s6 := fun {σ6 H6 Q} S6 hq => gone_ok (S6.unsuite ok) hN hi hln hq
          cases f with
          | next =>
            obtain ⟨σ6, H6, S6, q6⟩ := hsp
            exact end_ S6 fun s7 J7 => ⟨_, _, J7, q6⟩
          | brk =>
            obtain ⟨σ6, H6, S6, q6⟩ := hsp
            exact end_ S6 fun s7 J7 => ⟨_, _, J7, q6⟩
          | cont =>
            obtain ⟨σ6, H6, S6, q6⟩ := hsp
            exact end_ S6 fun s7 J7 => ⟨_, _, J7, q6⟩
          | ret u =>
            obtain ⟨v6, σ6, H6, S6, r6, q6⟩ := hsp
            exact end_ S6 fun s7 J7 => ⟨_, _, _, J7, r6, q6⟩
        | false =>
          show wpAny _ X.A (handleBy (.ref a) X.env hds2) _ _ _
          exact ih (hno rfl)
    exact go hh w
  · cases f with
    | next =>
      obtain ⟨σ', H', J', q⟩ := hsp
      exact wpAny_execs_nil ⟨σ', H', J'.ofTry ok, q⟩
    | brk =>
      obtain ⟨σ', H', J', q⟩ := hsp
      exact ⟨σ', H', J'.ofTry ok, q⟩
    | cont =>
      obtain ⟨σ', H', J', q⟩ := hsp
      exact ⟨σ', H', J'.ofTry ok, q⟩
    | ret u =>
      obtain ⟨v, σ', H', J', r, q⟩ := hsp
      exact ⟨v, σ', H', J'.ofTry ok, r, q⟩
end

/-! ### the meaning -/
def sTry (f : SF) (h : Str → Option PyData → Option PyData) : SF := fun dl st => match f dl st with
  | some (.ex c p, dl1, st1) => (h c p).map fun d => (.rt d, dl1, st1)
  | r => r
/-- the exception's dict holds what it was made with -/
def dHas (K : PySem.W.Frag) (Z H : Hp) : Option PyData → Option Addr → Prop
  | none, d => d = none
  | some x, d => ∃ dd v, d = some dd ∧ H dd = some (.xd [(("place" : Str), v)]) ∧ Rp K Z v x
def HOkE (X : Cx) (i : Nat) (l : List (Value × (Addr → Value → Option Addr → TS))) (h : Str → Option PyData → Option PyData) : Prop :=
  ∀ (c : Str) (p : Option PyData) (dat : PyData), h c p = some dat → ∀ (C : Addr), X.mg c = some (.ref C) → ∀ (d : Option Addr) (Z H : Hp) (D : Ends) (σ : L2.St), i < σ.length → dHas X.K Z H p d → Same Z H → (∀ v Z' H', Grow Z H Z' H' → Rp X.K Z' v dat → D.rt v H') → wAsM X.K i D l (.ref C) d σ H

theorem takes_len {X : Cx} {W : WX} {i : Nat} {n : Str} (hi : X.N[i]? = some n) (tk : Takes X W) : Takes X (fun cls d _ H => ∀ σ : L2.St, i < σ.length → W cls d σ H) := fun u s' ⟨a, B, sI, pins, σ, H, cls, d, e, I, nb, up, sky, na, os, ag, w⟩ =>
  tk u s' ⟨a, B, sI, pins, σ, H, cls, d, e, I, nb, up, sky, na, os, ag, w σ (by rw [I.len]; exact (List.getElem?_eq_some_iff.mp hi).1)⟩
theorem js_try {X : Cx} {W : XW} {k i : Nat} {n : Str} {body : List Stmt} {h₀ : ExceptHandler} {hds : List ExceptHandler} {l : List (Value × (Addr → Value → Option Addr → TS))} {pos : Pos} {bf : SF} {h : Str → Option PyData → Option PyData} (cs : Cxs X W k)
    (hb : ∀ (E : XK) (pn : List (Addr × Obj)) (xe : Value → Shared → Prop), Cxs (X.tr pn xe) (XWof X.K X.mg E) k → Takes (X.tr pn xe) (fun cls d _ H => E cls d H) → JSs (X.tr pn xe) (XWof X.K X.mg E) body bf)
    (hh : HdsA X n (h₀ :: hds) l) (ho : HOkE X i l h) (hs : X.stack = X.env :: X.outer := by rfl) (hf : X.env.frame = some X.env.locals := by rfl) (hi : X.N[i]? = some n := by rfl) (hln : X.env.kindOf n = some .local := by rfl) :
    JS X W (.Try body (h₀ :: hds) [] [] pos) (sTry bf h) := by
  refine ps_imp (ps_try_asM (tb := fun W' => tS X.K (XWof X.K X.mg (fun cls d H => ∀ σ : L2.St, i < σ.length → W' cls d σ H)) bf) hs hf cs.nd hi hln (fun W' pn xe tk po => ?_) hh) fun D σ H q => ?_
  · have tk' := takes_len (X := X.tr pn xe) hi tk
    exact hb _ pn xe ⟨⟨⟨_, rfl, passes_call tk' fun _ _ _ _ h => h⟩, cs.hr, cs.calm, cs.nd⟩, po⟩ tk'
  · obtain ⟨Z, B, dl, st, r, rl, e, a⟩ := q
    unfold sTry at e
    cases qb : bf dl st with
    | none => rw [qb] at e; cases e
    | some y =>
      obtain ⟨fl, dl1, st1⟩ := y
      rw [qb] at e
      refine ⟨Z, B, dl, st, _, rl, qb, ?_⟩
      cases fl with
      | nx => cases e; exact a
      | bk => cases e; exact a
      | ct => cases e; exact a
      | rt d => cases e; exact a
      | ex c p =>
        dsimp only at e
        cases qh : h c p with
        | none => rw [qh] at e; cases e
        | some dat =>
          rw [qh] at e
          cases e
          refine fun Z' B' H' rl' x' => ?_
          have fin : ∀ v Z'' H'', Grow Z' H' Z'' H'' → Rp X.K Z'' v dat → D.rt v H'' := fun v Z'' H'' g rp => a v Z'' B' H'' (rl'.grow g) (x'.trans g.ext) rp
          intro C hC
          cases p with
          | none => exact fun σ' hl => ho c none dat qh C hC none Z' H' D σ' hl rfl rl'.sub fin
          | some x => exact fun dd v hdd hv σ' hl => ho c (some x) dat qh C hC (some dd) Z' H' D σ' hl ⟨dd, v, rfl, hdd, hv⟩ rl'.sub fin

/-! ### raise -/
def sRz (c : Str) : SF := fun dl st => some (.ex c none, dl, st)
theorem js_raise {X : Cx} {E : XK} {k : Nat} {c m : Str} {C : Addr} {j : Nat} {p p2 pos pos' : Pos} (cx : Cxs X (XWof X.K X.mg E) k) (tk : Takes X (fun cls d _ H => E cls d H)) (hx : PySem.W.excIn X.K C PySem.HandSPX.veTail "ValueError.__new__" = true) (hc : EcC X.K C) (hm : X.mg c = some (.ref C)) (hg : Gl X c := by rfl) (hdb : (c == ("__debug__" : Str)) = false := by decide) :
    JS X (XWof X.K X.mg E) (.Raise (some (.Call (.Name c p) [.Constant (.str m) j p2] [] pos)) none pos') (sRz c) := by
  refine ps_imp (ps_raise cx.calm tk (pmk_own PySem.F.excBase_ValueError hx hm hc.kp (raises_own hc.sb hc.ty) hg hdb)) fun D σ H q => ?_
  obtain ⟨Z, B, dl, st, r, rl, e, a⟩ := q
  cases e
  exact a Z B H rl.bare Ext.refl C hm

/-! ### raise NoPlace(e): its own __init__ keeps what it is handed -/
def spInit (C : Addr) : Sp := fun vs H Q _ => ∃ (a : Addr) (v : V), vs = [.ref a, v] ∧ H a = some (exo a C none) ∧ ∀ dx, H dx = none → dx ≠ a → Q .non (upd (upd H dx (exd dx [(("place" : Str), v)])) a (exo a C (some dx)))
structure NpC (P : Program) (w : World) (K : PySem.W.Frag) (mg : Str → Option Value) (base : Heap) (k : Nat) (C : Addr) : Prop where
  T : OexC K C
  init : ∃ fI fd, PySem.W.findIn K (.ref C) "__init__" = some (some (.ref fI)) ∧ PySem.W.typeIn K (.ref fI) = some (.type "function") ∧ Binds K fd ["self", "place"] [] ∧ FnOk P w K mg base (L2.CX P w) k fI fd ["self", "place"] (spInit C)
theorem npC_of {P : Program} {w : World} {K : PySem.W.Frag} {mg : Str → Option Value} {base : Heap} {k : Nat} {C fI : Addr} {x qual : Str} {stm : Stmt} {fd : FuncData} {p1 p2 p3 pos : Pos} (T : OexC K C) (hno : PySem.W.findIn K (.ref C) "place" = some none) (F : Fun K x qual stm fI fd) (S : FnScope ["self", "place"] ["self", "place"] (defScope stm))
    (iC : PySem.W.findIn K (.ref C) "__init__" = some (some (.ref fI))) (tI : PySem.W.typeIn K (.ref fI) = some (.type "function")) (hb : Binds K fd ["self", "place"] []) (hbody : defBody stm = [.Assign [.Attribute (.Name "self" p1) "place" p2] (.Name "place" p3) pos])
    (hv0 : Vis (defScope stm) "self") (hv1 : Vis (defScope stm) "place") (hsw : ∀ env, swapsWith (.Name "place" p3) (some (.Attribute (.Name "self" p1) "place" p2)) pos.line env = pure false) : NpC P w K mg base (k + 1) C := by
  refine ⟨T, fI, fd, iC, tI, hb, F.okX S (fun vs H Q E h => ?_) (fun cdv A outer s H vs Q E hr h => ?_)⟩
  · obtain ⟨a, v, rfl, _⟩ := h
    rfl
  · obtain ⟨a, v, rfl, ha, q⟩ := h
    rw [hbody]
    refine ⟨_, pss_one (ps_ost (pe_var (i := 0) rfl hv0) (pe_var (i := 1) rfl hv1) (hsw _)), ?_⟩
    exact ⟨v, rfl, .ref a, rfl, a, C, rfl, T, hno, .inl ⟨ha, fun dx h1 h2 => q dx h1 h2⟩⟩
def sRzP (c : Str) (f : EF) : SF := sB f fun d dl st => some (.ex c (some d), dl, st)
theorem js_raiseP {X : Cx} {E : XK} {k m : Nat} {c : Str} {C : Addr} {e : Expr} {f : EF} {p pos pos' : Pos} (cx : Cxs X (XWof X.K X.mg E) k) (tk : Takes X (fun cls d _ H => E cls d H)) (N : NpC X.prog X.w X.K X.mg X.base m C) (hk : m + 1 ≤ k) (hm : X.mg c = some (.ref C)) (he : JE X (XWof X.K X.mg E) e f)
    (hg : Gl X c := by rfl) (hdb : (c == ("__debug__" : Str)) = false := by decide) (hs : starEach [e] X.env = (false, eval e X.env) :: starEach [] X.env := by rfl) (hpl : (backTo pos (starEach [] X.env)).any (·.1) = false := by rfl) :
    JS X (XWof X.K X.mg E) (.Raise (some (.Call (.Name c p) [e] [] pos)) none pos') (sRzP c f) := by
  obtain ⟨fI, fd, iC, tI, hb, ok⟩ := N.init
  refine ps_imp (ps_raise cx.calm tk (pmk_oex N.T iC tI ok (cx.hr.mono hk) hb .nil passL hg hm (pa_cons he pa_nil hs) hdb hs hpl)) fun D σ H q => ?_
  refine tE_mono (tS_bnd q) fun v H1 q => ?_
  obtain ⟨Z, B, dl, st, d, r, rl, hd, e, a⟩ := q
  cases e
  refine ⟨by simp, fun ea na => ⟨ea, v, rfl, upd_same, fun dx h1 h2 => ⟨rfl, dx, [(("place" : Str), v)], upd_same, ?_, ?_, ?_⟩⟩⟩
  · rw [upd_ne h2, upd_same]
  · rw [upd_ne h2] at h1
    exact h1
  · rw [upd_ne h2] at h1
    have eH : (upd (del (upd (upd (upd H1 ea (exo ea C none)) dx (exd dx [(("place" : Str), v)])) ea (exo ea C (some dx))) ea) dx (.xd [(("place" : Str), v)])) = upd H1 dx (.xd [(("place" : Str), v)]) := by
      funext b
      by_cases hb : b = dx
      · rw [hb, upd_same, upd_same]
      · rw [upd_ne hb, upd_ne hb]
        by_cases hb2 : b = ea
        · rw [hb2, del_same, na]
        · rw [del_ne hb2, upd_ne hb2, upd_ne hb, upd_ne hb2]
    rw [eH]
    have g : Grow Z H1 Z (upd H1 dx (.xd [(("place" : Str), v)])) := ⟨Same.refl Z, same_new h1, rl.sub.trans (same_new h1), fun _ _ _ => rfl⟩
    exact a Z B _ (rl.bare.grow g) g.ext C hm dx v upd_same hd
end DL
set_option autoImplicit false
/-! DL16: the laws' clauses: _law_which(e), e.place; calls of defs that stand in a list. -/
namespace DL
open PySem PySem.Spec PyProof.Rows L2

def whN : List Str := ["NoHalvings", "NoPlace", "NoCount", "NoRow", "NoFit", "NoPoint", "NoPile", "NoSide", "NoCut", "NoMarks", "NoEndless", "NoText", "NoWay", "Full", "Nothing"]
def rfz (i : Nat) : PyData := .tuple [.str "refused", .int (i : Int)]
def hA : Str → Option PyData → Option PyData := fun c _ => (whN.findIdx? (· == c)).map rfz
def hBA : Str → Option PyData → Option PyData := fun c p => match p with
  | some x => if c = "NoPlace" then some (.tuple [.str "place", x]) else none
  | none => if c = "NoPlace" then none else hA c none
def hCA : Str → Option PyData → Option PyData := fun c p => match p with
  | some x => if c = "NoPlace" then some (.tuple [.str "place", x, .bool true, rfz 1]) else none
  | none => if c = "NoPlace" then none else hA c none
/-- the table of the classes -/
structure ClT (K : PySem.W.Frag) (mg : Str → Option Value) (Cs : CsN) (Hv : Addr) : Prop where
  ec : ∀ (i : Nat) (C : Addr), Cs[i]? = some C → EcC K C
  mgc : ∀ (i : Nat) (x : Str), whN[i]? = some x → ∃ C, Cs[i]? = some C ∧ mg x = some (.ref C)
  kit : ∀ (i j : Nat) (C D : Addr), Cs[i]? = some C → Cs[j]? = some D → PySem.W.kitOne K (.ref C) (.ref D) = some (decide (i = j))
  kitH : ∀ (i : Nat) (C : Addr), Cs[i]? = some C → PySem.W.kitOne K (.ref C) (.ref Hv) = some true
  kitV : ∀ (i : Nat) (C : Addr), Cs[i]? = some C → PySem.W.kitOne K (.ref C) (.type "ValueError") = some true
  exH : ∀ (i : Nat) (C : Addr), Cs[i]? = some C → PySem.W.exmOne K (.ref C) (.ref Hv) = some true
  exP : ∀ (i : Nat) (C P : Addr), Cs[i]? = some C → Cs[(1 : Nat)]? = some P → PySem.W.exmOne K (.ref C) (.ref P) = some (decide (i = 1))
  np : ∀ (P : Addr), Cs[(1 : Nat)]? = some P → PySem.W.findIn K (.ref P) "place" = some none
  len : Cs.length = 15
def ixAll {α : Type} (p : Nat → α → Bool) : Nat → List α → Bool
  | _, [] => true
  | n, x :: r => p n x && ixAll p (n + 1) r
theorem ixAll_get {α : Type} {p : Nat → α → Bool} : ∀ {l : List α} {n i : Nat} {x : α}, ixAll p n l = true → l[i]? = some x → p (n + i) x = true
  | [], _, _, _, _, h => by simp at h
  | y :: r, n, 0, x, h, e => by
    simp only [ixAll, Bool.and_eq_true] at h
    simp at e
    subst e
    exact h.1
  | y :: r, n, i + 1, x, h, e => by
    simp only [ixAll, Bool.and_eq_true] at h
    have := ixAll_get (i := i) h.2 (by simpa using e)
    rw [show n + (i + 1) = n + 1 + i by omega]
    exact this
def clB (K : PySem.W.Frag) (Cs : CsN) (Hv P : Addr) : Bool :=
  ixAll (fun i C => ecB K C && (ixAll (fun j D => decide (PySem.W.kitOne K (.ref C) (.ref D) = some (decide (i = j)))) 0 Cs && (decide (PySem.W.kitOne K (.ref C) (.ref Hv) = some true) && (decide (PySem.W.kitOne K (.ref C) (.type "ValueError") = some true) &&
    (decide (PySem.W.exmOne K (.ref C) (.ref Hv) = some true) && decide (PySem.W.exmOne K (.ref C) (.ref P) = some (decide (i = 1)))))))) 0 Cs && (decide (PySem.W.findIn K (.ref P) "place" = some none) && (decide (Cs[(1 : Nat)]? = some P) && decide (Cs.length = 15)))
theorem clT_of {K : PySem.W.Frag} {mg : Str → Option Value} {Cs : CsN} {Hv P : Addr} (h : clB K Cs Hv P = true) (hm : ∀ (i : Nat) (x : Str), whN[i]? = some x → ∃ C, Cs[i]? = some C ∧ mg x = some (.ref C)) : ClT K mg Cs Hv := by
  unfold clB at h
  simp only [Bool.and_eq_true, decide_eq_true_eq] at h
  obtain ⟨h1, h2, h3, h4⟩ := h
  have g : ∀ (i : Nat) (C : Addr), Cs[i]? = some C → _ := fun i C e => ixAll_get h1 e
  have g' : ∀ (i : Nat) (C : Addr), Cs[i]? = some C → ecB K C = true ∧ ixAll (fun j D => decide (PySem.W.kitOne K (.ref C) (.ref D) = some (decide (i = j)))) 0 Cs = true ∧ PySem.W.kitOne K (.ref C) (.ref Hv) = some true ∧ PySem.W.kitOne K (.ref C) (.type "ValueError") = some true ∧ PySem.W.exmOne K (.ref C) (.ref Hv) = some true ∧ PySem.W.exmOne K (.ref C) (.ref P) = some (decide (i = 1)) := fun i C e => by
    have := g i C e
    rw [Nat.zero_add] at this
    simpa only [Bool.and_eq_true, decide_eq_true_eq] using this
  refine ⟨fun i C e => ecB_ok (g' i C e).1, hm, fun i j C D e1 e2 => ?_, fun i C e => (g' i C e).2.2.1, fun i C e => (g' i C e).2.2.2.1, fun i C e => (g' i C e).2.2.2.2.1, fun i C P' e1 e2 => ?_, fun P' e => ?_, h4⟩
  · have := ixAll_get (g' i C e1).2.1 e2
    rw [Nat.zero_add] at this
    simpa using this
  · rw [h3] at e2
    cases e2
    exact (g' i C e1).2.2.2.2.2
  · rw [h3] at e
    cases e
    exact h2
theorem hA_some {c : Str} {p : Option PyData} {dat : PyData} (h : hA c p = some dat) : ∃ i : Nat, whN[i]? = some c ∧ dat = rfz i := by
  unfold hA at h
  cases q : whN.findIdx? (· == c) with
  | none => rw [q] at h; cases h
  | some i =>
    rw [q] at h
    cases h
    obtain ⟨h1, h2, _⟩ := List.findIdx?_eq_some_iff_getElem.mp q
    refine ⟨i, ?_, rfl⟩
    rw [List.getElem?_eq_getElem h1]
    congr 1
    exact eq_of_beq h2
theorem ClT.at {K : PySem.W.Frag} {mg : Str → Option Value} {Cs : CsN} {Hv : Addr} (T : ClT K mg Cs Hv) {i : Nat} {c : Str} {C : Addr} (h : whN[i]? = some c) (hm : mg c = some (.ref C)) : Cs[i]? = some C := by
  obtain ⟨D, h1, h2⟩ := T.mgc i c h
  rw [hm] at h2
  cases h2
  exact h1
theorem dHas.ok {K : PySem.W.Frag} {Z H : Hp} {p : Option PyData} {d : Option Addr} (h : dHas K Z H p d) : dOk H d := by
  cases p with
  | none => intro dd e; rw [show d = none from h] at e; cases e
  | some x =>
    obtain ⟨dd, v, rfl, e, _⟩ := h
    intro dd' e'
    cases e'
    exact ⟨_, e⟩

/-! ### suites -/
section
variable {X : Cx} {Cs : CsN} {Hv : Addr} {k ie : Nat} {wx e : Str}
def tsA (Cs : CsN) (ie : Nat) (a : Addr) (cls : Value) (d : Option Addr) : TS := fun D σ H => ∃ C j, cls = .ref C ∧ Cs[j]? = some C ∧ σ[ie]? = some (some (.ref a)) ∧ dOk H d ∧ ∀ p H', Same H H' → H p = none → H' p = some (.tup [.str "refused", .int (j : Nat)]) → D.rt (.ref p) H'
theorem su_A {q p1 pos pos' : Pos} (T : ClT X.K X.mg Cs Hv) (G : FnE X.prog X.w X.K X.mg X.base k wx Cs) (hr : L2H.RoomH k X.A) (a : Addr) (oe : Obj) (cls : Value) (d : Option Addr) (pn : List (Addr × Obj)) (hz : Zc cls d oe) (hf : ∃ vs, oe.data = .fields vs) (hN : X.N[ie]? = some e := by rfl)
    (hv : Vis X.env.scope e := by first | exact Or.inl rfl | exact Or.inr (Or.inl rfl) | exact Or.inr (Or.inr rfl)) (hd : (e == ("__debug__" : Str)) = false := by decide) (hcd : (e == ("__classdict__" : Str)) = false := by decide) (hg : Gl X wx := by rfl) (hdx : (wx == ("__debug__" : Str)) = false := by decide)
    (he : starEach [.Name e p1] X.env = (false, eval (.Name e p1) X.env) :: starEach [] X.env := by rfl) (hpl : (backTo pos (starEach [] X.env)).any (·.1) = false := by rfl)
 : PSs (X.suite a ((a, oe) :: pn)) [.Return (some (.Call (.Name wx q) [.Name e p1] [] pos)) pos'] (tsA Cs ie a cls d) := by
  refine ⟨fun pins s σ H D I h => ?_⟩
  obtain ⟨C, j, rfl, hC, q1, q2, q3⟩ := h
  exact (pss_one (ps_ret (pe_callE (X := X.suite a ((a, oe) :: pn)) (ie := ie) G ⟨T.ec j C hC, List.mem_cons_self, hz, hf⟩ hC ⟨hr.dp, hr.un⟩ hN hv hd hcd hg hdx he hpl))).run pins s σ H D I ⟨q1, q2, q3⟩
def tsB (Cs : CsN) (ie : Nat) (a : Addr) (cls : Value) (d : Option Addr) : TS := fun D σ H => ∃ C dd v, cls = .ref C ∧ Cs[(1 : Nat)]? = some C ∧ d = some dd ∧ σ[ie]? = some (some (.ref a)) ∧ H dd = some (.xd [(("place" : Str), v)]) ∧ ∀ p, H p = none → D.rt (.ref p) (upd H p (.tup [.str "place", v]))
theorem su_B {p1 p2 p3 p4 pos : Pos} {k1 k2 : Nat} (T : ClT X.K X.mg Cs Hv) (a : Addr) (oe : Obj) (cls : Value) (d : Option Addr) (pn : List (Addr × Obj)) (hz : Zc cls d oe) (hf : ∃ vs, oe.data = .fields vs) (hN : X.N[ie]? = some e := by rfl)
    (hv : Vis X.env.scope e := by first | exact Or.inl rfl | exact Or.inr (Or.inl rfl) | exact Or.inr (Or.inr rfl)) (hd : (e == ("__debug__" : Str)) = false := by decide) (hcd : (e == ("__classdict__" : Str)) = false := by decide)
    (hb : attributeBase (.Name e p1) "place" X.env (eval (.Name e p1) X.env) = eval (.Name e p1) X.env := by rfl)
    (hs1 : starEach [.Constant (.str "place") k1 p3, .Attribute (.Name e p1) "place" p2] X.env = (false, eval (.Constant (.str "place") k1 p3) X.env) :: starEach [.Attribute (.Name e p1) "place" p2] X.env := by rfl)
    (hs2 : starEach [.Attribute (.Name e p1) "place" p2] X.env = (false, eval (.Attribute (.Name e p1) "place" p2) X.env) :: starEach [] X.env := by rfl)
 : PSs (X.suite a ((a, oe) :: pn)) [.Return (some (.Tuple [.Constant (.str "place") k1 p3, .Attribute (.Name e p1) "place" p2] k2 p4)) pos] (tsB Cs ie a cls d) := by
  refine ⟨fun pins s σ H D I h => ?_⟩
  obtain ⟨C, dd, v, rfl, hC, rfl, q1, q2, q3⟩ := h
  have c := T.ec 1 C hC
  refine (pss_one (ps_ret (pe_tup (pa_cons pe_str (pa_cons (pe_xf (X := X) (a := a) (oe := oe) (pn := pn) ⟨c.ga, c.gt, c.sb, c.hd⟩ (T.np C hC) hz hf (pe_var (X := X.suite a ((a, oe) :: pn)) (i := ie) hN hv hd hcd) hb) pa_nil hs2) hs1)))).run pins s σ H D I ?_
  exact ⟨.ref a, q1, rfl, rfl, dd, _, v, rfl, q2, by simp [List.lookup], sz1000 (by simp), fun p hp => q3 p hp⟩
def tsC (Cs : CsN) (ie : Nat) (a : Addr) (cls : Value) (d : Option Addr) : TS := fun D σ H => ∃ C dd v, cls = .ref C ∧ Cs[(1 : Nat)]? = some C ∧ d = some dd ∧ σ[ie]? = some (some (.ref a)) ∧ H dd = some (.xd [(("place" : Str), v)]) ∧
  ∀ p H' p2, Same H H' → H p = none → H' p = some (.tup [.str "refused", .int ((1 : Nat) : Int)]) → H' p2 = none → D.rt (.ref p2) (upd H' p2 (.tup [.str "place", v, .bl true, .ref p]))
theorem su_C {p1 p2 p3 p4 p5 p6 p7 p8 p9 p10 p11 pos : Pos} {k1 k2 : Nat} {hx : Str} (T : ClT X.K X.mg Cs Hv) (G : FnE X.prog X.w X.K X.mg X.base k wx Cs) (hr : L2H.RoomH k X.A) (hmi : X.mg "isinstance" = none) (hmh : X.mg hx = some (.ref Hv)) (a : Addr) (oe : Obj) (cls : Value) (d : Option Addr) (pn : List (Addr × Obj)) (hz : Zc cls d oe) (hf : ∃ vs, oe.data = .fields vs) (hN : X.N[ie]? = some e := by rfl)
    (hv : Vis X.env.scope e := by first | exact Or.inl rfl | exact Or.inr (Or.inl rfl) | exact Or.inr (Or.inr rfl)) (hd : (e == ("__debug__" : Str)) = false := by decide) (hcd : (e == ("__classdict__" : Str)) = false := by decide) (hg : Gl X wx := by rfl) (hdx : (wx == ("__debug__" : Str)) = false := by decide)
    (hgi : Gl X "isinstance" := by rfl) (hgh : Gl X hx := by rfl) (hdh : (hx == ("__debug__" : Str)) = false := by decide)
    (hb : attributeBase (.Name e p1) "place" X.env (eval (.Name e p1) X.env) = eval (.Name e p1) X.env := by rfl)
    (hi1 : starEach [.Name e p5, .Name hx p6] X.env = (false, eval (.Name e p5) X.env) :: starEach [.Name hx p6] X.env := by rfl) (hi2 : starEach [.Name hx p6] X.env = (false, eval (.Name hx p6) X.env) :: starEach [] X.env := by rfl)
    (hi3 : (backTo p8 (starEach [.Name hx p6] X.env)).any (·.1) = false := by rfl)
    (he : starEach [.Name e p9] X.env = (false, eval (.Name e p9) X.env) :: starEach [] X.env := by rfl) (hpl : (backTo p11 (starEach [] X.env)).any (·.1) = false := by rfl)
    (hs1 : starEach [.Constant (.str "place") k1 p3, .Attribute (.Name e p1) "place" p2, .Call (.Name "isinstance" p7) [.Name e p5, .Name hx p6] [] p8, .Call (.Name wx p10) [.Name e p9] [] p11] X.env = (false, eval (.Constant (.str "place") k1 p3) X.env) :: starEach [.Attribute (.Name e p1) "place" p2, .Call (.Name "isinstance" p7) [.Name e p5, .Name hx p6] [] p8, .Call (.Name wx p10) [.Name e p9] [] p11] X.env := by rfl)
    (hs2 : starEach [.Attribute (.Name e p1) "place" p2, .Call (.Name "isinstance" p7) [.Name e p5, .Name hx p6] [] p8, .Call (.Name wx p10) [.Name e p9] [] p11] X.env = (false, eval (.Attribute (.Name e p1) "place" p2) X.env) :: starEach [.Call (.Name "isinstance" p7) [.Name e p5, .Name hx p6] [] p8, .Call (.Name wx p10) [.Name e p9] [] p11] X.env := by rfl)
    (hs3 : starEach [.Call (.Name "isinstance" p7) [.Name e p5, .Name hx p6] [] p8, .Call (.Name wx p10) [.Name e p9] [] p11] X.env = (false, eval (.Call (.Name "isinstance" p7) [.Name e p5, .Name hx p6] [] p8) X.env) :: starEach [.Call (.Name wx p10) [.Name e p9] [] p11] X.env := by rfl)
    (hs4 : starEach [.Call (.Name wx p10) [.Name e p9] [] p11] X.env = (false, eval (.Call (.Name wx p10) [.Name e p9] [] p11) X.env) :: starEach [] X.env := by rfl)
 :
    PSs (X.suite a ((a, oe) :: pn)) [.Return (some (.Tuple [.Constant (.str "place") k1 p3, .Attribute (.Name e p1) "place" p2, .Call (.Name "isinstance" p7) [.Name e p5, .Name hx p6] [] p8, .Call (.Name wx p10) [.Name e p9] [] p11] k2 p4)) pos] (tsC Cs ie a cls d) := by
  refine ⟨fun pins s σ H D I h => ?_⟩
  obtain ⟨C, dd, v, rfl, hC, rfl, q1, q2, q3⟩ := h
  have c := T.ec 1 C hC
  have hot : HotE (X.suite a ((a, oe) :: pn)) a oe C (some dd) := ⟨c, List.mem_cons_self, hz, hf⟩
  refine (pss_one (ps_ret (pe_tup (pa_cons pe_str (pa_cons (pe_xf (X := X) (a := a) (oe := oe) (pn := pn) ⟨c.ga, c.gt, c.sb, c.hd⟩ (T.np C hC) hz hf (pe_var (X := X.suite a ((a, oe) :: pn)) (i := ie) hN hv hd hcd) hb)
    (pa_cons (pe_isiR (X := X.suite a ((a, oe) :: pn)) (i := ie) hot hmi hmh (T.kitH 1 C hC) hN hv hd hcd hgi hgh hdh hi1 hi2 hi3) (pa_cons (pe_callE (X := X.suite a ((a, oe) :: pn)) (ie := ie) G hot hC ⟨hr.dp, hr.un⟩ hN hv hd hcd hg hdx he hpl) pa_nil hs4) hs3) hs2) hs1)))).run pins s σ H D I ?_
  have hd0 : dOk H (some dd) := fun dd' e' => by cases e'; exact ⟨_, q2⟩
  exact ⟨.ref a, q1, rfl, rfl, dd, _, v, rfl, q2, by simp [List.lookup], q1, hd0, q1, hd0, fun p H' s1 hp e1 => ⟨sz1000 (by simp), fun p2 hp2 => q3 p H' p2 s1 hp e1 hp2⟩⟩
end
/-! ### what the clauses make of an exception -/
section
variable {X : Cx} {Cs : CsN} {Hv : Addr} {ie : Nat}
theorem grow_tup {Z H H' : Hp} {p : Addr} {xs : List V} (s : Same H H') (sub : Same Z H) (hp : H p = none) (e : H' p = some (.tup xs)) : Grow Z H (upd Z p (.tup xs)) H' := by
  refine ⟨same_new (sub.free hp), s, fun b o q => ?_, fun b o q => upd_ne (ne_of_none q hp)⟩
  by_cases hb : b = p
  · subst hb; rw [upd_same] at q; rw [← q]; exact e
  · rw [upd_ne hb] at q; exact s b o (sub b o q)
theorem rp_rfz {K : PySem.W.Frag} {Z : Hp} {p : Addr} {j : Nat} (e : Z p = some (.tup [.str "refused", .int (j : Int)])) : Rp K Z (.ref p) (rfz j) := .tup (.inl (.inl e)) (.cons (.str _) (.cons (.int _) .nil))
theorem set_at {σ : L2.St} {v : V} (hl : ie < σ.length) : (σ.set ie (some v))[ie]? = some (some v) := List.getElem?_set_self hl
theorem w_A {l : List (Value × (Addr → Value → Option Addr → TS))} {j : Nat} {C : Addr} {d : Option Addr} {Z H : Hp} {D : Ends} {σ : L2.St} (T : ClT X.K X.mg Cs Hv) (hC : Cs[j]? = some C) (hl : ie < σ.length) (hd : dOk H d) (sub : Same Z H) (fin : ∀ v Z' H', Grow Z H Z' H' → Rp X.K Z' v (rfz j) → D.rt v H') : wAsM X.K ie D ((.ref Hv, tsA Cs ie) :: l) (.ref C) d σ H :=
  ⟨true, T.exH j C hC, fun _ a na => ⟨C, j, rfl, hC, set_at hl, hd, fun p H' s hp e => fin _ _ _ (grow_tup s sub hp e) (rp_rfz upd_same)⟩, fun z => nomatch z⟩
theorem ho_A (T : ClT X.K X.mg Cs Hv) : HOkE X ie [(.ref Hv, tsA Cs ie)] hA := fun c p dat h C hC d Z H D σ hl hd sub fin => by
  obtain ⟨j, hj, rfl⟩ := hA_some h
  exact w_A T (T.at hj hC) hl hd.ok sub fin
theorem whN1 : whN[(1 : Nat)]? = some "NoPlace" := rfl
theorem whN_ne {j : Nat} {c : Str} (h : whN[j]? = some c) (hc : c ≠ "NoPlace") : j ≠ 1 := fun z => by
  subst z
  rw [whN1] at h
  exact hc (Option.some.inj h).symm
theorem ho_BA {P : Addr} (T : ClT X.K X.mg Cs Hv) (hP : Cs[(1 : Nat)]? = some P) : HOkE X ie [(.ref P, tsB Cs ie), (.ref Hv, tsA Cs ie)] hBA := fun c p dat h C hC d Z H D σ hl hd sub fin => by
  unfold hBA at h
  cases p with
  | some x =>
    dsimp only at h
    split at h
    · rename_i hc
      cases h
      subst hc
      have h1 := T.at whN1 hC
      obtain ⟨dd, v, rfl, e, hv⟩ := hd
      refine ⟨true, T.exP 1 C P h1 hP, fun _ a na => ⟨C, dd, v, rfl, h1, rfl, set_at hl, e, fun p hp => ?_⟩, fun z => nomatch z⟩
      have g : Grow Z H (upd Z p (.tup [.str "place", v])) (upd H p (.tup [.str "place", v])) := Grow.new sub hp
      exact fin _ _ _ g (.tup (.inl (.inl upd_same)) (.cons (.str _) (.cons (hv.mono' g.z) .nil)))
    · cases h
  | none =>
    dsimp only at h
    split at h
    · cases h
    · rename_i hc
      obtain ⟨j, hj, rfl⟩ := hA_some h
      have hCj := T.at hj hC
      exact ⟨decide (j = 1), T.exP j C P hCj hP, fun z => absurd (of_decide_eq_true z) (whN_ne hj hc), fun _ => w_A T hCj hl hd.ok sub fin⟩
theorem ho_CA {P : Addr} (T : ClT X.K X.mg Cs Hv) (hP : Cs[(1 : Nat)]? = some P) : HOkE X ie [(.ref P, tsC Cs ie), (.ref Hv, tsA Cs ie)] hCA := fun c p dat h C hC d Z H D σ hl hd sub fin => by
  unfold hCA at h
  cases p with
  | some x =>
    dsimp only at h
    split at h
    · rename_i hc
      cases h
      subst hc
      have h1 := T.at whN1 hC
      obtain ⟨dd, v, rfl, e, hv⟩ := hd
      refine ⟨true, T.exP 1 C P h1 hP, fun _ a na => ⟨C, dd, v, rfl, h1, rfl, set_at hl, e, fun p H' p2 s hp ep hp2 => ?_⟩, fun z => nomatch z⟩
      have g1 := grow_tup s sub hp ep
      have g2 : Grow (upd Z p (.tup [.str "refused", .int ((1 : Nat) : Int)])) H' (upd (upd Z p (.tup [.str "refused", .int ((1 : Nat) : Int)])) p2 (.tup [.str "place", v, .bl true, .ref p])) (upd H' p2 (.tup [.str "place", v, .bl true, .ref p])) := Grow.new g1.s hp2
      exact fin _ _ _ (g1.trans g2) (.tup (.inl (.inl upd_same)) (.cons (.str _) (.cons ((hv.mono' g1.z).mono' g2.z) (.cons (.bl true) (.cons ((rp_rfz upd_same).mono' g2.z) .nil)))))
    · cases h
  | none =>
    dsimp only at h
    split at h
    · cases h
    · rename_i hc
      obtain ⟨j, hj, rfl⟩ := hA_some h
      have hCj := T.at hj hC
      exact ⟨decide (j = 1), T.exP j C P hCj hP, fun z => absurd (of_decide_eq_true z) (whN_ne hj hc), fun _ => w_A T hCj hl hd.ok sub fin⟩
end

/-! ### [f, g, ..][i](e, ..) -/
inductive FnDs (P : Program) (w : World) (K : PySem.W.Frag) (mg : Str → Option Value) (base : Heap) (k : Nat) : List Str → List FF → Prop
  | nil : FnDs P w K mg base k [] []
  | cons {x : Str} {F : FF} {xs : List Str} {Fs : List FF} {m : Nat} (h : FnD P w K mg base m x F) (hm : m ≤ k) (r : FnDs P w K mg base k xs Fs) : FnDs P w K mg base k (x :: xs) (F :: Fs)
def eCallL (Fs : List FF) (ix : EF) (g : AF) : EF := eB ix fun d => match d with
  | .int i => match atI Fs i with
    | some F => eCall F g
    | none => fun _ _ => none
  | _ => fun _ _ => none
def fnsV (mg : Str → Option Value) (v : V) (x : Str) : Prop := ∃ f, mg x = some (.ref f) ∧ v = .ref f
theorem FnDs.len {P : Program} {w : World} {K : PySem.W.Frag} {mg : Str → Option Value} {base : Heap} {k : Nat} {xs : List Str} {Fs : List FF} (h : FnDs P w K mg base k xs Fs) : xs.length = Fs.length := by
  induction h with
  | nil => rfl
  | cons _ _ _ ih => simp [ih]
theorem FnDs.get {P : Program} {w : World} {K : PySem.W.Frag} {mg : Str → Option Value} {base : Heap} {k : Nat} {xs : List Str} {Fs : List FF} (h : FnDs P w K mg base k xs Fs) : ∀ {i : Nat} {F : FF}, Fs[i]? = some F → ∃ x m, xs[i]? = some x ∧ m ≤ k ∧ FnD P w K mg base m x F := by
  induction h with
  | nil => intro i F e; simp at e
  | @cons x F xs Fs m h hm r ih =>
    intro i F' e
    cases i with
    | zero =>
      simp at e
      subst e
      exact ⟨x, m, rfl, hm, h⟩
    | succ i =>
      obtain ⟨x', m', e1, h1, h2⟩ := ih (i := i) (by simpa using e)
      exact ⟨x', m', by simpa using e1, h1, h2⟩
/-- names of defs, as a list's items -/
inductive NmE (X : Cx) : List Str → List Expr → Prop
  | nil : NmE X [] []
  | cons {x : Str} {xs : List Str} {es : List Expr} {p : Pos} (hg : Gl X x) (hd : (x == ("__debug__" : Str)) = false) (hs : starEach (.Name x p :: es) X.env = (false, eval (.Name x p) X.env) :: starEach es X.env) (r : NmE X xs es) : NmE X (x :: xs) (.Name x p :: es)
def tNms (mg : Str → Option Value) (xs : List Str) : TA := fun _ H Q => ∀ vs, Paired (fnsV mg) vs xs → Q vs H
theorem pa_nms {X : Cx} {k : Nat} {xs : List Str} {es : List Expr} {Fs : List FF} (h : NmE X xs es) : FnDs X.prog X.w X.K X.mg X.base k xs Fs → PA X es (tNms X.mg xs) := by
  induction h generalizing Fs with
  | nil => intro _; exact pa_imp pa_nil fun σ H Q q => q [] .nil
  | cons hg hd hs r ih =>
    intro g
    cases g with
    | cons h hm r' =>
      obtain ⟨f, fd, ps, hmx, _⟩ := h.ex
      exact pa_imp (pa_cons (pe_glob (v := .ref f) hg hmx rfl hd) (ih r') hs) fun σ H Q q vs hv => q _ (.cons ⟨f, hmx, rfl⟩ hv)
theorem paired_at {α β : Type} {R : α → β → Prop} : ∀ {xs : List α} {ys : List β} {i : Nat} {y : β}, Paired R xs ys → ys[i]? = some y → ∃ x, xs[i]? = some x ∧ R x y
  | _, _, _, _, .nil, e => by simp at e
  | _, _, 0, _, .cons h t, e => by simp at e; subst e; exact ⟨_, rfl, h⟩
  | _, _, i + 1, y, .cons h t, e => by
    obtain ⟨x, h1, h2⟩ := paired_at (i := i) t (by simpa using e)
    exact ⟨x, by simpa using h1, h2⟩
theorem paired_len {α β : Type} {R : α → β → Prop} : ∀ {xs : List α} {ys : List β}, Paired R xs ys → xs.length = ys.length
  | _, _, .nil => rfl
  | _, _, .cons _ t => by simp [paired_len t]
theorem je_callL {X : Cx} {W : XW} {k : Nat} {xs : List Str} {Fs : List FF} {fs es : List Expr} {e i : Expr} {ix : EF} {g : AF} {p1 p2 pos : Pos} (c : Cxe X W k) (G : FnDs X.prog X.w X.K X.mg X.base k xs Fs) (hn : NmE X xs fs) (hl : xs.length ≤ 1000) (hi : JE X W i ix) (ha : JA X W (e :: es) g) (hpi : PlainIx i := by exact fun _ _ => rfl)
    (ht : eval (.Call (.Subscript (.List fs p1) i p2) (e :: es) [] pos) X.env = (do callWith pos (← eval (.Subscript (.List fs p1) i p2) X.env) [] (backTo pos (starEach (e :: es) X.env)) (backToKw pos (keywordEach [] X.env))) := by rfl)
    (he : starEach (e :: es) X.env = (false, eval e X.env) :: starEach es X.env := by rfl) (hpl : (backTo pos (starEach es X.env)).any (·.1) = false := by rfl) : JE X W (.Call (.Subscript (.List fs p1) i p2) (e :: es) [] pos) (eCallL Fs ix g) := by
  have hf := pe_ix ix_list (pe_lst (pos := p1) (pa_nms hn G)) hi (pos := p2) hpi
  refine ⟨fun pins s σ H Q I h => ?_⟩
  obtain ⟨Z, B, dl, st, r, st', rl, eq, a⟩ := h
  -- the function, then its call
  have hcall : ∀ (Z1 H1 : Hp) (st1 : SE) (i : Int) (F : FF), Rl X.K Z1 B dl st1 σ H1 → Ext B Z H B Z1 H1 → atI Fs i = some F → eCall F g dl st1 = some (r, st') → ∀ (s1 : Shared) (f : Addr), Inv X pins σ H1 s1 → (∃ x m, m ≤ k ∧ FnD X.prog X.w X.K X.mg X.base m x F ∧ X.mg x = some (.ref f)) →
      wpAny (model X.prog X.w) X.A (callWith pos (.ref f) [] (backTo pos (starEach (e :: es) X.env)) []) (EP X pins σ Q) X.xe s1 := by
    intro Z1 H1 st1 i F rl1 x1 hF eF s1 f I1 hx
    obtain ⟨x, m, hmk, hFn, hmx⟩ := hx
    obtain ⟨f', fd, ps, hm, kp, hb, ok⟩ := hFn.ex
    rw [hmx] at hm
    cases hm
    obtain ⟨E, hW, hxE⟩ := c.px
    have q : tE X.K W (eCall F g) σ H1 Q := ⟨Z1, B, dl, st1, r, st', rl1, eF, a.ext x1⟩
    have q2 := tA_mono (tE_args q) (Q' := fun vs H2 => spD X.K X.mg F (vs ++ []) H2 Q E) fun vs H2 q => by
      obtain ⟨Z, B, dl, st, svs, r, st', rl, hv, e, a⟩ := q
      rw [List.append_nil]
      refine ⟨Z, B, svs, st, r, st', rl.bare, hv, e, ?_⟩
      cases r with
      | ok d => exact fun v Z' H' rl' x' h' => a v Z' H' (rl.after x' rl') x' h'
      | ex c p =>
        subst hW
        exact fun Z' H' rl' x' => a Z' H' (rl.after x' rl') x'
    refine PySem.W.callWith_K (h₀ := X.base) I1.ok.mod.kin kp (thn (ha.run pos pins s1 σ H1 _ I1 q2) fun us s2 ⟨vs, H2, I2, r2, q3⟩ => ⟨I2.kIn, ?_⟩) he hpl
    exact run_fn ok (c.hr.mono hmk) hb .nil hxE I2 r2 q3
  refine Call_ (wpAny_mono (hf.run pins s σ H (fun y H1 => ∃ Z1 st1 i F f, Rl X.K Z1 B dl st1 σ H1 ∧ Ext B Z H B Z1 H1 ∧ atI Fs i = some F ∧ eCall F g dl st1 = some (r, st') ∧ y = .ref f ∧ ∃ x m, m ≤ k ∧ FnD X.prog X.w X.K X.mg X.base m x F ∧ X.mg x = some (.ref f)) I ?_) (fun u s1 hu => ?_) fun _ _ z => z) ht
  · -- the list of the defs, the index
    refine fun vs hv => ⟨sz1000 (by rw [paired_len hv]; exact hl), fun p hp => ?_⟩
    have g0 : Grow Z H Z (upd H p (.lst vs)) := ⟨Same.refl Z, same_new hp, rl.sub.trans (same_new hp), fun _ _ _ => rfl⟩
    unfold eCallL eB at eq
    cases qi : ix dl st with
    | none => rw [qi] at eq; cases eq
    | some y =>
      obtain ⟨ri, st1⟩ := y
      rw [qi] at eq
      refine ⟨Z, B, dl, st, ri, st1, rl.grow g0, qi, ?_⟩
      cases ri with
      | ex c0 p0 =>
        have e' : some (Rs.ex c0 p0, st1) = some (r, st') := eq
        cases e'
        exact a.ext g0.ext
      | ok d =>
        refine fun v Z1 H1 rl1 x1 h1 => ?_
        cases d with
        | int j =>
          simp only [bnd] at eq
          cases qa : atI Fs j with
          | none => rw [qa] at eq; cases eq
          | some F =>
            rw [qa] at eq
            dsimp only at eq
            have hpn : p ∉ B := fun z => rl.tr p z hp
            obtain ⟨hp1, _⟩ := x1.h p _ upd_same hpn
            have hfl := G.len
            obtain ⟨n, hn1, hn2⟩ : ∃ n, ixN Fs.length j = some n ∧ Fs[n]? = some F := by
              unfold atI at qa
              cases q : ixN Fs.length j with
              | none => rw [q] at qa; cases qa
              | some n => rw [q] at qa; exact ⟨n, rfl, qa⟩
            obtain ⟨x, m, hx1, hmk, hFn⟩ := G.get hn2
            obtain ⟨w, hw1, f, hf1, hf2⟩ := paired_at hv hx1
            subst hf2
            refine ⟨p, vs, j, .ref f, rfl, dp_int h1, SqL.of hp1, ?_, Z1, st1, j, F, f, rl1, (g0.ext (B := B)).trans x1, qa, eq, rfl, x, m, hmk, hFn, hf1⟩
            unfold atI
            rw [paired_len hv, hfl, hn1]
            exact hw1
        | _ => cases eq
  · obtain ⟨y, H1, I1, ry, Z1, st1, i, F, f, rl1, x1, hF, eF, ey, hx⟩ := hu
    subst ey
    obtain rfl : u = Value.ref f := ry
    exact hcall Z1 H1 st1 i F rl1 x1 hF eF s1 f I1 hx

/-! ### as gen.py names them -/
def XcF (K : PySem.W.Frag) (mg : Str → Option Value) (c : Str) : Prop := ∃ C, mg c = some (.ref C) ∧ PySem.W.excIn K C PySem.HandSPX.veTail "ValueError.__new__" = true ∧ EcC K C
theorem js_rz {X : Cx} {E : XK} {k : Nat} {c m : Str} {j : Nat} {p p2 pos pos' : Pos} (cx : Cxs X (XWof X.K X.mg E) k) (tk : Takes X (fun cls d _ H => E cls d H)) (h : XcF X.K X.mg c) (hg : Gl X c := by rfl) (hdb : (c == ("__debug__" : Str)) = false := by decide) :
    JS X (XWof X.K X.mg E) (.Raise (some (.Call (.Name c p) [.Constant (.str m) j p2] [] pos)) none pos') (sRz c) := by
  obtain ⟨C, hm, hx, hc⟩ := h
  exact js_raise cx tk hx hc hm hg hdb
def NpF (P : Program) (w : World) (K : PySem.W.Frag) (mg : Str → Option Value) (base : Heap) (k : Nat) (c : Str) : Prop := ∃ C, mg c = some (.ref C) ∧ NpC P w K mg base k C
theorem js_rzP {X : Cx} {E : XK} {k m : Nat} {c : Str} {e : Expr} {f : EF} {p pos pos' : Pos} (cx : Cxs X (XWof X.K X.mg E) k) (tk : Takes X (fun cls d _ H => E cls d H)) (N : NpF X.prog X.w X.K X.mg X.base m c) (hk : m + 1 ≤ k) (he : JE X (XWof X.K X.mg E) e f)
    (hg : Gl X c := by rfl) (hdb : (c == ("__debug__" : Str)) = false := by decide) (hs : starEach [e] X.env = (false, eval e X.env) :: starEach [] X.env := by rfl) (hpl : (backTo pos (starEach [] X.env)).any (·.1) = false := by rfl) :
    JS X (XWof X.K X.mg E) (.Raise (some (.Call (.Name c p) [e] [] pos)) none pos') (sRzP c f) := by
  obtain ⟨C, hm, hn⟩ := N
  exact js_raiseP cx tk hn hk hm he hg hdb hs hpl
/-- the classes' addresses -/
structure ClF (K : PySem.W.Frag) (mg : Str → Option Value) (Cs : CsN) (Hv Pl : Addr) : Prop where
  ct : ClT K mg Cs Hv
  hv : mg "HalveError" = some (.ref Hv)
  p1 : Cs[(1 : Nat)]? = some Pl
  pm : mg "NoPlace" = some (.ref Pl)
theorem ClF.lt {K : PySem.W.Frag} {mg : Str → Option Value} {Cs : CsN} {Hv Pl : Addr} (T : ClF K mg Cs Hv Pl) {i : Nat} {C : Addr} (h : Cs[i]? = some C) : i < 15 := by
  have := (List.getElem?_eq_some_iff.mp h).1
  rw [T.ct.len] at this
  exact this
def whB (i : Nat) : List Bool := [decide (i = 0), decide (i = 1), decide (i = 2), decide (i = 3)] ++ [decide (i = 4), decide (i = 5), decide (i = 6), decide (i = 7)] ++ [decide (i = 8), decide (i = 9), decide (i = 10), decide (i = 11)] ++ [decide (i = 12), decide (i = 13), decide (i = 14)]
theorem wh15 : ∀ i : Nat, i < 15 → (whB i).count true = 1 ∧ (whB i)[i]? = some true ∧ ∀ m, m < i → (whB i)[m]? = some false := by decide
def clsBody (s : Stmt) : List Stmt := match s with
  | .ClassDef _ _ _ b _ _ _ _ _ _ _ => b
  | _ => []
end DL
set_option autoImplicit false
/-! DL17: sorted, min, max of lists; bit_length; reversed(range(..)); list(x), tuple(x); index; str(i). -/
namespace DL
open PySem PySem.Spec PyProof.Rows L2

/-! ### sorted(xs), xs whole numbers or pairs of such -/
abbrev P2 := Int × Int
def pr2 (p : P2) : PyData := .tuple [.int p.1, .int p.2]
def prsOf : List PyData → Option (List P2)
  | [] => some []
  | .tuple [.int a, .int b] :: r => (prsOf r).map ((a, b) :: ·)
  | _ => none
theorem prsOf_map (ps : List P2) : prsOf (ps.map pr2) = some ps := by
  induction ps with
  | nil => rfl
  | cons b r ih => simp [prsOf, pr2, ih]
theorem prsOf_some : ∀ {ds : List PyData} {bs : List P2}, prsOf ds = some bs → ds = bs.map pr2
  | [], _, h => by cases h; rfl
  | d :: r, bs, h => by
    unfold prsOf at h
    split at h
    · rename_i heq; cases heq
    · rename_i a b r' heq
      cases heq
      cases q : prsOf r with
      | none => rw [q] at h; cases h
      | some ps => rw [q] at h; cases h; rw [prsOf_some q]; rfl
    · cases h
def leD (a b : PyData) : Bool := PySem.W.dataLe false (fun d => d) a b
/-- of one kind: all whole numbers, or all pairs -/
def one1 (ds : List PyData) : Bool := (intsOf ds).isSome || (prsOf ds).isSome
def pSort : List PyData → Option PyData
  | [.list ds] => if one1 ds = true ∧ ds.length ≤ 1000000 then some (.list (ds.mergeSort leD)) else none
  | _ => none
theorem one1_cases {ds : List PyData} (h : one1 ds = true) : (∃ ns : List Int, ds = ns.map .int) ∨ ∃ ps : List P2, ds = ps.map pr2 := by
  unfold one1 at h
  rw [Bool.or_eq_true] at h
  rcases h with h | h
  · obtain ⟨ns, e⟩ := Option.isSome_iff_exists.mp h
    exact .inl ⟨ns, intsOf_some e⟩
  · obtain ⟨ps, e⟩ := Option.isSome_iff_exists.mp h
    exact .inr ⟨ps, prsOf_some e⟩
theorem one1_alike {ds : List PyData} (h : one1 ds = true) : PySem.W.AllAlike ds ∧ PySem.W.Sortable ds ∧ (∀ d ∈ ds, d.depth ≤ 1) ∧ ∀ d ∈ ds, d ≠ .none := by
  rcases one1_cases h with ⟨ns, rfl⟩ | ⟨ps, rfl⟩
  · have hm : ∀ d ∈ ns.map PyData.int, ∃ n, d = .int n := fun d hd => let ⟨n, _, e⟩ := List.mem_map.mp hd; ⟨n, e.symm⟩
    refine ⟨fun d hd d' hd' => ?_, .inr fun d hd => ?_, fun d hd => ?_, fun d hd => ?_⟩
    · obtain ⟨n, rfl⟩ := hm d hd
      obtain ⟨n', rfl⟩ := hm d' hd'
      rfl
    · obtain ⟨n, rfl⟩ := hm d hd
      exact ⟨(fun z => by cases z), fun xs z => by cases z⟩
    · obtain ⟨n, rfl⟩ := hm d hd
      simp [PyData.depth]
    · obtain ⟨n, rfl⟩ := hm d hd
      exact fun z => by cases z
  · have hm : ∀ d ∈ ps.map pr2, ∃ p, d = pr2 p := fun d hd => let ⟨n, _, e⟩ := List.mem_map.mp hd; ⟨n, e.symm⟩
    refine ⟨fun d hd d' hd' => ?_, .inl fun d hd => ?_, fun d hd => ?_, fun d hd => ?_⟩
    · obtain ⟨n, rfl⟩ := hm d hd
      obtain ⟨n', rfl⟩ := hm d' hd'
      rfl
    · obtain ⟨n, rfl⟩ := hm d hd
      exact ⟨_, _, rfl⟩
    · obtain ⟨n, rfl⟩ := hm d hd
      simp [pr2, PyData.depth, PyData.depthAll]
    · obtain ⟨n, rfl⟩ := hm d hd
      exact fun z => by cases z
section
variable {X : Cx}
theorem each_of {K : PySem.W.Frag} {Z : Hp} : ∀ {ds : List PyData} {vs : List V} {us : List Value}, RpA K Z vs ds → Vals vs us → PySem.W.EachIs (fun u d => ∃ v, RelV v u ∧ Rp K Z v d) us ds
  | [], _, _, h, r => by cases h; cases r; exact .nil
  | d :: ds, _, _, h, r => by
    cases h with
    | cons h1 h2 =>
      cases r with
      | cons r1 r2 => exact .cons ⟨_, r1, h1⟩ (each_of h2 r2)
theorem each_back {K : PySem.W.Frag} {Z : Hp} : ∀ {us : List Value} {ds : List PyData}, PySem.W.EachIs (fun u d => ∃ v, RelV v u ∧ Rp K Z v d) us ds → ∃ vs, Vals vs us ∧ RpA K Z vs ds
  | _, _, .nil => ⟨[], .nil, .nil⟩
  | _, _, .cons ⟨v, r, h⟩ t => by
    obtain ⟨vs, h1, h2⟩ := each_back t
    exact ⟨v :: vs, .cons r h1, .cons h h2⟩
theorem cd_sort {n : Nat} (hr : Room n X.A) : CallR X (.builtin "sorted") (rDL X.K pSort) := by
  intro pins s σ H xs us Q I r q
  obtain ⟨Z, ds, c, sub, hd, e, gq⟩ := q
  unfold pSort at e
  split at e
  · rename_i ds
    split at e
    · rename_i hc
      cases e
      obtain ⟨v, rfl, hv⟩ := rpa1 hd
      cases hv with
      | lst ea ra =>
        rename_i a vs
        obtain ⟨its, rv, hl, hz⟩ := I.list (SqL.of (sub _ _ ea))
        rw [Vals.ref1 r]
        obtain ⟨hal, hso, hdp, _⟩ := one1_alike hc.1
        have ee := each_of ra rv
        have er : PySem.W.EachIs (fun v b => ∃ as, Reads s.heap v ((fun d => d) b) as) its ds := ee.mono fun u d ⟨v, r1, h1⟩ => Dp.reads I d v u (Rp.dp sub d v h1) r1
        have hmap : ds.map (fun d => d) = ds := List.map_id' ds
        refine PySem.W.sorted_data (enc := fun d => d) hl.isList ee er (by rw [hmap]; exact hal) (by rw [hmap]; exact hso) (million hc.2) (fun b hb => ?_) fun out ho hE => ?_
        · have := hdp b hb
          have := hr.units
          show X.A.units + 2 + b.depth < cLine
          omega
        · obtain ⟨vs', h1, h2⟩ := each_back hE
          obtain ⟨ep, he'⟩ := PyProof.Rows.sortedAll_at s.heap its out.toArray
          have hlen : vs'.length ≤ sizeLine := by rw [h2.len, List.length_mergeSort]; exact million hc.2
          have hp : H (s.heap.objs.size + 1) = none := I.hok.fresh (Nat.le_succ _)
          have gr := Grow.new (o := .lst vs') sub hp
          exact ⟨.ref _, upd H (s.heap.objs.size + 1) (.lst vs'), I.laid (t' := s.toks) (fun _ _ => PyProof.Rows.sortedAll_old) (Nat.le_succ _) ⟨hlen, out, ep, h1, he'⟩, rfl, gq _ _ _ gr (.lst upd_same (h2.mono' gr.z))⟩
    · cases e
  · cases e
/-! ### min(xs), max(xs) -/
def pMinL : List PyData → Option PyData
  | [.list (x :: ds)] => if one1 (x :: ds) = true ∧ ds.length < 1000000 then some (PySem.W.minD x ds) else none
  | _ => none
def pMaxL : List PyData → Option PyData
  | [.list (x :: ds)] => if one1 (x :: ds) = true ∧ ds.length < 1000000 then some (PySem.W.maxD x ds) else none
  | _ => none
theorem reads_one {h : Heap} {v : Value} {d d' : PyData} {as bs : List Addr} (r : Reads h v d as) (r' : Reads h v d' bs) (k : one1 [d] = true) (k' : one1 [d'] = true) (hal : PySem.W.alike d d' = true) : d = d' := by
  rcases one1_cases k with ⟨ns, e⟩ | ⟨ps, e⟩
  · match ns, e with
    | [n], e =>
      cases e
      rcases one1_cases k' with ⟨ns, e⟩ | ⟨ps, e⟩
      · match ns, e with
        | [n'], e => cases e; cases r; cases r'; rfl
      · match ps, e with
        | [p], e => cases e; cases hal
  · match ps, e with
    | [p], e =>
      cases e
      rcases one1_cases k' with ⟨ns, e⟩ | ⟨ps, e⟩
      · match ns, e with
        | [n'], e => cases e; cases hal
      · match ps, e with
        | [p'], e =>
          cases e
          obtain ⟨a1, b1⟩ := p
          obtain ⟨a2, b2⟩ := p'
          unfold pr2 at r r'
          dsimp only at r r'
          cases r with
          | tuple h1 h2 h3 h4 =>
            cases r' with
            | tuple g1 g2 g3 g4 =>
              rw [h1] at g1
              cases g1
              rw [h3] at g3
              cases g3
              rename_i o vs n
              obtain ⟨l⟩ := vs
              cases h4 with
              | cons ra rr =>
                cases rr with
                | cons rb rn =>
                  cases rn
                  cases g4 with
                  | cons ra' rr' =>
                    cases rr' with
                    | cons rb' rn' =>
                      cases ra; cases rb; cases ra'; cases rb'; rfl
theorem one1_mem {ds : List PyData} {d : PyData} (h : one1 ds = true) (hd : d ∈ ds) : one1 [d] = true := by
  rcases one1_cases h with ⟨ns, rfl⟩ | ⟨ps, rfl⟩
  · obtain ⟨n, _, rfl⟩ := List.mem_map.mp hd
    rfl
  · obtain ⟨n, _, rfl⟩ := List.mem_map.mp hd
    rfl
theorem minD_mem (x : PyData) : ∀ ds : List PyData, PySem.W.minD x ds ∈ x :: ds := fun ds => by
  unfold PySem.W.minD
  induction ds generalizing x with
  | nil => simp
  | cons y r ih =>
    rw [List.foldl_cons]
    have := ih (if PySem.W.dataLt y x = true then y else x)
    split at this
    · rename_i hc
      rw [if_pos hc]
      exact List.mem_cons_of_mem _ this
    · rename_i hc
      rw [if_neg hc]
      rcases List.mem_cons.mp this with e | e
      · rw [e]; simp
      · exact List.mem_cons_of_mem _ (List.mem_cons_of_mem _ e)
theorem maxD_mem (x : PyData) : ∀ ds : List PyData, PySem.W.maxD x ds ∈ x :: ds := fun ds => by
  unfold PySem.W.maxD
  induction ds generalizing x with
  | nil => simp
  | cons y r ih =>
    rw [List.foldl_cons]
    have := ih (if PySem.W.dataLt x y = true then y else x)
    split at this
    · rename_i hc
      rw [if_pos hc]
      exact List.mem_cons_of_mem _ this
    · rename_i hc
      rw [if_neg hc]
      rcases List.mem_cons.mp this with e | e
      · rw [e]; simp
      · exact List.mem_cons_of_mem _ (List.mem_cons_of_mem _ e)
theorem depthAll_le {n : Nat} : ∀ {ds : List PyData}, (∀ d ∈ ds, d.depth ≤ n) → PyData.depthAll ds ≤ n
  | [], _ => by simp [PyData.depthAll]
  | d :: ds, h => by
    have h1 := h d (by simp)
    have h2 := depthAll_le (ds := ds) fun e he => h e (List.mem_cons_of_mem _ he)
    simp only [PyData.depthAll]
    omega
theorem vals_ix : ∀ {vs : List V} {us : List Value} {i : Nat} {u : Value}, Vals vs us → us[i]? = some u → ∃ v, vs[i]? = some v ∧ RelV v u
  | _, _, _, _, .nil, e => by simp at e
  | _, _, 0, _, .cons r t, e => by simp at e; subst e; exact ⟨_, rfl, r⟩
  | _, _, i + 1, u, .cons r t, e => by
    obtain ⟨v, h1, h2⟩ := vals_ix (i := i) t (by simpa using e)
    exact ⟨v, by simpa using h1, h2⟩
theorem cd_minmax {n : Nat} (hc : X.calm = true) (hr : Room n X.A) : CallR X (.builtin "min") (rDL X.K pMinL) ∧ CallR X (.builtin "max") (rDL X.K pMaxL) := by
  constructor
  · intro pins s σ H xs us Q I r q
    obtain ⟨Z, ds, c, sub, hd, e, gq⟩ := q
    unfold pMinL at e
    split at e
    · rename_i x ds
      split at e
      · rename_i hcc
        cases e
        obtain ⟨v, rfl, hv⟩ := rpa1 hd
        cases hv with
        | lst ea ra =>
          rename_i a vs
          obtain ⟨its, rv, hl, hz⟩ := I.list (SqL.of (sub _ _ ea))
          rw [Vals.ref1 r]
          obtain ⟨hal, hso, hdp, hnn⟩ := one1_alike hcc.1
          obtain ⟨as, hR⟩ := Dp.readsAll I (x :: ds) vs its (RpA.dp sub _ _ ra) rv
          refine PySem.W.min_list_data (I.ok.hd hc) hl.isList hR ⟨hal, hnn⟩ ?_ fun i u h' tk bs hu hrd hk => ?_
          · have := depthAll_le hdp
            have := hr.units
            omega
          · have hu' : its[i]? = some u := by simpa using hu
            obtain ⟨w, hw, rw'⟩ := vals_ix rv hu'
            obtain ⟨di, hdi, rpi⟩ := ra.get' hw
            have hmem : di ∈ x :: ds := List.mem_of_getElem? hdi
            have hm2 := minD_mem x ds
            obtain ⟨as2, r2⟩ := Dp.reads I di w u (Rp.dp sub di w rpi) rw'
            have e := reads_one (PyProof.Rows.Reads.keeps hk r2) hrd (one1_mem hcc.1 hmem) (one1_mem hcc.1 hm2) (hal _ hmem _ hm2)
            exact ⟨w, H, I.kept (t' := tk) hk, rw', gq_of sub (e ▸ rpi) gq⟩
      · cases e
    · cases e
  · intro pins s σ H xs us Q I r q
    obtain ⟨Z, ds, c, sub, hd, e, gq⟩ := q
    unfold pMaxL at e
    split at e
    · rename_i x ds
      split at e
      · rename_i hcc
        cases e
        obtain ⟨v, rfl, hv⟩ := rpa1 hd
        cases hv with
        | lst ea ra =>
          rename_i a vs
          obtain ⟨its, rv, hl, hz⟩ := I.list (SqL.of (sub _ _ ea))
          rw [Vals.ref1 r]
          obtain ⟨hal, hso, hdp, hnn⟩ := one1_alike hcc.1
          obtain ⟨as, hR⟩ := Dp.readsAll I (x :: ds) vs its (RpA.dp sub _ _ ra) rv
          refine PySem.W.max_list_data (I.ok.hd hc) hl.isList hR ⟨hal, hnn⟩ ?_ fun i u h' tk bs hu hrd hk => ?_
          · have := depthAll_le hdp
            have := hr.units
            omega
          · have hu' : its[i]? = some u := by simpa using hu
            obtain ⟨w, hw, rw'⟩ := vals_ix rv hu'
            obtain ⟨di, hdi, rpi⟩ := ra.get' hw
            have hmem : di ∈ x :: ds := List.mem_of_getElem? hdi
            have hm2 := maxD_mem x ds
            obtain ⟨as2, r2⟩ := Dp.reads I di w u (Rp.dp sub di w rpi) rw'
            have e := reads_one (PyProof.Rows.Reads.keeps hk r2) hrd (one1_mem hcc.1 hmem) (one1_mem hcc.1 hm2) (hal _ hmem _ hm2)
            exact ⟨w, H, I.kept (t' := tk) hk, rw', gq_of sub (e ▸ rpi) gq⟩
      · cases e
    · cases e
end

/-! ### n.bit_length() -/
def pBits : PyData → Option PyData
  | .int i => some (.int ((Builtin.Int.intBits i : Nat) : Int))
  | _ => none
section
variable {X : Cx} {W : XW} {o e : Expr} {f : EF} {pos apos p : Pos}
theorem je_bits (ho : JE X W o f) (hbase : attributeBase o "bit_length" X.env (eval o X.env) = eval o X.env := by rfl) (hline : (apos.endLine == pos.line) = true := by rfl) : JE X W (.Call (.Attribute o "bit_length" apos) [] [] pos) (eUn pBits f) := by
  refine pe_imp (pe_bits ho hbase hline) fun σ H Q q => ?_
  refine tE_mono (tE_un q) fun x H1 q => ?_
  obtain ⟨Z, d, c, sub, hd, e, gq⟩ := q
  unfold pBits at e
  split at e
  · cases e
    cases hd
    exact ⟨_, rfl, gq_of sub (.int _) gq⟩
  · cases e
/-! ### for .. in reversed(range(n)) -/
def iRv (f : EF) : IF := fun dl st => match f dl st with
  | some (.ok (.int j), st1) => if inLine j then some (.ok (rangeL 0 j).reverse, st1) else none
  | some (.ex c p, st1) => some (.ex c p, st1)
  | _ => none
theorem itd_rev {K : PySem.W.Frag} {Z : Hp} (j : Int) : ItD K (Itc (0 + (((j - 0).toNat : Nat) : Int) - 1) (-1) (j - 0).toNat) Z (rangeL 0 j).reverse := by
  intro Z1 H s1 s2 i
  have hl : (rangeL 0 j).reverse.length = (j - 0).toNat := by unfold rangeL; simp
  rw [hl]
  refine ⟨fun hi => ⟨hi, fun x H' hy => ?_⟩, fun hi => hi⟩
  obtain ⟨rfl, rfl⟩ := hy
  refine ⟨Z1, Grow.refl s2, .int (0 + (((j - 0).toNat : Nat) : Int) - 1 + (i : Nat) * (-1)), ?_, .int _⟩
  rw [List.getElem?_reverse (by unfold rangeL; simpa using hi)]
  unfold rangeL
  rw [List.getElem?_map, List.length_map, List.length_range, List.getElem?_range (by omega)]
  simp only [Option.map_some]
  congr 2
  omega
theorem ji_revR {tg a : Expr} {p2 pos2 : Pos} (hmr : X.mg "reversed" = none) (hm : X.mg "range" = none) (ha : JE X W a f) (hgr : Gl X "reversed" := by rfl) (hg : Gl X "range" := by rfl) (na : starEach [a] X.env = (false, eval a X.env) :: starEach [] X.env := by rfl)
    (hs : starEach [.Call (.Name "range" p2) [a] [] pos2] X.env = (false, eval (.Call (.Name "range" p2) [a] [] pos2) X.env) :: starEach [] X.env := by rfl) : JI X W tg (.Call (.Name "reversed" p) [.Call (.Name "range" p2) [a] [] pos2] [] pos) (iRv f) := by
  refine pi_imp (pi_revR hgr hmr (prg_1 hg hm ha na) hs) fun σ H R q => ?_
  obtain ⟨Z, B, dl, st, r, st', rl, e, a⟩ := q
  unfold iRv at e
  cases q : f dl st with
  | none => rw [q] at e; cases e
  | some y =>
    obtain ⟨rs, st1⟩ := y
    rw [q] at e
    refine ⟨Z, B, dl, st, rs, st1, rl, q, ?_⟩
    cases rs with
    | ex c p => cases e; exact a
    | ok d =>
      refine fun v Z' H' rl' x' h' => ?_
      cases d with
      | int j =>
        dsimp only at e
        split at e
        · rename_i hj
          cases e
          obtain ⟨h1, h2⟩ := inLine_ok hj
          exact ⟨j, dp_int h', by omega, by omega, h1, h2, a _ Z' H' rl' x' (itd_rev j)⟩
        · cases e
      | _ => cases e
end
/-! ### list(x), tuple(x), x.index(y), str(i) -/
def pListOf : List PyData → Option PyData
  | [.list xs] => some (.list xs)
  | [.tuple xs] => some (.list xs)
  | _ => none
def pTupleOf : List PyData → Option PyData
  | [.list xs] => some (.tuple xs)
  | [.tuple xs] => some (.tuple xs)
  | _ => none
def pStrI : List PyData → Option PyData
  | [.int i] => if i.natAbs.log2 < 1920 then some (.str (toString i)) else none
  | [.str x] => some (.str x)
  | _ => none
section
variable {X : Cx}
theorem cd_list : CallR X (.type "list") (rDL X.K pListOf) := by
  intro pins s σ H xs us Q I r q
  obtain ⟨Z, ds, c, sub, hd, e, gq⟩ := q
  unfold pListOf at e
  split at e
  · cases e
    obtain ⟨v, rfl, hv⟩ := rpa1 hd
    cases hv with
    | lst ea ra => exact call_list_of pins s σ H _ us Q I r ⟨_, _, rfl, .inl (SqL.of (sub _ _ ea)), fun p hp => gq_lst sub hp ra gq⟩
  · cases e
    obtain ⟨v, rfl, hv⟩ := rpa1 hd
    cases hv with
    | tup ea ra => exact call_list_of pins s σ H _ us Q I r ⟨_, _, rfl, .inr (same_t sub ea), fun p hp => gq_lst sub hp ra gq⟩
  · cases e
theorem cd_tuple : CallR X (.type "tuple") (rDL X.K pTupleOf) := by
  intro pins s σ H xs us Q I r q
  obtain ⟨Z, ds, c, sub, hd, e, gq⟩ := q
  unfold pTupleOf at e
  split at e
  · cases e
    obtain ⟨v, rfl, hv⟩ := rpa1 hd
    cases hv with
    | lst ea ra => exact call_tuple_of pins s σ H _ us Q I r ⟨_, _, rfl, .inl ⟨SqL.of (sub _ _ ea), fun p hp => gq_tup sub hp ra gq⟩⟩
  · cases e
    obtain ⟨v, rfl, hv⟩ := rpa1 hd
    cases hv with
    | tup ea ra => exact call_tuple_of pins s σ H _ us Q I r ⟨_, _, rfl, .inr ⟨same_t sub ea, gq_of sub (.tup ea ra) gq⟩⟩
  · cases e
theorem cd_str : CallR X (.type "str") (rDL X.K pStrI) := by
  intro pins s σ H xs us Q I r q
  obtain ⟨Z, ds, c, sub, hd, e, gq⟩ := q
  unfold pStrI at e
  split at e
  · split at e
    · rename_i hl
      cases e
      obtain ⟨v, rfl, hv⟩ := rpa1 hd
      cases hv
      exact call_str_int pins s σ H _ us Q I r ⟨_, rfl, hl, gq_of sub (.str _) gq⟩
    · cases e
  · cases e
    obtain ⟨v, rfl, hv⟩ := rpa1 hd
    cases hv
    exact SkE.call_str_str pins s σ H _ us Q I r ⟨_, rfl, gq_of sub (.str _) gq⟩
  · cases e
def idxD (d : PyData) (ds : List PyData) : Option Nat := ds.findIdx? fun z => PyData.eqv z d
def pIndex : PyData → List PyData → Option PyData
  | .list ds, [d] => if dpt 8 (.list ds) && dpt 8 d then (idxD d ds).map fun j => .int (j : Int) else none
  | _, _ => none
theorem md_index {n : Nat} (hr : Room n X.A) : MtR X "list.index" (rDM X.K pIndex) := by
  intro pins s σ H x xs v us Q I rx rv q
  obtain ⟨Z, d, ds, c, sub, hx, hd, e, gq⟩ := q
  unfold pIndex at e
  split at e
  · rename_i ds d
    split at e
    · rename_i hk
      rw [Bool.and_eq_true] at hk
      cases qi : idxD d ds with
      | none => rw [qi] at e; cases e
      | some j =>
        rw [qi] at e
        cases e
        obtain ⟨w, rfl, hw⟩ := rpa1 hd
        obtain ⟨h1, h2, h3⟩ := List.findIdx?_eq_some_iff_getElem.mp qi
        have hx' := Rp.dp sub _ _ hx
        cases hx with
        | lst ea ra =>
          refine mt_indexD (by have := hr.un; omega) pins s σ H _ _ v us Q I rx rv ⟨_, w, d, ds, j, ds[j], rfl, rfl, hx', Rp.dp sub d w hw, dpt_shaped hk.1, dpt_shaped hk.2, by simp, h2, fun m z hm hz => ?_, gq_of sub (.int _) gq⟩
          have hlt : m < ds.length := by omega
          rw [List.getElem?_eq_getElem hlt] at hz
          cases hz
          have := h3 m hm
          simpa using this
    · cases e
  · cases e
theorem je_index {W : XW} {o e : Expr} {f : EF} {g : AF} {apos cpos : Pos} {n : Nat} (hr : Room n X.A) (ho : JE X W o f) (ha : JA X W [e] g)
    (hbase : attributeBase o "index" X.env (eval o X.env) = eval o X.env := by rfl)
    (hfew : ((backTo cpos (starEach [e] X.env)).all (fun x => !x.1) && (backToKw cpos (keywordEach [] X.env)).all (fun x => x.1.isSome)
      && decide (([e] : List Expr).length + ([] : List Keyword).length + (if ([] : List Keyword).isEmpty then 0 else 1) < 30)) = true := by rfl)
    (hline : (apos.endLine == cpos.line) = true := by rfl) (hs : starEach [e] X.env = (false, eval e X.env) :: starEach [] X.env := by rfl) (hplain : (backTo cpos (starEach [] X.env)).any (·.1) = false := by rfl) :
    JE X W (.Call (.Attribute o "index" apos) [e] [] cpos) (eM "list" pIndex f g) :=
  je_m PySem.F.plainAttrs_list PySem.F.slot_list_index PySem.F.type_list_index (md_index hr) ho ha hbase hfew hline hs hplain
end
end DL
set_option autoImplicit false
/-! DL18: a < b < c < d as a test. -/
namespace DL
open PySem PySem.Spec PyProof.Rows L2
def kTF (k : EF) : PyData → EF
  | .bool true => k
  | .bool false => eC (.bool false)
  | _ => fun _ _ => none
def eCh3 (p p' p'' : PyData → PyData → Option PyData) (f g h i : EF) : EF := eB f fun a => eB g fun b => eB (eR (p a b)) (kTF (eB h fun c => eB (eR (p' b c)) (kTF (eB i fun d => eR (p'' c d)))))
section
variable {X : Cx} {W : XW} {a b c d : Expr} {f g h i : EF} {pos : Pos}
theorem tH_cmp {K : PySem.W.Frag} {p : PyData → PyData → Option PyData} {hs : List (V × PyData)} {x y : V} {a b : PyData} {kk : EF} {σ : L2.St} {H : Hp} {Q : VK} (q : tH K W hs (eB (eR (p a b)) (kTF kk)) σ H Q) (hx : (x, a) ∈ hs) (hy : (y, b) ∈ hs) :
    rD2 K p x y H fun z H' => ∃ k, z = .bl k ∧ (if k = true then tH K W hs kk σ H' Q else Q (.bl false) H') := by
  obtain ⟨Z, B, dl, st, r, st', rl, hh, e, af⟩ := q
  unfold eB at e
  cases qp : p a b with
  | none => simp only [eR, qp, Option.map_none, bnd] at e; cases e
  | some k =>
    simp only [eR, qp, Option.map_some, bnd] at e
    refine ⟨Z, a, b, k, rl.sub, hh _ hx, hh _ hy, qp, fun v Z' H' gr hv => ?_⟩
    cases k with
    | bool k =>
      refine ⟨k, dp_bool hv, ?_⟩
      cases k with
      | false =>
        rw [if_neg Bool.false_ne_true]
        cases e
        exact af _ _ _ (rl.grow gr) gr.ext (.bl false)
      | true =>
        rw [if_pos rfl]
        exact ⟨Z', B, dl, st, r, st', rl.grow gr, fun p hp => (hh p hp).mono' gr.z, e, af.ext gr.ext⟩
    | _ => cases e
def tChain3 (r r' r'' : R2) (ta tb tc td : TE) : TE := fun σ H Q => ta σ H fun x H1 => tb σ H1 fun y H2 => r x y H2 fun z H3 => ∃ k, z = .bl k ∧
  (if k = true then tc σ H3 fun w H4 => r' y w H4 fun z2 H5 => ∃ k2, z2 = .bl k2 ∧ (if k2 = true then td σ H5 fun v H6 => r'' w v H6 Q else Q (.bl false) H5) else Q (.bl false) H3)
theorem rD2_mono {K : PySem.W.Frag} {p : PyData → PyData → Option PyData} {x y : V} {H : Hp} {Q Q' : VK} (h : rD2 K p x y H Q) (m : ∀ v H', Q v H' → Q' v H') : rD2 K p x y H Q' := by
  obtain ⟨Z, a, b, k, s, ha, hb, e, q⟩ := h
  exact ⟨Z, a, b, k, s, ha, hb, e, fun v Z' H' gr hv => m v H' (q v Z' H' gr hv)⟩
theorem tE_chain3 {K : PySem.W.Frag} {p p' p'' : PyData → PyData → Option PyData} {σ : L2.St} {H : Hp} {Q : VK} (q : tE K W (eCh3 p p' p'' f g h i) σ H Q) : tChain3 (rD2 K p) (rD2 K p') (rD2 K p'') (tE K W f) (tE K W g) (tE K W h) (tE K W i) σ H Q := by
  refine tE_mono (tH_bnd (tH_of q)) fun x H1 q => ?_
  obtain ⟨a, q⟩ := q
  refine tE_mono (tH_bnd q) fun y H2 q => ?_
  obtain ⟨b, q⟩ := q
  refine rD2_mono (tH_cmp q (x := x) (y := y) (by simp) (by simp)) fun z H3 q => ?_
  obtain ⟨k, e, q⟩ := q
  refine ⟨k, e, ?_⟩
  cases k with
  | false => exact q
  | true =>
    rw [if_pos rfl] at q ⊢
    refine tE_mono (tH_bnd q) fun w H4 q => ?_
    obtain ⟨c, q⟩ := q
    refine rD2_mono (tH_cmp q (x := y) (y := w) (by simp) (by simp)) fun z2 H5 q => ?_
    obtain ⟨k2, e2, q⟩ := q
    refine ⟨k2, e2, ?_⟩
    cases k2 with
    | false => exact q
    | true =>
      rw [if_pos rfl] at q ⊢
      refine tE_mono (tH_bnd q) fun v H6 q => ?_
      obtain ⟨d, q⟩ := q
      obtain ⟨Z3, r, sub, hh, ed, gq⟩ := tH_eR q
      exact ⟨Z3, c, d, r, sub, hh (w, c) (by simp), hh (v, d) (by simp), ed, gq⟩
theorem pt_chain3 {op op' op'' : CmpOp} {r r' r'' : R2} {ta tb tc td : TE} (ho : OpR X (compareOp op) r) (ho' : OpR X (compareOp op') r') (ho'' : OpR X (compareOp op'') r'') (ha : PE X a ta) (hb : PE X b tb) (hc : PE X c tc) (hd : PE X d td)
    (hm : lastMarks [op, op', op''] [b, c, d] = false := by with_unfolding_all rfl) : PT X (.Compare a [op, op', op''] [b, c, d] pos) (tTest (tChain3 r r' r'' ta tb tc td)) := by
  refine ⟨fun pins s σ H Q I h => ?_⟩
  refine isTrue_chain (thn (ha.run pins s σ H _ I h) fun v s1 ⟨x, H1, I1, r1, q1⟩ => test_link (thn (hb.run pins s1 σ H1 _ I1 q1) fun u s2 ⟨y, H2, I2, r2, q2⟩ =>
    thn (ho pins s2 σ H2 x y v u _ I2 r1 r2 q2) fun d s3 ⟨z, H3, I3, r3, k, e, q3⟩ => ?_)) hm
  subst e
  cases r3
  refine wpAny_truthy_bool ?_
  cases k with
  | false =>
    obtain ⟨k', e', q'⟩ := q3
    cases e'
    exact ite_ff ⟨H3, I3, q'⟩
  | true =>
    rw [if_pos rfl] at q3
    refine ite_tt (test_link (thn (hc.run pins s3 σ H3 _ I3 q3) fun w' s4 ⟨z', H4, I4, r4, q4⟩ => thn (ho' pins s4 σ H4 y z' u w' _ I4 r2 r4 q4) fun d' s5 ⟨z2, H5, I5, r5, k2, e2, q5⟩ => ?_))
    subst e2
    cases r5
    refine wpAny_truthy_bool ?_
    cases k2 with
    | false =>
      obtain ⟨k', e', q'⟩ := q5
      cases e'
      exact ite_ff ⟨H5, I5, q'⟩
    | true =>
      rw [if_pos rfl] at q5
      refine ite_tt (test_last (thn (hd.run pins s5 σ H5 _ I5 q5) fun w2 s6 ⟨z3, H6, I6, r6, q6⟩ => thn (ho'' pins s6 σ H6 z' z3 w' w2 _ I6 r4 r6 q6) fun d2 s7 ⟨z4, H7, I7, r7, k3, e3, q7⟩ => ?_))
      subst e3
      cases r7
      exact wpAny_truthy_bool ⟨H7, I7, q7⟩
theorem jt_chain3 {op op' op'' : CmpOp} {p p' p'' : PyData → PyData → Option PyData} (ho : OpR X (compareOp op) (rD2 X.K p)) (ho' : OpR X (compareOp op') (rD2 X.K p')) (ho'' : OpR X (compareOp op'') (rD2 X.K p'')) (ha : JE X W a f) (hb : JE X W b g) (hc : JE X W c h) (hd : JE X W d i)
    (hm : lastMarks [op, op', op''] [b, c, d] = false := by with_unfolding_all rfl) : JT X W (.Compare a [op, op', op''] [b, c, d] pos) (eCh3 p p' p'' f g h i) := pt_imp (pt_chain3 ho ho' ho'' ha hb hc hd hm) fun _ _ _ q => tE_chain3 q
end
/-! ### as it is worked out -/
theorem r_kT {k : EF} : kTF k (.bool true) = k := rfl
end DL
set_option autoImplicit false
/-! DL19: zip of two texts. -/
namespace DL
open PySem PySem.Spec PyProof.Rows L2
def Itzs (x y : Str) : It := ⟨fun i _ => i < x.cps.size ∧ i < y.cps.size, fun i H v H' => ∃ T c d, v = .ref T ∧ H T = none ∧ H' = upd H T (.tup [.str ⟨#[c]⟩, .str ⟨#[d]⟩]) ∧ x.cps[i]? = some c ∧ y.cps[i]? = some d, fun i _ => x.cps.size ≤ i ∨ y.cps.size ≤ i⟩
theorem turn_zipS {P : Program} {w : World} {K : PySem.W.Frag} {elts : List Expr} {kk : Nat} {tpos : Pos} (x y : Str) (t u : Tok) {z TI TO i1 i2 : Addr} (S : ZipSep2 z TI TO i1 i2 [i1] [i2]) :
    Turn P w K (.Tuple elts kk tpos) (Itzs x y) [z, TI, TO, i1, i2] z (fun i h => (i ≤ x.cps.size ∧ i ≤ y.cps.size) ∧ IsZip h z TI TO .none ∧ IsTupOf2 h TI (.ref i1) (.ref i2) ∧ (∃ a b, IsTupOf2 h TO a b) ∧ h.IsStrIter i1 (strIterType x) x t i ∧ h.IsStrIter i2 (strIterType y) y u i) where
  mem := by simp
  obj := fun i h st c hc => by
    obtain ⟨_, hz, hTI, ⟨a, b, hTO⟩, ⟨o1, e1, _, d1⟩, ⟨o2, e2, _, d2⟩⟩ := st
    have e' : c = z ∨ c = TI ∨ c = TO ∨ c = i1 ∨ c = i2 := by simpa using hc
    rcases e' with q | q | q | q | q
    · rw [q]; exact ⟨_, hz, fun v q => nomatch q⟩
    · rw [q]; exact ⟨_, hTI, fun v q => nomatch q⟩
    · rw [q]; exact ⟨_, hTO, fun v q => nomatch q⟩
    · rw [q]; exact ⟨o1, e1, fun v q => by rw [d1] at q; cases q⟩
    · rw [q]; exact ⟨o2, e2, fun v q => by rw [d2] at q; cases q⟩
  keep := fun i h h' st k => by
    obtain ⟨hi, hz, hTI, ⟨a, b, hTO⟩, ⟨o1, e1, r1⟩, ⟨o2, e2, r2⟩⟩ := st
    exact ⟨hi, k z (by simp) _ hz, k TI (by simp) _ hTI, ⟨a, b, k TO (by simp) _ hTO⟩, ⟨o1, k i1 (by simp) o1 e1, r1⟩, ⟨o2, k i2 (by simp) o2 e2, r2⟩⟩
  item := by
    intro X hP hw hK hc i pins s σ H E I hf st hg
    subst hP hw hK
    obtain ⟨hi, hz, hTI, ⟨a0, b0, hTO⟩, h1, h2⟩ := st
    have hg : i < x.cps.size ∧ i < y.cps.size := hg
    have hzl : z < s.heap.objs.size := Heap.lt_size hz
    have D1 : Draws X.prog X.w X.A.in1 i1 [i1] x.cps.size (fun i v => ∃ c u, x.cps[i]? = some c ∧ v = .str ⟨#[c]⟩ u) (fun i h => h.IsStrIter i1 (strIterType x) x t i) := Draws.text (show X.A.in1.handled = none from I.ok.hd hc) i1 x t
    have D2 : Draws X.prog X.w X.A.in1 i2 [i2] y.cps.size (fun i v => ∃ c u, y.cps[i]? = some c ∧ v = .str ⟨#[c]⟩ u) (fun i h => h.IsStrIter i2 (strIterType y) y u i) := Draws.text (show X.A.in1.handled = none from I.ok.hd hc) i2 y u
    refine wpAny_pyNext_zipD2_item S D1 D2 hz hTI hTO h1 h2 hg.1 hg.2 fun v1 v2 h' tk p1 p2 z' TO' s1' s2' hT hsz hk => ?_
    obtain ⟨c, u1, ec, rfl⟩ := p1
    obtain ⟨d, u2, ed, rfl⟩ := p2
    refine ⟨_, rfl, wpAny_letOwnedTupleGo_zip (s := { s with heap := h', toks := tk }) z' fun h'' z'' sb => ?_⟩
    have hT2 : h''.get? s.heap.objs.size = some { cls := .type "tuple", data := .seq #[.str ⟨#[c]⟩ u1, .str ⟨#[d]⟩ u2] } := (sb.2 _ (Nat.ne_of_gt hzl)).trans hT
    have new : ObjOk X.prog X.w (upd H s.heap.objs.size (.tup [.str ⟨#[c]⟩, .str ⟨#[d]⟩])) h'' s.heap.objs.size (.tup [.str ⟨#[c]⟩, .str ⟨#[d]⟩]) :=
      ⟨by show 2 ≤ sizeLine; decide, [.str ⟨#[c]⟩ u1, .str ⟨#[d]⟩ u2], .cons ⟨_, rfl⟩ (.cons ⟨_, rfl⟩ .nil), ⟨_, hT2, rfl, _, rfl⟩⟩
    have I1 : Inv X pins σ (upd H s.heap.objs.size (.tup [.str ⟨#[c]⟩, .str ⟨#[d]⟩])) { s with heap := h'', toks := tk } :=
      I.turnedNew (ch := [z, TI, TO, i1, i2]) (fun b ob hb q => (sb.2 b (fun q' => hb (by simp [q']))).trans (hk b ob (fun q' => hb (by simp [q'])) (fun q' => hb (by simp [q'])) (fun q' => hb (by simp [q'])) (fun q' => hb (by simp [q'])) q)) hf (Nat.le_refl _) new
    refine ⟨.ref s.heap.objs.size, _, I1, rfl, ⟨_, c, d, rfl, I.hok.fresh (Nat.le_refl _), rfl, ec, ed⟩, ⟨⟨hg.1, hg.2⟩, z'', ?_, ⟨.str ⟨#[c]⟩ u1, .str ⟨#[d]⟩ u2, ?_⟩, ?_, ?_⟩, fun b hb => ?_⟩
    · exact (sb.2 _ S.TIz).trans (hk _ _ S.TIz S.TITO S.TIi1 S.TIi2 hTI)
    · exact (sb.2 _ S.TOz).trans TO'
    · obtain ⟨o, ho', r⟩ := s1'
      exact ⟨o, (sb.2 _ (Ne.symm S.zi1)).trans ho', r⟩
    · obtain ⟨o, ho', r⟩ := s2'
      exact ⟨o, (sb.2 _ (Ne.symm S.zi2)).trans ho', r⟩
    · have hlt : b < s.heap.objs.size := by
        have e' : b = z ∨ b = TI ∨ b = TO ∨ b = i1 ∨ b = i2 := by simpa using hb
        rcases e' with q | q | q | q | q
        · rw [q]; exact hzl
        · rw [q]; exact Heap.lt_size hTI
        · rw [q]; exact Heap.lt_size hTO
        · rw [q]; obtain ⟨_, e1, _⟩ := h1; exact Heap.lt_size e1
        · rw [q]; obtain ⟨_, e2, _⟩ := h2; exact Heap.lt_size e2
      rw [upd_ne (Nat.ne_of_lt hlt)]
      exact (hf b hb).1
  done := by
    intro X hP hw hK hc i pins s σ H E I hf st hg
    subst hP hw hK
    obtain ⟨hi, hz, hTI, ⟨a0, b0, hTO⟩, h1, h2⟩ := st
    have hg : x.cps.size ≤ i ∨ y.cps.size ≤ i := hg
    have D1 : Draws X.prog X.w X.A.in1 i1 [i1] x.cps.size (fun i v => ∃ c u, x.cps[i]? = some c ∧ v = .str ⟨#[c]⟩ u) (fun i h => h.IsStrIter i1 (strIterType x) x t i) := Draws.text (show X.A.in1.handled = none from I.ok.hd hc) i1 x t
    have D2 : Draws X.prog X.w X.A.in1 i2 [i2] y.cps.size (fun i v => ∃ c u, y.cps[i]? = some c ∧ v = .str ⟨#[c]⟩ u) (fun i h => h.IsStrIter i2 (strIterType y) y u i) := Draws.text (show X.A.in1.handled = none from I.ok.hd hc) i2 y u
    exact wpAny_pyNext_zipD2_end S D1 D2 hz hTI hTO h1 h2 hi.1 hi.2 (by omega) fun h' tk hk => ⟨rfl, I.turnedL (t' := tk) (ch := [z, TI, TO, i1, i2]) (fun c o hb q =>
      hk c o (fun q' => hb (by simp [q'])) (fun q' => hb (by simp [q'])) (fun q' => hb (by simp [q'])) (fun q' => hb (by simp [q'])) q) hf⟩
  self := fun A i s Q E st h => wpAny_pyIter_zip st.2.1 h
def iZipS (ta : TA) : TI := fun σ H R => ta σ H fun vs H1 => ∃ x y, vs = [.str x, .str y] ∧ R (Itzs x y) H1
theorem pi_zipS {X : Cx} {e e2 : Expr} {ta : TA} {p pos tpos : Pos} {elts : List Expr} {kk : Nat} (hg : Gl X "zip") (hm : X.mg "zip" = none) (ha : PA X [e, e2] ta)
    (hs : starEach [e, e2] X.env = (false, eval e X.env) :: starEach [e2] X.env := by rfl) (hpl : (backTo pos (starEach [e2] X.env)).any (·.1) = false := by rfl) :
    PI X (.Tuple elts kk tpos) (.Call (.Name "zip" p) [e, e2] [] pos) (iZipS ta) := by
  refine ⟨fun pins s σ H R I h => ?_⟩
  refine Call_ (ld_blt I hg hm PyProof.Rows.boot_zip (PyProof.Rows.callWith_type1 (thn (ha.run pos pins s σ H _ I h) fun us s1 ⟨vs, H1, I1, r1, q1⟩ => ?_) hs hpl))
  obtain ⟨x, y, ex, q⟩ := q1
  subst ex
  cases r1 with
  | cons r rr =>
    cases rr with
    | cons r' rr =>
      cases rr
      obtain ⟨t, rfl⟩ := r
      obtain ⟨u, rfl⟩ := r'
      have fresh5 : ∀ c, c ∈ [s1.heap.objs.size + 4, s1.heap.objs.size + 2, s1.heap.objs.size + 3, s1.heap.objs.size, s1.heap.objs.size + 1] → FpOk X pins H1 c := fun c hcm => by
        have hle : s1.heap.objs.size ≤ c := by simp at hcm; omega
        exact I1.fpOk hle (I1.hok.fresh hle)
      refine zip_begins2 (begins_text x t) (begins_text y u) trivial trivial fun h' hz hTI hTO g1 g2 hsz hk => wpAny_pyIter_zip hz ?_
      have I2 : Inv X pins σ H1 { s1 with heap := h' } := I1.kept (t' := s1.toks) hk
      have S : ZipSep2 (s1.heap.objs.size + 4) (s1.heap.objs.size + 2) (s1.heap.objs.size + 3) s1.heap.objs.size (s1.heap.objs.size + 1) [s1.heap.objs.size] [s1.heap.objs.size + 1] := by
        constructor <;> simp <;> omega
      exact ⟨s1.heap.objs.size + 4, [s1.heap.objs.size + 4, s1.heap.objs.size + 2, s1.heap.objs.size + 3, s1.heap.objs.size, s1.heap.objs.size + 1], _, _, H1, rfl, I2, turn_zipS x y t u S, ⟨⟨Nat.zero_le _, Nat.zero_le _⟩, hz, hTI, ⟨_, _, hTO⟩, ⟨_, g1, rfl, rfl⟩, ⟨_, g2, rfl, rfl⟩⟩, fresh5, q⟩
def kZipS : List PyData → Option (List PyData)
  | [.str x, .str y] => some (zipL (signs x.cps.toList) (signs y.cps.toList))
  | _ => none
theorem itd_zipS {K : PySem.W.Frag} {Z : Hp} {x y : Str} : ItD K (Itzs x y) Z (zipL (signs x.cps.toList) (signs y.cps.toList)) := by
  intro Z1 H z1 s1 i
  rw [zipL_len, signs_len, signs_len]
  refine ⟨fun hi => ⟨(by show i < x.cps.size ∧ i < y.cps.size; simp at hi; omega), fun v H' yy => ?_⟩, fun hi => (by show x.cps.size ≤ i ∨ y.cps.size ≤ i; simp at hi; omega)⟩
  obtain ⟨T, c, d, rfl, hT, rfl, ec, ed⟩ := yy
  have gr := Grow.new (o := .tup [.str ⟨#[c]⟩, .str ⟨#[d]⟩]) s1 hT
  refine ⟨_, gr, .tuple [.str (tx [c]), .str (tx [d])], zipL_get _ _ _ _ _ ?_ ?_, .tup (SqT.of upd_same) (.cons (.str _) (.cons (.str _) .nil))⟩
  · unfold signs
    rw [List.getElem?_map, Array.getElem?_toList, ec]
    rfl
  · unfold signs
    rw [List.getElem?_map, Array.getElem?_toList, ed]
    rfl
section
variable {X : Cx} {W : XW} {g : AF} {p pos : Pos}
theorem ji_zipS {e e2 : Expr} {tpos : Pos} {elts : List Expr} {kk : Nat} (hm : X.mg "zip" = none) (ha : JA X W [e, e2] g) (hg : Gl X "zip" := by rfl) (hs : starEach [e, e2] X.env = (false, eval e X.env) :: starEach [e2] X.env := by rfl) (hpl : (backTo pos (starEach [e2] X.env)).any (·.1) = false := by rfl) :
    JI X W (.Tuple elts kk tpos) (.Call (.Name "zip" p) [e, e2] [] pos) (iA g kZipS) := by
  refine pi_imp (pi_zipS hg hm ha hs hpl) fun σ H R q => ?_
  refine tA_mono (tI_args q) fun vs H1 q => ?_
  obtain ⟨Z, ds, xs, sub, hd, ek, q⟩ := q
  unfold kZipS at ek
  split at ek
  · cases ek
    obtain ⟨v, w, rfl, hv, hw⟩ := rpa2 hd
    cases hv
    cases hw
    exact ⟨_, _, rfl, q _ itd_zipS⟩
  · cases ek
end
end DL
set_option autoImplicit false
/-! Ev: working out a meaning, step by step, from the left; used as simp rules. -/
namespace DL
open PySem PySem.Spec PyProof.Rows L2

theorem nrfl {α : Sort _} {a b : α} (h : a = b) : a = b := h
def bndE (r : Option (Rs × SE)) (k : PyData → EF) (dl : DE) : Option (Rs × SE) := match r with
  | some (.ok d, st) => k d dl st
  | some (.ex c p, st) => some (.ex c p, st)
  | none => none
theorem r_eB {f : EF} {k : PyData → EF} {dl : DE} {st : SE} : eB f k dl st = bndE (f dl st) k dl := by
  unfold eB bnd bndE; rfl
theorem r_bnd {r : Option (Rs × SE)} {k : PyData → SE → Option (Rs × SE)} : bnd r k = bndE r (fun d _ st => k d st) [] := by
  unfold bnd bndE; rfl
theorem r_bo {d : PyData} {st : SE} {k : PyData → EF} {dl : DE} : bndE (some (.ok d, st)) k dl = k d dl st := nrfl rfl
theorem r_be {c : Str} {p : Option PyData} {st : SE} {k : PyData → EF} {dl : DE} : bndE (some (.ex c p, st)) k dl = some (.ex c p, st) := nrfl rfl
def eRk (c : Option PyData) (st : SE) : Option (Rs × SE) := c.map fun d => (.ok d, st)
theorem r_eR {c : Option PyData} {dl : DE} {st : SE} : eR c dl st = eRk c st := nrfl rfl
theorem r_Rs {d : PyData} {st : SE} : eRk (some d) st = some (.ok d, st) := nrfl rfl
theorem r_bin {op : PyData → PyData → Option PyData} {f g : EF} {dl : DE} {st : SE} : eBin op f g dl st = bndE (f dl st) (fun a => eB g fun b => eR (op a b)) dl := r_eB
theorem r_un {op : PyData → Option PyData} {f : EF} {dl : DE} {st : SE} : eUn op f dl st = bndE (f dl st) (fun a => eR (op a)) dl := r_eB
theorem r_c {d : PyData} {dl : DE} {st : SE} : eC d dl st = some (.ok d, st) := nrfl rfl
def eVk (o : Option (Option SV)) (st : SE) : Option (Rs × SE) := match o with
  | some (some (.d x)) => some (.ok x, st)
  | _ => none
theorem r_v {i : Nat} {dl : DE} {st : SE} : eV i dl st = eVk dl[i]? st := by unfold eV eVk; rfl
theorem r_vd {x : PyData} {st : SE} : eVk (some (some (.d x))) st = some (.ok x, st) := nrfl rfl
theorem r_and {f g : EF} {dl : DE} {st : SE} : eAnd f g dl st = bndE (f dl st) (fun a => match a with
  | .bool true => g
  | .bool false => eC (.bool false)
  | _ => fun _ _ => none) dl := r_eB
theorem r_or {f g : EF} {dl : DE} {st : SE} : eOr f g dl st = bndE (f dl st) (fun a => match a with
  | .bool true => eC (.bool true)
  | .bool false => g
  | _ => fun _ _ => none) dl := r_eB
theorem r_if {c f g : EF} {dl : DE} {st : SE} : eIf c f g dl st = bndE (c dl st) (fun a => match a with
  | .bool true => f
  | .bool false => g
  | _ => fun _ _ => none) dl := r_eB
def eAk (r : Option (RA × SE)) (k : List SV → EF) (dl : DE) : Option (Rs × SE) := match r with
  | some (.ok vs, st1) => k vs dl st1
  | some (.ex c p, st1) => some (.ex c p, st1)
  | none => none
theorem r_eA {g : AF} {k : List SV → EF} {dl : DE} {st : SE} : eA g k dl st = eAk (g dl st) k dl := nrfl rfl
theorem r_eAo {vs : List SV} {st : SE} {k : List SV → EF} {dl : DE} : eAk (some (.ok vs, st)) k dl = k vs dl st := nrfl rfl
theorem r_eAe {c : Str} {p : Option PyData} {st : SE} {k : List SV → EF} {dl : DE} : eAk (some (.ex c p, st)) k dl = some (.ex c p, st) := nrfl rfl
def eDk (r : Option (List PyData)) (k : List PyData → EF) (dl : DE) (st : SE) : Option (Rs × SE) := match r with
  | some ds => k ds dl st
  | none => none
def eADk (r : Option (RA × SE)) (k : List PyData → EF) (dl : DE) : Option (Rs × SE) := match r with
  | some (.ok vs, st1) => eDk (svD vs) k dl st1
  | some (.ex c p, st1) => some (.ex c p, st1)
  | none => none
theorem r_eAD {g : AF} {k : List PyData → EF} {dl : DE} {st : SE} : eAD g k dl st = eADk (g dl st) k dl := by
  unfold eAD eA eADk eDk; rfl
theorem r_eADo {vs : List SV} {st : SE} {k : List PyData → EF} {dl : DE} : eADk (some (.ok vs, st)) k dl = eDk (svD vs) k dl st := nrfl rfl
theorem r_eADe {c : Str} {p : Option PyData} {st : SE} {k : List PyData → EF} {dl : DE} : eADk (some (.ex c p, st)) k dl = some (.ex c p, st) := nrfl rfl
theorem r_eDk {ds : List PyData} {k : List PyData → EF} {dl : DE} {st : SE} : eDk (some ds) k dl st = k ds dl st := nrfl rfl
theorem r_CB {op : List PyData → Option PyData} {g : AF} {dl : DE} {st : SE} : eCB op g dl st = eADk (g dl st) (fun ds => eR (op ds)) dl := r_eAD
theorem r_aN {dl : DE} {st : SE} : aN dl st = some (.ok [], st) := nrfl rfl
def aDk (r : Option (Rs × SE)) (g : AF) (dl : DE) : Option (RA × SE) := match r with
  | some (.ok d, st1) => consA (.d d) (g dl st1)
  | some (.ex c p, st1) => some (.ex c p, st1)
  | none => none
theorem r_aD {f : EF} {g : AF} {dl : DE} {st : SE} : aD f g dl st = aDk (f dl st) g dl := nrfl rfl
theorem r_aDo {d : PyData} {g : AF} {dl : DE} {st : SE} : aDk (some (.ok d, st)) g dl = consA (.d d) (g dl st) := nrfl rfl
theorem r_aDe {c : Str} {p : Option PyData} {g : AF} {dl : DE} {st : SE} : aDk (some (.ex c p, st)) g dl = some (.ex c p, st) := nrfl rfl
def aOk (o : Option (Option SV)) (g : AF) (dl : DE) (st : SE) : Option (RA × SE) := match o with
  | some (some v) => consA v (g dl st)
  | _ => none
theorem r_aO {i : Nat} {g : AF} {dl : DE} {st : SE} : aO i g dl st = aOk dl[i]? g dl st := by unfold aO aOk; rfl
theorem r_aOo {v : SV} {g : AF} {dl : DE} {st : SE} : aOk (some (some v)) g dl st = consA v (g dl st) := nrfl rfl
theorem r_cA {v : SV} {vs : List SV} {st : SE} : consA v (some (.ok vs, st)) = some (.ok (v :: vs), st) := nrfl rfl
theorem r_cAe {v : SV} {c : Str} {p : Option PyData} {st : SE} : consA v (some (.ex c p, st)) = some (.ex c p, st) := nrfl rfl
theorem r_sv0 : svD [] = some [] := nrfl rfl
theorem r_sv1 {x : PyData} {r : List SV} : svD (.d x :: r) = (svD r).map (x :: ·) := nrfl rfl
def eCk (r : Option (RA × SE)) (F : FF) : Option (Rs × SE) := match r with
  | some (.ok vs, st1) => F vs st1
  | some (.ex c p, st1) => some (.ex c p, st1)
  | none => none
theorem r_call {F : FF} {g : AF} {dl : DE} {st : SE} : eCall F g dl st = eCk (g dl st) F := by unfold eCall eA eCk; rfl
theorem r_callo {F : FF} {vs : List SV} {st : SE} : eCk (some (.ok vs, st)) F = F vs st := nrfl rfl
theorem r_calle {F : FF} {c : Str} {p : Option PyData} {st : SE} : eCk (some (.ex c p, st)) F = some (.ex c p, st) := nrfl rfl
theorem r_O0 {k : Option Int → EF} : eO none k = k none := nrfl rfl
theorem r_O1 {g : EF} {k : Option Int → EF} {dl : DE} {st : SE} : eO (some g) k dl st = bndE (g dl st) (fun d => match d with
    | .int i => k (some i)
    | _ => fun _ _ => none) dl := r_eB
theorem r_Sl {f : EF} {lo hi : Option EF} {dl : DE} {st : SE} : eSl f lo hi dl st = bndE (f dl st) (fun d => eO lo fun l => eO hi fun h => eR (pSl d l h)) dl := r_eB
theorem r_Ch {p p' : PyData → PyData → Option PyData} {f g h : EF} {dl : DE} {st : SE} : eCh p p' f g h dl st = bndE (f dl st) (fun a => eB g fun b => eB (eR (p a b)) fun k => match k with
  | .bool true => eB h fun c => eR (p' b c)
  | .bool false => eC (.bool false)
  | _ => fun _ _ => none) dl := r_eB
theorem r_M {T : String} {op : PyData → List PyData → Option PyData} {f : EF} {g : AF} {dl : DE} {st : SE} : eM T op f g dl st = bndE (f dl st) (fun d => if tyB T d then eAD g fun ds => eR (op d ds) else fun _ _ => none) dl := r_eB
def eLnk (o : Option (Option SV)) (st : SE) : Option (Rs × SE) := match o with
  | some (some (.o j)) => match st[j]? with
    | some (.l xs) => some (.ok (.int xs.length), st)
    | _ => none
  | some (some (.s ns)) => some (.ok (.int ns.length), st)
  | _ => none
theorem r_Ln {i : Nat} {dl : DE} {st : SE} : eLn i dl st = eLnk dl[i]? st := by unfold eLn eLnk; rfl
theorem r_Lns {ns : List Int} {st : SE} : eLnk (some (some (.s ns))) st = some (.ok (.int ns.length), st) := nrfl rfl
theorem r_Lno {j : Nat} {xs : List PyData} {st : SE} (h : st[j]? = some (.l xs)) : eLnk (some (some (.o j))) st = some (.ok (.int xs.length), st) := by
  unfold eLnk
  dsimp only
  rw [h]
def eIxk (o : Option (Option SV)) (f : EF) (dl : DE) (st : SE) : Option (Rs × SE) := match o with
  | some (some (.s ns)) => bndE (f dl st) (fun d _ st1 => match d with
    | .int k => (atI ns k).map fun n => (.ok (.int n), st1)
    | _ => none) dl
  | _ => none
theorem r_Ix {i : Nat} {f : EF} {dl : DE} {st : SE} : eIxS i f dl st = eIxk dl[i]? f dl st := by
  unfold eIxS eIxk
  cases dl[i]? with
  | none => rfl
  | some o =>
    cases o with
    | none => rfl
    | some v => cases v <;> first | rfl | exact r_bnd
theorem r_Ixs {ns : List Int} {f : EF} {dl : DE} {st : SE} : eIxk (some (some (.s ns))) f dl st = bndE (f dl st) (fun d _ st1 => match d with
    | .int k => (atI ns k).map fun n => (.ok (.int n), st1)
    | _ => none) dl := nrfl rfl
def eNlk (o : Option (Option SV)) (st : SE) : Option (Rs × SE) := match o with
  | some (some (.s ns)) => some (.ok (.bool ns.isEmpty), st)
  | _ => none
theorem r_Nl {i : Nat} {dl : DE} {st : SE} : eNlS i dl st = eNlk dl[i]? st := by unfold eNlS eNlk; rfl
theorem r_Nls {ns : List Int} {st : SE} : eNlk (some (some (.s ns))) st = some (.ok (.bool ns.isEmpty), st) := nrfl rfl
/-! what is walked -/
def iDj (o : Option (List PyData)) (st : SE) : Option (RI × SE) := o.map fun xs => (.ok xs, st)
def iDk (r : Option (Rs × SE)) : Option (RI × SE) := match r with
  | some (.ok d, st1) => iDj (itemsOf d) st1
  | some (.ex c p, st1) => some (.ex c p, st1)
  | none => none
theorem r_iD {f : EF} {dl : DE} {st : SE} : iD f dl st = iDk (f dl st) := by unfold iD iDk iDj; rfl
theorem r_iDo {d : PyData} {st : SE} : iDk (some (.ok d, st)) = iDj (itemsOf d) st := nrfl rfl
theorem r_iDe {c : Str} {p : Option PyData} {st : SE} : iDk (some (.ex c p, st)) = some (.ex c p, st) := nrfl rfl
theorem r_iDj {xs : List PyData} {st : SE} : iDj (some xs) st = some (.ok xs, st) := nrfl rfl
def iAj (o : Option (List PyData)) (k : List PyData → Option (List PyData)) (st : SE) : Option (RI × SE) := match o with
  | some ds => iDj (k ds) st
  | none => none
def iAk (r : Option (RA × SE)) (k : List PyData → Option (List PyData)) : Option (RI × SE) := match r with
  | some (.ok vs, st1) => iAj (svD vs) k st1
  | some (.ex c p, st1) => some (.ex c p, st1)
  | none => none
theorem r_iA {g : AF} {k : List PyData → Option (List PyData)} {dl : DE} {st : SE} : iA g k dl st = iAk (g dl st) k := by unfold iA iAk iAj iDj; rfl
theorem r_iAo {vs : List SV} {k : List PyData → Option (List PyData)} {st : SE} : iAk (some (.ok vs, st)) k = iAj (svD vs) k st := nrfl rfl
theorem r_iAe {c : Str} {p : Option PyData} {k : List PyData → Option (List PyData)} {st : SE} : iAk (some (.ex c p, st)) k = some (.ex c p, st) := nrfl rfl
theorem r_iAj {ds : List PyData} {k : List PyData → Option (List PyData)} {st : SE} : iAj (some ds) k st = iDj (k ds) st := nrfl rfl
/-! statements -/
def seqK (r : Option (Fl × DE × SE)) (g : SF) : Option (Fl × DE × SE) := match r with
  | some (.nx, dl1, st1) => g dl1 st1
  | r => r
theorem r_Q {f g : SF} {dl : DE} {st : SE} : sQ f g dl st = seqK (f dl st) g := by unfold sQ seqK; rfl
theorem r_Qn {g : SF} {dl : DE} {st : SE} : seqK (some (.nx, dl, st)) g = g dl st := nrfl rfl
theorem r_Qr {g : SF} {dl : DE} {st : SE} {d : PyData} : seqK (some (.rt d, dl, st)) g = some (.rt d, dl, st) := nrfl rfl
theorem r_Qb {g : SF} {dl : DE} {st : SE} : seqK (some (.bk, dl, st)) g = some (.bk, dl, st) := nrfl rfl
theorem r_Qc {g : SF} {dl : DE} {st : SE} : seqK (some (.ct, dl, st)) g = some (.ct, dl, st) := nrfl rfl
theorem r_Qe {g : SF} {dl : DE} {st : SE} {c : Str} {p : Option PyData} : seqK (some (.ex c p, dl, st)) g = some (.ex c p, dl, st) := nrfl rfl
def bndS (r : Option (Rs × SE)) (k : PyData → SF) (dl : DE) : Option (Fl × DE × SE) := match r with
  | some (.ok d, st1) => k d dl st1
  | some (.ex c p, st1) => some (.ex c p, dl, st1)
  | none => none
theorem r_B {f : EF} {k : PyData → SF} {dl : DE} {st : SE} : sB f k dl st = bndS (f dl st) k dl := by unfold sB bndS; rfl
theorem r_Bo {d : PyData} {st : SE} {k : PyData → SF} {dl : DE} : bndS (some (.ok d, st)) k dl = k d dl st := nrfl rfl
theorem r_Be {c : Str} {p : Option PyData} {st : SE} {k : PyData → SF} {dl : DE} : bndS (some (.ex c p, st)) k dl = some (.ex c p, dl, st) := nrfl rfl
theorem r_G {bd : BF} {f : EF} {dl : DE} {st : SE} : sG bd f dl st = bndS (f dl st) (fun d dl st => (bd d dl).map fun dl' => (.nx, dl', st)) dl := r_B
theorem r_R {f : EF} {dl : DE} {st : SE} : sR f dl st = bndS (f dl st) (fun d dl st => some (.rt d, dl, st)) dl := r_B
theorem r_E {f : EF} {dl : DE} {st : SE} : sE f dl st = bndS (f dl st) (fun _ => sN) dl := r_B
theorem r_I {c : EF} {f g : SF} {dl : DE} {st : SE} : sI c f g dl st = bndS (c dl st) (fun d => match d with
  | .bool true => f
  | .bool false => g
  | _ => fun _ _ => none) dl := r_B
theorem r_N {dl : DE} {st : SE} : sN dl st = some (.nx, dl, st) := nrfl rfl
theorem r_X {dl : DE} {st : SE} : sX dl st = none := nrfl rfl
def forK (r : Option (RI × SE)) (bd : BF) (body : SF) (dl : DE) : Option (Fl × DE × SE) := match r with
  | some (.ok xs, st1) => forGo bd body xs dl st1
  | some (.ex c p, st1) => some (.ex c p, dl, st1)
  | none => none
theorem r_F {src : IF} {bd : BF} {body : SF} {dl : DE} {st : SE} : sF src bd body dl st = forK (src dl st) bd body dl := by unfold sF forK; rfl
theorem r_Fo {xs : List PyData} {bd : BF} {body : SF} {dl : DE} {st : SE} : forK (some (.ok xs, st)) bd body dl = forGo bd body xs dl st := nrfl rfl
def lcK (r : Option (RI × SE)) (vs : List Nat) (bd : BF) (t e : EF) (dl : DE) : Option (Rs × SE) := match r with
  | some (.ok xs, st1) => if xs.length ≤ 1000000 then (lcGo bd t e (wipeD dl vs) xs [] st1).map fun r => (.ok (.list r.1), r.2) else none
  | some (.ex c p, st1) => some (.ex c p, st1)
  | none => none
theorem r_lc {src : IF} {vs : List Nat} {bd : BF} {t e : EF} {dl : DE} {st : SE} : eLc src vs bd t e dl st = lcK (src dl st) vs bd t e dl := by unfold eLc lcK; rfl
theorem r_lco {xs : List PyData} {vs : List Nat} {bd : BF} {t e : EF} {dl : DE} {st st' : SE} {ys : List PyData} (hl : xs.length ≤ 1000000) (h : lcGo bd t e (wipeD dl vs) xs [] st = some (ys, st')) : lcK (some (.ok xs, st)) vs bd t e dl = some (.ok (.list ys), st') := by
  unfold lcK
  dsimp only
  rw [if_pos hl, h]
  rfl
def fnK (r : Option (Fl × DE × SE)) (n : Nat) : Option (Rs × SE) := match r with
  | some (.rt d, _, st') => some (.ok d, st'.take n)
  | some (.nx, _, st') => some (.ok .none, st'.take n)
  | some (.ex c p, _, st') => some (.ex c p, st'.take n)
  | _ => none
theorem r_fn {n np : Nat} {sf : SF} {svs : List SV} {st : SE} (h : svs.length = np) : fnB n np sf svs st = fnK (sf (svs.map some ++ List.replicate (n - np) none) st) st.length := by
  unfold fnB
  rw [if_pos h]
  rfl
theorem r_fnr {d : PyData} {dl : DE} {st : SE} {n : Nat} : fnK (some (.rt d, dl, st)) n = some (.ok d, st.take n) := nrfl rfl
theorem r_fnn {dl : DE} {st : SE} {n : Nat} : fnK (some (.nx, dl, st)) n = some (.ok .none, st.take n) := nrfl rfl
theorem r_fne {c : Str} {p : Option PyData} {dl : DE} {st : SE} {n : Nat} : fnK (some (.ex c p, dl, st)) n = some (.ex c p, st.take n) := nrfl rfl
theorem r_tk {st : SE} : st.take st.length = st := List.take_length
/-! lists that change -/
def apK (o : Option (Option SV)) (f : EF) (dl : DE) (st : SE) : Option (Fl × DE × SE) := match o with
  | some (some (.o j)) => match st[j]? with
    | some (.l _) => match f dl st with
      | some (.ok d, st1) => match st1[j]? with
        | some (.l xs) => if xs.length < 1000000 then some (.nx, dl, st1.set j (.l (xs ++ [d]))) else none
        | _ => none
      | some (.ex c p, st1) => some (.ex c p, dl, st1)
      | none => none
    | _ => none
  | _ => none
theorem r_Ap {i j : Nat} {f : EF} {dl : DE} {st st1 : SE} {ys xs : List PyData} {d : PyData} (h1 : dl[i]? = some (some (.o j))) (h2 : st[j]? = some (.l ys)) (h3 : f dl st = some (.ok d, st1)) (h4 : st1[j]? = some (.l xs)) (h5 : xs.length < 1000000) :
    sAp i f dl st = some (.nx, dl, st1.set j (.l (xs ++ [d]))) := by
  unfold sAp
  simp only [h1, h2, h3, h4, h5, if_true]
theorem r_Fz {i j : Nat} {f : SF} {dl : DE} {st : SE} {xs : List PyData} (h1 : dl[i]? = some (some (.o j))) (h2 : st[j]? = some (.l xs)) : sFz i f dl st = f (dl.set i (some (.d (.list xs)))) (st.set j .dead) := by
  unfold sFz
  simp only [h1, h2]
theorem r_Nw0 {i : Nat} {dl : DE} {st : SE} : sNw i aN dl st = some (.nx, dl.set i (some (.o st.length)), st ++ [.l []]) := nrfl rfl
/-! binders -/
theorem r_bT {r : BFs} {ds : List PyData} {dl : DE} : bT r (.tuple ds) dl = r ds dl := nrfl rfl
theorem r_bsN {dl : DE} : bsN [] dl = some dl := nrfl rfl
def bsK (o : Option DE) (r : BFs) (ds : List PyData) : Option DE := match o with
  | some dl1 => r ds dl1
  | none => none
theorem r_bsC {b : BF} {r : BFs} {d : PyData} {ds : List PyData} {dl : DE} : bsC b r (d :: ds) dl = bsK (b d dl) r ds := nrfl rfl
theorem r_bsK {dl : DE} {r : BFs} {ds : List PyData} : bsK (some dl) r ds = r ds dl := nrfl rfl
theorem r_bs2 {i j : Nat} {ds : List PyData} {dl : DE} : bs2 i j ds dl = bsC (bN i) (bsC (bN j) bsN) ds dl := nrfl rfl
theorem r_bs3 {i j l : Nat} {ds : List PyData} {dl : DE} : bs3 i j l ds dl = bsC (bN i) (bsC (bN j) (bsC (bN l) bsN)) ds dl := nrfl rfl
theorem r_bN {i : Nat} {d : PyData} {dl : DE} : bN i d dl = some (dl.set i (some (.d d))) := nrfl rfl
theorem r_w0 {dl : DE} : wipeD dl [] = dl := nrfl rfl
theorem r_w1 {dl : DE} {v : Nat} {vs : List Nat} : wipeD dl (v :: vs) = (wipeD dl vs).set v none := nrfl rfl
/-! operations -/
theorem r_I2 {C : Int → Int → Bool} {g : Int → Int → Int} {i j : Int} (h : C i j = true) : pI2 C g (.int i) (.int j) = some (.int (g i j)) := by
  unfold pI2; dsimp only; rw [if_pos h]
theorem r_IB {g : Int → Int → Bool} {i j : Int} : pIB g (.int i) (.int j) = some (.bool (g i j)) := nrfl rfl
theorem r_addI {i j : Int} : pAdd (.int i) (.int j) = some (.int (i + j)) := nrfl rfl
theorem r_addS {a b : List Nat} (h : a.length + b.length ≤ 1000000) : pAdd (.str (tx a)) (.str (tx b)) = some (.str (tx (a ++ b))) := by
  unfold pAdd
  dsimp only
  rw [tx_length, tx_length, if_pos h, tx_app]
theorem r_addL {a b : List PyData} (h : a.length + b.length ≤ 1000000) : pAdd (.list a) (.list b) = some (.list (a ++ b)) := by
  unfold pAdd
  dsimp only
  rw [if_pos h]
theorem r_mulI {i j : Int} (h : i.natAbs < 2 ^ 64 ∨ j.natAbs < 2 ^ 64) : pMul (.int i) (.int j) = some (.int (i * j)) := by
  unfold pMul
  dsimp only
  rw [if_pos h]
theorem r_sub {i j : Int} : pSub (.int i) (.int j) = some (.int (i - j)) := nrfl rfl
theorem r_fdv {i j : Int} (h0 : 0 < j) (h1 : j < 1073741824) : pFdv (.int i) (.int j) = some (.int (i / j)) := r_I2 (by simp [h0, h1])
theorem r_mod {i j : Int} (h0 : 0 < j) : pMod (.int i) (.int j) = some (.int (i % j)) := r_I2 (by simp [h0])
theorem r_shl {i j : Int} (h0 : 0 ≤ j) (h1 : j ≤ 1000000) (h2 : i.natAbs < 2 ^ 64) : pShl (.int i) (.int j) = some (.int (i * 2 ^ j.toNat)) := r_I2 (by simp [h0, h1]; exact h2)
theorem r_shr {i j : Int} (h0 : 0 ≤ j) : pShr (.int i) (.int j) = some (.int (i / 2 ^ j.toNat)) := r_I2 (by simp [h0])
theorem r_pow {i j : Int} (h0 : 0 ≤ j) (h1 : j ≤ 1000000) (h2 : i.natAbs < 2 ^ 64) : pPow (.int i) (.int j) = some (.int (i ^ j.toNat)) := r_I2 (by simp [h0, h1]; exact h2)
theorem r_neg {i : Int} : pNeg (.int i) = some (.int (-i)) := nrfl rfl
theorem r_not {b : Bool} : pNot (.bool b) = some (.bool (!b)) := nrfl rfl
theorem r_min {i j : Int} : pMin2 [.int i, .int j] = some (.int (min i j)) := nrfl rfl
theorem r_max {i j : Int} : pMax2 [.int i, .int j] = some (.int (max i j)) := nrfl rfl
theorem r_lenS {l : List Nat} (h : l.length ≤ 1000000) : pLen [.str (tx l)] = some (.int l.length) := by
  unfold pLen
  dsimp only
  rw [tx_length, if_pos h, tx_toList]
theorem r_lenL {l : List PyData} : pLen [.list l] = some (.int l.length) := nrfl rfl
theorem r_lenT {l : List PyData} : pLen [.tuple l] = some (.int l.length) := nrfl rfl
theorem r_tup {ds : List PyData} (h : ds.length ≤ 1000) : pTup ds = some (.tuple ds) := by unfold pTup; rw [if_pos h]
theorem r_lst {ds : List PyData} (h : ds.length ≤ 1000) : pLst ds = some (.list ds) := by unfold pLst; rw [if_pos h]
theorem r_eqS {a b : List Nat} : pEq (.str (tx a)) (.str (tx b)) = some (.bool (decide (a = b))) := by
  unfold pEq pEqB
  simp [tx_inj]
theorem r_neS {a b : List Nat} : pNe (.str (tx a)) (.str (tx b)) = some (.bool (!decide (a = b))) := by
  unfold pNe pEqB
  simp [tx_inj]
theorem r_eqI {i j : Int} : pEq (.int i) (.int j) = some (.bool (decide (i = j))) := by
  unfold pEq pEqB
  simp [dpt, PyData.eqv]
  rfl
theorem r_neI {i j : Int} : pNe (.int i) (.int j) = some (.bool (!decide (i = j))) := by
  unfold pNe pEqB
  simp [dpt, PyData.eqv]
  rfl
theorem r_revS {l : List Nat} (h : l.length ≤ 1000000) : pRev (.str (tx l)) = some (.str (tx l.reverse)) := by
  unfold pRev
  dsimp only
  rw [tx_length, if_pos h, tx_toList]
theorem r_ixS {l : List Nat} {i : Int} (h : l.length ≤ 1000000) : pIx (.str (tx l)) (.int i) = (atI l i).map fun c => .str (tx [c]) := by
  unfold pIx
  dsimp only
  rw [tx_length, if_pos h, tx_toList]
theorem r_ixL {l : List PyData} {i : Int} : pIx (.list l) (.int i) = atI l i := nrfl rfl
theorem r_ixT {l : List PyData} {i : Int} : pIx (.tuple l) (.int i) = atI l i := nrfl rfl
theorem r_slS {l : List Nat} {lo hi : Option Int} (h : l.length ≤ 1000000) : pSl (.str (tx l)) lo hi = some (.str (tx (cutL l lo hi))) := by
  unfold pSl
  dsimp only
  rw [tx_length, if_pos h, tx_toList]
theorem r_slL {l : List PyData} {lo hi : Option Int} : pSl (.list l) lo hi = some (.list (cutL l lo hi)) := nrfl rfl
theorem r_tyS {x : Str} : tyB "str" (.str x) = true := nrfl rfl
theorem r_itS {l : List Nat} : itemsOf (.str (tx l)) = some (signs l) := by unfold itemsOf; dsimp only; rw [tx_toList]
theorem r_itL {l : List PyData} : itemsOf (.list l) = some l := nrfl rfl
theorem r_itT {l : List PyData} : itemsOf (.tuple l) = some l := nrfl rfl
theorem r_rg1 {j : Int} (h : inLine j = true) : kRg1 [.int j] = some (rangeL 0 j) := by unfold kRg1; dsimp only; rw [if_pos h]
theorem r_rg2 {i j : Int} (h : (inLine i && inLine j) = true) : kRg2 [.int i, .int j] = some (rangeL i j) := by unfold kRg2; dsimp only; rw [if_pos h]
theorem in_line {i : Int} (h0 : -4611686018427387904 ≤ i) (h1 : i < 4611686018427387904) : inLine i = true := by
  unfold inLine
  simp
  omega
theorem r_enS {l : List Nat} : kEnum [.str (tx l)] = some (enumL 0 (signs l)) := by unfold kEnum; dsimp only; rw [tx_toList]
theorem r_enL {l : List PyData} : kEnum [.list l] = some (enumL 0 l) := nrfl rfl
theorem r_zip {l m : List PyData} : kZip [.list l, .list m] = some (zipL l m) := nrfl rfl
theorem r_CallK {n m : Nat} {F : FF} {g g2 : AF} {dl : DE} {st : SE} : eCallK n m F g g2 dl st = eAk (g dl st) (fun vs => eA g2 fun zs _ st => if vs.length = n ∧ zs.length = m then F (vs ++ zs) st else none) dl := by unfold eCallK; exact r_eA
theorem r_dSel {ds : List PyData} {sel : List (Nat ⊕ Nat)} {F : FF} {svs : List SV} {st : SE} : dSel ds sel F svs st = F (selG (ds.map SV.d) svs sel) st := nrfl rfl
theorem r_s0 {α : Type} {ds xs : List α} : selG ds xs [] = [] := nrfl rfl
theorem r_sl {α : Type} {ds xs : List α} {i : Nat} {r : List (Nat ⊕ Nat)} : selG ds xs (.inl i :: r) = (xs[i]?).toList ++ selG ds xs r := nrfl rfl
theorem r_sr {α : Type} {ds xs : List α} {i : Nat} {r : List (Nat ⊕ Nat)} : selG ds xs (.inr i :: r) = (ds[i]?).toList ++ selG ds xs r := nrfl rfl
theorem r_St2 {f : EF} {lo : Option EF} {dl : DE} {st : SE} : eSt2 f lo dl st = bndE (f dl st) (fun d => eO lo fun l => eR (pSt2 d l)) dl := r_eB
def eIxOk (o : Option (Option SV)) (f : EF) (dl : DE) (st : SE) : Option (Rs × SE) := match o with
  | some (some (.o j)) => bndE (f dl st) (fun d _ st1 => match d with
    | .int k => match st1[j]? with
      | some (.l xs) => (atI xs k).map fun n => (.ok n, st1)
      | _ => none
    | _ => none) dl
  | _ => none
theorem r_IxO {i : Nat} {f : EF} {dl : DE} {st : SE} : eIxO i f dl st = eIxOk dl[i]? f dl st := by
  unfold eIxO eIxOk
  cases dl[i]? with
  | none => rfl
  | some o =>
    cases o with
    | none => rfl
    | some v => cases v <;> first | rfl | exact r_bnd
theorem r_IxOo {j : Nat} {f : EF} {dl : DE} {st : SE} : eIxOk (some (some (.o j))) f dl st = bndE (f dl st) (fun d _ st1 => match d with
    | .int k => match st1[j]? with
      | some (.l xs) => (atI xs k).map fun n => (.ok n, st1)
      | _ => none
    | _ => none) dl := nrfl rfl
theorem lit_ {l : List Nat} {s : Str} (h : s.cps.toList = l) : s = tx l := by rw [← h, tx_cps]
/-! exceptions -/
theorem r_Rz {c : Str} {dl : DE} {st : SE} : sRz c dl st = some (.ex c none, dl, st) := nrfl rfl
theorem r_RzP {c : Str} {f : EF} {dl : DE} {st : SE} : sRzP c f dl st = bndS (f dl st) (fun d dl st => some (.ex c (some d), dl, st)) dl := r_B
def trK (o : Option PyData) (dl : DE) (st : SE) : Option (Fl × DE × SE) := o.map fun d => (.rt d, dl, st)
def tryK (r : Option (Fl × DE × SE)) (h : Str → Option PyData → Option PyData) : Option (Fl × DE × SE) := match r with
  | some (.ex c p, dl1, st1) => trK (h c p) dl1 st1
  | r => r
theorem r_Try {f : SF} {h : Str → Option PyData → Option PyData} {dl : DE} {st : SE} : sTry f h dl st = tryK (f dl st) h := by unfold sTry tryK trK; rfl
theorem r_Tr {h : Str → Option PyData → Option PyData} {d : PyData} {dl : DE} {st : SE} : tryK (some (.rt d, dl, st)) h = some (.rt d, dl, st) := nrfl rfl
theorem r_Tn {h : Str → Option PyData → Option PyData} {dl : DE} {st : SE} : tryK (some (.nx, dl, st)) h = some (.nx, dl, st) := nrfl rfl
theorem r_Te {h : Str → Option PyData → Option PyData} {c : Str} {p : Option PyData} {dl : DE} {st : SE} : tryK (some (.ex c p, dl, st)) h = trK (h c p) dl st := nrfl rfl
theorem r_Tk {d : PyData} {dl : DE} {st : SE} : trK (some d) dl st = some (.rt d, dl, st) := nrfl rfl
def clK (o : Option FF) (g : AF) : EF := match o with
  | some F => eCall F g
  | none => fun _ _ => none
theorem r_CL {Fs : List FF} {ix : EF} {g : AF} {dl : DE} {st : SE} : eCallL Fs ix g dl st = bndE (ix dl st) (fun d => match d with
  | .int i => clK (atI Fs i) g
  | _ => fun _ _ => none) dl := by
  unfold eCallL clK
  first
    | (rw [r_eB]; done)
    | (rw [r_eB]; rfl)
theorem r_cl {F : FF} {g : AF} : clK (some F) g = eCall F g := nrfl rfl
theorem r_at0 {a : FF} {l : List FF} : atI (a :: l) 0 = some a := atI_nat (j := 0) rfl
theorem r_at1 {a b : FF} {l : List FF} : atI (a :: b :: l) 1 = some b := atI_nat (j := 1) rfl
theorem r_at2 {a b c : FF} {l : List FF} : atI (a :: b :: c :: l) 2 = some c := atI_nat (j := 2) rfl
theorem r_at3 {a b c d : FF} {l : List FF} : atI (a :: b :: c :: d :: l) 3 = some d := atI_nat (j := 3) rfl
theorem r_at4 {a b c d e : FF} {l : List FF} : atI (a :: b :: c :: d :: e :: l) 4 = some e := atI_nat (j := 4) rfl
theorem r_hA0 {p : Option PyData} : hA "NoHalvings" p = some (rfz 0) := by unfold hA; rw [show whN.findIdx? (· == ("NoHalvings" : Str)) = some 0 by decide +kernel]; rfl
theorem r_hBA0 : hBA "NoHalvings" none = some (rfz 0) := by unfold hBA; dsimp only; rw [if_neg (by decide +kernel), r_hA0]
theorem r_hCA0 : hCA "NoHalvings" none = some (rfz 0) := by unfold hCA; dsimp only; rw [if_neg (by decide +kernel), r_hA0]
theorem r_hA1 {p : Option PyData} : hA "NoPlace" p = some (rfz 1) := by unfold hA; rw [show whN.findIdx? (· == ("NoPlace" : Str)) = some 1 by decide +kernel]; rfl
theorem r_hA2 {p : Option PyData} : hA "NoCount" p = some (rfz 2) := by unfold hA; rw [show whN.findIdx? (· == ("NoCount" : Str)) = some 2 by decide +kernel]; rfl
theorem r_hBA2 : hBA "NoCount" none = some (rfz 2) := by unfold hBA; dsimp only; rw [if_neg (by decide +kernel), r_hA2]
theorem r_hCA2 : hCA "NoCount" none = some (rfz 2) := by unfold hCA; dsimp only; rw [if_neg (by decide +kernel), r_hA2]
theorem r_hA3 {p : Option PyData} : hA "NoRow" p = some (rfz 3) := by unfold hA; rw [show whN.findIdx? (· == ("NoRow" : Str)) = some 3 by decide +kernel]; rfl
theorem r_hBA3 : hBA "NoRow" none = some (rfz 3) := by unfold hBA; dsimp only; rw [if_neg (by decide +kernel), r_hA3]
theorem r_hCA3 : hCA "NoRow" none = some (rfz 3) := by unfold hCA; dsimp only; rw [if_neg (by decide +kernel), r_hA3]
theorem r_hA4 {p : Option PyData} : hA "NoFit" p = some (rfz 4) := by unfold hA; rw [show whN.findIdx? (· == ("NoFit" : Str)) = some 4 by decide +kernel]; rfl
theorem r_hBA4 : hBA "NoFit" none = some (rfz 4) := by unfold hBA; dsimp only; rw [if_neg (by decide +kernel), r_hA4]
theorem r_hCA4 : hCA "NoFit" none = some (rfz 4) := by unfold hCA; dsimp only; rw [if_neg (by decide +kernel), r_hA4]
theorem r_hA5 {p : Option PyData} : hA "NoPoint" p = some (rfz 5) := by unfold hA; rw [show whN.findIdx? (· == ("NoPoint" : Str)) = some 5 by decide +kernel]; rfl
theorem r_hBA5 : hBA "NoPoint" none = some (rfz 5) := by unfold hBA; dsimp only; rw [if_neg (by decide +kernel), r_hA5]
theorem r_hCA5 : hCA "NoPoint" none = some (rfz 5) := by unfold hCA; dsimp only; rw [if_neg (by decide +kernel), r_hA5]
theorem r_hA6 {p : Option PyData} : hA "NoPile" p = some (rfz 6) := by unfold hA; rw [show whN.findIdx? (· == ("NoPile" : Str)) = some 6 by decide +kernel]; rfl
theorem r_hBA6 : hBA "NoPile" none = some (rfz 6) := by unfold hBA; dsimp only; rw [if_neg (by decide +kernel), r_hA6]
theorem r_hCA6 : hCA "NoPile" none = some (rfz 6) := by unfold hCA; dsimp only; rw [if_neg (by decide +kernel), r_hA6]
theorem r_hA7 {p : Option PyData} : hA "NoSide" p = some (rfz 7) := by unfold hA; rw [show whN.findIdx? (· == ("NoSide" : Str)) = some 7 by decide +kernel]; rfl
theorem r_hBA7 : hBA "NoSide" none = some (rfz 7) := by unfold hBA; dsimp only; rw [if_neg (by decide +kernel), r_hA7]
theorem r_hCA7 : hCA "NoSide" none = some (rfz 7) := by unfold hCA; dsimp only; rw [if_neg (by decide +kernel), r_hA7]
theorem r_hA8 {p : Option PyData} : hA "NoCut" p = some (rfz 8) := by unfold hA; rw [show whN.findIdx? (· == ("NoCut" : Str)) = some 8 by decide +kernel]; rfl
theorem r_hBA8 : hBA "NoCut" none = some (rfz 8) := by unfold hBA; dsimp only; rw [if_neg (by decide +kernel), r_hA8]
theorem r_hCA8 : hCA "NoCut" none = some (rfz 8) := by unfold hCA; dsimp only; rw [if_neg (by decide +kernel), r_hA8]
theorem r_hA9 {p : Option PyData} : hA "NoMarks" p = some (rfz 9) := by unfold hA; rw [show whN.findIdx? (· == ("NoMarks" : Str)) = some 9 by decide +kernel]; rfl
theorem r_hBA9 : hBA "NoMarks" none = some (rfz 9) := by unfold hBA; dsimp only; rw [if_neg (by decide +kernel), r_hA9]
theorem r_hCA9 : hCA "NoMarks" none = some (rfz 9) := by unfold hCA; dsimp only; rw [if_neg (by decide +kernel), r_hA9]
theorem r_hA10 {p : Option PyData} : hA "NoEndless" p = some (rfz 10) := by unfold hA; rw [show whN.findIdx? (· == ("NoEndless" : Str)) = some 10 by decide +kernel]; rfl
theorem r_hBA10 : hBA "NoEndless" none = some (rfz 10) := by unfold hBA; dsimp only; rw [if_neg (by decide +kernel), r_hA10]
theorem r_hCA10 : hCA "NoEndless" none = some (rfz 10) := by unfold hCA; dsimp only; rw [if_neg (by decide +kernel), r_hA10]
theorem r_hA11 {p : Option PyData} : hA "NoText" p = some (rfz 11) := by unfold hA; rw [show whN.findIdx? (· == ("NoText" : Str)) = some 11 by decide +kernel]; rfl
theorem r_hBA11 : hBA "NoText" none = some (rfz 11) := by unfold hBA; dsimp only; rw [if_neg (by decide +kernel), r_hA11]
theorem r_hCA11 : hCA "NoText" none = some (rfz 11) := by unfold hCA; dsimp only; rw [if_neg (by decide +kernel), r_hA11]
theorem r_hA12 {p : Option PyData} : hA "NoWay" p = some (rfz 12) := by unfold hA; rw [show whN.findIdx? (· == ("NoWay" : Str)) = some 12 by decide +kernel]; rfl
theorem r_hBA12 : hBA "NoWay" none = some (rfz 12) := by unfold hBA; dsimp only; rw [if_neg (by decide +kernel), r_hA12]
theorem r_hCA12 : hCA "NoWay" none = some (rfz 12) := by unfold hCA; dsimp only; rw [if_neg (by decide +kernel), r_hA12]
theorem r_hA13 {p : Option PyData} : hA "Full" p = some (rfz 13) := by unfold hA; rw [show whN.findIdx? (· == ("Full" : Str)) = some 13 by decide +kernel]; rfl
theorem r_hBA13 : hBA "Full" none = some (rfz 13) := by unfold hBA; dsimp only; rw [if_neg (by decide +kernel), r_hA13]
theorem r_hCA13 : hCA "Full" none = some (rfz 13) := by unfold hCA; dsimp only; rw [if_neg (by decide +kernel), r_hA13]
theorem r_hA14 {p : Option PyData} : hA "Nothing" p = some (rfz 14) := by unfold hA; rw [show whN.findIdx? (· == ("Nothing" : Str)) = some 14 by decide +kernel]; rfl
theorem r_hBA14 : hBA "Nothing" none = some (rfz 14) := by unfold hBA; dsimp only; rw [if_neg (by decide +kernel), r_hA14]
theorem r_hCA14 : hCA "Nothing" none = some (rfz 14) := by unfold hCA; dsimp only; rw [if_neg (by decide +kernel), r_hA14]
theorem r_hBP {x : PyData} : hBA "NoPlace" (some x) = some (.tuple [.str "place", x]) := by unfold hBA; dsimp only; rw [if_pos rfl]
theorem r_hCP {x : PyData} : hCA "NoPlace" (some x) = some (.tuple [.str "place", x, .bool true, rfz 1]) := by unfold hCA; dsimp only; rw [if_pos rfl]
def iRvk (r : Option (Rs × SE)) : Option (RI × SE) := match r with
  | some (.ok (.int j), st1) => if inLine j then some (.ok (rangeL 0 j).reverse, st1) else none
  | some (.ex c p, st1) => some (.ex c p, st1)
  | _ => none
theorem r_iRv {f : EF} {dl : DE} {st : SE} : iRv f dl st = iRvk (f dl st) := by unfold iRv iRvk; rfl
theorem r_iRo {j : Int} {st : SE} (h : inLine j = true) : iRvk (some (.ok (.int j), st)) = some (.ok (rangeL 0 j).reverse, st) := by unfold iRvk; dsimp only; rw [if_pos h]
theorem r_lofL {l : List PyData} : pListOf [.list l] = some (.list l) := nrfl rfl
theorem r_lofT {l : List PyData} : pListOf [.tuple l] = some (.list l) := nrfl rfl
theorem r_tofL {l : List PyData} : pTupleOf [.list l] = some (.tuple l) := nrfl rfl
theorem r_tofT {l : List PyData} : pTupleOf [.tuple l] = some (.tuple l) := nrfl rfl
theorem r_bits {i : Int} : pBits (.int i) = some (.int ((Builtin.Int.intBits i : Nat) : Int)) := nrfl rfl
theorem r_tyL {x : List PyData} : tyB "list" (.list x) = true := nrfl rfl
theorem r_Ch3 {p p' p'' : PyData → PyData → Option PyData} {f g h i : EF} {dl : DE} {st : SE} : eCh3 p p' p'' f g h i dl st = bndE (f dl st) (fun a => eB g fun b => eB (eR (p a b)) (kTF (eB h fun c => eB (eR (p' b c)) (kTF (eB i fun d => eR (p'' c d)))))) dl := r_eB
theorem r_kT' {k : EF} : kTF k (.bool true) = k := nrfl rfl
theorem r_kF {k : EF} : kTF k (.bool false) = eC (.bool false) := nrfl rfl
theorem r_zipS {a b : List Nat} : kZipS [.str (tx a), .str (tx b)] = some (zipL (signs a) (signs b)) := by unfold kZipS; dsimp only; rw [tx_toList, tx_toList]
end DL
set_option autoImplicit false
namespace DL
open PySem PySem.Spec PyProof.Rows L2
def lb_law_cell_at_1 : SF := sV 2 (eBin pFdv (eV 2) (eC (.int 1000003)))
def sf_law_cell_at : SF := sQ (sI (eBin pLt (eV 1) (eLn 0)) (sR (eIxS 0 (eV 1))) (sN)) (sQ (sI (eNlS 0) (sR (eC (.int 0))) (sN)) (sQ (sV 2 (eIxS 0 (eBin pMod (eV 1) (eLn 0)))) (sQ (sF (iA (aD (eCB pMin2 (aD (eBin pFdv (eV 1) (eLn 0)) (aD (eC (.int 60)) (aN)))) (aN)) kRg1) (bN 3) lb_law_cell_at_1) (sR (eBin pAdd (eBin pAdd (eBin pMul (eIxS 0 (eBin pMod (eV 1) (eLn 0))) (eC (.int 31))) (eV 1)) (eBin pMul (eV 2) (eC (.int 101))))))))
def dn_law_cell_at : FF := fnB 4 2 sf_law_cell_at
def sf_law_mixed : SF := sQ (sV 3 (eBin pMod (eBin pAdd (eBin pAdd (eBin pMul (eCall dn_law_cell_at (aO 0 (aD (eV 1) (aN)))) (eC (.int 1103515245))) (eBin pMul (eC (.int 7919)) (eV 1))) (eC (.int 12345))) (eC (.int 2147483647)))) (sR (eBin pMod (eBin pMod (eBin pMod (eBin pPow (eV 3) (eC (.int 5))) (eC (.int 2147483647))) (eC (.int 999983))) (eV 2)))
def dn_law_mixed : FF := fnB 4 3 sf_law_mixed
def sf_law_draw : SF := sQ (sAp 1 (eC (.int 0))) (sR (eCall dn_law_mixed (aO 0 (aD (eLn 1) (aD (eV 2) (aN))))))
def dn_law_draw : FF := fnB 3 3 sf_law_draw
def lb_law_letters_1 : SF := sG (bT (bs2 3 4)) (eCB pTup (aD (eBin pAdd (eV 3) (eBin pIx (eC (.str "ou")) (eBin pMod (eV 4) (eC (.int 2))))) (aD (eBin pFdv (eV 4) (eC (.int 2))) (aN))))
def lw_law_letters_1 : EF := eBin pLt (eCB pLen (aD (eV 3) (aN))) (eV 2)
def lb_law_letters_2 : SF := sQ (sV 4 (eCall dn_law_draw (aO 0 (aO 1 (aD (eC (.int 32768)) (aN)))))) (sF (iA (aD (eC (.int 15)) (aN)) kRg1) (bN 5) lb_law_letters_1)
def sf_law_letters : SF := sQ (sV 3 (eC (.str ""))) (sQ (whGo lw_law_letters_1 lb_law_letters_2 10000) (sR (eSl (eV 3) none (some (eV 2)))))
def dn_law_letters : FF := fnB 6 3 sf_law_letters
def sf_law_pick : SF := sR (eBin pIx (eV 2) (eCall dn_law_draw (aO 0 (aO 1 (aD (eCB pLen (aD (eV 2) (aN))) (aN))))))
def dn_law_pick : FF := fnB 3 3 sf_law_pick
def sf_law_none : SF := sQ (sV 2 (eCB pLst (aD (eC .none) (aD (eC (.int 5)) (aD (eCB pLst (aD (eC (.str "o")) (aN))) (aD (eCB pTup (aD (eC (.str "o")) (aD (eC (.str "u")) (aN)))) (aD (eC (.str "O")) (aD (eC (.str "ox")) (aD (eC (.str "o u")) (aD (eBin pMul (eC (.str "o")) (eC (.int 61))) (aD (eC (.str "ou\n")) (aD (eC (.str "0")) (aD (eC (.bool true)) (aN)))))))))))))) (sR (eCall dn_law_pick (aO 0 (aO 1 (aD (eV 2) (aN))))))
def dn_law_none : FF := fnB 3 2 sf_law_none
def le_is_letters_1 : EF := eBin pIn (eV 3) (eC (.str "ou"))
def sf_is_letters : SF := sQ (sI (eOr (eUn pNot (eUn (pIsi "str") (eV 0))) (eUn pNot (eCh pLe pLe (eV 1) (eCB pLen (aD (eV 0) (aN))) (eV 2)))) (sR (eC (.bool false))) (sN)) (sR (eCB pAll (aD (eLc (iD (eV 0)) [3] (bN 3) (eC (.bool true)) (le_is_letters_1)) (aN))))
def dn_is_letters : FF := fnB 4 3 sf_is_letters
def sf_is_halvings : SF := sR (eCall dn_is_letters (aD (eV 0) (aD (eC (.int 0)) (aD (eC (.int 60)) (aN)))))
def dn_is_halvings : FF := fnB 1 1 sf_is_halvings
def sf_law_same_number : SF := sR (eAnd (eUn (pIsi "int") (eV 0)) (eAnd (eUn pNot (eUn (pIsi "bool") (eV 0))) (eBin pEq (eV 0) (eV 1))))
def dn_law_same_number : FF := fnB 2 2 sf_law_same_number
def sf_need_halvings : SF := sI (eUn pNot (eCall dn_is_halvings (aD (eV 0) (aN)))) (sRz "NoHalvings") (sN)
def dn_need_halvings : FF := fnB 1 1 sf_need_halvings
def sf_long_of : SF := sR (eBin pShl (eC (.int 1)) (eCB pLen (aD (eV 0) (aN))))
def dn_long_of : FF := fnB 1 1 sf_long_of
def sf_how_long : SF := sQ (sE (eCall dn_need_halvings (aD (eV 0) (aN)))) (sR (eCall dn_long_of (aD (eV 0) (aN))))
def dn_how_long : FF := fnB 1 1 sf_how_long
def sf_other_letter : SF := sR (eIf (eBin pEq (eV 0) (eC (.str "o"))) (eC (.str "u")) (eC (.str "o")))
def dn_other_letter : FF := fnB 1 1 sf_other_letter
def le_others_1 : EF := eCall dn_other_letter (aD (eV 1) (aN))
def sf_others : SF := sR (eM "str" pJoin (eC (.str "")) (aD (eLc (iD (eV 0)) [1] (bN 1) (eC (.bool true)) (le_others_1)) (aN)))
def dn_others : FF := fnB 2 1 sf_others
def sf_turned_over : SF := sQ (sE (eCall dn_need_halvings (aD (eV 0) (aN)))) (sR (eCall dn_others (aD (eV 0) (aN))))
def dn_turned_over : FF := fnB 1 1 sf_turned_over
def sf_turned_round : SF := sQ (sE (eCall dn_need_halvings (aD (eV 0) (aN)))) (sR (eBin pAdd (eSl (eV 0) none (some (eC (.int 1)))) (eCall dn_others (aD (eSl (eV 0) (some (eC (.int 1))) none) (aN)))))
def dn_turned_round : FF := fnB 1 1 sf_turned_round
def sf_law_halvings : SF := sR (eCall dn_law_letters (aO 0 (aO 1 (aD (eCall dn_law_draw (aO 0 (aO 1 (aD (eBin pAdd (eV 2) (eC (.int 1))) (aN))))) (aN)))))
def dn_law_halvings : FF := fnB 3 3 sf_law_halvings
def le_law_row_1 : EF := eIf (eBin pEq (eV 4) (eC (.str "h"))) (eC (.str "r")) (eC (.str "h"))
def lb_law_row_1 : SF := sQ (sV 3 (eM "str" pJoin (eC (.str "")) (aD (eLc (iD (eUn pRev (eV 1))) [4] (bN 4) (eC (.bool true)) (le_law_row_1)) (aN)))) (sV 1 (eBin pAdd (eBin pAdd (eV 1) (eIf (eBin pEq (eV 2) (eC (.str "o"))) (eC (.str "h")) (eC (.str "r")))) (eV 3)))
def sf_law_row : SF := sQ (sV 1 (eC (.str ""))) (sQ (sF (iD (eUn pRev (eV 0))) (bN 2) lb_law_row_1) (sR (eV 1)))
def dn_law_row : FF := fnB 5 1 sf_law_row
def sf_is_whole : SF := sR (eAnd (eUn (pIsi "int") (eV 0)) (eAnd (eUn pNot (eUn (pIsi "bool") (eV 0))) (eCh pLe pLe (eV 1) (eV 0) (eV 2))))
def dn_is_whole : FF := fnB 3 3 sf_is_whole
def sf_need_place : SF := sQ (sE (eCall dn_need_halvings (aD (eV 0) (aN)))) (sI (eUn pNot (eCall dn_is_whole (aD (eV 1) (aD (eV 2) (aD (eV 3) (aN)))))) (sRzP "NoPlace" (eV 1)) (sN))
def dn_need_place : FF := fnB 4 4 sf_need_place
def lw_level_of_1 : EF := eBin pEq (eBin pMod (eV 0) (eC (.int 2))) (eC (.int 0))
def lb_level_of_1 : SF := sG (bT (bs2 0 1)) (eCB pTup (aD (eBin pFdv (eV 0) (eC (.int 2))) (aD (eBin pAdd (eV 1) (eC (.int 1))) (aN))))
def sf_level_of : SF := sQ (sV 1 (eC (.int 0))) (sQ (whGo lw_level_of_1 lb_level_of_1 10000) (sR (eV 1)))
def dn_level_of : FF := fnB 2 1 sf_level_of
def sf_sign_of : SF := sR (eIf (eBin pEq (eBin pEq (eV 0) (eC (.str "o"))) (eBin pEq (eBin pMod (eV 1) (eC (.int 4))) (eC (.int 1)))) (eC (.str "h")) (eC (.str "r")))
def dn_sign_of : FF := fnB 2 2 sf_sign_of
def sf_crease_at : SF := sQ (sV 2 (eCall dn_level_of (aD (eV 1) (aN)))) (sR (eCall dn_sign_of (aD (eBin pIx (eV 0) (eBin pSub (eBin pSub (eCB pLen (aD (eV 0) (aN))) (eC (.int 1))) (eV 2))) (aD (eBin pShr (eV 1) (eV 2)) (aN)))))
def dn_crease_at : FF := fnB 3 2 sf_crease_at
def sf_crease : SF := sQ (sE (eCall dn_need_halvings (aD (eV 0) (aN)))) (sQ (sE (eCall dn_need_place (aD (eV 0) (aD (eV 1) (aD (eC (.int 1)) (aD (eBin pSub (eCall dn_long_of (aD (eV 0) (aN))) (eC (.int 1))) (aN))))))) (sR (eCall dn_crease_at (aD (eV 0) (aD (eV 1) (aN))))))
def dn_crease : FF := fnB 2 2 sf_crease
def lb_law_crease_1 : SF := sQ (sV 2 (eBin pFdv (eV 2) (eC (.int 2)))) (sQ (sI (eBin pEq (eV 1) (eV 2)) (sR (eIf (eBin pNe (eBin pEq (eV 4) (eC (.str "o"))) (eV 3)) (eC (.str "h")) (eC (.str "r")))) (sN)) (sI (eBin pGt (eV 1) (eV 2)) (sG (bT (bs2 1 3)) (eCB pTup (aD (eBin pSub (eBin pMul (eC (.int 2)) (eV 2)) (eV 1)) (aD (eUn pNot (eV 3)) (aN))))) (sN)))
def sf_law_crease : SF := sQ (sG (bT (bs2 2 3)) (eCB pTup (aD (eBin pShl (eC (.int 1)) (eCB pLen (aD (eV 0) (aN)))) (aD (eC (.bool false)) (aN))))) (sQ (sF (iD (eV 0)) (bN 4) lb_law_crease_1) (sR (eC (.str ""))))
def dn_law_crease : FF := fnB 5 2 sf_law_crease
def sf_maker : SF := sQ (sE (eCall dn_need_halvings (aD (eV 0) (aN)))) (sQ (sE (eCall dn_need_place (aD (eV 0) (aD (eV 1) (aD (eC (.int 1)) (aD (eBin pSub (eCall dn_long_of (aD (eV 0) (aN))) (eC (.int 1))) (aN))))))) (sR (eBin pSub (eCB pLen (aD (eV 0) (aN))) (eCall dn_level_of (aD (eV 1) (aN))))))
def dn_maker : FF := fnB 2 2 sf_maker
def le_row_of_1 : EF := eCall dn_crease_at (aD (eV 0) (aD (eV 3) (aN)))
def sf_row_of : SF := sR (eM "str" pJoin (eC (.str "")) (aD (eLc (iA (aD (eV 1) (aD (eV 2) (aN))) kRg2) [3] (bN 3) (eC (.bool true)) (le_row_of_1)) (aN)))
def dn_row_of : FF := fnB 4 3 sf_row_of
def sf_row : SF := sQ (sE (eCall dn_need_halvings (aD (eV 0) (aN)))) (sQ (sE (eCall dn_need_place (aD (eV 0) (aD (eV 1) (aD (eC (.int 1)) (aD (eCall dn_long_of (aD (eV 0) (aN))) (aN))))))) (sQ (sI (eUn pNot (eCall dn_is_whole (aD (eV 2) (aD (eC (.int 0)) (aD (eC (.int 1000)) (aN)))))) (sRz "NoCount") (sN)) (sR (eCall dn_row_of (aD (eV 0) (aD (eV 1) (aD (eCB pMin2 (aD (eBin pAdd (eV 1) (eV 2)) (aD (eCall dn_long_of (aD (eV 0) (aN))) (aN)))) (aN))))))))
def dn_row : FF := fnB 3 3 sf_row
def sf_law_far : SF := sR (eCall dn_law_letters (aO 0 (aO 1 (aD (eCall dn_law_pick (aO 0 (aO 1 (aD (eCB pLst (aD (eC (.int 60)) (aD (eC (.int 59)) (aD (eC (.int 7)) (aD (eC (.int 20)) (aD (eC (.int 33)) (aD (eC (.int 45)) (aD (eC (.int 1)) (aD (eC (.int 2)) (aN)))))))))) (aN))))) (aN)))))
def dn_law_far : FF := fnB 2 2 sf_law_far
def lw_law_big_1 : EF := eBin pGt (eV 4) (eC (.int 0))
def lb_law_big_1 : SF := sG (bT (bs2 3 4)) (eCB pTup (aD (eBin pAdd (eBin pMul (eV 3) (eC (.int 32768))) (eCall dn_law_draw (aO 0 (aO 1 (aD (eC (.int 32768)) (aN)))))) (aD (eBin pFdv (eV 4) (eC (.int 32768))) (aN))))
def sf_law_big : SF := sQ (sG (bT (bs2 3 4)) (eCB pTup (aD (eC (.int 0)) (aD (eV 2) (aN))))) (sQ (whGo lw_law_big_1 lb_law_big_1 10000) (sR (eBin pMod (eV 3) (eV 2))))
def dn_law_big : FF := fnB 5 3 sf_law_big
def lb_hollows_below_1 : SF := sQ (sV 5 (eBin pFdv (eBin pAdd (eBin pShr (eBin pSub (eV 1) (eC (.int 1))) (eV 3)) (eC (.int 1))) (eC (.int 2)))) (sV 2 (eBin pAdd (eV 2) (eIf (eBin pEq (eV 4) (eC (.str "o"))) (eBin pFdv (eBin pAdd (eV 5) (eC (.int 1))) (eC (.int 2))) (eBin pFdv (eV 5) (eC (.int 2))))))
def sf_hollows_below : SF := sQ (sV 2 (eC (.int 0))) (sQ (sF (iA (aD (eUn pRev (eV 0)) (aN)) kEnum) (bT (bsC (bN 3) (bsC (bN 4) (bsN)))) lb_hollows_below_1) (sR (eV 2)))
def dn_hollows_below : FF := fnB 6 2 sf_hollows_below
def sf_turn_at : SF := sR (eBin pSub (eBin pMul (eC (.int 2)) (eCall dn_hollows_below (aD (eV 0) (aD (eBin pAdd (eV 1) (eC (.int 1))) (aN))))) (eV 1))
def dn_turn_at : FF := fnB 2 2 sf_turn_at
def sf_more_hollows : SF := sQ (sE (eCall dn_need_halvings (aD (eV 0) (aN)))) (sR (eCall dn_turn_at (aD (eV 0) (aD (eBin pSub (eCall dn_long_of (aD (eV 0) (aN))) (eC (.int 1))) (aN)))))
def dn_more_hollows : FF := fnB 1 1 sf_more_hollows
def lw_nth_hollow_1 : EF := eBin pLt (eBin pAdd (eV 2) (eC (.int 1))) (eV 3)
def lb_nth_hollow_1 : SF := sQ (sV 4 (eBin pFdv (eBin pAdd (eV 2) (eV 3)) (eC (.int 2)))) (sI (eBin pLt (eCall dn_hollows_below (aD (eV 0) (aD (eV 4) (aN)))) (eV 1)) (sV 2 (eV 4)) (sV 3 (eV 4)))
def sf_nth_hollow : SF := sQ (sE (eCall dn_need_halvings (aD (eV 0) (aN)))) (sQ (sI (eUn pNot (eCall dn_is_whole (aD (eV 1) (aD (eC (.int 1)) (aD (eBin pShl (eC (.int 1)) (eC (.int 60))) (aN)))))) (sRz "NoCount") (sN)) (sQ (sG (bT (bs2 2 3)) (eCB pTup (aD (eC (.int 1)) (aD (eCall dn_long_of (aD (eV 0) (aN))) (aN))))) (sQ (sI (eBin pLt (eCall dn_hollows_below (aD (eV 0) (aD (eV 3) (aN)))) (eV 1)) (sR (eC .none)) (sN)) (sQ (whGo lw_nth_hollow_1 lb_nth_hollow_1 10000) (sR (eV 2))))))
def dn_nth_hollow : FF := fnB 5 2 sf_nth_hollow
def sf_hollows : SF := sQ (sE (eCall dn_need_halvings (aD (eV 0) (aN)))) (sQ (sE (eCall dn_need_place (aD (eV 0) (aD (eV 1) (aD (eC (.int 1)) (aD (eCall dn_long_of (aD (eV 0) (aN))) (aN))))))) (sQ (sE (eCall dn_need_place (aD (eV 0) (aD (eV 2) (aD (eV 1) (aD (eCall dn_long_of (aD (eV 0) (aN))) (aN))))))) (sR (eBin pSub (eCall dn_hollows_below (aD (eV 0) (aD (eV 2) (aN)))) (eCall dn_hollows_below (aD (eV 0) (aD (eV 1) (aN))))))))
def dn_hollows : FF := fnB 3 3 sf_hollows
def le_law_barred_1 : EF := eV 4
def lt_law_barred_1 : EF := eAnd (eBin pEq (eBin pIx (eV 4) (eV 2)) (eBin pIx (eV 0) (eV 2))) (eBin pEq (eBin pIx (eV 4) (eV 3)) (eBin pIx (eV 0) (eV 3)))
def lb_law_barred_1 : SF := sI (eBin pEq (eLc (iD (eV 1)) [4] (bN 4) (lt_law_barred_1) (le_law_barred_1)) (eCB pLst (aN))) (sR (eCB pTup (aD (eBin pAdd (eV 2) (eC (.int 1))) (aD (eBin pAdd (eV 3) (eC (.int 1))) (aN))))) (sN)
def lb_law_barred_2 : SF := sF (iA (aD (eBin pAdd (eV 2) (eC (.int 1))) (aD (eCB pLen (aD (eV 0) (aN))) (aN))) kRg2) (bN 3) lb_law_barred_1
def sf_law_barred : SF := sQ (sF (iA (aD (eCB pLen (aD (eV 0) (aN))) (aN)) kRg1) (bN 2) lb_law_barred_2) (sR (eC .none))
def dn_law_barred : FF := fnB 5 2 sf_law_barred
def le_is_signs_1 : EF := eBin pIn (eV 4) (eV 1)
def sf_is_signs : SF := sQ (sI (eOr (eUn pNot (eUn (pIsi "str") (eV 0))) (eUn pNot (eCh pLe pLe (eV 2) (eCB pLen (aD (eV 0) (aN))) (eV 3)))) (sR (eC (.bool false))) (sN)) (sR (eCB pAll (aD (eLc (iD (eV 0)) [4] (bN 4) (eC (.bool true)) (le_is_signs_1)) (aN))))
def dn_is_signs : FF := fnB 5 4 sf_is_signs
def sf_depth_of : SF := sQ (sI (eUn pNot (eCall dn_is_signs (aD (eV 0) (aD (eV 1) (aD (eC (.int 0)) (aD (eBin pSub (eCall dn_long_of (aD (eBin pMul (eC (.str "o")) (eC (.int 10))) (aN))) (eC (.int 1))) (aN))))))) (sRz "NoRow") (sN)) (sQ (sV 2 (eUn pBits (eCB pLen (aD (eV 0) (aN))))) (sQ (sI (eBin pNe (eCB pLen (aD (eV 0) (aN))) (eBin pSub (eCall dn_long_of (aD (eBin pMul (eC (.str "o")) (eV 2)) (aN))) (eC (.int 1)))) (sRz "NoRow") (sN)) (sR (eV 2))))
def dn_depth_of : FF := fnB 3 2 sf_depth_of
def sf_letter_by : SF := sQ (sV 2 (eBin pShr (eV 0) (eCall dn_level_of (aD (eV 0) (aN))))) (sR (eIf (eBin pEq (eCall dn_sign_of (aD (eC (.str "o")) (aD (eV 2) (aN)))) (eV 1)) (eC (.str "o")) (eC (.str "u"))))
def dn_letter_by : FF := fnB 3 2 sf_letter_by
def le_law_texts_1 : EF := eBin pAdd (eV 3) (eC (.str "o"))
def le_law_texts_2 : EF := eBin pAdd (eV 3) (eC (.str "u"))
def lb_law_texts_1 : SF := sV 1 (eBin pAdd (eLc (iD (eV 1)) [3] (bN 3) (eC (.bool true)) (le_law_texts_1)) (eLc (iD (eV 1)) [3] (bN 3) (eC (.bool true)) (le_law_texts_2)))
def sf_law_texts : SF := sQ (sV 1 (eCB pLst (aD (eC (.str "")) (aN)))) (sQ (sF (iA (aD (eV 0) (aN)) kRg1) (bN 2) lb_law_texts_1) (sR (eCB pSort (aD (eV 1) (aN)))))
def dn_law_texts : FF := fnB 4 1 sf_law_texts
def le_law_fits_1 : EF := eV 2
def lt_law_fits_1 : EF := eBin pNin (eBin pIx (eV 1) (eV 2)) (eCB pTup (aD (eC (.str "?")) (aD (eBin pIx (eV 0) (eV 2)) (aN))))
def sf_law_fits : SF := sR (eBin pEq (eLc (iA (aD (eCB pLen (aD (eV 1) (aN))) (aN)) kRg1) [2] (bN 2) (lt_law_fits_1) (le_law_fits_1)) (eCB pLst (aN)))
def dn_law_fits : FF := fnB 3 2 sf_law_fits
def le_goes_to_and_fro_1 : EF := eBin pNe (eV 1) (eV 2)
def sf_goes_to_and_fro : SF := sR (eCB pAll (aD (eLc (iA (aD (eV 0) (aD (eSl (eV 0) (some (eC (.int 1))) none) (aN))) kZipS) [1, 2] (bT (bsC (bN 1) (bsC (bN 2) (bsN)))) (eC (.bool true)) (le_goes_to_and_fro_1)) (aN)))
def dn_goes_to_and_fro : FF := fnB 3 1 sf_goes_to_and_fro
def lb_stands_1 (self : FF) : SF := sI (eAnd (eCall dn_goes_to_and_fro (aD (eSt2 (eV 0) (some (eV 1))) (aN))) (eCall self (aD (eSt2 (eV 0) (some (eBin pSub (eC (.int 1)) (eV 1)))) (aN)))) (sR (eC (.bool true))) (sN)
def sf_stands (self : FF) : SF := sQ (sI (eBin pLt (eCB pLen (aD (eV 0) (aN))) (eC (.int 2))) (sR (eC (.bool true))) (sN)) (sQ (sF (iA (aD (eC (.int 2)) (aN)) kRg1) (bN 1) (lb_stands_1 self)) (sR (eC (.bool false))))
def dn_stands : Nat → FF
  | 0 => fn0
  | n + 1 => fnB 2 1 (sf_stands (dn_stands n))
def sf_can_stand : SF := sQ (sI (eUn pNot (eCall dn_is_signs (aD (eV 0) (aD (eC (.str "hr")) (aD (eC (.int 0)) (aD (eC (.int 200)) (aN))))))) (sRz "NoRow") (sN)) (sR (eCall (dn_stands 70) (aD (eV 0) (aN))))
def dn_can_stand : FF := fnB 1 1 sf_can_stand
def sf_law_same_truth : SF := sR (eAnd (eUn (pIsi "bool") (eV 0)) (eBin pEq (eV 0) (eV 1)))
def dn_law_same_truth : FF := fnB 2 2 sf_law_same_truth
def le_law_to_and_fro_1 : EF := eV 1
def lt_law_to_and_fro_1 : EF := eBin pEq (eBin pIx (eV 0) (eBin pSub (eV 1) (eC (.int 1)))) (eBin pIx (eV 0) (eV 1))
def sf_law_to_and_fro : SF := sR (eBin pEq (eLc (iA (aD (eC (.int 1)) (aD (eCB pLen (aD (eV 0) (aN))) (aN))) kRg2) [1] (bN 1) (lt_law_to_and_fro_1) (le_law_to_and_fro_1)) (eCB pLst (aN)))
def dn_law_to_and_fro : FF := fnB 2 1 sf_law_to_and_fro
def le_law_can_1 (self : FF) : EF := eSt2 (eV 0) (some (eBin pSub (eC (.int 1)) (eV 2)))
def lt_law_can_1 (self : FF) : EF := eCall dn_law_to_and_fro (aD (eSt2 (eV 0) (some (eV 2))) (aN))
def le_law_can_2 (self : FF) : EF := eV 3
def lt_law_can_2 (self : FF) : EF := eCall self (aD (eV 3) (aN))
def sf_law_can (self : FF) : SF := sQ (sI (eBin pLt (eCB pLen (aD (eV 0) (aN))) (eC (.int 2))) (sR (eC (.bool true))) (sN)) (sQ (sV 1 (eLc (iA (aD (eC (.int 2)) (aN)) kRg1) [2] (bN 2) ((lt_law_can_1 self)) ((le_law_can_1 self)))) (sR (eBin pNe (eLc (iD (eV 1)) [3] (bN 3) ((lt_law_can_2 self)) ((le_law_can_2 self))) (eCB pLst (aN)))))
def dn_law_can : Nat → FF
  | 0 => fn0
  | n + 1 => fnB 4 1 (sf_law_can (dn_law_can n))
def sf_least_odd (self : FF) : SF := sQ (sI (eUn pNot (eCall dn_goes_to_and_fro (aD (eSt2 (eV 1) none) (aN)))) (sR (eC .none)) (sN)) (sQ (sV 2 (eIf (eBin pEq (eCall dn_sign_of (aD (eBin pIx (eV 0) (eC (.int 0))) (aD (eC (.int 1)) (aN)))) (eBin pIx (eV 1) (eC (.int 0)))) (eC (.int 0)) (eC (.int 1)))) (sQ (sI (eBin pEq (eCB pLen (aD (eV 1) (aN))) (eC (.int 1))) (sR (eIf (eBin pLt (eBin pAdd (eBin pMul (eC (.int 2)) (eV 2)) (eC (.int 1))) (eCall dn_long_of (aD (eV 0) (aN)))) (eBin pAdd (eBin pMul (eC (.int 2)) (eV 2)) (eC (.int 1))) (eC .none))) (sN)) (sQ (sV 3 (eCall self (aD (eSl (eV 0) (some (eC (.int 1))) none) (aD (eSt2 (eV 1) (some (eC (.int 1)))) (aD (eBin pMod (eBin pAdd (eV 2) (eC (.int 1))) (eC (.int 2))) (aN)))))) (sR (eIf (eBin pIs (eV 3) (eC .none)) (eC .none) (eBin pSub (eBin pMul (eC (.int 2)) (eV 3)) (eC (.int 1))))))))
def dn_least_odd (self : FF) : FF := fnB 4 2 (sf_least_odd self)
def sf_least_even (self : FF) : SF := sQ (sI (eUn pNot (eCall dn_goes_to_and_fro (aD (eSt2 (eV 1) (some (eC (.int 1)))) (aN)))) (sR (eC .none)) (sN)) (sQ (sV 2 (eC .none)) (sQ (sI (eBin pGt (eCB pLen (aD (eV 1) (aN))) (eC (.int 1))) (sV 2 (eIf (eBin pEq (eCall dn_sign_of (aD (eBin pIx (eV 0) (eC (.int 0))) (aD (eC (.int 1)) (aN)))) (eBin pIx (eV 1) (eC (.int 1)))) (eC (.int 0)) (eC (.int 1)))) (sN)) (sQ (sV 3 (eCall self (aD (eSl (eV 0) (some (eC (.int 1))) none) (aD (eSt2 (eV 1) none) (aD (eV 2) (aN)))))) (sR (eIf (eBin pIs (eV 3) (eC .none)) (eC .none) (eBin pMul (eC (.int 2)) (eV 3)))))))
def dn_least_even (self : FF) : FF := fnB 4 2 (sf_least_even self)
def le_least_place_1 (self : FF) : EF := eV 4
def lt_least_place_1 (self : FF) : EF := eBin pIsn (eV 4) (eC .none)
def sf_least_place (self : FF) : SF := sQ (sI (eBin pEq (eV 0) (eC (.str ""))) (sR (eC .none)) (sN)) (sQ (sNw 3 (aN)) (sQ (sI (eBin pNe (eV 2) (eC (.int 0))) (sAp 3 (eCall (dn_least_odd self) (aD (eV 0) (aD (eV 1) (aN))))) (sN)) (sQ (sI (eBin pNe (eV 2) (eC (.int 1))) (sAp 3 (eCall (dn_least_even self) (aD (eV 0) (aD (eV 1) (aN))))) (sN)) (sFz 3 (sQ (sV 3 (eLc (iD (eV 3)) [4] (bN 4) ((lt_least_place_1 self)) ((le_least_place_1 self)))) (sR (eIf (eBin pNe (eV 3) (eCB pLst (aN))) (eCB pMinL (aD (eV 3) (aN))) (eC .none))))))))
def dn_least_place : Nat → FF
  | 0 => fn0
  | n + 1 => fnB 5 3 (sf_least_place (dn_least_place n))
def sf_first_place : SF := sQ (sE (eCall dn_need_halvings (aD (eV 0) (aN)))) (sQ (sI (eUn pNot (eCall dn_is_signs (aD (eV 1) (aD (eC (.str "hr")) (aD (eC (.int 1)) (aD (eC (.int 40)) (aN))))))) (sRz "NoRow") (sN)) (sR (eCall (dn_least_place 70) (aD (eUn pRev (eV 0)) (aD (eV 1) (aD (eC .none) (aN)))))))
def dn_first_place : FF := fnB 2 2 sf_first_place
def lb_law_way_1 : SF := sQ (sV 2 (eCB pTup (aD (eBin pAdd (eBin pIx (eV 2) (eC (.int 0))) (eBin pIx (eBin pIx (eV 1) (eV 3)) (eC (.int 0)))) (aD (eBin pAdd (eBin pIx (eV 2) (eC (.int 1))) (eBin pIx (eBin pIx (eV 1) (eV 3)) (eC (.int 1)))) (aN))))) (sQ (sAp 4 (eV 2)) (sV 3 (eBin pMod (eBin pAdd (eV 3) (eIf (eBin pEq (eV 5) (eC (.str "h"))) (eC (.int 1)) (eUn pNeg (eC (.int 1))))) (eCB pLen (aD (eV 1) (aN))))))
def sf_law_way : SF := sQ (sG (bT (bsC (bN 2) (bsC (bN 3) (bsN)))) (eCB pTup (aD (eCB pTup (aD (eC (.int 0)) (aD (eC (.int 0)) (aN)))) (aD (eC (.int 0)) (aN))))) (sQ (sNw 4 (aD (eV 2) (aN))) (sQ (sF (iD (eBin pAdd (eV 0) (eC (.str "h")))) (bN 5) lb_law_way_1) (sFz 4 (sR (eV 4)))))
def dn_law_way : FF := fnB 6 2 sf_law_way
def sf_law_quarters : SF := sR (eCB pLst (aD (eCB pTup (aD (eC (.int 1)) (aD (eC (.int 0)) (aN)))) (aD (eCB pTup (aD (eC (.int 0)) (aD (eC (.int 1)) (aN)))) (aD (eCB pTup (aD (eUn pNeg (eC (.int 1))) (aD (eC (.int 0)) (aN)))) (aD (eCB pTup (aD (eC (.int 0)) (aD (eUn pNeg (eC (.int 1))) (aN)))) (aN))))))
def dn_law_quarters : FF := fnB 0 0 sf_law_quarters
def sf_spread : SF := sQ (sG (bT (bsC (bN 2) (bsC (bN 3) (bsN)))) (eV 1)) (sR (eIf (eBin pEq (eV 0) (eC (.str "o"))) (eCB pTup (aD (eBin pSub (eV 2) (eV 3)) (aD (eBin pAdd (eV 2) (eV 3)) (aN)))) (eCB pTup (aD (eBin pAdd (eV 2) (eV 3)) (aD (eBin pSub (eV 3) (eV 2)) (aN))))))
def dn_spread : FF := fnB 4 2 sf_spread
def sf_moved : SF := sR (eCB pTup (aD (eBin pAdd (eBin pIx (eV 0) (eC (.int 0))) (eBin pIx (eBin pIx (eC (.tuple [.tuple [.int (1), .int (0)], .tuple [.int (0), .int (1)], .tuple [.int (-1), .int (0)], .tuple [.int (0), .int (-1)]])) (eV 1)) (eC (.int 0)))) (aD (eBin pAdd (eBin pIx (eV 0) (eC (.int 1))) (eBin pIx (eBin pIx (eC (.tuple [.tuple [.int (1), .int (0)], .tuple [.int (0), .int (1)], .tuple [.int (-1), .int (0)], .tuple [.int (0), .int (-1)]])) (eV 1)) (eC (.int 1)))) (aN))))
def dn_moved : FF := fnB 2 2 sf_moved
def sf_heading_at : SF := sR (eBin pMod (eCall dn_turn_at (aD (eV 0) (aD (eV 1) (aN)))) (eC (.int 4)))
def dn_heading_at : FF := fnB 2 2 sf_heading_at
def lb_point_at_1 : SF := sQ (sV 5 (eBin pShr (eV 1) (eBin pSub (eBin pSub (eCB pLen (aD (eV 0) (aN))) (eC (.int 1))) (eV 3)))) (sQ (sV 2 (eCall dn_spread (aD (eV 4) (aD (eV 2) (aN))))) (sI (eBin pEq (eBin pMod (eV 5) (eC (.int 2))) (eC (.int 1))) (sV 2 (eCall dn_moved (aD (eV 2) (aD (eCall dn_heading_at (aD (eSl (eV 0) none (some (eBin pAdd (eV 3) (eC (.int 1))))) (aD (eBin pSub (eV 5) (eC (.int 1))) (aN)))) (aN))))) (sN)))
def sf_point_at : SF := sQ (sV 2 (eCB pTup (aD (eBin pShr (eV 1) (eCB pLen (aD (eV 0) (aN)))) (aD (eC (.int 0)) (aN))))) (sQ (sF (iA (aD (eV 0) (aN)) kEnum) (bT (bsC (bN 3) (bsC (bN 4) (bsN)))) lb_point_at_1) (sR (eV 2)))
def dn_point_at : FF := fnB 6 2 sf_point_at
def le_way_1 : EF := eCall dn_point_at (aD (eV 0) (aD (eV 3) (aN)))
def sf_way : SF := sQ (sE (eCall dn_need_halvings (aD (eV 0) (aN)))) (sQ (sE (eCall dn_need_place (aD (eV 0) (aD (eV 1) (aD (eC (.int 0)) (aD (eCall dn_long_of (aD (eV 0) (aN))) (aN))))))) (sQ (sI (eUn pNot (eCall dn_is_whole (aD (eV 2) (aD (eC (.int 0)) (aD (eC (.int 1000)) (aN)))))) (sRz "NoCount") (sN)) (sR (eLc (iA (aD (eV 1) (aD (eCB pMin2 (aD (eBin pAdd (eV 1) (eV 2)) (aD (eBin pAdd (eCall dn_long_of (aD (eV 0) (aN))) (eC (.int 1))) (aN)))) (aN))) kRg2) [3] (bN 3) (eC (.bool true)) (le_way_1)))))
def dn_way : FF := fnB 4 3 sf_way
def sf_end : SF := sQ (sE (eCall dn_need_halvings (aD (eV 0) (aN)))) (sR (eCall dn_point_at (aD (eV 0) (aD (eCall dn_long_of (aD (eV 0) (aN))) (aN)))))
def dn_end : FF := fnB 1 1 sf_end
def sf_heading : SF := sQ (sE (eCall dn_need_halvings (aD (eV 0) (aN)))) (sQ (sE (eCall dn_need_place (aD (eV 0) (aD (eV 1) (aD (eC (.int 0)) (aD (eBin pSub (eCall dn_long_of (aD (eV 0) (aN))) (eC (.int 1))) (aN))))))) (sR (eCall dn_heading_at (aD (eV 0) (aD (eV 1) (aN))))))
def dn_heading : FF := fnB 2 2 sf_heading
def sf_point : SF := sQ (sE (eCall dn_need_halvings (aD (eV 0) (aN)))) (sQ (sE (eCall dn_need_place (aD (eV 0) (aD (eV 1) (aD (eC (.int 0)) (aD (eCall dn_long_of (aD (eV 0) (aN))) (aN))))))) (sR (eCall dn_point_at (aD (eV 0) (aD (eV 1) (aN))))))
def dn_point : FF := fnB 2 2 sf_point
def le_law_edges_1 : EF := eCB pTupleOf (aD (eCB pSort (aD (eCB pLst (aD (eV 1) (aD (eV 2) (aN)))) (aN))) (aN))
def sf_law_edges : SF := sR (eLc (iA (aD (eV 0) (aD (eSl (eV 0) (some (eC (.int 1))) none) (aN))) kZip) [1, 2] (bT (bsC (bN 1) (bsC (bN 2) (bsN)))) (eC (.bool true)) (le_law_edges_1))
def dn_law_edges : FF := fnB 3 1 sf_law_edges
def sf_need_few : SF := sI (eUn pNot (eCall dn_is_letters (aD (eV 0) (aD (eC (.int 0)) (aD (eV 1) (aN)))))) (sRz "NoHalvings") (sN)
def dn_need_few : FF := fnB 2 2 sf_need_few
def lb_law_end_1 : SF := sG (bT (bsC (bN 1) (bsC (bN 2) (bsN)))) (eIf (eBin pEq (eV 3) (eC (.str "o"))) (eCB pTup (aD (eBin pSub (eV 1) (eV 2)) (aD (eBin pAdd (eV 1) (eV 2)) (aN)))) (eCB pTup (aD (eBin pAdd (eV 1) (eV 2)) (aD (eBin pSub (eV 2) (eV 1)) (aN)))))
def sf_law_end : SF := sQ (sG (bT (bsC (bN 1) (bsC (bN 2) (bsN)))) (eCB pTup (aD (eC (.int 1)) (aD (eC (.int 0)) (aN))))) (sQ (sF (iD (eUn pRev (eV 0))) (bN 3) lb_law_end_1) (sR (eCB pTup (aD (eV 1) (aD (eV 2) (aN))))))
def dn_law_end : FF := fnB 4 1 sf_law_end
def sf_turned_about : SF := sQ (sG (bT (bs2 3 4)) (eCB pTup (aD (eBin pSub (eBin pIx (eV 2) (eC (.int 0))) (eBin pIx (eV 1) (eC (.int 0)))) (aD (eBin pSub (eBin pIx (eV 2) (eC (.int 1))) (eBin pIx (eV 1) (eC (.int 1)))) (aN))))) (sQ (sG (bT (bsC (bN 3) (bsC (bN 4) (bsN)))) (eIf (eBin pEq (eV 0) (eC (.str "o"))) (eCB pTup (aD (eV 4) (aD (eBin pSub (eC (.int 0)) (eV 3)) (aN)))) (eCB pTup (aD (eBin pSub (eC (.int 0)) (eV 4)) (aD (eV 3) (aN)))))) (sR (eCB pTup (aD (eBin pAdd (eBin pIx (eV 1) (eC (.int 0))) (eV 3)) (aD (eBin pAdd (eBin pIx (eV 1) (eC (.int 1))) (eV 4)) (aN))))))
def dn_turned_about : FF := fnB 5 3 sf_turned_about
def le_box_1 : EF := eV 8
def le_box_2 : EF := eV 9
def le_box_3 : EF := eV 8
def le_box_4 : EF := eV 9
def lb_box_1 : SF := sQ (sG (bT (bs2 5 6)) (eCB pTup (aD (eCall dn_turned_about (aD (eV 4) (aD (eV 3) (aD (eV 1) (aN))))) (aD (eCall dn_turned_about (aD (eV 4) (aD (eV 3) (aD (eV 2) (aN))))) (aN))))) (sQ (sV 7 (eCB pLst (aD (eV 1) (aD (eV 2) (aD (eV 5) (aD (eV 6) (aN))))))) (sQ (sV 1 (eCB pTup (aD (eCB pMinL (aD (eLc (iD (eV 7)) [8, 9] (bT (bsC (bN 8) (bsC (bN 9) (bsN)))) (eC (.bool true)) (le_box_1)) (aN))) (aD (eCB pMinL (aD (eLc (iD (eV 7)) [8, 9] (bT (bsC (bN 8) (bsC (bN 9) (bsN)))) (eC (.bool true)) (le_box_2)) (aN))) (aN))))) (sQ (sV 2 (eCB pTup (aD (eCB pMaxL (aD (eLc (iD (eV 7)) [8, 9] (bT (bsC (bN 8) (bsC (bN 9) (bsN)))) (eC (.bool true)) (le_box_3)) (aN))) (aD (eCB pMaxL (aD (eLc (iD (eV 7)) [8, 9] (bT (bsC (bN 8) (bsC (bN 9) (bsN)))) (eC (.bool true)) (le_box_4)) (aN))) (aN))))) (sV 3 (eCall dn_turned_about (aD (eV 4) (aD (eV 3) (aD (eCB pTup (aD (eC (.int 0)) (aD (eC (.int 0)) (aN)))) (aN)))))))))
def sf_box : SF := sQ (sE (eCall dn_need_halvings (aD (eV 0) (aN)))) (sQ (sG (bT (bsC (bN 1) (bsC (bN 2) (bsC (bN 3) (bsN))))) (eCB pTup (aD (eCB pTup (aD (eC (.int 0)) (aD (eC (.int 0)) (aN)))) (aD (eCB pTup (aD (eC (.int 1)) (aD (eC (.int 0)) (aN)))) (aD (eCB pTup (aD (eC (.int 1)) (aD (eC (.int 0)) (aN)))) (aN)))))) (sQ (sF (iD (eUn pRev (eV 0))) (bN 4) lb_box_1) (sR (eCB pTup (aD (eBin pIx (eV 1) (eC (.int 0))) (aD (eBin pIx (eV 2) (eC (.int 0))) (aD (eBin pIx (eV 1) (eC (.int 1))) (aD (eBin pIx (eV 2) (eC (.int 1))) (aN)))))))))
def dn_box : FF := fnB 10 1 sf_box
def le_need_point_1 : EF := eAnd (eUn (pIsi "int") (eV 3)) (eUn pNot (eUn (pIsi "bool") (eV 3)))
def sf_need_point : SF := sQ (sE (eCall dn_need_halvings (aD (eV 0) (aN)))) (sQ (sV 2 (eAnd (eUn (pIsi "tuple") (eV 1)) (eBin pEq (eCB pLen (aD (eV 1) (aN))) (eC (.int 2))))) (sI (eOr (eUn pNot (eV 2)) (eUn pNot (eCB pAll (aD (eLc (iD (eV 1)) [3] (bN 3) (eC (.bool true)) (le_need_point_1)) (aN))))) (sRz "NoPoint") (sN)))
def dn_need_point : FF := fnB 4 2 sf_need_point
def sf_narrowed : SF := sQ (sG (bT (bsC (bN 2) (bsC (bN 3) (bsN)))) (eV 1)) (sR (eIf (eBin pEq (eV 0) (eC (.str "o"))) (eCB pTup (aD (eBin pFdv (eBin pAdd (eV 2) (eV 3)) (eC (.int 2))) (aD (eBin pFdv (eBin pSub (eV 3) (eV 2)) (eC (.int 2))) (aN)))) (eCB pTup (aD (eBin pFdv (eBin pSub (eV 2) (eV 3)) (eC (.int 2))) (aD (eBin pFdv (eBin pAdd (eV 2) (eV 3)) (eC (.int 2))) (aN))))))
def dn_narrowed : FF := fnB 4 2 sf_narrowed
def le_found_steps_1 (self : FF) : EF := eV 8
def lt_found_steps_1 (self : FF) : EF := eBin pEq (eV 1) (eCB pTup (aD (eV 8) (aD (eC (.int 0)) (aN))))
def le_found_steps_2 (self : FF) : EF := eBin pMul (eC (.int 2)) (eV 8)
def lb_found_steps_1 (self : FF) : SF := sI (eAnd (eBin pLt (eBin pMul (eC (.int 2)) (eV 8)) (eCall dn_long_of (aD (eV 0) (aN)))) (eBin pEq (eCall dn_heading_at (aD (eV 0) (aD (eBin pMul (eC (.int 2)) (eV 8)) (aN)))) (eV 6))) (sAp 5 (eBin pAdd (eBin pMul (eC (.int 2)) (eV 8)) (eC (.int 1)))) (sN)
def lb_found_steps_2 (self : FF) : SF := sQ (sV 7 (eCall dn_moved (aD (eV 1) (aD (eBin pMod (eBin pAdd (eV 6) (eC (.int 2))) (eC (.int 4))) (aN))))) (sF (iD (eCall self (aD (eV 4) (aD (eCall dn_narrowed (aD (eV 3) (aD (eV 7) (aN)))) (aO 2 (aN)))))) (bN 8) (lb_found_steps_1 self))
def sf_found_steps (self : FF) : SF := sQ (sI (eBin pEq (eV 0) (eC (.str ""))) (sR (eLc (iA (aD (eC (.int 2)) (aN)) kRg1) [8] (bN 8) ((lt_found_steps_1 self)) ((le_found_steps_1 self)))) (sN)) (sQ (sG (bT (bs2 3 4)) (eCB pTup (aD (eBin pIx (eV 0) (eUn pNeg (eC (.int 1)))) (aD (eSl (eV 0) none (some (eUn pNeg (eC (.int 1))))) (aN))))) (sQ (sI (eBin pEq (eBin pMod (eBin pAdd (eBin pIx (eV 1) (eC (.int 0))) (eBin pIx (eV 1) (eC (.int 1)))) (eC (.int 2))) (eC (.int 0))) (sR (eLc (iD (eCall self (aD (eV 4) (aD (eCall dn_narrowed (aD (eV 3) (aD (eV 1) (aN)))) (aO 2 (aN)))))) [8] (bN 8) (eC (.bool true)) ((le_found_steps_2 self)))) (sN)) (sQ (sNw 5 (aN)) (sQ (sF (iD (eCB pTup (aD (eC (.int 0)) (aD (eC (.int 2)) (aN))))) (bN 6) (lb_found_steps_2 self)) (sFz 5 (sR (eCB pSort (aD (eV 5) (aN)))))))))
def dn_found_steps (self : FF) : FF := fnB 9 3 (sf_found_steps self)
def sf_law_thirds : SF := sR (eCB pLst (aD (eCB pTup (aD (eC (.int 1)) (aD (eC (.int 0)) (aN)))) (aD (eCB pTup (aD (eC (.int 0)) (aD (eC (.int 1)) (aN)))) (aD (eCB pTup (aD (eUn pNeg (eC (.int 1))) (aD (eUn pNeg (eC (.int 1))) (aN)))) (aN)))))
def dn_law_thirds : FF := fnB 0 0 sf_law_thirds
def sf_swung : SF := sQ (sG (bT (bs2 3 4)) (eCB pTup (aD (eBin pSub (eBin pIx (eV 2) (eC (.int 0))) (eBin pIx (eV 1) (eC (.int 0)))) (aD (eBin pSub (eBin pIx (eV 2) (eC (.int 1))) (eBin pIx (eV 1) (eC (.int 1)))) (aN))))) (sQ (sG (bT (bsC (bN 3) (bsC (bN 4) (bsN)))) (eIf (eBin pEq (eV 0) (eC (.str "o"))) (eCB pTup (aD (eV 4) (aD (eBin pSub (eV 4) (eV 3)) (aN)))) (eCB pTup (aD (eBin pSub (eV 3) (eV 4)) (aD (eV 3) (aN)))))) (sR (eCB pTup (aD (eBin pAdd (eBin pIx (eV 1) (eC (.int 0))) (eV 3)) (aD (eBin pAdd (eBin pIx (eV 1) (eC (.int 1))) (eV 4)) (aN))))))
def dn_swung : FF := fnB 5 3 sf_swung
def lb_ends_of_1 : SF := sAp 1 (eCall dn_swung (aD (eV 2) (aD (eIxO 1 (eUn pNeg (eC (.int 1)))) (aD (eCB pTup (aD (eC (.int 0)) (aD (eC (.int 0)) (aN)))) (aN)))))
def sf_ends_of : SF := sQ (sNw 1 (aD (eCB pTup (aD (eC (.int 1)) (aD (eC (.int 0)) (aN)))) (aN))) (sQ (sF (iD (eUn pRev (eV 0))) (bN 2) lb_ends_of_1) (sFz 1 (sR (eV 1))))
def dn_ends_of : FF := fnB 3 1 sf_ends_of
def sf_third_end : SF := sQ (sE (eCall dn_need_halvings (aD (eV 0) (aN)))) (sR (eBin pIx (eCall dn_ends_of (aD (eV 0) (aN))) (eUn pNeg (eC (.int 1)))))
def dn_third_end : FF := fnB 1 1 sf_third_end
def lb_third_at_1 : SF := sQ (sV 4 (eBin pSub (eV 4) (eC (.int 1)))) (sQ (sV 6 (eBin pShl (eC (.int 1)) (eV 4))) (sI (eBin pGt (eV 1) (eV 6)) (sQ (sV 1 (eBin pSub (eBin pMul (eC (.int 2)) (eV 6)) (eV 1))) (sAp 3 (eCB pTup (aD (eV 5) (aD (eBin pIx (eV 2) (eV 4)) (aN)))))) (sN)))
def lb_third_at_2 : SF := sV 7 (eCall dn_swung (aD (eV 5) (aD (eV 8) (aD (eV 7) (aN)))))
def sf_third_at : SF := sQ (sQ (sV 2 (eCall dn_ends_of (aD (eV 0) (aN)))) (sNw 3 aN)) (sQ (sV 4 (eCB pLen (aD (eV 0) (aN)))) (sQ (sF (iD (eV 0)) (bN 5) lb_third_at_1) (sFz 3 (sQ (sV 7 (eCB pTup (aD (eV 1) (aD (eC (.int 0)) (aN))))) (sQ (sF (iD (eUn pRev (eV 3))) (bT (bsC (bN 5) (bsC (bN 8) (bsN)))) lb_third_at_2) (sR (eV 7)))))))
def dn_third_at : FF := fnB 9 2 sf_third_at
def le_third_way_1 : EF := eCall dn_third_at (aD (eV 0) (aD (eV 3) (aN)))
def sf_third_way : SF := sQ (sE (eCall dn_need_halvings (aD (eV 0) (aN)))) (sQ (sE (eCall dn_need_place (aD (eV 0) (aD (eV 1) (aD (eC (.int 0)) (aD (eCall dn_long_of (aD (eV 0) (aN))) (aN))))))) (sQ (sI (eUn pNot (eCall dn_is_whole (aD (eV 2) (aD (eC (.int 0)) (aD (eC (.int 1000)) (aN)))))) (sRz "NoCount") (sN)) (sR (eLc (iA (aD (eV 1) (aD (eCB pMin2 (aD (eBin pAdd (eV 1) (eV 2)) (aD (eBin pAdd (eCall dn_long_of (aD (eV 0) (aN))) (eC (.int 1))) (aN)))) (aN))) kRg2) [3] (bN 3) (eC (.bool true)) (le_third_way_1)))))
def dn_third_way : FF := fnB 4 3 sf_third_way
def sf_third_heading : SF := sQ (sE (eCall dn_need_halvings (aD (eV 0) (aN)))) (sQ (sE (eCall dn_need_place (aD (eV 0) (aD (eV 1) (aD (eC (.int 0)) (aD (eBin pSub (eCall dn_long_of (aD (eV 0) (aN))) (eC (.int 1))) (aN))))))) (sR (eBin pMod (eCall dn_turn_at (aD (eV 0) (aD (eV 1) (aN)))) (eC (.int 3)))))
def dn_third_heading : FF := fnB 2 2 sf_third_heading
def sf_third_point : SF := sQ (sE (eCall dn_need_halvings (aD (eV 0) (aN)))) (sQ (sE (eCall dn_need_place (aD (eV 0) (aD (eV 1) (aD (eC (.int 0)) (aD (eCall dn_long_of (aD (eV 0) (aN))) (aN))))))) (sR (eCall dn_third_at (aD (eV 0) (aD (eV 1) (aN))))))
def dn_third_point : FF := fnB 2 2 sf_third_point
def sf_law_finer : SF := sQ (sG (bT (bsC (bN 2) (bsC (bN 3) (bsN)))) (eV 1)) (sR (eIf (eBin pEq (eV 0) (eC (.str "o"))) (eCB pTup (aD (eBin pSub (eV 2) (eV 3)) (aD (eV 2) (aN)))) (eCB pTup (aD (eV 3) (aD (eBin pSub (eV 3) (eV 2)) (aN))))))
def dn_law_finer : FF := fnB 4 2 sf_law_finer
def le_law_columns_1 : EF := eCB pLst (aD (eV 6) (aN))
def le_law_columns_2 : EF := eUn pRev (eV 7)
def le_law_columns_3 : EF := eIf (eBin pEq (eV 3) (eC (.str "o"))) (eBin pAdd (eV 8) (eV 9)) (eBin pAdd (eV 9) (eV 8))
def lb_law_columns_1 : SF := sQ (sV 4 (eBin pFdv (eCB pLen (aD (eV 2) (aN))) (eC (.int 2)))) (sQ (sV 5 (eLc (iD (eUn pRev (eSl (eV 2) (some (eV 4)) none))) [7] (bN 7) (eC (.bool true)) (le_law_columns_2))) (sV 2 (eLc (iA (aD (eSl (eV 2) none (some (eV 4))) (aD (eV 5) (aN))) kZip) [8, 9] (bT (bsC (bN 8) (bsC (bN 9) (bsN)))) (eC (.bool true)) (le_law_columns_3))))
def sf_law_columns : SF := sQ (sV 2 (eLc (iA (aD (eV 1) (aN)) kRg1) [6] (bN 6) (eC (.bool true)) (le_law_columns_1))) (sQ (sF (iD (eV 0)) (bN 3) lb_law_columns_1) (sR (eV 2)))
def dn_law_columns : FF := fnB 10 2 sf_law_columns
def lb_segment_of_1 : SF := sQ (sV 3 (eBin pFdv (eV 3) (eC (.int 2)))) (sQ (sV 6 (eIf (eBin pEq (eV 5) (eC (.str "o"))) (eBin pGe (eV 1) (eV 3)) (eBin pLt (eV 1) (eV 3)))) (sQ (sI (eV 6) (sQ (sV 2 (eBin pSub (eBin pSub (eBin pMul (eC (.int 2)) (eV 4)) (eC (.int 1))) (eV 2))) (sV 1 (eIf (eBin pEq (eV 5) (eC (.str "o"))) (eBin pSub (eBin pSub (eBin pMul (eC (.int 2)) (eV 3)) (eC (.int 1))) (eV 1)) (eBin pSub (eBin pSub (eV 3) (eC (.int 1))) (eV 1))))) (sI (eBin pEq (eV 5) (eC (.str "u"))) (sV 1 (eBin pSub (eV 1) (eV 3))) (sN))) (sV 4 (eBin pMul (eC (.int 2)) (eV 4)))))
def sf_segment_of : SF := sQ (sG (bT (bs3 2 3 4)) (eCB pTup (aD (eC (.int 0)) (aD (eCall dn_long_of (aD (eV 0) (aN))) (aD (eC (.int 1)) (aN)))))) (sQ (sF (iD (eUn pRev (eV 0))) (bN 5) lb_segment_of_1) (sR (eV 2)))
def dn_segment_of : FF := fnB 7 2 sf_segment_of
def le_pile_of_1 : EF := eCall dn_segment_of (aD (eV 0) (aD (eV 1) (aN)))
def sf_pile_of : SF := sR (eLc (iA (aD (eCall dn_long_of (aD (eV 0) (aN))) (aN)) kRg1) [1] (bN 1) (eC (.bool true)) (le_pile_of_1))
def dn_pile_of : FF := fnB 2 1 sf_pile_of
def sf_pile : SF := sQ (sE (eCall dn_need_few (aD (eV 0) (aD (eC (.int 10)) (aN))))) (sR (eCall dn_pile_of (aD (eV 0) (aN))))
def dn_pile : FF := fnB 1 1 sf_pile
def lb_height_of_1 : SF := sQ (sV 2 (eBin pFdv (eV 2) (eC (.int 2)))) (sQ (sI (eBin pGe (eV 1) (eV 2)) (sQ (sV 1 (eBin pSub (eBin pSub (eBin pMul (eC (.int 2)) (eV 2)) (eC (.int 1))) (eV 1))) (sV 3 (eIf (eBin pEq (eV 5) (eC (.str "o"))) (eBin pSub (eBin pSub (eBin pMul (eC (.int 2)) (eV 4)) (eC (.int 1))) (eV 3)) (eBin pSub (eBin pSub (eV 4) (eC (.int 1))) (eV 3))))) (sI (eBin pEq (eV 5) (eC (.str "u"))) (sV 3 (eBin pAdd (eV 4) (eV 3))) (sN))) (sV 4 (eBin pMul (eC (.int 2)) (eV 4))))
def sf_height_of : SF := sQ (sG (bT (bs3 2 3 4)) (eCB pTup (aD (eCall dn_long_of (aD (eV 0) (aN))) (aD (eC (.int 0)) (aD (eC (.int 1)) (aN)))))) (sQ (sF (iD (eV 0)) (bN 5) lb_height_of_1) (sR (eV 3)))
def dn_height_of : FF := fnB 6 2 sf_height_of
def sf_height : SF := sQ (sE (eCall dn_need_halvings (aD (eV 0) (aN)))) (sQ (sE (eCall dn_need_place (aD (eV 0) (aD (eV 1) (aD (eC (.int 0)) (aD (eBin pSub (eCall dn_long_of (aD (eV 0) (aN))) (eC (.int 1))) (aN))))))) (sR (eCall dn_height_of (aD (eV 0) (aD (eV 1) (aN))))))
def dn_height : FF := fnB 2 2 sf_height
def sf_between : SF := sQ (sE (eCall dn_need_halvings (aD (eV 0) (aN)))) (sQ (sE (eCall dn_need_place (aD (eV 0) (aD (eV 1) (aD (eC (.int 0)) (aD (eBin pSub (eCall dn_long_of (aD (eV 0) (aN))) (eC (.int 1))) (aN))))))) (sQ (sE (eCall dn_need_place (aD (eV 0) (aD (eV 2) (aD (eC (.int 0)) (aD (eBin pSub (eCall dn_long_of (aD (eV 0) (aN))) (eC (.int 1))) (aN))))))) (sR (eCB pMax2 (aD (eC (.int 0)) (aD (eBin pSub (eCB pAbs (aD (eBin pSub (eCall dn_height_of (aD (eV 0) (aD (eV 1) (aN)))) (eCall dn_height_of (aD (eV 0) (aD (eV 2) (aN))))) (aN))) (eC (.int 1))) (aN)))))))
def dn_between : FF := fnB 3 3 sf_between
def sf_segment_at : SF := sQ (sE (eCall dn_need_halvings (aD (eV 0) (aN)))) (sQ (sE (eCall dn_need_place (aD (eV 0) (aD (eV 1) (aD (eC (.int 0)) (aD (eBin pSub (eCall dn_long_of (aD (eV 0) (aN))) (eC (.int 1))) (aN))))))) (sR (eCall dn_segment_of (aD (eV 0) (aD (eV 1) (aN))))))
def dn_segment_at : FF := fnB 2 2 sf_segment_at
def sf_upright : SF := sQ (sE (eCall dn_need_halvings (aD (eV 0) (aN)))) (sQ (sE (eCall dn_need_place (aD (eV 0) (aD (eV 1) (aD (eC (.int 0)) (aD (eBin pSub (eCall dn_long_of (aD (eV 0) (aN))) (eC (.int 1))) (aN))))))) (sR (eBin pEq (eBin pMod (eV 1) (eC (.int 2))) (eC (.int 0)))))
def dn_upright : FF := fnB 2 2 sf_upright
def sf_law_height (self : FF) : SF := sQ (sI (eBin pEq (eV 0) (eC (.str ""))) (sR (eC (.int 0))) (sN)) (sQ (sG (bT (bs2 2 3)) (eCB pTup (aD (eBin pShl (eC (.int 1)) (eBin pSub (eCB pLen (aD (eV 0) (aN))) (eC (.int 1)))) (aD (eCall self (aD (eSl (eV 0) none (some (eUn pNeg (eC (.int 1))))) (aD (eBin pFdv (eV 1) (eC (.int 2))) (aN)))) (aN))))) (sQ (sV 4 (eBin pEq (eBin pMod (eV 1) (eC (.int 2))) (eIf (eBin pEq (eBin pMod (eBin pFdv (eV 1) (eC (.int 2))) (eC (.int 2))) (eC (.int 0))) (eC (.int 1)) (eC (.int 0))))) (sQ (sI (eBin pEq (eBin pIx (eV 0) (eUn pNeg (eC (.int 1)))) (eC (.str "o"))) (sR (eIf (eV 4) (eBin pSub (eBin pSub (eBin pMul (eC (.int 2)) (eV 2)) (eC (.int 1))) (eV 3)) (eV 3))) (sN)) (sR (eIf (eV 4) (eBin pSub (eBin pSub (eV 2) (eC (.int 1))) (eV 3)) (eBin pAdd (eV 2) (eV 3)))))))
def dn_law_height : Nat → FF
  | 0 => fn0
  | n + 1 => fnB 5 2 (sf_law_height (dn_law_height n))
def lb_joints_1 : SF := sI (eBin pEq (eBin pEq (eBin pMod (eV 3) (eC (.int 2))) (eC (.int 1))) (eBin pEq (eV 1) (eC (.str "right")))) (sQ (sV 4 (eCB pSort (aD (eCB pLst (aD (eCall dn_height_of (aD (eV 0) (aD (eBin pSub (eV 3) (eC (.int 1))) (aN)))) (aD (eCall dn_height_of (aD (eV 0) (aD (eV 3) (aN)))) (aN)))) (aN)))) (sAp 2 (eCB pTup (aD (eBin pIx (eV 4) (eC (.int 0))) (aD (eBin pIx (eV 4) (eC (.int 1))) (aN)))))) (sN)
def sf_joints : SF := sQ (sE (eCall dn_need_few (aD (eV 0) (aD (eC (.int 10)) (aN))))) (sQ (sI (eBin pNin (eV 1) (eCB pTup (aD (eC (.str "left")) (aD (eC (.str "right")) (aN))))) (sRz "NoSide") (sN)) (sQ (sNw 2 (aN)) (sQ (sF (iA (aD (eC (.int 1)) (aD (eCall dn_long_of (aD (eV 0) (aN))) (aN))) kRg2) (bN 3) lb_joints_1) (sFz 2 (sR (eCB pSort (aD (eV 2) (aN))))))))
def dn_joints : FF := fnB 5 2 sf_joints
def sf_need_cut : SF := sQ (sE (eCall dn_need_few (aD (eV 0) (aD (eC (.int 8)) (aN))))) (sI (eOr (eUn pNot (eCall dn_is_whole (aD (eV 2) (aD (eC (.int 2)) (aD (eC (.int 1000)) (aN)))))) (eUn pNot (eCall dn_is_whole (aD (eV 1) (aD (eC (.int 1)) (aD (eBin pSub (eV 2) (eC (.int 1))) (aN))))))) (sRz "NoCut") (sN))
def dn_need_cut : FF := fnB 3 3 sf_need_cut
def sf_mark_in : SF := sR (eBin pAdd (eBin pMul (eV 0) (eV 2)) (eIf (eBin pEq (eBin pMod (eV 0) (eC (.int 2))) (eC (.int 0))) (eV 1) (eBin pSub (eV 2) (eV 1))))
def dn_mark_in : FF := fnB 3 3 sf_mark_in
def lw_least_terms_1 : EF := eBin pNe (eV 3) (eC (.int 0))
def lb_least_terms_1 : SF := sG (bT (bs2 2 3)) (eCB pTup (aD (eV 3) (aD (eBin pMod (eV 2) (eV 3)) (aN))))
def sf_least_terms : SF := sQ (sG (bT (bs2 2 3)) (eCB pTup (aD (eV 0) (aD (eV 1) (aN))))) (sQ (whGo lw_least_terms_1 lb_least_terms_1 10000) (sR (eCB pTup (aD (eBin pFdv (eV 0) (eV 2)) (aD (eBin pFdv (eV 1) (eV 2)) (aN))))))
def dn_least_terms : FF := fnB 4 2 sf_least_terms
def le_pieces_1 : EF := eCall dn_mark_in (aD (eV 5) (aD (eV 1) (aD (eV 2) (aN))))
def le_pieces_2 : EF := eCall dn_least_terms (aD (eBin pSub (eV 7) (eV 6)) (aD (eV 2) (aN)))
def sf_pieces : SF := sQ (sE (eCall dn_need_cut (aD (eV 0) (aD (eV 1) (aD (eV 2) (aN)))))) (sQ (sV 3 (eLc (iA (aD (eCall dn_long_of (aD (eV 0) (aN))) (aN)) kRg1) [5] (bN 5) (eC (.bool true)) (le_pieces_1))) (sQ (sV 4 (eBin pAdd (eBin pAdd (eCB pLst (aD (eC (.int 0)) (aN))) (eV 3)) (eCB pLst (aD (eBin pMul (eCall dn_long_of (aD (eV 0) (aN))) (eV 2)) (aN))))) (sR (eLc (iA (aD (eV 4) (aD (eSl (eV 4) (some (eC (.int 1))) none) (aN))) kZip) [6, 7] (bT (bsC (bN 6) (bsC (bN 7) (bsN)))) (eC (.bool true)) (le_pieces_2)))))
def dn_pieces : FF := fnB 8 3 sf_pieces
def le_law_least_1 : EF := eV 3
def lt_law_least_1 : EF := eAnd (eBin pEq (eBin pMod (eV 0) (eV 3)) (eC (.int 0))) (eBin pEq (eBin pMod (eV 1) (eV 3)) (eC (.int 0)))
def sf_law_least : SF := sQ (sV 2 (eLc (iA (aD (eC (.int 1)) (aD (eBin pAdd (eV 1) (eC (.int 1))) (aN))) kRg2) [3] (bN 3) (lt_law_least_1) (le_law_least_1))) (sR (eCB pTup (aD (eBin pFdv (eV 0) (eBin pIx (eV 2) (eUn pNeg (eC (.int 1))))) (aD (eBin pFdv (eV 1) (eBin pIx (eV 2) (eUn pNeg (eC (.int 1))))) (aN)))))
def dn_law_least : FF := fnB 4 2 sf_law_least
def le_holes_1 : EF := eCall dn_segment_of (aD (eV 0) (aD (eV 6) (aN)))
def le_holes_2 : EF := eCall dn_least_terms (aD (eCall dn_mark_in (aD (eV 7) (aD (eV 1) (aD (eV 2) (aN))))) (aD (eV 2) (aN)))
def sf_holes : SF := sQ (sE (eCall dn_need_cut (aD (eV 0) (aD (eV 1) (aD (eV 2) (aN)))))) (sQ (sE (eCall dn_need_place (aD (eV 0) (aD (eV 3) (aD (eC (.int 0)) (aD (eBin pSub (eCall dn_long_of (aD (eV 0) (aN))) (eC (.int 1))) (aN))))))) (sQ (sE (eCall dn_need_place (aD (eV 0) (aD (eV 4) (aD (eC (.int 1)) (aD (eBin pSub (eCall dn_long_of (aD (eV 0) (aN))) (eV 3)) (aN))))))) (sQ (sV 5 (eLc (iA (aD (eV 3) (aD (eBin pAdd (eV 3) (eV 4)) (aN))) kRg2) [6] (bN 6) (eC (.bool true)) (le_holes_1))) (sR (eLc (iD (eCB pSort (aD (eV 5) (aN)))) [7] (bN 7) (eC (.bool true)) (le_holes_2))))))
def dn_holes : FF := fnB 8 5 sf_holes
def sf_law_one : SF := sR (eCB pLst (aD (eCall dn_law_least (aD (eBin pAdd (eBin pMul (eV 0) (eV 2)) (eIf (eBin pEq (eBin pMod (eV 0) (eC (.int 2))) (eC (.int 0))) (eV 1) (eBin pSub (eV 2) (eV 1)))) (aD (eV 2) (aN)))) (aN)))
def dn_law_one : FF := fnB 3 3 sf_law_one
def sf_need_many : SF := sI (eUn pNot (eCall dn_is_whole (aD (eV 0) (aD (eC (.int 0)) (aD (eV 1) (aN)))))) (sRz "NoCount") (sN)
def dn_need_many : FF := fnB 2 2 sf_need_many
def sf_is_mark : SF := sQ (sI (eOr (eUn pNot (eUn (pIsi "tuple") (eV 0))) (eOr (eBin pNe (eCB pLen (aD (eV 0) (aN))) (eC (.int 2))) (eUn pNot (eCall dn_is_whole (aD (eBin pIx (eV 0) (eC (.int 0))) (aD (eC (.int 1)) (aD (eBin pSub (eBin pShl (eC (.int 1)) (eV 1)) (eC (.int 1))) (aN)))))))) (sR (eC (.bool false))) (sN)) (sR (eAnd (eUn (pIsi "str") (eBin pIx (eV 0) (eC (.int 1)))) (eBin pIn (eBin pIx (eV 0) (eC (.int 1))) (eCB pTup (aD (eC (.str "h")) (aD (eC (.str "r")) (aN)))))))
def dn_is_mark : FF := fnB 2 2 sf_is_mark
def le_need_marks_1 : EF := eCall dn_is_mark (aD (eV 3) (aD (eV 0) (aN)))
def sf_need_marks : SF := sQ (sE (eCall dn_need_many (aD (eV 0) (aD (eV 2) (aN))))) (sI (eOr (eUn pNot (eUn (pIsi "tuple") (eV 1))) (eOr (eBin pGt (eCB pLen (aD (eV 1) (aN))) (eC (.int 20))) (eUn pNot (eCB pAll (aD (eLc (iD (eV 1)) [3] (bN 3) (eC (.bool true)) (le_need_marks_1)) (aN)))))) (sRz "NoMarks") (sN))
def dn_need_marks : FF := fnB 4 3 sf_need_marks
def le_is_sight_1 : EF := eAnd (eUn (pIsi "int") (eV 2)) (eUn pNot (eUn (pIsi "bool") (eV 2)))
def sf_is_sight : SF := sQ (sI (eOr (eUn pNot (eUn (pIsi "tuple") (eV 0))) (eOr (eBin pNe (eCB pLen (aD (eV 0) (aN))) (eC (.int 2))) (eUn pNot (eCall dn_is_whole (aD (eBin pIx (eV 0) (eC (.int 0))) (aD (eC (.int 0)) (aD (eBin pShl (eC (.int 1)) (eV 1)) (aN)))))))) (sR (eC (.bool false))) (sN)) (sQ (sI (eOr (eUn pNot (eUn (pIsi "tuple") (eBin pIx (eV 0) (eC (.int 1))))) (eBin pNe (eCB pLen (aD (eBin pIx (eV 0) (eC (.int 1))) (aN))) (eC (.int 2)))) (sR (eC (.bool false))) (sN)) (sR (eCB pAll (aD (eLc (iD (eBin pIx (eV 0) (eC (.int 1)))) [2] (bN 2) (eC (.bool true)) (le_is_sight_1)) (aN)))))
def dn_is_sight : FF := fnB 3 2 sf_is_sight
def sf_law_endless : SF := sQ (sV 2 (eCall dn_law_letters (aO 0 (aO 1 (aD (eCall dn_law_pick (aO 0 (aO 1 (aD (eCB pLst (aD (eC (.int 0)) (aD (eC (.int 0)) (aD (eC (.int 1)) (aD (eC (.int 3)) (aD (eC (.int 20)) (aN))))))) (aN))))) (aN)))))) (sQ (sV 3 (eCall dn_law_letters (aO 0 (aO 1 (aD (eCall dn_law_pick (aO 0 (aO 1 (aD (eCB pLst (aD (eC (.int 1)) (aD (eC (.int 1)) (aD (eC (.int 2)) (aD (eC (.int 3)) (aD (eC (.int 4)) (aD (eC (.int 20)) (aN)))))))) (aN))))) (aN)))))) (sR (eCB pTup (aD (eV 2) (aD (eV 3) (aN))))))
def dn_law_endless : FF := fnB 4 2 sf_law_endless
def sf_is_endless : SF := sQ (sI (eOr (eUn pNot (eUn (pIsi "tuple") (eV 0))) (eBin pNe (eCB pLen (aD (eV 0) (aN))) (eC (.int 2)))) (sR (eC (.bool false))) (sN)) (sR (eAnd (eCall dn_is_letters (aD (eBin pIx (eV 0) (eC (.int 0))) (aD (eC (.int 0)) (aD (eC (.int 20)) (aN))))) (eCall dn_is_letters (aD (eBin pIx (eV 0) (eC (.int 1))) (aD (eC (.int 1)) (aD (eC (.int 20)) (aN)))))))
def dn_is_endless : FF := fnB 1 1 sf_is_endless
def sf_need_endless : SF := sI (eUn pNot (eCall dn_is_endless (aD (eV 0) (aN)))) (sRz "NoEndless") (sN)
def dn_need_endless : FF := fnB 1 1 sf_need_endless
def sf_letter_at : SF := sQ (sG (bT (bsC (bN 2) (bsC (bN 3) (bsN)))) (eV 0)) (sR (eIf (eBin pLt (eV 1) (eCB pLen (aD (eV 2) (aN)))) (eBin pIx (eV 2) (eV 1)) (eBin pIx (eV 3) (eBin pMod (eBin pSub (eV 1) (eCB pLen (aD (eV 2) (aN)))) (eCB pLen (aD (eV 3) (aN)))))))
def dn_letter_at : FF := fnB 4 2 sf_letter_at
def le_first_letters_1 : EF := eCall dn_letter_at (aD (eV 0) (aD (eV 2) (aN)))
def sf_first_letters : SF := sR (eM "str" pJoin (eC (.str "")) (aD (eLc (iRv (eV 1)) [2] (bN 2) (eC (.bool true)) (le_first_letters_1)) (aN)))
def dn_first_letters : FF := fnB 3 2 sf_first_letters
def sf_begins : SF := sQ (sE (eCall dn_need_endless (aD (eV 0) (aN)))) (sQ (sI (eUn pNot (eCall dn_is_whole (aD (eV 1) (aD (eC (.int 0)) (aD (eC (.int 60)) (aN)))))) (sRz "NoCount") (sN)) (sR (eCall dn_first_letters (aD (eV 0) (aD (eV 1) (aN))))))
def dn_begins : FF := fnB 2 2 sf_begins
def lw_law_unrolled_1 : EF := eBin pLt (eCB pLen (aD (eV 2) (aN))) (eV 1)
def lb_law_unrolled_1 : SF := sV 2 (eBin pAdd (eV 2) (eBin pIx (eV 0) (eC (.int 1))))
def sf_law_unrolled : SF := sQ (sV 2 (eBin pIx (eV 0) (eC (.int 0)))) (sQ (whGo lw_law_unrolled_1 lb_law_unrolled_1 10000) (sR (eSl (eV 2) none (some (eV 1)))))
def dn_law_unrolled : FF := fnB 3 2 sf_law_unrolled
def sf_need_far : SF := sE (eCall dn_need_place (aD (eC (.str "")) (aD (eV 0) (aD (eV 1) (aD (eC (.int 10000000000000000000000000000000000000000)) (aN))))))
def dn_need_far : FF := fnB 2 2 sf_need_far
def sf_endless_crease : SF := sQ (sE (eCall dn_need_endless (aD (eV 0) (aN)))) (sQ (sE (eCall dn_need_far (aD (eV 1) (aD (eC (.int 1)) (aN))))) (sQ (sV 2 (eCall dn_level_of (aD (eV 1) (aN)))) (sR (eCall dn_sign_of (aD (eCall dn_letter_at (aD (eV 0) (aD (eV 2) (aN)))) (aD (eBin pShr (eV 1) (eV 2)) (aN)))))))
def dn_endless_crease : FF := fnB 3 2 sf_endless_crease
def sf_endless_hollows : SF := sQ (sE (eCall dn_need_endless (aD (eV 0) (aN)))) (sQ (sE (eCall dn_need_far (aD (eV 1) (aD (eC (.int 1)) (aN))))) (sR (eCall dn_hollows_below (aD (eCall dn_first_letters (aD (eV 0) (aD (eUn pBits (eV 1)) (aN)))) (aD (eV 1) (aN))))))
def dn_endless_hollows : FF := fnB 2 2 sf_endless_hollows
def sf_endless_point : SF := sQ (sE (eCall dn_need_endless (aD (eV 0) (aN)))) (sQ (sE (eCall dn_need_far (aD (eV 1) (aD (eC (.int 0)) (aN))))) (sR (eCall dn_point_at (aD (eCall dn_first_letters (aD (eV 0) (aD (eUn pBits (eV 1)) (aN)))) (aD (eV 1) (aN))))))
def dn_endless_point : FF := fnB 2 2 sf_endless_point
def lb_law_otherwise_1 : SF := sI (eBin pLt (eCB pLen (aD (eV 3) (aN))) (eC (.int 20))) (sG (bT (bs2 3 4)) (eCB pTup (aD (eBin pAdd (eV 3) (eBin pIx (eV 4) (eC (.int 0)))) (aD (eBin pAdd (eSl (eV 4) (some (eC (.int 1))) none) (eBin pIx (eV 4) (eC (.int 0)))) (aN))))) (sN)
def sf_law_otherwise : SF := sQ (sG (bT (bsC (bN 3) (bsC (bN 4) (bsN)))) (eV 2)) (sQ (sF (iA (aD (eCall dn_law_draw (aO 0 (aO 1 (aD (eC (.int 4)) (aN))))) (aN)) kRg1) (bN 5) lb_law_otherwise_1) (sQ (sV 6 (eBin pAdd (eC (.int 1)) (eCall dn_law_draw (aO 0 (aO 1 (aD (eCB pMax2 (aD (eC (.int 1)) (aD (eBin pFdv (eC (.int 20)) (eCB pLen (aD (eV 4) (aN)))) (aN)))) (aN))))))) (sR (eCB pTup (aD (eV 3) (aD (eBin pMul (eV 4) (eV 6)) (aN)))))))
def dn_law_otherwise : FF := fnB 7 3 sf_law_otherwise
def lb_shortest_ring_1 : SF := sI (eAnd (eBin pEq (eBin pMod (eCB pLen (aD (eV 0) (aN))) (eV 1)) (eC (.int 0))) (eBin pEq (eBin pMul (eSl (eV 0) none (some (eV 1))) (eBin pFdv (eCB pLen (aD (eV 0) (aN))) (eV 1))) (eV 0))) (sR (eSl (eV 0) none (some (eV 1)))) (sN)
def sf_shortest_ring : SF := sQ (sF (iA (aD (eC (.int 1)) (aD (eCB pLen (aD (eV 0) (aN))) (aN))) kRg2) (bN 1) lb_shortest_ring_1) (sR (eV 0))
def dn_shortest_ring : FF := fnB 2 1 sf_shortest_ring
def lw_plainest_1 : EF := eAnd (eBin pNe (eV 1) (eC (.str ""))) (eBin pEq (eBin pIx (eV 1) (eUn pNeg (eC (.int 1)))) (eBin pIx (eV 2) (eUn pNeg (eC (.int 1)))))
def lb_plainest_1 : SF := sG (bT (bs2 1 2)) (eCB pTup (aD (eSl (eV 1) none (some (eUn pNeg (eC (.int 1))))) (aD (eBin pAdd (eBin pIx (eV 2) (eUn pNeg (eC (.int 1)))) (eSl (eV 2) none (some (eUn pNeg (eC (.int 1)))))) (aN))))
def sf_plainest : SF := sQ (sE (eCall dn_need_endless (aD (eV 0) (aN)))) (sQ (sG (bT (bs2 1 2)) (eCB pTup (aD (eBin pIx (eV 0) (eC (.int 0))) (aD (eCall dn_shortest_ring (aD (eBin pIx (eV 0) (eC (.int 1))) (aN))) (aN))))) (sQ (whGo lw_plainest_1 lb_plainest_1 10000) (sR (eCB pTup (aD (eV 1) (aD (eV 2) (aN)))))))
def dn_plainest : FF := fnB 3 1 sf_plainest
def lb_first_unlike_1 : SF := sI (eBin pNe (eCall dn_letter_at (aD (eV 0) (aD (eV 2) (aN)))) (eCall dn_letter_at (aD (eV 1) (aD (eV 2) (aN))))) (sR (eBin pShl (eC (.int 1)) (eV 2))) (sN)
def sf_first_unlike : SF := sQ (sE (eCall dn_need_endless (aD (eV 0) (aN)))) (sQ (sE (eCall dn_need_endless (aD (eV 1) (aN)))) (sQ (sF (iA (aD (eBin pAdd (eC (.int 20)) (eBin pMul (eC (.int 20)) (eC (.int 20)))) (aN)) kRg1) (bN 2) lb_first_unlike_1) (sR (eC .none))))
def dn_first_unlike : FF := fnB 3 2 sf_first_unlike
def sf_law_column_of : SF := sQ (sV 2 (eBin pIx (eCall dn_law_columns (aD (eBin pIx (eV 0) (eC (.str "ways"))) (aD (eBin pIx (eV 0) (eC (.str "wide"))) (aN)))) (eV 1))) (sR (eIf (eBin pIx (eV 0) (eC (.str "under"))) (eUn pRev (eV 2)) (eV 2)))
def dn_law_column_of : FF := fnB 3 2 sf_law_column_of
def lb_wishes_1 : SF := sQ (sV 4 (eBin pIx (eV 0) (eBin pSub (eBin pShl (eC (.int 1)) (eBin pSub (eBin pSub (eV 1) (eC (.int 1))) (eV 3))) (eC (.int 1))))) (sQ (sI (eBin pEq (eV 4) (eC (.str "."))) (sR (eCB pLst (aD (eV 2) (aN)))) (sN)) (sV 2 (eBin pAdd (eV 2) (eIf (eBin pEq (eV 4) (eC (.str "h"))) (eC (.str "o")) (eC (.str "u"))))))
def sf_wishes : SF := sQ (sI (eOr (eUn pNot (eUn (pIsi "str") (eV 0))) (eOr (eBin pGt (eV 1) (eC (.int 8))) (eBin pNe (eCB pLen (aD (eV 0) (aN))) (eBin pSub (eBin pShl (eC (.int 1)) (eV 1)) (eC (.int 1)))))) (sR (eCB pLst (aN))) (sN)) (sQ (sV 2 (eC (.str ""))) (sQ (sF (iA (aD (eV 1) (aN)) kRg1) (bN 3) lb_wishes_1) (sR (eCB pLst (aD (eV 2) (aN))))))
def dn_wishes : FF := fnB 5 2 sf_wishes
def lb_law_dotted_1 : SF := sV 4 (eBin pAdd (eV 4) (eIf (eBin pEq (eBin pMod (eV 5) (eV 2)) (eC (.int 0))) (eBin pIx (eV 3) (eBin pSub (eBin pFdv (eV 5) (eV 2)) (eC (.int 1)))) (eC (.str "."))))
def sf_law_dotted : SF := sQ (sV 2 (eBin pShl (eC (.int 1)) (eBin pSub (eV 1) (eCB pLen (aD (eV 0) (aN)))))) (sQ (sG (bT (bs2 3 4)) (eCB pTup (aD (eCall dn_law_row (aD (eV 0) (aN))) (aD (eC (.str "")) (aN))))) (sQ (sF (iA (aD (eC (.int 1)) (aD (eBin pShl (eC (.int 1)) (eV 1)) (aN))) kRg2) (bN 5) lb_law_dotted_1) (sR (eV 4))))
def dn_law_dotted : FF := fnB 6 2 sf_law_dotted
end DL
set_option autoImplicit false
namespace DL
open PySem PySem.Spec PyProof.Rows L2
/-! ### loops, as they are worked out -/
theorem forGo_inv {bd : BF} {body : SF} (I : Nat → DE → SE → Prop) : ∀ (xs : List PyData) (i : Nat) (dl : DE) (st : SE), I i dl st →
    (∀ (j : Nat) (x : PyData) (dl : DE) (st : SE), xs[j]? = some x → I (i + j) dl st → ∃ dl1 dl2 st2, bd x dl = some dl1 ∧ body dl1 st = some (.nx, dl2, st2) ∧ I (i + j + 1) dl2 st2) →
    ∃ dl' st', forGo bd body xs dl st = some (.nx, dl', st') ∧ I (i + xs.length) dl' st'
  | [], i, dl, st, h0, _ => ⟨dl, st, rfl, h0⟩
  | x :: xs, i, dl, st, h0, hs => by
    obtain ⟨dl1, dl2, st2, e1, e2, h1⟩ := hs 0 x dl st rfl h0
    obtain ⟨dl', st', e3, h3⟩ := forGo_inv I xs (i + 1) dl2 st2 h1 (fun j y dl st e h => by
      have := hs (j + 1) y dl st (by simpa using e) (by rw [show i + (j + 1) = i + 1 + j by omega]; exact h)
      rw [show i + (j + 1) + 1 = i + 1 + j + 1 by omega] at this
      exact this)
    refine ⟨dl', st', ?_, ?_⟩
    · unfold forGo
      rw [e1]
      dsimp only
      rw [e2]
      exact e3
    · rw [List.length_cons, show i + (xs.length + 1) = i + 1 + xs.length by omega]
      exact h3
theorem rangeL_len (lo hi : Int) : (rangeL lo hi).length = (hi - lo).toNat := by simp [rangeL]
theorem rangeL_get {lo hi : Int} {j : Nat} {x : PyData} (h : (rangeL lo hi)[j]? = some x) : x = .int (lo + j) ∧ j < (hi - lo).toNat := by
  unfold rangeL at h
  rw [List.getElem?_map] at h
  by_cases hj : j < (hi - lo).toNat
  · rw [List.getElem?_range hj] at h
    exact ⟨(Option.some.inj h).symm, hj⟩
  · rw [List.getElem?_eq_none (by simpa using hj)] at h
    cases h
theorem atI_nat' {α : Type} {xs : List α} {k : Int} (h0 : 0 ≤ k) (h1 : k < xs.length) : ∃ x, atI xs k = some x ∧ xs[k.toNat]? = some x := by
  have h2 : k.toNat < xs.length := by omega
  have h3 : atI xs ((k.toNat : Nat) : Int) = some xs[k.toNat] := atI_nat (by simp [h2])
  rw [show ((k.toNat : Nat) : Int) = k by omega] at h3
  exact ⟨xs[k.toNat], h3, by simp [h2]⟩
local macro_rules | `(tactic| walk_at "ev") => `(tactic| simp only [r_fn, r_Rz, r_RzP, r_Try, r_Tr, r_Tn, r_Te, r_Tk, r_CL, r_cl, r_at0, r_at1, r_at2, r_at3, r_at4, r_hA0, r_hBA0, r_hCA0, r_hA1, r_hA2, r_hBA2, r_hCA2, r_hA3, r_hBA3, r_hCA3, r_hA4, r_hBA4, r_hCA4, r_hA5, r_hBA5, r_hCA5, r_hA6, r_hBA6, r_hCA6, r_hA7, r_hBA7, r_hCA7, r_hA8, r_hBA8, r_hCA8, r_hA9, r_hBA9, r_hCA9, r_hA10, r_hBA10, r_hCA10, r_hA11, r_hBA11, r_hCA11, r_hA12, r_hBA12, r_hCA12, r_hA13, r_hBA13, r_hCA13, r_hA14, r_hBA14, r_hCA14, r_hBP, r_hCP, r_iRv, r_iRo, r_lofL, r_lofT, r_tofL, r_tofT, r_bits, r_tyL, r_eB, r_bnd, r_bo, r_be, r_eR, r_Rs, r_bin, r_un, r_c, r_v, r_vd, r_and, r_or, r_if, r_eA, r_eAo, r_eAe, r_eAD, r_eADo, r_eADe, r_eDk, r_CB, r_aN, r_aD, r_aDo, r_aDe, r_aO, r_aOo, r_cA, r_cAe, r_sv0, r_sv1,
  r_call, r_callo, r_calle, r_O0, r_O1, r_Sl, r_Ch, r_Ch3, r_kT', r_kF, r_M, r_Ln, r_Lns, r_Ix, r_Ixs, r_Nl, r_Nls, r_iD, r_iDo, r_iDe, r_iDj, r_iA, r_iAo, r_iAe, r_iAj, r_Q, r_Qn, r_Qr, r_Qb, r_Qc, r_Qe, r_B, r_Bo, r_Be, r_G, r_R, r_E, r_I, r_N, r_X, r_F, r_Fo, r_lc, r_fnr, r_fnn, r_fne, r_tk,
  r_bT, r_bsN, r_bsC, r_bsK, r_bN, r_IB, r_addI, r_sub, r_neg, r_not, r_min, r_max, r_lenL, r_lenT, r_eqS, r_neS, r_eqI, r_neI, r_slL, r_itS, r_itL, r_itT, r_enS, r_enL, r_zip, r_zipS, r_bs2, r_bs3, r_w0, r_w1, r_tyS, r_IxO, r_IxOo, r_St2, r_CallK, r_dSel, r_s0, r_sl, r_sr, Option.toList_some, and_self, if_true, if_false, Bool.false_eq_true,
  List.map_cons, List.map_nil, List.length_cons, List.length_nil, List.cons_append, List.nil_append, List.replicate, List.getElem?_cons_zero, List.getElem?_cons_succ, List.set_cons_zero, List.set_cons_succ, Option.map_some, Option.map_none, Nat.reduceAdd, Nat.reduceSub])
local macro_rules | `(tactic| walk_at "evs") => `(tactic| simp only [*, r_fn, r_mod, r_fdv, r_mulI, r_shl, r_shr, r_pow, r_rg1, r_rg2, r_tup, r_lst, r_ixS, r_ixL, r_ixT, r_slS, r_lenS, r_addS, r_addL, r_revS, r_Lno, decide_true, decide_false, Nat.le_refl, Nat.reduceLeDiff, Int.reduceLT, Int.reduceLE, Bool.not_true, Bool.not_false, Bool.and_true, Bool.true_and, Bool.and_self, r_Rz, r_RzP, r_Try, r_Tr, r_Tn, r_Te, r_Tk, r_CL, r_cl, r_at0, r_at1, r_at2, r_at3, r_at4, r_hA0, r_hBA0, r_hCA0, r_hA1, r_hA2, r_hBA2, r_hCA2, r_hA3, r_hBA3, r_hCA3, r_hA4, r_hBA4, r_hCA4, r_hA5, r_hBA5, r_hCA5, r_hA6, r_hBA6, r_hCA6, r_hA7, r_hBA7, r_hCA7, r_hA8, r_hBA8, r_hCA8, r_hA9, r_hBA9, r_hCA9, r_hA10, r_hBA10, r_hCA10, r_hA11, r_hBA11, r_hCA11, r_hA12, r_hBA12, r_hCA12, r_hA13, r_hBA13, r_hCA13, r_hA14, r_hBA14, r_hCA14, r_hBP, r_hCP, r_iRv, r_iRo, r_lofL, r_lofT, r_tofL, r_tofT, r_bits, r_tyL, r_eB, r_bnd, r_bo, r_be, r_eR, r_Rs, r_bin, r_un, r_c, r_v, r_vd, r_and, r_or, r_if, r_eA, r_eAo, r_eAe, r_eAD, r_eADo, r_eADe, r_eDk, r_CB, r_aN, r_aD, r_aDo, r_aDe, r_aO, r_aOo, r_cA, r_cAe, r_sv0, r_sv1,
  r_call, r_callo, r_calle, r_O0, r_O1, r_Sl, r_Ch, r_Ch3, r_kT', r_kF, r_M, r_Ln, r_Lns, r_Ix, r_Ixs, r_Nl, r_Nls, r_iD, r_iDo, r_iDe, r_iDj, r_iA, r_iAo, r_iAe, r_iAj, r_Q, r_Qn, r_Qr, r_Qb, r_Qc, r_Qe, r_B, r_Bo, r_Be, r_G, r_R, r_E, r_I, r_N, r_X, r_F, r_Fo, r_lc, r_fnr, r_fnn, r_fne, r_tk,
  r_bT, r_bsN, r_bsC, r_bsK, r_bN, r_IB, r_addI, r_sub, r_neg, r_not, r_min, r_max, r_lenL, r_lenT, r_eqS, r_neS, r_eqI, r_neI, r_slL, r_itS, r_itL, r_itT, r_enS, r_enL, r_zip, r_zipS, r_bs2, r_bs3, r_w0, r_w1, r_tyS, r_IxO, r_IxOo, r_St2, r_CallK, r_dSel, r_s0, r_sl, r_sr, Option.toList_some, and_self, if_true, if_false, Bool.false_eq_true,
  List.map_cons, List.map_nil, List.length_cons, List.length_nil, List.cons_append, List.nil_append, List.replicate, List.getElem?_cons_zero, List.getElem?_cons_succ, List.set_cons_zero, List.set_cons_succ, Option.map_some, Option.map_none, Nat.reduceAdd, Nat.reduceSub])
local macro_rules | `(tactic| walk_at "evr") => `(tactic| ((walk_at "evs") <;> rfl))
/-! ### the law's draws -/
theorem cell_ok (ns : List Int) (k : Int) (st : SE) (h0 : 0 ≤ k) (h1 : k < 1000000) (hn : ns.length ≤ 63) : ∃ n, dn_law_cell_at [.s ns, .d (.int k)] st = some (.ok (.int n), st) := by
  unfold dn_law_cell_at sf_law_cell_at
  by_cases hk : k < ns.length
  · obtain ⟨x, hx, _⟩ := atI_nat' h0 hk
    refine ⟨x, ?_⟩
    walk_at "evs"
  · cases hne : ns.isEmpty with
    | true => exact ⟨0, by walk_at "evs"⟩
    | false =>
      have hpos : 0 < ns.length := by
        cases ns with
        | nil => cases hne
        | cons _ _ => simp
      have hm0 : 0 ≤ k % (ns.length : Int) := Int.emod_nonneg _ (by omega)
      have hm1 : k % (ns.length : Int) < ns.length := Int.emod_lt_of_pos _ (by omega)
      obtain ⟨x, hx, _⟩ := atI_nat' hm0 hm1
      have hl : (0 : Int) < ns.length := by omega
      have hl2 : (ns.length : Int) < 1073741824 := by omega
      have hd0 : 0 ≤ k / (ns.length : Int) := Int.ediv_nonneg h0 (by omega)
      have hin : inLine (min (k / (ns.length : Int)) 60) = true := in_line (by omega) (by omega)
      walk_at "evs"
      obtain ⟨dl', st', e, hI⟩ := forGo_inv (bd := bN 3) (body := lb_law_cell_at_1) (fun _ dl s => s = st ∧ ∃ r v, dl = [some (.s ns), some (.d (.int k)), some (.d (.int r)), v])
        (rangeL 0 (min (k / (ns.length : Int)) 60)) 0 [some (.s ns), some (.d (.int k)), some (.d (.int x)), none] st ⟨rfl, x, none, rfl⟩ (fun j y dl s ej hI => by
          obtain ⟨rfl, r, v, rfl⟩ := hI
          exact ⟨_, _, _, rfl, by unfold lb_law_cell_at_1; walk_at "evs", rfl, r / 1000003, some (.d y), rfl⟩)
      obtain ⟨rfl, r, v, rfl⟩ := hI
      have h31 : (31 : Int).natAbs < 2 ^ 64 := by decide
      have h101 : (101 : Int).natAbs < 2 ^ 64 := by decide
      have m1 : pMul (.int x) (.int 31) = some (.int (x * 31)) := r_mulI (.inr h31)
      have m2 : pMul (.int r) (.int 101) = some (.int (r * 101)) := r_mulI (.inr h101)
      walk_at "evs"
      exact ⟨_, rfl⟩
theorem mixed_ok (ns : List Int) (k b : Int) (st : SE) (h0 : 0 ≤ k) (h1 : k < 1000000) (hn : ns.length ≤ 63) (hb : 0 < b) : ∃ r, 0 ≤ r ∧ r < b ∧ dn_law_mixed [.s ns, .d (.int k), .d (.int b)] st = some (.ok (.int r), st) := by
  unfold dn_law_mixed sf_law_mixed
  obtain ⟨n, hc⟩ := cell_ok ns k st h0 h1 hn
  have m1 : pMul (.int n) (.int 1103515245) = some (.int (n * 1103515245)) := r_mulI (.inr (by decide))
  have m2 : pMul (.int 7919) (.int k) = some (.int (7919 * k)) := r_mulI (.inl (by decide))
  have d0 : 0 ≤ (n * 1103515245 + 7919 * k + 12345) % 2147483647 := Int.emod_nonneg _ (by decide)
  have d1 : (n * 1103515245 + 7919 * k + 12345) % 2147483647 < 2147483647 := Int.emod_lt_of_pos _ (by decide)
  generalize hd : (n * 1103515245 + 7919 * k + 12345) % 2147483647 = d at d0 d1
  have p1 : pPow (.int d) (.int 5) = some (.int (d ^ 5)) := r_pow (by decide) (by decide) (by omega)
  refine ⟨d ^ 5 % 2147483647 % 999983 % b, Int.emod_nonneg _ (by omega), Int.emod_lt_of_pos _ hb, ?_⟩
  walk_at "evs"
/-- the list of draws, so many long -/
def tw (n : Nat) : Ob := .l (List.replicate n (.int 0))
theorem tw_app (n : Nat) : List.replicate n (PyData.int 0) ++ [.int 0] = List.replicate (n + 1) (.int 0) := List.replicate_succ'.symm
theorem draw_ok (ns : List Int) (j n : Nat) (b : Int) (st : SE) (hs : st[j]? = some (tw n)) (h1 : n < 999999) (hn : ns.length ≤ 63) (hb : 0 < b) :
    ∃ r, 0 ≤ r ∧ r < b ∧ dn_law_draw [.s ns, .o j, .d (.int b)] st = some (.ok (.int r), st.set j (tw (n + 1))) := by
  unfold dn_law_draw sf_law_draw
  have hj : j < st.length := (List.getElem?_eq_some_iff.mp hs).1
  obtain ⟨r, r0, r1, hr⟩ := mixed_ok ns ((n + 1 : Nat) : Int) b (st.set j (tw (n + 1))) (by omega) (by omega) hn hb
  refine ⟨r, r0, r1, ?_⟩
  have e1 : sAp 1 (eC (.int 0)) [some (.s ns), some (.o j), some (.d (.int b))] st = some (.nx, [some (.s ns), some (.o j), some (.d (.int b))], st.set j (tw (n + 1))) := by
    rw [r_Ap rfl hs rfl hs (by simp; omega), tw_app]
    rfl
  have e2 : (st.set j (tw (n + 1)))[j]? = some (.l (List.replicate (n + 1) (.int 0))) := by rw [List.getElem?_set_self hj]; rfl
  have e3 : eLnk (some (some (.o j))) (st.set j (tw (n + 1))) = some (.ok (.int ((n + 1 : Nat) : Int)), st.set j (tw (n + 1))) := by
    rw [r_Lno e2, List.length_replicate]
  have e4 : (st.set j (tw (n + 1))).take st.length = st.set j (tw (n + 1)) := List.take_of_length_le (by simp)
  walk_at "ev"
  rw [e1]
  walk_at "ev"
  rw [e3]
  walk_at "ev"
  rw [hr]
  walk_at "ev"
  rw [e4]
theorem pick_ok (ns : List Int) (j n : Nat) (xs : List PyData) (st : SE) (hs : st[j]? = some (tw n)) (h1 : n < 999999) (hn : ns.length ≤ 63) (hx : 0 < xs.length) :
    ∃ x, x ∈ xs ∧ dn_law_pick [.s ns, .o j, .d (.list xs)] st = some (.ok x, st.set j (tw (n + 1))) := by
  unfold dn_law_pick sf_law_pick
  obtain ⟨r, r0, r1, hr⟩ := draw_ok ns j n (xs.length : Int) st hs h1 hn (by omega)
  obtain ⟨x, ha, hm⟩ := atI_nat' r0 r1
  have e4 : (st.set j (tw (n + 1))).take st.length = st.set j (tw (n + 1)) := List.take_of_length_le (by simp)
  exact ⟨x, List.mem_of_getElem? hm, by walk_at "evs"⟩
theorem whGo_inv {c : EF} {body : SF} {Post : DE → SE → Prop} (I : Nat → DE → SE → Prop)
    (hs : ∀ m dl st, I m dl st → (∃ st1, c dl st = some (.ok (.bool false), st1) ∧ Post dl st1) ∨ (∃ st1 dl2 st2 m', c dl st = some (.ok (.bool true), st1) ∧ body dl st1 = some (.nx, dl2, st2) ∧ m' < m ∧ I m' dl2 st2)) :
    ∀ (fuel m : Nat) (dl : DE) (st : SE), I m dl st → m < fuel → ∃ dl' st', whGo c body fuel dl st = some (.nx, dl', st') ∧ Post dl' st'
  | 0, _, _, _, _, h => absurd h (Nat.not_lt_zero _)
  | fuel + 1, m, dl, st, hI, hm => by
    rcases hs m dl st hI with ⟨st1, e, p⟩ | ⟨st1, dl2, st2, m', e, eb, hm', hI'⟩
    · refine ⟨dl, st1, ?_, p⟩
      unfold whGo
      rw [r_B, e]
      rfl
    · obtain ⟨dl', st', e', p⟩ := whGo_inv I hs fuel m' dl2 st2 hI' (by omega)
      refine ⟨dl', st', ?_, p⟩
      unfold whGo
      rw [r_B, e, r_Bo]
      dsimp only
      rw [eb]
      exact e'
/-! ### halvings as texts -/
def oc (b : Bool) : Nat := if b then 111 else 117
def hs (w : List Bool) : Str := tx (w.map oc)
theorem hs_app (v w : List Bool) : hs v ++ hs w = hs (v ++ w) := by unfold hs; rw [tx_app, List.map_append]
theorem hs_len (w : List Bool) : (hs w).length = w.length := by unfold hs; rw [tx_length, List.length_map]
theorem lit_ou : ("ou" : Str) = tx [111, 117] := lit_ (by decide +kernel)
theorem lit_e : ("" : Str) = tx [] := lit_ (by decide +kernel)
theorem ou_ix (bits : Int) (h : 0 ≤ bits) : pIx (.str "ou") (.int (bits % 2)) = some (.str (tx [oc (decide (bits % 2 = 0))])) := by
  rw [lit_ou]
  have : bits % 2 = 0 ∨ bits % 2 = 1 := by omega
  rcases this with e | e
  · rw [e]; rfl
  · rw [e]; rfl
theorem sIx_nat (n d : Nat) (k : Nat) : HT.sIx n d (some (k : Int)) = min k n := HT.sIx_nat n d k
theorem set_same {α : Type} {l : List α} {j : Nat} {x : α} (h : l[j]? = some x) : l.set j x = l := by
  apply List.ext_getElem?
  intro i
  by_cases hi : j = i
  · subst hi
    rw [List.getElem?_set_self (List.getElem?_eq_some_iff.mp h).1, h]
  · rw [List.getElem?_set_ne hi]
theorem letters_ok (ns : List Int) (j n : Nat) (b : Nat) (st : SE) (hst : st[j]? = some (tw n)) (h1 : n < 900000) (hn : ns.length ≤ 63) (hb : b ≤ 1000) :
    ∃ w n', w.length = b ∧ n' ≤ n + b ∧ dn_law_letters [.s ns, .o j, .d (.int (b : Int))] st = some (.ok (.str (hs w)), st.set j (tw n')) := by
  unfold dn_law_letters sf_law_letters
  have hj : j < st.length := (List.getElem?_eq_some_iff.mp hst).1
  obtain ⟨dl', st', e, hP⟩ := whGo_inv (c := lw_law_letters_1) (body := lb_law_letters_2)
    (Post := fun dl s => ∃ w n' x y, b ≤ w.length ∧ n' ≤ n + b ∧ w.length ≤ b + 15 ∧ s = st.set j (tw n') ∧ dl = [some (.s ns), some (.o j), some (.d (.int (b : Int))), some (.d (.str (hs w))), x, y])
    (fun m dl s => ∃ w n' x y, m = b - w.length ∧ n' ≤ n + min w.length b ∧ w.length ≤ b + 15 ∧ s = st.set j (tw n') ∧ dl = [some (.s ns), some (.o j), some (.d (.int (b : Int))), some (.d (.str (hs w))), x, y]) (fun m dl s hI => by
      obtain ⟨w, n', x, y, hm, hn', hw, rfl, rfl⟩ := hI
      have hlen : pLen [.str (hs w)] = some (.int w.length) := by
        unfold hs
        rw [r_lenS (by simp; omega), List.length_map]
      by_cases hwb : w.length < b
      · have hlt : decide ((w.length : Int) < (b : Int)) = true := decide_eq_true (by omega)
        obtain ⟨r, r0, r1, hr⟩ := draw_ok ns j n' 32768 (st.set j (tw n')) (by rw [List.getElem?_set_self hj]) (by omega) hn (by decide)
        rw [List.set_set] at hr
        obtain ⟨dl2, st2, e2, w2, v2, u2, h2, h3, h4⟩ := forGo_inv (bd := bN 5) (body := lb_law_letters_1)
          (fun i dl s => ∃ w' v u, w'.length = w.length + i ∧ s = st.set j (tw (n' + 1)) ∧ ∃ q : Int, 0 ≤ q ∧ v = some (.d (.int q)) ∧ dl = [some (.s ns), some (.o j), some (.d (.int (b : Int))), some (.d (.str (hs w'))), v, u])
          (rangeL 0 15) 0 [some (.s ns), some (.o j), some (.d (.int (b : Int))), some (.d (.str (hs w))), some (.d (.int r)), y] (st.set j (tw (n' + 1))) ⟨w, _, _, rfl, rfl, r, r0, rfl, rfl⟩ (fun i z dl s ei hI => by
            obtain ⟨w', v, u, hl', rfl, q, q0, rfl, rfl⟩ := hI
            obtain ⟨rfl, hi⟩ := rangeL_get ei
            have hi' : i < 15 := by simpa using hi
            have ha : pAdd (.str (hs w')) (.str (tx [oc (decide (q % 2 = 0))])) = some (.str (hs (w' ++ [decide (q % 2 = 0)]))) := by
              unfold hs
              rw [r_addS (by simp; omega), List.map_append]
              rfl
            have hx := ou_ix q q0
            exact ⟨_, _, _, rfl, by unfold lb_law_letters_1; walk_at "evr", w' ++ [decide (q % 2 = 0)], _, _, by rw [List.length_append, List.length_singleton]; omega, rfl, q / 2, by omega, rfl, rfl⟩)
        obtain ⟨q, q0, rfl, rfl⟩ := h4
        have hw2 : w2.length = w.length + 15 := by rw [h2, rangeL_len]; rfl
        have hin : inLine 15 = true := by decide
        refine .inr ⟨st.set j (tw n'), _, st2, b - w2.length, by unfold lw_law_letters_1; walk_at "evr", by unfold lb_law_letters_2; walk_at "evr", by omega, w2, n' + 1, _, _, rfl, by omega, by omega, h3, rfl⟩
      · have hlt : decide ((w.length : Int) < (b : Int)) = false := decide_eq_false (by omega)
        exact .inl ⟨st.set j (tw n'), by unfold lw_law_letters_1; walk_at "evs", w, n', x, y, by omega, by omega, hw, rfl, rfl⟩) 10000 b [some (.s ns), some (.o j), some (.d (.int (b : Int))), some (.d (.str (hs []))), none, none] st
      ⟨[], n, none, none, by simp, by omega, by simp, (set_same hst).symm, rfl⟩ (by omega)
  obtain ⟨w, n', x, y, hw1, hn', hw2, rfl, rfl⟩ := hP
  have e4 : (st.set j (tw n')).take st.length = st.set j (tw n') := List.take_of_length_le (by simp)
  have ec : cutL (w.map oc) none (some (b : Int)) = (w.take b).map oc := by
    unfold cutL
    rw [HT.sIx_none, sIx_nat, List.length_map, Nat.min_eq_left hw1]
    simp
  have e5 : pSl (.str (hs w)) none (some (b : Int)) = some (.str (hs (w.take b))) := by
    unfold hs
    rw [r_slS (by simp; omega), ec]
  have e0 : (.str "" : PyData) = .str (hs []) := by rw [lit_e]; rfl
  refine ⟨w.take b, n', by rw [List.length_take]; omega, hn', ?_⟩
  rw [e0]
  walk_at "evr"
end DL
set_option autoImplicit false
namespace DL
open PySem PySem.Spec PyProof.Rows L2
local macro_rules | `(tactic| walk_at "ev") => `(tactic| simp only [r_fn, r_Rz, r_RzP, r_Try, r_Tr, r_Tn, r_Te, r_Tk, r_CL, r_cl, r_at0, r_at1, r_at2, r_at3, r_at4, r_hA0, r_hBA0, r_hCA0, r_hA1, r_hA2, r_hBA2, r_hCA2, r_hA3, r_hBA3, r_hCA3, r_hA4, r_hBA4, r_hCA4, r_hA5, r_hBA5, r_hCA5, r_hA6, r_hBA6, r_hCA6, r_hA7, r_hBA7, r_hCA7, r_hA8, r_hBA8, r_hCA8, r_hA9, r_hBA9, r_hCA9, r_hA10, r_hBA10, r_hCA10, r_hA11, r_hBA11, r_hCA11, r_hA12, r_hBA12, r_hCA12, r_hA13, r_hBA13, r_hCA13, r_hA14, r_hBA14, r_hCA14, r_hBP, r_hCP, r_iRv, r_iRo, r_lofL, r_lofT, r_tofL, r_tofT, r_bits, r_tyL, r_eB, r_bnd, r_bo, r_be, r_eR, r_Rs, r_bin, r_un, r_c, r_v, r_vd, r_and, r_or, r_if, r_eA, r_eAo, r_eAe, r_eAD, r_eADo, r_eADe, r_eDk, r_CB, r_aN, r_aD, r_aDo, r_aDe, r_aO, r_aOo, r_cA, r_cAe, r_sv0, r_sv1,
  r_call, r_callo, r_calle, r_O0, r_O1, r_Sl, r_Ch, r_Ch3, r_kT', r_kF, r_M, r_Ln, r_Lns, r_Ix, r_Ixs, r_Nl, r_Nls, r_iD, r_iDo, r_iDe, r_iDj, r_iA, r_iAo, r_iAe, r_iAj, r_Q, r_Qn, r_Qr, r_Qb, r_Qc, r_Qe, r_B, r_Bo, r_Be, r_G, r_R, r_E, r_I, r_N, r_X, r_F, r_Fo, r_lc, r_fnr, r_fnn, r_fne, r_tk,
  r_bT, r_bsN, r_bsC, r_bsK, r_bN, r_IB, r_addI, r_sub, r_neg, r_not, r_min, r_max, r_lenL, r_lenT, r_eqS, r_neS, r_eqI, r_neI, r_slL, r_itS, r_itL, r_itT, r_enS, r_enL, r_zip, r_zipS, r_bs2, r_bs3, r_w0, r_w1, r_tyS, r_IxO, r_IxOo, r_St2, r_CallK, r_dSel, r_s0, r_sl, r_sr, Option.toList_some, and_self, if_true, if_false, Bool.false_eq_true,
  List.map_cons, List.map_nil, List.length_cons, List.length_nil, List.cons_append, List.nil_append, List.replicate, List.getElem?_cons_zero, List.getElem?_cons_succ, List.set_cons_zero, List.set_cons_succ, Option.map_some, Option.map_none, Nat.reduceAdd, Nat.reduceSub])
local macro_rules | `(tactic| walk_at "evs") => `(tactic| simp only [*, r_fn, r_mod, r_fdv, r_mulI, r_shl, r_shr, r_pow, r_rg1, r_rg2, r_tup, r_lst, r_ixS, r_ixL, r_ixT, r_slS, r_lenS, r_addS, r_addL, r_revS, r_Lno, decide_true, decide_false, Nat.le_refl, Nat.reduceLeDiff, Int.reduceLT, Int.reduceLE, Bool.not_true, Bool.not_false, Bool.and_true, Bool.true_and, Bool.and_self, r_Rz, r_RzP, r_Try, r_Tr, r_Tn, r_Te, r_Tk, r_CL, r_cl, r_at0, r_at1, r_at2, r_at3, r_at4, r_hA0, r_hBA0, r_hCA0, r_hA1, r_hA2, r_hBA2, r_hCA2, r_hA3, r_hBA3, r_hCA3, r_hA4, r_hBA4, r_hCA4, r_hA5, r_hBA5, r_hCA5, r_hA6, r_hBA6, r_hCA6, r_hA7, r_hBA7, r_hCA7, r_hA8, r_hBA8, r_hCA8, r_hA9, r_hBA9, r_hCA9, r_hA10, r_hBA10, r_hCA10, r_hA11, r_hBA11, r_hCA11, r_hA12, r_hBA12, r_hCA12, r_hA13, r_hBA13, r_hCA13, r_hA14, r_hBA14, r_hCA14, r_hBP, r_hCP, r_iRv, r_iRo, r_lofL, r_lofT, r_tofL, r_tofT, r_bits, r_tyL, r_eB, r_bnd, r_bo, r_be, r_eR, r_Rs, r_bin, r_un, r_c, r_v, r_vd, r_and, r_or, r_if, r_eA, r_eAo, r_eAe, r_eAD, r_eADo, r_eADe, r_eDk, r_CB, r_aN, r_aD, r_aDo, r_aDe, r_aO, r_aOo, r_cA, r_cAe, r_sv0, r_sv1,
  r_call, r_callo, r_calle, r_O0, r_O1, r_Sl, r_Ch, r_Ch3, r_kT', r_kF, r_M, r_Ln, r_Lns, r_Ix, r_Ixs, r_Nl, r_Nls, r_iD, r_iDo, r_iDe, r_iDj, r_iA, r_iAo, r_iAe, r_iAj, r_Q, r_Qn, r_Qr, r_Qb, r_Qc, r_Qe, r_B, r_Bo, r_Be, r_G, r_R, r_E, r_I, r_N, r_X, r_F, r_Fo, r_lc, r_fnr, r_fnn, r_fne, r_tk,
  r_bT, r_bsN, r_bsC, r_bsK, r_bN, r_IB, r_addI, r_sub, r_neg, r_not, r_min, r_max, r_lenL, r_lenT, r_eqS, r_neS, r_eqI, r_neI, r_slL, r_itS, r_itL, r_itT, r_enS, r_enL, r_zip, r_zipS, r_bs2, r_bs3, r_w0, r_w1, r_tyS, r_IxO, r_IxOo, r_St2, r_CallK, r_dSel, r_s0, r_sl, r_sr, Option.toList_some, and_self, if_true, if_false, Bool.false_eq_true,
  List.map_cons, List.map_nil, List.length_cons, List.length_nil, List.cons_append, List.nil_append, List.replicate, List.getElem?_cons_zero, List.getElem?_cons_succ, List.set_cons_zero, List.set_cons_succ, Option.map_some, Option.map_none, Nat.reduceAdd, Nat.reduceSub])
local macro_rules | `(tactic| walk_at "evr") => `(tactic| ((walk_at "evs") <;> rfl))
theorem tk_set {st : SE} {j : Nat} {o : Ob} : (st.set j o).take st.length = st.set j o := List.take_of_length_le (by simp)
theorem tk_set2 {st : SE} {j : Nat} {o : Ob} {n : Nat} (h : st.length = n) : (st.set j o).take n = st.set j o := by rw [← h]; exact tk_set
theorem get_set {st : SE} {j n : Nat} {o p : Ob} (h : st[j]? = some p) : (st.set j o)[j]? = some o := by rw [List.getElem?_set_self (List.getElem?_eq_some_iff.mp h).1]
theorem halvings_ok (ns : List Int) (j n most : Nat) (st : SE) (hst : st[j]? = some (tw n)) (h1 : n < 800000) (hn : ns.length ≤ 63) (hb : most < 1000) :
    ∃ w n', w.length ≤ most ∧ n' ≤ n + most + 1 ∧ dn_law_halvings [.s ns, .o j, .d (.int (most : Int))] st = some (.ok (.str (hs w)), st.set j (tw n')) := by
  unfold dn_law_halvings sf_law_halvings
  obtain ⟨r, r0, r1, hr⟩ := draw_ok ns j n ((most : Int) + 1) st hst (by omega) hn (by omega)
  obtain ⟨k, rfl⟩ : ∃ k : Nat, r = (k : Int) := ⟨r.toNat, by omega⟩
  obtain ⟨w, n', hw, hn', hl⟩ := letters_ok ns j (n + 1) k (st.set j (tw (n + 1))) (get_set (n := n) hst) (by omega) hn (by omega)
  rw [List.set_set] at hl
  have e4 := tk_set (st := st) (j := j) (o := tw n')
  exact ⟨w, n', by omega, by omega, by walk_at "evr"⟩
theorem far_ok (ns : List Int) (j n : Nat) (st : SE) (hst : st[j]? = some (tw n)) (h1 : n < 800000) (hn : ns.length ≤ 63) :
    ∃ w n', 1 ≤ w.length ∧ w.length ≤ 60 ∧ n' ≤ n + 61 ∧ dn_law_far [.s ns, .o j] st = some (.ok (.str (hs w)), st.set j (tw n')) := by
  unfold dn_law_far sf_law_far
  obtain ⟨x, hx, hp⟩ := pick_ok ns j n [.int 60, .int 59, .int 7, .int 20, .int 33, .int 45, .int 1, .int 2] st hst (by omega) hn (by decide)
  obtain ⟨k, k0, k1, rfl⟩ : ∃ k : Nat, 1 ≤ k ∧ k ≤ 60 ∧ x = .int (k : Int) := by
    simp only [List.mem_cons, List.not_mem_nil, or_false] at hx
    rcases hx with rfl | rfl | rfl | rfl | rfl | rfl | rfl | rfl
    · exact ⟨60, by omega, by omega, rfl⟩
    · exact ⟨59, by omega, by omega, rfl⟩
    · exact ⟨7, by omega, by omega, rfl⟩
    · exact ⟨20, by omega, by omega, rfl⟩
    · exact ⟨33, by omega, by omega, rfl⟩
    · exact ⟨45, by omega, by omega, rfl⟩
    · exact ⟨1, by omega, by omega, rfl⟩
    · exact ⟨2, by omega, by omega, rfl⟩
  obtain ⟨w, n', hw, hn', hl⟩ := letters_ok ns j (n + 1) k (st.set j (tw (n + 1))) (get_set (n := n) hst) (by omega) hn (by omega)
  rw [List.set_set] at hl
  have e4 := tk_set (st := st) (j := j) (o := tw n')
  exact ⟨w, n', by omega, by omega, by omega, by walk_at "evr"⟩
theorem big_ok (ns : List Int) (j n : Nat) (b : Int) (st : SE) (hst : st[j]? = some (tw n)) (h1 : n < 800000) (hn : ns.length ≤ 63) (hb : 0 < b) (hb2 : b < 2 ^ 300) :
    ∃ r n', 0 ≤ r ∧ r < b ∧ n' ≤ n + 300 ∧ dn_law_big [.s ns, .o j, .d (.int b)] st = some (.ok (.int r), st.set j (tw n')) := by
  unfold dn_law_big sf_law_big
  have hj : j < st.length := (List.getElem?_eq_some_iff.mp hst).1
  obtain ⟨dl', st', e, hP⟩ := whGo_inv (c := lw_law_big_1) (body := lb_law_big_1)
    (Post := fun dl s => ∃ (n' : Nat) (m l : Int), n' ≤ n + 300 ∧ s = st.set j (tw n') ∧ dl = [some (.s ns), some (.o j), some (.d (.int b)), some (.d (.int m)), some (.d (.int l))])
    (fun f dl s => ∃ (n' : Nat) (m l : Int), n' + f ≤ n + 300 ∧ 0 ≤ l ∧ l < 2 ^ f ∧ s = st.set j (tw n') ∧ dl = [some (.s ns), some (.o j), some (.d (.int b)), some (.d (.int m)), some (.d (.int l))]) (fun f dl s hI => by
      obtain ⟨n', m, l, hn', l0, l1, rfl, rfl⟩ := hI
      by_cases hl : 0 < l
      · obtain ⟨r, r0, r1, hr⟩ := draw_ok ns j n' 32768 (st.set j (tw n')) (get_set (n := n) hst) (by omega) hn (by decide)
        rw [List.set_set] at hr
        have hm : pMul (.int m) (.int 32768) = some (.int (m * 32768)) := r_mulI (.inr (by decide))
        have hf : 0 < f := by
          cases f with
          | zero => simp at l1; omega
          | succ f => omega
        have hd : decide ((0 : Int) < l) = true := decide_eq_true hl
        refine .inr ⟨st.set j (tw n'), _, _, f - 1, by unfold lw_law_big_1; walk_at "evr", by unfold lb_law_big_1; walk_at "evr", by omega, n' + 1, m * 32768 + r, l / 32768, by omega, by omega, ?_, rfl, rfl⟩
        obtain ⟨g, rfl⟩ : ∃ g, f = g + 1 := ⟨f - 1, by omega⟩
        rw [Int.pow_succ] at l1
        show l / 32768 < 2 ^ (g + 1 - 1)
        rw [Nat.add_sub_cancel]
        have hg : (0 : Int) < 2 ^ g := Int.pow_pos (by decide)
        omega
      · have hd : decide ((0 : Int) < l) = false := decide_eq_false hl
        exact .inl ⟨st.set j (tw n'), by unfold lw_law_big_1; walk_at "evr", n', m, l, by omega, rfl, rfl⟩)
    10000 300 [some (.s ns), some (.o j), some (.d (.int b)), some (.d (.int 0)), some (.d (.int b))] st ⟨n, 0, b, by omega, by omega, hb2, (set_same hst).symm, rfl⟩ (by decide)
  obtain ⟨n', m, l, hn', rfl, rfl⟩ := hP
  have e4 := tk_set (st := st) (j := j) (o := tw n')
  exact ⟨m % b, n', Int.emod_nonneg _ (by omega), Int.emod_lt_of_pos _ hb, hn', by walk_at "evr"⟩
end DL
set_option autoImplicit false
namespace DL
open PySem PySem.Spec PyProof.Rows L2
local macro_rules | `(tactic| walk_at "ev") => `(tactic| simp only [r_fn, r_Rz, r_RzP, r_Try, r_Tr, r_Tn, r_Te, r_Tk, r_CL, r_cl, r_at0, r_at1, r_at2, r_at3, r_at4, r_hA0, r_hBA0, r_hCA0, r_hA1, r_hA2, r_hBA2, r_hCA2, r_hA3, r_hBA3, r_hCA3, r_hA4, r_hBA4, r_hCA4, r_hA5, r_hBA5, r_hCA5, r_hA6, r_hBA6, r_hCA6, r_hA7, r_hBA7, r_hCA7, r_hA8, r_hBA8, r_hCA8, r_hA9, r_hBA9, r_hCA9, r_hA10, r_hBA10, r_hCA10, r_hA11, r_hBA11, r_hCA11, r_hA12, r_hBA12, r_hCA12, r_hA13, r_hBA13, r_hCA13, r_hA14, r_hBA14, r_hCA14, r_hBP, r_hCP, r_iRv, r_iRo, r_lofL, r_lofT, r_tofL, r_tofT, r_bits, r_tyL, r_eB, r_bnd, r_bo, r_be, r_eR, r_Rs, r_bin, r_un, r_c, r_v, r_vd, r_and, r_or, r_if, r_eA, r_eAo, r_eAe, r_eAD, r_eADo, r_eADe, r_eDk, r_CB, r_aN, r_aD, r_aDo, r_aDe, r_aO, r_aOo, r_cA, r_cAe, r_sv0, r_sv1,
  r_call, r_callo, r_calle, r_O0, r_O1, r_Sl, r_Ch, r_Ch3, r_kT', r_kF, r_M, r_Ln, r_Lns, r_Ix, r_Ixs, r_Nl, r_Nls, r_iD, r_iDo, r_iDe, r_iDj, r_iA, r_iAo, r_iAe, r_iAj, r_Q, r_Qn, r_Qr, r_Qb, r_Qc, r_Qe, r_B, r_Bo, r_Be, r_G, r_R, r_E, r_I, r_N, r_X, r_F, r_Fo, r_lc, r_fnr, r_fnn, r_fne, r_tk,
  r_bT, r_bsN, r_bsC, r_bsK, r_bN, r_IB, r_addI, r_sub, r_neg, r_not, r_min, r_max, r_lenL, r_lenT, r_eqS, r_neS, r_eqI, r_neI, r_slL, r_itS, r_itL, r_itT, r_enS, r_enL, r_zip, r_zipS, r_bs2, r_bs3, r_w0, r_w1, r_tyS, r_IxO, r_IxOo, r_St2, r_CallK, r_dSel, r_s0, r_sl, r_sr, Option.toList_some, and_self, if_true, if_false, Bool.false_eq_true,
  List.map_cons, List.map_nil, List.length_cons, List.length_nil, List.cons_append, List.nil_append, List.replicate, List.getElem?_cons_zero, List.getElem?_cons_succ, List.set_cons_zero, List.set_cons_succ, Option.map_some, Option.map_none, Nat.reduceAdd, Nat.reduceSub])
local macro_rules | `(tactic| walk_at "evs") => `(tactic| simp only [*, r_fn, r_mod, r_fdv, r_mulI, r_shl, r_shr, r_pow, r_rg1, r_rg2, r_tup, r_lst, r_ixS, r_ixL, r_ixT, r_slS, r_lenS, r_addS, r_addL, r_revS, r_Lno, decide_true, decide_false, Nat.le_refl, Nat.reduceLeDiff, Int.reduceLT, Int.reduceLE, Bool.not_true, Bool.not_false, Bool.and_true, Bool.true_and, Bool.and_self, r_Rz, r_RzP, r_Try, r_Tr, r_Tn, r_Te, r_Tk, r_CL, r_cl, r_at0, r_at1, r_at2, r_at3, r_at4, r_hA0, r_hBA0, r_hCA0, r_hA1, r_hA2, r_hBA2, r_hCA2, r_hA3, r_hBA3, r_hCA3, r_hA4, r_hBA4, r_hCA4, r_hA5, r_hBA5, r_hCA5, r_hA6, r_hBA6, r_hCA6, r_hA7, r_hBA7, r_hCA7, r_hA8, r_hBA8, r_hCA8, r_hA9, r_hBA9, r_hCA9, r_hA10, r_hBA10, r_hCA10, r_hA11, r_hBA11, r_hCA11, r_hA12, r_hBA12, r_hCA12, r_hA13, r_hBA13, r_hCA13, r_hA14, r_hBA14, r_hCA14, r_hBP, r_hCP, r_iRv, r_iRo, r_lofL, r_lofT, r_tofL, r_tofT, r_bits, r_tyL, r_eB, r_bnd, r_bo, r_be, r_eR, r_Rs, r_bin, r_un, r_c, r_v, r_vd, r_and, r_or, r_if, r_eA, r_eAo, r_eAe, r_eAD, r_eADo, r_eADe, r_eDk, r_CB, r_aN, r_aD, r_aDo, r_aDe, r_aO, r_aOo, r_cA, r_cAe, r_sv0, r_sv1,
  r_call, r_callo, r_calle, r_O0, r_O1, r_Sl, r_Ch, r_Ch3, r_kT', r_kF, r_M, r_Ln, r_Lns, r_Ix, r_Ixs, r_Nl, r_Nls, r_iD, r_iDo, r_iDe, r_iDj, r_iA, r_iAo, r_iAe, r_iAj, r_Q, r_Qn, r_Qr, r_Qb, r_Qc, r_Qe, r_B, r_Bo, r_Be, r_G, r_R, r_E, r_I, r_N, r_X, r_F, r_Fo, r_lc, r_fnr, r_fnn, r_fne, r_tk,
  r_bT, r_bsN, r_bsC, r_bsK, r_bN, r_IB, r_addI, r_sub, r_neg, r_not, r_min, r_max, r_lenL, r_lenT, r_eqS, r_neS, r_eqI, r_neI, r_slL, r_itS, r_itL, r_itT, r_enS, r_enL, r_zip, r_zipS, r_bs2, r_bs3, r_w0, r_w1, r_tyS, r_IxO, r_IxOo, r_St2, r_CallK, r_dSel, r_s0, r_sl, r_sr, Option.toList_some, and_self, if_true, if_false, Bool.false_eq_true,
  List.map_cons, List.map_nil, List.length_cons, List.length_nil, List.cons_append, List.nil_append, List.replicate, List.getElem?_cons_zero, List.getElem?_cons_succ, List.set_cons_zero, List.set_cons_succ, Option.map_some, Option.map_none, Nat.reduceAdd, Nat.reduceSub])
local macro_rules | `(tactic| walk_at "evr") => `(tactic| ((walk_at "evs") <;> rfl))
/-! ### comprehensions, worked out -/
theorem lcGo_of {α : Type} {bd : BF} {t e : EF} {dl : DE} {st : SE} (f : α → PyData) (p : α → Bool) (h : α → PyData) : ∀ (L : List α) (acc : List PyData),
    (∀ a ∈ L, ∃ dl1, bd (f a) dl = some dl1 ∧ t dl1 st = some (.ok (.bool (p a)), st) ∧ (p a = true → e dl1 st = some (.ok (h a), st))) →
    lcGo bd t e dl (L.map f) acc st = some (acc ++ (L.filter p).map h, st)
  | [], acc, _ => by simp [lcGo]
  | a :: L, acc, hs => by
    obtain ⟨dl1, e1, e2, e3⟩ := hs a (by simp)
    have ih := fun acc => lcGo_of f p h L acc (fun b hb => hs b (List.mem_cons_of_mem _ hb))
    rw [List.map_cons]
    unfold lcGo
    rw [e1]
    dsimp only
    rw [e2]
    cases hp : p a with
    | true =>
      dsimp only
      rw [e3 hp]
      dsimp only
      rw [ih, List.filter_cons_of_pos hp]
      simp
    | false =>
      dsimp only
      rw [ih, List.filter_cons_of_neg (by simp [hp])]
theorem lcGo_map {α : Type} {bd : BF} {e : EF} {dl : DE} {st : SE} (f h : α → PyData) (L : List α) (hs : ∀ a ∈ L, ∃ dl1, bd (f a) dl = some dl1 ∧ e dl1 st = some (.ok (h a), st)) :
    lcGo bd (eC (.bool true)) e dl (L.map f) [] st = some (L.map h, st) := by
  have := lcGo_of (bd := bd) (t := eC (.bool true)) (e := e) (dl := dl) (st := st) f (fun _ => true) h L [] (fun a ha => by
    obtain ⟨dl1, e1, e2⟩ := hs a ha
    exact ⟨dl1, e1, rfl, fun _ => e2⟩)
  rw [this, List.filter_eq_self.mpr (fun _ _ => rfl)]
  rfl
theorem pAll_map {α : Type} (L : List α) (p : α → Bool) : pAll [.list (L.map fun a => .bool (p a))] = some (.bool (L.all p)) := by
  unfold pAll
  dsimp only
  rw [show (L.map fun a => PyData.bool (p a)) = (L.map p).map .bool by simp, boolsOf_map, Option.map_some, List.all_map]
  rfl
theorem isi_ss (x : Str) : pIsi "str" (.str x) = some (.bool true) := by unfold pIsi tyN; rw [show kitB "str" "str" = some true by decide +kernel]; rfl
theorem isi_ii (x : Int) : pIsi "int" (.int x) = some (.bool true) := by unfold pIsi tyN; rw [show kitB "int" "int" = some true by decide +kernel]; rfl
theorem isi_ib (x : Int) : pIsi "bool" (.int x) = some (.bool false) := by unfold pIsi tyN; rw [show kitB "int" "bool" = some false by decide +kernel]; rfl
/-! ### halvings, places -/
theorem hs_signs (w : List Bool) : signs (w.map oc) = w.map fun b => .str (tx [oc b]) := by unfold signs; rw [List.map_map]; rfl
theorem oc_in (b : Bool) : pIn (.str (tx [oc b])) (.str "ou") = some (.bool true) := by
  rw [lit_ou]
  cases b <;> rfl
theorem isl_ok (w : List Bool) (lo hi : Int) (st : SE) (h0 : lo ≤ w.length) (h1 : (w.length : Int) ≤ hi) (h2 : w.length ≤ 10000) : dn_is_letters [.d (.str (hs w)), .d (.int lo), .d (.int hi)] st = some (.ok (.bool true), st) := by
  unfold dn_is_letters sf_is_letters
  have i1 := isi_ss (hs w)
  have hl : pLen [.str (hs w)] = some (.int w.length) := by unfold hs; rw [r_lenS (by simp; omega), List.length_map]
  have d0 : decide (lo ≤ (w.length : Int)) = true := decide_eq_true h0
  have d1 : decide ((w.length : Int) ≤ hi) = true := decide_eq_true h1
  have it : itemsOf (.str (hs w)) = some (w.map fun b => .str (tx [oc b])) := by unfold hs; rw [r_itS, hs_signs]
  have hg := lcGo_map (bd := bN 3) (e := le_is_letters_1) (dl := wipeD [some (.d (.str (hs w))), some (.d (.int lo)), some (.d (.int hi)), none] [3]) (st := st) (fun b => .str (tx [oc b])) (fun _ => .bool true) w (fun b _ => by
    have hi := oc_in b
    exact ⟨_, rfl, by unfold le_is_letters_1; walk_at "evr"⟩)
  have hk : lcK (some (.ok (w.map fun b => .str (tx [oc b])), st)) [3] (bN 3) (eC (.bool true)) le_is_letters_1 [some (.d (.str (hs w))), some (.d (.int lo)), some (.d (.int hi)), none] = some (.ok (.list (w.map fun _ => .bool true)), st) := r_lco (by simp; omega) hg
  have ha : pAll [.list (w.map fun _ => .bool true)] = some (.bool true) := by
    rw [pAll_map w (fun _ => true)]
    simp
  walk_at "evr"
theorem ish_ok (w : List Bool) (st : SE) (h : w.length ≤ 60) : dn_is_halvings [.d (.str (hs w))] st = some (.ok (.bool true), st) := by
  unfold dn_is_halvings sf_is_halvings
  have e := isl_ok w 0 60 st (by omega) (by omega) (by omega)
  walk_at "evr"
theorem needh_ok (w : List Bool) (st : SE) (h : w.length ≤ 60) : dn_need_halvings [.d (.str (hs w))] st = some (.ok .none, st) := by
  unfold dn_need_halvings sf_need_halvings
  have e := ish_ok w st h
  walk_at "evr"
theorem long_ok (w : List Bool) (st : SE) (h : w.length ≤ 10000) : dn_long_of [.d (.str (hs w))] st = some (.ok (.int ((2 ^ w.length : Nat) : Int)), st) := by
  unfold dn_long_of sf_long_of
  have hl : pLen [.str (hs w)] = some (.int w.length) := by unfold hs; rw [r_lenS (by simp; omega), List.length_map]
  have hp : pShl (.int 1) (.int w.length) = some (.int ((2 ^ w.length : Nat) : Int)) := by
    rw [r_shl (by omega) (by omega) (by decide)]
    simp
  walk_at "evr"
theorem howlong_ok (w : List Bool) (st : SE) (h : w.length ≤ 60) : dn_how_long [.d (.str (hs w))] st = some (.ok (.int ((2 ^ w.length : Nat) : Int)), st) := by
  unfold dn_how_long sf_how_long
  have e := needh_ok w st h
  have e2 := long_ok w st (by omega)
  walk_at "evr"
theorem whole_ok (p lo hi : Int) (st : SE) (h0 : lo ≤ p) (h1 : p ≤ hi) : dn_is_whole [.d (.int p), .d (.int lo), .d (.int hi)] st = some (.ok (.bool true), st) := by
  unfold dn_is_whole sf_is_whole
  have i1 := isi_ii p
  have i2 := isi_ib p
  have d0 : decide (lo ≤ p) = true := decide_eq_true h0
  have d1 : decide (p ≤ hi) = true := decide_eq_true h1
  walk_at "evr"
theorem needp_ok (w : List Bool) (p lo hi : Int) (st : SE) (h : w.length ≤ 60) (h0 : lo ≤ p) (h1 : p ≤ hi) : dn_need_place [.d (.str (hs w)), .d (.int p), .d (.int lo), .d (.int hi)] st = some (.ok .none, st) := by
  unfold dn_need_place sf_need_place
  have e := needh_ok w st h
  have e2 := whole_ok p lo hi st h0 h1
  walk_at "evr"
/-! ### creases -/
/-- the crease at a place, the letters from the last one; true is hollow -/
def cr : List Bool → Nat → Bool
  | [], _ => false
  | b :: r, p => if p % 2 = 1 then b == decide (p % 4 = 1) else cr r (p / 2)
def hc (b : Bool) : Nat := if b then 104 else 114
def sg (b : Bool) : PyData := .str (tx [hc b])
theorem dec_odd : ∀ p : Nat, 0 < p → ∃ s q, p = 2 ^ s * (2 * q + 1) := by
  intro p
  induction p using Nat.strongRecOn with
  | ind p ih =>
    intro hp
    by_cases h : p % 2 = 1
    · exact ⟨0, p / 2, by omega⟩
    · obtain ⟨s, q, e⟩ := ih (p / 2) (by omega) (by omega)
      refine ⟨s + 1, q, ?_⟩
      rw [Nat.pow_succ, Nat.mul_assoc, Nat.mul_comm, Nat.mul_assoc, Nat.mul_comm (2 * q + 1), ← e]
      omega
theorem cr_dec : ∀ (s : Nat) (l : List Bool) (q : Nat) (b : Bool), l[s]? = some b → cr l (2 ^ s * (2 * q + 1)) = (b == decide (q % 2 = 0))
  | 0, [], q, b, h => by simp at h
  | 0, c :: l, q, b, h => by
    simp at h
    subst h
    unfold cr
    rw [Nat.pow_zero, Nat.one_mul, if_pos (by omega)]
    congr 1
    rw [decide_eq_decide]
    omega
  | s + 1, [], q, b, h => by simp at h
  | s + 1, c :: l, q, b, h => by
    have e : 2 ^ (s + 1) * (2 * q + 1) = 2 * (2 ^ s * (2 * q + 1)) := by rw [Nat.pow_succ]; simp [Nat.mul_comm, Nat.mul_left_comm]
    unfold cr
    rw [e, if_neg (by omega), Nat.mul_div_cancel_left _ (by decide)]
    exact cr_dec s l q b (by simpa using h)
theorem whGo_mono {c : EF} {body : SF} : ∀ (n m : Nat) (dl : DE) (st : SE) (r : Fl × DE × SE), whGo c body n dl st = some r → n ≤ m → whGo c body m dl st = some r
  | 0, _, _, _, _, h, _ => by cases h
  | n + 1, 0, _, _, _, _, h => by omega
  | n + 1, m + 1, dl, st, r, h, hm => by
    unfold whGo at h ⊢
    rw [r_B] at h ⊢
    cases hc : c dl st with
    | none => rw [hc] at h; cases h
    | some y =>
      obtain ⟨rs, st1⟩ := y
      rw [hc] at h
      cases rs with
      | ex x p => exact h
      | ok d =>
        rw [r_Bo] at h ⊢
        cases d with
        | bool b =>
          cases b with
          | false => exact h
          | true =>
            dsimp only at h ⊢
            cases hb : body dl st1 with
            | none => rw [hb] at h; cases h
            | some z =>
              obtain ⟨fl, dl2, st2⟩ := z
              rw [hb] at h
              cases fl with
              | nx => exact whGo_mono n m dl2 st2 r h (by omega)
              | ct => exact whGo_mono n m dl2 st2 r h (by omega)
              | bk => exact h
              | rt d => exact h
              | ex x p => exact h
        | _ => exact h
theorem level_loop (st : SE) (q : Nat) : ∀ (s l : Nat), whGo lw_level_of_1 lb_level_of_1 (s + 1) [some (.d (.int ((2 ^ s * (2 * q + 1) : Nat) : Int))), some (.d (.int (l : Int)))] st = some (.nx, [some (.d (.int ((2 * q + 1 : Nat) : Int))), some (.d (.int ((l + s : Nat) : Int)))], st)
  | 0, l => by
    unfold whGo lw_level_of_1
    have d : decide (((2 ^ 0 * (2 * q + 1) : Nat) : Int) % 2 = 0) = false := decide_eq_false (by omega)
    walk_at "evs"
    rw [Nat.pow_zero, Nat.one_mul]
    rfl
  | s + 1, l => by
    have hw : lw_level_of_1 [some (.d (.int ((2 ^ (s + 1) * (2 * q + 1) : Nat) : Int))), some (.d (.int (l : Int)))] st = some (.ok (.bool true), st) := by
      have e : 2 ^ (s + 1) * (2 * q + 1) = 2 * (2 ^ s * (2 * q + 1)) := by rw [Nat.pow_succ]; simp [Nat.mul_comm, Nat.mul_left_comm]
      have d : decide (((2 ^ (s + 1) * (2 * q + 1) : Nat) : Int) % 2 = 0) = true := decide_eq_true (by omega)
      clear e
      unfold lw_level_of_1
      walk_at "evr"
    have e : 2 ^ (s + 1) * (2 * q + 1) = 2 * (2 ^ s * (2 * q + 1)) := by rw [Nat.pow_succ]; simp [Nat.mul_comm, Nat.mul_left_comm]
    have e2 : ((2 ^ (s + 1) * (2 * q + 1) : Nat) : Int) / 2 = ((2 ^ s * (2 * q + 1) : Nat) : Int) := by omega
    have e3 : (l : Int) + 1 = ((l + 1 : Nat) : Int) := by omega
    clear e
    have hb : lb_level_of_1 [some (.d (.int ((2 ^ (s + 1) * (2 * q + 1) : Nat) : Int))), some (.d (.int (l : Int)))] st = some (.nx, [some (.d (.int ((2 ^ s * (2 * q + 1) : Nat) : Int))), some (.d (.int ((l + 1 : Nat) : Int)))], st) := by
      clear hw
      unfold lb_level_of_1
      rw [← e2, ← e3]
      clear e2 e3
      walk_at "evr"
    have ih := level_loop st q s (l + 1)
    unfold whGo
    rw [r_B, hw, r_Bo]
    dsimp only
    rw [hb]
    dsimp only
    rw [ih, show l + 1 + s = l + (s + 1) by omega]
theorem level_ok (s q : Nat) (st : SE) (h : s < 9000) : dn_level_of [.d (.int ((2 ^ s * (2 * q + 1) : Nat) : Int))] st = some (.ok (.int (s : Int)), st) := by
  unfold dn_level_of sf_level_of
  have e := whGo_mono (s + 1) 10000 _ _ _ (level_loop st q s 0) (by omega)
  rw [Nat.zero_add] at e
  have e' : ((0 : Nat) : Int) = 0 := rfl
  rw [e'] at e
  walk_at "evr"
theorem lit_o : ("o" : Str) = tx [111] := lit_ (by decide +kernel)
theorem lit_u : ("u" : Str) = tx [117] := lit_ (by decide +kernel)
theorem lit_h : ("h" : Str) = tx [104] := lit_ (by decide +kernel)
theorem lit_r : ("r" : Str) = tx [114] := lit_ (by decide +kernel)
theorem sgn_o (b : Bool) : pEq (.str (tx [oc b])) (.str "o") = some (.bool b) := by rw [lit_o, r_eqS]; cases b <;> rfl
theorem eq_bb (a b : Bool) : pEq (.bool a) (.bool b) = some (.bool (a == b)) := by cases a <;> cases b <;> rfl
theorem sg_h : (.str "h" : PyData) = sg true := by rw [lit_h]; rfl
theorem sg_r : (.str "r" : PyData) = sg false := by rw [lit_r]; rfl
theorem sign_ok (b : Bool) (k : Int) (st : SE) : dn_sign_of [.d (.str (tx [oc b])), .d (.int k)] st = some (.ok (sg (b == decide (k % 4 = 1))), st) := by
  unfold dn_sign_of sf_sign_of
  have e1 := sgn_o b
  have e2 := eq_bb b (decide (k % 4 = 1))
  cases hb : (b == decide (k % 4 = 1)) with
  | true => rw [hb] at e2; rw [← sg_h]; walk_at "evr"
  | false => rw [hb] at e2; rw [← sg_r]; walk_at "evr"
theorem lt_pow_of_dec {s q n : Nat} (h : 2 ^ s * (2 * q + 1) < 2 ^ n) : s < n := by
  apply Classical.byContradiction
  intro hn
  have h1 : 2 ^ n ≤ 2 ^ s := Nat.pow_le_pow_right (by decide) (by omega)
  have h2 : 2 ^ s * 1 ≤ 2 ^ s * (2 * q + 1) := Nat.mul_le_mul_left _ (by omega)
  omega
theorem creaseat_ok (w : List Bool) (p : Nat) (st : SE) (h : w.length ≤ 1000) (h0 : 0 < p) (h1 : p < 2 ^ w.length) : dn_crease_at [.d (.str (hs w)), .d (.int (p : Int))] st = some (.ok (sg (cr w.reverse p)), st) := by
  obtain ⟨s, q, rfl⟩ := dec_odd p h0
  have hs1 := lt_pow_of_dec h1
  unfold dn_crease_at sf_crease_at
  have e1 := level_ok s q st (by omega)
  have hl : pLen [.str (hs w)] = some (.int w.length) := by unfold hs; rw [r_lenS (by simp; omega), List.length_map]
  have hg : w[w.length - 1 - s]? = some (w[w.length - 1 - s]'(by omega)) := by simp
  have hr : w.reverse[s]? = some (w[w.length - 1 - s]'(by omega)) := by rw [List.getElem?_reverse hs1, hg]
  generalize w[w.length - 1 - s]'(by omega) = b at hg hr
  have hx : pIx (.str (hs w)) (.int ((w.length : Int) - 1 - (s : Int))) = some (.str (tx [oc b])) := by
    unfold hs
    rw [r_ixS (by simp; omega), show (w.length : Int) - 1 - (s : Int) = ((w.length - 1 - s : Nat) : Int) by omega, atI_nat (v := oc b) (by rw [List.getElem?_map, hg]; rfl)]
    rfl
  have hsh : pShr (.int ((2 ^ s * (2 * q + 1) : Nat) : Int)) (.int (s : Int)) = some (.int ((2 * q + 1 : Nat) : Int)) := by
    rw [r_shr (by omega), Int.toNat_natCast]
    congr 2
    have : ((2 ^ s * (2 * q + 1) : Nat) : Int) = 2 ^ s * ((2 * q + 1 : Nat) : Int) := by simp
    rw [this, Int.mul_ediv_cancel_left _ (Int.ne_of_gt (Int.pow_pos (by decide)))]
  have es := sign_ok b ((2 * q + 1 : Nat) : Int) st
  have ec := cr_dec s w.reverse q b hr
  have ed : decide (((2 * q + 1 : Nat) : Int) % 4 = 1) = decide (q % 2 = 0) := by rw [decide_eq_decide]; omega
  rw [ec, ← ed]
  walk_at "evr"
theorem crease_ok (w : List Bool) (p : Nat) (st : SE) (h : w.length ≤ 60) (h0 : 0 < p) (h1 : p < 2 ^ w.length) : dn_crease [.d (.str (hs w)), .d (.int (p : Int))] st = some (.ok (sg (cr w.reverse p)), st) := by
  unfold dn_crease sf_crease
  have e1 := needh_ok w st h
  have e2 := long_ok w st (by omega)
  have e3 := needp_ok w (p : Int) 1 (((2 ^ w.length : Nat) : Int) - 1) st h (by omega) (by omega)
  have e4 := creaseat_ok w p st (by omega) h0 h1
  walk_at "evr"
theorem maker_ok (w : List Bool) (s q : Nat) (st : SE) (h : w.length ≤ 60) (h1 : 2 ^ s * (2 * q + 1) < 2 ^ w.length) : dn_maker [.d (.str (hs w)), .d (.int ((2 ^ s * (2 * q + 1) : Nat) : Int))] st = some (.ok (.int ((w.length : Int) - (s : Int))), st) := by
  unfold dn_maker sf_maker
  have hs1 := lt_pow_of_dec h1
  have h0 : 0 < 2 ^ s * (2 * q + 1) := Nat.mul_pos (Nat.pow_pos (by decide)) (by omega)
  have e1 := needh_ok w st h
  have e2 := long_ok w st (by omega)
  have e3 := needp_ok w ((2 ^ s * (2 * q + 1) : Nat) : Int) 1 (((2 ^ w.length : Nat) : Int) - 1) st h (by omega) (by omega)
  have e4 := level_ok s q st (by omega)
  have hl : pLen [.str (hs w)] = some (.int w.length) := by unfold hs; rw [r_lenS (by simp; omega), List.length_map]
  walk_at "evr"
end DL
set_option autoImplicit false
namespace DL
open PySem PySem.Spec PyProof.Rows L2
local macro_rules | `(tactic| walk_at "ev") => `(tactic| simp only [r_fn, r_Rz, r_RzP, r_Try, r_Tr, r_Tn, r_Te, r_Tk, r_CL, r_cl, r_at0, r_at1, r_at2, r_at3, r_at4, r_hA0, r_hBA0, r_hCA0, r_hA1, r_hA2, r_hBA2, r_hCA2, r_hA3, r_hBA3, r_hCA3, r_hA4, r_hBA4, r_hCA4, r_hA5, r_hBA5, r_hCA5, r_hA6, r_hBA6, r_hCA6, r_hA7, r_hBA7, r_hCA7, r_hA8, r_hBA8, r_hCA8, r_hA9, r_hBA9, r_hCA9, r_hA10, r_hBA10, r_hCA10, r_hA11, r_hBA11, r_hCA11, r_hA12, r_hBA12, r_hCA12, r_hA13, r_hBA13, r_hCA13, r_hA14, r_hBA14, r_hCA14, r_hBP, r_hCP, r_iRv, r_iRo, r_lofL, r_lofT, r_tofL, r_tofT, r_bits, r_tyL, r_eB, r_bnd, r_bo, r_be, r_eR, r_Rs, r_bin, r_un, r_c, r_v, r_vd, r_and, r_or, r_if, r_eA, r_eAo, r_eAe, r_eAD, r_eADo, r_eADe, r_eDk, r_CB, r_aN, r_aD, r_aDo, r_aDe, r_aO, r_aOo, r_cA, r_cAe, r_sv0, r_sv1,
  r_call, r_callo, r_calle, r_O0, r_O1, r_Sl, r_Ch, r_Ch3, r_kT', r_kF, r_M, r_Ln, r_Lns, r_Ix, r_Ixs, r_Nl, r_Nls, r_iD, r_iDo, r_iDe, r_iDj, r_iA, r_iAo, r_iAe, r_iAj, r_Q, r_Qn, r_Qr, r_Qb, r_Qc, r_Qe, r_B, r_Bo, r_Be, r_G, r_R, r_E, r_I, r_N, r_X, r_F, r_Fo, r_lc, r_fnr, r_fnn, r_fne, r_tk,
  r_bT, r_bsN, r_bsC, r_bsK, r_bN, r_IB, r_addI, r_sub, r_neg, r_not, r_min, r_max, r_lenL, r_lenT, r_eqS, r_neS, r_eqI, r_neI, r_slL, r_itS, r_itL, r_itT, r_enS, r_enL, r_zip, r_zipS, r_bs2, r_bs3, r_w0, r_w1, r_tyS, r_IxO, r_IxOo, r_St2, r_CallK, r_dSel, r_s0, r_sl, r_sr, Option.toList_some, and_self, if_true, if_false, Bool.false_eq_true,
  List.map_cons, List.map_nil, List.length_cons, List.length_nil, List.cons_append, List.nil_append, List.replicate, List.getElem?_cons_zero, List.getElem?_cons_succ, List.set_cons_zero, List.set_cons_succ, Option.map_some, Option.map_none, Nat.reduceAdd, Nat.reduceSub])
local macro_rules | `(tactic| walk_at "evs") => `(tactic| simp only [*, r_fn, r_mod, r_fdv, r_mulI, r_shl, r_shr, r_pow, r_rg1, r_rg2, r_tup, r_lst, r_ixS, r_ixL, r_ixT, r_slS, r_lenS, r_addS, r_addL, r_revS, r_Lno, decide_true, decide_false, Nat.le_refl, Nat.reduceLeDiff, Int.reduceLT, Int.reduceLE, Bool.not_true, Bool.not_false, Bool.and_true, Bool.true_and, Bool.and_self, r_Rz, r_RzP, r_Try, r_Tr, r_Tn, r_Te, r_Tk, r_CL, r_cl, r_at0, r_at1, r_at2, r_at3, r_at4, r_hA0, r_hBA0, r_hCA0, r_hA1, r_hA2, r_hBA2, r_hCA2, r_hA3, r_hBA3, r_hCA3, r_hA4, r_hBA4, r_hCA4, r_hA5, r_hBA5, r_hCA5, r_hA6, r_hBA6, r_hCA6, r_hA7, r_hBA7, r_hCA7, r_hA8, r_hBA8, r_hCA8, r_hA9, r_hBA9, r_hCA9, r_hA10, r_hBA10, r_hCA10, r_hA11, r_hBA11, r_hCA11, r_hA12, r_hBA12, r_hCA12, r_hA13, r_hBA13, r_hCA13, r_hA14, r_hBA14, r_hCA14, r_hBP, r_hCP, r_iRv, r_iRo, r_lofL, r_lofT, r_tofL, r_tofT, r_bits, r_tyL, r_eB, r_bnd, r_bo, r_be, r_eR, r_Rs, r_bin, r_un, r_c, r_v, r_vd, r_and, r_or, r_if, r_eA, r_eAo, r_eAe, r_eAD, r_eADo, r_eADe, r_eDk, r_CB, r_aN, r_aD, r_aDo, r_aDe, r_aO, r_aOo, r_cA, r_cAe, r_sv0, r_sv1,
  r_call, r_callo, r_calle, r_O0, r_O1, r_Sl, r_Ch, r_Ch3, r_kT', r_kF, r_M, r_Ln, r_Lns, r_Ix, r_Ixs, r_Nl, r_Nls, r_iD, r_iDo, r_iDe, r_iDj, r_iA, r_iAo, r_iAe, r_iAj, r_Q, r_Qn, r_Qr, r_Qb, r_Qc, r_Qe, r_B, r_Bo, r_Be, r_G, r_R, r_E, r_I, r_N, r_X, r_F, r_Fo, r_lc, r_fnr, r_fnn, r_fne, r_tk,
  r_bT, r_bsN, r_bsC, r_bsK, r_bN, r_IB, r_addI, r_sub, r_neg, r_not, r_min, r_max, r_lenL, r_lenT, r_eqS, r_neS, r_eqI, r_neI, r_slL, r_itS, r_itL, r_itT, r_enS, r_enL, r_zip, r_zipS, r_bs2, r_bs3, r_w0, r_w1, r_tyS, r_IxO, r_IxOo, r_St2, r_CallK, r_dSel, r_s0, r_sl, r_sr, Option.toList_some, and_self, if_true, if_false, Bool.false_eq_true,
  List.map_cons, List.map_nil, List.length_cons, List.length_nil, List.cons_append, List.nil_append, List.replicate, List.getElem?_cons_zero, List.getElem?_cons_succ, List.set_cons_zero, List.set_cons_succ, Option.map_some, Option.map_none, Nat.reduceAdd, Nat.reduceSub])
local macro_rules | `(tactic| walk_at "evr") => `(tactic| ((walk_at "evs") <;> rfl))
theorem lck_map {α : Type} {bd : BF} {e : EF} {dl : DE} {st : SE} {vs : List Nat} {xs : List PyData} (f h : α → PyData) (L : List α) (hx : xs = L.map f) (hl : L.length ≤ 1000000)
    (hs : ∀ a ∈ L, ∃ dl1, bd (f a) (wipeD dl vs) = some dl1 ∧ e dl1 st = some (.ok (h a), st)) :
    lcK (some (.ok xs, st)) vs bd (eC (.bool true)) e dl = some (.ok (.list (L.map h)), st) := by
  subst hx
  exact r_lco (by simpa using hl) (lcGo_map f h L hs)
theorem lck_of {α : Type} {bd : BF} {t e : EF} {dl : DE} {st : SE} {vs : List Nat} {xs : List PyData} (f : α → PyData) (p : α → Bool) (h : α → PyData) (L : List α) (hx : xs = L.map f) (hl : L.length ≤ 1000000)
    (hs : ∀ a ∈ L, ∃ dl1, bd (f a) (wipeD dl vs) = some dl1 ∧ t dl1 st = some (.ok (.bool (p a)), st) ∧ (p a = true → e dl1 st = some (.ok (h a), st))) :
    lcK (some (.ok xs, st)) vs bd t e dl = some (.ok (.list ((L.filter p).map h)), st) := by
  subst hx
  exact r_lco (by simpa using hl) (lcGo_of f p h L [] hs)
/-! ### rows, plainly -/
theorem cr_A : ∀ (l : List Bool) (b : Bool) (p : Nat), 0 < p → p < 2 ^ l.length → cr (l ++ [b]) p = cr l p
  | [], b, p, h0, h1 => by simp at h1; omega
  | c :: l, b, p, h0, h1 => by
    rw [List.length_cons, Nat.pow_succ] at h1
    rw [List.cons_append]
    unfold cr
    by_cases h : p % 2 = 1
    · rw [if_pos h, if_pos h]
    · rw [if_neg h, if_neg h]
      exact cr_A l b (p / 2) (by omega) (by omega)
theorem cr_B : ∀ (l : List Bool) (b : Bool), cr (l ++ [b]) (2 ^ l.length) = b
  | [], b => by cases b <;> rfl
  | c :: l, b => by
    rw [List.cons_append]
    unfold cr
    rw [List.length_cons, Nat.pow_succ, if_neg (by omega), Nat.mul_div_cancel _ (by decide)]
    exact cr_B l b
theorem pow_even (n : Nat) : 2 ^ n = 1 ∨ 2 ^ n % 2 = 0 := by
  cases n with
  | zero => exact .inl rfl
  | succ n => rw [Nat.pow_succ]; omega
theorem cr_C : ∀ (l : List Bool) (b : Bool) (p : Nat), 0 < p → p < 2 ^ l.length → cr (l ++ [b]) (2 ^ l.length + p) = !cr l (2 ^ l.length - p)
  | [], b, p, h0, h1 => by simp at h1; omega
  | c :: l, b, p, h0, h1 => by
    rw [List.length_cons, Nat.pow_succ] at h1 ⊢
    rw [List.cons_append]
    have hp := pow_even l.length
    have ih := cr_C l b (p / 2)
    generalize 2 ^ l.length = m at h1 hp ih ⊢
    unfold cr
    by_cases h : p % 2 = 1
    · rw [if_pos (by omega), if_pos (by omega)]
      by_cases h4 : (m * 2 + p) % 4 = 1
      · rw [decide_eq_true h4, decide_eq_false (by omega)]
        cases c <;> rfl
      · rw [decide_eq_false h4, decide_eq_true (by omega)]
        cases c <;> rfl
    · rw [if_neg (by omega), if_neg (by omega), show (m * 2 + p) / 2 = m + p / 2 by omega, show (m * 2 - p) / 2 = m - p / 2 by omega]
      exact ih (by omega) (by omega)
/-- all creases, the letters from the last one -/
def rowL (l : List Bool) : List Bool := (List.range (2 ^ l.length - 1)).map fun i => cr l (i + 1)
theorem rowL_len (l : List Bool) : (rowL l).length = 2 ^ l.length - 1 := by simp [rowL]
theorem rowL_get {l : List Bool} {i : Nat} (h : i < 2 ^ l.length - 1) : (rowL l)[i]? = some (cr l (i + 1)) := by
  unfold rowL
  rw [List.getElem?_map, List.getElem?_range h]
  rfl
theorem rowL_app (l : List Bool) (b : Bool) : rowL (l ++ [b]) = rowL l ++ [b] ++ (rowL l).reverse.map (!·) := by
  have hpos : 0 < 2 ^ l.length := Nat.pow_pos (by decide)
  have hlen : 2 ^ (l ++ [b]).length = 2 ^ l.length * 2 := by rw [List.length_append, List.length_singleton, Nat.pow_succ]
  apply List.ext_getElem?
  intro i
  by_cases hi : i < 2 ^ l.length * 2 - 1
  · rw [rowL_get (by rw [hlen]; exact hi)]
    by_cases h1 : i < 2 ^ l.length - 1
    · rw [List.append_assoc, List.getElem?_append_left (by rw [rowL_len]; exact h1), rowL_get h1, cr_A l b _ (by omega) (by omega)]
    · by_cases h2 : i = 2 ^ l.length - 1
      · rw [List.getElem?_append_left (by simp [rowL_len]; omega), List.getElem?_append_right (by rw [rowL_len]; omega), rowL_len, h2, Nat.sub_self, Nat.sub_add_cancel hpos, cr_B]
        rfl
      · rw [List.getElem?_append_right (by simp [rowL_len]; omega), List.getElem?_map, List.length_append, rowL_len, List.length_singleton,
          List.getElem?_reverse (by rw [rowL_len]; omega), rowL_len, rowL_get (by omega)]
        have := cr_C l b (i + 1 - 2 ^ l.length) (by omega) (by omega)
        rw [show 2 ^ l.length + (i + 1 - 2 ^ l.length) = i + 1 by omega] at this
        rw [this, show 2 ^ l.length - (i + 1 - 2 ^ l.length) = 2 ^ l.length - 1 - 1 - (i - (2 ^ l.length - 1 + 1)) + 1 by omega]
        rfl
  · rw [List.getElem?_eq_none (by rw [rowL_len, hlen]; omega), List.getElem?_eq_none (by simp [rowL_len]; omega)]
theorem rowL_nil : rowL [] = [] := rfl
/-- signs as a text -/
def gs (l : List Bool) : Str := tx (l.map hc)
theorem gs_app (v w : List Bool) : gs v ++ gs w = gs (v ++ w) := by unfold gs; rw [tx_app, List.map_append]
theorem gs_signs (w : List Bool) : signs (w.map hc) = w.map sg := by unfold signs; rw [List.map_map]; rfl
theorem strsOf_tx {α : Type} (f : α → List Nat) : ∀ (L : List α), strsOf (L.map fun a => .str (tx (f a))) = some (L.map fun a => tx (f a))
  | [] => rfl
  | b :: w => by
    rw [List.map_cons]
    unfold strsOf
    rw [strsOf_tx f w]
    rfl
theorem sumLen_map {α : Type} (f : α → List Nat) (L : List α) : sumLen (L.map fun a => tx (f a)) = (L.map f).flatten.length := by
  unfold sumLen
  rw [List.map_map, List.length_flatten, List.map_map]
  congr 1
theorem join_map {α : Type} (f : α → List Nat) (L : List α) (h : (L.map f).flatten.length ≤ 1000000) : pJoin (.str "") [.list (L.map fun a => .str (tx (f a)))] = some (.str (tx (L.map f).flatten)) := by
  rw [lit_e]
  unfold pJoin
  dsimp only
  rw [strsOf_tx]
  dsimp only
  rw [sumLen_map, tx_length, List.length_nil, Nat.mul_zero, Nat.add_zero, if_pos h, tx_toList, joinL_nil, List.map_map]
  congr 4
theorem flat_one {α β : Type} (f : α → β) : ∀ (L : List α), (L.map fun a => [f a]).flatten = L.map f
  | [] => rfl
  | a :: L => by simp [flat_one f L]
theorem join_sg (w : List Bool) (h : w.length ≤ 1000000) : pJoin (.str "") [.list (w.map sg)] = some (.str (gs w)) := by
  have e := flat_one hc w
  have := join_map (fun b => [hc b]) w (by rw [e, List.length_map]; exact h)
  rw [e] at this
  exact this
theorem join_oc (w : List Bool) (h : w.length ≤ 1000000) : pJoin (.str "") [.list (w.map fun b => .str (tx [oc b]))] = some (.str (hs w)) := by
  have e := flat_one oc w
  have := join_map (fun b => [oc b]) w (by rw [e, List.length_map]; exact h)
  rw [e] at this
  exact this
/-! ### the rows that laws make, and the program's -/
theorem sg_eqh (b : Bool) : pEq (sg b) (.str "h") = some (.bool b) := by unfold sg; rw [lit_h, r_eqS]; cases b <;> rfl
theorem addG (v w : List Bool) (h : v.length + w.length ≤ 1000000) : pAdd (.str (gs v)) (.str (gs w)) = some (.str (gs (v ++ w))) := by
  unfold gs
  rw [r_addS (by simpa using h), List.map_append]
theorem sg_gs (b : Bool) : sg b = .str (gs [b]) := rfl
theorem lawrow_ok (w : List Bool) (st : SE) (h : w.length ≤ 18) : dn_law_row [.d (.str (hs w))] st = some (.ok (.str (gs (rowL w.reverse))), st) := by
  unfold dn_law_row sf_law_row
  have hr : pRev (.str (hs w)) = some (.str (hs w.reverse)) := by unfold hs; rw [r_revS (by simp; omega), List.map_reverse]
  have hit : itemsOf (.str (hs w.reverse)) = some (w.reverse.map fun b => .str (tx [oc b])) := by unfold hs; rw [r_itS, hs_signs]
  have hlw : w.reverse.length = w.length := List.length_reverse
  generalize w.reverse = v at hr hit hlw
  obtain ⟨dl', st', e, hI⟩ := forGo_inv (bd := bN 2) (body := lb_law_row_1) (fun i dl s => s = st ∧ ∃ x y, dl = [some (.d (.str (hs w))), some (.d (.str (gs (rowL (v.take i))))), x, y, none])
    (v.map fun b => .str (tx [oc b])) 0 [some (.d (.str (hs w))), some (.d (.str (gs (rowL [])))), none, none, none] st ⟨rfl, _, _, rfl⟩ (fun j z dl s ej hI => by
      obtain ⟨rfl, x, y, rfl⟩ := hI
      rw [Nat.zero_add]
      rw [List.getElem?_map] at ej
      cases hv : v[j]? with
      | none => rw [hv] at ej; cases ej
      | some b =>
        rw [hv] at ej
        cases ej
        have hjv : j < v.length := (List.getElem?_eq_some_iff.mp hv).1
        have hlen : (v.take j).length = j := by rw [List.length_take]; omega
        have hlr : (rowL (v.take j)).length < 2 ^ 17 := by
          rw [rowL_len, hlen]
          have : 2 ^ j ≤ 2 ^ 17 := Nat.pow_le_pow_right (by decide) (by omega)
          have : 0 < 2 ^ j := Nat.pow_pos (by decide)
          omega
        have ht : v.take (j + 1) = v.take j ++ [b] := by rw [List.take_succ, hv]; rfl
        rw [ht, rowL_app]
        have hrv : pRev (.str (gs (rowL (v.take j)))) = some (.str (gs (rowL (v.take j)).reverse)) := by unfold gs; rw [r_revS (by simp; omega), List.map_reverse]
        generalize rowL (v.take j) = R at hlr hrv ⊢
        have hi2 : itemsOf (.str (gs R.reverse)) = some (R.reverse.map sg) := by unfold gs; rw [r_itS, gs_signs]
        have hl := lck_map (bd := bN 4) (e := le_law_row_1) (dl := [some (.d (.str (hs w))), some (.d (.str (gs R))), some (.d (.str (tx [oc b]))), y, none]) (st := s) (vs := [4]) sg (fun c => sg !c) R.reverse rfl (by simp; omega) (fun c _ => by
          refine ⟨_, rfl, ?_⟩
          unfold le_law_row_1
          have e1 := sg_eqh c
          cases c with
          | true => rw [Bool.not_true, ← sg_r]; walk_at "evr"
          | false => rw [Bool.not_false, ← sg_h]; walk_at "evr")
        have hj := join_sg (R.reverse.map (!·)) (by simp; omega)
        rw [List.map_map] at hj
        have hj' : pJoin (.str "") [.list (R.reverse.map fun c => sg !c)] = some (.str (gs (R.reverse.map (!·)))) := hj
        have e1 := sgn_o b
        have a1 : pAdd (.str (gs R)) (sg b) = some (.str (gs (R ++ [b]))) := addG R [b] (by simp; omega)
        have a2 := addG (R ++ [b]) (R.reverse.map (!·)) (by simp; omega)
        have hty : tyB "str" (.str "") = true := rfl
        refine ⟨_, [some (.d (.str (hs w))), some (.d (.str (gs (R ++ [b] ++ R.reverse.map (!·))))), some (.d (.str (tx [oc b]))), some (.d (.str (gs (R.reverse.map (!·))))), none], _, rfl, ?_, rfl, _, _, rfl⟩
        unfold lb_law_row_1
        clear hj
        cases b with
        | true => rw [← sg_h] at a1; walk_at "evs"
        | false => rw [← sg_r] at a1; walk_at "evs")
  obtain ⟨rfl, x, y, rfl⟩ := hI
  rw [Nat.zero_add, List.length_map, List.take_length] at e
  have e0 : (.str "" : PyData) = .str (gs (rowL [])) := by rw [lit_e]; rfl
  rw [e0]
  walk_at "evs"
theorem lawcrease_go (x0 : SV) (st : SE) : ∀ (w : List Bool) (p : Nat) (t : Bool) (x4 : Option SV), w.length ≤ 300 → 0 < p → p < 2 ^ w.length →
    ∃ dl', forGo (bN 4) lb_law_crease_1 (w.map fun b => .str (tx [oc b])) [some x0, some (.d (.int (p : Int))), some (.d (.int ((2 ^ w.length : Nat) : Int))), some (.d (.bool t)), x4] st = some (.rt (sg (cr w.reverse p != t)), dl', st)
  | [], p, t, x4, _, h0, h1 => by simp at h1; omega
  | b :: r, p, t, x4, hl, h0, h1 => by
    rw [List.length_cons] at hl h1
    rw [Nat.pow_succ] at h1
    rw [List.map_cons, List.reverse_cons, List.length_cons, Nat.pow_succ]
    have hrl : r.reverse.length = r.length := List.length_reverse
    have hA := cr_A r.reverse b p h0
    have hB := cr_B r.reverse b
    have hC := cr_C r.reverse b (p - 2 ^ r.length)
    rw [hrl] at hA hB hC
    have ih := lawcrease_go x0 st r
    have e2 : ((2 ^ r.length * 2 : Nat) : Int) / 2 = ((2 ^ r.length : Nat) : Int) := by omega
    have hbig : 0 < 2 ^ r.length := Nat.pow_pos (by decide)
    generalize 2 ^ r.length = m at h1 hA hB hC ih e2 hbig ⊢
    have e1 := sgn_o b
    unfold forGo
    rw [r_bN]
    dsimp only
    by_cases hp : p = m
    · subst hp
      rw [hB]
      have d1 : decide ((p : Int) = (p : Int)) = true := decide_eq_true rfl
      have en : pNe (.bool b) (.bool t) = some (.bool (b != t)) := by cases b <;> cases t <;> rfl
      have hb : ∃ dl', lb_law_crease_1 ([some x0, some (.d (.int (p : Int))), some (.d (.int ((p * 2 : Nat) : Int))), some (.d (.bool t)), x4].set 4 (some (.d (.str (tx [oc b]))))) st = some (.rt (sg (b != t)), dl', st) := by
        unfold lb_law_crease_1
        refine ⟨[some x0, some (.d (.int (p : Int))), some (.d (.int (p : Int))), some (.d (.bool t)), some (.d (.str (tx [oc b])))], ?_⟩
        cases hbt : (b != t) with
        | true => rw [hbt] at en; rw [← sg_h]; walk_at "evs"
        | false => rw [hbt] at en; rw [← sg_r]; walk_at "evs"
      obtain ⟨dl', hb⟩ := hb
      rw [hb]
      exact ⟨dl', rfl⟩
    · have d1 : decide ((p : Int) = (m : Int)) = false := decide_eq_false (by omega)
      by_cases hlt : p < m
      · have d2 : decide ((m : Int) < (p : Int)) = false := decide_eq_false (by omega)
        have hb : lb_law_crease_1 ([some x0, some (.d (.int (p : Int))), some (.d (.int ((m * 2 : Nat) : Int))), some (.d (.bool t)), x4].set 4 (some (.d (.str (tx [oc b]))))) st = some (.nx, [some x0, some (.d (.int (p : Int))), some (.d (.int (m : Int))), some (.d (.bool t)), some (.d (.str (tx [oc b])))], st) := by
          unfold lb_law_crease_1
          walk_at "evs"
        rw [hb]
        dsimp only
        rw [hA hlt]
        exact ih p t _ (by omega) h0 hlt
      · have d2 : decide ((m : Int) < (p : Int)) = true := decide_eq_true (by omega)
        have m1 : pMul (.int 2) (.int (m : Int)) = some (.int (2 * (m : Int))) := r_mulI (.inl (by decide))
        have e3 : 2 * (m : Int) - (p : Int) = ((2 * m - p : Nat) : Int) := by omega
        have hb : lb_law_crease_1 ([some x0, some (.d (.int (p : Int))), some (.d (.int ((m * 2 : Nat) : Int))), some (.d (.bool t)), x4].set 4 (some (.d (.str (tx [oc b]))))) st = some (.nx, [some x0, some (.d (.int ((2 * m - p : Nat) : Int))), some (.d (.int (m : Int))), some (.d (.bool !t)), some (.d (.str (tx [oc b])))], st) := by
          unfold lb_law_crease_1
          rw [← e3]
          clear e3
          walk_at "evs"
        rw [hb]
        dsimp only
        have := hC (by omega) (by omega)
        rw [show m + (p - m) = p by omega, show m - (p - m) = 2 * m - p by omega] at this
        rw [this]
        obtain ⟨dl', h⟩ := ih (2 * m - p) (!t) (some (.d (.str (tx [oc b])))) (by omega) (by omega) (by omega)
        refine ⟨dl', ?_⟩
        rw [h]
        congr 3
        cases cr r.reverse (2 * m - p) <;> cases t <;> rfl
theorem lawcrease_ok (w : List Bool) (p : Nat) (st : SE) (h : w.length ≤ 300) (h0 : 0 < p) (h1 : p < 2 ^ w.length) : dn_law_crease [.d (.str (hs w)), .d (.int (p : Int))] st = some (.ok (sg (cr w.reverse p)), st) := by
  unfold dn_law_crease sf_law_crease
  obtain ⟨dl', e⟩ := lawcrease_go (.d (.str (hs w))) st w p false none h h0 h1
  have hl : pLen [.str (hs w)] = some (.int w.length) := by unfold hs; rw [r_lenS (by simp; omega), List.length_map]
  have hp : pShl (.int 1) (.int w.length) = some (.int ((2 ^ w.length : Nat) : Int)) := by
    rw [r_shl (by omega) (by omega) (by decide)]
    simp
  have it : itemsOf (.str (hs w)) = some (w.map fun b => .str (tx [oc b])) := by unfold hs; rw [r_itS, hs_signs]
  rw [Bool.bne_false] at e
  walk_at "evs"
theorem samenum_ok (i j : Int) (st : SE) : dn_law_same_number [.d (.int i), .d (.int j)] st = some (.ok (.bool (decide (i = j))), st) := by
  unfold dn_law_same_number sf_law_same_number
  have i1 := isi_ii i
  have i2 := isi_ib i
  walk_at "evs"
end DL
set_option autoImplicit false
namespace DL
open PySem PySem.Spec PyProof.Rows L2
local macro_rules | `(tactic| walk_at "ev") => `(tactic| simp only [r_fn, r_Rz, r_RzP, r_Try, r_Tr, r_Tn, r_Te, r_Tk, r_CL, r_cl, r_at0, r_at1, r_at2, r_at3, r_at4, r_hA0, r_hBA0, r_hCA0, r_hA1, r_hA2, r_hBA2, r_hCA2, r_hA3, r_hBA3, r_hCA3, r_hA4, r_hBA4, r_hCA4, r_hA5, r_hBA5, r_hCA5, r_hA6, r_hBA6, r_hCA6, r_hA7, r_hBA7, r_hCA7, r_hA8, r_hBA8, r_hCA8, r_hA9, r_hBA9, r_hCA9, r_hA10, r_hBA10, r_hCA10, r_hA11, r_hBA11, r_hCA11, r_hA12, r_hBA12, r_hCA12, r_hA13, r_hBA13, r_hCA13, r_hA14, r_hBA14, r_hCA14, r_hBP, r_hCP, r_iRv, r_iRo, r_lofL, r_lofT, r_tofL, r_tofT, r_bits, r_tyL, r_eB, r_bnd, r_bo, r_be, r_eR, r_Rs, r_bin, r_un, r_c, r_v, r_vd, r_and, r_or, r_if, r_eA, r_eAo, r_eAe, r_eAD, r_eADo, r_eADe, r_eDk, r_CB, r_aN, r_aD, r_aDo, r_aDe, r_aO, r_aOo, r_cA, r_cAe, r_sv0, r_sv1,
  r_call, r_callo, r_calle, r_O0, r_O1, r_Sl, r_Ch, r_Ch3, r_kT', r_kF, r_M, r_Ln, r_Lns, r_Ix, r_Ixs, r_Nl, r_Nls, r_iD, r_iDo, r_iDe, r_iDj, r_iA, r_iAo, r_iAe, r_iAj, r_Q, r_Qn, r_Qr, r_Qb, r_Qc, r_Qe, r_B, r_Bo, r_Be, r_G, r_R, r_E, r_I, r_N, r_X, r_F, r_Fo, r_lc, r_fnr, r_fnn, r_fne, r_tk,
  r_bT, r_bsN, r_bsC, r_bsK, r_bN, r_IB, r_addI, r_sub, r_neg, r_not, r_min, r_max, r_lenL, r_lenT, r_eqS, r_neS, r_eqI, r_neI, r_slL, r_itS, r_itL, r_itT, r_enS, r_enL, r_zip, r_zipS, r_bs2, r_bs3, r_w0, r_w1, r_tyS, r_IxO, r_IxOo, r_St2, r_CallK, r_dSel, r_s0, r_sl, r_sr, Option.toList_some, and_self, if_true, if_false, Bool.false_eq_true,
  List.map_cons, List.map_nil, List.length_cons, List.length_nil, List.cons_append, List.nil_append, List.replicate, List.getElem?_cons_zero, List.getElem?_cons_succ, List.set_cons_zero, List.set_cons_succ, Option.map_some, Option.map_none, Nat.reduceAdd, Nat.reduceSub])
local macro_rules | `(tactic| walk_at "evs") => `(tactic| simp only [*, r_fn, r_mod, r_fdv, r_mulI, r_shl, r_shr, r_pow, r_rg1, r_rg2, r_tup, r_lst, r_ixS, r_ixL, r_ixT, r_slS, r_lenS, r_addS, r_addL, r_revS, r_Lno, decide_true, decide_false, Nat.le_refl, Nat.reduceLeDiff, Int.reduceLT, Int.reduceLE, Bool.not_true, Bool.not_false, Bool.and_true, Bool.true_and, Bool.and_self, r_Rz, r_RzP, r_Try, r_Tr, r_Tn, r_Te, r_Tk, r_CL, r_cl, r_at0, r_at1, r_at2, r_at3, r_at4, r_hA0, r_hBA0, r_hCA0, r_hA1, r_hA2, r_hBA2, r_hCA2, r_hA3, r_hBA3, r_hCA3, r_hA4, r_hBA4, r_hCA4, r_hA5, r_hBA5, r_hCA5, r_hA6, r_hBA6, r_hCA6, r_hA7, r_hBA7, r_hCA7, r_hA8, r_hBA8, r_hCA8, r_hA9, r_hBA9, r_hCA9, r_hA10, r_hBA10, r_hCA10, r_hA11, r_hBA11, r_hCA11, r_hA12, r_hBA12, r_hCA12, r_hA13, r_hBA13, r_hCA13, r_hA14, r_hBA14, r_hCA14, r_hBP, r_hCP, r_iRv, r_iRo, r_lofL, r_lofT, r_tofL, r_tofT, r_bits, r_tyL, r_eB, r_bnd, r_bo, r_be, r_eR, r_Rs, r_bin, r_un, r_c, r_v, r_vd, r_and, r_or, r_if, r_eA, r_eAo, r_eAe, r_eAD, r_eADo, r_eADe, r_eDk, r_CB, r_aN, r_aD, r_aDo, r_aDe, r_aO, r_aOo, r_cA, r_cAe, r_sv0, r_sv1,
  r_call, r_callo, r_calle, r_O0, r_O1, r_Sl, r_Ch, r_Ch3, r_kT', r_kF, r_M, r_Ln, r_Lns, r_Ix, r_Ixs, r_Nl, r_Nls, r_iD, r_iDo, r_iDe, r_iDj, r_iA, r_iAo, r_iAe, r_iAj, r_Q, r_Qn, r_Qr, r_Qb, r_Qc, r_Qe, r_B, r_Bo, r_Be, r_G, r_R, r_E, r_I, r_N, r_X, r_F, r_Fo, r_lc, r_fnr, r_fnn, r_fne, r_tk,
  r_bT, r_bsN, r_bsC, r_bsK, r_bN, r_IB, r_addI, r_sub, r_neg, r_not, r_min, r_max, r_lenL, r_lenT, r_eqS, r_neS, r_eqI, r_neI, r_slL, r_itS, r_itL, r_itT, r_enS, r_enL, r_zip, r_zipS, r_bs2, r_bs3, r_w0, r_w1, r_tyS, r_IxO, r_IxOo, r_St2, r_CallK, r_dSel, r_s0, r_sl, r_sr, Option.toList_some, and_self, if_true, if_false, Bool.false_eq_true,
  List.map_cons, List.map_nil, List.length_cons, List.length_nil, List.cons_append, List.nil_append, List.replicate, List.getElem?_cons_zero, List.getElem?_cons_succ, List.set_cons_zero, List.set_cons_succ, Option.map_some, Option.map_none, Nat.reduceAdd, Nat.reduceSub])
local macro_rules | `(tactic| walk_at "evr") => `(tactic| ((walk_at "evs") <;> rfl))
theorem in_nat (n : Nat) (h : n < 4611686018427387904) : inLine (n : Int) = true := in_line (by omega) (by omega)
/-- a stretch of a row -/
def rowS (w : List Bool) (a n : Nat) : List Bool := (List.range n).map fun i => cr w.reverse (a + i)
theorem rowof_ok (w : List Bool) (a b : Nat) (st : SE) (h : w.length ≤ 60) (h0 : 0 < a) (h1 : a ≤ b) (h2 : b ≤ 2 ^ w.length) (h3 : b - a ≤ 100000) : dn_row_of [.d (.str (hs w)), .d (.int (a : Int)), .d (.int (b : Int))] st = some (.ok (.str (gs (rowS w a (b - a)))), st) := by
  unfold dn_row_of sf_row_of
  have hbig : 2 ^ w.length ≤ 2 ^ 60 := Nat.pow_le_pow_right (by decide) h
  have i1 : inLine (a : Int) = true := in_line (by omega) (by omega)
  have i2 : inLine (b : Int) = true := in_line (by omega) (by omega)
  have hn : ((b : Int) - (a : Int)).toNat = b - a := by omega
  have hl := lck_map (bd := bN 3) (e := le_row_of_1) (dl := [some (.d (.str (hs w))), some (.d (.int (a : Int))), some (.d (.int (b : Int))), none]) (st := st) (vs := [3]) (xs := rangeL (a : Int) (b : Int)) (fun (i : Nat) => .int ((a : Int) + i)) (fun i => sg (cr w.reverse (a + i))) (List.range (b - a)) (by unfold rangeL; rw [hn]) (by simp; omega) (fun i hi => by
    refine ⟨_, rfl, ?_⟩
    rw [List.mem_range] at hi
    have e := creaseat_ok w (a + i) st (by omega) (by omega) (by omega)
    rw [show ((a + i : Nat) : Int) = (a : Int) + (i : Int) by omega] at e
    unfold le_row_of_1
    walk_at "evs")
  have hj := join_sg (rowS w a (b - a)) (by unfold rowS; simp; omega)
  have hj' : pJoin (.str "") [.list ((List.range (b - a)).map fun i => sg (cr w.reverse (a + i)))] = some (.str (gs (rowS w a (b - a)))) := by
    rw [← hj]
    unfold rowS
    rw [List.map_map]
    rfl
  have hty : tyB "str" (.str "") = true := rfl
  clear hj
  walk_at "evs"
theorem row_ok (w : List Bool) (a k : Nat) (st : SE) (h : w.length ≤ 60) (h0 : 0 < a) (h1 : a ≤ 2 ^ w.length) (h2 : k ≤ 1000) : dn_row [.d (.str (hs w)), .d (.int (a : Int)), .d (.int (k : Int))] st = some (.ok (.str (gs (rowS w a (min (a + k) (2 ^ w.length) - a)))), st) := by
  unfold dn_row sf_row
  have e1 := needh_ok w st h
  have e2 := long_ok w st (by omega)
  have e3 := needp_ok w (a : Int) 1 ((2 ^ w.length : Nat) : Int) st h (by omega) (by omega)
  have e4 := whole_ok (k : Int) 0 1000 st (by omega) (by omega)
  have e5 := rowof_ok w a (min (a + k) (2 ^ w.length)) st h h0 (by omega) (by omega) (by omega)
  have hm : min ((a : Int) + (k : Int)) ((2 ^ w.length : Nat) : Int) = ((min (a + k) (2 ^ w.length) : Nat) : Int) := by omega
  walk_at "evs"
end DL
set_option autoImplicit false
namespace DL
open PySem PySem.Spec PyProof.Rows L2
local macro_rules | `(tactic| walk_at "ev") => `(tactic| simp only [r_fn, r_Rz, r_RzP, r_Try, r_Tr, r_Tn, r_Te, r_Tk, r_CL, r_cl, r_at0, r_at1, r_at2, r_at3, r_at4, r_hA0, r_hBA0, r_hCA0, r_hA1, r_hA2, r_hBA2, r_hCA2, r_hA3, r_hBA3, r_hCA3, r_hA4, r_hBA4, r_hCA4, r_hA5, r_hBA5, r_hCA5, r_hA6, r_hBA6, r_hCA6, r_hA7, r_hBA7, r_hCA7, r_hA8, r_hBA8, r_hCA8, r_hA9, r_hBA9, r_hCA9, r_hA10, r_hBA10, r_hCA10, r_hA11, r_hBA11, r_hCA11, r_hA12, r_hBA12, r_hCA12, r_hA13, r_hBA13, r_hCA13, r_hA14, r_hBA14, r_hCA14, r_hBP, r_hCP, r_iRv, r_iRo, r_lofL, r_lofT, r_tofL, r_tofT, r_bits, r_tyL, r_eB, r_bnd, r_bo, r_be, r_eR, r_Rs, r_bin, r_un, r_c, r_v, r_vd, r_and, r_or, r_if, r_eA, r_eAo, r_eAe, r_eAD, r_eADo, r_eADe, r_eDk, r_CB, r_aN, r_aD, r_aDo, r_aDe, r_aO, r_aOo, r_cA, r_cAe, r_sv0, r_sv1,
  r_call, r_callo, r_calle, r_O0, r_O1, r_Sl, r_Ch, r_Ch3, r_kT', r_kF, r_M, r_Ln, r_Lns, r_Ix, r_Ixs, r_Nl, r_Nls, r_iD, r_iDo, r_iDe, r_iDj, r_iA, r_iAo, r_iAe, r_iAj, r_Q, r_Qn, r_Qr, r_Qb, r_Qc, r_Qe, r_B, r_Bo, r_Be, r_G, r_R, r_E, r_I, r_N, r_X, r_F, r_Fo, r_lc, r_fnr, r_fnn, r_fne, r_tk,
  r_bT, r_bsN, r_bsC, r_bsK, r_bN, r_IB, r_addI, r_sub, r_neg, r_not, r_min, r_max, r_lenL, r_lenT, r_eqS, r_neS, r_eqI, r_neI, r_slL, r_itS, r_itL, r_itT, r_enS, r_enL, r_zip, r_zipS, r_bs2, r_bs3, r_w0, r_w1, r_tyS, r_IxO, r_IxOo, r_St2, r_CallK, r_dSel, r_s0, r_sl, r_sr, Option.toList_some, and_self, if_true, if_false, Bool.false_eq_true,
  List.map_cons, List.map_nil, List.length_cons, List.length_nil, List.cons_append, List.nil_append, List.replicate, List.getElem?_cons_zero, List.getElem?_cons_succ, List.set_cons_zero, List.set_cons_succ, Option.map_some, Option.map_none, Nat.reduceAdd, Nat.reduceSub])
local macro_rules | `(tactic| walk_at "evs") => `(tactic| simp only [*, r_fn, r_mod, r_fdv, r_mulI, r_shl, r_shr, r_pow, r_rg1, r_rg2, r_tup, r_lst, r_ixS, r_ixL, r_ixT, r_slS, r_lenS, r_addS, r_addL, r_revS, r_Lno, decide_true, decide_false, Nat.le_refl, Nat.reduceLeDiff, Int.reduceLT, Int.reduceLE, Bool.not_true, Bool.not_false, Bool.and_true, Bool.true_and, Bool.and_self, r_Rz, r_RzP, r_Try, r_Tr, r_Tn, r_Te, r_Tk, r_CL, r_cl, r_at0, r_at1, r_at2, r_at3, r_at4, r_hA0, r_hBA0, r_hCA0, r_hA1, r_hA2, r_hBA2, r_hCA2, r_hA3, r_hBA3, r_hCA3, r_hA4, r_hBA4, r_hCA4, r_hA5, r_hBA5, r_hCA5, r_hA6, r_hBA6, r_hCA6, r_hA7, r_hBA7, r_hCA7, r_hA8, r_hBA8, r_hCA8, r_hA9, r_hBA9, r_hCA9, r_hA10, r_hBA10, r_hCA10, r_hA11, r_hBA11, r_hCA11, r_hA12, r_hBA12, r_hCA12, r_hA13, r_hBA13, r_hCA13, r_hA14, r_hBA14, r_hCA14, r_hBP, r_hCP, r_iRv, r_iRo, r_lofL, r_lofT, r_tofL, r_tofT, r_bits, r_tyL, r_eB, r_bnd, r_bo, r_be, r_eR, r_Rs, r_bin, r_un, r_c, r_v, r_vd, r_and, r_or, r_if, r_eA, r_eAo, r_eAe, r_eAD, r_eADo, r_eADe, r_eDk, r_CB, r_aN, r_aD, r_aDo, r_aDe, r_aO, r_aOo, r_cA, r_cAe, r_sv0, r_sv1,
  r_call, r_callo, r_calle, r_O0, r_O1, r_Sl, r_Ch, r_Ch3, r_kT', r_kF, r_M, r_Ln, r_Lns, r_Ix, r_Ixs, r_Nl, r_Nls, r_iD, r_iDo, r_iDe, r_iDj, r_iA, r_iAo, r_iAe, r_iAj, r_Q, r_Qn, r_Qr, r_Qb, r_Qc, r_Qe, r_B, r_Bo, r_Be, r_G, r_R, r_E, r_I, r_N, r_X, r_F, r_Fo, r_lc, r_fnr, r_fnn, r_fne, r_tk,
  r_bT, r_bsN, r_bsC, r_bsK, r_bN, r_IB, r_addI, r_sub, r_neg, r_not, r_min, r_max, r_lenL, r_lenT, r_eqS, r_neS, r_eqI, r_neI, r_slL, r_itS, r_itL, r_itT, r_enS, r_enL, r_zip, r_zipS, r_bs2, r_bs3, r_w0, r_w1, r_tyS, r_IxO, r_IxOo, r_St2, r_CallK, r_dSel, r_s0, r_sl, r_sr, Option.toList_some, and_self, if_true, if_false, Bool.false_eq_true,
  List.map_cons, List.map_nil, List.length_cons, List.length_nil, List.cons_append, List.nil_append, List.replicate, List.getElem?_cons_zero, List.getElem?_cons_succ, List.set_cons_zero, List.set_cons_succ, Option.map_some, Option.map_none, Nat.reduceAdd, Nat.reduceSub])
local macro_rules | `(tactic| walk_at "evr") => `(tactic| ((walk_at "evs") <;> rfl))
theorem ne_sg (a b : Bool) : pNe (sg a) (sg b) = some (.bool (a != b)) := by unfold sg; rw [r_neS]; cases a <;> cases b <;> rfl
theorem eq_sg (a b : Bool) : pEq (sg a) (sg b) = some (.bool (a == b)) := by unfold sg; rw [r_eqS]; cases a <;> cases b <;> rfl
theorem ne_ss (x : Str) : pNe (.str x) (.str x) = some (.bool false) := by unfold pNe pEqB; simp
theorem eq_ss (x : Str) : pEq (.str x) (.str x) = some (.bool true) := by unfold pEq pEqB; simp
theorem ne_ii (i : Int) : pNe (.int i) (.int i) = some (.bool false) := by rw [r_neI, decide_eq_true rfl]; rfl
theorem len_hs (w : List Bool) (h : w.length ≤ 1000000) : pLen [.str (hs w)] = some (.int (w.length : Int)) := by unfold hs; rw [r_lenS (by simpa using h), List.length_map]
theorem len_gs (w : List Bool) (h : w.length ≤ 1000000) : pLen [.str (gs w)] = some (.int (w.length : Int)) := by unfold gs; rw [r_lenS (by simpa using h), List.length_map]
theorem shl1 (n : Nat) (h : n ≤ 1000000) : pShl (.int 1) (.int (n : Int)) = some (.int ((2 ^ n : Nat) : Int)) := by
  rw [r_shl (by omega) (by omega) (by decide)]
  simp
theorem it_hs (w : List Bool) : itemsOf (.str (hs w)) = some (w.map fun b => .str (tx [oc b])) := by unfold hs; rw [r_itS, hs_signs]
theorem it_gs (w : List Bool) : itemsOf (.str (gs w)) = some (w.map sg) := by unfold gs; rw [r_itS, gs_signs]
theorem cut_init {α : Type} (l : List α) : cutL l none (some (-1)) = l.dropLast := by
  unfold cutL
  rw [HT.sIx_none]
  have : HT.sIx l.length l.length (some (-1)) = l.length - 1 := by
    unfold HT.sIx
    simp
    omega
  rw [this, List.dropLast_eq_take]
  simp
theorem cut_take {α : Type} (l : List α) (k : Nat) : cutL l none (some (k : Int)) = l.take k := by
  unfold cutL
  rw [HT.sIx_none, sIx_nat]
  simp
theorem cut_drop {α : Type} (l : List α) (k : Nat) : cutL l (some (k : Int)) none = l.drop k := by
  unfold cutL
  rw [HT.sIx_none, sIx_nat]
  by_cases h : k ≤ l.length
  · rw [Nat.min_eq_left h, List.take_of_length_le (by simp)]
  · rw [Nat.min_eq_right (by omega), List.drop_eq_nil_of_le (Nat.le_refl _), List.drop_eq_nil_of_le (by omega)]
    simp
theorem sl_init (w : List Bool) (h : w.length ≤ 1000000) : pSl (.str (hs w)) none (some (-1)) = some (.str (hs w.dropLast)) := by
  unfold hs
  rw [r_slS (by simpa using h), cut_init, List.map_dropLast]
theorem sl_take (w : List Bool) (k : Nat) (h : w.length ≤ 1000000) : pSl (.str (hs w)) none (some (k : Int)) = some (.str (hs (w.take k))) := by
  unfold hs
  rw [r_slS (by simpa using h), cut_take, List.map_take]
theorem sl_drop (w : List Bool) (k : Nat) (h : w.length ≤ 1000000) : pSl (.str (hs w)) (some (k : Int)) none = some (.str (hs (w.drop k))) := by
  unfold hs
  rw [r_slS (by simpa using h), cut_drop, List.map_drop]
theorem ix_hs (w : List Bool) (k : Nat) (b : Bool) (h : w.length ≤ 1000000) (e : w[k]? = some b) : pIx (.str (hs w)) (.int (k : Int)) = some (.str (tx [oc b])) := by
  unfold hs
  rw [r_ixS (by simpa using h), atI_nat (v := oc b) (by rw [List.getElem?_map, e]; rfl)]
  rfl
theorem ix_gs (w : List Bool) (k : Nat) (b : Bool) (h : w.length ≤ 1000000) (e : w[k]? = some b) : pIx (.str (gs w)) (.int (k : Int)) = some (sg b) := by
  unfold gs
  rw [r_ixS (by simpa using h), atI_nat (v := hc b) (by rw [List.getElem?_map, e]; rfl)]
  rfl
theorem filter_range (n m : Nat) : (List.range n).filter (fun k => decide (k < m)) = List.range (min n m) := by
  induction n with
  | zero => simp
  | succ n ih =>
    rw [List.range_succ, List.filter_append, ih]
    by_cases h : n < m
    · rw [List.filter_cons_of_pos (by simpa using h), Nat.min_eq_left (by omega), Nat.min_eq_left (by omega), List.range_succ]
      rfl
    · rw [List.filter_cons_of_neg (by simpa using h), List.filter_nil, List.append_nil, Nat.min_eq_right (by omega), Nat.min_eq_right (by omega)]
theorem pow2_split (n : Nat) (h : 1 ≤ n) : 2 ^ n = 2 * 2 ^ (n - 1) := by
  obtain ⟨k, rfl⟩ : ∃ k, n = k + 1 := ⟨n - 1, by omega⟩
  rw [Nat.pow_succ, Nat.add_sub_cancel]
  omega
theorem rev_last (w : List Bool) (h : 1 ≤ w.length) : ∃ b, w.reverse = b :: w.dropLast.reverse := by
  have hw : w ≠ [] := by intro e; rw [e] at h; simp at h
  refine ⟨w.getLast hw, ?_⟩
  have := List.dropLast_concat_getLast hw
  conv => lhs; rw [← this]
  rw [List.reverse_append]
  rfl
theorem cr_even (w : List Bool) (p : Nat) (h : 1 ≤ w.length) : cr w.reverse (2 * p) = cr w.dropLast.reverse p := by
  obtain ⟨b, e⟩ := rev_last w h
  rw [e]
  conv => lhs; unfold cr
  rw [if_neg (by omega), Nat.mul_div_cancel_left _ (by decide)]
theorem cr_odd (w : List Bool) (h : 1 ≤ w.length) : ∃ b, ∀ q, cr w.reverse (2 * q + 1) = (b == decide (q % 2 = 0)) := by
  obtain ⟨b, e⟩ := rev_last w h
  refine ⟨b, fun q => ?_⟩
  rw [e]
  unfold cr
  rw [if_pos (by omega)]
  congr 1
  rw [decide_eq_decide]
  omega
end DL
set_option autoImplicit false
namespace DL
open PySem PySem.Spec PyProof.Rows L2
local macro_rules | `(tactic| walk_at "ev") => `(tactic| simp only [r_fn, r_Rz, r_RzP, r_Try, r_Tr, r_Tn, r_Te, r_Tk, r_CL, r_cl, r_at0, r_at1, r_at2, r_at3, r_at4, r_hA0, r_hBA0, r_hCA0, r_hA1, r_hA2, r_hBA2, r_hCA2, r_hA3, r_hBA3, r_hCA3, r_hA4, r_hBA4, r_hCA4, r_hA5, r_hBA5, r_hCA5, r_hA6, r_hBA6, r_hCA6, r_hA7, r_hBA7, r_hCA7, r_hA8, r_hBA8, r_hCA8, r_hA9, r_hBA9, r_hCA9, r_hA10, r_hBA10, r_hCA10, r_hA11, r_hBA11, r_hCA11, r_hA12, r_hBA12, r_hCA12, r_hA13, r_hBA13, r_hCA13, r_hA14, r_hBA14, r_hCA14, r_hBP, r_hCP, r_iRv, r_iRo, r_lofL, r_lofT, r_tofL, r_tofT, r_bits, r_tyL, r_eB, r_bnd, r_bo, r_be, r_eR, r_Rs, r_bin, r_un, r_c, r_v, r_vd, r_and, r_or, r_if, r_eA, r_eAo, r_eAe, r_eAD, r_eADo, r_eADe, r_eDk, r_CB, r_aN, r_aD, r_aDo, r_aDe, r_aO, r_aOo, r_cA, r_cAe, r_sv0, r_sv1,
  r_call, r_callo, r_calle, r_O0, r_O1, r_Sl, r_Ch, r_Ch3, r_kT', r_kF, r_M, r_Ln, r_Lns, r_Ix, r_Ixs, r_Nl, r_Nls, r_iD, r_iDo, r_iDe, r_iDj, r_iA, r_iAo, r_iAe, r_iAj, r_Q, r_Qn, r_Qr, r_Qb, r_Qc, r_Qe, r_B, r_Bo, r_Be, r_G, r_R, r_E, r_I, r_N, r_X, r_F, r_Fo, r_lc, r_fnr, r_fnn, r_fne, r_tk,
  r_bT, r_bsN, r_bsC, r_bsK, r_bN, r_IB, r_addI, r_sub, r_neg, r_not, r_min, r_max, r_lenL, r_lenT, r_eqS, r_neS, r_eqI, r_neI, r_slL, r_itS, r_itL, r_itT, r_enS, r_enL, r_zip, r_zipS, r_bs2, r_bs3, r_w0, r_w1, r_tyS, r_IxO, r_IxOo, r_St2, r_CallK, r_dSel, r_s0, r_sl, r_sr, Option.toList_some, and_self, if_true, if_false, Bool.false_eq_true,
  List.map_cons, List.map_nil, List.length_cons, List.length_nil, List.cons_append, List.nil_append, List.replicate, List.getElem?_cons_zero, List.getElem?_cons_succ, List.set_cons_zero, List.set_cons_succ, Option.map_some, Option.map_none, Nat.reduceAdd, Nat.reduceSub])
local macro_rules | `(tactic| walk_at "evs") => `(tactic| simp only [*, r_fn, r_mod, r_fdv, r_mulI, r_shl, r_shr, r_pow, r_rg1, r_rg2, r_tup, r_lst, r_ixS, r_ixL, r_ixT, r_slS, r_lenS, r_addS, r_addL, r_revS, r_Lno, decide_true, decide_false, Nat.le_refl, Nat.reduceLeDiff, Int.reduceLT, Int.reduceLE, Bool.not_true, Bool.not_false, Bool.and_true, Bool.true_and, Bool.and_self, r_Rz, r_RzP, r_Try, r_Tr, r_Tn, r_Te, r_Tk, r_CL, r_cl, r_at0, r_at1, r_at2, r_at3, r_at4, r_hA0, r_hBA0, r_hCA0, r_hA1, r_hA2, r_hBA2, r_hCA2, r_hA3, r_hBA3, r_hCA3, r_hA4, r_hBA4, r_hCA4, r_hA5, r_hBA5, r_hCA5, r_hA6, r_hBA6, r_hCA6, r_hA7, r_hBA7, r_hCA7, r_hA8, r_hBA8, r_hCA8, r_hA9, r_hBA9, r_hCA9, r_hA10, r_hBA10, r_hCA10, r_hA11, r_hBA11, r_hCA11, r_hA12, r_hBA12, r_hCA12, r_hA13, r_hBA13, r_hCA13, r_hA14, r_hBA14, r_hCA14, r_hBP, r_hCP, r_iRv, r_iRo, r_lofL, r_lofT, r_tofL, r_tofT, r_bits, r_tyL, r_eB, r_bnd, r_bo, r_be, r_eR, r_Rs, r_bin, r_un, r_c, r_v, r_vd, r_and, r_or, r_if, r_eA, r_eAo, r_eAe, r_eAD, r_eADo, r_eADe, r_eDk, r_CB, r_aN, r_aD, r_aDo, r_aDe, r_aO, r_aOo, r_cA, r_cAe, r_sv0, r_sv1,
  r_call, r_callo, r_calle, r_O0, r_O1, r_Sl, r_Ch, r_Ch3, r_kT', r_kF, r_M, r_Ln, r_Lns, r_Ix, r_Ixs, r_Nl, r_Nls, r_iD, r_iDo, r_iDe, r_iDj, r_iA, r_iAo, r_iAe, r_iAj, r_Q, r_Qn, r_Qr, r_Qb, r_Qc, r_Qe, r_B, r_Bo, r_Be, r_G, r_R, r_E, r_I, r_N, r_X, r_F, r_Fo, r_lc, r_fnr, r_fnn, r_fne, r_tk,
  r_bT, r_bsN, r_bsC, r_bsK, r_bN, r_IB, r_addI, r_sub, r_neg, r_not, r_min, r_max, r_lenL, r_lenT, r_eqS, r_neS, r_eqI, r_neI, r_slL, r_itS, r_itL, r_itT, r_enS, r_enL, r_zip, r_zipS, r_bs2, r_bs3, r_w0, r_w1, r_tyS, r_IxO, r_IxOo, r_St2, r_CallK, r_dSel, r_s0, r_sl, r_sr, Option.toList_some, and_self, if_true, if_false, Bool.false_eq_true,
  List.map_cons, List.map_nil, List.length_cons, List.length_nil, List.cons_append, List.nil_append, List.replicate, List.getElem?_cons_zero, List.getElem?_cons_succ, List.set_cons_zero, List.set_cons_succ, Option.map_some, Option.map_none, Nat.reduceAdd, Nat.reduceSub])
local macro_rules | `(tactic| walk_at "evr") => `(tactic| ((walk_at "evs") <;> rfl))
/-! ### stretches of rows -/
theorem rowS_len (w : List Bool) (a n : Nat) : (rowS w a n).length = n := by unfold rowS; simp
theorem rowS_get (w : List Bool) (a n i : Nat) (h : i < n) : (rowS w a n)[i]? = some (cr w.reverse (a + i)) := by
  unfold rowS
  rw [List.getElem?_map, List.getElem?_range h]
  rfl
theorem rowL_S (w : List Bool) : rowL w.reverse = rowS w 1 (2 ^ w.length - 1) := by
  unfold rowL rowS
  rw [List.length_reverse]
  apply List.map_congr_left
  intro i _
  rw [Nat.add_comm]
theorem rowS_cut (w : List Bool) (a n i k : Nat) : ((rowS w a n).drop i).take k = rowS w (a + i) (min k (n - i)) := by
  apply List.ext_getElem?
  intro j
  by_cases hj : j < min k (n - i)
  · rw [rowS_get _ _ _ _ hj, List.getElem?_take_of_lt (by omega), List.getElem?_drop, rowS_get _ _ _ _ (by omega), Nat.add_assoc]
  · rw [List.getElem?_eq_none (by simp [rowS_len]; omega), List.getElem?_eq_none (by rw [rowS_len]; omega)]
theorem rowS_succ (w : List Bool) (a n : Nat) : rowS w a (n + 1) = rowS w a n ++ [cr w.reverse (a + n)] := by
  unfold rowS
  rw [List.range_succ, List.map_append]
  rfl
theorem cut_both {α : Type} (l : List α) (i j : Nat) : cutL l (some (i : Int)) (some (j : Int)) = (l.drop i).take (j - i) := by
  unfold cutL
  rw [sIx_nat, sIx_nat]
  by_cases h : i ≤ l.length
  · rw [Nat.min_eq_left h]
    by_cases h2 : j ≤ l.length
    · rw [Nat.min_eq_left h2]
    · rw [Nat.min_eq_right (by omega), List.take_of_length_le (by simp), List.take_of_length_le (by simp; omega)]
  · rw [Nat.min_eq_right (a := i) (by omega), List.drop_eq_nil_of_le (Nat.le_refl _), List.drop_eq_nil_of_le (by omega)]
    simp
theorem sl_gs (R : List Bool) (i j : Nat) (h : R.length ≤ 1000000) : pSl (.str (gs R)) (some (i : Int)) (some (j : Int)) = some (.str (gs ((R.drop i).take (j - i)))) := by
  unfold gs
  rw [r_slS (by simpa using h), cut_both, List.map_take, List.map_drop]
theorem sl_gs0 (R : List Bool) (j : Nat) (h : R.length ≤ 1000000) : pSl (.str (gs R)) none (some (j : Int)) = some (.str (gs (R.take j))) := by
  unfold gs
  rw [r_slS (by simpa using h), cut_take, List.map_take]
theorem ix_last (R : List Bool) (b : Bool) (h : R.length < 1000000) : pIx (.str (gs (R ++ [b]))) (.int (-1)) = some (sg b) := by
  unfold gs
  rw [r_ixS (by simp; omega), List.map_append, List.map_singleton, atI_last]
  rfl
theorem row_app (w : List Bool) (a k : Nat) (st : SE) (h : w.length ≤ 60) (h0 : 0 < a) (h1 : a ≤ 2 ^ w.length) (h2 : k ≤ 1000) (h3 : w.length ≤ 15) :
    dn_row [.d (.str (hs w)), .d (.int (a : Int)), .d (.int (k : Int))] st = some (.ok (.str (gs (((rowL w.reverse).drop (a - 1)).take k))), st) := by
  rw [row_ok w a k st h h0 h1 h2, rowL_S, rowS_cut, show 1 + (a - 1) = a by omega, show min k (2 ^ w.length - 1 - (a - 1)) = min (a + k) (2 ^ w.length) - a by omega]
end DL
set_option autoImplicit false
namespace DL
open PySem PySem.Spec PyProof.Rows L2
local macro_rules | `(tactic| walk_at "ev") => `(tactic| simp only [r_fn, r_Rz, r_RzP, r_Try, r_Tr, r_Tn, r_Te, r_Tk, r_CL, r_cl, r_at0, r_at1, r_at2, r_at3, r_at4, r_hA0, r_hBA0, r_hCA0, r_hA1, r_hA2, r_hBA2, r_hCA2, r_hA3, r_hBA3, r_hCA3, r_hA4, r_hBA4, r_hCA4, r_hA5, r_hBA5, r_hCA5, r_hA6, r_hBA6, r_hCA6, r_hA7, r_hBA7, r_hCA7, r_hA8, r_hBA8, r_hCA8, r_hA9, r_hBA9, r_hCA9, r_hA10, r_hBA10, r_hCA10, r_hA11, r_hBA11, r_hCA11, r_hA12, r_hBA12, r_hCA12, r_hA13, r_hBA13, r_hCA13, r_hA14, r_hBA14, r_hCA14, r_hBP, r_hCP, r_iRv, r_iRo, r_lofL, r_lofT, r_tofL, r_tofT, r_bits, r_tyL, r_eB, r_bnd, r_bo, r_be, r_eR, r_Rs, r_bin, r_un, r_c, r_v, r_vd, r_and, r_or, r_if, r_eA, r_eAo, r_eAe, r_eAD, r_eADo, r_eADe, r_eDk, r_CB, r_aN, r_aD, r_aDo, r_aDe, r_aO, r_aOo, r_cA, r_cAe, r_sv0, r_sv1,
  r_call, r_callo, r_calle, r_O0, r_O1, r_Sl, r_Ch, r_Ch3, r_kT', r_kF, r_M, r_Ln, r_Lns, r_Ix, r_Ixs, r_Nl, r_Nls, r_iD, r_iDo, r_iDe, r_iDj, r_iA, r_iAo, r_iAe, r_iAj, r_Q, r_Qn, r_Qr, r_Qb, r_Qc, r_Qe, r_B, r_Bo, r_Be, r_G, r_R, r_E, r_I, r_N, r_X, r_F, r_Fo, r_lc, r_fnr, r_fnn, r_fne, r_tk,
  r_bT, r_bsN, r_bsC, r_bsK, r_bN, r_IB, r_addI, r_sub, r_neg, r_not, r_min, r_max, r_lenL, r_lenT, r_eqS, r_neS, r_eqI, r_neI, r_slL, r_itS, r_itL, r_itT, r_enS, r_enL, r_zip, r_zipS, r_bs2, r_bs3, r_w0, r_w1, r_tyS, r_IxO, r_IxOo, r_St2, r_CallK, r_dSel, r_s0, r_sl, r_sr, Option.toList_some, and_self, if_true, if_false, Bool.false_eq_true,
  List.map_cons, List.map_nil, List.length_cons, List.length_nil, List.cons_append, List.nil_append, List.replicate, List.getElem?_cons_zero, List.getElem?_cons_succ, List.set_cons_zero, List.set_cons_succ, Option.map_some, Option.map_none, Nat.reduceAdd, Nat.reduceSub])
local macro_rules | `(tactic| walk_at "evs") => `(tactic| simp only [*, r_fn, r_mod, r_fdv, r_mulI, r_shl, r_shr, r_pow, r_rg1, r_rg2, r_tup, r_lst, r_ixS, r_ixL, r_ixT, r_slS, r_lenS, r_addS, r_addL, r_revS, r_Lno, decide_true, decide_false, Nat.le_refl, Nat.reduceLeDiff, Int.reduceLT, Int.reduceLE, Bool.not_true, Bool.not_false, Bool.and_true, Bool.true_and, Bool.and_self, r_Rz, r_RzP, r_Try, r_Tr, r_Tn, r_Te, r_Tk, r_CL, r_cl, r_at0, r_at1, r_at2, r_at3, r_at4, r_hA0, r_hBA0, r_hCA0, r_hA1, r_hA2, r_hBA2, r_hCA2, r_hA3, r_hBA3, r_hCA3, r_hA4, r_hBA4, r_hCA4, r_hA5, r_hBA5, r_hCA5, r_hA6, r_hBA6, r_hCA6, r_hA7, r_hBA7, r_hCA7, r_hA8, r_hBA8, r_hCA8, r_hA9, r_hBA9, r_hCA9, r_hA10, r_hBA10, r_hCA10, r_hA11, r_hBA11, r_hCA11, r_hA12, r_hBA12, r_hCA12, r_hA13, r_hBA13, r_hCA13, r_hA14, r_hBA14, r_hCA14, r_hBP, r_hCP, r_iRv, r_iRo, r_lofL, r_lofT, r_tofL, r_tofT, r_bits, r_tyL, r_eB, r_bnd, r_bo, r_be, r_eR, r_Rs, r_bin, r_un, r_c, r_v, r_vd, r_and, r_or, r_if, r_eA, r_eAo, r_eAe, r_eAD, r_eADo, r_eADe, r_eDk, r_CB, r_aN, r_aD, r_aDo, r_aDe, r_aO, r_aOo, r_cA, r_cAe, r_sv0, r_sv1,
  r_call, r_callo, r_calle, r_O0, r_O1, r_Sl, r_Ch, r_Ch3, r_kT', r_kF, r_M, r_Ln, r_Lns, r_Ix, r_Ixs, r_Nl, r_Nls, r_iD, r_iDo, r_iDe, r_iDj, r_iA, r_iAo, r_iAe, r_iAj, r_Q, r_Qn, r_Qr, r_Qb, r_Qc, r_Qe, r_B, r_Bo, r_Be, r_G, r_R, r_E, r_I, r_N, r_X, r_F, r_Fo, r_lc, r_fnr, r_fnn, r_fne, r_tk,
  r_bT, r_bsN, r_bsC, r_bsK, r_bN, r_IB, r_addI, r_sub, r_neg, r_not, r_min, r_max, r_lenL, r_lenT, r_eqS, r_neS, r_eqI, r_neI, r_slL, r_itS, r_itL, r_itT, r_enS, r_enL, r_zip, r_zipS, r_bs2, r_bs3, r_w0, r_w1, r_tyS, r_IxO, r_IxOo, r_St2, r_CallK, r_dSel, r_s0, r_sl, r_sr, Option.toList_some, and_self, if_true, if_false, Bool.false_eq_true,
  List.map_cons, List.map_nil, List.length_cons, List.length_nil, List.cons_append, List.nil_append, List.replicate, List.getElem?_cons_zero, List.getElem?_cons_succ, List.set_cons_zero, List.set_cons_succ, Option.map_some, Option.map_none, Nat.reduceAdd, Nat.reduceSub])
local macro_rules | `(tactic| walk_at "evr") => `(tactic| ((walk_at "evs") <;> rfl))
/-! ### turned over, turned round -/
def nots (w : List Bool) : List Bool := w.map (!·)
theorem nots_len (w : List Bool) : (nots w).length = w.length := List.length_map ..
theorem nots_nots (w : List Bool) : nots (nots w) = w := by
  unfold nots
  rw [List.map_map]
  induction w with
  | nil => rfl
  | cons b r ih => rw [List.map_cons, ih]; cases b <;> rfl
theorem nots_rev (w : List Bool) : (nots w).reverse = nots w.reverse := by unfold nots; rw [List.map_reverse]
/-- the ends exchanged -/
def rnd : List Bool → List Bool
  | [] => []
  | b :: r => b :: nots r
theorem rnd_len (w : List Bool) : (rnd w).length = w.length := by
  cases w with
  | nil => rfl
  | cons b r => simp [rnd, nots_len]
theorem rnd_rnd (w : List Bool) : rnd (rnd w) = w := by
  cases w with
  | nil => rfl
  | cons b r => simp [rnd, nots_nots]
theorem rnd_nots (w : List Bool) : nots (rnd w) = rnd (nots w) := by
  cases w with
  | nil => rfl
  | cons b r => rfl
theorem lit_oc (b : Bool) : (.str (if b then "o" else "u") : PyData) = .str (tx [oc b]) := by
  cases b
  · show PyData.str "u" = _; rw [lit_u]; rfl
  · show PyData.str "o" = _; rw [lit_o]; rfl
theorem otherl_ok (b : Bool) (st : SE) : dn_other_letter [.d (.str (tx [oc b]))] st = some (.ok (.str (tx [oc !b])), st) := by
  unfold dn_other_letter sf_other_letter
  have e1 := sgn_o b
  cases b with
  | true =>
    have : (.str "u" : PyData) = .str (tx [oc false]) := by rw [lit_u]; rfl
    rw [Bool.not_true, ← this]
    clear this
    walk_at "evr"
  | false =>
    have : (.str "o" : PyData) = .str (tx [oc true]) := by rw [lit_o]; rfl
    rw [Bool.not_false, ← this]
    clear this
    walk_at "evr"
theorem others_ok (w : List Bool) (st : SE) (h : w.length ≤ 10000) : dn_others [.d (.str (hs w))] st = some (.ok (.str (hs (nots w))), st) := by
  unfold dn_others sf_others
  have it := it_hs w
  have hl := lck_map (bd := bN 1) (e := le_others_1) (dl := [some (.d (.str (hs w))), none]) (st := st) (vs := [1]) (fun b => .str (tx [oc b])) (fun b => .str (tx [oc !b])) w rfl (by omega) (fun b _ => by
    have e := otherl_ok b st
    exact ⟨_, rfl, by unfold le_others_1; walk_at "evr"⟩)
  have hj := join_oc (nots w) (by rw [nots_len]; omega)
  unfold nots at hj
  rw [List.map_map] at hj
  have hj' : pJoin (.str "") [.list (w.map fun b => .str (tx [oc !b]))] = some (.str (hs (nots w))) := hj
  clear hj
  walk_at "evr"
theorem over_ok (w : List Bool) (st : SE) (h : w.length ≤ 60) : dn_turned_over [.d (.str (hs w))] st = some (.ok (.str (hs (nots w))), st) := by
  unfold dn_turned_over sf_turned_over
  have e1 := needh_ok w st h
  have e2 := others_ok w st (by omega)
  walk_at "evr"
theorem round_ok (w : List Bool) (st : SE) (h : w.length ≤ 60) : dn_turned_round [.d (.str (hs w))] st = some (.ok (.str (hs (rnd w))), st) := by
  unfold dn_turned_round sf_turned_round
  have e1 := needh_ok w st h
  have s1 := sl_take w 1 (by omega)
  have s2 := sl_drop w 1 (by omega)
  rw [show ((1 : Nat) : Int) = 1 from rfl] at s1 s2
  have e2 := others_ok (w.drop 1) st (by rw [List.length_drop]; omega)
  have e3 : pAdd (.str (hs (w.take 1))) (.str (hs (nots (w.drop 1)))) = some (.str (hs (rnd w))) := by
    unfold hs
    rw [r_addS (by simp [nots]; omega), ← List.map_append]
    congr 4
    cases w with
    | nil => rfl
    | cons b r => rfl
  walk_at "evr"
theorem cr_not : ∀ (l : List Bool) (p : Nat), 0 < p → p < 2 ^ l.length → cr (nots l) p = !cr l p
  | [], p, h0, h1 => by simp at h1; omega
  | c :: l, p, h0, h1 => by
    rw [List.length_cons, Nat.pow_succ] at h1
    show cr ((!c) :: nots l) p = _
    unfold cr
    by_cases h : p % 2 = 1
    · rw [if_pos h, if_pos h]
      cases c <;> cases decide (p % 4 = 1) <;> rfl
    · rw [if_neg h, if_neg h]
      exact cr_not l (p / 2) (by omega) (by omega)
theorem cr_round (w : List Bool) (p : Nat) (h0 : 0 < p) (h1 : p < 2 ^ w.length) : cr (rnd w).reverse (2 ^ w.length - p) = cr w.reverse p := by
  cases w with
  | nil => simp at h1; omega
  | cons b r =>
    show cr (b :: nots r).reverse _ = _
    rw [List.reverse_cons, List.reverse_cons, nots_rev]
    rw [List.length_cons, Nat.pow_succ] at h1 ⊢
    have hrl : r.reverse.length = r.length := List.length_reverse
    have hnl : (nots r.reverse).length = r.length := by rw [nots_len, hrl]
    have A := fun q => cr_A r.reverse b q
    have A' := fun q => cr_A (nots r.reverse) b q
    have B := cr_B r.reverse b
    have B' := cr_B (nots r.reverse) b
    have C := fun q => cr_C r.reverse b q
    have C' := fun q => cr_C (nots r.reverse) b q
    have N := fun q => cr_not r.reverse q
    rw [hrl] at B
    rw [hnl] at B'
    simp only [hrl] at A C N
    simp only [hnl] at A' C'
    generalize 2 ^ r.length = m at *
    by_cases hlt : p < m
    · have := C' (m - p) (by omega) (by omega)
      rw [show m + (m - p) = m * 2 - p by omega, show m - (m - p) = p by omega] at this
      rw [this, N p h0 hlt, A p h0 hlt, Bool.not_not]
    · by_cases he : p = m
      · subst he
        rw [show p * 2 - p = p by omega, B', B]
      · have := C (p - m) (by omega) (by omega)
        rw [show m + (p - m) = p by omega, show m - (p - m) = m * 2 - p by omega] at this
        rw [this, A' _ (by omega) (by omega), N _ (by omega) (by omega)]
theorem rowL_not (w : List Bool) : rowL (nots w).reverse = (rowL w.reverse).map (!·) := by
  rw [nots_rev]
  unfold rowL
  rw [nots_len, List.map_map]
  apply List.map_congr_left
  intro i hi
  rw [List.mem_range] at hi
  exact cr_not w.reverse (i + 1) (by omega) (by omega)
theorem rowL_round (w : List Bool) : rowL (rnd w).reverse = (rowL w.reverse).reverse := by
  apply List.ext_getElem?
  intro i
  have l1 : (rnd w).reverse.length = w.length := by rw [List.length_reverse, rnd_len]
  have l2 : w.reverse.length = w.length := List.length_reverse
  by_cases hi : i < 2 ^ w.length - 1
  · rw [rowL_get (by rw [l1]; exact hi), List.getElem?_reverse (by rw [rowL_len, l2]; exact hi), rowL_len, l2, rowL_get (by rw [l2]; omega)]
    have := cr_round w (2 ^ w.length - 1 - 1 - i + 1) (by omega) (by omega)
    rw [show 2 ^ w.length - (2 ^ w.length - 1 - 1 - i + 1) = i + 1 by omega] at this
    rw [this]
  · rw [List.getElem?_eq_none (by rw [rowL_len, l1]; omega), List.getElem?_eq_none (by rw [List.length_reverse, rowL_len, l2]; omega)]
end DL
set_option autoImplicit false
namespace DL
open PySem PySem.Spec PyProof.Rows L2
local macro_rules | `(tactic| walk_at "ev") => `(tactic| simp only [r_fn, r_Rz, r_RzP, r_Try, r_Tr, r_Tn, r_Te, r_Tk, r_CL, r_cl, r_at0, r_at1, r_at2, r_at3, r_at4, r_hA0, r_hBA0, r_hCA0, r_hA1, r_hA2, r_hBA2, r_hCA2, r_hA3, r_hBA3, r_hCA3, r_hA4, r_hBA4, r_hCA4, r_hA5, r_hBA5, r_hCA5, r_hA6, r_hBA6, r_hCA6, r_hA7, r_hBA7, r_hCA7, r_hA8, r_hBA8, r_hCA8, r_hA9, r_hBA9, r_hCA9, r_hA10, r_hBA10, r_hCA10, r_hA11, r_hBA11, r_hCA11, r_hA12, r_hBA12, r_hCA12, r_hA13, r_hBA13, r_hCA13, r_hA14, r_hBA14, r_hCA14, r_hBP, r_hCP, r_iRv, r_iRo, r_lofL, r_lofT, r_tofL, r_tofT, r_bits, r_tyL, r_eB, r_bnd, r_bo, r_be, r_eR, r_Rs, r_bin, r_un, r_c, r_v, r_vd, r_and, r_or, r_if, r_eA, r_eAo, r_eAe, r_eAD, r_eADo, r_eADe, r_eDk, r_CB, r_aN, r_aD, r_aDo, r_aDe, r_aO, r_aOo, r_cA, r_cAe, r_sv0, r_sv1,
  r_call, r_callo, r_calle, r_O0, r_O1, r_Sl, r_Ch, r_Ch3, r_kT', r_kF, r_M, r_Ln, r_Lns, r_Ix, r_Ixs, r_Nl, r_Nls, r_iD, r_iDo, r_iDe, r_iDj, r_iA, r_iAo, r_iAe, r_iAj, r_Q, r_Qn, r_Qr, r_Qb, r_Qc, r_Qe, r_B, r_Bo, r_Be, r_G, r_R, r_E, r_I, r_N, r_X, r_F, r_Fo, r_lc, r_fnr, r_fnn, r_fne, r_tk,
  r_bT, r_bsN, r_bsC, r_bsK, r_bN, r_IB, r_addI, r_sub, r_neg, r_not, r_min, r_max, r_lenL, r_lenT, r_eqS, r_neS, r_eqI, r_neI, r_slL, r_itS, r_itL, r_itT, r_enS, r_enL, r_zip, r_zipS, r_bs2, r_bs3, r_w0, r_w1, r_tyS, r_IxO, r_IxOo, r_St2, r_CallK, r_dSel, r_s0, r_sl, r_sr, Option.toList_some, and_self, if_true, if_false, Bool.false_eq_true,
  List.map_cons, List.map_nil, List.length_cons, List.length_nil, List.cons_append, List.nil_append, List.replicate, List.getElem?_cons_zero, List.getElem?_cons_succ, List.set_cons_zero, List.set_cons_succ, Option.map_some, Option.map_none, Nat.reduceAdd, Nat.reduceSub])
local macro_rules | `(tactic| walk_at "evs") => `(tactic| simp only [*, r_fn, r_mod, r_fdv, r_mulI, r_shl, r_shr, r_pow, r_rg1, r_rg2, r_tup, r_lst, r_ixS, r_ixL, r_ixT, r_slS, r_lenS, r_addS, r_addL, r_revS, r_Lno, decide_true, decide_false, Nat.le_refl, Nat.reduceLeDiff, Int.reduceLT, Int.reduceLE, Bool.not_true, Bool.not_false, Bool.and_true, Bool.true_and, Bool.and_self, r_Rz, r_RzP, r_Try, r_Tr, r_Tn, r_Te, r_Tk, r_CL, r_cl, r_at0, r_at1, r_at2, r_at3, r_at4, r_hA0, r_hBA0, r_hCA0, r_hA1, r_hA2, r_hBA2, r_hCA2, r_hA3, r_hBA3, r_hCA3, r_hA4, r_hBA4, r_hCA4, r_hA5, r_hBA5, r_hCA5, r_hA6, r_hBA6, r_hCA6, r_hA7, r_hBA7, r_hCA7, r_hA8, r_hBA8, r_hCA8, r_hA9, r_hBA9, r_hCA9, r_hA10, r_hBA10, r_hCA10, r_hA11, r_hBA11, r_hCA11, r_hA12, r_hBA12, r_hCA12, r_hA13, r_hBA13, r_hCA13, r_hA14, r_hBA14, r_hCA14, r_hBP, r_hCP, r_iRv, r_iRo, r_lofL, r_lofT, r_tofL, r_tofT, r_bits, r_tyL, r_eB, r_bnd, r_bo, r_be, r_eR, r_Rs, r_bin, r_un, r_c, r_v, r_vd, r_and, r_or, r_if, r_eA, r_eAo, r_eAe, r_eAD, r_eADo, r_eADe, r_eDk, r_CB, r_aN, r_aD, r_aDo, r_aDe, r_aO, r_aOo, r_cA, r_cAe, r_sv0, r_sv1,
  r_call, r_callo, r_calle, r_O0, r_O1, r_Sl, r_Ch, r_Ch3, r_kT', r_kF, r_M, r_Ln, r_Lns, r_Ix, r_Ixs, r_Nl, r_Nls, r_iD, r_iDo, r_iDe, r_iDj, r_iA, r_iAo, r_iAe, r_iAj, r_Q, r_Qn, r_Qr, r_Qb, r_Qc, r_Qe, r_B, r_Bo, r_Be, r_G, r_R, r_E, r_I, r_N, r_X, r_F, r_Fo, r_lc, r_fnr, r_fnn, r_fne, r_tk,
  r_bT, r_bsN, r_bsC, r_bsK, r_bN, r_IB, r_addI, r_sub, r_neg, r_not, r_min, r_max, r_lenL, r_lenT, r_eqS, r_neS, r_eqI, r_neI, r_slL, r_itS, r_itL, r_itT, r_enS, r_enL, r_zip, r_zipS, r_bs2, r_bs3, r_w0, r_w1, r_tyS, r_IxO, r_IxOo, r_St2, r_CallK, r_dSel, r_s0, r_sl, r_sr, Option.toList_some, and_self, if_true, if_false, Bool.false_eq_true,
  List.map_cons, List.map_nil, List.length_cons, List.length_nil, List.cons_append, List.nil_append, List.replicate, List.getElem?_cons_zero, List.getElem?_cons_succ, List.set_cons_zero, List.set_cons_succ, Option.map_some, Option.map_none, Nat.reduceAdd, Nat.reduceSub])
local macro_rules | `(tactic| walk_at "evr") => `(tactic| ((walk_at "evs") <;> rfl))
/-! ### a sign counted in a text -/
theorem occ_run (x : Str) (c : Nat) (limit : Nat) : ∀ (m k : Nat) (arr : Array Nat) (free : Nat), free ≤ k → arr.size ≤ k → k + m ≤ limit →
    (forIn (List.range' k m) (arr, free) (PySem.StrLaws.occBody x ⟨#[c]⟩ x.length limit)).run.fst.size = arr.size + (List.range' k m).countP fun i => decide (x.cps.toList[i]? = some c)
  | 0, k, arr, free, _, _, _ => by simp
  | m + 1, k, arr, free, hf, ha, hl => by
    rw [List.range'_succ, List.forIn_cons, List.countP_cons]
    have key := PySem.StrLaws.subAt_one x c k
    unfold PySem.StrLaws.occBody
    by_cases hc : x.cps.toList[k]? = some c
    · have h := key.mpr hc
      rw [if_pos ⟨⟨⟨by show arr.size < limit; omega, hf⟩, h.1⟩, h.2⟩]
      have ih := occ_run x c limit m (k + 1) (arr.push k) (k + (⟨#[c]⟩ : Str).length) (Nat.le_refl _) (by simp; omega) (by omega)
      refine Eq.trans ih ?_
      rw [Array.size_push, decide_eq_true hc]
      simp
      omega
    · rw [if_neg (fun h => hc (key.mp ⟨h.1.2, h.2⟩))]
      have ih := occ_run x c limit m (k + 1) arr free (by omega) (by omega) (by omega)
      refine Eq.trans ih ?_
      rw [decide_eq_false hc]
      simp
theorem cnt_range (c : Nat) : ∀ (l : List Nat) (m : Nat), l.length ≤ m → (List.range' 0 m).countP (fun i => decide (l[i]? = some c)) = l.count c
  | [], m, _ => by simp
  | x :: r, 0, h => by simp at h
  | x :: r, m + 1, h => by
    rw [List.range'_succ, List.countP_cons, show 0 + 1 = 1 from rfl, ← List.map_add_range' (a := 1) (s := 0), List.countP_map, List.count_cons]
    have ih := cnt_range c r m (by simpa using h)
    have e : ((fun i => decide ((x :: r)[i]? = some c)) ∘ fun x => 1 + x) = fun i => decide (r[i]? = some c) := by
      funext i
      simp [Nat.add_comm 1 i]
    rw [e, ih]
    congr 1
    simp
theorem count_one (l : List Nat) (c : Nat) : Txt.count (tx l) (tx [c]) = ((l.count c : Nat) : Int) := by
  unfold Txt.count
  rw [PySem.StrLaws.occ_eq]
  congr 1
  have h := occ_run (tx l) c ((tx l).length + 1) ((tx l).length + 1 - 0) 0 #[] 0 (by simp) (by simp) (by omega)
  rw [Array.length_toList]
  refine Eq.trans h ?_
  rw [tx_toList, cnt_range c l _ (by rw [tx_length]; omega)]
  simp
theorem count_gs (R : List Bool) : pCount (.str (gs R)) [.str "h"] = some (.int ((R.count true : Nat) : Int)) := by
  unfold pCount gs
  rw [lit_h]
  dsimp only
  rw [count_one]
  congr 3
  rw [show (104 : Nat) = hc true from rfl]
  induction R with
  | nil => rfl
  | cons b r ih => rw [List.map_cons, List.count_cons, List.count_cons, ih]; cases b <;> rfl
/-! ### hollows below a place -/
/-- how many of the first m places are hollow -/
def hbL : List Bool → Nat → Nat
  | [], _ => 0
  | b :: r, m => (if b then ((m + 1) / 2 + 1) / 2 else ((m + 1) / 2) / 2) + hbL r (m / 2)
theorem hbL_cons (b : Bool) (r : List Bool) (m : Nat) : hbL (b :: r) m = (if b then ((m + 1) / 2 + 1) / 2 else ((m + 1) / 2) / 2) + hbL r (m / 2) := rfl
theorem hbL_zero : ∀ l : List Bool, hbL l 0 = 0
  | [] => rfl
  | b :: r => by unfold hbL; rw [show 0 / 2 = 0 from rfl, hbL_zero r]; cases b <;> rfl
theorem hbL_succ : ∀ (l : List Bool) (m : Nat), m + 1 < 2 ^ l.length → hbL l (m + 1) = hbL l m + (if cr l (m + 1) then 1 else 0)
  | [], m, h => by simp at h
  | b :: r, m, h => by
    rw [List.length_cons, Nat.pow_succ] at h
    have ih := hbL_succ r
    unfold hbL cr
    by_cases ho : (m + 1) % 2 = 1
    · rw [if_pos ho, show (m + 1) / 2 = m / 2 by omega]
      by_cases h4 : (m + 1) % 4 = 1
      · rw [decide_eq_true h4]
        cases b
        · simp only [Bool.false_eq_true, if_false, beq_iff_eq]; simp; omega
        · simp only [if_true, beq_self_eq_true]; omega
      · rw [decide_eq_false h4]
        cases b
        · simp only [Bool.false_eq_true, if_false, beq_self_eq_true, if_true]; omega
        · simp; omega
    · rw [if_neg ho, show (m + 1) / 2 = m / 2 + 1 by omega, ih (m / 2) (by omega), show (m + 1 + 1) / 2 = m / 2 + 1 by omega]
      omega
theorem hbL_le (l : List Bool) : ∀ (k m : Nat), m + k < 2 ^ l.length → hbL l m ≤ hbL l (m + k) ∧ hbL l (m + k) ≤ hbL l m + k
  | 0, m, _ => ⟨Nat.le_refl _, Nat.le_refl _⟩
  | k + 1, m, h => by
    have ih := hbL_le l k m (by omega)
    have e := hbL_succ l (m + k) (by omega)
    rw [show m + (k + 1) = m + k + 1 by omega, e]
    split <;> omega
theorem hbL_count (l : List Bool) (a : Nat) : ∀ (k : Nat), a + k < 2 ^ l.length → hbL l (a + k) = hbL l a + (((rowL l).drop a).take k).count true
  | 0, _ => by simp
  | k + 1, h => by
    rw [show a + (k + 1) = a + k + 1 by omega, hbL_succ l (a + k) (by omega), hbL_count l a k (by omega), List.take_add_one, List.count_append, List.getElem?_drop, rowL_get (by omega)]
    cases cr l (a + k + 1) <;> simp
    omega
theorem below_ok (w : List Bool) (p : Nat) (st : SE) (h : w.length ≤ 200) (h0 : 0 < p) : dn_hollows_below [.d (.str (hs w)), .d (.int (p : Int))] st = some (.ok (.int ((hbL w.reverse (p - 1) : Nat) : Int)), st) := by
  unfold dn_hollows_below sf_hollows_below
  have rv : pRev (.str (hs w)) = some (.str (hs w.reverse)) := by unfold hs; rw [r_revS (by simp; omega), List.map_reverse]
  have hl : w.reverse.length = w.length := List.length_reverse
  generalize w.reverse = l at rv hl ⊢
  have hen : kEnum [.str (hs l)] = some (enumL 0 (l.map fun b => .str (tx [oc b]))) := by unfold hs; rw [r_enS, hs_signs]
  have ep : (p : Int) - 1 = ((p - 1 : Nat) : Int) := by omega
  obtain ⟨dl', st', e, hI⟩ := forGo_inv (bd := bT (bsC (bN 3) (bsC (bN 4) bsN))) (body := lb_hollows_below_1) (fun i dl s => s = st ∧ ∃ (a : Nat) (x3 x4 x5 : Option SV), a + hbL (l.drop i) ((p - 1) / 2 ^ i) = hbL l (p - 1) ∧ dl = [some (.d (.str (hs w))), some (.d (.int (p : Int))), some (.d (.int (a : Int))), x3, x4, x5])
    (enumL 0 (l.map fun b => .str (tx [oc b]))) 0 [some (.d (.str (hs w))), some (.d (.int (p : Int))), some (.d (.int ((0 : Nat) : Int))), none, none, none] st ⟨rfl, 0, _, _, _, by simp, rfl⟩ (fun j z dl s ej hI => by
      obtain ⟨rfl, a, x3, x4, x5, ha, rfl⟩ := hI
      rw [enumL_get, List.getElem?_map] at ej
      cases hv : l[j]? with
      | none => rw [hv] at ej; cases ej
      | some b =>
        rw [hv] at ej
        cases ej
        have hjl : j < l.length := (List.getElem?_eq_some_iff.mp hv).1
        have hd : l.drop j = b :: l.drop (j + 1) := by
          rw [List.drop_eq_getElem_cons hjl]
          congr 1
          have := List.getElem?_eq_some_iff.mp hv
          exact this.2
        rw [Nat.zero_add] at ha ⊢
        rw [hd] at ha
        have hdiv : (p - 1) / 2 ^ j / 2 = (p - 1) / 2 ^ (j + 1) := by rw [Nat.div_div_eq_div_mul, Nat.pow_succ]
        rw [hbL_cons, hdiv] at ha
        have sh : pShr (.int ((p - 1 : Nat) : Int)) (.int (j : Int)) = some (.int (((p - 1) / 2 ^ j : Nat) : Int)) := by
          rw [r_shr (by omega), Int.toNat_natCast]
          simp
        have e1 := sgn_o b
        have e2 : ((((p - 1) / 2 ^ j : Nat) : Int) + 1) / 2 = ((((p - 1) / 2 ^ j + 1) / 2 : Nat) : Int) := by omega
        generalize (p - 1) / 2 ^ j = q at *
        have e3 : (((q + 1) / 2 : Nat) : Int) / 2 = ((((q + 1) / 2) / 2 : Nat) : Int) := by omega
        have e4 : ((((q + 1) / 2 : Nat) : Int) + 1) / 2 = ((((q + 1) / 2 + 1) / 2 : Nat) : Int) := by omega
        cases b with
        | true =>
          have e5 : (a : Int) + ((((q + 1) / 2 + 1) / 2 : Nat) : Int) = ((a + ((q + 1) / 2 + 1) / 2 : Nat) : Int) := by omega
          refine ⟨_, [some (.d (.str (hs w))), some (.d (.int (p : Int))), some (.d (.int ((a + ((q + 1) / 2 + 1) / 2 : Nat) : Int))), some (.d (.int (j : Int))), some (.d (.str (tx [oc true]))), some (.d (.int ((((q + 1) / 2 : Nat) : Int))))], _, rfl, ?_, rfl, a + ((q + 1) / 2 + 1) / 2, _, _, _, ?_, rfl⟩
          · unfold lb_hollows_below_1
            clear ha hd hen rv
            walk_at "evs"
          · rw [if_pos rfl] at ha; omega
        | false =>
          have e5 : (a : Int) + ((((q + 1) / 2) / 2 : Nat) : Int) = ((a + ((q + 1) / 2) / 2 : Nat) : Int) := by omega
          refine ⟨_, [some (.d (.str (hs w))), some (.d (.int (p : Int))), some (.d (.int ((a + ((q + 1) / 2) / 2 : Nat) : Int))), some (.d (.int (j : Int))), some (.d (.str (tx [oc false]))), some (.d (.int ((((q + 1) / 2 : Nat) : Int))))], _, rfl, ?_, rfl, a + ((q + 1) / 2) / 2, _, _, _, ?_, rfl⟩
          · unfold lb_hollows_below_1
            clear ha hd hen rv
            walk_at "evs"
          · rw [if_neg (by simp)] at ha; omega)
  obtain ⟨rfl, a, x3, x4, x5, ha, rfl⟩ := hI
  rw [Nat.zero_add, enumL_len, List.length_map, List.drop_length] at ha
  have ha' : a = hbL l (p - 1) := ha
  subst ha'
  have z0 : ((0 : Nat) : Int) = 0 := rfl
  rw [z0] at e
  clear ep
  walk_at "evs"
end DL
set_option autoImplicit false
namespace DL
open PySem PySem.Spec PyProof.Rows L2
local macro_rules | `(tactic| walk_at "ev") => `(tactic| simp only [r_fn, r_Rz, r_RzP, r_Try, r_Tr, r_Tn, r_Te, r_Tk, r_CL, r_cl, r_at0, r_at1, r_at2, r_at3, r_at4, r_hA0, r_hBA0, r_hCA0, r_hA1, r_hA2, r_hBA2, r_hCA2, r_hA3, r_hBA3, r_hCA3, r_hA4, r_hBA4, r_hCA4, r_hA5, r_hBA5, r_hCA5, r_hA6, r_hBA6, r_hCA6, r_hA7, r_hBA7, r_hCA7, r_hA8, r_hBA8, r_hCA8, r_hA9, r_hBA9, r_hCA9, r_hA10, r_hBA10, r_hCA10, r_hA11, r_hBA11, r_hCA11, r_hA12, r_hBA12, r_hCA12, r_hA13, r_hBA13, r_hCA13, r_hA14, r_hBA14, r_hCA14, r_hBP, r_hCP, r_iRv, r_iRo, r_lofL, r_lofT, r_tofL, r_tofT, r_bits, r_tyL, r_eB, r_bnd, r_bo, r_be, r_eR, r_Rs, r_bin, r_un, r_c, r_v, r_vd, r_and, r_or, r_if, r_eA, r_eAo, r_eAe, r_eAD, r_eADo, r_eADe, r_eDk, r_CB, r_aN, r_aD, r_aDo, r_aDe, r_aO, r_aOo, r_cA, r_cAe, r_sv0, r_sv1,
  r_call, r_callo, r_calle, r_O0, r_O1, r_Sl, r_Ch, r_Ch3, r_kT', r_kF, r_M, r_Ln, r_Lns, r_Ix, r_Ixs, r_Nl, r_Nls, r_iD, r_iDo, r_iDe, r_iDj, r_iA, r_iAo, r_iAe, r_iAj, r_Q, r_Qn, r_Qr, r_Qb, r_Qc, r_Qe, r_B, r_Bo, r_Be, r_G, r_R, r_E, r_I, r_N, r_X, r_F, r_Fo, r_lc, r_fnr, r_fnn, r_fne, r_tk,
  r_bT, r_bsN, r_bsC, r_bsK, r_bN, r_IB, r_addI, r_sub, r_neg, r_not, r_min, r_max, r_lenL, r_lenT, r_eqS, r_neS, r_eqI, r_neI, r_slL, r_itS, r_itL, r_itT, r_enS, r_enL, r_zip, r_zipS, r_bs2, r_bs3, r_w0, r_w1, r_tyS, r_IxO, r_IxOo, r_St2, r_CallK, r_dSel, r_s0, r_sl, r_sr, Option.toList_some, and_self, if_true, if_false, Bool.false_eq_true,
  List.map_cons, List.map_nil, List.length_cons, List.length_nil, List.cons_append, List.nil_append, List.replicate, List.getElem?_cons_zero, List.getElem?_cons_succ, List.set_cons_zero, List.set_cons_succ, Option.map_some, Option.map_none, Nat.reduceAdd, Nat.reduceSub])
local macro_rules | `(tactic| walk_at "evs") => `(tactic| simp only [*, r_fn, r_mod, r_fdv, r_mulI, r_shl, r_shr, r_pow, r_rg1, r_rg2, r_tup, r_lst, r_ixS, r_ixL, r_ixT, r_slS, r_lenS, r_addS, r_addL, r_revS, r_Lno, decide_true, decide_false, Nat.le_refl, Nat.reduceLeDiff, Int.reduceLT, Int.reduceLE, Bool.not_true, Bool.not_false, Bool.and_true, Bool.true_and, Bool.and_self, r_Rz, r_RzP, r_Try, r_Tr, r_Tn, r_Te, r_Tk, r_CL, r_cl, r_at0, r_at1, r_at2, r_at3, r_at4, r_hA0, r_hBA0, r_hCA0, r_hA1, r_hA2, r_hBA2, r_hCA2, r_hA3, r_hBA3, r_hCA3, r_hA4, r_hBA4, r_hCA4, r_hA5, r_hBA5, r_hCA5, r_hA6, r_hBA6, r_hCA6, r_hA7, r_hBA7, r_hCA7, r_hA8, r_hBA8, r_hCA8, r_hA9, r_hBA9, r_hCA9, r_hA10, r_hBA10, r_hCA10, r_hA11, r_hBA11, r_hCA11, r_hA12, r_hBA12, r_hCA12, r_hA13, r_hBA13, r_hCA13, r_hA14, r_hBA14, r_hCA14, r_hBP, r_hCP, r_iRv, r_iRo, r_lofL, r_lofT, r_tofL, r_tofT, r_bits, r_tyL, r_eB, r_bnd, r_bo, r_be, r_eR, r_Rs, r_bin, r_un, r_c, r_v, r_vd, r_and, r_or, r_if, r_eA, r_eAo, r_eAe, r_eAD, r_eADo, r_eADe, r_eDk, r_CB, r_aN, r_aD, r_aDo, r_aDe, r_aO, r_aOo, r_cA, r_cAe, r_sv0, r_sv1,
  r_call, r_callo, r_calle, r_O0, r_O1, r_Sl, r_Ch, r_Ch3, r_kT', r_kF, r_M, r_Ln, r_Lns, r_Ix, r_Ixs, r_Nl, r_Nls, r_iD, r_iDo, r_iDe, r_iDj, r_iA, r_iAo, r_iAe, r_iAj, r_Q, r_Qn, r_Qr, r_Qb, r_Qc, r_Qe, r_B, r_Bo, r_Be, r_G, r_R, r_E, r_I, r_N, r_X, r_F, r_Fo, r_lc, r_fnr, r_fnn, r_fne, r_tk,
  r_bT, r_bsN, r_bsC, r_bsK, r_bN, r_IB, r_addI, r_sub, r_neg, r_not, r_min, r_max, r_lenL, r_lenT, r_eqS, r_neS, r_eqI, r_neI, r_slL, r_itS, r_itL, r_itT, r_enS, r_enL, r_zip, r_zipS, r_bs2, r_bs3, r_w0, r_w1, r_tyS, r_IxO, r_IxOo, r_St2, r_CallK, r_dSel, r_s0, r_sl, r_sr, Option.toList_some, and_self, if_true, if_false, Bool.false_eq_true,
  List.map_cons, List.map_nil, List.length_cons, List.length_nil, List.cons_append, List.nil_append, List.replicate, List.getElem?_cons_zero, List.getElem?_cons_succ, List.set_cons_zero, List.set_cons_succ, Option.map_some, Option.map_none, Nat.reduceAdd, Nat.reduceSub])
local macro_rules | `(tactic| walk_at "evr") => `(tactic| ((walk_at "evs") <;> rfl))
theorem hollows_ok (w : List Bool) (a b : Nat) (st : SE) (h : w.length ≤ 60) (h0 : 0 < a) (h1 : a ≤ b) (h2 : b ≤ 2 ^ w.length) : dn_hollows [.d (.str (hs w)), .d (.int (a : Int)), .d (.int (b : Int))] st = some (.ok (.int ((hbL w.reverse (b - 1) : Nat) - (hbL w.reverse (a - 1) : Nat) : Int)), st) := by
  unfold dn_hollows sf_hollows
  have e1 := needh_ok w st h
  have e2 := long_ok w st (by omega)
  have e3 := needp_ok w (a : Int) 1 ((2 ^ w.length : Nat) : Int) st h (by omega) (by omega)
  have e4 := needp_ok w (b : Int) (a : Int) ((2 ^ w.length : Nat) : Int) st h (by omega) (by omega)
  have e5 := below_ok w a st (by omega) h0
  have e6 := below_ok w b st (by omega) (by omega)
  walk_at "evs"
theorem turnat_ok (w : List Bool) (p : Nat) (st : SE) (h : w.length ≤ 200) : dn_turn_at [.d (.str (hs w)), .d (.int (p : Int))] st = some (.ok (.int (2 * (hbL w.reverse p : Nat) - (p : Int))), st) := by
  unfold dn_turn_at sf_turn_at
  have e1 := below_ok w (p + 1) st h (by omega)
  rw [Nat.add_sub_cancel] at e1
  have e2 : (p : Int) + 1 = ((p + 1 : Nat) : Int) := by omega
  have e3 : pMul (.int 2) (.int ((hbL w.reverse p : Nat) : Int)) = some (.int (2 * ((hbL w.reverse p : Nat) : Int))) := r_mulI (.inl (by decide))
  walk_at "evs"
theorem moreh_ok (w : List Bool) (st : SE) (h : w.length ≤ 60) : dn_more_hollows [.d (.str (hs w))] st = some (.ok (.int (2 * (hbL w.reverse (2 ^ w.length - 1) : Nat) - ((2 ^ w.length - 1 : Nat) : Int))), st) := by
  unfold dn_more_hollows sf_more_hollows
  have e1 := needh_ok w st h
  have e2 := long_ok w st (by omega)
  have hp : 0 < 2 ^ w.length := Nat.pow_pos (by decide)
  have e3 : ((2 ^ w.length : Nat) : Int) - 1 = ((2 ^ w.length - 1 : Nat) : Int) := by omega
  have e4 := turnat_ok w (2 ^ w.length - 1) st (by omega)
  walk_at "evs"
theorem nth_ok (w : List Bool) (k : Nat) (st : SE) (h : w.length ≤ 60) (h0 : 0 < k) (h1 : k ≤ 2 ^ 60) : ∃ r, dn_nth_hollow [.d (.str (hs w)), .d (.int (k : Int))] st = some (.ok r, st) ∧
    ((hbL w.reverse (2 ^ w.length - 1) < k ∧ r = .none) ∨ ∃ p : Nat, 0 < p ∧ p < 2 ^ w.length ∧ cr w.reverse p = true ∧ hbL w.reverse (p - 1) + 1 = k ∧ hbL w.reverse p = k ∧ r = .int (p : Int)) := by
  have hl : w.reverse.length = w.length := List.length_reverse
  have hp : 0 < 2 ^ w.length := Nat.pow_pos (by decide)
  have e1 := needh_ok w st h
  have e2 := long_ok w st (by omega)
  have e3 := whole_ok (k : Int) 1 1152921504606846976 st (by omega) (by omega)
  have e4 := below_ok w (2 ^ w.length) st (by omega) hp
  have sh : pShl (.int 1) (.int 60) = some (.int 1152921504606846976) := by rw [r_shl (by decide) (by decide) (by decide)]; rfl
  by_cases hk : hbL w.reverse (2 ^ w.length - 1) < k
  · refine ⟨.none, ?_, .inl ⟨hk, rfl⟩⟩
    have d : decide (((hbL w.reverse (2 ^ w.length - 1) : Nat) : Int) < (k : Int)) = true := decide_eq_true (by omega)
    unfold dn_nth_hollow sf_nth_hollow
    clear hk
    walk_at "evs"
  · have d : decide (((hbL w.reverse (2 ^ w.length - 1) : Nat) : Int) < (k : Int)) = false := decide_eq_false (by omega)
    have h1n : 1 < 2 ^ w.length := by
      apply Classical.byContradiction
      intro hn
      have : 2 ^ w.length - 1 = 0 := by omega
      rw [this, hbL_zero] at hk
      omega
    obtain ⟨dl', st', e, hP⟩ := whGo_inv (c := lw_nth_hollow_1) (body := lb_nth_hollow_1)
      (Post := fun dl s => s = st ∧ ∃ (lo : Nat) (x : Option SV), 1 ≤ lo ∧ lo + 1 ≤ 2 ^ w.length ∧ hbL w.reverse (lo - 1) < k ∧ k ≤ hbL w.reverse lo ∧ dl = [some (.d (.str (hs w))), some (.d (.int (k : Int))), some (.d (.int (lo : Int))), some (.d (.int ((lo + 1 : Nat) : Int))), x])
      (fun f dl s => s = st ∧ ∃ (lo hi : Nat) (x : Option SV), 1 ≤ lo ∧ lo < hi ∧ hi ≤ 2 ^ w.length ∧ hi - lo ≤ 2 ^ f ∧ hbL w.reverse (lo - 1) < k ∧ k ≤ hbL w.reverse (hi - 1) ∧ dl = [some (.d (.str (hs w))), some (.d (.int (k : Int))), some (.d (.int (lo : Int))), some (.d (.int (hi : Int))), x]) (fun f dl s hI => by
        obtain ⟨rfl, lo, hi, x, l1, l2, l3, l4, l5, l6, rfl⟩ := hI
        by_cases hc : lo + 1 < hi
        · have dc : decide ((lo : Int) + 1 < (hi : Int)) = true := decide_eq_true (by omega)
          obtain ⟨g, rfl⟩ : ∃ g, f = g + 1 := by
            cases f with
            | zero => rw [Nat.pow_zero] at l4; omega
            | succ g => exact ⟨g, rfl⟩
          rw [Nat.pow_succ] at l4
          have em : ((lo : Int) + (hi : Int)) / 2 = (((lo + hi) / 2 : Nat) : Int) := by omega
          have eb := below_ok w ((lo + hi) / 2) s (by omega) (by omega)
          by_cases hm : hbL w.reverse ((lo + hi) / 2 - 1) < k
          · have dm : decide (((hbL w.reverse ((lo + hi) / 2 - 1) : Nat) : Int) < (k : Int)) = true := decide_eq_true (by omega)
            refine .inr ⟨s, _, s, g, by unfold lw_nth_hollow_1; clear l4 l5 l6 hm; walk_at "evr", by unfold lb_nth_hollow_1; clear l4 l5 l6 hm; walk_at "evr", by omega, rfl, (lo + hi) / 2, hi, some (.d (.int (((lo + hi) / 2 : Nat) : Int))), by omega, by omega, l3, by omega, hm, l6, rfl⟩
          · have dm : decide (((hbL w.reverse ((lo + hi) / 2 - 1) : Nat) : Int) < (k : Int)) = false := decide_eq_false (by omega)
            refine .inr ⟨s, _, s, g, by unfold lw_nth_hollow_1; clear l4 l5 l6 hm; walk_at "evr", by unfold lb_nth_hollow_1; clear l4 l5 l6 hm; walk_at "evr", by omega, rfl, lo, (lo + hi) / 2, some (.d (.int (((lo + hi) / 2 : Nat) : Int))), l1, by omega, by omega, by omega, l5, by omega, rfl⟩
        · have dc : decide ((lo : Int) + 1 < (hi : Int)) = false := decide_eq_false (by omega)
          have eh : hi = lo + 1 := by omega
          subst eh
          exact .inl ⟨s, by unfold lw_nth_hollow_1; clear l4 l5 l6; walk_at "evr", rfl, lo, x, l1, l3, l5, l6, rfl⟩)
      10000 60 [some (.d (.str (hs w))), some (.d (.int (k : Int))), some (.d (.int ((1 : Nat) : Int))), some (.d (.int ((2 ^ w.length : Nat) : Int))), none] st
      ⟨rfl, 1, 2 ^ w.length, none, Nat.le_refl _, h1n, Nat.le_refl _, Nat.le_trans (Nat.sub_le _ _) (Nat.pow_le_pow_right (by decide) h), by rw [Nat.sub_self, hbL_zero]; exact h0, by omega, rfl⟩ (by decide)
    obtain ⟨rfl, lo, x, l1, l2, l3, l4, rfl⟩ := hP
    have hs1 := hbL_succ w.reverse (lo - 1) (by rw [hl]; omega)
    rw [show lo - 1 + 1 = lo by omega] at hs1
    have hcr : cr w.reverse lo = true := by
      cases hc : cr w.reverse lo with
      | true => rfl
      | false => rw [hc] at hs1; simp at hs1; omega
    rw [hcr, if_pos rfl] at hs1
    refine ⟨.int (lo : Int), ?_, .inr ⟨lo, l1, l2, hcr, by omega, by omega, rfl⟩⟩
    have z1 : ((1 : Nat) : Int) = 1 := rfl
    rw [z1] at e
    unfold dn_nth_hollow sf_nth_hollow
    clear hs1 l4 l3 hk
    walk_at "evs"
/-! ### the hollow places, one by one -/
theorem filter_get (p : Nat → Bool) (N i : Nat) (hi : i < N) (hp : p i = true) : ((List.range N).filter p)[((List.range i).filter p).length]? = some i := by
  have e : List.range N = List.range i ++ i :: (List.range' (i + 1) (N - i - 1)) := by
    rw [List.range_eq_range', List.range_eq_range', ← List.range'_succ, show N - i - 1 + 1 = N - i by omega]
    have := List.range'_append (s := 0) (m := i) (n := N - i) (step := 1)
    rw [Nat.mul_comm, Nat.mul_one, Nat.zero_add] at this
    rw [this, show i + (N - i) = N by omega]
  rw [e, List.filter_append, List.filter_cons_of_pos hp, List.getElem?_append_right (Nat.le_refl _), Nat.sub_self]
  rfl
theorem filter_hb (l : List Bool) : ∀ (i : Nat), i < 2 ^ l.length → ((List.range i).filter fun j => cr l (j + 1)).length = hbL l i
  | 0, _ => by rw [hbL_zero]; rfl
  | i + 1, h => by
    rw [List.range_succ, List.filter_append, List.length_append, filter_hb l i (by omega), hbL_succ l i h]
    cases hc : cr l (i + 1) <;> simp [hc]
/-- all hollow places -/
def spL (l : List Bool) : List Nat := ((List.range (2 ^ l.length - 1)).filter fun j => cr l (j + 1)).map (· + 1)
theorem spL_len (l : List Bool) : (spL l).length = hbL l (2 ^ l.length - 1) := by
  have hp : 0 < 2 ^ l.length := Nat.pow_pos (by decide)
  unfold spL
  rw [List.length_map, filter_hb l _ (by omega)]
theorem spL_get (l : List Bool) (p : Nat) (h0 : 0 < p) (h1 : p < 2 ^ l.length) (hc : cr l p = true) : (spL l)[hbL l (p - 1)]? = some p := by
  unfold spL
  rw [List.getElem?_map, ← filter_hb l (p - 1) (by omega), filter_get (fun j => cr l (j + 1)) _ (p - 1) (by omega) (by show cr l (p - 1 + 1) = true; rw [show p - 1 + 1 = p by omega]; exact hc)]
  show some (p - 1 + 1) = some p
  rw [show p - 1 + 1 = p by omega]
end DL
set_option autoImplicit false
namespace DL
open PySem PySem.Spec PyProof.Rows L2
local macro_rules | `(tactic| walk_at "ev") => `(tactic| simp only [r_fn, r_Rz, r_RzP, r_Try, r_Tr, r_Tn, r_Te, r_Tk, r_CL, r_cl, r_at0, r_at1, r_at2, r_at3, r_at4, r_hA0, r_hBA0, r_hCA0, r_hA1, r_hA2, r_hBA2, r_hCA2, r_hA3, r_hBA3, r_hCA3, r_hA4, r_hBA4, r_hCA4, r_hA5, r_hBA5, r_hCA5, r_hA6, r_hBA6, r_hCA6, r_hA7, r_hBA7, r_hCA7, r_hA8, r_hBA8, r_hCA8, r_hA9, r_hBA9, r_hCA9, r_hA10, r_hBA10, r_hCA10, r_hA11, r_hBA11, r_hCA11, r_hA12, r_hBA12, r_hCA12, r_hA13, r_hBA13, r_hCA13, r_hA14, r_hBA14, r_hCA14, r_hBP, r_hCP, r_iRv, r_iRo, r_lofL, r_lofT, r_tofL, r_tofT, r_bits, r_tyL, r_eB, r_bnd, r_bo, r_be, r_eR, r_Rs, r_bin, r_un, r_c, r_v, r_vd, r_and, r_or, r_if, r_eA, r_eAo, r_eAe, r_eAD, r_eADo, r_eADe, r_eDk, r_CB, r_aN, r_aD, r_aDo, r_aDe, r_aO, r_aOo, r_cA, r_cAe, r_sv0, r_sv1,
  r_call, r_callo, r_calle, r_O0, r_O1, r_Sl, r_Ch, r_Ch3, r_kT', r_kF, r_M, r_Ln, r_Lns, r_Ix, r_Ixs, r_Nl, r_Nls, r_iD, r_iDo, r_iDe, r_iDj, r_iA, r_iAo, r_iAe, r_iAj, r_Q, r_Qn, r_Qr, r_Qb, r_Qc, r_Qe, r_B, r_Bo, r_Be, r_G, r_R, r_E, r_I, r_N, r_X, r_F, r_Fo, r_lc, r_fnr, r_fnn, r_fne, r_tk,
  r_bT, r_bsN, r_bsC, r_bsK, r_bN, r_IB, r_addI, r_sub, r_neg, r_not, r_min, r_max, r_lenL, r_lenT, r_eqS, r_neS, r_eqI, r_neI, r_slL, r_itS, r_itL, r_itT, r_enS, r_enL, r_zip, r_zipS, r_bs2, r_bs3, r_w0, r_w1, r_tyS, r_IxO, r_IxOo, r_St2, r_CallK, r_dSel, r_s0, r_sl, r_sr, Option.toList_some, and_self, if_true, if_false, Bool.false_eq_true,
  List.map_cons, List.map_nil, List.length_cons, List.length_nil, List.cons_append, List.nil_append, List.replicate, List.getElem?_cons_zero, List.getElem?_cons_succ, List.set_cons_zero, List.set_cons_succ, Option.map_some, Option.map_none, Nat.reduceAdd, Nat.reduceSub])
local macro_rules | `(tactic| walk_at "evs") => `(tactic| simp only [*, r_fn, r_mod, r_fdv, r_mulI, r_shl, r_shr, r_pow, r_rg1, r_rg2, r_tup, r_lst, r_ixS, r_ixL, r_ixT, r_slS, r_lenS, r_addS, r_addL, r_revS, r_Lno, decide_true, decide_false, Nat.le_refl, Nat.reduceLeDiff, Int.reduceLT, Int.reduceLE, Bool.not_true, Bool.not_false, Bool.and_true, Bool.true_and, Bool.and_self, r_Rz, r_RzP, r_Try, r_Tr, r_Tn, r_Te, r_Tk, r_CL, r_cl, r_at0, r_at1, r_at2, r_at3, r_at4, r_hA0, r_hBA0, r_hCA0, r_hA1, r_hA2, r_hBA2, r_hCA2, r_hA3, r_hBA3, r_hCA3, r_hA4, r_hBA4, r_hCA4, r_hA5, r_hBA5, r_hCA5, r_hA6, r_hBA6, r_hCA6, r_hA7, r_hBA7, r_hCA7, r_hA8, r_hBA8, r_hCA8, r_hA9, r_hBA9, r_hCA9, r_hA10, r_hBA10, r_hCA10, r_hA11, r_hBA11, r_hCA11, r_hA12, r_hBA12, r_hCA12, r_hA13, r_hBA13, r_hCA13, r_hA14, r_hBA14, r_hCA14, r_hBP, r_hCP, r_iRv, r_iRo, r_lofL, r_lofT, r_tofL, r_tofT, r_bits, r_tyL, r_eB, r_bnd, r_bo, r_be, r_eR, r_Rs, r_bin, r_un, r_c, r_v, r_vd, r_and, r_or, r_if, r_eA, r_eAo, r_eAe, r_eAD, r_eADo, r_eADe, r_eDk, r_CB, r_aN, r_aD, r_aDo, r_aDe, r_aO, r_aOo, r_cA, r_cAe, r_sv0, r_sv1,
  r_call, r_callo, r_calle, r_O0, r_O1, r_Sl, r_Ch, r_Ch3, r_kT', r_kF, r_M, r_Ln, r_Lns, r_Ix, r_Ixs, r_Nl, r_Nls, r_iD, r_iDo, r_iDe, r_iDj, r_iA, r_iAo, r_iAe, r_iAj, r_Q, r_Qn, r_Qr, r_Qb, r_Qc, r_Qe, r_B, r_Bo, r_Be, r_G, r_R, r_E, r_I, r_N, r_X, r_F, r_Fo, r_lc, r_fnr, r_fnn, r_fne, r_tk,
  r_bT, r_bsN, r_bsC, r_bsK, r_bN, r_IB, r_addI, r_sub, r_neg, r_not, r_min, r_max, r_lenL, r_lenT, r_eqS, r_neS, r_eqI, r_neI, r_slL, r_itS, r_itL, r_itT, r_enS, r_enL, r_zip, r_zipS, r_bs2, r_bs3, r_w0, r_w1, r_tyS, r_IxO, r_IxOo, r_St2, r_CallK, r_dSel, r_s0, r_sl, r_sr, Option.toList_some, and_self, if_true, if_false, Bool.false_eq_true,
  List.map_cons, List.map_nil, List.length_cons, List.length_nil, List.cons_append, List.nil_append, List.replicate, List.getElem?_cons_zero, List.getElem?_cons_succ, List.set_cons_zero, List.set_cons_succ, Option.map_some, Option.map_none, Nat.reduceAdd, Nat.reduceSub])
local macro_rules | `(tactic| walk_at "evr") => `(tactic| ((walk_at "evs") <;> rfl))
theorem lcGo_inv {bd : BF} {t e : EF} {dl : DE} (I : Nat → List PyData → SE → Prop) : ∀ (xs : List PyData) (i : Nat) (acc : List PyData) (st : SE), I i acc st →
    (∀ (j : Nat) (x : PyData) (acc : List PyData) (st : SE), xs[j]? = some x → I (i + j) acc st → ∃ dl1 st1 y st2, bd x dl = some dl1 ∧ t dl1 st = some (.ok (.bool true), st1) ∧ e dl1 st1 = some (.ok y, st2) ∧ I (i + j + 1) (acc ++ [y]) st2) →
    ∃ ys st', lcGo bd t e dl xs acc st = some (ys, st') ∧ I (i + xs.length) ys st'
  | [], i, acc, st, h0, _ => ⟨acc, st, rfl, h0⟩
  | x :: xs, i, acc, st, h0, hs => by
    obtain ⟨dl1, st1, y, st2, e1, e2, e3, h1⟩ := hs 0 x acc st rfl h0
    obtain ⟨ys, st', e4, h4⟩ := lcGo_inv I xs (i + 1) (acc ++ [y]) st2 h1 (fun j z acc st ez hI => by
      have := hs (j + 1) z acc st (by simpa using ez) (by rw [show i + (j + 1) = i + 1 + j by omega]; exact hI)
      rw [show i + (j + 1) + 1 = i + 1 + j + 1 by omega] at this
      exact this)
    refine ⟨ys, st', ?_, ?_⟩
    · unfold lcGo
      rw [e1]
      dsimp only
      rw [e2]
      dsimp only
      rw [e3]
      exact e4
    · rw [List.length_cons, show i + (xs.length + 1) = i + 1 + xs.length by omega]
      exact h4
theorem lck_inv {bd : BF} {t e : EF} {dl : DE} {vs : List Nat} {xs : List PyData} {st : SE} (I : Nat → List PyData → SE → Prop) (hl : xs.length ≤ 1000000) (h0 : I 0 [] st)
    (hs : ∀ (j : Nat) (x : PyData) (acc : List PyData) (st : SE), xs[j]? = some x → I j acc st → ∃ dl1 st1 y st2, bd x (wipeD dl vs) = some dl1 ∧ t dl1 st = some (.ok (.bool true), st1) ∧ e dl1 st1 = some (.ok y, st2) ∧ I (j + 1) (acc ++ [y]) st2) :
    ∃ ys st', lcK (some (.ok xs, st)) vs bd t e dl = some (.ok (.list ys), st') ∧ I xs.length ys st' := by
  obtain ⟨ys, st', e1, h1⟩ := lcGo_inv (bd := bd) (t := t) (e := e) (dl := wipeD dl vs) I xs 0 [] st h0 (fun j x acc st ej hI => by
    rw [Nat.zero_add] at hI ⊢
    exact hs j x acc st ej hI)
  rw [Nat.zero_add] at h1
  exact ⟨ys, st', r_lco hl e1, h1⟩
theorem hb_mirror (l : List Bool) (b : Bool) : ∀ k : Nat, k < 2 ^ l.length → hbL (l ++ [b]) (2 * 2 ^ l.length - 1) + hbL (l ++ [b]) k = hbL (l ++ [b]) (2 * 2 ^ l.length - 1 - k) + k
  | 0, _ => by rw [hbL_zero]; simp
  | k + 1, h => by
    have ih := hb_mirror l b k (by omega)
    have hlen : (l ++ [b]).length = l.length + 1 := by simp
    have s1 := hbL_succ (l ++ [b]) k (by rw [hlen, Nat.pow_succ]; omega)
    have s2 := hbL_succ (l ++ [b]) (2 * 2 ^ l.length - 1 - (k + 1)) (by rw [hlen, Nat.pow_succ]; omega)
    rw [show 2 * 2 ^ l.length - 1 - (k + 1) + 1 = 2 * 2 ^ l.length - 1 - k by omega] at s2
    have c1 := cr_A l b (k + 1) (by omega) h
    have c2 := cr_C l b (2 ^ l.length - (k + 1)) (by omega) (by omega)
    rw [show 2 ^ l.length + (2 ^ l.length - (k + 1)) = 2 * 2 ^ l.length - 1 - k by omega, show 2 ^ l.length - (2 ^ l.length - (k + 1)) = k + 1 by omega] at c2
    rw [c1] at s1
    rw [c2] at s2
    rw [s1]
    cases hc : cr l (k + 1) with
    | true => rw [hc] at s2; simp at s2 ⊢; omega
    | false => rw [hc] at s2; simp at s2 ⊢; omega
theorem hb_whole (l : List Bool) (b : Bool) : hbL (l ++ [b]) (2 * 2 ^ l.length - 1) = 2 ^ l.length - 1 + (if b then 1 else 0) := by
  have hp : 0 < 2 ^ l.length := Nat.pow_pos (by decide)
  have h := hb_mirror l b (2 ^ l.length - 1) (by omega)
  rw [show 2 * 2 ^ l.length - 1 - (2 ^ l.length - 1) = 2 ^ l.length by omega] at h
  have s1 := hbL_succ (l ++ [b]) (2 ^ l.length - 1) (by rw [List.length_append, List.length_singleton, Nat.pow_succ]; omega)
  rw [show 2 ^ l.length - 1 + 1 = 2 ^ l.length by omega, cr_B] at s1
  omega
end DL
set_option autoImplicit false
namespace DL
open PySem PySem.Spec PyProof.Rows L2
local macro_rules | `(tactic| walk_at "ev") => `(tactic| simp only [r_fn, r_Rz, r_RzP, r_Try, r_Tr, r_Tn, r_Te, r_Tk, r_CL, r_cl, r_at0, r_at1, r_at2, r_at3, r_at4, r_hA0, r_hBA0, r_hCA0, r_hA1, r_hA2, r_hBA2, r_hCA2, r_hA3, r_hBA3, r_hCA3, r_hA4, r_hBA4, r_hCA4, r_hA5, r_hBA5, r_hCA5, r_hA6, r_hBA6, r_hCA6, r_hA7, r_hBA7, r_hCA7, r_hA8, r_hBA8, r_hCA8, r_hA9, r_hBA9, r_hCA9, r_hA10, r_hBA10, r_hCA10, r_hA11, r_hBA11, r_hCA11, r_hA12, r_hBA12, r_hCA12, r_hA13, r_hBA13, r_hCA13, r_hA14, r_hBA14, r_hCA14, r_hBP, r_hCP, r_iRv, r_iRo, r_lofL, r_lofT, r_tofL, r_tofT, r_bits, r_tyL, r_eB, r_bnd, r_bo, r_be, r_eR, r_Rs, r_bin, r_un, r_c, r_v, r_vd, r_and, r_or, r_if, r_eA, r_eAo, r_eAe, r_eAD, r_eADo, r_eADe, r_eDk, r_CB, r_aN, r_aD, r_aDo, r_aDe, r_aO, r_aOo, r_cA, r_cAe, r_sv0, r_sv1,
  r_call, r_callo, r_calle, r_O0, r_O1, r_Sl, r_Ch, r_Ch3, r_kT', r_kF, r_M, r_Ln, r_Lns, r_Ix, r_Ixs, r_Nl, r_Nls, r_iD, r_iDo, r_iDe, r_iDj, r_iA, r_iAo, r_iAe, r_iAj, r_Q, r_Qn, r_Qr, r_Qb, r_Qc, r_Qe, r_B, r_Bo, r_Be, r_G, r_R, r_E, r_I, r_N, r_X, r_F, r_Fo, r_lc, r_fnr, r_fnn, r_fne, r_tk,
  r_bT, r_bsN, r_bsC, r_bsK, r_bN, r_IB, r_addI, r_sub, r_neg, r_not, r_min, r_max, r_lenL, r_lenT, r_eqS, r_neS, r_eqI, r_neI, r_slL, r_itS, r_itL, r_itT, r_enS, r_enL, r_zip, r_zipS, r_bs2, r_bs3, r_w0, r_w1, r_tyS, r_IxO, r_IxOo, r_St2, r_CallK, r_dSel, r_s0, r_sl, r_sr, Option.toList_some, and_self, if_true, if_false, Bool.false_eq_true,
  List.map_cons, List.map_nil, List.length_cons, List.length_nil, List.cons_append, List.nil_append, List.replicate, List.getElem?_cons_zero, List.getElem?_cons_succ, List.set_cons_zero, List.set_cons_succ, Option.map_some, Option.map_none, Nat.reduceAdd, Nat.reduceSub])
local macro_rules | `(tactic| walk_at "evs") => `(tactic| simp only [*, r_fn, r_mod, r_fdv, r_mulI, r_shl, r_shr, r_pow, r_rg1, r_rg2, r_tup, r_lst, r_ixS, r_ixL, r_ixT, r_slS, r_lenS, r_addS, r_addL, r_revS, r_Lno, decide_true, decide_false, Nat.le_refl, Nat.reduceLeDiff, Int.reduceLT, Int.reduceLE, Bool.not_true, Bool.not_false, Bool.and_true, Bool.true_and, Bool.and_self, r_Rz, r_RzP, r_Try, r_Tr, r_Tn, r_Te, r_Tk, r_CL, r_cl, r_at0, r_at1, r_at2, r_at3, r_at4, r_hA0, r_hBA0, r_hCA0, r_hA1, r_hA2, r_hBA2, r_hCA2, r_hA3, r_hBA3, r_hCA3, r_hA4, r_hBA4, r_hCA4, r_hA5, r_hBA5, r_hCA5, r_hA6, r_hBA6, r_hCA6, r_hA7, r_hBA7, r_hCA7, r_hA8, r_hBA8, r_hCA8, r_hA9, r_hBA9, r_hCA9, r_hA10, r_hBA10, r_hCA10, r_hA11, r_hBA11, r_hCA11, r_hA12, r_hBA12, r_hCA12, r_hA13, r_hBA13, r_hCA13, r_hA14, r_hBA14, r_hCA14, r_hBP, r_hCP, r_iRv, r_iRo, r_lofL, r_lofT, r_tofL, r_tofT, r_bits, r_tyL, r_eB, r_bnd, r_bo, r_be, r_eR, r_Rs, r_bin, r_un, r_c, r_v, r_vd, r_and, r_or, r_if, r_eA, r_eAo, r_eAe, r_eAD, r_eADo, r_eADe, r_eDk, r_CB, r_aN, r_aD, r_aDo, r_aDe, r_aO, r_aOo, r_cA, r_cAe, r_sv0, r_sv1,
  r_call, r_callo, r_calle, r_O0, r_O1, r_Sl, r_Ch, r_Ch3, r_kT', r_kF, r_M, r_Ln, r_Lns, r_Ix, r_Ixs, r_Nl, r_Nls, r_iD, r_iDo, r_iDe, r_iDj, r_iA, r_iAo, r_iAe, r_iAj, r_Q, r_Qn, r_Qr, r_Qb, r_Qc, r_Qe, r_B, r_Bo, r_Be, r_G, r_R, r_E, r_I, r_N, r_X, r_F, r_Fo, r_lc, r_fnr, r_fnn, r_fne, r_tk,
  r_bT, r_bsN, r_bsC, r_bsK, r_bN, r_IB, r_addI, r_sub, r_neg, r_not, r_min, r_max, r_lenL, r_lenT, r_eqS, r_neS, r_eqI, r_neI, r_slL, r_itS, r_itL, r_itT, r_enS, r_enL, r_zip, r_zipS, r_bs2, r_bs3, r_w0, r_w1, r_tyS, r_IxO, r_IxOo, r_St2, r_CallK, r_dSel, r_s0, r_sl, r_sr, Option.toList_some, and_self, if_true, if_false, Bool.false_eq_true,
  List.map_cons, List.map_nil, List.length_cons, List.length_nil, List.cons_append, List.nil_append, List.replicate, List.getElem?_cons_zero, List.getElem?_cons_succ, List.set_cons_zero, List.set_cons_succ, Option.map_some, Option.map_none, Nat.reduceAdd, Nat.reduceSub])
local macro_rules | `(tactic| walk_at "evr") => `(tactic| ((walk_at "evs") <;> rfl))
/-! ### a text in a text -/
theorem in_no (y : List Nat) (R : List Nat) (hy : y.length ≠ 1) (h : ∀ i, i + y.length ≤ R.length → (R.drop i).take y.length ≠ y) : pIn (.str (tx y)) (.str (tx R)) = some (.bool false) := by
  unfold pIn pInB
  dsimp only
  rw [if_neg (by rw [tx_length]; exact hy)]
  have : (!(Builtin.Str.occurrences (tx R) (tx y) 0 (tx R).length 1).isEmpty) = false := by
    cases hb : (!(Builtin.Str.occurrences (tx R) (tx y) 0 (tx R).length 1).isEmpty) with
    | false => rfl
    | true =>
      exfalso
      obtain ⟨i, h1, h2⟩ := (PySem.StrLaws.found_iff (tx R) (tx y)).mp hb
      rw [tx_length, tx_length] at h1
      rw [PySem.StrLaws.subAt_eq] at h2
      rw [tx_toList, tx_toList, tx_length, beq_iff_eq] at h2
      exact h i h1 h2
  rw [this]
  rfl
theorem hc_inj {a b : Bool} (h : hc a = hc b) : a = b := by cases a <;> cases b <;> first | rfl | exact absurd h (by decide)
theorem in_rep (b : Bool) (k : Nat) (hk : k ≠ 1) (R : List Bool) (h : ∀ i, i + k ≤ R.length → ∃ j, j < k ∧ R[i + j]? ≠ some b) : pIn (.str (gs (List.replicate k b))) (.str (gs R)) = some (.bool false) := by
  refine in_no _ _ (by simpa using hk) fun i hi e => ?_
  rw [List.length_map, List.length_replicate, List.length_map] at hi
  obtain ⟨j, hj, hn⟩ := h i hi
  apply hn
  have e' := congrArg (fun l => l[j]?) e
  rw [List.length_map, List.length_replicate, List.getElem?_take_of_lt hj, List.getElem?_drop, List.getElem?_map, List.getElem?_map, List.getElem?_replicate, if_pos hj] at e'
  cases hR : R[i + j]? with
  | none => rw [hR] at e'; cases e'
  | some c =>
    rw [hR] at e'
    have : hc c = hc b := Option.some.inj e'
    rw [hc_inj this]
theorem lit_rep (s : Str) (k : Nat) (b : Bool) (h : s.cps.toList = (List.replicate k b).map hc) : s = gs (List.replicate k b) := lit_ h
/-! ### every other sign -/
theorem stp_map {α β : Type} (f : α → β) (l : List α) (i : Nat) : stp (l.map f) i = (stp l i).map f := by
  unfold stp
  rw [List.length_map, List.map_filterMap]
  congr 1
  funext k
  rw [List.getElem?_map]
theorem st_gs (R : List Bool) (i : Nat) (h : R.length ≤ 1000000) : pSt2 (.str (gs R)) (some (i : Int)) = some (.str (gs (stp R i))) := by
  unfold pSt2 gs
  dsimp only
  rw [if_pos ⟨by rw [tx_length, List.length_map]; exact h, by simp⟩, tx_toList, Option.getD_some, Int.toNat_natCast, stp_map]
theorem fm_map {α β : Type} (f : α → Option β) (g : α → β) : ∀ l : List α, (∀ a ∈ l, f a = some (g a)) → l.filterMap f = l.map g
  | [], _ => rfl
  | a :: l, h => by
    rw [List.filterMap_cons, h a (by simp), List.map_cons, fm_map f g l (fun b hb => h b (List.mem_cons_of_mem _ hb))]
theorem stp_rowS (w : List Bool) (p n i : Nat) : stp (rowS w p n) i = (List.range ((n + 1 - i) / 2)).map fun k => cr w.reverse (p + i + 2 * k) := by
  unfold stp
  rw [rowS_len]
  apply fm_map
  intro k hk
  rw [List.mem_range] at hk
  rw [rowS_get _ _ _ _ (by omega), Nat.add_assoc]
theorem cr_e (b : Bool) (l : List Bool) (q : Nat) : cr (b :: l) (2 * q) = cr l q := by
  conv => lhs; unfold cr
  rw [if_neg (by omega), Nat.mul_div_cancel_left _ (by decide)]
theorem cr_o (b : Bool) (l : List Bool) (q : Nat) : cr (b :: l) (2 * q + 1) = (b == decide (q % 2 = 0)) := by
  unfold cr
  rw [if_pos (by omega)]
  congr 1
  rw [decide_eq_decide]
  omega
theorem cr_o2 (b : Bool) (l : List Bool) (q : Nat) : cr (b :: l) (2 * q + 3) = !cr (b :: l) (2 * q + 1) := by
  rw [show 2 * q + 3 = 2 * (q + 1) + 1 by omega, cr_o, cr_o]
  by_cases h : q % 2 = 0
  · rw [decide_eq_true h, decide_eq_false (by omega)]; cases b <;> rfl
  · rw [decide_eq_false h, decide_eq_true (by omega)]; cases b <;> rfl
theorem ixl_hs (u : List Bool) (b : Bool) (h : u.length < 1000000) : pIx (.str (hs (u ++ [b]))) (.int (-1)) = some (.str (tx [oc b])) := by
  unfold hs
  rw [r_ixS (by simp; omega), List.map_append, List.map_singleton, atI_last]
  rfl
end DL
set_option autoImplicit false
namespace DL
open PySem PySem.Spec PyProof.Rows L2
local macro_rules | `(tactic| walk_at "ev") => `(tactic| simp only [r_fn, r_Rz, r_RzP, r_Try, r_Tr, r_Tn, r_Te, r_Tk, r_CL, r_cl, r_at0, r_at1, r_at2, r_at3, r_at4, r_hA0, r_hBA0, r_hCA0, r_hA1, r_hA2, r_hBA2, r_hCA2, r_hA3, r_hBA3, r_hCA3, r_hA4, r_hBA4, r_hCA4, r_hA5, r_hBA5, r_hCA5, r_hA6, r_hBA6, r_hCA6, r_hA7, r_hBA7, r_hCA7, r_hA8, r_hBA8, r_hCA8, r_hA9, r_hBA9, r_hCA9, r_hA10, r_hBA10, r_hCA10, r_hA11, r_hBA11, r_hCA11, r_hA12, r_hBA12, r_hCA12, r_hA13, r_hBA13, r_hCA13, r_hA14, r_hBA14, r_hCA14, r_hBP, r_hCP, r_iRv, r_iRo, r_lofL, r_lofT, r_tofL, r_tofT, r_bits, r_tyL, r_eB, r_bnd, r_bo, r_be, r_eR, r_Rs, r_bin, r_un, r_c, r_v, r_vd, r_and, r_or, r_if, r_eA, r_eAo, r_eAe, r_eAD, r_eADo, r_eADe, r_eDk, r_CB, r_aN, r_aD, r_aDo, r_aDe, r_aO, r_aOo, r_cA, r_cAe, r_sv0, r_sv1,
  r_call, r_callo, r_calle, r_O0, r_O1, r_Sl, r_Ch, r_Ch3, r_kT', r_kF, r_M, r_Ln, r_Lns, r_Ix, r_Ixs, r_Nl, r_Nls, r_iD, r_iDo, r_iDe, r_iDj, r_iA, r_iAo, r_iAe, r_iAj, r_Q, r_Qn, r_Qr, r_Qb, r_Qc, r_Qe, r_B, r_Bo, r_Be, r_G, r_R, r_E, r_I, r_N, r_X, r_F, r_Fo, r_lc, r_fnr, r_fnn, r_fne, r_tk,
  r_bT, r_bsN, r_bsC, r_bsK, r_bN, r_IB, r_addI, r_sub, r_neg, r_not, r_min, r_max, r_lenL, r_lenT, r_eqS, r_neS, r_eqI, r_neI, r_slL, r_itS, r_itL, r_itT, r_enS, r_enL, r_zip, r_zipS, r_bs2, r_bs3, r_w0, r_w1, r_tyS, r_IxO, r_IxOo, r_St2, r_CallK, r_dSel, r_s0, r_sl, r_sr, Option.toList_some, and_self, if_true, if_false, Bool.false_eq_true,
  List.map_cons, List.map_nil, List.length_cons, List.length_nil, List.cons_append, List.nil_append, List.replicate, List.getElem?_cons_zero, List.getElem?_cons_succ, List.set_cons_zero, List.set_cons_succ, Option.map_some, Option.map_none, Nat.reduceAdd, Nat.reduceSub])
local macro_rules | `(tactic| walk_at "evs") => `(tactic| simp only [*, r_fn, r_mod, r_fdv, r_mulI, r_shl, r_shr, r_pow, r_rg1, r_rg2, r_tup, r_lst, r_ixS, r_ixL, r_ixT, r_slS, r_lenS, r_addS, r_addL, r_revS, r_Lno, decide_true, decide_false, Nat.le_refl, Nat.reduceLeDiff, Int.reduceLT, Int.reduceLE, Bool.not_true, Bool.not_false, Bool.and_true, Bool.true_and, Bool.and_self, r_Rz, r_RzP, r_Try, r_Tr, r_Tn, r_Te, r_Tk, r_CL, r_cl, r_at0, r_at1, r_at2, r_at3, r_at4, r_hA0, r_hBA0, r_hCA0, r_hA1, r_hA2, r_hBA2, r_hCA2, r_hA3, r_hBA3, r_hCA3, r_hA4, r_hBA4, r_hCA4, r_hA5, r_hBA5, r_hCA5, r_hA6, r_hBA6, r_hCA6, r_hA7, r_hBA7, r_hCA7, r_hA8, r_hBA8, r_hCA8, r_hA9, r_hBA9, r_hCA9, r_hA10, r_hBA10, r_hCA10, r_hA11, r_hBA11, r_hCA11, r_hA12, r_hBA12, r_hCA12, r_hA13, r_hBA13, r_hCA13, r_hA14, r_hBA14, r_hCA14, r_hBP, r_hCP, r_iRv, r_iRo, r_lofL, r_lofT, r_tofL, r_tofT, r_bits, r_tyL, r_eB, r_bnd, r_bo, r_be, r_eR, r_Rs, r_bin, r_un, r_c, r_v, r_vd, r_and, r_or, r_if, r_eA, r_eAo, r_eAe, r_eAD, r_eADo, r_eADe, r_eDk, r_CB, r_aN, r_aD, r_aDo, r_aDe, r_aO, r_aOo, r_cA, r_cAe, r_sv0, r_sv1,
  r_call, r_callo, r_calle, r_O0, r_O1, r_Sl, r_Ch, r_Ch3, r_kT', r_kF, r_M, r_Ln, r_Lns, r_Ix, r_Ixs, r_Nl, r_Nls, r_iD, r_iDo, r_iDe, r_iDj, r_iA, r_iAo, r_iAe, r_iAj, r_Q, r_Qn, r_Qr, r_Qb, r_Qc, r_Qe, r_B, r_Bo, r_Be, r_G, r_R, r_E, r_I, r_N, r_X, r_F, r_Fo, r_lc, r_fnr, r_fnn, r_fne, r_tk,
  r_bT, r_bsN, r_bsC, r_bsK, r_bN, r_IB, r_addI, r_sub, r_neg, r_not, r_min, r_max, r_lenL, r_lenT, r_eqS, r_neS, r_eqI, r_neI, r_slL, r_itS, r_itL, r_itT, r_enS, r_enL, r_zip, r_zipS, r_bs2, r_bs3, r_w0, r_w1, r_tyS, r_IxO, r_IxOo, r_St2, r_CallK, r_dSel, r_s0, r_sl, r_sr, Option.toList_some, and_self, if_true, if_false, Bool.false_eq_true,
  List.map_cons, List.map_nil, List.length_cons, List.length_nil, List.cons_append, List.nil_append, List.replicate, List.getElem?_cons_zero, List.getElem?_cons_succ, List.set_cons_zero, List.set_cons_succ, Option.map_some, Option.map_none, Nat.reduceAdd, Nat.reduceSub])
local macro_rules | `(tactic| walk_at "evr") => `(tactic| ((walk_at "evs") <;> rfl))
/-! ### points, plainly -/
abbrev Pt := Int × Int
def pd (z : Pt) : PyData := .tuple [.int z.1, .int z.2]
def dirI (k : Int) : Pt := if k % 4 = 0 then (1, 0) else if k % 4 = 1 then (0, 1) else if k % 4 = 2 then (-1, 0) else (0, -1)
def addP (a b : Pt) : Pt := (a.1 + b.1, a.2 + b.2)
def spr (b : Bool) (z : Pt) : Pt := if b then (z.1 - z.2, z.1 + z.2) else (z.1 + z.2, z.2 - z.1)
/-- how far it is turned behind so many places, in quarters -/
def tn (l : List Bool) (t : Nat) : Int := 2 * (hbL l t : Int) - (t : Int)
/-- the point behind so many steps; the letters from the last one -/
def ptL : List Bool → Nat → Pt
  | [], t => ((t : Int), 0)
  | b :: r, t => if t % 2 = 1 then addP (spr b (ptL r (t / 2))) (dirI (tn (b :: r) (t - 1))) else spr b (ptL r (t / 2))
theorem ptL_cons (b : Bool) (r : List Bool) (t : Nat) : ptL (b :: r) t = if t % 2 = 1 then addP (spr b (ptL r (t / 2))) (dirI (tn (b :: r) (t - 1))) else spr b (ptL r (t / 2)) := rfl
theorem spr_add (b : Bool) (z w : Pt) : spr b (addP z w) = addP (spr b z) (spr b w) := by
  unfold spr addP
  cases b <;> simp <;> omega
theorem dirI_mod {j k : Int} (h : j % 4 = k % 4) : dirI j = dirI k := by unfold dirI; rw [h]
theorem dir_cases (k : Int) : k % 4 = 0 ∨ k % 4 = 1 ∨ k % 4 = 2 ∨ k % 4 = 3 := by omega
theorem spr_o (k : Int) : spr true (dirI k) = addP (dirI k) (dirI (k + 1)) := by
  rcases dir_cases k with h | h | h | h
  · have : (k + 1) % 4 = 1 := by omega
    simp [dirI, h, this, spr, addP]
  · have : (k + 1) % 4 = 2 := by omega
    simp [dirI, h, this, spr, addP]
  · have : (k + 1) % 4 = 3 := by omega
    simp [dirI, h, this, spr, addP]
  · have : (k + 1) % 4 = 0 := by omega
    simp [dirI, h, this, spr, addP]
theorem spr_u (k : Int) : spr false (dirI k) = addP (dirI k) (dirI (k - 1)) := by
  rcases dir_cases k with h | h | h | h
  · have : (k - 1) % 4 = 3 := by omega
    simp [dirI, h, this, spr, addP]
  · have : (k - 1) % 4 = 0 := by omega
    simp [dirI, h, this, spr, addP]
  · have : (k - 1) % 4 = 1 := by omega
    simp [dirI, h, this, spr, addP]
  · have : (k - 1) % 4 = 2 := by omega
    simp [dirI, h, this, spr, addP]
theorem addP_comm (a b : Pt) : addP a b = addP b a := by unfold addP; rw [Int.add_comm, Int.add_comm a.2]
theorem addP_assoc (a b c : Pt) : addP (addP a b) c = addP a (addP b c) := by unfold addP; simp [Int.add_assoc]
theorem tn_even (b : Bool) (r : List Bool) (q : Nat) : tn (b :: r) (2 * q) = tn r q + (if q % 2 = 0 then 0 else if b then 1 else -1) := by
  unfold tn
  rw [hbL_cons, Nat.mul_div_cancel_left _ (by decide : 0 < 2), show (2 * q + 1) / 2 = q by omega]
  by_cases h : q % 2 = 0
  · rw [if_pos h]
    cases b <;> simp <;> omega
  · rw [if_neg h]
    cases b <;> simp <;> omega
theorem tn_odd (b : Bool) (r : List Bool) (q : Nat) : tn (b :: r) (2 * q + 1) = tn r q + (if q % 2 = 1 then 0 else if b then 1 else -1) := by
  unfold tn
  rw [hbL_cons, show (2 * q + 1) / 2 = q by omega, show (2 * q + 1 + 1) / 2 = q + 1 by omega]
  by_cases h : q % 2 = 1
  · rw [if_pos h]
    cases b <;> simp <;> omega
  · rw [if_neg h]
    cases b <;> simp <;> omega
/-- from one point to the next -/
theorem ptL_step : ∀ (l : List Bool) (t : Nat), t < 2 ^ l.length → ptL l (t + 1) = addP (ptL l t) (dirI (tn l t))
  | [], t, h => by
    have : t = 0 := by simp at h; omega
    subst this
    rfl
  | b :: r, t, h => by
    rw [List.length_cons, Nat.pow_succ] at h
    by_cases ht : t % 2 = 0
    · rw [ptL_cons, ptL_cons, if_pos (by omega), if_neg (by omega), show (t + 1) / 2 = t / 2 by omega, Nat.add_sub_cancel]
    · obtain ⟨q, rfl⟩ : ∃ q, t = 2 * q + 1 := ⟨t / 2, by omega⟩
      have ih := ptL_step r q (by omega)
      rw [ptL_cons, ptL_cons, if_neg (by omega), if_pos (by omega), show (2 * q + 1 + 1) / 2 = q + 1 by omega, show (2 * q + 1) / 2 = q by omega, Nat.add_sub_cancel, ih, spr_add, addP_assoc]
      congr 1
      rw [tn_even, tn_odd]
      cases b with
      | true =>
        rw [spr_o]
        by_cases hq : q % 2 = 0
        · have h1 : ¬ q % 2 = 1 := by omega
          rw [if_pos hq, if_neg h1, Int.add_zero]; rfl
        · have h1 : q % 2 = 1 := by omega
          rw [if_neg hq, if_pos h1, Int.add_zero, addP_comm]; rfl
      | false =>
        rw [spr_u]
        by_cases hq : q % 2 = 0
        · have h1 : ¬ q % 2 = 1 := by omega
          rw [if_pos hq, if_neg h1, Int.add_zero]; rfl
        · have h1 : q % 2 = 1 := by omega
          rw [if_neg hq, if_pos h1, Int.add_zero, addP_comm]; rfl
theorem ptL_zero : ∀ l : List Bool, ptL l 0 = (0, 0)
  | [] => rfl
  | b :: r => by
    rw [ptL_cons, if_neg (by omega), show 0 / 2 = 0 from rfl, ptL_zero r]
    cases b <;> rfl
theorem hbL_A (l : List Bool) (b : Bool) : ∀ t : Nat, t < 2 ^ l.length → hbL (l ++ [b]) t = hbL l t
  | 0, _ => by rw [hbL_zero, hbL_zero]
  | t + 1, h => by
    rw [hbL_succ l t h, hbL_succ (l ++ [b]) t (by rw [List.length_append, List.length_singleton, Nat.pow_succ]; omega), hbL_A l b t (by omega), cr_A l b (t + 1) (by omega) h]
theorem tn_A (l : List Bool) (b : Bool) (t : Nat) (h : t < 2 ^ l.length) : tn (l ++ [b]) t = tn l t := by unfold tn; rw [hbL_A l b t h]
theorem ptL_A (l : List Bool) (b : Bool) : ∀ t : Nat, t ≤ 2 ^ l.length → ptL (l ++ [b]) t = ptL l t
  | 0, _ => by rw [ptL_zero, ptL_zero]
  | t + 1, h => by
    rw [ptL_step l t (by omega), ptL_step (l ++ [b]) t (by rw [List.length_append, List.length_singleton, Nat.pow_succ]; omega), ptL_A l b t (by omega), tn_A l b t (by omega)]
/-- the right half's turns -/
theorem tn_right (l : List Bool) (b : Bool) : ∀ t : Nat, t < 2 ^ l.length → tn (l ++ [b]) (2 ^ l.length + t) = tn l (2 ^ l.length - 1 - t) + (if b then 1 else -1)
  | 0, _ => by
    have hp : 0 < 2 ^ l.length := Nat.pow_pos (by decide)
    have s := hbL_succ (l ++ [b]) (2 ^ l.length - 1) (by rw [List.length_append, List.length_singleton, Nat.pow_succ]; omega)
    rw [show 2 ^ l.length - 1 + 1 = 2 ^ l.length by omega, cr_B, hbL_A l b (2 ^ l.length - 1) (by omega)] at s
    unfold tn
    rw [Nat.add_zero, Nat.sub_zero, s]
    clear s
    generalize 2 ^ l.length = m at hp ⊢
    cases b <;> simp <;> omega
  | t + 1, h => by
    have ih := tn_right l b t (by omega)
    have s1 := hbL_succ (l ++ [b]) (2 ^ l.length + t) (by rw [List.length_append, List.length_singleton, Nat.pow_succ]; omega)
    have s2 := hbL_succ l (2 ^ l.length - 1 - (t + 1)) (by omega)
    have c := cr_C l b (t + 1) (by omega) h
    rw [show 2 ^ l.length + t + 1 = 2 ^ l.length + (t + 1) by omega, c] at s1
    rw [show 2 ^ l.length - 1 - (t + 1) + 1 = 2 ^ l.length - 1 - t by omega, show 2 ^ l.length - 1 - t = 2 ^ l.length - (t + 1) by omega] at s2
    rw [show 2 ^ l.length - 1 - t = 2 ^ l.length - (t + 1) by omega] at ih
    unfold tn at ih ⊢
    rw [s1]
    rw [s2] at ih
    cases hc : cr l (2 ^ l.length - (t + 1)) with
    | true => rw [hc] at ih; simp at ih ⊢; omega
    | false => rw [hc] at ih; simp at ih ⊢; omega
/-- turned about by a quarter -/
def qrt (b : Bool) (z : Pt) : Pt := if b then (z.2, 0 - z.1) else (0 - z.2, z.1)
theorem qrt_dir (b : Bool) (k : Int) : dirI (k + (if b then 1 else -1)) = (0 - (qrt b (dirI k)).1, 0 - (qrt b (dirI k)).2) := by
  rcases dir_cases k with h | h | h | h <;> cases b
  · have : (k + -1) % 4 = 3 := by omega
    simp [dirI, h, this, qrt]
  · have : (k + 1) % 4 = 1 := by omega
    simp [dirI, h, this, qrt]
  · have : (k + -1) % 4 = 0 := by omega
    simp [dirI, h, this, qrt]
  · have : (k + 1) % 4 = 2 := by omega
    simp [dirI, h, this, qrt]
  · have : (k + -1) % 4 = 1 := by omega
    simp [dirI, h, this, qrt]
  · have : (k + 1) % 4 = 3 := by omega
    simp [dirI, h, this, qrt]
  · have : (k + -1) % 4 = 2 := by omega
    simp [dirI, h, this, qrt]
  · have : (k + 1) % 4 = 0 := by omega
    simp [dirI, h, this, qrt]
theorem ptL_right (l : List Bool) (b : Bool) : ∀ t : Nat, t ≤ 2 ^ l.length → ptL (l ++ [b]) (2 ^ l.length + t) = addP (ptL l (2 ^ l.length)) (qrt b ((ptL l (2 ^ l.length - t)).1 - (ptL l (2 ^ l.length)).1, (ptL l (2 ^ l.length - t)).2 - (ptL l (2 ^ l.length)).2))
  | 0, _ => by
    rw [Nat.add_zero, Nat.sub_zero, ptL_A l b _ (Nat.le_refl _)]
    cases b <;> simp [addP, qrt]
  | t + 1, h => by
    have ih := ptL_right l b t (by omega)
    have s1 := ptL_step (l ++ [b]) (2 ^ l.length + t) (by rw [List.length_append, List.length_singleton, Nat.pow_succ]; omega)
    have s2 := ptL_step l (2 ^ l.length - (t + 1)) (by omega)
    rw [show 2 ^ l.length - (t + 1) + 1 = 2 ^ l.length - t by omega] at s2
    rw [tn_right l b t (by omega), show 2 ^ l.length - 1 - t = 2 ^ l.length - (t + 1) by omega, qrt_dir, ih, s2, Nat.add_assoc] at s1
    rw [s1]
    generalize ptL l (2 ^ l.length - (t + 1)) = A
    generalize ptL l (2 ^ l.length) = M
    generalize dirI (tn l (2 ^ l.length - (t + 1))) = D
    cases b <;> simp [addP, qrt] <;> constructor <;> omega
end DL
set_option autoImplicit false
namespace DL
open PySem PySem.Spec PyProof.Rows L2
local macro_rules | `(tactic| walk_at "ev") => `(tactic| simp only [r_fn, r_Rz, r_RzP, r_Try, r_Tr, r_Tn, r_Te, r_Tk, r_CL, r_cl, r_at0, r_at1, r_at2, r_at3, r_at4, r_hA0, r_hBA0, r_hCA0, r_hA1, r_hA2, r_hBA2, r_hCA2, r_hA3, r_hBA3, r_hCA3, r_hA4, r_hBA4, r_hCA4, r_hA5, r_hBA5, r_hCA5, r_hA6, r_hBA6, r_hCA6, r_hA7, r_hBA7, r_hCA7, r_hA8, r_hBA8, r_hCA8, r_hA9, r_hBA9, r_hCA9, r_hA10, r_hBA10, r_hCA10, r_hA11, r_hBA11, r_hCA11, r_hA12, r_hBA12, r_hCA12, r_hA13, r_hBA13, r_hCA13, r_hA14, r_hBA14, r_hCA14, r_hBP, r_hCP, r_iRv, r_iRo, r_lofL, r_lofT, r_tofL, r_tofT, r_bits, r_tyL, r_eB, r_bnd, r_bo, r_be, r_eR, r_Rs, r_bin, r_un, r_c, r_v, r_vd, r_and, r_or, r_if, r_eA, r_eAo, r_eAe, r_eAD, r_eADo, r_eADe, r_eDk, r_CB, r_aN, r_aD, r_aDo, r_aDe, r_aO, r_aOo, r_cA, r_cAe, r_sv0, r_sv1,
  r_call, r_callo, r_calle, r_O0, r_O1, r_Sl, r_Ch, r_Ch3, r_kT', r_kF, r_M, r_Ln, r_Lns, r_Ix, r_Ixs, r_Nl, r_Nls, r_iD, r_iDo, r_iDe, r_iDj, r_iA, r_iAo, r_iAe, r_iAj, r_Q, r_Qn, r_Qr, r_Qb, r_Qc, r_Qe, r_B, r_Bo, r_Be, r_G, r_R, r_E, r_I, r_N, r_X, r_F, r_Fo, r_lc, r_fnr, r_fnn, r_fne, r_tk,
  r_bT, r_bsN, r_bsC, r_bsK, r_bN, r_IB, r_addI, r_sub, r_neg, r_not, r_min, r_max, r_lenL, r_lenT, r_eqS, r_neS, r_eqI, r_neI, r_slL, r_itS, r_itL, r_itT, r_enS, r_enL, r_zip, r_zipS, r_bs2, r_bs3, r_w0, r_w1, r_tyS, r_IxO, r_IxOo, r_St2, r_CallK, r_dSel, r_s0, r_sl, r_sr, Option.toList_some, and_self, if_true, if_false, Bool.false_eq_true,
  List.map_cons, List.map_nil, List.length_cons, List.length_nil, List.cons_append, List.nil_append, List.replicate, List.getElem?_cons_zero, List.getElem?_cons_succ, List.set_cons_zero, List.set_cons_succ, Option.map_some, Option.map_none, Nat.reduceAdd, Nat.reduceSub])
local macro_rules | `(tactic| walk_at "evs") => `(tactic| simp only [*, r_fn, r_mod, r_fdv, r_mulI, r_shl, r_shr, r_pow, r_rg1, r_rg2, r_tup, r_lst, r_ixS, r_ixL, r_ixT, r_slS, r_lenS, r_addS, r_addL, r_revS, r_Lno, decide_true, decide_false, Nat.le_refl, Nat.reduceLeDiff, Int.reduceLT, Int.reduceLE, Bool.not_true, Bool.not_false, Bool.and_true, Bool.true_and, Bool.and_self, r_Rz, r_RzP, r_Try, r_Tr, r_Tn, r_Te, r_Tk, r_CL, r_cl, r_at0, r_at1, r_at2, r_at3, r_at4, r_hA0, r_hBA0, r_hCA0, r_hA1, r_hA2, r_hBA2, r_hCA2, r_hA3, r_hBA3, r_hCA3, r_hA4, r_hBA4, r_hCA4, r_hA5, r_hBA5, r_hCA5, r_hA6, r_hBA6, r_hCA6, r_hA7, r_hBA7, r_hCA7, r_hA8, r_hBA8, r_hCA8, r_hA9, r_hBA9, r_hCA9, r_hA10, r_hBA10, r_hCA10, r_hA11, r_hBA11, r_hCA11, r_hA12, r_hBA12, r_hCA12, r_hA13, r_hBA13, r_hCA13, r_hA14, r_hBA14, r_hCA14, r_hBP, r_hCP, r_iRv, r_iRo, r_lofL, r_lofT, r_tofL, r_tofT, r_bits, r_tyL, r_eB, r_bnd, r_bo, r_be, r_eR, r_Rs, r_bin, r_un, r_c, r_v, r_vd, r_and, r_or, r_if, r_eA, r_eAo, r_eAe, r_eAD, r_eADo, r_eADe, r_eDk, r_CB, r_aN, r_aD, r_aDo, r_aDe, r_aO, r_aOo, r_cA, r_cAe, r_sv0, r_sv1,
  r_call, r_callo, r_calle, r_O0, r_O1, r_Sl, r_Ch, r_Ch3, r_kT', r_kF, r_M, r_Ln, r_Lns, r_Ix, r_Ixs, r_Nl, r_Nls, r_iD, r_iDo, r_iDe, r_iDj, r_iA, r_iAo, r_iAe, r_iAj, r_Q, r_Qn, r_Qr, r_Qb, r_Qc, r_Qe, r_B, r_Bo, r_Be, r_G, r_R, r_E, r_I, r_N, r_X, r_F, r_Fo, r_lc, r_fnr, r_fnn, r_fne, r_tk,
  r_bT, r_bsN, r_bsC, r_bsK, r_bN, r_IB, r_addI, r_sub, r_neg, r_not, r_min, r_max, r_lenL, r_lenT, r_eqS, r_neS, r_eqI, r_neI, r_slL, r_itS, r_itL, r_itT, r_enS, r_enL, r_zip, r_zipS, r_bs2, r_bs3, r_w0, r_w1, r_tyS, r_IxO, r_IxOo, r_St2, r_CallK, r_dSel, r_s0, r_sl, r_sr, Option.toList_some, and_self, if_true, if_false, Bool.false_eq_true,
  List.map_cons, List.map_nil, List.length_cons, List.length_nil, List.cons_append, List.nil_append, List.replicate, List.getElem?_cons_zero, List.getElem?_cons_succ, List.set_cons_zero, List.set_cons_succ, Option.map_some, Option.map_none, Nat.reduceAdd, Nat.reduceSub])
local macro_rules | `(tactic| walk_at "evr") => `(tactic| ((walk_at "evs") <;> rfl))
/-! ### the last point -/
def enL : List Bool → Pt
  | [] => (1, 0)
  | b :: r => spr b (enL r)
theorem spr_comm (a b : Bool) (z : Pt) : spr a (spr b z) = spr b (spr a z) := by
  cases a <;> cases b <;> simp [spr] <;> omega
theorem enL_snoc (b : Bool) : ∀ l : List Bool, enL (l ++ [b]) = spr b (enL l)
  | [] => rfl
  | c :: l => by
    show spr c (enL (l ++ [b])) = spr b (spr c (enL l))
    rw [enL_snoc b l, spr_comm]
theorem enL_rev : ∀ l : List Bool, enL l.reverse = enL l
  | [] => rfl
  | b :: l => by rw [List.reverse_cons, enL_snoc, enL_rev l]; rfl
theorem ptL_end : ∀ l : List Bool, ptL l (2 ^ l.length) = enL l
  | [] => rfl
  | b :: l => by
    rw [List.length_cons, Nat.pow_succ, ptL_cons, if_neg (by omega), Nat.mul_div_cancel _ (by decide), ptL_end l]
    rfl
/-! ### the program's functions -/
theorem mkT (a b : Int) : pTup [.int a, .int b] = some (pd (a, b)) := rfl
theorem pd0 (z : Pt) : pIx (pd z) (.int 0) = some (.int z.1) := rfl
theorem pd1 (z : Pt) : pIx (pd z) (.int 1) = some (.int z.2) := rfl
theorem spread_ok (b : Bool) (z : Pt) (st : SE) : dn_spread [.d (.str (tx [oc b])), .d (pd z)] st = some (.ok (pd (spr b z)), st) := by
  unfold dn_spread sf_spread pd
  have e := sgn_o b
  cases b with
  | true => walk_at "evr"
  | false => walk_at "evr"
theorem moved_ok (z : Pt) (t : Int) (st : SE) : dn_moved [.d (pd z), .d (.int (t % 4))] st = some (.ok (pd (addP z (dirI t))), st) := by
  unfold dn_moved sf_moved
  have e0 := pd0 z
  have e1 := pd1 z
  rcases dir_cases t with h | h | h | h
  · rw [h]
    have x0 : pIx (.tuple [.tuple [.int 1, .int 0], .tuple [.int 0, .int 1], .tuple [.int (-1), .int 0], .tuple [.int 0, .int (-1)]]) (.int 0) = some (.tuple [.int 1, .int 0]) := rfl
    have x1 : pIx (.tuple [.int 1, .int 0]) (.int 0) = some (.int 1) := rfl
    have x2 : pIx (.tuple [.int 1, .int 0]) (.int 1) = some (.int 0) := rfl
    have ed : dirI t = (1, 0) := by simp [dirI, h]
    rw [ed]
    clear h ed
    walk_at "evr"
  · rw [h]
    have x0 : pIx (.tuple [.tuple [.int 1, .int 0], .tuple [.int 0, .int 1], .tuple [.int (-1), .int 0], .tuple [.int 0, .int (-1)]]) (.int 1) = some (.tuple [.int 0, .int 1]) := rfl
    have x1 : pIx (.tuple [.int 0, .int 1]) (.int 0) = some (.int 0) := rfl
    have x2 : pIx (.tuple [.int 0, .int 1]) (.int 1) = some (.int 1) := rfl
    have ed : dirI t = (0, 1) := by simp [dirI, h]
    rw [ed]
    clear h ed
    walk_at "evr"
  · rw [h]
    have x0 : pIx (.tuple [.tuple [.int 1, .int 0], .tuple [.int 0, .int 1], .tuple [.int (-1), .int 0], .tuple [.int 0, .int (-1)]]) (.int 2) = some (.tuple [.int (-1), .int 0]) := rfl
    have x1 : pIx (.tuple [.int (-1), .int 0]) (.int 0) = some (.int (-1)) := rfl
    have x2 : pIx (.tuple [.int (-1), .int 0]) (.int 1) = some (.int 0) := rfl
    have ed : dirI t = (-1, 0) := by simp [dirI, h]
    rw [ed]
    clear h ed
    walk_at "evr"
  · rw [h]
    have x0 : pIx (.tuple [.tuple [.int 1, .int 0], .tuple [.int 0, .int 1], .tuple [.int (-1), .int 0], .tuple [.int 0, .int (-1)]]) (.int 3) = some (.tuple [.int 0, .int (-1)]) := rfl
    have x1 : pIx (.tuple [.int 0, .int (-1)]) (.int 0) = some (.int 0) := rfl
    have x2 : pIx (.tuple [.int 0, .int (-1)]) (.int 1) = some (.int (-1)) := rfl
    have ed : dirI t = (0, -1) := by simp [dirI, h]
    rw [ed]
    clear h ed
    walk_at "evr"
theorem headat_ok (w : List Bool) (p : Nat) (st : SE) (h : w.length ≤ 200) : dn_heading_at [.d (.str (hs w)), .d (.int (p : Int))] st = some (.ok (.int (tn w.reverse p % 4)), st) := by
  unfold dn_heading_at sf_heading_at
  have e := turnat_ok w p st h
  have et : tn w.reverse p = 2 * ((hbL w.reverse p : Nat) : Int) - (p : Int) := rfl
  rw [et]
  clear et
  walk_at "evs"
theorem pointat_ok (w : List Bool) (s : Nat) (st : SE) (h : w.length ≤ 200) : dn_point_at [.d (.str (hs w)), .d (.int (s : Int))] st = some (.ok (pd (ptL w.reverse s)), st) := by
  unfold dn_point_at sf_point_at
  have hl := len_hs w (by omega)
  have hen : kEnum [.str (hs w)] = some (enumL 0 (w.map fun b => .str (tx [oc b]))) := by unfold hs; rw [r_enS, hs_signs]
  have sh : ∀ k : Nat, pShr (.int (s : Int)) (.int (k : Int)) = some (.int ((s / 2 ^ k : Nat) : Int)) := fun k => by
    rw [r_shr (by omega), Int.toNat_natCast]
    simp
  have sh0 := sh w.length
  have t0 := mkT ((s / 2 ^ w.length : Nat) : Int) 0
  obtain ⟨dl', st', e, hI⟩ := forGo_inv (bd := bT (bsC (bN 3) (bsC (bN 4) bsN))) (body := lb_point_at_1) (fun i dl st1 => st1 = st ∧ ∃ (x3 x4 x5 : Option SV), dl = [some (.d (.str (hs w))), some (.d (.int (s : Int))), some (.d (pd (ptL (w.take i).reverse (s / 2 ^ (w.length - i))))), x3, x4, x5])
    (enumL 0 (w.map fun b => .str (tx [oc b]))) 0 [some (.d (.str (hs w))), some (.d (.int (s : Int))), some (.d (pd (((s / 2 ^ w.length : Nat) : Int), 0))), none, none, none] st ⟨rfl, _, _, _, rfl⟩ (fun j z dl st1 ej hI => by
      obtain ⟨rfl, x3, x4, x5, rfl⟩ := hI
      rw [enumL_get, List.getElem?_map] at ej
      cases hv : w[j]? with
      | none => rw [hv] at ej; cases ej
      | some b =>
        rw [hv] at ej
        cases ej
        have hjl : j < w.length := (List.getElem?_eq_some_iff.mp hv).1
        have htk : (w.take (j + 1)).reverse = b :: (w.take j).reverse := by rw [List.take_add_one, hv, List.reverse_append]; rfl
        rw [Nat.zero_add, htk, ptL_cons]
        have e1 : (w.length : Int) - 1 - (j : Int) = ((w.length - 1 - j : Nat) : Int) := by omega
        have shj := sh (w.length - 1 - j)
        have hdiv : s / 2 ^ (w.length - (j + 1)) / 2 = s / 2 ^ (w.length - j) := by
          rw [Nat.div_div_eq_div_mul, ← Nat.pow_succ]
          congr 2
          omega
        rw [hdiv, show w.length - (j + 1) = w.length - 1 - j by omega]
        have sp := spread_ok b (ptL (w.take j).reverse (s / 2 ^ (w.length - j))) st1
        have sl := sl_take w (j + 1) (by omega)
        have ej1 : (j : Int) + 1 = ((j + 1 : Nat) : Int) := by omega
        have hh := headat_ok (w.take (j + 1)) (s / 2 ^ (w.length - 1 - j) - 1) st1 (by rw [List.length_take]; omega)
        rw [htk] at hh
        have mv := moved_ok (spr b (ptL (w.take j).reverse (s / 2 ^ (w.length - j)))) (tn (b :: (w.take j).reverse) (s / 2 ^ (w.length - 1 - j) - 1)) st1
        generalize hq : s / 2 ^ (w.length - 1 - j) = q at *
        generalize ptL (w.take j).reverse (s / 2 ^ (w.length - j)) = Z at *
        by_cases ho : q % 2 = 1
        · have d : decide ((q : Int) % 2 = 1) = true := decide_eq_true (by omega)
          have eq1 : (q : Int) - 1 = ((q - 1 : Nat) : Int) := by omega
          rw [if_pos ho]
          refine ⟨_, [some (.d (.str (hs w))), some (.d (.int (s : Int))), some (.d (pd (addP (spr b Z) (dirI (tn (b :: (w.take j).reverse) (q - 1)))))), some (.d (.int (j : Int))), some (.d (.str (tx [oc b]))), some (.d (.int (q : Int)))], _, rfl, ?_, rfl, _, _, _, rfl⟩
          unfold lb_point_at_1
          clear hdiv hq htk sh hen ho
          walk_at "evs"
        · have d : decide ((q : Int) % 2 = 1) = false := decide_eq_false (by omega)
          rw [if_neg ho]
          refine ⟨_, [some (.d (.str (hs w))), some (.d (.int (s : Int))), some (.d (pd (spr b Z))), some (.d (.int (j : Int))), some (.d (.str (tx [oc b]))), some (.d (.int (q : Int)))], _, rfl, ?_, rfl, _, _, _, rfl⟩
          unfold lb_point_at_1
          clear hdiv hq htk sh hen ho
          walk_at "evs")
  obtain ⟨rfl, x3, x4, x5, rfl⟩ := hI
  rw [Nat.zero_add, enumL_len, List.length_map, List.take_length, Nat.sub_self, Nat.pow_zero, Nat.div_one, show pd (((s / 2 ^ w.length : Nat) : Int), 0) = .tuple [.int ((s / 2 ^ w.length : Nat) : Int), .int 0] from rfl] at e
  clear sh
  walk_at "evs"
theorem point_ok (w : List Bool) (s : Nat) (st : SE) (h : w.length ≤ 60) (h1 : s ≤ 2 ^ w.length) : dn_point [.d (.str (hs w)), .d (.int (s : Int))] st = some (.ok (pd (ptL w.reverse s)), st) := by
  unfold dn_point sf_point
  have e1 := needh_ok w st h
  have e2 := long_ok w st (by omega)
  have e3 := needp_ok w (s : Int) 0 ((2 ^ w.length : Nat) : Int) st h (by omega) (by omega)
  have e4 := pointat_ok w s st (by omega)
  walk_at "evs"
theorem heading_ok (w : List Bool) (s : Nat) (st : SE) (h : w.length ≤ 60) (h1 : s < 2 ^ w.length) : dn_heading [.d (.str (hs w)), .d (.int (s : Int))] st = some (.ok (.int (tn w.reverse s % 4)), st) := by
  unfold dn_heading sf_heading
  have e1 := needh_ok w st h
  have e2 := long_ok w st (by omega)
  have e3 := needp_ok w (s : Int) 0 (((2 ^ w.length : Nat) : Int) - 1) st h (by omega) (by omega)
  have e4 := headat_ok w s st (by omega)
  walk_at "evs"
theorem end_ok (w : List Bool) (st : SE) (h : w.length ≤ 60) : dn_end [.d (.str (hs w))] st = some (.ok (pd (enL w)), st) := by
  unfold dn_end sf_end
  have e1 := needh_ok w st h
  have e2 := long_ok w st (by omega)
  have e4 := pointat_ok w (2 ^ w.length) st (by omega)
  have e5 := ptL_end w.reverse
  rw [List.length_reverse, enL_rev] at e5
  rw [e5] at e4
  clear e5
  walk_at "evs"
/-- the points behind the steps from a on, so many -/
def wayS (w : List Bool) (a n : Nat) : List PyData := (List.range n).map fun i => pd (ptL w.reverse (a + i))
theorem way_ok (w : List Bool) (a k : Nat) (st : SE) (h : w.length ≤ 60) (h1 : a ≤ 2 ^ w.length) (h2 : k ≤ 1000) : dn_way [.d (.str (hs w)), .d (.int (a : Int)), .d (.int (k : Int))] st = some (.ok (.list (wayS w a (min (a + k) (2 ^ w.length + 1) - a))), st) := by
  unfold dn_way sf_way
  have hbig : 2 ^ w.length ≤ 2 ^ 60 := Nat.pow_le_pow_right (by decide) h
  have e1 := needh_ok w st h
  have e2 := long_ok w st (by omega)
  have e3 := needp_ok w (a : Int) 0 ((2 ^ w.length : Nat) : Int) st h (by omega) (by omega)
  have e4 := whole_ok (k : Int) 0 1000 st (by omega) (by omega)
  have hm : min ((a : Int) + (k : Int)) (((2 ^ w.length : Nat) : Int) + 1) = ((min (a + k) (2 ^ w.length + 1) : Nat) : Int) := by omega
  have hb : a ≤ min (a + k) (2 ^ w.length + 1) := by omega
  have hb2 : min (a + k) (2 ^ w.length + 1) - a ≤ 1000 := by omega
  have hb3 : min (a + k) (2 ^ w.length + 1) ≤ 2 ^ 61 := by omega
  generalize min (a + k) (2 ^ w.length + 1) = b at *
  have i1 : inLine (a : Int) = true := in_nat _ (by omega)
  have i2 : inLine (b : Int) = true := in_nat _ (by omega)
  have hl := lck_map (bd := bN 3) (e := le_way_1) (dl := [some (.d (.str (hs w))), some (.d (.int (a : Int))), some (.d (.int (k : Int))), none]) (st := st) (vs := [3]) (xs := rangeL (a : Int) (b : Int)) (fun (i : Nat) => .int ((a : Int) + i)) (fun i => pd (ptL w.reverse (a + i))) (List.range (b - a)) (by unfold rangeL; rw [show ((b : Int) - (a : Int)).toNat = b - a by omega]) (by simp; omega) (fun i hi => by
    refine ⟨_, rfl, ?_⟩
    have e := pointat_ok w (a + i) st (by omega)
    rw [show ((a + i : Nat) : Int) = (a : Int) + (i : Int) by omega] at e
    unfold le_way_1
    clear hbig hb3
    walk_at "evs")
  unfold wayS
  clear hbig hb3
  walk_at "evs"
theorem lawend_ok (w : List Bool) (st : SE) (h : w.length ≤ 10000) : dn_law_end [.d (.str (hs w))] st = some (.ok (pd (enL w)), st) := by
  unfold dn_law_end sf_law_end
  have rv : pRev (.str (hs w)) = some (.str (hs w.reverse)) := by unfold hs; rw [r_revS (by simp; omega), List.map_reverse]
  have er := enL_rev w
  generalize w.reverse = l at rv er
  have it := it_hs l
  obtain ⟨dl', st', e, hI⟩ := forGo_inv (bd := bN 3) (body := lb_law_end_1) (fun i dl s => s = st ∧ ∃ (x3 : Option SV), dl = [some (.d (.str (hs w))), some (.d (.int (enL (l.take i)).1)), some (.d (.int (enL (l.take i)).2)), x3])
    (l.map fun b => .str (tx [oc b])) 0 [some (.d (.str (hs w))), some (.d (.int 1)), some (.d (.int 0)), none] st ⟨rfl, _, rfl⟩ (fun j z dl s ej hI => by
      obtain ⟨rfl, x3, rfl⟩ := hI
      rw [List.getElem?_map] at ej
      cases hv : l[j]? with
      | none => rw [hv] at ej; cases ej
      | some b =>
        rw [hv] at ej
        cases ej
        rw [Nat.zero_add, show l.take (j + 1) = l.take j ++ [b] by rw [List.take_add_one, hv]; rfl, enL_snoc]
        generalize enL (l.take j) = Z
        have e1 := sgn_o b
        have z1 : ∀ a c : Int, pTup [.int a, .int c] = some (.tuple [.int a, .int c]) := fun _ _ => rfl
        refine ⟨_, [some (.d (.str (hs w))), some (.d (.int (spr b Z).1)), some (.d (.int (spr b Z).2)), some (.d (.str (tx [oc b])))], _, rfl, ?_, rfl, _, rfl⟩
        unfold lb_law_end_1
        clear rv it er hv
        cases b with
        | true => walk_at "evr"
        | false => walk_at "evr")
  obtain ⟨rfl, x3, rfl⟩ := hI
  rw [Nat.zero_add, List.length_map, List.take_length, er] at e
  have t1 := mkT (enL w).1 (enL w).2
  clear er
  have z1 : pTup [.int 1, .int 0] = some (.tuple [.int 1, .int 0]) := rfl
  walk_at "evr"
end DL
set_option autoImplicit false
namespace DL
open PySem PySem.Spec PyProof.Rows L2
local macro_rules | `(tactic| walk_at "ev") => `(tactic| simp only [r_fn, r_Rz, r_RzP, r_Try, r_Tr, r_Tn, r_Te, r_Tk, r_CL, r_cl, r_at0, r_at1, r_at2, r_at3, r_at4, r_hA0, r_hBA0, r_hCA0, r_hA1, r_hA2, r_hBA2, r_hCA2, r_hA3, r_hBA3, r_hCA3, r_hA4, r_hBA4, r_hCA4, r_hA5, r_hBA5, r_hCA5, r_hA6, r_hBA6, r_hCA6, r_hA7, r_hBA7, r_hCA7, r_hA8, r_hBA8, r_hCA8, r_hA9, r_hBA9, r_hCA9, r_hA10, r_hBA10, r_hCA10, r_hA11, r_hBA11, r_hCA11, r_hA12, r_hBA12, r_hCA12, r_hA13, r_hBA13, r_hCA13, r_hA14, r_hBA14, r_hCA14, r_hBP, r_hCP, r_iRv, r_iRo, r_lofL, r_lofT, r_tofL, r_tofT, r_bits, r_tyL, r_eB, r_bnd, r_bo, r_be, r_eR, r_Rs, r_bin, r_un, r_c, r_v, r_vd, r_and, r_or, r_if, r_eA, r_eAo, r_eAe, r_eAD, r_eADo, r_eADe, r_eDk, r_CB, r_aN, r_aD, r_aDo, r_aDe, r_aO, r_aOo, r_cA, r_cAe, r_sv0, r_sv1,
  r_call, r_callo, r_calle, r_O0, r_O1, r_Sl, r_Ch, r_Ch3, r_kT', r_kF, r_M, r_Ln, r_Lns, r_Ix, r_Ixs, r_Nl, r_Nls, r_iD, r_iDo, r_iDe, r_iDj, r_iA, r_iAo, r_iAe, r_iAj, r_Q, r_Qn, r_Qr, r_Qb, r_Qc, r_Qe, r_B, r_Bo, r_Be, r_G, r_R, r_E, r_I, r_N, r_X, r_F, r_Fo, r_lc, r_fnr, r_fnn, r_fne, r_tk,
  r_bT, r_bsN, r_bsC, r_bsK, r_bN, r_IB, r_addI, r_sub, r_neg, r_not, r_min, r_max, r_lenL, r_lenT, r_eqS, r_neS, r_eqI, r_neI, r_slL, r_itS, r_itL, r_itT, r_enS, r_enL, r_zip, r_zipS, r_bs2, r_bs3, r_w0, r_w1, r_tyS, r_IxO, r_IxOo, r_St2, r_CallK, r_dSel, r_s0, r_sl, r_sr, Option.toList_some, and_self, if_true, if_false, Bool.false_eq_true,
  List.map_cons, List.map_nil, List.length_cons, List.length_nil, List.cons_append, List.nil_append, List.replicate, List.getElem?_cons_zero, List.getElem?_cons_succ, List.set_cons_zero, List.set_cons_succ, Option.map_some, Option.map_none, Nat.reduceAdd, Nat.reduceSub])
local macro_rules | `(tactic| walk_at "evs") => `(tactic| simp only [*, r_fn, r_mod, r_fdv, r_mulI, r_shl, r_shr, r_pow, r_rg1, r_rg2, r_tup, r_lst, r_ixS, r_ixL, r_ixT, r_slS, r_lenS, r_addS, r_addL, r_revS, r_Lno, decide_true, decide_false, Nat.le_refl, Nat.reduceLeDiff, Int.reduceLT, Int.reduceLE, Bool.not_true, Bool.not_false, Bool.and_true, Bool.true_and, Bool.and_self, r_Rz, r_RzP, r_Try, r_Tr, r_Tn, r_Te, r_Tk, r_CL, r_cl, r_at0, r_at1, r_at2, r_at3, r_at4, r_hA0, r_hBA0, r_hCA0, r_hA1, r_hA2, r_hBA2, r_hCA2, r_hA3, r_hBA3, r_hCA3, r_hA4, r_hBA4, r_hCA4, r_hA5, r_hBA5, r_hCA5, r_hA6, r_hBA6, r_hCA6, r_hA7, r_hBA7, r_hCA7, r_hA8, r_hBA8, r_hCA8, r_hA9, r_hBA9, r_hCA9, r_hA10, r_hBA10, r_hCA10, r_hA11, r_hBA11, r_hCA11, r_hA12, r_hBA12, r_hCA12, r_hA13, r_hBA13, r_hCA13, r_hA14, r_hBA14, r_hCA14, r_hBP, r_hCP, r_iRv, r_iRo, r_lofL, r_lofT, r_tofL, r_tofT, r_bits, r_tyL, r_eB, r_bnd, r_bo, r_be, r_eR, r_Rs, r_bin, r_un, r_c, r_v, r_vd, r_and, r_or, r_if, r_eA, r_eAo, r_eAe, r_eAD, r_eADo, r_eADe, r_eDk, r_CB, r_aN, r_aD, r_aDo, r_aDe, r_aO, r_aOo, r_cA, r_cAe, r_sv0, r_sv1,
  r_call, r_callo, r_calle, r_O0, r_O1, r_Sl, r_Ch, r_Ch3, r_kT', r_kF, r_M, r_Ln, r_Lns, r_Ix, r_Ixs, r_Nl, r_Nls, r_iD, r_iDo, r_iDe, r_iDj, r_iA, r_iAo, r_iAe, r_iAj, r_Q, r_Qn, r_Qr, r_Qb, r_Qc, r_Qe, r_B, r_Bo, r_Be, r_G, r_R, r_E, r_I, r_N, r_X, r_F, r_Fo, r_lc, r_fnr, r_fnn, r_fne, r_tk,
  r_bT, r_bsN, r_bsC, r_bsK, r_bN, r_IB, r_addI, r_sub, r_neg, r_not, r_min, r_max, r_lenL, r_lenT, r_eqS, r_neS, r_eqI, r_neI, r_slL, r_itS, r_itL, r_itT, r_enS, r_enL, r_zip, r_zipS, r_bs2, r_bs3, r_w0, r_w1, r_tyS, r_IxO, r_IxOo, r_St2, r_CallK, r_dSel, r_s0, r_sl, r_sr, Option.toList_some, and_self, if_true, if_false, Bool.false_eq_true,
  List.map_cons, List.map_nil, List.length_cons, List.length_nil, List.cons_append, List.nil_append, List.replicate, List.getElem?_cons_zero, List.getElem?_cons_succ, List.set_cons_zero, List.set_cons_succ, Option.map_some, Option.map_none, Nat.reduceAdd, Nat.reduceSub])
local macro_rules | `(tactic| walk_at "evr") => `(tactic| ((walk_at "evs") <;> rfl))
/-! ### data equal themselves -/
theorem eqvAll_refl {xs : List PyData} (h : ∀ x ∈ xs, PyData.eqv x x = true) : PyData.eqvAll xs xs = true := by
  induction xs with
  | nil => rfl
  | cons x r ih =>
    rw [PyData.eqvAll, h x (by simp), ih (fun y hy => h y (List.mem_cons_of_mem _ hy))]
    rfl
theorem eqv_dpt : ∀ (n : Nat) (d : PyData), dpt n d = true → PyData.eqv d d = true
  | _, .none, _ => by unfold PyData.eqv; rfl
  | _, .bool b, _ => by unfold PyData.eqv; simp
  | _, .int i, _ => by unfold PyData.eqv; simp
  | _, .str x, _ => by unfold PyData.eqv; simp
  | 0, .list _, h => by simp [dpt] at h
  | 0, .tuple _, h => by simp [dpt] at h
  | 0, .dict _, h => by simp [dpt] at h
  | n + 1, .list xs, h => by
    unfold dpt at h
    unfold PyData.eqv
    exact eqvAll_refl fun x hx => eqv_dpt n x (List.all_eq_true.mp h x hx)
  | n + 1, .tuple xs, h => by
    unfold dpt at h
    unfold PyData.eqv
    exact eqvAll_refl fun x hx => eqv_dpt n x (List.all_eq_true.mp h x hx)
  | n + 1, .dict _, h => by simp [dpt] at h
theorem ne_self (d : PyData) (h : dpt 8 d = true) : pNe d d = some (.bool false) := by
  cases d with
  | str x => unfold pNe pEqB; simp
  | _ => unfold pNe pEqB; dsimp only; rw [h, eqv_dpt 8 _ h]; rfl
theorem eq_self (d : PyData) (h : dpt 8 d = true) : pEq d d = some (.bool true) := by
  cases d with
  | str x => unfold pEq pEqB; simp
  | _ => unfold pEq pEqB; dsimp only; rw [h, eqv_dpt 8 _ h]; rfl
theorem dpt_int (n : Nat) (i : Int) : dpt n (.int i) = true := by cases n <;> rfl
theorem dpt_pd (n : Nat) (z : Pt) : dpt (n + 1) (pd z) = true := by
  unfold pd dpt
  simp [dpt_int]
theorem dpt_pds {α : Type} (n : Nat) (f : α → Pt) (L : List α) : dpt (n + 2) (.list (L.map fun a => pd (f a))) = true := by
  unfold dpt
  rw [List.all_map, List.all_eq_true]
  intro a _
  exact dpt_pd n (f a)
theorem ne_pd (z : Pt) : pNe (pd z) (pd z) = some (.bool false) := ne_self _ rfl
theorem eq_pd (z : Pt) : pEq (pd z) (pd z) = some (.bool true) := eq_self _ rfl
theorem ne_way (w : List Bool) (a n : Nat) : pNe (.list (wayS w a n)) (.list (wayS w a n)) = some (.bool false) := ne_self _ (dpt_pds 6 _ _)
/-! ### the way of a law: walked by faces -/
theorem quarters_ok (st : SE) : dn_law_quarters [] st = some (.ok (.list [pd (1, 0), pd (0, 1), pd (-1, 0), pd (0, -1)]), st) := by
  unfold dn_law_quarters sf_law_quarters pd
  walk_at "evr"
theorem quarters_at (t : Int) : atI [pd (1, 0), pd (0, 1), pd (-1, 0), pd (0, -1)] (t % 4) = some (pd (dirI t)) := by
  rcases dir_cases t with h | h | h | h
  · rw [h]; simp [dirI, h]; rfl
  · rw [h]; simp [dirI, h]; rfl
  · rw [h]; simp [dirI, h]; rfl
  · rw [h]; simp [dirI, h]; rfl
theorem lawway_ok (R : List Bool) (faces : List PyData) (m : Nat) (F : Int → Pt) (P : Nat → Pt) (T : Nat → Int) (st : SE) (hm : faces.length = m) (hm0 : 0 < m) (hm1 : m < 1000) (hR : R.length < 100000)
    (hF : ∀ t : Int, atI faces (t % (m : Int)) = some (pd (F t))) (hP0 : P 0 = (0, 0)) (hT0 : T 0 = 0) (hP : ∀ j, j ≤ R.length → P (j + 1) = addP (P j) (F (T j))) (hT : ∀ j b, R[j]? = some b → T (j + 1) = T j + (if b then 1 else -1)) :
    dn_law_way [.d (.str (gs R)), .d (.list faces)] st = some (.ok (.list ((List.range (R.length + 2)).map fun i => pd (P i))), st) := by
  unfold dn_law_way sf_law_way
  have ad : pAdd (.str (gs R)) (.str "h") = some (.str (gs (R ++ [true]))) := by
    have e := addG R [true] (by simp; omega)
    rw [show (.str (gs [true]) : PyData) = sg true from rfl, ← sg_h] at e
    exact e
  have it := it_gs (R ++ [true])
  have hlf : pLen [.list faces] = some (.int (m : Int)) := by rw [r_lenL, hm]
  obtain ⟨dl', st', e, hI⟩ := forGo_inv (bd := bN 5) (body := lb_law_way_1) (fun i dl s => s = st ++ [.l ((List.range (i + 1)).map fun k => pd (P k))] ∧ ∃ (t : Int) (x5 : Option SV), (i ≤ R.length → t = T i) ∧ dl = [some (.d (.str (gs R))), some (.d (.list faces)), some (.d (pd (P i))), some (.d (.int (t % (m : Int)))), some (.o st.length), x5])
    ((R ++ [true]).map sg) 0 [some (.d (.str (gs R))), some (.d (.list faces)), some (.d (pd (P 0))), some (.d (.int (0 % (m : Int)))), some (.o st.length), none] (st ++ [.l ((List.range (0 + 1)).map fun k => pd (P k))]) ⟨rfl, 0, none, fun _ => hT0.symm, rfl⟩ (fun j z dl s ej hI => by
      obtain ⟨rfl, t, x5, ht, rfl⟩ := hI
      rw [Nat.zero_add] at ht ⊢
      rw [List.getElem?_map] at ej
      cases hv : (R ++ [true])[j]? with
      | none => rw [hv] at ej; cases ej
      | some b =>
        rw [hv] at ej
        cases ej
        have hjl : j < R.length + 1 := by simpa using (List.getElem?_eq_some_iff.mp hv).1
        have ht' := ht (by omega)
        subst ht'
        have hPj := hP j (by omega)
        have fa := hF (T j)
        have fx : pIx (.list faces) (.int (T j % (m : Int))) = some (pd (F (T j))) := by rw [r_ixL]; exact fa
        have p0 := pd0 (P j)
        have p1 := pd1 (P j)
        have q0 := pd0 (F (T j))
        have q1 := pd1 (F (T j))
        have mt : pTup [.int ((P j).1 + (F (T j)).1), .int ((P j).2 + (F (T j)).2)] = some (pd (P (j + 1))) := by rw [hPj]; rfl
        have ap : sAp 4 (eV 2) [some (.d (.str (gs R))), some (.d (.list faces)), some (.d (pd (P (j + 1)))), some (.d (.int (T j % (m : Int)))), some (.o st.length), some (.d (sg b))] (st ++ [.l ((List.range (j + 1)).map fun k => pd (P k))]) = some (.nx, [some (.d (.str (gs R))), some (.d (.list faces)), some (.d (pd (P (j + 1)))), some (.d (.int (T j % (m : Int)))), some (.o st.length), some (.d (sg b))], st ++ [.l ((List.range (j + 1 + 1)).map fun k => pd (P k))]) := by
          rw [r_Ap (j := st.length) (ys := (List.range (j + 1)).map fun k => pd (P k)) (xs := (List.range (j + 1)).map fun k => pd (P k)) (d := pd (P (j + 1))) (st1 := st ++ [.l ((List.range (j + 1)).map fun k => pd (P k))]) rfl (by simp) rfl (by simp) (by simp; omega)]
          congr 2
          rw [List.set_append_right _ _ (Nat.le_refl _), Nat.sub_self, List.range_succ (n := j + 1), List.map_append]
          rfl
        have hsg := sg_eqh b
        have mm : ∀ x : Int, pMod (.int (T j % (m : Int) + x)) (.int (m : Int)) = some (.int ((T j + x) % (m : Int))) := fun x => by
          rw [r_mod (by omega), Int.emod_add_emod]
        have m1 := mm 1
        have m2 := mm (-1)
        refine ⟨_, [some (.d (.str (gs R))), some (.d (.list faces)), some (.d (pd (P (j + 1)))), some (.d (.int ((T j + (if b then 1 else -1)) % (m : Int)))), some (.o st.length), some (.d (sg b))], _, rfl, ?_, rfl, T j + (if b then 1 else -1), some (.d (sg b)), ?_, rfl⟩
        · unfold lb_law_way_1
          clear ht hF hP hT mm hPj fa ad it
          cases b with
          | true =>
            rw [if_pos rfl]
            simp only [r_Q, r_G, r_CB, r_aD, r_bin, r_v, r_c, r_vd, r_bo, r_eB, r_eR, r_Rs, r_aDo, r_cA, r_aN, r_eADo, r_sv0, r_sv1, r_eDk, r_Bo, r_bN, r_Qn, List.getElem?_cons_zero, List.getElem?_cons_succ, List.set_cons_zero, List.set_cons_succ, Option.map_some, p0, p1, q0, q1, fx, r_addI, mt, ap]
            walk_at "evs"
          | false =>
            rw [if_neg (by simp)]
            simp only [r_Q, r_G, r_CB, r_aD, r_bin, r_v, r_c, r_vd, r_bo, r_eB, r_eR, r_Rs, r_aDo, r_cA, r_aN, r_eADo, r_sv0, r_sv1, r_eDk, r_Bo, r_bN, r_Qn, List.getElem?_cons_zero, List.getElem?_cons_succ, List.set_cons_zero, List.set_cons_succ, Option.map_some, p0, p1, q0, q1, fx, r_addI, mt, ap]
            walk_at "evs"
        · intro hj1
          rw [List.getElem?_append_left (by omega)] at hv
          exact (hT j b hv).symm)
  obtain ⟨rfl, t, x5, ht, rfl⟩ := hI
  simp only [List.length_map, List.length_append, List.length_singleton, Nat.zero_add] at e
  have nw : sNw 4 (aD (eV 2) aN) [some (.d (.str (gs R))), some (.d (.list faces)), some (.d (.tuple [.int 0, .int 0])), some (.d (.int 0)), none, none] st = some (.nx, [some (.d (.str (gs R))), some (.d (.list faces)), some (.d (.tuple [.int 0, .int 0])), some (.d (.int 0)), some (.o st.length), none], st ++ [.l [.tuple [.int 0, .int 0]]]) := rfl
  have h0 : (pd (P 0)) = .tuple [.int 0, .int 0] := by rw [hP0]; rfl
  have h1 : ((List.range 1).map fun k => pd (P k)) = [.tuple [.int 0, .int 0]] := by
    show [pd (P 0)] = _
    rw [h0]
  rw [h0, h1, Int.zero_emod] at e
  have fz := r_Fz (i := 4) (j := st.length) (xs := (List.range (R.length + 1 + 1)).map fun k => pd (P k)) (f := sR (eV 4)) (dl := [some (.d (.str (gs R))), some (.d (.list faces)), some (.d (pd (P (R.length + 1)))), some (.d (.int (t % (m : Int)))), some (.o st.length), x5]) (st := st ++ [.l ((List.range (R.length + 1 + 1)).map fun k => pd (P k))]) rfl (by simp)
  have tk : List.take st.length (List.set (st ++ [Ob.l ((List.range (R.length + 1 + 1)).map fun k => pd (P k))]) st.length Ob.dead) = st := by
    rw [List.set_append_right _ _ (Nat.le_refl _)]
    simp
  clear hF hP hT ht h0 h1
  walk_at "evr"
theorem tn_step (l : List Bool) (t : Nat) (h : t + 1 < 2 ^ l.length) : tn l (t + 1) = tn l t + (if cr l (t + 1) then 1 else -1) := by
  unfold tn
  rw [hbL_succ l t h]
  cases cr l (t + 1) <;> simp <;> omega
theorem lawway_q (w : List Bool) (st : SE) (h : w.length ≤ 15) : dn_law_way [.d (.str (gs (rowL w.reverse))), .d (.list [pd (1, 0), pd (0, 1), pd (-1, 0), pd (0, -1)])] st = some (.ok (.list (wayS w 0 (2 ^ w.length + 1))), st) := by
  have hpos : 0 < 2 ^ w.length := Nat.pow_pos (by decide)
  have hle : 2 ^ w.length ≤ 2 ^ 15 := Nat.pow_le_pow_right (by decide) h
  have hlr : w.reverse.length = w.length := List.length_reverse
  have hrl : (rowL w.reverse).length = 2 ^ w.length - 1 := by rw [rowL_len, hlr]
  rw [lawway_ok (rowL w.reverse) _ 4 dirI (ptL w.reverse) (tn w.reverse) st rfl (by decide) (by decide) (by omega) quarters_at (ptL_zero _) (by unfold tn; rw [hbL_zero]; rfl) (fun j hj => ptL_step _ j (by rw [hlr]; omega)) (fun j b hb => by
    have hj := (List.getElem?_eq_some_iff.mp hb).1
    rw [rowL_get (by rw [hlr]; omega)] at hb
    rw [tn_step _ j (by rw [hlr]; omega), Option.some.inj hb])]
  unfold wayS
  rw [hrl, show 2 ^ w.length - 1 + 2 = 2 ^ w.length + 1 by omega]
  congr 5
  funext i
  rw [Nat.zero_add]
end DL
set_option autoImplicit false
namespace DL
open PySem PySem.Spec PyProof.Rows L2
local macro_rules | `(tactic| walk_at "ev") => `(tactic| simp only [r_fn, r_Rz, r_RzP, r_Try, r_Tr, r_Tn, r_Te, r_Tk, r_CL, r_cl, r_at0, r_at1, r_at2, r_at3, r_at4, r_hA0, r_hBA0, r_hCA0, r_hA1, r_hA2, r_hBA2, r_hCA2, r_hA3, r_hBA3, r_hCA3, r_hA4, r_hBA4, r_hCA4, r_hA5, r_hBA5, r_hCA5, r_hA6, r_hBA6, r_hCA6, r_hA7, r_hBA7, r_hCA7, r_hA8, r_hBA8, r_hCA8, r_hA9, r_hBA9, r_hCA9, r_hA10, r_hBA10, r_hCA10, r_hA11, r_hBA11, r_hCA11, r_hA12, r_hBA12, r_hCA12, r_hA13, r_hBA13, r_hCA13, r_hA14, r_hBA14, r_hCA14, r_hBP, r_hCP, r_iRv, r_iRo, r_lofL, r_lofT, r_tofL, r_tofT, r_bits, r_tyL, r_eB, r_bnd, r_bo, r_be, r_eR, r_Rs, r_bin, r_un, r_c, r_v, r_vd, r_and, r_or, r_if, r_eA, r_eAo, r_eAe, r_eAD, r_eADo, r_eADe, r_eDk, r_CB, r_aN, r_aD, r_aDo, r_aDe, r_aO, r_aOo, r_cA, r_cAe, r_sv0, r_sv1,
  r_call, r_callo, r_calle, r_O0, r_O1, r_Sl, r_Ch, r_Ch3, r_kT', r_kF, r_M, r_Ln, r_Lns, r_Ix, r_Ixs, r_Nl, r_Nls, r_iD, r_iDo, r_iDe, r_iDj, r_iA, r_iAo, r_iAe, r_iAj, r_Q, r_Qn, r_Qr, r_Qb, r_Qc, r_Qe, r_B, r_Bo, r_Be, r_G, r_R, r_E, r_I, r_N, r_X, r_F, r_Fo, r_lc, r_fnr, r_fnn, r_fne, r_tk,
  r_bT, r_bsN, r_bsC, r_bsK, r_bN, r_IB, r_addI, r_sub, r_neg, r_not, r_min, r_max, r_lenL, r_lenT, r_eqS, r_neS, r_eqI, r_neI, r_slL, r_itS, r_itL, r_itT, r_enS, r_enL, r_zip, r_zipS, r_bs2, r_bs3, r_w0, r_w1, r_tyS, r_IxO, r_IxOo, r_St2, r_CallK, r_dSel, r_s0, r_sl, r_sr, Option.toList_some, and_self, if_true, if_false, Bool.false_eq_true,
  List.map_cons, List.map_nil, List.length_cons, List.length_nil, List.cons_append, List.nil_append, List.replicate, List.getElem?_cons_zero, List.getElem?_cons_succ, List.set_cons_zero, List.set_cons_succ, Option.map_some, Option.map_none, Nat.reduceAdd, Nat.reduceSub])
local macro_rules | `(tactic| walk_at "evs") => `(tactic| simp only [*, r_fn, r_mod, r_fdv, r_mulI, r_shl, r_shr, r_pow, r_rg1, r_rg2, r_tup, r_lst, r_ixS, r_ixL, r_ixT, r_slS, r_lenS, r_addS, r_addL, r_revS, r_Lno, decide_true, decide_false, Nat.le_refl, Nat.reduceLeDiff, Int.reduceLT, Int.reduceLE, Bool.not_true, Bool.not_false, Bool.and_true, Bool.true_and, Bool.and_self, r_Rz, r_RzP, r_Try, r_Tr, r_Tn, r_Te, r_Tk, r_CL, r_cl, r_at0, r_at1, r_at2, r_at3, r_at4, r_hA0, r_hBA0, r_hCA0, r_hA1, r_hA2, r_hBA2, r_hCA2, r_hA3, r_hBA3, r_hCA3, r_hA4, r_hBA4, r_hCA4, r_hA5, r_hBA5, r_hCA5, r_hA6, r_hBA6, r_hCA6, r_hA7, r_hBA7, r_hCA7, r_hA8, r_hBA8, r_hCA8, r_hA9, r_hBA9, r_hCA9, r_hA10, r_hBA10, r_hCA10, r_hA11, r_hBA11, r_hCA11, r_hA12, r_hBA12, r_hCA12, r_hA13, r_hBA13, r_hCA13, r_hA14, r_hBA14, r_hCA14, r_hBP, r_hCP, r_iRv, r_iRo, r_lofL, r_lofT, r_tofL, r_tofT, r_bits, r_tyL, r_eB, r_bnd, r_bo, r_be, r_eR, r_Rs, r_bin, r_un, r_c, r_v, r_vd, r_and, r_or, r_if, r_eA, r_eAo, r_eAe, r_eAD, r_eADo, r_eADe, r_eDk, r_CB, r_aN, r_aD, r_aDo, r_aDe, r_aO, r_aOo, r_cA, r_cAe, r_sv0, r_sv1,
  r_call, r_callo, r_calle, r_O0, r_O1, r_Sl, r_Ch, r_Ch3, r_kT', r_kF, r_M, r_Ln, r_Lns, r_Ix, r_Ixs, r_Nl, r_Nls, r_iD, r_iDo, r_iDe, r_iDj, r_iA, r_iAo, r_iAe, r_iAj, r_Q, r_Qn, r_Qr, r_Qb, r_Qc, r_Qe, r_B, r_Bo, r_Be, r_G, r_R, r_E, r_I, r_N, r_X, r_F, r_Fo, r_lc, r_fnr, r_fnn, r_fne, r_tk,
  r_bT, r_bsN, r_bsC, r_bsK, r_bN, r_IB, r_addI, r_sub, r_neg, r_not, r_min, r_max, r_lenL, r_lenT, r_eqS, r_neS, r_eqI, r_neI, r_slL, r_itS, r_itL, r_itT, r_enS, r_enL, r_zip, r_zipS, r_bs2, r_bs3, r_w0, r_w1, r_tyS, r_IxO, r_IxOo, r_St2, r_CallK, r_dSel, r_s0, r_sl, r_sr, Option.toList_some, and_self, if_true, if_false, Bool.false_eq_true,
  List.map_cons, List.map_nil, List.length_cons, List.length_nil, List.cons_append, List.nil_append, List.replicate, List.getElem?_cons_zero, List.getElem?_cons_succ, List.set_cons_zero, List.set_cons_succ, Option.map_some, Option.map_none, Nat.reduceAdd, Nat.reduceSub])
local macro_rules | `(tactic| walk_at "evr") => `(tactic| ((walk_at "evs") <;> rfl))
/-! ### the last point: whatever the order, as a product -/
theorem enL_perm {l m : List Bool} (h : l.Perm m) : enL l = enL m := by
  induction h with
  | nil => rfl
  | cons b _ ih => show spr b _ = spr b _; rw [ih]
  | swap a b l => exact (spr_comm b a (enL l))
  | trans _ _ ih1 ih2 => exact ih1.trans ih2
def mulP (z w : Pt) : Pt := (z.1 * w.1 - z.2 * w.2, z.1 * w.2 + z.2 * w.1)
theorem spr_mul (b : Bool) (z w : Pt) : spr b (mulP z w) = mulP (spr b z) w := by
  cases b <;> simp only [spr, mulP, if_true, if_false, Bool.false_eq_true, Int.sub_mul, Int.add_mul] <;> refine Prod.ext ?_ ?_ <;> dsimp only <;> omega
theorem enL_app : ∀ u v : List Bool, enL (u ++ v) = mulP (enL u) (enL v)
  | [], v => by show enL v = _; unfold mulP enL; simp
  | b :: u, v => by
    show spr b (enL (u ++ v)) = mulP (spr b (enL u)) (enL v)
    rw [enL_app u v, spr_mul]
theorem enL_bound : ∀ l : List Bool, (enL l).1.natAbs ≤ 2 ^ l.length ∧ (enL l).2.natAbs ≤ 2 ^ l.length
  | [] => by decide
  | b :: l => by
    have ih := enL_bound l
    rw [List.length_cons, Nat.pow_succ]
    show (spr b (enL l)).1.natAbs ≤ _ ∧ (spr b (enL l)).2.natAbs ≤ _
    cases b <;> simp only [spr, if_true, if_false, Bool.false_eq_true] <;> omega
theorem enL_norm : ∀ l : List Bool, (enL l).1 * (enL l).1 + (enL l).2 * (enL l).2 = ((2 ^ l.length : Nat) : Int)
  | [] => rfl
  | b :: l => by
    have ih := enL_norm l
    rw [List.length_cons, Nat.pow_succ]
    show (spr b (enL l)).1 * (spr b (enL l)).1 + (spr b (enL l)).2 * (spr b (enL l)).2 = _
    generalize enL l = Z at *
    have c := Int.mul_comm Z.1 Z.2
    cases b <;> simp only [spr, if_true, if_false, Bool.false_eq_true, Int.sub_mul, Int.add_mul, Int.mul_sub, Int.mul_add] <;> omega
/-! ### seen from beneath -/
theorem tn_not (l : List Bool) : ∀ t : Nat, t < 2 ^ l.length → tn (nots l) t = -tn l t
  | 0, _ => by unfold tn; rw [hbL_zero, hbL_zero]; rfl
  | t + 1, h => by
    rw [tn_step l t h, tn_step (nots l) t (by rw [nots_len]; exact h), tn_not l t (by omega), cr_not l (t + 1) (by omega) h]
    cases cr l (t + 1) <;> simp <;> omega
theorem dir_neg (k : Int) : dirI (-k) = ((dirI k).1, 0 - (dirI k).2) := by
  rcases dir_cases k with h | h | h | h
  · have : (-k) % 4 = 0 := by omega
    simp [dirI, h, this]
  · have : (-k) % 4 = 3 := by omega
    simp [dirI, h, this]
  · have : (-k) % 4 = 2 := by omega
    simp [dirI, h, this]
  · have : (-k) % 4 = 1 := by omega
    simp [dirI, h, this]
theorem ptL_not (l : List Bool) : ∀ t : Nat, t ≤ 2 ^ l.length → ptL (nots l) t = ((ptL l t).1, 0 - (ptL l t).2)
  | 0, _ => by rw [ptL_zero, ptL_zero]; rfl
  | t + 1, h => by
    rw [ptL_step l t (by omega), ptL_step (nots l) t (by rw [nots_len]; omega), ptL_not l t (by omega), tn_not l t (by omega), dir_neg]
    generalize ptL l t = A
    generalize dirI (tn l t) = D
    simp only [addP]
    refine Prod.ext rfl ?_
    dsimp only
    omega
/-! ### letters counted, laid in order -/
theorem count_hs (w : List Bool) : pCount (.str (hs w)) [.str "o"] = some (.int ((w.count true : Nat) : Int)) := by
  unfold pCount hs
  rw [lit_o]
  dsimp only
  rw [count_one]
  congr 3
  rw [show (111 : Nat) = oc true from rfl]
  induction w with
  | nil => rfl
  | cons b r ih => rw [List.map_cons, List.count_cons, List.count_cons, ih]; cases b <;> rfl
theorem mul_oc (b : Bool) (k : Nat) (h : k ≤ 10000) : pMul (.str (tx [oc b])) (.int (k : Int)) = some (.str (hs (List.replicate k b))) := by
  unfold pMul
  dsimp only
  rw [if_pos ⟨by rw [tx_length]; simp, by omega, by omega⟩, tx_toList]
  unfold repL hs
  congr 3
  rw [Int.toNat_natCast, List.map_replicate]
  induction k with
  | zero => rfl
  | succ k ih => rw [List.replicate_succ, List.flatten_cons, ih (by omega), List.replicate_succ]; rfl
theorem perm_sorted (w : List Bool) : (List.replicate (w.count true) true ++ List.replicate (w.length - w.count true) false).Perm w := by
  induction w with
  | nil => exact .refl _
  | cons b r ih =>
    have hle : r.count true ≤ r.length := List.count_le_length
    cases b with
    | true =>
      rw [List.count_cons_self, List.length_cons, show r.length + 1 - (r.count true + 1) = r.length - r.count true by omega, List.replicate_succ, List.cons_append]
      exact ih.cons true
    | false =>
      rw [List.count_cons_of_ne (by decide), List.length_cons, show r.length + 1 - r.count true = r.length - r.count true + 1 by omega, List.replicate_succ]
      exact (List.perm_middle).trans (ih.cons false)
theorem addH (v w : List Bool) (h : v.length + w.length ≤ 1000000) : pAdd (.str (hs v)) (.str (hs w)) = some (.str (hs (v ++ w))) := by
  unfold hs
  rw [r_addS (by simpa using h), List.map_append]
theorem rev_hs (w : List Bool) (h : w.length ≤ 1000000) : pRev (.str (hs w)) = some (.str (hs w.reverse)) := by unfold hs; rw [r_revS (by simpa using h), List.map_reverse]
end DL
set_option autoImplicit false
namespace DL
open PySem PySem.Spec PyProof.Rows L2
local macro_rules | `(tactic| walk_at "ev") => `(tactic| simp only [r_fn, r_Rz, r_RzP, r_Try, r_Tr, r_Tn, r_Te, r_Tk, r_CL, r_cl, r_at0, r_at1, r_at2, r_at3, r_at4, r_hA0, r_hBA0, r_hCA0, r_hA1, r_hA2, r_hBA2, r_hCA2, r_hA3, r_hBA3, r_hCA3, r_hA4, r_hBA4, r_hCA4, r_hA5, r_hBA5, r_hCA5, r_hA6, r_hBA6, r_hCA6, r_hA7, r_hBA7, r_hCA7, r_hA8, r_hBA8, r_hCA8, r_hA9, r_hBA9, r_hCA9, r_hA10, r_hBA10, r_hCA10, r_hA11, r_hBA11, r_hCA11, r_hA12, r_hBA12, r_hCA12, r_hA13, r_hBA13, r_hCA13, r_hA14, r_hBA14, r_hCA14, r_hBP, r_hCP, r_iRv, r_iRo, r_lofL, r_lofT, r_tofL, r_tofT, r_bits, r_tyL, r_eB, r_bnd, r_bo, r_be, r_eR, r_Rs, r_bin, r_un, r_c, r_v, r_vd, r_and, r_or, r_if, r_eA, r_eAo, r_eAe, r_eAD, r_eADo, r_eADe, r_eDk, r_CB, r_aN, r_aD, r_aDo, r_aDe, r_aO, r_aOo, r_cA, r_cAe, r_sv0, r_sv1,
  r_call, r_callo, r_calle, r_O0, r_O1, r_Sl, r_Ch, r_Ch3, r_kT', r_kF, r_M, r_Ln, r_Lns, r_Ix, r_Ixs, r_Nl, r_Nls, r_iD, r_iDo, r_iDe, r_iDj, r_iA, r_iAo, r_iAe, r_iAj, r_Q, r_Qn, r_Qr, r_Qb, r_Qc, r_Qe, r_B, r_Bo, r_Be, r_G, r_R, r_E, r_I, r_N, r_X, r_F, r_Fo, r_lc, r_fnr, r_fnn, r_fne, r_tk,
  r_bT, r_bsN, r_bsC, r_bsK, r_bN, r_IB, r_addI, r_sub, r_neg, r_not, r_min, r_max, r_lenL, r_lenT, r_eqS, r_neS, r_eqI, r_neI, r_slL, r_itS, r_itL, r_itT, r_enS, r_enL, r_zip, r_zipS, r_bs2, r_bs3, r_w0, r_w1, r_tyS, r_IxO, r_IxOo, r_St2, r_CallK, r_dSel, r_s0, r_sl, r_sr, Option.toList_some, and_self, if_true, if_false, Bool.false_eq_true,
  List.map_cons, List.map_nil, List.length_cons, List.length_nil, List.cons_append, List.nil_append, List.replicate, List.getElem?_cons_zero, List.getElem?_cons_succ, List.set_cons_zero, List.set_cons_succ, Option.map_some, Option.map_none, Nat.reduceAdd, Nat.reduceSub])
local macro_rules | `(tactic| walk_at "evs") => `(tactic| simp only [*, r_fn, r_mod, r_fdv, r_mulI, r_shl, r_shr, r_pow, r_rg1, r_rg2, r_tup, r_lst, r_ixS, r_ixL, r_ixT, r_slS, r_lenS, r_addS, r_addL, r_revS, r_Lno, decide_true, decide_false, Nat.le_refl, Nat.reduceLeDiff, Int.reduceLT, Int.reduceLE, Bool.not_true, Bool.not_false, Bool.and_true, Bool.true_and, Bool.and_self, r_Rz, r_RzP, r_Try, r_Tr, r_Tn, r_Te, r_Tk, r_CL, r_cl, r_at0, r_at1, r_at2, r_at3, r_at4, r_hA0, r_hBA0, r_hCA0, r_hA1, r_hA2, r_hBA2, r_hCA2, r_hA3, r_hBA3, r_hCA3, r_hA4, r_hBA4, r_hCA4, r_hA5, r_hBA5, r_hCA5, r_hA6, r_hBA6, r_hCA6, r_hA7, r_hBA7, r_hCA7, r_hA8, r_hBA8, r_hCA8, r_hA9, r_hBA9, r_hCA9, r_hA10, r_hBA10, r_hCA10, r_hA11, r_hBA11, r_hCA11, r_hA12, r_hBA12, r_hCA12, r_hA13, r_hBA13, r_hCA13, r_hA14, r_hBA14, r_hCA14, r_hBP, r_hCP, r_iRv, r_iRo, r_lofL, r_lofT, r_tofL, r_tofT, r_bits, r_tyL, r_eB, r_bnd, r_bo, r_be, r_eR, r_Rs, r_bin, r_un, r_c, r_v, r_vd, r_and, r_or, r_if, r_eA, r_eAo, r_eAe, r_eAD, r_eADo, r_eADe, r_eDk, r_CB, r_aN, r_aD, r_aDo, r_aDe, r_aO, r_aOo, r_cA, r_cAe, r_sv0, r_sv1,
  r_call, r_callo, r_calle, r_O0, r_O1, r_Sl, r_Ch, r_Ch3, r_kT', r_kF, r_M, r_Ln, r_Lns, r_Ix, r_Ixs, r_Nl, r_Nls, r_iD, r_iDo, r_iDe, r_iDj, r_iA, r_iAo, r_iAe, r_iAj, r_Q, r_Qn, r_Qr, r_Qb, r_Qc, r_Qe, r_B, r_Bo, r_Be, r_G, r_R, r_E, r_I, r_N, r_X, r_F, r_Fo, r_lc, r_fnr, r_fnn, r_fne, r_tk,
  r_bT, r_bsN, r_bsC, r_bsK, r_bN, r_IB, r_addI, r_sub, r_neg, r_not, r_min, r_max, r_lenL, r_lenT, r_eqS, r_neS, r_eqI, r_neI, r_slL, r_itS, r_itL, r_itT, r_enS, r_enL, r_zip, r_zipS, r_bs2, r_bs3, r_w0, r_w1, r_tyS, r_IxO, r_IxOo, r_St2, r_CallK, r_dSel, r_s0, r_sl, r_sr, Option.toList_some, and_self, if_true, if_false, Bool.false_eq_true,
  List.map_cons, List.map_nil, List.length_cons, List.length_nil, List.cons_append, List.nil_append, List.replicate, List.getElem?_cons_zero, List.getElem?_cons_succ, List.set_cons_zero, List.set_cons_succ, Option.map_some, Option.map_none, Nat.reduceAdd, Nat.reduceSub])
local macro_rules | `(tactic| walk_at "evr") => `(tactic| ((walk_at "evs") <;> rfl))
/-! ### heights of segments, plainly; the letters from the last one -/
def HtL : List Bool → Nat → Nat
  | [], _ => 0
  | b :: r, s => if (s + s / 2) % 2 = 1 then (if b then 2 * 2 ^ r.length - 1 - HtL r (s / 2) else 2 ^ r.length - 1 - HtL r (s / 2)) else (if b then HtL r (s / 2) else 2 ^ r.length + HtL r (s / 2))
theorem HtL_cons (b : Bool) (r : List Bool) (s : Nat) : HtL (b :: r) s = if (s + s / 2) % 2 = 1 then (if b then 2 * 2 ^ r.length - 1 - HtL r (s / 2) else 2 ^ r.length - 1 - HtL r (s / 2)) else (if b then HtL r (s / 2) else 2 ^ r.length + HtL r (s / 2)) := rfl
theorem HtL_lt : ∀ (l : List Bool) (s : Nat), HtL l s < 2 ^ l.length
  | [], _ => by simp [HtL]
  | b :: r, s => by
    have ih := HtL_lt r (s / 2)
    rw [HtL_cons, List.length_cons, Nat.pow_succ]
    split <;> cases b <;> simp <;> omega
/-- the segment at a height -/
def SgL : List Bool → Nat → Nat
  | [], _ => 0
  | b :: r, h => if (if b then 2 ^ r.length ≤ h else h < 2 ^ r.length) then 2 * SgL r (if b then 2 * 2 ^ r.length - 1 - h else 2 ^ r.length - 1 - h) + (1 + SgL r (if b then 2 * 2 ^ r.length - 1 - h else 2 ^ r.length - 1 - h)) % 2
    else 2 * SgL r (if b then h else h - 2 ^ r.length) + (SgL r (if b then h else h - 2 ^ r.length)) % 2
theorem SgL_cons (b : Bool) (r : List Bool) (h : Nat) : SgL (b :: r) h = if (if b then 2 ^ r.length ≤ h else h < 2 ^ r.length) then 2 * SgL r (if b then 2 * 2 ^ r.length - 1 - h else 2 ^ r.length - 1 - h) + (1 + SgL r (if b then 2 * 2 ^ r.length - 1 - h else 2 ^ r.length - 1 - h)) % 2
    else 2 * SgL r (if b then h else h - 2 ^ r.length) + (SgL r (if b then h else h - 2 ^ r.length)) % 2 := rfl
theorem SgL_lt : ∀ (l : List Bool) (h : Nat), SgL l h < 2 ^ l.length
  | [], _ => by simp [SgL]
  | b :: r, h => by
    have ih := fun h => SgL_lt r h
    rw [SgL_cons, List.length_cons, Nat.pow_succ]
    cases b <;> simp only [if_true, Bool.false_eq_true, if_false]
    · have h1 := ih (2 ^ r.length - 1 - h)
      have h2 := ih (h - 2 ^ r.length)
      split <;> omega
    · have h1 := ih (2 * 2 ^ r.length - 1 - h)
      have h2 := ih h
      split <;> omega
theorem Ht_Sg : ∀ (l : List Bool) (h : Nat), h < 2 ^ l.length → HtL l (SgL l h) = h
  | [], h, hh => by simp at hh; subst hh; rfl
  | b :: r, h, hh => by
    rw [List.length_cons, Nat.pow_succ] at hh
    have ih := Ht_Sg r
    rw [SgL_cons]
    cases b with
    | true =>
      simp only [if_true]
      by_cases hc : 2 ^ r.length ≤ h
      · rw [if_pos hc]
        have e := ih (2 * 2 ^ r.length - 1 - h) (by omega)
        generalize SgL r (2 * 2 ^ r.length - 1 - h) = T at *
        rw [HtL_cons, show (2 * T + (1 + T) % 2) / 2 = T by omega, if_pos (by omega), e]
        simp
        omega
      · rw [if_neg hc]
        have e := ih h (by omega)
        generalize SgL r h = T at *
        rw [HtL_cons, show (2 * T + T % 2) / 2 = T by omega, if_neg (by omega), e]
        simp
    | false =>
      simp only [Bool.false_eq_true, if_false]
      by_cases hc : h < 2 ^ r.length
      · rw [if_pos hc]
        have e := ih (2 ^ r.length - 1 - h) (by omega)
        generalize SgL r (2 ^ r.length - 1 - h) = T at *
        rw [HtL_cons, show (2 * T + (1 + T) % 2) / 2 = T by omega, if_pos (by omega), e]
        simp
        omega
      · rw [if_neg hc]
        have e := ih (h - 2 ^ r.length) (by omega)
        generalize SgL r (h - 2 ^ r.length) = T at *
        rw [HtL_cons, show (2 * T + T % 2) / 2 = T by omega, if_neg (by omega), e]
        simp
        omega
theorem Sg_Ht : ∀ (l : List Bool) (s : Nat), s < 2 ^ l.length → SgL l (HtL l s) = s
  | [], s, hh => by simp at hh; subst hh; rfl
  | b :: r, s, hh => by
    rw [List.length_cons, Nat.pow_succ] at hh
    have ih := Sg_Ht r (s / 2) (by omega)
    have hlt := HtL_lt r (s / 2)
    rw [HtL_cons, SgL_cons]
    generalize HtL r (s / 2) = c at *
    cases b with
    | true =>
      simp only [if_true]
      by_cases hr : (s + s / 2) % 2 = 1
      · rw [if_pos hr, if_pos (by omega), show 2 * 2 ^ r.length - 1 - (2 * 2 ^ r.length - 1 - c) = c by omega, ih]
        omega
      · rw [if_neg hr, if_neg (by omega), ih]
        omega
    | false =>
      simp only [Bool.false_eq_true, if_false]
      by_cases hr : (s + s / 2) % 2 = 1
      · rw [if_pos hr, if_pos (by omega), show 2 ^ r.length - 1 - (2 ^ r.length - 1 - c) = c by omega, ih]
        omega
      · rw [if_neg hr, if_neg (by omega), show 2 ^ r.length + c - 2 ^ r.length = c by omega, ih]
        omega
theorem Ht_not : ∀ (l : List Bool) (s : Nat), HtL (nots l) s = 2 ^ l.length - 1 - HtL l s
  | [], _ => rfl
  | b :: r, s => by
    have ih := Ht_not r (s / 2)
    have hlt := HtL_lt r (s / 2)
    show HtL ((!b) :: nots r) s = _
    rw [HtL_cons, HtL_cons, nots_len, ih, List.length_cons, Nat.pow_succ]
    split <;> cases b <;> simp <;> omega
/-! ### as the program reckons them -/
def hgt : List Bool → Nat → Nat → Nat → Nat
  | [], _, h, _ => h
  | b :: r, s, h, lay => if 2 ^ r.length ≤ s then hgt r (2 * 2 ^ r.length - 1 - s) (if b then 2 * lay - 1 - h else lay - 1 - h) (2 * lay) else hgt r s (if b then h else lay + h) (2 * lay)
theorem hgt_cons (b : Bool) (r : List Bool) (s h lay : Nat) : hgt (b :: r) s h lay = if 2 ^ r.length ≤ s then hgt r (2 * 2 ^ r.length - 1 - s) (if b then 2 * lay - 1 - h else lay - 1 - h) (2 * lay) else hgt r s (if b then h else lay + h) (2 * lay) := rfl
theorem hgt_snoc (b : Bool) : ∀ (u : List Bool) (s h lay : Nat), s < 2 ^ (u.length + 1) → hgt (u ++ [b]) s h lay = if (s + s / 2) % 2 = 1 then (if b then 2 * (lay * 2 ^ u.length) - 1 - hgt u (s / 2) h lay else lay * 2 ^ u.length - 1 - hgt u (s / 2) h lay) else (if b then hgt u (s / 2) h lay else lay * 2 ^ u.length + hgt u (s / 2) h lay)
  | [], s, h, lay, hs => by
    have : s = 0 ∨ s = 1 := by simp at hs; omega
    rcases this with rfl | rfl
    · simp [hgt]
    · simp [hgt]
  | a :: u, s, h, lay, hs => by
    rw [List.length_cons, Nat.pow_succ, Nat.pow_succ] at hs
    have ih := hgt_snoc b u
    rw [List.cons_append, hgt_cons, hgt_cons, List.length_append, List.length_singleton, List.length_cons]
    have el : lay * 2 ^ (u.length + 1) = 2 * lay * 2 ^ u.length := by rw [Nat.pow_succ, Nat.mul_comm 2 lay, Nat.mul_assoc, Nat.mul_comm 2]
    rw [el]
    by_cases hc : 2 ^ (u.length + 1) ≤ s
    · have hc2 : 2 ^ u.length ≤ s / 2 := by rw [Nat.pow_succ] at hc; omega
      rw [if_pos hc, if_pos hc2, ih _ _ _ (by rw [Nat.pow_succ] at hc ⊢; omega)]
      have e1 : (2 * 2 ^ (u.length + 1) - 1 - s) / 2 = 2 * 2 ^ u.length - 1 - s / 2 := by rw [Nat.pow_succ]; omega
      have e2 : (2 * 2 ^ (u.length + 1) - 1 - s + (2 * 2 ^ u.length - 1 - s / 2)) % 2 = (s + s / 2) % 2 := by rw [Nat.pow_succ] at hc ⊢; omega
      rw [e1, e2]
    · have hc2 : ¬ 2 ^ u.length ≤ s / 2 := by rw [Nat.pow_succ] at hc; omega
      rw [if_neg hc, if_neg hc2, ih _ _ _ (by omega)]
theorem hgt_Ht : ∀ (l : List Bool) (s : Nat), s < 2 ^ l.length → hgt l.reverse s 0 1 = HtL l s
  | [], _, _ => rfl
  | b :: r, s, hs => by
    rw [List.length_cons] at hs
    rw [List.reverse_cons, hgt_snoc b r.reverse s 0 1 (by rw [List.length_reverse]; exact hs), HtL_cons, List.length_reverse, Nat.one_mul, hgt_Ht r (s / 2) (by rw [Nat.pow_succ] at hs; omega)]
def sgm : List Bool → Nat → Nat → Nat → Nat
  | [], seg, _, _ => seg
  | b :: r, seg, h, wide => if (if b then 2 ^ r.length ≤ h else h < 2 ^ r.length) then sgm r (2 * wide - 1 - seg) (if b then 2 * 2 ^ r.length - 1 - h else 2 ^ r.length - 1 - h) (2 * wide) else sgm r seg (if b then h else h - 2 ^ r.length) (2 * wide)
theorem sgm_cons (b : Bool) (r : List Bool) (seg h wide : Nat) : sgm (b :: r) seg h wide = if (if b then 2 ^ r.length ≤ h else h < 2 ^ r.length) then sgm r (2 * wide - 1 - seg) (if b then 2 * 2 ^ r.length - 1 - h else 2 ^ r.length - 1 - h) (2 * wide) else sgm r seg (if b then h else h - 2 ^ r.length) (2 * wide) := rfl
theorem sgm_two : ∀ (l : List Bool) (t e h W : Nat), t < W → sgm l (2 * t + (e + t) % 2) h (2 * W) = 2 * sgm l t h W + (e + sgm l t h W) % 2
  | [], t, e, h, W, _ => rfl
  | b :: r, t, e, h, W, ht => by
    have ih := sgm_two r
    rw [sgm_cons, sgm_cons]
    have key : ∀ h', sgm r (2 * (2 * W) - 1 - (2 * t + (e + t) % 2)) h' (2 * (2 * W)) = 2 * sgm r (2 * W - 1 - t) h' (2 * W) + (e + sgm r (2 * W - 1 - t) h' (2 * W)) % 2 := fun h' => by
      rw [← ih (2 * W - 1 - t) e h' (2 * W) (by omega)]
      congr 1
      omega
    cases b <;> simp only [if_true, Bool.false_eq_true, if_false]
    · split
      · exact key _
      · exact ih t e _ (2 * W) (by omega)
    · split
      · exact key _
      · exact ih t e _ (2 * W) (by omega)
theorem sgm_Sg : ∀ (l : List Bool) (h : Nat), sgm l 0 h 1 = SgL l h
  | [], _ => rfl
  | b :: r, h => by
    rw [sgm_cons, SgL_cons]
    have k1 : ∀ h', sgm r (2 * 1 - 1 - 0) h' (2 * 1) = 2 * SgL r h' + (1 + SgL r h') % 2 := fun h' => by
      rw [← sgm_Sg r h']
      exact sgm_two r 0 1 h' 1 (by omega)
    have k0 : ∀ h', sgm r 0 h' (2 * 1) = 2 * SgL r h' + SgL r h' % 2 := fun h' => by
      have := sgm_two r 0 0 h' 1 (by omega)
      rw [sgm_Sg r h', Nat.zero_add (SgL r h')] at this
      exact this
    cases b <;> simp only [if_true, Bool.false_eq_true, if_false, k1, k0]
end DL
set_option autoImplicit false
namespace DL
open PySem PySem.Spec PyProof.Rows L2
local macro_rules | `(tactic| walk_at "ev") => `(tactic| simp only [r_fn, r_Rz, r_RzP, r_Try, r_Tr, r_Tn, r_Te, r_Tk, r_CL, r_cl, r_at0, r_at1, r_at2, r_at3, r_at4, r_hA0, r_hBA0, r_hCA0, r_hA1, r_hA2, r_hBA2, r_hCA2, r_hA3, r_hBA3, r_hCA3, r_hA4, r_hBA4, r_hCA4, r_hA5, r_hBA5, r_hCA5, r_hA6, r_hBA6, r_hCA6, r_hA7, r_hBA7, r_hCA7, r_hA8, r_hBA8, r_hCA8, r_hA9, r_hBA9, r_hCA9, r_hA10, r_hBA10, r_hCA10, r_hA11, r_hBA11, r_hCA11, r_hA12, r_hBA12, r_hCA12, r_hA13, r_hBA13, r_hCA13, r_hA14, r_hBA14, r_hCA14, r_hBP, r_hCP, r_iRv, r_iRo, r_lofL, r_lofT, r_tofL, r_tofT, r_bits, r_tyL, r_eB, r_bnd, r_bo, r_be, r_eR, r_Rs, r_bin, r_un, r_c, r_v, r_vd, r_and, r_or, r_if, r_eA, r_eAo, r_eAe, r_eAD, r_eADo, r_eADe, r_eDk, r_CB, r_aN, r_aD, r_aDo, r_aDe, r_aO, r_aOo, r_cA, r_cAe, r_sv0, r_sv1,
  r_call, r_callo, r_calle, r_O0, r_O1, r_Sl, r_Ch, r_Ch3, r_kT', r_kF, r_M, r_Ln, r_Lns, r_Ix, r_Ixs, r_Nl, r_Nls, r_iD, r_iDo, r_iDe, r_iDj, r_iA, r_iAo, r_iAe, r_iAj, r_Q, r_Qn, r_Qr, r_Qb, r_Qc, r_Qe, r_B, r_Bo, r_Be, r_G, r_R, r_E, r_I, r_N, r_X, r_F, r_Fo, r_lc, r_fnr, r_fnn, r_fne, r_tk,
  r_bT, r_bsN, r_bsC, r_bsK, r_bN, r_IB, r_addI, r_sub, r_neg, r_not, r_min, r_max, r_lenL, r_lenT, r_eqS, r_neS, r_eqI, r_neI, r_slL, r_itS, r_itL, r_itT, r_enS, r_enL, r_zip, r_zipS, r_bs2, r_bs3, r_w0, r_w1, r_tyS, r_IxO, r_IxOo, r_St2, r_CallK, r_dSel, r_s0, r_sl, r_sr, Option.toList_some, and_self, if_true, if_false, Bool.false_eq_true,
  List.map_cons, List.map_nil, List.length_cons, List.length_nil, List.cons_append, List.nil_append, List.replicate, List.getElem?_cons_zero, List.getElem?_cons_succ, List.set_cons_zero, List.set_cons_succ, Option.map_some, Option.map_none, Nat.reduceAdd, Nat.reduceSub])
local macro_rules | `(tactic| walk_at "evs") => `(tactic| simp only [*, r_fn, r_mod, r_fdv, r_mulI, r_shl, r_shr, r_pow, r_rg1, r_rg2, r_tup, r_lst, r_ixS, r_ixL, r_ixT, r_slS, r_lenS, r_addS, r_addL, r_revS, r_Lno, decide_true, decide_false, Nat.le_refl, Nat.reduceLeDiff, Int.reduceLT, Int.reduceLE, Bool.not_true, Bool.not_false, Bool.and_true, Bool.true_and, Bool.and_self, r_Rz, r_RzP, r_Try, r_Tr, r_Tn, r_Te, r_Tk, r_CL, r_cl, r_at0, r_at1, r_at2, r_at3, r_at4, r_hA0, r_hBA0, r_hCA0, r_hA1, r_hA2, r_hBA2, r_hCA2, r_hA3, r_hBA3, r_hCA3, r_hA4, r_hBA4, r_hCA4, r_hA5, r_hBA5, r_hCA5, r_hA6, r_hBA6, r_hCA6, r_hA7, r_hBA7, r_hCA7, r_hA8, r_hBA8, r_hCA8, r_hA9, r_hBA9, r_hCA9, r_hA10, r_hBA10, r_hCA10, r_hA11, r_hBA11, r_hCA11, r_hA12, r_hBA12, r_hCA12, r_hA13, r_hBA13, r_hCA13, r_hA14, r_hBA14, r_hCA14, r_hBP, r_hCP, r_iRv, r_iRo, r_lofL, r_lofT, r_tofL, r_tofT, r_bits, r_tyL, r_eB, r_bnd, r_bo, r_be, r_eR, r_Rs, r_bin, r_un, r_c, r_v, r_vd, r_and, r_or, r_if, r_eA, r_eAo, r_eAe, r_eAD, r_eADo, r_eADe, r_eDk, r_CB, r_aN, r_aD, r_aDo, r_aDe, r_aO, r_aOo, r_cA, r_cAe, r_sv0, r_sv1,
  r_call, r_callo, r_calle, r_O0, r_O1, r_Sl, r_Ch, r_Ch3, r_kT', r_kF, r_M, r_Ln, r_Lns, r_Ix, r_Ixs, r_Nl, r_Nls, r_iD, r_iDo, r_iDe, r_iDj, r_iA, r_iAo, r_iAe, r_iAj, r_Q, r_Qn, r_Qr, r_Qb, r_Qc, r_Qe, r_B, r_Bo, r_Be, r_G, r_R, r_E, r_I, r_N, r_X, r_F, r_Fo, r_lc, r_fnr, r_fnn, r_fne, r_tk,
  r_bT, r_bsN, r_bsC, r_bsK, r_bN, r_IB, r_addI, r_sub, r_neg, r_not, r_min, r_max, r_lenL, r_lenT, r_eqS, r_neS, r_eqI, r_neI, r_slL, r_itS, r_itL, r_itT, r_enS, r_enL, r_zip, r_zipS, r_bs2, r_bs3, r_w0, r_w1, r_tyS, r_IxO, r_IxOo, r_St2, r_CallK, r_dSel, r_s0, r_sl, r_sr, Option.toList_some, and_self, if_true, if_false, Bool.false_eq_true,
  List.map_cons, List.map_nil, List.length_cons, List.length_nil, List.cons_append, List.nil_append, List.replicate, List.getElem?_cons_zero, List.getElem?_cons_succ, List.set_cons_zero, List.set_cons_succ, Option.map_some, Option.map_none, Nat.reduceAdd, Nat.reduceSub])
local macro_rules | `(tactic| walk_at "evr") => `(tactic| ((walk_at "evs") <;> rfl))
theorem sgn_u (b : Bool) : pEq (.str (tx [oc b])) (.str "u") = some (.bool !b) := by rw [lit_u, r_eqS]; cases b <;> rfl
theorem height_go (x0 : SV) (st : SE) : ∀ (w : List Bool) (s h lay : Nat) (x5 : Option SV), s < 2 ^ w.length → h < lay →
    ∃ a b c d, forGo (bN 5) lb_height_of_1 (w.map fun b => .str (tx [oc b])) [some x0, some (.d (.int (s : Int))), some (.d (.int ((2 ^ w.length : Nat) : Int))), some (.d (.int (h : Int))), some (.d (.int (lay : Int))), x5] st = some (.nx, [some x0, a, b, some (.d (.int ((hgt w s h lay : Nat) : Int))), c, d], st)
  | [], s, h, lay, x5, _, _ => ⟨_, _, _, _, rfl⟩
  | b :: r, s, h, lay, x5, hs, hh => by
    rw [List.length_cons, Nat.pow_succ] at hs
    have ih := height_go x0 st r
    have e2 : ((2 ^ r.length * 2 : Nat) : Int) / 2 = ((2 ^ r.length : Nat) : Int) := by omega
    have m1 : pMul (.int 2) (.int ((2 ^ r.length : Nat) : Int)) = some (.int ((2 * 2 ^ r.length : Nat) : Int)) := by rw [r_mulI (.inl (by decide))]; simp
    have m2 : pMul (.int 2) (.int (lay : Int)) = some (.int ((2 * lay : Nat) : Int)) := by rw [r_mulI (.inl (by decide))]; simp
    rw [List.length_cons, Nat.pow_succ, hgt_cons, List.map_cons]
    have hpos : 0 < 2 ^ r.length := Nat.pow_pos (by decide)
    generalize 2 ^ r.length = m at *
    have z1 := sgn_o b
    have z2 := sgn_u b
    unfold forGo
    rw [r_bN]
    dsimp only
    by_cases hc : m ≤ s
    · rw [if_pos hc]
      have d : decide ((s : Int) ≥ (m : Int)) = true := decide_eq_true (by omega)
      have a1 : ((2 * m : Nat) : Int) - 1 - (s : Int) = ((2 * m - 1 - s : Nat) : Int) := by omega
      have a2 : ((2 * lay : Nat) : Int) - 1 - (h : Int) = ((2 * lay - 1 - h : Nat) : Int) := by omega
      have a3 : (lay : Int) - 1 - (h : Int) = ((lay - 1 - h : Nat) : Int) := by omega
      have hb : lb_height_of_1 ([some x0, some (.d (.int (s : Int))), some (.d (.int ((m * 2 : Nat) : Int))), some (.d (.int (h : Int))), some (.d (.int (lay : Int))), x5].set 5 (some (.d (.str (tx [oc b]))))) st = some (.nx, [some x0, some (.d (.int ((2 * m - 1 - s : Nat) : Int))), some (.d (.int (m : Int))), some (.d (.int (((if b then 2 * lay - 1 - h else lay - 1 - h) : Nat) : Int))), some (.d (.int ((2 * lay : Nat) : Int))), some (.d (.str (tx [oc b])))], st) := by
        unfold lb_height_of_1
        clear ih hc
        cases b with
        | true => rw [if_pos rfl]; walk_at "evs"
        | false => rw [if_neg (by simp)]; walk_at "evs"
      rw [hb]
      dsimp only
      exact ih (2 * m - 1 - s) _ (2 * lay) _ (by omega) (by cases b <;> simp <;> omega)
    · rw [if_neg hc]
      have d : decide ((s : Int) ≥ (m : Int)) = false := decide_eq_false (by omega)
      have a1 : (lay : Int) + (h : Int) = ((lay + h : Nat) : Int) := by omega
      have hb : lb_height_of_1 ([some x0, some (.d (.int (s : Int))), some (.d (.int ((m * 2 : Nat) : Int))), some (.d (.int (h : Int))), some (.d (.int (lay : Int))), x5].set 5 (some (.d (.str (tx [oc b]))))) st = some (.nx, [some x0, some (.d (.int (s : Int))), some (.d (.int (m : Int))), some (.d (.int (((if b then h else lay + h) : Nat) : Int))), some (.d (.int ((2 * lay : Nat) : Int))), some (.d (.str (tx [oc b])))], st) := by
        unfold lb_height_of_1
        clear ih hc
        cases b with
        | true => rw [if_pos rfl]; rw [Bool.not_true] at z2; walk_at "evs"
        | false => rw [if_neg (by simp)]; rw [Bool.not_false] at z2; walk_at "evs"
      rw [hb]
      dsimp only
      exact ih s _ (2 * lay) _ (by omega) (by cases b <;> simp <;> omega)
theorem heightof_ok (w : List Bool) (s : Nat) (st : SE) (h : w.length ≤ 1000) (h1 : s < 2 ^ w.length) : dn_height_of [.d (.str (hs w)), .d (.int (s : Int))] st = some (.ok (.int ((HtL w.reverse s : Nat) : Int)), st) := by
  unfold dn_height_of sf_height_of
  obtain ⟨a, b, c, d, e⟩ := height_go (.d (.str (hs w))) st w s 0 1 none h1 (by decide)
  have hh := hgt_Ht w.reverse s (by rw [List.length_reverse]; exact h1)
  rw [List.reverse_reverse] at hh
  rw [hh, show ((0 : Nat) : Int) = 0 from rfl, show ((1 : Nat) : Int) = 1 from rfl] at e
  have e2 := long_ok w st (by omega)
  have it := it_hs w
  have t3 : pTup [.int ((2 ^ w.length : Nat) : Int), .int 0, .int 1] = some (.tuple [.int ((2 ^ w.length : Nat) : Int), .int 0, .int 1]) := rfl
  clear hh
  walk_at "evs"
theorem height_ok (w : List Bool) (s : Nat) (st : SE) (h : w.length ≤ 60) (h1 : s < 2 ^ w.length) : dn_height [.d (.str (hs w)), .d (.int (s : Int))] st = some (.ok (.int ((HtL w.reverse s : Nat) : Int)), st) := by
  unfold dn_height sf_height
  have e1 := needh_ok w st h
  have e2 := long_ok w st (by omega)
  have e3 := needp_ok w (s : Int) 0 (((2 ^ w.length : Nat) : Int) - 1) st h (by omega) (by omega)
  have e4 := heightof_ok w s st (by omega) h1
  walk_at "evs"
theorem segment_go (x0 : SV) (st : SE) : ∀ (l : List Bool) (seg h wide : Nat) (x5 x6 : Option SV), h < 2 ^ l.length → seg < wide →
    ∃ a b c d e, forGo (bN 5) lb_segment_of_1 (l.map fun b => .str (tx [oc b])) [some x0, some (.d (.int (h : Int))), some (.d (.int (seg : Int))), some (.d (.int ((2 ^ l.length : Nat) : Int))), some (.d (.int (wide : Int))), x5, x6] st = some (.nx, [some x0, a, some (.d (.int ((sgm l seg h wide : Nat) : Int))), b, c, d, e], st)
  | [], seg, h, wide, x5, x6, _, _ => ⟨_, _, _, _, _, rfl⟩
  | b :: r, seg, h, wide, x5, x6, hs, hh => by
    rw [List.length_cons, Nat.pow_succ] at hs
    have ih := segment_go x0 st r
    have e2 : ((2 ^ r.length * 2 : Nat) : Int) / 2 = ((2 ^ r.length : Nat) : Int) := by omega
    have m1 : pMul (.int 2) (.int ((2 ^ r.length : Nat) : Int)) = some (.int ((2 * 2 ^ r.length : Nat) : Int)) := by rw [r_mulI (.inl (by decide))]; simp
    have m2 : pMul (.int 2) (.int (wide : Int)) = some (.int ((2 * wide : Nat) : Int)) := by rw [r_mulI (.inl (by decide))]; simp
    rw [List.length_cons, Nat.pow_succ, sgm_cons, List.map_cons]
    have hpos : 0 < 2 ^ r.length := Nat.pow_pos (by decide)
    generalize 2 ^ r.length = m at *
    have z1 := sgn_o b
    have z2 := sgn_u b
    unfold forGo
    rw [r_bN]
    dsimp only
    by_cases hc : (if b then m ≤ h else h < m)
    · rw [if_pos hc]
      have a1 : ((2 * wide : Nat) : Int) - 1 - (seg : Int) = ((2 * wide - 1 - seg : Nat) : Int) := by omega
      have hb : lb_segment_of_1 ([some x0, some (.d (.int (h : Int))), some (.d (.int (seg : Int))), some (.d (.int ((m * 2 : Nat) : Int))), some (.d (.int (wide : Int))), x5, x6].set 5 (some (.d (.str (tx [oc b]))))) st = some (.nx, [some x0, some (.d (.int (((if b then 2 * m - 1 - h else m - 1 - h) : Nat) : Int))), some (.d (.int ((2 * wide - 1 - seg : Nat) : Int))), some (.d (.int (m : Int))), some (.d (.int ((2 * wide : Nat) : Int))), some (.d (.str (tx [oc b]))), some (.d (.bool true))], st) := by
        unfold lb_segment_of_1
        clear ih
        cases b with
        | true =>
          rw [if_pos rfl] at hc
          have d : decide ((h : Int) ≥ (m : Int)) = true := decide_eq_true (by omega)
          have a2 : ((2 * m : Nat) : Int) - 1 - (h : Int) = ((2 * m - 1 - h : Nat) : Int) := by omega
          clear hc
          rw [if_pos rfl]; walk_at "evs"
        | false =>
          rw [if_neg (by simp)] at hc
          have d : decide ((h : Int) < (m : Int)) = true := decide_eq_true (by omega)
          have a2 : (m : Int) - 1 - (h : Int) = ((m - 1 - h : Nat) : Int) := by omega
          clear hc
          rw [if_neg (by simp)]; walk_at "evs"
      rw [hb]
      dsimp only
      exact ih _ _ (2 * wide) _ _ (by cases b <;> simp at hc ⊢ <;> omega) (by omega)
    · rw [if_neg hc]
      have hb : lb_segment_of_1 ([some x0, some (.d (.int (h : Int))), some (.d (.int (seg : Int))), some (.d (.int ((m * 2 : Nat) : Int))), some (.d (.int (wide : Int))), x5, x6].set 5 (some (.d (.str (tx [oc b]))))) st = some (.nx, [some x0, some (.d (.int (((if b then h else h - m) : Nat) : Int))), some (.d (.int (seg : Int))), some (.d (.int (m : Int))), some (.d (.int ((2 * wide : Nat) : Int))), some (.d (.str (tx [oc b]))), some (.d (.bool false))], st) := by
        unfold lb_segment_of_1
        clear ih
        cases b with
        | true =>
          rw [if_pos rfl] at hc
          have d : decide ((h : Int) ≥ (m : Int)) = false := decide_eq_false (by omega)
          clear hc
          rw [Bool.not_true] at z2
          rw [if_pos rfl]; walk_at "evs"
        | false =>
          rw [if_neg (by simp)] at hc
          have d : decide ((h : Int) < (m : Int)) = false := decide_eq_false (by omega)
          have a2 : (h : Int) - (m : Int) = ((h - m : Nat) : Int) := by omega
          clear hc
          rw [Bool.not_false] at z2
          rw [if_neg (by simp)]; walk_at "evs"
      rw [hb]
      dsimp only
      exact ih _ _ (2 * wide) _ _ (by cases b <;> simp at hc ⊢ <;> omega) (by omega)
theorem segmentof_ok (w : List Bool) (s : Nat) (st : SE) (h : w.length ≤ 1000) (h1 : s < 2 ^ w.length) : dn_segment_of [.d (.str (hs w)), .d (.int (s : Int))] st = some (.ok (.int ((SgL w.reverse s : Nat) : Int)), st) := by
  unfold dn_segment_of sf_segment_of
  obtain ⟨a, b, c, d, e', e⟩ := segment_go (.d (.str (hs w))) st w.reverse 0 s 1 none none (by rw [List.length_reverse]; exact h1) (by decide)
  rw [sgm_Sg, List.length_reverse, show ((0 : Nat) : Int) = 0 from rfl, show ((1 : Nat) : Int) = 1 from rfl] at e
  have e2 := long_ok w st (by omega)
  have rv := rev_hs w (by omega)
  have it := it_hs w.reverse
  have t3 : pTup [.int 0, .int ((2 ^ w.length : Nat) : Int), .int 1] = some (.tuple [.int 0, .int ((2 ^ w.length : Nat) : Int), .int 1]) := rfl
  walk_at "evs"
theorem segmentat_ok (w : List Bool) (s : Nat) (st : SE) (h : w.length ≤ 60) (h1 : s < 2 ^ w.length) : dn_segment_at [.d (.str (hs w)), .d (.int (s : Int))] st = some (.ok (.int ((SgL w.reverse s : Nat) : Int)), st) := by
  unfold dn_segment_at sf_segment_at
  have e1 := needh_ok w st h
  have e2 := long_ok w st (by omega)
  have e3 := needp_ok w (s : Int) 0 (((2 ^ w.length : Nat) : Int) - 1) st h (by omega) (by omega)
  have e4 := segmentof_ok w s st (by omega) h1
  walk_at "evs"
theorem upright_ok (w : List Bool) (s : Nat) (st : SE) (h : w.length ≤ 60) (h1 : s < 2 ^ w.length) : dn_upright [.d (.str (hs w)), .d (.int (s : Int))] st = some (.ok (.bool (decide ((s : Int) % 2 = 0))), st) := by
  unfold dn_upright sf_upright
  have e1 := needh_ok w st h
  have e2 := long_ok w st (by omega)
  have e3 := needp_ok w (s : Int) 0 (((2 ^ w.length : Nat) : Int) - 1) st h (by omega) (by omega)
  walk_at "evs"
theorem between_ok (w : List Bool) (s t : Nat) (st : SE) (h : w.length ≤ 60) (h1 : s < 2 ^ w.length) (h2 : t < 2 ^ w.length) : dn_between [.d (.str (hs w)), .d (.int (s : Int)), .d (.int (t : Int))] st = some (.ok (.int (max 0 ((if ((HtL w.reverse s : Nat) : Int) - ((HtL w.reverse t : Nat) : Int) < 0 then -(((HtL w.reverse s : Nat) : Int) - ((HtL w.reverse t : Nat) : Int)) else ((HtL w.reverse s : Nat) : Int) - ((HtL w.reverse t : Nat) : Int)) - 1))), st) := by
  unfold dn_between sf_between
  have e1 := needh_ok w st h
  have e2 := long_ok w st (by omega)
  have e3 := needp_ok w (s : Int) 0 (((2 ^ w.length : Nat) : Int) - 1) st h (by omega) (by omega)
  have e4 := needp_ok w (t : Int) 0 (((2 ^ w.length : Nat) : Int) - 1) st h (by omega) (by omega)
  have e5 := heightof_ok w s st (by omega) h1
  have e6 := heightof_ok w t st (by omega) h2
  have ab : ∀ x : Int, pAbs [.int x] = some (.int (if x < 0 then -x else x)) := fun _ => rfl
  walk_at "evs"
end DL
set_option autoImplicit false
namespace DL
open PySem PySem.Spec PyProof.Rows L2
local macro_rules | `(tactic| walk_at "ev") => `(tactic| simp only [r_fn, r_Rz, r_RzP, r_Try, r_Tr, r_Tn, r_Te, r_Tk, r_CL, r_cl, r_at0, r_at1, r_at2, r_at3, r_at4, r_hA0, r_hBA0, r_hCA0, r_hA1, r_hA2, r_hBA2, r_hCA2, r_hA3, r_hBA3, r_hCA3, r_hA4, r_hBA4, r_hCA4, r_hA5, r_hBA5, r_hCA5, r_hA6, r_hBA6, r_hCA6, r_hA7, r_hBA7, r_hCA7, r_hA8, r_hBA8, r_hCA8, r_hA9, r_hBA9, r_hCA9, r_hA10, r_hBA10, r_hCA10, r_hA11, r_hBA11, r_hCA11, r_hA12, r_hBA12, r_hCA12, r_hA13, r_hBA13, r_hCA13, r_hA14, r_hBA14, r_hCA14, r_hBP, r_hCP, r_iRv, r_iRo, r_lofL, r_lofT, r_tofL, r_tofT, r_bits, r_tyL, r_eB, r_bnd, r_bo, r_be, r_eR, r_Rs, r_bin, r_un, r_c, r_v, r_vd, r_and, r_or, r_if, r_eA, r_eAo, r_eAe, r_eAD, r_eADo, r_eADe, r_eDk, r_CB, r_aN, r_aD, r_aDo, r_aDe, r_aO, r_aOo, r_cA, r_cAe, r_sv0, r_sv1,
  r_call, r_callo, r_calle, r_O0, r_O1, r_Sl, r_Ch, r_Ch3, r_kT', r_kF, r_M, r_Ln, r_Lns, r_Ix, r_Ixs, r_Nl, r_Nls, r_iD, r_iDo, r_iDe, r_iDj, r_iA, r_iAo, r_iAe, r_iAj, r_Q, r_Qn, r_Qr, r_Qb, r_Qc, r_Qe, r_B, r_Bo, r_Be, r_G, r_R, r_E, r_I, r_N, r_X, r_F, r_Fo, r_lc, r_fnr, r_fnn, r_fne, r_tk,
  r_bT, r_bsN, r_bsC, r_bsK, r_bN, r_IB, r_addI, r_sub, r_neg, r_not, r_min, r_max, r_lenL, r_lenT, r_eqS, r_neS, r_eqI, r_neI, r_slL, r_itS, r_itL, r_itT, r_enS, r_enL, r_zip, r_zipS, r_bs2, r_bs3, r_w0, r_w1, r_tyS, r_IxO, r_IxOo, r_St2, r_CallK, r_dSel, r_s0, r_sl, r_sr, Option.toList_some, and_self, if_true, if_false, Bool.false_eq_true,
  List.map_cons, List.map_nil, List.length_cons, List.length_nil, List.cons_append, List.nil_append, List.replicate, List.getElem?_cons_zero, List.getElem?_cons_succ, List.set_cons_zero, List.set_cons_succ, Option.map_some, Option.map_none, Nat.reduceAdd, Nat.reduceSub])
local macro_rules | `(tactic| walk_at "evs") => `(tactic| simp only [*, r_fn, r_mod, r_fdv, r_mulI, r_shl, r_shr, r_pow, r_rg1, r_rg2, r_tup, r_lst, r_ixS, r_ixL, r_ixT, r_slS, r_lenS, r_addS, r_addL, r_revS, r_Lno, decide_true, decide_false, Nat.le_refl, Nat.reduceLeDiff, Int.reduceLT, Int.reduceLE, Bool.not_true, Bool.not_false, Bool.and_true, Bool.true_and, Bool.and_self, r_Rz, r_RzP, r_Try, r_Tr, r_Tn, r_Te, r_Tk, r_CL, r_cl, r_at0, r_at1, r_at2, r_at3, r_at4, r_hA0, r_hBA0, r_hCA0, r_hA1, r_hA2, r_hBA2, r_hCA2, r_hA3, r_hBA3, r_hCA3, r_hA4, r_hBA4, r_hCA4, r_hA5, r_hBA5, r_hCA5, r_hA6, r_hBA6, r_hCA6, r_hA7, r_hBA7, r_hCA7, r_hA8, r_hBA8, r_hCA8, r_hA9, r_hBA9, r_hCA9, r_hA10, r_hBA10, r_hCA10, r_hA11, r_hBA11, r_hCA11, r_hA12, r_hBA12, r_hCA12, r_hA13, r_hBA13, r_hCA13, r_hA14, r_hBA14, r_hCA14, r_hBP, r_hCP, r_iRv, r_iRo, r_lofL, r_lofT, r_tofL, r_tofT, r_bits, r_tyL, r_eB, r_bnd, r_bo, r_be, r_eR, r_Rs, r_bin, r_un, r_c, r_v, r_vd, r_and, r_or, r_if, r_eA, r_eAo, r_eAe, r_eAD, r_eADo, r_eADe, r_eDk, r_CB, r_aN, r_aD, r_aDo, r_aDe, r_aO, r_aOo, r_cA, r_cAe, r_sv0, r_sv1,
  r_call, r_callo, r_calle, r_O0, r_O1, r_Sl, r_Ch, r_Ch3, r_kT', r_kF, r_M, r_Ln, r_Lns, r_Ix, r_Ixs, r_Nl, r_Nls, r_iD, r_iDo, r_iDe, r_iDj, r_iA, r_iAo, r_iAe, r_iAj, r_Q, r_Qn, r_Qr, r_Qb, r_Qc, r_Qe, r_B, r_Bo, r_Be, r_G, r_R, r_E, r_I, r_N, r_X, r_F, r_Fo, r_lc, r_fnr, r_fnn, r_fne, r_tk,
  r_bT, r_bsN, r_bsC, r_bsK, r_bN, r_IB, r_addI, r_sub, r_neg, r_not, r_min, r_max, r_lenL, r_lenT, r_eqS, r_neS, r_eqI, r_neI, r_slL, r_itS, r_itL, r_itT, r_enS, r_enL, r_zip, r_zipS, r_bs2, r_bs3, r_w0, r_w1, r_tyS, r_IxO, r_IxOo, r_St2, r_CallK, r_dSel, r_s0, r_sl, r_sr, Option.toList_some, and_self, if_true, if_false, Bool.false_eq_true,
  List.map_cons, List.map_nil, List.length_cons, List.length_nil, List.cons_append, List.nil_append, List.replicate, List.getElem?_cons_zero, List.getElem?_cons_succ, List.set_cons_zero, List.set_cons_succ, Option.map_some, Option.map_none, Nat.reduceAdd, Nat.reduceSub])
local macro_rules | `(tactic| walk_at "evr") => `(tactic| ((walk_at "evs") <;> rfl))
/-! ### ways that turn by thirds -/
def dir3 (k : Int) : Pt := if k % 3 = 0 then (1, 0) else if k % 3 = 1 then (0, 1) else (-1, -1)
def trL (l : List Bool) : Nat → Pt
  | 0 => (0, 0)
  | t + 1 => addP (trL l t) (dir3 (tn l t))
def swg (b : Bool) (z : Pt) : Pt := if b then (z.2, z.2 - z.1) else (z.1 - z.2, z.1)
theorem dir3_cases (k : Int) : k % 3 = 0 ∨ k % 3 = 1 ∨ k % 3 = 2 := by omega
theorem swg_dir (b : Bool) (k : Int) : dir3 (k + (if b then 1 else -1)) = (0 - (swg b (dir3 k)).1, 0 - (swg b (dir3 k)).2) := by
  rcases dir3_cases k with h | h | h <;> cases b
  · have : (k + -1) % 3 = 2 := by omega
    simp [dir3, h, this, swg]
  · have : (k + 1) % 3 = 1 := by omega
    simp [dir3, h, this, swg]
  · have : (k + -1) % 3 = 0 := by omega
    simp [dir3, h, this, swg]
  · have : (k + 1) % 3 = 2 := by omega
    simp [dir3, h, this, swg]
  · have : (k + -1) % 3 = 1 := by omega
    simp [dir3, h, this, swg]
  · have : (k + 1) % 3 = 0 := by omega
    simp [dir3, h, this, swg]
theorem trL_A (l : List Bool) (b : Bool) : ∀ t : Nat, t ≤ 2 ^ l.length → trL (l ++ [b]) t = trL l t
  | 0, _ => rfl
  | t + 1, h => by
    show addP (trL (l ++ [b]) t) (dir3 (tn (l ++ [b]) t)) = addP (trL l t) (dir3 (tn l t))
    rw [trL_A l b t (by omega), tn_A l b t (by omega)]
theorem trL_right (l : List Bool) (b : Bool) : ∀ t : Nat, t ≤ 2 ^ l.length → trL (l ++ [b]) (2 ^ l.length + t) = addP (trL l (2 ^ l.length)) (swg b ((trL l (2 ^ l.length - t)).1 - (trL l (2 ^ l.length)).1, (trL l (2 ^ l.length - t)).2 - (trL l (2 ^ l.length)).2))
  | 0, _ => by
    rw [Nat.add_zero, Nat.sub_zero, trL_A l b _ (Nat.le_refl _)]
    cases b <;> simp [addP, swg]
  | t + 1, h => by
    have ih := trL_right l b t (by omega)
    have s1 : trL (l ++ [b]) (2 ^ l.length + (t + 1)) = addP (trL (l ++ [b]) (2 ^ l.length + t)) (dir3 (tn (l ++ [b]) (2 ^ l.length + t))) := rfl
    have s2 : trL l (2 ^ l.length - (t + 1) + 1) = addP (trL l (2 ^ l.length - (t + 1))) (dir3 (tn l (2 ^ l.length - (t + 1)))) := rfl
    rw [show 2 ^ l.length - (t + 1) + 1 = 2 ^ l.length - t by omega] at s2
    rw [tn_right l b t (by omega), show 2 ^ l.length - 1 - t = 2 ^ l.length - (t + 1) by omega, swg_dir, ih, s2] at s1
    rw [s1]
    generalize trL l (2 ^ l.length - (t + 1)) = A
    generalize trL l (2 ^ l.length) = M
    generalize dir3 (tn l (2 ^ l.length - (t + 1))) = D
    cases b <;> simp [addP, swg] <;> constructor <;> omega
end DL
set_option autoImplicit false
namespace DL
open PySem PySem.Spec PyProof.Rows L2
local macro_rules | `(tactic| walk_at "ev") => `(tactic| simp only [r_fn, r_Rz, r_RzP, r_Try, r_Tr, r_Tn, r_Te, r_Tk, r_CL, r_cl, r_at0, r_at1, r_at2, r_at3, r_at4, r_hA0, r_hBA0, r_hCA0, r_hA1, r_hA2, r_hBA2, r_hCA2, r_hA3, r_hBA3, r_hCA3, r_hA4, r_hBA4, r_hCA4, r_hA5, r_hBA5, r_hCA5, r_hA6, r_hBA6, r_hCA6, r_hA7, r_hBA7, r_hCA7, r_hA8, r_hBA8, r_hCA8, r_hA9, r_hBA9, r_hCA9, r_hA10, r_hBA10, r_hCA10, r_hA11, r_hBA11, r_hCA11, r_hA12, r_hBA12, r_hCA12, r_hA13, r_hBA13, r_hCA13, r_hA14, r_hBA14, r_hCA14, r_hBP, r_hCP, r_iRv, r_iRo, r_lofL, r_lofT, r_tofL, r_tofT, r_bits, r_tyL, r_eB, r_bnd, r_bo, r_be, r_eR, r_Rs, r_bin, r_un, r_c, r_v, r_vd, r_and, r_or, r_if, r_eA, r_eAo, r_eAe, r_eAD, r_eADo, r_eADe, r_eDk, r_CB, r_aN, r_aD, r_aDo, r_aDe, r_aO, r_aOo, r_cA, r_cAe, r_sv0, r_sv1,
  r_call, r_callo, r_calle, r_O0, r_O1, r_Sl, r_Ch, r_Ch3, r_kT', r_kF, r_M, r_Ln, r_Lns, r_Ix, r_Ixs, r_Nl, r_Nls, r_iD, r_iDo, r_iDe, r_iDj, r_iA, r_iAo, r_iAe, r_iAj, r_Q, r_Qn, r_Qr, r_Qb, r_Qc, r_Qe, r_B, r_Bo, r_Be, r_G, r_R, r_E, r_I, r_N, r_X, r_F, r_Fo, r_lc, r_fnr, r_fnn, r_fne, r_tk,
  r_bT, r_bsN, r_bsC, r_bsK, r_bN, r_IB, r_addI, r_sub, r_neg, r_not, r_min, r_max, r_lenL, r_lenT, r_eqS, r_neS, r_eqI, r_neI, r_slL, r_itS, r_itL, r_itT, r_enS, r_enL, r_zip, r_zipS, r_bs2, r_bs3, r_w0, r_w1, r_tyS, r_IxO, r_IxOo, r_St2, r_CallK, r_dSel, r_s0, r_sl, r_sr, Option.toList_some, and_self, if_true, if_false, Bool.false_eq_true,
  List.map_cons, List.map_nil, List.length_cons, List.length_nil, List.cons_append, List.nil_append, List.replicate, List.getElem?_cons_zero, List.getElem?_cons_succ, List.set_cons_zero, List.set_cons_succ, Option.map_some, Option.map_none, Nat.reduceAdd, Nat.reduceSub])
local macro_rules | `(tactic| walk_at "evs") => `(tactic| simp only [*, r_fn, r_mod, r_fdv, r_mulI, r_shl, r_shr, r_pow, r_rg1, r_rg2, r_tup, r_lst, r_ixS, r_ixL, r_ixT, r_slS, r_lenS, r_addS, r_addL, r_revS, r_Lno, decide_true, decide_false, Nat.le_refl, Nat.reduceLeDiff, Int.reduceLT, Int.reduceLE, Bool.not_true, Bool.not_false, Bool.and_true, Bool.true_and, Bool.and_self, r_Rz, r_RzP, r_Try, r_Tr, r_Tn, r_Te, r_Tk, r_CL, r_cl, r_at0, r_at1, r_at2, r_at3, r_at4, r_hA0, r_hBA0, r_hCA0, r_hA1, r_hA2, r_hBA2, r_hCA2, r_hA3, r_hBA3, r_hCA3, r_hA4, r_hBA4, r_hCA4, r_hA5, r_hBA5, r_hCA5, r_hA6, r_hBA6, r_hCA6, r_hA7, r_hBA7, r_hCA7, r_hA8, r_hBA8, r_hCA8, r_hA9, r_hBA9, r_hCA9, r_hA10, r_hBA10, r_hCA10, r_hA11, r_hBA11, r_hCA11, r_hA12, r_hBA12, r_hCA12, r_hA13, r_hBA13, r_hCA13, r_hA14, r_hBA14, r_hCA14, r_hBP, r_hCP, r_iRv, r_iRo, r_lofL, r_lofT, r_tofL, r_tofT, r_bits, r_tyL, r_eB, r_bnd, r_bo, r_be, r_eR, r_Rs, r_bin, r_un, r_c, r_v, r_vd, r_and, r_or, r_if, r_eA, r_eAo, r_eAe, r_eAD, r_eADo, r_eADe, r_eDk, r_CB, r_aN, r_aD, r_aDo, r_aDe, r_aO, r_aOo, r_cA, r_cAe, r_sv0, r_sv1,
  r_call, r_callo, r_calle, r_O0, r_O1, r_Sl, r_Ch, r_Ch3, r_kT', r_kF, r_M, r_Ln, r_Lns, r_Ix, r_Ixs, r_Nl, r_Nls, r_iD, r_iDo, r_iDe, r_iDj, r_iA, r_iAo, r_iAe, r_iAj, r_Q, r_Qn, r_Qr, r_Qb, r_Qc, r_Qe, r_B, r_Bo, r_Be, r_G, r_R, r_E, r_I, r_N, r_X, r_F, r_Fo, r_lc, r_fnr, r_fnn, r_fne, r_tk,
  r_bT, r_bsN, r_bsC, r_bsK, r_bN, r_IB, r_addI, r_sub, r_neg, r_not, r_min, r_max, r_lenL, r_lenT, r_eqS, r_neS, r_eqI, r_neI, r_slL, r_itS, r_itL, r_itT, r_enS, r_enL, r_zip, r_zipS, r_bs2, r_bs3, r_w0, r_w1, r_tyS, r_IxO, r_IxOo, r_St2, r_CallK, r_dSel, r_s0, r_sl, r_sr, Option.toList_some, and_self, if_true, if_false, Bool.false_eq_true,
  List.map_cons, List.map_nil, List.length_cons, List.length_nil, List.cons_append, List.nil_append, List.replicate, List.getElem?_cons_zero, List.getElem?_cons_succ, List.set_cons_zero, List.set_cons_succ, Option.map_some, Option.map_none, Nat.reduceAdd, Nat.reduceSub])
local macro_rules | `(tactic| walk_at "evr") => `(tactic| ((walk_at "evs") <;> rfl))
def swP (b : Bool) (m z : Pt) : Pt := addP m (swg b (z.1 - m.1, z.2 - m.2))
theorem swung_ok (b : Bool) (m z : Pt) (st : SE) : dn_swung [.d (.str (tx [oc b])), .d (pd m), .d (pd z)] st = some (.ok (pd (swP b m z)), st) := by
  unfold dn_swung sf_swung
  have z1 := sgn_o b
  have m0 := pd0 m
  have m1 := pd1 m
  have a0 := pd0 z
  have a1 := pd1 z
  cases b with
  | true =>
    have e : pd (swP true m z) = .tuple [.int (m.1 + (z.2 - m.2)), .int (m.2 + (z.2 - m.2 - (z.1 - m.1)))] := rfl
    rw [e]
    clear e
    walk_at "evs"
  | false =>
    have e : pd (swP false m z) = .tuple [.int (m.1 + (z.1 - m.1 - (z.2 - m.2))), .int (m.2 + (z.1 - m.1))] := rfl
    rw [e]
    clear e
    walk_at "evs"
/-- the last point of the strip of these letters, the letters from the last one -/
def e3 (l : List Bool) : Pt := trL l (2 ^ l.length)
theorem e3_snoc (l : List Bool) (b : Bool) : e3 (l ++ [b]) = swP b (e3 l) (0, 0) := by
  unfold e3 swP
  have h := trL_right l b (2 ^ l.length) (Nat.le_refl _)
  rw [Nat.sub_self, ← Nat.two_mul] at h
  rw [List.length_append, List.length_singleton, Nat.pow_succ, Nat.mul_comm, h]
  rfl
theorem e3_nil : e3 [] = (1, 0) := rfl
theorem tr_split (r : List Bool) (b : Bool) (s : Nat) (h : s ≤ 2 * 2 ^ r.length) : trL (b :: r).reverse s = if 2 ^ r.length < s then swP b (e3 r.reverse) (trL r.reverse (2 * 2 ^ r.length - s)) else trL r.reverse s := by
  have hr : r.reverse.length = r.length := List.length_reverse
  rw [List.reverse_cons]
  by_cases hc : 2 ^ r.length < s
  · have e := trL_right r.reverse b (s - 2 ^ r.length) (by rw [hr]; omega)
    rw [hr, show 2 ^ r.length + (s - 2 ^ r.length) = s by omega, show 2 ^ r.length - (s - 2 ^ r.length) = 2 * 2 ^ r.length - s by omega] at e
    rw [if_pos hc, e]
    unfold swP e3
    rw [hr]
  · rw [if_neg hc, trL_A r.reverse b s (by rw [hr]; omega)]
theorem endsof_ok (w : List Bool) (st : SE) (h : w.length ≤ 1000) : dn_ends_of [.d (.str (hs w))] st = some (.ok (.list ((List.range (w.length + 1)).map fun j => pd (e3 (w.reverse.take j)))), st) := by
  unfold dn_ends_of sf_ends_of
  have rv := rev_hs w (by omega)
  have hl : w.reverse.length = w.length := List.length_reverse
  have it := it_hs w.reverse
  generalize w.reverse = l at *
  obtain ⟨dl', st', e, hI⟩ := forGo_inv (bd := bN 2) (body := lb_ends_of_1) (fun i dl s => s = st ++ [.l ((List.range (i + 1)).map fun j => pd (e3 (l.take j)))] ∧ ∃ (x2 : Option SV), dl = [some (.d (.str (hs w))), some (.o st.length), x2])
    (l.map fun b => .str (tx [oc b])) 0 [some (.d (.str (hs w))), some (.o st.length), none] (st ++ [.l ((List.range (0 + 1)).map fun j => pd (e3 (l.take j)))]) ⟨rfl, none, rfl⟩ (fun j z dl s ej hI => by
      obtain ⟨rfl, x2, rfl⟩ := hI
      rw [Nat.zero_add]
      rw [List.getElem?_map] at ej
      cases hv : l[j]? with
      | none => rw [hv] at ej; cases ej
      | some b =>
        rw [hv] at ej
        cases ej
        have hjl : j < l.length := (List.getElem?_eq_some_iff.mp hv).1
        have ht : l.take (j + 1) = l.take j ++ [b] := by rw [List.take_add_one, hv]; rfl
        have sw := swung_ok b (e3 (l.take j)) (0, 0) (st ++ [.l ((List.range (j + 1)).map fun j => pd (e3 (l.take j)))])
        rw [← e3_snoc, ← ht] at sw
        have z0 : pd (0, 0) = .tuple [.int 0, .int 0] := rfl
        rw [z0] at sw
        clear z0
        have gs1 : (st ++ [Ob.l ((List.range (j + 1)).map fun j => pd (e3 (l.take j)))])[st.length]? = some (.l ((List.range (j + 1)).map fun j => pd (e3 (l.take j)))) := by simp
        have al : atI ((List.range (j + 1)).map fun j => pd (e3 (l.take j))) (-1) = some (pd (e3 (l.take j))) := by
          rw [List.range_succ, List.map_append]
          exact atI_last _ _
        refine ⟨_, [some (.d (.str (hs w))), some (.o st.length), some (.d (.str (tx [oc b])))], _, rfl, ?_, rfl, _, rfl⟩
        unfold lb_ends_of_1
        rw [r_Ap (j := st.length) (ys := (List.range (j + 1)).map fun j => pd (e3 (l.take j))) (xs := (List.range (j + 1)).map fun j => pd (e3 (l.take j))) (d := pd (e3 (l.take (j + 1)))) (st1 := st ++ [.l ((List.range (j + 1)).map fun j => pd (e3 (l.take j)))]) rfl gs1 (by
          clear ht hv it rv
          walk_at "evs") gs1 (by simp; omega)]
        congr 2
        rw [List.set_append_right _ _ (Nat.le_refl _), Nat.sub_self, List.range_succ (n := j + 1), List.map_append]
        rfl)
  obtain ⟨rfl, x2, rfl⟩ := hI
  simp only [List.length_map, hl, Nat.zero_add] at e
  have nw : sNw 1 (aD (eCB pTup (aD (eC (.int 1)) (aD (eC (.int 0)) aN))) aN) [some (.d (.str (hs w))), none, none] st = some (.nx, [some (.d (.str (hs w))), some (.o st.length), none], st ++ [.l ((List.range 1).map fun j => pd (e3 (l.take j)))]) := rfl
  have fz := r_Fz (i := 1) (j := st.length) (xs := (List.range (w.length + 1)).map fun j => pd (e3 (l.take j))) (f := sR (eV 1)) (dl := [some (.d (.str (hs w))), some (.o st.length), x2]) (st := st ++ [.l ((List.range (w.length + 1)).map fun j => pd (e3 (l.take j)))]) rfl (by simp)
  have tk : List.take st.length (List.set (st ++ [Ob.l ((List.range (w.length + 1)).map fun j => pd (e3 (l.take j)))]) st.length Ob.dead) = st := by
    rw [List.set_append_right _ _ (Nat.le_refl _)]
    simp
  clear hl
  walk_at "evs"
end DL
set_option autoImplicit false
namespace DL
open PySem PySem.Spec PyProof.Rows L2
local macro_rules | `(tactic| walk_at "ev") => `(tactic| simp only [r_fn, r_Rz, r_RzP, r_Try, r_Tr, r_Tn, r_Te, r_Tk, r_CL, r_cl, r_at0, r_at1, r_at2, r_at3, r_at4, r_hA0, r_hBA0, r_hCA0, r_hA1, r_hA2, r_hBA2, r_hCA2, r_hA3, r_hBA3, r_hCA3, r_hA4, r_hBA4, r_hCA4, r_hA5, r_hBA5, r_hCA5, r_hA6, r_hBA6, r_hCA6, r_hA7, r_hBA7, r_hCA7, r_hA8, r_hBA8, r_hCA8, r_hA9, r_hBA9, r_hCA9, r_hA10, r_hBA10, r_hCA10, r_hA11, r_hBA11, r_hCA11, r_hA12, r_hBA12, r_hCA12, r_hA13, r_hBA13, r_hCA13, r_hA14, r_hBA14, r_hCA14, r_hBP, r_hCP, r_iRv, r_iRo, r_lofL, r_lofT, r_tofL, r_tofT, r_bits, r_tyL, r_eB, r_bnd, r_bo, r_be, r_eR, r_Rs, r_bin, r_un, r_c, r_v, r_vd, r_and, r_or, r_if, r_eA, r_eAo, r_eAe, r_eAD, r_eADo, r_eADe, r_eDk, r_CB, r_aN, r_aD, r_aDo, r_aDe, r_aO, r_aOo, r_cA, r_cAe, r_sv0, r_sv1,
  r_call, r_callo, r_calle, r_O0, r_O1, r_Sl, r_Ch, r_Ch3, r_kT', r_kF, r_M, r_Ln, r_Lns, r_Ix, r_Ixs, r_Nl, r_Nls, r_iD, r_iDo, r_iDe, r_iDj, r_iA, r_iAo, r_iAe, r_iAj, r_Q, r_Qn, r_Qr, r_Qb, r_Qc, r_Qe, r_B, r_Bo, r_Be, r_G, r_R, r_E, r_I, r_N, r_X, r_F, r_Fo, r_lc, r_fnr, r_fnn, r_fne, r_tk,
  r_bT, r_bsN, r_bsC, r_bsK, r_bN, r_IB, r_addI, r_sub, r_neg, r_not, r_min, r_max, r_lenL, r_lenT, r_eqS, r_neS, r_eqI, r_neI, r_slL, r_itS, r_itL, r_itT, r_enS, r_enL, r_zip, r_zipS, r_bs2, r_bs3, r_w0, r_w1, r_tyS, r_IxO, r_IxOo, r_St2, r_CallK, r_dSel, r_s0, r_sl, r_sr, Option.toList_some, and_self, if_true, if_false, Bool.false_eq_true,
  List.map_cons, List.map_nil, List.length_cons, List.length_nil, List.cons_append, List.nil_append, List.replicate, List.getElem?_cons_zero, List.getElem?_cons_succ, List.set_cons_zero, List.set_cons_succ, Option.map_some, Option.map_none, Nat.reduceAdd, Nat.reduceSub])
local macro_rules | `(tactic| walk_at "evs") => `(tactic| simp only [*, r_fn, r_mod, r_fdv, r_mulI, r_shl, r_shr, r_pow, r_rg1, r_rg2, r_tup, r_lst, r_ixS, r_ixL, r_ixT, r_slS, r_lenS, r_addS, r_addL, r_revS, r_Lno, decide_true, decide_false, Nat.le_refl, Nat.reduceLeDiff, Int.reduceLT, Int.reduceLE, Bool.not_true, Bool.not_false, Bool.and_true, Bool.true_and, Bool.and_self, r_Rz, r_RzP, r_Try, r_Tr, r_Tn, r_Te, r_Tk, r_CL, r_cl, r_at0, r_at1, r_at2, r_at3, r_at4, r_hA0, r_hBA0, r_hCA0, r_hA1, r_hA2, r_hBA2, r_hCA2, r_hA3, r_hBA3, r_hCA3, r_hA4, r_hBA4, r_hCA4, r_hA5, r_hBA5, r_hCA5, r_hA6, r_hBA6, r_hCA6, r_hA7, r_hBA7, r_hCA7, r_hA8, r_hBA8, r_hCA8, r_hA9, r_hBA9, r_hCA9, r_hA10, r_hBA10, r_hCA10, r_hA11, r_hBA11, r_hCA11, r_hA12, r_hBA12, r_hCA12, r_hA13, r_hBA13, r_hCA13, r_hA14, r_hBA14, r_hCA14, r_hBP, r_hCP, r_iRv, r_iRo, r_lofL, r_lofT, r_tofL, r_tofT, r_bits, r_tyL, r_eB, r_bnd, r_bo, r_be, r_eR, r_Rs, r_bin, r_un, r_c, r_v, r_vd, r_and, r_or, r_if, r_eA, r_eAo, r_eAe, r_eAD, r_eADo, r_eADe, r_eDk, r_CB, r_aN, r_aD, r_aDo, r_aDe, r_aO, r_aOo, r_cA, r_cAe, r_sv0, r_sv1,
  r_call, r_callo, r_calle, r_O0, r_O1, r_Sl, r_Ch, r_Ch3, r_kT', r_kF, r_M, r_Ln, r_Lns, r_Ix, r_Ixs, r_Nl, r_Nls, r_iD, r_iDo, r_iDe, r_iDj, r_iA, r_iAo, r_iAe, r_iAj, r_Q, r_Qn, r_Qr, r_Qb, r_Qc, r_Qe, r_B, r_Bo, r_Be, r_G, r_R, r_E, r_I, r_N, r_X, r_F, r_Fo, r_lc, r_fnr, r_fnn, r_fne, r_tk,
  r_bT, r_bsN, r_bsC, r_bsK, r_bN, r_IB, r_addI, r_sub, r_neg, r_not, r_min, r_max, r_lenL, r_lenT, r_eqS, r_neS, r_eqI, r_neI, r_slL, r_itS, r_itL, r_itT, r_enS, r_enL, r_zip, r_zipS, r_bs2, r_bs3, r_w0, r_w1, r_tyS, r_IxO, r_IxOo, r_St2, r_CallK, r_dSel, r_s0, r_sl, r_sr, Option.toList_some, and_self, if_true, if_false, Bool.false_eq_true,
  List.map_cons, List.map_nil, List.length_cons, List.length_nil, List.cons_append, List.nil_append, List.replicate, List.getElem?_cons_zero, List.getElem?_cons_succ, List.set_cons_zero, List.set_cons_succ, Option.map_some, Option.map_none, Nat.reduceAdd, Nat.reduceSub])
local macro_rules | `(tactic| walk_at "evr") => `(tactic| ((walk_at "evs") <;> rfl))
def swE (p : Bool × Pt) : PyData := .tuple [.str (tx [oc p.1]), pd p.2]
theorem third_go (x0 : SV) (EL : List PyData) (st0 : SE) : ∀ (w : List Bool) (s : Nat) (acc : List PyData) (x5 x6 : Option SV), w.length ≤ 300 → s ≤ 2 ^ w.length → acc.length + w.length ≤ 10000 → (∀ k, k ≤ w.length → atI EL ((k : Nat) : Int) = some (pd (e3 (w.reverse.take k)))) →
    ∃ (L : List (Bool × Pt)) (s' : Nat) (y4 y5 y6 : Option SV), forGo (bN 5) lb_third_at_1 (w.map fun b => .str (tx [oc b])) [some x0, some (.d (.int (s : Int))), some (.d (.list EL)), some (.o st0.length), some (.d (.int (w.length : Int))), x5, x6, none, none] (st0 ++ [.l acc]) =
      some (.nx, [some x0, some (.d (.int (s' : Int))), some (.d (.list EL)), some (.o st0.length), y4, y5, y6, none, none], st0 ++ [.l (acc ++ L.map swE)]) ∧ L.foldr (fun p z => swP p.1 p.2 z) ((s' : Int), 0) = trL w.reverse s
  | [], s, acc, x5, x6, _, hs, _, _ => by
    refine ⟨[], s, some (.d (.int 0)), x5, x6, ?_, ?_⟩
    · simp [forGo]
    · have : s = 0 ∨ s = 1 := by simp at hs; omega
      rcases this with rfl | rfl <;> rfl
  | b :: r, s, acc, x5, x6, hl, hs, ha, hE => by
    rw [List.length_cons] at hl ha
    have hps : 2 ^ (b :: r).length = 2 * 2 ^ r.length := by rw [List.length_cons, Nat.pow_succ]; omega
    rw [hps] at hs
    have hrr : r.reverse.length = r.length := List.length_reverse
    have hE' : ∀ k, k ≤ r.length → atI EL ((k : Nat) : Int) = some (pd (e3 (r.reverse.take k))) := fun k hk => by
      rw [hE k (by rw [List.length_cons]; omega), List.reverse_cons, List.take_append_of_le_length (by omega)]
    have hEr := hE' r.length (Nat.le_refl _)
    rw [← hrr, List.take_length, hrr] at hEr
    have ix : pIx (.list EL) (.int (r.length : Int)) = some (pd (e3 r.reverse)) := hEr
    have ih := third_go x0 EL st0 r
    have a1 : (((b :: r).length : Nat) : Int) - 1 = (r.length : Int) := by rw [List.length_cons]; omega
    have sh := shl1 r.length (by omega)
    have m1 : pMul (.int 2) (.int ((2 ^ r.length : Nat) : Int)) = some (.int ((2 * 2 ^ r.length : Nat) : Int)) := by rw [r_mulI (.inl (by decide))]; simp
    rw [tr_split r b s hs, List.map_cons]
    have hpos : 0 < 2 ^ r.length := Nat.pow_pos (by decide)
    generalize (b :: r).length = LL at *
    unfold forGo
    rw [r_bN]
    dsimp only
    by_cases hc : 2 ^ r.length < s
    · have d : decide ((s : Int) > ((2 ^ r.length : Nat) : Int)) = true := decide_eq_true (by omega)
      have a2 : ((2 * 2 ^ r.length : Nat) : Int) - (s : Int) = ((2 * 2 ^ r.length - s : Nat) : Int) := by omega
      have ap := r_Ap (i := 3) (j := st0.length) (f := eCB pTup (aD (eV 5) (aD (eBin pIx (eV 2) (eV 4)) aN))) (dl := [some x0, some (.d (.int ((2 * 2 ^ r.length - s : Nat) : Int))), some (.d (.list EL)), some (.o st0.length), some (.d (.int (r.length : Int))), some (.d (.str (tx [oc b]))), some (.d (.int ((2 ^ r.length : Nat) : Int))), none, none]) (st := st0 ++ [.l acc]) (st1 := st0 ++ [.l acc]) (ys := acc) (xs := acc) (d := swE (b, e3 r.reverse)) rfl (by simp) (by
        have t : pTup [.str (tx [oc b]), pd (e3 r.reverse)] = some (swE (b, e3 r.reverse)) := rfl
        simp only [r_CB, r_aD, r_v, r_vd, r_aDo, r_bin, r_bo, r_eB, r_eR, ix, r_Rs, r_aN, r_cA, r_eADo, r_sv0, r_sv1, r_eDk, Option.map_some, t, List.getElem?_cons_zero, List.getElem?_cons_succ]) (by simp) (by omega)
      have se : (st0 ++ [Ob.l acc]).set st0.length (.l (acc ++ [swE (b, e3 r.reverse)])) = st0 ++ [.l (acc ++ [swE (b, e3 r.reverse)])] := by
        rw [List.set_append_right _ _ (Nat.le_refl _), Nat.sub_self]
        rfl
      rw [se] at ap
      have hb : lb_third_at_1 ([some x0, some (.d (.int (s : Int))), some (.d (.list EL)), some (.o st0.length), some (.d (.int (LL : Int))), x5, x6, none, none].set 5 (some (.d (.str (tx [oc b]))))) (st0 ++ [.l acc]) = some (.nx, [some x0, some (.d (.int ((2 * 2 ^ r.length - s : Nat) : Int))), some (.d (.list EL)), some (.o st0.length), some (.d (.int (r.length : Int))), some (.d (.str (tx [oc b]))), some (.d (.int ((2 ^ r.length : Nat) : Int))), none, none], st0 ++ [.l (acc ++ [swE (b, e3 r.reverse)])]) := by
        unfold lb_third_at_1
        clear ih hE hE' hEr ix se hps hc
        walk_at "evs"
      rw [hb]
      dsimp only
      obtain ⟨L, s', y4, y5, y6, e, hf⟩ := ih (2 * 2 ^ r.length - s) (acc ++ [swE (b, e3 r.reverse)]) (some (.d (.str (tx [oc b])))) (some (.d (.int ((2 ^ r.length : Nat) : Int)))) (by omega) (by omega) (by rw [List.length_append, List.length_singleton]; omega) hE'
      refine ⟨(b, e3 r.reverse) :: L, s', y4, y5, y6, ?_, ?_⟩
      · rw [e]
        simp
      · rw [List.foldr_cons, hf, if_pos hc]
    · have d : decide ((s : Int) > ((2 ^ r.length : Nat) : Int)) = false := decide_eq_false (by omega)
      have hb : lb_third_at_1 ([some x0, some (.d (.int (s : Int))), some (.d (.list EL)), some (.o st0.length), some (.d (.int (LL : Int))), x5, x6, none, none].set 5 (some (.d (.str (tx [oc b]))))) (st0 ++ [.l acc]) = some (.nx, [some x0, some (.d (.int (s : Int))), some (.d (.list EL)), some (.o st0.length), some (.d (.int (r.length : Int))), some (.d (.str (tx [oc b]))), some (.d (.int ((2 ^ r.length : Nat) : Int))), none, none], st0 ++ [.l acc]) := by
        unfold lb_third_at_1
        clear ih hE hE' hEr ix hps hc
        walk_at "evs"
      rw [hb]
      dsimp only
      obtain ⟨L, s', y4, y5, y6, e, hf⟩ := ih s acc (some (.d (.str (tx [oc b])))) (some (.d (.int ((2 ^ r.length : Nat) : Int)))) (by omega) (by omega) (by omega) hE'
      exact ⟨L, s', y4, y5, y6, e, by rw [hf, if_neg hc]⟩
end DL
set_option autoImplicit false
namespace DL
open PySem PySem.Spec PyProof.Rows L2
local macro_rules | `(tactic| walk_at "ev") => `(tactic| simp only [r_fn, r_Rz, r_RzP, r_Try, r_Tr, r_Tn, r_Te, r_Tk, r_CL, r_cl, r_at0, r_at1, r_at2, r_at3, r_at4, r_hA0, r_hBA0, r_hCA0, r_hA1, r_hA2, r_hBA2, r_hCA2, r_hA3, r_hBA3, r_hCA3, r_hA4, r_hBA4, r_hCA4, r_hA5, r_hBA5, r_hCA5, r_hA6, r_hBA6, r_hCA6, r_hA7, r_hBA7, r_hCA7, r_hA8, r_hBA8, r_hCA8, r_hA9, r_hBA9, r_hCA9, r_hA10, r_hBA10, r_hCA10, r_hA11, r_hBA11, r_hCA11, r_hA12, r_hBA12, r_hCA12, r_hA13, r_hBA13, r_hCA13, r_hA14, r_hBA14, r_hCA14, r_hBP, r_hCP, r_iRv, r_iRo, r_lofL, r_lofT, r_tofL, r_tofT, r_bits, r_tyL, r_eB, r_bnd, r_bo, r_be, r_eR, r_Rs, r_bin, r_un, r_c, r_v, r_vd, r_and, r_or, r_if, r_eA, r_eAo, r_eAe, r_eAD, r_eADo, r_eADe, r_eDk, r_CB, r_aN, r_aD, r_aDo, r_aDe, r_aO, r_aOo, r_cA, r_cAe, r_sv0, r_sv1,
  r_call, r_callo, r_calle, r_O0, r_O1, r_Sl, r_Ch, r_Ch3, r_kT', r_kF, r_M, r_Ln, r_Lns, r_Ix, r_Ixs, r_Nl, r_Nls, r_iD, r_iDo, r_iDe, r_iDj, r_iA, r_iAo, r_iAe, r_iAj, r_Q, r_Qn, r_Qr, r_Qb, r_Qc, r_Qe, r_B, r_Bo, r_Be, r_G, r_R, r_E, r_I, r_N, r_X, r_F, r_Fo, r_lc, r_fnr, r_fnn, r_fne, r_tk,
  r_bT, r_bsN, r_bsC, r_bsK, r_bN, r_IB, r_addI, r_sub, r_neg, r_not, r_min, r_max, r_lenL, r_lenT, r_eqS, r_neS, r_eqI, r_neI, r_slL, r_itS, r_itL, r_itT, r_enS, r_enL, r_zip, r_zipS, r_bs2, r_bs3, r_w0, r_w1, r_tyS, r_IxO, r_IxOo, r_St2, r_CallK, r_dSel, r_s0, r_sl, r_sr, Option.toList_some, and_self, if_true, if_false, Bool.false_eq_true,
  List.map_cons, List.map_nil, List.length_cons, List.length_nil, List.cons_append, List.nil_append, List.replicate, List.getElem?_cons_zero, List.getElem?_cons_succ, List.set_cons_zero, List.set_cons_succ, Option.map_some, Option.map_none, Nat.reduceAdd, Nat.reduceSub])
local macro_rules | `(tactic| walk_at "evs") => `(tactic| simp only [*, r_fn, r_mod, r_fdv, r_mulI, r_shl, r_shr, r_pow, r_rg1, r_rg2, r_tup, r_lst, r_ixS, r_ixL, r_ixT, r_slS, r_lenS, r_addS, r_addL, r_revS, r_Lno, decide_true, decide_false, Nat.le_refl, Nat.reduceLeDiff, Int.reduceLT, Int.reduceLE, Bool.not_true, Bool.not_false, Bool.and_true, Bool.true_and, Bool.and_self, r_Rz, r_RzP, r_Try, r_Tr, r_Tn, r_Te, r_Tk, r_CL, r_cl, r_at0, r_at1, r_at2, r_at3, r_at4, r_hA0, r_hBA0, r_hCA0, r_hA1, r_hA2, r_hBA2, r_hCA2, r_hA3, r_hBA3, r_hCA3, r_hA4, r_hBA4, r_hCA4, r_hA5, r_hBA5, r_hCA5, r_hA6, r_hBA6, r_hCA6, r_hA7, r_hBA7, r_hCA7, r_hA8, r_hBA8, r_hCA8, r_hA9, r_hBA9, r_hCA9, r_hA10, r_hBA10, r_hCA10, r_hA11, r_hBA11, r_hCA11, r_hA12, r_hBA12, r_hCA12, r_hA13, r_hBA13, r_hCA13, r_hA14, r_hBA14, r_hCA14, r_hBP, r_hCP, r_iRv, r_iRo, r_lofL, r_lofT, r_tofL, r_tofT, r_bits, r_tyL, r_eB, r_bnd, r_bo, r_be, r_eR, r_Rs, r_bin, r_un, r_c, r_v, r_vd, r_and, r_or, r_if, r_eA, r_eAo, r_eAe, r_eAD, r_eADo, r_eADe, r_eDk, r_CB, r_aN, r_aD, r_aDo, r_aDe, r_aO, r_aOo, r_cA, r_cAe, r_sv0, r_sv1,
  r_call, r_callo, r_calle, r_O0, r_O1, r_Sl, r_Ch, r_Ch3, r_kT', r_kF, r_M, r_Ln, r_Lns, r_Ix, r_Ixs, r_Nl, r_Nls, r_iD, r_iDo, r_iDe, r_iDj, r_iA, r_iAo, r_iAe, r_iAj, r_Q, r_Qn, r_Qr, r_Qb, r_Qc, r_Qe, r_B, r_Bo, r_Be, r_G, r_R, r_E, r_I, r_N, r_X, r_F, r_Fo, r_lc, r_fnr, r_fnn, r_fne, r_tk,
  r_bT, r_bsN, r_bsC, r_bsK, r_bN, r_IB, r_addI, r_sub, r_neg, r_not, r_min, r_max, r_lenL, r_lenT, r_eqS, r_neS, r_eqI, r_neI, r_slL, r_itS, r_itL, r_itT, r_enS, r_enL, r_zip, r_zipS, r_bs2, r_bs3, r_w0, r_w1, r_tyS, r_IxO, r_IxOo, r_St2, r_CallK, r_dSel, r_s0, r_sl, r_sr, Option.toList_some, and_self, if_true, if_false, Bool.false_eq_true,
  List.map_cons, List.map_nil, List.length_cons, List.length_nil, List.cons_append, List.nil_append, List.replicate, List.getElem?_cons_zero, List.getElem?_cons_succ, List.set_cons_zero, List.set_cons_succ, Option.map_some, Option.map_none, Nat.reduceAdd, Nat.reduceSub])
local macro_rules | `(tactic| walk_at "evr") => `(tactic| ((walk_at "evs") <;> rfl))
theorem third_back (L : List (Bool × Pt)) (x0 x1 x2 x3 x4 x6 : Option SV) (st : SE) (z0 : Pt) : ∀ (M : List (Bool × Pt)) (z : Pt) (x5 x8 : Option SV),
    ∃ y5 y8, forGo (bT (bsC (bN 5) (bsC (bN 8) bsN))) lb_third_at_2 (M.map swE) [x0, x1, x2, x3, x4, x5, x6, some (.d (pd z)), x8] st =
      some (.nx, [x0, x1, x2, x3, x4, y5, x6, some (.d (pd (M.foldl (fun z p => swP p.1 p.2 z) z))), y8], st)
  | [], z, x5, x8 => ⟨x5, x8, rfl⟩
  | (b, m) :: M, z, x5, x8 => by
    obtain ⟨y5, y8, e⟩ := third_back L x0 x1 x2 x3 x4 x6 st z0 M (swP b m z) (some (.d (.str (tx [oc b])))) (some (.d (pd m)))
    refine ⟨y5, y8, ?_⟩
    rw [List.map_cons]
    unfold forGo
    have hb : bT (bsC (bN 5) (bsC (bN 8) bsN)) (swE (b, m)) [x0, x1, x2, x3, x4, x5, x6, some (.d (pd z)), x8] = some [x0, x1, x2, x3, x4, some (.d (.str (tx [oc b]))), x6, some (.d (pd z)), some (.d (pd m))] := rfl
    rw [hb]
    dsimp only
    have sw := swung_ok b m z st
    have h2 : lb_third_at_2 [x0, x1, x2, x3, x4, some (.d (.str (tx [oc b]))), x6, some (.d (pd z)), some (.d (pd m))] st = some (.nx, [x0, x1, x2, x3, x4, some (.d (.str (tx [oc b]))), x6, some (.d (pd (swP b m z))), some (.d (pd m))], st) := by
      unfold lb_third_at_2
      clear e hb
      walk_at "evs"
    rw [h2]
    dsimp only
    rw [e]
    rfl
theorem thirdat_ok (w : List Bool) (s : Nat) (st : SE) (h : w.length ≤ 300) (h1 : s ≤ 2 ^ w.length) : dn_third_at [.d (.str (hs w)), .d (.int (s : Int))] st = some (.ok (pd (trL w.reverse s)), st) := by
  unfold dn_third_at sf_third_at
  have e1 := endsof_ok w st (by omega)
  have hrl : w.reverse.length = w.length := List.length_reverse
  obtain ⟨L, s', y4, y5, y6, e2, hf⟩ := third_go (.d (.str (hs w))) ((List.range (w.length + 1)).map fun j => pd (e3 (w.reverse.take j))) st w s [] none none h h1 (by simp; omega) (fun k hk => by
    refine atI_nat ?_
    rw [List.getElem?_map, List.getElem?_range (by omega)]
    rfl)
  rw [List.nil_append] at e2
  obtain ⟨z5, z8, e4⟩ := third_back L (some (.d (.str (hs w)))) (some (.d (.int (s' : Int)))) (some (.d (.list ((List.range (w.length + 1)).map fun j => pd (e3 (w.reverse.take j)))))) (some (.d (.list (L.map swE)))) y4 y6 (st ++ [.dead]) (0, 0) L.reverse ((s' : Int), 0) y5 none
  rw [List.foldl_reverse, hf, show pd ((s' : Int), 0) = .tuple [.int (s' : Int), .int 0] from rfl] at e4
  generalize (List.range (w.length + 1)).map (fun j => pd (e3 (w.reverse.take j))) = EL at *
  have nw : sNw 3 aN [some (.d (.str (hs w))), some (.d (.int (s : Int))), some (.d (.list EL)), none, none, none, none, none, none] st = some (.nx, [some (.d (.str (hs w))), some (.d (.int (s : Int))), some (.d (.list EL)), some (.o st.length), none, none, none, none, none], st ++ [.l []]) := rfl
  have hl := len_hs w (by omega)
  have it := it_hs w
  have rv : pRev (.list (L.map swE)) = some (.list (L.reverse.map swE)) := by rw [List.map_reverse]; rfl
  have fz := r_Fz (i := 3) (j := st.length) (xs := L.map swE) (f := (sQ (sV 7 (eCB pTup (aD (eV 1) (aD (eC (.int 0)) (aN))))) (sQ (sF (iD (eUn pRev (eV 3))) (bT (bsC (bN 5) (bsC (bN 8) (bsN)))) lb_third_at_2) (sR (eV 7))))) (dl := [some (.d (.str (hs w))), some (.d (.int (s' : Int))), some (.d (.list EL)), some (.o st.length), y4, y5, y6, none, none]) (st := st ++ [.l (L.map swE)]) rfl (by simp)
  have sd : (st ++ [Ob.l (L.map swE)]).set st.length Ob.dead = st ++ [.dead] := by
    rw [List.set_append_right _ _ (Nat.le_refl _), Nat.sub_self]
    rfl
  have itr : itemsOf (.list (L.reverse.map swE)) = some (L.reverse.map swE) := rfl
  have tk : List.take st.length (st ++ [Ob.dead]) = st := by simp
  rw [sd] at fz
  clear hf sd hrl
  generalize L.reverse.map swE = LR at *
  generalize L.map swE = LF at *
  walk_at "evs"
theorem thirdpoint_ok (w : List Bool) (s : Nat) (st : SE) (h : w.length ≤ 60) (h1 : s ≤ 2 ^ w.length) : dn_third_point [.d (.str (hs w)), .d (.int (s : Int))] st = some (.ok (pd (trL w.reverse s)), st) := by
  unfold dn_third_point sf_third_point
  have e1 := needh_ok w st h
  have e2 := long_ok w st (by omega)
  have e3 := needp_ok w (s : Int) 0 ((2 ^ w.length : Nat) : Int) st h (by omega) (by omega)
  have e4 := thirdat_ok w s st (by omega) h1
  clear h1
  walk_at "evs"
theorem thirdhead_ok (w : List Bool) (s : Nat) (st : SE) (h : w.length ≤ 60) (h1 : s < 2 ^ w.length) : dn_third_heading [.d (.str (hs w)), .d (.int (s : Int))] st = some (.ok (.int (tn w.reverse s % 3)), st) := by
  unfold dn_third_heading sf_third_heading
  have e1 := needh_ok w st h
  have e2 := long_ok w st (by omega)
  have e3 := needp_ok w (s : Int) 0 (((2 ^ w.length : Nat) : Int) - 1) st h (by omega) (by omega)
  have e4 := turnat_ok w s st (by omega)
  have et : tn w.reverse s = 2 * ((hbL w.reverse s : Nat) : Int) - (s : Int) := rfl
  rw [et]
  clear et h1
  walk_at "evs"
theorem thirdend_ok (w : List Bool) (st : SE) (h : w.length ≤ 60) : dn_third_end [.d (.str (hs w))] st = some (.ok (pd (e3 w.reverse)), st) := by
  unfold dn_third_end sf_third_end
  have e1 := needh_ok w st h
  have e2 := endsof_ok w st (by omega)
  have e4 : pIx (.list ((List.range (w.length + 1)).map fun j => pd (e3 (w.reverse.take j)))) (.int (-1)) = some (pd (e3 w.reverse)) := by
    rw [r_ixL, List.range_succ, List.map_append, List.map_singleton, atI_last, show w.length = w.reverse.length from List.length_reverse.symm, List.take_length]
  generalize (List.range (w.length + 1)).map (fun j => pd (e3 (w.reverse.take j))) = EL at *
  walk_at "evs"
/-- the points behind the steps from a on, so many -/
def thirdS (w : List Bool) (a n : Nat) : List PyData := (List.range n).map fun i => pd (trL w.reverse (a + i))
theorem thirdway_ok (w : List Bool) (a k : Nat) (st : SE) (h : w.length ≤ 60) (h1 : a ≤ 2 ^ w.length) (h2 : k ≤ 1000) : dn_third_way [.d (.str (hs w)), .d (.int (a : Int)), .d (.int (k : Int))] st = some (.ok (.list (thirdS w a (min (a + k) (2 ^ w.length + 1) - a))), st) := by
  unfold dn_third_way sf_third_way
  have hbig : 2 ^ w.length ≤ 2 ^ 60 := Nat.pow_le_pow_right (by decide) h
  have e1 := needh_ok w st h
  have e2 := long_ok w st (by omega)
  have e3 := needp_ok w (a : Int) 0 ((2 ^ w.length : Nat) : Int) st h (by omega) (by omega)
  have e4 := whole_ok (k : Int) 0 1000 st (by omega) (by omega)
  have hm : min ((a : Int) + (k : Int)) (((2 ^ w.length : Nat) : Int) + 1) = ((min (a + k) (2 ^ w.length + 1) : Nat) : Int) := by omega
  have hb : a ≤ min (a + k) (2 ^ w.length + 1) := by omega
  have hb2 : min (a + k) (2 ^ w.length + 1) - a ≤ 1000 := by omega
  have hb3 : min (a + k) (2 ^ w.length + 1) ≤ 2 ^ w.length + 1 := by omega
  generalize min (a + k) (2 ^ w.length + 1) = b at *
  have i1 : inLine (a : Int) = true := in_nat _ (by omega)
  have i2 : inLine (b : Int) = true := in_nat _ (by omega)
  have hl := lck_map (bd := bN 3) (e := le_third_way_1) (dl := [some (.d (.str (hs w))), some (.d (.int (a : Int))), some (.d (.int (k : Int))), none]) (st := st) (vs := [3]) (xs := rangeL (a : Int) (b : Int)) (fun (i : Nat) => .int ((a : Int) + i)) (fun i => pd (trL w.reverse (a + i))) (List.range (b - a)) (by unfold rangeL; rw [show ((b : Int) - (a : Int)).toNat = b - a by omega]) (by simp; omega) (fun i hi => by
    refine ⟨_, rfl, ?_⟩
    have hi' := List.mem_range.mp hi
    have e := thirdat_ok w (a + i) st (by omega) (by omega)
    rw [show ((a + i : Nat) : Int) = (a : Int) + (i : Int) by omega] at e
    unfold le_third_way_1
    clear hbig hb3
    walk_at "evs")
  unfold thirdS
  clear hbig hb3
  walk_at "evs"
theorem thirds_ok (st : SE) : dn_law_thirds [] st = some (.ok (.list [pd (1, 0), pd (0, 1), pd (-1, -1)]), st) := by
  unfold dn_law_thirds sf_law_thirds pd
  walk_at "evr"
theorem thirds_at (t : Int) : atI [pd (1, 0), pd (0, 1), pd (-1, -1)] (t % 3) = some (pd (dir3 t)) := by
  rcases dir3_cases t with h | h | h
  · rw [h]; simp [dir3, h]; rfl
  · rw [h]; simp [dir3, h]; rfl
  · rw [h]; simp [dir3, h]; rfl
theorem ne_third (w : List Bool) (a n : Nat) : pNe (.list (thirdS w a n)) (.list (thirdS w a n)) = some (.bool false) := ne_self _ (dpt_pds 6 _ _)
theorem lawway_t (w : List Bool) (st : SE) (h : w.length ≤ 15) : dn_law_way [.d (.str (gs (rowL w.reverse))), .d (.list [pd (1, 0), pd (0, 1), pd (-1, -1)])] st = some (.ok (.list (thirdS w 0 (2 ^ w.length + 1))), st) := by
  have hpos : 0 < 2 ^ w.length := Nat.pow_pos (by decide)
  have hle : 2 ^ w.length ≤ 2 ^ 15 := Nat.pow_le_pow_right (by decide) h
  have hlr : w.reverse.length = w.length := List.length_reverse
  have hrl : (rowL w.reverse).length = 2 ^ w.length - 1 := by rw [rowL_len, hlr]
  rw [lawway_ok (rowL w.reverse) _ 3 dir3 (trL w.reverse) (tn w.reverse) st rfl (by decide) (by decide) (by omega) thirds_at rfl (by unfold tn; rw [hbL_zero]; rfl) (fun j hj => rfl) (fun j b hb => by
    have hj := (List.getElem?_eq_some_iff.mp hb).1
    rw [rowL_get (by rw [hlr]; omega)] at hb
    rw [tn_step _ j (by rw [hlr]; omega), Option.some.inj hb])]
  unfold thirdS
  rw [hrl, show 2 ^ w.length - 1 + 2 = 2 ^ w.length + 1 by omega]
  congr 5
  funext i
  rw [Nat.zero_add]
end DL
set_option autoImplicit false
namespace DL
open PySem PySem.Spec PyProof.Rows L2
local macro_rules | `(tactic| walk_at "ev") => `(tactic| simp only [r_fn, r_Rz, r_RzP, r_Try, r_Tr, r_Tn, r_Te, r_Tk, r_CL, r_cl, r_at0, r_at1, r_at2, r_at3, r_at4, r_hA0, r_hBA0, r_hCA0, r_hA1, r_hA2, r_hBA2, r_hCA2, r_hA3, r_hBA3, r_hCA3, r_hA4, r_hBA4, r_hCA4, r_hA5, r_hBA5, r_hCA5, r_hA6, r_hBA6, r_hCA6, r_hA7, r_hBA7, r_hCA7, r_hA8, r_hBA8, r_hCA8, r_hA9, r_hBA9, r_hCA9, r_hA10, r_hBA10, r_hCA10, r_hA11, r_hBA11, r_hCA11, r_hA12, r_hBA12, r_hCA12, r_hA13, r_hBA13, r_hCA13, r_hA14, r_hBA14, r_hCA14, r_hBP, r_hCP, r_iRv, r_iRo, r_lofL, r_lofT, r_tofL, r_tofT, r_bits, r_tyL, r_eB, r_bnd, r_bo, r_be, r_eR, r_Rs, r_bin, r_un, r_c, r_v, r_vd, r_and, r_or, r_if, r_eA, r_eAo, r_eAe, r_eAD, r_eADo, r_eADe, r_eDk, r_CB, r_aN, r_aD, r_aDo, r_aDe, r_aO, r_aOo, r_cA, r_cAe, r_sv0, r_sv1,
  r_call, r_callo, r_calle, r_O0, r_O1, r_Sl, r_Ch, r_Ch3, r_kT', r_kF, r_M, r_Ln, r_Lns, r_Ix, r_Ixs, r_Nl, r_Nls, r_iD, r_iDo, r_iDe, r_iDj, r_iA, r_iAo, r_iAe, r_iAj, r_Q, r_Qn, r_Qr, r_Qb, r_Qc, r_Qe, r_B, r_Bo, r_Be, r_G, r_R, r_E, r_I, r_N, r_X, r_F, r_Fo, r_lc, r_fnr, r_fnn, r_fne, r_tk,
  r_bT, r_bsN, r_bsC, r_bsK, r_bN, r_IB, r_addI, r_sub, r_neg, r_not, r_min, r_max, r_lenL, r_lenT, r_eqS, r_neS, r_eqI, r_neI, r_slL, r_itS, r_itL, r_itT, r_enS, r_enL, r_zip, r_zipS, r_bs2, r_bs3, r_w0, r_w1, r_tyS, r_IxO, r_IxOo, r_St2, r_CallK, r_dSel, r_s0, r_sl, r_sr, Option.toList_some, and_self, if_true, if_false, Bool.false_eq_true,
  List.map_cons, List.map_nil, List.length_cons, List.length_nil, List.cons_append, List.nil_append, List.replicate, List.getElem?_cons_zero, List.getElem?_cons_succ, List.set_cons_zero, List.set_cons_succ, Option.map_some, Option.map_none, Nat.reduceAdd, Nat.reduceSub])
local macro_rules | `(tactic| walk_at "evs") => `(tactic| simp only [*, r_fn, r_mod, r_fdv, r_mulI, r_shl, r_shr, r_pow, r_rg1, r_rg2, r_tup, r_lst, r_ixS, r_ixL, r_ixT, r_slS, r_lenS, r_addS, r_addL, r_revS, r_Lno, decide_true, decide_false, Nat.le_refl, Nat.reduceLeDiff, Int.reduceLT, Int.reduceLE, Bool.not_true, Bool.not_false, Bool.and_true, Bool.true_and, Bool.and_self, r_Rz, r_RzP, r_Try, r_Tr, r_Tn, r_Te, r_Tk, r_CL, r_cl, r_at0, r_at1, r_at2, r_at3, r_at4, r_hA0, r_hBA0, r_hCA0, r_hA1, r_hA2, r_hBA2, r_hCA2, r_hA3, r_hBA3, r_hCA3, r_hA4, r_hBA4, r_hCA4, r_hA5, r_hBA5, r_hCA5, r_hA6, r_hBA6, r_hCA6, r_hA7, r_hBA7, r_hCA7, r_hA8, r_hBA8, r_hCA8, r_hA9, r_hBA9, r_hCA9, r_hA10, r_hBA10, r_hCA10, r_hA11, r_hBA11, r_hCA11, r_hA12, r_hBA12, r_hCA12, r_hA13, r_hBA13, r_hCA13, r_hA14, r_hBA14, r_hCA14, r_hBP, r_hCP, r_iRv, r_iRo, r_lofL, r_lofT, r_tofL, r_tofT, r_bits, r_tyL, r_eB, r_bnd, r_bo, r_be, r_eR, r_Rs, r_bin, r_un, r_c, r_v, r_vd, r_and, r_or, r_if, r_eA, r_eAo, r_eAe, r_eAD, r_eADo, r_eADe, r_eDk, r_CB, r_aN, r_aD, r_aDo, r_aDe, r_aO, r_aOo, r_cA, r_cAe, r_sv0, r_sv1,
  r_call, r_callo, r_calle, r_O0, r_O1, r_Sl, r_Ch, r_Ch3, r_kT', r_kF, r_M, r_Ln, r_Lns, r_Ix, r_Ixs, r_Nl, r_Nls, r_iD, r_iDo, r_iDe, r_iDj, r_iA, r_iAo, r_iAe, r_iAj, r_Q, r_Qn, r_Qr, r_Qb, r_Qc, r_Qe, r_B, r_Bo, r_Be, r_G, r_R, r_E, r_I, r_N, r_X, r_F, r_Fo, r_lc, r_fnr, r_fnn, r_fne, r_tk,
  r_bT, r_bsN, r_bsC, r_bsK, r_bN, r_IB, r_addI, r_sub, r_neg, r_not, r_min, r_max, r_lenL, r_lenT, r_eqS, r_neS, r_eqI, r_neI, r_slL, r_itS, r_itL, r_itT, r_enS, r_enL, r_zip, r_zipS, r_bs2, r_bs3, r_w0, r_w1, r_tyS, r_IxO, r_IxOo, r_St2, r_CallK, r_dSel, r_s0, r_sl, r_sr, Option.toList_some, and_self, if_true, if_false, Bool.false_eq_true,
  List.map_cons, List.map_nil, List.length_cons, List.length_nil, List.cons_append, List.nil_append, List.replicate, List.getElem?_cons_zero, List.getElem?_cons_succ, List.set_cons_zero, List.set_cons_succ, Option.map_some, Option.map_none, Nat.reduceAdd, Nat.reduceSub])
local macro_rules | `(tactic| walk_at "evr") => `(tactic| ((walk_at "evs") <;> rfl))
/-! ### fractions in least terms -/
def lt2 (a b : Nat) : PyData := .tuple [.int ((a / Nat.gcd a b : Nat) : Int), .int ((b / Nat.gcd a b : Nat) : Int)]
theorem gcd_step (a b : Nat) : Nat.gcd b (a % b) = Nat.gcd a b := by
  rw [Nat.gcd_comm b (a % b), ← Nat.gcd_rec, Nat.gcd_comm]
theorem leastt_ok (a b : Nat) (st : SE) (ha : 0 < a) (hb : 0 < b) (hb2 : b ≤ 2000) : dn_least_terms [.d (.int (a : Int)), .d (.int (b : Int))] st = some (.ok (lt2 a b), st) := by
  unfold dn_least_terms sf_least_terms
  obtain ⟨dl', st', e, hP⟩ := whGo_inv (c := lw_least_terms_1) (body := lb_least_terms_1)
    (Post := fun dl s => s = st ∧ dl = [some (.d (.int (a : Int))), some (.d (.int (b : Int))), some (.d (.int ((Nat.gcd a b : Nat) : Int))), some (.d (.int 0))])
    (fun m dl s => s = st ∧ ∃ x y : Nat, m = y ∧ Nat.gcd x y = Nat.gcd a b ∧ dl = [some (.d (.int (a : Int))), some (.d (.int (b : Int))), some (.d (.int (x : Int))), some (.d (.int (y : Int)))]) (fun m dl s hI => by
      obtain ⟨rfl, x, y, rfl, hg, rfl⟩ := hI
      by_cases hy : m = 0
      · subst hy
        rw [Nat.gcd_zero_right] at hg
        have d : decide (((0 : Nat) : Int) = 0) = true := rfl
        refine .inl ⟨s, ?_, rfl, ?_⟩
        · unfold lw_least_terms_1
          clear hg
          walk_at "evs"
        · rw [hg]
          rfl
      · have d : decide ((m : Int) = 0) = false := decide_eq_false (by omega)
        have m1 : pMod (.int (x : Int)) (.int (m : Int)) = some (.int ((x % m : Nat) : Int)) := by rw [r_mod (by omega)]; rfl
        refine .inr ⟨s, [some (.d (.int (a : Int))), some (.d (.int (b : Int))), some (.d (.int (m : Int))), some (.d (.int ((x % m : Nat) : Int)))], s, x % m, ?_, ?_, Nat.mod_lt _ (by omega), rfl, m, x % m, rfl, (gcd_step x m).trans hg, rfl⟩
        · unfold lw_least_terms_1
          clear hg
          walk_at "evs"
        · unfold lb_least_terms_1
          clear hg
          walk_at "evs")
    10000 b [some (.d (.int (a : Int))), some (.d (.int (b : Int))), some (.d (.int (a : Int))), some (.d (.int (b : Int)))] st ⟨rfl, a, b, rfl, rfl, rfl⟩ (by omega)
  obtain ⟨rfl, rfl⟩ := hP
  have hg0 : 0 < Nat.gcd a b := Nat.gcd_pos_of_pos_left _ ha
  have hg1 : Nat.gcd a b ≤ b := Nat.gcd_le_right _ hb
  have f1 : pFdv (.int (a : Int)) (.int ((Nat.gcd a b : Nat) : Int)) = some (.int ((a / Nat.gcd a b : Nat) : Int)) := by rw [r_fdv (by omega) (by omega)]; rfl
  have f2 : pFdv (.int (b : Int)) (.int ((Nat.gcd a b : Nat) : Int)) = some (.int ((b / Nat.gcd a b : Nat) : Int)) := by rw [r_fdv (by omega) (by omega)]; rfl
  unfold lt2
  walk_at "evs"
theorem filter_last (p : Nat → Bool) (g : Nat) (hp : p g = true) : ∀ n : Nat, g < n → (∀ i, g < i → i < n → p i = false) → ∃ A, (List.range n).filter p = A ++ [g]
  | 0, h, _ => by omega
  | n + 1, h, hf => by
    rw [List.range_succ, List.filter_append]
    by_cases hn : g = n
    · subst hn
      exact ⟨_, by rw [List.filter_cons_of_pos hp]; rfl⟩
    · obtain ⟨A, e⟩ := filter_last p g hp n (by omega) (fun i h1 h2 => hf i h1 (by omega))
      refine ⟨A, ?_⟩
      rw [e, List.filter_cons_of_neg (by rw [hf n (by omega) (by omega)]; decide)]
      simp
theorem lawleast_ok (a b : Nat) (st : SE) (ha : 0 < a) (hb : 0 < b) (hb2 : b ≤ 2000) : dn_law_least [.d (.int (a : Int)), .d (.int (b : Int))] st = some (.ok (lt2 a b), st) := by
  unfold dn_law_least sf_law_least
  have hg0 : 0 < Nat.gcd a b := Nat.gcd_pos_of_pos_left _ ha
  have hg1 : Nat.gcd a b ≤ b := Nat.gcd_le_right _ hb
  have i1 : inLine 1 = true := by decide
  have i2 : inLine ((b : Int) + 1) = true := in_line (by omega) (by omega)
  have hl := lck_of (bd := bN 3) (t := lt_law_least_1) (e := le_law_least_1) (dl := [some (.d (.int (a : Int))), some (.d (.int (b : Int))), none, none]) (st := st) (vs := [3]) (xs := rangeL 1 ((b : Int) + 1)) (fun (i : Nat) => .int (1 + (i : Int))) (fun i => decide (a % (i + 1) = 0 ∧ b % (i + 1) = 0)) (fun i => .int ((i + 1 : Nat) : Int)) (List.range b) (by unfold rangeL; rw [show ((b : Int) + 1 - 1).toNat = b by omega]) (by simp; omega) (fun i hi => by
    have e1 : (1 : Int) + (i : Int) = ((i + 1 : Nat) : Int) := by omega
    have m1 : pMod (.int (a : Int)) (.int ((i + 1 : Nat) : Int)) = some (.int ((a % (i + 1) : Nat) : Int)) := by rw [r_mod (by omega)]; rfl
    have m2 : pMod (.int (b : Int)) (.int ((i + 1 : Nat) : Int)) = some (.int ((b % (i + 1) : Nat) : Int)) := by rw [r_mod (by omega)]; rfl
    rw [e1]
    clear e1
    refine ⟨_, rfl, ?_, fun _ => ?_⟩
    · unfold lt_law_least_1
      by_cases h1 : a % (i + 1) = 0
      · have d1 : decide (((a % (i + 1) : Nat) : Int) = 0) = true := decide_eq_true (by omega)
        have d2 : decide (((b % (i + 1) : Nat) : Int) = 0) = decide (a % (i + 1) = 0 ∧ b % (i + 1) = 0) := by rw [decide_eq_decide]; omega
        rw [← d2]
        clear d2 h1
        walk_at "evs"
      · have d1 : decide (((a % (i + 1) : Nat) : Int) = 0) = false := decide_eq_false (by omega)
        have d2 : decide (a % (i + 1) = 0 ∧ b % (i + 1) = 0) = false := decide_eq_false (by omega)
        rw [d2]
        clear d2 h1
        walk_at "evs"
    · unfold le_law_least_1
      walk_at "evs")
  obtain ⟨A, eA⟩ := filter_last (fun i => decide (a % (i + 1) = 0 ∧ b % (i + 1) = 0)) (Nat.gcd a b - 1) (by
    rw [show Nat.gcd a b - 1 + 1 = Nat.gcd a b by omega]
    exact decide_eq_true ⟨Nat.mod_eq_zero_of_dvd (Nat.gcd_dvd_left a b), Nat.mod_eq_zero_of_dvd (Nat.gcd_dvd_right a b)⟩) b (by omega) (fun i h1 h2 => by
    apply decide_eq_false
    rintro ⟨h3, h4⟩
    have := Nat.le_of_dvd hg0 (Nat.dvd_gcd (Nat.dvd_of_mod_eq_zero h3) (Nat.dvd_of_mod_eq_zero h4))
    omega)
  rw [eA, List.map_append, List.map_singleton, show Nat.gcd a b - 1 + 1 = Nat.gcd a b by omega] at hl
  have ix : pIx (.list (A.map (fun i => PyData.int ((i + 1 : Nat) : Int)) ++ [.int ((Nat.gcd a b : Nat) : Int)])) (.int (-1)) = some (.int ((Nat.gcd a b : Nat) : Int)) := by rw [r_ixL, atI_last]
  generalize A.map (fun i => PyData.int ((i + 1 : Nat) : Int)) = AA at *
  have f1 : pFdv (.int (a : Int)) (.int ((Nat.gcd a b : Nat) : Int)) = some (.int ((a / Nat.gcd a b : Nat) : Int)) := by rw [r_fdv (by omega) (by omega)]; rfl
  have f2 : pFdv (.int (b : Int)) (.int ((Nat.gcd a b : Nat) : Int)) = some (.int ((b / Nat.gcd a b : Nat) : Int)) := by rw [r_fdv (by omega) (by omega)]; rfl
  unfold lt2
  clear eA
  walk_at "evs"
/-! ### marks, cuts -/
theorem needfew_ok (w : List Bool) (k : Nat) (st : SE) (h : w.length ≤ k) (h2 : k ≤ 60) : dn_need_few [.d (.str (hs w)), .d (.int (k : Int))] st = some (.ok .none, st) := by
  unfold dn_need_few sf_need_few
  have e := isl_ok w 0 (k : Int) st (by omega) (by omega) (by omega)
  walk_at "evr"
theorem needcut_ok (w : List Bool) (p q : Nat) (st : SE) (h : w.length ≤ 8) (h0 : 0 < p) (h1 : p < q) (h2 : q ≤ 1000) : dn_need_cut [.d (.str (hs w)), .d (.int (p : Int)), .d (.int (q : Int))] st = some (.ok .none, st) := by
  unfold dn_need_cut sf_need_cut
  have e1 := needfew_ok w 8 st h (by decide)
  rw [show ((8 : Nat) : Int) = 8 from rfl] at e1
  have e2 := whole_ok (q : Int) 2 1000 st (by omega) (by omega)
  have e3 := whole_ok (p : Int) 1 ((q : Int) - 1) st (by omega) (by omega)
  walk_at "evr"
def mk (p q s : Nat) : Nat := s * q + (if s % 2 = 0 then p else q - p)
theorem markin_ok (p q s : Nat) (st : SE) (h1 : p < q) (h2 : q ≤ 1000) : dn_mark_in [.d (.int (s : Int)), .d (.int (p : Int)), .d (.int (q : Int))] st = some (.ok (.int ((mk p q s : Nat) : Int)), st) := by
  unfold dn_mark_in sf_mark_in
  have m1 : pMul (.int (s : Int)) (.int (q : Int)) = some (.int ((s * q : Nat) : Int)) := by rw [r_mulI (.inr (by omega))]; rfl
  by_cases hs : s % 2 = 0
  · have d : decide ((s : Int) % 2 = 0) = true := decide_eq_true (by omega)
    have e : ((mk p q s : Nat) : Int) = ((s * q : Nat) : Int) + (p : Int) := by unfold mk; rw [if_pos hs]; omega
    rw [e]
    clear e hs
    walk_at "evr"
  · have d : decide ((s : Int) % 2 = 0) = false := decide_eq_false (by omega)
    have e : ((mk p q s : Nat) : Int) = ((s * q : Nat) : Int) + ((q : Int) - (p : Int)) := by unfold mk; rw [if_neg hs]; omega
    rw [e]
    clear e hs
    walk_at "evr"
/-- the ends of the pieces of n segments -/
def ekE (n p q i : Nat) : Nat := if i = 0 then 0 else if i ≤ n then mk p q (i - 1) else n * q
def ekL (n p q : Nat) : List PyData := (List.range (n + 2)).map fun i => .int ((ekE n p q i : Nat) : Int)
theorem ekL_eq (n p q : Nat) : ekL n p q = [.int 0] ++ ((List.range n).map fun i => .int ((mk p q i : Nat) : Int)) ++ [.int ((n * q : Nat) : Int)] := by
  unfold ekL
  rw [List.range_succ, List.map_append, List.range_succ_eq_map]
  congr 1
  · rw [List.map_cons, List.singleton_append]
    congr 1
    rw [List.map_map]
    apply List.map_congr_left
    intro i hi
    have := List.mem_range.mp hi
    simp only [Function.comp, ekE]
    rw [if_neg (by omega), if_pos (by omega)]
    rfl
  · simp only [List.map_cons, List.map_nil, ekE]
    rw [if_neg (by omega), if_neg (by omega)]
theorem zip_next {α : Type} (f : Nat → PyData) : ∀ n : Nat, zipL ((List.range (n + 1)).map f) (((List.range (n + 1)).map f).drop 1) = (List.range n).map fun i => .tuple [f i, f (i + 1)] := fun n => by
  apply List.ext_getElem?
  intro i
  by_cases hi : i < n
  · rw [zipL_get _ _ i (f i) (f (i + 1)) (by rw [List.getElem?_map, List.getElem?_range (by omega)]; rfl) (by rw [List.getElem?_drop, List.getElem?_map, List.getElem?_range (by omega), Nat.add_comm 1 i]; rfl), List.getElem?_map, List.getElem?_range hi]
    rfl
  · rw [List.getElem?_eq_none (by rw [zipL_len]; simp; omega), List.getElem?_eq_none (by simpa using hi)]
theorem mk_mono (p q s : Nat) (h0 : 0 < p) (h1 : p < q) : mk p q s < mk p q (s + 1) ∧ s * q < mk p q s ∧ mk p q s < (s + 1) * q := by
  unfold mk
  rw [Nat.succ_mul]
  by_cases hs : s % 2 = 0
  · rw [if_pos hs, if_neg (by omega)]; omega
  · rw [if_neg hs, if_pos (by omega)]; omega
theorem ek_lt (n p q i : Nat) (hn : 0 < n) (h0 : 0 < p) (h1 : p < q) (hi : i ≤ n) : ekE n p q i < ekE n p q (i + 1) := by
  unfold ekE
  by_cases h : i = 0
  · subst h
    rw [if_pos rfl, if_neg (by omega), if_pos (by omega)]
    have := (mk_mono p q 0 h0 h1).2.1
    simp at this ⊢
    exact this
  · rw [if_neg h, if_pos hi, if_neg (by omega)]
    by_cases h2 : i + 1 ≤ n
    · rw [if_pos h2]
      have := (mk_mono p q (i - 1) h0 h1).1
      rw [show i - 1 + 1 = i by omega] at this
      exact this
    · rw [if_neg h2]
      have := (mk_mono p q (i - 1) h0 h1).2.2
      rw [show i - 1 + 1 = n by omega] at this
      exact this
/-- the lengths of the pieces, by the whole -/
def pcE (n p q i : Nat) : Nat := ekE n p q (i + 1) - ekE n p q i
def pcL (n p q : Nat) : List PyData := (List.range (n + 1)).map fun i => lt2 (pcE n p q i) q
theorem pieces_ok (w : List Bool) (p q : Nat) (st : SE) (h : w.length ≤ 8) (h0 : 0 < p) (h1 : p < q) (h2 : q ≤ 1000) : dn_pieces [.d (.str (hs w)), .d (.int (p : Int)), .d (.int (q : Int))] st = some (.ok (.list (pcL (2 ^ w.length) p q)), st) := by
  unfold dn_pieces sf_pieces
  have hpos : 0 < 2 ^ w.length := Nat.pow_pos (by decide)
  have hle : 2 ^ w.length ≤ 2 ^ 8 := Nat.pow_le_pow_right (by decide) h
  have e1 := needcut_ok w p q st h h0 h1 h2
  have e2 := long_ok w st (by omega)
  generalize 2 ^ w.length = n at *
  have i1 : inLine (n : Int) = true := in_nat _ (by omega)
  have l1 := lck_map (bd := bN 5) (e := le_pieces_1) (dl := [some (.d (.str (hs w))), some (.d (.int (p : Int))), some (.d (.int (q : Int))), none, none, none, none, none]) (st := st) (vs := [5]) (xs := rangeL 0 (n : Int)) (fun (i : Nat) => .int (0 + (i : Int))) (fun i => .int ((mk p q i : Nat) : Int)) (List.range n) (by unfold rangeL; rw [show ((n : Int) - 0).toNat = n by omega]) (by simp; omega) (fun i hi => by
    refine ⟨_, rfl, ?_⟩
    have e := markin_ok p q i st h1 h2
    rw [show (0 : Int) + (i : Int) = (i : Int) by omega]
    unfold le_pieces_1
    walk_at "evs")
  have a1 : pAdd (.list [.int 0]) (.list ((List.range n).map fun i => .int ((mk p q i : Nat) : Int))) = some (.list (.int 0 :: ((List.range n).map fun i => .int ((mk p q i : Nat) : Int)))) := r_addL (by simp; omega)
  have a2 : pAdd (.list (.int 0 :: ((List.range n).map fun i => .int ((mk p q i : Nat) : Int)))) (.list [.int ((n * q : Nat) : Int)]) = some (.list (ekL n p q)) := by rw [ekL_eq, r_addL (by simp; omega)]; rfl
  have m1 : pMul (.int (n : Int)) (.int (q : Int)) = some (.int ((n * q : Nat) : Int)) := by rw [r_mulI (.inr (by omega))]; rfl
  have c1 : cutL (ekL n p q) (some 1) none = (ekL n p q).drop 1 := cut_drop _ 1
  have zn : zipL (ekL n p q) ((ekL n p q).drop 1) = (List.range (n + 1)).map fun i => .tuple [.int ((ekE n p q i : Nat) : Int), .int ((ekE n p q (i + 1) : Nat) : Int)] := zip_next (α := Nat) _ (n + 1)
  have l2 := lck_map (bd := bT (bsC (bN 6) (bsC (bN 7) (bsN)))) (e := le_pieces_2) (dl := [some (.d (.str (hs w))), some (.d (.int (p : Int))), some (.d (.int (q : Int))), some (.d (.list ((List.range n).map fun i => .int ((mk p q i : Nat) : Int)))), some (.d (.list (ekL n p q))), none, none, none]) (st := st) (vs := [6, 7]) (xs := zipL (ekL n p q) ((ekL n p q).drop 1)) (fun (i : Nat) => .tuple [.int ((ekE n p q i : Nat) : Int), .int ((ekE n p q (i + 1) : Nat) : Int)]) (fun i => lt2 (pcE n p q i) q) (List.range (n + 1)) zn (by simp; omega) (fun i hi => by
    refine ⟨_, rfl, ?_⟩
    have hi' := List.mem_range.mp hi
    have hlt := ek_lt n p q i hpos h0 h1 (by omega)
    have e := leastt_ok (pcE n p q i) q st (by unfold pcE; omega) (by omega) (by omega)
    have es : ((ekE n p q (i + 1) : Nat) : Int) - ((ekE n p q i : Nat) : Int) = ((pcE n p q i : Nat) : Int) := by unfold pcE; omega
    unfold le_pieces_2
    clear hlt zn
    walk_at "evs")
  unfold pcL
  clear zn hle
  generalize (List.range n).map (fun i => PyData.int ((mk p q i : Nat) : Int)) = MM at *
  generalize ekL n p q = EE at *
  walk_at "evs"
end DL
set_option autoImplicit false
namespace DL
open PySem PySem.Spec PyProof.Rows L2
local macro_rules | `(tactic| walk_at "ev") => `(tactic| simp only [r_fn, r_Rz, r_RzP, r_Try, r_Tr, r_Tn, r_Te, r_Tk, r_CL, r_cl, r_at0, r_at1, r_at2, r_at3, r_at4, r_hA0, r_hBA0, r_hCA0, r_hA1, r_hA2, r_hBA2, r_hCA2, r_hA3, r_hBA3, r_hCA3, r_hA4, r_hBA4, r_hCA4, r_hA5, r_hBA5, r_hCA5, r_hA6, r_hBA6, r_hCA6, r_hA7, r_hBA7, r_hCA7, r_hA8, r_hBA8, r_hCA8, r_hA9, r_hBA9, r_hCA9, r_hA10, r_hBA10, r_hCA10, r_hA11, r_hBA11, r_hCA11, r_hA12, r_hBA12, r_hCA12, r_hA13, r_hBA13, r_hCA13, r_hA14, r_hBA14, r_hCA14, r_hBP, r_hCP, r_iRv, r_iRo, r_lofL, r_lofT, r_tofL, r_tofT, r_bits, r_tyL, r_eB, r_bnd, r_bo, r_be, r_eR, r_Rs, r_bin, r_un, r_c, r_v, r_vd, r_and, r_or, r_if, r_eA, r_eAo, r_eAe, r_eAD, r_eADo, r_eADe, r_eDk, r_CB, r_aN, r_aD, r_aDo, r_aDe, r_aO, r_aOo, r_cA, r_cAe, r_sv0, r_sv1,
  r_call, r_callo, r_calle, r_O0, r_O1, r_Sl, r_Ch, r_Ch3, r_kT', r_kF, r_M, r_Ln, r_Lns, r_Ix, r_Ixs, r_Nl, r_Nls, r_iD, r_iDo, r_iDe, r_iDj, r_iA, r_iAo, r_iAe, r_iAj, r_Q, r_Qn, r_Qr, r_Qb, r_Qc, r_Qe, r_B, r_Bo, r_Be, r_G, r_R, r_E, r_I, r_N, r_X, r_F, r_Fo, r_lc, r_fnr, r_fnn, r_fne, r_tk,
  r_bT, r_bsN, r_bsC, r_bsK, r_bN, r_IB, r_addI, r_sub, r_neg, r_not, r_min, r_max, r_lenL, r_lenT, r_eqS, r_neS, r_eqI, r_neI, r_slL, r_itS, r_itL, r_itT, r_enS, r_enL, r_zip, r_zipS, r_bs2, r_bs3, r_w0, r_w1, r_tyS, r_IxO, r_IxOo, r_St2, r_CallK, r_dSel, r_s0, r_sl, r_sr, Option.toList_some, and_self, if_true, if_false, Bool.false_eq_true,
  List.map_cons, List.map_nil, List.length_cons, List.length_nil, List.cons_append, List.nil_append, List.replicate, List.getElem?_cons_zero, List.getElem?_cons_succ, List.set_cons_zero, List.set_cons_succ, Option.map_some, Option.map_none, Nat.reduceAdd, Nat.reduceSub])
local macro_rules | `(tactic| walk_at "evs") => `(tactic| simp only [*, r_fn, r_mod, r_fdv, r_mulI, r_shl, r_shr, r_pow, r_rg1, r_rg2, r_tup, r_lst, r_ixS, r_ixL, r_ixT, r_slS, r_lenS, r_addS, r_addL, r_revS, r_Lno, decide_true, decide_false, Nat.le_refl, Nat.reduceLeDiff, Int.reduceLT, Int.reduceLE, Bool.not_true, Bool.not_false, Bool.and_true, Bool.true_and, Bool.and_self, r_Rz, r_RzP, r_Try, r_Tr, r_Tn, r_Te, r_Tk, r_CL, r_cl, r_at0, r_at1, r_at2, r_at3, r_at4, r_hA0, r_hBA0, r_hCA0, r_hA1, r_hA2, r_hBA2, r_hCA2, r_hA3, r_hBA3, r_hCA3, r_hA4, r_hBA4, r_hCA4, r_hA5, r_hBA5, r_hCA5, r_hA6, r_hBA6, r_hCA6, r_hA7, r_hBA7, r_hCA7, r_hA8, r_hBA8, r_hCA8, r_hA9, r_hBA9, r_hCA9, r_hA10, r_hBA10, r_hCA10, r_hA11, r_hBA11, r_hCA11, r_hA12, r_hBA12, r_hCA12, r_hA13, r_hBA13, r_hCA13, r_hA14, r_hBA14, r_hCA14, r_hBP, r_hCP, r_iRv, r_iRo, r_lofL, r_lofT, r_tofL, r_tofT, r_bits, r_tyL, r_eB, r_bnd, r_bo, r_be, r_eR, r_Rs, r_bin, r_un, r_c, r_v, r_vd, r_and, r_or, r_if, r_eA, r_eAo, r_eAe, r_eAD, r_eADo, r_eADe, r_eDk, r_CB, r_aN, r_aD, r_aDo, r_aDe, r_aO, r_aOo, r_cA, r_cAe, r_sv0, r_sv1,
  r_call, r_callo, r_calle, r_O0, r_O1, r_Sl, r_Ch, r_Ch3, r_kT', r_kF, r_M, r_Ln, r_Lns, r_Ix, r_Ixs, r_Nl, r_Nls, r_iD, r_iDo, r_iDe, r_iDj, r_iA, r_iAo, r_iAe, r_iAj, r_Q, r_Qn, r_Qr, r_Qb, r_Qc, r_Qe, r_B, r_Bo, r_Be, r_G, r_R, r_E, r_I, r_N, r_X, r_F, r_Fo, r_lc, r_fnr, r_fnn, r_fne, r_tk,
  r_bT, r_bsN, r_bsC, r_bsK, r_bN, r_IB, r_addI, r_sub, r_neg, r_not, r_min, r_max, r_lenL, r_lenT, r_eqS, r_neS, r_eqI, r_neI, r_slL, r_itS, r_itL, r_itT, r_enS, r_enL, r_zip, r_zipS, r_bs2, r_bs3, r_w0, r_w1, r_tyS, r_IxO, r_IxOo, r_St2, r_CallK, r_dSel, r_s0, r_sl, r_sr, Option.toList_some, and_self, if_true, if_false, Bool.false_eq_true,
  List.map_cons, List.map_nil, List.length_cons, List.length_nil, List.cons_append, List.nil_append, List.replicate, List.getElem?_cons_zero, List.getElem?_cons_succ, List.set_cons_zero, List.set_cons_succ, Option.map_some, Option.map_none, Nat.reduceAdd, Nat.reduceSub])
local macro_rules | `(tactic| walk_at "evr") => `(tactic| ((walk_at "evs") <;> rfl))
/-! ### refusals -/
/-- letters, by their signs -/
def okL (l : List Nat) : Bool := l.all fun c => decide (c ∈ ([111, 117] : List Nat))
theorem in_ou (c : Nat) : pIn (.str (tx [c])) (.str "ou") = some (.bool (decide (c ∈ ([111, 117] : List Nat)))) := by
  rw [lit_ou]
  unfold pIn pInB
  dsimp only
  rw [if_pos (by rw [tx_length]; rfl), tx_toList, tx_toList]
  rfl
theorem isl_str (l : List Nat) (lo hi : Int) (st : SE) (h : l.length ≤ 10000) : dn_is_letters [.d (.str (tx l)), .d (.int lo), .d (.int hi)] st = some (.ok (.bool (decide (lo ≤ l.length) && (decide ((l.length : Int) ≤ hi) && okL l))), st) := by
  unfold dn_is_letters sf_is_letters
  have i1 := isi_ss (tx l)
  have hl : pLen [.str (tx l)] = some (.int l.length) := r_lenS (by omega)
  cases d0 : decide (lo ≤ (l.length : Int)) with
  | false =>
    rw [Bool.false_and]
    walk_at "evr"
  | true =>
    rw [Bool.true_and]
    cases d1 : decide ((l.length : Int) ≤ hi) with
    | false =>
      rw [Bool.false_and]
      walk_at "evr"
    | true =>
      rw [Bool.true_and]
      have it : itemsOf (.str (tx l)) = some (l.map fun c => .str (tx [c])) := by rw [r_itS]; rfl
      have hk := lck_map (bd := bN 3) (e := le_is_letters_1) (dl := [some (.d (.str (tx l))), some (.d (.int lo)), some (.d (.int hi)), none]) (st := st) (vs := [3]) (xs := l.map fun c => .str (tx [c])) (fun c => .str (tx [c])) (fun c => .bool (decide (c ∈ ([111, 117] : List Nat)))) l rfl (by omega) (fun c _ => by
        have hi := in_ou c
        exact ⟨_, rfl, by unfold le_is_letters_1; walk_at "evr"⟩)
      have ha := pAll_map l (fun c => decide (c ∈ ([111, 117] : List Nat)))
      unfold okL
      generalize l.map (fun c => PyData.bool (decide (c ∈ ([111, 117] : List Nat)))) = BB at *
      walk_at "evr"
theorem isl_non (d : PyData) (lo hi : Int) (st : SE) (h : pIsi "str" d = some (.bool false)) : dn_is_letters [.d d, .d (.int lo), .d (.int hi)] st = some (.ok (.bool false), st) := by
  unfold dn_is_letters sf_is_letters
  walk_at "evr"
/-- what are no halvings -/
def NoH (d : PyData) : Prop := ∀ st, dn_is_letters [.d d, .d (.int 0), .d (.int 60)] st = some (.ok (.bool false), st)
theorem noH_str (l : List Nat) (h : l.length ≤ 10000) (h2 : l.length ≤ 60 → okL l = false) : NoH (.str (tx l)) := fun st => by
  rw [isl_str l 0 60 st h]
  congr 3
  by_cases hl : l.length ≤ 60
  · rw [h2 hl]
    simp
  · rw [decide_eq_false (show ¬ ((l.length : Int) ≤ 60) by omega)]
    simp
theorem noH_non (d : PyData) (h : pIsi "str" d = some (.bool false)) : NoH d := fun st => isl_non d 0 60 st h
theorem isi_sn {d : PyData} (h : kitB (tyN d) "str" = some false) : pIsi "str" d = some (.bool false) := by unfold pIsi; rw [h]; rfl
theorem ish_no {d : PyData} (h : NoH d) (st : SE) : dn_is_halvings [.d d] st = some (.ok (.bool false), st) := by
  unfold dn_is_halvings sf_is_halvings
  have e := h st
  walk_at "evr"
theorem needh_no {d : PyData} (h : NoH d) (st : SE) : dn_need_halvings [.d d] st = some (.ex "NoHalvings" none, st) := by
  unfold dn_need_halvings sf_need_halvings
  have e := ish_no h st
  clear h
  walk_at "evr"
theorem lit_O : ("O" : Str) = tx [79] := lit_ (by decide +kernel)
theorem lit_ox : ("ox" : Str) = tx [111, 120] := lit_ (by decide +kernel)
theorem lit_o_u : ("o u" : Str) = tx [111, 32, 117] := lit_ (by decide +kernel)
theorem lit_oun : ("ou\n" : Str) = tx [111, 117, 10] := lit_ (by decide +kernel)
theorem lit_0 : ("0" : Str) = tx [48] := lit_ (by decide +kernel)
theorem mul_str (l : List Nat) (k : Nat) (h : l.length ≤ 100) (h2 : k ≤ 10000) : pMul (.str (tx l)) (.int (k : Int)) = some (.str (tx (List.replicate k l).flatten)) := by
  unfold pMul
  dsimp only
  rw [if_pos ⟨by rw [tx_length]; exact h, by omega, by omega⟩, tx_toList]
  unfold repL
  rw [Int.toNat_natCast]
theorem none_all : ∀ d ∈ ([.none, .int 5, .list [.str "o"], .tuple [.str "o", .str "u"], .str "O", .str "ox", .str "o u", .str (tx (List.replicate 61 [111]).flatten), .str "ou\n", .str "0", .bool true] : List PyData), NoH d := by
  intro d hd
  simp only [List.mem_cons, List.not_mem_nil, or_false] at hd
  rcases hd with rfl | rfl | rfl | rfl | rfl | rfl | rfl | rfl | rfl | rfl | rfl
  · exact noH_non _ (isi_sn (by decide +kernel))
  · exact noH_non _ (isi_sn (by decide +kernel))
  · exact noH_non _ (isi_sn (by decide +kernel))
  · exact noH_non _ (isi_sn (by decide +kernel))
  · rw [lit_O]; exact noH_str _ (by decide) (fun _ => by decide)
  · rw [lit_ox]; exact noH_str _ (by decide) (fun _ => by decide)
  · rw [lit_o_u]; exact noH_str _ (by decide) (fun _ => by decide)
  · exact noH_str _ (by decide) (fun h => absurd h (by decide))
  · rw [lit_oun]; exact noH_str _ (by decide) (fun _ => by decide)
  · rw [lit_0]; exact noH_str _ (by decide) (fun _ => by decide)
  · exact noH_non _ (isi_sn (by decide +kernel))
theorem none_ok (ns : List Int) (j n : Nat) (st : SE) (hs : st[j]? = some (tw n)) (h1 : n < 999999) (hn : ns.length ≤ 63) :
    ∃ d, d ∈ ([.none, .int 5, .list [.str "o"], .tuple [.str "o", .str "u"], .str "O", .str "ox", .str "o u", .str (tx (List.replicate 61 [111]).flatten), .str "ou\n", .str "0", .bool true] : List PyData) ∧ dn_law_none [.s ns, .o j] st = some (.ok d, st.set j (tw (n + 1))) := by
  unfold dn_law_none sf_law_none
  obtain ⟨x, hx, hp⟩ := pick_ok ns j n [.none, .int 5, .list [.str "o"], .tuple [.str "o", .str "u"], .str "O", .str "ox", .str "o u", .str (tx (List.replicate 61 [111]).flatten), .str "ou\n", .str "0", .bool true] st hs h1 hn (by decide)
  refine ⟨x, hx, ?_⟩
  have m : pMul (.str "o") (.int 61) = some (.str (tx (List.replicate 61 [111]).flatten)) := by
    have := mul_str [111] 61 (by decide) (by decide)
    rw [← lit_o] at this
    exact this
  have e4 := tk_set (st := st) (j := j) (o := tw (n + 1))
  generalize (List.replicate 61 [111]).flatten = o61 at *
  clear hx
  walk_at "evs"
theorem none_no (ns : List Int) (j n : Nat) (st : SE) (hs : st[j]? = some (tw n)) (h1 : n < 999999) (hn : ns.length ≤ 63) : ∃ d, NoH d ∧ dn_law_none [.s ns, .o j] st = some (.ok d, st.set j (tw (n + 1))) := by
  obtain ⟨d, h, e⟩ := none_ok ns j n st hs h1 hn
  exact ⟨d, none_all d h, e⟩
/-- what is no whole number from low to high -/
def NoW (d : PyData) (lo hi : Int) : Prop := ∀ st, dn_is_whole [.d d, .d (.int lo), .d (.int hi)] st = some (.ok (.bool false), st)
theorem noW_non (d : PyData) (lo hi : Int) (h : pIsi "int" d = some (.bool false)) : NoW d lo hi := fun st => by
  unfold dn_is_whole sf_is_whole
  walk_at "evr"
theorem isi_in {d : PyData} (h : kitB (tyN d) "int" = some false) : pIsi "int" d = some (.bool false) := by unfold pIsi; rw [h]; rfl
theorem isi_bi (b : Bool) : pIsi "int" (.bool b) = some (.bool true) := by unfold pIsi tyN; rw [show kitB "bool" "int" = some true by decide +kernel]; rfl
theorem isi_bb' (b : Bool) : pIsi "bool" (.bool b) = some (.bool true) := by unfold pIsi tyN; rw [show kitB "bool" "bool" = some true by decide +kernel]; rfl
theorem noW_bool (b : Bool) (lo hi : Int) : NoW (.bool b) lo hi := fun st => by
  unfold dn_is_whole sf_is_whole
  have i1 := isi_bi b
  have i2 := isi_bb' b
  walk_at "evr"
theorem noW_int (p lo hi : Int) (h : p < lo ∨ hi < p) : NoW (.int p) lo hi := fun st => by
  unfold dn_is_whole sf_is_whole
  have i1 := isi_ii p
  have i2 := isi_ib p
  by_cases h0 : lo ≤ p
  · have d0 : decide (lo ≤ p) = true := decide_eq_true h0
    have d1 : decide (p ≤ hi) = false := decide_eq_false (by omega)
    clear h h0
    walk_at "evr"
  · have d0 : decide (lo ≤ p) = false := decide_eq_false h0
    clear h h0
    walk_at "evr"
theorem needp_no (w : List Bool) (d : PyData) (lo hi : Int) (st : SE) (h : w.length ≤ 60) (hd : NoW d lo hi) : dn_need_place [.d (.str (hs w)), .d d, .d (.int lo), .d (.int hi)] st = some (.ex "NoPlace" (some d), st) := by
  unfold dn_need_place sf_need_place
  have e := needh_ok w st h
  have e2 := hd st
  clear hd
  walk_at "evr"
theorem eq_rfz (i : Nat) : pEq (rfz i) (.tuple [.str "refused", .int (i : Int)]) = some (.bool true) := eq_self (rfz i) (by unfold rfz; rfl)
theorem ne_rfz (i : Nat) : pNe (rfz i) (.tuple [.str "refused", .int (i : Int)]) = some (.bool false) := ne_self (rfz i) (by unfold rfz; rfl)
theorem mul_lst (x : PyData) (k : Nat) (h : k ≤ 10000) : pMul (.list [x]) (.int (k : Int)) = some (.list (List.replicate k x)) := by
  unfold pMul
  dsimp only
  rw [if_pos ⟨by simp, by omega, by omega⟩]
  unfold repL
  rw [Int.toNat_natCast]
  congr 2
  induction k with
  | zero => rfl
  | succ k ih => rw [List.replicate_succ, List.flatten_cons, ih (by omega), List.replicate_succ]; rfl
end DL
set_option autoImplicit false
namespace DL
open PySem PySem.Spec PyProof.Rows L2
local macro_rules | `(tactic| walk_at "ev") => `(tactic| simp only [r_fn, r_Rz, r_RzP, r_Try, r_Tr, r_Tn, r_Te, r_Tk, r_CL, r_cl, r_at0, r_at1, r_at2, r_at3, r_at4, r_hA0, r_hBA0, r_hCA0, r_hA1, r_hA2, r_hBA2, r_hCA2, r_hA3, r_hBA3, r_hCA3, r_hA4, r_hBA4, r_hCA4, r_hA5, r_hBA5, r_hCA5, r_hA6, r_hBA6, r_hCA6, r_hA7, r_hBA7, r_hCA7, r_hA8, r_hBA8, r_hCA8, r_hA9, r_hBA9, r_hCA9, r_hA10, r_hBA10, r_hCA10, r_hA11, r_hBA11, r_hCA11, r_hA12, r_hBA12, r_hCA12, r_hA13, r_hBA13, r_hCA13, r_hA14, r_hBA14, r_hCA14, r_hBP, r_hCP, r_iRv, r_iRo, r_lofL, r_lofT, r_tofL, r_tofT, r_bits, r_tyL, r_eB, r_bnd, r_bo, r_be, r_eR, r_Rs, r_bin, r_un, r_c, r_v, r_vd, r_and, r_or, r_if, r_eA, r_eAo, r_eAe, r_eAD, r_eADo, r_eADe, r_eDk, r_CB, r_aN, r_aD, r_aDo, r_aDe, r_aO, r_aOo, r_cA, r_cAe, r_sv0, r_sv1,
  r_call, r_callo, r_calle, r_O0, r_O1, r_Sl, r_Ch, r_Ch3, r_kT', r_kF, r_M, r_Ln, r_Lns, r_Ix, r_Ixs, r_Nl, r_Nls, r_iD, r_iDo, r_iDe, r_iDj, r_iA, r_iAo, r_iAe, r_iAj, r_Q, r_Qn, r_Qr, r_Qb, r_Qc, r_Qe, r_B, r_Bo, r_Be, r_G, r_R, r_E, r_I, r_N, r_X, r_F, r_Fo, r_lc, r_fnr, r_fnn, r_fne, r_tk,
  r_bT, r_bsN, r_bsC, r_bsK, r_bN, r_IB, r_addI, r_sub, r_neg, r_not, r_min, r_max, r_lenL, r_lenT, r_eqS, r_neS, r_eqI, r_neI, r_slL, r_itS, r_itL, r_itT, r_enS, r_enL, r_zip, r_zipS, r_bs2, r_bs3, r_w0, r_w1, r_tyS, r_IxO, r_IxOo, r_St2, r_CallK, r_dSel, r_s0, r_sl, r_sr, Option.toList_some, and_self, if_true, if_false, Bool.false_eq_true,
  List.map_cons, List.map_nil, List.length_cons, List.length_nil, List.cons_append, List.nil_append, List.replicate, List.getElem?_cons_zero, List.getElem?_cons_succ, List.set_cons_zero, List.set_cons_succ, Option.map_some, Option.map_none, Nat.reduceAdd, Nat.reduceSub])
local macro_rules | `(tactic| walk_at "evs") => `(tactic| simp only [*, r_fn, r_mod, r_fdv, r_mulI, r_shl, r_shr, r_pow, r_rg1, r_rg2, r_tup, r_lst, r_ixS, r_ixL, r_ixT, r_slS, r_lenS, r_addS, r_addL, r_revS, r_Lno, decide_true, decide_false, Nat.le_refl, Nat.reduceLeDiff, Int.reduceLT, Int.reduceLE, Bool.not_true, Bool.not_false, Bool.and_true, Bool.true_and, Bool.and_self, r_Rz, r_RzP, r_Try, r_Tr, r_Tn, r_Te, r_Tk, r_CL, r_cl, r_at0, r_at1, r_at2, r_at3, r_at4, r_hA0, r_hBA0, r_hCA0, r_hA1, r_hA2, r_hBA2, r_hCA2, r_hA3, r_hBA3, r_hCA3, r_hA4, r_hBA4, r_hCA4, r_hA5, r_hBA5, r_hCA5, r_hA6, r_hBA6, r_hCA6, r_hA7, r_hBA7, r_hCA7, r_hA8, r_hBA8, r_hCA8, r_hA9, r_hBA9, r_hCA9, r_hA10, r_hBA10, r_hCA10, r_hA11, r_hBA11, r_hCA11, r_hA12, r_hBA12, r_hCA12, r_hA13, r_hBA13, r_hCA13, r_hA14, r_hBA14, r_hCA14, r_hBP, r_hCP, r_iRv, r_iRo, r_lofL, r_lofT, r_tofL, r_tofT, r_bits, r_tyL, r_eB, r_bnd, r_bo, r_be, r_eR, r_Rs, r_bin, r_un, r_c, r_v, r_vd, r_and, r_or, r_if, r_eA, r_eAo, r_eAe, r_eAD, r_eADo, r_eADe, r_eDk, r_CB, r_aN, r_aD, r_aDo, r_aDe, r_aO, r_aOo, r_cA, r_cAe, r_sv0, r_sv1,
  r_call, r_callo, r_calle, r_O0, r_O1, r_Sl, r_Ch, r_Ch3, r_kT', r_kF, r_M, r_Ln, r_Lns, r_Ix, r_Ixs, r_Nl, r_Nls, r_iD, r_iDo, r_iDe, r_iDj, r_iA, r_iAo, r_iAe, r_iAj, r_Q, r_Qn, r_Qr, r_Qb, r_Qc, r_Qe, r_B, r_Bo, r_Be, r_G, r_R, r_E, r_I, r_N, r_X, r_F, r_Fo, r_lc, r_fnr, r_fnn, r_fne, r_tk,
  r_bT, r_bsN, r_bsC, r_bsK, r_bN, r_IB, r_addI, r_sub, r_neg, r_not, r_min, r_max, r_lenL, r_lenT, r_eqS, r_neS, r_eqI, r_neI, r_slL, r_itS, r_itL, r_itT, r_enS, r_enL, r_zip, r_zipS, r_bs2, r_bs3, r_w0, r_w1, r_tyS, r_IxO, r_IxOo, r_St2, r_CallK, r_dSel, r_s0, r_sl, r_sr, Option.toList_some, and_self, if_true, if_false, Bool.false_eq_true,
  List.map_cons, List.map_nil, List.length_cons, List.length_nil, List.cons_append, List.nil_append, List.replicate, List.getElem?_cons_zero, List.getElem?_cons_succ, List.set_cons_zero, List.set_cons_succ, Option.map_some, Option.map_none, Nat.reduceAdd, Nat.reduceSub])
local macro_rules | `(tactic| walk_at "evr") => `(tactic| ((walk_at "evs") <;> rfl))
/-! ### the halvings of the laws of refusals -/
theorem hpick_ok (ns : List Int) (hn : ns.length ≤ 63) : ∃ w w1 w2 n1 n2, w.length ≤ 60 ∧ n2 ≤ 99 ∧ dn_law_halvings [.s ns, .o 0, .d (.int 8)] [tw 0] = some (.ok (.str (hs w1)), [tw n1]) ∧ dn_law_far [.s ns, .o 0] [tw n1] = some (.ok (.str (hs w2)), [tw n2]) ∧
    dn_law_pick [.s ns, .o 0, .d (.list [.str "", .str "o", .str (hs w1), .str (hs w2)])] [tw n2] = some (.ok (.str (hs w)), [tw (n2 + 1)]) := by
  have s1 : ∀ n m, ([tw n] : SE).set 0 (tw m) = [tw m] := fun _ _ => rfl
  obtain ⟨w1, n1, hw1, hn1, e1⟩ := halvings_ok ns 0 0 8 [tw 0] rfl (by decide) hn (by decide)
  rw [s1, show ((8 : Nat) : Int) = 8 from rfl] at e1
  obtain ⟨w2, n2, _, hw2, hn2, e2⟩ := far_ok ns 0 n1 [tw n1] rfl (by omega) hn
  rw [s1] at e2
  obtain ⟨x, hx, p⟩ := pick_ok ns 0 n2 [.str "", .str "o", .str (hs w1), .str (hs w2)] [tw n2] rfl (by omega) hn (by simp)
  rw [s1] at p
  obtain ⟨w, hw, rfl⟩ : ∃ w : List Bool, w.length ≤ 60 ∧ x = .str (hs w) := by
    simp only [List.mem_cons, List.not_mem_nil, or_false] at hx
    rcases hx with rfl | rfl | rfl | rfl
    · exact ⟨[], by decide, by rw [lit_e]; rfl⟩
    · exact ⟨[true], by decide, by rw [lit_o]; rfl⟩
    · exact ⟨w1, by omega, rfl⟩
    · exact ⟨w2, by omega, rfl⟩
  exact ⟨w, w1, w2, n1, n2, hw, by omega, e1, e2, p⟩
theorem nones_ok (ns : List Int) (ask : FF) (dl : DE) (v n m : Nat) (hn : ns.length ≤ 63) (hm : m + n < 900000) (h0 : dl[0]? = some (some (.s ns))) (h1 : dl[1]? = some (some (.o 0))) (hv : 2 ≤ v) (hv2 : v < dl.length) (hask : ∀ (i : Nat) (bad : PyData) (st : SE), i < n → NoH bad → ask [.d (.int (i : Int)), .d bad, .d .none, .d .none] st = some (.ok (rfz 0), st)) :
    lcK (some (.ok (rangeL 0 (n : Int)), [tw m])) [v] (bN v) (eC (.bool true)) (eCall ask (aD (eV v) (aD (eCall dn_law_none (aO 0 (aO 1 (aN)))) (aD (eC .none) (aD (eC .none) (aN)))))) dl = some (.ok (.list (List.replicate n (rfz 0))), [tw (m + n)]) := by
  have hl : (rangeL 0 (n : Int)).length = n := by rw [rangeL_len]; omega
  obtain ⟨ys, st', e, hI⟩ := lck_inv (bd := bN v) (t := eC (.bool true)) (e := eCall ask (aD (eV v) (aD (eCall dn_law_none (aO 0 (aO 1 (aN)))) (aD (eC .none) (aD (eC .none) (aN)))))) (dl := dl) (vs := [v]) (xs := rangeL 0 (n : Int)) (st := [tw m]) (fun i acc st => acc = List.replicate i (rfz 0) ∧ st = [tw (m + i)]) (by omega) ⟨rfl, rfl⟩ (fun j x acc st ej hI => by
    obtain ⟨rfl, rfl⟩ := hI
    obtain ⟨rfl, hj⟩ := rangeL_get ej
    have hj' : j < n := by omega
    rw [show (0 : Int) + (j : Int) = (j : Int) by omega]
    obtain ⟨bad, hb, e⟩ := none_no ns 0 (m + j) [tw (m + j)] rfl (by omega) hn
    rw [show ([tw (m + j)] : SE).set 0 (tw (m + j + 1)) = [tw (m + j + 1)] from rfl] at e
    have ea := hask j bad [tw (m + j + 1)] hj' hb
    have g0 : (wipeD dl [v])[0]? = some (some (.s ns)) := by show (dl.set v none)[0]? = _; rw [List.getElem?_set_ne (by omega)]; exact h0
    have g1 : (wipeD dl [v])[1]? = some (some (.o 0)) := by show (dl.set v none)[1]? = _; rw [List.getElem?_set_ne (by omega)]; exact h1
    have gl : v < (wipeD dl [v]).length := by show v < (dl.set v none).length; simpa using hv2
    generalize wipeD dl [v] = D at *
    have k0 : (D.set v (some (.d (.int (j : Int)))))[0]? = some (some (.s ns)) := by rw [List.getElem?_set_ne (by omega)]; exact g0
    have k1 : (D.set v (some (.d (.int (j : Int)))))[1]? = some (some (.o 0)) := by rw [List.getElem?_set_ne (by omega)]; exact g1
    have kv : (D.set v (some (.d (.int (j : Int)))))[v]? = some (some (.d (.int (j : Int)))) := List.getElem?_set_self gl
    refine ⟨D.set v (some (.d (.int (j : Int)))), [tw (m + j)], rfz 0, [tw (m + j + 1)], rfl, rfl, ?_, by rw [← List.replicate_succ'], by rw [Nat.add_assoc]⟩
    generalize D.set v (some (.d (.int (j : Int)))) = D2 at *
    clear hask hb g0 g1 h0 h1
    walk_at "evs")
  rw [e, hI.1, hI.2, hl]
theorem ne_reps (n : Nat) (x : PyData) (h : dpt 7 x = true) : pNe (.list (List.replicate n x)) (.list (List.replicate n x)) = some (.bool false) := ne_self _ (by
  show (List.replicate n x).all (dpt 7) = true
  rw [List.all_eq_true]
  intro y hy
  rw [List.eq_of_mem_replicate hy]
  exact h)
theorem lit_1 : ("1" : Str) = tx [49] := lit_ (by decide +kernel)
theorem lit_3 : ("3" : Str) = tx [51] := lit_ (by decide +kernel)
/-- texts, lists and so on are no whole numbers -/
theorem noW_n (lo hi : Int) : NoW .none lo hi := noW_non _ _ _ (isi_in (by decide +kernel))
theorem noW_s (x : Str) (lo hi : Int) : NoW (.str x) lo hi := noW_non _ _ _ (isi_in (by show kitB "str" "int" = some false; decide +kernel))
theorem noW_l (x : List PyData) (lo hi : Int) : NoW (.list x) lo hi := noW_non _ _ _ (isi_in (by show kitB "list" "int" = some false; decide +kernel))
theorem noW_t (x : List PyData) (lo hi : Int) : NoW (.tuple x) lo hi := noW_non _ _ _ (isi_in (by show kitB "tuple" "int" = some false; decide +kernel))
theorem ne_place (d : PyData) (h : dpt 7 d = true) : pNe (.tuple [.str "place", d]) (.tuple [.str "place", d]) = some (.bool false) := ne_self _ (by
  show ([.str "place", d] : List PyData).all (dpt 7) = true
  rw [List.all_cons, List.all_cons, h]
  rfl)
/-! ### a loop over a few things, each of which changes nothing -/
theorem forGo_few {bd : BF} {body : SF} {st : SE} (I : DE → Prop) (xs : List PyData) (dl : DE) (h0 : I dl) (hs : ∀ x ∈ xs, ∀ dl, I dl → ∃ dl1 dl2, bd x dl = some dl1 ∧ body dl1 st = some (.nx, dl2, st) ∧ I dl2) : ∃ dl', forGo bd body xs dl st = some (.nx, dl', st) ∧ I dl' := by
  obtain ⟨dl', st', e, h1, h2⟩ := forGo_inv (bd := bd) (body := body) (fun _ dl s => s = st ∧ I dl) xs 0 dl st ⟨rfl, h0⟩ (fun j x dl s ej hI => by
    obtain ⟨rfl, hI⟩ := hI
    obtain ⟨dl1, dl2, e1, e2, h⟩ := hs x (List.mem_of_getElem? ej) dl hI
    exact ⟨dl1, dl2, s, e1, e2, rfl, h⟩)
  subst h1
  exact ⟨dl', e, h2⟩
end DL
set_option autoImplicit false
namespace DL
open PySem PySem.Spec PyProof.Rows L2
local macro_rules | `(tactic| walk_at "ev") => `(tactic| simp only [r_fn, r_Rz, r_RzP, r_Try, r_Tr, r_Tn, r_Te, r_Tk, r_CL, r_cl, r_at0, r_at1, r_at2, r_at3, r_at4, r_hA0, r_hBA0, r_hCA0, r_hA1, r_hA2, r_hBA2, r_hCA2, r_hA3, r_hBA3, r_hCA3, r_hA4, r_hBA4, r_hCA4, r_hA5, r_hBA5, r_hCA5, r_hA6, r_hBA6, r_hCA6, r_hA7, r_hBA7, r_hCA7, r_hA8, r_hBA8, r_hCA8, r_hA9, r_hBA9, r_hCA9, r_hA10, r_hBA10, r_hCA10, r_hA11, r_hBA11, r_hCA11, r_hA12, r_hBA12, r_hCA12, r_hA13, r_hBA13, r_hCA13, r_hA14, r_hBA14, r_hCA14, r_hBP, r_hCP, r_iRv, r_iRo, r_lofL, r_lofT, r_tofL, r_tofT, r_bits, r_tyL, r_eB, r_bnd, r_bo, r_be, r_eR, r_Rs, r_bin, r_un, r_c, r_v, r_vd, r_and, r_or, r_if, r_eA, r_eAo, r_eAe, r_eAD, r_eADo, r_eADe, r_eDk, r_CB, r_aN, r_aD, r_aDo, r_aDe, r_aO, r_aOo, r_cA, r_cAe, r_sv0, r_sv1,
  r_call, r_callo, r_calle, r_O0, r_O1, r_Sl, r_Ch, r_Ch3, r_kT', r_kF, r_M, r_Ln, r_Lns, r_Ix, r_Ixs, r_Nl, r_Nls, r_iD, r_iDo, r_iDe, r_iDj, r_iA, r_iAo, r_iAe, r_iAj, r_Q, r_Qn, r_Qr, r_Qb, r_Qc, r_Qe, r_B, r_Bo, r_Be, r_G, r_R, r_E, r_I, r_N, r_X, r_F, r_Fo, r_lc, r_fnr, r_fnn, r_fne, r_tk,
  r_bT, r_bsN, r_bsC, r_bsK, r_bN, r_IB, r_addI, r_sub, r_neg, r_not, r_min, r_max, r_lenL, r_lenT, r_eqS, r_neS, r_eqI, r_neI, r_slL, r_itS, r_itL, r_itT, r_enS, r_enL, r_zip, r_zipS, r_bs2, r_bs3, r_w0, r_w1, r_tyS, r_IxO, r_IxOo, r_St2, r_CallK, r_dSel, r_s0, r_sl, r_sr, Option.toList_some, and_self, if_true, if_false, Bool.false_eq_true,
  List.map_cons, List.map_nil, List.length_cons, List.length_nil, List.cons_append, List.nil_append, List.replicate, List.getElem?_cons_zero, List.getElem?_cons_succ, List.set_cons_zero, List.set_cons_succ, Option.map_some, Option.map_none, Nat.reduceAdd, Nat.reduceSub])
local macro_rules | `(tactic| walk_at "evs") => `(tactic| simp only [*, r_fn, r_mod, r_fdv, r_mulI, r_shl, r_shr, r_pow, r_rg1, r_rg2, r_tup, r_lst, r_ixS, r_ixL, r_ixT, r_slS, r_lenS, r_addS, r_addL, r_revS, r_Lno, decide_true, decide_false, Nat.le_refl, Nat.reduceLeDiff, Int.reduceLT, Int.reduceLE, Bool.not_true, Bool.not_false, Bool.and_true, Bool.true_and, Bool.and_self, r_Rz, r_RzP, r_Try, r_Tr, r_Tn, r_Te, r_Tk, r_CL, r_cl, r_at0, r_at1, r_at2, r_at3, r_at4, r_hA0, r_hBA0, r_hCA0, r_hA1, r_hA2, r_hBA2, r_hCA2, r_hA3, r_hBA3, r_hCA3, r_hA4, r_hBA4, r_hCA4, r_hA5, r_hBA5, r_hCA5, r_hA6, r_hBA6, r_hCA6, r_hA7, r_hBA7, r_hCA7, r_hA8, r_hBA8, r_hCA8, r_hA9, r_hBA9, r_hCA9, r_hA10, r_hBA10, r_hCA10, r_hA11, r_hBA11, r_hCA11, r_hA12, r_hBA12, r_hCA12, r_hA13, r_hBA13, r_hCA13, r_hA14, r_hBA14, r_hCA14, r_hBP, r_hCP, r_iRv, r_iRo, r_lofL, r_lofT, r_tofL, r_tofT, r_bits, r_tyL, r_eB, r_bnd, r_bo, r_be, r_eR, r_Rs, r_bin, r_un, r_c, r_v, r_vd, r_and, r_or, r_if, r_eA, r_eAo, r_eAe, r_eAD, r_eADo, r_eADe, r_eDk, r_CB, r_aN, r_aD, r_aDo, r_aDe, r_aO, r_aOo, r_cA, r_cAe, r_sv0, r_sv1,
  r_call, r_callo, r_calle, r_O0, r_O1, r_Sl, r_Ch, r_Ch3, r_kT', r_kF, r_M, r_Ln, r_Lns, r_Ix, r_Ixs, r_Nl, r_Nls, r_iD, r_iDo, r_iDe, r_iDj, r_iA, r_iAo, r_iAe, r_iAj, r_Q, r_Qn, r_Qr, r_Qb, r_Qc, r_Qe, r_B, r_Bo, r_Be, r_G, r_R, r_E, r_I, r_N, r_X, r_F, r_Fo, r_lc, r_fnr, r_fnn, r_fne, r_tk,
  r_bT, r_bsN, r_bsC, r_bsK, r_bN, r_IB, r_addI, r_sub, r_neg, r_not, r_min, r_max, r_lenL, r_lenT, r_eqS, r_neS, r_eqI, r_neI, r_slL, r_itS, r_itL, r_itT, r_enS, r_enL, r_zip, r_zipS, r_bs2, r_bs3, r_w0, r_w1, r_tyS, r_IxO, r_IxOo, r_St2, r_CallK, r_dSel, r_s0, r_sl, r_sr, Option.toList_some, and_self, if_true, if_false, Bool.false_eq_true,
  List.map_cons, List.map_nil, List.length_cons, List.length_nil, List.cons_append, List.nil_append, List.replicate, List.getElem?_cons_zero, List.getElem?_cons_succ, List.set_cons_zero, List.set_cons_succ, Option.map_some, Option.map_none, Nat.reduceAdd, Nat.reduceSub])
local macro_rules | `(tactic| walk_at "evr") => `(tactic| ((walk_at "evs") <;> rfl))
/-! ### sorted whole numbers -/
def srtN (S : List Nat) : List Nat := S.mergeSort fun a b => decide (a ≤ b)
def inN (n : Nat) : PyData := .int (n : Int)
theorem leD_int (a b : Int) : leD (.int a) (.int b) = decide (a ≤ b) := by
  unfold leD
  rw [PySem.W.dataLe_eq]
  show (!PySem.W.dataLt (.int b) (.int a)) = _
  rw [PySem.W.dataLt_int]
  by_cases h : a ≤ b
  · rw [decide_eq_true h, decide_eq_false (by omega)]; rfl
  · rw [decide_eq_false h, decide_eq_true (by omega)]; rfl
theorem srt_nat (S : List Nat) : (S.map inN).mergeSort leD = (srtN S).map inN := by
  unfold srtN
  rw [List.map_mergeSort]
  intro a _ b _
  unfold inN
  rw [leD_int]
  by_cases h : a ≤ b
  · rw [decide_eq_true h, decide_eq_true (by omega)]
  · rw [decide_eq_false h, decide_eq_false (by omega)]
theorem one1_nat (S : List Nat) : one1 (S.map inN) = true := by
  unfold one1
  have e : S.map inN = (S.map fun n : Nat => (n : Int)).map PyData.int := by rw [List.map_map]; rfl
  rw [e, intsOf_map]
  rfl
theorem sort_nat (S : List Nat) (h : S.length ≤ 1000000) : pSort [.list (S.map inN)] = some (.list ((srtN S).map inN)) := by
  unfold pSort
  dsimp only
  rw [if_pos ⟨one1_nat S, by simpa using h⟩, srt_nat]
theorem srtN_len (S : List Nat) : (srtN S).length = S.length := by unfold srtN; rw [List.length_mergeSort]
theorem srtN_mem {S : List Nat} {n : Nat} (h : n ∈ srtN S) : n ∈ S := by unfold srtN at h; exact (List.mergeSort_perm _ _).mem_iff.mp h
/-! ### holes -/
/-- the segments at heights from a on, so many -/
def sgS (w : List Bool) (a n : Nat) : List Nat := (List.range n).map fun i => SgL w.reverse (a + i)
theorem sgS_len (w : List Bool) (a n : Nat) : (sgS w a n).length = n := by unfold sgS; simp
def hlL (w : List Bool) (p q a n : Nat) : List PyData := (srtN (sgS w a n)).map fun s => lt2 (mk p q s) q
theorem mk_pos (p q s : Nat) (h0 : 0 < p) (h1 : p < q) : 0 < mk p q s := by
  have := (mk_mono p q s h0 h1).2.1
  omega
theorem holes_ok (w : List Bool) (p q a n : Nat) (st : SE) (h : w.length ≤ 8) (h0 : 0 < p) (h1 : p < q) (h2 : q ≤ 1000) (h3 : a < 2 ^ w.length) (h4 : 0 < n) (h5 : a + n ≤ 2 ^ w.length) :
    dn_holes [.d (.str (hs w)), .d (.int (p : Int)), .d (.int (q : Int)), .d (.int (a : Int)), .d (.int (n : Int))] st = some (.ok (.list (hlL w p q a n)), st) := by
  unfold dn_holes sf_holes
  have hle : 2 ^ w.length ≤ 2 ^ 8 := Nat.pow_le_pow_right (by decide) h
  have e1 := needcut_ok w p q st h h0 h1 h2
  have e2 := long_ok w st (by omega)
  have e3 := needp_ok w (a : Int) 0 (((2 ^ w.length : Nat) : Int) - 1) st (by omega) (by omega) (by omega)
  have e4 := needp_ok w (n : Int) 1 (((2 ^ w.length : Nat) : Int) - (a : Int)) st (by omega) (by omega) (by omega)
  have i1 : inLine (a : Int) = true := in_nat _ (by omega)
  have i2 : inLine ((a : Int) + (n : Int)) = true := in_line (by omega) (by omega)
  have l1 := lck_map (bd := bN 6) (e := le_holes_1) (dl := [some (.d (.str (hs w))), some (.d (.int (p : Int))), some (.d (.int (q : Int))), some (.d (.int (a : Int))), some (.d (.int (n : Int))), none, none, none]) (st := st) (vs := [6]) (xs := rangeL (a : Int) ((a : Int) + (n : Int))) (fun (i : Nat) => .int ((a : Int) + (i : Int))) (fun i => inN (SgL w.reverse (a + i))) (List.range n) (by unfold rangeL; rw [show ((a : Int) + (n : Int) - (a : Int)).toNat = n by omega]) (by simp; omega) (fun i hi => by
    refine ⟨_, rfl, ?_⟩
    have hi' := List.mem_range.mp hi
    have e := segmentof_ok w (a + i) st (by omega) (by omega)
    rw [show ((a + i : Nat) : Int) = (a : Int) + (i : Int) by omega] at e
    unfold le_holes_1 inN
    clear hle h5
    walk_at "evs")
  have eS : (List.range n).map (fun i => inN (SgL w.reverse (a + i))) = (sgS w a n).map inN := by unfold sgS; rw [List.map_map]; rfl
  rw [eS] at l1
  have so := sort_nat (sgS w a n) (by rw [sgS_len]; omega)
  have hll : (srtN (sgS w a n)).length ≤ 1000000 := by rw [srtN_len, sgS_len]; omega
  have l2 := lck_map (bd := bN 7) (e := le_holes_2) (dl := [some (.d (.str (hs w))), some (.d (.int (p : Int))), some (.d (.int (q : Int))), some (.d (.int (a : Int))), some (.d (.int (n : Int))), some (.d (.list ((sgS w a n).map inN))), none, none]) (st := st) (vs := [7]) (xs := (srtN (sgS w a n)).map inN) inN (fun s => lt2 (mk p q s) q) (srtN (sgS w a n)) rfl hll (fun s hs => by
    refine ⟨_, rfl, ?_⟩
    have e5 := markin_ok p q s st h1 h2
    have e6 := leastt_ok (mk p q s) q st (mk_pos p q s h0 h1) (by omega) (by omega)
    unfold le_holes_2 inN
    clear hle h5 eS l1 so
    walk_at "evs")
  unfold hlL
  clear hle h5 eS
  generalize (sgS w a n).map inN = AA at *
  generalize (srtN (sgS w a n)).map inN = BB at *
  generalize (srtN (sgS w a n)).map (fun s => lt2 (mk p q s) q) = CC at *
  walk_at "evs"
theorem hlL_len (w : List Bool) (p q a n : Nat) : (hlL w p q a n).length = n := by unfold hlL; rw [List.length_map, srtN_len, sgS_len]
end DL
set_option autoImplicit false
namespace DL
open PySem PySem.Spec PyProof.Rows L2
local macro_rules | `(tactic| walk_at "ev") => `(tactic| simp only [r_fn, r_Rz, r_RzP, r_Try, r_Tr, r_Tn, r_Te, r_Tk, r_CL, r_cl, r_at0, r_at1, r_at2, r_at3, r_at4, r_hA0, r_hBA0, r_hCA0, r_hA1, r_hA2, r_hBA2, r_hCA2, r_hA3, r_hBA3, r_hCA3, r_hA4, r_hBA4, r_hCA4, r_hA5, r_hBA5, r_hCA5, r_hA6, r_hBA6, r_hCA6, r_hA7, r_hBA7, r_hCA7, r_hA8, r_hBA8, r_hCA8, r_hA9, r_hBA9, r_hCA9, r_hA10, r_hBA10, r_hCA10, r_hA11, r_hBA11, r_hCA11, r_hA12, r_hBA12, r_hCA12, r_hA13, r_hBA13, r_hCA13, r_hA14, r_hBA14, r_hCA14, r_hBP, r_hCP, r_iRv, r_iRo, r_lofL, r_lofT, r_tofL, r_tofT, r_bits, r_tyL, r_eB, r_bnd, r_bo, r_be, r_eR, r_Rs, r_bin, r_un, r_c, r_v, r_vd, r_and, r_or, r_if, r_eA, r_eAo, r_eAe, r_eAD, r_eADo, r_eADe, r_eDk, r_CB, r_aN, r_aD, r_aDo, r_aDe, r_aO, r_aOo, r_cA, r_cAe, r_sv0, r_sv1,
  r_call, r_callo, r_calle, r_O0, r_O1, r_Sl, r_Ch, r_Ch3, r_kT', r_kF, r_M, r_Ln, r_Lns, r_Ix, r_Ixs, r_Nl, r_Nls, r_iD, r_iDo, r_iDe, r_iDj, r_iA, r_iAo, r_iAe, r_iAj, r_Q, r_Qn, r_Qr, r_Qb, r_Qc, r_Qe, r_B, r_Bo, r_Be, r_G, r_R, r_E, r_I, r_N, r_X, r_F, r_Fo, r_lc, r_fnr, r_fnn, r_fne, r_tk,
  r_bT, r_bsN, r_bsC, r_bsK, r_bN, r_IB, r_addI, r_sub, r_neg, r_not, r_min, r_max, r_lenL, r_lenT, r_eqS, r_neS, r_eqI, r_neI, r_slL, r_itS, r_itL, r_itT, r_enS, r_enL, r_zip, r_zipS, r_bs2, r_bs3, r_w0, r_w1, r_tyS, r_IxO, r_IxOo, r_St2, r_CallK, r_dSel, r_s0, r_sl, r_sr, Option.toList_some, and_self, if_true, if_false, Bool.false_eq_true,
  List.map_cons, List.map_nil, List.length_cons, List.length_nil, List.cons_append, List.nil_append, List.replicate, List.getElem?_cons_zero, List.getElem?_cons_succ, List.set_cons_zero, List.set_cons_succ, Option.map_some, Option.map_none, Nat.reduceAdd, Nat.reduceSub])
local macro_rules | `(tactic| walk_at "evs") => `(tactic| simp only [*, r_fn, r_mod, r_fdv, r_mulI, r_shl, r_shr, r_pow, r_rg1, r_rg2, r_tup, r_lst, r_ixS, r_ixL, r_ixT, r_slS, r_lenS, r_addS, r_addL, r_revS, r_Lno, decide_true, decide_false, Nat.le_refl, Nat.reduceLeDiff, Int.reduceLT, Int.reduceLE, Bool.not_true, Bool.not_false, Bool.and_true, Bool.true_and, Bool.and_self, r_Rz, r_RzP, r_Try, r_Tr, r_Tn, r_Te, r_Tk, r_CL, r_cl, r_at0, r_at1, r_at2, r_at3, r_at4, r_hA0, r_hBA0, r_hCA0, r_hA1, r_hA2, r_hBA2, r_hCA2, r_hA3, r_hBA3, r_hCA3, r_hA4, r_hBA4, r_hCA4, r_hA5, r_hBA5, r_hCA5, r_hA6, r_hBA6, r_hCA6, r_hA7, r_hBA7, r_hCA7, r_hA8, r_hBA8, r_hCA8, r_hA9, r_hBA9, r_hCA9, r_hA10, r_hBA10, r_hCA10, r_hA11, r_hBA11, r_hCA11, r_hA12, r_hBA12, r_hCA12, r_hA13, r_hBA13, r_hCA13, r_hA14, r_hBA14, r_hCA14, r_hBP, r_hCP, r_iRv, r_iRo, r_lofL, r_lofT, r_tofL, r_tofT, r_bits, r_tyL, r_eB, r_bnd, r_bo, r_be, r_eR, r_Rs, r_bin, r_un, r_c, r_v, r_vd, r_and, r_or, r_if, r_eA, r_eAo, r_eAe, r_eAD, r_eADo, r_eADe, r_eDk, r_CB, r_aN, r_aD, r_aDo, r_aDe, r_aO, r_aOo, r_cA, r_cAe, r_sv0, r_sv1,
  r_call, r_callo, r_calle, r_O0, r_O1, r_Sl, r_Ch, r_Ch3, r_kT', r_kF, r_M, r_Ln, r_Lns, r_Ix, r_Ixs, r_Nl, r_Nls, r_iD, r_iDo, r_iDe, r_iDj, r_iA, r_iAo, r_iAe, r_iAj, r_Q, r_Qn, r_Qr, r_Qb, r_Qc, r_Qe, r_B, r_Bo, r_Be, r_G, r_R, r_E, r_I, r_N, r_X, r_F, r_Fo, r_lc, r_fnr, r_fnn, r_fne, r_tk,
  r_bT, r_bsN, r_bsC, r_bsK, r_bN, r_IB, r_addI, r_sub, r_neg, r_not, r_min, r_max, r_lenL, r_lenT, r_eqS, r_neS, r_eqI, r_neI, r_slL, r_itS, r_itL, r_itT, r_enS, r_enL, r_zip, r_zipS, r_bs2, r_bs3, r_w0, r_w1, r_tyS, r_IxO, r_IxOo, r_St2, r_CallK, r_dSel, r_s0, r_sl, r_sr, Option.toList_some, and_self, if_true, if_false, Bool.false_eq_true,
  List.map_cons, List.map_nil, List.length_cons, List.length_nil, List.cons_append, List.nil_append, List.replicate, List.getElem?_cons_zero, List.getElem?_cons_succ, List.set_cons_zero, List.set_cons_succ, Option.map_some, Option.map_none, Nat.reduceAdd, Nat.reduceSub])
local macro_rules | `(tactic| walk_at "evr") => `(tactic| ((walk_at "evs") <;> rfl))
/-! ### columns -/
/-- what lies at the spot c, from beneath, of a strip halved so, W segments wide then; the letters from the last one -/
def colN (l : List Bool) (W c : Nat) : List Nat := (List.range (2 ^ l.length)).map fun h => SgL l h * W + (if SgL l h % 2 = 0 then c else W - 1 - c)
theorem colN_len (l : List Bool) (W c : Nat) : (colN l W c).length = 2 ^ l.length := by unfold colN; simp
theorem colN_get (l : List Bool) (W c h : Nat) (hh : h < 2 ^ l.length) : (colN l W c)[h]? = some (SgL l h * W + (if SgL l h % 2 = 0 then c else W - 1 - c)) := by
  unfold colN
  rw [List.getElem?_map, List.getElem?_range hh]
  rfl
theorem colN_nil (W c : Nat) : colN [] W c = [c] := by
  unfold colN SgL
  simp
theorem col_one (s W c : Nat) (hc : c < W) : s * (2 * W) + (if s % 2 = 0 then c else 2 * W - 1 - c) = (2 * s + s % 2) * W + (if (2 * s + s % 2) % 2 = 0 then c else W - 1 - c) := by
  have e : s * (2 * W) = 2 * s * W := by rw [← Nat.mul_assoc, Nat.mul_comm s 2]
  rw [e, Nat.add_mul]
  by_cases h : s % 2 = 0
  · rw [if_pos h, if_pos (by omega), h]; omega
  · rw [if_neg h, if_neg (by omega), show s % 2 = 1 by omega]; omega
theorem col_two (s W c : Nat) (hc : c < W) : s * (2 * W) + (if s % 2 = 0 then 2 * W - 1 - c else 2 * W - 1 - (2 * W - 1 - c)) = (2 * s + (1 + s) % 2) * W + (if (2 * s + (1 + s) % 2) % 2 = 0 then c else W - 1 - c) := by
  have e : s * (2 * W) = 2 * s * W := by rw [← Nat.mul_assoc, Nat.mul_comm s 2]
  rw [e, Nat.add_mul]
  by_cases h : s % 2 = 0
  · rw [if_pos h, if_neg (by omega), show (1 + s) % 2 = 1 by omega]; omega
  · rw [if_neg h, if_pos (by omega), show (1 + s) % 2 = 0 by omega]; omega
theorem SgL_o (l : List Bool) (h : Nat) : SgL (true :: l) h = if 2 ^ l.length ≤ h then 2 * SgL l (2 * 2 ^ l.length - 1 - h) + (1 + SgL l (2 * 2 ^ l.length - 1 - h)) % 2 else 2 * SgL l h + SgL l h % 2 := by
  rw [SgL_cons]
  by_cases hr : 2 ^ l.length ≤ h <;> simp [hr]
theorem SgL_u (l : List Bool) (h : Nat) : SgL (false :: l) h = if h < 2 ^ l.length then 2 * SgL l (2 ^ l.length - 1 - h) + (1 + SgL l (2 ^ l.length - 1 - h)) % 2 else 2 * SgL l (h - 2 ^ l.length) + SgL l (h - 2 ^ l.length) % 2 := by
  rw [SgL_cons]
  by_cases hr : h < 2 ^ l.length <;> simp [hr]
theorem col_step (b : Bool) (l : List Bool) (W c : Nat) (hc : c < W) : colN (b :: l) W c = if b then colN l (2 * W) c ++ (colN l (2 * W) (2 * W - 1 - c)).reverse else (colN l (2 * W) (2 * W - 1 - c)).reverse ++ colN l (2 * W) c := by
  have hp : 0 < 2 ^ l.length := Nat.pow_pos (by decide)
  have hl2 : 2 ^ (b :: l).length = 2 ^ l.length + 2 ^ l.length := by rw [List.length_cons, Nat.pow_succ]; omega
  apply List.ext_getElem?
  intro h
  by_cases hh : h < 2 ^ (b :: l).length
  · rw [colN_get _ _ _ _ hh]
    have rev : ∀ k, k < 2 ^ l.length → ((colN l (2 * W) (2 * W - 1 - c)).reverse)[k]? = some (SgL l (2 ^ l.length - 1 - k) * (2 * W) + (if SgL l (2 ^ l.length - 1 - k) % 2 = 0 then 2 * W - 1 - c else 2 * W - 1 - (2 * W - 1 - c))) := fun k hk => by
      rw [List.getElem?_reverse (by rw [colN_len]; exact hk), colN_len, colN_get _ _ _ _ (by omega)]
    have one : ∀ k, k < 2 ^ l.length → (colN l (2 * W) c)[k]? = some (SgL l k * (2 * W) + (if SgL l k % 2 = 0 then c else 2 * W - 1 - c)) := fun k hk => colN_get _ _ _ _ hk
    cases b with
    | true =>
      rw [SgL_o]
      simp only [if_true]
      by_cases hr : 2 ^ l.length ≤ h
      · rw [if_pos hr, List.getElem?_append_right (by rw [colN_len]; exact hr), colN_len, rev _ (by omega), show 2 ^ l.length - 1 - (h - 2 ^ l.length) = 2 * 2 ^ l.length - 1 - h by omega, col_two _ _ _ hc]
      · rw [if_neg hr, List.getElem?_append_left (by rw [colN_len]; omega), one _ (by omega), col_one _ _ _ hc]
    | false =>
      rw [SgL_u]
      simp only [Bool.false_eq_true, if_false]
      by_cases hr : h < 2 ^ l.length
      · rw [if_pos hr, List.getElem?_append_left (by rw [List.length_reverse, colN_len]; exact hr), rev _ hr, col_two _ _ _ hc]
      · rw [if_neg hr, List.getElem?_append_right (by rw [List.length_reverse, colN_len]; omega), List.length_reverse, colN_len, one _ (by omega), col_one _ _ _ hc]
  · rw [List.getElem?_eq_none (by rw [colN_len]; omega), List.getElem?_eq_none]
    cases b <;> simp [colN_len] <;> omega
/-- the columns, as data -/
def colD (l : List Bool) (W c : Nat) : PyData := .list ((colN l W c).map inN)
def colsD (l : List Bool) (W : Nat) : List PyData := (List.range W).map (colD l W)
theorem colsD_len (l : List Bool) (W : Nat) : (colsD l W).length = W := by unfold colsD; simp
theorem colsD_get (l : List Bool) (W c : Nat) (h : c < W) : (colsD l W)[c]? = some (colD l W c) := by
  unfold colsD
  rw [List.getElem?_map, List.getElem?_range h]
  rfl
theorem colD_rev (l : List Bool) (W c : Nat) : pRev (colD l W c) = some (.list ((colN l W c).reverse.map inN)) := by
  unfold colD pRev
  rw [List.map_reverse]
theorem zip_maps (f g : Nat → PyData) (n : Nat) : zipL ((List.range n).map f) ((List.range n).map g) = (List.range n).map fun i => .tuple [f i, g i] := by
  apply List.ext_getElem?
  intro i
  by_cases hi : i < n
  · rw [zipL_get _ _ i (f i) (g i) (by rw [List.getElem?_map, List.getElem?_range hi]; rfl) (by rw [List.getElem?_map, List.getElem?_range hi]; rfl), List.getElem?_map, List.getElem?_range hi]
    rfl
  · rw [List.getElem?_eq_none (by rw [zipL_len]; simp; omega), List.getElem?_eq_none (by simpa using hi)]
theorem columns_ok (w : List Bool) (W : Nat) (st : SE) (hW : 0 < W) (hs1 : 2 ^ w.length * W ≤ 100000) (hw : w.length ≤ 16) : dn_law_columns [.d (.str (hs w)), .d (.int ((2 ^ w.length * W : Nat) : Int))] st = some (.ok (.list (colsD w.reverse W)), st) := by
  unfold dn_law_columns sf_law_columns
  have i1 : inLine ((2 ^ w.length * W : Nat) : Int) = true := in_nat _ (by omega)
  have l1 := lck_map (bd := bN 6) (e := le_law_columns_1) (dl := [some (.d (.str (hs w))), some (.d (.int ((2 ^ w.length * W : Nat) : Int))), none, none, none, none, none, none, none, none]) (st := st) (vs := [6]) (xs := rangeL 0 ((2 ^ w.length * W : Nat) : Int)) (fun (i : Nat) => .int (0 + (i : Int))) (colD [] (2 ^ w.length * W)) (List.range (2 ^ w.length * W)) (by unfold rangeL; rw [show (((2 ^ w.length * W : Nat) : Int) - 0).toNat = 2 ^ w.length * W by omega]) (by simp; omega) (fun i hi => by
    refine ⟨_, rfl, ?_⟩
    rw [show (0 : Int) + (i : Int) = (i : Int) by omega]
    unfold le_law_columns_1 colD
    rw [colN_nil]
    show _ = some (Rs.ok (.list [.int (i : Int)]), st)
    clear i1 hs1
    walk_at "evs")
  have eC : (List.range (2 ^ w.length * W)).map (colD [] (2 ^ w.length * W)) = colsD [] (2 ^ w.length * W) := rfl
  rw [eC] at l1
  have it := it_hs w
  obtain ⟨dl', st', e, hst, x3, x4, x5, hI⟩ := forGo_inv (bd := bN 3) (body := lb_law_columns_1) (fun i dl s => s = st ∧ ∃ (x3 x4 x5 : Option SV), dl = [some (.d (.str (hs w))), some (.d (.int ((2 ^ w.length * W : Nat) : Int))), some (.d (.list (colsD (w.take i).reverse (2 ^ (w.length - i) * W)))), x3, x4, x5, none, none, none, none])
    (w.map fun b => .str (tx [oc b])) 0 [some (.d (.str (hs w))), some (.d (.int ((2 ^ w.length * W : Nat) : Int))), some (.d (.list (colsD [] (2 ^ w.length * W)))), none, none, none, none, none, none, none] st ⟨rfl, none, none, none, rfl⟩ (fun j z dl s ej hI => by
      obtain ⟨rfl, x3, x4, x5, rfl⟩ := hI
      rw [Nat.zero_add]
      rw [List.getElem?_map] at ej
      cases hv : w[j]? with
      | none => rw [hv] at ej; cases ej
      | some b =>
        rw [hv] at ej
        cases ej
        have hjl : j < w.length := (List.getElem?_eq_some_iff.mp hv).1
        have htk : (w.take (j + 1)).reverse = b :: (w.take j).reverse := by rw [List.take_add_one, hv, List.reverse_append]; rfl
        have hlen : (w.take j).reverse.length = j := by rw [List.length_reverse, List.length_take]; omega
        have hw2 : 2 ^ (w.length - j) * W = 2 * (2 ^ (w.length - (j + 1)) * W) := by rw [show w.length - j = w.length - (j + 1) + 1 by omega, Nat.pow_succ, Nat.mul_comm _ 2, Nat.mul_assoc]
        have hVb : 2 ^ (w.length - (j + 1)) * W ≤ 100000 := by
          refine Nat.le_trans (Nat.mul_le_mul_right _ (Nat.pow_le_pow_right (by decide) ?_)) hs1
          omega
        have hVp : 0 < 2 ^ (w.length - (j + 1)) * W := Nat.mul_pos (Nat.pow_pos (by decide)) hW
        have hjp : 2 ^ j ≤ 2 ^ 16 := Nat.pow_le_pow_right (by decide) (by omega)
        rw [htk, hw2]
        generalize (w.take j).reverse = l at *
        generalize 2 ^ (w.length - (j + 1)) * W = V at *
        have hlL : pLen [.list (colsD l (2 * V))] = some (.int ((2 * V : Nat) : Int)) := by rw [r_lenL, colsD_len]
        have hf : ((2 * V : Nat) : Int) / 2 = (V : Int) := by omega
        have c1 : cutL (colsD l (2 * V)) (some (V : Int)) none = (colsD l (2 * V)).drop V := cut_drop _ V
        have c2 : cutL (colsD l (2 * V)) none (some (V : Int)) = (colsD l (2 * V)).take V := cut_take _ V
        have rv : pRev (.list ((colsD l (2 * V)).drop V)) = some (.list ((List.range V).map fun c => colD l (2 * V) (2 * V - 1 - c))) := by
          have er : ((colsD l (2 * V)).drop V).reverse = (List.range V).map fun c => colD l (2 * V) (2 * V - 1 - c) := by
           apply List.ext_getElem?
           intro i
           by_cases hi : i < V
           · rw [List.getElem?_reverse (by simp [colsD_len]; omega), List.getElem?_drop, colsD_get _ _ _ (by simp [colsD_len]; omega), List.getElem?_map, List.getElem?_range hi]
             rw [List.length_drop, colsD_len, Option.map_some, show V + (2 * V - V - 1 - i) = 2 * V - 1 - i by omega]
           · rw [List.getElem?_eq_none (by simp [colsD_len]; omega), List.getElem?_eq_none (by simpa using hi)]
          rw [← er]
          rfl
        have tkE : (colsD l (2 * V)).take V = (List.range V).map fun c => colD l (2 * V) c := by
          apply List.ext_getElem?
          intro i
          by_cases hi : i < V
          · rw [List.getElem?_take_of_lt hi, colsD_get _ _ _ (by omega), List.getElem?_map, List.getElem?_range hi]
            rfl
          · rw [List.getElem?_eq_none (by simp [colsD_len]; omega), List.getElem?_eq_none (by simpa using hi)]
        have zE := zip_maps (fun c => colD l (2 * V) c) (fun c => .list ((colN l (2 * V) (2 * V - 1 - c)).reverse.map inN)) V
        have l2 := lck_map (bd := bN 7) (e := le_law_columns_2) (dl := [some (.d (.str (hs w))), some (.d (.int ((2 ^ w.length * W : Nat) : Int))), some (.d (.list (colsD l (2 * V)))), some (.d (.str (tx [oc b]))), some (.d (.int (V : Int))), x5, none, none, none, none]) (st := s) (vs := [7]) (xs := (List.range V).map fun c => colD l (2 * V) (2 * V - 1 - c)) (fun c => colD l (2 * V) (2 * V - 1 - c)) (fun c => .list ((colN l (2 * V) (2 * V - 1 - c)).reverse.map inN)) (List.range V) rfl (by simp; omega) (fun c _ => by
          refine ⟨_, rfl, ?_⟩
          have er := colD_rev l (2 * V) (2 * V - 1 - c)
          generalize colD l (2 * V) (2 * V - 1 - c) = CD at *
          unfold le_law_columns_2
          clear l1 hw2 htk hs1 hVb zE tkE rv c1 c2 hlen
          walk_at "evs")
        have so := sgn_o b
        have l3 := lck_map (bd := bT (bsC (bN 8) (bsC (bN 9) (bsN)))) (e := le_law_columns_3) (dl := [some (.d (.str (hs w))), some (.d (.int ((2 ^ w.length * W : Nat) : Int))), some (.d (.list (colsD l (2 * V)))), some (.d (.str (tx [oc b]))), some (.d (.int (V : Int))), some (.d (.list ((List.range V).map fun c => .list ((colN l (2 * V) (2 * V - 1 - c)).reverse.map inN)))), none, none, none, none]) (st := s) (vs := [8, 9]) (xs := zipL ((List.range V).map fun c => colD l (2 * V) c) ((List.range V).map fun c => .list ((colN l (2 * V) (2 * V - 1 - c)).reverse.map inN))) (fun c => .tuple [colD l (2 * V) c, .list ((colN l (2 * V) (2 * V - 1 - c)).reverse.map inN)]) (colD (b :: l) V) (List.range V) zE (by simp; omega) (fun c hc => by
          refine ⟨_, rfl, ?_⟩
          have hc' := List.mem_range.mp hc
          have es : colD (b :: l) V c = .list (if b then (colN l (2 * V) c).map inN ++ ((colN l (2 * V) (2 * V - 1 - c)).reverse).map inN else ((colN l (2 * V) (2 * V - 1 - c)).reverse).map inN ++ (colN l (2 * V) c).map inN) := by
            unfold colD
            rw [col_step b l V c hc']
            cases b <;> simp
          have hl1 : ((colN l (2 * V) c).map inN).length = 2 ^ j := by rw [List.length_map, colN_len, hlen]
          have hl2 : (((colN l (2 * V) (2 * V - 1 - c)).reverse).map inN).length = 2 ^ j := by rw [List.length_map, List.length_reverse, colN_len, hlen]
          rw [es]
          unfold colD
          generalize (colN l (2 * V) c).map inN = A1 at *
          generalize ((colN l (2 * V) (2 * V - 1 - c)).reverse).map inN = A2 at *
          have a1 : pAdd (.list A1) (.list A2) = some (.list (A1 ++ A2)) := r_addL (by omega)
          have a2 : pAdd (.list A2) (.list A1) = some (.list (A2 ++ A1)) := r_addL (by omega)
          unfold le_law_columns_3
          clear l1 l2 hw2 htk hs1 hVb zE tkE rv c1 c2 hlen es hl1 hl2
          cases b with
          | true => rw [if_pos rfl]; walk_at "evs"
          | false => rw [if_neg (by decide)]; walk_at "evs")
        have eC2 : (List.range V).map (colD (b :: l) V) = colsD (b :: l) V := rfl
        rw [eC2] at l3
        refine ⟨_, [some (.d (.str (hs w))), some (.d (.int ((2 ^ w.length * W : Nat) : Int))), some (.d (.list (colsD (b :: l) V))), some (.d (.str (tx [oc b]))), some (.d (.int (V : Int))), some (.d (.list ((List.range V).map fun c => .list ((colN l (2 * V) (2 * V - 1 - c)).reverse.map inN)))), none, none, none, none], s, rfl, ?_, rfl, _, _, _, rfl⟩
        unfold lb_law_columns_1
        rw [← tkE] at l3
        clear l1 hw2 htk hs1 hVb zE tkE hlen eC2 so
        generalize colsD (b :: l) V = C2 at *
        generalize colsD l (2 * V) = C1 at *
        generalize (List.range V).map (fun c => PyData.list ((colN l (2 * V) (2 * V - 1 - c)).reverse.map inN)) = R1 at *
        generalize (List.range V).map (fun c => colD l (2 * V) (2 * V - 1 - c)) = R0 at *
        walk_at "evs")
  subst hst hI
  rw [Nat.zero_add, List.length_map, List.take_length, Nat.sub_self, Nat.pow_zero, Nat.one_mul] at e
  clear eC hs1
  generalize colsD w.reverse W = C9 at *
  generalize colsD [] (2 ^ w.length * W) = C8 at *
  walk_at "evs"
/-- one column alone: the pile -/
theorem col_pile (w : List Bool) : colN w.reverse 1 0 = sgS w 0 (2 ^ w.length) := by
  unfold colN sgS
  rw [List.length_reverse]
  apply List.map_congr_left
  intro h _
  rw [Nat.mul_one, Nat.zero_add]
  split <;> rfl
theorem columns1_ok (w : List Bool) (st : SE) (hw : w.length ≤ 16) : dn_law_columns [.d (.str (hs w)), .d (.int ((2 ^ w.length : Nat) : Int))] st = some (.ok (.list [.list ((sgS w 0 (2 ^ w.length)).map inN)]), st) := by
  have hle : 2 ^ w.length ≤ 2 ^ 16 := Nat.pow_le_pow_right (by decide) hw
  have e := columns_ok w 1 st (by decide) (by omega) hw
  rw [Nat.mul_one] at e
  rw [e]
  unfold colsD
  rw [show List.range 1 = [0] from rfl, List.map_cons, List.map_nil]
  unfold colD
  rw [col_pile]
end DL
set_option autoImplicit false
namespace DL
open PySem PySem.Spec PyProof.Rows L2
local macro_rules | `(tactic| walk_at "ev") => `(tactic| simp only [r_fn, r_Rz, r_RzP, r_Try, r_Tr, r_Tn, r_Te, r_Tk, r_CL, r_cl, r_at0, r_at1, r_at2, r_at3, r_at4, r_hA0, r_hBA0, r_hCA0, r_hA1, r_hA2, r_hBA2, r_hCA2, r_hA3, r_hBA3, r_hCA3, r_hA4, r_hBA4, r_hCA4, r_hA5, r_hBA5, r_hCA5, r_hA6, r_hBA6, r_hCA6, r_hA7, r_hBA7, r_hCA7, r_hA8, r_hBA8, r_hCA8, r_hA9, r_hBA9, r_hCA9, r_hA10, r_hBA10, r_hCA10, r_hA11, r_hBA11, r_hCA11, r_hA12, r_hBA12, r_hCA12, r_hA13, r_hBA13, r_hCA13, r_hA14, r_hBA14, r_hCA14, r_hBP, r_hCP, r_iRv, r_iRo, r_lofL, r_lofT, r_tofL, r_tofT, r_bits, r_tyL, r_eB, r_bnd, r_bo, r_be, r_eR, r_Rs, r_bin, r_un, r_c, r_v, r_vd, r_and, r_or, r_if, r_eA, r_eAo, r_eAe, r_eAD, r_eADo, r_eADe, r_eDk, r_CB, r_aN, r_aD, r_aDo, r_aDe, r_aO, r_aOo, r_cA, r_cAe, r_sv0, r_sv1,
  r_call, r_callo, r_calle, r_O0, r_O1, r_Sl, r_Ch, r_Ch3, r_kT', r_kF, r_M, r_Ln, r_Lns, r_Ix, r_Ixs, r_Nl, r_Nls, r_iD, r_iDo, r_iDe, r_iDj, r_iA, r_iAo, r_iAe, r_iAj, r_Q, r_Qn, r_Qr, r_Qb, r_Qc, r_Qe, r_B, r_Bo, r_Be, r_G, r_R, r_E, r_I, r_N, r_X, r_F, r_Fo, r_lc, r_fnr, r_fnn, r_fne, r_tk,
  r_bT, r_bsN, r_bsC, r_bsK, r_bN, r_IB, r_addI, r_sub, r_neg, r_not, r_min, r_max, r_lenL, r_lenT, r_eqS, r_neS, r_eqI, r_neI, r_slL, r_itS, r_itL, r_itT, r_enS, r_enL, r_zip, r_zipS, r_bs2, r_bs3, r_w0, r_w1, r_tyS, r_IxO, r_IxOo, r_St2, r_CallK, r_dSel, r_s0, r_sl, r_sr, Option.toList_some, and_self, if_true, if_false, Bool.false_eq_true,
  List.map_cons, List.map_nil, List.length_cons, List.length_nil, List.cons_append, List.nil_append, List.replicate, List.getElem?_cons_zero, List.getElem?_cons_succ, List.set_cons_zero, List.set_cons_succ, Option.map_some, Option.map_none, Nat.reduceAdd, Nat.reduceSub])
local macro_rules | `(tactic| walk_at "evs") => `(tactic| simp only [*, r_fn, r_mod, r_fdv, r_mulI, r_shl, r_shr, r_pow, r_rg1, r_rg2, r_tup, r_lst, r_ixS, r_ixL, r_ixT, r_slS, r_lenS, r_addS, r_addL, r_revS, r_Lno, decide_true, decide_false, Nat.le_refl, Nat.reduceLeDiff, Int.reduceLT, Int.reduceLE, Bool.not_true, Bool.not_false, Bool.and_true, Bool.true_and, Bool.and_self, r_Rz, r_RzP, r_Try, r_Tr, r_Tn, r_Te, r_Tk, r_CL, r_cl, r_at0, r_at1, r_at2, r_at3, r_at4, r_hA0, r_hBA0, r_hCA0, r_hA1, r_hA2, r_hBA2, r_hCA2, r_hA3, r_hBA3, r_hCA3, r_hA4, r_hBA4, r_hCA4, r_hA5, r_hBA5, r_hCA5, r_hA6, r_hBA6, r_hCA6, r_hA7, r_hBA7, r_hCA7, r_hA8, r_hBA8, r_hCA8, r_hA9, r_hBA9, r_hCA9, r_hA10, r_hBA10, r_hCA10, r_hA11, r_hBA11, r_hCA11, r_hA12, r_hBA12, r_hCA12, r_hA13, r_hBA13, r_hCA13, r_hA14, r_hBA14, r_hCA14, r_hBP, r_hCP, r_iRv, r_iRo, r_lofL, r_lofT, r_tofL, r_tofT, r_bits, r_tyL, r_eB, r_bnd, r_bo, r_be, r_eR, r_Rs, r_bin, r_un, r_c, r_v, r_vd, r_and, r_or, r_if, r_eA, r_eAo, r_eAe, r_eAD, r_eADo, r_eADe, r_eDk, r_CB, r_aN, r_aD, r_aDo, r_aDe, r_aO, r_aOo, r_cA, r_cAe, r_sv0, r_sv1,
  r_call, r_callo, r_calle, r_O0, r_O1, r_Sl, r_Ch, r_Ch3, r_kT', r_kF, r_M, r_Ln, r_Lns, r_Ix, r_Ixs, r_Nl, r_Nls, r_iD, r_iDo, r_iDe, r_iDj, r_iA, r_iAo, r_iAe, r_iAj, r_Q, r_Qn, r_Qr, r_Qb, r_Qc, r_Qe, r_B, r_Bo, r_Be, r_G, r_R, r_E, r_I, r_N, r_X, r_F, r_Fo, r_lc, r_fnr, r_fnn, r_fne, r_tk,
  r_bT, r_bsN, r_bsC, r_bsK, r_bN, r_IB, r_addI, r_sub, r_neg, r_not, r_min, r_max, r_lenL, r_lenT, r_eqS, r_neS, r_eqI, r_neI, r_slL, r_itS, r_itL, r_itT, r_enS, r_enL, r_zip, r_zipS, r_bs2, r_bs3, r_w0, r_w1, r_tyS, r_IxO, r_IxOo, r_St2, r_CallK, r_dSel, r_s0, r_sl, r_sr, Option.toList_some, and_self, if_true, if_false, Bool.false_eq_true,
  List.map_cons, List.map_nil, List.length_cons, List.length_nil, List.cons_append, List.nil_append, List.replicate, List.getElem?_cons_zero, List.getElem?_cons_succ, List.set_cons_zero, List.set_cons_succ, Option.map_some, Option.map_none, Nat.reduceAdd, Nat.reduceSub])
local macro_rules | `(tactic| walk_at "evr") => `(tactic| ((walk_at "evs") <;> rfl))
/-! ### endless strips -/
def xL (ld rg : List Bool) (i : Nat) : Bool := (if i < ld.length then ld[i]? else rg[(i - ld.length) % rg.length]?).getD false
def preL (ld rg : List Bool) (n : Nat) : List Bool := (List.range n).map (xL ld rg)
def enD (ld rg : List Bool) : PyData := .tuple [.str (hs ld), .str (hs rg)]
theorem preL_len (ld rg : List Bool) (n : Nat) : (preL ld rg n).length = n := by unfold preL; simp
theorem preL_get (ld rg : List Bool) (n i : Nat) (h : i < n) : (preL ld rg n)[i]? = some (xL ld rg i) := by
  unfold preL
  rw [List.getElem?_map, List.getElem?_range h]
  rfl
theorem preL_succ (ld rg : List Bool) (n : Nat) : preL ld rg (n + 1) = preL ld rg n ++ [xL ld rg n] := by
  unfold preL
  rw [List.range_succ, List.map_append]
  rfl
theorem hb_pre (ld rg : List Bool) (n t : Nat) (h : t < 2 ^ n) : ∀ k, hbL (preL ld rg (n + k)) t = hbL (preL ld rg n) t
  | 0 => rfl
  | k + 1 => by
    have hm : 2 ^ n ≤ 2 ^ (n + k) := Nat.pow_le_pow_right (by omega) (by omega)
    rw [← Nat.add_assoc, preL_succ, hbL_A _ _ t (by rw [preL_len]; omega), hb_pre ld rg n t h k]
theorem hb_pre2 (ld rg : List Bool) (n m t : Nat) (h : t < 2 ^ n) (h2 : t < 2 ^ m) : hbL (preL ld rg n) t = hbL (preL ld rg m) t := by
  rcases Nat.le_total n m with h3 | h3
  · obtain ⟨k, rfl⟩ := Nat.le.dest h3; rw [hb_pre ld rg n t h k]
  · obtain ⟨k, rfl⟩ := Nat.le.dest h3; rw [hb_pre ld rg m t h2 k]
theorem pt_pre (ld rg : List Bool) (n t : Nat) (h : t ≤ 2 ^ n) : ∀ k, ptL (preL ld rg (n + k)) t = ptL (preL ld rg n) t
  | 0 => rfl
  | k + 1 => by
    have hm : 2 ^ n ≤ 2 ^ (n + k) := Nat.pow_le_pow_right (by omega) (by omega)
    rw [← Nat.add_assoc, preL_succ, ptL_A _ _ t (by rw [preL_len]; omega), pt_pre ld rg n t h k]
theorem pt_pre2 (ld rg : List Bool) (n m t : Nat) (h : t ≤ 2 ^ n) (h2 : t ≤ 2 ^ m) : ptL (preL ld rg n) t = ptL (preL ld rg m) t := by
  rcases Nat.le_total n m with h3 | h3
  · obtain ⟨k, rfl⟩ := Nat.le.dest h3; rw [pt_pre ld rg n t h k]
  · obtain ⟨k, rfl⟩ := Nat.le.dest h3; rw [pt_pre ld rg m t h2 k]
theorem bits_lt (p : Nat) : p < 2 ^ (Builtin.Int.intBits (p : Int)) := by
  have := (PySem.intBits_le_iff (x := (p : Int)) (m := Builtin.Int.intBits (p : Int))).mp (Nat.le_refl _)
  simpa using this
theorem bits_le (p m : Nat) (h : p < 2 ^ m) : Builtin.Int.intBits (p : Int) ≤ m := by
  refine PySem.intBits_le_iff.mpr ?_
  simpa using h
theorem letterat_ok (ld rg : List Bool) (i : Nat) (st : SE) (h1 : ld.length ≤ 20) (h2 : rg.length ≤ 20) (h0 : 0 < rg.length) : dn_letter_at [.d (enD ld rg), .d (.int (i : Int))] st = some (.ok (.str (tx [oc (xL ld rg i)])), st) := by
  unfold dn_letter_at sf_letter_at enD
  have l1 := len_hs ld (by omega)
  have l2 := len_hs rg (by omega)
  have tk : st.take st.length = st := List.take_length
  by_cases hi : i < ld.length
  · have e : ld[i]? = some (xL ld rg i) := by unfold xL; rw [if_pos hi, List.getElem?_eq_getElem hi]; rfl
    have ix := ix_hs ld i _ (by omega) e
    have c : pLt (.int (i : Int)) (.int (ld.length : Int)) = some (.bool true) := by unfold pLt; rw [r_IB, decide_eq_true (by omega)]
    clear e
    generalize xL ld rg i = b at *
    walk_at "evs"
  · have hm : (i - ld.length) % rg.length < rg.length := Nat.mod_lt _ h0
    have e : rg[(i - ld.length) % rg.length]? = some (xL ld rg i) := by unfold xL; rw [if_neg hi, List.getElem?_eq_getElem hm]; rfl
    have ix := ix_hs rg _ _ (by omega) e
    have c : pLt (.int (i : Int)) (.int (ld.length : Int)) = some (.bool false) := by unfold pLt; rw [r_IB, decide_eq_false (by omega)]
    have sb : pSub (.int (i : Int)) (.int (ld.length : Int)) = some (.int ((i - ld.length : Nat) : Int)) := by rw [r_sub]; congr 2; omega
    have md : pMod (.int ((i - ld.length : Nat) : Int)) (.int (rg.length : Int)) = some (.int (((i - ld.length) % rg.length : Nat) : Int)) := by
      rw [r_mod (by omega)]; rfl
    clear e hi hm
    generalize xL ld rg i = b at *
    generalize (i - ld.length) % rg.length = k at *
    generalize i - ld.length = k2 at *
    walk_at "evs"
theorem rev_range (n : Nat) : (rangeL 0 (n : Int)).reverse = ((List.range n).reverse).map fun (k : Nat) => PyData.int (k : Int) := by
  unfold rangeL
  rw [← List.map_reverse]
  simp
theorem first_ok (ld rg : List Bool) (n : Nat) (st : SE) (h1 : ld.length ≤ 20) (h2 : rg.length ≤ 20) (h0 : 0 < rg.length) (hn : n ≤ 1000) : dn_first_letters [.d (enD ld rg), .d (.int (n : Int))] st = some (.ok (.str (hs (preL ld rg n).reverse)), st) := by
  unfold dn_first_letters sf_first_letters
  have il := in_nat n (by omega)
  have lc := lck_map (bd := bN 2) (e := le_first_letters_1) (dl := [some (.d (enD ld rg)), some (.d (.int (n : Int))), none]) (st := st) (vs := [2]) (xs := (rangeL 0 (n : Int)).reverse) (fun (k : Nat) => PyData.int (k : Int)) (fun k => .str (tx [oc (xL ld rg k)])) (List.range n).reverse (rev_range n) (by simp; omega) (fun k _ => by
    refine ⟨_, rfl, ?_⟩
    have e := letterat_ok ld rg k st h1 h2 h0
    unfold le_first_letters_1
    generalize enD ld rg = D at *
    generalize xL ld rg k = b at *
    walk_at "evs")
  have ro : iRvk (some (.ok (.int (n : Int)), st)) = some (.ok (rangeL 0 (n : Int)).reverse, st) := r_iRo il
  have lq : ("" : Str) = Str.ofString "" := rfl
  have tk : st.take st.length = st := List.take_length
  have jn := join_oc (preL ld rg n).reverse (by rw [List.length_reverse, preL_len]; omega)
  have e : (preL ld rg n).reverse.map (fun b => PyData.str (tx [oc b])) = (List.range n).reverse.map fun k => .str (tx [oc (xL ld rg k)]) := by
    unfold preL
    rw [← List.map_reverse, List.map_map]
    rfl
  rw [e] at jn
  clear e
  generalize (rangeL 0 (n : Int)).reverse = R at *
  generalize (List.range n).reverse.map (fun k => PyData.str (tx [oc (xL ld rg k)])) = LL at *
  generalize enD ld rg = D at *
  generalize (preL ld rg n).reverse = V at *
  walk_at "evs"
theorem isend_ok (ld rg : List Bool) (st : SE) (h1 : ld.length ≤ 20) (h2 : rg.length ≤ 20) (h0 : 0 < rg.length) : dn_is_endless [.d (enD ld rg)] st = some (.ok (.bool true), st) := by
  unfold dn_is_endless sf_is_endless enD
  have t1 : pIsi "tuple" (.tuple [.str (hs ld), .str (hs rg)]) = some (.bool true) := by unfold pIsi tyN; rw [show kitB "tuple" "tuple" = some true by decide +kernel]; rfl
  have nn : pNe (.int ((2 : Nat) : Int)) (.int 2) = some (.bool false) := rfl
  have lt2 : pLen [.tuple [.str (hs ld), .str (hs rg)]] = some (.int 2) := rfl
  have n2 : pNe (.int 2) (.int 2) = some (.bool false) := rfl
  have x0 : atI [PyData.str (hs ld), .str (hs rg)] 0 = some (.str (hs ld)) := rfl
  have x1 : atI [PyData.str (hs ld), .str (hs rg)] 1 = some (.str (hs rg)) := rfl
  have tk : st.take st.length = st := List.take_length
  have a1 := isl_ok ld 0 20 st (by omega) (by omega) (by omega)
  have a2 := isl_ok rg 1 20 st (by omega) (by omega) (by omega)
  walk_at "evs"
theorem needend_ok (ld rg : List Bool) (st : SE) (h1 : ld.length ≤ 20) (h2 : rg.length ≤ 20) (h0 : 0 < rg.length) : dn_need_endless [.d (enD ld rg)] st = some (.ok .none, st) := by
  unfold dn_need_endless sf_need_endless
  have a1 := isend_ok ld rg st h1 h2 h0
  generalize enD ld rg = D at *
  walk_at "evs"
theorem needfar_ok (p lo : Int) (st : SE) (h0 : lo ≤ p) (h1 : p ≤ 10000000000000000000000000000000000000000) : dn_need_far [.d (.int p), .d (.int lo)] st = some (.ok .none, st) := by
  unfold dn_need_far sf_need_far
  have e := needp_ok [] p lo 10000000000000000000000000000000000000000 st (by decide) h0 h1
  rw [show hs [] = "" from lit_e.symm] at e
  walk_at "evs"
theorem far_lt {p : Nat} (h : p ≤ 10000000000000000000000000000000000000000) : p < 2 ^ 140 := by omega
theorem ecrease_ok (ld rg : List Bool) (p n : Nat) (st : SE) (h1 : ld.length ≤ 20) (h2 : rg.length ≤ 20) (h0 : 0 < rg.length) (hp : 0 < p) (hp2 : p ≤ 10000000000000000000000000000000000000000) (hn : p < 2 ^ n) :
    dn_endless_crease [.d (enD ld rg), .d (.int (p : Int))] st = some (.ok (sg (cr (preL ld rg n) p)), st) := by
  unfold dn_endless_crease sf_endless_crease
  have e1 := needend_ok ld rg st h1 h2 h0
  have e2 := needfar_ok (p : Int) 1 st (by omega) (by omega)
  obtain ⟨s, q, rfl⟩ := dec_odd p hp
  have hs1 : s < n := lt_pow_of_dec hn
  have hs2 : s < 140 := lt_pow_of_dec (far_lt hp2)
  have e3 := level_ok s q st (by omega)
  have e4 := letterat_ok ld rg s st h1 h2 h0
  have sh : pShr (.int ((2 ^ s * (2 * q + 1) : Nat) : Int)) (.int (s : Int)) = some (.int ((2 * q + 1 : Nat) : Int)) := by
    rw [r_shr (by omega)]
    rw [show ((s : Int)).toNat = s by omega, show ((2 : Int) ^ s) = ((2 ^ s : Nat) : Int) by rw [Int.natCast_pow]; rfl]
    congr 2
    rw [← Int.natCast_ediv, Nat.mul_div_cancel_left _ (Nat.two_pow_pos s)]
  have e5 := sign_ok (xL ld rg s) ((2 * q + 1 : Nat) : Int) st
  rw [cr_dec s (preL ld rg n) q _ (preL_get ld rg n s hs1)]
  rw [show decide (((2 * q + 1 : Nat) : Int) % 4 = 1) = decide (q % 2 = 0) by
    by_cases hq : q % 2 = 0
    · rw [decide_eq_true hq, decide_eq_true (by omega)]
    · rw [decide_eq_false hq, decide_eq_false (by omega)]] at e5
  have tk : st.take st.length = st := List.take_length
  clear hp hp2 hn
  generalize enD ld rg = D at *
  generalize xL ld rg s = b at *
  generalize ((2 ^ s * (2 * q + 1) : Nat) : Int) = P at *
  walk_at "evs"
theorem ehollows_ok (ld rg : List Bool) (p n : Nat) (st : SE) (h1 : ld.length ≤ 20) (h2 : rg.length ≤ 20) (h0 : 0 < rg.length) (hp : 0 < p) (hp2 : p ≤ 10000000000000000000000000000000000000000) (hn : p - 1 < 2 ^ n) :
    dn_endless_hollows [.d (enD ld rg), .d (.int (p : Int))] st = some (.ok (.int ((hbL (preL ld rg n) (p - 1) : Nat) : Int)), st) := by
  unfold dn_endless_hollows sf_endless_hollows
  have e1 := needend_ok ld rg st h1 h2 h0
  have e2 := needfar_ok (p : Int) 1 st (by omega) (by omega)
  have b1 := bits_lt p
  have b2 := bits_le p 140 (far_lt hp2)
  have bt : pBits (.int (p : Int)) = some (.int ((Builtin.Int.intBits (p : Int) : Nat) : Int)) := r_bits
  generalize Builtin.Int.intBits (p : Int) = m at *
  have e3 := first_ok ld rg m st h1 h2 h0 (by omega)
  have e4 := below_ok (preL ld rg m).reverse p st (by rw [List.length_reverse, preL_len]; omega) hp
  rw [List.reverse_reverse, hb_pre2 ld rg m n (p - 1) (by omega) hn] at e4
  have tk : st.take st.length = st := List.take_length
  generalize hbL (preL ld rg n) (p - 1) = R at *
  generalize (preL ld rg m).reverse = V at *
  generalize enD ld rg = D at *
  clear b1 b2 hn hp hp2
  walk_at "evs"
theorem epoint_ok (ld rg : List Bool) (p n : Nat) (st : SE) (h1 : ld.length ≤ 20) (h2 : rg.length ≤ 20) (h0 : 0 < rg.length) (hp2 : p ≤ 10000000000000000000000000000000000000000) (hn : p ≤ 2 ^ n) :
    dn_endless_point [.d (enD ld rg), .d (.int (p : Int))] st = some (.ok (pd (ptL (preL ld rg n) p)), st) := by
  unfold dn_endless_point sf_endless_point
  have e1 := needend_ok ld rg st h1 h2 h0
  have e2 := needfar_ok (p : Int) 0 st (by omega) (by omega)
  have b1 := bits_lt p
  have b2 := bits_le p 140 (far_lt hp2)
  have bt : pBits (.int (p : Int)) = some (.int ((Builtin.Int.intBits (p : Int) : Nat) : Int)) := r_bits
  generalize Builtin.Int.intBits (p : Int) = m at *
  have e3 := first_ok ld rg m st h1 h2 h0 (by omega)
  have e4 := pointat_ok (preL ld rg m).reverse p st (by rw [List.length_reverse, preL_len]; omega)
  rw [List.reverse_reverse, pt_pre2 ld rg m n p (by omega) hn] at e4
  have tk : st.take st.length = st := List.take_length
  generalize pd (ptL (preL ld rg n) p) = R at *
  generalize (preL ld rg m).reverse = V at *
  generalize enD ld rg = D at *
  clear b1 b2 hn hp2
  walk_at "evs"
theorem begins_ok (ld rg : List Bool) (n : Nat) (st : SE) (h1 : ld.length ≤ 20) (h2 : rg.length ≤ 20) (h0 : 0 < rg.length) (hn : n ≤ 60) :
    dn_begins [.d (enD ld rg), .d (.int (n : Int))] st = some (.ok (.str (hs (preL ld rg n).reverse)), st) := by
  unfold dn_begins sf_begins
  have e1 := needend_ok ld rg st h1 h2 h0
  have e2 := whole_ok (n : Int) 0 60 st (by omega) (by omega)
  have e3 := first_ok ld rg n st h1 h2 h0 (by omega)
  have tk : st.take st.length = st := List.take_length
  generalize enD ld rg = D at *
  generalize (preL ld rg n).reverse = V at *
  walk_at "evs"
/-! ### unrolled by the law -/
theorem unr_get (ld rg : List Bool) (h0 : 0 < rg.length) : ∀ (k i : Nat), i < ld.length + k * rg.length → (ld ++ (List.replicate k rg).flatten)[i]? = some (xL ld rg i) := by
  intro k i hi
  by_cases h : i < ld.length
  · rw [List.getElem?_append_left h]
    unfold xL
    rw [if_pos h, List.getElem?_eq_getElem h]
    rfl
  · rw [List.getElem?_append_right (by omega)]
    have hm : (i - ld.length) % rg.length < rg.length := Nat.mod_lt _ h0
    unfold xL
    rw [if_neg h, List.getElem?_eq_getElem hm]
    rw [show (some rg[(i - ld.length) % rg.length]).getD false = rg[(i - ld.length) % rg.length] from rfl]
    rw [← List.getElem?_eq_getElem hm]
    have hj : i - ld.length < k * rg.length := by omega
    generalize i - ld.length = j at *
    clear hi h hm
    induction k generalizing j with
    | zero => omega
    | succ k ih =>
      rw [List.replicate_succ, List.flatten_cons]
      by_cases hj2 : j < rg.length
      · rw [List.getElem?_append_left hj2, Nat.mod_eq_of_lt hj2]
      · rw [List.getElem?_append_right (by omega), ih (j - rg.length) (by rw [Nat.succ_mul] at hj; omega)]
        rw [← Nat.mod_eq_sub_mod (by omega)]
theorem unr_take (ld rg : List Bool) (h0 : 0 < rg.length) (k n : Nat) (h : n ≤ ld.length + k * rg.length) : (ld ++ (List.replicate k rg).flatten).take n = preL ld rg n := by
  apply List.ext_getElem?
  intro i
  by_cases hi : i < n
  · rw [List.getElem?_take_of_lt hi, unr_get ld rg h0 k i (by omega), preL_get ld rg n i hi]
  · rw [List.getElem?_eq_none (by simp; omega), List.getElem?_eq_none (by rw [preL_len]; omega)]
theorem unrolled_ok (ld rg : List Bool) (n : Nat) (st : SE) (h1 : ld.length ≤ 20) (h2 : rg.length ≤ 20) (h0 : 0 < rg.length) (hn : n ≤ 1000) :
    dn_law_unrolled [.d (enD ld rg), .d (.int (n : Int))] st = some (.ok (.str (hs (preL ld rg n))), st) := by
  unfold dn_law_unrolled sf_law_unrolled
  obtain ⟨dl', st', e, hP⟩ := whGo_inv (c := lw_law_unrolled_1) (body := lb_law_unrolled_1)
    (Post := fun dl s => ∃ k, n ≤ ld.length + k * rg.length ∧ ld.length + k * rg.length ≤ 2000 ∧ s = st ∧ dl = [some (.d (enD ld rg)), some (.d (.int (n : Int))), some (.d (.str (hs (ld ++ (List.replicate k rg).flatten))))])
    (fun m dl s => ∃ k, m = n - (ld.length + k * rg.length) ∧ ld.length + k * rg.length ≤ 2000 ∧ s = st ∧ dl = [some (.d (enD ld rg)), some (.d (.int (n : Int))), some (.d (.str (hs (ld ++ (List.replicate k rg).flatten))))]) (fun m dl s hI => by
      obtain ⟨k, hm, hk, rfl, rfl⟩ := hI
      have hl : (ld ++ (List.replicate k rg).flatten).length = ld.length + k * rg.length := by simp
      have l1 := len_hs (ld ++ (List.replicate k rg).flatten) (by rw [hl]; omega)
      by_cases hc : ld.length + k * rg.length < n
      · right
        refine ⟨s, [some (.d (enD ld rg)), some (.d (.int (n : Int))), some (.d (.str (hs (ld ++ (List.replicate (k + 1) rg).flatten))))], s, n - (ld.length + (k + 1) * rg.length), ?_, ?_, ?_, k + 1, rfl, ?_, rfl, rfl⟩
        · unfold lw_law_unrolled_1
          have c : pLt (.int ((ld ++ (List.replicate k rg).flatten).length : Int)) (.int (n : Int)) = some (.bool true) := by unfold pLt; rw [r_IB, hl, decide_eq_true (by omega)]
          generalize enD ld rg = D at *
          generalize ld ++ (List.replicate k rg).flatten = U at *
          clear hl
          walk_at "evs"
        · unfold lb_law_unrolled_1 enD
          have ad := addH (ld ++ (List.replicate k rg).flatten) rg (by rw [hl]; omega)
          rw [List.append_assoc, show (List.replicate k rg).flatten ++ rg = (List.replicate (k + 1) rg).flatten by rw [List.replicate_succ', List.flatten_append]; simp] at ad
          have x1 : atI [PyData.str (hs ld), .str (hs rg)] 1 = some (.str (hs rg)) := rfl
          generalize ld ++ (List.replicate k rg).flatten = U at *
          generalize ld ++ (List.replicate (k + 1) rg).flatten = U2 at *
          clear hl
          walk_at "evs"
        · rw [Nat.succ_mul]; omega
        · rw [Nat.succ_mul]; omega
      · left
        refine ⟨s, ?_, k, by omega, hk, rfl, rfl⟩
        unfold lw_law_unrolled_1
        have c : pLt (.int ((ld ++ (List.replicate k rg).flatten).length : Int)) (.int (n : Int)) = some (.bool false) := by unfold pLt; rw [r_IB, hl, decide_eq_false (by omega)]
        generalize enD ld rg = D at *
        generalize ld ++ (List.replicate k rg).flatten = U at *
        clear hl
        walk_at "evs")
    10000 (n - ld.length) [some (.d (enD ld rg)), some (.d (.int (n : Int))), some (.d (.str (hs ld)))] st ⟨0, by simp, by omega, rfl, by simp⟩ (by omega)
  obtain ⟨k, hk, hk2, rfl, rfl⟩ := hP
  have hl : (ld ++ (List.replicate k rg).flatten).length = ld.length + k * rg.length := by simp
  have sl := sl_take (ld ++ (List.replicate k rg).flatten) n (by rw [hl]; omega)
  rw [unr_take ld rg h0 k n hk] at sl
  unfold enD at *
  have x0 : atI [PyData.str (hs ld), .str (hs rg)] 0 = some (.str (hs ld)) := rfl
  generalize ld ++ (List.replicate k rg).flatten = U at *
  generalize preL ld rg n = V at *
  have tk : st'.take st'.length = st' := List.take_length
  clear hl
  walk_at "evs"
theorem endless_ok (ns : List Int) (j n : Nat) (st : SE) (hst : st[j]? = some (tw n)) (h1 : n < 700000) (hn : ns.length ≤ 63) :
    ∃ ld rg n', ld.length ≤ 20 ∧ rg.length ≤ 20 ∧ 0 < rg.length ∧ n' ≤ n + 100 ∧ dn_law_endless [.s ns, .o j] st = some (.ok (enD ld rg), st.set j (tw n')) := by
  unfold dn_law_endless sf_law_endless
  obtain ⟨x, hx, e1⟩ := pick_ok ns j n [.int 0, .int 0, .int 1, .int 3, .int 20] st hst (by omega) hn (by decide)
  have hx2 : ∃ a : Nat, x = .int (a : Int) ∧ a ≤ 20 := by
    simp only [List.mem_cons, List.not_mem_nil, or_false] at hx
    rcases hx with rfl | rfl | rfl | rfl | rfl
    · exact ⟨0, rfl, by decide⟩
    · exact ⟨0, rfl, by decide⟩
    · exact ⟨1, rfl, by decide⟩
    · exact ⟨3, rfl, by decide⟩
    · exact ⟨20, rfl, by decide⟩
  obtain ⟨a, rfl, ha⟩ := hx2
  obtain ⟨ld, n2, hl, hn2, e2⟩ := letters_ok ns j (n + 1) a (st.set j (tw (n + 1))) (get_set (n := n) hst) (by omega) hn (by omega)
  rw [List.set_set] at e2
  obtain ⟨y, hy, e3⟩ := pick_ok ns j n2 [.int 1, .int 1, .int 2, .int 3, .int 4, .int 20] (st.set j (tw n2)) (get_set (n := n) hst) (by omega) hn (by decide)
  rw [List.set_set] at e3
  have hy2 : ∃ a : Nat, y = .int (a : Int) ∧ a ≤ 20 ∧ 0 < a := by
    simp only [List.mem_cons, List.not_mem_nil, or_false] at hy
    rcases hy with rfl | rfl | rfl | rfl | rfl | rfl
    · exact ⟨1, rfl, by decide, by decide⟩
    · exact ⟨1, rfl, by decide, by decide⟩
    · exact ⟨2, rfl, by decide, by decide⟩
    · exact ⟨3, rfl, by decide, by decide⟩
    · exact ⟨4, rfl, by decide, by decide⟩
    · exact ⟨20, rfl, by decide, by decide⟩
  obtain ⟨b, rfl, hb, hb0⟩ := hy2
  obtain ⟨rg, n4, hl2, hn4, e4⟩ := letters_ok ns j (n2 + 1) b (st.set j (tw (n2 + 1))) (get_set (n := n) hst) (by omega) hn (by omega)
  rw [List.set_set] at e4
  refine ⟨ld, rg, n4, by omega, by omega, by omega, by omega, ?_⟩
  have tk : (st.set j (tw n4)).take st.length = st.set j (tw n4) := tk_set
  unfold enD
  subst hl hl2
  clear hx hy
  walk_at "evs"
end DL
set_option autoImplicit false
namespace DL
open PySem PySem.Spec PyProof.Rows L2
local macro_rules | `(tactic| walk_at "ev") => `(tactic| simp only [r_fn, r_Rz, r_RzP, r_Try, r_Tr, r_Tn, r_Te, r_Tk, r_CL, r_cl, r_at0, r_at1, r_at2, r_at3, r_at4, r_hA0, r_hBA0, r_hCA0, r_hA1, r_hA2, r_hBA2, r_hCA2, r_hA3, r_hBA3, r_hCA3, r_hA4, r_hBA4, r_hCA4, r_hA5, r_hBA5, r_hCA5, r_hA6, r_hBA6, r_hCA6, r_hA7, r_hBA7, r_hCA7, r_hA8, r_hBA8, r_hCA8, r_hA9, r_hBA9, r_hCA9, r_hA10, r_hBA10, r_hCA10, r_hA11, r_hBA11, r_hCA11, r_hA12, r_hBA12, r_hCA12, r_hA13, r_hBA13, r_hCA13, r_hA14, r_hBA14, r_hCA14, r_hBP, r_hCP, r_iRv, r_iRo, r_lofL, r_lofT, r_tofL, r_tofT, r_bits, r_tyL, r_eB, r_bnd, r_bo, r_be, r_eR, r_Rs, r_bin, r_un, r_c, r_v, r_vd, r_and, r_or, r_if, r_eA, r_eAo, r_eAe, r_eAD, r_eADo, r_eADe, r_eDk, r_CB, r_aN, r_aD, r_aDo, r_aDe, r_aO, r_aOo, r_cA, r_cAe, r_sv0, r_sv1,
  r_call, r_callo, r_calle, r_O0, r_O1, r_Sl, r_Ch, r_Ch3, r_kT', r_kF, r_M, r_Ln, r_Lns, r_Ix, r_Ixs, r_Nl, r_Nls, r_iD, r_iDo, r_iDe, r_iDj, r_iA, r_iAo, r_iAe, r_iAj, r_Q, r_Qn, r_Qr, r_Qb, r_Qc, r_Qe, r_B, r_Bo, r_Be, r_G, r_R, r_E, r_I, r_N, r_X, r_F, r_Fo, r_lc, r_fnr, r_fnn, r_fne, r_tk,
  r_bT, r_bsN, r_bsC, r_bsK, r_bN, r_IB, r_addI, r_sub, r_neg, r_not, r_min, r_max, r_lenL, r_lenT, r_eqS, r_neS, r_eqI, r_neI, r_slL, r_itS, r_itL, r_itT, r_enS, r_enL, r_zip, r_zipS, r_bs2, r_bs3, r_w0, r_w1, r_tyS, r_IxO, r_IxOo, r_St2, r_CallK, r_dSel, r_s0, r_sl, r_sr, Option.toList_some, and_self, if_true, if_false, Bool.false_eq_true,
  List.map_cons, List.map_nil, List.length_cons, List.length_nil, List.cons_append, List.nil_append, List.replicate, List.getElem?_cons_zero, List.getElem?_cons_succ, List.set_cons_zero, List.set_cons_succ, Option.map_some, Option.map_none, Nat.reduceAdd, Nat.reduceSub])
local macro_rules | `(tactic| walk_at "evs") => `(tactic| simp only [*, r_fn, r_mod, r_fdv, r_mulI, r_shl, r_shr, r_pow, r_rg1, r_rg2, r_tup, r_lst, r_ixS, r_ixL, r_ixT, r_slS, r_lenS, r_addS, r_addL, r_revS, r_Lno, decide_true, decide_false, Nat.le_refl, Nat.reduceLeDiff, Int.reduceLT, Int.reduceLE, Bool.not_true, Bool.not_false, Bool.and_true, Bool.true_and, Bool.and_self, r_Rz, r_RzP, r_Try, r_Tr, r_Tn, r_Te, r_Tk, r_CL, r_cl, r_at0, r_at1, r_at2, r_at3, r_at4, r_hA0, r_hBA0, r_hCA0, r_hA1, r_hA2, r_hBA2, r_hCA2, r_hA3, r_hBA3, r_hCA3, r_hA4, r_hBA4, r_hCA4, r_hA5, r_hBA5, r_hCA5, r_hA6, r_hBA6, r_hCA6, r_hA7, r_hBA7, r_hCA7, r_hA8, r_hBA8, r_hCA8, r_hA9, r_hBA9, r_hCA9, r_hA10, r_hBA10, r_hCA10, r_hA11, r_hBA11, r_hCA11, r_hA12, r_hBA12, r_hCA12, r_hA13, r_hBA13, r_hCA13, r_hA14, r_hBA14, r_hCA14, r_hBP, r_hCP, r_iRv, r_iRo, r_lofL, r_lofT, r_tofL, r_tofT, r_bits, r_tyL, r_eB, r_bnd, r_bo, r_be, r_eR, r_Rs, r_bin, r_un, r_c, r_v, r_vd, r_and, r_or, r_if, r_eA, r_eAo, r_eAe, r_eAD, r_eADo, r_eADe, r_eDk, r_CB, r_aN, r_aD, r_aDo, r_aDe, r_aO, r_aOo, r_cA, r_cAe, r_sv0, r_sv1,
  r_call, r_callo, r_calle, r_O0, r_O1, r_Sl, r_Ch, r_Ch3, r_kT', r_kF, r_M, r_Ln, r_Lns, r_Ix, r_Ixs, r_Nl, r_Nls, r_iD, r_iDo, r_iDe, r_iDj, r_iA, r_iAo, r_iAe, r_iAj, r_Q, r_Qn, r_Qr, r_Qb, r_Qc, r_Qe, r_B, r_Bo, r_Be, r_G, r_R, r_E, r_I, r_N, r_X, r_F, r_Fo, r_lc, r_fnr, r_fnn, r_fne, r_tk,
  r_bT, r_bsN, r_bsC, r_bsK, r_bN, r_IB, r_addI, r_sub, r_neg, r_not, r_min, r_max, r_lenL, r_lenT, r_eqS, r_neS, r_eqI, r_neI, r_slL, r_itS, r_itL, r_itT, r_enS, r_enL, r_zip, r_zipS, r_bs2, r_bs3, r_w0, r_w1, r_tyS, r_IxO, r_IxOo, r_St2, r_CallK, r_dSel, r_s0, r_sl, r_sr, Option.toList_some, and_self, if_true, if_false, Bool.false_eq_true,
  List.map_cons, List.map_nil, List.length_cons, List.length_nil, List.cons_append, List.nil_append, List.replicate, List.getElem?_cons_zero, List.getElem?_cons_succ, List.set_cons_zero, List.set_cons_succ, Option.map_some, Option.map_none, Nat.reduceAdd, Nat.reduceSub])
local macro_rules | `(tactic| walk_at "evr") => `(tactic| ((walk_at "evs") <;> rfl))
/-! ### boxes -/
theorem min_spec : ∀ (ns : List Int) (n : Int), (∀ x ∈ n :: ns, ns.foldl min n ≤ x) ∧ ns.foldl min n ∈ n :: ns
  | [], n => ⟨fun x hx => by simp at hx; subst hx; exact Int.le_refl _, by simp⟩
  | m :: ns, n => by
    rw [List.foldl_cons]
    obtain ⟨h1, h2⟩ := min_spec ns (min n m)
    refine ⟨fun x hx => ?_, ?_⟩
    · have h3 := h1 (min n m) (List.mem_cons_self ..)
      rcases List.mem_cons.mp hx with rfl | hx
      · omega
      · rcases List.mem_cons.mp hx with rfl | hx
        · omega
        · exact h1 x (List.mem_cons_of_mem _ hx)
    · rcases List.mem_cons.mp h2 with h2 | h2
      · rw [h2]
        rcases Int.le_total n m with h | h
        · rw [show min n m = n by omega]; exact List.mem_cons_self ..
        · rw [show min n m = m by omega]; exact List.mem_cons_of_mem _ (List.mem_cons_self ..)
      · exact List.mem_cons_of_mem _ (List.mem_cons_of_mem _ h2)
theorem max_spec : ∀ (ns : List Int) (n : Int), (∀ x ∈ n :: ns, x ≤ ns.foldl max n) ∧ ns.foldl max n ∈ n :: ns
  | [], n => ⟨fun x hx => by simp at hx; subst hx; exact Int.le_refl _, by simp⟩
  | m :: ns, n => by
    rw [List.foldl_cons]
    obtain ⟨h1, h2⟩ := max_spec ns (max n m)
    refine ⟨fun x hx => ?_, ?_⟩
    · have h3 := h1 (max n m) (List.mem_cons_self ..)
      rcases List.mem_cons.mp hx with rfl | hx
      · omega
      · rcases List.mem_cons.mp hx with rfl | hx
        · omega
        · exact h1 x (List.mem_cons_of_mem _ hx)
    · rcases List.mem_cons.mp h2 with h2 | h2
      · rw [h2]
        rcases Int.le_total n m with h | h
        · rw [show max n m = m by omega]; exact List.mem_cons_of_mem _ (List.mem_cons_self ..)
        · rw [show max n m = n by omega]; exact List.mem_cons_self ..
      · exact List.mem_cons_of_mem _ (List.mem_cons_of_mem _ h2)
theorem one1_map (ns : List Int) : one1 (ns.map .int) = true := by
  unfold one1
  rw [intsOf_map]
  rfl
theorem minL_ok (n : Int) (ns : List Int) (h : ns.length < 1000000) : pMinL [.list ((n :: ns).map .int)] = some (.int (ns.foldl min n)) := by
  have o := one1_map (n :: ns)
  rw [List.map_cons] at o ⊢
  unfold pMinL
  dsimp only
  rw [if_pos ⟨o, by simpa using h⟩, PySem.W.minD_ints]
theorem maxL_ok (n : Int) (ns : List Int) (h : ns.length < 1000000) : pMaxL [.list ((n :: ns).map .int)] = some (.int (ns.foldl max n)) := by
  have o := one1_map (n :: ns)
  rw [List.map_cons] at o ⊢
  unfold pMaxL
  dsimp only
  rw [if_pos ⟨o, by simpa using h⟩, PySem.W.maxD_ints]
def tnA (b : Bool) (M z : Pt) : Pt := addP M (qrt b (z.1 - M.1, z.2 - M.2))
theorem turnedabout_ok (b : Bool) (M z : Pt) (st : SE) : dn_turned_about [.d (.str (tx [oc b])), .d (pd M), .d (pd z)] st = some (.ok (pd (tnA b M z)), st) := by
  unfold dn_turned_about sf_turned_about
  have m0 := pd0 M
  have m1 := pd1 M
  have z0 := pd0 z
  have z1 := pd1 z
  have so := sgn_o b
  have tk : st.take st.length = st := List.take_length
  cases b with
  | true =>
    have e : pd (tnA true M z) = .tuple [.int (M.1 + (z.2 - M.2)), .int (M.2 + (0 - (z.1 - M.1)))] := rfl
    rw [e]
    clear e
    walk_at "evs"
  | false =>
    have e : pd (tnA false M z) = .tuple [.int (M.1 + (0 - (z.2 - M.2))), .int (M.2 + (z.1 - M.1))] := rfl
    rw [e]
    clear e
    walk_at "evs"
def mn4 (a b c d : Int) : Int := min (min (min a b) c) d
def mx4 (a b c d : Int) : Int := max (max (max a b) c) d
theorem mn4_le (a b c d : Int) : mn4 a b c d ≤ a ∧ mn4 a b c d ≤ b ∧ mn4 a b c d ≤ c ∧ mn4 a b c d ≤ d ∧ (mn4 a b c d = a ∨ mn4 a b c d = b ∨ mn4 a b c d = c ∨ mn4 a b c d = d) := by unfold mn4; omega
theorem mx4_le (a b c d : Int) : a ≤ mx4 a b c d ∧ b ≤ mx4 a b c d ∧ c ≤ mx4 a b c d ∧ d ≤ mx4 a b c d ∧ (mx4 a b c d = a ∨ mx4 a b c d = b ∨ mx4 a b c d = c ∨ mx4 a b c d = d) := by unfold mx4; omega
/-- a corner low, a corner high, the middle -/
abbrev BX := Pt × Pt × Pt
def loB (a b c d : Pt) : Pt := (mn4 a.1 b.1 c.1 d.1, mn4 a.2 b.2 c.2 d.2)
def hiB (a b c d : Pt) : Pt := (mx4 a.1 b.1 c.1 d.1, mx4 a.2 b.2 c.2 d.2)
def bst (b : Bool) (s : BX) : BX := (loB s.1 s.2.1 (tnA b s.2.2 s.1) (tnA b s.2.2 s.2.1), hiB s.1 s.2.1 (tnA b s.2.2 s.1) (tnA b s.2.2 s.2.1), tnA b s.2.2 (0, 0))
def bxL (l : List Bool) : BX := l.foldl (fun s b => bst b s) ((0, 0), (1, 0), (1, 0))
theorem bxL_app (l : List Bool) (b : Bool) : bxL (l ++ [b]) = bst b (bxL l) := by unfold bxL; rw [List.foldl_append]; rfl
def BoxOf (lo hi : Pt) (P : Nat → Pt) (N : Nat) : Prop := (∀ t, t ≤ N → (lo.1 ≤ (P t).1 ∧ (P t).1 ≤ hi.1) ∧ lo.2 ≤ (P t).2 ∧ (P t).2 ≤ hi.2) ∧ (∃ t, t ≤ N ∧ (P t).1 = lo.1) ∧ (∃ t, t ≤ N ∧ (P t).1 = hi.1) ∧ (∃ t, t ≤ N ∧ (P t).2 = lo.2) ∧ (∃ t, t ≤ N ∧ (P t).2 = hi.2)
theorem tnA_o (M z : Pt) : tnA true M z = (M.1 + (z.2 - M.2), M.2 + (0 - (z.1 - M.1))) := rfl
theorem tnA_u (M z : Pt) : tnA false M z = (M.1 + (0 - (z.2 - M.2)), M.2 + (z.1 - M.1)) := rfl
theorem box_step (b : Bool) (lo hi M : Pt) (P Q : Nat → Pt) (N : Nat) (h : BoxOf lo hi P N) (hA : ∀ t, t ≤ N → Q t = P t) (hB : ∀ t, t ≤ N → Q (N + t) = tnA b M (P (N - t))) : BoxOf (loB lo hi (tnA b M lo) (tnA b M hi)) (hiB lo hi (tnA b M lo) (tnA b M hi)) Q (2 * N) := by
  obtain ⟨h1, ⟨ta, ha, ea⟩, ⟨tb, hb, eb⟩, ⟨tc, hc, ec⟩, ⟨td, hd, ed⟩⟩ := h
  have nA : ∀ (f : Pt → Int) (v : Int) (t : Nat), t ≤ N → f (P t) = v → ∃ t, t ≤ 2 * N ∧ f (Q t) = v := fun f v t ht e => ⟨t, by omega, by rw [hA t ht, e]⟩
  have nB : ∀ (f : Pt → Int) (v : Int) (t : Nat), t ≤ N → f (tnA b M (P t)) = v → ∃ t, t ≤ 2 * N ∧ f (Q t) = v := fun f v t ht e => ⟨N + (N - t), by omega, by rw [hB _ (by omega), show N - (N - t) = t by omega, e]⟩
  have x1 : ∀ z w : Pt, z.2 = w.2 → (tnA b M z).1 = (tnA b M w).1 := fun z w e => by cases b <;> simp only [tnA_o, tnA_u, e]
  have x2 : ∀ z w : Pt, z.1 = w.1 → (tnA b M z).2 = (tnA b M w).2 := fun z w e => by cases b <;> simp only [tnA_o, tnA_u, e]
  have m1 := mn4_le lo.1 hi.1 (tnA b M lo).1 (tnA b M hi).1
  have m2 := mn4_le lo.2 hi.2 (tnA b M lo).2 (tnA b M hi).2
  have m3 := mx4_le lo.1 hi.1 (tnA b M lo).1 (tnA b M hi).1
  have m4 := mx4_le lo.2 hi.2 (tnA b M lo).2 (tnA b M hi).2
  refine ⟨fun t ht => ?_, ?_, ?_, ?_, ?_⟩
  · unfold loB hiB
    dsimp only
    generalize mn4 lo.1 hi.1 (tnA b M lo).1 (tnA b M hi).1 = v1 at *
    generalize mn4 lo.2 hi.2 (tnA b M lo).2 (tnA b M hi).2 = v2 at *
    generalize mx4 lo.1 hi.1 (tnA b M lo).1 (tnA b M hi).1 = v3 at *
    generalize mx4 lo.2 hi.2 (tnA b M lo).2 (tnA b M hi).2 = v4 at *
    by_cases hn : t ≤ N
    · rw [hA t hn]
      have := h1 t hn
      omega
    · have e := hB (t - N) (by omega)
      rw [show N + (t - N) = t by omega] at e
      rw [e]
      have := h1 (N - (t - N)) (by omega)
      generalize P (N - (t - N)) = z at *
      cases b
      · simp only [tnA_u] at *
        omega
      · simp only [tnA_o] at *
        omega
  · show ∃ t, t ≤ 2 * N ∧ (Q t).1 = mn4 lo.1 hi.1 (tnA b M lo).1 (tnA b M hi).1
    rcases m1.2.2.2.2 with e | e | e | e
    · rw [e]; exact nA (·.1) _ ta ha ea
    · rw [e]; exact nA (·.1) _ tb hb eb
    · rw [e]; exact nB (·.1) _ tc hc (x1 _ _ ec)
    · rw [e]; exact nB (·.1) _ td hd (x1 _ _ ed)
  · show ∃ t, t ≤ 2 * N ∧ (Q t).1 = mx4 lo.1 hi.1 (tnA b M lo).1 (tnA b M hi).1
    rcases m3.2.2.2.2 with e | e | e | e
    · rw [e]; exact nA (·.1) _ ta ha ea
    · rw [e]; exact nA (·.1) _ tb hb eb
    · rw [e]; exact nB (·.1) _ tc hc (x1 _ _ ec)
    · rw [e]; exact nB (·.1) _ td hd (x1 _ _ ed)
  · show ∃ t, t ≤ 2 * N ∧ (Q t).2 = mn4 lo.2 hi.2 (tnA b M lo).2 (tnA b M hi).2
    rcases m2.2.2.2.2 with e | e | e | e
    · rw [e]; exact nA (·.2) _ tc hc ec
    · rw [e]; exact nA (·.2) _ td hd ed
    · rw [e]; exact nB (·.2) _ ta ha (x2 _ _ ea)
    · rw [e]; exact nB (·.2) _ tb hb (x2 _ _ eb)
  · show ∃ t, t ≤ 2 * N ∧ (Q t).2 = mx4 lo.2 hi.2 (tnA b M lo).2 (tnA b M hi).2
    rcases m4.2.2.2.2 with e | e | e | e
    · rw [e]; exact nA (·.2) _ tc hc ec
    · rw [e]; exact nA (·.2) _ td hd ed
    · rw [e]; exact nB (·.2) _ ta ha (x2 _ _ ea)
    · rw [e]; exact nB (·.2) _ tb hb (x2 _ _ eb)
theorem bx_box : ∀ (n : Nat) (l : List Bool), l.length = n → BoxOf (bxL l).1 (bxL l).2.1 (ptL l) (2 ^ n) ∧ (bxL l).2.2 = ptL l (2 ^ n)
  | 0, l, h => by
    have : l = [] := List.length_eq_zero_iff.mp h
    subst this
    refine ⟨⟨fun t ht => ?_, ⟨0, by decide, rfl⟩, ⟨1, by decide, rfl⟩, ⟨0, by decide, rfl⟩, ⟨0, by decide, rfl⟩⟩, rfl⟩
    show ((0 : Int) ≤ (t : Int) ∧ (t : Int) ≤ 1) ∧ (0 : Int) ≤ 0 ∧ (0 : Int) ≤ 0
    have : t ≤ 1 := ht
    omega
  | n + 1, l, h => by
    obtain ⟨u, b, rfl⟩ : ∃ u b, l = u ++ [b] := by
      have hne : l ≠ [] := by intro e; rw [e] at h; simp at h
      exact ⟨l.dropLast, l.getLast hne, (List.dropLast_concat_getLast hne).symm⟩
    have hu : u.length = n := by simpa using h
    obtain ⟨i1, i2⟩ := bx_box n u hu
    have hp : 2 ^ (n + 1) = 2 * 2 ^ n := by rw [Nat.pow_succ]; omega
    have hR : ∀ t, t ≤ 2 ^ n → ptL (u ++ [b]) (2 ^ n + t) = tnA b (ptL u (2 ^ n)) (ptL u (2 ^ n - t)) := fun t ht => by
      have := ptL_right u b t (by rw [hu]; exact ht)
      rw [hu] at this
      exact this
    rw [bxL_app, hp]
    unfold bst
    dsimp only
    rw [i2]
    refine ⟨box_step b _ _ _ (ptL u) (ptL (u ++ [b])) (2 ^ n) i1 (fun t ht => ptL_A u b t (by rw [hu]; exact ht)) hR, ?_⟩
    have := hR (2 ^ n) (Nat.le_refl _)
    rw [Nat.sub_self, ptL_zero] at this
    rw [show 2 * 2 ^ n = 2 ^ n + 2 ^ n by omega, this]
theorem box_go (x0 : Option SV) (st : SE) : ∀ (l : List Bool) (s : BX) (x4 x5 x6 x7 : Option SV), ∃ y4 y5 y6 y7,
    forGo (bN 4) lb_box_1 (l.map fun b => .str (tx [oc b])) [x0, some (.d (pd s.1)), some (.d (pd s.2.1)), some (.d (pd s.2.2)), x4, x5, x6, x7, none, none] st =
      some (.nx, [x0, some (.d (pd (l.foldl (fun s b => bst b s) s).1)), some (.d (pd (l.foldl (fun s b => bst b s) s).2.1)), some (.d (pd (l.foldl (fun s b => bst b s) s).2.2)), y4, y5, y6, y7, none, none], st)
  | [], s, x4, x5, x6, x7 => ⟨x4, x5, x6, x7, rfl⟩
  | b :: l, s, x4, x5, x6, x7 => by
    have e1 := turnedabout_ok b s.2.2 s.1 st
    have e2 := turnedabout_ok b s.2.2 s.2.1 st
    have e3 := turnedabout_ok b s.2.2 (0, 0) st
    obtain ⟨y4, y5, y6, y7, ih⟩ := box_go x0 st l (bst b s) (some (.d (.str (tx [oc b])))) (some (.d (pd (tnA b s.2.2 s.1)))) (some (.d (pd (tnA b s.2.2 s.2.1)))) (some (.d (.list [pd s.1, pd s.2.1, pd (tnA b s.2.2 s.1), pd (tnA b s.2.2 s.2.1)])))
    refine ⟨y4, y5, y6, y7, ?_⟩
    rw [List.map_cons, List.foldl_cons]
    unfold forGo
    have hb : bN 4 (.str (tx [oc b])) [x0, some (.d (pd s.1)), some (.d (pd s.2.1)), some (.d (pd s.2.2)), x4, x5, x6, x7, none, none] = some [x0, some (.d (pd s.1)), some (.d (pd s.2.1)), some (.d (pd s.2.2)), some (.d (.str (tx [oc b]))), x5, x6, x7, none, none] := rfl
    rw [hb]
    dsimp only
    have h2 : lb_box_1 [x0, some (.d (pd s.1)), some (.d (pd s.2.1)), some (.d (pd s.2.2)), some (.d (.str (tx [oc b]))), x5, x6, x7, none, none] st = some (.nx, [x0, some (.d (pd (bst b s).1)), some (.d (pd (bst b s).2.1)), some (.d (pd (bst b s).2.2)), some (.d (.str (tx [oc b]))), some (.d (pd (tnA b s.2.2 s.1))), some (.d (pd (tnA b s.2.2 s.2.1))), some (.d (.list [pd s.1, pd s.2.1, pd (tnA b s.2.2 s.1), pd (tnA b s.2.2 s.2.1)])), none, none], st) := by
      have l1 : ∀ (L : List Pt) (x1 x2 x3 x4 x5 x6 x7 : Option SV), L.length ≤ 1000000 → lcK (some (.ok (L.map pd), st)) [8, 9] (bT (bsC (bN 8) (bsC (bN 9) (bsN)))) (eC (.bool true)) le_box_1 [x0, x1, x2, x3, x4, x5, x6, x7, none, none] = some (.ok (.list (L.map fun z => .int z.1)), st) := fun L x1 x2 x3 x4 x5 x6 x7 hL => lck_map pd (fun z => .int z.1) L rfl hL (fun z _ => ⟨_, rfl, rfl⟩)
      have l2 : ∀ (L : List Pt) (x1 x2 x3 x4 x5 x6 x7 : Option SV), L.length ≤ 1000000 → lcK (some (.ok (L.map pd), st)) [8, 9] (bT (bsC (bN 8) (bsC (bN 9) (bsN)))) (eC (.bool true)) le_box_2 [x0, x1, x2, x3, x4, x5, x6, x7, none, none] = some (.ok (.list (L.map fun z => .int z.2)), st) := fun L x1 x2 x3 x4 x5 x6 x7 hL => lck_map pd (fun z => .int z.2) L rfl hL (fun z _ => ⟨_, rfl, rfl⟩)
      have A : ∀ (x1 x2 x3 x4 x5 x6 x7 : Option SV), lcK (some (.ok [pd s.1, pd s.2.1, pd (tnA b s.2.2 s.1), pd (tnA b s.2.2 s.2.1)], st)) [8, 9] (bT (bsC (bN 8) (bsC (bN 9) (bsN)))) (eC (.bool true)) le_box_1 [x0, x1, x2, x3, x4, x5, x6, x7, none, none] = some (.ok (.list [.int s.1.1, .int s.2.1.1, .int (tnA b s.2.2 s.1).1, .int (tnA b s.2.2 s.2.1).1]), st) := fun x1 x2 x3 x4 x5 x6 x7 => l1 [s.1, s.2.1, tnA b s.2.2 s.1, tnA b s.2.2 s.2.1] x1 x2 x3 x4 x5 x6 x7 (by simp)
      have B : ∀ (x1 x2 x3 x4 x5 x6 x7 : Option SV), lcK (some (.ok [pd s.1, pd s.2.1, pd (tnA b s.2.2 s.1), pd (tnA b s.2.2 s.2.1)], st)) [8, 9] (bT (bsC (bN 8) (bsC (bN 9) (bsN)))) (eC (.bool true)) le_box_2 [x0, x1, x2, x3, x4, x5, x6, x7, none, none] = some (.ok (.list [.int s.1.2, .int s.2.1.2, .int (tnA b s.2.2 s.1).2, .int (tnA b s.2.2 s.2.1).2]), st) := fun x1 x2 x3 x4 x5 x6 x7 => l2 [s.1, s.2.1, tnA b s.2.2 s.1, tnA b s.2.2 s.2.1] x1 x2 x3 x4 x5 x6 x7 (by simp)
      have n1 : pMinL [.list [.int s.1.1, .int s.2.1.1, .int (tnA b s.2.2 s.1).1, .int (tnA b s.2.2 s.2.1).1]] = some (.int (bst b s).1.1) := minL_ok s.1.1 [s.2.1.1, (tnA b s.2.2 s.1).1, (tnA b s.2.2 s.2.1).1] (by simp)
      have n2 : pMinL [.list [.int s.1.2, .int s.2.1.2, .int (tnA b s.2.2 s.1).2, .int (tnA b s.2.2 s.2.1).2]] = some (.int (bst b s).1.2) := minL_ok s.1.2 [s.2.1.2, (tnA b s.2.2 s.1).2, (tnA b s.2.2 s.2.1).2] (by simp)
      have n3 : pMaxL [.list [.int s.1.1, .int s.2.1.1, .int (tnA b s.2.2 s.1).1, .int (tnA b s.2.2 s.2.1).1]] = some (.int (bst b s).2.1.1) := maxL_ok s.1.1 [s.2.1.1, (tnA b s.2.2 s.1).1, (tnA b s.2.2 s.2.1).1] (by simp)
      have n4 : pMaxL [.list [.int s.1.2, .int s.2.1.2, .int (tnA b s.2.2 s.1).2, .int (tnA b s.2.2 s.2.1).2]] = some (.int (bst b s).2.1.2) := maxL_ok s.1.2 [s.2.1.2, (tnA b s.2.2 s.1).2, (tnA b s.2.2 s.2.1).2] (by simp)
      have t1 : ∀ z : Pt, pd z = .tuple [.int z.1, .int z.2] := fun _ => rfl
      have t3 : tnA b s.2.2 (0, 0) = (bst b s).2.2 := rfl
      rw [t1 (0, 0), t3] at e3
      rw [t1 (bst b s).1, t1 (bst b s).2.1]
      clear t1 t3 l1 l2 ih hb
      generalize (bst b s).1 = S1 at *
      generalize (bst b s).2.1 = S2 at *
      generalize (bst b s).2.2 = S3 at *
      generalize tnA b s.2.2 s.1 = T1 at *
      generalize tnA b s.2.2 s.2.1 = T2 at *
      generalize s.1 = V1 at *
      generalize s.2.1 = V2 at *
      generalize s.2.2 = V3 at *
      unfold lb_box_1
      have A3 : ∀ (x1 x2 x3 x4 x5 x6 x7 : Option SV), lcK (some (.ok [pd V1, pd V2, pd T1, pd T2], st)) [8, 9] (bT (bsC (bN 8) (bsC (bN 9) (bsN)))) (eC (.bool true)) le_box_3 [x0, x1, x2, x3, x4, x5, x6, x7, none, none] = some (.ok (.list [.int V1.1, .int V2.1, .int T1.1, .int T2.1]), st) := A
      have B3 : ∀ (x1 x2 x3 x4 x5 x6 x7 : Option SV), lcK (some (.ok [pd V1, pd V2, pd T1, pd T2], st)) [8, 9] (bT (bsC (bN 8) (bsC (bN 9) (bsN)))) (eC (.bool true)) le_box_4 [x0, x1, x2, x3, x4, x5, x6, x7, none, none] = some (.ok (.list [.int V1.2, .int V2.2, .int T1.2, .int T2.2]), st) := B
      walk_at "evs"
    rw [h2]
    dsimp only
    exact ih
theorem box_ok (w : List Bool) (st : SE) (h : w.length ≤ 60) : dn_box [.d (.str (hs w))] st = some (.ok (.tuple [.int (bxL w.reverse).1.1, .int (bxL w.reverse).2.1.1, .int (bxL w.reverse).1.2, .int (bxL w.reverse).2.1.2]), st) := by
  unfold dn_box sf_box
  have e1 := needh_ok w st h
  have rv := rev_hs w (by omega)
  have it := it_hs w.reverse
  obtain ⟨y4, y5, y6, y7, g⟩ := box_go (some (.d (.str (hs w)))) st w.reverse ((0, 0), (1, 0), (1, 0)) none none none none
  rw [show w.reverse.foldl (fun s b => bst b s) ((0, 0), (1, 0), (1, 0)) = bxL w.reverse from rfl] at g
  dsimp only at g
  rw [show pd (0, 0) = .tuple [.int 0, .int 0] from rfl, show pd (1, 0) = .tuple [.int 1, .int 0] from rfl] at g
  have p1 := pd0 (bxL w.reverse).1
  have p2 := pd1 (bxL w.reverse).1
  have p3 := pd0 (bxL w.reverse).2.1
  have p4 := pd1 (bxL w.reverse).2.1
  have tk : st.take st.length = st := List.take_length
  generalize bxL w.reverse = B at *
  generalize w.reverse.map (fun b => PyData.str (tx [oc b])) = LL at *
  walk_at "evs"
end DL
set_option autoImplicit false
namespace DL
open PySem PySem.Spec PyProof.Rows L2
local macro_rules | `(tactic| walk_at "ev") => `(tactic| simp only [r_fn, r_Rz, r_RzP, r_Try, r_Tr, r_Tn, r_Te, r_Tk, r_CL, r_cl, r_at0, r_at1, r_at2, r_at3, r_at4, r_hA0, r_hBA0, r_hCA0, r_hA1, r_hA2, r_hBA2, r_hCA2, r_hA3, r_hBA3, r_hCA3, r_hA4, r_hBA4, r_hCA4, r_hA5, r_hBA5, r_hCA5, r_hA6, r_hBA6, r_hCA6, r_hA7, r_hBA7, r_hCA7, r_hA8, r_hBA8, r_hCA8, r_hA9, r_hBA9, r_hCA9, r_hA10, r_hBA10, r_hCA10, r_hA11, r_hBA11, r_hCA11, r_hA12, r_hBA12, r_hCA12, r_hA13, r_hBA13, r_hCA13, r_hA14, r_hBA14, r_hCA14, r_hBP, r_hCP, r_iRv, r_iRo, r_lofL, r_lofT, r_tofL, r_tofT, r_bits, r_tyL, r_eB, r_bnd, r_bo, r_be, r_eR, r_Rs, r_bin, r_un, r_c, r_v, r_vd, r_and, r_or, r_if, r_eA, r_eAo, r_eAe, r_eAD, r_eADo, r_eADe, r_eDk, r_CB, r_aN, r_aD, r_aDo, r_aDe, r_aO, r_aOo, r_cA, r_cAe, r_sv0, r_sv1,
  r_call, r_callo, r_calle, r_O0, r_O1, r_Sl, r_Ch, r_Ch3, r_kT', r_kF, r_M, r_Ln, r_Lns, r_Ix, r_Ixs, r_Nl, r_Nls, r_iD, r_iDo, r_iDe, r_iDj, r_iA, r_iAo, r_iAe, r_iAj, r_Q, r_Qn, r_Qr, r_Qb, r_Qc, r_Qe, r_B, r_Bo, r_Be, r_G, r_R, r_E, r_I, r_N, r_X, r_F, r_Fo, r_lc, r_fnr, r_fnn, r_fne, r_tk,
  r_bT, r_bsN, r_bsC, r_bsK, r_bN, r_IB, r_addI, r_sub, r_neg, r_not, r_min, r_max, r_lenL, r_lenT, r_eqS, r_neS, r_eqI, r_neI, r_slL, r_itS, r_itL, r_itT, r_enS, r_enL, r_zip, r_zipS, r_bs2, r_bs3, r_w0, r_w1, r_tyS, r_IxO, r_IxOo, r_St2, r_CallK, r_dSel, r_s0, r_sl, r_sr, Option.toList_some, and_self, if_true, if_false, Bool.false_eq_true,
  List.map_cons, List.map_nil, List.length_cons, List.length_nil, List.cons_append, List.nil_append, List.replicate, List.getElem?_cons_zero, List.getElem?_cons_succ, List.set_cons_zero, List.set_cons_succ, Option.map_some, Option.map_none, Nat.reduceAdd, Nat.reduceSub])
local macro_rules | `(tactic| walk_at "evs") => `(tactic| simp only [*, r_fn, r_mod, r_fdv, r_mulI, r_shl, r_shr, r_pow, r_rg1, r_rg2, r_tup, r_lst, r_ixS, r_ixL, r_ixT, r_slS, r_lenS, r_addS, r_addL, r_revS, r_Lno, decide_true, decide_false, Nat.le_refl, Nat.reduceLeDiff, Int.reduceLT, Int.reduceLE, Bool.not_true, Bool.not_false, Bool.and_true, Bool.true_and, Bool.and_self, r_Rz, r_RzP, r_Try, r_Tr, r_Tn, r_Te, r_Tk, r_CL, r_cl, r_at0, r_at1, r_at2, r_at3, r_at4, r_hA0, r_hBA0, r_hCA0, r_hA1, r_hA2, r_hBA2, r_hCA2, r_hA3, r_hBA3, r_hCA3, r_hA4, r_hBA4, r_hCA4, r_hA5, r_hBA5, r_hCA5, r_hA6, r_hBA6, r_hCA6, r_hA7, r_hBA7, r_hCA7, r_hA8, r_hBA8, r_hCA8, r_hA9, r_hBA9, r_hCA9, r_hA10, r_hBA10, r_hCA10, r_hA11, r_hBA11, r_hCA11, r_hA12, r_hBA12, r_hCA12, r_hA13, r_hBA13, r_hCA13, r_hA14, r_hBA14, r_hCA14, r_hBP, r_hCP, r_iRv, r_iRo, r_lofL, r_lofT, r_tofL, r_tofT, r_bits, r_tyL, r_eB, r_bnd, r_bo, r_be, r_eR, r_Rs, r_bin, r_un, r_c, r_v, r_vd, r_and, r_or, r_if, r_eA, r_eAo, r_eAe, r_eAD, r_eADo, r_eADe, r_eDk, r_CB, r_aN, r_aD, r_aDo, r_aDe, r_aO, r_aOo, r_cA, r_cAe, r_sv0, r_sv1,
  r_call, r_callo, r_calle, r_O0, r_O1, r_Sl, r_Ch, r_Ch3, r_kT', r_kF, r_M, r_Ln, r_Lns, r_Ix, r_Ixs, r_Nl, r_Nls, r_iD, r_iDo, r_iDe, r_iDj, r_iA, r_iAo, r_iAe, r_iAj, r_Q, r_Qn, r_Qr, r_Qb, r_Qc, r_Qe, r_B, r_Bo, r_Be, r_G, r_R, r_E, r_I, r_N, r_X, r_F, r_Fo, r_lc, r_fnr, r_fnn, r_fne, r_tk,
  r_bT, r_bsN, r_bsC, r_bsK, r_bN, r_IB, r_addI, r_sub, r_neg, r_not, r_min, r_max, r_lenL, r_lenT, r_eqS, r_neS, r_eqI, r_neI, r_slL, r_itS, r_itL, r_itT, r_enS, r_enL, r_zip, r_zipS, r_bs2, r_bs3, r_w0, r_w1, r_tyS, r_IxO, r_IxOo, r_St2, r_CallK, r_dSel, r_s0, r_sl, r_sr, Option.toList_some, and_self, if_true, if_false, Bool.false_eq_true,
  List.map_cons, List.map_nil, List.length_cons, List.length_nil, List.cons_append, List.nil_append, List.replicate, List.getElem?_cons_zero, List.getElem?_cons_succ, List.set_cons_zero, List.set_cons_succ, Option.map_some, Option.map_none, Nat.reduceAdd, Nat.reduceSub])
local macro_rules | `(tactic| walk_at "evr") => `(tactic| ((walk_at "evs") <;> rfl))
/-! ### joints -/
def loJ (l : List Bool) (i : Nat) : Nat := min (HtL l i) (HtL l (i + 1))
def hiJ (l : List Bool) (i : Nat) : Nat := max (HtL l i) (HtL l (i + 1))
/-- joints of a side don't cross -/
theorem nc : ∀ (l : List Bool) (i j : Nat), i % 2 = j % 2 → i + 1 < 2 ^ l.length → j + 1 < 2 ^ l.length → ¬ (loJ l i < loJ l j ∧ loJ l j < hiJ l i ∧ hiJ l i < hiJ l j)
  | [], i, j, _, h, _ => by simp at h
  | b :: r, i, j, hp, hi, hj => by
    have hM : 2 ^ (b :: r).length = 2 * 2 ^ r.length := by rw [List.length_cons, Nat.pow_succ]; omega
    rw [hM] at hi hj
    unfold loJ hiJ
    simp only [HtL_cons]
    by_cases he : i % 2 = 0
    · obtain ⟨k, rfl⟩ : ∃ k, i = 2 * k := ⟨i / 2, by omega⟩
      obtain ⟨m, rfl⟩ : ∃ m, j = 2 * m := ⟨j / 2, by omega⟩
      have b1 := HtL_lt r k
      have b2 := HtL_lt r m
      rw [show 2 * k / 2 = k by omega, show (2 * k + 1) / 2 = k by omega, show 2 * m / 2 = m by omega, show (2 * m + 1) / 2 = m by omega]
      generalize HtL r k = hk at *
      generalize HtL r m = hm at *
      generalize 2 ^ r.length = M at *
      cases b
      · simp only [Bool.false_eq_true, if_false]
        split <;> split <;> split <;> split <;> omega
      · simp only [if_true]
        split <;> split <;> split <;> split <;> omega
    · obtain ⟨k, rfl⟩ : ∃ k, i = 2 * k + 1 := ⟨i / 2, by omega⟩
      obtain ⟨m, rfl⟩ : ∃ m, j = 2 * m + 1 := ⟨j / 2, by omega⟩
      have b1 := HtL_lt r k
      have b2 := HtL_lt r m
      have b3 := HtL_lt r (k + 1)
      have b4 := HtL_lt r (m + 1)
      have i1 := nc r k m
      have i2 := nc r m k
      unfold loJ hiJ at i1 i2
      rw [show (2 * k + 1) / 2 = k by omega, show (2 * k + 1 + 1) / 2 = k + 1 by omega, show (2 * m + 1) / 2 = m by omega, show (2 * m + 1 + 1) / 2 = m + 1 by omega]
      generalize HtL r k = hk at *
      generalize HtL r m = hm at *
      generalize HtL r (k + 1) = hk1 at *
      generalize HtL r (m + 1) = hm1 at *
      generalize 2 ^ r.length = M at *
      by_cases hpar : k % 2 = m % 2
      · have j1 := i1 hpar (by omega) (by omega)
        have j2 := i2 hpar.symm (by omega) (by omega)
        clear i1 i2
        cases b
        · simp only [Bool.false_eq_true, if_false]
          split <;> split <;> split <;> split <;> omega
        · simp only [if_true]
          split <;> split <;> split <;> split <;> omega
      · clear i1 i2
        cases b
        · simp only [Bool.false_eq_true, if_false]
          split <;> split <;> split <;> split <;> omega
        · simp only [if_true]
          split <;> split <;> split <;> split <;> omega
def jq (l : List Bool) (i : Nat) : PyData := .tuple [.int (loJ l i : Nat), .int (hiJ l i : Nat)]
def idx (b : Bool) (m : Nat) : List Nat := (List.range m).filter fun i => decide (i % 2 = 0) == b
def plJ (l : List Bool) (b : Bool) (m : Nat) : List PyData := (idx b m).map (jq l)
theorem idx_succ (b : Bool) (m : Nat) : idx b (m + 1) = if (decide (m % 2 = 0) == b) = true then idx b m ++ [m] else idx b m := by
  unfold idx
  rw [List.range_succ, List.filter_append]
  by_cases h : (decide (m % 2 = 0) == b) = true
  · rw [if_pos h]; simp only [List.filter_cons, h, if_true, List.filter_nil]
  · rw [if_neg h]; simp only [List.filter_cons, h, List.filter_nil]; simp
theorem idx_len (m : Nat) : (idx false m).length + (idx true m).length = m := by
  induction m with
  | zero => rfl
  | succ m ih =>
    rw [idx_succ, idx_succ]
    by_cases h : m % 2 = 0
    · rw [decide_eq_true h]; simp; omega
    · rw [decide_eq_false h]; simp; omega
theorem idx_mem {b : Bool} {m i : Nat} (h : i ∈ idx b m) : i < m ∧ (decide (i % 2 = 0) == b) = true := by
  unfold idx at h
  have := List.mem_filter.mp h
  exact ⟨List.mem_range.mp this.1, this.2⟩
theorem idx_le (b : Bool) (m : Nat) : (idx b m).length ≤ m := by
  have := idx_len m
  cases b <;> omega
theorem one1_plJ (l : List Bool) (L : List Nat) : one1 (L.map (jq l)) = true := by
  unfold one1
  have e : L.map (jq l) = (L.map fun i => (((loJ l i : Nat) : Int), ((hiJ l i : Nat) : Int))).map pr2 := by rw [List.map_map]; rfl
  rw [e, prsOf_map]
  simp
theorem sort_plJ (l : List Bool) (L : List Nat) (h : L.length ≤ 1000000) : pSort [.list (L.map (jq l))] = some (.list ((L.map (jq l)).mergeSort leD)) := by
  unfold pSort
  dsimp only
  rw [if_pos ⟨one1_plJ l L, by simpa using h⟩]
/-- a sorted list of joints, by places -/
theorem sorted_of (l : List Bool) (L : List Nat) : ∃ J : List Nat, (L.map (jq l)).mergeSort leD = J.map (jq l) ∧ J.length = L.length ∧ ∀ i ∈ J, i ∈ L := by
  have gen : ∀ S : List PyData, (∀ x ∈ S, ∃ i ∈ L, x = jq l i) → ∃ J : List Nat, S = J.map (jq l) ∧ ∀ i ∈ J, i ∈ L := by
    intro S
    induction S with
    | nil => exact fun _ => ⟨[], rfl, by simp⟩
    | cons x S ih =>
      intro h
      obtain ⟨J, e, hJ⟩ := ih fun y hy => h y (List.mem_cons_of_mem _ hy)
      obtain ⟨i, hi, rfl⟩ := h x (List.mem_cons_self ..)
      exact ⟨i :: J, by rw [List.map_cons, e], fun k hk => (List.mem_cons.mp hk).elim (fun e => e ▸ hi) (hJ k)⟩
  obtain ⟨J, e, hJ⟩ := gen ((L.map (jq l)).mergeSort leD) fun x hx => by
    have := (List.mergeSort_perm (L.map (jq l)) leD).mem_iff.mp hx
    obtain ⟨i, hi, rfl⟩ := List.mem_map.mp this
    exact ⟨i, hi, rfl⟩
  refine ⟨J, e, ?_, hJ⟩
  have := congrArg List.length e
  rw [List.length_mergeSort, List.length_map, List.length_map] at this
  exact this.symm
theorem pileof2_ok (w : List Bool) (st : SE) (h : w.length ≤ 16) : dn_pile_of [.d (.str (hs w))] st = some (.ok (.list ((sgS w 0 (2 ^ w.length)).map inN)), st) := by
  unfold dn_pile_of sf_pile_of
  have hpos : 0 < 2 ^ w.length := Nat.pow_pos (by decide)
  have hle : 2 ^ w.length ≤ 2 ^ 16 := Nat.pow_le_pow_right (by decide) h
  have e2 := long_ok w st (by omega)
  have i1 : inLine ((2 ^ w.length : Nat) : Int) = true := in_nat _ (by omega)
  have l1 := lck_map (bd := bN 1) (e := le_pile_of_1) (dl := [some (.d (.str (hs w))), none]) (st := st) (vs := [1]) (xs := rangeL 0 ((2 ^ w.length : Nat) : Int)) (fun (i : Nat) => .int (0 + (i : Int))) (fun i => inN (SgL w.reverse (0 + i))) (List.range (2 ^ w.length)) (by unfold rangeL; rw [Int.sub_zero, Int.toNat_natCast]) (by rw [List.length_range]; omega) (fun i hi => by
    refine ⟨_, rfl, ?_⟩
    have hi' := List.mem_range.mp hi
    have e := segmentof_ok w i st (by omega) hi'
    rw [Nat.zero_add, show (0 : Int) + (i : Int) = (i : Int) by omega]
    unfold le_pile_of_1 inN
    clear hle
    walk_at "evs")
  have eS : (List.range (2 ^ w.length)).map (fun i => inN (SgL w.reverse (0 + i))) = (sgS w 0 (2 ^ w.length)).map inN := by unfold sgS; rw [List.map_map]; rfl
  rw [eS] at l1
  clear hle eS
  generalize (sgS w 0 (2 ^ w.length)).map inN = SS at *
  walk_at "evs"
theorem pile2_ok (w : List Bool) (st : SE) (h : w.length ≤ 10) : dn_pile [.d (.str (hs w))] st = some (.ok (.list ((sgS w 0 (2 ^ w.length)).map inN)), st) := by
  unfold dn_pile sf_pile
  have e1 := needfew_ok w 10 st h (by decide)
  rw [show ((10 : Nat) : Int) = 10 from rfl] at e1
  have e2 := pileof2_ok w st (by omega)
  generalize (sgS w 0 (2 ^ w.length)).map inN = SS at *
  walk_at "evs"
theorem dpt_nats2 (n : Nat) (S : List Nat) : dpt (n + 1) (.list (S.map inN)) = true := by
  show (S.map inN).all (dpt n) = true
  rw [List.all_map, List.all_eq_true]
  intro a _
  exact dpt_int _ _
theorem eqv_int2 (a b : Int) : PyData.eqv (.int a) (.int b) = decide (a = b) := by
  unfold PyData.eqv
  by_cases h : a = b
  · subst h; simp
  · rw [decide_eq_false h]; simp [h]
/-- where a segment lies in the pile -/
theorem index2_ok (w : List Bool) (s : Nat) (h : s < 2 ^ w.length) : pIndex (.list ((sgS w 0 (2 ^ w.length)).map inN)) [.int (s : Int)] = some (.int ((HtL w.reverse s : Nat) : Int)) := by
  have hlr : w.reverse.length = w.length := List.length_reverse
  unfold pIndex
  dsimp only
  rw [dpt_nats2, dpt_int]
  have hi : idxD (.int (s : Int)) ((sgS w 0 (2 ^ w.length)).map inN) = some (HtL w.reverse s) := by
    unfold idxD
    have hb := HtL_lt w.reverse s
    rw [hlr] at hb
    have hl : ((sgS w 0 (2 ^ w.length)).map inN).length = 2 ^ w.length := by rw [List.length_map, sgS_len]
    have g : ∀ i (hi : i < ((sgS w 0 (2 ^ w.length)).map inN).length), ((sgS w 0 (2 ^ w.length)).map inN)[i] = inN (SgL w.reverse i) := fun i hi => by
      unfold sgS
      simp
    rw [List.findIdx?_eq_some_iff_getElem]
    refine ⟨by omega, ?_, fun j hj => ?_⟩
    · rw [g]
      unfold inN
      rw [eqv_int2, Sg_Ht w.reverse s (by rw [hlr]; exact h)]
      simp
    · rw [g]
      unfold inN
      rw [eqv_int2]
      simp only [decide_eq_true_eq]
      intro e
      have e' : SgL w.reverse j = s := by omega
      have := Ht_Sg w.reverse j (by rw [hlr]; omega)
      rw [e'] at this
      omega
  rw [hi]
  rfl
theorem sort_two (a b : Nat) : pSort [.list [.int (a : Int), .int (b : Int)]] = some (.list [.int ((min a b : Nat) : Int), .int ((max a b : Nat) : Int)]) := by
  have e := sort_nat [a, b] (by simp)
  have : srtN [a, b] = [min a b, max a b] := by
    unfold srtN
    have hs := List.pairwise_mergeSort (le := fun a b : Nat => decide (a ≤ b)) (by simp; omega) (by simp; omega) [a, b]
    have hp := List.mergeSort_perm [a, b] fun a b : Nat => decide (a ≤ b)
    have hl := hp.length_eq
    generalize [a, b].mergeSort (fun a b : Nat => decide (a ≤ b)) = L at *
    match L, hl with
    | [x, y], _ =>
      have h1 : x ≤ y := by simpa using hs
      have hc := hp.count_eq
      have hm : ∀ z, z ∈ [x, y] ↔ z ∈ [a, b] := fun z => hp.mem_iff
      have m1 := (hm x).mp (by simp)
      have m2 := (hm y).mp (by simp)
      have m3 := (hm a).mpr (by simp)
      have m4 := (hm b).mpr (by simp)
      simp only [List.mem_cons, List.not_mem_nil, or_false] at m1 m2 m3 m4
      have hx : x = min a b := by omega
      have hy : y = max a b := by omega
      rw [hx, hy]
  rw [this] at e
  exact e
end DL
set_option autoImplicit false
namespace DL
open PySem PySem.Spec PyProof.Rows L2
local macro_rules | `(tactic| walk_at "ev") => `(tactic| simp only [r_fn, r_Rz, r_RzP, r_Try, r_Tr, r_Tn, r_Te, r_Tk, r_CL, r_cl, r_at0, r_at1, r_at2, r_at3, r_at4, r_hA0, r_hBA0, r_hCA0, r_hA1, r_hA2, r_hBA2, r_hCA2, r_hA3, r_hBA3, r_hCA3, r_hA4, r_hBA4, r_hCA4, r_hA5, r_hBA5, r_hCA5, r_hA6, r_hBA6, r_hCA6, r_hA7, r_hBA7, r_hCA7, r_hA8, r_hBA8, r_hCA8, r_hA9, r_hBA9, r_hCA9, r_hA10, r_hBA10, r_hCA10, r_hA11, r_hBA11, r_hCA11, r_hA12, r_hBA12, r_hCA12, r_hA13, r_hBA13, r_hCA13, r_hA14, r_hBA14, r_hCA14, r_hBP, r_hCP, r_iRv, r_iRo, r_lofL, r_lofT, r_tofL, r_tofT, r_bits, r_tyL, r_eB, r_bnd, r_bo, r_be, r_eR, r_Rs, r_bin, r_un, r_c, r_v, r_vd, r_and, r_or, r_if, r_eA, r_eAo, r_eAe, r_eAD, r_eADo, r_eADe, r_eDk, r_CB, r_aN, r_aD, r_aDo, r_aDe, r_aO, r_aOo, r_cA, r_cAe, r_sv0, r_sv1,
  r_call, r_callo, r_calle, r_O0, r_O1, r_Sl, r_Ch, r_Ch3, r_kT', r_kF, r_M, r_Ln, r_Lns, r_Ix, r_Ixs, r_Nl, r_Nls, r_iD, r_iDo, r_iDe, r_iDj, r_iA, r_iAo, r_iAe, r_iAj, r_Q, r_Qn, r_Qr, r_Qb, r_Qc, r_Qe, r_B, r_Bo, r_Be, r_G, r_R, r_E, r_I, r_N, r_X, r_F, r_Fo, r_lc, r_fnr, r_fnn, r_fne, r_tk,
  r_bT, r_bsN, r_bsC, r_bsK, r_bN, r_IB, r_addI, r_sub, r_neg, r_not, r_min, r_max, r_lenL, r_lenT, r_eqS, r_neS, r_eqI, r_neI, r_slL, r_itS, r_itL, r_itT, r_enS, r_enL, r_zip, r_zipS, r_bs2, r_bs3, r_w0, r_w1, r_tyS, r_IxO, r_IxOo, r_St2, r_CallK, r_dSel, r_s0, r_sl, r_sr, Option.toList_some, and_self, if_true, if_false, Bool.false_eq_true,
  List.map_cons, List.map_nil, List.length_cons, List.length_nil, List.cons_append, List.nil_append, List.replicate, List.getElem?_cons_zero, List.getElem?_cons_succ, List.set_cons_zero, List.set_cons_succ, Option.map_some, Option.map_none, Nat.reduceAdd, Nat.reduceSub])
local macro_rules | `(tactic| walk_at "evs") => `(tactic| simp only [*, r_fn, r_mod, r_fdv, r_mulI, r_shl, r_shr, r_pow, r_rg1, r_rg2, r_tup, r_lst, r_ixS, r_ixL, r_ixT, r_slS, r_lenS, r_addS, r_addL, r_revS, r_Lno, decide_true, decide_false, Nat.le_refl, Nat.reduceLeDiff, Int.reduceLT, Int.reduceLE, Bool.not_true, Bool.not_false, Bool.and_true, Bool.true_and, Bool.and_self, r_Rz, r_RzP, r_Try, r_Tr, r_Tn, r_Te, r_Tk, r_CL, r_cl, r_at0, r_at1, r_at2, r_at3, r_at4, r_hA0, r_hBA0, r_hCA0, r_hA1, r_hA2, r_hBA2, r_hCA2, r_hA3, r_hBA3, r_hCA3, r_hA4, r_hBA4, r_hCA4, r_hA5, r_hBA5, r_hCA5, r_hA6, r_hBA6, r_hCA6, r_hA7, r_hBA7, r_hCA7, r_hA8, r_hBA8, r_hCA8, r_hA9, r_hBA9, r_hCA9, r_hA10, r_hBA10, r_hCA10, r_hA11, r_hBA11, r_hCA11, r_hA12, r_hBA12, r_hCA12, r_hA13, r_hBA13, r_hCA13, r_hA14, r_hBA14, r_hCA14, r_hBP, r_hCP, r_iRv, r_iRo, r_lofL, r_lofT, r_tofL, r_tofT, r_bits, r_tyL, r_eB, r_bnd, r_bo, r_be, r_eR, r_Rs, r_bin, r_un, r_c, r_v, r_vd, r_and, r_or, r_if, r_eA, r_eAo, r_eAe, r_eAD, r_eADo, r_eADe, r_eDk, r_CB, r_aN, r_aD, r_aDo, r_aDe, r_aO, r_aOo, r_cA, r_cAe, r_sv0, r_sv1,
  r_call, r_callo, r_calle, r_O0, r_O1, r_Sl, r_Ch, r_Ch3, r_kT', r_kF, r_M, r_Ln, r_Lns, r_Ix, r_Ixs, r_Nl, r_Nls, r_iD, r_iDo, r_iDe, r_iDj, r_iA, r_iAo, r_iAe, r_iAj, r_Q, r_Qn, r_Qr, r_Qb, r_Qc, r_Qe, r_B, r_Bo, r_Be, r_G, r_R, r_E, r_I, r_N, r_X, r_F, r_Fo, r_lc, r_fnr, r_fnn, r_fne, r_tk,
  r_bT, r_bsN, r_bsC, r_bsK, r_bN, r_IB, r_addI, r_sub, r_neg, r_not, r_min, r_max, r_lenL, r_lenT, r_eqS, r_neS, r_eqI, r_neI, r_slL, r_itS, r_itL, r_itT, r_enS, r_enL, r_zip, r_zipS, r_bs2, r_bs3, r_w0, r_w1, r_tyS, r_IxO, r_IxOo, r_St2, r_CallK, r_dSel, r_s0, r_sl, r_sr, Option.toList_some, and_self, if_true, if_false, Bool.false_eq_true,
  List.map_cons, List.map_nil, List.length_cons, List.length_nil, List.cons_append, List.nil_append, List.replicate, List.getElem?_cons_zero, List.getElem?_cons_succ, List.set_cons_zero, List.set_cons_succ, Option.map_some, Option.map_none, Nat.reduceAdd, Nat.reduceSub])
local macro_rules | `(tactic| walk_at "evr") => `(tactic| ((walk_at "evs") <;> rfl))
theorem nin_side (b : Bool) : pNin (.str (if b then "right" else "left")) (.tuple [.str "left", .str "right"]) = some (.bool false) := by cases b <;> rfl
theorem eq_side (b : Bool) : pEq (.str (if b then "right" else "left")) (.str "right") = some (.bool b) := by cases b <;> rfl
theorem joints_ok (w : List Bool) (b : Bool) (st : SE) (h : w.length ≤ 10) : dn_joints [.d (.str (hs w)), .d (.str (if b then "right" else "left"))] st = some (.ok (.list ((plJ w.reverse b (2 ^ w.length - 1)).mergeSort leD)), st) := by
  unfold dn_joints sf_joints
  have hpos : 0 < 2 ^ w.length := Nat.pow_pos (by decide)
  have hle : 2 ^ w.length ≤ 2 ^ 10 := Nat.pow_le_pow_right (by decide) h
  have e1 := needfew_ok w 10 st h (by decide)
  rw [show ((10 : Nat) : Int) = 10 from rfl] at e1
  have n1 := nin_side b
  have n2 := eq_side b
  generalize hS : (if b then ("right" : Str) else "left") = S at *
  have e2 := long_ok w (st ++ [.l []]) (by omega)
  have il : (inLine 1 && inLine ((2 ^ w.length : Nat) : Int)) = true := by rw [in_nat _ (by omega)]; rfl
  obtain ⟨dl', st', e3, ⟨x3, x4, rfl, rfl⟩⟩ := forGo_inv (bd := bN 3) (body := lb_joints_1) (fun i dl s => ∃ x3 x4, s = st ++ [.l (plJ w.reverse b i)] ∧ dl = [some (.d (.str (hs w))), some (.d (.str S)), some (.o st.length), x3, x4])
    (rangeL 1 ((2 ^ w.length : Nat) : Int)) 0 [some (.d (.str (hs w))), some (.d (.str S)), some (.o st.length), none, none] (st ++ [.l []]) ⟨_, _, rfl, rfl⟩ (fun j y dl s ej hI => by
      obtain ⟨x3, x4, rfl, rfl⟩ := hI
      obtain ⟨rfl, hj⟩ := rangeL_get ej
      rw [Nat.zero_add]
      have hj' : j + 1 < 2 ^ w.length := by omega
      have md : pMod (.int (1 + (j : Int))) (.int 2) = some (.int ((1 + (j : Int)) % 2)) := r_mod (by decide)
      have q1 : pEq (.int ((1 + (j : Int)) % 2)) (.int 1) = some (.bool (decide (j % 2 = 0))) := by
        rw [r_eqI]
        by_cases hh : j % 2 = 0
        · rw [decide_eq_true hh, decide_eq_true (by omega)]
        · rw [decide_eq_false hh, decide_eq_false (by omega)]
      have q2 := eq_bb (decide (j % 2 = 0)) b
      by_cases hc : (decide (j % 2 = 0) == b) = true
      · rw [hc] at q2
        have a1 := heightof_ok w j (st ++ [.l (plJ w.reverse b j)]) (by omega) (by omega)
        have a2 := heightof_ok w (j + 1) (st ++ [.l (plJ w.reverse b j)]) (by omega) (by omega)
        have s1 : (1 : Int) + (j : Int) - 1 = (j : Int) := by omega
        have s2 : ((j + 1 : Nat) : Int) = 1 + (j : Int) := by omega
        rw [s2] at a2
        have so := sort_two (HtL w.reverse j) (HtL w.reverse (j + 1))
        have ep : plJ w.reverse b (j + 1) = plJ w.reverse b j ++ [.tuple [.int ((min (HtL w.reverse j) (HtL w.reverse (j + 1)) : Nat) : Int), .int ((max (HtL w.reverse j) (HtL w.reverse (j + 1)) : Nat) : Int)]] := by
          unfold plJ
          rw [idx_succ, if_pos hc, List.map_append]
          rfl
        rw [ep]
        have hlen : (plJ w.reverse b j).length < 1000000 := by unfold plJ; rw [List.length_map]; have := idx_le b j; omega
        generalize plJ w.reverse b j = PL at *
        generalize min (HtL w.reverse j) (HtL w.reverse (j + 1)) = A at *
        generalize max (HtL w.reverse j) (HtL w.reverse (j + 1)) = B at *
        generalize HtL w.reverse j = A0 at *
        generalize HtL w.reverse (j + 1) = B0 at *
        refine ⟨_, [some (.d (.str (hs w))), some (.d (.str S)), some (.o st.length), some (.d (.int (1 + (j : Int)))), some (.d (.list [.int (A : Int), .int (B : Int)]))], st ++ [.l (PL ++ [.tuple [.int (A : Int), .int (B : Int)]])], rfl, ?_, _, _, rfl, rfl⟩
        have x0 : atI [PyData.int (A : Int), .int (B : Int)] 0 = some (.int (A : Int)) := rfl
        have x1 : atI [PyData.int (A : Int), .int (B : Int)] 1 = some (.int (B : Int)) := rfl
        have ap := r_Ap (i := 2) (j := st.length) (f := eCB pTup (aD (eBin pIx (eV 4) (eC (.int 0))) (aD (eBin pIx (eV 4) (eC (.int 1))) aN))) (dl := [some (.d (.str (hs w))), some (.d (.str S)), some (.o st.length), some (.d (.int (1 + (j : Int)))), some (.d (.list [.int (A : Int), .int (B : Int)]))]) (st := st ++ [.l PL]) (st1 := st ++ [.l PL]) (ys := PL) (xs := PL) (d := .tuple [.int (A : Int), .int (B : Int)]) rfl (by simp) (by walk_at "evs") (by simp) hlen
        have sd : (st ++ [Ob.l PL]).set st.length (Ob.l (PL ++ [.tuple [.int (A : Int), .int (B : Int)]])) = st ++ [.l (PL ++ [.tuple [.int (A : Int), .int (B : Int)]])] := by
          rw [List.set_append_right _ _ (Nat.le_refl _), Nat.sub_self]
          rfl
        rw [sd] at ap
        unfold lb_joints_1
        clear hS hc ep sd ej hj hj' hle hpos
        walk_at "evs"
      · have hc' : (decide (j % 2 = 0) == b) = false := by simpa using hc
        rw [hc'] at q2
        have ep : plJ w.reverse b (j + 1) = plJ w.reverse b j := by
          unfold plJ
          rw [idx_succ, if_neg hc]
        rw [ep]
        generalize plJ w.reverse b j = PL at *
        refine ⟨_, [some (.d (.str (hs w))), some (.d (.str S)), some (.o st.length), some (.d (.int (1 + (j : Int)))), x4], st ++ [.l PL], rfl, ?_, _, _, rfl, rfl⟩
        unfold lb_joints_1
        clear hS hc hc' ep ej hj hj' hle hpos
        walk_at "evs")
  rw [rangeL_len, show ((((2 ^ w.length : Nat) : Int)) - 1).toNat = 2 ^ w.length - 1 by omega, Nat.zero_add] at e3
  have so := sort_plJ w.reverse (idx b (2 ^ w.length - 1)) (by have := idx_le b (2 ^ w.length - 1); omega)
  rw [show (idx b (2 ^ w.length - 1)).map (jq w.reverse) = plJ w.reverse b (2 ^ w.length - 1) from rfl] at so
  generalize plJ w.reverse b (2 ^ w.length - 1) = PL at *
  generalize PL.mergeSort leD = SL at *
  have nw : sNw 2 aN [some (.d (.str (hs w))), some (.d (.str S)), none, none, none] st = some (.nx, [some (.d (.str (hs w))), some (.d (.str S)), some (.o st.length), none, none], st ++ [.l []]) := rfl
  have fz := r_Fz (i := 2) (j := st.length) (xs := PL) (f := sR (eCB pSort (aD (eV 2) aN))) (dl := [some (.d (.str (hs w))), some (.d (.str S)), some (.o st.length), x3, x4]) (st := st ++ [.l PL]) rfl (by simp)
  have sd : (st ++ [Ob.l PL]).set st.length Ob.dead = st ++ [.dead] := by
    rw [List.set_append_right _ _ (Nat.le_refl _), Nat.sub_self]
    rfl
  have tk : List.take st.length (st ++ [Ob.dead]) = st := by simp
  rw [sd] at fz
  clear hS sd hle hpos
  walk_at "evs"
end DL
set_option autoImplicit false
namespace DL
open PySem PySem.Spec PyProof.Rows L2
local macro_rules | `(tactic| walk_at "ev") => `(tactic| simp only [r_fn, r_Rz, r_RzP, r_Try, r_Tr, r_Tn, r_Te, r_Tk, r_CL, r_cl, r_at0, r_at1, r_at2, r_at3, r_at4, r_hA0, r_hBA0, r_hCA0, r_hA1, r_hA2, r_hBA2, r_hCA2, r_hA3, r_hBA3, r_hCA3, r_hA4, r_hBA4, r_hCA4, r_hA5, r_hBA5, r_hCA5, r_hA6, r_hBA6, r_hCA6, r_hA7, r_hBA7, r_hCA7, r_hA8, r_hBA8, r_hCA8, r_hA9, r_hBA9, r_hCA9, r_hA10, r_hBA10, r_hCA10, r_hA11, r_hBA11, r_hCA11, r_hA12, r_hBA12, r_hCA12, r_hA13, r_hBA13, r_hCA13, r_hA14, r_hBA14, r_hCA14, r_hBP, r_hCP, r_iRv, r_iRo, r_lofL, r_lofT, r_tofL, r_tofT, r_bits, r_tyL, r_eB, r_bnd, r_bo, r_be, r_eR, r_Rs, r_bin, r_un, r_c, r_v, r_vd, r_and, r_or, r_if, r_eA, r_eAo, r_eAe, r_eAD, r_eADo, r_eADe, r_eDk, r_CB, r_aN, r_aD, r_aDo, r_aDe, r_aO, r_aOo, r_cA, r_cAe, r_sv0, r_sv1,
  r_call, r_callo, r_calle, r_O0, r_O1, r_Sl, r_Ch, r_Ch3, r_kT', r_kF, r_M, r_Ln, r_Lns, r_Ix, r_Ixs, r_Nl, r_Nls, r_iD, r_iDo, r_iDe, r_iDj, r_iA, r_iAo, r_iAe, r_iAj, r_Q, r_Qn, r_Qr, r_Qb, r_Qc, r_Qe, r_B, r_Bo, r_Be, r_G, r_R, r_E, r_I, r_N, r_X, r_F, r_Fo, r_lc, r_fnr, r_fnn, r_fne, r_tk,
  r_bT, r_bsN, r_bsC, r_bsK, r_bN, r_IB, r_addI, r_sub, r_neg, r_not, r_min, r_max, r_lenL, r_lenT, r_eqS, r_neS, r_eqI, r_neI, r_slL, r_itS, r_itL, r_itT, r_enS, r_enL, r_zip, r_zipS, r_bs2, r_bs3, r_w0, r_w1, r_tyS, r_IxO, r_IxOo, r_St2, r_CallK, r_dSel, r_s0, r_sl, r_sr, Option.toList_some, and_self, if_true, if_false, Bool.false_eq_true,
  List.map_cons, List.map_nil, List.length_cons, List.length_nil, List.cons_append, List.nil_append, List.replicate, List.getElem?_cons_zero, List.getElem?_cons_succ, List.set_cons_zero, List.set_cons_succ, Option.map_some, Option.map_none, Nat.reduceAdd, Nat.reduceSub])
local macro_rules | `(tactic| walk_at "evs") => `(tactic| simp only [*, r_fn, r_mod, r_fdv, r_mulI, r_shl, r_shr, r_pow, r_rg1, r_rg2, r_tup, r_lst, r_ixS, r_ixL, r_ixT, r_slS, r_lenS, r_addS, r_addL, r_revS, r_Lno, decide_true, decide_false, Nat.le_refl, Nat.reduceLeDiff, Int.reduceLT, Int.reduceLE, Bool.not_true, Bool.not_false, Bool.and_true, Bool.true_and, Bool.and_self, r_Rz, r_RzP, r_Try, r_Tr, r_Tn, r_Te, r_Tk, r_CL, r_cl, r_at0, r_at1, r_at2, r_at3, r_at4, r_hA0, r_hBA0, r_hCA0, r_hA1, r_hA2, r_hBA2, r_hCA2, r_hA3, r_hBA3, r_hCA3, r_hA4, r_hBA4, r_hCA4, r_hA5, r_hBA5, r_hCA5, r_hA6, r_hBA6, r_hCA6, r_hA7, r_hBA7, r_hCA7, r_hA8, r_hBA8, r_hCA8, r_hA9, r_hBA9, r_hCA9, r_hA10, r_hBA10, r_hCA10, r_hA11, r_hBA11, r_hCA11, r_hA12, r_hBA12, r_hCA12, r_hA13, r_hBA13, r_hCA13, r_hA14, r_hBA14, r_hCA14, r_hBP, r_hCP, r_iRv, r_iRo, r_lofL, r_lofT, r_tofL, r_tofT, r_bits, r_tyL, r_eB, r_bnd, r_bo, r_be, r_eR, r_Rs, r_bin, r_un, r_c, r_v, r_vd, r_and, r_or, r_if, r_eA, r_eAo, r_eAe, r_eAD, r_eADo, r_eADe, r_eDk, r_CB, r_aN, r_aD, r_aDo, r_aDe, r_aO, r_aOo, r_cA, r_cAe, r_sv0, r_sv1,
  r_call, r_callo, r_calle, r_O0, r_O1, r_Sl, r_Ch, r_Ch3, r_kT', r_kF, r_M, r_Ln, r_Lns, r_Ix, r_Ixs, r_Nl, r_Nls, r_iD, r_iDo, r_iDe, r_iDj, r_iA, r_iAo, r_iAe, r_iAj, r_Q, r_Qn, r_Qr, r_Qb, r_Qc, r_Qe, r_B, r_Bo, r_Be, r_G, r_R, r_E, r_I, r_N, r_X, r_F, r_Fo, r_lc, r_fnr, r_fnn, r_fne, r_tk,
  r_bT, r_bsN, r_bsC, r_bsK, r_bN, r_IB, r_addI, r_sub, r_neg, r_not, r_min, r_max, r_lenL, r_lenT, r_eqS, r_neS, r_eqI, r_neI, r_slL, r_itS, r_itL, r_itT, r_enS, r_enL, r_zip, r_zipS, r_bs2, r_bs3, r_w0, r_w1, r_tyS, r_IxO, r_IxOo, r_St2, r_CallK, r_dSel, r_s0, r_sl, r_sr, Option.toList_some, and_self, if_true, if_false, Bool.false_eq_true,
  List.map_cons, List.map_nil, List.length_cons, List.length_nil, List.cons_append, List.nil_append, List.replicate, List.getElem?_cons_zero, List.getElem?_cons_succ, List.set_cons_zero, List.set_cons_succ, Option.map_some, Option.map_none, Nat.reduceAdd, Nat.reduceSub])
local macro_rules | `(tactic| walk_at "evr") => `(tactic| ((walk_at "evs") <;> rfl))
/-! ### periods -/
def Per (y : Nat → Bool) (q : Nat) : Prop := ∀ i, y (i + q) = y i
theorem per_mul {y : Nat → Bool} {q : Nat} (h : Per y q) : ∀ k, Per y (q * k)
  | 0 => fun i => rfl
  | k + 1 => fun i => by rw [Nat.mul_succ, ← Nat.add_assoc, h, per_mul h k]
theorem per_sub {y : Nat → Bool} {a b : Nat} (h1 : Per y a) (h2 : Per y b) (h : a ≤ b) : Per y (b - a) := fun i => by
  rw [← h1, show i + (b - a) + a = i + b by omega, h2]
theorem per_mod {y : Nat → Bool} {a b : Nat} (h1 : Per y a) (h2 : Per y b) : Per y (b % a) := by
  have := Nat.mod_add_div b a
  have e : b % a = b - a * (b / a) := by omega
  rw [e]
  exact per_sub (per_mul h1 _) h2 (by omega)
theorem per_gcd {y : Nat → Bool} (a b : Nat) : Per y a → Per y b → Per y (Nat.gcd a b) := by
  induction a, b using Nat.gcd.induction with
  | H0 n => intro _ h; rwa [Nat.gcd_zero_left]
  | H1 m n hm ih =>
    intro h1 h2
    rw [Nat.gcd_rec]
    exact ih (per_mod h1 h2) h1
theorem per_at {y : Nat → Bool} {q : Nat} (h : Per y q) (i : Nat) : y i = y (i % q) := by
  have := Nat.mod_add_div i q
  conv => lhs; rw [← this]
  exact per_mul h _ _
/-- from m on, again behind p -/
def EvP (x : Nat → Bool) (m p : Nat) : Prop := ∀ i, m ≤ i → x (i + p) = x i
theorem evp_mul {x : Nat → Bool} {m p : Nat} (h : EvP x m p) : ∀ k, EvP x m (p * k)
  | 0 => fun i _ => rfl
  | k + 1 => fun i hi => by rw [Nat.mul_succ, ← Nat.add_assoc, h _ (by omega), evp_mul h k i hi]
theorem evp_per {x : Nat → Bool} {m p m' q : Nat} (h : EvP x m p) (hp : 0 < p) (h' : EvP x m' q) : Per (fun i => x (m + i)) q := fun i => by
  show x (m + (i + q)) = x (m + i)
  have e1 := evp_mul h m' (m + (i + q)) (by omega)
  have e2 := evp_mul h m' (m + i) (by omega)
  have hk : m' ≤ p * m' := Nat.le_mul_of_pos_left _ hp
  rw [← e1, ← e2, show m + (i + q) + p * m' = m + i + p * m' + q by omega]
  exact h' _ (by omega)
def prX (x : Nat → Bool) (m : Nat) : List Bool := (List.range m).map x
def rgX (x : Nat → Bool) (m p : Nat) : List Bool := (List.range p).map fun i => x (m + i)
theorem prX_len (x : Nat → Bool) (m : Nat) : (prX x m).length = m := by unfold prX; simp
theorem rgX_len (x : Nat → Bool) (m p : Nat) : (rgX x m p).length = p := by unfold rgX; simp
theorem prX_get (x : Nat → Bool) (m i : Nat) (h : i < m) : (prX x m)[i]? = some (x i) := by unfold prX; rw [List.getElem?_map, List.getElem?_range h]; rfl
theorem rgX_get (x : Nat → Bool) (m p i : Nat) (h : i < p) : (rgX x m p)[i]? = some (x (m + i)) := by unfold rgX; rw [List.getElem?_map, List.getElem?_range h]; rfl
theorem prX_succ (x : Nat → Bool) (m : Nat) : prX x (m + 1) = prX x m ++ [x m] := by unfold prX; rw [List.range_succ, List.map_append]; rfl
theorem rgX_succ (x : Nat → Bool) (m p : Nat) : rgX x m (p + 1) = rgX x m p ++ [x (m + p)] := by unfold rgX; rw [List.range_succ, List.map_append]; rfl
theorem rgX_cons (x : Nat → Bool) (m p : Nat) : rgX x m (p + 1) = x m :: rgX x (m + 1) p := by
  unfold rgX
  rw [List.range_succ_eq_map, List.map_cons, List.map_map]
  congr 1
  apply List.map_congr_left
  intro a _
  show x (m + (a + 1)) = x (m + 1 + a)
  congr 1
  omega
theorem rgX_add (x : Nat → Bool) (m p q : Nat) : rgX x m (p + q) = rgX x m p ++ rgX x (m + p) q := by
  induction q with
  | zero => unfold rgX; simp
  | succ q ih => rw [← Nat.add_assoc, rgX_succ, ih, rgX_succ, List.append_assoc, Nat.add_assoc]
theorem rgX_shift {x : Nat → Bool} {m p : Nat} (h : EvP x m p) (q : Nat) : rgX x (m + p) q = rgX x m q := by
  unfold rgX
  apply List.map_congr_left
  intro a _
  rw [show m + p + a = m + a + p by omega]
  exact h _ (by omega)
theorem rgX_times {x : Nat → Bool} {m p : Nat} (h : EvP x m p) : ∀ k, (List.replicate k (rgX x m p)).flatten = rgX x m (p * k)
  | 0 => by simp [rgX]
  | k + 1 => by
    rw [List.replicate_succ, List.flatten_cons, rgX_times h k, Nat.mul_succ, Nat.add_comm (p * k) p, rgX_add, rgX_shift h]
/-- every endless strip, by its letters -/
theorem x_rep (ld rg : List Bool) (h0 : 0 < rg.length) : ld = prX (xL ld rg) ld.length ∧ rg = rgX (xL ld rg) ld.length rg.length ∧ EvP (xL ld rg) ld.length rg.length := by
  refine ⟨?_, ?_, ?_⟩
  · apply List.ext_getElem?
    intro i
    by_cases hi : i < ld.length
    · rw [prX_get _ _ _ hi]
      unfold xL
      rw [if_pos hi, List.getElem?_eq_getElem hi]
      rfl
    · rw [List.getElem?_eq_none (by omega), List.getElem?_eq_none (by rw [prX_len]; omega)]
  · apply List.ext_getElem?
    intro i
    by_cases hi : i < rg.length
    · rw [rgX_get _ _ _ _ hi]
      unfold xL
      rw [if_neg (by omega), show ld.length + i - ld.length = i by omega, Nat.mod_eq_of_lt hi, List.getElem?_eq_getElem hi]
      rfl
    · rw [List.getElem?_eq_none (by omega), List.getElem?_eq_none (by rw [rgX_len]; omega)]
  · intro i hi
    unfold xL
    rw [if_neg (by omega), if_neg (by omega), show i + rg.length - ld.length = i - ld.length + rg.length by omega, Nat.add_mod_right]
theorem rep_x {x : Nat → Bool} {m p : Nat} (h : EvP x m p) (hp : 0 < p) (i : Nat) : xL (prX x m) (rgX x m p) i = x i := by
  unfold xL
  rw [prX_len, rgX_len]
  by_cases hi : i < m
  · rw [if_pos hi, prX_get _ _ _ hi]; rfl
  · rw [if_neg hi, rgX_get _ _ _ _ (Nat.mod_lt _ hp)]
    show x (m + (i - m) % p) = x i
    have hm := Nat.mod_add_div (i - m) p
    have e := evp_mul h ((i - m) / p) (m + (i - m) % p) (by omega)
    rw [← e]
    congr 1
    omega
theorem pre_x {x : Nat → Bool} {m p : Nat} (h : EvP x m p) (hp : 0 < p) (n : Nat) : preL (prX x m) (rgX x m p) n = prX x n := by
  unfold preL
  show (List.range n).map _ = (List.range n).map _
  apply List.map_congr_left
  intro i _
  exact rep_x h hp i
/-- told plainest -/
def Canon (x : Nat → Bool) (m p : Nat) : Prop := EvP x m p ∧ 0 < p ∧ (∀ m' q, 0 < q → EvP x m' q → p ≤ q) ∧ (m = 0 ∨ x (m - 1) ≠ x (m - 1 + p))
theorem canon_one {x : Nat → Bool} {m p m' p' : Nat} (h : Canon x m p) (h' : Canon x m' p') : m = m' ∧ p = p' := by
  obtain ⟨a1, a2, a3, a4⟩ := h
  obtain ⟨b1, b2, b3, b4⟩ := h'
  have e1 := a3 _ _ b2 b1
  have e2 := b3 _ _ a2 a1
  have e : p = p' := by omega
  subst e
  refine ⟨?_, rfl⟩
  rcases Nat.lt_trichotomy m m' with h | h | h
  · rcases b4 with b4 | b4
    · omega
    · exact absurd (a1 (m' - 1) (by omega)).symm b4
  · exact h
  · rcases a4 with a4 | a4
    · omega
    · exact absurd (b1 (m - 1) (by omega)).symm a4
/-- alike at the first 420 letters: alike -/
theorem x_same {x y : Nat → Bool} {m p m' p' : Nat} (h : EvP x m p) (h' : EvP y m' p') (hm : m ≤ 20) (hm' : m' ≤ 20) (hp : 0 < p) (hp2 : p ≤ 20) (hp' : 0 < p') (hp2' : p' ≤ 20) (e : ∀ i, i < 420 → x i = y i) (i : Nat) : x i = y i := by
  have hq : 0 < p * p' := Nat.mul_pos hp hp'
  have hq2 : p * p' ≤ 20 * 20 := Nat.mul_le_mul hp2 hp2'
  by_cases hi : i < 20
  · exact e i (by omega)
  · have hmod := Nat.mod_add_div (i - 20) (p * p')
    have hlt := Nat.mod_lt (i - 20) hq
    have e1 := evp_mul h (p' * ((i - 20) / (p * p'))) (20 + (i - 20) % (p * p')) (by omega)
    have e2 := evp_mul h' (p * ((i - 20) / (p * p'))) (20 + (i - 20) % (p * p')) (by omega)
    have a1 : 20 + (i - 20) % (p * p') + p * (p' * ((i - 20) / (p * p'))) = i := by rw [← Nat.mul_assoc]; omega
    have a2 : 20 + (i - 20) % (p * p') + p' * (p * ((i - 20) / (p * p'))) = i := by rw [← Nat.mul_assoc, Nat.mul_comm p' p]; omega
    rw [a1] at e1
    rw [a2] at e2
    rw [e1, e2]
    exact e _ (by omega)
/-- no shorter period within the letters 60 to 300 -/
theorem no_less {x : Nat → Bool} {m p : Nat} (h : Canon x m p) (hm : m ≤ 20) (hp : p ≤ 20) (l : Nat) (h0 : 0 < l) (h1 : l < p) : ∃ i, i < 240 - l ∧ x (60 + i) ≠ x (60 + l + i) := by
  apply Classical.byContradiction
  intro hn
  have hall : ∀ i, i < 240 - l → x (60 + i) = x (60 + l + i) := fun i hi => Classical.byContradiction fun hne => hn ⟨i, hi, hne⟩
  have hev : EvP x 60 l := fun j hj => by
    have hmod := Nat.mod_add_div (j - 60) p
    have hlt := Nat.mod_lt (j - 60) h.2.1
    have e1 := evp_mul h.1 ((j - 60) / p) (60 + (j - 60) % p) (by omega)
    have e2 := evp_mul h.1 ((j - 60) / p) (60 + l + (j - 60) % p) (by omega)
    rw [show 60 + (j - 60) % p + p * ((j - 60) / p) = j by omega] at e1
    rw [show 60 + l + (j - 60) % p + p * ((j - 60) / p) = j + l by omega] at e2
    rw [e1, e2]
    exact (hall _ (by omega)).symm
  have := h.2.2.1 60 l h0 hev
  omega
end DL
set_option autoImplicit false
namespace DL
open PySem PySem.Spec PyProof.Rows L2
local macro_rules | `(tactic| walk_at "ev") => `(tactic| simp only [r_fn, r_Rz, r_RzP, r_Try, r_Tr, r_Tn, r_Te, r_Tk, r_CL, r_cl, r_at0, r_at1, r_at2, r_at3, r_at4, r_hA0, r_hBA0, r_hCA0, r_hA1, r_hA2, r_hBA2, r_hCA2, r_hA3, r_hBA3, r_hCA3, r_hA4, r_hBA4, r_hCA4, r_hA5, r_hBA5, r_hCA5, r_hA6, r_hBA6, r_hCA6, r_hA7, r_hBA7, r_hCA7, r_hA8, r_hBA8, r_hCA8, r_hA9, r_hBA9, r_hCA9, r_hA10, r_hBA10, r_hCA10, r_hA11, r_hBA11, r_hCA11, r_hA12, r_hBA12, r_hCA12, r_hA13, r_hBA13, r_hCA13, r_hA14, r_hBA14, r_hCA14, r_hBP, r_hCP, r_iRv, r_iRo, r_lofL, r_lofT, r_tofL, r_tofT, r_bits, r_tyL, r_eB, r_bnd, r_bo, r_be, r_eR, r_Rs, r_bin, r_un, r_c, r_v, r_vd, r_and, r_or, r_if, r_eA, r_eAo, r_eAe, r_eAD, r_eADo, r_eADe, r_eDk, r_CB, r_aN, r_aD, r_aDo, r_aDe, r_aO, r_aOo, r_cA, r_cAe, r_sv0, r_sv1,
  r_call, r_callo, r_calle, r_O0, r_O1, r_Sl, r_Ch, r_Ch3, r_kT', r_kF, r_M, r_Ln, r_Lns, r_Ix, r_Ixs, r_Nl, r_Nls, r_iD, r_iDo, r_iDe, r_iDj, r_iA, r_iAo, r_iAe, r_iAj, r_Q, r_Qn, r_Qr, r_Qb, r_Qc, r_Qe, r_B, r_Bo, r_Be, r_G, r_R, r_E, r_I, r_N, r_X, r_F, r_Fo, r_lc, r_fnr, r_fnn, r_fne, r_tk,
  r_bT, r_bsN, r_bsC, r_bsK, r_bN, r_IB, r_addI, r_sub, r_neg, r_not, r_min, r_max, r_lenL, r_lenT, r_eqS, r_neS, r_eqI, r_neI, r_slL, r_itS, r_itL, r_itT, r_enS, r_enL, r_zip, r_zipS, r_bs2, r_bs3, r_w0, r_w1, r_tyS, r_IxO, r_IxOo, r_St2, r_CallK, r_dSel, r_s0, r_sl, r_sr, Option.toList_some, and_self, if_true, if_false, Bool.false_eq_true,
  List.map_cons, List.map_nil, List.length_cons, List.length_nil, List.cons_append, List.nil_append, List.replicate, List.getElem?_cons_zero, List.getElem?_cons_succ, List.set_cons_zero, List.set_cons_succ, Option.map_some, Option.map_none, Nat.reduceAdd, Nat.reduceSub])
local macro_rules | `(tactic| walk_at "evs") => `(tactic| simp only [*, r_fn, r_mod, r_fdv, r_mulI, r_shl, r_shr, r_pow, r_rg1, r_rg2, r_tup, r_lst, r_ixS, r_ixL, r_ixT, r_slS, r_lenS, r_addS, r_addL, r_revS, r_Lno, decide_true, decide_false, Nat.le_refl, Nat.reduceLeDiff, Int.reduceLT, Int.reduceLE, Bool.not_true, Bool.not_false, Bool.and_true, Bool.true_and, Bool.and_self, r_Rz, r_RzP, r_Try, r_Tr, r_Tn, r_Te, r_Tk, r_CL, r_cl, r_at0, r_at1, r_at2, r_at3, r_at4, r_hA0, r_hBA0, r_hCA0, r_hA1, r_hA2, r_hBA2, r_hCA2, r_hA3, r_hBA3, r_hCA3, r_hA4, r_hBA4, r_hCA4, r_hA5, r_hBA5, r_hCA5, r_hA6, r_hBA6, r_hCA6, r_hA7, r_hBA7, r_hCA7, r_hA8, r_hBA8, r_hCA8, r_hA9, r_hBA9, r_hCA9, r_hA10, r_hBA10, r_hCA10, r_hA11, r_hBA11, r_hCA11, r_hA12, r_hBA12, r_hCA12, r_hA13, r_hBA13, r_hCA13, r_hA14, r_hBA14, r_hCA14, r_hBP, r_hCP, r_iRv, r_iRo, r_lofL, r_lofT, r_tofL, r_tofT, r_bits, r_tyL, r_eB, r_bnd, r_bo, r_be, r_eR, r_Rs, r_bin, r_un, r_c, r_v, r_vd, r_and, r_or, r_if, r_eA, r_eAo, r_eAe, r_eAD, r_eADo, r_eADe, r_eDk, r_CB, r_aN, r_aD, r_aDo, r_aDe, r_aO, r_aOo, r_cA, r_cAe, r_sv0, r_sv1,
  r_call, r_callo, r_calle, r_O0, r_O1, r_Sl, r_Ch, r_Ch3, r_kT', r_kF, r_M, r_Ln, r_Lns, r_Ix, r_Ixs, r_Nl, r_Nls, r_iD, r_iDo, r_iDe, r_iDj, r_iA, r_iAo, r_iAe, r_iAj, r_Q, r_Qn, r_Qr, r_Qb, r_Qc, r_Qe, r_B, r_Bo, r_Be, r_G, r_R, r_E, r_I, r_N, r_X, r_F, r_Fo, r_lc, r_fnr, r_fnn, r_fne, r_tk,
  r_bT, r_bsN, r_bsC, r_bsK, r_bN, r_IB, r_addI, r_sub, r_neg, r_not, r_min, r_max, r_lenL, r_lenT, r_eqS, r_neS, r_eqI, r_neI, r_slL, r_itS, r_itL, r_itT, r_enS, r_enL, r_zip, r_zipS, r_bs2, r_bs3, r_w0, r_w1, r_tyS, r_IxO, r_IxOo, r_St2, r_CallK, r_dSel, r_s0, r_sl, r_sr, Option.toList_some, and_self, if_true, if_false, Bool.false_eq_true,
  List.map_cons, List.map_nil, List.length_cons, List.length_nil, List.cons_append, List.nil_append, List.replicate, List.getElem?_cons_zero, List.getElem?_cons_succ, List.set_cons_zero, List.set_cons_succ, Option.map_some, Option.map_none, Nat.reduceAdd, Nat.reduceSub])
local macro_rules | `(tactic| walk_at "evr") => `(tactic| ((walk_at "evs") <;> rfl))
theorem forGo_first {bd : BF} {body : SF} {st : SE} (I : DE → Prop) : ∀ (xs : List PyData) (dl : DE) (P : Nat → Bool) (R : Nat → PyData), I dl →
    (∀ (j : Nat) (x : PyData) (dl : DE), xs[j]? = some x → I dl → ∃ dl1, bd x dl = some dl1 ∧ (P j = true → ∃ dl2, body dl1 st = some (.rt (R j), dl2, st)) ∧ (P j = false → ∃ dl2, body dl1 st = some (.nx, dl2, st) ∧ I dl2)) →
    (∃ j dl', j < xs.length ∧ P j = true ∧ (∀ k, k < j → P k = false) ∧ forGo bd body xs dl st = some (.rt (R j), dl', st)) ∨ ((∀ k, k < xs.length → P k = false) ∧ ∃ dl', I dl' ∧ forGo bd body xs dl st = some (.nx, dl', st))
  | [], dl, P, R, h0, _ => .inr ⟨fun k hk => absurd hk (Nat.not_lt_zero _), dl, h0, rfl⟩
  | x :: xs, dl, P, R, h0, hs => by
    obtain ⟨dl1, e1, ht, hf⟩ := hs 0 x dl rfl h0
    cases hP : P 0 with
    | true =>
      obtain ⟨dl2, e2⟩ := ht hP
      refine .inl ⟨0, dl2, by simp, hP, fun k hk => absurd hk (Nat.not_lt_zero _), ?_⟩
      unfold forGo
      rw [e1]
      dsimp only
      rw [e2]
    | false =>
      obtain ⟨dl2, e2, h2⟩ := hf hP
      have ef : forGo bd body (x :: xs) dl st = forGo bd body xs dl2 st := by
        conv => lhs; unfold forGo
        rw [e1]
        dsimp only
        rw [e2]
      rw [ef]
      rcases forGo_first I xs dl2 (fun k => P (k + 1)) (fun k => R (k + 1)) h2 (fun j y dl e h => hs (j + 1) y dl (by simpa using e) h) with ⟨j, dl', hj, hp, hk, e⟩ | ⟨hk, dl', hI, e⟩
      · refine .inl ⟨j + 1, dl', by simp; omega, hp, fun k hk' => ?_, e⟩
        cases k with
        | zero => exact hP
        | succ k => exact hk k (by omega)
      · refine .inr ⟨fun k hk' => ?_, dl', hI, e⟩
        cases k with
        | zero => exact hP
        | succ k => exact hk k (by simp at hk'; omega)
theorem oc_inj {a b : Bool} (h : oc a = oc b) : a = b := by cases a <;> cases b <;> first | rfl | exact absurd h (by decide)
theorem hs_eq (a b : List Bool) : (a.map oc = b.map oc) ↔ a = b := by
  constructor
  · intro h
    apply List.ext_getElem?
    intro i
    have := congrArg (fun l => l[i]?) h
    simp only [List.getElem?_map] at this
    cases ha : a[i]? <;> cases hb : b[i]? <;> rw [ha, hb] at this <;> simp at this
    rw [oc_inj this]
  · intro h; rw [h]
theorem eq_hs (a b : List Bool) : pEq (.str (hs a)) (.str (hs b)) = some (.bool (decide (a = b))) := by
  unfold hs
  rw [r_eqS]
  congr 2
  by_cases h : a = b
  · subst h; simp
  · rw [decide_eq_false h]
    have : ¬ a.map oc = b.map oc := fun e => h ((hs_eq a b).mp e)
    simp [this]
theorem ne_hs (a b : List Bool) : pNe (.str (hs a)) (.str (hs b)) = some (.bool (!decide (a = b))) := by
  unfold hs
  rw [r_neS]
  congr 2
  by_cases h : a = b
  · subst h; simp
  · rw [decide_eq_false h]
    have : ¬ a.map oc = b.map oc := fun e => h ((hs_eq a b).mp e)
    simp [this]
theorem hs_one (b : Bool) : (.str (tx [oc b]) : PyData) = .str (hs [b]) := rfl
theorem mul_hs (v : List Bool) (k : Nat) (h : v.length ≤ 100) (h2 : k ≤ 10000) : pMul (.str (hs v)) (.int (k : Int)) = some (.str (hs (List.replicate k v).flatten)) := by
  unfold hs
  rw [mul_str _ k (by simpa using h) h2]
  congr 3
  rw [List.map_flatten, List.map_replicate]
theorem xL_nil (ld rg : List Bool) (i : Nat) : xL ld rg (ld.length + i) = xL [] rg i := by
  unfold xL
  rw [if_neg (by omega), show ld.length + i - ld.length = i by omega, if_neg (by simp), List.length_nil, Nat.sub_zero]
theorem rgX_take (x : Nat → Bool) (m p q : Nat) (h : q ≤ p) : (rgX x m p).take q = rgX x m q := by
  obtain ⟨k, rfl⟩ := Nat.le.dest h
  rw [rgX_add, List.take_left' (rgX_len x m q)]
theorem evp0 {y : Nat → Bool} {p : Nat} : EvP y 0 p ↔ Per y p := ⟨fun h i => h i (Nat.zero_le _), fun h i _ => h i⟩
/-- a ring of so many letters, again and again -/
theorem ring_iff (rg : List Bool) (d : Nat) (hd : 0 < d) (hd2 : d ≤ rg.length) (hdv : rg.length % d = 0) : (List.replicate (rg.length / d) (rg.take d)).flatten = rg ↔ Per (xL [] rg) d := by
  have hn : 0 < rg.length := by omega
  obtain ⟨-, r2, r3⟩ := x_rep [] rg hn
  rw [List.length_nil] at r2 r3
  have hmul : d * (rg.length / d) = rg.length := Nat.mul_div_cancel' (Nat.dvd_of_mod_eq_zero hdv)
  constructor
  · intro h
    have hv : 0 < (rg.take d).length := by rw [List.length_take]; omega
    obtain ⟨-, q2, q3⟩ := x_rep [] (rg.take d) hv
    rw [List.length_nil] at q2 q3
    have hlen : (rg.take d).length = d := by rw [List.length_take]; omega
    rw [hlen] at q2 q3
    have hz := rgX_times q3 (rg.length / d)
    rw [← q2, h, hmul] at hz
    have hlt : ∀ i, i < rg.length → xL [] rg i = xL [] (rg.take d) i := fun i hi => by
      have e1 := rgX_get (xL [] rg) 0 rg.length i hi
      have e2 := rgX_get (xL [] (rg.take d)) 0 rg.length i hi
      rw [← r2] at e1
      rw [← hz] at e2
      rw [e1] at e2
      simpa using e2
    have pz := evp0.mp q3
    have py := evp0.mp r3
    have pzn : Per (xL [] (rg.take d)) rg.length := by rw [← hmul]; exact per_mul pz _
    have all : ∀ i, xL [] rg i = xL [] (rg.take d) i := fun i => by
      rw [per_at py i, per_at pzn i]
      exact hlt _ (Nat.mod_lt _ hn)
    intro i
    rw [all, all]
    exact pz i
  · intro h
    have hz := rgX_times (evp0.mpr h) (rg.length / d)
    rw [hmul, ← r2] at hz
    have ht : rg.take d = rgX (xL [] rg) 0 d := by
      conv => lhs; rw [r2]
      exact rgX_take _ _ _ _ hd2
    rw [ht]
    exact hz
theorem shortest_ok (rg : List Bool) (st : SE) (h0 : 0 < rg.length) (h1 : rg.length ≤ 20) : ∃ p, 0 < p ∧ p ≤ rg.length ∧ Per (xL [] rg) p ∧ (∀ q, 0 < q → Per (xL [] rg) q → p ≤ q) ∧ dn_shortest_ring [.d (.str (hs rg))] st = some (.ok (.str (hs (rg.take p))), st) := by
  have hl := len_hs rg (by omega)
  have il : (inLine 1 && inLine ((rg.length : Nat) : Int)) = true := by rw [in_nat _ (by omega)]; rfl
  have pern : Per (xL [] rg) rg.length := evp0.mp (x_rep [] rg h0).2.2
  have tk : st.take st.length = st := List.take_length
  rcases forGo_first (bd := bN 1) (body := lb_shortest_ring_1) (st := st) (fun dl => ∃ x1, dl = [some (.d (.str (hs rg))), x1]) (rangeL 1 (rg.length : Int)) [some (.d (.str (hs rg))), none] (fun j => decide (rg.length % (j + 1) = 0) && decide ((List.replicate (rg.length / (j + 1)) (rg.take (j + 1))).flatten = rg)) (fun j => .str (hs (rg.take (j + 1)))) ⟨_, rfl⟩ (fun j x dl ej hI => by
    obtain ⟨x1, rfl⟩ := hI
    obtain ⟨rfl, hj⟩ := rangeL_get ej
    have a1 : (1 : Int) + (j : Int) = ((j + 1 : Nat) : Int) := by omega
    rw [a1]
    refine ⟨[some (.d (.str (hs rg))), some (.d (.int ((j + 1 : Nat) : Int)))], rfl, ?_, ?_⟩
    all_goals
      intro hP
      refine ⟨[some (.d (.str (hs rg))), some (.d (.int ((j + 1 : Nat) : Int)))], ?_⟩
      have md : pMod (.int (rg.length : Int)) (.int ((j + 1 : Nat) : Int)) = some (.int ((rg.length % (j + 1) : Nat) : Int)) := by rw [r_mod (by omega)]; rfl
      have q1 : pEq (.int ((rg.length % (j + 1) : Nat) : Int)) (.int 0) = some (.bool (decide (rg.length % (j + 1) = 0))) := by
        rw [r_eqI]
        by_cases hh : rg.length % (j + 1) = 0
        · rw [decide_eq_true hh, decide_eq_true (by omega)]
        · rw [decide_eq_false hh, decide_eq_false (by omega)]
      have fd : pFdv (.int (rg.length : Int)) (.int ((j + 1 : Nat) : Int)) = some (.int ((rg.length / (j + 1) : Nat) : Int)) := by rw [r_fdv (by omega) (by omega)]; rfl
      have st1 := sl_take rg (j + 1) (by omega)
      have hdl : rg.length / (j + 1) ≤ rg.length := Nat.div_le_self _ _
      have ml := mul_hs (rg.take (j + 1)) (rg.length / (j + 1)) (by rw [List.length_take]; omega) (by omega)
      have q2 := eq_hs (List.replicate (rg.length / (j + 1)) (rg.take (j + 1))).flatten rg
      unfold lb_shortest_ring_1
      clear ej hj il a1 hdl
      generalize ((j + 1 : Nat) : Int) = J at *
      generalize rg.take (j + 1) = T at *
      generalize rg.length / (j + 1) = D at *
      generalize rg.length % (j + 1) = M at *
      generalize (List.replicate D T).flatten = F at *
      generalize (rg.length : Int) = L at *
    · rw [Bool.and_eq_true] at hP
      rw [hP.1] at q1
      rw [hP.2] at q2
      clear hP pern
      walk_at "evs"
    · refine ⟨?_, _, rfl⟩
      cases d1 : decide (M = 0) with
      | false =>
        rw [d1] at q1
        clear hP pern
        walk_at "evs"
      | true =>
        rw [d1, Bool.true_and] at hP
        rw [d1] at q1
        rw [hP] at q2
        clear hP pern
        walk_at "evs") with ⟨j, dl', hj, hP, hk, e⟩ | ⟨hk, dl', ⟨x1, rfl⟩, e⟩
  · rw [rangeL_len] at hj
    rw [Bool.and_eq_true, decide_eq_true_eq, decide_eq_true_eq] at hP
    have hper := (ring_iff rg (j + 1) (by omega) (by omega) hP.1).mp hP.2
    refine ⟨j + 1, by omega, by omega, hper, fun q hq hq2 => ?_, ?_⟩
    · have hg := per_gcd q rg.length hq2 pern
      have hgp : 0 < Nat.gcd q rg.length := Nat.gcd_pos_of_pos_left _ hq
      have hgq : Nat.gcd q rg.length ≤ q := Nat.gcd_le_left _ hq
      have hgn : Nat.gcd q rg.length ≤ rg.length := Nat.gcd_le_right _ h0
      have hgd : rg.length % Nat.gcd q rg.length = 0 := Nat.mod_eq_zero_of_dvd (Nat.gcd_dvd_right _ _)
      have hi := (ring_iff rg (Nat.gcd q rg.length) hgp hgn hgd).mpr hg
      apply Classical.byContradiction
      intro hlt
      have := hk (Nat.gcd q rg.length - 1) (by omega)
      rw [show Nat.gcd q rg.length - 1 + 1 = Nat.gcd q rg.length by omega, hgd, hi] at this
      simp at this
    · unfold dn_shortest_ring sf_shortest_ring
      clear hP hk hper pern hj
      generalize (rg.length : Int) = L at *
      generalize rg.take (j + 1) = T at *
      walk_at "evs"
  · rw [rangeL_len] at hk
    refine ⟨rg.length, h0, Nat.le_refl _, pern, fun q hq hq2 => ?_, ?_⟩
    · have hg := per_gcd q rg.length hq2 pern
      have hgp : 0 < Nat.gcd q rg.length := Nat.gcd_pos_of_pos_left _ hq
      have hgq : Nat.gcd q rg.length ≤ q := Nat.gcd_le_left _ hq
      have hgn : Nat.gcd q rg.length ≤ rg.length := Nat.gcd_le_right _ h0
      have hgd : rg.length % Nat.gcd q rg.length = 0 := Nat.mod_eq_zero_of_dvd (Nat.gcd_dvd_right _ _)
      have hi := (ring_iff rg (Nat.gcd q rg.length) hgp hgn hgd).mpr hg
      apply Classical.byContradiction
      intro hlt
      have := hk (Nat.gcd q rg.length - 1) (by omega)
      rw [show Nat.gcd q rg.length - 1 + 1 = Nat.gcd q rg.length by omega, hgd, hi] at this
      simp at this
    · unfold dn_shortest_ring sf_shortest_ring
      rw [List.take_length]
      clear hk pern
      generalize (rg.length : Int) = L at *
      walk_at "evs"
end DL
set_option autoImplicit false
namespace DL
open PySem PySem.Spec PyProof.Rows L2
local macro_rules | `(tactic| walk_at "ev") => `(tactic| simp only [r_fn, r_Rz, r_RzP, r_Try, r_Tr, r_Tn, r_Te, r_Tk, r_CL, r_cl, r_at0, r_at1, r_at2, r_at3, r_at4, r_hA0, r_hBA0, r_hCA0, r_hA1, r_hA2, r_hBA2, r_hCA2, r_hA3, r_hBA3, r_hCA3, r_hA4, r_hBA4, r_hCA4, r_hA5, r_hBA5, r_hCA5, r_hA6, r_hBA6, r_hCA6, r_hA7, r_hBA7, r_hCA7, r_hA8, r_hBA8, r_hCA8, r_hA9, r_hBA9, r_hCA9, r_hA10, r_hBA10, r_hCA10, r_hA11, r_hBA11, r_hCA11, r_hA12, r_hBA12, r_hCA12, r_hA13, r_hBA13, r_hCA13, r_hA14, r_hBA14, r_hCA14, r_hBP, r_hCP, r_iRv, r_iRo, r_lofL, r_lofT, r_tofL, r_tofT, r_bits, r_tyL, r_eB, r_bnd, r_bo, r_be, r_eR, r_Rs, r_bin, r_un, r_c, r_v, r_vd, r_and, r_or, r_if, r_eA, r_eAo, r_eAe, r_eAD, r_eADo, r_eADe, r_eDk, r_CB, r_aN, r_aD, r_aDo, r_aDe, r_aO, r_aOo, r_cA, r_cAe, r_sv0, r_sv1,
  r_call, r_callo, r_calle, r_O0, r_O1, r_Sl, r_Ch, r_Ch3, r_kT', r_kF, r_M, r_Ln, r_Lns, r_Ix, r_Ixs, r_Nl, r_Nls, r_iD, r_iDo, r_iDe, r_iDj, r_iA, r_iAo, r_iAe, r_iAj, r_Q, r_Qn, r_Qr, r_Qb, r_Qc, r_Qe, r_B, r_Bo, r_Be, r_G, r_R, r_E, r_I, r_N, r_X, r_F, r_Fo, r_lc, r_fnr, r_fnn, r_fne, r_tk,
  r_bT, r_bsN, r_bsC, r_bsK, r_bN, r_IB, r_addI, r_sub, r_neg, r_not, r_min, r_max, r_lenL, r_lenT, r_eqS, r_neS, r_eqI, r_neI, r_slL, r_itS, r_itL, r_itT, r_enS, r_enL, r_zip, r_zipS, r_bs2, r_bs3, r_w0, r_w1, r_tyS, r_IxO, r_IxOo, r_St2, r_CallK, r_dSel, r_s0, r_sl, r_sr, Option.toList_some, and_self, if_true, if_false, Bool.false_eq_true,
  List.map_cons, List.map_nil, List.length_cons, List.length_nil, List.cons_append, List.nil_append, List.replicate, List.getElem?_cons_zero, List.getElem?_cons_succ, List.set_cons_zero, List.set_cons_succ, Option.map_some, Option.map_none, Nat.reduceAdd, Nat.reduceSub])
local macro_rules | `(tactic| walk_at "evs") => `(tactic| simp only [*, r_fn, r_mod, r_fdv, r_mulI, r_shl, r_shr, r_pow, r_rg1, r_rg2, r_tup, r_lst, r_ixS, r_ixL, r_ixT, r_slS, r_lenS, r_addS, r_addL, r_revS, r_Lno, decide_true, decide_false, Nat.le_refl, Nat.reduceLeDiff, Int.reduceLT, Int.reduceLE, Bool.not_true, Bool.not_false, Bool.and_true, Bool.true_and, Bool.and_self, r_Rz, r_RzP, r_Try, r_Tr, r_Tn, r_Te, r_Tk, r_CL, r_cl, r_at0, r_at1, r_at2, r_at3, r_at4, r_hA0, r_hBA0, r_hCA0, r_hA1, r_hA2, r_hBA2, r_hCA2, r_hA3, r_hBA3, r_hCA3, r_hA4, r_hBA4, r_hCA4, r_hA5, r_hBA5, r_hCA5, r_hA6, r_hBA6, r_hCA6, r_hA7, r_hBA7, r_hCA7, r_hA8, r_hBA8, r_hCA8, r_hA9, r_hBA9, r_hCA9, r_hA10, r_hBA10, r_hCA10, r_hA11, r_hBA11, r_hCA11, r_hA12, r_hBA12, r_hCA12, r_hA13, r_hBA13, r_hCA13, r_hA14, r_hBA14, r_hCA14, r_hBP, r_hCP, r_iRv, r_iRo, r_lofL, r_lofT, r_tofL, r_tofT, r_bits, r_tyL, r_eB, r_bnd, r_bo, r_be, r_eR, r_Rs, r_bin, r_un, r_c, r_v, r_vd, r_and, r_or, r_if, r_eA, r_eAo, r_eAe, r_eAD, r_eADo, r_eADe, r_eDk, r_CB, r_aN, r_aD, r_aDo, r_aDe, r_aO, r_aOo, r_cA, r_cAe, r_sv0, r_sv1,
  r_call, r_callo, r_calle, r_O0, r_O1, r_Sl, r_Ch, r_Ch3, r_kT', r_kF, r_M, r_Ln, r_Lns, r_Ix, r_Ixs, r_Nl, r_Nls, r_iD, r_iDo, r_iDe, r_iDj, r_iA, r_iAo, r_iAe, r_iAj, r_Q, r_Qn, r_Qr, r_Qb, r_Qc, r_Qe, r_B, r_Bo, r_Be, r_G, r_R, r_E, r_I, r_N, r_X, r_F, r_Fo, r_lc, r_fnr, r_fnn, r_fne, r_tk,
  r_bT, r_bsN, r_bsC, r_bsK, r_bN, r_IB, r_addI, r_sub, r_neg, r_not, r_min, r_max, r_lenL, r_lenT, r_eqS, r_neS, r_eqI, r_neI, r_slL, r_itS, r_itL, r_itT, r_enS, r_enL, r_zip, r_zipS, r_bs2, r_bs3, r_w0, r_w1, r_tyS, r_IxO, r_IxOo, r_St2, r_CallK, r_dSel, r_s0, r_sl, r_sr, Option.toList_some, and_self, if_true, if_false, Bool.false_eq_true,
  List.map_cons, List.map_nil, List.length_cons, List.length_nil, List.cons_append, List.nil_append, List.replicate, List.getElem?_cons_zero, List.getElem?_cons_succ, List.set_cons_zero, List.set_cons_succ, Option.map_some, Option.map_none, Nat.reduceAdd, Nat.reduceSub])
local macro_rules | `(tactic| walk_at "evr") => `(tactic| ((walk_at "evs") <;> rfl))
def exD (x : Nat → Bool) (m p : Nat) : PyData := enD (prX x m) (rgX x m p)
theorem exD_eq (x : Nat → Bool) (m p : Nat) : exD x m p = .tuple [.str (hs (prX x m)), .str (hs (rgX x m p))] := rfl
theorem plain_c (x : Nat → Bool) (D : PyData) (m p : Nat) (st : SE) (hp : 0 < p) (hp2 : p ≤ 20) (hm : m ≤ 20) : lw_plainest_1 [some (.d D), some (.d (.str (hs (prX x m)))), some (.d (.str (hs (rgX x m p))))] st = some (.ok (.bool (decide (m ≠ 0) && (x (m - 1) == x (m - 1 + p)))), st) := by
  cases m with
  | zero =>
    have n1 : pNe (.str (hs (prX x 0))) (.str "") = some (.bool false) := by rw [show hs (prX x 0) = "" from lit_e.symm]; exact ne_ss _
    generalize hs (rgX x 0 p) = R at *
    generalize hs (prX x 0) = Q at *
    unfold lw_plainest_1
    walk_at "evs"
    rfl
  | succ k =>
    cases p with
    | zero => omega
    | succ q =>
      have n1 : pNe (.str (hs (prX x (k + 1)))) (.str "") = some (.bool true) := by
        have := ne_hs (prX x (k + 1)) []
        rw [show hs [] = "" from lit_e.symm] at this
        rw [this, decide_eq_false (by intro e; have := congrArg List.length e; rw [prX_len] at this; simp at this)]
        rfl
      have i1 := ixl_hs (prX x k) (x k) (by rw [prX_len]; omega)
      rw [← prX_succ] at i1
      have i2 := ixl_hs (rgX x (k + 1) q) (x (k + 1 + q)) (by rw [rgX_len]; omega)
      rw [← rgX_succ] at i2
      have z : pEq (.str (tx [oc (x k)])) (.str (tx [oc (x (k + 1 + q))])) = some (.bool (decide (k + 1 ≠ 0) && (x (k + 1 - 1) == x (k + 1 - 1 + (q + 1))))) := by
        rw [hs_one, hs_one, eq_hs, decide_eq_true (show k + 1 ≠ 0 by omega), Bool.true_and, show k + 1 - 1 = k by omega, show k + (q + 1) = k + 1 + q by omega]
        congr 2
        cases x k <;> cases x (k + 1 + q) <;> rfl
      generalize (decide (k + 1 ≠ 0) && (x (k + 1 - 1) == x (k + 1 - 1 + (q + 1)))) = BB at *
      generalize oc (x k) = A at *
      generalize oc (x (k + 1 + q)) = B at *
      generalize hs (rgX x (k + 1) (q + 1)) = R at *
      generalize hs (prX x (k + 1)) = Q at *
      unfold lw_plainest_1
      walk_at "evs"
theorem plain_b (x : Nat → Bool) (D : PyData) (k q : Nat) (st : SE) (hq : q ≤ 20) (hk : k ≤ 20) (he : x k = x (k + 1 + q)) : lb_plainest_1 [some (.d D), some (.d (.str (hs (prX x (k + 1))))), some (.d (.str (hs (rgX x (k + 1) (q + 1)))))] st = some (.nx, [some (.d D), some (.d (.str (hs (prX x k)))), some (.d (.str (hs (rgX x k (q + 1)))))], st) := by
  have s1 := sl_init (prX x (k + 1)) (by rw [prX_len]; omega)
  rw [prX_succ, List.dropLast_concat, ← prX_succ] at s1
  have s2 := sl_init (rgX x (k + 1) (q + 1)) (by rw [rgX_len]; omega)
  rw [rgX_succ, List.dropLast_concat, ← rgX_succ] at s2
  have i2 := ixl_hs (rgX x (k + 1) q) (x (k + 1 + q)) (by rw [rgX_len]; omega)
  rw [← rgX_succ, hs_one] at i2
  have ad := addH [x (k + 1 + q)] (rgX x (k + 1) q) (by rw [rgX_len]; simp; omega)
  rw [← he, List.singleton_append, ← rgX_cons] at ad
  rw [← he] at i2
  clear he
  generalize hs (rgX x (k + 1) (q + 1)) = R at *
  generalize hs (prX x (k + 1)) = Q at *
  generalize hs (rgX x k (q + 1)) = R2 at *
  generalize hs (rgX x (k + 1) q) = R3 at *
  generalize hs (prX x k) = Q2 at *
  generalize hs [x k] = L at *
  unfold lb_plainest_1
  walk_at "evs"
theorem plainest_ok (ld rg : List Bool) (st : SE) (h1 : ld.length ≤ 20) (h2 : rg.length ≤ 20) (h0 : 0 < rg.length) : ∃ m p, m ≤ 20 ∧ p ≤ 20 ∧ Canon (xL ld rg) m p ∧ dn_plainest [.d (enD ld rg)] st = some (.ok (exD (xL ld rg) m p), st) := by
  have e1 := needend_ok ld rg st h1 h2 h0
  obtain ⟨p, p0, p1, hper, hmin, e2⟩ := shortest_ok rg st h0 h2
  obtain ⟨r1, r2, r3⟩ := x_rep ld rg h0
  have hxy : (fun i => xL ld rg (ld.length + i)) = xL [] rg := funext fun i => xL_nil ld rg i
  have ev : EvP (xL ld rg) ld.length p := fun i hi => by
    have := hper (i - ld.length)
    rw [← hxy] at this
    have this : xL ld rg (ld.length + (i - ld.length + p)) = xL ld rg (ld.length + (i - ld.length)) := this
    rw [show ld.length + (i - ld.length + p) = i + p by omega, show ld.length + (i - ld.length) = i by omega] at this
    exact this
  have mn : ∀ m' q, 0 < q → EvP (xL ld rg) m' q → p ≤ q := fun m' q hq hE => by
    have := evp_per r3 h0 hE
    rw [hxy] at this
    exact hmin q hq this
  have ht : rg.take p = rgX (xL ld rg) ld.length p := by
    conv => lhs; rw [r2]
    exact rgX_take _ _ _ _ p1
  rw [ht] at e2
  have hld : hs ld = hs (prX (xL ld rg) ld.length) := congrArg hs r1
  obtain ⟨q, rfl⟩ : ∃ q, p = q + 1 := ⟨p - 1, by omega⟩
  generalize hx : xL ld rg = x at *
  obtain ⟨dl', st', e, hP⟩ := whGo_inv (c := lw_plainest_1) (body := lb_plainest_1)
    (Post := fun dl s => ∃ m, m ≤ 20 ∧ EvP x m (q + 1) ∧ (m = 0 ∨ x (m - 1) ≠ x (m - 1 + (q + 1))) ∧ s = st ∧ dl = [some (.d (enD ld rg)), some (.d (.str (hs (prX x m)))), some (.d (.str (hs (rgX x m (q + 1)))))])
    (fun f dl s => f ≤ 20 ∧ EvP x f (q + 1) ∧ s = st ∧ dl = [some (.d (enD ld rg)), some (.d (.str (hs (prX x f)))), some (.d (.str (hs (rgX x f (q + 1)))))]) (fun m dl s hI => by
      obtain ⟨hm, hev, rfl, rfl⟩ := hI
      have c := plain_c x (enD ld rg) m (q + 1) s (by omega) (by omega) hm
      cases m with
      | zero =>
        left
        refine ⟨s, ?_, 0, hm, hev, .inl rfl, rfl, rfl⟩
        rw [c]
        rfl
      | succ k =>
        by_cases he : x k = x (k + 1 + q)
        · right
          refine ⟨s, [some (.d (enD ld rg)), some (.d (.str (hs (prX x k)))), some (.d (.str (hs (rgX x k (q + 1)))))], s, k, ?_, plain_b x _ k q s (by omega) (by omega) he, by omega, by omega, ?_, rfl, rfl⟩
          · rw [c, show k + 1 - 1 = k by omega, show k + (q + 1) = k + 1 + q by omega, he]
            simp
          · intro i hi
            by_cases hi2 : i = k
            · subst hi2; rw [show i + (q + 1) = i + 1 + q by omega]; exact he.symm
            · exact hev i (by omega)
        · left
          refine ⟨s, ?_, k + 1, hm, hev, .inr ?_, rfl, rfl⟩
          · rw [c, show k + 1 - 1 = k by omega, show k + (q + 1) = k + 1 + q by omega]
            have : (x k == x (k + 1 + q)) = false := by simpa using he
            rw [this]
            simp
          · rw [show k + 1 - 1 = k by omega, show k + (q + 1) = k + 1 + q by omega]; exact he)
    10000 ld.length [some (.d (enD ld rg)), some (.d (.str (hs (prX x ld.length)))), some (.d (.str (hs (rgX x ld.length (q + 1)))))] st ⟨h1, ev, rfl, rfl⟩ (by omega)
  obtain ⟨m, hm, hev, hl, rfl, rfl⟩ := hP
  refine ⟨m, q + 1, hm, by omega, ⟨hev, by omega, mn, hl⟩, ?_⟩
  have tk : st'.take st'.length = st' := List.take_length
  rw [exD_eq]
  unfold dn_plainest sf_plainest
  unfold enD at *
  rw [hld] at e e1 ⊢
  have x0 : atI [PyData.str (hs (prX x ld.length)), .str (hs rg)] 0 = some (.str (hs (prX x ld.length))) := rfl
  have x1 : atI [PyData.str (hs (prX x ld.length)), .str (hs rg)] 1 = some (.str (hs rg)) := rfl
  clear hld ht hx hxy ev mn hmin hper r1 r2 r3 hev hl
  generalize hs (prX x ld.length) = A at *
  generalize hs (rgX x ld.length (q + 1)) = B at *
  generalize hs (prX x m) = A2 at *
  generalize hs (rgX x m (q + 1)) = B2 at *
  walk_at "evs"
theorem unlike_ok (ld rg ld' rg' : List Bool) (st : SE) (h1 : ld.length ≤ 20) (h2 : rg.length ≤ 20) (h0 : 0 < rg.length) (h1' : ld'.length ≤ 20) (h2' : rg'.length ≤ 20) (h0' : 0 < rg'.length) :
    (∃ k, k < 420 ∧ xL ld rg k ≠ xL ld' rg' k ∧ (∀ i, i < k → xL ld rg i = xL ld' rg' i) ∧ dn_first_unlike [.d (enD ld rg), .d (enD ld' rg')] st = some (.ok (.int ((2 ^ k : Nat) : Int)), st)) ∨
    ((∀ i, i < 420 → xL ld rg i = xL ld' rg' i) ∧ dn_first_unlike [.d (enD ld rg), .d (enD ld' rg')] st = some (.ok .none, st)) := by
  have e1 := needend_ok ld rg st h1 h2 h0
  have e2 := needend_ok ld' rg' st h1' h2' h0'
  have tk : st.take st.length = st := List.take_length
  have m1 : pMul (.int 20) (.int 20) = some (.int 400) := by rw [r_mulI (.inr (by decide))]; rfl
  have a1 : pAdd (.int 20) (.int 400) = some (.int 420) := rfl
  have il : inLine 420 = true := by decide
  rcases forGo_first (bd := bN 2) (body := lb_first_unlike_1) (st := st) (fun dl => ∃ x2, dl = [some (.d (enD ld rg)), some (.d (enD ld' rg')), x2]) (rangeL 0 420) [some (.d (enD ld rg)), some (.d (enD ld' rg')), none] (fun j => !decide (xL ld rg j = xL ld' rg' j)) (fun j => .int ((2 ^ j : Nat) : Int)) ⟨_, rfl⟩ (fun j x dl ej hI => by
    obtain ⟨x2, rfl⟩ := hI
    obtain ⟨rfl, hj⟩ := rangeL_get ej
    rw [Int.zero_add]
    have hj' : j < 420 := by simpa using hj
    have l1 := letterat_ok ld rg j st h1 h2 h0
    have l2 := letterat_ok ld' rg' j st h1' h2' h0'
    have z : pNe (.str (tx [oc (xL ld rg j)])) (.str (tx [oc (xL ld' rg' j)])) = some (.bool (!decide (xL ld rg j = xL ld' rg' j))) := by
      rw [hs_one, hs_one, ne_hs]
      cases xL ld rg j <;> cases xL ld' rg' j <;> rfl
    have sh := shl1 j (by omega)
    generalize (2 ^ j : Nat) = PW at *
    clear e1 e2 tk m1 a1 il ej hj hj'
    refine ⟨[some (.d (enD ld rg)), some (.d (enD ld' rg')), some (.d (.int (j : Int)))], rfl, fun hP => ⟨[some (.d (enD ld rg)), some (.d (enD ld' rg')), some (.d (.int (j : Int)))], ?_⟩, fun hP => ⟨[some (.d (enD ld rg)), some (.d (enD ld' rg')), some (.d (.int (j : Int)))], ?_, _, rfl⟩⟩
    all_goals
      rw [hP] at z
      clear hP
      unfold lb_first_unlike_1
      generalize enD ld rg = D1 at *
      generalize enD ld' rg' = D2 at *
      generalize xL ld rg j = X1 at *
      generalize xL ld' rg' j = X2 at *
      walk_at "evs") with ⟨j, dl', hj, hP, hk, e⟩ | ⟨hk, dl', ⟨x2, rfl⟩, e⟩
  · rw [rangeL_len] at hj
    refine .inl ⟨j, by omega, by simpa using hP, fun i hi => by simpa using hk i hi, ?_⟩
    unfold dn_first_unlike sf_first_unlike
    generalize ((2 ^ j : Nat) : Int) = PW at *
    clear hP hk hj
    generalize enD ld rg = D1 at *
    generalize enD ld' rg' = D2 at *
    walk_at "evs"
  · rw [rangeL_len] at hk
    refine .inr ⟨fun i hi => by simpa using hk i (by simpa using hi), ?_⟩
    unfold dn_first_unlike sf_first_unlike
    clear hk
    generalize enD ld rg = D1 at *
    generalize enD ld' rg' = D2 at *
    walk_at "evs"
end DL
set_option autoImplicit false
namespace DL
open PySem PySem.Spec PyProof.Rows L2
local macro_rules | `(tactic| walk_at "ev") => `(tactic| simp only [r_fn, r_Rz, r_RzP, r_Try, r_Tr, r_Tn, r_Te, r_Tk, r_CL, r_cl, r_at0, r_at1, r_at2, r_at3, r_at4, r_hA0, r_hBA0, r_hCA0, r_hA1, r_hA2, r_hBA2, r_hCA2, r_hA3, r_hBA3, r_hCA3, r_hA4, r_hBA4, r_hCA4, r_hA5, r_hBA5, r_hCA5, r_hA6, r_hBA6, r_hCA6, r_hA7, r_hBA7, r_hCA7, r_hA8, r_hBA8, r_hCA8, r_hA9, r_hBA9, r_hCA9, r_hA10, r_hBA10, r_hCA10, r_hA11, r_hBA11, r_hCA11, r_hA12, r_hBA12, r_hCA12, r_hA13, r_hBA13, r_hCA13, r_hA14, r_hBA14, r_hCA14, r_hBP, r_hCP, r_iRv, r_iRo, r_lofL, r_lofT, r_tofL, r_tofT, r_bits, r_tyL, r_eB, r_bnd, r_bo, r_be, r_eR, r_Rs, r_bin, r_un, r_c, r_v, r_vd, r_and, r_or, r_if, r_eA, r_eAo, r_eAe, r_eAD, r_eADo, r_eADe, r_eDk, r_CB, r_aN, r_aD, r_aDo, r_aDe, r_aO, r_aOo, r_cA, r_cAe, r_sv0, r_sv1,
  r_call, r_callo, r_calle, r_O0, r_O1, r_Sl, r_Ch, r_Ch3, r_kT', r_kF, r_M, r_Ln, r_Lns, r_Ix, r_Ixs, r_Nl, r_Nls, r_iD, r_iDo, r_iDe, r_iDj, r_iA, r_iAo, r_iAe, r_iAj, r_Q, r_Qn, r_Qr, r_Qb, r_Qc, r_Qe, r_B, r_Bo, r_Be, r_G, r_R, r_E, r_I, r_N, r_X, r_F, r_Fo, r_lc, r_fnr, r_fnn, r_fne, r_tk,
  r_bT, r_bsN, r_bsC, r_bsK, r_bN, r_IB, r_addI, r_sub, r_neg, r_not, r_min, r_max, r_lenL, r_lenT, r_eqS, r_neS, r_eqI, r_neI, r_slL, r_itS, r_itL, r_itT, r_enS, r_enL, r_zip, r_zipS, r_bs2, r_bs3, r_w0, r_w1, r_tyS, r_IxO, r_IxOo, r_St2, r_CallK, r_dSel, r_s0, r_sl, r_sr, Option.toList_some, and_self, if_true, if_false, Bool.false_eq_true,
  List.map_cons, List.map_nil, List.length_cons, List.length_nil, List.cons_append, List.nil_append, List.replicate, List.getElem?_cons_zero, List.getElem?_cons_succ, List.set_cons_zero, List.set_cons_succ, Option.map_some, Option.map_none, Nat.reduceAdd, Nat.reduceSub])
local macro_rules | `(tactic| walk_at "evs") => `(tactic| simp only [*, r_fn, r_mod, r_fdv, r_mulI, r_shl, r_shr, r_pow, r_rg1, r_rg2, r_tup, r_lst, r_ixS, r_ixL, r_ixT, r_slS, r_lenS, r_addS, r_addL, r_revS, r_Lno, decide_true, decide_false, Nat.le_refl, Nat.reduceLeDiff, Int.reduceLT, Int.reduceLE, Bool.not_true, Bool.not_false, Bool.and_true, Bool.true_and, Bool.and_self, r_Rz, r_RzP, r_Try, r_Tr, r_Tn, r_Te, r_Tk, r_CL, r_cl, r_at0, r_at1, r_at2, r_at3, r_at4, r_hA0, r_hBA0, r_hCA0, r_hA1, r_hA2, r_hBA2, r_hCA2, r_hA3, r_hBA3, r_hCA3, r_hA4, r_hBA4, r_hCA4, r_hA5, r_hBA5, r_hCA5, r_hA6, r_hBA6, r_hCA6, r_hA7, r_hBA7, r_hCA7, r_hA8, r_hBA8, r_hCA8, r_hA9, r_hBA9, r_hCA9, r_hA10, r_hBA10, r_hCA10, r_hA11, r_hBA11, r_hCA11, r_hA12, r_hBA12, r_hCA12, r_hA13, r_hBA13, r_hCA13, r_hA14, r_hBA14, r_hCA14, r_hBP, r_hCP, r_iRv, r_iRo, r_lofL, r_lofT, r_tofL, r_tofT, r_bits, r_tyL, r_eB, r_bnd, r_bo, r_be, r_eR, r_Rs, r_bin, r_un, r_c, r_v, r_vd, r_and, r_or, r_if, r_eA, r_eAo, r_eAe, r_eAD, r_eADo, r_eADe, r_eDk, r_CB, r_aN, r_aD, r_aDo, r_aDe, r_aO, r_aOo, r_cA, r_cAe, r_sv0, r_sv1,
  r_call, r_callo, r_calle, r_O0, r_O1, r_Sl, r_Ch, r_Ch3, r_kT', r_kF, r_M, r_Ln, r_Lns, r_Ix, r_Ixs, r_Nl, r_Nls, r_iD, r_iDo, r_iDe, r_iDj, r_iA, r_iAo, r_iAe, r_iAj, r_Q, r_Qn, r_Qr, r_Qb, r_Qc, r_Qe, r_B, r_Bo, r_Be, r_G, r_R, r_E, r_I, r_N, r_X, r_F, r_Fo, r_lc, r_fnr, r_fnn, r_fne, r_tk,
  r_bT, r_bsN, r_bsC, r_bsK, r_bN, r_IB, r_addI, r_sub, r_neg, r_not, r_min, r_max, r_lenL, r_lenT, r_eqS, r_neS, r_eqI, r_neI, r_slL, r_itS, r_itL, r_itT, r_enS, r_enL, r_zip, r_zipS, r_bs2, r_bs3, r_w0, r_w1, r_tyS, r_IxO, r_IxOo, r_St2, r_CallK, r_dSel, r_s0, r_sl, r_sr, Option.toList_some, and_self, if_true, if_false, Bool.false_eq_true,
  List.map_cons, List.map_nil, List.length_cons, List.length_nil, List.cons_append, List.nil_append, List.replicate, List.getElem?_cons_zero, List.getElem?_cons_succ, List.set_cons_zero, List.set_cons_succ, Option.map_some, Option.map_none, Nat.reduceAdd, Nat.reduceSub])
local macro_rules | `(tactic| walk_at "evr") => `(tactic| ((walk_at "evs") <;> rfl))
/-! ### where a text stands in a row -/
def ST (l t : List Bool) (p : Nat) : Prop := 1 ≤ p ∧ p + t.length ≤ 2 ^ l.length ∧ ∀ i, i < t.length → t[i]? = some (cr l (p + i))
def frB : List Bool → Bool
  | a :: b :: r => (a != b) && frB (b :: r)
  | _ => true
theorem frB_iff : ∀ u : List Bool, frB u = true ↔ ∀ k, k + 1 < u.length → u[k]? ≠ u[k + 1]?
  | [] => by simp [frB]
  | [a] => by simp [frB]
  | a :: b :: r => by
    unfold frB
    rw [Bool.and_eq_true, frB_iff (b :: r)]
    constructor
    · rintro ⟨h1, h2⟩ k hk
      cases k with
      | zero => simpa using h1
      | succ k => simpa using h2 k (by simpa using hk)
    · intro h
      refine ⟨by simpa using h 0 (by simp), fun k hk => by simpa using h (k + 1) (by simpa using hk)⟩
theorem stpB_len (t : List Bool) (i : Nat) : (stp t i).length = (t.length + 1 - i) / 2 := by
  unfold stp
  rw [fm_map _ (fun k => t[i + 2 * k]?.getD false) _ (fun k hk => by
    have := List.mem_range.mp hk
    rw [List.getElem?_eq_getElem (by omega)]
    rfl)]
  simp
theorem stp_get (t : List Bool) (i k : Nat) (h : i + 2 * k < t.length) : (stp t i)[k]? = t[i + 2 * k]? := by
  unfold stp
  rw [fm_map _ (fun k => t[i + 2 * k]?.getD false) _ (fun k hk => by
    have := List.mem_range.mp hk
    rw [List.getElem?_eq_getElem (by omega)]
    rfl), List.getElem?_map, List.getElem?_range (by omega)]
  simp only [Option.map_some]
  rw [List.getElem?_eq_getElem h]
  rfl
/-- signs to and fro, by the first one -/
theorem alt_go (u : List Bool) (b : Bool) (q : Nat) (h : frB u = true) (h0 : u[0]? = some (b == decide (q % 2 = 0))) : ∀ k, k < u.length → u[k]? = some (b == decide ((q + k) % 2 = 0))
  | 0, _ => h0
  | k + 1, hk => by
    have ih := alt_go u b q h h0 k (by omega)
    have hne := (frB_iff u).mp h k hk
    rw [ih] at hne
    rw [List.getElem?_eq_getElem hk] at hne ⊢
    have hne' : (b == decide ((q + k) % 2 = 0)) ≠ u[k + 1] := fun e => hne (by rw [e])
    congr 1
    by_cases hp : (q + k) % 2 = 0
    · rw [decide_eq_true hp] at hne'
      rw [decide_eq_false (show ¬ (q + (k + 1)) % 2 = 0 by omega)]
      revert hne'
      cases b <;> cases u[k + 1] <;> simp
    · rw [decide_eq_false hp] at hne'
      rw [decide_eq_true (show (q + (k + 1)) % 2 = 0 by omega)]
      revert hne'
      cases b <;> cases u[k + 1] <;> simp
theorem alt_fr (u : List Bool) (b : Bool) (q : Nat) (h : ∀ k, k < u.length → u[k]? = some (b == decide ((q + k) % 2 = 0))) : frB u = true := by
  rw [frB_iff]
  intro k hk
  rw [h k (by omega), h (k + 1) hk]
  by_cases hp : (q + k) % 2 = 0
  · rw [decide_eq_true hp, decide_eq_false (show ¬ (q + (k + 1)) % 2 = 0 by omega)]
    cases b <;> simp
  · rw [decide_eq_false hp, decide_eq_true (show (q + (k + 1)) % 2 = 0 by omega)]
    cases b <;> simp
theorem pow_cons (b : Bool) (r : List Bool) : 2 ^ (b :: r).length = 2 * 2 ^ r.length := by rw [List.length_cons, Nat.pow_succ]; omega
theorem odd_iff (b : Bool) (r t : List Bool) (q : Nat) (ht : 0 < t.length) : ST (b :: r) t (2 * q + 1) ↔ frB (stp t 0) = true ∧ t[0]? = some (b == decide (q % 2 = 0)) ∧ q + 1 + t.length / 2 ≤ 2 ^ r.length ∧ ∀ k, 2 * k + 1 < t.length → t[2 * k + 1]? = some (cr r (q + 1 + k)) := by
  unfold ST
  rw [pow_cons]
  have l0 := stpB_len t 0
  constructor
  · rintro ⟨-, h2, h3⟩
    have hev : ∀ k, k < (stp t 0).length → (stp t 0)[k]? = some (b == decide ((q + k) % 2 = 0)) := fun k hk => by
      rw [stp_get t 0 k (by omega), h3 (0 + 2 * k) (by omega), show 2 * q + 1 + (0 + 2 * k) = 2 * (q + k) + 1 by omega, cr_o]
    refine ⟨alt_fr _ b q hev, ?_, by omega, fun k hk => ?_⟩
    · have := h3 0 ht
      rwa [Nat.add_zero, cr_o] at this
    · rw [h3 _ hk, show 2 * q + 1 + (2 * k + 1) = 2 * (q + 1 + k) by omega, cr_e]
  · rintro ⟨h1, h2, h3, h4⟩
    refine ⟨by omega, by omega, fun i hi => ?_⟩
    by_cases hp : i % 2 = 0
    · obtain ⟨k, rfl⟩ : ∃ k, i = 2 * k := ⟨i / 2, by omega⟩
      have h0 : (stp t 0)[0]? = some (b == decide (q % 2 = 0)) := by rw [stp_get t 0 0 (by omega)]; exact h2
      have := alt_go (stp t 0) b q h1 h0 k (by omega)
      rw [stp_get t 0 k (by omega), Nat.zero_add] at this
      rw [this, show 2 * q + 1 + 2 * k = 2 * (q + k) + 1 by omega, cr_o]
    · obtain ⟨k, rfl⟩ : ∃ k, i = 2 * k + 1 := ⟨i / 2, by omega⟩
      rw [h4 k hi, show 2 * q + 1 + (2 * k + 1) = 2 * (q + 1 + k) by omega, cr_e]
theorem odd_st (b : Bool) (r t : List Bool) (q : Nat) (ht : 2 ≤ t.length) : ST (b :: r) t (2 * q + 1) ↔ frB (stp t 0) = true ∧ t[0]? = some (b == decide (q % 2 = 0)) ∧ ST r (stp t 1) (q + 1) := by
  rw [odd_iff b r t q (by omega)]
  have l1 := stpB_len t 1
  unfold ST
  constructor
  · rintro ⟨h1, h2, h3, h4⟩
    refine ⟨h1, h2, by omega, by omega, fun k hk => ?_⟩
    rw [stp_get t 1 k (by omega), Nat.add_comm 1, h4 k (by omega)]
  · rintro ⟨h1, h2, -, h3, h4⟩
    refine ⟨h1, h2, by omega, fun k hk => ?_⟩
    have := h4 k (by omega)
    rwa [stp_get t 1 k (by omega), Nat.add_comm 1] at this
theorem even_st (b : Bool) (r t : List Bool) (q : Nat) (hq : 1 ≤ q) : ST (b :: r) t (2 * q) ↔ frB (stp t 1) = true ∧ (2 ≤ t.length → t[1]? = some (b == decide (q % 2 = 0))) ∧ ST r (stp t 0) q := by
  unfold ST
  rw [pow_cons]
  have l0 := stpB_len t 0
  have l1 := stpB_len t 1
  constructor
  · rintro ⟨-, h2, h3⟩
    have hod : ∀ k, k < (stp t 1).length → (stp t 1)[k]? = some (b == decide ((q + k) % 2 = 0)) := fun k hk => by
      rw [stp_get t 1 k (by omega), h3 (1 + 2 * k) (by omega), show 2 * q + (1 + 2 * k) = 2 * (q + k) + 1 by omega, cr_o]
    refine ⟨alt_fr _ b q hod, fun h => ?_, hq, by omega, fun k hk => ?_⟩
    · rw [h3 1 (by omega), cr_o]
    · rw [stp_get t 0 k (by omega), h3 (0 + 2 * k) (by omega), show 2 * q + (0 + 2 * k) = 2 * (q + k) by omega, cr_e]
  · rintro ⟨h1, h2, -, h3, h4⟩
    refine ⟨by omega, by omega, fun i hi => ?_⟩
    by_cases hp : i % 2 = 0
    · obtain ⟨k, rfl⟩ : ∃ k, i = 2 * k := ⟨i / 2, by omega⟩
      have := h4 k (by omega)
      rw [stp_get t 0 k (by omega), Nat.zero_add] at this
      rw [this, show 2 * q + 2 * k = 2 * (q + k) by omega, cr_e]
    · obtain ⟨k, rfl⟩ : ∃ k, i = 2 * k + 1 := ⟨i / 2, by omega⟩
      have h0 : (stp t 1)[0]? = some (b == decide (q % 2 = 0)) := by rw [stp_get t 1 0 (by omega)]; exact h2 (by omega)
      have := alt_go (stp t 1) b q h1 h0 k (by omega)
      rw [stp_get t 1 k (by omega), Nat.add_comm 1] at this
      rw [this, show 2 * q + (2 * k + 1) = 2 * (q + k) + 1 by omega, cr_o]
/-- the least one with S, or none -/
def Lst (S : Nat → Prop) (r : PyData) : Prop := (r = .none ∧ ∀ p, ¬ S p) ∨ ∃ p : Nat, r = .int (p : Int) ∧ S p ∧ ∀ q, S q → p ≤ q
def SW (l t : List Bool) (W : Option Bool) (p : Nat) : Prop := ST l t p ∧ ∀ w, W = some w → decide (p % 2 = 1) = w
def wd : Option Bool → PyData
  | none => .none
  | some false => .int 0
  | some true => .int 1
theorem fro_ok (u : List Bool) (st : SE) (h : u.length ≤ 1000) : dn_goes_to_and_fro [.d (.str (gs u))] st = some (.ok (.bool (frB u)), st) := by
  unfold dn_goes_to_and_fro sf_goes_to_and_fro
  have tk : st.take st.length = st := List.take_length
  have sd : pSl (.str (gs u)) (some 1) none = some (.str (gs (u.drop 1))) := by
    unfold gs
    rw [r_slS (by simpa using (by omega : u.length ≤ 1000000))]
    have := cut_drop (u.map hc) 1
    rw [show ((1 : Nat) : Int) = 1 from rfl] at this
    rw [this, List.map_drop]
  have zz : kZipS [.str (gs u), .str (gs (u.drop 1))] = some (zipL (u.map sg) ((u.drop 1).map sg)) := by
    unfold gs
    rw [r_zipS]
    congr 1
    show zipL (signs _) (signs _) = _
    rw [gs_signs, gs_signs]
  have key : ∀ u : List Bool, ∃ L : List (Bool × Bool), zipL (u.map sg) ((u.drop 1).map sg) = L.map (fun p => .tuple [sg p.1, sg p.2]) ∧ L.length ≤ u.length ∧ L.all (fun p => p.1 != p.2) = frB u := by
    intro u
    induction u with
    | nil => exact ⟨[], rfl, by simp, rfl⟩
    | cons a r ih =>
      cases r with
      | nil => exact ⟨[], rfl, by simp, rfl⟩
      | cons b r =>
        obtain ⟨L, e1, e2, e3⟩ := ih
        refine ⟨(a, b) :: L, ?_, by simp at e2 ⊢; omega, ?_⟩
        · show PyData.tuple [sg a, sg b] :: zipL ((b :: r).map sg) (((b :: r).drop 1).map sg) = _
          rw [e1]
          rfl
        · rw [List.all_cons, e3]
          rfl
  obtain ⟨L, e1, e2, e3⟩ := key u
  have lc := lck_map (bd := bT (bsC (bN 1) (bsC (bN 2) (bsN)))) (e := le_goes_to_and_fro_1) (dl := [some (.d (.str (gs u))), none, none]) (st := st) (vs := [1, 2]) (xs := zipL (u.map sg) ((u.drop 1).map sg)) (fun p : Bool × Bool => .tuple [sg p.1, sg p.2]) (fun p => .bool (p.1 != p.2)) L e1 (by omega) (fun p _ => by
    refine ⟨_, rfl, ?_⟩
    have z := ne_sg p.1 p.2
    generalize sg p.1 = A at *
    generalize sg p.2 = B at *
    unfold le_goes_to_and_fro_1
    walk_at "evs")
  have pa := pAll_map L (fun p => p.1 != p.2)
  rw [e3] at pa
  clear key e1 e2 e3
  generalize L.map (fun p : Bool × Bool => PyData.bool (p.1 != p.2)) = LL at *
  generalize zipL (u.map sg) ((u.drop 1).map sg) = ZZ at *
  generalize gs (u.drop 1) = G1 at *
  generalize gs u = G0 at *
  walk_at "evs"
end DL
set_option autoImplicit false
namespace DL
open PySem PySem.Spec PyProof.Rows L2
local macro_rules | `(tactic| walk_at "ev") => `(tactic| simp only [r_fn, r_Rz, r_RzP, r_Try, r_Tr, r_Tn, r_Te, r_Tk, r_CL, r_cl, r_at0, r_at1, r_at2, r_at3, r_at4, r_hA0, r_hBA0, r_hCA0, r_hA1, r_hA2, r_hBA2, r_hCA2, r_hA3, r_hBA3, r_hCA3, r_hA4, r_hBA4, r_hCA4, r_hA5, r_hBA5, r_hCA5, r_hA6, r_hBA6, r_hCA6, r_hA7, r_hBA7, r_hCA7, r_hA8, r_hBA8, r_hCA8, r_hA9, r_hBA9, r_hCA9, r_hA10, r_hBA10, r_hCA10, r_hA11, r_hBA11, r_hCA11, r_hA12, r_hBA12, r_hCA12, r_hA13, r_hBA13, r_hCA13, r_hA14, r_hBA14, r_hCA14, r_hBP, r_hCP, r_iRv, r_iRo, r_lofL, r_lofT, r_tofL, r_tofT, r_bits, r_tyL, r_eB, r_bnd, r_bo, r_be, r_eR, r_Rs, r_bin, r_un, r_c, r_v, r_vd, r_and, r_or, r_if, r_eA, r_eAo, r_eAe, r_eAD, r_eADo, r_eADe, r_eDk, r_CB, r_aN, r_aD, r_aDo, r_aDe, r_aO, r_aOo, r_cA, r_cAe, r_sv0, r_sv1,
  r_call, r_callo, r_calle, r_O0, r_O1, r_Sl, r_Ch, r_Ch3, r_kT', r_kF, r_M, r_Ln, r_Lns, r_Ix, r_Ixs, r_Nl, r_Nls, r_iD, r_iDo, r_iDe, r_iDj, r_iA, r_iAo, r_iAe, r_iAj, r_Q, r_Qn, r_Qr, r_Qb, r_Qc, r_Qe, r_B, r_Bo, r_Be, r_G, r_R, r_E, r_I, r_N, r_X, r_F, r_Fo, r_lc, r_fnr, r_fnn, r_fne, r_tk,
  r_bT, r_bsN, r_bsC, r_bsK, r_bN, r_IB, r_addI, r_sub, r_neg, r_not, r_min, r_max, r_lenL, r_lenT, r_eqS, r_neS, r_eqI, r_neI, r_slL, r_itS, r_itL, r_itT, r_enS, r_enL, r_zip, r_zipS, r_bs2, r_bs3, r_w0, r_w1, r_tyS, r_IxO, r_IxOo, r_St2, r_CallK, r_dSel, r_s0, r_sl, r_sr, Option.toList_some, and_self, if_true, if_false, Bool.false_eq_true,
  List.map_cons, List.map_nil, List.length_cons, List.length_nil, List.cons_append, List.nil_append, List.replicate, List.getElem?_cons_zero, List.getElem?_cons_succ, List.set_cons_zero, List.set_cons_succ, Option.map_some, Option.map_none, Nat.reduceAdd, Nat.reduceSub])
local macro_rules | `(tactic| walk_at "evs") => `(tactic| simp only [*, r_fn, r_mod, r_fdv, r_mulI, r_shl, r_shr, r_pow, r_rg1, r_rg2, r_tup, r_lst, r_ixS, r_ixL, r_ixT, r_slS, r_lenS, r_addS, r_addL, r_revS, r_Lno, decide_true, decide_false, Nat.le_refl, Nat.reduceLeDiff, Int.reduceLT, Int.reduceLE, Bool.not_true, Bool.not_false, Bool.and_true, Bool.true_and, Bool.and_self, r_Rz, r_RzP, r_Try, r_Tr, r_Tn, r_Te, r_Tk, r_CL, r_cl, r_at0, r_at1, r_at2, r_at3, r_at4, r_hA0, r_hBA0, r_hCA0, r_hA1, r_hA2, r_hBA2, r_hCA2, r_hA3, r_hBA3, r_hCA3, r_hA4, r_hBA4, r_hCA4, r_hA5, r_hBA5, r_hCA5, r_hA6, r_hBA6, r_hCA6, r_hA7, r_hBA7, r_hCA7, r_hA8, r_hBA8, r_hCA8, r_hA9, r_hBA9, r_hCA9, r_hA10, r_hBA10, r_hCA10, r_hA11, r_hBA11, r_hCA11, r_hA12, r_hBA12, r_hCA12, r_hA13, r_hBA13, r_hCA13, r_hA14, r_hBA14, r_hCA14, r_hBP, r_hCP, r_iRv, r_iRo, r_lofL, r_lofT, r_tofL, r_tofT, r_bits, r_tyL, r_eB, r_bnd, r_bo, r_be, r_eR, r_Rs, r_bin, r_un, r_c, r_v, r_vd, r_and, r_or, r_if, r_eA, r_eAo, r_eAe, r_eAD, r_eADo, r_eADe, r_eDk, r_CB, r_aN, r_aD, r_aDo, r_aDe, r_aO, r_aOo, r_cA, r_cAe, r_sv0, r_sv1,
  r_call, r_callo, r_calle, r_O0, r_O1, r_Sl, r_Ch, r_Ch3, r_kT', r_kF, r_M, r_Ln, r_Lns, r_Ix, r_Ixs, r_Nl, r_Nls, r_iD, r_iDo, r_iDe, r_iDj, r_iA, r_iAo, r_iAe, r_iAj, r_Q, r_Qn, r_Qr, r_Qb, r_Qc, r_Qe, r_B, r_Bo, r_Be, r_G, r_R, r_E, r_I, r_N, r_X, r_F, r_Fo, r_lc, r_fnr, r_fnn, r_fne, r_tk,
  r_bT, r_bsN, r_bsC, r_bsK, r_bN, r_IB, r_addI, r_sub, r_neg, r_not, r_min, r_max, r_lenL, r_lenT, r_eqS, r_neS, r_eqI, r_neI, r_slL, r_itS, r_itL, r_itT, r_enS, r_enL, r_zip, r_zipS, r_bs2, r_bs3, r_w0, r_w1, r_tyS, r_IxO, r_IxOo, r_St2, r_CallK, r_dSel, r_s0, r_sl, r_sr, Option.toList_some, and_self, if_true, if_false, Bool.false_eq_true,
  List.map_cons, List.map_nil, List.length_cons, List.length_nil, List.cons_append, List.nil_append, List.replicate, List.getElem?_cons_zero, List.getElem?_cons_succ, List.set_cons_zero, List.set_cons_succ, Option.map_some, Option.map_none, Nat.reduceAdd, Nat.reduceSub])
local macro_rules | `(tactic| walk_at "evr") => `(tactic| ((walk_at "evs") <;> rfl))
theorem st_gs0 (R : List Bool) (h : R.length ≤ 1000000) : pSt2 (.str (gs R)) none = some (.str (gs (stp R 0))) := by
  unfold pSt2 gs
  dsimp only
  rw [if_pos ⟨by rw [tx_length, List.length_map]; exact h, by simp⟩, tx_toList, Option.getD_none, show (0 : Int).toNat = 0 from rfl, stp_map]
theorem half_iff (b c : Bool) (q : Nat) : c = (b == decide (q % 2 = 0)) ↔ q % 2 = (if (b == c) = true then 0 else 1) := by
  by_cases h : q % 2 = 0
  · rw [decide_eq_true h]
    cases b <;> cases c <;> simp [h]
  · rw [decide_eq_false h]
    cases b <;> cases c <;> simp <;> omega
/-- what the inner call answers -/
def Inner (self : FF) (r : List Bool) : Prop := ∀ (t : List Bool) (W : Option Bool) (st : SE), 1 ≤ t.length → t.length ≤ 1000 → ∃ x, self [.d (.str (hs r)), .d (.str (gs t)), .d (wd W)] st = some (.ok x, st) ∧ Lst (SW r t W) x
theorem lodd (self : FF) (b c : Bool) (r t : List Bool) (st : SE) (H : Inner self r) (ht2 : (c :: t).length ≤ 1000) (hr : r.length < 200) :
    ∃ x, dn_least_odd self [.d (.str (hs (b :: r))), .d (.str (gs (c :: t)))] st = some (.ok x, st) ∧ Lst (SW (b :: r) (c :: t) (some true)) x := by
  have tk : st.take st.length = st := List.take_length
  have s0 := st_gs0 (c :: t) (by omega)
  have l0 := stpB_len (c :: t) 0
  have l1 := stpB_len (c :: t) 1
  have f0 := fro_ok (stp (c :: t) 0) st (by omega)
  have odd_of : ∀ p, SW (b :: r) (c :: t) (some true) p → ∃ q, p = 2 * q + 1 ∧ ST (b :: r) (c :: t) (2 * q + 1) := fun p hp => by
    have h1 := hp.2 true rfl
    have h2 : p % 2 = 1 := by simpa using h1
    refine ⟨p / 2, by omega, ?_⟩
    rw [show 2 * (p / 2) + 1 = p by omega]
    exact hp.1
  have of_odd : ∀ q, ST (b :: r) (c :: t) (2 * q + 1) → SW (b :: r) (c :: t) (some true) (2 * q + 1) := fun q hq => ⟨hq, fun w hw => by cases hw; rw [decide_eq_true (by omega)]⟩
  have e1 : ∀ q, ST (b :: r) (c :: t) (2 * q + 1) → frB (stp (c :: t) 0) = true ∧ q % 2 = (if (b == c) = true then 0 else 1) ∧ q + 1 + (c :: t).length / 2 ≤ 2 ^ r.length := fun q hq => by
    obtain ⟨h1, h2, h3, -⟩ := (odd_iff b r (c :: t) q (by simp)).mp hq
    refine ⟨h1, (half_iff b c q).mp (by simpa using h2), h3⟩
  cases hfr : frB (stp (c :: t) 0) with
  | false =>
    rw [hfr] at f0
    refine ⟨.none, ?_, .inl ⟨rfl, fun p hp => ?_⟩⟩
    · unfold dn_least_odd sf_least_odd
      clear odd_of of_odd e1 H
      generalize gs (stp (c :: t) 0) = G0 at *
      generalize gs (c :: t) = G at *
      generalize hs (b :: r) = HB at *
      walk_at "evs"
    · obtain ⟨q, rfl, hq⟩ := odd_of p hp
      have := (e1 q hq).1
      rw [hfr] at this
      cases this
  | true =>
    rw [hfr] at f0
    have i0 := ix_hs (b :: r) 0 b (by rw [List.length_cons]; omega) rfl
    have i1 := ix_gs (c :: t) 0 c (by omega) rfl
    rw [show ((0 : Nat) : Int) = 0 from rfl] at i0 i1
    have sg1 := sign_ok b 1 st
    rw [show (b == decide ((1 : Int) % 4 = 1)) = b by cases b <;> rfl] at sg1
    have q0 := eq_sg b c
    have lt := len_gs (c :: t) (by omega)
    have lo := long_ok (b :: r) st (by rw [List.length_cons]; omega)
    rw [pow_cons] at lo
    obtain ⟨hf, hhf⟩ : ∃ hf : Nat, hf = (if (b == c) = true then 0 else 1) := ⟨_, rfl⟩
    have hiv : (eIf (eBin pEq (eCall dn_sign_of (aD (eBin pIx (eV 0) (eC (.int 0))) (aD (eC (.int 1)) (aN)))) (eBin pIx (eV 1) (eC (.int 0)))) (eC (.int 0)) (eC (.int 1))) [some (.d (.str (hs (b :: r)))), some (.d (.str (gs (c :: t)))), none, none] st = some (.ok (.int (hf : Int)), st) := by
      rw [hhf]
      clear odd_of of_odd e1 H hhf
      generalize gs (c :: t) = G at *
      generalize hs (b :: r) = HB at *
      cases hbc : (b == c) with
      | false =>
        rw [hbc] at q0
        rw [if_neg Bool.false_ne_true, show ((1 : Nat) : Int) = 1 from rfl]
        walk_at "evs"
      | true =>
        rw [hbc] at q0
        rw [if_pos rfl, show ((0 : Nat) : Int) = 0 from rfl]
        walk_at "evs"
    rw [← hhf] at e1
    have hf1 : hf ≤ 1 := by rw [hhf]; split <;> omega
    have m2 : pMul (.int 2) (.int (hf : Int)) = some (.int ((2 * hf : Nat) : Int)) := by rw [r_mulI (.inl (by decide))]; rfl
    have a2 : ((2 * hf : Nat) : Int) + 1 = ((2 * hf + 1 : Nat) : Int) := by omega
    cases t with
    | nil =>
      have q1 : pEq (.int (([c].length : Nat) : Int)) (.int 1) = some (.bool true) := rfl
      by_cases hlt : 2 * hf + 1 < 2 * 2 ^ r.length
      · have cl : pLt (.int ((2 * hf + 1 : Nat) : Int)) (.int ((2 * 2 ^ r.length : Nat) : Int)) = some (.bool true) := by unfold pLt; rw [r_IB, decide_eq_true (by omega)]
        refine ⟨.int ((2 * hf + 1 : Nat) : Int), ?_, .inr ⟨2 * hf + 1, rfl, of_odd hf ?_, fun p hp => ?_⟩⟩
        · unfold dn_least_odd sf_least_odd
          generalize (eIf (eBin pEq (eCall dn_sign_of (aD (eBin pIx (eV 0) (eC (.int 0))) (aD (eC (.int 1)) (aN)))) (eBin pIx (eV 1) (eC (.int 0)))) (eC (.int 0)) (eC (.int 1))) = HE at *
          clear odd_of of_odd e1 H hhf hlt
          generalize gs (stp [c] 0) = G0 at *
          generalize gs [c] = G at *
          generalize hs (b :: r) = HB at *
          generalize [c].length = LC at *
          generalize ((2 * 2 ^ r.length : Nat) : Int) = PW at *
          generalize ((2 * hf : Nat) : Int) = H2 at *
          generalize ((2 * hf + 1 : Nat) : Int) = H3 at *
          walk_at "evs"
        · rw [odd_iff b r [c] hf (by simp)]
          refine ⟨hfr, ?_, by simp; omega, fun k hk => by simp at hk⟩
          have := (half_iff b c hf).mpr (by rw [← hhf]; omega)
          rw [← this]
          rfl
        · obtain ⟨q, rfl, hq⟩ := odd_of p hp
          have := (e1 q hq).2.1
          omega
      · have cl : pLt (.int ((2 * hf + 1 : Nat) : Int)) (.int ((2 * 2 ^ r.length : Nat) : Int)) = some (.bool false) := by unfold pLt; rw [r_IB, decide_eq_false (by omega)]
        refine ⟨.none, ?_, .inl ⟨rfl, fun p hp => ?_⟩⟩
        · unfold dn_least_odd sf_least_odd
          generalize (eIf (eBin pEq (eCall dn_sign_of (aD (eBin pIx (eV 0) (eC (.int 0))) (aD (eC (.int 1)) (aN)))) (eBin pIx (eV 1) (eC (.int 0)))) (eC (.int 0)) (eC (.int 1))) = HE at *
          clear odd_of of_odd e1 H hhf hlt
          generalize gs (stp [c] 0) = G0 at *
          generalize gs [c] = G at *
          generalize hs (b :: r) = HB at *
          generalize [c].length = LC at *
          generalize ((2 * 2 ^ r.length : Nat) : Int) = PW at *
          generalize ((2 * hf : Nat) : Int) = H2 at *
          generalize ((2 * hf + 1 : Nat) : Int) = H3 at *
          walk_at "evs"
        · obtain ⟨q, rfl, hq⟩ := odd_of p hp
          have := e1 q hq
          simp at this
          omega
    | cons c2 t =>
      have hl2 : 2 ≤ (c :: c2 :: t).length := by simp
      have q1 : pEq (.int (((c :: c2 :: t).length : Nat) : Int)) (.int 1) = some (.bool false) := by rw [r_eqI, decide_eq_false (by omega)]
      have sd := sl_drop (b :: r) 1 (by rw [List.length_cons]; omega)
      rw [show (b :: r).drop 1 = r from rfl, show ((1 : Nat) : Int) = 1 from rfl] at sd
      have s1 := st_gs (c :: c2 :: t) 1 (by omega)
      rw [show ((1 : Nat) : Int) = 1 from rfl] at s1
      obtain ⟨x, ex, hx⟩ := H (stp (c :: c2 :: t) 1) (some (decide (hf = 0))) st (by omega) (by omega)
      have ew : wd (some (decide (hf = 0))) = .int (((hf : Int) + 1) % 2) := by
        obtain h | h : hf = 0 ∨ hf = 1 := by omega
        · rw [h]; rfl
        · rw [h]; rfl
      rw [ew] at ex
      have md : pMod (.int ((hf : Int) + 1)) (.int 2) = some (.int (((hf : Int) + 1) % 2)) := r_mod (by decide)
      have inn : ∀ q, ST (b :: r) (c :: c2 :: t) (2 * q + 1) ↔ SW r (stp (c :: c2 :: t) 1) (some (decide (hf = 0))) (q + 1) := fun q => by
        rw [odd_st b r (c :: c2 :: t) q hl2]
        constructor
        · rintro ⟨h1, h2, h3⟩
          have hq := (half_iff b c q).mp (by simpa using h2)
          rw [← hhf] at hq
          refine ⟨h3, fun w hw => ?_⟩
          cases hw
          by_cases h : hf = 0
          · rw [decide_eq_true h, decide_eq_true (by omega)]
          · rw [decide_eq_false h, decide_eq_false (by omega)]
        · rintro ⟨h1, h2⟩
          have h3 := h2 _ rfl
          refine ⟨hfr, ?_, h1⟩
          have hq : q % 2 = hf := by
            by_cases h : hf = 0
            · rw [decide_eq_true h] at h3
              have : (q + 1) % 2 = 1 := by simpa using h3
              omega
            · rw [decide_eq_false h] at h3
              have : ¬ (q + 1) % 2 = 1 := by simpa using h3
              omega
          have := (half_iff b c q).mpr (by rw [← hhf]; exact hq)
          rw [← this]
          rfl
      rcases hx with ⟨rfl, hn⟩ | ⟨p', rfl, hp', hmin⟩
      · have is1 : pIs .none .none = some (.bool true) := rfl
        refine ⟨.none, ?_, .inl ⟨rfl, fun p hp => ?_⟩⟩
        · unfold dn_least_odd sf_least_odd
          generalize (eIf (eBin pEq (eCall dn_sign_of (aD (eBin pIx (eV 0) (eC (.int 0))) (aD (eC (.int 1)) (aN)))) (eBin pIx (eV 1) (eC (.int 0)))) (eC (.int 0)) (eC (.int 1))) = HE at *
          clear odd_of of_odd e1 H hhf inn hn ew
          generalize gs (stp (c :: c2 :: t) 0) = G0 at *
          generalize gs (stp (c :: c2 :: t) 1) = G1 at *
          generalize (c :: c2 :: t).length = LC at *
          generalize gs (c :: c2 :: t) = G at *
          generalize hs (b :: r) = HB at *
          generalize ((hf : Int) + 1) % 2 = H2 at *
          walk_at "evs"
        · obtain ⟨q, rfl, hq⟩ := odd_of p hp
          exact hn _ ((inn q).mp hq)
      · have hp1 : 1 ≤ p' := hp'.1.1
        have is1 : pIs (.int (p' : Int)) .none = some (.bool false) := rfl
        have m3 : pMul (.int 2) (.int (p' : Int)) = some (.int ((2 * p' : Nat) : Int)) := by rw [r_mulI (.inl (by decide))]; rfl
        have a3 : ((2 * p' : Nat) : Int) - 1 = ((2 * (p' - 1) + 1 : Nat) : Int) := by omega
        refine ⟨.int ((2 * (p' - 1) + 1 : Nat) : Int), ?_, .inr ⟨2 * (p' - 1) + 1, rfl, of_odd _ ((inn _).mpr (by rw [show p' - 1 + 1 = p' by omega]; exact hp')), fun p hp => ?_⟩⟩
        · unfold dn_least_odd sf_least_odd
          generalize (eIf (eBin pEq (eCall dn_sign_of (aD (eBin pIx (eV 0) (eC (.int 0))) (aD (eC (.int 1)) (aN)))) (eBin pIx (eV 1) (eC (.int 0)))) (eC (.int 0)) (eC (.int 1))) = HE at *
          clear odd_of of_odd e1 H hhf inn hmin hp' ew
          generalize gs (stp (c :: c2 :: t) 0) = G0 at *
          generalize gs (stp (c :: c2 :: t) 1) = G1 at *
          generalize (c :: c2 :: t).length = LC at *
          generalize gs (c :: c2 :: t) = G at *
          generalize hs (b :: r) = HB at *
          generalize ((hf : Int) + 1) % 2 = H2 at *
          generalize ((2 * p' : Nat) : Int) = P2 at *
          generalize ((2 * (p' - 1) + 1 : Nat) : Int) = P3 at *
          walk_at "evs"
        · obtain ⟨q, rfl, hq⟩ := odd_of p hp
          have := hmin _ ((inn q).mp hq)
          omega
end DL
set_option autoImplicit false
namespace DL
open PySem PySem.Spec PyProof.Rows L2
local macro_rules | `(tactic| walk_at "ev") => `(tactic| simp only [r_fn, r_Rz, r_RzP, r_Try, r_Tr, r_Tn, r_Te, r_Tk, r_CL, r_cl, r_at0, r_at1, r_at2, r_at3, r_at4, r_hA0, r_hBA0, r_hCA0, r_hA1, r_hA2, r_hBA2, r_hCA2, r_hA3, r_hBA3, r_hCA3, r_hA4, r_hBA4, r_hCA4, r_hA5, r_hBA5, r_hCA5, r_hA6, r_hBA6, r_hCA6, r_hA7, r_hBA7, r_hCA7, r_hA8, r_hBA8, r_hCA8, r_hA9, r_hBA9, r_hCA9, r_hA10, r_hBA10, r_hCA10, r_hA11, r_hBA11, r_hCA11, r_hA12, r_hBA12, r_hCA12, r_hA13, r_hBA13, r_hCA13, r_hA14, r_hBA14, r_hCA14, r_hBP, r_hCP, r_iRv, r_iRo, r_lofL, r_lofT, r_tofL, r_tofT, r_bits, r_tyL, r_eB, r_bnd, r_bo, r_be, r_eR, r_Rs, r_bin, r_un, r_c, r_v, r_vd, r_and, r_or, r_if, r_eA, r_eAo, r_eAe, r_eAD, r_eADo, r_eADe, r_eDk, r_CB, r_aN, r_aD, r_aDo, r_aDe, r_aO, r_aOo, r_cA, r_cAe, r_sv0, r_sv1,
  r_call, r_callo, r_calle, r_O0, r_O1, r_Sl, r_Ch, r_Ch3, r_kT', r_kF, r_M, r_Ln, r_Lns, r_Ix, r_Ixs, r_Nl, r_Nls, r_iD, r_iDo, r_iDe, r_iDj, r_iA, r_iAo, r_iAe, r_iAj, r_Q, r_Qn, r_Qr, r_Qb, r_Qc, r_Qe, r_B, r_Bo, r_Be, r_G, r_R, r_E, r_I, r_N, r_X, r_F, r_Fo, r_lc, r_fnr, r_fnn, r_fne, r_tk,
  r_bT, r_bsN, r_bsC, r_bsK, r_bN, r_IB, r_addI, r_sub, r_neg, r_not, r_min, r_max, r_lenL, r_lenT, r_eqS, r_neS, r_eqI, r_neI, r_slL, r_itS, r_itL, r_itT, r_enS, r_enL, r_zip, r_zipS, r_bs2, r_bs3, r_w0, r_w1, r_tyS, r_IxO, r_IxOo, r_St2, r_CallK, r_dSel, r_s0, r_sl, r_sr, Option.toList_some, and_self, if_true, if_false, Bool.false_eq_true,
  List.map_cons, List.map_nil, List.length_cons, List.length_nil, List.cons_append, List.nil_append, List.replicate, List.getElem?_cons_zero, List.getElem?_cons_succ, List.set_cons_zero, List.set_cons_succ, Option.map_some, Option.map_none, Nat.reduceAdd, Nat.reduceSub])
local macro_rules | `(tactic| walk_at "evs") => `(tactic| simp only [*, r_fn, r_mod, r_fdv, r_mulI, r_shl, r_shr, r_pow, r_rg1, r_rg2, r_tup, r_lst, r_ixS, r_ixL, r_ixT, r_slS, r_lenS, r_addS, r_addL, r_revS, r_Lno, decide_true, decide_false, Nat.le_refl, Nat.reduceLeDiff, Int.reduceLT, Int.reduceLE, Bool.not_true, Bool.not_false, Bool.and_true, Bool.true_and, Bool.and_self, r_Rz, r_RzP, r_Try, r_Tr, r_Tn, r_Te, r_Tk, r_CL, r_cl, r_at0, r_at1, r_at2, r_at3, r_at4, r_hA0, r_hBA0, r_hCA0, r_hA1, r_hA2, r_hBA2, r_hCA2, r_hA3, r_hBA3, r_hCA3, r_hA4, r_hBA4, r_hCA4, r_hA5, r_hBA5, r_hCA5, r_hA6, r_hBA6, r_hCA6, r_hA7, r_hBA7, r_hCA7, r_hA8, r_hBA8, r_hCA8, r_hA9, r_hBA9, r_hCA9, r_hA10, r_hBA10, r_hCA10, r_hA11, r_hBA11, r_hCA11, r_hA12, r_hBA12, r_hCA12, r_hA13, r_hBA13, r_hCA13, r_hA14, r_hBA14, r_hCA14, r_hBP, r_hCP, r_iRv, r_iRo, r_lofL, r_lofT, r_tofL, r_tofT, r_bits, r_tyL, r_eB, r_bnd, r_bo, r_be, r_eR, r_Rs, r_bin, r_un, r_c, r_v, r_vd, r_and, r_or, r_if, r_eA, r_eAo, r_eAe, r_eAD, r_eADo, r_eADe, r_eDk, r_CB, r_aN, r_aD, r_aDo, r_aDe, r_aO, r_aOo, r_cA, r_cAe, r_sv0, r_sv1,
  r_call, r_callo, r_calle, r_O0, r_O1, r_Sl, r_Ch, r_Ch3, r_kT', r_kF, r_M, r_Ln, r_Lns, r_Ix, r_Ixs, r_Nl, r_Nls, r_iD, r_iDo, r_iDe, r_iDj, r_iA, r_iAo, r_iAe, r_iAj, r_Q, r_Qn, r_Qr, r_Qb, r_Qc, r_Qe, r_B, r_Bo, r_Be, r_G, r_R, r_E, r_I, r_N, r_X, r_F, r_Fo, r_lc, r_fnr, r_fnn, r_fne, r_tk,
  r_bT, r_bsN, r_bsC, r_bsK, r_bN, r_IB, r_addI, r_sub, r_neg, r_not, r_min, r_max, r_lenL, r_lenT, r_eqS, r_neS, r_eqI, r_neI, r_slL, r_itS, r_itL, r_itT, r_enS, r_enL, r_zip, r_zipS, r_bs2, r_bs3, r_w0, r_w1, r_tyS, r_IxO, r_IxOo, r_St2, r_CallK, r_dSel, r_s0, r_sl, r_sr, Option.toList_some, and_self, if_true, if_false, Bool.false_eq_true,
  List.map_cons, List.map_nil, List.length_cons, List.length_nil, List.cons_append, List.nil_append, List.replicate, List.getElem?_cons_zero, List.getElem?_cons_succ, List.set_cons_zero, List.set_cons_succ, Option.map_some, Option.map_none, Nat.reduceAdd, Nat.reduceSub])
local macro_rules | `(tactic| walk_at "evr") => `(tactic| ((walk_at "evs") <;> rfl))
theorem leven (self : FF) (b c : Bool) (r t : List Bool) (st : SE) (H : Inner self r) (ht2 : (c :: t).length ≤ 1000) (hr : r.length < 200) :
    ∃ x, dn_least_even self [.d (.str (hs (b :: r))), .d (.str (gs (c :: t)))] st = some (.ok x, st) ∧ Lst (SW (b :: r) (c :: t) (some false)) x := by
  have tk : st.take st.length = st := List.take_length
  have s0 := st_gs0 (c :: t) (by omega)
  have s1 := st_gs (c :: t) 1 (by omega)
  rw [show ((1 : Nat) : Int) = 1 from rfl] at s1
  have l0 := stpB_len (c :: t) 0
  have l1 := stpB_len (c :: t) 1
  have hl1 : 1 ≤ (c :: t).length := by simp
  have f0 := fro_ok (stp (c :: t) 1) st (by omega)
  have ev_of : ∀ p, SW (b :: r) (c :: t) (some false) p → ∃ q, p = 2 * q ∧ 1 ≤ q ∧ ST (b :: r) (c :: t) (2 * q) := fun p hp => by
    have h1 := hp.2 false rfl
    have h2 : ¬ p % 2 = 1 := by simpa using h1
    have h3 := hp.1.1
    refine ⟨p / 2, by omega, by omega, ?_⟩
    rw [show 2 * (p / 2) = p by omega]
    exact hp.1
  have of_ev : ∀ q, ST (b :: r) (c :: t) (2 * q) → SW (b :: r) (c :: t) (some false) (2 * q) := fun q hq => ⟨hq, fun w hw => by cases hw; rw [decide_eq_false (by omega)]⟩
  have lt := len_gs (c :: t) (by omega)
  have sd := sl_drop (b :: r) 1 (by rw [List.length_cons]; omega)
  rw [show (b :: r).drop 1 = r from rfl, show ((1 : Nat) : Int) = 1 from rfl] at sd
  cases hfr : frB (stp (c :: t) 1) with
  | false =>
    rw [hfr] at f0
    refine ⟨.none, ?_, .inl ⟨rfl, fun p hp => ?_⟩⟩
    · unfold dn_least_even sf_least_even
      clear ev_of of_ev H
      generalize gs (stp (c :: t) 1) = G1 at *
      generalize gs (c :: t) = G at *
      generalize hs (b :: r) = HB at *
      walk_at "evs"
    · obtain ⟨q, rfl, hq1, hq⟩ := ev_of p hp
      have := ((even_st b r (c :: t) q hq1).mp hq).1
      rw [hfr] at this
      cases this
  | true =>
    rw [hfr] at f0
    -- the wish
    obtain ⟨W, hW, hwv⟩ : ∃ W : Option Bool, (∀ q, 1 ≤ q → (ST (b :: r) (c :: t) (2 * q) ↔ SW r (stp (c :: t) 0) W q)) ∧
        (sI (eBin pGt (eCB pLen (aD (eV 1) (aN))) (eC (.int 1))) (sV 2 (eIf (eBin pEq (eCall dn_sign_of (aD (eBin pIx (eV 0) (eC (.int 0))) (aD (eC (.int 1)) (aN)))) (eBin pIx (eV 1) (eC (.int 1)))) (eC (.int 0)) (eC (.int 1)))) (sN)) [some (.d (.str (hs (b :: r)))), some (.d (.str (gs (c :: t)))), some (.d .none), none] st = some (.nx, [some (.d (.str (hs (b :: r)))), some (.d (.str (gs (c :: t)))), some (.d (wd W)), none], st) := by
      cases t with
      | nil =>
        refine ⟨none, fun q hq => ?_, ?_⟩
        · rw [even_st b r [c] q hq]
          constructor
          · rintro ⟨-, -, h⟩
            exact ⟨h, fun w hw => by cases hw⟩
          · rintro ⟨h, -⟩
            exact ⟨hfr, fun h2 => by simp at h2, h⟩
        · have g : pGt (.int (([c].length : Nat) : Int)) (.int 1) = some (.bool false) := by unfold pGt; rw [r_IB, decide_eq_false (by simp)]
          clear ev_of of_ev H
          generalize [c].length = LC at *
          generalize gs [c] = G at *
          generalize hs (b :: r) = HB at *
          walk_at "evs"
          rfl
      | cons c2 t =>
        have i0 := ix_hs (b :: r) 0 b (by rw [List.length_cons]; omega) rfl
        have i1 := ix_gs (c :: c2 :: t) 1 c2 (by omega) rfl
        rw [show ((0 : Nat) : Int) = 0 from rfl] at i0
        rw [show ((1 : Nat) : Int) = 1 from rfl] at i1
        have sg1 := sign_ok b 1 st
        rw [show (b == decide ((1 : Int) % 4 = 1)) = b by cases b <;> rfl] at sg1
        have q0 := eq_sg b c2
        have hl2 : 2 ≤ (c :: c2 :: t).length := by simp
        have g : pGt (.int (((c :: c2 :: t).length : Nat) : Int)) (.int 1) = some (.bool true) := by unfold pGt; rw [r_IB, decide_eq_true (by omega)]
        refine ⟨some (!(b == c2)), fun q hq => ?_, ?_⟩
        · rw [even_st b r (c :: c2 :: t) q hq]
          have key : some c2 = some (b == decide (q % 2 = 0)) ↔ decide (q % 2 = 1) = !(b == c2) := by
            by_cases h : q % 2 = 0
            · rw [decide_eq_true h, decide_eq_false (by omega)]
              cases b <;> cases c2 <;> simp
            · rw [decide_eq_false h, decide_eq_true (by omega)]
              cases b <;> cases c2 <;> simp
          constructor
          · rintro ⟨-, h2, h3⟩
            exact ⟨h3, fun w hw => by cases hw; exact key.mp (h2 hl2)⟩
          · rintro ⟨h1, h2⟩
            exact ⟨hfr, fun _ => key.mpr (h2 _ rfl), h1⟩
        · clear ev_of of_ev H
          generalize (c :: c2 :: t).length = LC at *
          generalize gs (c :: c2 :: t) = G at *
          generalize hs (b :: r) = HB at *
          cases hbc : (b == c2) with
          | false =>
            rw [hbc] at q0
            rw [show wd (some !false) = .int 1 from rfl]
            walk_at "evs"
          | true =>
            rw [hbc] at q0
            rw [show wd (some !true) = .int 0 from rfl]
            walk_at "evs"
    obtain ⟨x, ex, hx⟩ := H (stp (c :: t) 0) W st (by omega) (by omega)
    rcases hx with ⟨rfl, hn⟩ | ⟨p', rfl, hp', hmin⟩
    · have is1 : pIs .none .none = some (.bool true) := rfl
      refine ⟨.none, ?_, .inl ⟨rfl, fun p hp => ?_⟩⟩
      · unfold dn_least_even sf_least_even
        generalize (sI (eBin pGt (eCB pLen (aD (eV 1) (aN))) (eC (.int 1))) (sV 2 (eIf (eBin pEq (eCall dn_sign_of (aD (eBin pIx (eV 0) (eC (.int 0))) (aD (eC (.int 1)) (aN)))) (eBin pIx (eV 1) (eC (.int 1)))) (eC (.int 0)) (eC (.int 1)))) (sN)) = SI at *
        clear ev_of of_ev H hn hW
        generalize gs (stp (c :: t) 0) = G0 at *
        generalize gs (stp (c :: t) 1) = G1 at *
        generalize gs (c :: t) = G at *
        generalize hs (b :: r) = HB at *
        generalize wd W = WD at *
        walk_at "evs"
      · obtain ⟨q, rfl, hq1, hq⟩ := ev_of p hp
        exact hn _ ((hW q hq1).mp hq)
    · have hp1 : 1 ≤ p' := hp'.1.1
      have is1 : pIs (.int (p' : Int)) .none = some (.bool false) := rfl
      have m3 : pMul (.int 2) (.int (p' : Int)) = some (.int ((2 * p' : Nat) : Int)) := by rw [r_mulI (.inl (by decide))]; rfl
      refine ⟨.int ((2 * p' : Nat) : Int), ?_, .inr ⟨2 * p', rfl, of_ev _ ((hW _ hp1).mpr hp'), fun p hp => ?_⟩⟩
      · unfold dn_least_even sf_least_even
        generalize (sI (eBin pGt (eCB pLen (aD (eV 1) (aN))) (eC (.int 1))) (sV 2 (eIf (eBin pEq (eCall dn_sign_of (aD (eBin pIx (eV 0) (eC (.int 0))) (aD (eC (.int 1)) (aN)))) (eBin pIx (eV 1) (eC (.int 1)))) (eC (.int 0)) (eC (.int 1)))) (sN)) = SI at *
        clear ev_of of_ev H hmin hW hp'
        generalize gs (stp (c :: t) 0) = G0 at *
        generalize gs (stp (c :: t) 1) = G1 at *
        generalize gs (c :: t) = G at *
        generalize hs (b :: r) = HB at *
        generalize wd W = WD at *
        generalize ((2 * p' : Nat) : Int) = P2 at *
        walk_at "evs"
      · obtain ⟨q, rfl, hq1, hq⟩ := ev_of p hp
        have := hmin _ ((hW q hq1).mp hq)
        omega
end DL
set_option autoImplicit false
namespace DL
open PySem PySem.Spec PyProof.Rows L2
local macro_rules | `(tactic| walk_at "ev") => `(tactic| simp only [r_fn, r_Rz, r_RzP, r_Try, r_Tr, r_Tn, r_Te, r_Tk, r_CL, r_cl, r_at0, r_at1, r_at2, r_at3, r_at4, r_hA0, r_hBA0, r_hCA0, r_hA1, r_hA2, r_hBA2, r_hCA2, r_hA3, r_hBA3, r_hCA3, r_hA4, r_hBA4, r_hCA4, r_hA5, r_hBA5, r_hCA5, r_hA6, r_hBA6, r_hCA6, r_hA7, r_hBA7, r_hCA7, r_hA8, r_hBA8, r_hCA8, r_hA9, r_hBA9, r_hCA9, r_hA10, r_hBA10, r_hCA10, r_hA11, r_hBA11, r_hCA11, r_hA12, r_hBA12, r_hCA12, r_hA13, r_hBA13, r_hCA13, r_hA14, r_hBA14, r_hCA14, r_hBP, r_hCP, r_iRv, r_iRo, r_lofL, r_lofT, r_tofL, r_tofT, r_bits, r_tyL, r_eB, r_bnd, r_bo, r_be, r_eR, r_Rs, r_bin, r_un, r_c, r_v, r_vd, r_and, r_or, r_if, r_eA, r_eAo, r_eAe, r_eAD, r_eADo, r_eADe, r_eDk, r_CB, r_aN, r_aD, r_aDo, r_aDe, r_aO, r_aOo, r_cA, r_cAe, r_sv0, r_sv1,
  r_call, r_callo, r_calle, r_O0, r_O1, r_Sl, r_Ch, r_Ch3, r_kT', r_kF, r_M, r_Ln, r_Lns, r_Ix, r_Ixs, r_Nl, r_Nls, r_iD, r_iDo, r_iDe, r_iDj, r_iA, r_iAo, r_iAe, r_iAj, r_Q, r_Qn, r_Qr, r_Qb, r_Qc, r_Qe, r_B, r_Bo, r_Be, r_G, r_R, r_E, r_I, r_N, r_X, r_F, r_Fo, r_lc, r_fnr, r_fnn, r_fne, r_tk,
  r_bT, r_bsN, r_bsC, r_bsK, r_bN, r_IB, r_addI, r_sub, r_neg, r_not, r_min, r_max, r_lenL, r_lenT, r_eqS, r_neS, r_eqI, r_neI, r_slL, r_itS, r_itL, r_itT, r_enS, r_enL, r_zip, r_zipS, r_bs2, r_bs3, r_w0, r_w1, r_tyS, r_IxO, r_IxOo, r_St2, r_CallK, r_dSel, r_s0, r_sl, r_sr, Option.toList_some, and_self, if_true, if_false, Bool.false_eq_true,
  List.map_cons, List.map_nil, List.length_cons, List.length_nil, List.cons_append, List.nil_append, List.replicate, List.getElem?_cons_zero, List.getElem?_cons_succ, List.set_cons_zero, List.set_cons_succ, Option.map_some, Option.map_none, Nat.reduceAdd, Nat.reduceSub])
local macro_rules | `(tactic| walk_at "evs") => `(tactic| simp only [*, r_fn, r_mod, r_fdv, r_mulI, r_shl, r_shr, r_pow, r_rg1, r_rg2, r_tup, r_lst, r_ixS, r_ixL, r_ixT, r_slS, r_lenS, r_addS, r_addL, r_revS, r_Lno, decide_true, decide_false, Nat.le_refl, Nat.reduceLeDiff, Int.reduceLT, Int.reduceLE, Bool.not_true, Bool.not_false, Bool.and_true, Bool.true_and, Bool.and_self, r_Rz, r_RzP, r_Try, r_Tr, r_Tn, r_Te, r_Tk, r_CL, r_cl, r_at0, r_at1, r_at2, r_at3, r_at4, r_hA0, r_hBA0, r_hCA0, r_hA1, r_hA2, r_hBA2, r_hCA2, r_hA3, r_hBA3, r_hCA3, r_hA4, r_hBA4, r_hCA4, r_hA5, r_hBA5, r_hCA5, r_hA6, r_hBA6, r_hCA6, r_hA7, r_hBA7, r_hCA7, r_hA8, r_hBA8, r_hCA8, r_hA9, r_hBA9, r_hCA9, r_hA10, r_hBA10, r_hCA10, r_hA11, r_hBA11, r_hCA11, r_hA12, r_hBA12, r_hCA12, r_hA13, r_hBA13, r_hCA13, r_hA14, r_hBA14, r_hCA14, r_hBP, r_hCP, r_iRv, r_iRo, r_lofL, r_lofT, r_tofL, r_tofT, r_bits, r_tyL, r_eB, r_bnd, r_bo, r_be, r_eR, r_Rs, r_bin, r_un, r_c, r_v, r_vd, r_and, r_or, r_if, r_eA, r_eAo, r_eAe, r_eAD, r_eADo, r_eADe, r_eDk, r_CB, r_aN, r_aD, r_aDo, r_aDe, r_aO, r_aOo, r_cA, r_cAe, r_sv0, r_sv1,
  r_call, r_callo, r_calle, r_O0, r_O1, r_Sl, r_Ch, r_Ch3, r_kT', r_kF, r_M, r_Ln, r_Lns, r_Ix, r_Ixs, r_Nl, r_Nls, r_iD, r_iDo, r_iDe, r_iDj, r_iA, r_iAo, r_iAe, r_iAj, r_Q, r_Qn, r_Qr, r_Qb, r_Qc, r_Qe, r_B, r_Bo, r_Be, r_G, r_R, r_E, r_I, r_N, r_X, r_F, r_Fo, r_lc, r_fnr, r_fnn, r_fne, r_tk,
  r_bT, r_bsN, r_bsC, r_bsK, r_bN, r_IB, r_addI, r_sub, r_neg, r_not, r_min, r_max, r_lenL, r_lenT, r_eqS, r_neS, r_eqI, r_neI, r_slL, r_itS, r_itL, r_itT, r_enS, r_enL, r_zip, r_zipS, r_bs2, r_bs3, r_w0, r_w1, r_tyS, r_IxO, r_IxOo, r_St2, r_CallK, r_dSel, r_s0, r_sl, r_sr, Option.toList_some, and_self, if_true, if_false, Bool.false_eq_true,
  List.map_cons, List.map_nil, List.length_cons, List.length_nil, List.cons_append, List.nil_append, List.replicate, List.getElem?_cons_zero, List.getElem?_cons_succ, List.set_cons_zero, List.set_cons_succ, Option.map_some, Option.map_none, Nat.reduceAdd, Nat.reduceSub])
local macro_rules | `(tactic| walk_at "evr") => `(tactic| ((walk_at "evs") <;> rfl))
def onD : Option Nat → PyData
  | none => .none
  | some p => .int (p : Int)
def LsO (S : Nat → Prop) : Option Nat → Prop
  | none => ∀ p, ¬ S p
  | some p => S p ∧ ∀ q, S q → p ≤ q
theorem lst_on {S : Nat → Prop} {x : PyData} (h : Lst S x) : ∃ o, x = onD o ∧ LsO S o := by
  rcases h with ⟨rfl, h⟩ | ⟨p, rfl, h1, h2⟩
  · exact ⟨none, rfl, h⟩
  · exact ⟨some p, rfl, h1, h2⟩
theorem on_lst {S : Nat → Prop} {o : Option Nat} (h : LsO S o) : Lst S (onD o) := by
  cases o with
  | none => exact .inl ⟨rfl, h⟩
  | some p => exact .inr ⟨p, rfl, h.1, h.2⟩
def mnO : List (Option Nat) → Option Nat
  | [] => none
  | none :: r => mnO r
  | some p :: r => match mnO r with
    | none => some p
    | some q => some (min p q)
abbrev tailF (self : FF) : SF := (sFz 3 (sQ (sV 3 (eLc (iD (eV 3)) [4] (bN 4) ((lt_least_place_1 self)) ((le_least_place_1 self)))) (sR (eIf (eBin pNe (eV 3) (eCB pLst (aN))) (eCB pMinL (aD (eV 3) (aN))) (eC .none)))))
theorem ltail (self : FF) (D0 D1 D2 : PyData) (st : SE) (L : List (Option Nat)) (hL : L.length ≤ 2) : ∃ dl, tailF self [some (.d D0), some (.d D1), some (.d D2), some (.o st.length), none] (st ++ [.l (L.map onD)]) = some (.rt (onD (mnO L)), dl, st ++ [.dead]) := by
  have fz := r_Fz (i := 3) (j := st.length) (xs := L.map onD) (f := (sQ (sV 3 (eLc (iD (eV 3)) [4] (bN 4) ((lt_least_place_1 self)) ((le_least_place_1 self)))) (sR (eIf (eBin pNe (eV 3) (eCB pLst (aN))) (eCB pMinL (aD (eV 3) (aN))) (eC .none))))) (dl := [some (.d D0), some (.d D1), some (.d D2), some (.o st.length), none]) (st := st ++ [.l (L.map onD)]) rfl (by simp)
  have sd : (st ++ [Ob.l (L.map onD)]).set st.length Ob.dead = st ++ [.dead] := by
    rw [List.set_append_right _ _ (Nat.le_refl _), Nat.sub_self]
    rfl
  rw [sd] at fz
  have lc := lck_of (bd := bN 4) (t := lt_least_place_1 self) (e := le_least_place_1 self) (dl := [some (.d D0), some (.d D1), some (.d D2), some (.d (.list (L.map onD))), none]) (st := st ++ [.dead]) (vs := [4]) (xs := L.map onD) onD Option.isSome onD L rfl (by omega) (fun o _ => by
    refine ⟨_, rfl, ?_, fun _ => rfl⟩
    cases o <;> rfl)
  have n0 : pNe (.list []) (.list []) = some (.bool false) := ne_self _ rfl
  have n1 : ∀ p : Nat, pNe (.list [.int (p : Int)]) (.list []) = some (.bool true) := fun p => rfl
  have n2 : ∀ p q : Nat, pNe (.list [.int (p : Int), .int (q : Int)]) (.list []) = some (.bool true) := fun p q => rfl
  have m1 : ∀ p : Nat, pMinL [.list [.int (p : Int)]] = some (.int (p : Int)) := fun p => minL_ok (p : Int) [] (by simp)
  have m2 : ∀ p q : Nat, pMinL [.list [.int (p : Int), .int (q : Int)]] = some (.int ((min p q : Nat) : Int)) := fun p q => by
    have := minL_ok (p : Int) [(q : Int)] (by simp)
    rw [show [(q : Int)].foldl min (p : Int) = ((min p q : Nat) : Int) by show min (p : Int) (q : Int) = _; omega] at this
    exact this
  unfold tailF
  rw [fz]
  clear fz sd
  have go : ∀ (R : PyData) (F : List PyData), (L.filter Option.isSome).map onD = F → (F = [] ∧ R = .none ∨ pNe (.list F) (.list []) = some (.bool true) ∧ pMinL [.list F] = some R) → ∃ dl, (sQ (sV 3 (eLc (iD (eV 3)) [4] (bN 4) ((lt_least_place_1 self)) ((le_least_place_1 self)))) (sR (eIf (eBin pNe (eV 3) (eCB pLst (aN))) (eCB pMinL (aD (eV 3) (aN))) (eC .none)))) ([some (.d D0), some (.d D1), some (.d D2), some (.o st.length), none].set 3 (some (.d (.list (L.map onD))))) (st ++ [.dead]) = some (.rt R, dl, st ++ [.dead]) := fun R F hF hR => by
    rw [hF] at lc
    refine ⟨[some (.d D0), some (.d D1), some (.d D2), some (.d (.list F)), none], ?_⟩
    clear hF n1 n2 m1 m2
    generalize L.map onD = LL at *
    generalize st ++ [.dead] = S1 at *
    rcases hR with ⟨rfl, rfl⟩ | ⟨h1, h2⟩
    · walk_at "evs"
    · clear n0
      walk_at "evs"
  rcases L with _ | ⟨a, _ | ⟨b, _ | ⟨c, L⟩⟩⟩
  · exact go _ [] rfl (.inl ⟨rfl, rfl⟩)
  · rcases a with _ | p
    · exact go _ [] rfl (.inl ⟨rfl, rfl⟩)
    · exact go _ [.int (p : Int)] rfl (.inr ⟨n1 p, m1 p⟩)
  · rcases a with _ | p <;> rcases b with _ | q
    · exact go _ [] rfl (.inl ⟨rfl, rfl⟩)
    · exact go _ [.int (q : Int)] rfl (.inr ⟨n1 q, m1 q⟩)
    · exact go _ [.int (p : Int)] rfl (.inr ⟨n1 p, m1 p⟩)
    · exact go _ [.int (p : Int), .int (q : Int)] rfl (.inr ⟨n2 p q, m2 p q⟩)
  · simp at hL
theorem set_last (st : SE) (a b : Ob) : (st ++ [a]).set st.length b = st ++ [b] := by
  rw [List.set_append_right _ _ (Nat.le_refl _), Nat.sub_self]
  rfl
theorem place_ok : ∀ (f : Nat) (l : List Bool), l.length < f → l.length < 200 → Inner (dn_least_place f) l
  | 0, l, h, _ => by omega
  | f + 1, [], _, _ => fun t W st h1 h2 => by
    refine ⟨.none, ?_, .inl ⟨rfl, fun p hp => ?_⟩⟩
    · show fnB 5 3 (sf_least_place (dn_least_place f)) _ _ = _
      unfold sf_least_place
      have z : pEq (.str (hs [])) (.str "") = some (.bool true) := by rw [show hs [] = "" from lit_e.symm]; exact eq_ss _
      have tk : st.take st.length = st := List.take_length
      generalize hs [] = HB at *
      generalize gs t = G at *
      generalize wd W = WD at *
      walk_at "evs"
    · have h3 := hp.1.1
      have h4 : p + t.length ≤ 1 := hp.1.2.1
      omega
  | f + 1, b :: r, hf, hr => fun t W st h1 h2 => by
    rw [List.length_cons] at hf hr
    have H := place_ok f r (by omega) (by omega)
    obtain ⟨c, t, rfl⟩ : ∃ c t', t = c :: t' := by
      cases t with
      | nil => simp at h1
      | cons c t => exact ⟨c, t, rfl⟩
    have z : pEq (.str (hs (b :: r))) (.str "") = some (.bool false) := by
      have := eq_hs (b :: r) []
      rw [show hs [] = "" from lit_e.symm] at this
      rw [this, decide_eq_false (by simp)]
    have tk : (st ++ [Ob.dead]).take st.length = st := by simp
    have nw : sNw 3 aN [some (.d (.str (hs (b :: r)))), some (.d (.str (gs (c :: t)))), some (.d (wd W)), none, none] st = some (.nx, [some (.d (.str (hs (b :: r)))), some (.d (.str (gs (c :: t)))), some (.d (wd W)), some (.o st.length), none], st ++ [.l []]) := rfl
    have apO : ∀ (xs : List PyData), xs.length ≤ 5 → ∃ o, LsO (SW (b :: r) (c :: t) (some true)) o ∧ sAp 3 (eCall (dn_least_odd (dn_least_place f)) (aD (eV 0) (aD (eV 1) (aN)))) [some (.d (.str (hs (b :: r)))), some (.d (.str (gs (c :: t)))), some (.d (wd W)), some (.o st.length), none] (st ++ [.l xs]) = some (.nx, [some (.d (.str (hs (b :: r)))), some (.d (.str (gs (c :: t)))), some (.d (wd W)), some (.o st.length), none], st ++ [.l (xs ++ [onD o])]) := fun xs hxs => by
      obtain ⟨x, ex, hx⟩ := lodd (dn_least_place f) b c r t (st ++ [.l xs]) H h2 (by omega)
      obtain ⟨o, rfl, ho⟩ := lst_on hx
      refine ⟨o, ho, ?_⟩
      rw [r_Ap (j := st.length) (ys := xs) (xs := xs) (d := onD o) (st1 := st ++ [.l xs]) rfl (by simp) (by
        clear H hx ho
        generalize dn_least_odd (dn_least_place f) = DO at *
        generalize st ++ [.l xs] = S1 at *
        generalize gs (c :: t) = G at *
        generalize hs (b :: r) = HB at *
        generalize onD o = X at *
        walk_at "evs") (by simp) (by omega), set_last]
    have apE : ∀ (xs : List PyData), xs.length ≤ 5 → ∃ o, LsO (SW (b :: r) (c :: t) (some false)) o ∧ sAp 3 (eCall (dn_least_even (dn_least_place f)) (aD (eV 0) (aD (eV 1) (aN)))) [some (.d (.str (hs (b :: r)))), some (.d (.str (gs (c :: t)))), some (.d (wd W)), some (.o st.length), none] (st ++ [.l xs]) = some (.nx, [some (.d (.str (hs (b :: r)))), some (.d (.str (gs (c :: t)))), some (.d (wd W)), some (.o st.length), none], st ++ [.l (xs ++ [onD o])]) := fun xs hxs => by
      obtain ⟨x, ex, hx⟩ := leven (dn_least_place f) b c r t (st ++ [.l xs]) H h2 (by omega)
      obtain ⟨o, rfl, ho⟩ := lst_on hx
      refine ⟨o, ho, ?_⟩
      rw [r_Ap (j := st.length) (ys := xs) (xs := xs) (d := onD o) (st1 := st ++ [.l xs]) rfl (by simp) (by
        clear H hx ho
        generalize dn_least_even (dn_least_place f) = DO at *
        generalize st ++ [.l xs] = S1 at *
        generalize gs (c :: t) = G at *
        generalize hs (b :: r) = HB at *
        generalize onD o = X at *
        walk_at "evs") (by simp) (by omega), set_last]
    have run : ∀ (L : List (Option Nat)), L.length ≤ 2 → (∃ q1 q2 S2, (q1 = true ∨ q2 = true) ∧ pNe (wd W) (.int 0) = some (.bool q1) ∧ pNe (wd W) (.int 1) = some (.bool q2) ∧
        (if q1 then sAp 3 (eCall (dn_least_odd (dn_least_place f)) (aD (eV 0) (aD (eV 1) (aN)))) else sN) [some (.d (.str (hs (b :: r)))), some (.d (.str (gs (c :: t)))), some (.d (wd W)), some (.o st.length), none] (st ++ [.l []]) = some (.nx, [some (.d (.str (hs (b :: r)))), some (.d (.str (gs (c :: t)))), some (.d (wd W)), some (.o st.length), none], S2) ∧
        (if q2 then sAp 3 (eCall (dn_least_even (dn_least_place f)) (aD (eV 0) (aD (eV 1) (aN)))) else sN) [some (.d (.str (hs (b :: r)))), some (.d (.str (gs (c :: t)))), some (.d (wd W)), some (.o st.length), none] S2 = some (.nx, [some (.d (.str (hs (b :: r)))), some (.d (.str (gs (c :: t)))), some (.d (wd W)), some (.o st.length), none], st ++ [.l (L.map onD)])) →
        dn_least_place (f + 1) [.d (.str (hs (b :: r))), .d (.str (gs (c :: t))), .d (wd W)] st = some (.ok (onD (mnO L)), st) := fun L hL h => by
      obtain ⟨q1, q2, S2, hq, w1, w2, a1, a2⟩ := h
      obtain ⟨dl, et⟩ := ltail (dn_least_place f) (.str (hs (b :: r))) (.str (gs (c :: t))) (wd W) st L hL
      show fnB 5 3 (sf_least_place (dn_least_place f)) _ _ = _
      unfold sf_least_place
      clear apO apE H
      unfold tailF at et
      generalize (sFz 3 (sQ (sV 3 (eLc (iD (eV 3)) [4] (bN 4) ((lt_least_place_1 (dn_least_place f))) ((le_least_place_1 (dn_least_place f))))) (sR (eIf (eBin pNe (eV 3) (eCB pLst (aN))) (eCB pMinL (aD (eV 3) (aN))) (eC .none))))) = TF at *
      generalize sAp 3 (eCall (dn_least_even (dn_least_place f)) (aD (eV 0) (aD (eV 1) (aN)))) = AE at *
      generalize sAp 3 (eCall (dn_least_odd (dn_least_place f)) (aD (eV 0) (aD (eV 1) (aN)))) = AO at *
      generalize L.map onD = LL at *
      generalize onD (mnO L) = RR at *
      generalize gs (c :: t) = G at *
      generalize hs (b :: r) = HB at *
      generalize wd W = WD at *
      cases q1 with
      | false =>
        cases q2 with
        | false => simp at hq
        | true =>
          rw [if_neg Bool.false_ne_true] at a1
          rw [if_pos rfl] at a2
          have hS := (Prod.mk.inj (Prod.mk.inj (Option.some.inj (show some (Fl.nx, _, st ++ [Ob.l []]) = some (Fl.nx, _, S2) from a1))).2).2
          subst hS
          clear a1 hq
          walk_at "evs"
      | true =>
        rw [if_pos rfl] at a1
        cases q2 with
        | false =>
          rw [if_neg Bool.false_ne_true] at a2
          have hS := (Prod.mk.inj (Prod.mk.inj (Option.some.inj (show some (Fl.nx, _, S2) = some (Fl.nx, _, st ++ [Ob.l LL]) from a2))).2).2
          subst hS
          clear a2 hq
          walk_at "evs"
        | true =>
          rw [if_pos rfl] at a2
          clear hq
          walk_at "evs"
    cases W with
    | none =>
      obtain ⟨o1, h1', e1⟩ := apO [] (by simp)
      obtain ⟨o2, h2', e2⟩ := apE [onD o1] (by simp)
      refine ⟨_, run [o1, o2] (by simp) ⟨true, true, _, .inl rfl, rfl, rfl, e1, e2⟩, on_lst ?_⟩
      have par : ∀ p, SW (b :: r) (c :: t) none p ↔ SW (b :: r) (c :: t) (some true) p ∨ SW (b :: r) (c :: t) (some false) p := fun p => by
        constructor
        · rintro ⟨hS, -⟩
          by_cases hp : p % 2 = 1
          · exact .inl ⟨hS, fun w hw => by cases hw; exact decide_eq_true hp⟩
          · exact .inr ⟨hS, fun w hw => by cases hw; exact decide_eq_false hp⟩
        · rintro (⟨hS, -⟩ | ⟨hS, -⟩) <;> exact ⟨hS, fun w hw => by cases hw⟩
      cases o1 with
      | none =>
        cases o2 with
        | none => exact fun p hp => ((par p).mp hp).elim (h1' p) (h2' p)
        | some q => exact ⟨(par q).mpr (.inr h2'.1), fun k hk => ((par k).mp hk).elim (fun h => absurd h (h1' k)) (h2'.2 k)⟩
      | some p =>
        cases o2 with
        | none => exact ⟨(par p).mpr (.inl h1'.1), fun k hk => ((par k).mp hk).elim (h1'.2 k) (fun h => absurd h (h2' k))⟩
        | some q =>
          refine ⟨?_, fun k hk => ?_⟩
          · rcases Nat.le_total p q with h | h
            · rw [Nat.min_eq_left h]; exact (par p).mpr (.inl h1'.1)
            · rw [Nat.min_eq_right h]; exact (par q).mpr (.inr h2'.1)
          · rcases (par k).mp hk with h | h
            · have := h1'.2 k h; omega
            · have := h2'.2 k h; omega
    | some w =>
      cases w with
      | true =>
        obtain ⟨o1, h1', e1⟩ := apO [] (by simp)
        refine ⟨_, run [o1] (by simp) ⟨true, false, _, .inl rfl, rfl, rfl, e1, rfl⟩, on_lst ?_⟩
        cases o1 <;> exact h1'
      | false =>
        obtain ⟨o2, h2', e2⟩ := apE [] (by simp)
        refine ⟨_, run [o2] (by simp) ⟨false, true, _, .inr rfl, rfl, rfl, rfl, e2⟩, on_lst ?_⟩
        cases o2 <;> exact h2'
end DL
set_option autoImplicit false
namespace DL
open PySem PySem.Spec PyProof.Rows L2
local macro_rules | `(tactic| walk_at "ev") => `(tactic| simp only [r_fn, r_Rz, r_RzP, r_Try, r_Tr, r_Tn, r_Te, r_Tk, r_CL, r_cl, r_at0, r_at1, r_at2, r_at3, r_at4, r_hA0, r_hBA0, r_hCA0, r_hA1, r_hA2, r_hBA2, r_hCA2, r_hA3, r_hBA3, r_hCA3, r_hA4, r_hBA4, r_hCA4, r_hA5, r_hBA5, r_hCA5, r_hA6, r_hBA6, r_hCA6, r_hA7, r_hBA7, r_hCA7, r_hA8, r_hBA8, r_hCA8, r_hA9, r_hBA9, r_hCA9, r_hA10, r_hBA10, r_hCA10, r_hA11, r_hBA11, r_hCA11, r_hA12, r_hBA12, r_hCA12, r_hA13, r_hBA13, r_hCA13, r_hA14, r_hBA14, r_hCA14, r_hBP, r_hCP, r_iRv, r_iRo, r_lofL, r_lofT, r_tofL, r_tofT, r_bits, r_tyL, r_eB, r_bnd, r_bo, r_be, r_eR, r_Rs, r_bin, r_un, r_c, r_v, r_vd, r_and, r_or, r_if, r_eA, r_eAo, r_eAe, r_eAD, r_eADo, r_eADe, r_eDk, r_CB, r_aN, r_aD, r_aDo, r_aDe, r_aO, r_aOo, r_cA, r_cAe, r_sv0, r_sv1,
  r_call, r_callo, r_calle, r_O0, r_O1, r_Sl, r_Ch, r_Ch3, r_kT', r_kF, r_M, r_Ln, r_Lns, r_Ix, r_Ixs, r_Nl, r_Nls, r_iD, r_iDo, r_iDe, r_iDj, r_iA, r_iAo, r_iAe, r_iAj, r_Q, r_Qn, r_Qr, r_Qb, r_Qc, r_Qe, r_B, r_Bo, r_Be, r_G, r_R, r_E, r_I, r_N, r_X, r_F, r_Fo, r_lc, r_fnr, r_fnn, r_fne, r_tk,
  r_bT, r_bsN, r_bsC, r_bsK, r_bN, r_IB, r_addI, r_sub, r_neg, r_not, r_min, r_max, r_lenL, r_lenT, r_eqS, r_neS, r_eqI, r_neI, r_slL, r_itS, r_itL, r_itT, r_enS, r_enL, r_zip, r_zipS, r_bs2, r_bs3, r_w0, r_w1, r_tyS, r_IxO, r_IxOo, r_St2, r_CallK, r_dSel, r_s0, r_sl, r_sr, Option.toList_some, and_self, if_true, if_false, Bool.false_eq_true,
  List.map_cons, List.map_nil, List.length_cons, List.length_nil, List.cons_append, List.nil_append, List.replicate, List.getElem?_cons_zero, List.getElem?_cons_succ, List.set_cons_zero, List.set_cons_succ, Option.map_some, Option.map_none, Nat.reduceAdd, Nat.reduceSub])
local macro_rules | `(tactic| walk_at "evs") => `(tactic| simp only [*, r_fn, r_mod, r_fdv, r_mulI, r_shl, r_shr, r_pow, r_rg1, r_rg2, r_tup, r_lst, r_ixS, r_ixL, r_ixT, r_slS, r_lenS, r_addS, r_addL, r_revS, r_Lno, decide_true, decide_false, Nat.le_refl, Nat.reduceLeDiff, Int.reduceLT, Int.reduceLE, Bool.not_true, Bool.not_false, Bool.and_true, Bool.true_and, Bool.and_self, r_Rz, r_RzP, r_Try, r_Tr, r_Tn, r_Te, r_Tk, r_CL, r_cl, r_at0, r_at1, r_at2, r_at3, r_at4, r_hA0, r_hBA0, r_hCA0, r_hA1, r_hA2, r_hBA2, r_hCA2, r_hA3, r_hBA3, r_hCA3, r_hA4, r_hBA4, r_hCA4, r_hA5, r_hBA5, r_hCA5, r_hA6, r_hBA6, r_hCA6, r_hA7, r_hBA7, r_hCA7, r_hA8, r_hBA8, r_hCA8, r_hA9, r_hBA9, r_hCA9, r_hA10, r_hBA10, r_hCA10, r_hA11, r_hBA11, r_hCA11, r_hA12, r_hBA12, r_hCA12, r_hA13, r_hBA13, r_hCA13, r_hA14, r_hBA14, r_hCA14, r_hBP, r_hCP, r_iRv, r_iRo, r_lofL, r_lofT, r_tofL, r_tofT, r_bits, r_tyL, r_eB, r_bnd, r_bo, r_be, r_eR, r_Rs, r_bin, r_un, r_c, r_v, r_vd, r_and, r_or, r_if, r_eA, r_eAo, r_eAe, r_eAD, r_eADo, r_eADe, r_eDk, r_CB, r_aN, r_aD, r_aDo, r_aDe, r_aO, r_aOo, r_cA, r_cAe, r_sv0, r_sv1,
  r_call, r_callo, r_calle, r_O0, r_O1, r_Sl, r_Ch, r_Ch3, r_kT', r_kF, r_M, r_Ln, r_Lns, r_Ix, r_Ixs, r_Nl, r_Nls, r_iD, r_iDo, r_iDe, r_iDj, r_iA, r_iAo, r_iAe, r_iAj, r_Q, r_Qn, r_Qr, r_Qb, r_Qc, r_Qe, r_B, r_Bo, r_Be, r_G, r_R, r_E, r_I, r_N, r_X, r_F, r_Fo, r_lc, r_fnr, r_fnn, r_fne, r_tk,
  r_bT, r_bsN, r_bsC, r_bsK, r_bN, r_IB, r_addI, r_sub, r_neg, r_not, r_min, r_max, r_lenL, r_lenT, r_eqS, r_neS, r_eqI, r_neI, r_slL, r_itS, r_itL, r_itT, r_enS, r_enL, r_zip, r_zipS, r_bs2, r_bs3, r_w0, r_w1, r_tyS, r_IxO, r_IxOo, r_St2, r_CallK, r_dSel, r_s0, r_sl, r_sr, Option.toList_some, and_self, if_true, if_false, Bool.false_eq_true,
  List.map_cons, List.map_nil, List.length_cons, List.length_nil, List.cons_append, List.nil_append, List.replicate, List.getElem?_cons_zero, List.getElem?_cons_succ, List.set_cons_zero, List.set_cons_succ, Option.map_some, Option.map_none, Nat.reduceAdd, Nat.reduceSub])
local macro_rules | `(tactic| walk_at "evr") => `(tactic| ((walk_at "evs") <;> rfl))
theorem lit_hr : ("hr" : Str) = tx [104, 114] := lit_ (by decide +kernel)
theorem sg_in (b : Bool) : pIn (sg b) (.str "hr") = some (.bool true) := by
  unfold sg
  rw [lit_hr]
  unfold pIn pInB
  dsimp only
  rw [if_pos (by rw [tx_length]; rfl), tx_toList, tx_toList]
  cases b <;> rfl
theorem signs_ok (t : List Bool) (lo hi : Int) (st : SE) (h0 : lo ≤ t.length) (h1 : (t.length : Int) ≤ hi) (h2 : t.length ≤ 10000) : dn_is_signs [.d (.str (gs t)), .d (.str "hr"), .d (.int lo), .d (.int hi)] st = some (.ok (.bool true), st) := by
  unfold dn_is_signs sf_is_signs
  have i1 := isi_ss (gs t)
  have hl := len_gs t (by omega)
  have d0 : decide (lo ≤ (t.length : Int)) = true := decide_eq_true h0
  have d1 : decide ((t.length : Int) ≤ hi) = true := decide_eq_true h1
  have it := it_gs t
  have tk : st.take st.length = st := List.take_length
  have hk := lck_map (bd := bN 4) (e := le_is_signs_1) (dl := [some (.d (.str (gs t))), some (.d (.str "hr")), some (.d (.int lo)), some (.d (.int hi)), none]) (st := st) (vs := [4]) (xs := t.map sg) sg (fun _ => .bool true) t rfl (by omega) (fun b _ => by
    have hi := sg_in b
    refine ⟨_, rfl, ?_⟩
    generalize sg b = S at *
    unfold le_is_signs_1
    walk_at "evr")
  have ha := pAll_map t (fun _ => true)
  rw [show t.all (fun _ => true) = true by simp] at ha
  generalize t.map (fun _ => PyData.bool true) = BB at *
  generalize t.map sg = SS at *
  generalize gs t = G at *
  walk_at "evs"
theorem firstp_ok (w t : List Bool) (st : SE) (h : w.length ≤ 60) (h1 : 1 ≤ t.length) (h2 : t.length ≤ 40) : ∃ x, dn_first_place [.d (.str (hs w)), .d (.str (gs t))] st = some (.ok x, st) ∧ Lst (ST w.reverse t) x := by
  have e1 := needh_ok w st h
  have e2 := signs_ok t 1 40 st (by omega) (by omega) (by omega)
  have rv := rev_hs w (by omega)
  have tk : st.take st.length = st := List.take_length
  obtain ⟨x, ex, hx⟩ := place_ok 70 w.reverse (by rw [List.length_reverse]; omega) (by rw [List.length_reverse]; omega) t none st h1 (by omega)
  rw [show wd none = .none from rfl] at ex
  refine ⟨x, ?_, ?_⟩
  · unfold dn_first_place sf_first_place
    clear hx
    generalize dn_least_place 70 = LP at *
    generalize gs t = G at *
    walk_at "evs"
  · rcases hx with ⟨rfl, hn⟩ | ⟨p, rfl, hp, hm⟩
    · exact .inl ⟨rfl, fun p hp => hn p ⟨hp, fun w hw => by cases hw⟩⟩
    · exact .inr ⟨p, rfl, hp.1, fun q hq => hm q ⟨hq, fun w hw => by cases hw⟩⟩
/-- text.find, of signs -/
theorem gs_at (R t : List Bool) (i : Nat) : StrLaws.At (gs R) (gs t) (gs R).length i ↔ i + t.length ≤ R.length ∧ ∀ k, k < t.length → R[i + k]? = t[k]? := by
  unfold StrLaws.At gs
  rw [tx_length, tx_length, List.length_map, List.length_map, PySem.StrLaws.subAt_eq, tx_toList, tx_toList, tx_length, List.length_map, beq_iff_eq]
  constructor
  · rintro ⟨h1, h2⟩
    refine ⟨h1, fun k hk => ?_⟩
    have := congrArg (fun l => l[k]?) h2
    simp only [List.getElem?_take_of_lt hk, List.getElem?_drop, List.getElem?_map] at this
    rw [List.getElem?_eq_getElem (show i + k < R.length by omega), List.getElem?_eq_getElem hk] at this ⊢
    simp only [Option.map_some, Option.some.injEq] at this
    rw [hc_inj this]
  · rintro ⟨h1, h2⟩
    refine ⟨h1, ?_⟩
    apply List.ext_getElem?
    intro k
    by_cases hk : k < t.length
    · rw [List.getElem?_take_of_lt hk, List.getElem?_drop, List.getElem?_map, List.getElem?_map, h2 k hk]
    · rw [List.getElem?_eq_none (by simp; omega), List.getElem?_eq_none (by simpa using hk)]
theorem find_gs (R t : List Bool) : (pFind (.str (gs R)) [.str (gs t)] = some (.int (-1)) ∧ ∀ i, ¬ (i + t.length ≤ R.length ∧ ∀ k, k < t.length → R[i + k]? = t[k]?)) ∨ ∃ i : Nat, pFind (.str (gs R)) [.str (gs t)] = some (.int (i : Int)) ∧ (i + t.length ≤ R.length ∧ ∀ k, k < t.length → R[i + k]? = t[k]?) ∧ ∀ j, j < i → ¬ (j + t.length ≤ R.length ∧ ∀ k, k < t.length → R[j + k]? = t[k]?) := by
  have e : ∀ v, Txt.find (gs R) (gs t) = v → pFind (.str (gs R)) [.str (gs t)] = some (.int v) := fun v h => by rw [← h]; rfl
  rcases find_whole (gs R) (gs t) with ⟨h1, h2⟩ | ⟨i, h1, h2, h3⟩
  · exact .inl ⟨e _ h1, fun i hi => h2 i ((gs_at R t i).mpr hi)⟩
  · exact .inr ⟨i, e _ h1, (gs_at R t i).mp h2, fun j hj hA => h3 j hj ((gs_at R t j).mpr hA)⟩
/-- where a text stands, and where it is found -/
theorem st_row (l t : List Bool) (i : Nat) (ht : 1 ≤ t.length) : ST l t (i + 1) ↔ (i + t.length ≤ (rowL l).length ∧ ∀ k, k < t.length → (rowL l)[i + k]? = t[k]?) := by
  unfold ST
  rw [rowL_len]
  have hpos : 0 < 2 ^ l.length := Nat.pow_pos (by decide)
  constructor
  · rintro ⟨h1, h2, h3⟩
    refine ⟨by omega, fun k hk => ?_⟩
    rw [rowL_get (by omega), h3 k hk, show i + k + 1 = i + 1 + k by omega]
  · rintro ⟨h1, h2⟩
    refine ⟨by omega, by omega, fun k hk => ?_⟩
    rw [← h2 k hk, rowL_get (by omega), show i + k + 1 = i + 1 + k by omega]
end DL
set_option autoImplicit false
namespace DL
open PySem PySem.Spec PyProof.Rows L2
def lq_law_k14_1 : EF := eAnd (eBin pEq (eBin pMod (eV 4) (eC (.int 2))) (eC (.int 1))) (eBin pNe (eV 7) (eC (.str "")))
def lr_law_k14_1 : SF := sQ (sV 9 (eM "str" pFind (eV 3) (aD (eV 7) (aN)))) (sI (eBin pNe (eCall dn_first_place (aD (eV 2) (aD (eV 7) (aN)))) (eIf (eBin pGe (eV 9) (eC (.int 0))) (eBin pAdd (eV 9) (eC (.int 1))) (eC .none))) (sR (eC (.bool false))) (sN))
def lr_law_k14_2 : SF := sQ (sI (eBin pEq (eV 7) (eC (.str ""))) (sV 7 (eCall dn_law_pick (aO 0 (aO 1 (aD (eCB pLst (aD (eC (.str "h")) (aD (eC (.str "r")) (aD (eC (.str "hr")) (aD (eC (.str "hhr")) (aD (eC (.str "rhr")) (aN))))))) (aN)))))) (sN)) (lr_law_k14_1)
def lr_law_k14_3 : SF := sQ (sI (lq_law_k14_1) (sQ (sV 8 (eCall dn_law_draw (aO 0 (aO 1 (aD (eCB pLen (aD (eV 7) (aN))) (aN)))))) (sV 7 (eBin pAdd (eBin pAdd (eSl (eV 7) none (some (eV 8))) (eIf (eBin pEq (eBin pIx (eV 7) (eV 8)) (eC (.str "h"))) (eC (.str "r")) (eC (.str "h")))) (eSl (eV 7) (some (eBin pAdd (eV 8) (eC (.int 1)))) none)))) (sN)) (lr_law_k14_2)
def lr_law_k14_4 : SF := sQ (sV 7 (eSl (eV 3) (some (eV 5)) (some (eBin pAdd (eV 5) (eV 6))))) (lr_law_k14_3)
def lr_law_k14_5 : SF := sQ (sV 6 (eBin pAdd (eC (.int 1)) (eCall dn_law_draw (aO 0 (aO 1 (aD (eCall dn_law_pick (aO 0 (aO 1 (aD (eCB pLst (aD (eC (.int 3)) (aD (eC (.int 6)) (aD (eC (.int 40)) (aN))))) (aN))))) (aN))))))) (lr_law_k14_4)
def lb_law_k14_1 : SF := sQ (sV 5 (eCall dn_law_draw (aO 0 (aO 1 (aD (eBin pAdd (eCB pLen (aD (eV 3) (aN))) (eC (.int 1))) (aN)))))) (lr_law_k14_5)
def lr_law_k14_6 : SF := sQ (sF (iA (aD (eC (.int 5)) (aN)) kRg1) (bN 4) lb_law_k14_1) (sR (eC (.bool true)))
def lr_law_k14_7 : SF := sQ (sV 3 (eCall dn_law_row (aD (eV 2) (aN)))) (lr_law_k14_6)
def lr_law_k14_8 : SF := sQ (sV 2 (eCall dn_law_halvings (aO 0 (aO 1 (aD (eC (.int 7)) (aN)))))) (lr_law_k14_7)
def sf_law_k14 : SF := sQ (sNw 1 (aN)) (lr_law_k14_8)
def dn_law_k14 : FF := fnB 10 1 sf_law_k14
end DL
set_option autoImplicit false
namespace DL
open PySem PySem.Spec PyProof.Rows L2
local macro_rules | `(tactic| walk_at "ev") => `(tactic| simp only [r_fn, r_Rz, r_RzP, r_Try, r_Tr, r_Tn, r_Te, r_Tk, r_CL, r_cl, r_at0, r_at1, r_at2, r_at3, r_at4, r_hA0, r_hBA0, r_hCA0, r_hA1, r_hA2, r_hBA2, r_hCA2, r_hA3, r_hBA3, r_hCA3, r_hA4, r_hBA4, r_hCA4, r_hA5, r_hBA5, r_hCA5, r_hA6, r_hBA6, r_hCA6, r_hA7, r_hBA7, r_hCA7, r_hA8, r_hBA8, r_hCA8, r_hA9, r_hBA9, r_hCA9, r_hA10, r_hBA10, r_hCA10, r_hA11, r_hBA11, r_hCA11, r_hA12, r_hBA12, r_hCA12, r_hA13, r_hBA13, r_hCA13, r_hA14, r_hBA14, r_hCA14, r_hBP, r_hCP, r_iRv, r_iRo, r_lofL, r_lofT, r_tofL, r_tofT, r_bits, r_tyL, r_eB, r_bnd, r_bo, r_be, r_eR, r_Rs, r_bin, r_un, r_c, r_v, r_vd, r_and, r_or, r_if, r_eA, r_eAo, r_eAe, r_eAD, r_eADo, r_eADe, r_eDk, r_CB, r_aN, r_aD, r_aDo, r_aDe, r_aO, r_aOo, r_cA, r_cAe, r_sv0, r_sv1,
  r_call, r_callo, r_calle, r_O0, r_O1, r_Sl, r_Ch, r_Ch3, r_kT', r_kF, r_M, r_Ln, r_Lns, r_Ix, r_Ixs, r_Nl, r_Nls, r_iD, r_iDo, r_iDe, r_iDj, r_iA, r_iAo, r_iAe, r_iAj, r_Q, r_Qn, r_Qr, r_Qb, r_Qc, r_Qe, r_B, r_Bo, r_Be, r_G, r_R, r_E, r_I, r_N, r_X, r_F, r_Fo, r_lc, r_fnr, r_fnn, r_fne, r_tk,
  r_bT, r_bsN, r_bsC, r_bsK, r_bN, r_IB, r_addI, r_sub, r_neg, r_not, r_min, r_max, r_lenL, r_lenT, r_eqS, r_neS, r_eqI, r_neI, r_slL, r_itS, r_itL, r_itT, r_enS, r_enL, r_zip, r_zipS, r_bs2, r_bs3, r_w0, r_w1, r_tyS, r_IxO, r_IxOo, r_St2, r_CallK, r_dSel, r_s0, r_sl, r_sr, Option.toList_some, and_self, if_true, if_false, Bool.false_eq_true,
  List.map_cons, List.map_nil, List.length_cons, List.length_nil, List.cons_append, List.nil_append, List.replicate, List.getElem?_cons_zero, List.getElem?_cons_succ, List.set_cons_zero, List.set_cons_succ, Option.map_some, Option.map_none, Nat.reduceAdd, Nat.reduceSub])
local macro_rules | `(tactic| walk_at "evs") => `(tactic| simp only [*, r_fn, r_mod, r_fdv, r_mulI, r_shl, r_shr, r_pow, r_rg1, r_rg2, r_tup, r_lst, r_ixS, r_ixL, r_ixT, r_slS, r_lenS, r_addS, r_addL, r_revS, r_Lno, decide_true, decide_false, Nat.le_refl, Nat.reduceLeDiff, Int.reduceLT, Int.reduceLE, Bool.not_true, Bool.not_false, Bool.and_true, Bool.true_and, Bool.and_self, r_Rz, r_RzP, r_Try, r_Tr, r_Tn, r_Te, r_Tk, r_CL, r_cl, r_at0, r_at1, r_at2, r_at3, r_at4, r_hA0, r_hBA0, r_hCA0, r_hA1, r_hA2, r_hBA2, r_hCA2, r_hA3, r_hBA3, r_hCA3, r_hA4, r_hBA4, r_hCA4, r_hA5, r_hBA5, r_hCA5, r_hA6, r_hBA6, r_hCA6, r_hA7, r_hBA7, r_hCA7, r_hA8, r_hBA8, r_hCA8, r_hA9, r_hBA9, r_hCA9, r_hA10, r_hBA10, r_hCA10, r_hA11, r_hBA11, r_hCA11, r_hA12, r_hBA12, r_hCA12, r_hA13, r_hBA13, r_hCA13, r_hA14, r_hBA14, r_hCA14, r_hBP, r_hCP, r_iRv, r_iRo, r_lofL, r_lofT, r_tofL, r_tofT, r_bits, r_tyL, r_eB, r_bnd, r_bo, r_be, r_eR, r_Rs, r_bin, r_un, r_c, r_v, r_vd, r_and, r_or, r_if, r_eA, r_eAo, r_eAe, r_eAD, r_eADo, r_eADe, r_eDk, r_CB, r_aN, r_aD, r_aDo, r_aDe, r_aO, r_aOo, r_cA, r_cAe, r_sv0, r_sv1,
  r_call, r_callo, r_calle, r_O0, r_O1, r_Sl, r_Ch, r_Ch3, r_kT', r_kF, r_M, r_Ln, r_Lns, r_Ix, r_Ixs, r_Nl, r_Nls, r_iD, r_iDo, r_iDe, r_iDj, r_iA, r_iAo, r_iAe, r_iAj, r_Q, r_Qn, r_Qr, r_Qb, r_Qc, r_Qe, r_B, r_Bo, r_Be, r_G, r_R, r_E, r_I, r_N, r_X, r_F, r_Fo, r_lc, r_fnr, r_fnn, r_fne, r_tk,
  r_bT, r_bsN, r_bsC, r_bsK, r_bN, r_IB, r_addI, r_sub, r_neg, r_not, r_min, r_max, r_lenL, r_lenT, r_eqS, r_neS, r_eqI, r_neI, r_slL, r_itS, r_itL, r_itT, r_enS, r_enL, r_zip, r_zipS, r_bs2, r_bs3, r_w0, r_w1, r_tyS, r_IxO, r_IxOo, r_St2, r_CallK, r_dSel, r_s0, r_sl, r_sr, Option.toList_some, and_self, if_true, if_false, Bool.false_eq_true,
  List.map_cons, List.map_nil, List.length_cons, List.length_nil, List.cons_append, List.nil_append, List.replicate, List.getElem?_cons_zero, List.getElem?_cons_succ, List.set_cons_zero, List.set_cons_succ, Option.map_some, Option.map_none, Nat.reduceAdd, Nat.reduceSub])
local macro_rules | `(tactic| walk_at "evr") => `(tactic| ((walk_at "evs") <;> rfl))
theorem k14_look (w t : List Bool) (x0 x1 x4 x5 x6 x8 x9 : Option SV) (st : SE) (hw : w.length ≤ 7) (h1 : 1 ≤ t.length) (h2 : t.length ≤ 40) :
    ∃ y9, lr_law_k14_1 [x0, x1, some (.d (.str (hs w))), some (.d (.str (gs (rowL w.reverse)))), x4, x5, x6, some (.d (.str (gs t))), x8, x9] st = some (.nx, [x0, x1, some (.d (.str (hs w))), some (.d (.str (gs (rowL w.reverse)))), x4, x5, x6, some (.d (.str (gs t))), x8, y9], st) := by
  obtain ⟨x, ex, hx⟩ := firstp_ok w t st (by omega) h1 h2
  rcases find_gs (rowL w.reverse) t with ⟨e, hn⟩ | ⟨i, e, hi, hj⟩
  · have hx' : x = .none := by
      rcases hx with ⟨h, -⟩ | ⟨p, rfl, hp, -⟩
      · exact h
      · have := hp.1
        obtain ⟨k, rfl⟩ : ∃ k, p = k + 1 := ⟨p - 1, by omega⟩
        exact absurd ((st_row w.reverse t k h1).mp hp) (hn k)
    subst hx'
    have g : pGe (.int (-1)) (.int 0) = some (.bool false) := rfl
    have z : pNe .none .none = some (.bool false) := ne_self _ rfl
    refine ⟨some (.d (.int (-1))), ?_⟩
    unfold lr_law_k14_1
    clear hx hn
    generalize gs (rowL w.reverse) = RR at *
    generalize gs t = G at *
    walk_at "evs"
  · have hS := (st_row w.reverse t i h1).mpr hi
    have hx' : x = .int ((i : Int) + 1) := by
      rcases hx with ⟨-, hn⟩ | ⟨p, rfl, hp, hm⟩
      · exact absurd hS (hn _)
      · have h3 := hm _ hS
        have := hp.1
        obtain ⟨k, rfl⟩ : ∃ k, p = k + 1 := ⟨p - 1, by omega⟩
        have hk := (st_row w.reverse t k h1).mp hp
        have : k = i := by
          rcases Nat.lt_or_ge k i with h | h
          · exact absurd hk (hj k h)
          · omega
        subst this
        rfl
    subst hx'
    have g : pGe (.int (i : Int)) (.int 0) = some (.bool true) := by unfold pGe; rw [r_IB, decide_eq_true (by omega)]
    have z := ne_ii ((i : Int) + 1)
    refine ⟨some (.d (.int (i : Int))), ?_⟩
    unfold lr_law_k14_1
    clear hx hi hj hS
    generalize gs (rowL w.reverse) = RR at *
    generalize gs t = G at *
    walk_at "evs"
theorem sl_gsd (R : List Bool) (k : Nat) (h : R.length ≤ 1000000) : pSl (.str (gs R)) (some (k : Int)) none = some (.str (gs (R.drop k))) := by
  unfold gs
  rw [r_slS (by simpa using h), cut_drop, List.map_drop]
theorem gs_e : gs [] = "" := lit_e.symm
theorem eq_gs (a b : List Bool) : pEq (.str (gs a)) (.str (gs b)) = some (.bool (decide (a = b))) := by
  unfold gs
  rw [r_eqS]
  congr 2
  by_cases h : a = b
  · subst h; simp
  · rw [decide_eq_false h]
    have : ¬ a.map hc = b.map hc := fun e => h (List.map_inj_right (fun _ _ => hc_inj) |>.mp e)
    simp [this]
theorem ne_gs (a b : List Bool) : pNe (.str (gs a)) (.str (gs b)) = some (.bool (!decide (a = b))) := by
  have := eq_gs a b
  unfold pEq pNe at *
  cases h : pEqB (.str (gs a)) (.str (gs b)) with
  | none => rw [h] at this; cases this
  | some k => rw [h] at this; simp at this ⊢; exact this
theorem k14_flip (ns : List Int) (w t : List Bool) (j n : Nat) (x5 x6 x8 x9 : Option SV) (h : ns.length ≤ 63) (hn : n ≤ 10000) (ht : t.length ≤ 40) (D3 : PyData) :
    ∃ t1 n1 y8, t1.length ≤ 40 ∧ n1 ≤ n + 1 ∧ (sI (lq_law_k14_1) (sQ (sV 8 (eCall dn_law_draw (aO 0 (aO 1 (aD (eCB pLen (aD (eV 7) (aN))) (aN)))))) (sV 7 (eBin pAdd (eBin pAdd (eSl (eV 7) none (some (eV 8))) (eIf (eBin pEq (eBin pIx (eV 7) (eV 8)) (eC (.str "h"))) (eC (.str "r")) (eC (.str "h")))) (eSl (eV 7) (some (eBin pAdd (eV 8) (eC (.int 1)))) none)))) (sN)) [some (.s ns), some (.o 0), some (.d (.str (hs w))), some (.d D3), some (.d (.int (j : Int))), x5, x6, some (.d (.str (gs t))), x8, x9] [tw n] =
      some (.nx, [some (.s ns), some (.o 0), some (.d (.str (hs w))), some (.d D3), some (.d (.int (j : Int))), x5, x6, some (.d (.str (gs t1))), y8, x9], [tw n1]) := by
  have s1 : ∀ n m, ([tw n] : SE).set 0 (tw m) = [tw m] := fun _ _ => rfl
  have md : pMod (.int (j : Int)) (.int 2) = some (.int ((j : Int) % 2)) := r_mod (by decide)
  have q1 : pEq (.int ((j : Int) % 2)) (.int 1) = some (.bool (decide ((j : Int) % 2 = 1))) := r_eqI
  have ne := ne_gs t []
  rw [gs_e] at ne
  by_cases hc : (decide ((j : Int) % 2 = 1) && !decide (t = [])) = true
  · rw [Bool.and_eq_true] at hc
    rw [hc.1] at q1
    rw [hc.2] at ne
    have ht0 : 0 < t.length := by
      cases t with
      | nil => simp at hc
      | cons a t => simp
    obtain ⟨r, r0, r1, e1⟩ := draw_ok ns 0 n (t.length : Int) [tw n] rfl (by omega) h (by omega)
    rw [s1] at e1
    obtain ⟨k, rfl⟩ : ∃ k : Nat, r = (k : Int) := ⟨r.toNat, by omega⟩
    have hk : k < t.length := by omega
    have lt := len_gs t (by omega)
    have ix := ix_gs t k t[k] (by omega) (List.getElem?_eq_getElem hk)
    have qh := sg_eqh t[k]
    have sl1 := sl_gs0 t k (by omega)
    have sl2 := sl_gsd t (k + 1) (by omega)
    rw [show ((k + 1 : Nat) : Int) = (k : Int) + 1 by omega] at sl2
    have a1 := addG (t.take k) [!t[k]] (by rw [List.length_take]; simp; omega)
    have a2 := addG (t.take k ++ [!t[k]]) (t.drop (k + 1)) (by rw [List.length_append, List.length_take, List.length_drop]; simp; omega)
    have hl1 : (t.take k ++ [!t[k]] ++ t.drop (k + 1)).length ≤ 40 := by rw [List.length_append, List.length_append, List.length_take, List.length_drop]; simp; omega
    refine ⟨t.take k ++ [!t[k]] ++ t.drop (k + 1), n + 1, some (.d (.int (k : Int))), hl1, by omega, ?_⟩
    have lr : (.str "r" : PyData) = .str (gs [false]) := by rw [sg_r, sg_gs]
    have lh : (.str "h" : PyData) = .str (gs [true]) := by rw [sg_h, sg_gs]
    have ei : ∀ dl (st : SE), eIf (eC (.bool t[k])) (eC (.str "r")) (eC (.str "h")) dl st = some (.ok (.str (gs [!t[k]])), st) := fun dl st => by
      cases t[k]
      · rw [lh]; rfl
      · rw [lr]; rfl
    clear hc hl1
    generalize t[k] = b at *
    generalize gs (t.take k ++ [!b] ++ t.drop (k + 1)) = G3 at *
    generalize gs (t.take k ++ [!b]) = G2 at *
    generalize gs (t.take k) = G1 at *
    generalize gs (t.drop (k + 1)) = G4 at *
    generalize gs t = G at *
    unfold lq_law_k14_1
    cases b with
    | false =>
      rw [show gs [!false] = "h" from (PyData.str.inj lh).symm] at a1
      clear ei lr lh
      walk_at "evs"
    | true =>
      rw [show gs [!true] = "r" from (PyData.str.inj lr).symm] at a1
      clear ei lr lh
      walk_at "evs"
  · refine ⟨t, n, x8, ht, by omega, ?_⟩
    unfold lq_law_k14_1
    cases d1 : decide ((j : Int) % 2 = 1) with
    | false =>
      rw [d1] at q1
      clear hc
      generalize gs t = G at *
      walk_at "evs"
    | true =>
      rw [d1] at q1
      have d2 : (!decide (t = [])) = false := by
        rw [d1, Bool.true_and] at hc
        simpa using hc
      rw [d2] at ne
      clear hc d2
      generalize gs t = G at *
      walk_at "evs"
theorem k14_text (ns : List Int) (w t : List Bool) (n : Nat) (x4 x5 x6 x8 x9 : Option SV) (h : ns.length ≤ 63) (hn : n ≤ 10000) (ht : t.length ≤ 40) (hw : w.length ≤ 7) :
    ∃ t1 n1 y9, n1 ≤ n + 1 ∧ lr_law_k14_2 [some (.s ns), some (.o 0), some (.d (.str (hs w))), some (.d (.str (gs (rowL w.reverse)))), x4, x5, x6, some (.d (.str (gs t))), x8, x9] [tw n] =
      some (.nx, [some (.s ns), some (.o 0), some (.d (.str (hs w))), some (.d (.str (gs (rowL w.reverse)))), x4, x5, x6, some (.d (.str (gs t1))), x8, y9], [tw n1]) := by
  have s1 : ∀ n m, ([tw n] : SE).set 0 (tw m) = [tw m] := fun _ _ => rfl
  have z := eq_gs t []
  rw [gs_e] at z
  by_cases hc : t = []
  · rw [decide_eq_true hc] at z
    obtain ⟨x, hx, e1⟩ := pick_ok ns 0 n [.str "h", .str "r", .str "hr", .str "hhr", .str "rhr"] [tw n] rfl (by omega) h (by decide)
    rw [s1] at e1
    obtain ⟨t1, rfl, ht1, ht2⟩ : ∃ t1, x = .str (gs t1) ∧ 1 ≤ t1.length ∧ t1.length ≤ 40 := by
      simp only [List.mem_cons, List.not_mem_nil, or_false] at hx
      rcases hx with rfl | rfl | rfl | rfl | rfl
      · exact ⟨[true], by rw [show ("h" : Str) = gs [true] from lit_ (by decide +kernel)], by simp, by simp⟩
      · exact ⟨[false], by rw [show ("r" : Str) = gs [false] from lit_ (by decide +kernel)], by simp, by simp⟩
      · exact ⟨[true, false], by rw [show ("hr" : Str) = gs [true, false] from lit_ (by decide +kernel)], by simp, by simp⟩
      · exact ⟨[true, true, false], by rw [show ("hhr" : Str) = gs [true, true, false] from lit_ (by decide +kernel)], by simp, by simp⟩
      · exact ⟨[false, true, false], by rw [show ("rhr" : Str) = gs [false, true, false] from lit_ (by decide +kernel)], by simp, by simp⟩
    obtain ⟨y9, el⟩ := k14_look w t1 (some (.s ns)) (some (.o 0)) x4 x5 x6 x8 x9 [tw (n + 1)] hw ht1 ht2
    refine ⟨t1, n + 1, y9, by omega, ?_⟩
    unfold lr_law_k14_2
    clear hx hc
    generalize gs (rowL w.reverse) = RR at *
    generalize gs t = G at *
    generalize gs t1 = G1 at *
    walk_at "evs"
  · rw [decide_eq_false hc] at z
    have h1 : 1 ≤ t.length := by
      cases t with
      | nil => exact absurd rfl hc
      | cons a t => simp
    obtain ⟨y9, el⟩ := k14_look w t (some (.s ns)) (some (.o 0)) x4 x5 x6 x8 x9 [tw n] hw h1 ht
    refine ⟨t, n, y9, by omega, ?_⟩
    unfold lr_law_k14_2
    clear hc
    generalize gs (rowL w.reverse) = RR at *
    generalize gs t = G at *
    walk_at "evs"
theorem k14_turn (ns : List Int) (w : List Bool) (j n : Nat) (x5 x6 x7 x8 x9 : Option SV) (h : ns.length ≤ 63) (hn : n ≤ 9000) (hw : w.length ≤ 7) :
    ∃ n1 y5 y6 y7 y8 y9, n1 ≤ n + 10 ∧ lb_law_k14_1 [some (.s ns), some (.o 0), some (.d (.str (hs w))), some (.d (.str (gs (rowL w.reverse)))), some (.d (.int (j : Int))), x5, x6, x7, x8, x9] [tw n] =
      some (.nx, [some (.s ns), some (.o 0), some (.d (.str (hs w))), some (.d (.str (gs (rowL w.reverse)))), some (.d (.int (j : Int))), y5, y6, y7, y8, y9], [tw n1]) := by
  have s1 : ∀ n m, ([tw n] : SE).set 0 (tw m) = [tw m] := fun _ _ => rfl
  have hle : 2 ^ w.length ≤ 2 ^ 7 := Nat.pow_le_pow_right (by decide) hw
  have hR : (rowL w.reverse).length ≤ 127 := by rw [rowL_len, List.length_reverse]; omega
  have lR := len_gs (rowL w.reverse) (by omega)
  obtain ⟨r, r0, r1, e1⟩ := draw_ok ns 0 n (((rowL w.reverse).length : Int) + 1) [tw n] rfl (by omega) h (by omega)
  rw [s1] at e1
  obtain ⟨a, rfl⟩ : ∃ a : Nat, r = (a : Int) := ⟨r.toNat, by omega⟩
  obtain ⟨x, hx, e2⟩ := pick_ok ns 0 (n + 1) [.int 3, .int 6, .int 40] [tw (n + 1)] rfl (by omega) h (by decide)
  rw [s1] at e2
  obtain ⟨m, rfl, hm0, hm⟩ : ∃ m : Nat, x = .int (m : Int) ∧ 0 < m ∧ m ≤ 40 := by
    simp only [List.mem_cons, List.not_mem_nil, or_false] at hx
    rcases hx with rfl | rfl | rfl
    · exact ⟨3, rfl, by decide, by decide⟩
    · exact ⟨6, rfl, by decide, by decide⟩
    · exact ⟨40, rfl, by decide, by decide⟩
  obtain ⟨d, d0, d1, e3⟩ := draw_ok ns 0 (n + 1 + 1) (m : Int) [tw (n + 1 + 1)] rfl (by omega) h (by omega)
  rw [s1] at e3
  obtain ⟨k, rfl⟩ : ∃ k : Nat, d = (k : Int) := ⟨d.toNat, by omega⟩
  have sl := sl_gs (rowL w.reverse) a (a + (1 + k)) (by omega)
  rw [show ((a + (1 + k) : Nat) : Int) = (a : Int) + (1 + (k : Int)) by omega] at sl
  have hl : (((rowL w.reverse).drop a).take (a + (1 + k) - a)).length ≤ 40 := by rw [List.length_take]; omega
  generalize ((rowL w.reverse).drop a).take (a + (1 + k) - a) = t at *
  obtain ⟨t1, n4, y8, ht1, hn4, e4⟩ := k14_flip ns w t j (n + 1 + 1 + 1) (some (.d (.int (a : Int)))) (some (.d (.int (1 + (k : Int))))) x8 x9 h (by omega) hl (.str (gs (rowL w.reverse)))
  obtain ⟨t2, n5, y9, hn5, e5⟩ := k14_text ns w t1 n4 (some (.d (.int (j : Int)))) (some (.d (.int (a : Int)))) (some (.d (.int (1 + (k : Int))))) y8 x9 h (by omega) ht1 hw
  refine ⟨n5, some (.d (.int (a : Int))), some (.d (.int (1 + (k : Int)))), some (.d (.str (gs t2))), y8, y9, by omega, ?_⟩
  unfold lb_law_k14_1 lr_law_k14_5 lr_law_k14_4 lr_law_k14_3
  clear hx hl ht1 hR hle r0 r1 d0 d1
  generalize (sI (lq_law_k14_1) (sQ (sV 8 (eCall dn_law_draw (aO 0 (aO 1 (aD (eCB pLen (aD (eV 7) (aN))) (aN)))))) (sV 7 (eBin pAdd (eBin pAdd (eSl (eV 7) none (some (eV 8))) (eIf (eBin pEq (eBin pIx (eV 7) (eV 8)) (eC (.str "h"))) (eC (.str "r")) (eC (.str "h")))) (eSl (eV 7) (some (eBin pAdd (eV 8) (eC (.int 1)))) none)))) (sN)) = SF1 at *
  generalize (rowL w.reverse).length = RL at *
  generalize gs (rowL w.reverse) = RR at *
  generalize gs t = G at *
  generalize gs t1 = G1 at *
  generalize gs t2 = G2 at *
  walk_at "evs"
theorem law_k14 (ns : List Int) (h : ns.length ≤ 63) (hb : ∀ z ∈ ns, Builtin.Int.intBits z ≤ 1048576) : ∃ st', dn_law_k14 [.s ns] [] = some (.ok (.bool true), st') := by
  have s1 : ∀ n m, ([tw n] : SE).set 0 (tw m) = [tw m] := fun _ _ => rfl
  obtain ⟨w, n1, hw, hn1, e1⟩ := halvings_ok ns 0 0 7 [tw 0] rfl (by decide) h (by decide)
  rw [s1, show ((7 : Nat) : Int) = 7 from rfl] at e1
  have e2 := lawrow_ok w [tw n1] (by omega)
  have i5 : inLine 5 = true := by decide
  obtain ⟨dl, st, e3, ⟨n4, x4, x5, x6, x7, x8, x9, hn4, rfl, rfl⟩⟩ := forGo_inv (bd := bN 4) (body := lb_law_k14_1) (fun i dl s => ∃ n' x4 x5 x6 x7 x8 x9, n' ≤ n1 + 10 * i ∧ s = [tw n'] ∧ dl = [some (.s ns), some (.o 0), some (.d (.str (hs w))), some (.d (.str (gs (rowL w.reverse)))), x4, x5, x6, x7, x8, x9])
    (rangeL 0 5) 0 [some (.s ns), some (.o 0), some (.d (.str (hs w))), some (.d (.str (gs (rowL w.reverse)))), none, none, none, none, none, none] [tw n1] ⟨n1, _, _, _, _, _, _, by omega, rfl, rfl⟩ (fun j y dl s ej hI => by
      obtain ⟨n3, x4, x5, x6, x7, x8, x9, hn3, rfl, rfl⟩ := hI
      obtain ⟨rfl, hj⟩ := rangeL_get ej
      have hj' : j < 5 := by simpa using hj
      obtain ⟨n5, y5, y6, y7, y8, y9, hn5, e⟩ := k14_turn ns w j n3 x5 x6 x7 x8 x9 h (by omega) hw
      rw [Int.zero_add]
      exact ⟨_, _, _, rfl, e, n5, _, _, _, _, _, _, by omega, rfl, rfl⟩)
  have nw : sNw 1 aN [some (.s ns), none, none, none, none, none, none, none, none, none] [] = some (.nx, [some (.s ns), some (.o 0), none, none, none, none, none, none, none, none], [tw 0]) := rfl
  refine ⟨[], ?_⟩
  unfold dn_law_k14 sf_law_k14 lr_law_k14_8 lr_law_k14_7 lr_law_k14_6
  clear hn4
  generalize gs (rowL w.reverse) = RR at *
  walk_at "evs"
  rfl
end DL
namespace W_k14
open PySem PySem.Spec PyProof.Rows L2 DL
def topS (i : Nat) : Stmt := PySem.Challenge.pw_halvefolds_k14_whole_first_place.main.body.getD i (.Pass ⟨0, 0, 0, 0⟩)
structure Tp (mg : Str → Option Value) (K : PySem.W.Frag) : Prop where
  b_all : mg "all" = none
  b_isinstance : mg "isinstance" = none
  b_len : mg "len" = none
  b_min : mg "min" = none
  b_range : mg "range" = none
  b_str : mg "str" = none
  b_zip : mg "zip" = none
  c_MOST : ∃ t, mg "MOST" = some (.int 60 t)
  x_NoHalvings : XcF K mg "NoHalvings"
  x_NoRow : XcF K mg "NoRow"
  unit : True
section
variable {P : Program} {w : World} {K : PySem.W.Frag} {mg : Str → Option Value} {base : Heap} {Cs : CsN} {Hv Pl : Addr}
theorem sc_law_cell_at : FnScope ["script", "k", "rest", "turn"] ["script", "k"] (defScope (topS 19)) := ⟨rfl, rfl, rfl, by decide +kernel, rfl, by decide +kernel, by decide +kernel⟩
theorem ok_law_cell_at (T : Tp mg K) {f : Addr} {fd : FuncData} (F : Fun K "_law_cell_at" "_law_cell_at" (topS 19) f fd) (hm : mg "_law_cell_at" = some (.ref f)) (hb : Binds K fd ["script", "k"] [])  :
    FnD P w K mg base 1 "_law_cell_at" dn_law_cell_at :=
  fnD_of (k := 0) F sc_law_cell_at hm hb fun cdv A outer s H E cs tk => by
    have c := cs.toCxe
    unfold sf_law_cell_at
    unfold lb_law_cell_at_1
    exact jss_cons (js_if (jt_cmp od_lt (xe_var (i := 1)) (je_lenO (i := 0) T.b_len)) (jss_one (js_ret (je_ixS (i := 0) (xe_var (i := 1))))) (jss_nil)) (jss_cons (js_if (jt_nilS (i := 0) c.hr) (jss_one (js_ret (xe_int))) (jss_nil)) (jss_cons (js_set (i := 2) c.nd (je_ixS (i := 0) (xe_bin od_mod (xe_var (i := 1)) (je_lenO (i := 0) T.b_len)))) (jss_cons (js_for cs (ji_range1 T.b_range (ja_cons (je_callB (cd_min2 c.calm) T.b_min (ja_cons (xe_bin od_fdv (xe_var (i := 1)) (je_lenO (i := 0) T.b_len)) (ja_cons (xe_int) (ja_nil)))) (ja_nil))) (jg_name (i := 3) c.nd) (jss_one (js_set (i := 2) c.nd (xe_bin od_fdv (xe_var (i := 2)) (xe_int))))) (jss_one (js_ret (xe_bin od_add (xe_bin od_add (xe_bin od_mul (je_ixS (i := 0) (xe_bin od_mod (xe_var (i := 1)) (je_lenO (i := 0) T.b_len))) (xe_int)) (xe_var (i := 1))) (xe_bin od_mul (xe_var (i := 2)) (xe_int))))))))
theorem sc_law_mixed : FnScope ["script", "k", "bound", "drawn"] ["script", "k", "bound"] (defScope (topS 20)) := ⟨rfl, rfl, rfl, by decide +kernel, rfl, by decide +kernel, by decide +kernel⟩
theorem ok_law_mixed (T : Tp mg K) {f : Addr} {fd : FuncData} (F : Fun K "_law_mixed" "_law_mixed" (topS 20) f fd) (hm : mg "_law_mixed" = some (.ref f)) (hb : Binds K fd ["script", "k", "bound"] []) (G_law_cell_at : FnD P w K mg base 1 "_law_cell_at" dn_law_cell_at) :
    FnD P w K mg base 2 "_law_mixed" dn_law_mixed :=
  fnD_of (k := 1) F sc_law_mixed hm hb fun cdv A outer s H E cs tk => by
    have c := cs.toCxe
    unfold sf_law_mixed
    exact jss_cons (js_set (i := 3) c.nd (xe_bin od_mod (xe_bin od_add (xe_bin od_add (xe_bin od_mul (je_call G_law_cell_at c (by decide) (ja_ref (i := 0) (ja_cons (xe_var (i := 1)) (ja_nil)))) (xe_int)) (xe_bin od_mul (xe_int) (xe_var (i := 1)))) (xe_int)) (xe_int))) (jss_one (js_ret (xe_bin od_mod (xe_bin od_mod (xe_bin od_mod (xe_bin od_pow (xe_var (i := 3)) (xe_int)) (xe_int)) (xe_int)) (xe_var (i := 2)))))
theorem sc_law_draw : FnScope ["script", "town", "bound"] ["script", "town", "bound"] (defScope (topS 21)) := ⟨rfl, rfl, rfl, by decide +kernel, rfl, by decide +kernel, by decide +kernel⟩
theorem ok_law_draw (T : Tp mg K) {f : Addr} {fd : FuncData} (F : Fun K "_law_draw" "_law_draw" (topS 21) f fd) (hm : mg "_law_draw" = some (.ref f)) (hb : Binds K fd ["script", "town", "bound"] []) (G_law_mixed : FnD P w K mg base 2 "_law_mixed" dn_law_mixed) :
    FnD P w K mg base 3 "_law_draw" dn_law_draw :=
  fnD_of (k := 2) F sc_law_draw hm hb fun cdv A outer s H E cs tk => by
    have c := cs.toCxe
    unfold sf_law_draw
    exact jss_cons (js_app (i := 1) (xe_int)) (jss_one (js_ret (je_call G_law_mixed c (by decide) (ja_ref (i := 0) (ja_cons (je_lenO (i := 1) T.b_len) (ja_cons (xe_var (i := 2)) (ja_nil)))))))
theorem sc_law_letters : FnScope ["script", "town", "bound", "made", "bits", "turn"] ["script", "town", "bound"] (defScope (topS 23)) := ⟨rfl, rfl, rfl, by decide +kernel, rfl, by decide +kernel, by decide +kernel⟩
theorem ok_law_letters (T : Tp mg K) {f : Addr} {fd : FuncData} (F : Fun K "_law_letters" "_law_letters" (topS 23) f fd) (hm : mg "_law_letters" = some (.ref f)) (hb : Binds K fd ["script", "town", "bound"] []) (G_law_draw : FnD P w K mg base 3 "_law_draw" dn_law_draw) :
    FnD P w K mg base 4 "_law_letters" dn_law_letters :=
  fnD_of (k := 3) F sc_law_letters hm hb fun cdv A outer s H E cs tk => by
    have c := cs.toCxe
    unfold sf_law_letters
    unfold lb_law_letters_2
    unfold lw_law_letters_1
    unfold lb_law_letters_1
    exact jss_cons (js_set (i := 3) c.nd (xe_str)) (jss_cons (js_while 10000 cs (jt_cmp od_lt (je_callB cd_len T.b_len (ja_cons (xe_var (i := 3)) (ja_nil))) (xe_var (i := 2))) (jss_cons (js_set (i := 4) c.nd (je_call G_law_draw c (by decide) (ja_ref (i := 0) (ja_ref (i := 1) (ja_cons (xe_int) (ja_nil)))))) (jss_one (js_for cs (ji_range1 T.b_range (ja_cons (xe_int) (ja_nil))) (jg_name (i := 5) c.nd) (jss_one (js_par2 (i := 3) (j := 4) c.calm c.nd (ja_cons (xe_bin od_add (xe_var (i := 3)) (je_ix (xe_str) (xe_bin od_mod (xe_var (i := 4)) (xe_int)))) (ja_cons (xe_bin od_fdv (xe_var (i := 4)) (xe_int)) (ja_nil))))))))) (jss_one (js_ret (je_slice (xe_var (i := 3)) .none (.some (xe_var (i := 2)))))))
theorem sc_law_halvings : FnScope ["script", "town", "most"] ["script", "town", "most"] (defScope (topS 24)) := ⟨rfl, rfl, rfl, by decide +kernel, rfl, by decide +kernel, by decide +kernel⟩
theorem ok_law_halvings (T : Tp mg K) {f : Addr} {fd : FuncData} (F : Fun K "_law_halvings" "_law_halvings" (topS 24) f fd) (hm : mg "_law_halvings" = some (.ref f)) (hb : Binds K fd ["script", "town", "most"] []) (G_law_letters : FnD P w K mg base 4 "_law_letters" dn_law_letters) (G_law_draw : FnD P w K mg base 3 "_law_draw" dn_law_draw) :
    FnD P w K mg base 5 "_law_halvings" dn_law_halvings :=
  fnD_of (k := 4) F sc_law_halvings hm hb fun cdv A outer s H E cs tk => by
    have c := cs.toCxe
    unfold sf_law_halvings
    exact jss_one (js_ret (je_call G_law_letters c (by decide) (ja_ref (i := 0) (ja_ref (i := 1) (ja_cons (je_call G_law_draw c (by decide) (ja_ref (i := 0) (ja_ref (i := 1) (ja_cons (xe_bin od_add (xe_var (i := 2)) (xe_int)) (ja_nil))))) (ja_nil))))))
theorem sc_law_row : FnScope ["halvings", "made", "letter", "back", "sign"] ["halvings"] (defScope (topS 25)) := ⟨rfl, rfl, rfl, by decide +kernel, rfl, by decide +kernel, by decide +kernel⟩
theorem ok_law_row (T : Tp mg K) {f : Addr} {fd : FuncData} (F : Fun K "_law_row" "_law_row" (topS 25) f fd) (hm : mg "_law_row" = some (.ref f)) (hb : Binds K fd ["halvings"] [])  :
    FnD P w K mg base 1 "_law_row" dn_law_row :=
  fnD_of (k := 0) F sc_law_row hm hb fun cdv A outer s H E cs tk => by
    have c := cs.toCxe
    unfold sf_law_row
    unfold lb_law_row_1
    unfold le_law_row_1
    exact jss_cons (js_set (i := 1) c.nd (xe_str)) (jss_cons (js_for cs (ji_any (je_rev (xe_var (i := 0)))) (jg_name (i := 2) c.nd) (jss_cons (js_set (i := 3) c.nd (je_join (xe_str) (ja_cons (je_lc (own := [("sign", 4)]) c (ji_any (je_rev (xe_var (i := 1)))) (by show blkC ["halvings", "made", "letter", "back", "sign"] (defScope (topS 25)) _ _ = true; decide +kernel) (fun _ _ _ _ _ => jg_name (i := 4) c.nd) (fun _ _ _ _ _ c => jts_nil) (fun _ _ _ _ _ c => je_if (jt_cmp (od_eq c.hr) (xe_var (i := 4)) (xe_str)) (xe_str) (xe_str))) (ja_nil)))) (jss_one (js_set (i := 1) c.nd (xe_bin od_add (xe_bin od_add (xe_var (i := 1)) (je_if (jt_cmp (od_eq c.hr) (xe_var (i := 2)) (xe_str)) (xe_str) (xe_str))) (xe_var (i := 3))))))) (jss_one (js_ret (xe_var (i := 1)))))
theorem sc_law_pick : FnScope ["script", "town", "some"] ["script", "town", "some"] (defScope (topS 22)) := ⟨rfl, rfl, rfl, by decide +kernel, rfl, by decide +kernel, by decide +kernel⟩
theorem ok_law_pick (T : Tp mg K) {f : Addr} {fd : FuncData} (F : Fun K "_law_pick" "_law_pick" (topS 22) f fd) (hm : mg "_law_pick" = some (.ref f)) (hb : Binds K fd ["script", "town", "some"] []) (G_law_draw : FnD P w K mg base 3 "_law_draw" dn_law_draw) :
    FnD P w K mg base 4 "_law_pick" dn_law_pick :=
  fnD_of (k := 3) F sc_law_pick hm hb fun cdv A outer s H E cs tk => by
    have c := cs.toCxe
    unfold sf_law_pick
    exact jss_one (js_ret (je_ix (xe_var (i := 2)) (je_call G_law_draw c (by decide) (ja_ref (i := 0) (ja_ref (i := 1) (ja_cons (je_callB cd_len T.b_len (ja_cons (xe_var (i := 2)) (ja_nil))) (ja_nil)))))))
theorem sc_is_letters : FnScope ["thing", "low", "high", "letter"] ["thing", "low", "high"] (defScope (topS 6)) := ⟨rfl, rfl, rfl, by decide +kernel, rfl, by decide +kernel, by decide +kernel⟩
theorem ok_is_letters (T : Tp mg K) {f : Addr} {fd : FuncData} (F : Fun K "is_letters" "is_letters" (topS 6) f fd) (hm : mg "is_letters" = some (.ref f)) (hb : Binds K fd ["thing", "low", "high"] [])  :
    FnD P w K mg base 1 "is_letters" dn_is_letters :=
  fnD_of (k := 0) F sc_is_letters hm hb fun cdv A outer s H E cs tk => by
    have c := cs.toCxe
    unfold sf_is_letters
    unfold le_is_letters_1
    exact jss_cons (js_if (jt_w (jw_or (jt_not (jt_val (je_isi T.b_isinstance T.b_str (xe_var (i := 0)) (by decide +kernel)))) (jw_or1 (jt_not (jt_chain od_le od_le (xe_var (i := 1)) (je_callB cd_len T.b_len (ja_cons (xe_var (i := 0)) (ja_nil))) (xe_var (i := 2))))))) (jss_one (js_ret (xe_bl))) (jss_nil)) (jss_one (js_ret (je_callB (cd_all c.calm) T.b_all (ja_cons (je_lc (own := [("letter", 3)]) c (ji_any (xe_var (i := 0))) (by show blkC ["thing", "low", "high", "letter"] (defScope (topS 6)) _ _ = true; decide +kernel) (fun _ _ _ _ _ => jg_name (i := 3) c.nd) (fun _ _ _ _ _ c => jts_nil) (fun _ _ _ _ _ c => xe_cmp od_in (xe_var (i := 3)) (xe_str))) (ja_nil)))))
theorem sc_is_halvings : FnScope ["thing"] ["thing"] (defScope (topS 7)) := ⟨rfl, rfl, rfl, by decide +kernel, rfl, by decide +kernel, by decide +kernel⟩
theorem ok_is_halvings (T : Tp mg K) {f : Addr} {fd : FuncData} (F : Fun K "is_halvings" "is_halvings" (topS 7) f fd) (hm : mg "is_halvings" = some (.ref f)) (hb : Binds K fd ["thing"] []) (G_is_letters : FnD P w K mg base 1 "is_letters" dn_is_letters) :
    FnD P w K mg base 2 "is_halvings" dn_is_halvings :=
  fnD_of (k := 1) F sc_is_halvings hm hb fun cdv A outer s H E cs tk => by
    have c := cs.toCxe
    unfold sf_is_halvings
    exact jss_one (js_ret (je_call G_is_letters c (by decide) (ja_cons (xe_var (i := 0)) (ja_cons (xe_int) (ja_cons (xe_globI T.c_MOST) (ja_nil))))))
theorem sc_need_halvings : FnScope ["thing"] ["thing"] (defScope (topS 8)) := ⟨rfl, rfl, rfl, by decide +kernel, rfl, by decide +kernel, by decide +kernel⟩
theorem ok_need_halvings (T : Tp mg K) {f : Addr} {fd : FuncData} (F : Fun K "need_halvings" "need_halvings" (topS 8) f fd) (hm : mg "need_halvings" = some (.ref f)) (hb : Binds K fd ["thing"] []) (G_is_halvings : FnD P w K mg base 2 "is_halvings" dn_is_halvings) :
    FnD P w K mg base 3 "need_halvings" dn_need_halvings :=
  fnD_of (k := 2) F sc_need_halvings hm hb fun cdv A outer s H E cs tk => by
    have c := cs.toCxe
    unfold sf_need_halvings
    exact jss_one (js_if (jt_not (jt_val (je_call G_is_halvings c (by decide) (ja_cons (xe_var (i := 0)) (ja_nil))))) (jss_one (js_rz cs tk T.x_NoHalvings)) (jss_nil))
theorem sc_goes_to_and_fro : FnScope ["text", "one", "other"] ["text"] (defScope (topS 13)) := ⟨rfl, rfl, rfl, by decide +kernel, rfl, by decide +kernel, by decide +kernel⟩
theorem ok_goes_to_and_fro (T : Tp mg K) {f : Addr} {fd : FuncData} (F : Fun K "goes_to_and_fro" "goes_to_and_fro" (topS 13) f fd) (hm : mg "goes_to_and_fro" = some (.ref f)) (hb : Binds K fd ["text"] [])  :
    FnD P w K mg base 1 "goes_to_and_fro" dn_goes_to_and_fro :=
  fnD_of (k := 0) F sc_goes_to_and_fro hm hb fun cdv A outer s H E cs tk => by
    have c := cs.toCxe
    unfold sf_goes_to_and_fro
    unfold le_goes_to_and_fro_1
    exact jss_one (js_ret (je_callB (cd_all c.calm) T.b_all (ja_cons (je_lc (own := [("one", 1), ("other", 2)]) c (ji_zipS T.b_zip (ja_cons (xe_var (i := 0)) (ja_cons (je_slice (xe_var (i := 0)) (.some (xe_int)) .none) (ja_nil)))) (by show blkC ["text", "one", "other"] (defScope (topS 13)) _ _ = true; decide +kernel) (fun _ _ _ _ _ => jg_tup c.calm (jgs_cons (jg_name (i := 1) c.nd) (jgs_cons (jg_name (i := 2) c.nd) (jgs_nil))) (bs_lenS (bs_lenS bs_len0))) (fun _ _ _ _ _ c => jts_nil) (fun _ _ _ _ _ c => xe_cmp (od_ne c.hr) (xe_var (i := 1)) (xe_var (i := 2)))) (ja_nil))))
theorem sc_sign_of : FnScope ["letter", "odd"] ["letter", "odd"] (defScope (topS 10)) := ⟨rfl, rfl, rfl, by decide +kernel, rfl, by decide +kernel, by decide +kernel⟩
theorem ok_sign_of (T : Tp mg K) {f : Addr} {fd : FuncData} (F : Fun K "sign_of" "sign_of" (topS 10) f fd) (hm : mg "sign_of" = some (.ref f)) (hb : Binds K fd ["letter", "odd"] [])  :
    FnD P w K mg base 1 "sign_of" dn_sign_of :=
  fnD_of (k := 0) F sc_sign_of hm hb fun cdv A outer s H E cs tk => by
    have c := cs.toCxe
    unfold sf_sign_of
    exact jss_one (js_ret (je_if (jt_cmp (od_eq c.hr) (xe_cmp (od_eq c.hr) (xe_var (i := 0)) (xe_str)) (xe_cmp (od_eq c.hr) (xe_bin od_mod (xe_var (i := 1)) (xe_int)) (xe_int))) (xe_str) (xe_str)))
theorem sc_long_of : FnScope ["halvings"] ["halvings"] (defScope (topS 9)) := ⟨rfl, rfl, rfl, by decide +kernel, rfl, by decide +kernel, by decide +kernel⟩
theorem ok_long_of (T : Tp mg K) {f : Addr} {fd : FuncData} (F : Fun K "long_of" "long_of" (topS 9) f fd) (hm : mg "long_of" = some (.ref f)) (hb : Binds K fd ["halvings"] [])  :
    FnD P w K mg base 1 "long_of" dn_long_of :=
  fnD_of (k := 0) F sc_long_of hm hb fun cdv A outer s H E cs tk => by
    have c := cs.toCxe
    unfold sf_long_of
    exact jss_one (js_ret (xe_bin od_shl (xe_int) (je_callB cd_len T.b_len (ja_cons (xe_var (i := 0)) (ja_nil)))))
theorem sc_least_odd : FnScope ["letters", "text", "half", "found"] ["letters", "text"] (defScope (topS 14)) := ⟨rfl, rfl, rfl, by decide +kernel, rfl, by decide +kernel, by decide +kernel⟩
theorem ok_least_odd (T : Tp mg K) {f : Addr} {fd : FuncData} (F : Fun K "least_odd" "least_odd" (topS 14) f fd) (hm : mg "least_odd" = some (.ref f)) (hb : Binds K fd ["letters", "text"] []) (G_goes_to_and_fro : FnD P w K mg base 1 "goes_to_and_fro" dn_goes_to_and_fro) (G_sign_of : FnD P w K mg base 1 "sign_of" dn_sign_of) (G_long_of : FnD P w K mg base 1 "long_of" dn_long_of) (self : FF) (m : Nat) (hlv : 1 ≤ m) (G_least_place : FnD P w K mg base m "least_place" self) :
    FnD P w K mg base (m + 1) "least_odd" (dn_least_odd self) := by
    refine fnD_of (k := m) F sc_least_odd hm hb fun cdv A outer s H E cs tk => ?_
    have c := cs.toCxe
    unfold sf_least_odd
    exact jss_cons (js_if (jt_not (jt_val (je_call G_goes_to_and_fro c (by omega) (ja_cons (je_st2 (xe_var (i := 1)) .none) (ja_nil))))) (jss_one (js_ret (xe_non))) (jss_nil)) (jss_cons (js_set (i := 2) c.nd (je_if (jt_cmp (od_eq c.hr) (je_call G_sign_of c (by omega) (ja_cons (je_ix (xe_var (i := 0)) (xe_int)) (ja_cons (xe_int) (ja_nil)))) (je_ix (xe_var (i := 1)) (xe_int))) (xe_int) (xe_int))) (jss_cons (js_if (jt_cmp (od_eq c.hr) (je_callB cd_len T.b_len (ja_cons (xe_var (i := 1)) (ja_nil))) (xe_int)) (jss_one (js_ret (je_if (jt_cmp od_lt (xe_bin od_add (xe_bin od_mul (xe_int) (xe_var (i := 2))) (xe_int)) (je_call G_long_of c (by omega) (ja_cons (xe_var (i := 0)) (ja_nil)))) (xe_bin od_add (xe_bin od_mul (xe_int) (xe_var (i := 2))) (xe_int)) (xe_non)))) (jss_nil)) (jss_cons (js_set (i := 3) c.nd (je_call G_least_place c (by omega) (ja_cons (je_slice (xe_var (i := 0)) (.some (xe_int)) .none) (ja_cons (je_st2 (xe_var (i := 1)) (.some (xe_int))) (ja_cons (xe_bin od_mod (xe_bin od_add (xe_var (i := 2)) (xe_int)) (xe_int)) (ja_nil)))))) (jss_one (js_ret (je_if (jt_cmp od_is (xe_var (i := 3)) (xe_non)) (xe_non) (xe_bin od_sub (xe_bin od_mul (xe_int) (xe_var (i := 3))) (xe_int))))))))
theorem sc_least_even : FnScope ["letters", "text", "wish", "found"] ["letters", "text"] (defScope (topS 15)) := ⟨rfl, rfl, rfl, by decide +kernel, rfl, by decide +kernel, by decide +kernel⟩
theorem ok_least_even (T : Tp mg K) {f : Addr} {fd : FuncData} (F : Fun K "least_even" "least_even" (topS 15) f fd) (hm : mg "least_even" = some (.ref f)) (hb : Binds K fd ["letters", "text"] []) (G_goes_to_and_fro : FnD P w K mg base 1 "goes_to_and_fro" dn_goes_to_and_fro) (G_sign_of : FnD P w K mg base 1 "sign_of" dn_sign_of) (self : FF) (m : Nat) (hlv : 1 ≤ m) (G_least_place : FnD P w K mg base m "least_place" self) :
    FnD P w K mg base (m + 1) "least_even" (dn_least_even self) := by
    refine fnD_of (k := m) F sc_least_even hm hb fun cdv A outer s H E cs tk => ?_
    have c := cs.toCxe
    unfold sf_least_even
    exact jss_cons (js_if (jt_not (jt_val (je_call G_goes_to_and_fro c (by omega) (ja_cons (je_st2 (xe_var (i := 1)) (.some (xe_int))) (ja_nil))))) (jss_one (js_ret (xe_non))) (jss_nil)) (jss_cons (js_set (i := 2) c.nd (xe_non)) (jss_cons (js_if (jt_cmp od_gt (je_callB cd_len T.b_len (ja_cons (xe_var (i := 1)) (ja_nil))) (xe_int)) (jss_one (js_set (i := 2) c.nd (je_if (jt_cmp (od_eq c.hr) (je_call G_sign_of c (by omega) (ja_cons (je_ix (xe_var (i := 0)) (xe_int)) (ja_cons (xe_int) (ja_nil)))) (je_ix (xe_var (i := 1)) (xe_int))) (xe_int) (xe_int)))) (jss_nil)) (jss_cons (js_set (i := 3) c.nd (je_call G_least_place c (by omega) (ja_cons (je_slice (xe_var (i := 0)) (.some (xe_int)) .none) (ja_cons (je_st2 (xe_var (i := 1)) .none) (ja_cons (xe_var (i := 2)) (ja_nil)))))) (jss_one (js_ret (je_if (jt_cmp od_is (xe_var (i := 3)) (xe_non)) (xe_non) (xe_bin od_mul (xe_int) (xe_var (i := 3)))))))))
theorem sc_least_place : FnScope ["letters", "text", "wish", "some", "place"] ["letters", "text", "wish"] (defScope (topS 16)) := ⟨rfl, rfl, rfl, by decide +kernel, rfl, by decide +kernel, by decide +kernel⟩
theorem ok_least_place (T : Tp mg K) {f : Addr} {fd : FuncData} (F : Fun K "least_place" "least_place" (topS 16) f fd) (hm : mg "least_place" = some (.ref f)) (hb : Binds K fd ["letters", "text", "wish"] [])  (H_least_odd : ∀ (self : FF) (m : Nat), 1 ≤ m → FnD P w K mg base m "least_place" self → FnD P w K mg base (m + 1) "least_odd" (dn_least_odd self)) (H_least_even : ∀ (self : FF) (m : Nat), 1 ≤ m → FnD P w K mg base m "least_place" self → FnD P w K mg base (m + 1) "least_even" (dn_least_even self)) : ∀ n : Nat,
    FnD P w K mg base (1 + 2 * n) "least_place" (dn_least_place n)
  | 0 => fnD_0 hm F.kp hb
  | n + 1 => by
    have G_least_place := ok_least_place T F hm hb H_least_odd H_least_even n
    have G_least_odd := H_least_odd _ _ (by omega) G_least_place
    have G_least_even := H_least_even _ _ (by omega) G_least_place
    refine fnD_of (k := 1 + 2 * n + 1) F sc_least_place hm hb fun cdv A outer s H E cs tk => ?_
    have c := cs.toCxe
    unfold sf_least_place
    unfold lt_least_place_1
    unfold le_least_place_1
    exact jss_cons (js_if (jt_cmp (od_eq c.hr) (xe_var (i := 0)) (xe_str)) (jss_one (js_ret (xe_non))) (jss_nil)) (jss_cons (js_newL (i := 3) c.nd (ja_nil)) (jss_cons (js_if (jt_cmp (od_ne c.hr) (xe_var (i := 2)) (xe_int)) (jss_one (js_app (i := 3) (je_call G_least_odd c (by omega) (ja_cons (xe_var (i := 0)) (ja_cons (xe_var (i := 1)) (ja_nil)))))) (jss_nil)) (jss_cons (js_if (jt_cmp (od_ne c.hr) (xe_var (i := 2)) (xe_int)) (jss_one (js_app (i := 3) (je_call G_least_even c (by omega) (ja_cons (xe_var (i := 0)) (ja_cons (xe_var (i := 1)) (ja_nil)))))) (jss_nil)) (jss_fz (i := 3) (jss_cons (js_lc (i := 3) (own := [("place", 4)]) c (ji_any (xe_var (i := 3))) (by show blkC ["letters", "text", "wish", "some", "place"] (defScope (topS 16)) _ _ = true; decide +kernel) (sw_true rfl rfl rfl (by decide +kernel)) (fun _ _ _ _ _ => jg_name (i := 4) c.nd) (fun _ _ _ _ _ c => jts_one (jt_cmp od_isn (xe_var (i := 4)) (xe_non))) (fun _ _ _ _ _ c => xe_var (i := 4))) (jss_one (js_ret (je_if (jt_cmp (od_ne c.hr) (xe_var (i := 3)) (je_lst (ja_nil))) (je_callB (cd_minmax c.calm c.hr).1 T.b_min (ja_cons (xe_var (i := 3)) (ja_nil))) (xe_non)))))))))
theorem sc_is_signs : FnScope ["thing", "signs", "low", "high", "sign"] ["thing", "signs", "low", "high"] (defScope (topS 12)) := ⟨rfl, rfl, rfl, by decide +kernel, rfl, by decide +kernel, by decide +kernel⟩
theorem ok_is_signs (T : Tp mg K) {f : Addr} {fd : FuncData} (F : Fun K "is_signs" "is_signs" (topS 12) f fd) (hm : mg "is_signs" = some (.ref f)) (hb : Binds K fd ["thing", "signs", "low", "high"] [])  :
    FnD P w K mg base 1 "is_signs" dn_is_signs :=
  fnD_of (k := 0) F sc_is_signs hm hb fun cdv A outer s H E cs tk => by
    have c := cs.toCxe
    unfold sf_is_signs
    unfold le_is_signs_1
    exact jss_cons (js_if (jt_w (jw_or (jt_not (jt_val (je_isi T.b_isinstance T.b_str (xe_var (i := 0)) (by decide +kernel)))) (jw_or1 (jt_not (jt_chain od_le od_le (xe_var (i := 2)) (je_callB cd_len T.b_len (ja_cons (xe_var (i := 0)) (ja_nil))) (xe_var (i := 3))))))) (jss_one (js_ret (xe_bl))) (jss_nil)) (jss_one (js_ret (je_callB (cd_all c.calm) T.b_all (ja_cons (je_lc (own := [("sign", 4)]) c (ji_any (xe_var (i := 0))) (by show blkC ["thing", "signs", "low", "high", "sign"] (defScope (topS 12)) _ _ = true; decide +kernel) (fun _ _ _ _ _ => jg_name (i := 4) c.nd) (fun _ _ _ _ _ c => jts_nil) (fun _ _ _ _ _ c => xe_cmp od_in (xe_var (i := 4)) (xe_var (i := 1)))) (ja_nil)))))
theorem sc_first_place : FnScope ["halvings", "row"] ["halvings", "row"] (defScope (topS 17)) := ⟨rfl, rfl, rfl, by decide +kernel, rfl, by decide +kernel, by decide +kernel⟩
theorem ok_first_place (T : Tp mg K) {f : Addr} {fd : FuncData} (F : Fun K "first_place" "first_place" (topS 17) f fd) (hm : mg "first_place" = some (.ref f)) (hb : Binds K fd ["halvings", "row"] []) (G_need_halvings : FnD P w K mg base 3 "need_halvings" dn_need_halvings) (G_is_signs : FnD P w K mg base 1 "is_signs" dn_is_signs) (G_least_place : FnD P w K mg base 141 "least_place" (dn_least_place 70)) :
    FnD P w K mg base 142 "first_place" dn_first_place :=
  fnD_of (k := 141) F sc_first_place hm hb fun cdv A outer s H E cs tk => by
    have c := cs.toCxe
    unfold sf_first_place
    exact jss_cons (js_expr (je_call G_need_halvings c (by decide) (ja_cons (xe_var (i := 0)) (ja_nil)))) (jss_cons (js_if (jt_not (jt_val (je_call G_is_signs c (by decide) (ja_cons (xe_var (i := 1)) (ja_cons (xe_str) (ja_cons (xe_int) (ja_cons (xe_int) (ja_nil)))))))) (jss_one (js_rz cs tk T.x_NoRow)) (jss_nil)) (jss_one (js_ret (je_call G_least_place c (by decide) (ja_cons (je_rev (xe_var (i := 0))) (ja_cons (xe_var (i := 1)) (ja_cons (xe_non) (ja_nil))))))))
theorem sc_law : FnScope ["script", "town", "halvings", "due", "turn", "at", "long", "text", "cut", "found"] ["script"] (defScope (topS 26)) := ⟨rfl, rfl, rfl, by decide +kernel, rfl, by decide +kernel, by decide +kernel⟩
theorem ok_law (T : Tp mg K) {f : Addr} {fd : FuncData} (F : Fun K "law" "law" (topS 26) f fd) (G_law_halvings : FnD P w K mg base 5 "_law_halvings" dn_law_halvings) (G_law_row : FnD P w K mg base 1 "_law_row" dn_law_row) (G_law_draw : FnD P w K mg base 3 "_law_draw" dn_law_draw) (G_law_pick : FnD P w K mg base 4 "_law_pick" dn_law_pick) (G_first_place : FnD P w K mg base 142 "first_place" dn_first_place) :
    FnOk P w K mg base (L2.CX P w) 143 f fd ["script"] (spD K mg dn_law_k14) :=
  fnOk_of (k := 142) F sc_law fun cdv A outer s H E cs tk => by
    have c := cs.toCxe
    unfold sf_law_k14
    unfold lr_law_k14_8
    unfold lr_law_k14_7
    unfold lr_law_k14_6
    unfold lb_law_k14_1
    unfold lr_law_k14_5
    unfold lr_law_k14_4
    unfold lr_law_k14_3
    unfold lr_law_k14_2
    unfold lr_law_k14_1
    unfold lq_law_k14_1
    exact jss_cons (js_newL (i := 1) c.nd (ja_nil)) (jss_cons (js_set (i := 2) c.nd (je_call G_law_halvings c (by decide) (ja_ref (i := 0) (ja_ref (i := 1) (ja_cons (xe_int) (ja_nil)))))) (jss_cons (js_set (i := 3) c.nd (je_call G_law_row c (by decide) (ja_cons (xe_var (i := 2)) (ja_nil)))) (jss_cons (js_for cs (ji_range1 T.b_range (ja_cons (xe_int) (ja_nil))) (jg_name (i := 4) c.nd) (jss_cons (js_set (i := 5) c.nd (je_call G_law_draw c (by decide) (ja_ref (i := 0) (ja_ref (i := 1) (ja_cons (xe_bin od_add (je_callB cd_len T.b_len (ja_cons (xe_var (i := 3)) (ja_nil))) (xe_int)) (ja_nil)))))) (jss_cons (js_set (i := 6) c.nd (xe_bin od_add (xe_int) (je_call G_law_draw c (by decide) (ja_ref (i := 0) (ja_ref (i := 1) (ja_cons (je_call G_law_pick c (by decide) (ja_ref (i := 0) (ja_ref (i := 1) (ja_cons (je_lst (ja_cons (xe_int) (ja_cons (xe_int) (ja_cons (xe_int) (ja_nil))))) (ja_nil))))) (ja_nil))))))) (jss_cons (js_set (i := 7) c.nd (je_slice (xe_var (i := 3)) (.some (xe_var (i := 5))) (.some (xe_bin od_add (xe_var (i := 5)) (xe_var (i := 6)))))) (jss_cons (js_if (jt_w (jw_and (jt_cmp (od_eq c.hr) (xe_bin od_mod (xe_var (i := 4)) (xe_int)) (xe_int)) (jw_and1 (jt_cmp (od_ne c.hr) (xe_var (i := 7)) (xe_str))))) (jss_cons (js_set (i := 8) c.nd (je_call G_law_draw c (by decide) (ja_ref (i := 0) (ja_ref (i := 1) (ja_cons (je_callB cd_len T.b_len (ja_cons (xe_var (i := 7)) (ja_nil))) (ja_nil)))))) (jss_one (js_set (i := 7) c.nd (xe_bin od_add (xe_bin od_add (je_slice (xe_var (i := 7)) .none (.some (xe_var (i := 8)))) (je_if (jt_cmp (od_eq c.hr) (je_ix (xe_var (i := 7)) (xe_var (i := 8))) (xe_str)) (xe_str) (xe_str))) (je_slice (xe_var (i := 7)) (.some (xe_bin od_add (xe_var (i := 8)) (xe_int))) .none))))) (jss_nil)) (jss_cons (js_if (jt_cmp (od_eq c.hr) (xe_var (i := 7)) (xe_str)) (jss_one (js_set (i := 7) c.nd (je_call G_law_pick c (by decide) (ja_ref (i := 0) (ja_ref (i := 1) (ja_cons (je_lst (ja_cons (xe_str) (ja_cons (xe_str) (ja_cons (xe_str) (ja_cons (xe_str) (ja_cons (xe_str) (ja_nil))))))) (ja_nil))))))) (jss_nil)) (jss_cons (js_set (i := 9) c.nd (je_find (xe_var (i := 3)) (ja_cons (xe_var (i := 7)) (ja_nil)))) (jss_one (js_if (jt_cmp (od_ne c.hr) (je_call G_first_place c (by decide) (ja_cons (xe_var (i := 2)) (ja_cons (xe_var (i := 7)) (ja_nil)))) (je_if (jt_cmp od_ge (xe_var (i := 9)) (xe_int)) (xe_bin od_add (xe_var (i := 9)) (xe_int)) (xe_non))) (jss_one (js_ret (xe_bl))) (jss_nil)))))))))) (jss_one (js_ret (xe_bl))))))
end
theorem all_mk {l : PySem.W.OpenLaw} {w : World} {K : PySem.W.Frag} {h : Heap} {mg : Str → Option Value} {fa : Addr} (X : K.In h) (G : h.Ns mainGlobals mg) (hfa : mg "law" = some (.ref fa))
    {f0 : Addr} {od0 an0 : Option Addr} {sl0 : Array (Option Value)} {oc0 kV0 dc0 pm0 cd0 ct0 : Value} {f1 : Addr} {od1 an1 : Option Addr} {sl1 : Array (Option Value)} {oc1 kV1 dc1 pm1 cd1 ct1 : Value} {f2 : Addr} {od2 an2 : Option Addr} {sl2 : Array (Option Value)} {oc2 kV2 dc2 pm2 cd2 ct2 : Value} {f3 : Addr} {od3 an3 : Option Addr} {sl3 : Array (Option Value)} {oc3 kV3 dc3 pm3 cd3 ct3 : Value} {f4 : Addr} {od4 an4 : Option Addr} {sl4 : Array (Option Value)} {oc4 kV4 dc4 pm4 cd4 ct4 : Value} {f5 : Addr} {od5 an5 : Option Addr} {sl5 : Array (Option Value)} {oc5 kV5 dc5 pm5 cd5 ct5 : Value} {f6 : Addr} {od6 an6 : Option Addr} {sl6 : Array (Option Value)} {oc6 kV6 dc6 pm6 cd6 ct6 : Value} {f7 : Addr} {od7 an7 : Option Addr} {sl7 : Array (Option Value)} {oc7 kV7 dc7 pm7 cd7 ct7 : Value} {f8 : Addr} {od8 an8 : Option Addr} {sl8 : Array (Option Value)} {oc8 kV8 dc8 pm8 cd8 ct8 : Value} {f9 : Addr} {od9 an9 : Option Addr} {sl9 : Array (Option Value)} {oc9 kV9 dc9 pm9 cd9 ct9 : Value} {f10 : Addr} {od10 an10 : Option Addr} {sl10 : Array (Option Value)} {oc10 kV10 dc10 pm10 cd10 ct10 : Value} {f11 : Addr} {od11 an11 : Option Addr} {sl11 : Array (Option Value)} {oc11 kV11 dc11 pm11 cd11 ct11 : Value} {f12 : Addr} {od12 an12 : Option Addr} {sl12 : Array (Option Value)} {oc12 kV12 dc12 pm12 cd12 ct12 : Value} {f13 : Addr} {od13 an13 : Option Addr} {sl13 : Array (Option Value)} {oc13 kV13 dc13 pm13 cd13 ct13 : Value} {f14 : Addr} {od14 an14 : Option Addr} {sl14 : Array (Option Value)} {oc14 kV14 dc14 pm14 cd14 ct14 : Value} {f15 : Addr} {od15 an15 : Option Addr} {sl15 : Array (Option Value)} {oc15 kV15 dc15 pm15 cd15 ct15 : Value} {f16 : Addr} {od16 an16 : Option Addr} {sl16 : Array (Option Value)} {oc16 kV16 dc16 pm16 cd16 ct16 : Value} {f17 : Addr} {od17 an17 : Option Addr} {sl17 : Array (Option Value)} {oc17 kV17 dc17 pm17 cd17 ct17 : Value} {f18 : Addr} {od18 an18 : Option Addr} {sl18 : Array (Option Value)} {oc18 kV18 dc18 pm18 cd18 ct18 : Value}
    (a0 : PySem.W.nsIn K mainGlobals "_law_cell_at" = some (some (.ref f0))) (l0 : K.lookup f0 = some ⟨oc0, od0, .func (PySem.W.fnOf "_law_cell_at" "_law_cell_at" (defArgs (topS 19)) (defBody (topS 19)) (defScope (topS 19)) .none kV0 dc0 pm0 an0 cd0 ct0), sl0⟩) (c0 : PySem.W.codeIn K cd0 "_law_cell_at" = true) (k0 : PySem.W.keepIn K (.ref f0) = true)
    (a1 : PySem.W.nsIn K mainGlobals "_law_mixed" = some (some (.ref f1))) (l1 : K.lookup f1 = some ⟨oc1, od1, .func (PySem.W.fnOf "_law_mixed" "_law_mixed" (defArgs (topS 20)) (defBody (topS 20)) (defScope (topS 20)) .none kV1 dc1 pm1 an1 cd1 ct1), sl1⟩) (c1 : PySem.W.codeIn K cd1 "_law_mixed" = true) (k1 : PySem.W.keepIn K (.ref f1) = true)
    (a2 : PySem.W.nsIn K mainGlobals "_law_draw" = some (some (.ref f2))) (l2 : K.lookup f2 = some ⟨oc2, od2, .func (PySem.W.fnOf "_law_draw" "_law_draw" (defArgs (topS 21)) (defBody (topS 21)) (defScope (topS 21)) .none kV2 dc2 pm2 an2 cd2 ct2), sl2⟩) (c2 : PySem.W.codeIn K cd2 "_law_draw" = true) (k2 : PySem.W.keepIn K (.ref f2) = true)
    (a3 : PySem.W.nsIn K mainGlobals "_law_letters" = some (some (.ref f3))) (l3 : K.lookup f3 = some ⟨oc3, od3, .func (PySem.W.fnOf "_law_letters" "_law_letters" (defArgs (topS 23)) (defBody (topS 23)) (defScope (topS 23)) .none kV3 dc3 pm3 an3 cd3 ct3), sl3⟩) (c3 : PySem.W.codeIn K cd3 "_law_letters" = true) (k3 : PySem.W.keepIn K (.ref f3) = true)
    (a4 : PySem.W.nsIn K mainGlobals "_law_halvings" = some (some (.ref f4))) (l4 : K.lookup f4 = some ⟨oc4, od4, .func (PySem.W.fnOf "_law_halvings" "_law_halvings" (defArgs (topS 24)) (defBody (topS 24)) (defScope (topS 24)) .none kV4 dc4 pm4 an4 cd4 ct4), sl4⟩) (c4 : PySem.W.codeIn K cd4 "_law_halvings" = true) (k4 : PySem.W.keepIn K (.ref f4) = true)
    (a5 : PySem.W.nsIn K mainGlobals "_law_row" = some (some (.ref f5))) (l5 : K.lookup f5 = some ⟨oc5, od5, .func (PySem.W.fnOf "_law_row" "_law_row" (defArgs (topS 25)) (defBody (topS 25)) (defScope (topS 25)) .none kV5 dc5 pm5 an5 cd5 ct5), sl5⟩) (c5 : PySem.W.codeIn K cd5 "_law_row" = true) (k5 : PySem.W.keepIn K (.ref f5) = true)
    (a6 : PySem.W.nsIn K mainGlobals "_law_pick" = some (some (.ref f6))) (l6 : K.lookup f6 = some ⟨oc6, od6, .func (PySem.W.fnOf "_law_pick" "_law_pick" (defArgs (topS 22)) (defBody (topS 22)) (defScope (topS 22)) .none kV6 dc6 pm6 an6 cd6 ct6), sl6⟩) (c6 : PySem.W.codeIn K cd6 "_law_pick" = true) (k6 : PySem.W.keepIn K (.ref f6) = true)
    (a7 : PySem.W.nsIn K mainGlobals "is_letters" = some (some (.ref f7))) (l7 : K.lookup f7 = some ⟨oc7, od7, .func (PySem.W.fnOf "is_letters" "is_letters" (defArgs (topS 6)) (defBody (topS 6)) (defScope (topS 6)) .none kV7 dc7 pm7 an7 cd7 ct7), sl7⟩) (c7 : PySem.W.codeIn K cd7 "is_letters" = true) (k7 : PySem.W.keepIn K (.ref f7) = true)
    (a8 : PySem.W.nsIn K mainGlobals "is_halvings" = some (some (.ref f8))) (l8 : K.lookup f8 = some ⟨oc8, od8, .func (PySem.W.fnOf "is_halvings" "is_halvings" (defArgs (topS 7)) (defBody (topS 7)) (defScope (topS 7)) .none kV8 dc8 pm8 an8 cd8 ct8), sl8⟩) (c8 : PySem.W.codeIn K cd8 "is_halvings" = true) (k8 : PySem.W.keepIn K (.ref f8) = true)
    (a9 : PySem.W.nsIn K mainGlobals "need_halvings" = some (some (.ref f9))) (l9 : K.lookup f9 = some ⟨oc9, od9, .func (PySem.W.fnOf "need_halvings" "need_halvings" (defArgs (topS 8)) (defBody (topS 8)) (defScope (topS 8)) .none kV9 dc9 pm9 an9 cd9 ct9), sl9⟩) (c9 : PySem.W.codeIn K cd9 "need_halvings" = true) (k9 : PySem.W.keepIn K (.ref f9) = true)
    (a10 : PySem.W.nsIn K mainGlobals "goes_to_and_fro" = some (some (.ref f10))) (l10 : K.lookup f10 = some ⟨oc10, od10, .func (PySem.W.fnOf "goes_to_and_fro" "goes_to_and_fro" (defArgs (topS 13)) (defBody (topS 13)) (defScope (topS 13)) .none kV10 dc10 pm10 an10 cd10 ct10), sl10⟩) (c10 : PySem.W.codeIn K cd10 "goes_to_and_fro" = true) (k10 : PySem.W.keepIn K (.ref f10) = true)
    (a11 : PySem.W.nsIn K mainGlobals "sign_of" = some (some (.ref f11))) (l11 : K.lookup f11 = some ⟨oc11, od11, .func (PySem.W.fnOf "sign_of" "sign_of" (defArgs (topS 10)) (defBody (topS 10)) (defScope (topS 10)) .none kV11 dc11 pm11 an11 cd11 ct11), sl11⟩) (c11 : PySem.W.codeIn K cd11 "sign_of" = true) (k11 : PySem.W.keepIn K (.ref f11) = true)
    (a12 : PySem.W.nsIn K mainGlobals "long_of" = some (some (.ref f12))) (l12 : K.lookup f12 = some ⟨oc12, od12, .func (PySem.W.fnOf "long_of" "long_of" (defArgs (topS 9)) (defBody (topS 9)) (defScope (topS 9)) .none kV12 dc12 pm12 an12 cd12 ct12), sl12⟩) (c12 : PySem.W.codeIn K cd12 "long_of" = true) (k12 : PySem.W.keepIn K (.ref f12) = true)
    (a13 : PySem.W.nsIn K mainGlobals "least_odd" = some (some (.ref f13))) (l13 : K.lookup f13 = some ⟨oc13, od13, .func (PySem.W.fnOf "least_odd" "least_odd" (defArgs (topS 14)) (defBody (topS 14)) (defScope (topS 14)) .none kV13 dc13 pm13 an13 cd13 ct13), sl13⟩) (c13 : PySem.W.codeIn K cd13 "least_odd" = true) (k13 : PySem.W.keepIn K (.ref f13) = true)
    (a14 : PySem.W.nsIn K mainGlobals "least_even" = some (some (.ref f14))) (l14 : K.lookup f14 = some ⟨oc14, od14, .func (PySem.W.fnOf "least_even" "least_even" (defArgs (topS 15)) (defBody (topS 15)) (defScope (topS 15)) .none kV14 dc14 pm14 an14 cd14 ct14), sl14⟩) (c14 : PySem.W.codeIn K cd14 "least_even" = true) (k14 : PySem.W.keepIn K (.ref f14) = true)
    (a15 : PySem.W.nsIn K mainGlobals "least_place" = some (some (.ref f15))) (l15 : K.lookup f15 = some ⟨oc15, od15, .func (PySem.W.fnOf "least_place" "least_place" (defArgs (topS 16)) (defBody (topS 16)) (defScope (topS 16)) .none kV15 dc15 pm15 an15 cd15 ct15), sl15⟩) (c15 : PySem.W.codeIn K cd15 "least_place" = true) (k15 : PySem.W.keepIn K (.ref f15) = true)
    (a16 : PySem.W.nsIn K mainGlobals "is_signs" = some (some (.ref f16))) (l16 : K.lookup f16 = some ⟨oc16, od16, .func (PySem.W.fnOf "is_signs" "is_signs" (defArgs (topS 12)) (defBody (topS 12)) (defScope (topS 12)) .none kV16 dc16 pm16 an16 cd16 ct16), sl16⟩) (c16 : PySem.W.codeIn K cd16 "is_signs" = true) (k16 : PySem.W.keepIn K (.ref f16) = true)
    (a17 : PySem.W.nsIn K mainGlobals "first_place" = some (some (.ref f17))) (l17 : K.lookup f17 = some ⟨oc17, od17, .func (PySem.W.fnOf "first_place" "first_place" (defArgs (topS 17)) (defBody (topS 17)) (defScope (topS 17)) .none kV17 dc17 pm17 an17 cd17 ct17), sl17⟩) (c17 : PySem.W.codeIn K cd17 "first_place" = true) (k17 : PySem.W.keepIn K (.ref f17) = true)
    (a18 : PySem.W.nsIn K mainGlobals "law" = some (some (.ref f18))) (l18 : K.lookup f18 = some ⟨oc18, od18, .func (PySem.W.fnOf "law" "law" (defArgs (topS 26)) (defBody (topS 26)) (defScope (topS 26)) .none kV18 dc18 pm18 an18 cd18 ct18), sl18⟩) (c18 : PySem.W.codeIn K cd18 "law" = true) (k18 : PySem.W.keepIn K (.ref f18) = true)
    {C_NoHalvings : Addr} {C_NoRow : Addr}
    (n_NoHalvings : PySem.W.nsIn K mainGlobals "NoHalvings" = some (some (.ref C_NoHalvings)))
    (n_NoRow : PySem.W.nsIn K mainGlobals "NoRow" = some (some (.ref C_NoRow)))
    (x_NoHalvings : PySem.W.excIn K C_NoHalvings PySem.HandSPX.veTail "ValueError.__new__" = true)
    (e_NoHalvings : ecB K C_NoHalvings = true)
    (x_NoRow : PySem.W.excIn K C_NoRow PySem.HandSPX.veTail "ValueError.__new__" = true)
    (e_NoRow : ecB K C_NoRow = true)
    {t_MOST : Tok} 
    (z_all : PySem.W.nsIn K mainGlobals "all" = some none)
    (z_isinstance : PySem.W.nsIn K mainGlobals "isinstance" = some none)
    (z_len : PySem.W.nsIn K mainGlobals "len" = some none)
    (z_min : PySem.W.nsIn K mainGlobals "min" = some none)
    (z_range : PySem.W.nsIn K mainGlobals "range" = some none)
    (z_str : PySem.W.nsIn K mainGlobals "str" = some none)
    (z_zip : PySem.W.nsIn K mainGlobals "zip" = some none)
    (q_MOST : PySem.W.nsIn K mainGlobals "MOST" = some (some (.int 60 t_MOST)))
    : ∃ fd : FuncData, (∀ (s : Shared) (v : Value), BindsTo s fd ⟨[v], []⟩ [("script", v)]) ∧ ∀ base : Heap, K.In base → base.Ns mainGlobals mg → FnOk l.prog w K mg base (L2.CX l.prog w) 143 fa fd ["script"] (spLaw K dn_law_k14) := by
  have e := hfa.symm.trans (PySem.W.mg_of X G a18)
  cases e
  have T : Tp mg K := ⟨PySem.W.mg_none_of X G z_all, PySem.W.mg_none_of X G z_isinstance, PySem.W.mg_none_of X G z_len, PySem.W.mg_none_of X G z_min, PySem.W.mg_none_of X G z_range, PySem.W.mg_none_of X G z_str, PySem.W.mg_none_of X G z_zip, ⟨_, PySem.W.mg_of X G q_MOST⟩, ⟨_, PySem.W.mg_of X G n_NoHalvings, x_NoHalvings, ecB_ok e_NoHalvings⟩, ⟨_, PySem.W.mg_of X G n_NoRow, x_NoRow, ecB_ok e_NoRow⟩, trivial⟩
  have F0 := fun_mk (st := topS 19) l0 c0 k0
  have b0 := F0.binds (ps := ["script", "k"]) fun _ _ _ _ _ _ us hl => match us, hl with | [_, _], _ => rfl
  have F1 := fun_mk (st := topS 20) l1 c1 k1
  have b1 := F1.binds (ps := ["script", "k", "bound"]) fun _ _ _ _ _ _ us hl => match us, hl with | [_, _, _], _ => rfl
  have F2 := fun_mk (st := topS 21) l2 c2 k2
  have b2 := F2.binds (ps := ["script", "town", "bound"]) fun _ _ _ _ _ _ us hl => match us, hl with | [_, _, _], _ => rfl
  have F3 := fun_mk (st := topS 23) l3 c3 k3
  have b3 := F3.binds (ps := ["script", "town", "bound"]) fun _ _ _ _ _ _ us hl => match us, hl with | [_, _, _], _ => rfl
  have F4 := fun_mk (st := topS 24) l4 c4 k4
  have b4 := F4.binds (ps := ["script", "town", "most"]) fun _ _ _ _ _ _ us hl => match us, hl with | [_, _, _], _ => rfl
  have F5 := fun_mk (st := topS 25) l5 c5 k5
  have b5 := F5.binds (ps := ["halvings"]) fun _ _ _ _ _ _ us hl => match us, hl with | [_], _ => rfl
  have F6 := fun_mk (st := topS 22) l6 c6 k6
  have b6 := F6.binds (ps := ["script", "town", "some"]) fun _ _ _ _ _ _ us hl => match us, hl with | [_, _, _], _ => rfl
  have F7 := fun_mk (st := topS 6) l7 c7 k7
  have b7 := F7.binds (ps := ["thing", "low", "high"]) fun _ _ _ _ _ _ us hl => match us, hl with | [_, _, _], _ => rfl
  have F8 := fun_mk (st := topS 7) l8 c8 k8
  have b8 := F8.binds (ps := ["thing"]) fun _ _ _ _ _ _ us hl => match us, hl with | [_], _ => rfl
  have F9 := fun_mk (st := topS 8) l9 c9 k9
  have b9 := F9.binds (ps := ["thing"]) fun _ _ _ _ _ _ us hl => match us, hl with | [_], _ => rfl
  have F10 := fun_mk (st := topS 13) l10 c10 k10
  have b10 := F10.binds (ps := ["text"]) fun _ _ _ _ _ _ us hl => match us, hl with | [_], _ => rfl
  have F11 := fun_mk (st := topS 10) l11 c11 k11
  have b11 := F11.binds (ps := ["letter", "odd"]) fun _ _ _ _ _ _ us hl => match us, hl with | [_, _], _ => rfl
  have F12 := fun_mk (st := topS 9) l12 c12 k12
  have b12 := F12.binds (ps := ["halvings"]) fun _ _ _ _ _ _ us hl => match us, hl with | [_], _ => rfl
  have F13 := fun_mk (st := topS 14) l13 c13 k13
  have b13 := F13.binds (ps := ["letters", "text"]) fun _ _ _ _ _ _ us hl => match us, hl with | [_, _], _ => rfl
  have F14 := fun_mk (st := topS 15) l14 c14 k14
  have b14 := F14.binds (ps := ["letters", "text"]) fun _ _ _ _ _ _ us hl => match us, hl with | [_, _], _ => rfl
  have F15 := fun_mk (st := topS 16) l15 c15 k15
  have b15 := F15.binds (ps := ["letters", "text", "wish"]) fun _ _ _ _ _ _ us hl => match us, hl with | [_, _, _], _ => rfl
  have F16 := fun_mk (st := topS 12) l16 c16 k16
  have b16 := F16.binds (ps := ["thing", "signs", "low", "high"]) fun _ _ _ _ _ _ us hl => match us, hl with | [_, _, _, _], _ => rfl
  have F17 := fun_mk (st := topS 17) l17 c17 k17
  have b17 := F17.binds (ps := ["halvings", "row"]) fun _ _ _ _ _ _ us hl => match us, hl with | [_, _], _ => rfl
  have F18 := fun_mk (st := topS 26) l18 c18 k18
  refine ⟨PySem.W.fnOf "law" "law" (defArgs (topS 26)) (defBody (topS 26)) (defScope (topS 26)) .none kV18 dc18 pm18 an18 cd18 ct18, fun s v => .of_eq rfl, fun base _ _ => ?_⟩
  have G_law_cell_at := ok_law_cell_at (P := l.prog) (w := w) (base := base) T F0 (PySem.W.mg_of X G a0) b0 
  have G_law_mixed := ok_law_mixed (P := l.prog) (w := w) (base := base) T F1 (PySem.W.mg_of X G a1) b1 G_law_cell_at
  have G_law_draw := ok_law_draw (P := l.prog) (w := w) (base := base) T F2 (PySem.W.mg_of X G a2) b2 G_law_mixed
  have G_law_letters := ok_law_letters (P := l.prog) (w := w) (base := base) T F3 (PySem.W.mg_of X G a3) b3 G_law_draw
  have G_law_halvings := ok_law_halvings (P := l.prog) (w := w) (base := base) T F4 (PySem.W.mg_of X G a4) b4 G_law_letters G_law_draw
  have G_law_row := ok_law_row (P := l.prog) (w := w) (base := base) T F5 (PySem.W.mg_of X G a5) b5 
  have G_law_pick := ok_law_pick (P := l.prog) (w := w) (base := base) T F6 (PySem.W.mg_of X G a6) b6 G_law_draw
  have G_is_letters := ok_is_letters (P := l.prog) (w := w) (base := base) T F7 (PySem.W.mg_of X G a7) b7 
  have G_is_halvings := ok_is_halvings (P := l.prog) (w := w) (base := base) T F8 (PySem.W.mg_of X G a8) b8 G_is_letters
  have G_need_halvings := ok_need_halvings (P := l.prog) (w := w) (base := base) T F9 (PySem.W.mg_of X G a9) b9 G_is_halvings
  have G_goes_to_and_fro := ok_goes_to_and_fro (P := l.prog) (w := w) (base := base) T F10 (PySem.W.mg_of X G a10) b10 
  have G_sign_of := ok_sign_of (P := l.prog) (w := w) (base := base) T F11 (PySem.W.mg_of X G a11) b11 
  have G_long_of := ok_long_of (P := l.prog) (w := w) (base := base) T F12 (PySem.W.mg_of X G a12) b12 
  have G_least_odd := ok_least_odd (P := l.prog) (w := w) (base := base) T F13 (PySem.W.mg_of X G a13) b13 G_goes_to_and_fro G_sign_of G_long_of
  have G_least_even := ok_least_even (P := l.prog) (w := w) (base := base) T F14 (PySem.W.mg_of X G a14) b14 G_goes_to_and_fro G_sign_of
  have G_least_place := ok_least_place (P := l.prog) (w := w) (base := base) T F15 (PySem.W.mg_of X G a15) b15  G_least_odd G_least_even 70
  have G_is_signs := ok_is_signs (P := l.prog) (w := w) (base := base) T F16 (PySem.W.mg_of X G a16) b16 
  have G_first_place := ok_first_place (P := l.prog) (w := w) (base := base) T F17 (PySem.W.mg_of X G a17) b17 G_need_halvings G_is_signs G_least_place
  exact law_imp (ok_law T F18 G_law_halvings G_law_row G_law_draw G_law_pick G_first_place)
end W_k14
open PySem PySem.W PyProof.Rows
set_option maxHeartbeats 0 in
theorem PySem.Challenge.cw_halvefolds_k14_whole_first_place_holds : PySem.Challenge.rw_halvefolds_k14_whole_first_place.Holds := by
  w_on; o_law; k_head; (case hw => w_witness2)
  k_fill
  refine L2.walk_ofB (l := PySem.Challenge.rw_halvefolds_k14_whole_first_place) (n := 63) (k := 143) (x := "script") (CX := fun w => L2.CX PySem.Challenge.pw_halvefolds_k14_whole_first_place w) (sp := fun w => DL.spLaw _ DL.dn_law_k14) rfl (by decide) rfl ⟨rfl, by decide, by decide⟩ (fun w h Y => PySem.W.kIn_of Y) ?F (fun _ _ a ns hl hb _ hS => ⟨a, ns, rfl, hS, DL.law_k14 ns hl hb, fun _ => rfl⟩) (fun _ H s e s' h => DL.cx_no H s e s' h)
  case F =>
    intro w mg fa h KX G hmg
    refine' W_k14.all_mk KX G hmg ?a0 ?l0 ?c0 ?k0 ?a1 ?l1 ?c1 ?k1 ?a2 ?l2 ?c2 ?k2 ?a3 ?l3 ?c3 ?k3 ?a4 ?l4 ?c4 ?k4 ?a5 ?l5 ?c5 ?k5 ?a6 ?l6 ?c6 ?k6 ?a7 ?l7 ?c7 ?k7 ?a8 ?l8 ?c8 ?k8 ?a9 ?l9 ?c9 ?k9 ?a10 ?l10 ?c10 ?k10 ?a11 ?l11 ?c11 ?k11 ?a12 ?l12 ?c12 ?k12 ?a13 ?l13 ?c13 ?k13 ?a14 ?l14 ?c14 ?k14 ?a15 ?l15 ?c15 ?k15 ?a16 ?l16 ?c16 ?k16 ?a17 ?l17 ?c17 ?k17 ?a18 ?l18 ?c18 ?k18 ?n_NoHalvings ?n_NoRow ?x_NoHalvings ?e_NoHalvings ?x_NoRow ?e_NoRow ?z_all ?z_isinstance ?z_len ?z_min ?z_range ?z_str ?z_zip ?q_MOST
    (case a0 => k_is)
    (case l0 => k_is)
    (case c0 => k_is)
    (case k0 => k_is)
    (case a1 => k_is)
    (case l1 => k_is)
    (case c1 => k_is)
    (case k1 => k_is)
    (case a2 => k_is)
    (case l2 => k_is)
    (case c2 => k_is)
    (case k2 => k_is)
    (case a3 => k_is)
    (case l3 => k_is)
    (case c3 => k_is)
    (case k3 => k_is)
    (case a4 => k_is)
    (case l4 => k_is)
    (case c4 => k_is)
    (case k4 => k_is)
    (case a5 => k_is)
    (case l5 => k_is)
    (case c5 => k_is)
    (case k5 => k_is)
    (case a6 => k_is)
    (case l6 => k_is)
    (case c6 => k_is)
    (case k6 => k_is)
    (case a7 => k_is)
    (case l7 => k_is)
    (case c7 => k_is)
    (case k7 => k_is)
    (case a8 => k_is)
    (case l8 => k_is)
    (case c8 => k_is)
    (case k8 => k_is)
    (case a9 => k_is)
    (case l9 => k_is)
    (case c9 => k_is)
    (case k9 => k_is)
    (case a10 => k_is)
    (case l10 => k_is)
    (case c10 => k_is)
    (case k10 => k_is)
    (case a11 => k_is)
    (case l11 => k_is)
    (case c11 => k_is)
    (case k11 => k_is)
    (case a12 => k_is)
    (case l12 => k_is)
    (case c12 => k_is)
    (case k12 => k_is)
    (case a13 => k_is)
    (case l13 => k_is)
    (case c13 => k_is)
    (case k13 => k_is)
    (case a14 => k_is)
    (case l14 => k_is)
    (case c14 => k_is)
    (case k14 => k_is)
    (case a15 => k_is)
    (case l15 => k_is)
    (case c15 => k_is)
    (case k15 => k_is)
    (case a16 => k_is)
    (case l16 => k_is)
    (case c16 => k_is)
    (case k16 => k_is)
    (case a17 => k_is)
    (case l17 => k_is)
    (case c17 => k_is)
    (case k17 => k_is)
    (case a18 => k_is)
    (case l18 => k_is)
    (case c18 => k_is)
    (case k18 => k_is)
    (case n_NoHalvings => k_is)
    (case n_NoRow => k_is)
    (case z_all => k_is)
    (case z_isinstance => k_is)
    (case z_len => k_is)
    (case z_min => k_is)
    (case z_range => k_is)
    (case z_str => k_is)
    (case z_zip => k_is)
    (case q_MOST => k_is)
    (case x_NoHalvings => kernel_rfl)
    (case e_NoHalvings => kernel_rfl)
    (case x_NoRow => kernel_rfl)
    (case e_NoRow => kernel_rfl)
