import PyProof.Rows.All
import HandS.ForMost
import HandS.ForExc
import HandS.CallSlots
import HandS.IsInst
import HandS.TupAny
import HandS.TupLe
import HandS.Wide
import HandS.Flow
import HandS.EndBits
import KE.SortData
import KE.DatumOrd
import KE.DatumMoreOrd
import KE.DataEq
import KE.DataMinMax
import HandS.Zip
import HandS.SetFor
import HandS.Style
import HandS.Conv
import KE.DataIsa
import KE.DataAny
import HandS.Strs
import HandS.Replace
import HandS.ExcIs
import HandS.TryOnly
import HandS.Text
import PySem.Challenge.RW_timevote_k67_formats
set_option Elab.async false
set_option linter.all false
set_option maxRecDepth 100000
set_option maxHeartbeats 4000000
/-! P0: pure evaluation over the layer HandS: data, results, heaps, the judgement of an expression. -/
namespace PV
open PySem PySem.Spec L2
open PyProof.Rows hiding St

abbrev D := PyData
/-- a result: a value, an exception of the class named c, or nothing said -/
inductive R (α : Type) where
  | ok (a : α)
  | exc (c : Str)
  | stuck
namespace R
def bind {α β : Type} : R α → (α → R β) → R β
  | ok a, g => g a
  | exc c, _ => exc c
  | stuck, _ => stuck
def ofO {α : Type} : Option α → R α
  | some a => ok a
  | none => stuck
def map {α β : Type} (g : α → β) (r : R α) : R β := r.bind fun a => ok (g a)
theorem bind_ok {α β : Type} (a : α) (g : α → R β) : (ok a).bind g = g a := rfl
theorem bind_exc {α β : Type} (c : Str) (g : α → R β) : (exc c : R α).bind g = exc c := rfl
theorem bind_stuck {α β : Type} (g : α → R β) : (stuck : R α).bind g = stuck := rfl
theorem ofO_some {α : Type} (a : α) : ofO (some a) = ok a := rfl
theorem ofO_none {α : Type} : ofO (none : Option α) = stuck := rfl
end R

/-! ### how a value stands for data -/
/-- the law's script, as data -/
def scr (ds : List D) : D := .dict [(.none, .list ds)]
/-- an exception of the class named c, as data; its object -/
abbrev exD (c : Str) : D := .dict [(.bool true, .str c)]
def ExO (a : Addr) (oe : Obj) : HO := .ext fun h => h.get? a = some oe
mutual
inductive Rp (K : PySem.W.Frag) (H : Hp) : V → D → Prop
  | non : Rp K H .non .none
  | bl (b : Bool) : Rp K H (.bl b) (.bool b)
  | int (i : Int) : Rp K H (.int i) (.int i)
  | str (x : Str) : Rp K H (.str x) (.str x)
  | lst {a : Addr} {xs : List V} {ds : List D} : H a = some (.lst xs) → xs.length ≤ sizeLine → RpAll K H xs ds → Rp K H (.ref a) (.list ds)
  | tup {a : Addr} {xs : List V} {ds : List D} : H a = some (.tup xs) → xs.length ≤ sizeLine → RpAll K H xs ds → Rp K H (.ref a) (.tuple ds)
  | scr {a : Addr} {ns : List Int} : SqL K H a (ns.map V.int) → Rp K H (.ref a) (scr (ns.map PyData.int))
  | exn {a C : Addr} {oe : Obj} {c : Str} : H a = some (ExO a oe) → oe.cls = .ref C → oe.dict = none → (∃ vs, oe.data = .fields vs) → PySem.W.nsIn K mainGlobals c = some (some (.ref C)) → Rp K H (.ref a) (exD c)
inductive RpAll (K : PySem.W.Frag) (H : Hp) : List V → List D → Prop
  | nil : RpAll K H [] []
  | cons {v : V} {vs : List V} {d : D} {ds : List D} : Rp K H v d → RpAll K H vs ds → RpAll K H (v :: vs) (d :: ds)
end

section
variable {K : PySem.W.Frag} {H H' : Hp}
mutual
theorem Rp.mono (s : Same H H') : ∀ (d : D) (v : V), Rp K H v d → Rp K H' v d
  | .none, _, h => by cases h; exact .non
  | .bool b, _, h => by cases h; exact .bl b
  | .int i, _, h => by cases h; exact .int i
  | .str x, _, h => by cases h; exact .str x
  | .list ds, _, h => by cases h with | lst q z r => exact .lst (s _ _ q) z (RpAll.mono s ds _ r)
  | .tuple ds, _, h => by cases h with | tup q z r => exact .tup (s _ _ q) z (RpAll.mono s ds _ r)
  | .dict _, _, h => by
    cases h with
    | scr q => exact .scr (s.seq q)
    | exn q1 q2 q3 q4 q5 => exact .exn (s _ _ q1) q2 q3 q4 q5
theorem RpAll.mono (s : Same H H') : ∀ (ds : List D) (vs : List V), RpAll K H vs ds → RpAll K H' vs ds
  | [], _, h => by cases h; exact .nil
  | d :: ds, _, h => by cases h with | cons q r => exact .cons (Rp.mono s d _ q) (RpAll.mono s ds _ r)
end
mutual
theorem Rp.dp : ∀ (d : D) (v : V), d.plain = true → Rp K H v d → Dp K H v d
  | .none, _, _, h => by cases h; exact .non
  | .bool b, _, _, h => by cases h; exact .bl b
  | .int i, _, _, h => by cases h; exact .int i
  | .str x, _, _, h => by cases h; exact .str x
  | .list ds, _, p, h => by cases h with | lst q z r => exact .lst (SqL.of q) (RpAll.dp ds _ (by simpa only [PyData.plain] using p) r)
  | .tuple ds, _, p, h => by cases h with | tup q z r => exact .tup (SqT.of q) (RpAll.dp ds _ (by simpa only [PyData.plain] using p) r)
  | .dict _, _, p, _ => by simp [PyData.plain] at p
theorem RpAll.dp : ∀ (ds : List D) (vs : List V), PyData.plainAll ds = true → RpAll K H vs ds → DpAll K H vs ds
  | [], _, _, h => by cases h; exact .nil
  | d :: ds, _, p, h => by
    simp only [PyData.plainAll, Bool.and_eq_true] at p
    cases h with | cons q r => exact .cons (Rp.dp d _ p.1 q) (RpAll.dp ds _ p.2 r)
end
theorem RpAll.length : ∀ {vs : List V} {ds : List D}, RpAll K H vs ds → vs.length = ds.length
  | _, _, .nil => rfl
  | _, _, .cons _ r => by simp only [List.length_cons, RpAll.length r]
theorem RpAll.append : ∀ {vs ws : List V} {ds es : List D}, RpAll K H vs ds → RpAll K H ws es → RpAll K H (vs ++ ws) (ds ++ es)
  | _, _, _, _, .nil, h => h
  | _, _, _, _, .cons q r, h => .cons q (RpAll.append r h)
theorem RpAll.get : ∀ {vs : List V} {ds : List D} {i : Nat} {v : V}, RpAll K H vs ds → vs[i]? = some v → ∃ d, ds[i]? = some d ∧ Rp K H v d
  | _, _, _, _, .nil, e => by simp at e
  | _, _, 0, _, .cons q _, e => by simp at e; subst e; exact ⟨_, rfl, q⟩
  | _, _, i + 1, v, .cons _ r, e => by
    obtain ⟨d, h1, h2⟩ := RpAll.get (i := i) (v := v) r (by simpa using e)
    exact ⟨d, by simpa using h1, h2⟩
theorem RpAll.get' : ∀ {vs : List V} {ds : List D} {i : Nat} {d : D}, RpAll K H vs ds → ds[i]? = some d → ∃ v, vs[i]? = some v ∧ Rp K H v d
  | _, _, _, _, .nil, e => by simp at e
  | _, _, 0, _, .cons q _, e => by simp at e; subst e; exact ⟨_, rfl, q⟩
  | _, _, i + 1, d, .cons _ r, e => by
    obtain ⟨v, h1, h2⟩ := RpAll.get' (i := i) (d := d) r (by simpa using e)
    exact ⟨v, by simpa using h1, h2⟩
theorem RpAll.take : ∀ {vs : List V} {ds : List D} (n : Nat), RpAll K H vs ds → RpAll K H (vs.take n) (ds.take n)
  | _, _, 0, _ => by simp; exact .nil
  | _, _, _ + 1, .nil => .nil
  | _, _, n + 1, .cons q r => .cons q (RpAll.take n r)
theorem RpAll.drop : ∀ {vs : List V} {ds : List D} (n : Nat), RpAll K H vs ds → RpAll K H (vs.drop n) (ds.drop n)
  | _, _, 0, r => r
  | _, _, _ + 1, .nil => .nil
  | _, _, n + 1, .cons _ r => RpAll.drop n r
theorem RpAll.reverse : ∀ {vs : List V} {ds : List D}, RpAll K H vs ds → RpAll K H vs.reverse ds.reverse
  | _, _, .nil => .nil
  | _, _, .cons q r => by rw [List.reverse_cons, List.reverse_cons]; exact RpAll.append (RpAll.reverse r) (.cons q .nil)
theorem RpAll.dropLast : ∀ {vs : List V} {ds : List D}, RpAll K H vs ds → RpAll K H vs.dropLast ds.dropLast := fun {vs ds} r => by
  rw [List.dropLast_eq_take, List.dropLast_eq_take, r.length]
  exact r.take _
theorem RpAll.set : ∀ {vs : List V} {ds : List D} {v : V} {d : D} (n : Nat), RpAll K H vs ds → Rp K H v d → RpAll K H (vs.set n v) (ds.set n d)
  | _, _, _, _, _, .nil, _ => .nil
  | _, _, _, _, 0, .cons _ r, h => .cons h r
  | _, _, _, _, n + 1, .cons q r, h => .cons q (RpAll.set n r h)
theorem RpAll.ints : ∀ (ns : List Int), RpAll K H (ns.map V.int) (ns.map PyData.int)
  | [] => .nil
  | n :: ns => .cons (.int n) (RpAll.ints ns)
theorem RpAll.strs : ∀ (ns : List Str), RpAll K H (ns.map V.str) (ns.map PyData.str)
  | [] => .nil
  | n :: ns => .cons (.str n) (RpAll.strs ns)
theorem RpAll.toInts : ∀ {vs : List V} {ns : List Int}, RpAll K H vs (ns.map PyData.int) → vs = ns.map V.int
  | _, [], h => by cases h; rfl
  | _, n :: ns, h => by
    cases h with
    | cons q r => cases q; rw [List.map_cons, RpAll.toInts r]
theorem RpAll.toStrs : ∀ {vs : List V} {ns : List Str}, RpAll K H vs (ns.map PyData.str) → vs = ns.map V.str
  | _, [], h => by cases h; rfl
  | _, n :: ns, h => by
    cases h with
    | cons q r => cases q; rw [List.map_cons, RpAll.toStrs r]
theorem RpAll.toBools : ∀ {vs : List V} {ns : List Bool}, RpAll K H vs (ns.map PyData.bool) → vs = ns.map V.bl
  | _, [], h => by cases h; rfl
  | _, n :: ns, h => by
    cases h with
    | cons q r => cases q; rw [List.map_cons, RpAll.toBools r]
end

/-! ### the frozen part F of the heap H; how both grow -/
theorem same_upd {H : Hp} {p : Addr} {o : HO} (h : H p = none) : Same H (upd H p o) := fun b x e => by
  rw [upd_ne (ne_of_none e h)]
  exact e
theorem same_none {F H : Hp} {p : Addr} (s : Same F H) (h : H p = none) : F p = none := by
  cases q : F p with
  | none => rfl
  | some o => rw [s _ _ q] at h; cases h
theorem same_upd2 {F H : Hp} {p : Addr} {o : HO} (s : Same F H) : Same (upd F p o) (upd H p o) := fun b x e => by
  by_cases q : b = p
  · subst q; rw [upd_same] at e ⊢; exact e
  · rw [upd_ne q] at e ⊢; exact s _ _ e
structure Ext (F H F' H' : Hp) : Prop where
  sF : Same F F'
  sH : Same H H'
  sub : Same F' H'
  sep : ∀ a o, H a = some o → F a = none → F' a = none
theorem Ext.refl {F H : Hp} (s : Same F H) : Ext F H F H := ⟨Same.refl _, Same.refl _, s, fun _ _ _ h => h⟩
theorem Ext.trans {F H F1 H1 F2 H2 : Hp} (a : Ext F H F1 H1) (b : Ext F1 H1 F2 H2) : Ext F H F2 H2 :=
  ⟨a.sF.trans b.sF, a.sH.trans b.sH, b.sub, fun x o h1 h2 => b.sep x o (a.sH x o h1) (a.sep x o h1 h2)⟩
/-- a new object, frozen -/
theorem Ext.new {F H : Hp} {p : Addr} {o : HO} (s : Same F H) (h : H p = none) : Ext F H (upd F p o) (upd H p o) :=
  ⟨same_upd (same_none s h), same_upd h, same_upd2 s, fun a u h1 h2 => by rw [upd_ne (ne_of_none h1 h)]; exact h2⟩
/-- a new object, not frozen -/
theorem Ext.loose {F H : Hp} {p : Addr} {o : HO} (s : Same F H) (h : H p = none) : Ext F H F (upd H p o) :=
  ⟨Same.refl _, same_upd h, s.trans (same_upd h), fun _ _ _ h2 => h2⟩

/-! ### what is wanted behind a step -/
def Post {α β : Type} (rel : Hp → β → α → Prop) (mg : Str → Option Value) (E : XK) (F H : Hp) : R α → (β → Hp → Prop) → Prop
  | .ok a, Q => ∀ x F' H', Ext F H F' H' → rel F' x a → Q x H'
  | .exc c, _ => ∀ C F' H', mg c = some (.ref C) → Ext F H F' H' → E (.ref C) none H'
  | .stuck, _ => False
section
variable {α β γ δ : Type} {rel : Hp → β → α → Prop} {rel2 : Hp → δ → γ → Prop} {mg : Str → Option Value} {E : XK} {F H F1 H1 : Hp}
theorem Post.ext {r : R α} {Q : β → Hp → Prop} (e : Ext F H F1 H1) (h : Post rel mg E F H r Q) : Post rel mg E F1 H1 r Q := by
  cases r with
  | ok a => exact fun x F' H' e' q => h x F' H' (e.trans e') q
  | exc c => exact fun C F' H' m e' => h C F' H' m (e.trans e')
  | stuck => exact h
theorem Post.imp {r : R α} {Q Q' : β → Hp → Prop} (h : Post rel mg E F H r Q) (k : ∀ x a F' H', Ext F H F' H' → rel F' x a → r = .ok a → Q x H' → Q' x H') : Post rel mg E F H r Q' := by
  cases r with
  | ok a => exact fun x F' H' e q => k x a F' H' e q rfl (h x F' H' e q)
  | exc c => exact h
  | stuck => exact h
theorem Post.bind {r : R α} {g : α → R γ} {Q : δ → Hp → Prop} {Q1 : β → Hp → Prop} (h : Post rel2 mg E F H (r.bind g) Q)
    (k : ∀ x a F1 H1, Ext F H F1 H1 → rel F1 x a → Post rel2 mg E F1 H1 (g a) Q → Q1 x H1) : Post rel mg E F H r Q1 := by
  cases r with
  | ok a => exact fun x F' H' e q => k x a F' H' e q (Post.ext e h)
  | exc c => exact h
  | stuck => exact h
theorem Post.here {a : α} {x : β} {Q : β → Hp → Prop} (s : Same F H) (h : Post rel mg E F H (.ok a) Q) (q : rel F x a) : Q x H := h x F H (.refl s) q
end

/-! ### the names' values -/
abbrev En := List (Option D)
structure RelE (K : PySem.W.Frag) (ρ : En) (σ : St) (F : Hp) : Prop where
  len : ρ.length ≤ σ.length
  val : ∀ (i : Nat) (d : D), ρ[i]? = some (some d) → ∃ v, σ[i]? = some (some v) ∧ Rp K F v d
theorem RelE.mono {K : PySem.W.Frag} {ρ : En} {σ : St} {F F' : Hp} (s : Same F F') (h : RelE K ρ σ F) : RelE K ρ σ F' := ⟨h.len, fun i d e => by
  obtain ⟨v, e1, e2⟩ := h.val i d e
  exact ⟨v, e1, e2.mono s⟩⟩
def RelB (_ : Hp) (x : Bool) (b : Bool) : Prop := x = b

/-- the reading of an expression, a test, an argument list that is worth f -/
def tOf (K : PySem.W.Frag) (mg : Str → Option Value) (W : WX) (f : En → R D) : TE := fun σ H Q => ∃ ρ F, RelE K ρ σ F ∧ Same F H ∧ Post (Rp K) mg (fun c d H' => W c d σ H') F H (f ρ) Q
def tOfT (K : PySem.W.Frag) (mg : Str → Option Value) (W : WX) (f : En → R Bool) : TT := fun σ H Q => ∃ ρ F, RelE K ρ σ F ∧ Same F H ∧ Post RelB mg (fun c d H' => W c d σ H') F H (f ρ) Q
def tOfA (K : PySem.W.Frag) (mg : Str → Option Value) (W : WX) (f : En → R (List D)) : TA := fun σ H Q => ∃ ρ F, RelE K ρ σ F ∧ Same F H ∧ Post (RpAll K) mg (fun c d H' => W c d σ H') F H (f ρ) Q
theorem _root_.L2.PE.imp {X : Cx} {e : Expr} {t t' : TE} (h : PE X e t) (k : ∀ σ H Q, t' σ H Q → t σ H Q) : PE X e t' := ⟨fun pins s σ H Q I q => h.run pins s σ H Q I (k σ H Q q)⟩
theorem _root_.L2.PT.imp {X : Cx} {e : Expr} {t t' : TT} (h : PT X e t) (k : ∀ σ H Q, t' σ H Q → t σ H Q) : PT X e t' := ⟨fun pins s σ H Q I q => h.run pins s σ H Q I (k σ H Q q)⟩
theorem _root_.L2.PW.imp {X : Cx} {e : Expr} {t t' : TT} (h : PW X e t) (k : ∀ σ H Q, t' σ H Q → t σ H Q) : PW X e t' := ⟨fun wh pins s σ H Q I q => h.run wh pins s σ H Q I (k σ H Q q)⟩
theorem _root_.L2.PA.imp {X : Cx} {e : List Expr} {t t' : TA} (h : PA X e t) (k : ∀ σ H Q, t' σ H Q → t σ H Q) : PA X e t' := ⟨fun pos pins s σ H Q I q => h.run pos pins s σ H Q I (k σ H Q q)⟩
theorem _root_.L2.PS.imp {X : Cx} {e : Stmt} {t t' : TS} (h : PS X e t) (k : ∀ D σ H, t' D σ H → t D σ H) : PS X e t' := ⟨fun pins s σ H Q I q => h.run pins s σ H Q I (k Q σ H q)⟩
theorem _root_.L2.PSs.imp {X : Cx} {e : List Stmt} {t t' : TS} (h : PSs X e t) (k : ∀ D σ H, t' D σ H → t D σ H) : PSs X e t' := ⟨fun pins s σ H Q I q => h.run pins s σ H Q I (k Q σ H q)⟩

/-- the expression e is worth f -/
def PX (X : Cx) (W : WX) (e : Expr) (f : En → R D) : Prop := PE X e (tOf X.K X.mg W f)
def PXT (X : Cx) (W : WX) (e : Expr) (f : En → R Bool) : Prop := PT X e (tOfT X.K X.mg W f)
def PXW (X : Cx) (W : WX) (e : Expr) (f : En → R Bool) : Prop := PW X e (tOfT X.K X.mg W f)
def PXA (X : Cx) (W : WX) (es : List Expr) (f : En → R (List D)) : Prop := PA X es (tOfA X.K X.mg W f)

/-- a bool -/
def asB : D → R Bool
  | .bool b => .ok b
  | _ => .stuck

/-! ### names, constants -/
namespace E
def var (i : Nat) : En → R D := fun ρ => match ρ[i]? with | some (some d) => .ok d | _ => .stuck
def con (d : D) : En → R D := fun _ => .ok d
def op2 (g : D → D → Option D) (fa fb : En → R D) : En → R D := fun ρ => (fa ρ).bind fun x => (fb ρ).bind fun y => R.ofO (g x y)
def op1 (g : D → Option D) (fa : En → R D) : En → R D := fun ρ => (fa ρ).bind fun x => R.ofO (g x)
end E
section
variable {X : Cx} {W : WX} {a b c e : Expr} {fa fb fc f : En → R D} {pos : Pos}
theorem px_var (i : Nat) {x : Str} (hN : X.N[i]? = some x := by rfl) (hv : Vis X.env.scope x := by first | exact Or.inl rfl | exact Or.inr (Or.inl rfl) | exact Or.inr (Or.inr rfl)) (hd : (x == ("__debug__" : Str)) = false := by decide)
    (hcd : (x == ("__classdict__" : Str)) = false := by decide) : PX X W (.Name x pos) (E.var i) := by
  refine (pe_var hN hv hd hcd).imp fun σ H Q ⟨ρ, F, hR, hS, hP⟩ => ?_
  unfold E.var at hP
  split at hP
  · rename_i d e
    obtain ⟨v, e1, q⟩ := hR.val i d e
    exact ⟨v, e1, hP.here hS q⟩
  · exact hP.elim
theorem px_con (v : V) {d : D} (h : PE X e (tC v)) (r : ∀ F, Rp X.K F v d) : PX X W e (E.con d) :=
  h.imp fun σ H Q ⟨ρ, F, hR, hS, hP⟩ => hP.here hS (r F)
theorem px_int {i j} : PX X W (.Constant (.int i) j pos) (E.con (.int i)) := px_con (.int i) pe_int fun _ => .int i
theorem px_bl {b j} : PX X W (.Constant (.bool b) j pos) (E.con (.bool b)) := px_con (.bl b) pe_bl fun _ => .bl b
theorem px_non {j} : PX X W (.Constant .none j pos) (E.con .none) := px_con .non pe_non fun _ => .non
theorem px_str {x j} : PX X W (.Constant (.str x) j pos) (E.con (.str x)) := px_con (.str x) pe_str fun _ => .str x
theorem px_gint {x : Str} {i : Int} (hm : ∃ t, X.mg x = some (.int i t)) (hg : Gl X x := by rfl) (hd : (x == ("__debug__" : Str)) = false := by decide) : PX X W (.Name x pos) (E.con (.int i)) := by
  obtain ⟨t, hm⟩ := hm
  exact px_con (.int i) (pe_glob hg hm ⟨t, rfl⟩ hd) fun _ => .int i
theorem px_gstr {x y : Str} (hm : ∃ t, X.mg x = some (.str y t)) (hg : Gl X x := by rfl) (hd : (x == ("__debug__" : Str)) = false := by decide) : PX X W (.Name x pos) (E.con (.str y)) := by
  obtain ⟨t, hm⟩ := hm
  exact px_con (.str y) (pe_glob hg hm ⟨t, rfl⟩ hd) fun _ => .str y

/-! ### operators -/
/-- an operator that is worth g -/
def rOf (K : PySem.W.Frag) (g : D → D → Option D) : R2 := fun x y H Q => ∃ F dx dy dz, Same F H ∧ Rp K F x dx ∧ Rp K F y dy ∧ g dx dy = some dz ∧ ∀ v F' H', Ext F H F' H' → Rp K F' v dz → Q v H'
def uOf (K : PySem.W.Frag) (g : D → Option D) : V → Hp → VK → Prop := fun x H Q => ∃ F dx dz, Same F H ∧ Rp K F x dx ∧ g dx = some dz ∧ ∀ v F' H', Ext F H F' H' → Rp K F' v dz → Q v H'
theorem bin_does {g : D → D → Option D} {r : R2} (hr : ∀ x y H Q, rOf X.K g x y H Q → r x y H Q) {σ : St} {H : Hp} {Q : VK} (h : tOf X.K X.mg W (E.op2 g fa fb) σ H Q) :
    tOp r (tOf X.K X.mg W fa) (tOf X.K X.mg W fb) σ H Q := by
  obtain ⟨ρ, F, hR, hS, hP⟩ := h
  refine ⟨ρ, F, hR, hS, Post.bind hP fun x dx F1 H1 e1 r1 p1 => ?_⟩
  refine ⟨ρ, F1, hR.mono e1.sF, e1.sub, Post.bind p1 fun y dy F2 H2 e2 r2 p2 => ?_⟩
  cases q : g dx dy with
  | none => rw [q] at p2; exact p2.elim
  | some dz =>
    rw [q] at p2
    exact hr _ _ _ _ ⟨F2, dx, dy, dz, e2.sub, r1.mono e2.sF, r2, q, p2⟩
theorem px_op {op : Operator} {g : D → D → Option D} (ho : OpR X (binaryOp op) (rOf X.K g)) (ha : PX X W a fa) (hb : PX X W b fb) : PX X W (.BinOp a op b pos) (E.op2 g fa fb) :=
  (pe_op ho ha hb).imp fun _ _ _ h => bin_does (fun _ _ _ _ h => h) h
theorem px_un {op : UnaryOp} {g : D → Option D} (ho : UnR X (unaryOp op) (uOf X.K g)) (ha : PX X W a fa) : PX X W (.UnaryOp op a pos) (E.op1 g fa) := by
  refine (pe_un ho ha).imp fun σ H Q ⟨ρ, F, hR, hS, hP⟩ => ?_
  refine ⟨ρ, F, hR, hS, Post.bind hP fun x dx F1 H1 e1 r1 p1 => ?_⟩
  cases q : g dx with
  | none => rw [q] at p1; exact p1.elim
  | some dz =>
    rw [q] at p1
    exact ⟨F1, dx, dz, e1.sub, r1, q, p1⟩
theorem px_cmp {op : CmpOp} {g : D → D → Option D} (ho : OpR X (compareOp op) (rOf X.K g)) (ha : PX X W a fa) (hb : PX X W b fb) (hm : behindInMarks op b = false := by first | exact nomark _ | rfl | with_unfolding_all rfl) : PX X W (.Compare a [op] [b] pos) (E.op2 g fa fb) :=
  (pe_cmpR ho ha hb hm).imp fun _ _ _ h => bin_does (fun _ _ _ _ h => h) h
end
namespace T
/-- an expression as a test -/
def of (f : En → R D) : En → R Bool := fun ρ => (f ρ).bind asB
def and (f g : En → R Bool) : En → R Bool := fun ρ => (f ρ).bind fun c => if c = true then g ρ else .ok false
def or (f g : En → R Bool) : En → R Bool := fun ρ => (f ρ).bind fun c => if c = true then .ok true else g ρ
def not (f : En → R Bool) : En → R Bool := fun ρ => (f ρ).bind fun c => .ok (!c)
end T
namespace E
def and (f g : En → R D) : En → R D := fun ρ => (f ρ).bind fun x => (asB x).bind fun c => if c = true then g ρ else .ok (.bool false)
def or (f g : En → R D) : En → R D := fun ρ => (f ρ).bind fun x => (asB x).bind fun c => if c = true then .ok (.bool true) else g ρ
def not (f : En → R D) : En → R D := fun ρ => (f ρ).bind fun x => (asB x).bind fun c => .ok (.bool (!c))
def ite (t : En → R Bool) (f g : En → R D) : En → R D := fun ρ => (t ρ).bind fun c => if c = true then f ρ else g ρ
def chain (g1 g2 : D → D → Option D) (fa fb fc : En → R D) : En → R D := fun ρ => (fa ρ).bind fun x => (fb ρ).bind fun y => (R.ofO (g1 x y)).bind fun z => (asB z).bind fun k =>
  if k = true then (fc ρ).bind fun w => R.ofO (g2 y w) else .ok (.bool false)
def chain3 (g1 g2 g3 : D → D → Option D) (fa fb fc fd : En → R D) : En → R D := fun ρ => (fa ρ).bind fun x => (fb ρ).bind fun y => (R.ofO (g1 x y)).bind fun z => (asB z).bind fun k =>
  if k = true then (fc ρ).bind fun w => (R.ofO (g2 y w)).bind fun z2 => (asB z2).bind fun k2 => if k2 = true then (fd ρ).bind fun v => R.ofO (g3 w v) else .ok (.bool false) else .ok (.bool false)
end E
section
variable {X : Cx} {W : WX} {a b c e : Expr} {fa fb fc f : En → R D} {ta tb : En → R Bool} {pos : Pos} {rest : List Expr}
theorem asB_ok {d : D} {b : Bool} (h : asB d = .ok b) : d = .bool b := by
  cases d with
  | bool b' => cases h; rfl
  | _ => cases h
theorem asB_rel {K : PySem.W.Frag} {F : Hp} {x : V} {d : D} {b : Bool} (h : asB d = .ok b) (r : Rp K F x d) : x = .bl b := by
  rw [asB_ok h] at r
  cases r
  rfl
/-- what asB gives is a bool or nothing -/
theorem asB_cases (d : D) : (∃ b, d = .bool b ∧ asB d = .ok b) ∨ asB d = .stuck := by
  cases d with
  | bool b => exact .inl ⟨b, rfl, rfl⟩
  | _ => exact .inr rfl
theorem tval_does {σ : St} {H : Hp} {Q : Bool → Hp → Prop} (h : tOfT X.K X.mg W (T.of f) σ H Q) : tB (tOf X.K X.mg W f) σ H Q := by
  obtain ⟨ρ, F, hR, hS, hP⟩ := h
  refine ⟨ρ, F, hR, hS, Post.bind hP fun x d F1 H1 e1 r1 p1 => ?_⟩
  rcases asB_cases d with ⟨b, rfl, e⟩ | e
  · rw [e] at p1
    cases r1
    exact ⟨b, rfl, p1.here e1.sub rfl⟩
  · rw [e] at p1; exact p1.elim
theorem pxt_val (h : PX X W e f) (he : ∀ whole, isTrue e X.env whole = (do let v ← whole; standAt e.pos; holding [v] (truthy v)) := by intro _; rfl) : PXT X W e (T.of f) :=
  (pt_val h he).imp fun _ _ _ q => tval_does q
theorem pxt_cmp {op : CmpOp} {g : D → D → Option D} (ho : OpR X (compareOp op) (rOf X.K g)) (ha : PX X W a fa) (hb : PX X W b fb) (hm : behindInMarks op b = false := by first | exact nomark _ | rfl | with_unfolding_all rfl) : PXT X W (.Compare a [op] [b] pos) (T.of (E.op2 g fa fb)) := by
  refine (pt_cmpR ho ha hb hm).imp fun σ H Q h => ?_
  obtain ⟨ρ, F, hR, hS, hP⟩ := h
  refine bin_does (fun _ _ _ _ h => h) ⟨ρ, F, hR, hS, Post.bind hP fun x d F1 H1 e1 r1 p1 => ?_⟩
  rcases asB_cases d with ⟨b, rfl, e⟩ | e
  · rw [e] at p1
    cases r1
    exact ⟨b, rfl, p1.here e1.sub rfl⟩
  · rw [e] at p1; exact p1.elim
theorem pxw_and1 (ha : PXT X W a ta) : PXW X W (.BoolOp .And [a] pos) ta := pw_and1 ha
theorem pxw_or1 (ha : PXT X W a ta) : PXW X W (.BoolOp .Or [a] pos) ta := pw_or1 ha
theorem pxw_and (ha : PXT X W a ta) (hb : PXW X W (.BoolOp .And (b :: rest) pos) tb) : PXW X W (.BoolOp .And (a :: b :: rest) pos) (T.and ta tb) := by
  refine (pw_and ha hb).imp fun σ H Q ⟨ρ, F, hR, hS, hP⟩ => ?_
  refine ⟨ρ, F, hR, hS, Post.bind hP fun x d F1 H1 e1 r1 p1 => ?_⟩
  have r1 : x = d := r1
  subst r1
  cases x with
  | true => exact ⟨ρ, F1, hR.mono e1.sF, e1.sub, p1⟩
  | false => exact p1.here e1.sub rfl
theorem pxw_or (ha : PXT X W a ta) (hb : PXW X W (.BoolOp .Or (b :: rest) pos) tb) : PXW X W (.BoolOp .Or (a :: b :: rest) pos) (T.or ta tb) := by
  refine (pw_or ha hb).imp fun σ H Q ⟨ρ, F, hR, hS, hP⟩ => ?_
  refine ⟨ρ, F, hR, hS, Post.bind hP fun x d F1 H1 e1 r1 p1 => ?_⟩
  have r1 : x = d := r1
  subst r1
  cases x with
  | true => exact p1.here e1.sub rfl
  | false => exact ⟨ρ, F1, hR.mono e1.sF, e1.sub, p1⟩
theorem pxt_bool {f : En → R Bool} (h : PXW X W e f) : PXT X W e f := h.pt
theorem pxt_not (ha : PXT X W a ta) : PXT X W (.UnaryOp .Not a pos) (T.not ta) := by
  refine (pt_not ha).imp fun σ H Q ⟨ρ, F, hR, hS, hP⟩ => ?_
  refine ⟨ρ, F, hR, hS, Post.bind hP fun x d F1 H1 e1 r1 p1 => ?_⟩
  have r1 : x = d := r1
  subst r1
  exact p1.here e1.sub rfl
/-! as values -/
theorem px_one {op} (h : PX X W a fa) : PX X W (.BoolOp op [a] pos) fa := pe_one h
theorem px_and (ha : PX X W a fa) (hb : PX X W (.BoolOp .And (b :: rest) pos) fb) : PX X W (.BoolOp .And (a :: b :: rest) pos) (E.and fa fb) := by
  refine (pe_and ha hb).imp fun σ H Q ⟨ρ, F, hR, hS, hP⟩ => ?_
  refine ⟨ρ, F, hR, hS, Post.bind hP fun x d F1 H1 e1 r1 p1 => ?_⟩
  rcases asB_cases d with ⟨b, rfl, e⟩ | e
  · rw [e] at p1
    cases r1
    refine ⟨b, rfl, ?_⟩
    cases b with
    | true => exact ⟨ρ, F1, hR.mono e1.sF, e1.sub, p1⟩
    | false => exact p1.here e1.sub (.bl false)
  · rw [e] at p1; exact p1.elim
theorem px_or (ha : PX X W a fa) (hb : PX X W (.BoolOp .Or (b :: rest) pos) fb) : PX X W (.BoolOp .Or (a :: b :: rest) pos) (E.or fa fb) := by
  refine (pe_or ha hb).imp fun σ H Q ⟨ρ, F, hR, hS, hP⟩ => ?_
  refine ⟨ρ, F, hR, hS, Post.bind hP fun x d F1 H1 e1 r1 p1 => ?_⟩
  rcases asB_cases d with ⟨b, rfl, e⟩ | e
  · rw [e] at p1
    cases r1
    refine ⟨b, rfl, ?_⟩
    cases b with
    | true => exact p1.here e1.sub (.bl true)
    | false => exact ⟨ρ, F1, hR.mono e1.sF, e1.sub, p1⟩
  · rw [e] at p1; exact p1.elim
theorem px_not (ha : PX X W a fa) : PX X W (.UnaryOp .Not a pos) (E.not fa) := by
  refine (pe_not ha).imp fun σ H Q ⟨ρ, F, hR, hS, hP⟩ => ?_
  refine ⟨ρ, F, hR, hS, Post.bind hP fun x d F1 H1 e1 r1 p1 => ?_⟩
  rcases asB_cases d with ⟨b, rfl, e⟩ | e
  · rw [e] at p1
    cases r1
    exact ⟨b, rfl, p1.here e1.sub (.bl _)⟩
  · rw [e] at p1; exact p1.elim
theorem px_if (hc : PXT X W c ta) (ha : PX X W a fa) (hb : PX X W b fb) : PX X W (.IfExp c a b pos) (E.ite ta fa fb) := by
  refine (pe_ifExp hc ha hb).imp fun σ H Q ⟨ρ, F, hR, hS, hP⟩ => ?_
  refine ⟨ρ, F, hR, hS, Post.bind hP fun x d F1 H1 e1 r1 p1 => ?_⟩
  have r1 : x = d := r1
  subst r1
  cases x with
  | true => exact ⟨ρ, F1, hR.mono e1.sF, e1.sub, p1⟩
  | false => exact ⟨ρ, F1, hR.mono e1.sF, e1.sub, p1⟩
theorem chain_does {g1 g2 : D → D → Option D} {σ : St} {H : Hp} {Q : VK} (h : tOf X.K X.mg W (E.chain g1 g2 fa fb fc) σ H Q) :
    tChain (rOf X.K g1) (rOf X.K g2) (tOf X.K X.mg W fa) (tOf X.K X.mg W fb) (tOf X.K X.mg W fc) σ H Q := by
  obtain ⟨ρ, F, hR, hS, hP⟩ := h
  refine ⟨ρ, F, hR, hS, Post.bind hP fun x dx F1 H1 e1 r1 p1 => ?_⟩
  refine ⟨ρ, F1, hR.mono e1.sF, e1.sub, Post.bind p1 fun y dy F2 H2 e2 r2 p2 => ?_⟩
  cases q : g1 dx dy with
  | none => rw [q] at p2; exact p2.elim
  | some dz =>
    rw [q] at p2
    refine ⟨F2, dx, dy, dz, e2.sub, r1.mono e2.sF, r2, q, fun v F' H' e' rv => ?_⟩
    have p3 := Post.ext e' p2
    rw [R.ofO_some, R.bind_ok] at p3
    rcases asB_cases dz with ⟨b, rfl, e⟩ | e
    · rw [e, R.bind_ok] at p3
      cases rv
      refine ⟨b, rfl, ?_⟩
      cases b with
      | true =>
        rw [if_pos rfl] at p3 ⊢
        refine ⟨ρ, F', hR.mono (e1.sF.trans (e2.sF.trans e'.sF)), e'.sub, Post.bind p3 fun w dw F3 H3 e3 r3 p4 => ?_⟩
        cases q2 : g2 dy dw with
        | none => rw [q2] at p4; exact p4.elim
        | some du =>
          rw [q2] at p4
          exact ⟨F3, dy, dw, du, e3.sub, r2.mono (e'.sF.trans e3.sF), r3, q2, p4⟩
      | false =>
        rw [if_neg Bool.false_ne_true] at p3 ⊢
        exact p3.here e'.sub (.bl false)
    · rw [e] at p3; exact p3.elim
theorem op_step {α β : Type} {rel : Hp → β → α → Prop} {E : XK} {F H : Hp} {g : D → D → Option D} {x y : V} {dx dy : D} {k : D → R α} {Q : β → Hp → Prop} {Q' : V → Hp → Prop} (hS : Same F H) (rx : Rp X.K F x dx) (ry : Rp X.K F y dy)
    (hP : Post rel X.mg E F H ((R.ofO (g dx dy)).bind k) Q) (h : ∀ v dz F' H', Ext F H F' H' → Rp X.K F' v dz → Post rel X.mg E F' H' (k dz) Q → Q' v H') : rOf X.K g x y H Q' := by
  cases q : g dx dy with
  | none => rw [q] at hP; exact hP.elim
  | some dz =>
    rw [q] at hP
    exact ⟨F, dx, dy, dz, hS, rx, ry, q, fun v F' H' e r => h v dz F' H' e r (Post.ext e hP)⟩
theorem R.assoc {α β γ : Type} (r : R α) (f : α → R β) (g : β → R γ) : (r.bind f).bind g = r.bind fun a => (f a).bind g := by cases r <;> rfl
def tThree (r r' r2 : R2) (ta tb tc td : TE) : TT := fun σ H Q => ta σ H fun x H1 => tb σ H1 fun y H2 => r x y H2 fun z H3 => ∃ k, z = .bl k ∧
  (if k = true then tc σ H3 fun w H4 => r' y w H4 fun z' H5 => ∃ k', z' = .bl k' ∧ (if k' = true then td σ H5 fun v H6 => r2 w v H6 fun u H7 => ∃ k2, u = .bl k2 ∧ Q k2 H7 else Q false H5) else Q false H3)
theorem pt_three {d : Expr} {ta tb tc td : TE} {op op' op2 : CmpOp} {r r' r2 : R2} (ho : OpR X (compareOp op) r) (ho' : OpR X (compareOp op') r') (ho2 : OpR X (compareOp op2) r2)
    (ha : PE X a ta) (hb : PE X b tb) (hc : PE X c tc) (hd : PE X d td) (hm : lastMarks [op, op', op2] [b, c, d] = false) : PT X (.Compare a [op, op', op2] [b, c, d] pos) (tThree r r' r2 ta tb tc td) := by
  refine ⟨fun pins s σ H Q I h => ?_⟩
  refine isTrue_chain (thn (ha.run pins s σ H _ I h) fun va s1 ⟨x, H1, I1, r1, q1⟩ => test_link (thn (hb.run pins s1 σ H1 _ I1 q1) fun vb s2 ⟨y, H2, I2, r2, q2⟩ =>
    thn (ho pins s2 σ H2 x y va vb _ I2 r1 r2 q2) fun t1 s3 ⟨z, H3, I3, r3, k, e, q3⟩ => ?_)) hm
  subst e
  cases r3
  refine wpAny_truthy_bool ?_
  cases k with
  | false => rw [if_neg Bool.false_ne_true] at q3; exact ite_ff ⟨H3, I3, q3⟩
  | true =>
    rw [if_pos rfl] at q3
    refine ite_tt (test_link (thn (hc.run pins s3 σ H3 _ I3 q3) fun vc s4 ⟨w, H4, I4, r4, q4⟩ => thn (ho' pins s4 σ H4 y w vb vc _ I4 r2 r4 q4) fun t2 s5 ⟨z2, H5, I5, r5, k2, e2, q5⟩ => ?_))
    subst e2
    cases r5
    refine wpAny_truthy_bool ?_
    cases k2 with
    | false => rw [if_neg Bool.false_ne_true] at q5; exact ite_ff ⟨H5, I5, q5⟩
    | true =>
      rw [if_pos rfl] at q5
      refine ite_tt (test_last (thn (hd.run pins s5 σ H5 _ I5 q5) fun vd s6 ⟨u, H6, I6, r6, q6⟩ => thn (ho2 pins s6 σ H6 w u vc vd _ I6 r4 r6 q6) fun t3 s7 ⟨z3, H7, I7, r7, k3, e3, q7⟩ => ?_))
      subst e3
      cases r7
      exact wpAny_truthy_bool ⟨H7, I7, q7⟩
theorem pxt_chain3 {d : Expr} {fd : En → R D} {op op' op2 : CmpOp} {g1 g2 g3 : D → D → Option D} (ho : OpR X (compareOp op) (rOf X.K g1)) (ho' : OpR X (compareOp op') (rOf X.K g2)) (ho2 : OpR X (compareOp op2) (rOf X.K g3))
    (ha : PX X W a fa) (hb : PX X W b fb) (hc : PX X W c fc) (hd : PX X W d fd) (hm : lastMarks [op, op', op2] [b, c, d] = false := by with_unfolding_all rfl) : PXT X W (.Compare a [op, op', op2] [b, c, d] pos) (T.of (E.chain3 g1 g2 g3 fa fb fc fd)) := by
  refine (pt_three ho ho' ho2 ha hb hc hd hm).imp fun σ H Q h => ?_
  obtain ⟨ρ, F, hR, hS, hP⟩ := h
  unfold T.of E.chain3 at hP
  rw [R.assoc] at hP
  refine ⟨ρ, F, hR, hS, Post.bind hP fun x dx F1 H1 e1 r1 p1 => ?_⟩
  rw [R.assoc] at p1
  refine ⟨ρ, F1, hR.mono e1.sF, e1.sub, Post.bind p1 fun y dy F2 H2 e2 r2 p2 => ?_⟩
  rw [R.assoc] at p2
  refine op_step e2.sub (r1.mono e2.sF) r2 p2 fun v dz F3 H3 e3 r3 p3 => ?_
  rcases asB_cases dz with ⟨k, rfl, e⟩ | e
  · rw [e, R.assoc, R.bind_ok] at p3
    cases r3
    refine ⟨k, rfl, ?_⟩
    cases k with
    | false =>
      rw [if_neg Bool.false_ne_true] at p3 ⊢
      exact p3.here e3.sub rfl
    | true =>
      rw [if_pos rfl] at p3 ⊢
      rw [R.assoc] at p3
      refine ⟨ρ, F3, hR.mono (e1.sF.trans (e2.sF.trans e3.sF)), e3.sub, Post.bind p3 fun w dw F4 H4 e4 r4 p4 => ?_⟩
      rw [R.assoc] at p4
      refine op_step e4.sub (r2.mono (e3.sF.trans e4.sF)) r4 p4 fun v2 dz2 F5 H5 e5 r5 p5 => ?_
      rcases asB_cases dz2 with ⟨k2, rfl, e'⟩ | e'
      · rw [e', R.assoc, R.bind_ok] at p5
        cases r5
        refine ⟨k2, rfl, ?_⟩
        cases k2 with
        | false =>
          rw [if_neg Bool.false_ne_true] at p5 ⊢
          exact p5.here e5.sub rfl
        | true =>
          rw [if_pos rfl] at p5 ⊢
          rw [R.assoc] at p5
          refine ⟨ρ, F5, hR.mono (e1.sF.trans (e2.sF.trans (e3.sF.trans (e4.sF.trans e5.sF)))), e5.sub, Post.bind p5 fun u du F6 H6 e6 r6 p6 => ?_⟩
          refine op_step e6.sub (r4.mono (e5.sF.trans e6.sF)) r6 p6 fun v3 dz3 F7 H7 e7 r7 p7 => ?_
          rcases asB_cases dz3 with ⟨k3, rfl, e''⟩ | e''
          · rw [e''] at p7
            cases r7
            exact ⟨k3, rfl, p7.here e7.sub rfl⟩
          · rw [e''] at p7; exact p7.elim
      · rw [e', R.assoc] at p5; exact p5.elim
  · rw [e, R.assoc] at p3; exact p3.elim
theorem px_chain {op op' : CmpOp} {g1 g2 : D → D → Option D} (ho : OpR X (compareOp op) (rOf X.K g1)) (ho' : OpR X (compareOp op') (rOf X.K g2)) (ha : PX X W a fa) (hb : PX X W b fb) (hc : PX X W c fc)
    (hm : lastMarks [op, op'] [b, c] = false := by with_unfolding_all rfl) : PX X W (.Compare a [op, op'] [b, c] pos) (E.chain g1 g2 fa fb fc) :=
  (pe_chain ho ho' ha hb hc hm).imp fun _ _ _ h => chain_does h
theorem pxt_chain {op op' : CmpOp} {g1 g2 : D → D → Option D} (ho : OpR X (compareOp op) (rOf X.K g1)) (ho' : OpR X (compareOp op') (rOf X.K g2)) (ha : PX X W a fa) (hb : PX X W b fb) (hc : PX X W c fc)
    (hm : lastMarks [op, op'] [b, c] = false := by with_unfolding_all rfl) : PXT X W (.Compare a [op, op'] [b, c] pos) (T.of (E.chain g1 g2 fa fb fc)) := by
  refine (pt_chain ho ho' ha hb hc hm).imp fun σ H Q h => ?_
  obtain ⟨ρ, F, hR, hS, hP⟩ := h
  refine chain_does ⟨ρ, F, hR, hS, Post.bind hP fun x d F1 H1 e1 r1 p1 => ?_⟩
  rcases asB_cases d with ⟨b, rfl, e⟩ | e
  · rw [e] at p1
    cases r1
    exact ⟨b, rfl, p1.here e1.sub rfl⟩
  · rw [e] at p1; exact p1.elim
end

/-! ### arguments -/
namespace A
def nil : En → R (List D) := fun _ => .ok []
def cons (f : En → R D) (g : En → R (List D)) : En → R (List D) := fun ρ => (f ρ).bind fun d => (g ρ).bind fun ds => .ok (d :: ds)
end A
section
variable {X : Cx} {W : WX} {e : Expr} {es : List Expr} {f : En → R D} {fs : En → R (List D)} {pos : Pos}
theorem pxa_nil : PXA X W [] A.nil := pa_nil.imp fun σ H Q ⟨ρ, F, hR, hS, hP⟩ => hP.here hS .nil
theorem pxa_cons (ha : PX X W e f) (hr : PXA X W es fs) (hs : starEach (e :: es) X.env = (false, eval e X.env) :: starEach es X.env := by rfl) : PXA X W (e :: es) (A.cons f fs) := by
  refine (pa_cons ha hr hs).imp fun σ H Q ⟨ρ, F, hR, hS, hP⟩ => ?_
  refine ⟨ρ, F, hR, hS, Post.bind hP fun x dx F1 H1 e1 r1 p1 => ?_⟩
  refine ⟨ρ, F1, hR.mono e1.sF, e1.sub, Post.bind p1 fun y dy F2 H2 e2 r2 p2 => ?_⟩
  exact p2.here e2.sub (.cons (r1.mono e2.sF) r2)
end
end PV

/-! P1: the operators on data. -/
namespace PV
open PySem PySem.Spec L2
open PyProof.Rows hiding St

theorem sz : sizeLine = 16777216 := sizeLine_eq
/-- the script read as a list -/
def unscr : D → D
  | .dict [(.none, .list ds)] => .list ds
  | d => d
def okD (a b : D) : Bool := a.plain && b.plain && decide (min a.depth b.depth ≤ 60)

theorem unscr_dp {K : PySem.W.Frag} {H : Hp} {d : D} {v : V} (p : (unscr d).plain = true) (h : Rp K H v d) : Dp K H v (unscr d) := by
  cases h with
  | scr q => exact .lst q (RpAll.dp _ _ (by simpa only [unscr, scr, PyData.plain] using p) (RpAll.ints _))
  | non => exact .non
  | bl b => exact .bl b
  | int i => exact .int i
  | str x => exact .str x
  | lst q z r => exact Rp.dp _ _ p (.lst q z r)
  | tup q z r => exact Rp.dp _ _ p (.tup q z r)
  | exn => simp [unscr, PyData.plain] at p
section
variable {X : Cx} {pins : List (Addr × Obj)} {s : Shared} {σ : St} {F H : Hp}
theorem reads_of (I : Inv X pins σ H s) (hS : Same F H) {d : D} {v : V} {u : Value} (p : d.plain = true) (h : Rp X.K F v d) (r : RelV v u) : ∃ as, Reads s.heap u d as :=
  Dp.reads I d v u (Rp.dp d v p (h.mono hS)) r
theorem readsU_of (I : Inv X pins σ H s) (hS : Same F H) {d : D} {v : V} {u : Value} (p : (unscr d).plain = true) (h : Rp X.K F v d) (r : RelV v u) : ∃ as, Reads s.heap u (unscr d) as :=
  Dp.reads I _ v u (unscr_dp p (h.mono hS)) r
theorem readsAll_of (I : Inv X pins σ H s) (hS : Same F H) {ds : List D} {vs : List V} {us : List Value} (p : PyData.plainAll ds = true) (h : RpAll X.K F vs ds) (r : Vals vs us) : ∃ as, ReadsAll s.heap us ds as :=
  Dp.readsAll I ds vs us (RpAll.dp ds vs p (h.mono hS)) r
end

/-! ### arithmetic, + -/
def addD : D → D → Option D
  | .int i, .int j => some (.int (i + j))
  | .int i, .bool k => some (.int (i + b2i k))
  | .str a, .str b => if a.length + b.length ≤ 16777216 then some (.str (a ++ b)) else none
  | .list xs, .list ys => if xs.length + ys.length ≤ 16777216 then some (.list (xs ++ ys)) else none
  | .tuple xs, .tuple ys => if xs.length + ys.length ≤ 16777216 then some (.tuple (xs ++ ys)) else none
  | _, _ => none
def subD : D → D → Option D
  | .int i, .int j => some (.int (i - j))
  | _, _ => none
def mulD : D → D → Option D
  | .int i, .int j => if (-18446744073709551616 < i ∧ i < 18446744073709551616) ∨ (-18446744073709551616 < j ∧ j < 18446744073709551616) then some (.int (i * j)) else none
  | .list xs, .int k => if 0 ≤ k ∧ k ≤ 1000000 ∧ xs.length * k.toNat ≤ 16777216 then some (.list (List.replicate k.toNat xs).flatten) else none
  | _, _ => none
def fdivD : D → D → Option D
  | .int i, .int j => if 0 < j ∧ j ≤ 1000000000000000000 then some (.int (i / j)) else none
  | _, _ => none
def modD : D → D → Option D
  | .int i, .int j => if 0 < j then some (.int (i % j)) else none
  | _, _ => none
def powD : D → D → Option D
  | .int i, .int j => if 0 ≤ j ∧ j ≤ 1000000 ∧ i.natAbs < 1000 then some (.int (i ^ j.toNat)) else none
  | _, _ => none
def negD : D → Option D
  | .int i => some (.int (-i))
  | _ => none
section
variable {X : Cx}
theorem op_addD : OpR X (binaryOp .Add) (rOf X.K addD) := by
  rintro pins s σ H x y v u Q I rx ry ⟨F, dx, dy, dz, hS, r1, r2, e, k⟩
  unfold addD at e
  split at e
  · cases e; cases r1; cases r2
    exact op_add pins s σ H _ _ v u Q I rx ry ⟨_, _, rfl, rfl, k _ F H (.refl hS) (.int _)⟩
  · cases e; cases r1; cases r2
    exact op_add_ib pins s σ H _ _ v u Q I rx ry ⟨_, _, rfl, rfl, k _ F H (.refl hS) (.int _)⟩
  · split at e
    · cases e; cases r1; cases r2
      exact op_add_str pins s σ H _ _ v u Q I rx ry ⟨_, _, rfl, rfl, by rw [sz]; assumption, k _ F H (.refl hS) (.str _)⟩
    · cases e
  · split at e
    · cases e
      cases r1 with
      | lst q1 z1 a1 => cases r2 with
        | lst q2 z2 a2 =>
          rename_i xs ys hz _ vs1 _ vs2
          have hz' : vs1.length + vs2.length ≤ sizeLine := by rw [a1.length, a2.length, sz]; exact hz
          refine op_cat pins s σ H _ _ v u Q I rx ry ⟨_, _, _, _, rfl, rfl, hS _ _ q1, hS _ _ q2, hz', fun p hp => ?_⟩
          exact k _ _ _ (.new hS hp) (.lst upd_same (by rw [List.length_append]; exact hz') ((a1.append a2).mono (same_upd (same_none hS hp))))
    · cases e
  · split at e
    · cases e
      cases r1 with
      | tup q1 z1 a1 => cases r2 with
        | tup q2 z2 a2 =>
          rename_i xs ys hz _ vs1 _ vs2
          have hz' : vs1.length + vs2.length ≤ sizeLine := by rw [a1.length, a2.length, sz]; exact hz
          refine op_catA pins s σ H _ _ v u Q I rx ry ⟨_, _, _, _, rfl, rfl, SqT.of (hS _ _ q1), SqT.of (hS _ _ q2), hz', fun e => ?_, fun e1 e => ?_, fun _ _ p hp => ?_⟩
          · subst e; cases a1
            exact k _ F H (.refl hS) (.tup q2 z2 a2)
          · subst e; cases a2
            exact k _ F H (.refl hS) (by rw [List.append_nil]; exact .tup q1 z1 a1)
          · exact k _ _ _ (.new hS hp) (.tup upd_same (by rw [List.length_append]; exact hz') ((a1.append a2).mono (same_upd (same_none hS hp))))
    · cases e
  · cases e
theorem op_subD : OpR X (binaryOp .Sub) (rOf X.K subD) := by
  rintro pins s σ H x y v u Q I rx ry ⟨F, dx, dy, dz, hS, r1, r2, e, k⟩
  unfold subD at e
  split at e
  · cases e; cases r1; cases r2
    exact op_sub pins s σ H _ _ v u Q I rx ry ⟨_, _, rfl, rfl, k _ F H (.refl hS) (.int _)⟩
  · cases e
theorem RpAll.rep {K : PySem.W.Frag} {F : Hp} {vs : List V} {ds : List D} (h : RpAll K F vs ds) : ∀ n : Nat, RpAll K F (List.replicate n vs).flatten (List.replicate n ds).flatten
  | 0 => .nil
  | n + 1 => by rw [List.replicate_succ, List.replicate_succ, List.flatten_cons, List.flatten_cons]; exact h.append (RpAll.rep h n)
theorem op_mulD : OpR X (binaryOp .Mult) (rOf X.K mulD) := by
  rintro pins s σ H x y v u Q I rx ry ⟨F, dx, dy, dz, hS, r1, r2, e, k⟩
  unfold mulD at e
  split at e
  · split at e
    · cases e; cases r1; cases r2
      rename_i h
      exact op_mul pins s σ H _ _ v u Q I rx ry ⟨_, _, rfl, rfl, (by unfold CMul; exact h), k _ F H (.refl hS) (.int _)⟩
    · cases e
  · split at e
    · cases e; cases r2
      cases r1 with
      | lst q1 z1 a1 =>
        rename_i xs kk hz _ vs1
        have hz' : vs1.length * kk.toNat ≤ sizeLine := by rw [a1.length, sz]; exact hz.2.2
        refine op_rep pins s σ H _ _ v u Q I rx ry ⟨_, _, _, rfl, rfl, hS _ _ q1, by omega, by omega, hz', fun p hp => ?_⟩
        exact k _ _ _ (.new hS hp) (.lst upd_same (by rw [PyProof.Rows.lm_len_rep_flat, Nat.mul_comm]; exact hz') ((a1.rep _).mono (same_upd (same_none hS hp))))
    · cases e
  · cases e
theorem op_fdivD : OpR X (binaryOp .FloorDiv) (rOf X.K fdivD) := by
  rintro pins s σ H x y v u Q I rx ry ⟨F, dx, dy, dz, hS, r1, r2, e, k⟩
  unfold fdivD at e
  split at e
  · split at e
    · cases e; cases r1; cases r2
      rename_i h
      refine op_fdivW pins s σ H _ _ v u Q I rx ry ⟨_, _, rfl, rfl, wide_div (b := 60) h.1 ?_ (by decide) (by decide), k _ F H (.refl hS) (.int _)⟩
      have e60 : (2 : Nat) ^ 60 = 1152921504606846976 := by decide
      rw [e60]; omega
    · cases e
  · cases e
theorem op_modD : OpR X (binaryOp .Mod) (rOf X.K modD) := by
  rintro pins s σ H x y v u Q I rx ry ⟨F, dx, dy, dz, hS, r1, r2, e, k⟩
  unfold modD at e
  split at e
  · split at e
    · cases e; cases r1; cases r2
      exact op_mod pins s σ H _ _ v u Q I rx ry ⟨_, _, rfl, rfl, by assumption, k _ F H (.refl hS) (.int _)⟩
    · cases e
  · cases e
theorem op_powD : OpR X (binaryOp .Pow) (rOf X.K powD) := by
  rintro pins s σ H x y v u Q I rx ry ⟨F, dx, dy, dz, hS, r1, r2, e, k⟩
  unfold powD at e
  split at e
  · split at e
    · cases e; cases r1; cases r2
      rename_i h
      refine op_pow pins s σ H _ _ v u Q I rx ry ⟨_, _, rfl, rfl, ⟨h.1, h.2.1, ?_⟩, k _ F H (.refl hS) (.int _)⟩
      have e64 : (2 : Nat) ^ 64 = 18446744073709551616 := by decide
      rw [e64]; omega
    · cases e
  · cases e
theorem un_negD : UnR X (unaryOp .USub) (uOf X.K negD) := by
  rintro pins s σ H x v Q I rx ⟨F, dx, dz, hS, r1, e, k⟩
  unfold negD at e
  split at e
  · cases e; cases r1
    exact un_neg pins s σ H _ v Q I rx ⟨_, rfl, k _ F H (.refl hS) (.int _)⟩
  · cases e
end

/-! ### comparisons -/
def eqD (a b : D) : Option D := if okD (unscr a) (unscr b) = true then some (.bool (PyData.eqv (unscr a) (unscr b))) else none
def neD (a b : D) : Option D := if okD (unscr a) (unscr b) = true then some (.bool (!PyData.eqv (unscr a) (unscr b))) else none
def notNone : D → Bool
  | .none => false
  | _ => true
def cmpOk (a b : D) : Bool := okD a b && PySem.W.alike a b && notNone a
def ltD : D → D → Option D
  | .int i, .int j => some (.bool (decide (i < j)))
  | a, b => if cmpOk a b = true then some (.bool (PySem.W.dataLt a b)) else none
def gtD : D → D → Option D
  | .int i, .int j => some (.bool (decide (j < i)))
  | a, b => if cmpOk a b = true then some (.bool (PySem.W.dataLt b a)) else none
def leD : D → D → Option D
  | .int i, .int j => some (.bool (decide (i ≤ j)))
  | a, b => if cmpOk a b = true then some (.bool (!PySem.W.dataLt b a)) else none
def geD : D → D → Option D
  | .int i, .int j => some (.bool (decide (j ≤ i)))
  | a, b => if cmpOk a b = true then some (.bool (!PySem.W.dataLt a b)) else none
/-- x in a list, a tuple; a sign in a text -/
def inB (x : D) : D → Option Bool
  | .list ds => if PyData.plainAll ds && x.plain && decide (min (PyData.depthAll ds) x.depth ≤ 60) then some (ds.any fun y => PyData.eqv y x) else none
  | .tuple ds => if PyData.plainAll ds && x.plain && decide (min (PyData.depthAll ds) x.depth ≤ 60) then some (ds.any fun y => PyData.eqv y x) else none
  | .str z => match x with
    | .str y => match y.cps.toList with
      | [c] => some (decide (c ∈ z.cps.toList))
      | _ => none
    | _ => none
  | _ => none
def inD (x c : D) : Option D := (inB x c).map .bool
def notInD (x c : D) : Option D := (inB x c).map fun b => .bool (!b)
def isD : D → D → Option D
  | .bool a, .bool b => some (.bool (decide (a = b)))
  | .none, .none => some (.bool true)
  | .dict _, .none => some (.bool false)
  | .bool _, .none => some (.bool false)
  | .int _, .none => some (.bool false)
  | .str _, .none => some (.bool false)
  | .list _, .none => some (.bool false)
  | .tuple _, .none => some (.bool false)
  | _, _ => none
def isNotD : D → D → Option D
  | .bool a, .bool b => some (.bool (!decide (a = b)))
  | .none, .none => some (.bool false)
  | .dict _, .none => some (.bool true)
  | .bool _, .none => some (.bool true)
  | .int _, .none => some (.bool true)
  | .str _, .none => some (.bool true)
  | .list _, .none => some (.bool true)
  | .tuple _, .none => some (.bool true)
  | _, _ => none
section
variable {X : Cx}
theorem okD_and {a b : D} (h : okD a b = true) : a.plain = true ∧ b.plain = true ∧ min a.depth b.depth ≤ 60 := by
  unfold okD at h
  simp only [Bool.and_eq_true, decide_eq_true_eq] at h
  exact ⟨h.1.1, h.1.2, h.2⟩
theorem op_eqDD (hu : X.A.units + 64 < cLine) : OpR X (compareOp .Eq) (rOf X.K eqD) := by
  rintro pins s σ H x y v u Q I rx ry ⟨F, dx, dy, dz, hS, r1, r2, e, k⟩
  unfold eqD at e
  split at e
  · cases e
    rename_i h
    obtain ⟨p1, p2, hd⟩ := okD_and h
    obtain ⟨as, h1⟩ := readsU_of I hS p1 r1 rx
    obtain ⟨bs, h2⟩ := readsU_of I hS p2 r2 ry
    exact PySem.SeqAt.eq_plain h1 h2 p1 p2 (by omega) ⟨.bl _, H, I, rfl, k _ F H (.refl hS) (.bl _)⟩
  · cases e
theorem op_neDD (hu : X.A.units + 64 < cLine) : OpR X (compareOp .NotEq) (rOf X.K neD) := by
  rintro pins s σ H x y v u Q I rx ry ⟨F, dx, dy, dz, hS, r1, r2, e, k⟩
  unfold neD at e
  split at e
  · cases e
    rename_i h
    obtain ⟨p1, p2, hd⟩ := okD_and h
    obtain ⟨as, h1⟩ := readsU_of I hS p1 r1 rx
    obtain ⟨bs, h2⟩ := readsU_of I hS p2 r2 ry
    exact PySem.SeqAt.ne_plain h1 h2 p1 p2 (by omega) ⟨.bl _, H, I, rfl, k _ F H (.refl hS) (.bl _)⟩
  · cases e
theorem cmpOk_and {a b : D} (h : cmpOk a b = true) : a.plain = true ∧ b.plain = true ∧ min a.depth b.depth ≤ 60 ∧ PySem.W.alike a b = true ∧ a ≠ .none := by
  unfold cmpOk at h
  simp only [Bool.and_eq_true] at h
  obtain ⟨p, q, r⟩ := okD_and h.1.1
  exact ⟨p, q, r, h.1.2, fun z => by rw [z] at h; exact absurd h.2 (by decide)⟩
theorem op_ltD (hu : X.A.units + 64 < cLine) : OpR X (compareOp .Lt) (rOf X.K ltD) := by
  rintro pins s σ H x y v u Q I rx ry ⟨F, dx, dy, dz, hS, r1, r2, e, k⟩
  unfold ltD at e
  split at e
  · cases e; cases r1; cases r2
    exact op_lt pins s σ H _ _ v u Q I rx ry ⟨_, _, rfl, rfl, k _ F H (.refl hS) (.bl _)⟩
  · split at e
    · cases e
      rename_i h
      obtain ⟨p1, p2, hd, ha, hn⟩ := cmpOk_and h
      obtain ⟨as, h1⟩ := reads_of I hS p1 r1 rx
      obtain ⟨bs, h2⟩ := reads_of I hS p2 r2 ry
      exact PySem.W.lt_data h1 h2 ha hn (by omega) ⟨.bl _, H, I, rfl, k _ F H (.refl hS) (.bl _)⟩
    · cases e
theorem op_gtD (hu : X.A.units + 64 < cLine) : OpR X (compareOp .Gt) (rOf X.K gtD) := by
  rintro pins s σ H x y v u Q I rx ry ⟨F, dx, dy, dz, hS, r1, r2, e, k⟩
  unfold gtD at e
  split at e
  · cases e; cases r1; cases r2
    exact op_gt pins s σ H _ _ v u Q I rx ry ⟨_, _, rfl, rfl, k _ F H (.refl hS) (.bl _)⟩
  · split at e
    · cases e
      rename_i h
      obtain ⟨p1, p2, hd, ha, hn⟩ := cmpOk_and h
      obtain ⟨as, h1⟩ := reads_of I hS p1 r1 rx
      obtain ⟨bs, h2⟩ := reads_of I hS p2 r2 ry
      exact PySem.W.gt_data h1 h2 ha hn (by omega) ⟨.bl _, H, I, rfl, k _ F H (.refl hS) (.bl _)⟩
    · cases e
theorem op_leD (hu : X.A.units + 64 < cLine) : OpR X (compareOp .LtE) (rOf X.K leD) := by
  rintro pins s σ H x y v u Q I rx ry ⟨F, dx, dy, dz, hS, r1, r2, e, k⟩
  unfold leD at e
  split at e
  · cases e; cases r1; cases r2
    exact op_le pins s σ H _ _ v u Q I rx ry ⟨_, _, rfl, rfl, k _ F H (.refl hS) (.bl _)⟩
  · split at e
    · cases e
      rename_i h
      obtain ⟨p1, p2, hd, ha, hn⟩ := cmpOk_and h
      obtain ⟨as, h1⟩ := reads_of I hS p1 r1 rx
      obtain ⟨bs, h2⟩ := reads_of I hS p2 r2 ry
      exact PySem.W.le_data h1 h2 ha hn (by omega) ⟨.bl _, H, I, rfl, k _ F H (.refl hS) (.bl _)⟩
    · cases e
theorem op_geD (hu : X.A.units + 64 < cLine) : OpR X (compareOp .GtE) (rOf X.K geD) := by
  rintro pins s σ H x y v u Q I rx ry ⟨F, dx, dy, dz, hS, r1, r2, e, k⟩
  unfold geD at e
  split at e
  · cases e; cases r1; cases r2
    exact op_ge pins s σ H _ _ v u Q I rx ry ⟨_, _, rfl, rfl, k _ F H (.refl hS) (.bl _)⟩
  · split at e
    · cases e
      rename_i h
      obtain ⟨p1, p2, hd, ha, hn⟩ := cmpOk_and h
      obtain ⟨as, h1⟩ := reads_of I hS p1 r1 rx
      obtain ⟨bs, h2⟩ := reads_of I hS p2 r2 ry
      exact PySem.W.ge_data h1 h2 ha hn (by omega) ⟨.bl _, H, I, rfl, k _ F H (.refl hS) (.bl _)⟩
    · cases e
theorem sign_of {y : Str} {c : Nat} (h : y.cps.toList = [c]) : y = ⟨#[c]⟩ := by
  obtain ⟨⟨l⟩⟩ := y
  have h' : l = [c] := h
  rw [h']
theorem op_inD (hu : X.A.units + 64 < cLine) : OpR X (compareOp .In) (rOf X.K inD) := by
  rintro pins s σ H x y v u Q I rx ry ⟨F, dx, dy, dz, hS, r1, r2, e, k⟩
  unfold inD inB at e
  split at e
  · split at e
    · cases e
      rename_i h
      simp only [Bool.and_eq_true, decide_eq_true_eq] at h
      obtain ⟨as, h1⟩ := reads_of I hS h.1.2 r1 rx
      obtain ⟨bs, h2⟩ := reads_of I hS (by simp only [PyData.plain]; exact h.1.1) r2 ry
      exact PySem.SeqAt.in_list_data h2 h1 h.1.1 h.1.2 (by omega) ⟨.bl _, H, I, rfl, k _ F H (.refl hS) (.bl _)⟩
    · cases e
  · split at e
    · cases e
      rename_i h
      simp only [Bool.and_eq_true, decide_eq_true_eq] at h
      obtain ⟨as, h1⟩ := reads_of I hS h.1.2 r1 rx
      obtain ⟨bs, h2⟩ := reads_of I hS (by simp only [PyData.plain]; exact h.1.1) r2 ry
      exact PySem.SeqAt.in_tuple_data h2 h1 h.1.1 h.1.2 (by omega) ⟨.bl _, H, I, rfl, k _ F H (.refl hS) (.bl _)⟩
    · cases e
  · split at e
    · split at e
      · cases e; cases r1; cases r2
        rename_i hc
        have hy := sign_of hc
        subst hy
        exact op_in_sign pins s σ H _ _ v u Q I rx ry ⟨_, _, rfl, rfl, k _ F H (.refl hS) (.bl _)⟩
      · cases e
    · cases e
  · cases e
theorem op_notInDD (hu : X.A.units + 64 < cLine) : OpR X (compareOp .NotIn) (rOf X.K notInD) := by
  rintro pins s σ H x y v u Q I rx ry ⟨F, dx, dy, dz, hS, r1, r2, e, k⟩
  unfold notInD inB at e
  split at e
  · split at e
    · cases e
      rename_i h
      simp only [Bool.and_eq_true, decide_eq_true_eq] at h
      obtain ⟨as, h1⟩ := reads_of I hS h.1.2 r1 rx
      obtain ⟨bs, h2⟩ := reads_of I hS (by simp only [PyData.plain]; exact h.1.1) r2 ry
      exact PySem.SeqAt.notIn_list_data h2 h1 h.1.1 h.1.2 (by omega) ⟨.bl _, H, I, rfl, k _ F H (.refl hS) (.bl _)⟩
    · cases e
  · split at e
    · cases e
      rename_i h
      simp only [Bool.and_eq_true, decide_eq_true_eq] at h
      obtain ⟨as, h1⟩ := reads_of I hS h.1.2 r1 rx
      obtain ⟨bs, h2⟩ := reads_of I hS (by simp only [PyData.plain]; exact h.1.1) r2 ry
      exact PySem.SeqAt.notIn_tuple_data h2 h1 h.1.1 h.1.2 (by omega) ⟨.bl _, H, I, rfl, k _ F H (.refl hS) (.bl _)⟩
    · cases e
  · split at e
    · split at e
      · cases e; cases r1; cases r2
        rename_i hc
        have hy := sign_of hc
        subst hy
        exact op_notIn_sign pins s σ H _ _ v u Q I rx ry ⟨_, _, rfl, rfl, k _ F H (.refl hS) (.bl _)⟩
      · cases e
    · cases e
  · cases e
theorem op_isDD : OpR X (compareOp .Is) (rOf X.K isD) := by
  rintro pins s σ H x y v u Q I rx ry ⟨F, dx, dy, dz, hS, r1, r2, e, k⟩
  unfold isD at e
  split at e
  · cases e; cases r1; cases r2
    exact op_is_bl pins s σ H _ _ v u Q I rx ry ⟨_, _, rfl, rfl, k _ F H (.refl hS) (.bl _)⟩
  · cases e; cases r1; cases r2
    exact op_isN pins s σ H _ _ v u Q I rx ry ⟨rfl, k _ F H (.refl hS) (.bl _)⟩
  all_goals first
    | (cases e; cases r1 <;> (cases r2; exact op_isN pins s σ H _ _ v u Q I rx ry ⟨rfl, k _ F H (.refl hS) (.bl false)⟩))
    | cases e
theorem op_isNotDD : OpR X (compareOp .IsNot) (rOf X.K isNotD) := by
  rintro pins s σ H x y v u Q I rx ry ⟨F, dx, dy, dz, hS, r1, r2, e, k⟩
  unfold isNotD at e
  split at e
  · cases e; cases r1; cases r2
    exact op_isnot_bl pins s σ H _ _ v u Q I rx ry ⟨_, _, rfl, rfl, k _ F H (.refl hS) (.bl _)⟩
  · cases e; cases r1; cases r2
    exact op_notN pins s σ H _ _ v u Q I rx ry ⟨rfl, k _ F H (.refl hS) (.bl _)⟩
  all_goals first
    | (cases e; cases r1 <;> (cases r2; exact op_notN pins s σ H _ _ v u Q I rx ry ⟨rfl, k _ F H (.refl hS) (.bl true)⟩))
    | cases e
end

/-! ### x[i], x[lo:hi] -/
def ixD : D → D → Option D
  | .list ds, .int i => atI ds i
  | .tuple ds, .int i => atI ds i
  | .str z, .int i => if z.length ≤ 16777216 then (atI z.cps.toList i).map fun c => .str ⟨#[c]⟩ else none
  | .dict [(.none, .list ds)], .int i => atI ds i
  | _, _ => none
theorem RpAll.atI {K : PySem.W.Frag} {F : Hp} {vs : List V} {ds : List D} (h : RpAll K F vs ds) {i : Int} {d : D} (e : L2.atI ds i = some d) : ∃ v, L2.atI vs i = some v ∧ Rp K F v d := by
  unfold L2.atI at e ⊢
  rw [h.length]
  cases q : ixN ds.length i with
  | none => rw [q] at e; cases e
  | some j =>
    rw [q] at e
    exact h.get' e
section
variable {X : Cx} {W : WX} {a b : Expr} {fa fb : En → R D} {pos : Pos}
theorem ix_D : IxR X (rOf X.K ixD) := by
  rintro value slice pins s σ H x y v u Q I rx ry ⟨F, dx, dy, dz, hS, r1, r2, e, k⟩ hs
  unfold ixD at e
  split at e
  · cases r2
    cases r1 with
    | lst q1 z1 a1 =>
      obtain ⟨w, h1, h2⟩ := a1.atI e
      exact ix_list value slice pins s σ H _ _ v u Q I rx ry ⟨_, _, _, w, rfl, rfl, SqL.of (hS _ _ q1), h1, k _ F H (.refl hS) h2⟩ hs
  · cases r2
    cases r1 with
    | tup q1 z1 a1 =>
      obtain ⟨w, h1, h2⟩ := a1.atI e
      exact ix_tup value slice pins s σ H _ _ v u Q I rx ry ⟨_, _, _, w, rfl, rfl, SqT.of (hS _ _ q1), h1, k _ F H (.refl hS) h2⟩ hs
  · split at e
    · rename_i z i hz
      cases r1; cases r2
      cases q : L2.atI z.cps.toList i with
      | none => rw [q] at e; cases e
      | some c =>
        rw [q] at e
        cases e
        exact ix_str value slice pins s σ H _ _ v u Q I rx ry ⟨_, _, c, rfl, rfl, by rw [sz]; exact hz, q, k _ F H (.refl hS) (.str _)⟩ hs
    · cases e
  · cases r2
    rename_i ds i
    generalize hd : (PyData.dict [(PyData.none, PyData.list ds)]) = d0 at r1
    cases r1 with
    | scr q =>
      rename_i a0 ns
      unfold scr at hd
      injection hd with hd
      injection hd with hd _
      injection hd with _ hd
      injection hd with hd
      subst hd
      obtain ⟨w, h1, h2⟩ := (RpAll.ints (K := X.K) (H := F) ns).atI e
      exact ix_list value slice pins s σ H _ _ v u Q I rx ry ⟨_, _, _, w, rfl, rfl, hS.seq q, h1, k _ F H (.refl hS) h2⟩ hs
    | _ => cases hd
  · cases e
theorem px_ix (ha : PX X W a fa) (hb : PX X W b fb) (hs : PlainIx b := by exact fun _ _ => rfl) : PX X W (.Subscript a b pos) (E.op2 ixD fa fb) :=
  (pe_ix ix_D ha hb hs).imp fun _ _ _ h => bin_does (fun _ _ _ _ h => h) h
end
def cutL {α : Type} (xs : List α) (lo hi : Option Int) : List α := (xs.drop (HT.sIx xs.length 0 lo)).take (HT.sIx xs.length xs.length hi - HT.sIx xs.length 0 lo)
theorem cutL_whole {α : Type} (xs : List α) (lo hi : Option Int) (h : HT.sIx xs.length 0 lo = 0 ∧ HT.sIx xs.length xs.length hi = xs.length) : cutL xs lo hi = xs := by
  unfold cutL
  rw [h.1, h.2]
  simp
theorem RpAll.cut {K : PySem.W.Frag} {F : Hp} {vs : List V} {ds : List D} (h : RpAll K F vs ds) (lo hi : Option Int) : RpAll K F (cutV vs lo hi) (cutL ds lo hi) := by
  unfold cutV cutL
  rw [h.length]
  exact (h.drop _).take _
def sliceD : D → Option Int → Option Int → Option D
  | .list ds, lo, hi => some (.list (cutL ds lo hi))
  | .tuple ds, lo, hi => some (.tuple (cutL ds lo hi))
  | .str z, lo, hi => if z.length ≤ 16777216 then some (.str (cutS z lo hi)) else none
  | _, _, _ => none
section
variable {X : Cx} {W : WX} {a : Expr} {lo hi : Option Expr} {fa : En → R D} {pos p2 : Pos}
def slOf (K : PySem.W.Frag) (g : D → Option Int → Option Int → Option D) : V → Option Int → Option Int → Hp → VK → Prop := fun x lo hi H Q =>
  ∃ F dx dz, Same F H ∧ Rp K F x dx ∧ g dx lo hi = some dz ∧ ∀ v F' H', Ext F H F' H' → Rp K F' v dz → Q v H'
theorem sl_D : SlR X (slOf X.K sliceD) := by
  rintro pins s σ H x v vl vu lo hi sl Q I rx hs pl pu ⟨F, dx, dz, hS, r1, e, k⟩
  unfold sliceD at e
  split at e
  · cases e
    cases r1 with
    | lst q1 z1 a1 =>
      refine sl_list pins s σ H _ v vl vu lo hi sl Q I rx hs pl pu ⟨_, _, rfl, SqL.of (hS _ _ q1), fun p hp => ?_⟩
      exact k _ _ _ (.new hS hp) (.lst upd_same (Nat.le_trans (cutV_length _ _ _) z1) ((a1.cut lo hi).mono (same_upd (same_none hS hp))))
  · cases e
    cases r1 with
    | tup q1 z1 a1 =>
      refine sl_tupA pins s σ H _ v vl vu lo hi sl Q I rx hs pl pu ⟨_, _, rfl, SqT.of (hS _ _ q1), fun w => ?_, fun w p hp => ?_⟩
      · rw [a1.length] at w
        exact k _ F H (.refl hS) (by rw [cutL_whole _ _ _ w]; exact .tup q1 z1 a1)
      · exact k _ _ _ (.new hS hp) (.tup upd_same (Nat.le_trans (cutV_length _ _ _) z1) ((a1.cut lo hi).mono (same_upd (same_none hS hp))))
  · split at e
    · cases e; cases r1
      exact sl_str pins s σ H _ v vl vu lo hi sl Q I rx hs pl pu ⟨_, rfl, by rw [sz]; assumption, k _ F H (.refl hS) (.str _)⟩
    · cases e
  · cases e
/-- a part of a slice -/
def tOfO (K : PySem.W.Frag) (mg : Str → Option Value) (W : WX) (f : En → R (Option Int)) : TO := fun σ H Q => ∃ ρ F, RelE K ρ σ F ∧ Same F H ∧ Post (fun _ (x y : Option Int) => x = y) mg (fun c d H' => W c d σ H') F H (f ρ) Q
def PXO (X : Cx) (W : WX) (e : Option Expr) (f : En → R (Option Int)) : Prop := PO X e (tOfO X.K X.mg W f)
theorem _root_.L2.PO.imp {X : Cx} {e : Option Expr} {t t' : TO} (h : PO X e t) (k : ∀ σ H Q, t' σ H Q → t σ H Q) : PO X e t' := ⟨fun pins s σ H Q I q => h.run pins s σ H Q I (k σ H Q q)⟩
def asI : D → R Int
  | .int i => .ok i
  | _ => .stuck
namespace O
def non : En → R (Option Int) := fun _ => .ok none
def som (f : En → R D) : En → R (Option Int) := fun ρ => (f ρ).bind fun d => (asI d).bind fun i => .ok (some i)
end O
theorem pxo_none : PXO X W none O.non := po_none.imp fun σ H Q ⟨ρ, F, hR, hS, hP⟩ => hP.here hS rfl
theorem pxo_some {e : Expr} {f : En → R D} (h : PX X W e f) : PXO X W (some e) (O.som f) := by
  refine (po_some h).imp fun σ H Q ⟨ρ, F, hR, hS, hP⟩ => ?_
  refine ⟨ρ, F, hR, hS, Post.bind hP fun x dx F1 H1 e1 r1 p1 => ?_⟩
  cases dx with
  | int i => cases r1; exact ⟨i, rfl, Post.here (rel := fun _ (x y : Option Int) => x = y) e1.sub p1 rfl⟩
  | _ => exact p1.elim
namespace E
def slice (f : En → R D) (l h : En → R (Option Int)) : En → R D := fun ρ => (f ρ).bind fun d => (l ρ).bind fun lo => (h ρ).bind fun hi => R.ofO (sliceD d lo hi)
end E
theorem px_slice {fl fh : En → R (Option Int)} (ha : PX X W a fa) (hl : PXO X W lo fl) (hh : PXO X W hi fh) : PX X W (.Subscript a (.Slice lo hi none p2) pos) (E.slice fa fl fh) := by
  refine (pe_slice sl_D ha hl hh).imp fun σ H Q ⟨ρ, F, hR, hS, hP⟩ => ?_
  refine ⟨ρ, F, hR, hS, Post.bind hP fun x dx F1 H1 e1 r1 p1 => ?_⟩
  refine ⟨ρ, F1, hR.mono e1.sF, e1.sub, Post.bind p1 fun l l' F2 H2 e2 r2 p2 => ?_⟩
  have r2 : l = l' := r2
  subst r2
  refine ⟨ρ, F2, hR.mono (e1.sF.trans e2.sF), e2.sub, Post.bind p2 fun h h' F3 H3 e3 r3 p3 => ?_⟩
  have r3 : h = h' := r3
  subst r3
  cases q : sliceD dx l h with
  | none => rw [q] at p3; exact p3.elim
  | some dz =>
    rw [q] at p3
    exact ⟨F3, dx, dz, e3.sub, r1.mono (e2.sF.trans e3.sF), q, p3⟩
end

/-! ### displays -/
namespace E
def tup (f : En → R (List D)) : En → R D := fun ρ => (f ρ).bind fun ds => if ds.length ≤ 16777216 then .ok (.tuple ds) else .stuck
def lst (f : En → R (List D)) : En → R D := fun ρ => (f ρ).bind fun ds => if ds.length ≤ 16777216 then .ok (.list ds) else .stuck
end E
section
variable {X : Cx} {W : WX} {es : List Expr} {f : En → R (List D)} {pos : Pos}
theorem px_tup {x1} (h : PXA X W es f) : PX X W (.Tuple es x1 pos) (E.tup f) := by
  refine (pe_tup h).imp fun σ H Q ⟨ρ, F, hR, hS, hP⟩ => ?_
  refine ⟨ρ, F, hR, hS, Post.bind hP fun xs ds F1 H1 e1 r1 p1 => ?_⟩
  have r1 : RpAll X.K F1 xs ds := r1
  by_cases hz : ds.length ≤ 16777216
  · rw [if_pos hz] at p1
    refine ⟨by rw [r1.length, sz]; exact hz, fun p hp => ?_⟩
    exact p1 _ _ _ (.new e1.sub hp) (.tup upd_same (by rw [r1.length, sz]; exact hz) (r1.mono (same_upd (same_none e1.sub hp))))
  · rw [if_neg hz] at p1; exact p1.elim
theorem px_lst (h : PXA X W es f) : PX X W (.List es pos) (E.lst f) := by
  refine (pe_lst h).imp fun σ H Q ⟨ρ, F, hR, hS, hP⟩ => ?_
  refine ⟨ρ, F, hR, hS, Post.bind hP fun xs ds F1 H1 e1 r1 p1 => ?_⟩
  have r1 : RpAll X.K F1 xs ds := r1
  by_cases hz : ds.length ≤ 16777216
  · rw [if_pos hz] at p1
    refine ⟨by rw [r1.length, sz]; exact hz, fun p hp => ?_⟩
    exact p1 _ _ _ (.new e1.sub hp) (.lst upd_same (by rw [r1.length, sz]; exact hz) (r1.mono (same_upd (same_none e1.sub hp))))
  · rw [if_neg hz] at p1; exact p1.elim
end
end PV

/-! P2: statements. A local that is changed in place is `own`. -/
namespace PV
open PySem PySem.Spec L2
open PyProof.Rows hiding St
open Classical in
noncomputable def hpIf (p : Prop) (a b : Option HO) : Option HO := if p then a else b
theorem hpIf_pos {p : Prop} {a b : Option HO} (h : p) : hpIf p a b = a := by unfold hpIf; rw [if_pos h]
theorem hpIf_neg {p : Prop} {a b : Option HO} (h : ¬ p) : hpIf p a b = b := by unfold hpIf; rw [if_neg h]

inductive B where
  | un
  | val (d : D)
  | own (ds : List D)
abbrev SE := List B
def B.v : B → Option D
  | .val d => some d
  | _ => none
def B.k : B → Option D
  | .val d => some d
  | .own ds => some (.list ds)
  | .un => none
def vals (ρ : SE) : En := ρ.map B.v
def peek (ρ : SE) : En := ρ.map B.k
theorem vals_get {ρ : SE} {i : Nat} {d : D} (h : (vals ρ)[i]? = some (some d)) : ρ[i]? = some (.val d) := by
  unfold vals at h
  rw [List.getElem?_map] at h
  cases q : ρ[i]? with
  | none => rw [q] at h; cases h
  | some b =>
    rw [q] at h
    cases b with
    | val d' => cases h; rfl
    | _ => cases h
theorem peek_get {ρ : SE} {i : Nat} {d : D} (h : (peek ρ)[i]? = some (some d)) : ρ[i]? = some (.val d) ∨ ∃ ds, d = .list ds ∧ ρ[i]? = some (.own ds) := by
  unfold peek at h
  rw [List.getElem?_map] at h
  cases q : ρ[i]? with
  | none => rw [q] at h; cases h
  | some b =>
    rw [q] at h
    cases b with
    | val d' => cases h; exact .inl rfl
    | own ds => cases h; exact .inr ⟨ds, rfl, rfl⟩
    | un => cases h

structure RelS (K : PySem.W.Frag) (ρ : SE) (σ : St) (F H F0 H0 : Hp) : Prop where
  len : σ.length = ρ.length
  val : ∀ (i : Nat) d, ρ[i]? = some (.val d) → ∃ v, σ[i]? = some (some v) ∧ Rp K F v d
  own : ∀ (i : Nat) ds, ρ[i]? = some (.own ds) → ∃ a xs, σ[i]? = some (some (.ref a)) ∧ F a = none ∧ H0 a = none ∧ H a = some (.lst xs) ∧ xs.length ≤ sizeLine ∧ RpAll K F xs ds
  dis : ∀ (i j : Nat) ds es a, i ≠ j → ρ[i]? = some (.own ds) → ρ[j]? = some (.own es) → σ[i]? = some (some (.ref a)) → σ[j]? ≠ some (some (.ref a))
  ext : Ext F0 H0 F H

section
variable {K : PySem.W.Frag} {ρ : SE} {σ : St} {F H F0 H0 F' H' : Hp}
theorem RelS.sub (r : RelS K ρ σ F H F0 H0) : Same F H := r.ext.sub
theorem RelS.grow (r : RelS K ρ σ F H F0 H0) (e : Ext F H F' H') : RelS K ρ σ F' H' F0 H0 where
  len := r.len
  val := fun i d h => by
    obtain ⟨v, h1, h2⟩ := r.val i d h
    exact ⟨v, h1, h2.mono e.sF⟩
  own := fun i ds h => by
    obtain ⟨a, xs, h1, h2, h3, h4, h5, h6⟩ := r.own i ds h
    exact ⟨a, xs, h1, e.sep a _ h4 h2, h3, e.sH _ _ h4, h5, h6.mono e.sF⟩
  dis := r.dis
  ext := r.ext.trans e
theorem RelS.relE (r : RelS K ρ σ F H F0 H0) : RelE K (vals ρ) σ F := ⟨by unfold vals; rw [List.length_map, r.len]; exact Nat.le_refl _, fun i d h => r.val i d (vals_get h)⟩
/-- seen from a later frozen part -/
theorem RelS.rebase (r : RelS K ρ σ F H F0 H0) : RelS K ρ σ F H F H0 := ⟨r.len, r.val, r.own, r.dis, ⟨Same.refl _, r.ext.sH, r.ext.sub, fun _ _ _ h => h⟩⟩
theorem RelS.unbase {F1 H1 : Hp} (b : Ext F0 H0 F1 H1) (r : RelS K ρ σ F H F1 H0) : RelS K ρ σ F H F0 H0 :=
  ⟨r.len, r.val, r.own, r.dis, ⟨b.sF.trans r.ext.sF, r.ext.sH, r.ext.sub, fun a o h1 h2 => r.ext.sep a o h1 (b.sep a o h1 h2)⟩⟩
theorem getElem?_set_cases {α : Type} {l : List α} {i j : Nat} {a b : α} (h : (l.set i a)[j]? = some b) : (i = j ∧ a = b ∧ i < l.length) ∨ (i ≠ j ∧ l[j]? = some b) := by
  by_cases e : i = j
  · subst e
    by_cases hl : i < l.length
    · rw [List.getElem?_set_self hl] at h
      cases h
      exact .inl ⟨rfl, rfl, hl⟩
    · rw [List.getElem?_eq_none (by simpa using hl)] at h
      cases h
  · rw [List.getElem?_set_ne e] at h
    exact .inr ⟨e, h⟩
theorem RelS.set (r : RelS K ρ σ F H F0 H0) {i : Nat} {v : V} {d : D} (q : Rp K F v d) : RelS K (ρ.set i (.val d)) (σ.set i (some v)) F H F0 H0 where
  len := by simpa using r.len
  val := fun j d' h => by
    rcases getElem?_set_cases h with ⟨rfl, e, hl⟩ | ⟨e, h⟩
    · cases e
      exact ⟨v, List.getElem?_set_self (by rw [r.len]; exact hl), q⟩
    · rw [List.getElem?_set_ne e]
      exact r.val j d' h
  own := fun j ds h => by
    rcases getElem?_set_cases h with ⟨_, e, _⟩ | ⟨e, h⟩
    · cases e
    · rw [List.getElem?_set_ne e]
      exact r.own j ds h
  dis := fun j k ds es a hjk h1 h2 h3 => by
    rcases getElem?_set_cases h1 with ⟨_, e, _⟩ | ⟨e1, h1⟩
    · cases e
    · rcases getElem?_set_cases h2 with ⟨_, e, _⟩ | ⟨e2, h2⟩
      · cases e
      · rw [List.getElem?_set_ne e1] at h3
        rw [List.getElem?_set_ne e2]
        exact r.dis j k ds es a hjk h1 h2 h3
  ext := r.ext
theorem RelS.unset (r : RelS K ρ σ F H F0 H0) {i : Nat} {o : Option V} : RelS K (ρ.set i .un) (σ.set i o) F H F0 H0 where
  len := by simpa using r.len
  val := fun j d' h => by
    rcases getElem?_set_cases h with ⟨_, e, hl⟩ | ⟨e, h⟩
    · cases e
    · rw [List.getElem?_set_ne e]
      exact r.val j d' h
  own := fun j ds h => by
    rcases getElem?_set_cases h with ⟨_, e, _⟩ | ⟨e, h⟩
    · cases e
    · rw [List.getElem?_set_ne e]
      exact r.own j ds h
  dis := fun j k ds es a hjk h1 h2 h3 => by
    rcases getElem?_set_cases h1 with ⟨_, e, _⟩ | ⟨e1, h1⟩
    · cases e
    · rcases getElem?_set_cases h2 with ⟨_, e, _⟩ | ⟨e2, h2⟩
      · cases e
      · rw [List.getElem?_set_ne e1] at h3
        rw [List.getElem?_set_ne e2]
        exact r.dis j k ds es a hjk h1 h2 h3
  ext := r.ext
/-- a new list, owned; all else is not at its address -/
theorem RelS.take (r : RelS K ρ σ F H F0 H0) {i : Nat} {b : Addr} {xs : List V} {ds : List D} (hF : F b = none) (h0 : H0 b = none) (hH : H b = some (.lst xs)) (hz : xs.length ≤ sizeLine) (q : RpAll K F xs ds)
    (hn : ∀ (j : Nat) es, ρ[j]? = some (.own es) → σ[j]? ≠ some (some (.ref b))) : RelS K (ρ.set i (.own ds)) (σ.set i (some (.ref b))) F H F0 H0 where
  len := by simpa using r.len
  val := fun j d' h => by
    rcases getElem?_set_cases h with ⟨_, e, hl⟩ | ⟨e, h⟩
    · cases e
    · rw [List.getElem?_set_ne e]
      exact r.val j d' h
  own := fun j ds' h => by
    rcases getElem?_set_cases h with ⟨rfl, e, hl⟩ | ⟨e, h⟩
    · cases e
      exact ⟨b, xs, List.getElem?_set_self (by rw [r.len]; exact hl), hF, h0, hH, hz, q⟩
    · rw [List.getElem?_set_ne e]
      exact r.own j ds' h
  dis := fun j k ds' es a hjk h1 h2 h3 => by
    rcases getElem?_set_cases h1 with ⟨rfl, e1, hl⟩ | ⟨e1, h1⟩
    · rcases getElem?_set_cases h2 with ⟨rfl, e2, _⟩ | ⟨e2, h2⟩
      · exact absurd rfl hjk
      · rw [List.getElem?_set_self (by rw [r.len]; exact hl)] at h3
        cases h3
        rw [List.getElem?_set_ne e2]
        exact hn k es h2
    · rcases getElem?_set_cases h2 with ⟨rfl, e2, hl⟩ | ⟨e2, h2⟩
      · rw [List.getElem?_set_ne e1] at h3
        rw [List.getElem?_set_self (by rw [r.len]; exact hl)]
        intro z
        cases z
        exact hn j ds' h1 h3
      · rw [List.getElem?_set_ne e1] at h3
        rw [List.getElem?_set_ne e2]
        exact r.dis j k ds' es a hjk h1 h2 h3
  ext := r.ext
/-- the owned list at slot i is changed -/
theorem RelS.write (r : RelS K ρ σ F H F0 H0) {i : Nat} {ds ds' : List D} {a : Addr} {xs' : List V} (hi : ρ[i]? = some (.own ds)) (ha : σ[i]? = some (some (.ref a))) (hz : xs'.length ≤ sizeLine) (q : RpAll K F xs' ds') :
    RelS K (ρ.set i (.own ds')) σ F (upd H a (.lst xs')) F0 H0 := by
  obtain ⟨a', xs, h1, h2, h3, h4, h5, h6⟩ := r.own i ds hi
  rw [ha] at h1; cases h1
  have hl : i < ρ.length := (List.getElem?_eq_some_iff.mp hi).1
  have nF : ∀ b o, F b = some o → b ≠ a := fun b o e z => by rw [z, h2] at e; cases e
  refine ⟨by simpa using r.len, fun j d' h => ?_, fun j es h => ?_, fun j k es gs b hjk e1 e2 e3 => ?_, ⟨r.ext.sF, fun b o e => ?_, fun b o e => ?_, r.ext.sep⟩⟩
  · rcases getElem?_set_cases h with ⟨_, e, _⟩ | ⟨e, h⟩
    · cases e
    · exact r.val j d' h
  · rcases getElem?_set_cases h with ⟨rfl, e, hl⟩ | ⟨e, h⟩
    · cases e
      exact ⟨a, xs', ha, h2, h3, upd_same, hz, q⟩
    · obtain ⟨b, ys, g1, g2, g3, g4, g5, g6⟩ := r.own j es h
      have nb : b ≠ a := fun z => by subst z; exact r.dis i j ds es b e hi h ha g1
      exact ⟨b, ys, g1, g2, g3, by rw [upd_ne nb]; exact g4, g5, g6⟩
  · have g : ∀ {m : Nat} {ts : List D}, (ρ.set i (.own ds'))[m]? = some (.own ts) → ∃ ts', ρ[m]? = some (.own ts') := fun {m ts} h => by
      rcases getElem?_set_cases h with ⟨rfl, _, _⟩ | ⟨_, h⟩
      · exact ⟨ds, hi⟩
      · exact ⟨ts, h⟩
    obtain ⟨es', e1⟩ := g e1
    obtain ⟨gs', e2⟩ := g e2
    exact r.dis j k es' gs' b hjk e1 e2 e3
  · rw [upd_ne (fun z => by rw [z, h3] at e; cases e)]
    exact r.ext.sH b o e
  · rw [upd_ne (nF b o e)]
    exact r.ext.sub b o e
/-- the owned list at slot i is frozen -/
theorem RelS.freeze (r : RelS K ρ σ F H F0 H0) {i : Nat} {ds : List D} (hi : ρ[i]? = some (.own ds)) : ∃ F', Same F F' ∧ RelS K (ρ.set i (.val (.list ds))) σ F' H F0 H0 := by
  obtain ⟨a, xs, h1, h2, h3, h4, h5, h6⟩ := r.own i ds hi
  have hl : i < ρ.length := (List.getElem?_eq_some_iff.mp hi).1
  have sF : Same F (upd F a (.lst xs)) := same_upd h2
  refine ⟨upd F a (.lst xs), sF, by simpa using r.len, fun j d' h => ?_, fun j es h => ?_, fun j k es gs b hjk e1 e2 e3 => ?_, ⟨r.ext.sF.trans sF, r.ext.sH, fun b o e => ?_, fun b o e1 e2 => ?_⟩⟩
  · rcases getElem?_set_cases h with ⟨rfl, e, _⟩ | ⟨e, h⟩
    · cases e
      exact ⟨.ref a, h1, .lst upd_same h5 (h6.mono sF)⟩
    · obtain ⟨v, g1, g2⟩ := r.val j d' h
      exact ⟨v, g1, g2.mono sF⟩
  · rcases getElem?_set_cases h with ⟨_, e, _⟩ | ⟨e, h⟩
    · cases e
    · obtain ⟨b, ys, g1, g2, g3, g4, g5, g6⟩ := r.own j es h
      have nb : b ≠ a := fun z => by subst z; exact r.dis i j ds es b e hi h h1 g1
      exact ⟨b, ys, g1, by rw [upd_ne nb]; exact g2, g3, g4, g5, g6.mono sF⟩
  · rcases getElem?_set_cases e1 with ⟨_, e, _⟩ | ⟨_, e1⟩
    · cases e
    · rcases getElem?_set_cases e2 with ⟨_, e, _⟩ | ⟨_, e2⟩
      · cases e
      · exact r.dis j k es gs b hjk e1 e2 e3
  · by_cases hb : b = a
    · subst hb; rw [upd_same] at e; cases e; exact h4
    · rw [upd_ne hb] at e; exact r.ext.sub b o e
  · rw [upd_ne (fun z => by rw [z, h3] at e1; cases e1)]
    exact r.ext.sep b o e1 e2
end

/-! ### looking at owned lists: the result holds no list -/
mutual
def nolist : D → Bool
  | .none => true
  | .bool _ => true
  | .int _ => true
  | .str _ => true
  | .list _ => false
  | .tuple ds => nolistAll ds
  | .dict _ => false
def nolistAll : List D → Bool
  | [] => true
  | d :: ds => nolist d && nolistAll ds
end
def Owned (ρ : SE) (σ : St) (a : Addr) : Prop := ∃ (i : Nat) (ds : List D), ρ[i]? = some (.own ds) ∧ σ[i]? = some (some (.ref a))
noncomputable def lookHp (ρ : SE) (σ : St) (F H : Hp) : Hp := fun a => hpIf (Owned ρ σ a) (H a) (F a)
noncomputable def backHp (ρ : SE) (σ : St) (F : Hp) : Hp := fun a => hpIf (Owned ρ σ a) none (F a)
section
variable {K : PySem.W.Frag} {ρ : SE} {σ : St} {F H F0 H0 F' H' : Hp}
mutual
theorem Rp.away {G G' : Hp} (k : ∀ b xs, G b = some (.tup xs) → G' b = some (.tup xs)) : ∀ (d : D) (v : V), nolist d = true → Rp K G v d → Rp K G' v d
  | .none, _, _, h => by cases h; exact .non
  | .bool b, _, _, h => by cases h; exact .bl b
  | .int i, _, _, h => by cases h; exact .int i
  | .str x, _, _, h => by cases h; exact .str x
  | .list ds, _, p, _ => by simp [nolist] at p
  | .tuple ds, _, p, h => by cases h with | tup q z r => exact .tup (k _ _ q) z (RpAll.away k ds _ (by simpa only [nolist] using p) r)
  | .dict _, _, p, _ => by simp [nolist] at p
theorem RpAll.away {G G' : Hp} (k : ∀ b xs, G b = some (.tup xs) → G' b = some (.tup xs)) : ∀ (ds : List D) (vs : List V), nolistAll ds = true → RpAll K G vs ds → RpAll K G' vs ds
  | [], _, _, h => by cases h; exact .nil
  | d :: ds, _, p, h => by
    simp only [nolistAll, Bool.and_eq_true] at p
    cases h with | cons q r => exact .cons (Rp.away k d _ p.1 q) (RpAll.away k ds _ p.2 r)
end
theorem RelS.notOwned (r : RelS K ρ σ F H F0 H0) {a : Addr} {o : HO} (e : F a = some o) : ¬ Owned ρ σ a := fun ⟨i, ds, h1, h2⟩ => by
  obtain ⟨b, xs, g1, g2, _⟩ := r.own i ds h1
  rw [h2] at g1; cases g1
  rw [g2] at e; cases e
theorem RelS.lookF (r : RelS K ρ σ F H F0 H0) : Same F (lookHp ρ σ F H) := fun a o e => by
  unfold lookHp
  rw [hpIf_neg (r.notOwned e)]
  exact e
theorem RelS.lookH (r : RelS K ρ σ F H F0 H0) : Same (lookHp ρ σ F H) H := fun a o e => by
  unfold lookHp at e
  by_cases h : Owned ρ σ a
  · rw [hpIf_pos h] at e; exact e
  · rw [hpIf_neg h] at e; exact r.sub a o e
theorem RelS.lookE (r : RelS K ρ σ F H F0 H0) : RelE K (peek ρ) σ (lookHp ρ σ F H) := by
  refine ⟨by unfold peek; rw [List.length_map, r.len]; exact Nat.le_refl _, fun i d h => ?_⟩
  rcases peek_get h with h' | ⟨ds, rfl, h'⟩
  · obtain ⟨v, g1, g2⟩ := r.val i d h'
    exact ⟨v, g1, g2.mono r.lookF⟩
  · obtain ⟨a, xs, g1, g2, g3, g4, g5, g6⟩ := r.own i ds h'
    refine ⟨.ref a, g1, .lst ?_ g5 (g6.mono r.lookF)⟩
    show hpIf _ _ _ = _
    rw [hpIf_pos ⟨i, ds, h', g1⟩]
    exact g4
theorem RelS.back (r : RelS K ρ σ F H F0 H0) (e : Ext (lookHp ρ σ F H) H F' H') : Ext F H (backHp ρ σ F') H' where
  sF := fun a o h => by
    unfold backHp
    rw [hpIf_neg (r.notOwned h)]
    exact e.sF a o (r.lookF a o h)
  sH := e.sH
  sub := fun a o h => by
    unfold backHp at h
    by_cases q : Owned ρ σ a
    · rw [hpIf_pos q] at h; cases h
    · rw [hpIf_neg q] at h; exact e.sub a o h
  sep := fun a o h1 h2 => by
    unfold backHp
    by_cases q : Owned ρ σ a
    · rw [hpIf_pos q]
    · rw [hpIf_neg q]
      refine e.sep a o h1 ?_
      show hpIf _ _ _ = _
      rw [hpIf_neg q]; exact h2
theorem RelS.backT (r : RelS K ρ σ F H F0 H0) (e : Ext (lookHp ρ σ F H) H F' H') : ∀ b xs, F' b = some (.tup xs) → (backHp ρ σ F') b = some (.tup xs) := fun b xs h => by
  unfold backHp
  rw [hpIf_neg ?_]
  · exact h
  · rintro ⟨i, ds, h1, h2⟩
    obtain ⟨a, ys, g1, g2, g3, g4, _⟩ := r.own i ds h1
    rw [h2] at g1; cases g1
    have q : (lookHp ρ σ F H) b = some (.lst ys) := by
      show hpIf _ _ _ = _
      rw [hpIf_pos ⟨i, ds, h1, h2⟩]; exact g4
    rw [e.sF _ _ q] at h; cases h
end

/-! ### an expression in a statement -/
/-- the reading, with the slots of a statement -/
def tEv {α β : Type} (rel : Hp → β → α → Prop) (K : PySem.W.Frag) (mg : Str → Option Value) (W : WX) (m : SE → R α) : St → Hp → (β → Hp → Prop) → Prop := fun σ H Q =>
  ∃ ρ F F0 H0, RelS K ρ σ F H F0 H0 ∧ Post rel mg (fun c d H' => W c d σ H') F H (m ρ) Q
def PXe (X : Cx) (W : WX) (e : Expr) (m : SE → R D) : Prop := PE X e (tEv (Rp X.K) X.K X.mg W m)
def PXeT (X : Cx) (W : WX) (e : Expr) (m : SE → R Bool) : Prop := PT X e (tEv RelB X.K X.mg W m)
namespace M
def v {α : Type} (f : En → R α) : SE → R α := fun ρ => f (vals ρ)
def k (f : En → R D) : SE → R D := fun ρ => (f (peek ρ)).bind fun d => if nolist d = true then .ok d else .stuck
def kt (f : En → R Bool) : SE → R Bool := fun ρ => f (peek ρ)
end M
section
variable {X : Cx} {W : WX} {e : Expr} {f : En → R D} {t : En → R Bool}
theorem px_v (h : PX X W e f) : PXe X W e (M.v f) := h.imp fun σ H Q ⟨ρ, F, F0, H0, r, p⟩ => ⟨vals ρ, F, r.relE, r.sub, p⟩
theorem pxt_v (h : PXT X W e t) : PXeT X W e (M.v t) := h.imp fun σ H Q ⟨ρ, F, F0, H0, r, p⟩ => ⟨vals ρ, F, r.relE, r.sub, p⟩
theorem px_k (h : PX X W e f) : PXe X W e (M.k f) := by
  refine h.imp fun σ H Q ⟨ρ, F, F0, H0, r, p⟩ => ⟨peek ρ, lookHp ρ σ F H, r.lookE, r.lookH, ?_⟩
  unfold M.k at p
  cases q : f (peek ρ) with
  | ok d =>
    rw [q, R.bind_ok] at p
    by_cases hn : nolist d = true
    · rw [if_pos hn] at p
      exact fun v F' H' e' rv => p v _ H' (r.back e') (Rp.away (r.backT e') d v hn rv)
    · rw [if_neg hn] at p; exact p.elim
  | exc c =>
    rw [q] at p
    exact fun C F' H' m e' => p C _ H' m (r.back e')
  | stuck => rw [q] at p; exact p.elim
theorem pxt_k (h : PXT X W e t) : PXeT X W e (M.kt t) := by
  refine h.imp fun σ H Q ⟨ρ, F, F0, H0, r, p⟩ => ⟨peek ρ, lookHp ρ σ F H, r.lookE, r.lookH, ?_⟩
  unfold M.kt at p
  cases q : t (peek ρ) with
  | ok d =>
    rw [q] at p
    exact fun v F' H' e' rv => p v _ H' (r.back e') rv
  | exc c =>
    rw [q] at p
    exact fun C F' H' m e' => p C _ H' m (r.back e')
  | stuck => rw [q] at p; exact p.elim
end

/-! ### new lists -/
def PostF (K : PySem.W.Frag) (mg : Str → Option Value) (E : XK) (F H : Hp) : R (List D) → VK → Prop
  | .ok ds, Q => ∀ b xs F' H', Ext F H F' H' → F' b = none → H b = none → H' b = some (.lst xs) → xs.length ≤ sizeLine → RpAll K F' xs ds → Q (.ref b) H'
  | .exc c, _ => ∀ C F' H', mg c = some (.ref C) → Ext F H F' H' → E (.ref C) none H'
  | .stuck, _ => False
theorem PostF.ext {K : PySem.W.Frag} {mg : Str → Option Value} {E : XK} {F H F1 H1 : Hp} {r : R (List D)} {Q : VK} (e : Ext F H F1 H1) (h : PostF K mg E F H r Q) : PostF K mg E F1 H1 r Q := by
  cases r with
  | ok a => exact fun b xs F' H' e' h1 h2 h3 h4 h5 => h b xs F' H' (e.trans e') h1 (same_none e.sH h2) h3 h4 h5
  | exc c => exact fun C F' H' m e' => h C F' H' m (e.trans e')
  | stuck => exact h
theorem PostF.bind {α β : Type} {rel : Hp → β → α → Prop} {K : PySem.W.Frag} {mg : Str → Option Value} {E : XK} {F H : Hp} {r : R α} {g : α → R (List D)} {Q : VK} {Q1 : β → Hp → Prop} (h : PostF K mg E F H (r.bind g) Q)
    (k : ∀ x a F1 H1, Ext F H F1 H1 → rel F1 x a → PostF K mg E F1 H1 (g a) Q → Q1 x H1) : Post rel mg E F H r Q1 := by
  cases r with
  | ok a => exact fun x F' H' e q => k x a F' H' e q (PostF.ext e h)
  | exc c => exact h
  | stuck => exact h
/-- a new object is frozen -/
theorem Ext.keep {F H F' H' : Hp} {b : Addr} {o : HO} (e : Ext F H F' H') (h1 : F' b = none) (h2 : H b = none) (h3 : H' b = some o) : Ext F H (upd F' b o) H' where
  sF := e.sF.trans (same_upd h1)
  sH := e.sH
  sub := fun c u z => by
    by_cases hc : c = b
    · subst hc; rw [upd_same] at z; cases z; exact h3
    · rw [upd_ne hc] at z; exact e.sub c u z
  sep := fun c u z1 z2 => by
    rw [upd_ne (ne_of_none z1 h2)]
    exact e.sep c u z1 z2
def tOfF (K : PySem.W.Frag) (mg : Str → Option Value) (W : WX) (f : En → R (List D)) : TE := fun σ H Q => ∃ ρ F, RelE K ρ σ F ∧ Same F H ∧ PostF K mg (fun c d H' => W c d σ H') F H (f ρ) Q
def PXF (X : Cx) (W : WX) (e : Expr) (f : En → R (List D)) : Prop := PE X e (tOfF X.K X.mg W f)
namespace E
def ofL (f : En → R (List D)) : En → R D := fun ρ => (f ρ).bind fun ds => .ok (.list ds)
end E
namespace N
/-- a list display -/
def disp (f : En → R (List D)) : En → R (List D) := fun ρ => (f ρ).bind fun ds => if ds.length ≤ 16777216 then .ok ds else .stuck
def asL : D → R (List D)
  | .list ds => .ok ds
  | _ => .stuck
def cat (f g : En → R D) : En → R (List D) := fun ρ => (f ρ).bind fun x => (g ρ).bind fun y => (asL x).bind fun xs => (asL y).bind fun ys => if xs.length + ys.length ≤ 16777216 then .ok (xs ++ ys) else .stuck
end N
section
variable {X : Cx} {W : WX} {e a b : Expr} {es : List Expr} {f : En → R (List D)} {fa fb : En → R D} {pos : Pos}
theorem px_of (h : PXF X W e f) : PX X W e (E.ofL f) := by
  refine h.imp fun σ H Q ⟨ρ, F, hR, hS, p⟩ => ⟨ρ, F, hR, hS, ?_⟩
  unfold E.ofL at p
  cases q : f ρ with
  | ok ds =>
    rw [q, R.bind_ok] at p
    intro b xs F' H' e' h1 h2 h3 h4 h5
    have s1 : Same F' (upd F' b (.lst xs)) := same_upd h1
    exact p _ (upd F' b (.lst xs)) H' (Ext.keep e' h1 h2 h3) (.lst upd_same h4 (h5.mono s1))
  | exc c => rw [q] at p; exact p
  | stuck => rw [q] at p; exact p
theorem pxf_disp (h : PXA X W es f) : PXF X W (.List es pos) (N.disp f) := by
  refine (pe_lst h).imp fun σ H Q ⟨ρ, F, hR, hS, hP⟩ => ?_
  refine ⟨ρ, F, hR, hS, PostF.bind hP fun xs ds F1 H1 e1 r1 p1 => ?_⟩
  have r1 : RpAll X.K F1 xs ds := r1
  by_cases hz : ds.length ≤ 16777216
  · rw [if_pos hz] at p1
    have hz' : xs.length ≤ sizeLine := by rw [r1.length, sz]; exact hz
    refine ⟨hz', fun p hp => ?_⟩
    exact p1 _ _ F1 _ (.loose e1.sub hp) (same_none e1.sub hp) hp upd_same hz' r1
  · rw [if_neg hz] at p1; exact p1.elim
theorem asL_cases (d : D) : (∃ ds, d = .list ds ∧ N.asL d = .ok ds) ∨ N.asL d = .stuck := by
  cases d with
  | list ds => exact .inl ⟨ds, rfl, rfl⟩
  | _ => exact .inr rfl
theorem pxf_cat (ha : PX X W a fa) (hb : PX X W b fb) : PXF X W (.BinOp a .Add b pos) (N.cat fa fb) := by
  refine (pe_op op_cat ha hb).imp fun σ H Q ⟨ρ, F, hR, hS, hP⟩ => ?_
  refine ⟨ρ, F, hR, hS, PostF.bind hP fun x dx F1 H1 e1 r1 p1 => ?_⟩
  refine ⟨ρ, F1, hR.mono e1.sF, e1.sub, PostF.bind p1 fun y dy F2 H2 e2 r2 p2 => ?_⟩
  rcases asL_cases dx with ⟨xs, rfl, q⟩ | q
  · rw [q, R.bind_ok] at p2
    rcases asL_cases dy with ⟨ys, rfl, q⟩ | q
    · rw [q, R.bind_ok] at p2
      cases r1 with
      | lst q1 z1 a1 => cases r2 with
        | lst q2 z2 a2 =>
          rename_i l1 vs1 l2 vs2
          by_cases hz : xs.length + ys.length ≤ 16777216
          · rw [if_pos hz] at p2
            have hz' : vs1.length + vs2.length ≤ sizeLine := by rw [a1.length, a2.length, sz]; exact hz
            refine ⟨_, _, _, _, rfl, rfl, e2.sub _ _ (e2.sF _ _ q1), e2.sub _ _ q2, hz', fun p hp => ?_⟩
            exact p2 _ _ F2 _ (.loose e2.sub hp) (same_none e2.sub hp) hp upd_same (by rw [List.length_append]; exact hz') ((a1.mono e2.sF).append a2)
          · rw [if_neg hz] at p2; exact p2.elim
    · rw [q] at p2; exact p2.elim
  · rw [q] at p2; exact p2.elim
end
/-! in a statement -/
def tEvF (K : PySem.W.Frag) (mg : Str → Option Value) (W : WX) (m : SE → R (List D)) : TE := fun σ H Q => ∃ ρ F F0 H0, RelS K ρ σ F H F0 H0 ∧ PostF K mg (fun c d H' => W c d σ H') F H (m ρ) Q
def PXeF (X : Cx) (W : WX) (e : Expr) (m : SE → R (List D)) : Prop := PE X e (tEvF X.K X.mg W m)
/-- a list whose items are wanted -/
def PostL (K : PySem.W.Frag) (mg : Str → Option Value) (E : XK) (F H : Hp) : R (List D) → VK → Prop
  | .ok ds, Q => ∀ b xs F' H', Ext F H F' H' → H' b = some (.lst xs) → RpAll K F' xs ds → Q (.ref b) H'
  | .exc c, _ => ∀ C F' H', mg c = some (.ref C) → Ext F H F' H' → E (.ref C) none H'
  | .stuck, _ => False
def tEvL (K : PySem.W.Frag) (mg : Str → Option Value) (W : WX) (m : SE → R (List D)) : TE := fun σ H Q => ∃ ρ F F0 H0, RelS K ρ σ F H F0 H0 ∧ PostL K mg (fun c d H' => W c d σ H') F H (m ρ) Q
def PXeL (X : Cx) (W : WX) (e : Expr) (m : SE → R (List D)) : Prop := PE X e (tEvL X.K X.mg W m)
namespace M
def kf (f : En → R (List D)) : SE → R (List D) := fun ρ => (f (peek ρ)).bind fun ds => if nolistAll ds = true then .ok ds else .stuck
def vl (f : En → R D) : SE → R (List D) := fun ρ => (f (vals ρ)).bind N.asL
def kl (f : En → R D) : SE → R (List D) := fun ρ => (f (peek ρ)).bind fun d => (N.asL d).bind fun ds => if nolistAll ds = true then .ok ds else .stuck
def ofF (m : SE → R (List D)) : SE → R D := fun ρ => (m ρ).bind fun ds => .ok (.list ds)
end M
section
variable {X : Cx} {W : WX} {e : Expr} {f : En → R (List D)} {g : En → R D} {m : SE → R (List D)}
theorem evf_v : ∀ σ H Q, tEvF X.K X.mg W (M.v f) σ H Q → tOfF X.K X.mg W f σ H Q := fun σ H Q ⟨ρ, F, F0, H0, r, p⟩ => ⟨vals ρ, F, r.relE, r.sub, p⟩
theorem pxf_v (h : PXF X W e f) : PXeF X W e (M.v f) := h.imp evf_v
theorem evf_k : ∀ σ H Q, tEvF X.K X.mg W (M.kf f) σ H Q → tOfF X.K X.mg W f σ H Q := by
  refine fun σ H Q ⟨ρ, F, F0, H0, r, p⟩ => ⟨peek ρ, lookHp ρ σ F H, r.lookE, r.lookH, ?_⟩
  unfold M.kf at p
  cases q : f (peek ρ) with
  | ok ds =>
    rw [q, R.bind_ok] at p
    by_cases hn : nolistAll ds = true
    · rw [if_pos hn] at p
      intro b xs F' H' e' h1 h2 h3 h4 h5
      refine p b xs _ H' (r.back e') ?_ h2 h3 h4 (RpAll.away (r.backT e') ds xs hn h5)
      unfold backHp
      by_cases q : Owned ρ σ b
      · rw [hpIf_pos q]
      · rw [hpIf_neg q]; exact h1
    · rw [if_neg hn] at p; exact p.elim
  | exc c =>
    rw [q] at p
    exact fun C F' H' m e' => p C _ H' m (r.back e')
  | stuck => rw [q] at p; exact p.elim
theorem pxf_k (h : PXF X W e f) : PXeF X W e (M.kf f) := h.imp evf_k
/-- a new list, frozen -/
theorem evf_of : ∀ σ H Q, tEv (Rp X.K) X.K X.mg W (M.ofF m) σ H Q → tEvF X.K X.mg W m σ H Q := by
  refine fun σ H Q ⟨ρ, F, F0, H0, r, p⟩ => ⟨ρ, F, F0, H0, r, ?_⟩
  unfold M.ofF at p
  cases q : m ρ with
  | ok ds =>
    rw [q, R.bind_ok] at p
    intro b xs F' H' e' h1 h2 h3 h4 h5
    exact p _ (upd F' b (.lst xs)) H' (Ext.keep e' h1 h2 h3) (.lst upd_same h4 (h5.mono (same_upd h1)))
  | exc c => rw [q] at p; exact p
  | stuck => rw [q] at p; exact p
theorem px_ofF (h : PXeF X W e m) : PXe X W e (M.ofF m) := h.imp evf_of
theorem pxl_f (h : PXeF X W e m) : PXeL X W e m := by
  refine h.imp fun σ H Q ⟨ρ, F, F0, H0, r, p⟩ => ⟨ρ, F, F0, H0, r, ?_⟩
  cases q : m ρ with
  | ok ds =>
    rw [q] at p
    exact fun b xs F' H' e' h1 h2 h3 h4 h5 => p b xs F' H' e' h3 h5
  | exc c => rw [q] at p; exact p
  | stuck => rw [q] at p; exact p
theorem pxl_v (h : PX X W e g) : PXeL X W e (M.vl g) := by
  refine h.imp fun σ H Q ⟨ρ, F, F0, H0, r, p⟩ => ⟨vals ρ, F, r.relE, r.sub, ?_⟩
  unfold M.vl at p
  cases q : g (vals ρ) with
  | ok d =>
    rw [q, R.bind_ok] at p
    rcases asL_cases d with ⟨ds, rfl, z⟩ | z
    · rw [z] at p
      intro v F' H' e' rv
      cases rv with
      | lst h1 h2 h3 => exact p _ _ F' H' e' (e'.sub _ _ h1) h3
    · rw [z] at p; exact p.elim
  | exc c => rw [q] at p; exact p
  | stuck => rw [q] at p; exact p
theorem pxl_k (h : PX X W e g) : PXeL X W e (M.kl g) := by
  refine h.imp fun σ H Q ⟨ρ, F, F0, H0, r, p⟩ => ⟨peek ρ, lookHp ρ σ F H, r.lookE, r.lookH, ?_⟩
  unfold M.kl at p
  cases q : g (peek ρ) with
  | ok d =>
    rw [q, R.bind_ok] at p
    rcases asL_cases d with ⟨ds, rfl, z⟩ | z
    · rw [z, R.bind_ok] at p
      by_cases hn : nolistAll ds = true
      · rw [if_pos hn] at p
        intro v F' H' e' rv
        cases rv with
        | lst h1 h2 h3 => exact p _ _ _ H' (r.back e') (e'.sub _ _ h1) (RpAll.away (r.backT e') ds _ hn h3)
      · rw [if_neg hn] at p; exact p.elim
    · rw [z] at p; exact p.elim
  | exc c =>
    rw [q] at p
    exact fun C F' H' m e' => p C _ H' m (r.back e')
  | stuck => rw [q] at p; exact p.elim
end

/-! ### statements -/
inductive O where
  | nx (ρ : SE)
  | rt (d : D)
  | bk (ρ : SE)
  | ct (ρ : SE)
  | exc (c : Str) (ρ : SE)
  | stuck
def PostS (K : PySem.W.Frag) (mg : Str → Option Value) (W : WX) (F0 H0 : Hp) (o : O) (Z : Ends) : Prop := match o with
  | .nx ρ => ∀ σ F H, RelS K ρ σ F H F0 H0 → Z.nx σ H
  | .rt d => ∀ v F H, Ext F0 H0 F H → Rp K F v d → Z.rt v H
  | .bk ρ => ∀ σ F H, RelS K ρ σ F H F0 H0 → Z.bk σ H
  | .ct ρ => ∀ σ F H, RelS K ρ σ F H F0 H0 → Z.ct σ H
  | .exc c ρ => ∀ C σ F H, mg c = some (.ref C) → RelS K ρ σ F H F0 H0 → W (.ref C) none σ H
  | .stuck => False
def tOfS (K : PySem.W.Frag) (mg : Str → Option Value) (W : WX) (g : SE → O) : TS := fun Z σ H => ∃ ρ F F0 H0, RelS K ρ σ F H F0 H0 ∧ PostS K mg W F0 H0 (g ρ) Z
def PXS (X : Cx) (W : WX) (st : Stmt) (g : SE → O) : Prop := PS X st (tOfS X.K X.mg W g)
def PXSs (X : Cx) (W : WX) (st : List Stmt) (g : SE → O) : Prop := PSs X st (tOfS X.K X.mg W g)
theorem PostS.rebase {K : PySem.W.Frag} {mg : Str → Option Value} {W : WX} {F0 H0 F1 H1 : Hp} {o : O} {Z : Ends} (b : Ext F0 H0 F1 H1) (h : PostS K mg W F0 H0 o Z) : PostS K mg W F1 H0 o Z := by
  cases o with
  | nx ρ => exact fun σ F H r => h σ F H (r.unbase b)
  | rt d => exact fun v F H e rv => h v F H ⟨b.sF.trans e.sF, e.sH, e.sub, fun a o h1 h2 => e.sep a o h1 (b.sep a o h1 h2)⟩ rv
  | bk ρ => exact fun σ F H r => h σ F H (r.unbase b)
  | ct ρ => exact fun σ F H r => h σ F H (r.unbase b)
  | exc c ρ => exact fun C σ F H m r => h C σ F H m (r.unbase b)
  | stuck => exact h
/-- an expression's result, then k -/
def R.on {α : Type} (r : R α) (ρ : SE) (k : α → O) : O := match r with
  | .ok a => k a
  | .exc c => .exc c ρ
  | .stuck => .stuck
theorem on_ok {α : Type} (a : α) (ρ : SE) (k : α → O) : (R.ok a).on ρ k = k a := rfl
theorem on_exc {α : Type} (c : Str) (ρ : SE) (k : α → O) : (R.exc c : R α).on ρ k = .exc c ρ := rfl
theorem on_stuck {α : Type} (ρ : SE) (k : α → O) : (R.stuck : R α).on ρ k = .stuck := rfl
theorem post_on {α β : Type} {rel : Hp → β → α → Prop} {K : PySem.W.Frag} {mg : Str → Option Value} {W : WX} {ρ : SE} {σ : St} {F H F0 H0 : Hp} {r : R α} {k : α → O} {Z : Ends} {Q : β → Hp → Prop}
    (hR : RelS K ρ σ F H F0 H0) (h : PostS K mg W F0 H0 (r.on ρ k) Z) (c : ∀ x a F1 H1, Ext F H F1 H1 → RelS K ρ σ F1 H1 F0 H0 → rel F1 x a → PostS K mg W F0 H0 (k a) Z → Q x H1) :
    Post rel mg (fun c d H' => W c d σ H') F H r Q := by
  cases r with
  | ok a => exact fun x F' H' e q => c x a F' H' e (hR.grow e) q h
  | exc c => exact fun C F' H' m e => h C σ F' H' m (hR.grow e)
  | stuck => exact h
namespace S
def skip : SE → O := fun ρ => .nx ρ
def brk : SE → O := fun ρ => .bk ρ
def cnt : SE → O := fun ρ => .ct ρ
/-- o, then g -/
def thn (o : O) (g : SE → O) : O := match o with
  | .nx ρ => g ρ
  | o => o
def seq (f g : SE → O) : SE → O := fun ρ => thn (f ρ) g
def ret (m : SE → R D) : SE → O := fun ρ => (m ρ).on ρ fun d => .rt d
def retN : SE → O := fun _ => .rt .none
def ex (m : SE → R D) : SE → O := fun ρ => (m ρ).on ρ fun _ => .nx ρ
def set (i : Nat) (m : SE → R D) : SE → O := fun ρ => (m ρ).on ρ fun d => .nx (ρ.set i (.val d))
def setO (i : Nat) (m : SE → R (List D)) : SE → O := fun ρ => (m ρ).on ρ fun ds => .nx (ρ.set i (.own ds))
def ite (t : SE → R Bool) (f g : SE → O) : SE → O := fun ρ => (t ρ).on ρ fun b => if b = true then f ρ else g ρ
/-- the owned list at slot i is changed no more -/
def frz (i : Nat) (g : SE → O) : SE → O := fun ρ => match ρ[i]? with
  | some (.own ds) => g (ρ.set i (.val (.list ds)))
  | _ => .stuck
def raise (c : Str) : SE → O := fun ρ => .exc c ρ
end S
section
variable {X : Cx} {W : WX} {st : Stmt} {sts rest as bs : List Stmt} {g g1 g2 : SE → O} {e c : Expr} {m : SE → R D} {mf : SE → R (List D)} {mt : SE → R Bool} {pos : Pos}
theorem pxs_nil : PXSs X W [] S.skip := pss_nil.imp fun Z σ H ⟨ρ, F, F0, H0, r, p⟩ => p σ F H r
theorem seq_does {Z : Ends} {σ : St} {H : Hp} (h : tOfS X.K X.mg W (S.seq g1 g2) Z σ H) : tSeq (tOfS X.K X.mg W g1) (tOfS X.K X.mg W g2) Z σ H := by
  obtain ⟨ρ, F, F0, H0, r, p⟩ := h
  refine ⟨ρ, F, F0, H0, r, ?_⟩
  unfold S.seq at p
  cases q : g1 ρ with
  | nx ρ1 =>
    rw [q] at p
    exact fun σ' F' H' r' => ⟨ρ1, F', F0, H0, r', p⟩
  | rt d => rw [q] at p; exact p
  | bk d => rw [q] at p; exact p
  | ct d => rw [q] at p; exact p
  | exc d => rw [q] at p; exact p
  | stuck => rw [q] at p; exact p
theorem pxs_cons (h1 : PXS X W st g1) (h2 : PXSs X W rest g2) : PXSs X W (st :: rest) (S.seq g1 g2) := (pss_cons h1 h2).imp fun _ _ _ h => seq_does h
theorem pxs_one (h1 : PXS X W st g1) : PXSs X W [st] g1 := pss_one h1
theorem pxs_pass : PXS X W (.Pass pos) S.skip := ps_pass.imp fun Z σ H ⟨ρ, F, F0, H0, r, p⟩ => p σ F H r
theorem pxs_break : PXS X W (.Break pos) S.brk := ps_break.imp fun Z σ H ⟨ρ, F, F0, H0, r, p⟩ => p σ F H r
theorem pxs_cont : PXS X W (.Continue pos) S.cnt := ps_continue.imp fun Z σ H ⟨ρ, F, F0, H0, r, p⟩ => p σ F H r
theorem pxs_ret (h : PXe X W e m) : PXS X W (.Return (some e) pos) (S.ret m) := by
  refine (ps_ret h).imp fun Z σ H ⟨ρ, F, F0, H0, r, p⟩ => ?_
  exact ⟨ρ, F, F0, H0, r, post_on r p fun x d F1 H1 e1 r1 rv p1 => p1 x F1 H1 r1.ext rv⟩
theorem pxs_retN : PXS X W (.Return none pos) S.retN := ps_retN.imp fun Z σ H ⟨ρ, F, F0, H0, r, p⟩ => p .non F H r.ext .non
theorem pxs_ex (h : PXe X W e m) (hs : swapsWith e none pos.line X.env = pure false := by rfl) : PXS X W (.Expr e pos) (S.ex m) := by
  refine (ps_expr h hs).imp fun Z σ H ⟨ρ, F, F0, H0, r, p⟩ => ?_
  exact ⟨ρ, F, F0, H0, r, post_on r p fun x d F1 H1 e1 r1 rv p1 => p1 σ F1 H1 r1⟩
theorem pxs_set {x : Str} {pos' : Pos} (i : Nat) (h : PXe X W e m) (hN : X.N.Nodup) (hi : X.N[i]? = some x := by rfl) (hx : Loc X.env.scope x := by first | exact Or.inl rfl | exact Or.inr rfl) (hs : swapsWith e (some (.Name x pos')) pos.line X.env = pure false := by rfl) (hf : X.fn x = true ∨ X.env.scope.names.lookup x = some .local := by first | exact .inl rfl | exact .inr rfl | assumption) :
    PXS X W (.Assign [.Name x pos'] e pos) (S.set i m) := by
  refine (ps_set hN hi hx h hs hf).imp fun Z σ H ⟨ρ, F, F0, H0, r, p⟩ => ?_
  exact ⟨ρ, F, F0, H0, r, post_on r p fun x d F1 H1 e1 r1 rv p1 => p1 _ F1 H1 (r1.set rv)⟩
theorem setO_does {i : Nat} {Z : Ends} {σ : St} {H : Hp} (h : tOfS X.K X.mg W (S.setO i mf) Z σ H) : tAsg (tEvF X.K X.mg W mf) (gName i) Z σ H := by
  obtain ⟨ρ, F, F0, H0, r, p⟩ := h
  refine ⟨ρ, F, F0, H0, r, ?_⟩
  unfold S.setO at p
  cases q : mf ρ with
  | ok ds =>
    rw [q] at p
    intro b xs F' H' e' h1 h2 h3 h4 h5
    refine p _ F' H' ((r.grow e').take h1 (same_none r.ext.sH h2) h3 h4 h5 fun j es hj hb => ?_)
    obtain ⟨a, ys, g1, g2, g3, g4, _⟩ := r.own j es hj
    rw [hb] at g1; cases g1
    rw [h2] at g4; cases g4
  | exc c => rw [q] at p; exact fun C F' H' m e' => p C σ F' H' m (r.grow e')
  | stuck => rw [q] at p; exact p
theorem pxs_setO {x : Str} {pos' : Pos} (i : Nat) (h : PXeF X W e mf) (hN : X.N.Nodup) (hi : X.N[i]? = some x := by rfl) (hx : Loc X.env.scope x := by first | exact Or.inl rfl | exact Or.inr rfl) (hs : swapsWith e (some (.Name x pos')) pos.line X.env = pure false := by rfl) (hf : X.fn x = true ∨ X.env.scope.names.lookup x = some .local := by first | exact .inl rfl | exact .inr rfl | assumption) :
    PXS X W (.Assign [.Name x pos'] e pos) (S.setO i mf) := (ps_set hN hi hx h hs hf).imp fun Z σ H h => setO_does h
theorem pxs_if (hc : PXeT X W c mt) (ha : PXSs X W as g1) (hb : PXSs X W bs g2) : PXS X W (.If c as bs pos) (S.ite mt g1 g2) := by
  refine (ps_if hc ha hb).imp fun Z σ H ⟨ρ, F, F0, H0, r, p⟩ => ?_
  refine ⟨ρ, F, F0, H0, r, post_on r p fun x d F1 H1 e1 r1 rv p1 => ?_⟩
  have rv : x = d := rv
  subst rv
  cases x with
  | true => exact ⟨ρ, F1, F0, H0, r1, p1⟩
  | false => exact ⟨ρ, F1, F0, H0, r1, p1⟩
theorem pxs_frz (i : Nat) (h : PXSs X W sts g) : PXSs X W sts (S.frz i g) := by
  refine h.imp fun Z σ H ⟨ρ, F, F0, H0, r, p⟩ => ?_
  unfold S.frz at p
  split at p
  · rename_i ds hi
    obtain ⟨F', s', r'⟩ := r.freeze hi
    exact ⟨_, F', F0, H0, r', p⟩
  · exact p.elim
theorem px1_frz (i : Nat) (h : PXS X W st g) : PXS X W st (S.frz i g) := by
  refine h.imp fun Z σ H ⟨ρ, F, F0, H0, r, p⟩ => ?_
  unfold S.frz at p
  split at p
  · rename_i ds hi
    obtain ⟨F', s', r'⟩ := r.freeze hi
    exact ⟨_, F', F0, H0, r', p⟩
  · exact p.elim
end
end PV

/-! P3: defs and their calls, loops, comprehensions. -/
namespace PV
open PySem PySem.Spec L2
open PyProof.Rows hiding St

/-! ### defs -/
def spP (K : PySem.W.Frag) (mg : Str → Option Value) (n : Nat) (sem : List D → R D) : Sp := fun vs H Q E => vs.length = n ∧ ∃ F ds, Same F H ∧ RpAll K F vs ds ∧ Post (Rp K) mg E F H (sem ds) Q
structure Def (P : Program) (w : World) (K : PySem.W.Frag) (mg : Str → Option Value) (base : Heap) (x : Str) (n k : Nat) (sem : List D → R D) : Prop where
  len : ∀ ds, ds.length ≠ n → sem ds = .stuck
  ex : ∃ f fd ps, mg x = some (.ref f) ∧ PySem.W.keepIn K (.ref f) = true ∧ Binds K fd ps [] ∧ FnOk P w K mg base (L2.CX P w) k f fd ps (spP K mg n sem)
namespace E
def call (sem : List D → R D) (f : En → R (List D)) : En → R D := fun ρ => (f ρ).bind sem
def call0 (sem : List D → R D) : En → R D := fun _ => match sem [] with
  | .ok d => .ok d
  | _ => .stuck
end E
section
variable {X : Cx} {W : WX} {x : Str} {n k : Nat} {sem : List D → R D} {e : Expr} {es : List Expr} {fs : En → R (List D)} {p pos : Pos}
theorem px_call (F : Def X.prog X.w X.K X.mg X.base x n k sem) (hr : Room k X.A) (tk : Takes X W) (ha : PXA X W (e :: es) fs) (hg : Gl X x := by rfl) (hdb : (x == ("__debug__" : Str)) = false := by decide) (he : starEach (e :: es) X.env = (false, eval e X.env) :: starEach es X.env := by rfl) (hpl : (backTo pos (starEach es X.env)).any (·.1) = false := by rfl) :
    PX X W (.Call (.Name x p) (e :: es) [] pos) (E.call sem fs) := by
  obtain ⟨f, fd, ps, hm, hk, hb, G⟩ := F.ex
  refine (pe_callS G hr hg hm hk hb (fun σ => passAt tk σ) ha hdb he hpl).imp fun σ H Q ⟨ρ, F1, hR, hS, hP⟩ => ?_
  refine ⟨ρ, F1, hR, hS, Post.bind hP fun vs ds F2 H2 e2 r2 p2 => ?_⟩
  have r2 : RpAll X.K F2 vs ds := r2
  have hl : ds.length = n := by
    by_cases h : ds.length = n
    · exact h
    · rw [F.len ds h] at p2; exact p2.elim
  exact ⟨r2.length.trans hl, F2, ds, e2.sub, r2, p2⟩
theorem px_call0 (F : Def X.prog X.w X.K X.mg X.base x n k sem) (hr : Room k X.A) (hg : Gl X x := by rfl) (hdb : (x == ("__debug__" : Str)) = false := by decide) :
    PX X W (.Call (.Name x p) [] [] pos) (E.call0 sem) := by
  obtain ⟨f, fd, ps, hm, hk, hb, G⟩ := F.ex
  refine (pe_call0 G hr hg hm hk hb .nil (E := E0) passL hdb).imp fun σ H Q ⟨ρ, F1, hR, hS, hP⟩ => ?_
  have hl : (0 : Nat) = n := by
    by_cases h : (0 : Nat) = n
    · exact h
    · unfold E.call0 at hP
      rw [F.len [] h] at hP; exact hP.elim
  refine ⟨hl, F1, [], hS, .nil, ?_⟩
  unfold E.call0 at hP
  cases q : sem [] with
  | ok d => rw [q] at hP; exact hP
  | exc c => rw [q] at hP; exact hP.elim
  | stuck => rw [q] at hP; exact hP.elim
end
def O.run : O → R D
  | .nx _ => .ok .none
  | .rt d => .ok d
  | .exc c _ => .exc c
  | _ => .stuck
def ent (ds : List D) (m : Nat) : SE := ds.map B.val ++ List.replicate m B.un
/-- a def of n parameters and m further names -/
def fn (n m : Nat) (g : SE → O) : List D → R D := fun ds => if ds.length = n then (g (ent ds m)).run else .stuck
theorem fn_len {n m : Nat} {g : SE → O} : ∀ ds : List D, ds.length ≠ n → fn n m g ds = .stuck := fun ds h => by unfold fn; rw [if_neg h]
abbrev WD (E : XK) : WX := fun cls d _ H => E cls d H
section
variable {P : Program} {w : World} {K : PySem.W.Frag} {mg : Str → Option Value} {base : Heap}
theorem rel_start {F H : Hp} {N : List Str} {vs : List V} {ds : List D} (hS : Same F H) (r : RpAll K F vs ds) {n m : Nat} (hn : vs.length = n) (hm : N.length - n = m) : RelS K (ent ds m) (start N vs) F H F H := by
  have hl := r.length
  refine ⟨?_, fun i d h => ?_, fun i es h => ?_, fun i j es gs a _ h _ => ?_, .refl hS⟩
  · unfold L2.start ent
    simp only [List.length_append, List.length_map, List.length_replicate]
    omega
  · unfold ent at h
    unfold L2.start
    by_cases hi : i < ds.length
    · rw [List.getElem?_append_left (by simpa using hi), List.getElem?_map] at h
      cases q : ds[i]? with
      | none => rw [q] at h; cases h
      | some d' =>
        rw [q] at h
        cases h
        obtain ⟨v, h1, h2⟩ := r.get' q
        refine ⟨v, ?_, h2⟩
        rw [List.getElem?_append_left (by rw [List.length_map, hl]; exact hi), List.getElem?_map, h1]
        rfl
    · rw [List.getElem?_append_right (by simpa using hi), List.getElem?_replicate] at h
      split at h <;> cases h
  all_goals
    unfold ent at h
    by_cases hi : i < ds.length
    · rw [List.getElem?_append_left (by simpa using hi), List.getElem?_map] at h
      cases q : ds[i]? with
      | none => rw [q] at h; cases h
      | some d' => rw [q] at h; cases h
    · rw [List.getElem?_append_right (by simpa using hi), List.getElem?_replicate] at h
      split at h <;> cases h
theorem def_ok {x qual : Str} {st : Stmt} {f : Addr} {fd : FuncData} {N ps : List Str} {k n m : Nat} {g : SE → O} (F : Fun K x qual st f fd) (hg : mg x = some (.ref f)) (S : FnScope N ps (defScope st)) (hb : Binds K fd ps []) (hn : ps.length = n) (hm : N.length - n = m)
    (body : ∀ (cdv : Value) (A : Around) (outer : List Env) (s : Shared) (H : Hp) (E : XK), Room k (A.deeper (envOfC qual (defScope st) s.heap.objs.size f cdv)) →
      PXSs (cxOf (L2.CX P w) P w K mg base N qual (defScope st) f cdv A outer s H E) (WD E) (defBody st) g) : Def P w K mg base x n (k + 1) (fn n m g) := by
  refine ⟨fn_len, f, fd, ps, hg, F.kp, hb, ?_⟩
  refine F.okX S (fun vs H Q E h => h.1.trans hn.symm) fun cdv A outer s H vs Q E hr h => ?_
  obtain ⟨hl, F1, ds, hS, r, p⟩ := h
  refine ⟨_, body cdv A outer s H E hr, ent ds m, F1, F1, H, rel_start hS r hl hm, ?_⟩
  unfold fn at p
  rw [if_pos (r.length.symm.trans hl)] at p
  cases q : g (ent ds m) with
  | nx ρ => rw [q] at p; exact fun σ F' H' r' => p .non F' H' r'.ext .non
  | rt d => rw [q] at p; exact fun v F' H' e rv => p v F' H' e rv
  | exc c ρ => rw [q] at p; exact fun C σ F' H' m r' => p C F' H' m r'.ext
  | bk ρ => rw [q] at p; exact p.elim
  | ct ρ => rw [q] at p; exact p.elim
  | stuck => rw [q] at p; exact p.elim
end

/-! ### what is walked -/
def Walk (K : PySem.W.Frag) (F : Hp) (J : It) (ds : List D) : Prop := ds.length ≤ sizeLine ∧ ∀ F1 H1, Same F F1 → Same F1 H1 → ∀ i : Nat,
  (i = ds.length → J.stop i H1) ∧ ∀ d, ds[i]? = some d → J.go i H1 ∧ ∀ x H2, J.yld i H1 x H2 → ∃ F2, Ext F1 H1 F2 H2 ∧ Rp K F2 x d
def tOfI (K : PySem.W.Frag) (mg : Str → Option Value) (W : WX) (f : En → R (List D)) : TI := fun σ H R => ∃ ρ F, RelE K ρ σ F ∧ Same F H ∧ Post (Walk K) mg (fun c d H' => W c d σ H') F H (f ρ) R
def PXI (X : Cx) (W : WX) (tg iter : Expr) (f : En → R (List D)) : Prop := PI X tg iter (tOfI X.K X.mg W f)
theorem sqL_eq {K : PySem.W.Frag} {P : Prop} {H : Hp} {a : Addr} {xs : List V} (h : H a = some (.lst xs)) : SqL K H a xs := .inl (.inl h)
section
variable {K : PySem.W.Frag} {F : Hp}
theorem walk_list {a : Addr} {xs : List V} {ds : List D} (h : F a = some (.lst xs)) (z : xs.length ≤ sizeLine) (r : RpAll K F xs ds) : Walk K F (Itl K a) ds := ⟨by rw [← r.length]; exact z, fun F1 H1 s1 s2 i => by
  have hq : SqL K H1 a xs := SqL.of (s2 _ _ (s1 _ _ h))
  refine ⟨fun e => ⟨xs, hq, by rw [r.length, e]; exact Nat.le_refl _⟩, fun d hd => ?_⟩
  obtain ⟨v, hv, rv⟩ := r.get' hd
  refine ⟨⟨xs, v, hq, hv⟩, fun x H2 y => ?_⟩
  obtain ⟨rfl, y⟩ := y
  have := y xs hq
  rw [hv] at this; cases this
  exact ⟨F1, .refl s2, rv.mono s1⟩⟩
theorem walk_tup {a : Addr} {xs : List V} {ds : List D} (h : F a = some (.tup xs)) (z : xs.length ≤ sizeLine) (r : RpAll K F xs ds) : Walk K F (Itt K a) ds := ⟨by rw [← r.length]; exact z, fun F1 H1 s1 s2 i => by
  have hq : SqT K H1 a xs := SqT.of (s2 _ _ (s1 _ _ h))
  refine ⟨fun e => ⟨xs, hq, by rw [r.length, e]; exact Nat.le_refl _⟩, fun d hd => ?_⟩
  obtain ⟨v, hv, rv⟩ := r.get' hd
  refine ⟨⟨xs, v, hq, hv⟩, fun x H2 y => ?_⟩
  obtain ⟨rfl, y⟩ := y
  have := y xs hq
  rw [hv] at this; cases this
  exact ⟨F1, .refl s2, rv.mono s1⟩⟩
def rangeL (lo : Int) (n : Nat) : List D := (List.range n).map fun i => .int (lo + (i : Nat))
theorem walk_range {lo : Int} {n : Nat} (z : n ≤ sizeLine) : Walk K F (Itr lo n) (rangeL lo n) := ⟨by unfold rangeL; rw [List.length_map, List.length_range]; exact z, fun F1 H1 s1 s2 i => by
  refine ⟨fun e => by rw [e]; show n ≤ (rangeL lo n).length; unfold rangeL; rw [List.length_map, List.length_range]; exact Nat.le_refl _, fun d hd => ?_⟩
  unfold rangeL at hd
  rw [List.getElem?_map] at hd
  by_cases hi : i < n
  · rw [List.getElem?_range hi] at hd
    cases hd
    refine ⟨hi, fun x H2 y => ?_⟩
    obtain ⟨rfl, rfl⟩ := y
    exact ⟨F1, .refl s2, .int _⟩
  · rw [List.getElem?_eq_none (by rw [List.length_range]; omega)] at hd
    cases hd⟩
def signsL (z : Str) : List D := z.cps.toList.map fun c => .str ⟨#[c]⟩
theorem walk_str {z : Str} (hz : z.length ≤ sizeLine) : Walk K F (Its z) (signsL z) := ⟨by unfold signsL; rw [List.length_map, Array.length_toList]; exact hz, fun F1 H1 s1 s2 i => by
  refine ⟨fun e => by rw [e]; show z.cps.size ≤ (signsL z).length; unfold signsL; rw [List.length_map, Array.length_toList]; exact Nat.le_refl _, fun d hd => ?_⟩
  unfold signsL at hd
  rw [List.getElem?_map] at hd
  cases q : z.cps.toList[i]? with
  | none => rw [q] at hd; cases hd
  | some c =>
    rw [q] at hd
    cases hd
    rw [Array.getElem?_toList] at q
    refine ⟨(Array.getElem?_eq_some_iff.mp q).1, fun x H2 y => ?_⟩
    obtain ⟨rfl, c', hc, rfl⟩ := y
    rw [q] at hc; cases hc
    exact ⟨F1, .refl s2, .str _⟩⟩
def zipL (xs ys : List D) : List D := List.zipWith (fun x y => .tuple [x, y]) xs ys
theorem walk_zip {a b : Addr} {xs ys : List V} {ds es : List D} (h1 : F a = some (.lst xs)) (z : xs.length ≤ sizeLine) (r1 : RpAll K F xs ds) (h2 : F b = some (.lst ys)) (r2 : RpAll K F ys es) : Walk K F (Itz K a b) (zipL ds es) := ⟨by unfold zipL; rw [List.length_zipWith]; exact Nat.le_trans (Nat.min_le_left _ _) (by rw [← r1.length]; exact z), fun F1 H1 s1 s2 i => by
  have hq1 : SqL K H1 a xs := SqL.of (s2 _ _ (s1 _ _ h1))
  have hq2 : SqL K H1 b ys := SqL.of (s2 _ _ (s1 _ _ h2))
  refine ⟨fun e => ⟨xs, ys, hq1, hq2, ?_⟩, fun d hd => ?_⟩
  · rw [e]; unfold zipL; rw [List.length_zipWith, r1.length, r2.length]
    rcases Nat.le_total ds.length es.length with h | h
    · exact .inl (by rw [Nat.min_eq_left h]; exact Nat.le_refl _)
    · exact .inr (by rw [Nat.min_eq_right h]; exact Nat.le_refl _)
  · unfold zipL at hd
    rw [List.getElem?_zipWith] at hd
    cases q1 : ds[i]? with
    | none => rw [q1] at hd; cases hd
    | some d1 =>
      cases q2 : es[i]? with
      | none => rw [q1, q2] at hd; cases hd
      | some d2 =>
        rw [q1, q2] at hd
        cases hd
        obtain ⟨v1, hv1, rv1⟩ := r1.get' q1
        obtain ⟨v2, hv2, rv2⟩ := r2.get' q2
        refine ⟨⟨xs, ys, v1, v2, hq1, hq2, hv1, hv2⟩, fun x H2 y => ?_⟩
        obtain ⟨T, x1, x2, rfl, nT, rfl, y1, y2⟩ := y
        have e1 := y1 xs hq1
        have e2 := y2 ys hq2
        rw [hv1] at e1; cases e1
        rw [hv2] at e2; cases e2
        have sT : Same F1 (upd F1 T (.tup [v1, v2])) := same_upd (same_none s2 nT)
        exact ⟨_, .new s2 nT, .tup upd_same (by show 2 ≤ sizeLine; decide) (.cons (rv1.mono (s1.trans sT)) (.cons (rv2.mono (s1.trans sT)) .nil))⟩⟩
theorem walk_zipT {a b : Addr} {xs ys : List V} {ds es : List D} (h1 : F a = some (.tup xs)) (z : xs.length ≤ sizeLine) (r1 : RpAll K F xs ds) (h2 : F b = some (.tup ys)) (r2 : RpAll K F ys es) : Walk K F (RZ.ItzT K a b) (zipL ds es) := ⟨by unfold zipL; rw [List.length_zipWith]; exact Nat.le_trans (Nat.min_le_left _ _) (by rw [← r1.length]; exact z), fun F1 H1 s1 s2 i => by
  have hq1 : SqT K H1 a xs := SqT.of (s2 _ _ (s1 _ _ h1))
  have hq2 : SqT K H1 b ys := SqT.of (s2 _ _ (s1 _ _ h2))
  refine ⟨fun e => ⟨xs, ys, hq1, hq2, ?_⟩, fun d hd => ?_⟩
  · rw [e]; unfold zipL; rw [List.length_zipWith, r1.length, r2.length]
    rcases Nat.le_total ds.length es.length with h | h
    · exact .inl (by rw [Nat.min_eq_left h]; exact Nat.le_refl _)
    · exact .inr (by rw [Nat.min_eq_right h]; exact Nat.le_refl _)
  · unfold zipL at hd
    rw [List.getElem?_zipWith] at hd
    cases q1 : ds[i]? with
    | none => rw [q1] at hd; cases hd
    | some d1 =>
      cases q2 : es[i]? with
      | none => rw [q1, q2] at hd; cases hd
      | some d2 =>
        rw [q1, q2] at hd
        cases hd
        obtain ⟨v1, hv1, rv1⟩ := r1.get' q1
        obtain ⟨v2, hv2, rv2⟩ := r2.get' q2
        refine ⟨⟨xs, ys, v1, v2, hq1, hq2, hv1, hv2⟩, fun x H2 y => ?_⟩
        obtain ⟨T, x1, x2, rfl, nT, rfl, y1, y2⟩ := y
        have e1 := y1 xs hq1
        have e2 := y2 ys hq2
        rw [hv1] at e1; cases e1
        rw [hv2] at e2; cases e2
        have sT : Same F1 (upd F1 T (.tup [v1, v2])) := same_upd (same_none s2 nT)
        exact ⟨_, .new s2 nT, .tup upd_same (by show 2 ≤ sizeLine; decide) (.cons (rv1.mono (s1.trans sT)) (.cons (rv2.mono (s1.trans sT)) .nil))⟩⟩
def enumL (ds : List D) : List D := ds.zipIdx.map fun p => .tuple [.int (p.2 : Nat), p.1]
theorem walk_enum {a : Addr} {xs : List V} {ds : List D} (h : F a = some (.lst xs)) (z : xs.length ≤ sizeLine) (r : RpAll K F xs ds) : Walk K F (Ite K a) (enumL ds) := ⟨by unfold enumL; rw [List.length_map, List.length_zipIdx, ← r.length]; exact z, fun F1 H1 s1 s2 i => by
  have hq : SqL K H1 a xs := SqL.of (s2 _ _ (s1 _ _ h))
  refine ⟨fun e => ⟨xs, hq, by rw [r.length, e]; unfold enumL; rw [List.length_map, List.length_zipIdx]; exact Nat.le_refl _⟩, fun d hd => ?_⟩
  unfold enumL at hd
  rw [List.getElem?_map, List.getElem?_zipIdx] at hd
  cases q : ds[i]? with
  | none => rw [q] at hd; cases hd
  | some d1 =>
    rw [q] at hd
    cases hd
    obtain ⟨v, hv, rv⟩ := r.get' q
    refine ⟨⟨xs, v, hq, hv⟩, fun x H2 y => ?_⟩
    obtain ⟨T, x1, rfl, nT, rfl, y1⟩ := y
    have e1 := y1 xs hq
    rw [hv] at e1; cases e1
    have sT : Same F1 (upd F1 T (.tup [.int (i : Nat), v])) := same_upd (same_none s2 nT)
    refine ⟨_, .new s2 nT, .tup upd_same (by show 2 ≤ sizeLine; decide) (.cons ?_ (.cons (rv.mono (s1.trans sT)) .nil))⟩
    rw [Nat.zero_add]
    exact .int _⟩
end
namespace I
def itD : D → R (List D)
  | .list ds => .ok ds
  | .tuple ds => .ok ds
  | .str z => if z.length ≤ 16777216 then .ok (signsL z) else .stuck
  | _ => .stuck
def seq (f : En → R D) : En → R (List D) := fun ρ => (f ρ).bind itD
def r1 : List D → R (List D)
  | [.int j] => if -4611686018427387904 ≤ j ∧ j ≤ 16777216 then .ok (rangeL 0 j.toNat) else .stuck
  | _ => .stuck
def r2 : List D → R (List D)
  | [.int i, .int j] => if -4611686018427387904 ≤ i ∧ i < 4611686018427387904 ∧ -4611686018427387904 ≤ j ∧ j < 4611686018427387904 ∧ j - i ≤ 16777216 then .ok (rangeL i (j - i).toNat) else .stuck
  | _ => .stuck
def z2 : List D → R (List D)
  | [.list xs, .list ys] => .ok (zipL xs ys)
  | [.tuple xs, .tuple ys] => .ok (zipL xs ys)
  | _ => .stuck
def en : List D → R (List D)
  | [.list xs] => .ok (enumL xs)
  | _ => .stuck
def range1 (f : En → R (List D)) : En → R (List D) := fun ρ => (f ρ).bind r1
def range2 (f : En → R (List D)) : En → R (List D) := fun ρ => (f ρ).bind r2
def zip (f : En → R (List D)) : En → R (List D) := fun ρ => (f ρ).bind z2
def enum (f : En → R (List D)) : En → R (List D) := fun ρ => (f ρ).bind en
end I
section
variable {X : Cx} {W : WX} {tg e e1 e2 : Expr} {f : En → R D} {fs : En → R (List D)} {p pos : Pos}
theorem pxi_seq (h : PX X W e f) : PXI X W tg e (I.seq f) := by
  refine ⟨fun pins s σ H Z J ⟨ρ, F, hR, hS, hP⟩ => ?_⟩
  cases q : f ρ with
  | ok d =>
    have hP' := hP
    unfold I.seq at hP'
    rw [q, R.bind_ok] at hP'
    cases d with
    | list ds =>
      refine (pi_list (tg := tg) h).run pins s σ H Z J ⟨ρ, F, hR, hS, ?_⟩
      rw [q]
      intro v F' H' e' rv
      cases rv with
      | lst h1 h2 h3 => exact ⟨_, rfl, ⟨_, SqL.of (e'.sub _ _ h1)⟩, hP' _ F' H' e' (walk_list h1 h2 h3)⟩
    | tuple ds =>
      refine (pi_tup (tg := tg) h).run pins s σ H Z J ⟨ρ, F, hR, hS, ?_⟩
      rw [q]
      intro v F' H' e' rv
      cases rv with
      | tup h1 h2 h3 => exact ⟨_, rfl, ⟨_, SqT.of (e'.sub _ _ h1)⟩, hP' _ F' H' e' (walk_tup h1 h2 h3)⟩
    | str z =>
      refine (pi_str (tg := tg) h).run pins s σ H Z J ⟨ρ, F, hR, hS, ?_⟩
      rw [q]
      intro v F' H' e' rv
      cases rv
      unfold I.itD at hP'
      dsimp only at hP'
      by_cases hz : z.length ≤ 16777216
      · rw [if_pos hz] at hP'
        exact ⟨z, rfl, hP' _ F' H' e' (walk_str (by rw [sz]; exact hz))⟩
      · rw [if_neg hz] at hP'; exact hP'.elim
    | _ => exact hP'.elim
  | exc c =>
    refine (pi_list (tg := tg) h).run pins s σ H Z J ⟨ρ, F, hR, hS, ?_⟩
    unfold I.seq at hP
    rw [q] at hP ⊢
    exact hP
  | stuck =>
    unfold I.seq at hP
    rw [q] at hP
    exact hP.elim
theorem pxi_range1 (h : PXA X W [e] fs) (hm : X.mg "range" = none) (hg : Gl X "range" := by rfl) (hs : starEach [e] X.env = [(false, eval e X.env)] := by rfl) : PXI X W tg (.Call (.Name "range" p) [e] [] pos) (I.range1 fs) := by
  refine ⟨fun pins s σ H Z J ⟨ρ, F, hR, hS, hP⟩ => ?_⟩
  refine (pi_range1 (tg := tg) hg hm h hs).run pins s σ H Z J ⟨ρ, F, hR, hS, Post.bind hP fun vs ds F1 H1 e1 r1 p1 => ?_⟩
  have r1 : RpAll X.K F1 vs ds := r1
  unfold I.r1 at p1
  split at p1
  · split at p1
    · rename_i j hj
      cases r1 with
      | cons a b => cases a; cases b; exact ⟨_, rfl, by omega, by omega, Post.here e1.sub p1 (walk_range (by rw [sz]; omega))⟩
    · exact p1.elim
  · exact p1.elim
theorem pxi_range2 (h : PXA X W [e1, e2] fs) (hm : X.mg "range" = none) (hg : Gl X "range" := by rfl) (hs : starEach [e1, e2] X.env = [(false, eval e1 X.env), (false, eval e2 X.env)] := by rfl) (hs2 : starEach [e2] X.env = [(false, eval e2 X.env)] := by rfl) : PXI X W tg (.Call (.Name "range" p) [e1, e2] [] pos) (I.range2 fs) := by
  refine ⟨fun pins s σ H Z J ⟨ρ, F, hR, hS, hP⟩ => ?_⟩
  refine (pi_range2 (tg := tg) hg hm h hs hs2).run pins s σ H Z J ⟨ρ, F, hR, hS, Post.bind hP fun vs ds F1 H1 e1 r1 p1 => ?_⟩
  have r1 : RpAll X.K F1 vs ds := r1
  unfold I.r2 at p1
  split at p1
  · split at p1
    · rename_i i j hj
      cases r1 with
      | cons a b => cases a; cases b with
        | cons a b => cases a; cases b; exact ⟨_, _, rfl, ⟨hj.1, hj.2.1, hj.2.2.1, hj.2.2.2.1⟩, Post.here e1.sub p1 (walk_range (by rw [sz]; omega))⟩
    · exact p1.elim
  · exact p1.elim
theorem pxi_zip {elts : List Expr} {kk : Nat} {tpos : Pos} (h : PXA X W [e1, e2] fs) (hm : X.mg "zip" = none) (hg : Gl X "zip" := by rfl) (hs : starEach [e1, e2] X.env = (false, eval e1 X.env) :: starEach [e2] X.env := by rfl) (hpl : (backTo pos (starEach [e2] X.env)).any (·.1) = false := by rfl) :
    PXI X W (.Tuple elts kk tpos) (.Call (.Name "zip" p) [e1, e2] [] pos) (I.zip fs) := by
  refine ⟨fun pins s σ H Z J ⟨ρ, F, hR, hS, hP⟩ => ?_⟩
  refine (RZ.pi_zipA hg hm h hs hpl).run pins s σ H Z J ⟨ρ, F, hR, hS, Post.bind hP fun vs ds F1 H1 e1 r1 p1 => ?_⟩
  have r1 : RpAll X.K F1 vs ds := r1
  unfold I.z2 at p1
  split at p1
  · cases r1 with
    | cons a b => cases b with
      | cons c d =>
        cases d
        cases a with
        | lst q1 z1 a1 => cases c with
          | lst q2 z2 a2 => exact ⟨_, _, _, _, rfl, .inl ⟨SqL.of (e1.sub _ _ q1), SqL.of (e1.sub _ _ q2), Post.here e1.sub p1 (walk_zip q1 z1 a1 q2 a2)⟩⟩
  · cases r1 with
    | cons a b => cases b with
      | cons c d =>
        cases d
        cases a with
        | tup q1 z1 a1 => cases c with
          | tup q2 z2 a2 => exact ⟨_, _, _, _, rfl, .inr ⟨SqT.of (e1.sub _ _ q1), SqT.of (e1.sub _ _ q2), Post.here e1.sub p1 (walk_zipT q1 z1 a1 q2 a2)⟩⟩
  · exact p1.elim
theorem pxi_enum {elts : List Expr} {kk : Nat} {tpos : Pos} (h : PXA X W [e] fs) (hm : X.mg "enumerate" = none) (hg : Gl X "enumerate" := by rfl) (hs : starEach [e] X.env = [(false, eval e X.env)] := by rfl) :
    PXI X W (.Tuple elts kk tpos) (.Call (.Name "enumerate" p) [e] [] pos) (I.enum fs) := by
  refine ⟨fun pins s σ H Z J ⟨ρ, F, hR, hS, hP⟩ => ?_⟩
  refine (pi_enum hg hm h hs).run pins s σ H Z J ⟨ρ, F, hR, hS, Post.bind hP fun vs ds F1 H1 e1 r1 p1 => ?_⟩
  have r1 : RpAll X.K F1 vs ds := r1
  unfold I.en at p1
  split at p1
  · cases r1 with
    | cons a b =>
      cases b
      cases a with
      | lst q1 z1 a1 => exact ⟨_, _, rfl, SqL.of (e1.sub _ _ q1), Post.here e1.sub p1 (walk_enum q1 z1 a1)⟩
  · exact p1.elim
end

/-! ### targets -/
/-- in a statement -/
def tOfG (K : PySem.W.Frag) (asg : D → SE → Option SE) : TG := fun v σ H Q => ∃ ρ F F0 H0 d ρ', RelS K ρ σ F H F0 H0 ∧ Rp K F v d ∧ asg d ρ = some ρ' ∧ ∀ σ', RelS K ρ' σ' F H F0 H0 → Q σ' H
def PXG (X : Cx) (tg : Expr) (asg : D → SE → Option SE) : Prop := PG X tg (tOfG X.K asg)
def tOfGs (K : PySem.W.Frag) (is : List Nat) : TGs := fun vs σ H Q => ∃ ρ F F0 H0 ds, RelS K ρ σ F H F0 H0 ∧ RpAll K F vs ds ∧ ds.length = is.length ∧ ∀ σ', RelS K (List.foldl (fun r p => r.set p.1 (.val p.2)) ρ (is.zip ds)) σ' F H F0 H0 → Q σ' H
def PXGs (X : Cx) (tgs : List Expr) (is : List Nat) : Prop := PGs X tgs (tOfGs X.K is)
theorem _root_.L2.PG.imp {X : Cx} {e : Expr} {t t' : TG} (h : PG X e t) (k : ∀ v σ H Q, t' v σ H Q → t v σ H Q) : PG X e t' := ⟨fun pins s σ H v u Q I r q => h.run pins s σ H v u Q I r (k v σ H Q q)⟩
theorem _root_.L2.PGs.imp {X : Cx} {e : List Expr} {t t' : TGs} (h : PGs X e t) (k : ∀ v σ H Q, t' v σ H Q → t v σ H Q) : PGs X e t' := ⟨fun pins s σ H v u Q I r q => h.run pins s σ H v u Q I r (k v σ H Q q)⟩
namespace G
def name (i : Nat) : D → SE → Option SE := fun d ρ => some (ρ.set i (.val d))
def tup (is : List Nat) : D → SE → Option SE := fun d ρ => match d with
  | .tuple ds => if ds.length = is.length then some (List.foldl (fun r p => r.set p.1 (.val p.2)) ρ (is.zip ds)) else none
  | _ => none
end G
section
variable {X : Cx} {x : Str} {pos : Pos} {e : Expr} {es : List Expr} {is : List Nat}
theorem pxg_name (i : Nat) (hN : X.N.Nodup) (hi : X.N[i]? = some x := by rfl) (hx : Loc X.env.scope x := by first | exact Or.inl rfl | exact Or.inr rfl) (hf : X.fn x = true ∨ X.env.scope.names.lookup x = some .local := by first | exact .inl rfl | exact .inr rfl | assumption) : PXG X (.Name x pos) (G.name i) := by
  refine (pg_name hN hi hx hf).imp fun v σ H Q ⟨ρ, F, F0, H0, d, ρ', r, rv, e, k⟩ => ?_
  cases e
  exact k _ (r.set rv)
theorem pxgs_nil : PXGs X [] [] := by
  refine pgs_nil.imp fun vs σ H Q ⟨ρ, F, F0, H0, ds, r, rv, hl, k⟩ => ?_
  have e : ds = [] := by simpa using hl
  subst e
  cases rv
  exact ⟨rfl, k σ r⟩
theorem pxgs_cons {i : Nat} (h1 : PXG X e (G.name i)) (h2 : PXGs X es is) (hs : (assignEach (e :: es) X.env).map (·.2) = assign e X.env :: (assignEach es X.env).map (·.2) := by rfl) : PXGs X (e :: es) (i :: is) := by
  refine (pgs_cons h1 h2 hs).imp fun vs σ H Q ⟨ρ, F, F0, H0, ds, r, rv, hl, k⟩ => ?_
  cases rv with
  | nil => cases hl
  | @cons v vs' d ds' q1 q2 =>
    refine ⟨v, vs', rfl, ρ, F, F0, H0, d, _, r, q1, rfl, fun σ' r' => ?_⟩
    exact ⟨_, F, F0, H0, ds', r', q2, by simpa using hl, k⟩
theorem pxg_tup {kk : Nat} (hc : X.calm = true) (h : PXGs X es is) (hn : (assignEach es X.env).length = is.length := by rfl) (hst : (assignEach es X.env).findIdx? (·.1) = none := by rfl) : PXG X (.Tuple es kk pos) (G.tup is) := by
  refine (pg_tup hc h hn hst).imp fun v σ H Q ⟨ρ, F, F0, H0, d, ρ', r, rv, e, k⟩ => ?_
  unfold G.tup at e
  split at e
  · split at e
    · rename_i ds hl
      cases e
      cases rv with
      | tup q z a => exact ⟨_, _, rfl, SqT.of (r.sub _ _ q), a.length.trans hl, ρ, F, F0, H0, ds, r, a, hl, k⟩
    · cases e
  · cases e
end
/-- in a comprehension -/
def tOfGE (K : PySem.W.Frag) (vs : List Nat) (asg : D → En → Option En) : TG := fun v σ H Q => ∃ ρ F d ρ', RelE K ρ σ F ∧ Same F H ∧ Rp K F v d ∧ asg d ρ = some ρ' ∧ ∀ σ', RelE K ρ' σ' F → wipe σ' vs = wipe σ vs → Q σ' H
def PXGE (X : Cx) (vs : List Nat) (tg : Expr) (asg : D → En → Option En) : Prop := PG X tg (tOfGE X.K vs asg)
def tOfGEs (K : PySem.W.Frag) (vs : List Nat) (is : List Nat) : TGs := fun xs σ H Q => ∃ ρ F ds, RelE K ρ σ F ∧ Same F H ∧ RpAll K F xs ds ∧ ds.length = is.length ∧ ∀ σ', RelE K (List.foldl (fun r p => r.set p.1 (some p.2)) ρ (is.zip ds)) σ' F → wipe σ' vs = wipe σ vs → Q σ' H
def PXGEs (X : Cx) (vs : List Nat) (tgs : List Expr) (is : List Nat) : Prop := PGs X tgs (tOfGEs X.K vs is)
namespace GE
def name (i : Nat) : D → En → Option En := fun d ρ => some (ρ.set i (some d))
def tup (is : List Nat) : D → En → Option En := fun d ρ => match d with
  | .tuple ds => if ds.length = is.length then some (List.foldl (fun r p => r.set p.1 (some p.2)) ρ (is.zip ds)) else none
  | _ => none
end GE
theorem RelE.set {K : PySem.W.Frag} {ρ : En} {σ : St} {F : Hp} (r : RelE K ρ σ F) {i : Nat} {v : V} {d : D} (q : Rp K F v d) : RelE K (ρ.set i (some d)) (σ.set i (some v)) F := by
  refine ⟨by simpa using r.len, fun j d' h => ?_⟩
  rcases getElem?_set_cases h with ⟨rfl, e, hl⟩ | ⟨e, h⟩
  · cases e
    exact ⟨v, List.getElem?_set_self (Nat.lt_of_lt_of_le hl r.len), q⟩
  · rw [List.getElem?_set_ne e]
    exact r.val j d' h
theorem wipe_set {i : Nat} {o : Option V} : ∀ {vs : List Nat} {σ : St}, i ∈ vs → wipe (σ.set i o) vs = wipe σ vs
  | v :: vs, σ, h => by
    show (wipe (σ.set i o) vs).set v none = (wipe σ vs).set v none
    by_cases hv : i ∈ vs
    · rw [wipe_set hv]
    · have e : i = v := by
        rcases List.mem_cons.mp h with e | e
        · exact e
        · exact absurd e hv
      subst e
      have key : ∀ (us : List Nat), i ∉ us → wipe (σ.set i o) us = (wipe σ us).set i o := by
        intro us
        induction us with
        | nil => intro _; rfl
        | cons u us ih =>
          intro hu
          simp only [List.mem_cons, not_or] at hu
          show (wipe (σ.set i o) us).set u none = ((wipe σ us).set u none).set i o
          rw [ih hu.2, List.set_comm _ _ hu.1]
      rw [key vs hv, List.set_set]
section
variable {X : Cx} {x : Str} {pos : Pos} {e : Expr} {es : List Expr} {is vs : List Nat}
theorem pxge_name (i : Nat) (hv : i ∈ vs) (hN : X.N.Nodup) (hi : X.N[i]? = some x := by rfl) (hx : Loc X.env.scope x := by first | exact Or.inl rfl | exact Or.inr rfl) (hf : X.fn x = true ∨ X.env.scope.names.lookup x = some .local := by first | exact .inl rfl | exact .inr rfl | assumption) : PXGE X vs (.Name x pos) (GE.name i) := by
  refine (pg_name hN hi hx hf).imp fun v σ H Q ⟨ρ, F, d, ρ', r, hS, rv, e, k⟩ => ?_
  cases e
  exact k _ (r.set rv) (wipe_set hv)
theorem pxges_nil : PXGEs X vs [] [] := by
  refine pgs_nil.imp fun xs σ H Q ⟨ρ, F, ds, r, hS, rv, hl, k⟩ => ?_
  have e : ds = [] := by simpa using hl
  subst e
  cases rv
  exact ⟨rfl, k σ r rfl⟩
theorem pxges_cons {i : Nat} (h1 : PXGE X vs e (GE.name i)) (h2 : PXGEs X vs es is) (hs : (assignEach (e :: es) X.env).map (·.2) = assign e X.env :: (assignEach es X.env).map (·.2) := by rfl) : PXGEs X vs (e :: es) (i :: is) := by
  refine (pgs_cons h1 h2 hs).imp fun xs σ H Q ⟨ρ, F, ds, r, hS, rv, hl, k⟩ => ?_
  cases rv with
  | nil => cases hl
  | @cons v vs' d ds' q1 q2 =>
    refine ⟨v, vs', rfl, ρ, F, d, _, r, hS, q1, rfl, fun σ' r' w => ?_⟩
    exact ⟨_, F, ds', r', hS, q2, by simpa using hl, fun σ2 r2 w2 => k σ2 r2 (w2.trans w)⟩
theorem pxge_tup {kk : Nat} (hc : X.calm = true) (h : PXGEs X vs es is) (hn : (assignEach es X.env).length = is.length := by rfl) (hst : (assignEach es X.env).findIdx? (·.1) = none := by rfl) : PXGE X vs (.Tuple es kk pos) (GE.tup is) := by
  refine (pg_tup hc h hn hst).imp fun v σ H Q ⟨ρ, F, d, ρ', r, hS, rv, e, k⟩ => ?_
  unfold GE.tup at e
  split at e
  · split at e
    · rename_i ds hl
      cases e
      cases rv with
      | tup q z a => exact ⟨_, _, rfl, SqT.of (hS _ _ q), a.length.trans hl, ρ, F, ds, r, hS, a, hl, k⟩
    · cases e
  · cases e
end

/-! ### target = value -/
namespace S
def asg (a : D → SE → Option SE) (m : SE → R D) : SE → O := fun ρ => (m ρ).on ρ fun d => match a d ρ with
  | some ρ' => .nx ρ'
  | none => .stuck
end S
section
variable {X : Cx} {W : WX} {tg e : Expr} {a : D → SE → Option SE} {m : SE → R D} {pos : Pos}
theorem pxs_asg (he : PXe X W e m) (hg : PXG X tg a) (hs : swapsWithSole [tg] e pos.line X.env = pure false := by rfl) (hw : swappedStores [tg] e X.env = pure none := by rfl)
    (h1 : (assignEach [tg] X.env).map (·.2) = [assign tg X.env] := by rfl) : PXS X W (.Assign [tg] e pos) (S.asg a m) := by
  refine (ps_asg he hg hs hw h1).imp fun Z σ H ⟨ρ, F, F0, H0, r, p⟩ => ?_
  refine ⟨ρ, F, F0, H0, r, post_on r p fun x d F1 H1 e1 r1 rv p1 => ?_⟩
  cases q : a d ρ with
  | none => rw [q] at p1; exact p1.elim
  | some ρ' =>
    rw [q] at p1
    exact ⟨ρ, F1, F0, H0, d, ρ', r1, rv, q, fun σ' r' => p1 σ' F1 H1 r'⟩
end

/-! ### for -/
def loopS (a : D → SE → Option SE) (body : SE → O) : List D → SE → O
  | [], ρ => .nx ρ
  | d :: ds, ρ => match a d ρ with
    | none => .stuck
    | some ρ1 => match body ρ1 with
      | .nx ρ2 => loopS a body ds ρ2
      | .ct ρ2 => loopS a body ds ρ2
      | .bk ρ2 => .nx ρ2
      | o => o
namespace S
def for_ (it : En → R (List D)) (a : D → SE → Option SE) (body : SE → O) : SE → O := fun ρ => (it (vals ρ)).on ρ fun ds => loopS a body ds ρ
end S
section
variable {X : Cx} {W : WX} {tg iter : Expr} {a : D → SE → Option SE} {it : En → R (List D)} {body : List Stmt} {g : SE → O} {pos : Pos}
theorem pxs_for (hp : PassesOwn (model X.prog X.w) X.A X.env X.xe) (hc : X.calm = true) (hi : PXI X W tg iter it) (hg : PXG X tg a) (hb : PXSs X W body g) (hs : ∀ x, foldedSetIterable iter X.env x = pure x := by intro _; rfl) :
    PXS X W (.For tg iter body [] pos) (S.for_ it a g) := by
  refine (ps_for hp hc hi hg hb hs).imp fun Z σ H ⟨ρ, F, F0, H0, r, p⟩ => ?_
  refine ⟨vals ρ, F, r.relE, r.sub, post_on r p fun J ds F1 H1 e1 r1 wk p1 => ?_⟩
  have wk : Walk X.K F1 J ds := wk
  have bE : Ext F0 H0 F1 H1 := r1.ext
  refine ⟨fun i m σ' H' => m = ds.length - i ∧ i ≤ ds.length ∧ ∃ ρ' F', RelS X.K ρ' σ' F' H' F1 H0 ∧ PostS X.K X.mg W F1 H0 (loopS a g (ds.drop i) ρ') Z,
    ⟨ds.length, by simp, Nat.zero_le _, ρ, F1, r1.rebase, PostS.rebase bE p1⟩, ?_⟩
  rintro i m σ' H' ⟨rfl, hi, ρ', F', r', p'⟩
  by_cases hlt : i < ds.length
  · obtain ⟨_, w2⟩ := wk.2 F' H' r'.ext.sF r'.sub i
    obtain ⟨go, yl⟩ := w2 ds[i] (List.getElem?_eq_getElem hlt)
    rw [List.drop_eq_getElem_cons hlt] at p'
    refine .inr ⟨go, fun σ2 H2 => ∃ ρ2 F2, RelS X.K ρ2 σ2 F2 H2 F1 H0 ∧ PostS X.K X.mg W F1 H0 (loopS a g (ds.drop (i + 1)) ρ2) Z,
      fun σ2 H2 ⟨ρ2, F2, r2, p2⟩ => ⟨ds.length - (i + 1), by omega, rfl, hlt, ρ2, F2, r2, p2⟩, fun x H2 y => ?_⟩
    obtain ⟨F2, e2, rx⟩ := yl x H2 y
    unfold loopS at p'
    cases q : a ds[i] ρ' with
    | none => rw [q] at p'; exact p'.elim
    | some ρ1 =>
      rw [q] at p'
      refine ⟨ρ', F2, F1, H0, ds[i], ρ1, r'.grow e2, rx, q, fun σ3 r3 => ?_⟩
      refine ⟨ρ1, F2, F1, H0, r3, ?_⟩
      dsimp only at p'
      cases qb : g ρ1 with
      | nx ρ2 => rw [qb] at p'; exact fun σ4 F4 H4 r4 => ⟨ρ2, F4, r4, p'⟩
      | ct ρ2 => rw [qb] at p'; exact fun σ4 F4 H4 r4 => ⟨ρ2, F4, r4, p'⟩
      | bk ρ2 => rw [qb] at p'; exact p'
      | rt d => rw [qb] at p'; exact p'
      | exc c ρ2 => rw [qb] at p'; exact p'
      | stuck => rw [qb] at p'; exact p'
  · have e : i = ds.length := by omega
    subst e
    rw [List.drop_length] at p'
    exact .inl ⟨(wk.2 F' H' r'.ext.sF r'.sub ds.length).1 rfl, p' σ' F' H' r'⟩
end

/-! ### while -/
def whileS (t : SE → R Bool) (body : SE → O) : Nat → SE → O
  | 0, _ => .stuck
  | n + 1, ρ => (t ρ).on ρ fun b => if b = true then
      match body ρ with
      | .nx ρ2 => whileS t body n ρ2
      | .ct ρ2 => whileS t body n ρ2
      | .bk ρ2 => .nx ρ2
      | o => o
    else .nx ρ
namespace S
def while_ (fuel : Nat) (t : SE → R Bool) (body : SE → O) : SE → O := whileS t body fuel
end S
section
variable {X : Cx} {W : WX} {c : Expr} {t : SE → R Bool} {body : List Stmt} {g : SE → O} {pos : Pos}
theorem pxs_while (fuel : Nat) (hp : PassesOwn (model X.prog X.w) X.A X.env X.xe) (hc : PXeT X W c t) (hb : PXSs X W body g) : PXS X W (.While c body [] pos) (S.while_ fuel t g) := by
  refine (ps_while hp hc hb).imp fun Z σ H ⟨ρ, F, F0, H0, r, p⟩ => ?_
  refine ⟨fun m σ' H' => ∃ ρ' F', RelS X.K ρ' σ' F' H' F0 H0 ∧ PostS X.K X.mg W F0 H0 (whileS t g m ρ') Z, ⟨fuel, ρ, F, r, p⟩, ?_⟩
  rintro m σ' H' ⟨ρ', F', r', p'⟩
  cases m with
  | zero => exact p'.elim
  | succ m =>
    unfold whileS at p'
    refine ⟨ρ', F', F0, H0, r', post_on r' p' fun x b F1 H1 e1 r1 rv p1 => ?_⟩
    have rv : x = b := rv
    subst rv
    cases x with
    | true =>
      rw [if_pos rfl] at p1 ⊢
      refine ⟨fun σ2 H2 => ∃ ρ2 F2, RelS X.K ρ2 σ2 F2 H2 F0 H0 ∧ PostS X.K X.mg W F0 H0 (whileS t g m ρ2) Z, fun σ2 H2 ⟨ρ2, F2, r2, p2⟩ => ⟨m, Nat.lt_succ_self _, ρ2, F2, r2, p2⟩, ?_⟩
      refine ⟨ρ', F1, F0, H0, r1, ?_⟩
      cases qb : g ρ' with
      | nx ρ2 => rw [qb] at p1; exact fun σ4 F4 H4 r4 => ⟨ρ2, F4, r4, p1⟩
      | ct ρ2 => rw [qb] at p1; exact fun σ4 F4 H4 r4 => ⟨ρ2, F4, r4, p1⟩
      | bk ρ2 => rw [qb] at p1; exact p1
      | rt d => rw [qb] at p1; exact p1
      | exc c ρ2 => rw [qb] at p1; exact p1
      | stuck => rw [qb] at p1; exact p1
    | false =>
      rw [if_neg Bool.false_ne_true] at p1 ⊢
      exact p1 σ' F1 H1 r1
end
end PV

/-! P4: comprehensions; methods of owned lists. -/
namespace PV
open PySem PySem.Spec L2
open PyProof.Rows hiding St

/-! ### comprehensions -/
abbrev W0 : WX := fun _ _ _ _ => False
def R.ne {α : Type} : R α → R α
  | .exc _ => .stuck
  | r => r
theorem R.ne_ok {α : Type} (a : α) : (R.ok a).ne = .ok a := rfl
def compF (a : D → En → Option En) (t : En → R Bool) (f : En → R D) (ρ : En) : List D → R (List D)
  | [] => .ok []
  | d :: ds => match a d ρ with
    | none => .stuck
    | some ρ1 => (t ρ1).ne.bind fun b => if b = true then (f ρ1).ne.bind fun y => (compF a t f ρ ds).bind fun ys => .ok (y :: ys) else compF a t f ρ ds
def wipeE (ρ : En) : List Nat → En
  | [] => ρ
  | v :: vs => (wipeE ρ vs).set v none
theorem wipeE_len (ρ : En) : ∀ vs : List Nat, (wipeE ρ vs).length = ρ.length
  | [] => rfl
  | v :: vs => by unfold wipeE; rw [List.length_set, wipeE_len ρ vs]
theorem wipeE_some {ρ : En} {i : Nat} {d : D} : ∀ {vs : List Nat}, (wipeE ρ vs)[i]? = some (some d) → ρ[i]? = some (some d) ∧ i ∉ vs
  | [], h => ⟨h, by simp⟩
  | v :: vs, h => by
    unfold wipeE at h
    rcases getElem?_set_cases h with ⟨_, e, _⟩ | ⟨e, h⟩
    · cases e
    · obtain ⟨h1, h2⟩ := wipeE_some h
      exact ⟨h1, by simp only [List.mem_cons, not_or]; exact ⟨fun z => e z.symm, h2⟩⟩
theorem RelE.wipe {K : PySem.W.Frag} {ρ : En} {σ : St} {F : Hp} (r : RelE K ρ σ F) (vs : List Nat) : RelE K (wipeE ρ vs) (L2.wipe σ vs) F := by
  refine ⟨by rw [wipeE_len, wipe_length]; exact r.len, fun i d h => ?_⟩
  obtain ⟨h1, h2⟩ := wipeE_some h
  rw [wipe_out h2]
  exact r.val i d h1
theorem compF_ok {a : D → En → Option En} {t : En → R Bool} {f : En → R D} {ρ : En} : ∀ ds : List D, (∃ ys, compF a t f ρ ds = .ok ys) ∨ compF a t f ρ ds = .stuck
  | [] => .inl ⟨[], rfl⟩
  | d :: ds => by
    unfold compF
    cases a d ρ with
    | none => exact .inr rfl
    | some ρ1 =>
      dsimp only
      cases t ρ1 with
      | ok b =>
        cases b with
        | true =>
          rw [R.ne_ok, R.bind_ok, if_pos rfl]
          cases f ρ1 with
          | ok y =>
            rw [R.ne_ok, R.bind_ok]
            rcases compF_ok (a := a) (t := t) (f := f) (ρ := ρ) ds with ⟨ys, e⟩ | e
            · rw [e]; exact .inl ⟨_, rfl⟩
            · rw [e]; exact .inr rfl
          | _ => exact .inr rfl
        | false =>
          rw [R.ne_ok, R.bind_ok, if_neg Bool.false_ne_true]
          exact compF_ok ds
      | _ => exact .inr rfl
namespace N
def comp (it : En → R (List D)) (a : D → En → Option En) (t : En → R Bool) (f : En → R D) (vs : List Nat) : En → R (List D) := fun ρ => (it ρ).bind fun ds => compF a t f (wipeE ρ vs) ds
end N
section
variable {X : Cx} {W : WX} {it : En → R (List D)} {a : D → En → Option En} {t : En → R Bool} {f : En → R D} {vs : List Nat}
theorem lc_does : ∀ σ H Q, tOfF X.K X.mg W (N.comp it a t f vs) σ H Q → tLc (tOfI X.K X.mg W it) (tOfGE X.K vs a) (tOfT X.K X.mg W0 t) (tOf X.K X.mg W0 f) vs σ H Q := by
  rintro σ H Q ⟨ρ, F, hR, hS, hP⟩
  refine ⟨ρ, F, hR, hS, PostF.bind hP fun J ds F1 H1 e1 wk p1 => ?_⟩
  have wk : Walk X.K F1 J ds := wk
  intro L hL
  have hR1 := (hR.mono e1.sF).wipe vs
  obtain ⟨all, hall⟩ : ∃ all, compF a t f (wipeE ρ vs) ds = .ok all := by
    rcases compF_ok (a := a) (t := t) (f := f) (ρ := wipeE ρ vs) ds with h | h
    · exact h
    · rw [h] at p1; exact p1.elim
  rw [hall] at p1
  refine ⟨fun i m H' => m = ds.length - i ∧ i ≤ ds.length ∧ ∃ F' acc out rest, Ext F1 H1 F' H' ∧ F' L = none ∧ H' L = some (.lst acc) ∧ acc.length ≤ i ∧ RpAll X.K F' acc out ∧ compF a t f (wipeE ρ vs) (ds.drop i) = .ok rest ∧ all = out ++ rest,
    ⟨ds.length, by simp, Nat.zero_le _, F1, [], [], all, .loose e1.sub hL, same_none e1.sub hL, upd_same, Nat.le_refl _, .nil, hall, rfl⟩, ?_⟩
  rintro i m H' ⟨rfl, hi, F', acc, out, rest, e', hFL, hHL, hac, ra, hc, hal⟩
  by_cases hlt : i < ds.length
  · obtain ⟨_, w2⟩ := wk.2 F' H' e'.sF e'.sub i
    obtain ⟨go, yl⟩ := w2 ds[i] (List.getElem?_eq_getElem hlt)
    rw [List.drop_eq_getElem_cons hlt] at hc
    refine .inr ⟨go, fun H2 => ∃ F2 acc out rest, Ext F1 H1 F2 H2 ∧ F2 L = none ∧ H2 L = some (.lst acc) ∧ acc.length ≤ i + 1 ∧ RpAll X.K F2 acc out ∧ compF a t f (wipeE ρ vs) (ds.drop (i + 1)) = .ok rest ∧ all = out ++ rest,
      fun H2 ⟨F2, acc, out, rest, z⟩ => ⟨ds.length - (i + 1), by omega, rfl, hlt, F2, acc, out, rest, z⟩, fun x H2 y => ?_⟩
    obtain ⟨F2, e2, rx⟩ := yl x H2 y
    unfold compF at hc
    cases q : a ds[i] (wipeE ρ vs) with
    | none => rw [q] at hc; cases hc
    | some ρ1 =>
      rw [q] at hc
      dsimp only at hc
      have E12 : Ext F1 H1 F2 H2 := e'.trans e2
      refine ⟨wipeE ρ vs, F2, ds[i], ρ1, hR1.mono E12.sF, e2.sub, rx, q, fun σ3 r3 w3 => ⟨?_, ?_⟩⟩
      · have key : ∀ (us : List Nat) (s : St), (∀ u ∈ us, u ∈ vs) → L2.wipe (L2.wipe s vs) us = L2.wipe s vs := by
          intro us
          induction us with
          | nil => intro s _; rfl
          | cons u us ih =>
            intro s h
            show (L2.wipe (L2.wipe s vs) us).set u none = L2.wipe s vs
            rw [ih s fun z hz => h z (List.mem_cons_of_mem _ hz)]
            apply List.ext_getElem?
            intro j
            by_cases hj : u = j
            · subst hj
              by_cases hl : u < (L2.wipe s vs).length
              · rw [List.getElem?_set_self hl, List.getElem?_eq_getElem hl]
                cases hq : (L2.wipe s vs)[u] with
                | none => rfl
                | some v =>
                  have h1 : (L2.wipe s vs)[u]? = some (some v) := by rw [List.getElem?_eq_getElem hl, hq]
                  exact absurd (h u List.mem_cons_self) (wipe_some h1).2
              · rw [List.getElem?_eq_none (by simpa using hl), List.getElem?_eq_none (by simpa using hl)]
            · rw [List.getElem?_set_ne hj]
        rw [w3, key vs σ fun _ h => h]
      · cases qt : t ρ1 with
        | exc c => rw [qt] at hc; cases hc
        | stuck => rw [qt] at hc; cases hc
        | ok b =>
          rw [qt, R.ne_ok, R.bind_ok] at hc
          refine ⟨ρ1, F2, r3, e2.sub, ?_⟩
          rw [qt]
          intro b' F3 H3 e3 rb
          have rb : b' = b := rb
          subst rb
          have h3L : H3 L = some (.lst acc) := e3.sH _ _ (e2.sH _ _ hHL)
          have f2L : F2 L = none := e2.sep _ _ hHL hFL
          have f3L : F3 L = none := e3.sep _ _ (e2.sH _ _ hHL) f2L
          cases b' with
          | true =>
            rw [if_pos rfl] at hc ⊢
            cases qf : f ρ1 with
            | exc c => rw [qf] at hc; cases hc
            | stuck => rw [qf] at hc; cases hc
            | ok yd =>
              rw [qf, R.ne_ok, R.bind_ok] at hc
              refine ⟨ρ1, F3, r3.mono e3.sF, e3.sub, ?_⟩
              rw [qf]
              intro yv F4 H4 e4 ry
              have h4L : H4 L = some (.lst acc) := e4.sH _ _ h3L
              have f4L : F4 L = none := e4.sep _ _ h3L f3L
              obtain ⟨ys, hys⟩ : ∃ ys, compF a t f (wipeE ρ vs) (ds.drop (i + 1)) = .ok ys := by
                rcases compF_ok (a := a) (t := t) (f := f) (ρ := wipeE ρ vs) (ds.drop (i + 1)) with h | h
                · exact h
                · rw [h] at hc; cases hc
              rw [hys] at hc
              cases hc
              refine ⟨acc, h4L, ?_, F4, acc ++ [yv], out ++ [yd], ys, ?_, f4L, upd_same, ?_, ?_, hys, ?_⟩
              · exact Nat.lt_of_lt_of_le (Nat.lt_of_le_of_lt hac hlt) wk.1
              · have E14 := (E12.trans e3).trans e4
                refine ⟨E14.sF, fun b o hb => ?_, fun b o hb => ?_, E14.sep⟩
                · rw [upd_ne (ne_of_none hb hL)]; exact E14.sH b o hb
                · rw [upd_ne (ne_of_none hb f4L)]; exact E14.sub b o hb
              · rw [List.length_append]; show acc.length + 1 ≤ i + 1; omega
              · exact (ra.mono ((e2.sF.trans e3.sF).trans e4.sF)).append (.cons ry .nil)
              · rw [hal]; simp
          | false =>
            rw [if_neg Bool.false_ne_true] at hc ⊢
            exact ⟨F3, acc, out, rest, E12.trans e3, f3L, h3L, by omega, ra.mono (e2.sF.trans e3.sF), hc, hal⟩
  · have e : i = ds.length := by omega
    subst e
    rw [List.drop_length] at hc
    cases hc
    rw [List.append_nil] at hal
    subst hal
    exact .inl ⟨(wk.2 F' H' e'.sF e'.sub ds.length).1 rfl, p1 L acc F' H' e' hFL hL hHL (Nat.le_trans hac wk.1) ra⟩
end
def PXTs (X : Cx) (W : WX) (ifs : List Expr) (t : En → R Bool) : Prop := PTs X ifs (tOfT X.K X.mg W t)
namespace T
def yes : En → R Bool := fun _ => .ok true
end T
section
variable {X : Cx} {W : WX} {c : Expr} {t : En → R Bool}
theorem pxts_nil : PXTs X W [] T.yes := ⟨fun pins s σ H Q I ⟨ρ, F, hR, hS, hP⟩ => pts_nil.run pins s σ H Q I (hP.here hS rfl)⟩
theorem pxts_one (h : PXT X W c t) : PXTs X W [c] t := pts_one h
end
section
variable {X : Cx} {W : WX} {it : En → R (List D)} {a : D → En → Option En} {t : En → R Bool} {f : En → R D} {elt tg iter : Expr} {ifs : List Expr} {scope : Scope} {own : List (Str × Nat)} {pos : Pos}
theorem pxf_lc (own : List (Str × Nat)) (hN : X.N.Nodup) (ok : BlkOk X.N X.env.scope scope own) (hi : PXI X W tg iter it)
    (hg : ∀ (s : Shared) (H : Hp) (C : Addr) (cl : List (Str × Addr)) (fp : List Addr), PXGE (X.blk s H scope (compEnvC scope cl C X.env) fp) (own.map (·.2)) tg a) (ht : ∀ (s : Shared) (H : Hp) (C : Addr) (cl : List (Str × Addr)) (fp : List Addr), PXTs (X.blk s H scope (compEnvC scope cl C X.env) fp) W0 ifs t)
    (he : ∀ (s : Shared) (H : Hp) (C : Addr) (cl : List (Str × Addr)) (fp : List Addr), PX (X.blk s H scope (compEnvC scope cl C X.env) fp) W0 elt f) (hc : X.calm = true := by rfl) (hs : ∀ x, foldedSetIterable iter X.env x = pure x := by intro _; rfl) :
    PXF X W (.ListComp elt [⟨tg, iter, ifs, 0⟩] scope pos) (N.comp it a t f (own.map (·.2))) :=
  (pe_lc (g := tOfGE X.K (List.map (fun p : Str × Nat => p.2) own) a) (tt := tOfT X.K X.mg W0 t) (te := tOf X.K X.mg W0 f) hc hN hi ok hg ht he hs).imp lc_does
/-- y = [..] where the store is swapped in -/
theorem pxs_lcO {y : Str} {py spos : Pos} {m : SE → R (List D)} (i : Nat) (own : List (Str × Nat)) (hm : ∀ σ H Q, tEvF X.K X.mg W m σ H Q → tOfF X.K X.mg W (N.comp it a t f (own.map (·.2))) σ H Q) (hN : X.N.Nodup) (ok : BlkOk X.N X.env.scope scope own) (hi : PXI X W tg iter it)
    (hg : ∀ (s : Shared) (H : Hp) (C : Addr) (cl : List (Str × Addr)) (fp : List Addr), PXGE (X.blk s H scope (compEnvC scope cl C X.env) fp) (own.map (·.2)) tg a) (ht : ∀ (s : Shared) (H : Hp) (C : Addr) (cl : List (Str × Addr)) (fp : List Addr), PXTs (X.blk s H scope (compEnvC scope cl C X.env) fp) W0 ifs t)
    (he : ∀ (s : Shared) (H : Hp) (C : Addr) (cl : List (Str × Addr)) (fp : List Addr), PX (X.blk s H scope (compEnvC scope cl C X.env) fp) W0 elt f)
    (hsw : swapsWith (.ListComp elt [⟨tg, iter, ifs, 0⟩] scope pos) (some (.Name y py)) spos.line X.env = pure true) (hc : X.calm = true := by rfl) (hy : X.N[i]? = some y := by rfl) (hyl : X.env.scope.names.lookup y = some .local := by rfl) (hs : ∀ x, foldedSetIterable iter X.env x = pure x := by intro _; rfl) :
    PXS X W (.Assign [.Name y py] (.ListComp elt [⟨tg, iter, ifs, 0⟩] scope pos) spos) (S.setO i m) :=
  (ps_setLc (g := tOfGE X.K (List.map (fun p : Str × Nat => p.2) own) a) (tt := tOfT X.K X.mg W0 t) (te := tOf X.K X.mg W0 f) hc hN hy hyl hsw hi ok hg ht he hs).imp fun Z σ H h => lc_does _ _ _ (hm _ _ _ (setO_does h))
theorem pxs_lc {y : Str} {py spos : Pos} {m : SE → R (List D)} (i : Nat) (own : List (Str × Nat)) (hm : ∀ σ H Q, tEvF X.K X.mg W m σ H Q → tOfF X.K X.mg W (N.comp it a t f (own.map (·.2))) σ H Q) (hN : X.N.Nodup) (ok : BlkOk X.N X.env.scope scope own) (hi : PXI X W tg iter it)
    (hg : ∀ (s : Shared) (H : Hp) (C : Addr) (cl : List (Str × Addr)) (fp : List Addr), PXGE (X.blk s H scope (compEnvC scope cl C X.env) fp) (own.map (·.2)) tg a) (ht : ∀ (s : Shared) (H : Hp) (C : Addr) (cl : List (Str × Addr)) (fp : List Addr), PXTs (X.blk s H scope (compEnvC scope cl C X.env) fp) W0 ifs t)
    (he : ∀ (s : Shared) (H : Hp) (C : Addr) (cl : List (Str × Addr)) (fp : List Addr), PX (X.blk s H scope (compEnvC scope cl C X.env) fp) W0 elt f)
    (hsw : swapsWith (.ListComp elt [⟨tg, iter, ifs, 0⟩] scope pos) (some (.Name y py)) spos.line X.env = pure true) (hc : X.calm = true := by rfl) (hy : X.N[i]? = some y := by rfl) (hyl : X.env.scope.names.lookup y = some .local := by rfl) (hs : ∀ x, foldedSetIterable iter X.env x = pure x := by intro _; rfl) :
    PXS X W (.Assign [.Name y py] (.ListComp elt [⟨tg, iter, ifs, 0⟩] scope pos) spos) (S.set i (M.ofF m)) := by
  refine (ps_setLc (g := tOfGE X.K (List.map (fun p : Str × Nat => p.2) own) a) (tt := tOfT X.K X.mg W0 t) (te := tOf X.K X.mg W0 f) hc hN hy hyl hsw hi ok hg ht he hs).imp fun Z σ H h => lc_does _ _ _ (hm _ _ _ (evf_of _ _ _ ?_))
  obtain ⟨ρ, F, F0, H0, r, p⟩ := h
  exact ⟨ρ, F, F0, H0, r, post_on r p fun x d F1 H1 e1 r1 rv p1 => p1 _ F1 H1 (r1.set rv)⟩
end

/-! ### methods of an owned list -/
namespace S
def onOwn (i : Nat) (ρ : SE) (k : List D → O) : O := match ρ[i]? with
  | some (.own ds) => k ds
  | _ => .stuck
def append (i : Nat) (m : SE → R D) : SE → O := fun ρ => onOwn i ρ fun ds => (m ρ).on ρ fun d => if ds.length < 16777216 then .nx (ρ.set i (.own (ds ++ [d]))) else .stuck
def extend (i : Nat) (m : SE → R (List D)) : SE → O := fun ρ => onOwn i ρ fun ds => (m ρ).on ρ fun es => if ds.length + es.length ≤ 16777216 then .nx (ρ.set i (.own (ds ++ es))) else .stuck
/-- slot i gets g of the last item of slot j -/
def pop (i j : Nat) (g : D → Option D) : SE → O := fun ρ => onOwn j ρ fun ds => match ds.getLast? with
  | some d => match g d with
    | some d' => .nx ((ρ.set j (.own ds.dropLast)).set i (.val d'))
    | none => .stuck
  | none => .stuck
end S
section
variable {X : Cx} {W : WX} {x : Str} {e : Expr} {m : SE → R D} {ml : SE → R (List D)} {xp pos apos cpos : Pos}
theorem own_get {i : Nat} {ρ : SE} {k : List D → O} {K : PySem.W.Frag} {mg : Str → Option Value} {W : WX} {F0 H0 : Hp} {Z : Ends} (h : PostS K mg W F0 H0 (S.onOwn i ρ k) Z) : ∃ ds, ρ[i]? = some (.own ds) ∧ PostS K mg W F0 H0 (k ds) Z := by
  unfold S.onOwn at h
  split at h
  · exact ⟨_, by assumption, h⟩
  · exact h.elim
theorem pxs_append (i : Nat) (he : PXe X W e m) (hN : X.N[i]? = some x := by rfl) (hv : Vis X.env.scope x := by first | exact Or.inl rfl | exact Or.inr (Or.inl rfl) | exact Or.inr (Or.inr rfl)) (hd : (x == ("__debug__" : Str)) = false := by decide) (hcd : (x == ("__classdict__" : Str)) = false := by decide)
    (hbase : attributeBase (.Name x xp) "append" X.env (eval (.Name x xp) X.env) = eval (.Name x xp) X.env := by rfl)
    (hfew : ((backTo cpos (starEach [e] X.env)).all (fun x => !x.1) && (backToKw cpos (keywordEach [] X.env)).all (fun x => x.1.isSome) && decide ([e].length + ([] : List Keyword).length + (if ([] : List Keyword).isEmpty then 0 else 1) < 30)) = true := by rfl)
    (hline : (apos.endLine == cpos.line) = true := by rfl) (hs1 : starEach [e] X.env = (false, eval e X.env) :: starEach [] X.env := by rfl) (hplain : (backTo cpos (starEach [] X.env)).any (·.1) = false := by rfl)
    (hs : swapsWith (.Call (.Attribute (.Name x xp) "append" apos) [e] [] cpos) none pos.line X.env = pure false := by rfl) :
    PXS X W (.Expr (.Call (.Attribute (.Name x xp) "append" apos) [e] [] cpos) pos) (S.append i m) := by
  refine (ps_expr (pe_bm PySem.F.plainAttrs_list PySem.F.slot_list_append PySem.F.type_list_append mt_append (pe_var hN hv hd hcd) (pa_cons he pa_nil hs1) hbase hfew hline hs1 hplain) hs).imp fun Z σ H ⟨ρ, F, F0, H0, r, p⟩ => ?_
  obtain ⟨ds, hi, p⟩ := own_get p
  obtain ⟨a, xs, h1, h2, h3, h4, h5, h6⟩ := r.own i ds hi
  refine ⟨.ref a, h1, .inl ⟨rfl, xs, SqL.of h4⟩, ρ, F, F0, H0, r, post_on r p fun v d F1 H1 e1 r1 rv p1 => ?_⟩
  by_cases hz : ds.length < 16777216
  · rw [if_pos hz] at p1
    have hz' : xs.length < sizeLine := by rw [h6.length, sz]; exact hz
    refine ⟨a, xs, v, rfl, rfl, e1.sH _ _ h4, hz', p1 σ F1 _ (r1.write hi h1 ?_ ((h6.mono e1.sF).append (.cons rv .nil)))⟩
    rw [List.length_append]; exact hz'
  · rw [if_neg hz] at p1; exact p1.elim
theorem pxs_extend (i : Nat) (he : PXeL X W e ml) (hN : X.N[i]? = some x := by rfl) (hv : Vis X.env.scope x := by first | exact Or.inl rfl | exact Or.inr (Or.inl rfl) | exact Or.inr (Or.inr rfl)) (hd : (x == ("__debug__" : Str)) = false := by decide) (hcd : (x == ("__classdict__" : Str)) = false := by decide)
    (hbase : attributeBase (.Name x xp) "extend" X.env (eval (.Name x xp) X.env) = eval (.Name x xp) X.env := by rfl)
    (hfew : ((backTo cpos (starEach [e] X.env)).all (fun x => !x.1) && (backToKw cpos (keywordEach [] X.env)).all (fun x => x.1.isSome) && decide ([e].length + ([] : List Keyword).length + (if ([] : List Keyword).isEmpty then 0 else 1) < 30)) = true := by rfl)
    (hline : (apos.endLine == cpos.line) = true := by rfl) (hs1 : starEach [e] X.env = (false, eval e X.env) :: starEach [] X.env := by rfl) (hplain : (backTo cpos (starEach [] X.env)).any (·.1) = false := by rfl)
    (hs : swapsWith (.Call (.Attribute (.Name x xp) "extend" apos) [e] [] cpos) none pos.line X.env = pure false := by rfl) :
    PXS X W (.Expr (.Call (.Attribute (.Name x xp) "extend" apos) [e] [] cpos) pos) (S.extend i ml) := by
  refine (ps_expr (pe_bm PySem.F.plainAttrs_list PySem.F.slot_list_extend PySem.F.type_list_extend mt_extend (pe_var hN hv hd hcd) (pa_cons he pa_nil hs1) hbase hfew hline hs1 hplain) hs).imp fun Z σ H ⟨ρ, F, F0, H0, r, p⟩ => ?_
  obtain ⟨ds, hi, p⟩ := own_get p
  obtain ⟨a, xs, h1, h2, h3, h4, h5, h6⟩ := r.own i ds hi
  refine ⟨.ref a, h1, .inl ⟨rfl, xs, SqL.of h4⟩, ρ, F, F0, H0, r, ?_⟩
  cases q : ml ρ with
  | ok es =>
    rw [q, on_ok] at p
    intro b zs F1 H1 e1 hb rz
    by_cases hz : ds.length + es.length ≤ 16777216
    · rw [if_pos hz] at p
      have hz' : xs.length + zs.length ≤ sizeLine := by rw [h6.length, rz.length, sz]; exact hz
      refine ⟨a, b, xs, zs, rfl, rfl, e1.sH _ _ h4, hb, hz', p σ F1 _ ((r.grow e1).write hi h1 ?_ ((h6.mono e1.sF).append rz))⟩
      rw [List.length_append]; exact hz'
    · rw [if_neg hz] at p; exact p.elim
  | exc c => rw [q] at p; exact fun C F' H' m e' => p C σ F' H' m (r.grow e')
  | stuck => rw [q] at p; exact p.elim
/-- y = x.pop() -/
theorem pxs_pop {y : Str} {yp : Pos} (i j : Nat) (hij : j ≠ i) (hNd : X.N.Nodup) (hNi : X.N[i]? = some y := by rfl) (hy : Loc X.env.scope y := by first | exact Or.inl rfl | exact Or.inr rfl) (hf : X.fn y = true ∨ X.env.scope.names.lookup y = some .local := by first | exact .inl rfl | exact .inr rfl | assumption)
    (hN : X.N[j]? = some x := by rfl) (hv : Vis X.env.scope x := by first | exact Or.inl rfl | exact Or.inr (Or.inl rfl) | exact Or.inr (Or.inr rfl)) (hd : (x == ("__debug__" : Str)) = false := by decide) (hcd : (x == ("__classdict__" : Str)) = false := by decide)
    (hbase : attributeBase (.Name x xp) "pop" X.env (eval (.Name x xp) X.env) = eval (.Name x xp) X.env := by rfl) (hline : (apos.endLine == cpos.line) = true := by rfl)
    (hs : swapsWith (.Call (.Attribute (.Name x xp) "pop" apos) [] [] cpos) (some (.Name y yp)) pos.line X.env = pure false := by rfl) :
    PXS X W (.Assign [.Name y yp] (.Call (.Attribute (.Name x xp) "pop" apos) [] [] cpos) pos) (S.pop i j some) := by
  refine (ps_set hNd hNi hy (pe_bm0 PySem.F.plainAttrs_list PySem.F.slot_list_pop PySem.F.type_list_pop mt_pop (pe_var hN hv hd hcd) hbase hline) hs hf).imp fun Z σ H ⟨ρ, F, F0, H0, r, p⟩ => ?_
  obtain ⟨ds, hi, p⟩ := own_get p
  obtain ⟨a, xs, h1, h2, h3, h4, h5, h6⟩ := r.own j ds hi
  cases q : ds.getLast? with
  | none => rw [q] at p; exact p.elim
  | some d =>
    rw [q] at p
    rw [List.getLast?_eq_getElem?, ← h6.length] at q
    obtain ⟨v, hv', rv⟩ := h6.get' q
    refine ⟨.ref a, h1, .inl ⟨rfl, xs, SqL.of h4⟩, a, xs, v, rfl, rfl, h4, hv', p _ F _ ?_⟩
    refine (r.write (xs' := xs.dropLast) hi h1 (by rw [List.length_dropLast]; omega) h6.dropLast).set rv
/-- y = x.pop()[n] -/
theorem pxs_popIx {y : Str} {yp npos spos : Pos} {n : Int} {kk : Nat} (i j : Nat) (hij : j ≠ i) (hNd : X.N.Nodup) (hNi : X.N[i]? = some y := by rfl) (hy : Loc X.env.scope y := by first | exact Or.inl rfl | exact Or.inr rfl) (hf : X.fn y = true ∨ X.env.scope.names.lookup y = some .local := by first | exact .inl rfl | exact .inr rfl | assumption)
    (hN : X.N[j]? = some x := by rfl) (hv : Vis X.env.scope x := by first | exact Or.inl rfl | exact Or.inr (Or.inl rfl) | exact Or.inr (Or.inr rfl)) (hd : (x == ("__debug__" : Str)) = false := by decide) (hcd : (x == ("__classdict__" : Str)) = false := by decide)
    (hbase : attributeBase (.Name x xp) "pop" X.env (eval (.Name x xp) X.env) = eval (.Name x xp) X.env := by rfl) (hline : (apos.endLine == cpos.line) = true := by rfl)
    (hs : swapsWith (.Subscript (.Call (.Attribute (.Name x xp) "pop" apos) [] [] cpos) (.Constant (.int n) kk npos) spos) (some (.Name y yp)) pos.line X.env = pure false := by rfl) :
    PXS X W (.Assign [.Name y yp] (.Subscript (.Call (.Attribute (.Name x xp) "pop" apos) [] [] cpos) (.Constant (.int n) kk npos) spos) pos) (S.pop i j fun d => ixD d (.int n)) := by
  refine (ps_set hNd hNi hy (pe_ix ix_D (pe_bm0 PySem.F.plainAttrs_list PySem.F.slot_list_pop PySem.F.type_list_pop mt_pop (pe_var hN hv hd hcd) hbase hline) pe_int (fun _ _ => rfl)) hs hf).imp fun Z σ H ⟨ρ, F, F0, H0, r, p⟩ => ?_
  obtain ⟨ds, hi, p⟩ := own_get p
  obtain ⟨a, xs, h1, h2, h3, h4, h5, h6⟩ := r.own j ds hi
  cases q : ds.getLast? with
  | none => rw [q] at p; exact p.elim
  | some d =>
    rw [q] at p
    dsimp only at p
    cases qi : ixD d (.int n) with
    | none => rw [qi] at p; exact p.elim
    | some d' =>
      rw [qi] at p
      rw [List.getLast?_eq_getElem?, ← h6.length] at q
      obtain ⟨v, hv', rv⟩ := h6.get' q
      have r2 := r.write (xs' := xs.dropLast) hi h1 (by rw [List.length_dropLast]; omega) h6.dropLast
      refine ⟨.ref a, h1, .inl ⟨rfl, xs, SqL.of h4⟩, a, xs, v, rfl, rfl, h4, hv', ?_⟩
      exact ⟨F, d, .int n, d', r2.sub, rv, .int n, qi, fun v' F' H' e' rv' => p _ F' H' ((r2.grow e').set rv')⟩
end
end PV

/-! P5: set(xs) of a list of ints, sorted; built-in functions on data. -/
namespace PV
open PySem PySem.Spec L2
open PyProof.Rows hiding St

abbrev emptySet (w : World) : Obj := { cls := .type "set", dict := none, data := .set #[] 0 (.fresh 0 0 (!w.params.followText "set-order")) }
set_option maxHeartbeats 4000000 in
/-- set(l), l a list of ints -/
theorem set_of_ints {P : Program} {w : World} {A : Around} {E : Value → Shared → Prop} {s : Shared} {l : Addr} {its : Array Value} (ns : List Int) {Q : Value → Shared → Prop} (hh : A.handled = none) (hl : s.heap.IsList l its) (hit : IntsAre its.toList ns) (hb : ns.length + 1 < scanBound)
    (h : ∀ (h' : Heap) (tk c : Nat), SetR w h' s.heap.objs.size (fun j => decide (j ∈ ns)) c → c ≤ ns.length → (∀ b o, s.heap.get? b = some o → h'.get? b = some o) → Q (.ref s.heap.objs.size) { s with heap := h', toks := tk }) :
    wpAny (model P w) A (call (.type "set") [.ref l]) Q E s := by
  have hn : its.size = ns.length := by
    have q := IntsAre.length hit
    rwa [Array.length_toList] at q
  obtain ⟨c0, t0, m0⟩ := F.called_set.mro
  have m1 := F.called_set.made
  have m2 := F.called_set.sub
  refine wpAny_call (codeAny_of_tree ?_)
  show wpAny (model P w) _ (callAny (.type "set") _) _ _ s
  refine wpAny_pure ⟨Code.quiet_builtin _ (by decide +kernel), codeAny_builtin F.entry_type_call ?_⟩
  rw [Around.under_plain (weight_type_call_type "set" [.ref l] []) rfl]
  have m3 := F.called_set.notType
  have m4 := F.called_set.canCreate
  have m5 := F.typeCall_set_1 (.ref l)
  repeat (any_goals (first | assumption | wp_step))
  refine codeAny_mono (code_set_led1 (.ref l) (E := E) (Q₁ := fun o z => o = .ref s.heap.objs.size ∧ z = { s with heap := s.heap.push (emptySet w) }) ⟨rfl, rfl⟩) fun r z hr => ?_
  cases r with
  | error e => exact hr
  | ok fl =>
    cases fl with
    | ret o =>
      obtain ⟨rfl, rfl⟩ := hr
      have gS : (s.heap.push (emptySet w)).get? s.heap.objs.size = some (emptySet w) := Heap.get?_push_size _ rfl
      have tS : Shared.TypeIs { s with heap := s.heap.push (emptySet w) } (.ref s.heap.objs.size) "set" := ⟨_, gS, rfl⟩
      have i1 := F.called_set.init.lookup
      have i2 := F.called_set.init.bind (.ref s.heap.objs.size)
      repeat (any_goals (first | assumption | wp_step))
      refine codeAny_mono (codeAny_call_builtin (R := wants (fun r z2 => r = .none ∧ ∃ h' tk c, z2 = { s with heap := h', toks := tk } ∧ SetR w h' s.heap.objs.size (fun j => decide (j ∈ ns)) c ∧ c ≤ ns.length ∧
          (∀ b o, s.heap.get? b = some o → h'.get? b = some o)) E) F.called_set.init.plain F.entry_set_init (check_set_init_1 tS ?_)) fun r2 z2 hr2 => ?_
      · obtain ⟨ol, ho, hc, nl, hd⟩ := hl
        obtain ⟨k1, k2, k3, k4⟩ := ol
        simp only at hc hd
        subst hc; subst hd
        have ho' : (s.heap.push (emptySet w)).get? l = some { cls := .type "list", dict := k2, data := .seq its nl, slots := k4 } := Heap.get?_push_of_some _ ho
        have u1 := F.sub_list_set
        have u2 := F.sub_list_frozenset
        have u3 : (Value.type "list" == Value.type "dict") = false := by decide
        have hl1 : (s.heap.push (emptySet w)).IsList l its := ⟨_, ho', rfl, nl, rfl⟩
        unfold Builtin.«set.__init__» noKeywords Builtin.Frozenset.updateFrom
        generalize hPI : pyIter = PI
        wp_walk
        subst hPI
        refine wpAny_pyIter_list hl1 (wpAny_bind (wpAny_runValue ?_))
        have lS : l < s.heap.objs.size := Heap.lt_size ho
        have nI : l ≠ (s.heap.push (emptySet w)).objs.size := by rw [Heap.size_push]; exact Nat.ne_of_lt (Nat.lt_succ_of_lt lS)
        have nS : s.heap.objs.size ∉ [(s.heap.push (emptySet w)).objs.size, l] := by
          rw [Heap.size_push]
          intro q
          simp only [List.mem_cons, List.not_mem_nil, or_false] at q
          rcases q with q | q
          · exact absurd q (Nat.ne_of_lt (Nat.lt_succ_self _))
          · exact absurd q (Nat.ne_of_gt lS)
        have vals : ∀ (i : Nat) (v : Value), its[i]? = some v → ∃ k t, ns[i]? = some k ∧ v = .int k t := fun i v hv => by
          have hi : i < ns.length := by rw [← hn]; exact (Array.getElem?_eq_some_iff.mp hv).1
          obtain ⟨t, e⟩ := IntsAre.int_at hit i v (by rw [Array.getElem?_toList]; exact hv)
          refine ⟨ns[i], t, List.getElem?_eq_getElem hi, ?_⟩
          rw [e, List.getD_eq_getElem?_getD, List.getElem?_eq_getElem hi] <;> rfl
        refine set_update_ints ((Walks.list (A := A.in1.in1.in1) (by simp [hh]) _ l nI its).toS) s.heap.objs.size nS ns hn hb vals (its.size - 0) 0 _ (by omega) (Nat.zero_le _)
          ⟨⟨_, Heap.get?_push_size _ rfl, rfl, rfl⟩, (hl1.push _)⟩ ⟨0, Nat.le_refl 0, setR_new_at (Heap.get?_push_of_some _ gS)⟩ fun z3 c3 mv hc3 hS3 => ?_
        obtain ⟨h', g2, d', tk', os'⟩ := z3
        have eg : g2 = s.gens := mv.gens
        have ed : d' = s.drawn := mv.drawn
        have eo : os' = s.os := mv.os
        subst eg; subst ed; subst eo
        refine wpAny_pure ?_
        show wpAny _ _ (ret Value.none) _ _ _
        rw [hn] at hc3
        refine wpAny_pure ⟨rfl, h', tk', c3, rfl, hS3, hc3, fun b o e => ?_⟩
        have b0 : b < s.heap.objs.size := Heap.lt_size e
        refine mv.heap b o (fun q => ?_) (Heap.get?_push_of_some _ (Heap.get?_push_of_some _ e))
        simp only [List.mem_cons, List.not_mem_nil, or_false] at q
        rcases q with q | q
        · exact absurd q (Nat.ne_of_lt b0)
        · rw [q, Heap.size_push] at b0
          exact absurd b0 (Nat.not_lt_of_le (Nat.le_succ _))
      · cases r2 with
        | error e => exact hr2
        | ok fl2 =>
          cases fl2 with
          | ret r =>
            obtain ⟨rfl, h', tk, c', rfl, q1, q2, q3⟩ := hr2
            repeat (any_goals (first | assumption | wp_step))
            exact h _ _ _ q1 q2 q3
          | _ => exact hr2.elim
    | _ => exact hr.elim
end PV

/-! P6: a, b = x, y. -/
namespace PV
open PySem PySem.Spec L2
open PyProof.Rows hiding St

/-- values that are to be stored: frozen data, or new lists -/
structure RelBs (K : PySem.W.Frag) (F' H' H : Hp) (vs : List V) (bs : List B) : Prop where
  len : vs.length = bs.length
  nun : ∀ i : Nat, bs[i]? ≠ some .un
  val : ∀ (i : Nat) d v, bs[i]? = some (.val d) → vs[i]? = some v → Rp K F' v d
  own : ∀ (i : Nat) ds v, bs[i]? = some (.own ds) → vs[i]? = some v → ∃ b xs, v = .ref b ∧ F' b = none ∧ H b = none ∧ H' b = some (.lst xs) ∧ xs.length ≤ sizeLine ∧ RpAll K F' xs ds
  dis : ∀ (i j : Nat) ds es a, i ≠ j → bs[i]? = some (.own ds) → bs[j]? = some (.own es) → vs[i]? = some (.ref a) → vs[j]? ≠ some (.ref a)
def PostB (K : PySem.W.Frag) (mg : Str → Option Value) (E : XK) (F H : Hp) : R (List B) → (List V → Hp → Prop) → Prop
  | .ok bs, Q => ∀ vs F' H', Ext F H F' H' → RelBs K F' H' H vs bs → Q vs H'
  | .exc c, _ => ∀ C F' H', mg c = some (.ref C) → Ext F H F' H' → E (.ref C) none H'
  | .stuck, _ => False
def tEvB (K : PySem.W.Frag) (mg : Str → Option Value) (W : WX) (m : SE → R (List B)) : TA := fun σ H Q => ∃ ρ F F0 H0, RelS K ρ σ F H F0 H0 ∧ PostB K mg (fun c d H' => W c d σ H') F H (m ρ) Q
def PXB (X : Cx) (W : WX) (es : List Expr) (m : SE → R (List B)) : Prop := PA X es (tEvB X.K X.mg W m)
namespace Bs
def nil : SE → R (List B) := fun _ => .ok []
def val (m : SE → R D) (n : SE → R (List B)) : SE → R (List B) := fun ρ => (m ρ).bind fun d => (n ρ).bind fun bs => .ok (.val d :: bs)
def own (m : SE → R (List D)) (n : SE → R (List B)) : SE → R (List B) := fun ρ => (m ρ).bind fun ds => (n ρ).bind fun bs => .ok (.own ds :: bs)
end Bs
section
variable {X : Cx} {W : WX} {e : Expr} {es : List Expr} {m : SE → R D} {mf : SE → R (List D)} {n : SE → R (List B)}
theorem pxb_nil : PXB X W [] Bs.nil := by
  refine pa_nil.imp fun σ H Q ⟨ρ, F, F0, H0, r, p⟩ => p [] F H (.refl r.sub) ⟨rfl, fun i h => by simp at h, fun i d v h => by simp at h, fun i d v h => by simp at h, fun i j ds es a _ h => by simp at h⟩
theorem pxb_val (h : PXe X W e m) (hr : PXB X W es n) (hs : starEach (e :: es) X.env = (false, eval e X.env) :: starEach es X.env := by rfl) : PXB X W (e :: es) (Bs.val m n) := by
  refine (pa_cons h hr hs).imp fun σ H Q ⟨ρ, F, F0, H0, r, p⟩ => ⟨ρ, F, F0, H0, r, ?_⟩
  unfold Bs.val at p
  cases q : m ρ with
  | exc c => rw [q] at p; exact p
  | stuck => rw [q] at p; exact p
  | ok d =>
    rw [q, R.bind_ok] at p
    intro v F1 H1 e1 rv
    refine ⟨ρ, F1, F0, H0, r.grow e1, ?_⟩
    cases q2 : n ρ with
    | exc c => rw [q2] at p; exact fun C F' H' mm e' => p C F' H' mm (e1.trans e')
    | stuck => rw [q2] at p; exact p
    | ok bs =>
      rw [q2, R.bind_ok] at p
      intro vs F' H' e' rb
      refine p (v :: vs) F' H' (e1.trans e') ⟨by simp [rb.len], fun i h => ?_, fun i d' v' h1 h2 => ?_, fun i ds v' h1 h2 => ?_, fun i j ds es a hij h1 h2 h3 => ?_⟩
      · cases i with
        | zero => cases h
        | succ i => exact rb.nun i (by simpa using h)
      · cases i with
        | zero => cases h1; cases h2; exact rv.mono e'.sF
        | succ i => exact rb.val i d' v' (by simpa using h1) (by simpa using h2)
      · cases i with
        | zero => cases h1
        | succ i =>
          obtain ⟨b, xs, g1, g2, g3, g4⟩ := rb.own i ds v' (by simpa using h1) (by simpa using h2)
          exact ⟨b, xs, g1, g2, same_none e1.sH g3, g4⟩
      · cases i with
        | zero => cases h1
        | succ i =>
          cases j with
          | zero => cases h2
          | succ j =>
            have := rb.dis i j ds es a (by omega) (by simpa using h1) (by simpa using h2) (by simpa using h3)
            simpa using this
theorem pxb_own (h : PXeF X W e mf) (hr : PXB X W es n) (hs : starEach (e :: es) X.env = (false, eval e X.env) :: starEach es X.env := by rfl) : PXB X W (e :: es) (Bs.own mf n) := by
  refine (pa_cons h hr hs).imp fun σ H Q ⟨ρ, F, F0, H0, r, p⟩ => ⟨ρ, F, F0, H0, r, ?_⟩
  unfold Bs.own at p
  cases q : mf ρ with
  | exc c => rw [q] at p; exact p
  | stuck => rw [q] at p; exact p
  | ok dl =>
    rw [q, R.bind_ok] at p
    intro b0 xs0 F1 H1 e1 f1 f2 f3 f4 f5
    refine ⟨ρ, F1, F0, H0, r.grow e1, ?_⟩
    cases q2 : n ρ with
    | exc c => rw [q2] at p; exact fun C F' H' mm e' => p C F' H' mm (e1.trans e')
    | stuck => rw [q2] at p; exact p
    | ok bs =>
      rw [q2, R.bind_ok] at p
      intro vs F' H' e' rb
      have ne : ∀ (i : Nat) ds, bs[i]? = some (.own ds) → vs[i]? ≠ some (.ref b0) := fun i ds h1 h2 => by
        obtain ⟨b, xs, g1, g2, g3, g4⟩ := rb.own i ds _ h1 h2
        cases g1
        rw [f3] at g3; cases g3
      refine p (.ref b0 :: vs) F' H' (e1.trans e') ⟨by simp [rb.len], fun i h => ?_, fun i d' v' h1 h2 => ?_, fun i ds v' h1 h2 => ?_, fun i j ds es a hij h1 h2 h3 => ?_⟩
      · cases i with
        | zero => cases h
        | succ i => exact rb.nun i (by simpa using h)
      · cases i with
        | zero => cases h1
        | succ i => exact rb.val i d' v' (by simpa using h1) (by simpa using h2)
      · cases i with
        | zero => cases h1; cases h2; exact ⟨b0, xs0, rfl, e'.sep _ _ f3 f1, f2, e'.sH _ _ f3, f4, f5.mono e'.sF⟩
        | succ i =>
          obtain ⟨b, xs, g1, g2, g3, g4⟩ := rb.own i ds v' (by simpa using h1) (by simpa using h2)
          exact ⟨b, xs, g1, g2, same_none e1.sH g3, g4⟩
      · cases i with
        | zero =>
          cases h3
          cases j with
          | zero => exact absurd rfl hij
          | succ j =>
            have := ne j es (by simpa using h2)
            simpa using this
        | succ i =>
          cases j with
          | zero =>
            intro z
            have ea : b0 = a := by simpa using z
            subst ea
            exact ne i ds (by simpa using h1) (by simpa using h3)
          | succ j =>
            have := rb.dis i j ds es a (by omega) (by simpa using h1) (by simpa using h2) (by simpa using h3)
            simpa using this
end
/-- the stores, from the left -/
def setsB (is : List Nat) (bs : List B) (ρ : SE) : SE := List.foldl (fun r p => r.set p.1 p.2) ρ (is.zip bs)
def setsV (is : List Nat) (vs : List V) (σ : St) : St := List.foldl (fun r p => r.set p.1 (some p.2)) σ (is.zip vs)
theorem RelS.sets {K : PySem.W.Frag} {F H F0 H0 Hs : Hp} : ∀ {is : List Nat} {bs : List B} {vs : List V} {ρ : SE} {σ : St}, is.length = bs.length → RelS K ρ σ F H F0 H0 → Same H0 Hs → RelBs K F H Hs vs bs →
    (∀ (i : Nat) ds v, bs[i]? = some (.own ds) → vs[i]? = some v → ∀ (j : Nat) es, ρ[j]? = some (.own es) → σ[j]? ≠ some (some v)) → RelS K (setsB is bs ρ) (setsV is vs σ) F H F0 H0
  | [], _, _, _, _, _, r, _, _, _ => by simpa [setsB, setsV] using r
  | i :: is, [], _, _, _, hl, _, _, _, _ => by simp at hl
  | i :: is, b :: bs, vs, ρ, σ, hl, r, h0, rb, hn => by
    cases vs with
    | nil => have := rb.len; simp at this
    | cons v vs =>
      have tl : RelBs K F H Hs vs bs := ⟨by have := rb.len; simpa using this, fun k h => rb.nun (k + 1) (by simpa using h), fun k d w h1 h2 => rb.val (k + 1) d w (by simpa using h1) (by simpa using h2),
        fun k ds w h1 h2 => rb.own (k + 1) ds w (by simpa using h1) (by simpa using h2), fun k l ds es a hkl h1 h2 h3 => by
          have := rb.dis (k + 1) (l + 1) ds es a (by omega) (by simpa using h1) (by simpa using h2) (by simpa using h3)
          simpa using this⟩
      show RelS K (setsB is bs (ρ.set i b)) (setsV is vs (σ.set i (some v))) F H F0 H0
      cases b with
      | un => exact absurd rfl (rb.nun 0)
      | val d =>
        refine RelS.sets (by simpa using hl) (r.set (rb.val 0 d v rfl rfl)) h0 tl fun k ds w h1 h2 j es h3 => ?_
        rcases getElem?_set_cases h3 with ⟨_, e, _⟩ | ⟨e, h3⟩
        · cases e
        · rw [List.getElem?_set_ne e]
          exact hn (k + 1) ds w (by simpa using h1) (by simpa using h2) j es h3
      | own ds =>
        obtain ⟨a, xs, rfl, g2, g3, g4, g5, g6⟩ := rb.own 0 ds v rfl rfl
        refine RelS.sets (by simpa using hl) (r.take g2 (same_none h0 g3) g4 g5 g6 fun j es hj => hn 0 ds _ rfl rfl j es hj) h0 tl fun k ds' w h1 h2 j es h3 => ?_
        rcases getElem?_set_cases h3 with ⟨rfl, e, hlen⟩ | ⟨e, h3⟩
        · rw [List.getElem?_set_self (by rw [r.len]; exact hlen)]
          intro z
          cases z
          exact rb.dis (k + 1) 0 ds' ds a (by omega) (by simpa using h1) rfl (by simpa using h2) rfl
        · rw [List.getElem?_set_ne e]
          exact hn (k + 1) ds' w (by simpa using h1) (by simpa using h2) j es h3
namespace S
def asgB (is : List Nat) (m : SE → R (List B)) : SE → O := fun ρ => (m ρ).on ρ fun bs => if is.length = bs.length then .nx (setsB is bs ρ) else .stuck
end S
/-- names as targets -/
def gNs : List Nat → TGs
  | [] => gNil
  | i :: is => gCons (gName i) (gNs is)
theorem gNs_does : ∀ {is : List Nat} {vs : List V} {σ : St} {H : Hp} {Q : St → Hp → Prop}, is.length = vs.length → Q (setsV is vs σ) H → gNs is vs σ H Q
  | [], [], σ, H, Q, _, h => ⟨rfl, h⟩
  | i :: is, v :: vs, σ, H, Q, hl, h => ⟨v, vs, rfl, gNs_does (is := is) (by simpa using hl) h⟩
def PGN (X : Cx) (tgs : List Expr) (is : List Nat) : Prop := PGs X tgs (gNs is)
section
variable {X : Cx} {W : WX} {x y z : Str} {e a b c : Expr} {es tgs : List Expr} {is : List Nat} {m : SE → R (List B)} {pos px py pz pt pt2 : Pos} {kt k2 : Nat}
theorem pgn_nil : PGN X [] [] := pgs_nil
theorem pgn_cons (i : Nat) (h2 : PGN X tgs is) (hN : X.N.Nodup) (hi : X.N[i]? = some x := by rfl) (hx : Loc X.env.scope x := by first | exact Or.inl rfl | exact Or.inr rfl) (hf : X.fn x = true ∨ X.env.scope.names.lookup x = some .local := by first | exact .inl rfl | exact .inr rfl | assumption)
    (hs : (assignEach (.Name x px :: tgs) X.env).map (·.2) = assign (.Name x px) X.env :: (assignEach tgs X.env).map (·.2) := by rfl) : PGN X (.Name x px :: tgs) (i :: is) := pgs_cons (pg_name hN hi hx hf) h2 hs
theorem asgB_does {Z : Ends} {σ : St} {H : Hp} {Q : List V → Hp → Prop} (h : tOfS X.K X.mg W (S.asgB is m) Z σ H) (k : ∀ vs H1, is.length = vs.length → Z.nx (setsV is vs σ) H1 → (∀ p, H1 p = none → Z.nx (setsV is vs σ) (upd H1 p (.tup vs))) → Q vs H1) : tEvB X.K X.mg W m σ H Q := by
  obtain ⟨ρ, F, F0, H0, r, p⟩ := h
  refine ⟨ρ, F, F0, H0, r, ?_⟩
  unfold S.asgB at p
  cases q : m ρ with
  | exc c => rw [q] at p; exact fun C F' H' mm e' => p C σ F' H' mm (r.grow e')
  | stuck => rw [q] at p; exact p
  | ok bs =>
    rw [q, on_ok] at p
    by_cases hl : is.length = bs.length
    · rw [if_pos hl] at p
      intro vs F' H' e' rb
      have nn : ∀ (i : Nat) ds v, bs[i]? = some (.own ds) → vs[i]? = some v → ∀ (j : Nat) es, ρ[j]? = some (.own es) → σ[j]? ≠ some (some v) := fun i ds v h1 h2 j es h3 h4 => by
        obtain ⟨a, xs, rfl, g2, g3, _⟩ := rb.own i ds v h1 h2
        obtain ⟨a', ys, w1, w2, w3, w4, _⟩ := r.own j es h3
        rw [h4] at w1; cases w1
        rw [g3] at w4; cases w4
      refine k vs H' (hl.trans rb.len.symm) (p _ F' H' (RelS.sets hl (r.grow e') r.ext.sH rb nn)) fun q hq => p _ F' _ ?_
      have el : Ext F' H' F' (upd H' q (.tup vs)) := .loose e'.sub hq
      have rb2 : RelBs X.K F' (upd H' q (.tup vs)) H vs bs := ⟨rb.len, rb.nun, rb.val, fun i ds v h1 h2 => by
        obtain ⟨a, xs, g1, g2, g3, g4, g5⟩ := rb.own i ds v h1 h2
        exact ⟨a, xs, g1, g2, g3, el.sH _ _ g4, g5⟩, rb.dis⟩
      exact RelS.sets hl ((r.grow e').grow el) r.ext.sH rb2 nn
    · rw [if_neg hl] at p; exact p.elim
theorem pxs_par {i j : Nat} (h : PXB X W [a, b] m) (hij : i ≠ j) (hc : X.calm = true) (hN : X.N.Nodup) (hi : X.N[i]? = some x := by rfl) (hj : X.N[j]? = some y := by rfl) (hx : X.env.scope.names.lookup x = some .local := by rfl) (hy : X.env.scope.names.lookup y = some .local := by rfl)
    (hw : swappedStores [.Tuple [.Name x px, .Name y py] kt pt] (.Tuple [a, b] k2 pt2) X.env = pure (some [x, y]) := by rfl)
    (hs : swapsWithSole [.Tuple [.Name x px, .Name y py] kt pt] (.Tuple [a, b] k2 pt2) pos.line X.env = pure false := by rfl) :
    PXS X W (.Assign [.Tuple [.Name x px, .Name y py] kt pt] (.Tuple [a, b] k2 pt2) pos) (S.asgB [i, j] m) := by
  refine (ps_par hc hN hi hj hij hx hy h hw hs).imp fun Z σ H h => asgB_does h fun vs H1 hl q _ => ?_
  match vs, hl with
  | [v, w], _ => exact ⟨v, w, rfl, q⟩
theorem pxs_par3 {i j l : Nat} (h : PXB X W [a, b, c] m) (hij : i ≠ j) (hil : i ≠ l) (hjl : j ≠ l) (hc : X.calm = true) (hN : X.N.Nodup) (hi : X.N[i]? = some x := by rfl) (hj : X.N[j]? = some y := by rfl) (hl : X.N[l]? = some z := by rfl) (hx : X.env.scope.names.lookup x = some .local := by rfl) (hy : X.env.scope.names.lookup y = some .local := by rfl) (hz : X.env.scope.names.lookup z = some .local := by rfl)
    (hw : swappedStores [.Tuple [.Name x px, .Name y py, .Name z pz] kt pt] (.Tuple [a, b, c] k2 pt2) X.env = pure (some [x, y, z]) := by rfl)
    (hs : swapsWithSole [.Tuple [.Name x px, .Name y py, .Name z pz] kt pt] (.Tuple [a, b, c] k2 pt2) pos.line X.env = pure false := by rfl) :
    PXS X W (.Assign [.Tuple [.Name x px, .Name y py, .Name z pz] kt pt] (.Tuple [a, b, c] k2 pt2) pos) (S.asgB [i, j, l] m) := by
  refine (ps_par3 hc hN hi hj hl hij hil hjl hx hy hz h hw hs).imp fun Z σ H h => asgB_does h fun vs H1 hl q _ => ?_
  match vs, hl with
  | [u, v, w], _ => exact ⟨u, v, w, rfl, q⟩
theorem pxs_asgB (h : PXB X W es m) (hg : PGN X tgs is) (hlim : is.length ≤ 1000) (hc : X.calm = true) (hn : (assignEach tgs X.env).length = is.length := by rfl) (hst : (assignEach tgs X.env).findIdx? (·.1) = none := by rfl) (hs : swapsWithSole [.Tuple tgs kt pt] (.Tuple es k2 pt2) pos.line X.env = pure false := by rfl) (hw : swappedStores [.Tuple tgs kt pt] (.Tuple es k2 pt2) X.env = pure none := by rfl)
    (h1 : (assignEach [.Tuple tgs kt pt] X.env).map (·.2) = [assign (.Tuple tgs kt pt) X.env] := by rfl) : PXS X W (.Assign [.Tuple tgs kt pt] (.Tuple es k2 pt2) pos) (S.asgB is m) := by
  refine (ps_asg (pe_tup h) (pg_tup hc hg hn hst) hs hw h1).imp fun Z σ H h => ?_
  refine asgB_does h fun vs H1 hl _ q => ⟨?_, fun p hp => ⟨p, vs, rfl, SqT.of upd_same, hl.symm, gNs_does hl (q p hp)⟩⟩
  rw [← hl, sz]; omega
end
end PV

/-! P7: built-in functions on data; raise. -/
namespace PV
open PySem PySem.Spec L2
open PyProof.Rows hiding St

/-- a call of a known value with data, worth g -/
def cOf (K : PySem.W.Frag) (g : List D → Option D) : List V → Hp → VK → Prop := fun xs H Q => ∃ F ds dz, Same F H ∧ RpAll K F xs ds ∧ g ds = some dz ∧ ∀ v F' H', Ext F H F' H' → Rp K F' v dz → Q v H'
namespace E
def bi (g : List D → Option D) (fs : En → R (List D)) : En → R D := fun ρ => (fs ρ).bind fun ds => R.ofO (g ds)
end E
section
variable {X : Cx} {W : WX} {x : Str} {id T : String} {g : List D → Option D} {e : Expr} {es : List Expr} {fs : En → R (List D)} {p pos : Pos}
theorem cb_does {σ : St} {H : Hp} {Q : VK} (h : tOf X.K X.mg W (E.bi g fs) σ H Q) : tCB (cOf X.K g) (tOfA X.K X.mg W fs) σ H Q := by
  obtain ⟨ρ, F, hR, hS, hP⟩ := h
  refine ⟨ρ, F, hR, hS, Post.bind hP fun vs ds F1 H1 e1 r1 p1 => ?_⟩
  cases q : g ds with
  | none => rw [q] at p1; exact p1.elim
  | some dz =>
    rw [q] at p1
    exact ⟨F1, ds, dz, e1.sub, r1, q, p1⟩
theorem px_callB (hc : CallR X (.builtin id) (cOf X.K g)) (hm : X.mg x = none) (hv : bootBuiltins x = some (.builtin id)) (ha : PXA X W (e :: es) fs) (hg : Gl X x := by rfl) (hn : x ≠ "__name__" := by decide) (hdb : (x == ("__debug__" : Str)) = false := by decide)
    (he : starEach (e :: es) X.env = (false, eval e X.env) :: starEach es X.env := by rfl) (hpl : (backTo pos (starEach es X.env)).any (·.1) = false := by rfl) : PX X W (.Call (.Name x p) (e :: es) [] pos) (E.bi g fs) :=
  (pe_callB hc hg hm hv ha hn hdb he hpl).imp fun _ _ _ h => cb_does h
theorem px_callTy (hc : CallR X (.type T) (cOf X.K g)) (hm : X.mg x = none) (hv : bootBuiltins x = some (.type T)) (ha : PXA X W (e :: es) fs) (hg : Gl X x := by rfl) (hn : x ≠ "__name__" := by decide) (hdb : (x == ("__debug__" : Str)) = false := by decide)
    (he : starEach (e :: es) X.env = (false, eval e X.env) :: starEach es X.env := by rfl) (hpl : (backTo pos (starEach es X.env)).any (·.1) = false := by rfl) : PX X W (.Call (.Name x p) (e :: es) [] pos) (E.bi g fs) :=
  (pe_callTy hc hg hm hv ha hn hdb he hpl).imp fun _ _ _ h => cb_does h
end

/-! ### len, min, max, sum, abs, all, any -/
def lenF : List D → Option D
  | [.list ds] => some (.int ds.length)
  | [.tuple ds] => some (.int ds.length)
  | [.str z] => if z.length ≤ 16777216 then some (.int z.length) else none
  | [.dict [(.none, .list ds)]] => some (.int ds.length)
  | _ => none
def max2F : List D → Option D
  | [.int i, .int j] => some (.int (max i j))
  | _ => none
def min2F : List D → Option D
  | [.int i, .int j] => some (.int (min i j))
  | _ => none
def absF : List D → Option D
  | [.int i] => some (.int (if i < 0 then -i else i))
  | _ => none
def asInts : List D → Option (List Int)
  | [] => some []
  | .int i :: ds => (asInts ds).map (i :: ·)
  | _ :: _ => none
def asBools : List D → Option (List Bool)
  | [] => some []
  | .bool i :: ds => (asBools ds).map (i :: ·)
  | _ :: _ => none
theorem asInts_eq : ∀ {ds : List D} {ns : List Int}, asInts ds = some ns → ds = ns.map PyData.int
  | [], ns, h => by cases h; rfl
  | d :: ds, ns, h => by
    cases d with
    | int i =>
      unfold asInts at h
      cases q : asInts ds with
      | none => rw [q] at h; cases h
      | some ms => rw [q] at h; cases h; rw [asInts_eq q]; rfl
    | _ => cases h
theorem asInts_map : ∀ ns : List Int, asInts (ns.map PyData.int) = some ns
  | [] => rfl
  | n :: ns => by show (asInts (ns.map PyData.int)).map (n :: ·) = _; rw [asInts_map ns]; rfl
theorem asBools_eq : ∀ {ds : List D} {ns : List Bool}, asBools ds = some ns → ds = ns.map PyData.bool
  | [], ns, h => by cases h; rfl
  | d :: ds, ns, h => by
    cases d with
    | bool i =>
      unfold asBools at h
      cases q : asBools ds with
      | none => rw [q] at h; cases h
      | some ms => rw [q] at h; cases h; rw [asBools_eq q]; rfl
    | _ => cases h
theorem asBools_map : ∀ ns : List Bool, asBools (ns.map PyData.bool) = some ns
  | [] => rfl
  | n :: ns => by show (asBools (ns.map PyData.bool)).map (n :: ·) = _; rw [asBools_map ns]; rfl
def sumF : List D → Option D
  | [.list ds] => (asInts ds).map fun ns => .int ns.sum
  | _ => none
def allF : List D → Option D
  | [.list ds] => (asBools ds).map fun bs => .bool (bs.all id)
  | _ => none
def anyF : List D → Option D
  | [.list ds] => (asBools ds).map fun bs => .bool (bs.any id)
  | _ => none
def alikeOk (ds : List D) : Bool := PyData.plainAll ds && (ds.all fun d => notNone d && ds.all fun d' => PySem.W.alike d d') && decide (PyData.depthAll ds ≤ 50)
def minF : List D → Option D
  | [.list (x :: xs)] => if alikeOk (x :: xs) = true then some (PySem.W.minD x xs) else none
  | _ => none
def maxF : List D → Option D
  | [.list (x :: xs)] => if alikeOk (x :: xs) = true then some (PySem.W.maxD x xs) else none
  | _ => none
section
variable {X : Cx}
theorem one_of {K : PySem.W.Frag} {F : Hp} {xs : List V} {d : D} (h : RpAll K F xs [d]) : ∃ v, xs = [v] ∧ Rp K F v d := by
  cases h with
  | cons a b => cases b; exact ⟨_, rfl, a⟩
theorem two_of {K : PySem.W.Frag} {F : Hp} {xs : List V} {d e : D} (h : RpAll K F xs [d, e]) : ∃ v w, xs = [v, w] ∧ Rp K F v d ∧ Rp K F w e := by
  cases h with
  | cons a b => cases b with
    | cons c d => cases d; exact ⟨_, _, rfl, a, c⟩
theorem scr_inv {K : PySem.W.Frag} {F : Hp} {v : V} {ds : List D} (h : Rp K F v (.dict [(.none, .list ds)])) : ∃ (a : Addr) (ns : List Int), v = .ref a ∧ SqL K F a (ns.map V.int) ∧ ds = ns.map PyData.int := by
  generalize hd : (PyData.dict [(PyData.none, PyData.list ds)]) = d0 at h
  cases h with
  | scr q =>
    rename_i a0 ns
    unfold scr at hd
    injection hd with hd
    injection hd with hd _
    injection hd with _ hd
    injection hd with hd
    exact ⟨a0, ns, rfl, q, hd⟩
  | _ => cases hd
theorem call_lenF : CallR X (.builtin "len") (cOf X.K lenF) := by
  rintro pins s σ H xs us Q I r ⟨F, ds, dz, hS, ra, e, k⟩
  unfold lenF at e
  split at e
  · cases e
    obtain ⟨v, rfl, rv⟩ := one_of ra
    cases rv with
    | lst q z a => exact call_len_seq pins s σ H _ us Q I r ⟨_, _, rfl, .inl (SqL.of (hS _ _ q)), k _ F H (.refl hS) (by rw [a.length]; exact .int _)⟩
  · cases e
    obtain ⟨v, rfl, rv⟩ := one_of ra
    cases rv with
    | tup q z a => exact call_len_seq pins s σ H _ us Q I r ⟨_, _, rfl, .inr (SqT.of (hS _ _ q)), k _ F H (.refl hS) (by rw [a.length]; exact .int _)⟩
  · split at e
    · cases e
      obtain ⟨v, rfl, rv⟩ := one_of ra
      cases rv
      exact call_len_str pins s σ H _ us Q I r ⟨_, rfl, by rw [sz]; assumption, k _ F H (.refl hS) (.int _)⟩
    · cases e
  · cases e
    obtain ⟨v, rfl, rv⟩ := one_of ra
    obtain ⟨a, ns, rfl, q, rfl⟩ := scr_inv rv
    refine call_len_seq pins s σ H _ us Q I r ⟨_, _, rfl, .inl (hS.seq q), k _ F H (.refl hS) ?_⟩
    rw [List.length_map, List.length_map]; exact .int _
  · cases e
theorem call_max2F (hc : X.calm = true) : CallR X (.builtin "max") (cOf X.K max2F) := by
  rintro pins s σ H xs us Q I r ⟨F, ds, dz, hS, ra, e, k⟩
  unfold max2F at e
  split at e
  · cases e
    obtain ⟨v, w, rfl, rv, rw'⟩ := two_of ra
    cases rv; cases rw'
    rename_i i j
    have e : (if j > i then j else i) = max i j := by split <;> omega
    exact call_max2 hc pins s σ H _ us Q I r ⟨_, _, rfl, by rw [e]; exact k _ F H (.refl hS) (.int _)⟩
  · cases e
theorem call_min2F (hc : X.calm = true) : CallR X (.builtin "min") (cOf X.K min2F) := by
  rintro pins s σ H xs us Q I r ⟨F, ds, dz, hS, ra, e, k⟩
  unfold min2F at e
  split at e
  · cases e
    obtain ⟨v, w, rfl, rv, rw'⟩ := two_of ra
    cases rv; cases rw'
    rename_i i j
    have e : (if j < i then j else i) = min i j := by split <;> omega
    exact call_min2 hc pins s σ H _ us Q I r ⟨_, _, rfl, by rw [e]; exact k _ F H (.refl hS) (.int _)⟩
  · cases e
theorem call_absF : CallR X (.builtin "abs") (cOf X.K absF) := by
  rintro pins s σ H xs us Q I r ⟨F, ds, dz, hS, ra, e, k⟩
  unfold absF at e
  split at e
  · cases e
    obtain ⟨v, rfl, rv⟩ := one_of ra
    cases rv
    exact call_abs pins s σ H _ us Q I r ⟨_, rfl, k _ F H (.refl hS) (.int _)⟩
  · cases e
theorem call_sumF (hc : X.calm = true) : CallR X (.builtin "sum") (cOf X.K sumF) := by
  rintro pins s σ H xs us Q I r ⟨F, ds, dz, hS, ra, e, k⟩
  unfold sumF at e
  split at e
  · rename_i l
    cases q : asInts l with
    | none => rw [q] at e; cases e
    | some ns =>
      rw [q] at e; cases e
      obtain ⟨v, rfl, rv⟩ := one_of ra
      rw [asInts_eq q] at rv
      cases rv with
      | lst q z a =>
        rw [a.toInts] at q
        exact cr_sum hc pins s σ H _ us Q I r ⟨_, ns, rfl, SqL.of (hS _ _ q), k _ F H (.refl hS) (.int _)⟩
  · cases e
theorem call_allF (hc : X.calm = true) : CallR X (.builtin "all") (cOf X.K allF) := by
  rintro pins s σ H xs us Q I r ⟨F, ds, dz, hS, ra, e, k⟩
  unfold allF at e
  split at e
  · rename_i l
    cases q : asBools l with
    | none => rw [q] at e; cases e
    | some ns =>
      rw [q] at e; cases e
      obtain ⟨v, rfl, rv⟩ := one_of ra
      rw [asBools_eq q] at rv
      cases rv with
      | lst q z a =>
        rw [a.toBools] at q
        exact cr_all hc pins s σ H _ us Q I r ⟨_, ns, rfl, SqL.of (hS _ _ q), k _ F H (.refl hS) (.bl _)⟩
  · cases e
theorem call_anyF (hc : X.calm = true) : CallR X (.builtin "any") (cOf X.K anyF) := by
  rintro pins s σ H xs us Q I r ⟨F, ds, dz, hS, ra, e, k⟩
  unfold anyF at e
  split at e
  · rename_i l
    cases q : asBools l with
    | none => rw [q] at e; cases e
    | some ns =>
      rw [q] at e; cases e
      obtain ⟨v, rfl, rv⟩ := one_of ra
      rw [asBools_eq q] at rv
      cases rv with
      | lst q z a =>
        rw [a.toBools] at q
        exact cr_any hc pins s σ H _ us Q I r ⟨_, ns, rfl, SqL.of (hS _ _ q), k _ F H (.refl hS) (.bl _)⟩
  · cases e
theorem alikeOk_and {ds : List D} (h : alikeOk ds = true) : PyData.plainAll ds = true ∧ PySem.W.AlikeAll ds ∧ PyData.depthAll ds ≤ 50 := by
  unfold alikeOk at h
  simp only [Bool.and_eq_true, List.all_eq_true, decide_eq_true_eq] at h
  refine ⟨h.1.1, ⟨fun x hx y hy => (h.1.2 x hx).2 y hy, fun x hx z => ?_⟩, h.2⟩
  have := (h.1.2 x hx).1
  rw [z] at this
  exact absurd this (by decide)
theorem call_minF (hc : X.calm = true) (hu : X.A.units + 64 < cLine) : CallR X (.builtin "min") (cOf X.K minF) := by
  rintro pins s σ H xs us Q I r ⟨F, ds, dz, hS, ra, e, k⟩
  unfold minF at e
  split at e
  · split at e
    · cases e
      rename_i x ys hal
      obtain ⟨hp, ha, hd⟩ := alikeOk_and hal
      obtain ⟨v, rfl, rv⟩ := one_of ra
      cases rv with
      | lst q z a =>
        rename_i l vs
        rw [Vals.ref1 r]
        obtain ⟨its, rt, pl, _⟩ := I.list (SqL.of (K := X.K) (hS _ _ q))
        obtain ⟨as, hr⟩ := readsAll_of I hS hp a rt
        refine PySem.W.min_list_data (I.ok.hd hc) pl.isList (by simpa using hr) ha (by omega) fun i u h' tk bs hi hrd hk => ?_
        have hi' : its[i]? = some u := by simpa using hi
        have hlt : i < vs.length := by rw [rt.length]; exact (List.getElem?_eq_some_iff.mp hi').1
        obtain ⟨w, hw1, hw2⟩ := rt.get (List.getElem?_eq_getElem hlt)
        rw [hi'] at hw1; cases hw1
        obtain ⟨d, hd1, hd2⟩ := a.get (List.getElem?_eq_getElem hlt)
        obtain ⟨cs, hr2⟩ := reads_of I hS (PySem.W.plain_mem hp (List.mem_of_getElem? hd1)) hd2 hw2
        have ed : d = PySem.W.minD x ys := PySem.SeqAt.plain_unique _ _ _ _ _ (PySem.W.plain_mem hp (List.mem_of_getElem? hd1)) (PyProof.Rows.Reads.keeps hk hr2) hrd
        exact ⟨_, H, I.kept (t' := tk) hk, hw2, k _ F H (.refl hS) (ed ▸ hd2)⟩
    · cases e
  · cases e
theorem call_maxF (hc : X.calm = true) (hu : X.A.units + 64 < cLine) : CallR X (.builtin "max") (cOf X.K maxF) := by
  rintro pins s σ H xs us Q I r ⟨F, ds, dz, hS, ra, e, k⟩
  unfold maxF at e
  split at e
  · split at e
    · cases e
      rename_i x ys hal
      obtain ⟨hp, ha, hd⟩ := alikeOk_and hal
      obtain ⟨v, rfl, rv⟩ := one_of ra
      cases rv with
      | lst q z a =>
        rename_i l vs
        rw [Vals.ref1 r]
        obtain ⟨its, rt, pl, _⟩ := I.list (SqL.of (K := X.K) (hS _ _ q))
        obtain ⟨as, hr⟩ := readsAll_of I hS hp a rt
        refine PySem.W.max_list_data (I.ok.hd hc) pl.isList (by simpa using hr) ha (by omega) fun i u h' tk bs hi hrd hk => ?_
        have hi' : its[i]? = some u := by simpa using hi
        have hlt : i < vs.length := by rw [rt.length]; exact (List.getElem?_eq_some_iff.mp hi').1
        obtain ⟨w, hw1, hw2⟩ := rt.get (List.getElem?_eq_getElem hlt)
        rw [hi'] at hw1; cases hw1
        obtain ⟨d, hd1, hd2⟩ := a.get (List.getElem?_eq_getElem hlt)
        obtain ⟨cs, hr2⟩ := reads_of I hS (PySem.W.plain_mem hp (List.mem_of_getElem? hd1)) hd2 hw2
        have ed : d = PySem.W.maxD x ys := PySem.SeqAt.plain_unique _ _ _ _ _ (PySem.W.plain_mem hp (List.mem_of_getElem? hd1)) (PyProof.Rows.Reads.keeps hk hr2) hrd
        exact ⟨_, H, I.kept (t' := tk) hk, hw2, k _ F H (.refl hS) (ed ▸ hd2)⟩
    · cases e
  · cases e
end

/-! ### list(x), tuple(x), sorted(x), sorted(set(x)) -/
def listF : List D → Option D
  | [.list ds] => some (.list ds)
  | [.tuple ds] => some (.list ds)
  | _ => none
def tupleF : List D → Option D
  | [.list ds] => some (.tuple ds)
  | [.tuple ds] => some (.tuple ds)
  | _ => none
def isTup1 : D → Bool
  | .tuple (_ :: _) => true
  | _ => false
def notTup : D → Bool
  | .none => false
  | .tuple _ => false
  | _ => true
def leB (a b : D) : Bool := !PySem.W.dataLt b a
def sortOk (ds : List D) : Bool := PyData.plainAll ds && (ds.all fun d => ds.all fun d' => PySem.W.alike d d') && (ds.all isTup1 || ds.all notTup || (decide (ds.length ≤ 1) && ds.all notNone)) && decide (PyData.depthAll ds ≤ 50)
def sortOkT (ds : List D) : Bool := PyData.plainAll ds && (ds.all fun d => ds.all fun d' => PySem.W.alike d d') && (ds.all isTup1 || ds.all notTup) && decide (PyData.depthAll ds ≤ 50)
def sortF : List D → Option D
  | [.list ds] => if sortOk ds = true then some (.list (ds.mergeSort leB)) else none
  | [.tuple ds] => if sortOkT ds = true then some (.list (ds.mergeSort leB)) else none
  | _ => none
theorem depth_mem : ∀ {ds : List D} {d : D}, d ∈ ds → d.depth ≤ PyData.depthAll ds
  | [], _, h => by cases h
  | x :: xs, d, h => by
    rw [PyData.depthAll]
    rcases List.mem_cons.mp h with e | e
    · rw [e]; exact Nat.le_max_left _ _
    · exact Nat.le_trans (depth_mem e) (Nat.le_max_right _ _)
theorem RpAll.zip_mem {K : PySem.W.Frag} {F : Hp} : ∀ {vs : List V} {ds : List D}, RpAll K F vs ds → ∀ p ∈ vs.zip ds, Rp K F p.1 p.2
  | _, _, .nil, p, h => by cases h
  | _, _, .cons a b, p, h => by
    rcases List.mem_cons.mp h with e | e
    · rw [e]; exact a
    · exact RpAll.zip_mem b p e
theorem RpAll.of_zip {K : PySem.W.Frag} {F : Hp} : ∀ {l : List (V × D)}, (∀ p ∈ l, Rp K F p.1 p.2) → RpAll K F (l.map Prod.fst) (l.map Prod.snd)
  | [], _ => .nil
  | p :: l, h => .cons (h p List.mem_cons_self) (RpAll.of_zip fun q hq => h q (List.mem_cons_of_mem _ hq))
theorem each_of {K : PySem.W.Frag} {F : Hp} : ∀ {vs : List V} {ds : List D} {us : List Value}, RpAll K F vs ds → Vals vs us → PySem.W.EachIs (fun u (p : V × D) => RelV p.1 u) us (vs.zip ds)
  | _, _, _, .nil, .nil => .nil
  | _, _, _, .cons a b, .cons c d => .cons c (each_of b d)
theorem vals_each : ∀ {us : List Value} {l : List (V × D)}, PySem.W.EachIs (fun u (p : V × D) => RelV p.1 u) us l → Vals (l.map Prod.fst) us
  | _, _, .nil => .nil
  | _, _, .cons a b => .cons a (vals_each b)
theorem mem_of_map {α β : Type} {f : α → β} {l : List α} {p : β → Prop} (h : ∀ b ∈ l.map f, p b) : ∀ a ∈ l, p (f a) := fun a ha => h _ (List.mem_map_of_mem ha)
section
variable {X : Cx}
theorem call_listF : CallR X (.type "list") (cOf X.K listF) := by
  rintro pins s σ H xs us Q I r ⟨F, ds, dz, hS, ra, e, k⟩
  unfold listF at e
  split at e
  · cases e
    obtain ⟨v, rfl, rv⟩ := one_of ra
    cases rv with
    | lst q z a => exact call_list_of pins s σ H _ us Q I r ⟨_, _, rfl, .inl (SqL.of (hS _ _ q)), fun l hl => k _ _ _ (.new hS hl) (.lst upd_same z (a.mono (same_upd (same_none hS hl))))⟩
  · cases e
    obtain ⟨v, rfl, rv⟩ := one_of ra
    cases rv with
    | tup q z a => exact call_list_of pins s σ H _ us Q I r ⟨_, _, rfl, .inr (SqT.of (hS _ _ q)), fun l hl => k _ _ _ (.new hS hl) (.lst upd_same z (a.mono (same_upd (same_none hS hl))))⟩
  · cases e
theorem call_tupleF : CallR X (.type "tuple") (cOf X.K tupleF) := by
  rintro pins s σ H xs us Q I r ⟨F, ds, dz, hS, ra, e, k⟩
  unfold tupleF at e
  split at e
  · cases e
    obtain ⟨v, rfl, rv⟩ := one_of ra
    cases rv with
    | lst q z a => exact call_tuple_of pins s σ H _ us Q I r ⟨_, _, rfl, .inl ⟨SqL.of (hS _ _ q), fun l hl => k _ _ _ (.new hS hl) (.tup upd_same z (a.mono (same_upd (same_none hS hl))))⟩⟩
  · cases e
    obtain ⟨v, rfl, rv⟩ := one_of ra
    cases rv with
    | tup q z a => exact call_tuple_of pins s σ H _ us Q I r ⟨_, _, rfl, .inr ⟨SqT.of (hS _ _ q), k _ F H (.refl hS) (.tup q z a)⟩⟩
  · cases e
section
variable {prog : Program} {w : World} {A : Around} {E : Value → Shared → Prop} {s : Shared}
open PySem.W PyProof.Rows
theorem sorts_short {vs : List Value} {ds : List PyData} (e : EachIs (fun v d => ∃ as, Reads s.heap v d as) vs ds) (hal : AllAlike ds) (hn : ∀ d ∈ ds, d ≠ .none) (hu : ∀ d, d ∈ ds → A.units + d.depth < cLine) (hlen : vs.length ≤ 1) :
    SortsAt prog w A s (dataKind s.heap ds) vs := by
  refine ⟨fun v hv => ?_, general', ?_, fun h2 => absurd h2 (by omega)⟩
  · obtain ⟨d, hd, as, r⟩ := e.left v hv
    exact ⟨_, dataKind_some hal hd r⟩
  · intro E x y a b Q ha hb hq
    obtain ⟨d, as, hd, ra, rfl⟩ := dataKind_inv ha
    obtain ⟨d', as', hd', rb, rfl⟩ := dataKind_inv hb
    exact oneLt_alike (f := false) (fun h => by cases h) ra rb (hal d hd d' hd') (hn d hd) (Nat.lt_of_le_of_lt (Nat.add_le_add_left (Nat.min_le_left _ _) _) (hu d hd)) hq
theorem sorted_short {β : Type} {vs : List Value} {bs : List β} {enc : β → PyData} {R : Value → β → Prop} {l : Addr} {Q : Value → Shared → Prop} (hl : s.heap.IsList l vs.toArray) (e : EachIs R vs bs) (er : EachIs (fun v b => ∃ as, Reads s.heap v (enc b) as) vs bs)
    (hal : AllAlike (bs.map enc)) (hn : ∀ d ∈ bs.map enc, d ≠ .none) (hlen : bs.length ≤ 1) (hu : ∀ b, b ∈ bs → A.units + 2 + (enc b).depth < cLine)
    (h : ∀ out, out.length = bs.length → EachIs R out (bs.mergeSort (dataLe false enc)) → Q (.ref (s.heap.objs.size + 1)) { s with heap := sortedAll s.heap vs (List.toArray out) }) : wpAny (model prog w) A (call (.builtin "sorted") [.ref l]) Q E s := by
  have er' : EachIs (fun v b => ∃ as, Reads (sortingHeap (copyHeap s.heap vs) (s.heap.objs.size + 1) vs) v (enc b) as) vs bs := er.mono fun _ _ r => r.elim fun as r => ⟨as, PyProof.Rows.Reads.keeps (fun _ _ => sorting_copy_old) r⟩
  have hL : vs.length ≤ 1 := by rw [e.length]; exact hlen
  have S := sorts_short (prog := prog) (w := w) (A := A.in1.in1) (s := { s with heap := sortingHeap (copyHeap s.heap vs) (s.heap.objs.size + 1) vs }) (each_map (R := fun v d => ∃ as, Reads (sortingHeap (copyHeap s.heap vs) (s.heap.objs.size + 1) vs) v d as) enc er') hal hn (bound_map hu) hL
  exact sorted_vals hl S (Nat.le_trans hL (by decide)) (h _ (by rw [sortVals_length false rfl]; exact e.length) (sortVals_data false e er' hal))
/-- the items of a tuple, by way of a new list -/
theorem items_of_tup {t : Addr} {its : List Value} {Q : List Value → Shared → Prop} (ht : s.heap.IsTuple t its.toArray) (hz : its.length ≤ sizeLine)
    (q : Q its { s with heap := (s.heap.push (seqObj "list" #[] 0)).update s.heap.objs.size (Obj.mapSeq (· ++ its.toArray)) }) : wpAny (model prog w) A (collect (.ref t)) Q E s := by
  obtain ⟨ob, hob, cls, m, dat⟩ := id ht
  have hS0 : (s.heap.push (seqObj "list" #[] 0)).get? s.heap.objs.size = some (seqObj "list" #[] 0) := Heap.get?_push_size _ rfl
  have hT0 : (s.heap.push (seqObj "list" #[] 0)).get? t = some ob := Heap.get?_push_of_some _ hob
  unfold collect
  refine wpAny_bind (wpAny_runValue (codeAny_builtin entry_proto_collect' (?_ : wpAny (model prog w) _ (do again (.builtin "list.__iadd__" ⟨[← newList [], .ref t], []⟩)) _ _ s)))
  refine wpAny_bind (wpAny_newList (wpAny_pure ⟨Code.quiet_builtin _ (by decide +kernel), codeAny_builtin entry_list_iadd' (?_ : wpAny (model prog w) _ (Builtin.List.listExtendWith (.ref s.heap.objs.size) (.ref t) (.ref s.heap.objs.size)) _ _ { s with heap := s.heap.push (seqObj "list" #[] 0) })⟩))
  unfold Builtin.List.listExtendWith
  refine wpAny_bind (wpAny_typeOf (T := "tuple") ⟨ob, hT0, cls⟩ ?_)
  rw [if_pos (by rw [show (Value.type "tuple" == Value.type "tuple") = true by rfl]; simp)]
  refine wpAny_bind (listItems_at hT0 dat ?_)
  refine wpAny_bind (listItems_at (xs := #[]) (n := 0) hS0 rfl ?_)
  rw [if_neg (by simp)]
  refine wpAny_bind (listUpdate_at (xs := #[]) (n := 0) hS0 rfl ?_ (Nat.zero_le _) (by simp; omega))
  refine wpAny_pure (?_ : wpAny (model prog w) A (load s.heap.objs.size >>= fun o => match o.data with | .seq xs _ => pure xs.toList | _ => unsupported "internal:collect") Q E { s with heap := (s.heap.push (seqObj "list" #[] 0)).update s.heap.objs.size (Obj.mapSeq (· ++ its.toArray)) })
  refine wpAny_bind (wpAny_load (get?_update_seq hS0 _) (?_ : wpAny _ _ (pure ((#[] : Array Value) ++ its.toArray).toList) Q E _))
  rw [show ((#[] : Array Value) ++ its.toArray).toList = its by simp]
  exact wpAny_pure q
theorem sorted_tup {β : Type} {vs : List Value} {bs : List β} {enc : β → PyData} {R : Value → β → Prop} {l : Addr} {Q : Value → Shared → Prop} (hl : s.heap.IsTuple l vs.toArray) (e : EachIs R vs bs) (er : EachIs (fun v b => ∃ as, Reads s.heap v (enc b) as) vs bs)
    (hal : AllAlike (bs.map enc)) (hk : Sortable (bs.map enc)) (hL : bs.length ≤ sizeLine) (hu : ∀ b, b ∈ bs → A.units + 2 + (enc b).depth < cLine)
    (h : ∀ out, out.length = bs.length → EachIs R out (bs.mergeSort (dataLe false enc)) → Q (.ref (s.heap.objs.size + 1)) { s with heap := sortedAll s.heap vs (List.toArray out) }) : wpAny (model prog w) A (call (.builtin "sorted") [.ref l]) Q E s := by
  have er' : EachIs (fun v b => ∃ as, Reads (sortingHeap (copyHeap s.heap vs) (s.heap.objs.size + 1) vs) v (enc b) as) vs bs := er.mono fun _ _ r => r.elim fun as r => ⟨as, PyProof.Rows.Reads.keeps (fun _ _ => sorting_copy_old) r⟩
  have hL' : vs.length ≤ sizeLine := by rw [e.length]; exact hL
  have S := SortsAt.data (prog := prog) (w := w) (A := A.in1.in1) (s := { s with heap := sortingHeap (copyHeap s.heap vs) (s.heap.objs.size + 1) vs }) (each_map (R := fun v d => ∃ as, Reads (sortingHeap (copyHeap s.heap vs) (s.heap.objs.size + 1) vs) v d as) enc er') hal hk (bound_map hu)
  have fin := h _ (by rw [sortVals_length false rfl]; exact e.length) (sortVals_data false e er' hal)
  refine call_function_entry_kw kind_sorted plain_sorted entry_sorted (args_sorted1 _) ?_
  unfold Builtin.«sorted»
  refine wpAny_bind (m := checkCount "sorted" 1 1 _) (wpAny_pure ?_)
  refine wpAny_bind (items_of_tup hl hL' (wpAny_bind (wpAny_newList ?_ hL')))
  have hz : ((s.heap.push (seqObj "list" #[] 0)).update s.heap.objs.size (Obj.mapSeq (· ++ vs.toArray))).objs.size = s.heap.objs.size + 1 := by rw [Heap.size_update, size_push']
  rw [hz]
  refine wpAny_bind (wpAny_holding (wpAny_call_entry_kw (s := { s with heap := copyHeap s.heap vs }) slot_list_sort ⟨_, copyHeap_at s.heap vs, rfl⟩ entry_list_sort ?b (args_list_sort _)))
  case b =>
    refine wpAny_mono (list_sort_vals (s := { s with heap := copyHeap s.heap vs }) (P := fun f s' => f = .done (.ret .none) ∧ Q (.ref (s.heap.objs.size + 1)) s') (copyHeap_at s.heap vs) S hL' ⟨rfl, fin⟩) (fun f s' hf => ?_) fun _ _ e => e
    exact ⟨_, hf.1, wpAny_pure ⟨_, rfl, hf.2⟩⟩
end
theorem call_sortF (hu : X.A.units + 64 < cLine) : CallR X (.builtin "sorted") (cOf X.K sortF) := by
  rintro pins s σ H xs us Q I r ⟨F, ds, dz, hS, ra, e, k⟩
  unfold sortF at e
  split at e
  · split at e
    · cases e
      rename_i l hok
      obtain ⟨v, rfl, rv⟩ := one_of ra
      unfold sortOk at hok
      simp only [Bool.and_eq_true, List.all_eq_true, decide_eq_true_eq, Bool.or_eq_true] at hok
      obtain ⟨⟨⟨hp, hal⟩, hk⟩, hd⟩ := hok
      cases rv with
      | lst q z a =>
        rename_i l0 vs
        rw [Vals.ref1 r]
        obtain ⟨its, rt, pl, _⟩ := I.list (SqL.of (K := X.K) (hS _ _ q))
        have hlen : vs.length = l.length := a.length
        have hsnd : (vs.zip l).map Prod.snd = l := List.map_snd_zip (by omega)
        have hfst : (vs.zip l).map Prod.fst = vs := List.map_fst_zip (by omega)
        have e1 := each_of a rt
        have zm := a.zip_mem
        have er : PySem.W.EachIs (fun u (p : V × D) => ∃ as, Reads s.heap u p.2 as) its (vs.zip l) := by
          have : ∀ {us : List Value} {zs : List (V × D)}, (∀ p ∈ zs, Rp X.K F p.1 p.2 ∧ p.2.plain = true) → PySem.W.EachIs (fun u (p : V × D) => RelV p.1 u) us zs → PySem.W.EachIs (fun u (p : V × D) => ∃ as, Reads s.heap u p.2 as) us zs := by
            intro us zs h hh
            induction hh with
            | nil => exact .nil
            | cons g1 g2 ih =>
              obtain ⟨h1, h2⟩ := h _ List.mem_cons_self
              exact .cons (reads_of I hS h2 h1 g1) (ih fun p hp => h p (List.mem_cons_of_mem _ hp))
          refine this (fun p hp' => ⟨zm p hp', ?_⟩) e1
          exact PySem.W.plain_mem hp (List.of_mem_zip hp').2
        have hal' : PySem.W.AllAlike ((vs.zip l).map Prod.snd) := by rw [hsnd]; exact fun d hd d' hd' => hal d hd d' hd'
        have hun : ∀ b, b ∈ vs.zip l → X.A.units + 2 + b.2.depth < cLine := fun p hp' => by
          have := depth_mem (List.of_mem_zip hp').2
          show X.A.units + 2 + p.2.depth < cLine
          omega
        have fin : ∀ out, out.length = (vs.zip l).length → PySem.W.EachIs (fun u (p : V × D) => RelV p.1 u) out ((vs.zip l).mergeSort (PySem.W.dataLe false Prod.snd)) → EP X pins σ Q (.ref (s.heap.objs.size + 1)) { s with heap := PyProof.Rows.sortedAll s.heap its (List.toArray out) } := by
          intro out hlo heach
          obtain ⟨ep, he'⟩ := PyProof.Rows.sortedAll_at s.heap its out.toArray
          have hv := vals_each heach
          have hms : ((vs.zip l).mergeSort (PySem.W.dataLe false Prod.snd)).map Prod.snd = l.mergeSort leB := by
            exact (List.map_mergeSort (r := PySem.W.dataLe false Prod.snd) (s := leB) (f := Prod.snd) (fun a _ b _ => rfl)).trans (by rw [hsnd])
          have hra : RpAll X.K F (((vs.zip l).mergeSort (PySem.W.dataLe false Prod.snd)).map Prod.fst) (l.mergeSort leB) := by
            rw [← hms]
            exact RpAll.of_zip fun p hp' => zm p ((List.mergeSort_perm _ _).mem_iff.mp hp')
          have hz' : (((vs.zip l).mergeSort (PySem.W.dataLe false Prod.snd)).map Prod.fst).length ≤ sizeLine := by
            rw [List.length_map, List.length_mergeSort, List.length_zip]; omega
          have hn := I.hok.fresh (Nat.le_succ s.heap.objs.size)
          exact ⟨.ref _, upd H (s.heap.objs.size + 1) (.lst (((vs.zip l).mergeSort (PySem.W.dataLe false Prod.snd)).map Prod.fst)), I.laid (t' := s.toks) (fun _ _ => PyProof.Rows.sortedAll_old) (Nat.le_succ _) ⟨hz', out, ep, hv, he'⟩, rfl,
            k _ _ _ (.new hS hn) (.lst upd_same hz' (hra.mono (same_upd (same_none hS hn))))⟩
        rcases hk with hk | ⟨hk1, hk2⟩
        · refine PySem.W.sorted_data (enc := Prod.snd) pl.isList e1 er hal' ?_ (by rw [List.length_zip]; omega) hun fin
          rw [hsnd]
          rcases hk with hk | hk
          · refine .inl fun d hd => ?_
            have := hk d hd
            cases d with
            | tuple xs => cases xs with
              | nil => cases this
              | cons x r => exact ⟨x, r, rfl⟩
            | _ => cases this
          · refine .inr fun d hd => ?_
            have := hk d hd
            exact ⟨fun e => (by rw [e] at this; cases this), fun xs e => (by rw [e] at this; cases this)⟩
        · refine sorted_short (enc := Prod.snd) pl.isList e1 er hal' ?_ (by rw [List.length_zip]; omega) hun fin
          rw [hsnd]
          intro d hd e
          have := hk2 d hd
          rw [e] at this
          cases this
    · cases e
  · split at e
    · cases e
      rename_i l hok
      obtain ⟨v, rfl, rv⟩ := one_of ra
      unfold sortOkT at hok
      simp only [Bool.and_eq_true, List.all_eq_true, decide_eq_true_eq, Bool.or_eq_true] at hok
      obtain ⟨⟨⟨hp, hal⟩, hk⟩, hd⟩ := hok
      cases rv with
      | tup q z a =>
        rename_i l0 vs
        rw [Vals.ref1 r]
        obtain ⟨its, rt, pl, _⟩ := I.tuple (SqT.of (K := X.K) (hS _ _ q))
        have hlen : vs.length = l.length := a.length
        have hsnd : (vs.zip l).map Prod.snd = l := List.map_snd_zip (by omega)
        have hfst : (vs.zip l).map Prod.fst = vs := List.map_fst_zip (by omega)
        have e1 := each_of a rt
        have zm := a.zip_mem
        have er : PySem.W.EachIs (fun u (p : V × D) => ∃ as, Reads s.heap u p.2 as) its (vs.zip l) := by
          have : ∀ {us : List Value} {zs : List (V × D)}, (∀ p ∈ zs, Rp X.K F p.1 p.2 ∧ p.2.plain = true) → PySem.W.EachIs (fun u (p : V × D) => RelV p.1 u) us zs → PySem.W.EachIs (fun u (p : V × D) => ∃ as, Reads s.heap u p.2 as) us zs := by
            intro us zs h hh
            induction hh with
            | nil => exact .nil
            | cons g1 g2 ih =>
              obtain ⟨h1, h2⟩ := h _ List.mem_cons_self
              exact .cons (reads_of I hS h2 h1 g1) (ih fun p hp => h p (List.mem_cons_of_mem _ hp))
          refine this (fun p hp' => ⟨zm p hp', ?_⟩) e1
          exact PySem.W.plain_mem hp (List.of_mem_zip hp').2
        refine sorted_tup (enc := Prod.snd) pl e1 er (by rw [hsnd]; exact fun d hd d' hd' => hal d hd d' hd') ?_ ?_ (fun p hp' => ?_) fun out hlo heach => ?_
        · rw [hsnd]
          rcases hk with hk | hk
          · refine .inl fun d hd => ?_
            have := hk d hd
            cases d with
            | tuple xs => cases xs with
              | nil => cases this
              | cons x r => exact ⟨x, r, rfl⟩
            | _ => cases this
          · refine .inr fun d hd => ?_
            have := hk d hd
            exact ⟨fun e => (by rw [e] at this; cases this), fun xs e => (by rw [e] at this; cases this)⟩
        · rw [List.length_zip]; omega
        · have := depth_mem (List.of_mem_zip hp').2
          show X.A.units + 2 + p.2.depth < cLine
          omega
        · obtain ⟨ep, he'⟩ := PyProof.Rows.sortedAll_at s.heap its out.toArray
          have hv := vals_each heach
          have hms : ((vs.zip l).mergeSort (PySem.W.dataLe false Prod.snd)).map Prod.snd = l.mergeSort leB := by
            exact (List.map_mergeSort (r := PySem.W.dataLe false Prod.snd) (s := leB) (f := Prod.snd) (fun a _ b _ => rfl)).trans (by rw [hsnd])
          have hra : RpAll X.K F (((vs.zip l).mergeSort (PySem.W.dataLe false Prod.snd)).map Prod.fst) (l.mergeSort leB) := by
            rw [← hms]
            exact RpAll.of_zip fun p hp' => zm p ((List.mergeSort_perm _ _).mem_iff.mp hp')
          have hz' : (((vs.zip l).mergeSort (PySem.W.dataLe false Prod.snd)).map Prod.fst).length ≤ sizeLine := by
            rw [List.length_map, List.length_mergeSort, List.length_zip]; omega
          have hn := I.hok.fresh (Nat.le_succ s.heap.objs.size)
          exact ⟨.ref _, upd H (s.heap.objs.size + 1) (.lst (((vs.zip l).mergeSort (PySem.W.dataLe false Prod.snd)).map Prod.fst)), I.laid (t' := s.toks) (fun _ _ => PyProof.Rows.sortedAll_old) (Nat.le_succ _) ⟨hz', out, ep, hv, he'⟩, rfl,
            k _ _ _ (.new hS hn) (.lst upd_same hz' (hra.mono (same_upd (same_none hS hn))))⟩
    · cases e
  · cases e
end

/-! sorted(set(x)), ints -/
def insU (x : Int) : List Int → List Int
  | [] => [x]
  | y :: ys => if x < y then x :: y :: ys else if x = y then y :: ys else y :: insU x ys
def sded : List Int → List Int
  | [] => []
  | x :: xs => insU x (sded xs)
theorem insU_mem {x z : Int} : ∀ {l : List Int}, z ∈ insU x l ↔ z = x ∨ z ∈ l
  | [] => by simp [insU]
  | y :: ys => by
    unfold insU
    split
    · simp
    · split
      · rename_i h; subst h; simp
      · simp [insU_mem (l := ys)]
        constructor
        · rintro (h | h | h)
          · exact .inr (.inl h)
          · exact .inl h
          · exact .inr (.inr h)
        · rintro (h | h | h)
          · exact .inr (.inl h)
          · exact .inl h
          · exact .inr (.inr h)
theorem insU_sorted {x : Int} : ∀ {l : List Int}, l.Pairwise (· < ·) → (insU x l).Pairwise (· < ·)
  | [], _ => by simp [insU]
  | y :: ys, h => by
    rw [List.pairwise_cons] at h
    unfold insU
    split
    · rename_i hx
      rw [List.pairwise_cons]
      refine ⟨fun a ha => ?_, by rw [List.pairwise_cons]; exact h⟩
      rcases List.mem_cons.mp ha with e | e
      · rw [e]; exact hx
      · exact Int.lt_trans hx (h.1 a e)
    · split
      · rw [List.pairwise_cons]; exact h
      · rw [List.pairwise_cons]
        refine ⟨fun a ha => ?_, insU_sorted h.2⟩
        rcases insU_mem.mp ha with e | e
        · rw [e]; omega
        · exact h.1 a e
theorem sded_mem {z : Int} : ∀ {l : List Int}, z ∈ sded l ↔ z ∈ l
  | [] => by simp [sded]
  | x :: xs => by unfold sded; rw [insU_mem, sded_mem (l := xs)]; simp
theorem sded_sorted : ∀ (l : List Int), (sded l).Pairwise (· < ·)
  | [] => .nil
  | x :: xs => insU_sorted (sded_sorted xs)
theorem strict_ext : ∀ {l m : List Int}, l.Pairwise (· < ·) → m.Pairwise (· < ·) → (∀ z, z ∈ l ↔ z ∈ m) → l = m
  | [], [], _, _, _ => rfl
  | [], y :: m, _, _, h => absurd ((h y).mpr List.mem_cons_self) (by simp)
  | x :: l, [], _, _, h => absurd ((h x).mp List.mem_cons_self) (by simp)
  | x :: l, y :: m, h1, h2, h => by
    rw [List.pairwise_cons] at h1 h2
    have hx := (h x).mp List.mem_cons_self
    have hy := (h y).mpr List.mem_cons_self
    have e : x = y := by
      rcases List.mem_cons.mp hx with e | e
      · exact e
      · rcases List.mem_cons.mp hy with e' | e'
        · exact e'.symm
        · have := h2.1 x e
          have := h1.1 y e'
          omega
    subst e
    rw [strict_ext h1.2 h2.2 fun z => ?_]
    constructor
    · intro hz
      rcases List.mem_cons.mp ((h z).mp (List.mem_cons_of_mem _ hz)) with e | e
      · have := h1.1 z hz; omega
      · exact e
    · intro hz
      rcases List.mem_cons.mp ((h z).mpr (List.mem_cons_of_mem _ hz)) with e | e
      · have := h2.1 z hz; omega
      · exact e
def sortSetF : List D → Option D
  | [.list ds] => match asInts ds with
    | some ns => if ns.length < 64 then some (.list ((sded ns).map .int)) else none
    | none => none
  | _ => none
section
variable {X : Cx} {W : WX} {e : Expr} {fs : En → R (List D)} {p p2 pos pos2 : Pos}
def rSetL (K : PySem.W.Frag) (w : World) : List V → Hp → VK → Prop := fun xs H Q => ∃ (a : Addr) (ns : List Int), xs = [V.ref a] ∧ SqL K H a (ns.map V.int) ∧ ns.length < 64 ∧ ∀ q c, H q = none → c ≤ ns.length → Q (.ref q) (upd H q (SetO w q (fun j => decide (j ∈ ns)) c))
theorem cr_setL (hc : X.calm = true) : CallR X (.type "set") (rSetL X.K X.w) := by
  rintro pins s σ H xs us Q I r ⟨a, ns, rfl, hq, hlen, k⟩
  rw [Vals.ref1 r]
  obtain ⟨its, rt, pl, _⟩ := I.list hq
  have hi : IntsAre its.toArray.toList ns := by simpa using intsAre_of rt
  refine set_of_ints ns (I.ok.hd hc) pl.isList hi (by unfold scanBound; omega) fun h' tk c hR hcn hk => ?_
  have hn := I.hok.fresh (Nat.le_refl s.heap.objs.size)
  exact ⟨.ref _, upd H s.heap.objs.size (SetO X.w s.heap.objs.size (fun j => decide (j ∈ ns)) c), I.laid hk (Nat.le_refl _) (setO_new hR), rfl, k _ c hn hcn⟩
theorem px_sortedSet (hc : X.calm = true) (ha : PXA X W [e] fs) (hm : X.mg "sorted" = none) (hm2 : X.mg "set" = none) (hg : Gl X "sorted" := by rfl) (hg2 : Gl X "set" := by rfl)
    (hs : starEach [.Call (.Name "set" p2) [e] [] pos2] X.env = (false, eval (.Call (.Name "set" p2) [e] [] pos2) X.env) :: starEach [] X.env := by rfl) (hs2 : starEach [e] X.env = (false, eval e X.env) :: starEach [] X.env := by rfl) :
    PX X W (.Call (.Name "sorted" p) [.Call (.Name "set" p2) [e] [] pos2] [] pos) (E.bi sortSetF fs) := by
  have inner := pe_callTy (p := p2) (pos := pos2) (cr_setL (X := X) hc) hg2 hm2 PyProof.Rows.boot_set ha (he := hs2) (hpl := rfl)
  refine (pe_callB (p := p) (pos := pos) (cr_sortedSet hc) hg hm PyProof.Rows.boot_sorted (pa_cons inner pa_nil hs) (he := hs) (hpl := rfl)).imp fun σ H Q ⟨ρ, F, hR, hS, hP⟩ => ?_
  refine ⟨ρ, F, hR, hS, Post.bind hP fun vs ds F1 H1 e1 r1 p1 => ?_⟩
  have r1 : RpAll X.K F1 vs ds := r1
  unfold sortSetF at p1
  split at p1
  · split at p1
    · rename_i l ns hns
      split at p1
      · rename_i hlen
        obtain ⟨v, rfl, rv⟩ := one_of r1
        rw [asInts_eq hns] at rv
        cases rv with
        | lst q z a =>
          rw [a.toInts] at q
          refine ⟨_, ns, rfl, SqL.of (e1.sub _ _ q), hlen, fun s c hs hcn => ?_⟩
          refine ⟨s, _, c, rfl, upd_same, by omega, fun ms t h1 h2 h3 ht => ?_⟩
          have e : ms = sded ns := strict_ext h1 (sded_sorted ns) fun z => by rw [h2, sded_mem, decide_eq_true_eq]
          have el : Ext F1 H1 F1 (upd H1 s (SetO X.w s (fun j => decide (j ∈ ns)) c)) := .loose e1.sub hs
          refine p1 _ _ _ (el.trans (.new el.sub ht)) (.lst upd_same ?_ ?_)
          · rw [List.length_map, h3, sz]; omega
          · rw [e]; exact RpAll.ints _
      · exact p1.elim
    · exact p1.elim
  · exact p1.elim
end

/-! ### list(range(..)) -/
section
variable {X : Cx} {W : WX} {a b : Expr} {fa fb : En → R D} {p p2 pos pos2 : Pos}
namespace E
def rg1 (f : En → R D) : En → R D := fun ρ => (f ρ).bind fun x => match x with
  | .int n => if 0 ≤ n ∧ n ≤ 16777216 then .ok (.list (rangeL 0 n.toNat)) else .stuck
  | _ => .stuck
def rg2 (f g : En → R D) : En → R D := fun ρ => (f ρ).bind fun x => (g ρ).bind fun y => match x, y with
  | .int i, .int j => if 0 ≤ i ∧ i ≤ 16777216 ∧ 0 ≤ j ∧ j ≤ 16777216 then .ok (.list (rangeL i (j - i).toNat)) else .stuck
  | _, _ => .stuck
end E
theorem rgV_rp {K : PySem.W.Frag} {F : Hp} (i j : Int) : RpAll K F (rgV i j) (rangeL i (j - i).toNat) := by
  unfold rgV rangeL
  generalize (j - i).toNat = n
  have : ∀ l : List Nat, RpAll K F (l.map fun k => V.int (i + (k : Nat))) (l.map fun k => PyData.int (i + (k : Nat))) := by
    intro l
    induction l with
    | nil => exact .nil
    | cons x l ih => exact .cons (.int _) ih
  exact this _
theorem px_listRg1 (hc : X.calm = true) (ha : PX X W a fa) (hm : X.mg "list" = none) (hm2 : X.mg "range" = none) (hg : Gl X "list" := by rfl) (hg2 : Gl X "range" := by rfl) (na : starEach [a] X.env = (false, eval a X.env) :: starEach [] X.env := by rfl)
    (na2 : starEach [.Call (.Name "range" p2) [a] [] pos2] X.env = (false, eval (.Call (.Name "range" p2) [a] [] pos2) X.env) :: starEach [] X.env := by rfl) :
    PX X W (.Call (.Name "list" p) [.Call (.Name "range" p2) [a] [] pos2] [] pos) (E.rg1 fa) := by
  refine (pe_listRg hc hg hm (prg_1 hg2 hm2 ha na) na2).imp fun σ H Q ⟨ρ, F, hR, hS, hP⟩ => ?_
  refine ⟨ρ, F, hR, hS, Post.bind hP fun x dx F1 H1 e1 r1 p1 => ?_⟩
  cases dx with
  | int n =>
    cases r1
    dsimp only at p1
    split at p1
    · rename_i hn
      refine ⟨n, rfl, .of_le (by omega) (by omega) (by omega) (by omega), fun q hq => ?_⟩
      have := rgV_rp (K := X.K) (F := upd F1 q (.lst (rgV 0 n))) 0 n
      rw [Int.sub_zero] at this
      exact p1 _ _ _ (.new e1.sub hq) (.lst upd_same (by rw [rgV_length, sz]; omega) this)
    · exact p1.elim
  | _ => exact p1.elim
theorem px_listRg2 (hc : X.calm = true) (ha : PX X W a fa) (hb : PX X W b fb) (hm : X.mg "list" = none) (hm2 : X.mg "range" = none) (hg : Gl X "list" := by rfl) (hg2 : Gl X "range" := by rfl) (na : starEach [a, b] X.env = (false, eval a X.env) :: starEach [b] X.env := by rfl) (nb : starEach [b] X.env = (false, eval b X.env) :: starEach [] X.env := by rfl)
    (na2 : starEach [.Call (.Name "range" p2) [a, b] [] pos2] X.env = (false, eval (.Call (.Name "range" p2) [a, b] [] pos2) X.env) :: starEach [] X.env := by rfl) (hp : (backTo pos2 (starEach [b] X.env)).any (·.1) = false := by rfl) :
    PX X W (.Call (.Name "list" p) [.Call (.Name "range" p2) [a, b] [] pos2] [] pos) (E.rg2 fa fb) := by
  refine (pe_listRg hc hg hm (prg_2 hg2 hm2 ha hb na nb hp) na2).imp fun σ H Q ⟨ρ, F, hR, hS, hP⟩ => ?_
  refine ⟨ρ, F, hR, hS, Post.bind hP fun x dx F1 H1 e1 r1 p1 => ?_⟩
  refine ⟨ρ, F1, hR.mono e1.sF, e1.sub, Post.bind p1 fun y dy F2 H2 e2 r2 p2 => ?_⟩
  split at p2
  · rename_i i j
    cases r1; cases r2
    split at p2
    · rename_i hn
      refine ⟨i, j, rfl, rfl, .of_le (by omega) (by omega) (by omega) (by omega), fun q hq => ?_⟩
      exact p2 _ _ _ (.new e2.sub hq) (.lst upd_same (by rw [rgV_length, sz]; omega) (rgV_rp i j))
    · exact p2.elim
  · exact p2.elim
end

/-! ### isinstance(x, T), T built in -/
def isiD (T : String) (d : D) : Option D := if (unscr d).plain = true then
    (if T = "int" then some (.bool (unscr d).isInt) else if T = "bool" then some (.bool (unscr d).isBool) else if T = "str" then some (.bool (unscr d).isStr) else if T = "list" then some (.bool (unscr d).isList) else if T = "tuple" then some (.bool (unscr d).isTuple) else none)
  else none
section
variable {X : Cx} {W : WX} {a : Expr} {fa : En → R D} {T : Str} {p p2 pos : Pos}
def rIsD (K : PySem.W.Frag) (T : String) : List V → Hp → VK → Prop := fun xs H Q => ∃ F v d b, xs = [v, .ty T] ∧ Same F H ∧ Rp K F v d ∧ isiD T d = some (.bool b) ∧ Q (.bl b) H
theorem call_isD (T : String) : CallR X (.builtin "isinstance") (rIsD X.K T) := by
  rintro pins s σ H xs us Q I r ⟨F, v, d, b, rfl, hS, rv, e, q⟩
  cases r with
  | cons r1 rr => cases rr with
    | cons r2 rr =>
      cases rr
      cases (show _ = Value.type T from r2)
      unfold isiD at e
      split at e
      · rename_i hp
        obtain ⟨as, hr⟩ := readsU_of I hS hp rv r1
        split at e
        · rename_i hT; subst hT; cases e
          exact PySem.W.isinstance_int_data hr fun tk _ => ⟨.bl _, H, I.tok tk, rfl, q⟩
        · split at e
          · rename_i hT; subst hT; cases e
            exact PySem.W.isinstance_bool_data hr fun tk _ => ⟨.bl _, H, I.tok tk, rfl, q⟩
          · split at e
            · rename_i hT; subst hT; cases e
              exact PySem.W.isinstance_str_data hr fun tk _ => ⟨.bl _, H, I.tok tk, rfl, q⟩
            · split at e
              · rename_i hT; subst hT; cases e
                exact PySem.W.isinstance_list_data hr fun tk _ => ⟨.bl _, H, I.tok tk, rfl, q⟩
              · split at e
                · rename_i hT; subst hT; cases e
                  exact PySem.W.isinstance_tuple_data hr fun tk _ => ⟨.bl _, H, I.tok tk, rfl, q⟩
                · cases e
      · cases e
theorem isiD_bool {T : String} {d z : D} (h : isiD T d = some z) : ∃ b, z = .bool b := by
  unfold isiD at h
  split at h
  · split at h
    · cases h; exact ⟨_, rfl⟩
    · split at h
      · cases h; exact ⟨_, rfl⟩
      · split at h
        · cases h; exact ⟨_, rfl⟩
        · split at h
          · cases h; exact ⟨_, rfl⟩
          · split at h
            · cases h; exact ⟨_, rfl⟩
            · cases h
  · cases h
theorem px_isi {n : Str} (T : String) (ha : PX X W a fa) (hm : X.mg "isinstance" = none) (hm2 : X.mg n = none) (hb : bootBuiltins n = some (.type T)) (hg : Gl X "isinstance" := by rfl) (hg2 : Gl X n := by rfl) (hn : n ≠ "__name__" := by decide) (hdb : (n == ("__debug__" : Str)) = false := by decide)
    (hs : starEach [a, .Name n p2] X.env = (false, eval a X.env) :: starEach [.Name n p2] X.env := by rfl) (hs2 : starEach [.Name n p2] X.env = (false, eval (.Name n p2) X.env) :: starEach [] X.env := by rfl) (hpl : (backTo pos (starEach [.Name n p2] X.env)).any (·.1) = false := by rfl) :
    PX X W (.Call (.Name "isinstance" p) [a, .Name n p2] [] pos) (E.op1 (isiD T) fa) := by
  refine (pe_callB (p := p) (pos := pos) (call_isD T) hg hm PyProof.Rows.boot_isinstance (pa_cons ha (pa_cons (pe_bltn (v := .ty T) hg2 hm2 hb rfl hn hdb) pa_nil hs2) hs) (he := hs) (hpl := hpl)).imp fun σ H Q ⟨ρ, F, hR, hS, hP⟩ => ?_
  refine ⟨ρ, F, hR, hS, Post.bind hP fun x dx F1 H1 e1 r1 p1 => ?_⟩
  cases q : isiD T dx with
  | none => rw [q] at p1; exact p1.elim
  | some z =>
    obtain ⟨b, rfl⟩ := isiD_bool q
    rw [q] at p1
    exact ⟨F1, x, dx, b, rfl, e1.sub, r1, q, p1.here e1.sub (.bl b)⟩
end

/-! ### raise X('..') -/
abbrev veMro : List Value := [.type "ValueError", .type "Exception", .type "BaseException", .type "object"]
/-- x names a class of the program's own over ValueError -/
structure Exn (K : PySem.W.Frag) (mg : Str → Option Value) (x : Str) : Prop where
  ex : ∃ C, mg x = some (.ref C) ∧ PySem.W.excIn K C veMro "ValueError.__new__" = true ∧ PySem.W.keepIn K (.ref C) = true ∧ PySem.W.subIn K (.ref C) (.type "BaseException") = some true ∧ PySem.W.typeIn K (.ref C) = some (.type "type")
section
variable {X : Cx} {W : WX} {x m : Str} {j : Nat} {p p2 pos pos2 : Pos}
theorem pxs_raise (h : Exn X.K X.mg x) (tk : Takes X W) (hc : X.calm = true) (hg : Gl X x := by rfl) (hdb : (x == ("__debug__" : Str)) = false := by decide) : PXS X W (.Raise (some (.Call (.Name x p) [.Constant (.str m) j p2] [] pos)) none pos2) (S.raise x) := by
  obtain ⟨C, h1, h2, h3, h4, h5⟩ := h.ex
  refine (ps_raise hc tk (pmk_own PySem.F.excBase_ValueError h2 h1 h3 (raises_own h4 h5) hg hdb)).imp fun Z σ H ⟨ρ, F, F0, H0, r, q⟩ => ?_
  exact q C σ F H h1 r
end
end PV

/-! P8: a def's context; the law's end. -/
namespace PV
open PySem PySem.Spec L2
open PyProof.Rows hiding St

section
variable {P : Program} {w : World} {K : PySem.W.Frag} {mg : Str → Option Value} {base : Heap} {N : List Str} {qual : Str} {sc : Scope} {f : Addr} {cdv : Value} {A : Around} {outer : List Env} {s : Shared} {H : Hp} {E : XK}
theorem tkD : Takes (cxOf (L2.CX P w) P w K mg base N qual sc f cdv A outer s H E) (WD E) := takes_of rfl rfl rfl rfl
theorem ppD : PassesOwn (model P w) (A.deeper (envOfC qual sc s.heap.objs.size f cdv)) (envOfC qual sc s.heap.objs.size f cdv) (cxOf (L2.CX P w) P w K mg base N qual sc f cdv A outer s H E).xe := passes_of (X := cxOf (L2.CX P w) P w K mg base N qual sc f cdv A outer s H E) rfl
theorem def_fn {x : Str} {st : Stmt} {fd : FuncData} {ps : List Str} {k n m : Nat} {g : SE → O} (F : Fun K x qual st f fd) (S : FnScope N ps (defScope st)) (hn : ps.length = n) (hm : N.length - n = m)
    (body : ∀ (cdv : Value) (A : Around) (outer : List Env) (s : Shared) (H : Hp) (E : XK), Room k (A.deeper (envOfC qual (defScope st) s.heap.objs.size f cdv)) →
      PXSs (cxOf (L2.CX P w) P w K mg base N qual (defScope st) f cdv A outer s H E) (WD E) (defBody st) g) : FnOk P w K mg base (L2.CX P w) (k + 1) f fd ps (spP K mg n (fn n m g)) := by
  refine F.okX S (fun vs H Q E h => h.1.trans hn.symm) fun cdv A outer s H vs Q E hr h => ?_
  obtain ⟨hl, F1, ds, hS, r, p⟩ := h
  refine ⟨_, body cdv A outer s H E hr, ent ds m, F1, F1, H, rel_start hS r hl hm, ?_⟩
  unfold fn at p
  rw [if_pos (r.length.symm.trans hl)] at p
  cases q : g (ent ds m) with
  | nx ρ => rw [q] at p; exact fun σ F' H' r' => p .non F' H' r'.ext .non
  | rt d => rw [q] at p; exact fun v F' H' e rv => p v F' H' e rv
  | exc c ρ => rw [q] at p; exact fun C σ F' H' m r' => p C F' H' m r'.ext
  | bk ρ => rw [q] at p; exact p.elim
  | ct ρ => rw [q] at p; exact p.elim
  | stuck => rw [q] at p; exact p.elim
theorem def_of {x : Str} {fd : FuncData} {ps : List Str} {k n m : Nat} {g : SE → O} (hg : mg x = some (.ref f)) (kp : PySem.W.keepIn K (.ref f) = true) (hb : Binds K fd ps []) (h : FnOk P w K mg base (L2.CX P w) k f fd ps (spP K mg n (fn n m g))) : Def P w K mg base x n k (fn n m g) :=
  ⟨fn_len, f, fd, ps, hg, kp, hb, h⟩
end
/-- what the law's def promises -/
def spEnd (K : PySem.W.Frag) : Sp := fun vs H Q _ => ∃ (a : Addr) (ns : List Int), vs = [.ref a] ∧ SqL K H a (ns.map V.int) ∧ ns.length ≤ 63 ∧ ∀ H', Q (.bl true) H'
theorem end_ok {P : Program} {w : World} {K : PySem.W.Frag} {mg : Str → Option Value} {base : Heap} {fa : Addr} {fd : FuncData} {ps : List Str} {k : Nat} {sem : List D → R D} (h : FnOk P w K mg base (L2.CX P w) k fa fd ps (spP K mg 1 sem)) (hs : ∀ ns : List Int, ns.length ≤ 63 → sem [scr (ns.map PyData.int)] = .ok (.bool true)) :
    FnOk P w K mg base (L2.CX P w) k fa fd ps (spEnd K) := by
  have key : ∀ vs H Q E, spEnd K vs H Q E → spP K mg 1 sem vs H Q E := by
    rintro vs H Q E ⟨a, ns, rfl, hq, hl, q⟩
    refine ⟨rfl, H, [scr (ns.map PyData.int)], Same.refl _, .cons (.scr hq) .nil, ?_⟩
    rw [hs ns hl]
    intro v F' H' e rv
    cases rv
    exact q H'
  exact ⟨fun vs H Q E h' => h.len vs H Q E (key vs H Q E h'), fun A outer s H args us vs Q E hr e0 hb r h' => h.run A outer s H args us vs Q E hr e0 hb r (key vs H Q E h')⟩
theorem end_sp {K : PySem.W.Frag} {H : Hp} {a : Addr} {ns : List Int} (hl : ns.length ≤ 63) (hS : SqL K H a (ns.map V.int)) : spEnd K [.ref a] H (fun v _ => v = .bl true) fun _ _ _ => False := ⟨a, ns, rfl, hS, hl, fun _ => rfl⟩
theorem end_cx {P : Program} {w : World} {H : Hp} {s : Shared} {e : Value} {s' : Shared} (h : L2.CX P w [] H s (fun _ _ _ => False) e s') : False := by
  obtain ⟨_, _, _, _, _, _, _, _, _, _, _, _, z⟩ := h
  exact z
end PV

/-! P9: more rules -/
namespace PV
open PySem PySem.Spec L2
open PyProof.Rows hiding St
namespace N
def ite (t : En → R Bool) (f g : En → R (List D)) : En → R (List D) := fun ρ => (t ρ).bind fun c => if c = true then f ρ else g ρ
end N
section
variable {X : Cx} {W : WX} {a b c : Expr} {ta : En → R Bool} {fa fb : En → R (List D)} {pos : Pos}
theorem pxf_if (hc : PXT X W c ta) (ha : PXF X W a fa) (hb : PXF X W b fb) : PXF X W (.IfExp c a b pos) (N.ite ta fa fb) := by
  refine (pe_ifExp hc ha hb).imp fun σ H Q ⟨ρ, F, hR, hS, hP⟩ => ?_
  unfold N.ite at hP
  cases q : ta ρ with
  | ok k =>
    rw [q] at hP
    refine ⟨ρ, F, hR, hS, ?_⟩
    rw [q]
    refine fun x F1 H1 e1 r1 => ?_
    have r1 : x = k := r1
    subst r1
    have hP := PostF.ext e1 hP
    cases x with
    | true => exact ⟨ρ, F1, hR.mono e1.sF, e1.sub, hP⟩
    | false => exact ⟨ρ, F1, hR.mono e1.sF, e1.sub, hP⟩
  | exc k =>
    rw [q] at hP
    refine ⟨ρ, F, hR, hS, ?_⟩
    rw [q]
    exact hP
  | stuck => rw [q] at hP; exact hP.elim
end
end PV

/-! P10: index -/
namespace PV
open PySem PySem.Spec L2
open PyProof.Rows hiding St
def sindexD : D → D → Option D
  | .str a, .str b => match Builtin.Str.occurrences a b 0 a.length 1 with
    | i :: _ => some (.int (i : Nat))
    | [] => none
  | _, _ => none
namespace E
def sindex (fo fe : En → R D) : En → R D := fun ρ => (fo ρ).bind fun x => match x with
  | .str a => (fe ρ).bind fun y => R.ofO (sindexD (.str a) y)
  | _ => .stuck
end E
section
variable {X : Cx} {W : WX} {o e : Expr} {fo fe : En → R D} {apos pos : Pos}
theorem px_sindex (ho : PX X W o fo) (he : PX X W e fe) (hs : starEach [e] X.env = [(false, eval e X.env)] := by rfl) (hbase : attributeBase o "index" X.env (eval o X.env) = eval o X.env := by rfl) (hline : (apos.endLine == pos.line) = true := by rfl) :
    PX X W (.Call (.Attribute o "index" apos) [e] [] pos) (E.sindex fo fe) := by
  refine (pe_m1 PySem.F.slot_str_index PySem.F.type_str_index mt_sindex ho he hs hbase hline).imp fun σ H Q ⟨ρ, F, hR, hS, hP⟩ => ?_
  refine ⟨ρ, F, hR, hS, Post.bind hP fun x dx F1 H1 e1 r1 p1 => ?_⟩
  cases dx with
  | str a =>
    cases r1
    refine ⟨⟨a, rfl⟩, ρ, F1, hR.mono e1.sF, e1.sub, Post.bind p1 fun y dy F2 H2 e2 r2 p2 => ?_⟩
    cases dy with
    | str b =>
      cases r2
      simp only [sindexD] at p2
      cases q : Builtin.Str.occurrences a b 0 a.length 1 with
      | nil => rw [q] at p2; exact p2.elim
      | cons i rest =>
        rw [q] at p2
        exact ⟨a, b, i, rest, rfl, rfl, q, p2.here e2.sub (.int _)⟩
    | _ => exact p2.elim
  | _ => exact p1.elim
end
end PV

namespace PV
open PySem PySem.Spec L2
def sem__law_pick : List D → R D := fn 3 4 (S.seq (S.set 3 (M.v (E.ite (T.of (E.op2 neD (E.var 0) (E.lst (A.nil)))) (E.op2 ixD (E.var 0) (E.op2 modD (E.var 1) (E.bi lenF (A.cons (E.var 0) (A.nil))))) (E.con (.int 0)))))
    (S.seq (S.asgB [4, 5] (Bs.val (M.v (E.op2 fdivD (E.var 3) (E.op2 powD (E.con (.int 10)) (E.con (.int 18))))) (Bs.val (M.v (E.op2 fdivD (E.var 1) (E.bi max2F (A.cons (E.bi lenF (A.cons (E.var 0) (A.nil))) (A.cons (E.con (.int 1)) (A.nil)))))) (Bs.nil))))
    (S.seq (S.while_ 20000 (M.v (T.and (T.of (E.op2 gtD (E.var 4) (E.con (.int 0)))) (T.of (E.op2 gtD (E.var 5) (E.con (.int 0))))))
    (S.asgB [4, 5] (Bs.val (M.v (E.op2 fdivD (E.var 4) (E.con (.int 840)))) (Bs.val (M.v (E.op2 subD (E.var 5) (E.con (.int 1)))) (Bs.nil)))))
    (S.seq (S.ite (M.v (T.of (E.op2 gtD (E.var 4) (E.con (.int 0)))))
    (S.ret (M.v (E.op2 modD (E.op2 modD (E.var 4) (E.con (.int 840))) (E.var 2))))
    (S.skip))
    (S.seq (S.set 6 (M.v (E.op2 modD (E.op2 mulD (E.op2 addD (E.op2 mulD (E.var 3) (E.con (.int 31))) (E.op2 mulD (E.con (.int 6151)) (E.op2 addD (E.var 1) (E.con (.int 1))))) (E.con (.int 40692))) (E.con (.int 2147483399)))))
    (S.ret (M.v (E.op2 modD (E.op2 modD (E.op2 addD (E.op2 mulD (E.var 6) (E.var 6)) (E.op2 fdivD (E.var 6) (E.con (.int 31)))) (E.con (.int 2147483629))) (E.var 2)))))))))
def sem__law_reports : List D → R D := fn 3 6 (S.seq (S.setO 3 (M.v (N.disp (A.nil))))
    (S.seq (S.for_ (I.range1 (A.cons (E.call sem__law_pick (A.cons (E.var 0) (A.cons (E.var 1) (A.cons (E.op2 addD (E.var 2) (E.con (.int 1))) (A.nil))))) (A.nil))) (G.name 4)
    (S.seq (S.set 5 (M.v (E.op2 addD (E.op2 addD (E.var 1) (E.con (.int 1))) (E.op2 mulD (E.con (.int 4)) (E.var 4)))))
    (S.seq (S.set 6 (M.v (E.call sem__law_pick (A.cons (E.var 0) (A.cons (E.var 5) (A.cons (E.con (.int 20)) (A.nil)))))))
    (S.seq (S.set 7 (M.v (E.op2 addD (E.var 6) (E.call sem__law_pick (A.cons (E.var 0) (A.cons (E.op2 addD (E.var 5) (E.con (.int 1))) (A.cons (E.op2 ixD (E.tup (A.cons (E.con (.int 2)) (A.cons (E.con (.int 9)) (A.cons (E.con (.int 18)) (A.nil))))) (E.call sem__law_pick (A.cons (E.var 0) (A.cons (E.op2 addD (E.var 5) (E.con (.int 2))) (A.cons (E.con (.int 3)) (A.nil)))))) (A.nil))))))))
    (S.seq (S.set 8 (M.v (E.call sem__law_pick (A.cons (E.var 0) (A.cons (E.op2 addD (E.var 5) (E.con (.int 3))) (A.cons (E.con (.int 12)) (A.nil)))))))
    (S.seq (S.ite (M.v (T.of (E.op2 eqD (E.var 8) (E.con (.int 0)))))
    (S.asgB [6, 7] (Bs.val (M.v (E.op2 addD (E.con (.int 9965)) (E.var 6))) (Bs.val (M.v (E.bi min2F (A.cons (E.op2 addD (E.con (.int 9965)) (E.var 7)) (A.cons (E.con (.int 9999)) (A.nil))))) (Bs.nil))))
    (S.ite (M.v (T.of (E.op2 eqD (E.var 8) (E.con (.int 1)))))
    (S.set 7 (M.v (E.op2 addD (E.con (.int 9960)) (E.var 7))))
    (S.skip)))
    (S.append 3 (M.v (E.tup (A.cons (E.op2 ixD (E.con (.str "abcdefghij")) (E.var 4)) (A.cons (E.var 6) (A.cons (E.bi min2F (A.cons (E.var 7) (A.cons (E.con (.int 9999)) (A.nil)))) (A.nil)))))))))))))
    (S.frz 3 (S.ret (M.v (E.bi tupleF (A.cons (E.var 3) (A.nil))))))))
def sem__law_times : List D → R D := fn 0 0 (S.ret (M.v (E.op2 addD (E.rg1 (E.con (.int 46))) (E.rg2 (E.con (.int 9950)) (E.con (.int 10000))))))
def sem__law_ranges : List D → R D := fn 2 3 (S.seq (S.asgB [2, 3] (Bs.own (M.v (N.disp (A.nil))) (Bs.val (M.v (E.con .none)) (Bs.nil))))
    (S.seq (S.for_ (I.range1 (A.cons (E.bi lenF (A.cons (E.var 0) (A.nil))) (A.nil))) (G.name 4)
    (S.seq (S.ite (M.v (T.and (T.of (E.op2 ixD (E.var 1) (E.var 4))) (T.of (E.op2 isD (E.var 3) (E.con .none)))))
    (S.set 3 (M.v (E.op2 ixD (E.var 0) (E.var 4))))
    (S.skip))
    (S.ite (M.v (T.and (T.of (E.op2 isNotD (E.var 3) (E.con .none))) (T.or (T.of (E.op2 eqD (E.op2 addD (E.var 4) (E.con (.int 1))) (E.bi lenF (A.cons (E.var 0) (A.nil))))) (T.not (T.of (E.op2 ixD (E.var 1) (E.op2 addD (E.var 4) (E.con (.int 1)))))))))
    (S.seq (S.append 2 (M.v (E.tup (A.cons (E.var 3) (A.cons (E.op2 ixD (E.var 0) (E.var 4)) (A.nil))))))
    (S.set 3 (M.v (E.con .none))))
    (S.skip))))
    (S.frz 2 (S.ret (M.v (E.var 2))))))
def sem__law_right : List D → R D := fn 2 4 (S.seq (S.setO 2 (M.v (N.disp (A.nil))))
    (S.seq (S.for_ (I.seq (E.var 0)) (G.tup [3, 4, 5])
    (S.ite (M.v (T.and (T.of (E.op2 leD (E.var 4) (E.var 1))) (T.of (E.op2 leD (E.var 1) (E.var 5)))))
    (S.append 2 (M.v (E.var 3)))
    (S.skip)))
    (S.frz 2 (S.ret (M.v (E.var 2))))))
def sem_sources : List D → R D := fn 1 3 (S.ret (M.v (E.ofL (N.comp (I.seq (E.var 0)) (GE.tup [1, 2, 3]) T.yes (E.var 1) [1, 2, 3]))))
def sem_is_integer : List D → R D := fn 1 0 (S.ret (M.v (E.and (E.op1 (isiD "int") (E.var 0)) ((E.not (E.op1 (isiD "bool") (E.var 0)))))))
def sem_is_time : List D → R D := fn 1 0 (S.ret (M.v (E.and (E.call sem_is_integer (A.cons (E.var 0) (A.nil))) ((E.chain leD leD (E.con (.int 0)) (E.var 0) (E.con (.int 9999)))))))
def sem_is_name : List D → R D := fn 1 1 (S.ret (M.v (E.and (E.op1 (isiD "str") (E.var 0)) (E.and (E.chain leD leD (E.con (.int 1)) (E.bi lenF (A.cons (E.var 0) (A.nil))) (E.con (.int 3))) ((E.bi allF (A.cons (E.ofL (N.comp (I.seq (E.var 0)) (GE.name 1) T.yes (E.op2 inD (E.var 1) (E.con (.str "abcdefghijklmnopqrstuvwxyz"))) [1])) (A.nil))))))))
def sem_is_report : List D → R D := fn 1 0 (S.seq (S.ite (M.v (T.or (T.not (T.of (E.op1 (isiD "tuple") (E.var 0)))) (T.or (T.of (E.op2 neD (E.bi lenF (A.cons (E.var 0) (A.nil))) (E.con (.int 3)))) (T.not (T.of (E.call sem_is_name (A.cons (E.op2 ixD (E.var 0) (E.con (.int 0))) (A.nil))))))))
    (S.ret (M.v (E.con (.bool false))))
    (S.skip))
    (S.ret (M.v (E.and (E.call sem_is_time (A.cons (E.op2 ixD (E.var 0) (E.con (.int 1))) (A.nil))) (E.and (E.call sem_is_time (A.cons (E.op2 ixD (E.var 0) (E.con (.int 2))) (A.nil))) ((E.op2 leD (E.op2 ixD (E.var 0) (E.con (.int 1))) (E.op2 ixD (E.var 0) (E.con (.int 2))))))))))
def sem_are_reports : List D → R D := fn 1 4 (S.seq (S.ite (M.v (T.or (T.not (T.of (E.op1 (isiD "tuple") (E.var 0)))) (T.of (E.op2 gtD (E.bi lenF (A.cons (E.var 0) (A.nil))) (E.con (.int 10))))))
    (S.ret (M.v (E.con (.bool false))))
    (S.skip))
    (S.seq (S.ite (M.v (T.not (T.of (E.bi allF (A.cons (E.ofL (N.comp (I.seq (E.var 0)) (GE.name 4) T.yes (E.call sem_is_report (A.cons (E.var 4) (A.nil))) [4])) (A.nil))))))
    (S.ret (M.v (E.con (.bool false))))
    (S.skip))
    (S.seq (S.set 1 (M.v (E.call sem_sources (A.cons (E.var 0) (A.nil)))))
    (S.ret (M.v (E.bi allF (A.cons (E.ofL (N.comp (I.zip (A.cons (E.var 1) (A.cons (E.slice (E.var 1) (O.som (E.con (.int 1))) O.non) (A.nil)))) (GE.tup [2, 3]) T.yes (E.op2 ltD (E.var 2) (E.var 3)) [2, 3])) (A.nil))))))))
def sem_check_reports : List D → R D := fn 1 0 (S.ite (M.v (T.not (T.of (E.call sem_are_reports (A.cons (E.var 0) (A.nil))))))
    (S.raise "InvalidReports")
    (S.skip))
def sem_right_names : List D → R D := fn 2 3 (S.ret (M.v (E.ofL (N.comp (I.seq (E.var 0)) (GE.tup [2, 3, 4]) (T.of (E.chain leD leD (E.var 3) (E.var 1) (E.var 4))) (E.var 2) [2, 3, 4]))))
def sem_borders : List D → R D := fn 1 4 (S.seq (S.setO 1 (M.v (N.cat (E.lst (A.cons (E.con (.int 0)) (A.nil))) (E.ofL (N.comp (I.seq (E.var 0)) (GE.tup [2, 3, 4]) T.yes (E.var 3) [2, 3, 4])))))
    (S.seq (S.extend 1 (M.v (N.comp (I.seq (E.var 0)) (GE.tup [2, 3, 4]) (T.of (E.op2 ltD (E.var 4) (E.con (.int 9999)))) (E.op2 addD (E.var 4) (E.con (.int 1))) [2, 3, 4])))
    (S.frz 1 (S.ret (M.v (E.bi sortSetF (A.cons (E.var 1) (A.nil))))))))
def sem_pieces : List D → R D := fn 1 3 (S.seq (S.set 1 (M.v (E.call sem_borders (A.cons (E.var 0) (A.nil)))))
    (S.ret (M.v (E.ofL (N.comp (I.zip (A.cons (E.var 1) (A.cons (E.op2 addD (E.slice (E.var 1) (O.som (E.con (.int 1))) O.non) (E.lst (A.cons (E.op2 addD (E.con (.int 9999)) (E.con (.int 1))) (A.nil)))) (A.nil)))) (GE.tup [2, 3]) T.yes (E.tup (A.cons (E.var 2) (A.cons (E.op2 subD (E.var 3) (E.con (.int 1))) (A.nil)))) [2, 3])))))
def sem_most_together : List D → R D := fn 1 2 (S.ret (M.v (E.bi maxF (A.cons (E.ofL (N.comp (I.seq (E.call sem_pieces (A.cons (E.var 0) (A.nil)))) (GE.tup [1, 2]) T.yes (E.bi lenF (A.cons (E.call sem_right_names (A.cons (E.var 0) (A.cons (E.var 1) (A.nil)))) (A.nil))) [1, 2])) (A.nil)))))
def sem_fewest_liars : List D → R D := fn 1 0 (S.seq (S.ex (M.v (E.call sem_check_reports (A.cons (E.var 0) (A.nil)))))
    (S.ret (M.v (E.op2 subD (E.bi lenF (A.cons (E.var 0) (A.nil))) (E.call sem_most_together (A.cons (E.var 0) (A.nil)))))))
def sem_merged : List D → R D := fn 1 4 (S.seq (S.setO 1 (M.v (N.disp (A.nil))))
    (S.seq (S.for_ (I.seq (E.bi sortF (A.cons (E.var 0) (A.nil)))) (G.tup [2, 3])
    (S.seq (S.ite (M.kt (T.and (T.of (E.op2 neD (E.var 1) (E.lst (A.nil)))) (T.of (E.op2 leD (E.var 2) (E.op2 addD (E.op2 ixD (E.op2 ixD (E.var 1) (E.op1 negD (E.con (.int 1)))) (E.con (.int 1))) (E.con (.int 1)))))))
    (S.seq (S.pop 4 1 some)
    (S.asgB [2, 3] (Bs.val (M.v (E.op2 ixD (E.var 4) (E.con (.int 0)))) (Bs.val (M.v (E.bi max2F (A.cons (E.op2 ixD (E.var 4) (E.con (.int 1))) (A.cons (E.var 3) (A.nil))))) (Bs.nil)))))
    (S.skip))
    (S.append 1 (M.v (E.tup (A.cons (E.var 2) (A.cons (E.var 3) (A.nil))))))))
    (S.frz 1 (S.ret (M.v (E.var 1))))))
def sem_times_with : List D → R D := fn 2 1 (S.ret (M.v (E.call sem_merged (A.cons (E.ofL (N.comp (I.seq (E.call sem_pieces (A.cons (E.var 0) (A.nil)))) (GE.name 2) (T.of (E.op2 geD (E.bi lenF (A.cons (E.call sem_right_names (A.cons (E.var 0) (A.cons (E.op2 ixD (E.var 2) (E.con (.int 0))) (A.nil)))) (A.nil))) (E.var 1))) (E.var 2) [2])) (A.nil)))))
def sem_best_times : List D → R D := fn 1 0 (S.seq (S.ex (M.v (E.call sem_check_reports (A.cons (E.var 0) (A.nil)))))
    (S.ret (M.v (E.call sem_times_with (A.cons (E.var 0) (A.cons (E.call sem_most_together (A.cons (E.var 0) (A.nil))) (A.nil)))))))
def sem_check_liars : List D → R D := fn 1 0 (S.ite (M.v (T.or (T.not (T.of (E.call sem_is_integer (A.cons (E.var 0) (A.nil))))) (T.not (T.of (E.chain leD leD (E.con (.int 0)) (E.var 0) (E.con (.int 10)))))))
    (S.raise "InvalidNumber")
    (S.skip))
def sem_possible_times : List D → R D := fn 2 0 (S.ret (M.v (E.call sem_times_with (A.cons (E.var 0) (A.cons (E.op2 subD (E.bi lenF (A.cons (E.var 0) (A.nil))) (E.var 1)) (A.nil))))))
def sem_possible : List D → R D := fn 2 0 (S.seq (S.ex (M.v (E.call sem_check_reports (A.cons (E.var 0) (A.nil)))))
    (S.seq (S.ex (M.v (E.call sem_check_liars (A.cons (E.var 1) (A.nil)))))
    (S.ret (M.v (E.call sem_possible_times (A.cons (E.var 0) (A.cons (E.var 1) (A.nil))))))))
def sem_hull : List D → R D := fn 1 0 (S.ret (M.v (E.ite (T.of (E.op2 neD (E.var 0) (E.lst (A.nil)))) (E.tup (A.cons (E.op2 ixD (E.op2 ixD (E.var 0) (E.con (.int 0))) (E.con (.int 0))) (A.cons (E.op2 ixD (E.op2 ixD (E.var 0) (E.op1 negD (E.con (.int 1)))) (E.con (.int 1))) (A.nil)))) (E.con .none))))
def sem_agreed : List D → R D := fn 2 0 (S.seq (S.ex (M.v (E.call sem_check_reports (A.cons (E.var 0) (A.nil)))))
    (S.seq (S.ex (M.v (E.call sem_check_liars (A.cons (E.var 1) (A.nil)))))
    (S.ret (M.v (E.call sem_hull (A.cons (E.call sem_possible_times (A.cons (E.var 0) (A.cons (E.var 1) (A.nil)))) (A.nil)))))))
def sem__law_hull : List D → R D := fn 1 0 (S.ret (M.v (E.ite (T.of (E.op2 neD (E.var 0) (E.lst (A.nil)))) (E.tup (A.cons (E.op2 ixD (E.op2 ixD (E.var 0) (E.con (.int 0))) (E.con (.int 0))) (A.cons (E.op2 ixD (E.op2 ixD (E.var 0) (E.op1 negD (E.con (.int 1)))) (E.con (.int 1))) (A.nil)))) (E.con .none))))
def sem_law_k03 : List D → R D := fn 1 8 (S.seq (S.set 1 (M.v (E.call sem__law_reports (A.cons (E.var 0) (A.cons (E.con (.int 0)) (A.cons (E.con (.int 8)) (A.nil)))))))
    (S.seq (S.set 2 (M.v (E.call0 sem__law_times)))
    (S.seq (S.set 3 (M.ofF (M.v (N.comp (I.seq (E.var 2)) (GE.name 7) T.yes (E.bi lenF (A.cons (E.call sem__law_right (A.cons (E.var 1) (A.cons (E.var 7) (A.nil)))) (A.nil))) [7]))))
    (S.seq (S.for_ (I.range1 (A.cons (E.con (.int 11)) (A.nil))) (G.name 4)
    (S.seq (S.set 5 (M.v (E.call sem__law_ranges (A.cons (E.var 2) (A.cons (E.ofL (N.comp (I.seq (E.var 3)) (GE.name 8) T.yes (E.op2 geD (E.var 8) (E.op2 subD (E.bi lenF (A.cons (E.var 1) (A.nil))) (E.var 4))) [8])) (A.nil))))))
    (S.ite (M.v (T.or (T.of (E.op2 neD (E.call sem_possible (A.cons (E.var 1) (A.cons (E.var 4) (A.nil)))) (E.var 5))) (T.of (E.op2 neD (E.call sem_agreed (A.cons (E.var 1) (A.cons (E.var 4) (A.nil)))) (E.call sem__law_hull (A.cons (E.var 5) (A.nil)))))))
    (S.ret (M.v (E.con (.bool false))))
    (S.skip))))
    (S.seq (S.set 6 (M.v (E.op2 subD (E.bi lenF (A.cons (E.var 1) (A.nil))) (E.bi maxF (A.cons (E.var 3) (A.nil))))))
    (S.seq (S.ite (M.v (T.or (T.of (E.op2 neD (E.call sem_fewest_liars (A.cons (E.var 1) (A.nil))) (E.var 6))) (T.of (E.op2 neD (E.call sem_best_times (A.cons (E.var 1) (A.nil))) (E.call sem_possible (A.cons (E.var 1) (A.cons (E.var 6) (A.nil))))))))
    (S.ret (M.v (E.con (.bool false))))
    (S.skip))
    (S.ret (M.v (E.or (E.op2 eqD (E.var 6) (E.con (.int 0))) ((E.op2 eqD (E.call sem_possible (A.cons (E.var 1) (A.cons (E.op2 subD (E.var 6) (E.con (.int 1))) (A.nil)))) (E.lst (A.nil)))))))))))))
end PV

namespace PV
open PySem PySem.Spec L2
def sem_profile : List D → R D := fn 1 4 (S.seq (S.ex (M.v (E.call sem_check_reports (A.cons (E.var 0) (A.nil)))))
    (S.seq (S.setO 1 (M.v (N.disp (A.nil))))
    (S.seq (S.for_ (I.seq (E.call sem_pieces (A.cons (E.var 0) (A.nil)))) (G.tup [2, 3])
    (S.seq (S.set 4 (M.v (E.bi lenF (A.cons (E.call sem_right_names (A.cons (E.var 0) (A.cons (E.var 2) (A.nil)))) (A.nil)))))
    (S.seq (S.ite (M.kt (T.and (T.of (E.op2 neD (E.var 1) (E.lst (A.nil)))) (T.of (E.op2 eqD (E.op2 ixD (E.op2 ixD (E.var 1) (E.op1 negD (E.con (.int 1)))) (E.con (.int 2))) (E.var 4)))))
    (S.pop 2 1 fun d => ixD d (.int 0))
    (S.skip))
    (S.append 1 (M.v (E.tup (A.cons (E.var 2) (A.cons (E.var 3) (A.cons (E.var 4) (A.nil))))))))))
    (S.frz 1 (S.ret (M.v (E.var 1)))))))
def sem_are_names : List D → R D := fn 2 2 (S.seq (S.ite (M.v (T.or (T.not (T.of (E.op1 (isiD "tuple") (E.var 1)))) (T.not (T.of (E.bi allF (A.cons (E.ofL (N.comp (I.seq (E.var 1)) (GE.name 3) T.yes (E.call sem_is_name (A.cons (E.var 3) (A.nil))) [3])) (A.nil)))))))
    (S.ret (M.v (E.con (.bool false))))
    (S.skip))
    (S.seq (S.set 2 (M.v (E.call sem_sources (A.cons (E.var 0) (A.nil)))))
    (S.ret (M.v (E.op2 eqD (E.bi listF (A.cons (E.var 1) (A.nil))) (E.ofL (N.comp (I.seq (E.var 2)) (GE.name 3) (T.of (E.op2 inD (E.var 3) (E.var 1))) (E.var 3) [3])))))))
def sem_without : List D → R D := fn 2 1 (S.seq (S.ex (M.v (E.call sem_check_reports (A.cons (E.var 0) (A.nil)))))
    (S.seq (S.ite (M.v (T.not (T.of (E.call sem_are_names (A.cons (E.var 0) (A.cons (E.var 1) (A.nil)))))))
    (S.raise "InvalidNames")
    (S.skip))
    (S.ret (M.v (E.bi tupleF (A.cons (E.ofL (N.comp (I.seq (E.var 0)) (GE.name 2) (T.of (E.op2 notInD (E.op2 ixD (E.var 2) (E.con (.int 0))) (E.var 1))) (E.var 2) [2])) (A.nil)))))))
def sem__law_value : List D → R D := fn 2 1 (S.seq (S.setO 2 (M.v (N.disp (A.cons (E.con .none) (A.cons (E.op1 negD (E.con (.int 1))) (A.cons (E.con (.bool true)) (A.cons (E.con (.str "")) (A.cons (E.con (.str "a")) (A.cons (E.con (.int 10000)) (A.cons (E.lst (A.nil)) (A.cons (E.tup (A.cons (E.con (.str "a")) (A.nil))) (A.cons (E.tup (A.cons (E.con (.str "a")) (A.cons (E.con (.int 1)) (A.cons (E.con (.int 2)) (A.nil))))) (A.cons (E.tup (A.cons (E.tup (A.cons (E.con (.str "a")) (A.cons (E.con (.int 2)) (A.cons (E.con (.int 1)) (A.nil))))) (A.nil))) (A.cons (E.tup (A.cons (E.tup (A.cons (E.con (.str "a")) (A.cons (E.con (.int 1)) (A.nil)))) (A.nil))) (A.cons (E.lst (A.cons (E.con (.str "a")) (A.cons (E.con (.int 1)) (A.cons (E.con (.int 2)) (A.nil))))) (A.nil))))))))))))))))
    (S.seq (S.extend 2 (M.v (N.disp (A.cons (E.tup (A.cons (E.tup (A.cons (E.con (.str "a")) (A.cons (E.con (.int 1)) (A.cons (E.con (.int 2)) (A.nil))))) (A.cons (E.tup (A.cons (E.con (.str "a")) (A.cons (E.con (.int 1)) (A.cons (E.con (.int 2)) (A.nil))))) (A.nil)))) (A.cons (E.tup (A.cons (E.tup (A.cons (E.con (.str "b")) (A.cons (E.con (.int 1)) (A.cons (E.con (.int 2)) (A.nil))))) (A.cons (E.tup (A.cons (E.con (.str "a")) (A.cons (E.con (.int 1)) (A.cons (E.con (.int 2)) (A.nil))))) (A.nil)))) (A.cons (E.tup (A.cons (E.tup (A.cons (E.con (.str "abcd")) (A.cons (E.con (.int 1)) (A.cons (E.con (.int 2)) (A.nil))))) (A.nil))) (A.cons (E.tup (A.cons (E.tup (A.cons (E.con (.str "a")) (A.cons (E.con (.int 1)) (A.cons (E.con (.bool true)) (A.nil))))) (A.nil))) (A.nil))))))))
    (S.seq (S.extend 2 (M.v (N.disp (A.cons (E.tup (A.cons (E.tup (A.cons (E.con (.str "a")) (A.cons (E.con (.int 0)) (A.cons (E.con (.int 10000)) (A.nil))))) (A.nil))) (A.cons (E.tup (A.cons (E.lst (A.cons (E.con (.str "a")) (A.cons (E.con (.int 1)) (A.cons (E.con (.int 2)) (A.nil))))) (A.nil))) (A.cons (E.tup (A.cons (E.tup (A.cons (E.con (.str "A")) (A.cons (E.con (.int 1)) (A.cons (E.con (.int 2)) (A.nil))))) (A.nil))) (A.nil)))))))
    (S.frz 2 (S.ret (M.v (E.op2 ixD (E.var 2) (E.call sem__law_pick (A.cons (E.var 0) (A.cons (E.var 1) (A.cons (E.con (.int 19)) (A.nil))))))))))))
def sem__law_judged : List D → R D := fn 2 5 (S.seq (S.ite (M.v (T.or (T.of (E.op2 isNotD (E.call sem_are_reports (A.cons (E.var 1) (A.nil))) (E.con (.bool true)))) (T.of (E.op2 isNotD (E.call sem_are_reports (A.cons (E.call sem__law_value (A.cons (E.var 0) (A.cons (E.con (.int 90)) (A.nil)))) (A.nil))) (E.con (.bool false))))))
    (S.ret (M.v (E.con (.bool false))))
    (S.skip))
    (S.seq (S.set 2 (M.v (E.bi tupleF (A.cons (E.ofL (N.comp (I.seq (E.con (.str "abcdefghij"))) (GE.name 5) T.yes (E.tup (A.cons (E.var 5) (A.cons (E.con (.int 0)) (A.cons (E.con (.int 9999)) (A.nil))))) [5])) (A.nil)))))
    (S.seq (S.ite (M.v (T.or (T.of (E.op2 isNotD (E.call sem_are_reports (A.cons (E.var 2) (A.nil))) (E.con (.bool true)))) (T.of (E.op2 isNotD (E.call sem_are_reports (A.cons (E.op2 addD (E.var 2) (E.tup (A.cons (E.tup (A.cons (E.con (.str "k")) (A.cons (E.con (.int 0)) (A.cons (E.con (.int 0)) (A.nil))))) (A.nil)))) (A.nil))) (E.con (.bool false))))))
    (S.ret (M.v (E.con (.bool false))))
    (S.skip))
    (S.seq (S.setO 3 (M.v (N.disp (A.cons (E.bi listF (A.cons (E.var 1) (A.nil))) (A.cons (E.op2 addD (E.var 1) (E.tup (A.cons (E.tup (A.cons (E.con (.str "a")) (A.cons (E.con (.int 1)) (A.cons (E.con (.int 2)) (A.nil))))) (A.nil)))) (A.cons (E.op2 addD (E.var 1) (E.tup (A.cons (E.tup (A.cons (E.con (.str "zz")) (A.cons (E.con (.int 3)) (A.cons (E.con (.int 2)) (A.nil))))) (A.nil)))) (A.cons (E.op2 addD (E.var 1) (E.tup (A.cons (E.tup (A.cons (E.con (.str "zz")) (A.cons (E.con (.int 3)) (A.nil)))) (A.nil)))) (A.nil))))))))
    (S.seq (S.extend 3 (M.v (N.disp (A.cons (E.op2 addD (E.var 1) (E.tup (A.cons (E.tup (A.cons (E.con (.str "zz")) (A.cons (E.op1 negD (E.con (.int 1))) (A.cons (E.con (.int 2)) (A.nil))))) (A.nil)))) (A.cons (E.op2 addD (E.var 1) (E.tup (A.cons (E.tup (A.cons (E.con (.int 1)) (A.cons (E.con (.int 1)) (A.cons (E.con (.int 2)) (A.nil))))) (A.nil)))) (A.cons (E.op2 addD (E.var 1) (E.tup (A.cons (E.con .none) (A.nil)))) (A.cons (E.tup (A.cons (E.tup (A.cons (E.con (.str "")) (A.cons (E.con (.int 1)) (A.cons (E.con (.int 2)) (A.nil))))) (A.nil))) (A.nil))))))))
    (S.seq (S.ite (M.v (T.of (E.op2 eqD (E.var 1) (E.tup (A.nil)))))
    (S.frz 3 (S.setO 3 (M.v (N.cat (E.slice (E.var 3) O.non (O.som (E.con (.int 1)))) (E.slice (E.var 3) (O.som (E.con (.int 2))) O.non)))))
    (S.skip))
    (S.seq (S.set 4 (M.v (E.lst (A.cons (E.op2 addD (E.var 1) (E.tup (A.cons (E.tup (A.cons (E.con (.str "zz")) (A.cons (E.con (.int 3)) (A.cons (E.con (.int 3)) (A.nil))))) (A.nil)))) (A.cons (E.slice (E.var 1) (O.som (E.con (.int 1))) O.non) (A.cons (E.slice (E.var 1) O.non (O.som (E.op1 negD (E.con (.int 1))))) (A.cons (E.tup (A.nil)) (A.nil))))))))
    (S.frz 3 (S.ret (M.v (E.and (E.not (E.bi anyF (A.cons (E.ofL (N.comp (I.seq (E.var 3)) (GE.name 6) T.yes (E.call sem_are_reports (A.cons (E.var 6) (A.nil))) [6])) (A.nil)))) ((E.bi allF (A.cons (E.ofL (N.comp (I.seq (E.var 4)) (GE.name 6) T.yes (E.call sem_are_reports (A.cons (E.var 6) (A.nil))) [6])) (A.nil)))))))))))))))
def sem_right_at : List D → R D := fn 2 0 (S.seq (S.ex (M.v (E.call sem_check_reports (A.cons (E.var 0) (A.nil)))))
    (S.seq (S.ite (M.v (T.not (T.of (E.call sem_is_time (A.cons (E.var 1) (A.nil))))))
    (S.raise "InvalidTime")
    (S.skip))
    (S.ret (M.v (E.call sem_right_names (A.cons (E.var 0) (A.cons (E.var 1) (A.nil))))))))
def sem_together : List D → R D := fn 2 2 (S.seq (S.ex (M.v (E.call sem_check_reports (A.cons (E.var 0) (A.nil)))))
    (S.seq (S.ex (M.v (E.call sem_check_reports (A.cons (E.var 1) (A.nil)))))
    (S.seq (S.set 2 (M.v (E.call sem_sources (A.cons (E.var 0) (A.nil)))))
    (S.seq (S.ite (M.v (T.of (E.bi anyF (A.cons (E.ofL (N.comp (I.seq (E.call sem_sources (A.cons (E.var 1) (A.nil)))) (GE.name 3) T.yes (E.op2 inD (E.var 3) (E.var 2)) [3])) (A.nil)))))
    (S.raise "InvalidNames")
    (S.skip))
    (S.seq (S.ite (M.v (T.of (E.op2 gtD (E.op2 addD (E.bi lenF (A.cons (E.var 0) (A.nil))) (E.bi lenF (A.cons (E.var 1) (A.nil)))) (E.con (.int 10)))))
    (S.raise "TooLarge")
    (S.skip))
    (S.ret (M.v (E.bi tupleF (A.cons (E.bi sortF (A.cons (E.op2 addD (E.var 0) (E.var 1)) (A.nil))) (A.nil))))))))))
def sem_law_k01 : List D → R D := fn 1 13 (S.seq (S.set 1 (M.v (E.call sem__law_reports (A.cons (E.var 0) (A.cons (E.con (.int 0)) (A.cons (E.con (.int 6)) (A.nil)))))))
    (S.seq (S.ite (M.v (T.not (T.of (E.call sem__law_judged (A.cons (E.var 0) (A.cons (E.var 1) (A.nil)))))))
    (S.ret (M.v (E.con (.bool false))))
    (S.skip))
    (S.seq (S.set 2 (M.v (E.call0 sem__law_times)))
    (S.seq (S.set 3 (M.v (E.call sem_profile (A.cons (E.var 1) (A.nil)))))
    (S.seq (S.ite (M.v (T.or (T.of (E.op2 neD (E.op2 ixD (E.op2 ixD (E.var 3) (E.con (.int 0))) (E.con (.int 0))) (E.con (.int 0)))) (T.of (E.op2 neD (E.op2 ixD (E.op2 ixD (E.var 3) (E.op1 negD (E.con (.int 1)))) (E.con (.int 1))) (E.con (.int 9999))))))
    (S.ret (M.v (E.con (.bool false))))
    (S.skip))
    (S.seq (S.ite (M.v (T.of (E.bi anyF (A.cons (E.ofL (N.comp (I.zip (A.cons (E.var 3) (A.cons (E.slice (E.var 3) (O.som (E.con (.int 1))) O.non) (A.nil)))) (GE.tup [8, 9]) T.yes (E.or (E.op2 neD (E.op2 addD (E.op2 ixD (E.var 8) (E.con (.int 1))) (E.con (.int 1))) (E.op2 ixD (E.var 9) (E.con (.int 0)))) ((E.op2 eqD (E.op2 ixD (E.var 8) (E.con (.int 2))) (E.op2 ixD (E.var 9) (E.con (.int 2)))))) [8, 9])) (A.nil)))))
    (S.ret (M.v (E.con (.bool false))))
    (S.skip))
    (S.seq (S.for_ (I.seq (E.var 2)) (G.name 4)
    (S.seq (S.set 5 (M.v (E.call sem__law_right (A.cons (E.var 1) (A.cons (E.var 4) (A.nil))))))
    (S.seq (S.ite (M.v (T.of (E.op2 neD (E.call sem_right_at (A.cons (E.var 1) (A.cons (E.var 4) (A.nil)))) (E.var 5))))
    (S.ret (M.v (E.con (.bool false))))
    (S.skip))
    (S.ite (M.v (T.of (E.op2 neD (E.ofL (N.comp (I.seq (E.var 3)) (GE.tup [11, 12, 13]) (T.and (T.of (E.op2 leD (E.var 11) (E.var 4))) (T.of (E.op2 leD (E.var 4) (E.var 12)))) (E.var 13) [11, 12, 13])) (E.lst (A.cons (E.bi lenF (A.cons (E.var 5) (A.nil))) (A.nil))))))
    (S.ret (M.v (E.con (.bool false))))
    (S.skip)))))
    (S.seq (S.set 5 (M.v (E.bi tupleF (A.cons (E.ofL (N.comp (I.seq (E.var 1)) (GE.name 10) (T.of (E.op2 eqD (E.call sem__law_pick (A.cons (E.var 0) (A.cons (E.op2 addD (E.con (.int 100)) (E.op2 ixD (E.var 10) (E.con (.int 1)))) (A.cons (E.con (.int 2)) (A.nil))))) (E.con (.int 0)))) (E.op2 ixD (E.var 10) (E.con (.int 0))) [10])) (A.nil)))))
    (S.seq (S.set 6 (M.v (E.call sem_without (A.cons (E.var 1) (A.cons (E.var 5) (A.nil))))))
    (S.seq (S.set 7 (M.v (E.bi tupleF (A.cons (E.ofL (N.comp (I.seq (E.var 1)) (GE.name 10) (T.of (E.op2 inD (E.op2 ixD (E.var 10) (E.con (.int 0))) (E.var 5))) (E.var 10) [10])) (A.nil)))))
    (S.seq (S.ite (M.v (T.of (E.op2 neD (E.var 6) (E.bi tupleF (A.cons (E.ofL (N.comp (I.seq (E.var 1)) (GE.name 10) (T.of (E.op2 notInD (E.op2 ixD (E.var 10) (E.con (.int 0))) (E.var 5))) (E.var 10) [10])) (A.nil))))))
    (S.ret (M.v (E.con (.bool false))))
    (S.skip))
    (S.ret (M.v (E.and (E.op2 eqD (E.call sem_together (A.cons (E.var 6) (A.cons (E.var 7) (A.nil)))) (E.var 1)) ((E.op2 eqD (E.call sem_together (A.cons (E.var 7) (A.cons (E.var 6) (A.nil)))) (E.var 1)))))))))))))))))
end PV

namespace PV
open PySem PySem.Spec L2
def sem__law_all_in : List D → R D := fn 2 4 (S.ret (M.v (E.bi allF (A.cons (E.ofL (N.comp (I.seq (E.var 0)) (GE.tup [2, 3]) T.yes (E.bi anyF (A.cons (E.ofL (N.comp (I.seq (E.var 1)) (GE.tup [4, 5]) T.yes (E.and (E.op2 leD (E.var 4) (E.var 2)) ((E.op2 leD (E.var 3) (E.var 5)))) [4, 5])) (A.nil))) [2, 3])) (A.nil)))))
def sem_law_k40 : List D → R D := fn 1 13 (S.seq (S.set 1 (M.v (E.call sem__law_reports (A.cons (E.var 0) (A.cons (E.con (.int 0)) (A.cons (E.con (.int 6)) (A.nil)))))))
    (S.seq (S.set 2 (M.v (E.bi tupleF (A.cons (E.ofL (N.comp (I.seq (E.call sem__law_reports (A.cons (E.var 0) (A.cons (E.con (.int 50)) (A.cons (E.con (.int 3)) (A.nil)))))) (GE.tup [6, 7, 8]) T.yes (E.tup (A.cons (E.op2 addD (E.con (.str "z")) (E.var 6)) (A.cons (E.var 7) (A.cons (E.var 8) (A.nil))))) [6, 7, 8])) (A.nil)))))
    (S.seq (S.set 3 (M.v (E.call sem_together (A.cons (E.var 1) (A.cons (E.var 2) (A.nil))))))
    (S.seq (S.ite (M.v (T.of (E.op2 neD (E.bi lenF (A.cons (E.var 3) (A.nil))) (E.op2 addD (E.bi lenF (A.cons (E.var 1) (A.nil))) (E.bi lenF (A.cons (E.var 2) (A.nil)))))))
    (S.ret (M.v (E.con (.bool false))))
    (S.skip))
    (S.seq (S.for_ (I.range1 (A.cons (E.con (.int 6)) (A.nil))) (G.name 4)
    (S.seq (S.set 5 (M.v (E.call sem_possible (A.cons (E.var 1) (A.cons (E.var 4) (A.nil))))))
    (S.seq (S.ite (M.v (T.or (T.not (T.of (E.call sem__law_all_in (A.cons (E.var 5) (A.cons (E.call sem_possible (A.cons (E.var 1) (A.cons (E.op2 addD (E.var 4) (E.con (.int 1))) (A.nil)))) (A.nil)))))) (T.not (T.of (E.call sem__law_all_in (A.cons (E.call sem_possible (A.cons (E.var 3) (A.cons (E.var 4) (A.nil)))) (A.cons (E.var 5) (A.nil))))))))
    (S.ret (M.v (E.con (.bool false))))
    (S.skip))
    (S.seq (S.ite (M.v (T.not (T.of (E.call sem__law_all_in (A.cons (E.var 5) (A.cons (E.call sem_possible (A.cons (E.var 3) (A.cons (E.op2 addD (E.var 4) (E.bi lenF (A.cons (E.var 2) (A.nil)))) (A.nil)))) (A.nil)))))))
    (S.ret (M.v (E.con (.bool false))))
    (S.skip))
    (S.seq (S.for_ (I.seq (E.var 1)) (G.tup [6, 7, 8])
    (S.seq (S.set 9 (M.v (E.call sem_without (A.cons (E.var 1) (A.cons (E.tup (A.cons (E.var 6) (A.nil))) (A.nil))))))
    (S.seq (S.ite (M.v (T.of (E.op2 neD (E.bi lenF (A.cons (E.var 9) (A.nil))) (E.op2 subD (E.bi lenF (A.cons (E.var 1) (A.nil))) (E.con (.int 1))))))
    (S.ret (M.v (E.con (.bool false))))
    (S.skip))
    (S.seq (S.ite (M.v (T.and (T.of (E.op2 gtD (E.var 4) (E.con (.int 0)))) (T.not (T.of (E.call sem__law_all_in (A.cons (E.call sem_possible (A.cons (E.var 9) (A.cons (E.op2 subD (E.var 4) (E.con (.int 1))) (A.nil)))) (A.cons (E.var 5) (A.nil))))))))
    (S.ret (M.v (E.con (.bool false))))
    (S.skip))
    (S.ite (M.v (T.not (T.of (E.call sem__law_all_in (A.cons (E.var 5) (A.cons (E.call sem_possible (A.cons (E.var 9) (A.cons (E.var 4) (A.nil)))) (A.nil)))))))
    (S.ret (M.v (E.con (.bool false))))
    (S.skip))))))
    (S.for_ (I.seq (E.tup (A.cons (E.con (.int 0)) (A.cons (E.con (.int 15)) (A.cons (E.con (.int 9999)) (A.nil)))))) (G.name 10)
    (S.ite (M.v (T.of (E.op2 neD (E.call sem__law_all_in (A.cons (E.lst (A.cons (E.tup (A.cons (E.var 10) (A.cons (E.var 10) (A.nil)))) (A.nil))) (A.cons (E.var 5) (A.nil)))) (E.op2 leD (E.op2 subD (E.bi lenF (A.cons (E.var 1) (A.nil))) (E.bi lenF (A.cons (E.call sem_right_at (A.cons (E.var 1) (A.cons (E.var 10) (A.nil)))) (A.nil)))) (E.var 4)))))
    (S.ret (M.v (E.con (.bool false))))
    (S.skip))))))))
    (S.seq (S.for_ (I.seq (E.tup (A.cons (E.var 1) (A.cons (E.var 3) (A.nil))))) (G.name 11)
    (S.seq (S.set 12 (M.v (E.call sem_fewest_liars (A.cons (E.var 11) (A.nil)))))
    (S.ite (M.v (T.or (T.of (E.op2 eqD (E.call sem_possible (A.cons (E.var 11) (A.cons (E.var 12) (A.nil)))) (E.lst (A.nil)))) (T.and (T.of (E.op2 gtD (E.var 12) (E.con (.int 0)))) (T.of (E.op2 neD (E.call sem_possible (A.cons (E.var 11) (A.cons (E.op2 subD (E.var 12) (E.con (.int 1))) (A.nil)))) (E.lst (A.nil)))))))
    (S.ret (M.v (E.con (.bool false))))
    (S.skip))))
    (S.seq (S.set 13 (M.v (E.call sem_fewest_liars (A.cons (E.var 3) (A.nil)))))
    (S.ret (M.v (E.and (E.op2 leD (E.call sem_fewest_liars (A.cons (E.var 1) (A.nil))) (E.var 13)) ((E.op2 leD (E.var 13) (E.op2 addD (E.call sem_fewest_liars (A.cons (E.var 1) (A.nil))) (E.bi lenF (A.cons (E.var 2) (A.nil))))))))))))))))
end PV

namespace PV
open PySem PySem.Spec L2
def sem__law_near : List D → R D := fn 3 4 (S.seq (S.set 3 (M.v (E.op2 addD (E.con (.int 5)) (E.call sem__law_pick (A.cons (E.var 0) (A.cons (E.var 1) (A.cons (E.con (.int 12)) (A.nil))))))))
    (S.seq (S.setO 4 (M.v (N.disp (A.nil))))
    (S.seq (S.for_ (I.range1 (A.cons (E.call sem__law_pick (A.cons (E.var 0) (A.cons (E.op2 addD (E.var 1) (E.con (.int 1))) (A.cons (E.op2 addD (E.var 2) (E.con (.int 1))) (A.nil))))) (A.nil))) (G.name 5)
    (S.seq (S.set 6 (M.v (E.op2 subD (E.var 3) (E.call sem__law_pick (A.cons (E.var 0) (A.cons (E.op2 addD (E.op2 addD (E.var 1) (E.con (.int 2))) (E.op2 mulD (E.con (.int 2)) (E.var 5))) (A.cons (E.con (.int 6)) (A.nil))))))))
    (S.append 4 (M.v (E.tup (A.cons (E.op2 ixD (E.con (.str "abcdefghij")) (E.var 5)) (A.cons (E.var 6) (A.cons (E.op2 addD (E.var 3) (E.call sem__law_pick (A.cons (E.var 0) (A.cons (E.op2 addD (E.op2 addD (E.var 1) (E.con (.int 3))) (E.op2 mulD (E.con (.int 2)) (E.var 5))) (A.cons (E.con (.int 8)) (A.nil)))))) (A.nil)))))))))
    (S.frz 4 (S.ret (M.v (E.bi tupleF (A.cons (E.var 4) (A.nil)))))))))
def sem__law_with : List D → R D := fn 2 2 (S.seq (S.set 2 (M.v (E.call0 sem__law_times)))
    (S.ret (M.v (E.call sem__law_ranges (A.cons (E.var 2) (A.cons (E.ofL (N.comp (I.seq (E.var 2)) (GE.name 3) T.yes (E.op2 geD (E.bi lenF (A.cons (E.call sem__law_right (A.cons (E.var 0) (A.cons (E.var 3) (A.nil)))) (A.nil))) (E.var 1)) [3])) (A.nil)))))))
def sem_check_right : List D → R D := fn 2 0 (S.seq (S.ex (M.v (E.call sem_check_reports (A.cons (E.var 0) (A.nil)))))
    (S.seq (S.ex (M.v (E.call sem_check_liars (A.cons (E.var 1) (A.nil)))))
    (S.ite (M.v (T.of (E.op2 eqD (E.call sem_times_with (A.cons (E.var 0) (A.cons (E.bi lenF (A.cons (E.var 0) (A.nil))) (A.nil)))) (E.lst (A.nil)))))
    (S.raise "NotRight")
    (S.skip))))
def sem_reachable_times : List D → R D := fn 2 0 (S.ret (M.v (E.call sem_times_with (A.cons (E.var 0) (A.cons (E.op2 subD (E.bi lenF (A.cons (E.var 0) (A.nil))) (E.var 1)) (A.nil))))))
def sem_bounding_source : List D → R D := fn 2 6 (S.seq (S.ex (M.v (E.call sem_check_right (A.cons (E.var 0) (A.cons (E.var 1) (A.nil))))))
    (S.seq (S.asg (G.tup [2, 3]) (M.v (E.call sem_hull (A.cons (E.call sem_reachable_times (A.cons (E.var 0) (A.cons (E.var 1) (A.nil)))) (A.nil)))))
    (S.seq (S.set 4 (M.ofF (M.v (N.comp (I.seq (E.var 0)) (GE.tup [5, 6, 7]) (T.and (T.of (E.op2 leD (E.var 6) (E.var 2))) (T.of (E.op2 leD (E.var 3) (E.var 7)))) (E.var 5) [5, 6, 7]))))
    (S.ret (M.v (E.ite (T.of (E.op2 neD (E.var 4) (E.lst (A.nil)))) (E.op2 ixD (E.var 4) (E.con (.int 0))) (E.con .none)))))))
def sem_law_k22 : List D → R D := fn 1 9 (S.seq (S.set 1 (M.v (E.call sem__law_near (A.cons (E.var 0) (A.cons (E.con (.int 0)) (A.cons (E.con (.int 9)) (A.nil)))))))
    (S.seq (S.for_ (I.range1 (A.cons (E.con (.int 6)) (A.nil))) (G.name 2)
    (S.seq (S.set 3 (M.v (E.call sem__law_hull (A.cons (E.call sem__law_with (A.cons (E.var 1) (A.cons (E.op2 subD (E.bi lenF (A.cons (E.var 1) (A.nil))) (E.var 2)) (A.nil)))) (A.nil)))))
    (S.seq (S.set 4 (M.ofF (M.v (N.comp (I.seq (E.var 1)) (GE.tup [7, 8, 9]) (T.and (T.of (E.op2 leD (E.var 8) (E.op2 ixD (E.var 3) (E.con (.int 0))))) (T.of (E.op2 leD (E.op2 ixD (E.var 3) (E.con (.int 1))) (E.var 9)))) (E.var 7) [7, 8, 9]))))
    (S.seq (S.set 5 (M.v (E.ite (T.of (E.op2 neD (E.var 4) (E.lst (A.nil)))) (E.op2 ixD (E.var 4) (E.con (.int 0))) (E.con .none))))
    (S.seq (S.ite (M.v (T.of (E.op2 neD (E.call sem_bounding_source (A.cons (E.var 1) (A.cons (E.var 2) (A.nil)))) (E.var 5))))
    (S.ret (M.v (E.con (.bool false))))
    (S.skip))
    (S.ite (M.v (T.and (T.of (E.op2 gtD (E.bi lenF (A.cons (E.var 1) (A.nil))) (E.op2 mulD (E.con (.int 2)) (E.var 2)))) (T.of (E.op2 isD (E.var 5) (E.con .none)))))
    (S.ret (M.v (E.con (.bool false))))
    (S.skip)))))))
    (S.seq (S.set 6 (M.v (E.tup (A.cons (E.tup (A.cons (E.con (.str "a")) (A.cons (E.con (.int 10)) (A.cons (E.con (.int 20)) (A.nil))))) (A.cons (E.tup (A.cons (E.con (.str "b")) (A.cons (E.con (.int 15)) (A.cons (E.con (.int 30)) (A.nil))))) (A.nil))))))
    (S.ret (M.v (E.and (E.op2 isD (E.call sem_bounding_source (A.cons (E.var 6) (A.cons (E.con (.int 1)) (A.nil)))) (E.con .none)) (E.and (E.op2 eqD (E.call sem_bounding_source (A.cons (E.var 6) (A.cons (E.con (.int 0)) (A.nil)))) (E.con (.str "a"))) ((E.op2 isD (E.call sem_bounding_source (A.cons (E.tup (A.nil)) (A.cons (E.con (.int 0)) (A.nil)))) (E.con .none))))))))))
end PV

namespace PV
open PySem PySem.Spec L2
def sem_check_sum : List D → R D := fn 2 0 (S.seq (S.ex (M.v (E.call sem_check_right (A.cons (E.var 0) (A.cons (E.var 1) (A.nil))))))
    (S.ite (M.v (T.of (E.op2 gtD (E.op2 addD (E.bi lenF (A.cons (E.var 0) (A.nil))) (E.var 1)) (E.con (.int 10)))))
    (S.raise "TooLarge")
    (S.skip)))
def sem_worst_lies : List D → R D := fn 2 4 (S.seq (S.ex (M.v (E.call sem_check_sum (A.cons (E.var 0) (A.cons (E.var 1) (A.nil))))))
    (S.seq (S.asg (G.tup [2, 3]) (M.v (E.call sem_hull (A.cons (E.call sem_reachable_times (A.cons (E.var 0) (A.cons (E.var 1) (A.nil)))) (A.nil)))))
    (S.seq (S.set 4 (M.v (E.slice (E.ofL (N.comp (I.seq (E.con (.str "abcdefghijklmnopqrstuvwxyz"))) (GE.name 5) (T.of (E.op2 notInD (E.var 5) (E.call sem_sources (A.cons (E.var 0) (A.nil))))) (E.var 5) [5])) O.non (O.som (E.var 1)))))
    (S.ret (M.v (E.bi tupleF (A.cons (E.ofL (N.comp (I.seq (E.var 4)) (GE.name 5) T.yes (E.tup (A.cons (E.var 5) (A.cons (E.var 2) (A.cons (E.var 3) (A.nil))))) [5])) (A.nil))))))))
def sem_always_agreed : List D → R D := fn 2 0 (S.seq (S.ex (M.v (E.call sem_check_right (A.cons (E.var 0) (A.cons (E.var 1) (A.nil))))))
    (S.ret (M.v (E.call sem_hull (A.cons (E.call sem_times_with (A.cons (E.var 0) (A.cons (E.bi lenF (A.cons (E.var 0) (A.nil))) (A.nil)))) (A.nil))))))
def sem_reachable : List D → R D := fn 2 0 (S.seq (S.ex (M.v (E.call sem_check_right (A.cons (E.var 0) (A.cons (E.var 1) (A.nil))))))
    (S.ret (M.v (E.call sem_reachable_times (A.cons (E.var 0) (A.cons (E.var 1) (A.nil)))))))
def sem_worst_agreed : List D → R D := fn 2 0 (S.seq (S.ex (M.v (E.call sem_check_right (A.cons (E.var 0) (A.cons (E.var 1) (A.nil))))))
    (S.ret (M.v (E.call sem_hull (A.cons (E.call sem_reachable_times (A.cons (E.var 0) (A.cons (E.var 1) (A.nil)))) (A.nil))))))
def sem_are_worst_lies : List D → R D := fn 3 2 (S.seq (S.ex (M.v (E.call sem_check_sum (A.cons (E.var 0) (A.cons (E.var 1) (A.nil))))))
    (S.seq (S.ite (M.v (T.or (T.not (T.of (E.call sem_are_reports (A.cons (E.var 2) (A.nil))))) (T.of (E.op2 neD (E.bi lenF (A.cons (E.var 2) (A.nil))) (E.var 1)))))
    (S.ret (M.v (E.con (.bool false))))
    (S.skip))
    (S.seq (S.set 3 (M.v (E.call sem_sources (A.cons (E.var 0) (A.nil)))))
    (S.seq (S.ite (M.v (T.of (E.bi anyF (A.cons (E.ofL (N.comp (I.seq (E.call sem_sources (A.cons (E.var 2) (A.nil)))) (GE.name 4) T.yes (E.op2 inD (E.var 4) (E.var 3)) [4])) (A.nil)))))
    (S.ret (M.v (E.con (.bool false))))
    (S.skip))
    (S.ret (M.v (E.op2 eqD (E.call sem_hull (A.cons (E.call sem_possible_times (A.cons (E.op2 addD (E.var 0) (E.var 2)) (A.cons (E.var 1) (A.nil)))) (A.nil))) (E.call sem_hull (A.cons (E.call sem_reachable_times (A.cons (E.var 0) (A.cons (E.var 1) (A.nil)))) (A.nil))))))))))
def sem_law_k16 : List D → R D := fn 1 18 (S.seq (S.set 1 (M.v (E.call sem__law_near (A.cons (E.var 0) (A.cons (E.con (.int 0)) (A.cons (E.con (.int 6)) (A.nil)))))))
    (S.seq (S.set 2 (M.v (E.call0 sem__law_times)))
    (S.seq (S.for_ (I.range1 (A.cons (E.con (.int 5)) (A.nil))) (G.name 3)
    (S.seq (S.set 4 (M.v (E.call sem__law_ranges (A.cons (E.var 2) (A.cons (E.ofL (N.comp (I.seq (E.var 2)) (GE.name 15) T.yes (E.op2 geD (E.bi lenF (A.cons (E.call sem__law_right (A.cons (E.var 1) (A.cons (E.var 15) (A.nil)))) (A.nil))) (E.op2 subD (E.bi lenF (A.cons (E.var 1) (A.nil))) (E.var 3))) [15])) (A.nil))))))
    (S.seq (S.set 5 (M.v (E.call sem__law_hull (A.cons (E.call sem__law_with (A.cons (E.var 1) (A.cons (E.bi lenF (A.cons (E.var 1) (A.nil))) (A.nil)))) (A.nil)))))
    (S.seq (S.ite (M.v (T.or (T.of (E.op2 neD (E.call sem_reachable (A.cons (E.var 1) (A.cons (E.var 3) (A.nil)))) (E.var 4))) (T.of (E.op2 neD (E.call sem_worst_agreed (A.cons (E.var 1) (A.cons (E.var 3) (A.nil)))) (E.call sem__law_hull (A.cons (E.var 4) (A.nil)))))))
    (S.ret (M.v (E.con (.bool false))))
    (S.skip))
    (S.seq (S.ite (M.v (T.of (E.op2 neD (E.call sem_always_agreed (A.cons (E.var 1) (A.cons (E.var 3) (A.nil)))) (E.var 5))))
    (S.ret (M.v (E.con (.bool false))))
    (S.skip))
    (S.seq (S.set 6 (M.v (E.call sem_worst_lies (A.cons (E.var 1) (A.cons (E.var 3) (A.nil))))))
    (S.seq (S.ite (M.v (T.or (T.not (T.of (E.call sem_are_reports (A.cons (E.var 6) (A.nil))))) (T.or (T.of (E.op2 neD (E.bi lenF (A.cons (E.var 6) (A.nil))) (E.var 3))) (T.of (E.op2 isNotD (E.call sem_are_worst_lies (A.cons (E.var 1) (A.cons (E.var 3) (A.cons (E.var 6) (A.nil))))) (E.con (.bool true)))))))
    (S.ret (M.v (E.con (.bool false))))
    (S.skip))
    (S.seq (S.ite (M.v (T.of (E.op2 neD (E.call sem_agreed (A.cons (E.call sem_together (A.cons (E.var 1) (A.cons (E.var 6) (A.nil)))) (A.cons (E.var 3) (A.nil)))) (E.call sem__law_hull (A.cons (E.var 4) (A.nil))))))
    (S.ret (M.v (E.con (.bool false))))
    (S.skip))
    (S.for_ (I.range1 (A.cons (E.con (.int 4)) (A.nil))) (G.name 7)
    (S.seq (S.set 8 (M.v (E.slice (E.call sem__law_reports (A.cons (E.var 0) (A.cons (E.op2 addD (E.op2 addD (E.con (.int 40)) (E.op2 mulD (E.con (.int 40)) (E.var 7))) (E.op2 mulD (E.con (.int 7)) (E.var 3))) (A.cons (E.con (.int 4)) (A.nil))))) O.non (O.som (E.var 3)))))
    (S.seq (S.set 8 (M.v (E.bi tupleF (A.cons (E.ofL (N.comp (I.seq (E.var 8)) (GE.tup [16, 17, 18]) T.yes (E.tup (A.cons (E.op2 addD (E.con (.str "z")) (E.var 16)) (A.cons (E.var 17) (A.cons (E.var 18) (A.nil))))) [16, 17, 18])) (A.nil)))))
    (S.seq (S.set 9 (M.v (E.call sem_together (A.cons (E.var 1) (A.cons (E.var 8) (A.nil))))))
    (S.seq (S.set 10 (M.v (E.call sem_possible (A.cons (E.var 9) (A.cons (E.var 3) (A.nil))))))
    (S.seq (S.asg (G.tup [11, 12]) (M.v (E.call sem__law_hull (A.cons (E.var 10) (A.nil)))))
    (S.seq (S.ite (M.v (T.of (E.op2 eqD (E.bi lenF (A.cons (E.var 8) (A.nil))) (E.var 3))))
    (S.ite (M.v (T.of (E.op2 neD (E.call sem_are_worst_lies (A.cons (E.var 1) (A.cons (E.var 3) (A.cons (E.var 8) (A.nil))))) (E.op2 eqD (E.tup (A.cons (E.var 11) (A.cons (E.var 12) (A.nil)))) (E.call sem__law_hull (A.cons (E.var 4) (A.nil)))))))
    (S.ret (M.v (E.con (.bool false))))
    (S.skip))
    (S.ite (M.v (T.of (E.op2 isNotD (E.call sem_are_worst_lies (A.cons (E.var 1) (A.cons (E.var 3) (A.cons (E.var 8) (A.nil))))) (E.con (.bool false)))))
    (S.ret (M.v (E.con (.bool false))))
    (S.skip)))
    (S.seq (S.ite (M.v (T.or (T.of (E.op2 gtD (E.var 11) (E.op2 ixD (E.var 5) (E.con (.int 0))))) (T.of (E.op2 ltD (E.var 12) (E.op2 ixD (E.var 5) (E.con (.int 1)))))))
    (S.ret (M.v (E.con (.bool false))))
    (S.skip))
    (S.for_ (I.seq (E.ite (T.of (E.op2 eqD (E.bi lenF (A.cons (E.var 8) (A.nil))) (E.var 3))) (E.var 10) (E.lst (A.nil)))) (G.tup [13, 14])
    (S.ite (M.v (T.not (T.of (E.bi anyF (A.cons (E.ofL (N.comp (I.seq (E.var 4)) (GE.tup [17, 18]) T.yes (E.and (E.op2 leD (E.var 17) (E.var 13)) ((E.op2 leD (E.var 14) (E.var 18)))) [17, 18])) (A.nil))))))
    (S.ret (M.v (E.con (.bool false))))
    (S.skip)))))))))))))))))))
    (S.ret (M.v (E.con (.bool true)))))))
end PV

namespace PV
open PySem PySem.Spec L2
def sem__law_spans : List D → R D := fn 1 7 (S.seq (S.setO 1 (M.v (N.disp (A.nil))))
    (S.seq (S.for_ (I.range1 (A.cons (E.con (.int 7)) (A.nil))) (G.name 2)
    (S.extend 1 (M.v (N.comp (I.range2 (A.cons (E.var 2) (A.cons (E.con (.int 7)) (A.nil)))) (GE.name 7) T.yes (E.tup (A.cons (E.var 2) (A.cons (E.var 7) (A.nil)))) [7]))))
    (S.seq (S.set 3 (M.v (E.lst (A.cons (E.tup (A.nil)) (A.nil)))))
    (S.seq (S.for_ (I.seq (E.slice (E.tup (A.cons (E.con (.str "x")) (A.cons (E.con (.str "y")) (A.nil)))) O.non (O.som (E.var 0)))) (G.name 4)
    (S.seq (S.setO 5 (M.v (N.disp (A.nil))))
    (S.seq (S.for_ (I.seq (E.var 3)) (G.name 6)
    (S.extend 5 (M.kf (N.comp (I.seq (E.var 1)) (GE.tup [2, 7]) T.yes (E.op2 addD (E.var 6) (E.tup (A.cons (E.tup (A.cons (E.var 4) (A.cons (E.var 2) (A.cons (E.var 7) (A.nil))))) (A.nil)))) [2, 7]))))
    (S.frz 5 (S.set 3 (M.v (E.var 5)))))))
    (S.ret (M.v (E.var 3)))))))
def sem__law_inside : List D → R D := fn 2 2 (S.ret (M.v (E.bi anyF (A.cons (E.ofL (N.comp (I.seq (E.var 0)) (GE.tup [2, 3]) T.yes (E.and (E.op2 leD (E.var 2) (E.var 1)) ((E.op2 leD (E.var 1) (E.var 3)))) [2, 3])) (A.nil)))))
def sem_law_k20 : List D → R D := fn 1 16 (S.seq (S.set 1 (M.v (E.op2 addD (E.con (.int 1)) (E.call sem__law_pick (A.cons (E.var 0) (A.cons (E.con (.int 0)) (A.cons (E.con (.int 5)) (A.nil))))))))
    (S.seq (S.setO 2 (M.v (N.disp (A.nil))))
    (S.seq (S.for_ (I.range1 (A.cons (E.op2 addD (E.con (.int 1)) (E.call sem__law_pick (A.cons (E.var 0) (A.cons (E.con (.int 1)) (A.cons (E.con (.int 3)) (A.nil)))))) (A.nil))) (G.name 3)
    (S.seq (S.set 4 (M.v (E.bi max2F (A.cons (E.op2 subD (E.var 1) (E.call sem__law_pick (A.cons (E.var 0) (A.cons (E.op2 addD (E.con (.int 2)) (E.op2 mulD (E.con (.int 2)) (E.var 3))) (A.cons (E.con (.int 3)) (A.nil)))))) (A.cons (E.con (.int 0)) (A.nil))))))
    (S.append 2 (M.v (E.tup (A.cons (E.op2 ixD (E.con (.str "abc")) (E.var 3)) (A.cons (E.var 4) (A.cons (E.bi min2F (A.cons (E.op2 addD (E.var 1) (E.call sem__law_pick (A.cons (E.var 0) (A.cons (E.op2 addD (E.con (.int 3)) (E.op2 mulD (E.con (.int 2)) (E.var 3))) (A.cons (E.con (.int 3)) (A.nil)))))) (A.cons (E.con (.int 6)) (A.nil)))) (A.nil)))))))))
    (S.seq (S.asgB [5, 6] (Bs.val (M.k (E.bi tupleF (A.cons (E.var 2) (A.nil)))) (Bs.val (M.v (E.op2 addD (E.con (.int 1)) (E.op2 eqD (E.call sem__law_pick (A.cons (E.var 0) (A.cons (E.con (.int 10)) (A.cons (E.con (.int 4)) (A.nil))))) (E.con (.int 0))))) (Bs.nil))))
    (S.seq (S.ite (M.v (T.of (E.op2 geD (E.var 6) (E.bi lenF (A.cons (E.var 5) (A.nil))))))
    (S.set 5 (M.v (E.op2 addD (E.var 5) (E.tup (A.cons (E.tup (A.cons (E.con (.str "d")) (A.cons (E.var 1) (A.cons (E.var 1) (A.nil))))) (A.cons (E.tup (A.cons (E.con (.str "e")) (A.cons (E.bi max2F (A.cons (E.op2 subD (E.var 1) (E.con (.int 1))) (A.cons (E.con (.int 0)) (A.nil)))) (A.cons (E.var 1) (A.nil))))) (A.nil)))))))
    (S.skip))
    (S.seq (S.asgB [7, 8] (Bs.own (M.v (N.disp (A.nil))) (Bs.own (M.v (N.disp (A.nil))) (Bs.nil))))
    (S.seq (S.for_ (I.seq (E.call sem__law_spans (A.cons (E.var 6) (A.nil)))) (G.name 9)
    (S.seq (S.set 10 (M.v (E.call sem__law_with (A.cons (E.op2 addD (E.var 5) (E.var 9)) (A.cons (E.bi lenF (A.cons (E.var 5) (A.nil))) (A.nil))))))
    (S.seq (S.extend 7 (M.kf (N.comp (I.range1 (A.cons (E.con (.int 7)) (A.nil))) (GE.name 14) (T.and (T.of (E.call sem__law_inside (A.cons (E.var 10) (A.cons (E.var 14) (A.nil))))) (T.of (E.op2 notInD (E.var 14) (E.var 7)))) (E.var 14) [14])))
    (S.append 8 (M.v (E.call sem__law_hull (A.cons (E.var 10) (A.nil))))))))
    (S.seq (S.set 11 (M.v (E.call sem_reachable (A.cons (E.var 5) (A.cons (E.var 6) (A.nil))))))
    (S.seq (S.ite (M.kt (T.of (E.op2 neD (E.bi sortF (A.cons (E.var 7) (A.nil))) (E.ofL (N.comp (I.range1 (A.cons (E.con (.int 7)) (A.nil))) (GE.name 14) (T.of (E.call sem__law_inside (A.cons (E.var 11) (A.cons (E.var 14) (A.nil))))) (E.var 14) [14])))))
    (S.ret (M.v (E.con (.bool false))))
    (S.skip))
    (S.seq (S.frz 8 (S.set 12 (M.v (E.tup (A.cons (E.bi minF (A.cons (E.ofL (N.comp (I.seq (E.var 8)) (GE.tup [15, 16]) T.yes (E.var 15) [15, 16])) (A.nil))) (A.cons (E.bi maxF (A.cons (E.ofL (N.comp (I.seq (E.var 8)) (GE.tup [15, 16]) T.yes (E.var 16) [15, 16])) (A.nil))) (A.nil)))))))
    (S.seq (S.set 13 (M.v (E.tup (A.cons (E.bi maxF (A.cons (E.ofL (N.comp (I.seq (E.var 8)) (GE.tup [15, 16]) T.yes (E.var 15) [15, 16])) (A.nil))) (A.cons (E.bi minF (A.cons (E.ofL (N.comp (I.seq (E.var 8)) (GE.tup [15, 16]) T.yes (E.var 16) [15, 16])) (A.nil))) (A.nil))))))
    (S.seq (S.ite (M.v (T.or (T.of (E.op2 neD (E.call sem_worst_agreed (A.cons (E.var 5) (A.cons (E.var 6) (A.nil)))) (E.var 12))) (T.of (E.op2 notInD (E.var 12) (E.var 8)))))
    (S.ret (M.v (E.con (.bool false))))
    (S.skip))
    (S.ret (M.v (E.and (E.op2 eqD (E.call sem_always_agreed (A.cons (E.var 5) (A.cons (E.var 6) (A.nil)))) (E.var 13)) ((E.op2 inD (E.var 13) (E.var 8))))))))))))))))))
end PV

namespace PV
open PySem PySem.Spec L2
def sem__law_log : List D → R D := fn 2 11 (S.seq (S.asgB [2, 3] (Bs.val (M.v (E.call sem__law_pick (A.cons (E.var 0) (A.cons (E.var 1) (A.cons (E.con (.int 5)) (A.nil)))))) (Bs.val (M.v (E.op2 addD (E.con (.int 1)) (E.call sem__law_pick (A.cons (E.var 0) (A.cons (E.op2 addD (E.var 1) (E.con (.int 1))) (A.cons (E.con (.int 4)) (A.nil))))))) (Bs.nil))))
    (S.seq (S.asgB [4, 5, 6] (Bs.val (M.v (E.call sem__law_pick (A.cons (E.var 0) (A.cons (E.op2 addD (E.var 1) (E.con (.int 2))) (A.cons (E.con (.int 3)) (A.nil)))))) (Bs.val (M.v (E.op2 addD (E.con (.int 6)) (E.call sem__law_pick (A.cons (E.var 0) (A.cons (E.op2 addD (E.var 1) (E.con (.int 3))) (A.cons (E.con (.int 5)) (A.nil))))))) (Bs.own (M.v (N.disp (A.nil))) (Bs.nil)))))
    (S.seq (S.for_ (I.range1 (A.cons (E.var 3) (A.nil))) (G.name 7)
    (S.seq (S.setO 8 (M.v (N.disp (A.nil))))
    (S.seq (S.for_ (I.range1 (A.cons (E.var 2) (A.nil))) (G.name 9)
    (S.seq (S.set 10 (M.v (E.op2 addD (E.op2 addD (E.op2 addD (E.var 1) (E.con (.int 10))) (E.op2 mulD (E.con (.int 20)) (E.var 7))) (E.op2 mulD (E.con (.int 4)) (E.var 9)))))
    (S.seq (S.set 11 (M.v (E.bi max2F (A.cons (E.op2 addD (E.op2 subD (E.var 5) (E.call sem__law_pick (A.cons (E.var 0) (A.cons (E.var 10) (A.cons (E.con (.int 7)) (A.nil)))))) (E.call sem__law_pick (A.cons (E.var 0) (A.cons (E.op2 addD (E.var 10) (E.con (.int 1))) (A.cons (E.con (.int 3)) (A.nil)))))) (A.cons (E.con (.int 0)) (A.nil))))))
    (S.append 8 (M.v (E.tup (A.cons (E.op2 ixD (E.con (.str "abcde")) (E.var 9)) (A.cons (E.var 11) (A.cons (E.op2 addD (E.var 11) (E.call sem__law_pick (A.cons (E.var 0) (A.cons (E.op2 addD (E.var 10) (E.con (.int 2))) (A.cons (E.con (.int 9)) (A.nil)))))) (A.nil))))))))))
    (S.seq (S.append 6 (M.k (E.tup (A.cons (E.var 4) (A.cons (E.bi tupleF (A.cons (E.var 8) (A.nil))) (A.nil))))))
    (S.seq (S.set 12 (M.v (E.op2 addD (E.con (.int 1)) (E.call sem__law_pick (A.cons (E.var 0) (A.cons (E.op2 addD (E.op2 addD (E.var 1) (E.con (.int 5))) (E.var 7)) (A.cons (E.con (.int 3)) (A.nil))))))))
    (S.asgB [4, 5] (Bs.val (M.v (E.op2 addD (E.var 4) (E.var 12))) (Bs.val (M.v (E.op2 addD (E.var 5) (E.var 12))) (Bs.nil)))))))))
    (S.frz 6 (S.ret (M.v (E.bi tupleF (A.cons (E.var 6) (A.nil)))))))))
def sem__law_pace : List D → R D := fn 2 1 (S.seq (S.set 2 (M.v (E.call sem__law_pick (A.cons (E.var 0) (A.cons (E.var 1) (A.cons (E.con (.int 3)) (A.nil)))))))
    (S.ret (M.v (E.tup (A.cons (E.var 2) (A.cons (E.op2 addD (E.var 2) (E.call sem__law_pick (A.cons (E.var 0) (A.cons (E.op2 addD (E.var 1) (E.con (.int 1))) (A.cons (E.con (.int 3)) (A.nil)))))) (A.nil)))))))
def sem_check_pace : List D → R D := fn 1 1 (S.seq (S.ite (M.v (T.or (T.not (T.of (E.op1 (isiD "tuple") (E.var 0)))) (T.or (T.of (E.op2 neD (E.bi lenF (A.cons (E.var 0) (A.nil))) (E.con (.int 2)))) (T.not (T.of (E.bi allF (A.cons (E.ofL (N.comp (I.seq (E.var 0)) (GE.name 1) T.yes (E.call sem_is_integer (A.cons (E.var 1) (A.nil))) [1])) (A.nil))))))))
    (S.raise "InvalidPace")
    (S.skip))
    (S.ite (M.v (T.not (T.of (E.chain3 leD leD leD (E.con (.int 0)) (E.op2 ixD (E.var 0) (E.con (.int 0))) (E.op2 ixD (E.var 0) (E.con (.int 1))) (E.con (.int 9))))))
    (S.raise "InvalidPace")
    (S.skip)))
def sem_is_moment : List D → R D := fn 1 0 (S.ret (M.v (E.and (E.call sem_is_integer (A.cons (E.var 0) (A.nil))) ((E.chain leD leD (E.con (.int 0)) (E.var 0) (E.con (.int 999)))))))
def sem_is_round : List D → R D := fn 1 0 (S.seq (S.ite (M.v (T.or (T.not (T.of (E.op1 (isiD "tuple") (E.var 0)))) (T.or (T.of (E.op2 neD (E.bi lenF (A.cons (E.var 0) (A.nil))) (E.con (.int 2)))) (T.not (T.of (E.call sem_is_moment (A.cons (E.op2 ixD (E.var 0) (E.con (.int 0))) (A.nil))))))))
    (S.ret (M.v (E.con (.bool false))))
    (S.skip))
    (S.ret (M.v (E.and (E.call sem_are_reports (A.cons (E.op2 ixD (E.var 0) (E.con (.int 1))) (A.nil))) ((E.op2 leD (E.bi lenF (A.cons (E.op2 ixD (E.var 0) (E.con (.int 1))) (A.nil))) (E.con (.int 6))))))))
def sem_is_log : List D → R D := fn 1 3 (S.seq (S.ite (M.v (T.or (T.not (T.of (E.op1 (isiD "tuple") (E.var 0)))) (T.not (T.of (E.chain leD leD (E.con (.int 1)) (E.bi lenF (A.cons (E.var 0) (A.nil))) (E.con (.int 6)))))))
    (S.ret (M.v (E.con (.bool false))))
    (S.skip))
    (S.seq (S.ite (M.v (T.not (T.of (E.bi allF (A.cons (E.ofL (N.comp (I.seq (E.var 0)) (GE.name 1) T.yes (E.call sem_is_round (A.cons (E.var 1) (A.nil))) [1])) (A.nil))))))
    (S.ret (M.v (E.con (.bool false))))
    (S.skip))
    (S.seq (S.ite (M.v (T.not (T.of (E.bi allF (A.cons (E.ofL (N.comp (I.zip (A.cons (E.var 0) (A.cons (E.slice (E.var 0) (O.som (E.con (.int 1))) O.non) (A.nil)))) (GE.tup [2, 3]) T.yes (E.op2 ltD (E.op2 ixD (E.var 2) (E.con (.int 0))) (E.op2 ixD (E.var 3) (E.con (.int 0)))) [2, 3])) (A.nil))))))
    (S.ret (M.v (E.con (.bool false))))
    (S.skip))
    (S.ret (M.v (E.bi allF (A.cons (E.ofL (N.comp (I.seq (E.var 0)) (GE.name 1) T.yes (E.op2 eqD (E.call sem_sources (A.cons (E.op2 ixD (E.var 1) (E.con (.int 1))) (A.nil))) (E.call sem_sources (A.cons (E.op2 ixD (E.op2 ixD (E.var 0) (E.con (.int 0))) (E.con (.int 1))) (A.nil)))) [1])) (A.nil))))))))
def sem_check_log : List D → R D := fn 3 0 (S.seq (S.ite (M.v (T.not (T.of (E.call sem_is_log (A.cons (E.var 0) (A.nil))))))
    (S.raise "InvalidLog")
    (S.skip))
    (S.seq (S.ex (M.v (E.call sem_check_pace (A.cons (E.var 1) (A.nil)))))
    (S.ex (M.v (E.call sem_check_liars (A.cons (E.var 2) (A.nil)))))))
def sem_grown : List D → R D := fn 3 3 (S.seq (S.set 3 (M.ofF (M.v (N.comp (I.seq (E.var 0)) (GE.tup [4, 5]) T.yes (E.tup (A.cons (E.op2 addD (E.var 4) (E.var 1)) (A.cons (E.bi min2F (A.cons (E.op2 addD (E.var 5) (E.var 2)) (A.cons (E.con (.int 9999)) (A.nil)))) (A.nil)))) [4, 5]))))
    (S.ret (M.v (E.call sem_merged (A.cons (E.ofL (N.comp (I.seq (E.var 3)) (GE.tup [4, 5]) (T.of (E.op2 leD (E.var 4) (E.var 5))) (E.tup (A.cons (E.var 4) (A.cons (E.var 5) (A.nil)))) [4, 5])) (A.nil))))))
def sem_common : List D → R D := fn 2 5 (S.seq (S.setO 2 (M.v (N.disp (A.nil))))
    (S.seq (S.for_ (I.seq (E.var 0)) (G.tup [3, 4])
    (S.extend 2 (M.v (N.comp (I.seq (E.var 1)) (GE.tup [5, 6]) T.yes (E.tup (A.cons (E.bi max2F (A.cons (E.var 3) (A.cons (E.var 5) (A.nil)))) (A.cons (E.bi min2F (A.cons (E.var 4) (A.cons (E.var 6) (A.nil)))) (A.nil)))) [5, 6]))))
    (S.frz 2 (S.ret (M.v (E.call sem_merged (A.cons (E.ofL (N.comp (I.seq (E.var 2)) (GE.tup [3, 4]) (T.of (E.op2 leD (E.var 3) (E.var 4))) (E.tup (A.cons (E.var 3) (A.cons (E.var 4) (A.nil)))) [3, 4])) (A.nil))))))))
def sem_led_through : List D → R D := fn 3 5 (S.seq (S.asgB [3, 4] (Bs.val (M.v (E.op2 ixD (E.op2 ixD (E.var 0) (E.con (.int 0))) (E.con (.int 0)))) (Bs.val (M.v (E.call sem_possible_times (A.cons (E.op2 ixD (E.op2 ixD (E.var 0) (E.con (.int 0))) (E.con (.int 1))) (A.cons (E.var 2) (A.nil))))) (Bs.nil))))
    (S.seq (S.for_ (I.seq (E.slice (E.var 0) (O.som (E.con (.int 1))) O.non)) (G.tup [5, 6])
    (S.seq (S.set 7 (M.v (E.call sem_grown (A.cons (E.var 4) (A.cons (E.op2 mulD (E.op2 ixD (E.var 1) (E.con (.int 0))) (E.op2 subD (E.var 5) (E.var 3))) (A.cons (E.op2 mulD (E.op2 ixD (E.var 1) (E.con (.int 1))) (E.op2 subD (E.var 5) (E.var 3))) (A.nil)))))))
    (S.seq (S.set 4 (M.v (E.call sem_common (A.cons (E.var 7) (A.cons (E.call sem_possible_times (A.cons (E.var 6) (A.cons (E.var 2) (A.nil)))) (A.nil))))))
    (S.set 3 (M.v (E.var 5))))))
    (S.ret (M.v (E.var 4)))))
def sem_followed : List D → R D := fn 3 0 (S.seq (S.ex (M.v (E.call sem_check_log (A.cons (E.var 0) (A.cons (E.var 1) (A.cons (E.var 2) (A.nil)))))))
    (S.ret (M.v (E.call sem_led_through (A.cons (E.var 0) (A.cons (E.var 1) (A.cons (E.var 2) (A.nil))))))))
def sem__law_dp : List D → R D := fn 4 12 (S.seq (S.asgB [4, 5] (Bs.val (M.v (E.op2 ixD (E.op2 ixD (E.var 0) (E.con (.int 0))) (E.con (.int 0)))) (Bs.val (M.v (E.op2 mulD (E.lst (A.cons (E.con (.bool true)) (A.nil))) (E.con (.int 101)))) (Bs.nil))))
    (S.seq (S.for_ (I.seq (E.var 0)) (G.tup [6, 7])
    (S.seq (S.set 8 (M.v (E.ofL (N.comp (I.seq (E.var 7)) (GE.name 12) (T.of (E.op2 notInD (E.op2 ixD (E.var 12) (E.con (.int 0))) (E.var 2))) (E.var 12) [12]))))
    (S.seq (S.set 9 (M.v (E.ofL (N.comp (I.range1 (A.cons (E.con (.int 101)) (A.nil))) (GE.name 13) (T.of (E.op2 ixD (E.var 5) (E.var 13))) (E.var 13) [13]))))
    (S.seq (S.ite (M.v (T.of (E.op2 neD (E.var 6) (E.op2 ixD (E.op2 ixD (E.var 0) (E.con (.int 0))) (E.con (.int 0))))))
    (S.seq (S.set 10 (M.v (E.op2 subD (E.var 6) (E.var 4))))
    (S.seq (S.set 11 (M.v (E.ofL (N.comp (I.seq (E.var 9)) (GE.name 13) T.yes (E.tup (A.cons (E.op2 addD (E.var 13) (E.op2 mulD (E.op2 ixD (E.var 1) (E.con (.int 0))) (E.var 10))) (A.cons (E.op2 addD (E.var 13) (E.op2 mulD (E.op2 ixD (E.var 1) (E.con (.int 1))) (E.var 10))) (A.nil)))) [13]))))
    (S.set 9 (M.v (E.ofL (N.comp (I.range1 (A.cons (E.con (.int 101)) (A.nil))) (GE.name 13) (T.of (E.bi anyF (A.cons (E.ofL (N.comp (I.seq (E.var 11)) (GE.tup [14, 15]) T.yes (E.and (E.op2 leD (E.var 14) (E.var 13)) ((E.op2 leD (E.var 13) (E.var 15)))) [14, 15])) (A.nil)))) (E.var 13) [13]))))))
    (S.skip))
    (S.seq (S.set 4 (M.v (E.var 6)))
    (S.set 5 (M.v (E.ofL (N.comp (I.range1 (A.cons (E.con (.int 101)) (A.nil))) (GE.name 13) T.yes (E.and (E.op2 inD (E.var 13) (E.var 9)) ((E.op2 geD (E.bi lenF (A.cons (E.call sem__law_right (A.cons (E.var 8) (A.cons (E.var 13) (A.nil)))) (A.nil))) (E.op2 subD (E.bi lenF (A.cons (E.var 8) (A.nil))) (E.var 3))))) [13])))))))))
    (S.ret (M.v (E.var 5)))))
def sem__law_neat : List D → R D := fn 1 4 (S.seq (S.ite (M.v (T.not (T.of (E.bi allF (A.cons (E.ofL (N.comp (I.seq (E.var 0)) (GE.tup [3, 4]) T.yes (E.and (E.op2 leD (E.con (.int 0)) (E.var 3)) (E.and (E.op2 leD (E.var 3) (E.var 4)) ((E.op2 leD (E.var 4) (E.con (.int 9999)))))) [3, 4])) (A.nil))))))
    (S.ret (M.v (E.con (.bool false))))
    (S.skip))
    (S.ret (M.v (E.bi allF (A.cons (E.ofL (N.comp (I.zip (A.cons (E.var 0) (A.cons (E.slice (E.var 0) (O.som (E.con (.int 1))) O.non) (A.nil)))) (GE.tup [1, 2]) T.yes (E.op2 ltD (E.op2 addD (E.op2 ixD (E.var 1) (E.con (.int 1))) (E.con (.int 1))) (E.op2 ixD (E.var 2) (E.con (.int 0)))) [1, 2])) (A.nil))))))
def sem_law_k28 : List D → R D := fn 1 6 (S.seq (S.asgB [1, 2] (Bs.val (M.v (E.call sem__law_log (A.cons (E.var 0) (A.cons (E.con (.int 0)) (A.nil))))) (Bs.val (M.v (E.call sem__law_pace (A.cons (E.var 0) (A.cons (E.con (.int 120)) (A.nil))))) (Bs.nil))))
    (S.seq (S.for_ (I.seq (E.tup (A.cons (E.con (.int 0)) (A.cons (E.con (.int 1)) (A.cons (E.con (.int 2)) (A.cons (E.call sem__law_pick (A.cons (E.var 0) (A.cons (E.con (.int 123)) (A.cons (E.con (.int 6)) (A.nil))))) (A.nil))))))) (G.name 3)
    (S.seq (S.set 4 (M.v (E.call sem_followed (A.cons (E.var 1) (A.cons (E.var 2) (A.cons (E.var 3) (A.nil)))))))
    (S.seq (S.ite (M.v (T.not (T.of (E.call sem__law_neat (A.cons (E.var 4) (A.nil))))))
    (S.ret (M.v (E.con (.bool false))))
    (S.skip))
    (S.seq (S.set 5 (M.v (E.call sem__law_dp (A.cons (E.var 1) (A.cons (E.var 2) (A.cons (E.tup (A.nil)) (A.cons (E.var 3) (A.nil))))))))
    (S.ite (M.v (T.of (E.op2 neD (E.ofL (N.comp (I.range1 (A.cons (E.con (.int 101)) (A.nil))) (GE.name 6) T.yes (E.call sem__law_inside (A.cons (E.var 4) (A.cons (E.var 6) (A.nil)))) [6])) (E.var 5))))
    (S.ret (M.v (E.con (.bool false))))
    (S.skip))))))
    (S.ret (M.v (E.op2 eqD (E.call sem_followed (A.cons (E.slice (E.var 1) O.non (O.som (E.con (.int 1)))) (A.cons (E.var 2) (A.cons (E.con (.int 1)) (A.nil))))) (E.call sem_possible (A.cons (E.op2 ixD (E.op2 ixD (E.var 1) (E.con (.int 0))) (E.con (.int 1))) (A.cons (E.con (.int 1)) (A.nil)))))))))
end PV

namespace PV
open PySem PySem.Spec L2
def sem_small_sets : List D → R D := fn 2 5 (S.seq (S.set 2 (M.v (E.lst (A.cons (E.tup (A.nil)) (A.nil)))))
    (S.seq (S.for_ (I.range1 (A.cons (E.var 1) (A.nil))) (G.name 3)
    (S.seq (S.setO 4 (M.v (N.disp (A.nil))))
    (S.seq (S.for_ (I.seq (E.var 2)) (G.name 5)
    (S.ite (M.v (T.of (E.op2 eqD (E.bi lenF (A.cons (E.var 5) (A.nil))) (E.var 3))))
    (S.extend 4 (M.v (N.comp (I.seq (E.var 0)) (GE.name 6) (T.or (T.of (E.op2 eqD (E.var 5) (E.tup (A.nil)))) (T.of (E.op2 gtD (E.var 6) (E.op2 ixD (E.var 5) (E.op1 negD (E.con (.int 1))))))) (E.op2 addD (E.var 5) (E.tup (A.cons (E.var 6) (A.nil)))) [6])))
    (S.skip)))
    (S.frz 4 (S.set 2 (M.v (E.op2 addD (E.var 2) (E.var 4))))))))
    (S.ret (M.v (E.var 2)))))
def sem_led_without : List D → R D := fn 3 4 (S.seq (S.set 3 (M.ofF (M.v (N.comp (I.seq (E.var 0)) (GE.tup [4, 5]) T.yes (E.tup (A.cons (E.var 4) (A.cons (E.bi tupleF (A.cons (E.ofL (N.comp (I.seq (E.var 5)) (GE.name 6) (T.of (E.op2 notInD (E.op2 ixD (E.var 6) (E.con (.int 0))) (E.var 2))) (E.var 6) [6])) (A.nil))) (A.nil)))) [4, 5]))))
    (S.ret (M.v (E.call sem_led_through (A.cons (E.var 3) (A.cons (E.var 1) (A.cons (E.con (.int 0)) (A.nil))))))))
def sem_followed_fixed : List D → R D := fn 3 2 (S.seq (S.ex (M.v (E.call sem_check_log (A.cons (E.var 0) (A.cons (E.var 1) (A.cons (E.var 2) (A.nil)))))))
    (S.seq (S.setO 3 (M.v (N.disp (A.nil))))
    (S.seq (S.for_ (I.seq (E.call sem_small_sets (A.cons (E.call sem_sources (A.cons (E.op2 ixD (E.op2 ixD (E.var 0) (E.con (.int 0))) (E.con (.int 1))) (A.nil))) (A.cons (E.var 2) (A.nil))))) (G.name 4)
    (S.extend 3 (M.vl (E.call sem_led_without (A.cons (E.var 0) (A.cons (E.var 1) (A.cons (E.var 4) (A.nil))))))))
    (S.frz 3 (S.ret (M.v (E.call sem_merged (A.cons (E.var 3) (A.nil)))))))))
def sem_suspects : List D → R D := fn 3 5 (S.seq (S.ex (M.v (E.call sem_check_log (A.cons (E.var 0) (A.cons (E.var 1) (A.cons (E.var 2) (A.nil)))))))
    (S.seq (S.setO 3 (M.v (N.disp (A.nil))))
    (S.seq (S.for_ (I.seq (E.call sem_small_sets (A.cons (E.call sem_sources (A.cons (E.op2 ixD (E.op2 ixD (E.var 0) (E.con (.int 0))) (E.con (.int 1))) (A.nil))) (A.cons (E.var 2) (A.nil))))) (G.name 4)
    (S.seq (S.set 5 (M.ofF (M.kf (N.comp (I.seq (E.var 3)) (GE.name 6) (T.of (E.bi allF (A.cons (E.ofL (N.comp (I.seq (E.var 6)) (GE.name 7) T.yes (E.op2 inD (E.var 7) (E.var 4)) [7])) (A.nil)))) (E.var 6) [6]))))
    (S.ite (M.v (T.and (T.of (E.op2 eqD (E.var 5) (E.lst (A.nil)))) (T.of (E.op2 neD (E.call sem_led_without (A.cons (E.var 0) (A.cons (E.var 1) (A.cons (E.var 4) (A.nil))))) (E.lst (A.nil))))))
    (S.append 3 (M.v (E.var 4)))
    (S.skip))))
    (S.frz 3 (S.ret (M.v (E.bi sortF (A.cons (E.var 3) (A.nil)))))))))
def sem__law_chosen : List D → R D := fn 2 3 (S.seq (S.set 2 (M.v (E.lst (A.cons (E.tup (A.nil)) (A.nil)))))
    (S.seq (S.for_ (I.seq (E.var 0)) (G.name 3)
    (S.set 2 (M.v (E.op2 addD (E.var 2) (E.ofL (N.comp (I.seq (E.var 2)) (GE.name 4) (T.of (E.op2 ltD (E.bi lenF (A.cons (E.var 4) (A.nil))) (E.var 1))) (E.op2 addD (E.var 4) (E.tup (A.cons (E.var 3) (A.nil)))) [4]))))))
    (S.ret (M.v (E.var 2)))))
def sem__law_part : List D → R D := fn 2 1 (S.ret (M.v (E.and (E.op2 neD (E.var 0) (E.var 1)) ((E.bi allF (A.cons (E.ofL (N.comp (I.seq (E.var 0)) (GE.name 2) T.yes (E.op2 inD (E.var 2) (E.var 1)) [2])) (A.nil)))))))
def sem_law_k33 : List D → R D := fn 1 19 (S.seq (S.asgB [1, 2] (Bs.val (M.v (E.call sem__law_log (A.cons (E.var 0) (A.cons (E.con (.int 0)) (A.nil))))) (Bs.val (M.v (E.call sem__law_pace (A.cons (E.var 0) (A.cons (E.con (.int 120)) (A.nil))))) (Bs.nil))))
    (S.seq (S.set 3 (M.ofF (M.v (N.comp (I.seq (E.op2 ixD (E.op2 ixD (E.var 1) (E.con (.int 0))) (E.con (.int 1)))) (GE.name 11) T.yes (E.op2 ixD (E.var 11) (E.con (.int 0))) [11]))))
    (S.seq (S.for_ (I.seq (E.tup (A.cons (E.con (.int 0)) (A.cons (E.con (.int 1)) (A.cons (E.con (.int 2)) (A.cons (E.call sem__law_pick (A.cons (E.var 0) (A.cons (E.con (.int 123)) (A.cons (E.con (.int 6)) (A.nil))))) (A.nil))))))) (G.name 4)
    (S.seq (S.set 5 (M.v (E.ofL (N.comp (I.seq (E.call sem__law_chosen (A.cons (E.var 3) (A.cons (E.var 4) (A.nil))))) (GE.name 12) T.yes (E.tup (A.cons (E.var 12) (A.cons (E.call sem__law_dp (A.cons (E.var 1) (A.cons (E.var 2) (A.cons (E.var 12) (A.cons (E.con (.int 0)) (A.nil)))))) (A.nil)))) [12]))))
    (S.seq (S.asgB [6, 7] (Bs.val (M.v (E.call sem_followed_fixed (A.cons (E.var 1) (A.cons (E.var 2) (A.cons (E.var 4) (A.nil)))))) (Bs.val (M.v (E.call sem_followed (A.cons (E.var 1) (A.cons (E.var 2) (A.cons (E.var 4) (A.nil)))))) (Bs.nil))))
    (S.seq (S.set 8 (M.ofF (M.v (N.comp (I.range1 (A.cons (E.con (.int 101)) (A.nil))) (GE.name 13) T.yes (E.bi anyF (A.cons (E.ofL (N.comp (I.seq (E.var 5)) (GE.tup [12, 14]) T.yes (E.op2 ixD (E.var 14) (E.var 13)) [12, 14])) (A.nil))) [13]))))
    (S.seq (S.ite (M.v (T.or (T.not (T.of (E.call sem__law_neat (A.cons (E.var 6) (A.nil))))) (T.of (E.op2 neD (E.ofL (N.comp (I.range1 (A.cons (E.con (.int 101)) (A.nil))) (GE.name 13) T.yes (E.call sem__law_inside (A.cons (E.var 6) (A.cons (E.var 13) (A.nil)))) [13])) (E.var 8)))))
    (S.ret (M.v (E.con (.bool false))))
    (S.skip))
    (S.seq (S.ite (M.v (T.of (E.bi anyF (A.cons (E.ofL (N.comp (I.seq (E.var 6)) (GE.tup [15, 16]) T.yes (E.not (E.bi anyF (A.cons (E.ofL (N.comp (I.seq (E.var 7)) (GE.tup [17, 18]) T.yes (E.and (E.op2 leD (E.var 17) (E.var 15)) ((E.op2 leD (E.var 16) (E.var 18)))) [17, 18])) (A.nil)))) [15, 16])) (A.nil)))))
    (S.ret (M.v (E.con (.bool false))))
    (S.skip))
    (S.seq (S.set 9 (M.v (E.ofL (N.comp (I.seq (E.var 5)) (GE.tup [12, 14]) (T.of (E.op2 inD (E.con (.bool true)) (E.var 14))) (E.var 12) [12, 14]))))
    (S.seq (S.set 10 (M.ofF (M.v (N.comp (I.seq (E.var 9)) (GE.name 15) (T.not (T.of (E.bi anyF (A.cons (E.ofL (N.comp (I.seq (E.var 9)) (GE.name 19) T.yes (E.call sem__law_part (A.cons (E.var 19) (A.cons (E.var 15) (A.nil)))) [19])) (A.nil))))) (E.var 15) [15]))))
    (S.ite (M.v (T.of (E.op2 neD (E.call sem_suspects (A.cons (E.var 1) (A.cons (E.var 2) (A.cons (E.var 4) (A.nil))))) (E.bi sortF (A.cons (E.var 10) (A.nil))))))
    (S.ret (M.v (E.con (.bool false))))
    (S.skip))))))))))
    (S.ret (M.v (E.con (.bool true)))))))
end PV

namespace PV
open PySem PySem.Spec L2
def sem__law_judged_2 : List D → R D := fn 1 8 (S.seq (S.set 1 (M.v (E.call sem__law_log (A.cons (E.var 0) (A.cons (E.con (.int 200)) (A.nil))))))
    (S.seq (S.asg (G.tup [2, 3]) (M.v (E.op2 ixD (E.var 1) (E.op1 negD (E.con (.int 1))))))
    (S.seq (S.ite (M.v (T.or (T.of (E.op2 isNotD (E.call sem_is_log (A.cons (E.var 1) (A.nil))) (E.con (.bool true)))) (T.of (E.op2 isNotD (E.call sem_is_log (A.cons (E.slice (E.var 1) O.non (O.som (E.con (.int 1)))) (A.nil))) (E.con (.bool true))))))
    (S.ret (M.v (E.con (.bool false))))
    (S.skip))
    (S.seq (S.setO 4 (M.v (N.ite (T.of (E.op2 ltD (E.bi lenF (A.cons (E.var 1) (A.nil))) (E.con (.int 6)))) (N.disp (A.cons (E.op2 addD (E.var 1) (E.tup (A.cons (E.tup (A.cons (E.op2 addD (E.var 2) (E.con (.int 1))) (A.cons (E.var 3) (A.nil)))) (A.nil)))) (A.nil))) (N.disp (A.nil)))))
    (S.seq (S.extend 4 (M.v (N.disp (A.cons (E.tup (A.cons (E.tup (A.cons (E.con (.int 0)) (A.cons (E.tup (A.nil)) (A.nil)))) (A.nil))) (A.cons (E.tup (A.cons (E.tup (A.cons (E.con (.int 999)) (A.cons (E.bi tupleF (A.cons (E.ofL (N.comp (I.seq (E.con (.str "abcdef"))) (GE.name 8) T.yes (E.tup (A.cons (E.var 8) (A.cons (E.con (.int 0)) (A.cons (E.con (.int 9999)) (A.nil))))) [8])) (A.nil))) (A.nil)))) (A.nil))) (A.nil))))))
    (S.seq (S.setO 5 (M.v (N.disp (A.cons (E.bi listF (A.cons (E.var 1) (A.nil))) (A.cons (E.tup (A.nil)) (A.cons (E.op2 addD (E.var 1) (E.tup (A.cons (E.tup (A.cons (E.var 2) (A.cons (E.var 3) (A.nil)))) (A.nil)))) (A.cons (E.op2 addD (E.var 1) (E.tup (A.cons (E.tup (A.cons (E.op2 subD (E.var 2) (E.con (.int 1))) (A.cons (E.var 3) (A.nil)))) (A.nil)))) (A.cons (E.op2 addD (E.var 1) (E.tup (A.cons (E.tup (A.cons (E.con (.int 1000)) (A.cons (E.var 3) (A.nil)))) (A.nil)))) (A.nil)))))))))
    (S.seq (S.extend 5 (M.v (N.disp (A.cons (E.op2 addD (E.var 1) (E.tup (A.cons (E.tup (A.cons (E.op2 addD (E.var 2) (E.con (.int 1))) (A.cons (E.op2 addD (E.var 3) (E.tup (A.cons (E.tup (A.cons (E.con (.str "zz")) (A.cons (E.con (.int 1)) (A.cons (E.con (.int 2)) (A.nil))))) (A.nil)))) (A.nil)))) (A.nil)))) (A.cons (E.op2 addD (E.var 1) (E.tup (A.cons (E.tup (A.cons (E.op2 addD (E.var 2) (E.con (.int 1))) (A.cons (E.bi listF (A.cons (E.var 3) (A.nil))) (A.nil)))) (A.nil)))) (A.nil))))))
    (S.seq (S.extend 5 (M.v (N.disp (A.cons (E.op2 addD (E.var 1) (E.tup (A.cons (E.tup (A.cons (E.op2 addD (E.var 2) (E.con (.int 1))) (A.cons (E.var 3) (A.cons (E.con (.int 1)) (A.nil))))) (A.nil)))) (A.cons (E.op2 addD (E.var 1) (E.tup (A.cons (E.con .none) (A.nil)))) (A.cons (E.tup (A.cons (E.tup (A.cons (E.con (.bool true)) (A.cons (E.var 3) (A.nil)))) (A.nil))) (A.nil)))))))
    (S.seq (S.extend 5 (M.v (N.disp (A.cons (E.tup (A.cons (E.var 2) (A.cons (E.var 3) (A.nil)))) (A.cons (E.op2 addD (E.var 3) (E.tup (A.cons (E.con (.int 1)) (A.nil)))) (A.nil))))))
    (S.seq (S.append 5 (M.v (E.tup (A.cons (E.tup (A.cons (E.con (.int 0)) (A.cons (E.bi tupleF (A.cons (E.ofL (N.comp (I.seq (E.con (.str "abcdefg"))) (GE.name 8) T.yes (E.tup (A.cons (E.var 8) (A.cons (E.con (.int 0)) (A.cons (E.con (.int 9)) (A.nil))))) [8])) (A.nil))) (A.nil)))) (A.nil)))))
    (S.seq (S.append 5 (M.v (E.bi tupleF (A.cons (E.ofL (N.comp (I.range1 (A.cons (E.con (.int 7)) (A.nil))) (GE.name 6) T.yes (E.tup (A.cons (E.op2 addD (E.con (.int 1)) (E.var 6)) (A.cons (E.var 3) (A.nil)))) [6])) (A.nil)))))
    (S.frz 4 (S.frz 5 (S.ret (M.v (E.and (E.bi allF (A.cons (E.ofL (N.comp (I.seq (E.var 4)) (GE.name 7) T.yes (E.op2 isD (E.call sem_is_log (A.cons (E.var 7) (A.nil))) (E.con (.bool true))) [7])) (A.nil))) ((E.not (E.bi anyF (A.cons (E.ofL (N.comp (I.seq (E.var 5)) (GE.name 7) T.yes (E.call sem_is_log (A.cons (E.var 7) (A.nil))) [7])) (A.nil)))))))))))))))))))))
def sem_is_range : List D → R D := fn 1 0 (S.seq (S.ite (M.v (T.or (T.not (T.of (E.op1 (isiD "tuple") (E.var 0)))) (T.or (T.of (E.op2 neD (E.bi lenF (A.cons (E.var 0) (A.nil))) (E.con (.int 2)))) (T.or (T.not (T.of (E.call sem_is_time (A.cons (E.op2 ixD (E.var 0) (E.con (.int 0))) (A.nil))))) (T.not (T.of (E.call sem_is_time (A.cons (E.op2 ixD (E.var 0) (E.con (.int 1))) (A.nil)))))))))
    (S.ret (M.v (E.con (.bool false))))
    (S.skip))
    (S.ret (M.v (E.op2 leD (E.op2 ixD (E.var 0) (E.con (.int 0))) (E.op2 ixD (E.var 0) (E.con (.int 1)))))))
def sem_are_ranges : List D → R D := fn 1 3 (S.seq (S.ite (M.v (T.or (T.not (T.of (E.op1 (isiD "list") (E.var 0)))) (T.not (T.of (E.bi allF (A.cons (E.ofL (N.comp (I.seq (E.var 0)) (GE.name 3) T.yes (E.call sem_is_range (A.cons (E.var 3) (A.nil))) [3])) (A.nil)))))))
    (S.ret (M.v (E.con (.bool false))))
    (S.skip))
    (S.ret (M.v (E.bi allF (A.cons (E.ofL (N.comp (I.zip (A.cons (E.var 0) (A.cons (E.slice (E.var 0) (O.som (E.con (.int 1))) O.non) (A.nil)))) (GE.tup [1, 2]) T.yes (E.op2 ltD (E.op2 addD (E.op2 ixD (E.var 1) (E.con (.int 1))) (E.con (.int 1))) (E.op2 ixD (E.var 2) (E.con (.int 0)))) [1, 2])) (A.nil))))))
def sem_carried : List D → R D := fn 3 0 (S.seq (S.ite (M.v (T.not (T.of (E.call sem_are_ranges (A.cons (E.var 0) (A.nil))))))
    (S.raise "InvalidRanges")
    (S.skip))
    (S.seq (S.ite (M.v (T.not (T.of (E.call sem_is_moment (A.cons (E.var 1) (A.nil))))))
    (S.raise "InvalidMoment")
    (S.skip))
    (S.seq (S.ex (M.v (E.call sem_check_pace (A.cons (E.var 2) (A.nil)))))
    (S.ret (M.v (E.call sem_grown (A.cons (E.var 0) (A.cons (E.op2 mulD (E.op2 ixD (E.var 2) (E.con (.int 0))) (E.var 1)) (A.cons (E.op2 mulD (E.op2 ixD (E.var 2) (E.con (.int 1))) (E.var 1)) (A.nil))))))))))
def sem_law_k45 : List D → R D := fn 1 15 (S.seq (S.ite (M.v (T.not (T.of (E.call sem__law_judged_2 (A.cons (E.var 0) (A.nil))))))
    (S.ret (M.v (E.con (.bool false))))
    (S.skip))
    (S.seq (S.for_ (I.range1 (A.cons (E.con (.int 4)) (A.nil))) (G.name 1)
    (S.seq (S.asgB [2, 3] (Bs.val (M.v (E.call sem__law_pick (A.cons (E.var 0) (A.cons (E.op2 mulD (E.con (.int 10)) (E.var 1)) (A.cons (E.con (.int 6)) (A.nil)))))) (Bs.own (M.v (N.disp (A.nil))) (Bs.nil))))
    (S.seq (S.set 2 (M.v (E.op2 addD (E.var 2) (E.ite (T.of (E.op2 eqD (E.call sem__law_pick (A.cons (E.var 0) (A.cons (E.op2 addD (E.op2 mulD (E.con (.int 10)) (E.var 1)) (E.con (.int 1))) (A.cons (E.con (.int 3)) (A.nil))))) (E.con (.int 0)))) (E.con (.int 9940)) (E.con (.int 0))))))
    (S.seq (S.for_ (I.range1 (A.cons (E.call sem__law_pick (A.cons (E.var 0) (A.cons (E.op2 addD (E.op2 mulD (E.con (.int 10)) (E.var 1)) (E.con (.int 2))) (A.cons (E.con (.int 4)) (A.nil))))) (A.nil))) (G.name 4)
    (S.seq (S.set 5 (M.v (E.op2 addD (E.var 2) (E.call sem__law_pick (A.cons (E.var 0) (A.cons (E.op2 addD (E.op2 addD (E.con (.int 50)) (E.op2 mulD (E.con (.int 10)) (E.var 1))) (E.var 4)) (A.cons (E.con (.int 5)) (A.nil))))))))
    (S.seq (S.append 3 (M.v (E.tup (A.cons (E.var 2) (A.cons (E.var 5) (A.nil))))))
    (S.set 2 (M.v (E.op2 addD (E.op2 addD (E.var 5) (E.con (.int 2))) (E.call sem__law_pick (A.cons (E.var 0) (A.cons (E.op2 addD (E.op2 addD (E.con (.int 90)) (E.op2 mulD (E.con (.int 10)) (E.var 1))) (E.var 4)) (A.cons (E.con (.int 6)) (A.nil)))))))))))
    (S.seq (S.asgB [6, 7] (Bs.val (M.v (E.call sem__law_pick (A.cons (E.var 0) (A.cons (E.op2 addD (E.op2 mulD (E.con (.int 10)) (E.var 1)) (E.con (.int 3))) (A.cons (E.con (.int 5)) (A.nil)))))) (Bs.val (M.v (E.call sem__law_pace (A.cons (E.var 0) (A.cons (E.op2 addD (E.op2 mulD (E.con (.int 10)) (E.var 1)) (E.con (.int 4))) (A.nil))))) (Bs.nil))))
    (S.seq (S.frz 3 (S.set 8 (M.v (E.call sem_carried (A.cons (E.var 3) (A.cons (E.var 6) (A.cons (E.var 7) (A.nil))))))))
    (S.seq (S.asgB [9, 10] (Bs.val (M.v (E.op2 mulD (E.op2 ixD (E.var 7) (E.con (.int 0))) (E.var 6))) (Bs.val (M.v (E.op2 mulD (E.op2 ixD (E.var 7) (E.con (.int 1))) (E.var 6))) (Bs.nil))))
    (S.seq (S.ite (M.v (T.not (T.of (E.call sem__law_neat (A.cons (E.var 8) (A.nil))))))
    (S.ret (M.v (E.con (.bool false))))
    (S.skip))
    (S.seq (S.for_ (I.seq (E.op2 addD (E.rg1 (E.con (.int 60))) (E.rg2 (E.con (.int 9930)) (E.con (.int 10000))))) (G.name 11)
    (S.seq (S.set 12 (M.v (E.bi anyF (A.cons (E.ofL (N.comp (I.seq (E.var 3)) (GE.tup [15, 5]) T.yes (E.and (E.op2 leD (E.op2 addD (E.var 15) (E.var 9)) (E.var 11)) ((E.op2 leD (E.var 11) (E.op2 addD (E.var 5) (E.var 10))))) [15, 5])) (A.nil)))))
    (S.ite (M.v (T.of (E.op2 neD (E.call sem__law_inside (A.cons (E.var 8) (A.cons (E.var 11) (A.nil)))) (E.var 12))))
    (S.ret (M.v (E.con (.bool false))))
    (S.skip))))
    (S.ite (M.v (T.of (E.bi anyF (A.cons (E.ofL (N.comp (I.seq (E.var 8)) (GE.tup [13, 14]) T.yes (E.and (E.op2 gtD (E.var 14) (E.con (.int 60))) ((E.op2 ltD (E.var 13) (E.con (.int 9930))))) [13, 14])) (A.nil)))))
    (S.ret (M.v (E.con (.bool false))))
    (S.skip)))))))))))
    (S.ret (M.v (E.and (E.op2 eqD (E.call sem_carried (A.cons (E.lst (A.cons (E.tup (A.cons (E.con (.int 0)) (A.cons (E.con (.int 9999)) (A.nil)))) (A.nil))) (A.cons (E.con (.int 0)) (A.cons (E.tup (A.cons (E.con (.int 0)) (A.cons (E.con (.int 9)) (A.nil)))) (A.nil))))) (E.lst (A.cons (E.tup (A.cons (E.con (.int 0)) (A.cons (E.con (.int 9999)) (A.nil)))) (A.nil)))) ((E.op2 eqD (E.call sem_carried (A.cons (E.lst (A.cons (E.tup (A.cons (E.con (.int 5)) (A.cons (E.con (.int 9999)) (A.nil)))) (A.nil))) (A.cons (E.con (.int 999)) (A.cons (E.tup (A.cons (E.con (.int 9)) (A.cons (E.con (.int 9)) (A.nil)))) (A.nil))))) (E.lst (A.cons (E.tup (A.cons (E.con (.int 8996)) (A.cons (E.con (.int 9999)) (A.nil)))) (A.nil))))))))))
end PV

namespace PV
open PySem PySem.Spec L2
def sem_check_possible : List D → R D := fn 2 0 (S.seq (S.ex (M.v (E.call sem_check_reports (A.cons (E.var 0) (A.nil)))))
    (S.seq (S.ex (M.v (E.call sem_check_liars (A.cons (E.var 1) (A.nil)))))
    (S.ite (M.v (T.of (E.op2 eqD (E.call sem_possible_times (A.cons (E.var 0) (A.cons (E.var 1) (A.nil)))) (E.lst (A.nil)))))
    (S.raise "Contradiction")
    (S.skip))))
def sem_right_sets : List D → R D := fn 2 4 (S.seq (S.set 2 (M.ofF (M.v (N.comp (I.seq (E.call sem_pieces (A.cons (E.var 0) (A.nil)))) (GE.tup [3, 4]) T.yes (E.call sem_right_names (A.cons (E.var 0) (A.cons (E.var 3) (A.nil)))) [3, 4]))))
    (S.ret (M.v (E.ofL (N.comp (I.seq (E.var 2)) (GE.name 5) (T.of (E.op2 geD (E.bi lenF (A.cons (E.var 5) (A.nil))) (E.op2 subD (E.bi lenF (A.cons (E.var 0) (A.nil))) (E.var 1)))) (E.var 5) [5])))))
def sem_surely_lying : List D → R D := fn 2 3 (S.seq (S.ex (M.v (E.call sem_check_possible (A.cons (E.var 0) (A.cons (E.var 1) (A.nil))))))
    (S.seq (S.set 2 (M.v (E.call sem_right_sets (A.cons (E.var 0) (A.cons (E.var 1) (A.nil))))))
    (S.ret (M.v (E.ofL (N.comp (I.seq (E.call sem_sources (A.cons (E.var 0) (A.nil)))) (GE.name 3) (T.not (T.of (E.bi anyF (A.cons (E.ofL (N.comp (I.seq (E.var 2)) (GE.name 4) T.yes (E.op2 inD (E.var 3) (E.var 4)) [4])) (A.nil))))) (E.var 3) [3]))))))
def sem_surely_right : List D → R D := fn 2 3 (S.seq (S.ex (M.v (E.call sem_check_possible (A.cons (E.var 0) (A.cons (E.var 1) (A.nil))))))
    (S.seq (S.set 2 (M.v (E.call sem_right_sets (A.cons (E.var 0) (A.cons (E.var 1) (A.nil))))))
    (S.ret (M.v (E.ofL (N.comp (I.seq (E.call sem_sources (A.cons (E.var 0) (A.nil)))) (GE.name 3) (T.of (E.bi allF (A.cons (E.ofL (N.comp (I.seq (E.var 2)) (GE.name 4) T.yes (E.op2 inD (E.var 3) (E.var 4)) [4])) (A.nil)))) (E.var 3) [3]))))))
def sem_law_k49 : List D → R D := fn 1 25 (S.seq (S.set 1 (M.v (E.call sem__law_pace (A.cons (E.var 0) (A.cons (E.con (.int 0)) (A.nil))))))
    (S.seq (S.asgB [2, 3] (Bs.val (M.v (E.op2 addD (E.con (.int 2)) (E.call sem__law_pick (A.cons (E.var 0) (A.cons (E.con (.int 2)) (A.cons (E.con (.int 4)) (A.nil))))))) (Bs.val (M.v (E.op2 addD (E.con (.int 1)) (E.call sem__law_pick (A.cons (E.var 0) (A.cons (E.con (.int 3)) (A.cons (E.con (.int 4)) (A.nil))))))) (Bs.nil))))
    (S.seq (S.set 4 (M.v (E.bi tupleF (A.cons (E.ofL (N.comp (I.seq (E.slice (E.con (.str "abcdef")) O.non (O.som (E.var 2)))) (GE.name 24) (T.of (E.op2 eqD (E.call sem__law_pick (A.cons (E.var 0) (A.cons (E.op2 addD (E.con (.int 4)) (E.sindex (E.con (.str "abcdef")) (E.var 24))) (A.cons (E.con (.int 4)) (A.nil))))) (E.con (.int 0)))) (E.var 24) [24])) (A.nil)))))
    (S.seq (S.asgB [5, 6, 7, 8] (Bs.val (M.v (E.con (.int 0))) (Bs.val (M.v (E.op2 addD (E.con (.int 20)) (E.call sem__law_pick (A.cons (E.var 0) (A.cons (E.con (.int 10)) (A.cons (E.con (.int 20)) (A.nil))))))) (Bs.own (M.v (N.disp (A.nil))) (Bs.own (M.v (N.disp (A.nil))) (Bs.nil))))))
    (S.seq (S.for_ (I.range1 (A.cons (E.var 3) (A.nil))) (G.name 9)
    (S.seq (S.setO 10 (M.v (N.disp (A.nil))))
    (S.seq (S.for_ (I.range1 (A.cons (E.var 2) (A.nil))) (G.name 11)
    (S.seq (S.set 12 (M.v (E.op2 addD (E.op2 addD (E.con (.int 20)) (E.op2 mulD (E.con (.int 30)) (E.var 9))) (E.op2 mulD (E.con (.int 4)) (E.var 11)))))
    (S.seq (S.set 13 (M.v (E.bi max2F (A.cons (E.op2 subD (E.var 6) (E.call sem__law_pick (A.cons (E.var 0) (A.cons (E.var 12) (A.cons (E.con (.int 4)) (A.nil)))))) (A.cons (E.con (.int 0)) (A.nil))))))
    (S.seq (S.set 14 (M.v (E.op2 addD (E.var 6) (E.call sem__law_pick (A.cons (E.var 0) (A.cons (E.op2 addD (E.var 12) (E.con (.int 1))) (A.cons (E.con (.int 4)) (A.nil))))))))
    (S.seq (S.ite (M.v (T.and (T.of (E.op2 inD (E.op2 ixD (E.con (.str "abcdef")) (E.var 11)) (E.var 4))) (T.of (E.op2 gtD (E.call sem__law_pick (A.cons (E.var 0) (A.cons (E.op2 addD (E.var 12) (E.con (.int 2))) (A.cons (E.con (.int 3)) (A.nil))))) (E.con (.int 0))))))
    (S.seq (S.set 13 (M.v (E.bi max2F (A.cons (E.op2 addD (E.op2 subD (E.var 6) (E.con (.int 12))) (E.call sem__law_pick (A.cons (E.var 0) (A.cons (E.op2 addD (E.var 12) (E.con (.int 3))) (A.cons (E.con (.int 24)) (A.nil)))))) (A.cons (E.con (.int 0)) (A.nil))))))
    (S.set 14 (M.v (E.op2 addD (E.var 13) (E.con (.int 2))))))
    (S.skip))
    (S.append 10 (M.v (E.tup (A.cons (E.op2 ixD (E.con (.str "abcdef")) (E.var 11)) (A.cons (E.var 13) (A.cons (E.var 14) (A.nil))))))))))))
    (S.seq (S.append 7 (M.k (E.tup (A.cons (E.var 5) (A.cons (E.bi tupleF (A.cons (E.var 10) (A.nil))) (A.nil))))))
    (S.seq (S.append 8 (M.ofF (M.kf (N.comp (I.seq (E.var 10)) (GE.tup [24, 13, 14]) (T.or (T.of (E.op2 ltD (E.var 6) (E.var 13))) (T.of (E.op2 ltD (E.var 14) (E.var 6)))) (E.var 24) [24, 13, 14]))))
    (S.seq (S.set 15 (M.v (E.op2 addD (E.con (.int 1)) (E.call sem__law_pick (A.cons (E.var 0) (A.cons (E.op2 addD (E.con (.int 12)) (E.var 9)) (A.cons (E.con (.int 3)) (A.nil))))))))
    (S.seq (S.set 16 (M.v (E.op2 addD (E.op2 mulD (E.op2 ixD (E.var 1) (E.con (.int 0))) (E.var 15)) (E.call sem__law_pick (A.cons (E.var 0) (A.cons (E.op2 addD (E.con (.int 16)) (E.var 9)) (A.cons (E.op2 addD (E.op2 mulD (E.op2 subD (E.op2 ixD (E.var 1) (E.con (.int 1))) (E.op2 ixD (E.var 1) (E.con (.int 0)))) (E.var 15)) (E.con (.int 1))) (A.nil))))))))
    (S.asgB [17, 5, 6] (Bs.val (M.v (E.var 6)) (Bs.val (M.v (E.op2 addD (E.var 5) (E.var 15))) (Bs.val (M.v (E.op2 addD (E.var 6) (E.var 16))) (Bs.nil))))))))))))
    (S.seq (S.frz 7 (S.set 18 (M.v (E.bi tupleF (A.cons (E.var 7) (A.nil))))))
    (S.seq (S.ite (M.v (T.not (T.of (E.call sem_is_log (A.cons (E.var 18) (A.nil))))))
    (S.ret (M.v (E.con (.bool false))))
    (S.skip))
    (S.seq (S.frz 8 (S.set 19 (M.v (E.bi maxF (A.cons (E.ofL (N.comp (I.seq (E.var 8)) (GE.name 22) T.yes (E.bi lenF (A.cons (E.var 22) (A.nil))) [22])) (A.nil))))))
    (S.seq (S.ite (M.v (T.not (T.of (E.call sem__law_inside (A.cons (E.call sem_followed (A.cons (E.var 18) (A.cons (E.var 1) (A.cons (E.var 19) (A.nil))))) (A.cons (E.var 17) (A.nil)))))))
    (S.ret (M.v (E.con (.bool false))))
    (S.skip))
    (S.seq (S.ite (M.v (T.not (T.of (E.call sem__law_inside (A.cons (E.call sem_followed_fixed (A.cons (E.var 18) (A.cons (E.var 1) (A.cons (E.bi lenF (A.cons (E.var 4) (A.nil))) (A.nil))))) (A.cons (E.var 17) (A.nil)))))))
    (S.ret (M.v (E.con (.bool false))))
    (S.skip))
    (S.seq (S.set 20 (M.v (E.call sem_suspects (A.cons (E.var 18) (A.cons (E.var 1) (A.cons (E.bi lenF (A.cons (E.var 4) (A.nil))) (A.nil)))))))
    (S.seq (S.ite (M.v (T.not (T.of (E.bi anyF (A.cons (E.ofL (N.comp (I.seq (E.var 20)) (GE.name 25) T.yes (E.bi allF (A.cons (E.ofL (N.comp (I.seq (E.var 25)) (GE.name 24) T.yes (E.op2 inD (E.var 24) (E.var 4)) [24])) (A.nil))) [25])) (A.nil))))))
    (S.ret (M.v (E.con (.bool false))))
    (S.skip))
    (S.seq (S.set 21 (M.v (E.op2 ixD (E.op2 ixD (E.var 7) (E.op1 negD (E.con (.int 1)))) (E.con (.int 1)))))
    (S.seq (S.set 22 (M.v (E.call sem_surely_lying (A.cons (E.var 21) (A.cons (E.var 19) (A.nil))))))
    (S.seq (S.set 23 (M.v (E.call sem_surely_right (A.cons (E.var 21) (A.cons (E.var 19) (A.nil))))))
    (S.ret (M.v (E.and (E.bi allF (A.cons (E.ofL (N.comp (I.seq (E.var 22)) (GE.name 24) T.yes (E.op2 inD (E.var 24) (E.op2 ixD (E.var 8) (E.op1 negD (E.con (.int 1))))) [24])) (A.nil))) ((E.not (E.bi anyF (A.cons (E.ofL (N.comp (I.seq (E.var 23)) (GE.name 24) T.yes (E.op2 inD (E.var 24) (E.op2 ixD (E.var 8) (E.op1 negD (E.con (.int 1))))) [24])) (A.nil)))))))))))))))))))))))
end PV

/-! P11: list.index, xs[::-1], x[i] = e -/
namespace PV
open PySem PySem.Spec L2
open PyProof.Rows hiding St
/-- flat data as a value -/
def vOf : D → Option V
  | .none => some .non
  | .bool b => some (.bl b)
  | .int i => some (.int i)
  | .str x => some (.str x)
  | _ => none
def vsOf : List D → Option (List V)
  | [] => some []
  | d :: ds => match vOf d, vsOf ds with
    | some v, some vs => some (v :: vs)
    | _, _ => none
theorem vOf_rp {K : PySem.W.Frag} {F : Hp} {v w : V} {d : D} (h : vOf d = some w) (r : Rp K F v d) : v = w ∧ flatV w = true := by
  cases d with
  | none => cases h; cases r; exact ⟨rfl, rfl⟩
  | bool b => cases h; cases r; exact ⟨rfl, rfl⟩
  | int i => cases h; cases r; exact ⟨rfl, rfl⟩
  | str x => cases h; cases r; exact ⟨rfl, rfl⟩
  | _ => cases h
theorem vsOf_rp {K : PySem.W.Frag} {F : Hp} : ∀ {vs ws : List V} {ds : List D}, vsOf ds = some ws → RpAll K F vs ds → vs = ws ∧ ws.all flatV = true
  | _, _, [], h, r => by cases h; cases r; exact ⟨rfl, rfl⟩
  | _, _, d :: ds, h, r => by
    cases r with
    | cons q r =>
      simp only [vsOf] at h
      split at h
      · rename_i v vs h1 h2
        cases h
        obtain ⟨e1, f1⟩ := vOf_rp h1 q
        obtain ⟨e2, f2⟩ := vsOf_rp h2 r
        subst e1; subst e2
        exact ⟨rfl, by rw [List.all_cons, f1, f2]; rfl⟩
      · cases h
def lindexD (ds : List D) (y : D) : Option D := match vsOf ds, vOf y with
  | some vs, some w => (vs.findIdx? fun z => eqV z w).map fun j => .int (j : Nat)
  | _, _ => none
namespace E
def lindex (fo fe : En → R D) : En → R D := fun ρ => (fo ρ).bind fun x => match x with
  | .list ds => (fe ρ).bind fun y => R.ofO (lindexD ds y)
  | _ => .stuck
def rev (f : En → R D) : En → R D := fun ρ => (f ρ).bind fun x => match x with
  | .list ds => .ok (.list ds.reverse)
  | _ => .stuck
end E
section
variable {X : Cx} {W : WX} {o e : Expr} {fo fe : En → R D} {apos cpos pos : Pos}
theorem px_lindex (ho : PX X W o fo) (he : PX X W e fe) (hbase : attributeBase o "index" X.env (eval o X.env) = eval o X.env := by rfl)
    (hfew : ((backTo cpos (starEach [e] X.env)).all (fun x => !x.1) && (backToKw cpos (keywordEach [] X.env)).all (fun x => x.1.isSome) && decide ([e].length + ([] : List Keyword).length + (if ([] : List Keyword).isEmpty then 0 else 1) < 30)) = true := by rfl)
    (hline : (apos.endLine == cpos.line) = true := by rfl) (hs1 : starEach [e] X.env = (false, eval e X.env) :: starEach [] X.env := by rfl) (hplain : (backTo cpos (starEach [] X.env)).any (·.1) = false := by rfl) :
    PX X W (.Call (.Attribute o "index" apos) [e] [] cpos) (E.lindex fo fe) := by
  refine (pe_bm PySem.F.plainAttrs_list PySem.F.slot_list_index PySem.F.type_list_index mt_index ho (pa_cons he pa_nil hs1) hbase hfew hline hs1 hplain).imp fun σ H Q ⟨ρ, F, hR, hS, hP⟩ => ?_
  refine ⟨ρ, F, hR, hS, Post.bind hP fun x dx F1 H1 e1 r1 p1 => ?_⟩
  cases dx with
  | list ds =>
    cases r1 with
    | lst h1 h2 h3 =>
      refine ⟨.inl ⟨rfl, _, SqL.of (e1.sub _ _ h1)⟩, ρ, F1, hR.mono e1.sF, e1.sub, Post.bind p1 fun y dy F2 H2 e2 r2 p2 => ?_⟩
      simp only [lindexD] at p2
      cases q1 : vsOf ds with
      | none => rw [q1] at p2; exact p2.elim
      | some vs =>
        cases q2 : vOf dy with
        | none => rw [q1, q2] at p2; exact p2.elim
        | some w =>
          rw [q1, q2] at p2
          dsimp only at p2
          cases q3 : vs.findIdx? fun z => eqV z w with
          | none => rw [q3] at p2; exact p2.elim
          | some j =>
            rw [q3] at p2
            obtain ⟨g1, g2⟩ := vsOf_rp q1 h3
            obtain ⟨g3, g4⟩ := vOf_rp q2 r2
            subst g1; subst g3
            rw [List.findIdx?_eq_some_iff_getElem] at q3
            obtain ⟨k1, k2, k3⟩ := q3
            refine ⟨_, _, _, j, _, rfl, rfl, SqL.of (e2.sub _ _ (e2.sF _ _ h1)), g4, g2, List.getElem?_eq_getElem k1, k2, fun m z' hm hz => ?_, p2.here e2.sub (.int _)⟩
            obtain ⟨hm', rfl⟩ := List.getElem?_eq_some_iff.mp hz
            have := k3 m hm
            simpa using this
  | _ => exact p1.elim
theorem px_rev {k : Nat} {p1 p2 p3 : Pos} (ho : PX X W o fo) : PX X W (.Subscript o (.Slice none none (some (.UnaryOp .USub (.Constant (.int 1) k p1) p2)) p3) pos) (E.rev fo) := by
  refine (pe_revL ho).imp fun σ H Q ⟨ρ, F, hR, hS, hP⟩ => ?_
  refine ⟨ρ, F, hR, hS, Post.bind hP fun x dx F1 H1 e1 r1 p1 => ?_⟩
  cases dx with
  | list ds =>
    cases r1 with
    | lst h1 h2 h3 =>
      refine ⟨_, _, rfl, SqL.of (e1.sub _ _ h1), fun p hp => ?_⟩
      exact p1 _ _ _ (.new e1.sub hp) (.lst upd_same (by rw [List.length_reverse]; exact h2) (h3.reverse.mono (same_upd (same_none e1.sub hp))))
  | _ => exact p1.elim
end
namespace S
/-- x[k] = d, x owned -/
def setIx (i : Nat) (mi m : SE → R D) : SE → O := fun ρ => onOwn i ρ fun ds => (m ρ).on ρ fun d => (mi ρ).on ρ fun k => match k with
  | .int j => match ixN ds.length j with
    | some n => .nx (ρ.set i (.own (ds.set n d)))
    | none => .stuck
  | _ => .stuck
end S
section
variable {X : Cx} {W : WX} {x : Str} {e ie : Expr} {m mi : SE → R D} {xp pos tpos : Pos}
theorem pxs_setIx (i : Nat) (he : PXe X W e m) (hi : PXe X W ie mi) (hN : X.N[i]? = some x := by rfl) (hv : Vis X.env.scope x := by first | exact Or.inl rfl | exact Or.inr (Or.inl rfl) | exact Or.inr (Or.inr rfl)) (hd : (x == ("__debug__" : Str)) = false := by decide) (hcd : (x == ("__classdict__" : Str)) = false := by decide)
    (ha : ∀ v, assign (.Subscript (.Name x xp) ie tpos) X.env v = (do
      let ov ← holding [v] (eval (.Name x xp) X.env)
      let iv ← holding [v, ov] (eval ie X.env)
      standAt tpos
      holding [v, ov, iv] (setItem ov iv v)
      release [v, ov, iv] []) := by intro _; rfl)
    (hs : swapsWithSole [.Subscript (.Name x xp) ie tpos] e pos.line X.env = pure false := by rfl) (hw : swappedStores [.Subscript (.Name x xp) ie tpos] e X.env = pure none := by rfl)
    (h1 : (assignEach [.Subscript (.Name x xp) ie tpos] X.env).map (·.2) = [assign (.Subscript (.Name x xp) ie tpos) X.env] := by rfl) :
    PXS X W (.Assign [.Subscript (.Name x xp) ie tpos] e pos) (S.setIx i mi m) := by
  refine (ps_asg he (pg_sub (pe_var hN hv hd hcd) hi set_list ha) hs hw h1).imp fun Z σ H ⟨ρ, F, F0, H0, r, p⟩ => ?_
  obtain ⟨ds, hi', p⟩ := own_get p
  obtain ⟨a, xs, g1, g2, g3, g4, g5, g6⟩ := r.own i ds hi'
  refine ⟨ρ, F, F0, H0, r, post_on r p fun v d F1 H1 e1 r1 rv p1 => ?_⟩
  refine ⟨.ref a, g1, ρ, F1, F0, H0, r1, post_on r1 p1 fun kv dk F2 H2 e2 r2 rk p2 => ?_⟩
  cases dk with
  | int j =>
    cases rk
    dsimp only at p2
    cases q : ixN ds.length j with
    | none => rw [q] at p2; exact p2.elim
    | some n =>
      rw [q] at p2
      refine ⟨a, xs, j, n, rfl, rfl, e2.sH _ _ (e1.sH _ _ g4), by rw [g6.length]; exact q, p2 σ F2 _ (r2.write hi' g1 (by rw [List.length_set]; exact g5) (((g6.mono e1.sF).mono e2.sF).set n (rv.mono e2.sF)))⟩
  | _ => exact p2.elim
end
end PV

namespace PV
open PySem PySem.Spec L2
def sem_contained : List D → R D := fn 3 2 (S.ret (M.v (E.bi sumF (A.cons (E.ofL (N.comp (I.seq (E.var 0)) (GE.tup [3, 4]) T.yes (E.bi max2F (A.cons (E.con (.int 0)) (A.cons (E.op2 addD (E.op2 subD (E.bi min2F (A.cons (E.var 4) (A.cons (E.var 2) (A.nil)))) (E.bi max2F (A.cons (E.var 3) (A.cons (E.var 1) (A.nil))))) (E.con (.int 1))) (A.nil)))) [3, 4])) (A.nil)))))
def sem_surest : List D → R D := fn 3 8 (S.seq (S.ex (M.v (E.call sem_check_reports (A.cons (E.var 0) (A.nil)))))
    (S.seq (S.ex (M.v (E.call sem_check_liars (A.cons (E.var 1) (A.nil)))))
    (S.seq (S.ite (M.v (T.or (T.not (T.of (E.call sem_is_integer (A.cons (E.var 2) (A.nil))))) (T.not (T.of (E.chain leD leD (E.con (.int 1)) (E.var 2) (E.op2 addD (E.con (.int 9999)) (E.con (.int 1))))))))
    (S.raise "InvalidNumber")
    (S.skip))
    (S.seq (S.ex (M.v (E.call sem_check_possible (A.cons (E.var 0) (A.cons (E.var 1) (A.nil))))))
    (S.seq (S.asgB [3, 4] (Bs.val (M.v (E.call sem_possible_times (A.cons (E.var 0) (A.cons (E.var 1) (A.nil))))) (Bs.val (M.v (E.con .none)) (Bs.nil))))
    (S.seq (S.setO 5 (M.v (N.disp (A.cons (E.con (.int 0)) (A.nil)))))
    (S.seq (S.for_ (I.seq (E.var 3)) (G.tup [6, 7])
    (S.extend 5 (M.v (N.disp (A.cons (E.var 6) (A.cons (E.op2 addD (E.op2 subD (E.var 7) (E.var 2)) (E.con (.int 1))) (A.nil)))))))
    (S.seq (S.set 8 (M.v (E.op2 subD (E.op2 addD (E.con (.int 9999)) (E.con (.int 1))) (E.var 2))))
    (S.seq (S.frz 5 (S.setO 5 (M.v (N.comp (I.seq (E.var 5)) (GE.name 9) T.yes (E.bi min2F (A.cons (E.bi max2F (A.cons (E.var 9) (A.cons (E.con (.int 0)) (A.nil)))) (A.cons (E.var 8) (A.nil)))) [9]))))
    (S.seq (S.frz 5 (S.for_ (I.seq (E.bi sortSetF (A.cons (E.var 5) (A.nil)))) (G.name 9)
    (S.seq (S.set 10 (M.v (E.call sem_contained (A.cons (E.var 3) (A.cons (E.var 9) (A.cons (E.op2 subD (E.op2 addD (E.var 9) (E.var 2)) (E.con (.int 1))) (A.nil)))))))
    (S.ite (M.v (T.or (T.of (E.op2 isD (E.var 4) (E.con .none))) (T.of (E.op2 gtD (E.var 10) (E.op2 ixD (E.var 4) (E.con (.int 0)))))))
    (S.set 4 (M.v (E.tup (A.cons (E.var 10) (A.cons (E.var 9) (A.nil))))))
    (S.skip)))))
    (S.ret (M.v (E.tup (A.cons (E.op2 ixD (E.var 4) (E.con (.int 1))) (A.cons (E.op2 subD (E.op2 addD (E.op2 ixD (E.var 4) (E.con (.int 1))) (E.var 2)) (E.con (.int 1))) (A.nil))))))))))))))))
def sem_law_k14 : List D → R D := fn 1 14 (S.seq (S.set 1 (M.v (E.call sem__law_reports (A.cons (E.var 0) (A.cons (E.con (.int 0)) (A.cons (E.con (.int 6)) (A.nil)))))))
    (S.seq (S.set 1 (M.v (E.bi tupleF (A.cons (E.ofL (N.comp (I.seq (E.var 1)) (GE.name 13) (T.or (T.of (E.op2 ltD (E.op2 ixD (E.var 13) (E.con (.int 2))) (E.con (.int 46)))) (T.of (E.op2 gtD (E.op2 ixD (E.var 13) (E.con (.int 1))) (E.con (.int 9949))))) (E.var 13) [13])) (A.nil)))))
    (S.seq (S.set 2 (M.v (E.bi min2F (A.cons (E.op2 addD (E.call sem_fewest_liars (A.cons (E.var 1) (A.nil))) (E.call sem__law_pick (A.cons (E.var 0) (A.cons (E.con (.int 40)) (A.cons (E.con (.int 2)) (A.nil)))))) (A.cons (E.bi max2F (A.cons (E.op2 subD (E.bi lenF (A.cons (E.var 1) (A.nil))) (E.con (.int 1))) (A.cons (E.con (.int 0)) (A.nil)))) (A.nil))))))
    (S.seq (S.set 3 (M.v (E.call sem_possible (A.cons (E.var 1) (A.cons (E.var 2) (A.nil))))))
    (S.seq (S.ite (M.v (T.or (T.of (E.op2 eqD (E.var 3) (E.lst (A.nil)))) (T.of (E.op2 eqD (E.var 1) (E.tup (A.nil))))))
    (S.ret (M.v (E.con (.bool true))))
    (S.skip))
    (S.seq (S.setO 4 (M.v (N.disp (A.nil))))
    (S.seq (S.for_ (I.seq (E.var 3)) (G.tup [5, 6])
    (S.extend 4 (M.vl (E.rg2 (E.var 5) (E.op2 addD (E.var 6) (E.con (.int 1)))))))
    (S.seq (S.frz 4 (S.for_ (I.range1 (A.cons (E.con (.int 3)) (A.nil))) (G.name 7)
    (S.seq (S.set 8 (M.v (E.op2 addD (E.con (.int 1)) (E.call sem__law_pick (A.cons (E.var 0) (A.cons (E.op2 addD (E.con (.int 50)) (E.var 7)) (A.cons (E.con (.int 30)) (A.nil))))))))
    (S.seq (S.set 9 (M.v (E.op2 addD (E.ofL (N.comp (I.range2 (A.cons (E.con (.int 0)) (A.cons (E.con (.int 47)) (A.nil)))) (GE.name 11) T.yes (E.var 11) [11])) (E.ofL (N.comp (I.range2 (A.cons (E.op2 subD (E.con (.int 9950)) (E.var 8)) (A.cons (E.op2 subD (E.con (.int 10001)) (E.var 8)) (A.nil)))) (GE.name 11) T.yes (E.var 11) [11])))))
    (S.seq (S.set 10 (M.ofF (M.v (N.comp (I.seq (E.var 9)) (GE.name 11) T.yes (E.bi sumF (A.cons (E.ofL (N.comp (I.seq (E.var 4)) (GE.name 14) (T.and (T.of (E.op2 leD (E.var 11) (E.var 14))) (T.of (E.op2 ltD (E.var 14) (E.op2 addD (E.var 11) (E.var 8))))) (E.con (.int 1)) [14])) (A.nil))) [11]))))
    (S.seq (S.set 11 (M.v (E.op2 ixD (E.var 9) (E.lindex (E.var 10) (E.bi maxF (A.cons (E.var 10) (A.nil)))))))
    (S.ite (M.v (T.of (E.op2 neD (E.call sem_surest (A.cons (E.var 1) (A.cons (E.var 2) (A.cons (E.var 8) (A.nil))))) (E.tup (A.cons (E.var 11) (A.cons (E.op2 subD (E.op2 addD (E.var 11) (E.var 8)) (E.con (.int 1))) (A.nil)))))))
    (S.ret (M.v (E.con (.bool false))))
    (S.skip))))))))
    (S.seq (S.set 12 (M.v (E.call sem_surest (A.cons (E.var 1) (A.cons (E.var 2) (A.cons (E.con (.int 10000)) (A.nil)))))))
    (S.ret (M.v (E.and (E.op2 eqD (E.var 12) (E.tup (A.cons (E.con (.int 0)) (A.cons (E.con (.int 9999)) (A.nil))))) ((E.op2 eqD (E.call sem_surest (A.cons (E.var 1) (A.cons (E.con (.int 10)) (A.cons (E.con (.int 7)) (A.nil))))) (E.tup (A.cons (E.con (.int 0)) (A.cons (E.con (.int 6)) (A.nil))))))))))))))))))
end PV

/-! P12: try .. except X as e; isinstance of what was caught; f of a written list, called -/
namespace PV
open PySem PySem.Spec L2
open PyProof.Rows hiding St
/-! ### the caught exception is tracked -/
section
variable {X : Cx} {pins : List (Addr × Obj)} {σ : St} {H : Hp} {s : Shared}
theorem inv_seen (I : Inv X pins σ H s) {a : Addr} {oe : Obj} (ha : s.heap.get? a = some oe) (hd : ∃ vs, oe.data = .fields vs) (na : H a = none) (nL : a ≠ X.env.locals) (n0 : X.s_0.heap.get? a = none) (np : ∀ p ∈ X.pn ++ pins, p.1 ≠ a) :
    Inv (X.suite a (X.pn ++ pins)) [] σ (upd H a (ExO a oe)) s := by
  have ne : ∀ b o, H b = some o → b ≠ a := fun b o e => ne_of_none e na
  refine ⟨I.ok.suite _ _, I.os, I.bare, ⟨I.base.keep, I.base.slot, fun b o e1 e2 e3 => ?_, I.base.there, fun b xs e => ?_, fun b o u e => ?_, fun b ps e => ?_⟩, I.loc, I.cell, ?_, fun x c e => ?_, fun p hp => ?_, fun b o e => ?_, I.len⟩
  · rw [upd_ne (fun z => by rw [z, n0] at e1; cases e1)]
    exact I.base.free b o e1 e2 e3
  · have q := I.base.tups b xs e
    rw [upd_ne (ne _ _ q)]; exact q
  · have q := I.base.frzs b o u e
    rw [upd_ne (ne _ _ q)]; exact q
  · obtain ⟨more, q⟩ := I.base.tbls b ps e
    exact ⟨more, by rw [upd_ne (ne _ _ q)]; exact q⟩
  · rw [upd_ne (Ne.symm nL)]; exact I.free
  · obtain ⟨v, o, h1, h2⟩ := I.cell x c e
    rw [upd_ne (fun z => by
      rw [z, ha] at h1
      cases h1
      obtain ⟨vs, hv⟩ := hd
      rw [hv] at h2; cases h2)]
    exact I.freeC x c e
  · rw [List.append_nil] at hp
    obtain ⟨p1, p2, p3⟩ := I.pin p hp
    exact ⟨p1, by rw [upd_ne (np p hp)]; exact p2, p3⟩
  · by_cases hb : b = a
    · subst hb
      rw [upd_same] at e
      cases e
      exact ⟨ha, ⟨oe, ha⟩, fun h1 h2 q k => k _ q⟩
    · rw [upd_ne hb] at e
      exact (I.hok b o e).stay (fun _ _ _ q => q) (fun c q => by rw [upd_ne (ne _ _ q)]; exact q) fun c xs q => by rw [upd_ne (ne _ _ q)]; exact q
theorem inv_unseen {a : Addr} {pn' : List (Addr × Obj)} (I : Inv (X.suite a (X.pn ++ pins)) pn' σ H s) (ok : X.Ok) : Inv X pins σ H s :=
  ⟨ok, I.os, I.bare, I.base, I.loc, I.cell, I.free, I.freeC, fun p hp => I.pin p (List.mem_append_left pn' hp), I.hok, I.len⟩
end
/-- what the clause wishes: the suite finds the exception in its heap -/
def wEx (K : PySem.W.Frag) (c : Value) (i : Nat) (ts : Addr → TS) (Wout : WX) (Z : Ends) : WX := fun cls d σ H =>
  ∃ b, PySem.W.exmOne K cls c = some b ∧
    (b = true → ∀ a oe, H a = none → oe.cls = cls → oe.dict = d → (∃ vs, oe.data = .fields vs) →
      ts a { nx := fun σ' H' => Z.nx (σ'.set i none) H', rt := Z.rt, bk := fun σ' H' => Z.bk (σ'.set i none) H', ct := fun σ' H' => Z.ct (σ'.set i none) H' } (σ.set i (some (.ref a))) (upd H a (ExO a oe))) ∧
    (b = false → Wout cls d σ H)
section
variable {X : Cx} {x n : Str} {c : Value} {i : Nat} {body suite : List Stmt} {b₀ : Stmt} {np pos pos' : Pos} {tb : WX → TS} {ts : Addr → TS} {Wout : WX}
theorem ps_tryE (hs : X.stack = X.env :: X.outer) (hf : X.env.frame = some X.env.locals) (hex : X.ex = []) (hN : X.N.Nodup) (hi : X.N[i]? = some n) (hln : X.env.kindOf n = some .local) (hc : Names X x c) (tk : Takes X Wout)
    (hb : ∀ (W : WX) (pn : List (Addr × Obj)) (xe : Value → Shared → Prop), Takes (X.tr pn xe) W → PassesOwn (model X.prog X.w) X.A X.env xe → PSs (X.tr pn xe) body (tb W))
    (hsu : ∀ (a : Addr) (pn : List (Addr × Obj)), PSs (X.suite a pn) (b₀ :: suite) (ts a)) :
    PS X (.Try body [.ExceptHandler (some (.Name x np)) (some n) (b₀ :: suite) pos'] [] [] pos) (fun Z σ H => tb (wEx X.K c i ts Wout Z) Z σ H) := by
  refine ⟨fun pins s σ H Z I rd => ?_⟩
  have okX := I.ok
  have frX : X.A.frames = some (X.env :: X.outer) := okX.frames.trans (congrArg some hs)
  have done : ∀ f s1, SP (X.tr (X.pn ++ pins) (fun e s₁ => wpAny (model X.prog X.w) X.A (noteFrame e X.env) (fun _ s₂ => wpAny (model X.prog X.w) X.A (setFlight e none) (fun _ s₃ =>
      wpAny (model X.prog X.w) X.A (handleBy e X.env [.ExceptHandler (some (.Name x np)) (some n) (b₀ :: suite) pos']) (SP X pins Z) X.xe s₃) X.xe s₂) X.xe s₁)) [] Z f s1 →
      (match f with | .next => wpAny (model X.prog X.w) X.A (execs [] X.env) (SP X pins Z) X.xe s1 | f => SP X pins Z f s1) := fun f s1 sp => by
    cases f with
    | next => obtain ⟨σ1, H1, J1, q1⟩ := sp; exact wpAny_execs_nil ⟨σ1, H1, J1.ofTry okX, q1⟩
    | brk => obtain ⟨σ1, H1, J1, q1⟩ := sp; exact ⟨σ1, H1, J1.ofTry okX, q1⟩
    | cont => obtain ⟨σ1, H1, J1, q1⟩ := sp; exact ⟨σ1, H1, J1.ofTry okX, q1⟩
    | ret u => obtain ⟨v1, σ1, H1, J1, r1, q1⟩ := sp; exact ⟨v1, σ1, H1, J1.ofTry okX, r1, q1⟩
  refine wpAny_Try_except (wpAny_mono ((hb (wEx X.K c i ts Wout Z) (X.pn ++ pins) _ (fun u s1 air => ?_) PassesOwn.looking).run [] s σ H Z (I.toTry _) rd) done fun _ _ z => z)
  obtain ⟨a, B, s2, pins2, σ2, H2, cls, d, rfl, J2', gr, up2, sky, na, eos, bar, b, hm, yes, no⟩ := air
  have J2 : Inv X pins σ2 H2 s2 := J2'.ofTry okX
  show wpAny (model X.prog X.w) X.A (noteFrame (.ref a) X.env) _ _ _
  refine Sky.land Zc.steady frX hf (by rw [← hs]; exact sky) fun h3 fly up3 => ?_
  have J3 : Inv X pins σ2 H2 { s1 with heap := h3 } := J2.landed gr fly.1 (up2.trans up3) eos bar
  obtain ⟨oe3, vs3, at3, z3, dat3⟩ := fly.there
  -- the exception is no frame
  have nofr : a ∉ frs (X.env :: X.outer) := fun hm => by
    obtain ⟨_, o', e', hnf⟩ := fly.2.2.1.mem hm
    rw [at3] at e'; cases e'
    exact hnf _ dat3
  have nL : a ≠ X.env.locals := fun z => nofr (List.mem_filterMap.mpr ⟨X.env, List.mem_cons_self, by rw [hf, z]⟩)
  -- it is new
  have nB : B.get? a = none := fly.2.1
  have inB : ∀ q o, s2.heap.get? q = some o → q ≠ X.env.locals → q ∉ X.fs → q ≠ a := fun q o e1 e2 e3 z => by
    have := gr q o e1 (fun hm => by
      rcases List.mem_cons.mp (J2.stkSub q hm) with k | k
      · exact e2 k
      · exact e3 k)
    rw [z, nB] at this; cases this
  have n0 : X.s_0.heap.get? a = none := by
    cases q : X.s_0.heap.get? a with
    | none => rfl
    | some o =>
      exfalso
      obtain ⟨o', e'⟩ := J2.base.there a o q (by rw [hex]; exact List.not_mem_nil)
      refine inB a o' e' nL (fun hm => nofr ?_) rfl
      obtain ⟨e, he, k⟩ := List.mem_filterMap.mp hm
      exact List.mem_filterMap.mpr ⟨e, List.mem_cons_of_mem _ he, k⟩
  have npn : ∀ p ∈ X.pn ++ pins, p.1 ≠ a := fun p hp => by
    obtain ⟨p1, _, p3, p4, _⟩ := J2.pin p hp
    exact inB p.1 p.2 p1 p3 p4
  refine wpAny_handleBy_cons (codeAny_handlers_test ?_) (by intro q; cases q)
  have LT : PySem.W.Looks (model X.prog X.w) h3 (typeOf (.ref a)) cls := fun A Q E s k q => wpAny_typeOf_ref (k _ _ at3) (by rw [z3.1]; exact q)
  have LM := PySem.W.exm_one (M := model X.prog X.w) J3.kIn LT hm
  have V3 := inv_seen J3 at3 ⟨vs3, dat3⟩ na nL n0 npn
  have named : ∀ {Q E : Value → Shared → Prop}, Q c { s1 with heap := h3 } → wpAny (model X.prog X.w) (X.A.mark (some (.ref a))) (eval (.Name x np) X.env) Q E { s1 with heap := h3 } := fun {Q E} q => by
    obtain ⟨hg, hdbg, hm | ⟨hm, hv, hnn⟩⟩ := hc
    · exact ld_glob (X := X.suite a (X.pn ++ pins)) V3 hg hm q hdbg
    · exact ld_blt (X := X.suite a (X.pn ++ pins)) V3 hg hm hv q hnn hdbg
  refine named (LM.here ?_)
  cases b with
  | true =>
    refine codeAny_handlers_suite_as (HandSPX.lands_againZ fly fun h4 fly4 up4 => ?_)
    have J4 : Inv X pins σ2 H2 { s1 with heap := h4 } := J2.landed gr fly4.1 ((up2.trans up3).trans up4) eos bar
    obtain ⟨oe4, vs4, at4, z4, dat4⟩ := fly4.there
    have V4 := inv_seen J4 at4 ⟨vs4, dat4⟩ na nL n0 npn
    refine store_ok (X := X.suite a (X.pn ++ pins)) (v := .ref a) V4 hN hi (.inl hln) rfl (fun s5 V5 => ?_) (.inr hln)
    refine wpAny_mono ((hsu a (X.pn ++ pins)).run [] s5 _ _ _ V5 (yes rfl a oe4 na z4.1 z4.2 ⟨vs4, dat4⟩)) (fun f s6 sp => ?_) (fun _ _ z => False.elim z)
    have goes : ∀ {σ6 : St} {H6 : Hp} {Q : Shared → Prop}, Inv (X.suite a (X.pn ++ pins)) [] σ6 H6 s6 → (∀ s7, Inv X pins (σ6.set i none) H6 s7 → Q s7) →
        wpAny (model X.prog X.w) X.A (do bindName X.env n .none; unbindBehindTheSuite X.env n pos') (fun _ s7 => Q s7) X.xe s6 := fun {σ6 H6 Q} V6 hq => gone_ok (inv_unseen V6 okX) hN hi hln hq
    cases f with
    | next => obtain ⟨σ6, H6, V6, q6⟩ := sp; exact goes V6 fun s7 J7 => ⟨_, _, J7, q6⟩
    | brk => obtain ⟨σ6, H6, V6, q6⟩ := sp; exact goes V6 fun s7 J7 => ⟨_, _, J7, q6⟩
    | cont => obtain ⟨σ6, H6, V6, q6⟩ := sp; exact goes V6 fun s7 J7 => ⟨_, _, J7, q6⟩
    | ret u => obtain ⟨v6, σ6, H6, V6, r6, q6⟩ := sp; exact goes V6 fun s7 J7 => ⟨_, _, _, J7, r6, q6⟩
  | false =>
    show wpAny _ X.A (handleBy (.ref a) X.env []) _ _ _
    refine wpAny_handleBy_nil ?_
    obtain ⟨y1, y2, y3, oe, vs, T, oT, tv, y4, y5, y6, y7, y8⟩ := id fly
    have out : wpAny (model X.prog X.w) X.A (setFlight (.ref a) X.env.frame) (fun _ s4 => wpAny (model X.prog X.w) X.A (throw (.ref a) : Sem Flow) (SP X pins Z) X.xe s4) X.xe { s1 with heap := h3 } := by
      rw [hf]
      refine HandSPX.setFlight_upZ fly fun h4 held up4 => wpAny_throw (tk _ _ ?_)
      exact ⟨a, B, s2, pins, σ2, H2, cls, d, rfl, J2, gr, (up2.trans up3).trans up4, .inr (.inr (by rw [hs]; exact held)), na, eos, bar, no rfl⟩
    unfold PySem.passOn
    refine wpAny_bind (wpAny_field y4 y6 y7 ?_)
    rw [if_neg (show ¬ ((Value.ref T == Value.none) = true) by simp)]
    first
      | exact wpAny_bind (wpAny_pure (wpAny_bind out))
      | exact wpAny_bind out
end
end PV

/-! P13: the program's exceptions; try as a statement; f of a written list, called -/
namespace PV
open PySem PySem.Spec L2
open PyProof.Rows hiding St
def mroL (K : PySem.W.Frag) (C : Addr) : Option (List Value) := (PySem.W.clsIn K C).map (·.mro)
/-- x names the class at C, right below the one at V -/
structure ExF (K : PySem.W.Frag) (mg : Str → Option Value) (x : Str) (C V : Addr) : Prop where
  ns : PySem.W.nsIn K mainGlobals x = some (some (.ref C))
  mg : mg x = some (.ref C)
  mro : mroL K C = some [.ref C, .ref V, .type "ValueError", .type "Exception", .type "BaseException", .type "object"]
  ty : PySem.W.typeIn K (.ref C) = some (.type "type")
  ec : ExcC K C
/-- the classes of the names cs, all right below VoteError -/
structure ET (K : PySem.W.Frag) (mg : Str → Option Value) (cs : List Str) : Prop where
  ex : ∃ (V : Addr) (g : Str → Addr), mg "VoteError" = some (.ref V) ∧ PySem.W.subIn K (.ref V) (.type "BaseException") = some true ∧ PySem.W.hasDictIn K V = true ∧ PySem.W.typeIn K (.ref V) = some (.type "type") ∧
    (∀ c ∈ cs, ExF K mg c (g c) V ∧ g c ≠ V) ∧ ∀ c ∈ cs, ∀ c' ∈ cs, g c = g c' → c = c'
theorem sub_mro {K : PySem.W.Frag} {C : Addr} {l : List Value} (h : mroL K C = some l) (hn : l ≠ []) (b : Value) : PySem.W.subIn K (.ref C) b = some (l.contains b) := by
  unfold mroL at h
  obtain ⟨cd, h1, h2⟩ := Option.map_eq_some_iff.mp h
  show PySem.W.mroIn K C b = _
  unfold PySem.W.mroIn
  rw [h1, Option.bind_some, h2, if_neg]
  cases l with
  | nil => exact absurd rfl hn
  | cons x r => simp
theorem ExF.cls {K : PySem.W.Frag} {mg : Str → Option Value} {x : Str} {C V : Addr} (h : ExF K mg x C V) : (PySem.W.clsIn K C).isSome = true := by
  have := h.mro
  unfold mroL at this
  obtain ⟨cd, h1, _⟩ := Option.map_eq_some_iff.mp this
  rw [h1]; rfl
/-! ### isinstance -/
def rIsX (K : PySem.W.Frag) : List V → Hp → VK → Prop := fun xs H Q => ∃ (a : Addr) (oe : Obj) (C C' : Addr) (b : Bool), xs = [.ref a, .ref C'] ∧ H a = some (ExO a oe) ∧ oe.cls = .ref C ∧ oe.dict = none ∧ (∃ vs, oe.data = .fields vs) ∧ ExcC K C ∧
  PySem.W.kitOne K (.ref C) (.ref C') = some b ∧ Q (.bl b) H
theorem call_isX {X : Cx} : CallR X (.builtin "isinstance") (rIsX X.K) := by
  rintro pins s σ H xs us Q I r ⟨a, oe, C, C', b, rfl, hH, h1, h2, ⟨vs, h3⟩, ec, hb, q⟩
  obtain ⟨hget, _⟩ : ObjOk X.prog X.w H s.heap a (ExO a oe) := I.hok a _ hH
  have hget : s.heap.get? a = some oe := hget
  cases r with
  | cons ra rr => cases rr with
    | cons rc rr =>
      cases rr
      cases ra
      cases rc
      have J : PySem.W.InstAt s.heap a oe C none := by
        obtain ⟨oc, od, oda, osl⟩ := oe
        dsimp only at h1 h2 h3
        subst h1 h2 h3
        exact ⟨hget, rfl, rfl, trivial⟩
      exact PySem.W.kia_one (PySem.W.handS_kitx_exc ec.hg ec.hk ec.hs ec.hd ec.ha ec.hn ec.ht ec.hm) I.kIn J hb (fun z => nomatch z) fun tk => ⟨.bl b, H, I.tok tk, rfl, q⟩
def isExD (cs : List Str) (c' : Str) : D → Option D
  | .dict [(.bool true, .str c)] => if c ∈ cs ∧ c' ∈ cs then some (.bool (decide (c = c'))) else none
  | _ => none
theorem ex_inv {K : PySem.W.Frag} {F : Hp} {v : V} {c : Str} (h : Rp K F v (.dict [(.bool true, .str c)])) : ∃ (a C : Addr) (oe : Obj), v = .ref a ∧ F a = some (ExO a oe) ∧ oe.cls = .ref C ∧ oe.dict = none ∧ (∃ vs, oe.data = .fields vs) ∧ PySem.W.nsIn K mainGlobals c = some (some (.ref C)) := by
  generalize hd : (PyData.dict [(PyData.bool true, PyData.str c)]) = d at h
  cases h with
  | exn q1 q2 q3 q4 q5 =>
    injection hd with hd
    injection hd with hd _
    injection hd with _ hd
    injection hd with hd
    subst hd
    exact ⟨_, _, _, rfl, q1, q2, q3, q4, q5⟩
  | scr q =>
    unfold scr at hd
    injection hd with hd
    injection hd with hd _
    injection hd with hd _
    cases hd
  | _ => cases hd
theorem kit_two {K : PySem.W.Frag} {mg : Str → Option Value} {cs : List Str} {V : Addr} {g : Str → Addr} (hx : ∀ c ∈ cs, ExF K mg c (g c) V ∧ g c ≠ V) (hi : ∀ c ∈ cs, ∀ c' ∈ cs, g c = g c' → c = c') {c c' : Str} (h : c ∈ cs) (h' : c' ∈ cs) :
    PySem.W.kitOne K (.ref (g c)) (.ref (g c')) = some (decide (c = c')) := by
  unfold PySem.W.kitOne
  by_cases e : c = c'
  · subst e; simp
  · have ne : g c ≠ g c' := fun z => e (hi c h c' h' z)
    have n1 : (Value.ref (g c) == Value.ref (g c')) = false := by simpa using ne
    rw [n1, if_neg Bool.false_ne_true]
    unfold PySem.W.kitCls
    dsimp only
    rw [if_pos (by rw [(hx c' h').1.cls, (hx c' h').1.ty]; rfl), sub_mro (hx c h).1.mro (by simp)]
    have n2 : g c' ≠ V := (hx c' h').2
    simp [e, Ne.symm ne, n2]
section
variable {X : Cx} {W : WX} {a : Expr} {fa : En → R D} {p p2 pos : Pos} {cs : List Str} {n : Str}
theorem px_isE (T : ET X.K X.mg cs) (ha : PX X W a fa) (hm : X.mg "isinstance" = none) (hg : Gl X "isinstance" := by rfl) (hg2 : Gl X n := by rfl) (hdb : (n == ("__debug__" : Str)) = false := by decide) (hn : n ∈ cs := by decide)
    (hs : starEach [a, .Name n p2] X.env = (false, eval a X.env) :: starEach [.Name n p2] X.env := by rfl) (hs2 : starEach [.Name n p2] X.env = (false, eval (.Name n p2) X.env) :: starEach [] X.env := by rfl) (hpl : (backTo pos (starEach [.Name n p2] X.env)).any (·.1) = false := by rfl) :
    PX X W (.Call (.Name "isinstance" p) [a, .Name n p2] [] pos) (E.op1 (isExD cs n) fa) := by
  obtain ⟨V, g, _, _, _, _, hx, hi⟩ := T.ex
  refine (pe_callB (p := p) (pos := pos) call_isX hg hm PyProof.Rows.boot_isinstance (pa_cons ha (pa_cons (pe_glob (v := .ref (g n)) hg2 (hx n hn).1.mg rfl hdb) pa_nil hs2) hs) (he := hs) (hpl := hpl)).imp fun σ H Q ⟨ρ, F, hR, hS, hP⟩ => ?_
  refine ⟨ρ, F, hR, hS, Post.bind hP fun x dx F1 H1 e1 r1 p1 => ?_⟩
  unfold isExD at p1
  split at p1
  · rename_i c
    by_cases hc : c ∈ cs ∧ n ∈ cs
    · rw [if_pos hc] at p1
      obtain ⟨b, C, oe, rfl, q1, q2, q3, q4, q5⟩ := ex_inv r1
      have eC := (hx c hc.1).1.ns
      rw [q5] at eC
      cases eC
      exact ⟨b, oe, _, _, _, rfl, e1.sub _ _ q1, q2, q3, q4, (hx c hc.1).1.ec, kit_two hx hi hc.1 hn, p1.here e1.sub (.bl _)⟩
    · rw [if_neg hc] at p1; exact p1.elim
  · exact p1.elim
end
/-! ### try .. except VoteError as e -/
/-- the name of the clause goes -/
def O.gone (i : Nat) : O → O
  | .nx ρ => .nx (ρ.set i .un)
  | .bk ρ => .bk (ρ.set i .un)
  | .ct ρ => .ct (ρ.set i .un)
  | .rt d => .rt d
  | .exc _ _ => .stuck
  | .stuck => .stuck
namespace S
def tryE (cs : List Str) (i : Nat) (body suite : SE → O) : SE → O := fun ρ => match body ρ with
  | .exc c ρ1 => if c ∈ cs then (suite (ρ1.set i (.val (exD c)))).gone i else .stuck
  | o => o
end S
section
variable {X : Cx} {Wout : WX} {n : Str} {i : Nat} {body suite : List Stmt} {b₀ : Stmt} {np pos pos' : Pos} {cs : List Str} {gb gs : SE → O}
theorem pxs_try (i : Nat) (T : ET X.K X.mg cs) (tk : Takes X Wout) (hN : X.N.Nodup)
    (hb : ∀ (W : WX) (pn : List (Addr × Obj)) (xe : Value → Shared → Prop), Takes (X.tr pn xe) W → PassesOwn (model X.prog X.w) X.A X.env xe → PXSs (X.tr pn xe) W body gb)
    (hsu : ∀ (a : Addr) (pn : List (Addr × Obj)), PXSs (X.suite a pn) W0 (b₀ :: suite) gs)
    (hs : X.stack = X.env :: X.outer := by rfl) (hf : X.env.frame = some X.env.locals := by rfl) (hex : X.ex = [] := by rfl) (hi : X.N[i]? = some n := by rfl) (hln : X.env.kindOf n = some .local := by rfl) (hg : Gl X "VoteError" := by rfl) :
    PXS X Wout (.Try body [.ExceptHandler (some (.Name "VoteError" np)) (some n) (b₀ :: suite) pos'] [] [] pos) (S.tryE cs i gb gs) := by
  obtain ⟨V, g, hV, v1, v2, v3, hx, hin⟩ := T.ex
  refine (ps_tryE (c := .ref V) (Wout := Wout) (tb := fun W => tOfS X.K X.mg W gb) (ts := fun _ => tOfS X.K X.mg W0 gs) hs hf hex hN hi hln ⟨hg, by decide, .inl hV⟩ tk hb hsu).imp fun Z σ H ⟨ρ, F, F0, H0, r, p⟩ => ⟨ρ, F, F0, H0, r, ?_⟩
  unfold S.tryE at p
  cases q : gb ρ with
  | nx ρ1 => rw [q] at p; exact p
  | rt d => rw [q] at p; exact p
  | bk ρ1 => rw [q] at p; exact p
  | ct ρ1 => rw [q] at p; exact p
  | stuck => rw [q] at p; exact p
  | exc c ρ1 =>
    rw [q] at p
    dsimp only at p
    by_cases hc : c ∈ cs
    · rw [if_pos hc] at p
      intro C σ1 F1 H1 hm r1
      have hxc := (hx c hc).1
      rw [hxc.mg] at hm
      cases hm
      have hsub : PySem.W.subIn X.K (.ref (g c)) (.ref V) = some true := by rw [sub_mro hxc.mro (by simp)]; simp
      refine ⟨true, PySem.W.exm_ref v1 v2 v3 hsub, fun _ a oe na o1 o2 o3 => ?_, fun z => nomatch z⟩
      have e1 : Ext F1 H1 (upd F1 a (ExO a oe)) (upd H1 a (ExO a oe)) := .new r1.sub na
      refine ⟨ρ1.set i (.val (exD c)), _, F0, H0, (r1.grow e1).set (.exn upd_same o1 o2 o3 hxc.ns), ?_⟩
      cases q2 : gs (ρ1.set i (.val (exD c))) with
      | nx ρ2 => rw [q2] at p; exact fun σ2 F2 H2 r2 => p _ F2 H2 r2.unset
      | bk ρ2 => rw [q2] at p; exact fun σ2 F2 H2 r2 => p _ F2 H2 r2.unset
      | ct ρ2 => rw [q2] at p; exact fun σ2 F2 H2 r2 => p _ F2 H2 r2.unset
      | rt d => rw [q2] at p; exact p
      | exc c' ρ2 => rw [q2] at p; exact p.elim
      | stuck => rw [q2] at p; exact p.elim
    · rw [if_neg hc] at p; exact p.elim
end
/-! ### [f, g, ..][k](..) -/
namespace E
def pick (sems : List (List D → R D)) (fi : En → R D) (fa : En → R (List D)) : En → R D := fun ρ => (fi ρ).bind fun k => match k with
  | .int j => match L2.atI sems j with
    | some sem => (fa ρ).bind sem
    | none => .stuck
  | _ => .stuck
end E
theorem atI_two {α β : Type} {xs : List α} {ys : List β} (h : xs.length = ys.length) {i : Int} {y : β} (e : L2.atI ys i = some y) : ∃ (j : Nat) (x : α), L2.atI xs i = some x ∧ xs[j]? = some x ∧ ys[j]? = some y := by
  unfold L2.atI at e ⊢
  rw [h]
  cases q : ixN ys.length i with
  | none => rw [q] at e; cases e
  | some j =>
    rw [q] at e
    have hj : j < xs.length := by rw [h]; exact (List.getElem?_eq_some_iff.mp e).1
    exact ⟨j, xs[j], List.getElem?_eq_getElem hj, List.getElem?_eq_getElem hj, e⟩
section
variable {X : Cx} {W : WX} {es as : List Expr} {ie a : Expr} {fi : En → R D} {fa : En → R (List D)} {p1 p2 pos : Pos}
theorem px_pick (fs : List Addr) (sems : List (List D → R D)) (tk : Takes X W) (hn : PA X es (fun _ H Q => Q (fs.map V.ref) H)) (hl : fs.length = sems.length) (hlen : fs.length ≤ 1000) (hi : PX X W ie fi) (ha : PXA X W (a :: as) fa)
    (hk : ∀ (j : Nat) f sem, fs[j]? = some f → sems[j]? = some sem → ∃ n k fd ps, (∀ ds, ds.length ≠ n → sem ds = .stuck) ∧ PySem.W.keepIn X.K (.ref f) = true ∧ Binds X.K fd ps [] ∧ FnOk X.prog X.w X.K X.mg X.base (L2.CX X.prog X.w) k f fd ps (spP X.K X.mg n sem) ∧ Room k X.A)
    (hs : PlainIx ie := by exact fun _ _ => rfl) (he : starEach (a :: as) X.env = (false, eval a X.env) :: starEach as X.env := by rfl) (hpl : (backTo pos (starEach as X.env)).any (·.1) = false := by rfl)
    (hev : eval (.Call (.Subscript (.List es p1) ie p2) (a :: as) [] pos) X.env = (do callWith pos (← eval (.Subscript (.List es p1) ie p2) X.env) [] (backTo pos (starEach (a :: as) X.env)) (backToKw pos (keywordEach [] X.env))) := by rfl) :
    PX X W (.Call (.Subscript (.List es p1) ie p2) (a :: as) [] pos) (E.pick sems fi fa) := by
  refine ⟨fun pins s σ H Q I ⟨ρ, F, hR, hS, hP⟩ => ?_⟩
  have hz : (fs.map V.ref).length ≤ sizeLine := by rw [List.length_map, sz]; omega
  refine PyProof.Rows.Call_ (thn ((pe_ix ix_list (pe_lst hn) hi hs).run pins s σ H (fun x H1 => ∃ (j : Nat) (f : Addr) (sem : List D → R D) (F1 : Hp), x = .ref f ∧ fs[j]? = some f ∧ sems[j]? = some sem ∧ RelE X.K ρ σ F1 ∧ Same F1 H1 ∧ Post (Rp X.K) X.mg (fun c d H' => W c d σ H') F1 H1 ((fa ρ).bind sem) Q) I ?_) fun v s1 ⟨x, H1, I1, r1, q1⟩ => ?_) hev
  · refine ⟨hz, fun p hp => ?_⟩
    have e0 : Ext F H F (upd H p (.lst (fs.map V.ref))) := .loose hS hp
    refine ⟨ρ, F, hR, e0.sub, Post.bind (Post.ext e0 hP) fun k dk F1 H1 e1 rk p1 => ?_⟩
    cases dk with
    | int i =>
      cases rk
      dsimp only at p1
      cases q : L2.atI sems i with
      | none => rw [q] at p1; exact p1.elim
      | some sem =>
        rw [q] at p1
        obtain ⟨j, f, g1, g2, g3⟩ := atI_two hl q
        have g1' : L2.atI (fs.map V.ref) i = some (.ref f) := by
          unfold L2.atI at g1 ⊢
          rw [List.length_map]
          cases q' : ixN fs.length i with
          | none => rw [q'] at g1; cases g1
          | some m =>
            rw [q'] at g1
            show (fs.map V.ref)[m]? = _
            rw [List.getElem?_map, show fs[m]? = some f from g1]; rfl
        exact ⟨p, _, i, .ref f, rfl, rfl, SqL.of (e1.sH _ _ upd_same), g1', j, f, sem, F1, rfl, g2, g3, hR.mono e1.sF, e1.sub, p1⟩
    | _ => exact p1.elim
  · obtain ⟨j, f, sem, F1, rfl, g2, g3, hR1, hS1, hP1⟩ := q1
    cases r1
    obtain ⟨n, k, fd, ps, len, kp, bd, ok, rm⟩ := hk j f sem g2 g3
    refine PySem.W.callWith_K (h₀ := X.base) I1.ok.mod.kin kp (thn (ha.run pos pins s1 σ H1 _ I1 ⟨ρ, F1, hR1, hS1, Post.bind (Q1 := fun vs H2 => spP X.K X.mg n sem vs H2 Q (fun c d H' => W c d σ H')) hP1 fun vs ds F2 H2 e2 r2 p2 => ?_⟩) fun us s2 ⟨vs, H2, I2, r2, q2⟩ => ⟨I2.kIn, ?_⟩) he hpl
    · have r2 : RpAll X.K F2 vs ds := r2
      have hl : ds.length = n := by
        by_cases h : ds.length = n
        · exact h
        · rw [len ds h] at p2; exact p2.elim
      exact ⟨r2.length.trans hl, F2, ds, e2.sub, r2, p2⟩
    · exact run_fnS ok rm bd (passAt tk σ) I2 r2 q2
end
section
variable {X : Cx} {W : WX} {as : List Expr} {ie a : Expr} {fi : En → R D} {fa : En → R (List D)} {p1 p2 pos q1 q2 q3 : Pos} {x y z : Str} {n1 n2 n3 k1 k2 k3 : Nat} {s1 s2 s3 : List D → R D}
theorem px_pick2 (F1 : Def X.prog X.w X.K X.mg X.base x n1 k1 s1) (F2 : Def X.prog X.w X.K X.mg X.base y n2 k2 s2) (r1 : Room k1 X.A) (r2 : Room k2 X.A) (tk : Takes X W) (hi : PX X W ie fi) (ha : PXA X W (a :: as) fa)
    (g1 : Gl X x := by rfl) (g2 : Gl X y := by rfl) (d1 : (x == ("__debug__" : Str)) = false := by decide) (d2 : (y == ("__debug__" : Str)) = false := by decide)
    (s1' : starEach [.Name x q1, .Name y q2] X.env = (false, eval (.Name x q1) X.env) :: starEach [.Name y q2] X.env := by rfl) (s2' : starEach [.Name y q2] X.env = (false, eval (.Name y q2) X.env) :: starEach [] X.env := by rfl)
    (hs : PlainIx ie := by exact fun _ _ => rfl) (he : starEach (a :: as) X.env = (false, eval a X.env) :: starEach as X.env := by rfl) (hpl : (backTo pos (starEach as X.env)).any (·.1) = false := by rfl)
    (hev : eval (.Call (.Subscript (.List [.Name x q1, .Name y q2] p1) ie p2) (a :: as) [] pos) X.env = (do callWith pos (← eval (.Subscript (.List [.Name x q1, .Name y q2] p1) ie p2) X.env) [] (backTo pos (starEach (a :: as) X.env)) (backToKw pos (keywordEach [] X.env))) := by rfl) :
    PX X W (.Call (.Subscript (.List [.Name x q1, .Name y q2] p1) ie p2) (a :: as) [] pos) (E.pick [s1, s2] fi fa) := by
  obtain ⟨f, fd, ps, m1, b1, c1, ok1⟩ := F1.ex
  obtain ⟨f', fd', ps', m2, b2, c2, ok2⟩ := F2.ex
  refine px_pick [f, f'] [s1, s2] tk (pa_cons (pe_glob (v := .ref f) g1 m1 rfl d1) (pa_cons (pe_glob (v := .ref f') g2 m2 rfl d2) pa_nil s2') s1') rfl (by simp) hi ha (fun j f0 sem h1 h2 => ?_) hs he hpl hev
  rcases j with _ | _ | j
  · cases h1; cases h2; exact ⟨n1, k1, fd, ps, F1.len, b1, c1, ok1, r1⟩
  · cases h1; cases h2; exact ⟨n2, k2, fd', ps', F2.len, b2, c2, ok2, r2⟩
  · simp at h1
theorem px_pick3 (F1 : Def X.prog X.w X.K X.mg X.base x n1 k1 s1) (F2 : Def X.prog X.w X.K X.mg X.base y n2 k2 s2) (F3 : Def X.prog X.w X.K X.mg X.base z n3 k3 s3) (r1 : Room k1 X.A) (r2 : Room k2 X.A) (r3 : Room k3 X.A) (tk : Takes X W) (hi : PX X W ie fi) (ha : PXA X W (a :: as) fa)
    (g1 : Gl X x := by rfl) (g2 : Gl X y := by rfl) (g3 : Gl X z := by rfl) (d1 : (x == ("__debug__" : Str)) = false := by decide) (d2 : (y == ("__debug__" : Str)) = false := by decide) (d3 : (z == ("__debug__" : Str)) = false := by decide)
    (s1' : starEach [.Name x q1, .Name y q2, .Name z q3] X.env = (false, eval (.Name x q1) X.env) :: starEach [.Name y q2, .Name z q3] X.env := by rfl) (s2' : starEach [.Name y q2, .Name z q3] X.env = (false, eval (.Name y q2) X.env) :: starEach [.Name z q3] X.env := by rfl)
    (s3' : starEach [.Name z q3] X.env = (false, eval (.Name z q3) X.env) :: starEach [] X.env := by rfl)
    (hs : PlainIx ie := by exact fun _ _ => rfl) (he : starEach (a :: as) X.env = (false, eval a X.env) :: starEach as X.env := by rfl) (hpl : (backTo pos (starEach as X.env)).any (·.1) = false := by rfl)
    (hev : eval (.Call (.Subscript (.List [.Name x q1, .Name y q2, .Name z q3] p1) ie p2) (a :: as) [] pos) X.env = (do callWith pos (← eval (.Subscript (.List [.Name x q1, .Name y q2, .Name z q3] p1) ie p2) X.env) [] (backTo pos (starEach (a :: as) X.env)) (backToKw pos (keywordEach [] X.env))) := by rfl) :
    PX X W (.Call (.Subscript (.List [.Name x q1, .Name y q2, .Name z q3] p1) ie p2) (a :: as) [] pos) (E.pick [s1, s2, s3] fi fa) := by
  obtain ⟨f, fd, ps, m1, b1, c1, ok1⟩ := F1.ex
  obtain ⟨f', fd', ps', m2, b2, c2, ok2⟩ := F2.ex
  obtain ⟨f3, fd3, ps3, m3, b3, c3, ok3⟩ := F3.ex
  refine px_pick [f, f', f3] [s1, s2, s3] tk (pa_cons (pe_glob (v := .ref f) g1 m1 rfl d1) (pa_cons (pe_glob (v := .ref f') g2 m2 rfl d2) (pa_cons (pe_glob (v := .ref f3) g3 m3 rfl d3) pa_nil s3') s2') s1') rfl (by simp) hi ha (fun j f0 sem h1 h2 => ?_) hs he hpl hev
  rcases j with _ | _ | _ | j
  · cases h1; cases h2; exact ⟨n1, k1, fd, ps, F1.len, b1, c1, ok1, r1⟩
  · cases h1; cases h2; exact ⟨n2, k2, fd', ps', F2.len, b2, c2, ok2, r2⟩
  · cases h1; cases h2; exact ⟨n3, k3, fd3, ps3, F3.len, b3, c3, ok3, r3⟩
  · simp at h1
end
end PV
namespace PV
open PySem PySem.Spec L2
open Classical in
theorem et_mk {K : PySem.W.Frag} {mg : Str → Option Value} (tab : List (Str × Addr)) (V : Addr) (hV : mg "VoteError" = some (.ref V)) (v1 : PySem.W.subIn K (.ref V) (.type "BaseException") = some true) (v2 : PySem.W.hasDictIn K V = true) (v3 : PySem.W.typeIn K (.ref V) = some (.type "type"))
    (hx : ∀ p ∈ tab, ExF K mg p.1 p.2 V) (nd : (V :: tab.map (·.2)).Nodup) : ET K mg (tab.map (·.1)) := by
  have ex : ∀ c ∈ tab.map (·.1), ∃ C, (c, C) ∈ tab := fun c hc => by
    obtain ⟨p, hp, rfl⟩ := List.mem_map.mp hc
    exact ⟨p.2, hp⟩
  have nd' := List.nodup_cons.mp nd
  refine ⟨V, fun c => if h : ∃ C, (c, C) ∈ tab then Classical.choose h else 0, hV, v1, v2, v3, fun c hc => ?_, fun c hc c' hc' e => ?_⟩
  · have h := ex c hc
    have hm := Classical.choose_spec h
    simp only [dif_pos h]
    exact ⟨hx _ hm, fun z => nd'.1 (by rw [← z]; exact List.mem_map.mpr ⟨_, hm, rfl⟩)⟩
  · have h := ex c hc
    have h' := ex c' hc'
    have hm := Classical.choose_spec h
    have hm' := Classical.choose_spec h'
    simp only [dif_pos h, dif_pos h'] at e
    rw [← e] at hm'
    obtain ⟨i, hi, ei⟩ := List.getElem_of_mem hm
    obtain ⟨j, hj, ej⟩ := List.getElem_of_mem hm'
    have pw := List.pairwise_iff_getElem.mp nd'.2
    rcases Nat.lt_trichotomy i j with k | k | k
    · exact absurd (by rw [List.getElem_map, List.getElem_map, ei, ej]) (pw i j (by simpa using hi) (by simpa using hj) k)
    · subst k; rw [ei] at ej; injection ej
    · exact absurd (by rw [List.getElem_map, List.getElem_map, ei, ej]) (pw j i (by simpa using hj) (by simpa using hi) k)
theorem exf_mk {K : PySem.W.Frag} {mg : Str → Option Value} {x : Str} {C V : Addr} (ns : PySem.W.nsIn K mainGlobals x = some (some (.ref C))) (hm : mg x = some (.ref C)) (mro : mroL K C = some [.ref C, .ref V, .type "ValueError", .type "Exception", .type "BaseException", .type "object"])
    (ty : PySem.W.typeIn K (.ref C) = some (.type "type")) (ga : PySem.W.findIn K (.ref C) "__getattribute__" = some (some (.builtin "BaseException.__getattribute__"))) (gt : PySem.W.findIn K (.ref C) "__getattr__" = some none) (dc : PySem.W.hasDictIn K C = true)
    (ca : PySem.W.findIn K (.ref C) "__class__" = some (some (.builtin "object.__class__"))) (sp : PySem.W.specialIn K (.builtin "object.__class__") "__get__" = some (some (.builtin "getset_descriptor.__get__"))) (tk : PySem.W.takesIn K (.builtin "object.__class__") = some true) : ExF K mg x C V :=
  ⟨ns, hm, mro, ty, ga, gt, by rw [sub_mro mro (by simp)]; simp, dc, ca, sp, tk, by
    have := sub_mro mro (by simp) (.type "object")
    have e : PySem.W.mroIn K C (.type "object") = _ := this
    rw [e]; simp⟩
end PV

namespace PV
open PySem PySem.Spec L2
def sem__law_offsets : List D → R D := fn 3 7 (S.seq (S.asg (G.tup [3, 4, 5, 6]) (M.v (E.var 0)))
    (S.seq (S.set 7 (M.v (E.op2 subD (E.op2 subD (E.var 6) (E.var 3)) (E.op2 subD (E.var 5) (E.var 4)))))
    (S.seq (S.setO 8 (M.v (N.disp (A.nil))))
    (S.seq (S.for_ (I.range2 (A.cons (E.var 1) (A.cons (E.op2 addD (E.op2 subD (E.var 7) (E.var 2)) (E.con (.int 1))) (A.nil)))) (G.name 9)
    (S.append 8 (M.v (E.op2 subD (E.op2 subD (E.var 4) (E.var 3)) (E.var 9)))))
    (S.frz 8 (S.ret (M.v (E.bi sortF (A.cons (E.var 8) (A.nil))))))))))
def sem__law_drawn : List D → R D := fn 3 3 (S.seq (S.set 3 (M.v (E.op2 mulD (E.con (.int 7)) (E.var 1))))
    (S.seq (S.ite (M.v (T.of (E.op2 neD (E.var 0) (E.lst (A.nil)))))
    (S.seq (S.set 3 (M.v (E.op2 ixD (E.var 0) (E.op2 modD (E.var 1) (E.bi lenF (A.cons (E.var 0) (A.nil)))))))
    (S.seq (S.set 4 (M.v (E.op2 fdivD (E.var 1) (E.bi lenF (A.cons (E.var 0) (A.nil))))))
    (S.seq (S.ite (M.v (T.and (T.of (E.op2 geD (E.var 3) (E.op2 powD (E.con (.int 10)) (E.con (.int 18))))) (T.of (E.op2 ltD (E.var 4) (E.con (.int 60))))))
    (S.seq (S.set 5 (M.v (E.op2 fdivD (E.var 3) (E.op2 powD (E.con (.int 10)) (E.con (.int 18))))))
    (S.seq (S.while_ 20000 (M.v (T.and (T.of (E.op2 gtD (E.var 5) (E.con (.int 0)))) (T.of (E.op2 gtD (E.var 4) (E.con (.int 0))))))
    (S.seq (S.set 5 (M.v (E.op2 fdivD (E.var 5) (E.con (.int 1000000)))))
    (S.set 4 (M.v (E.op2 subD (E.var 4) (E.con (.int 1)))))))
    (S.ite (M.v (T.of (E.op2 gtD (E.var 5) (E.con (.int 0)))))
    (S.ret (M.v (E.op2 modD (E.op2 modD (E.var 5) (E.con (.int 1000000))) (E.var 2))))
    (S.skip))))
    (S.skip))
    (S.set 3 (M.v (E.op2 addD (E.var 3) (E.op2 mulD (E.con (.int 6553)) (E.op2 fdivD (E.var 1) (E.bi lenF (A.cons (E.var 0) (A.nil)))))))))))
    (S.skip))
    (S.seq (S.set 3 (M.v (E.op2 modD (E.op2 addD (E.op2 mulD (E.op2 modD (E.var 3) (E.con (.int 2147483563))) (E.con (.int 69069))) (E.op2 mulD (E.con (.int 104723)) (E.op2 addD (E.var 1) (E.con (.int 1))))) (E.con (.int 2147483563)))))
    (S.seq (S.set 3 (M.v (E.op2 modD (E.op2 addD (E.op2 mulD (E.var 3) (E.var 3)) (E.op2 fdivD (E.var 3) (E.con (.int 3)))) (E.con (.int 2147483399)))))
    (S.ret (M.v (E.op2 modD (E.op2 fdivD (E.op2 modD (E.op2 addD (E.op2 mulD (E.var 3) (E.var 3)) (E.op2 fdivD (E.var 3) (E.con (.int 7)))) (E.con (.int 2147483647))) (E.con (.int 11))) (E.var 2))))))))
def sem_is_exchange : List D → R D := fn 1 5 (S.seq (S.ite (M.v (T.or (T.not (T.of (E.op1 (isiD "tuple") (E.var 0)))) (T.or (T.of (E.op2 neD (E.bi lenF (A.cons (E.var 0) (A.nil))) (E.con (.int 4)))) (T.not (T.of (E.bi allF (A.cons (E.ofL (N.comp (I.seq (E.var 0)) (GE.name 5) T.yes (E.call sem_is_time (A.cons (E.var 5) (A.nil))) [5])) (A.nil))))))))
    (S.ret (M.v (E.con (.bool false))))
    (S.skip))
    (S.seq (S.asg (G.tup [1, 2, 3, 4]) (M.v (E.var 0)))
    (S.ret (M.v (E.and (E.op2 leD (E.var 1) (E.var 4)) (E.and (E.op2 leD (E.var 2) (E.var 3)) ((E.op2 leD (E.op2 subD (E.var 3) (E.var 2)) (E.op2 subD (E.var 4) (E.var 1))))))))))
def sem_check_exchange : List D → R D := fn 1 0 (S.ite (M.v (T.not (T.of (E.call sem_is_exchange (A.cons (E.var 0) (A.nil))))))
    (S.raise "InvalidExchange")
    (S.skip))
def sem_find_delay : List D → R D := fn 1 4 (S.seq (S.asg (G.tup [1, 2, 3, 4]) (M.v (E.var 0)))
    (S.ret (M.v (E.op2 subD (E.op2 subD (E.var 4) (E.var 1)) (E.op2 subD (E.var 3) (E.var 2))))))
def sem_delay : List D → R D := fn 1 0 (S.seq (S.ex (M.v (E.call sem_check_exchange (A.cons (E.var 0) (A.nil)))))
    (S.ret (M.v (E.call sem_find_delay (A.cons (E.var 0) (A.nil))))))
def sem_find_offsets : List D → R D := fn 1 4 (S.seq (S.asg (G.tup [1, 2, 3, 4]) (M.v (E.var 0)))
    (S.ret (M.v (E.tup (A.cons (E.op2 subD (E.var 3) (E.var 4)) (A.cons (E.op2 subD (E.var 2) (E.var 1)) (A.nil)))))))
def sem_offsets : List D → R D := fn 1 0 (S.seq (S.ex (M.v (E.call sem_check_exchange (A.cons (E.var 0) (A.nil)))))
    (S.ret (M.v (E.call sem_find_offsets (A.cons (E.var 0) (A.nil))))))
def sem_common_offsets : List D → R D := fn 1 6 (S.seq (S.ite (M.v (T.or (T.not (T.of (E.op1 (isiD "list") (E.var 0)))) (T.not (T.of (E.chain leD leD (E.con (.int 1)) (E.bi lenF (A.cons (E.var 0) (A.nil))) (E.con (.int 10)))))))
    (S.raise "InvalidExchanges")
    (S.skip))
    (S.seq (S.ite (M.v (T.not (T.of (E.bi allF (A.cons (E.ofL (N.comp (I.seq (E.var 0)) (GE.name 4) T.yes (E.call sem_is_exchange (A.cons (E.var 4) (A.nil))) [4])) (A.nil))))))
    (S.raise "InvalidExchanges")
    (S.skip))
    (S.seq (S.set 1 (M.ofF (M.v (N.comp (I.seq (E.var 0)) (GE.name 4) T.yes (E.call sem_find_offsets (A.cons (E.var 4) (A.nil))) [4]))))
    (S.seq (S.asgB [2, 3] (Bs.val (M.v (E.bi maxF (A.cons (E.ofL (N.comp (I.seq (E.var 1)) (GE.tup [5, 6]) T.yes (E.var 5) [5, 6])) (A.nil)))) (Bs.val (M.v (E.bi minF (A.cons (E.ofL (N.comp (I.seq (E.var 1)) (GE.tup [5, 6]) T.yes (E.var 6) [5, 6])) (A.nil)))) (Bs.nil))))
    (S.ret (M.v (E.ite (T.of (E.op2 leD (E.var 2) (E.var 3))) (E.tup (A.cons (E.var 2) (A.cons (E.var 3) (A.nil)))) (E.con .none))))))))
def sem_report_of : List D → R D := fn 3 2 (S.seq (S.ite (M.v (T.not (T.of (E.call sem_is_name (A.cons (E.var 0) (A.nil))))))
    (S.raise "InvalidName")
    (S.skip))
    (S.seq (S.ex (M.v (E.call sem_check_exchange (A.cons (E.var 1) (A.nil)))))
    (S.seq (S.ite (M.v (T.or (T.not (T.of (E.call sem_is_time (A.cons (E.var 2) (A.nil))))) (T.of (E.op2 ltD (E.var 2) (E.op2 ixD (E.var 1) (E.con (.int 3)))))))
    (S.raise "InvalidTime")
    (S.skip))
    (S.seq (S.asg (G.tup [3, 4]) (M.v (E.call sem_find_offsets (A.cons (E.var 1) (A.nil)))))
    (S.seq (S.ite (M.v (T.or (T.not (T.of (E.call sem_is_time (A.cons (E.op2 addD (E.var 2) (E.var 3)) (A.nil))))) (T.not (T.of (E.call sem_is_time (A.cons (E.op2 addD (E.var 2) (E.var 4)) (A.nil)))))))
    (S.raise "TooLarge")
    (S.skip))
    (S.ret (M.v (E.tup (A.cons (E.var 0) (A.cons (E.op2 addD (E.var 2) (E.var 3)) (A.cons (E.op2 addD (E.var 2) (E.var 4)) (A.nil))))))))))))
def sem_check_delays : List D → R D := fn 2 0 (S.ite (M.v (T.or (T.not (T.of (E.call sem_is_time (A.cons (E.var 0) (A.nil))))) (T.not (T.of (E.call sem_is_time (A.cons (E.var 1) (A.nil)))))))
    (S.raise "InvalidDelays")
    (S.skip))
def sem_offsets_with : List D → R D := fn 3 2 (S.seq (S.ex (M.v (E.call sem_check_exchange (A.cons (E.var 0) (A.nil)))))
    (S.seq (S.ex (M.v (E.call sem_check_delays (A.cons (E.var 1) (A.cons (E.var 2) (A.nil))))))
    (S.seq (S.ite (M.v (T.of (E.op2 gtD (E.op2 addD (E.var 1) (E.var 2)) (E.call sem_find_delay (A.cons (E.var 0) (A.nil))))))
    (S.raise "InvalidDelays")
    (S.skip))
    (S.seq (S.asg (G.tup [3, 4]) (M.v (E.call sem_find_offsets (A.cons (E.var 0) (A.nil)))))
    (S.ret (M.v (E.tup (A.cons (E.op2 addD (E.var 3) (E.var 2)) (A.cons (E.op2 subD (E.var 4) (E.var 1)) (A.nil))))))))))
def sem_delayed : List D → R D := fn 3 4 (S.seq (S.ex (M.v (E.call sem_check_exchange (A.cons (E.var 0) (A.nil)))))
    (S.seq (S.ex (M.v (E.call sem_check_delays (A.cons (E.var 1) (A.cons (E.var 2) (A.nil))))))
    (S.seq (S.asg (G.tup [3, 4, 5, 6]) (M.v (E.var 0)))
    (S.seq (S.ite (M.v (T.or (T.of (E.op2 gtD (E.op2 addD (E.var 5) (E.var 1)) (E.con (.int 9999)))) (T.of (E.op2 gtD (E.op2 addD (E.op2 addD (E.var 6) (E.var 1)) (E.var 2)) (E.con (.int 9999))))))
    (S.raise "TooLarge")
    (S.skip))
    (S.ret (M.v (E.tup (A.cons (E.var 3) (A.cons (E.op2 addD (E.var 4) (E.var 1)) (A.cons (E.op2 addD (E.var 5) (E.var 1)) (A.cons (E.op2 addD (E.op2 addD (E.var 6) (E.var 1)) (E.var 2)) (A.nil))))))))))))
def tb__law_error : SE → O := S.ite (M.v (T.of (E.op2 ltD (E.var 0) (E.con (.int 2)))))
    (S.ex (M.v (E.pick [sem_delay, sem_offsets] (E.var 0) (A.cons (E.var 1) (A.nil)))))
    (S.ite (M.v (T.of (E.op2 ltD (E.var 0) (E.con (.int 4)))))
    (S.ex (M.v (E.pick [sem_offsets_with, sem_delayed] (E.op2 subD (E.var 0) (E.con (.int 2))) (A.cons (E.var 1) (A.cons (E.var 2) (A.cons (E.var 3) (A.nil)))))))
    (S.ite (M.v (T.of (E.op2 eqD (E.var 0) (E.con (.int 4)))))
    (S.ex (M.v (E.call sem_common_offsets (A.cons (E.var 1) (A.nil)))))
    (S.ex (M.v (E.call sem_report_of (A.cons (E.var 1) (A.cons (E.var 2) (A.cons (E.var 3) (A.nil)))))))))
def ts__law_error : SE → O := S.seq (S.set 5 (M.v (E.lst (A.cons (E.op1 (isExD ["InvalidTime", "TooLarge", "InvalidExchange", "InvalidExchanges", "InvalidDelays", "InvalidName"] "InvalidExchange") (E.var 4)) (A.cons (E.op1 (isExD ["InvalidTime", "TooLarge", "InvalidExchange", "InvalidExchanges", "InvalidDelays", "InvalidName"] "InvalidDelays") (E.var 4)) (A.nil))))))
    (S.seq (S.set 5 (M.v (E.op2 addD (E.var 5) (E.lst (A.cons (E.op1 (isExD ["InvalidTime", "TooLarge", "InvalidExchange", "InvalidExchanges", "InvalidDelays", "InvalidName"] "InvalidExchanges") (E.var 4)) (A.nil))))))
    (S.seq (S.set 5 (M.v (E.op2 addD (E.var 5) (E.lst (A.cons (E.op1 (isExD ["InvalidTime", "TooLarge", "InvalidExchange", "InvalidExchanges", "InvalidDelays", "InvalidName"] "InvalidName") (E.var 4)) (A.cons (E.op1 (isExD ["InvalidTime", "TooLarge", "InvalidExchange", "InvalidExchanges", "InvalidDelays", "InvalidName"] "InvalidTime") (E.var 4)) (A.nil)))))))
    (S.seq (S.set 5 (M.v (E.op2 addD (E.var 5) (E.lst (A.cons (E.op1 (isExD ["InvalidTime", "TooLarge", "InvalidExchange", "InvalidExchanges", "InvalidDelays", "InvalidName"] "TooLarge") (E.var 4)) (A.nil))))))
    (S.ret (M.v (E.lindex (E.var 5) (E.con (.bool true))))))))
def sem__law_error : List D → R D := fn 4 2 (S.seq (S.tryE ["InvalidTime", "TooLarge", "InvalidExchange", "InvalidExchanges", "InvalidDelays", "InvalidName"] 4
    (tb__law_error)
    (ts__law_error))
    (S.ret (M.v (E.con .none))))
def sem__law_rejected : List D → R D := fn 2 5 (S.seq (S.set 2 (M.v (E.lst (A.cons (E.con .none) (A.cons (E.tup (A.nil)) (A.cons (E.slice (E.var 1) O.non (O.som (E.con (.int 3)))) (A.cons (E.bi listF (A.cons (E.var 1) (A.nil))) (A.cons (E.tup (A.cons (E.op2 ixD (E.var 1) (E.con (.int 0))) (A.cons (E.op2 ixD (E.var 1) (E.con (.int 1))) (A.cons (E.op2 subD (E.op2 ixD (E.var 1) (E.con (.int 1))) (E.con (.int 1))) (A.cons (E.op2 ixD (E.var 1) (E.con (.int 3))) (A.nil)))))) (A.nil)))))))))
    (S.seq (S.set 2 (M.v (E.op2 addD (E.var 2) (E.lst (A.cons (E.op2 addD (E.tup (A.cons (E.op2 addD (E.op2 ixD (E.var 1) (E.con (.int 3))) (E.con (.int 1))) (A.nil))) (E.slice (E.var 1) (O.som (E.con (.int 1))) O.non)) (A.cons (E.op2 addD (E.tup (A.cons (E.con (.bool true)) (A.nil))) (E.slice (E.var 1) (O.som (E.con (.int 1))) O.non)) (A.nil)))))))
    (S.seq (S.set 2 (M.v (E.op2 ixD (E.op2 addD (E.var 2) (E.lst (A.cons (E.op2 addD (E.op2 addD (E.slice (E.var 1) O.non (O.som (E.con (.int 2)))) (E.tup (A.cons (E.op2 addD (E.op2 ixD (E.var 1) (E.con (.int 2))) (E.con (.int 99))) (A.nil)))) (E.slice (E.var 1) (O.som (E.con (.int 3))) O.non)) (A.cons (E.op2 addD (E.tup (A.cons (E.con (.int 10000)) (A.nil))) (E.slice (E.var 1) (O.som (E.con (.int 1))) O.non)) (A.nil))))) (E.call sem__law_drawn (A.cons (E.var 0) (A.cons (E.con (.int 50)) (A.cons (E.con (.int 9)) (A.nil))))))))
    (S.seq (S.set 3 (M.v (E.op2 ixD (E.lst (A.cons (E.op1 negD (E.con (.int 1))) (A.cons (E.con (.int 10000)) (A.cons (E.con .none) (A.cons (E.con (.bool true)) (A.cons (E.con (.str "1")) (A.nil))))))) (E.call sem__law_drawn (A.cons (E.var 0) (A.cons (E.con (.int 51)) (A.cons (E.con (.int 5)) (A.nil))))))))
    (S.seq (S.set 4 (M.v (E.lst (A.cons (E.call sem__law_error (A.cons (E.con (.int 0)) (A.cons (E.var 2) (A.cons (E.con (.int 0)) (A.cons (E.con (.int 0)) (A.nil)))))) (A.cons (E.call sem__law_error (A.cons (E.con (.int 1)) (A.cons (E.var 2) (A.cons (E.con (.int 0)) (A.cons (E.con (.int 0)) (A.nil)))))) (A.cons (E.call sem__law_error (A.cons (E.con (.int 2)) (A.cons (E.var 2) (A.cons (E.var 3) (A.cons (E.var 3) (A.nil)))))) (A.nil)))))))
    (S.seq (S.set 4 (M.v (E.op2 addD (E.var 4) (E.lst (A.cons (E.call sem__law_error (A.cons (E.con (.int 3)) (A.cons (E.var 2) (A.cons (E.var 3) (A.cons (E.var 3) (A.nil)))))) (A.nil))))))
    (S.seq (S.set 4 (M.v (E.op2 addD (E.var 4) (E.lst (A.cons (E.call sem__law_error (A.cons (E.con (.int 2)) (A.cons (E.var 1) (A.cons (E.var 3) (A.cons (E.con (.int 0)) (A.nil)))))) (A.cons (E.call sem__law_error (A.cons (E.con (.int 2)) (A.cons (E.var 1) (A.cons (E.con (.int 0)) (A.cons (E.var 3) (A.nil)))))) (A.cons (E.call sem__law_error (A.cons (E.con (.int 3)) (A.cons (E.var 1) (A.cons (E.var 3) (A.cons (E.con (.int 0)) (A.nil)))))) (A.nil))))))))
    (S.seq (S.set 4 (M.v (E.op2 addD (E.var 4) (E.lst (A.cons (E.call sem__law_error (A.cons (E.con (.int 3)) (A.cons (E.var 1) (A.cons (E.con (.int 0)) (A.cons (E.var 3) (A.nil)))))) (A.nil))))))
    (S.seq (S.set 4 (M.v (E.op2 addD (E.var 4) (E.lst (A.cons (E.call sem__law_error (A.cons (E.con (.int 2)) (A.cons (E.var 1) (A.cons (E.con (.int 0)) (A.cons (E.con (.int 61)) (A.nil)))))) (A.cons (E.call sem__law_error (A.cons (E.con (.int 3)) (A.cons (E.var 1) (A.cons (E.con (.int 9990)) (A.cons (E.con (.int 0)) (A.nil)))))) (A.nil)))))))
    (S.seq (S.set 4 (M.v (E.op2 addD (E.var 4) (E.lst (A.cons (E.call sem__law_error (A.cons (E.con (.int 3)) (A.cons (E.var 1) (A.cons (E.con (.int 1)) (A.cons (E.con (.int 9999)) (A.nil)))))) (A.nil))))))
    (S.seq (S.ite (M.v (T.of (E.op2 neD (E.var 4) (E.lst (A.cons (E.con (.int 0)) (A.cons (E.con (.int 0)) (A.cons (E.con (.int 0)) (A.cons (E.con (.int 0)) (A.cons (E.con (.int 1)) (A.cons (E.con (.int 1)) (A.cons (E.con (.int 1)) (A.cons (E.con (.int 1)) (A.cons (E.con (.int 1)) (A.cons (E.con (.int 5)) (A.cons (E.con (.int 5)) (A.nil))))))))))))))))
    (S.ret (M.v (E.con (.bool false))))
    (S.skip))
    (S.seq (S.set 5 (M.v (E.op2 ixD (E.lst (A.cons (E.con .none) (A.cons (E.lst (A.nil)) (A.cons (E.tup (A.cons (E.var 1) (A.nil))) (A.cons (E.op2 mulD (E.lst (A.cons (E.var 1) (A.nil))) (E.con (.int 11))) (A.cons (E.lst (A.cons (E.var 1) (A.cons (E.con .none) (A.nil)))) (A.cons (E.lst (A.cons (E.var 1) (A.cons (E.var 2) (A.nil)))) (A.nil)))))))) (E.call sem__law_drawn (A.cons (E.var 0) (A.cons (E.con (.int 52)) (A.cons (E.con (.int 6)) (A.nil))))))))
    (S.seq (S.ite (M.v (T.or (T.of (E.op2 neD (E.call sem__law_error (A.cons (E.con (.int 4)) (A.cons (E.var 5) (A.cons (E.con (.int 0)) (A.cons (E.con (.int 0)) (A.nil)))))) (E.con (.int 2)))) (T.of (E.op2 isNotD (E.call sem__law_error (A.cons (E.con (.int 4)) (A.cons (E.op2 mulD (E.lst (A.cons (E.var 1) (A.nil))) (E.con (.int 10))) (A.cons (E.con (.int 0)) (A.cons (E.con (.int 0)) (A.nil)))))) (E.con .none)))))
    (S.ret (M.v (E.con (.bool false))))
    (S.skip))
    (S.seq (S.set 6 (M.v (E.op2 ixD (E.lst (A.cons (E.con .none) (A.cons (E.con (.str "")) (A.cons (E.con (.str "A")) (A.cons (E.con (.str "abcd")) (A.cons (E.con (.int 7)) (A.cons (E.tup (A.cons (E.con (.str "a")) (A.nil))) (A.nil)))))))) (E.call sem__law_drawn (A.cons (E.var 0) (A.cons (E.con (.int 53)) (A.cons (E.con (.int 6)) (A.nil))))))))
    (S.seq (S.set 4 (M.v (E.lst (A.cons (E.call sem__law_error (A.cons (E.con (.int 5)) (A.cons (E.var 6) (A.cons (E.var 2) (A.cons (E.var 3) (A.nil)))))) (A.cons (E.call sem__law_error (A.cons (E.con (.int 5)) (A.cons (E.con (.str "a")) (A.cons (E.var 2) (A.cons (E.var 3) (A.nil)))))) (A.nil))))))
    (S.seq (S.set 4 (M.v (E.op2 addD (E.var 4) (E.lst (A.cons (E.call sem__law_error (A.cons (E.con (.int 5)) (A.cons (E.con (.str "a")) (A.cons (E.var 1) (A.cons (E.var 3) (A.nil)))))) (A.nil))))))
    (S.seq (S.set 4 (M.v (E.op2 addD (E.var 4) (E.lst (A.cons (E.call sem__law_error (A.cons (E.con (.int 5)) (A.cons (E.con (.str "a")) (A.cons (E.var 1) (A.cons (E.op2 subD (E.op2 ixD (E.var 1) (E.con (.int 3))) (E.con (.int 1))) (A.nil)))))) (A.cons (E.call sem__law_error (A.cons (E.con (.int 5)) (A.cons (E.con (.str "a")) (A.cons (E.var 1) (A.cons (E.con (.int 9999)) (A.nil)))))) (A.nil)))))))
    (S.seq (S.set 4 (M.v (E.op2 addD (E.var 4) (E.lst (A.cons (E.call sem__law_error (A.cons (E.con (.int 5)) (A.cons (E.con (.str "a")) (A.cons (E.tup (A.cons (E.con (.int 50)) (A.cons (E.con (.int 0)) (A.cons (E.con (.int 0)) (A.cons (E.con (.int 60)) (A.nil)))))) (A.cons (E.con (.int 60)) (A.nil)))))) (A.nil))))))
    (S.ret (M.v (E.op2 eqD (E.var 4) (E.lst (A.cons (E.con (.int 3)) (A.cons (E.con (.int 0)) (A.cons (E.con (.int 4)) (A.cons (E.con (.int 4)) (A.cons (E.con (.int 5)) (A.cons (E.con .none) (A.nil)))))))))))))))))))))))))))))
def sem__law_exchange : List D → R D := fn 2 6 (S.seq (S.asgB [2, 3, 4] (Bs.val (M.v (E.call sem__law_drawn (A.cons (E.var 0) (A.cons (E.var 1) (A.cons (E.con (.int 200)) (A.nil)))))) (Bs.val (M.v (E.call sem__law_drawn (A.cons (E.var 0) (A.cons (E.op2 addD (E.var 1) (E.con (.int 1))) (A.cons (E.con (.int 30)) (A.nil)))))) (Bs.val (M.v (E.call sem__law_drawn (A.cons (E.var 0) (A.cons (E.op2 addD (E.var 1) (E.con (.int 2))) (A.cons (E.con (.int 30)) (A.nil)))))) (Bs.nil)))))
    (S.seq (S.asgB [5, 6] (Bs.val (M.v (E.op2 addD (E.con (.int 40)) (E.call sem__law_drawn (A.cons (E.var 0) (A.cons (E.op2 addD (E.var 1) (E.con (.int 3))) (A.cons (E.con (.int 300)) (A.nil))))))) (Bs.val (M.v (E.call sem__law_drawn (A.cons (E.var 0) (A.cons (E.op2 addD (E.var 1) (E.con (.int 4))) (A.cons (E.con (.int 20)) (A.nil)))))) (Bs.nil))))
    (S.seq (S.set 7 (M.v (E.op2 addD (E.op2 addD (E.var 2) (E.var 3)) (E.var 5))))
    (S.ret (M.v (E.tup (A.cons (E.var 2) (A.cons (E.var 7) (A.cons (E.op2 addD (E.var 7) (E.var 6)) (A.cons (E.op2 addD (E.op2 addD (E.op2 addD (E.var 2) (E.var 3)) (E.var 6)) (E.var 4)) (A.nil)))))))))))
def sem_law_k52 : List D → R D := fn 1 11 (S.seq (S.asgB [1, 2] (Bs.val (M.v (E.call sem__law_exchange (A.cons (E.var 0) (A.cons (E.con (.int 1)) (A.nil))))) (Bs.val (M.v (E.call sem__law_exchange (A.cons (E.var 0) (A.cons (E.con (.int 11)) (A.nil))))) (Bs.nil))))
    (S.seq (S.set 3 (M.v (E.op2 subD (E.op2 subD (E.op2 ixD (E.var 1) (E.con (.int 3))) (E.op2 ixD (E.var 1) (E.con (.int 0)))) (E.op2 subD (E.op2 ixD (E.var 1) (E.con (.int 2))) (E.op2 ixD (E.var 1) (E.con (.int 1)))))))
    (S.seq (S.set 4 (M.v (E.call sem__law_offsets (A.cons (E.var 1) (A.cons (E.con (.int 0)) (A.cons (E.con (.int 0)) (A.nil)))))))
    (S.seq (S.ite (M.v (T.or (T.of (E.op2 neD (E.call sem_delay (A.cons (E.var 1) (A.nil))) (E.var 3))) (T.or (T.of (E.op2 neD (E.call sem_offsets (A.cons (E.var 1) (A.nil))) (E.tup (A.cons (E.op2 ixD (E.var 4) (E.con (.int 0))) (A.cons (E.op2 ixD (E.var 4) (E.op1 negD (E.con (.int 1)))) (A.nil)))))) (T.of (E.op2 neD (E.bi lenF (A.cons (E.var 4) (A.nil))) (E.op2 addD (E.var 3) (E.con (.int 1))))))))
    (S.ret (M.v (E.con (.bool false))))
    (S.skip))
    (S.seq (S.set 5 (M.v (E.call sem__law_drawn (A.cons (E.var 0) (A.cons (E.con (.int 21)) (A.cons (E.op2 addD (E.var 3) (E.con (.int 2))) (A.nil)))))))
    (S.seq (S.set 6 (M.v (E.call sem__law_drawn (A.cons (E.var 0) (A.cons (E.con (.int 22)) (A.cons (E.op2 addD (E.var 3) (E.con (.int 2))) (A.nil)))))))
    (S.seq (S.set 4 (M.v (E.call sem__law_offsets (A.cons (E.var 1) (A.cons (E.var 5) (A.cons (E.var 6) (A.nil)))))))
    (S.seq (S.ite (M.v (T.of (E.op2 eqD (E.var 4) (E.lst (A.nil)))))
    (S.ite (M.v (T.of (E.op2 neD (E.call sem__law_error (A.cons (E.con (.int 2)) (A.cons (E.var 1) (A.cons (E.var 5) (A.cons (E.var 6) (A.nil)))))) (E.con (.int 1)))))
    (S.ret (M.v (E.con (.bool false))))
    (S.skip))
    (S.ite (M.v (T.of (E.op2 neD (E.call sem_offsets_with (A.cons (E.var 1) (A.cons (E.var 5) (A.cons (E.var 6) (A.nil))))) (E.tup (A.cons (E.op2 ixD (E.var 4) (E.con (.int 0))) (A.cons (E.op2 ixD (E.var 4) (E.op1 negD (E.con (.int 1)))) (A.nil)))))))
    (S.ret (M.v (E.con (.bool false))))
    (S.skip)))
    (S.seq (S.set 7 (M.v (E.slice (E.lst (A.cons (E.var 1) (A.cons (E.var 2) (A.cons (E.call sem__law_exchange (A.cons (E.var 0) (A.cons (E.con (.int 31)) (A.nil)))) (A.nil))))) O.non (O.som (E.op2 addD (E.con (.int 1)) (E.call sem__law_drawn (A.cons (E.var 0) (A.cons (E.con (.int 23)) (A.cons (E.con (.int 3)) (A.nil))))))))))
    (S.seq (S.set 4 (M.v (E.call sem__law_offsets (A.cons (E.var 1) (A.cons (E.con (.int 0)) (A.cons (E.con (.int 0)) (A.nil)))))))
    (S.seq (S.for_ (I.seq (E.var 7)) (G.name 8)
    (S.set 4 (M.ofF (M.v (N.comp (I.seq (E.var 4)) (GE.name 11) (T.of (E.op2 inD (E.var 11) (E.call sem__law_offsets (A.cons (E.var 8) (A.cons (E.con (.int 0)) (A.cons (E.con (.int 0)) (A.nil))))))) (E.var 11) [11])))))
    (S.seq (S.ite (M.v (T.of (E.op2 neD (E.call sem_common_offsets (A.cons (E.var 7) (A.nil))) (E.ite (T.of (E.op2 eqD (E.var 4) (E.lst (A.nil)))) (E.con .none) (E.tup (A.cons (E.op2 ixD (E.var 4) (E.con (.int 0))) (A.cons (E.op2 ixD (E.var 4) (E.op1 negD (E.con (.int 1)))) (A.nil))))))))
    (S.ret (M.v (E.con (.bool false))))
    (S.skip))
    (S.seq (S.set 9 (M.v (E.tup (A.cons (E.op2 ixD (E.var 1) (E.con (.int 0))) (A.cons (E.op2 addD (E.op2 ixD (E.var 1) (E.con (.int 1))) (E.var 5)) (A.cons (E.op2 addD (E.op2 ixD (E.var 1) (E.con (.int 2))) (E.var 5)) (A.cons (E.op2 addD (E.op2 addD (E.op2 ixD (E.var 1) (E.con (.int 3))) (E.var 5)) (E.var 6)) (A.nil))))))))
    (S.seq (S.ite (M.v (T.of (E.op2 neD (E.call sem_delayed (A.cons (E.var 1) (A.cons (E.var 5) (A.cons (E.var 6) (A.nil))))) (E.var 9))))
    (S.ret (M.v (E.con (.bool false))))
    (S.skip))
    (S.seq (S.ite (M.v (T.of (E.op2 neD (E.call sem_offsets (A.cons (E.var 9) (A.nil))) (E.tup (A.cons (E.op2 subD (E.op2 ixD (E.call sem_offsets (A.cons (E.var 1) (A.nil))) (E.con (.int 0))) (E.var 6)) (A.cons (E.op2 addD (E.op2 ixD (E.call sem_offsets (A.cons (E.var 1) (A.nil))) (E.con (.int 1))) (E.var 5)) (A.nil)))))))
    (S.ret (M.v (E.con (.bool false))))
    (S.skip))
    (S.seq (S.set 10 (M.v (E.op2 addD (E.op2 ixD (E.var 1) (E.con (.int 3))) (E.call sem__law_drawn (A.cons (E.var 0) (A.cons (E.con (.int 24)) (A.cons (E.con (.int 50)) (A.nil))))))))
    (S.seq (S.ite (M.v (T.of (E.op2 neD (E.call sem_report_of (A.cons (E.con (.str "ab")) (A.cons (E.var 1) (A.cons (E.var 10) (A.nil))))) (E.tup (A.cons (E.con (.str "ab")) (A.cons (E.op2 addD (E.var 10) (E.op2 ixD (E.call sem_offsets (A.cons (E.var 1) (A.nil))) (E.con (.int 0)))) (A.cons (E.op2 addD (E.var 10) (E.op2 ixD (E.call sem_offsets (A.cons (E.var 1) (A.nil))) (E.con (.int 1)))) (A.nil))))))))
    (S.ret (M.v (E.con (.bool false))))
    (S.skip))
    (S.ret (M.v (E.call sem__law_rejected (A.cons (E.var 0) (A.cons (E.var 1) (A.nil)))))))))))))))))))))))
end PV

/-! P14: a def that calls itself; a, b = a list -/
namespace PV
open PySem PySem.Spec L2
open PyProof.Rows hiding St
/-- to a depth of n -/
def recN (F : (List D → R D) → List D → R D) : Nat → List D → R D
  | 0 => fun _ => .stuck
  | n + 1 => F (recN F n)
theorem def_rec {P : Program} {w : World} {K : PySem.W.Frag} {mg : Str → Option Value} {base : Heap} {x : Str} {n : Nat} {f : Addr} {fd : FuncData} {ps : List Str} {G : (List D → R D) → List D → R D} (hg : mg x = some (.ref f)) (kp : PySem.W.keepIn K (.ref f) = true) (hb : Binds K fd ps [])
    (hl : ∀ s ds, ds.length ≠ n → G s ds = .stuck) (step : ∀ m s, Def P w K mg base x n m s → FnOk P w K mg base (L2.CX P w) (m + 1) f fd ps (spP K mg n (G s))) : ∀ j, Def P w K mg base x n j (recN G j)
  | 0 => ⟨fun _ _ => rfl, f, fd, ps, hg, kp, hb, ⟨fun vs H Q E h => by obtain ⟨_, _, _, _, _, z⟩ := h; exact z.elim, fun A outer s H args us vs Q E hr e0 hb' r h => by obtain ⟨_, _, _, _, _, z⟩ := h; exact z.elim⟩⟩
  | j + 1 => ⟨hl _, f, fd, ps, hg, kp, hb, step j _ (def_rec hg kp hb hl step j)⟩
namespace G
def seq (is : List Nat) : D → SE → Option SE := fun d ρ => match d with
  | .tuple ds => if ds.length = is.length then some (List.foldl (fun r p => r.set p.1 (.val p.2)) ρ (is.zip ds)) else none
  | .list ds => if ds.length = is.length then some (List.foldl (fun r p => r.set p.1 (.val p.2)) ρ (is.zip ds)) else none
  | _ => none
end G
section
variable {X : Cx} {pos : Pos} {es : List Expr} {is : List Nat}
theorem pxg_seq {kk : Nat} (hc : X.calm = true) (h : PXGs X es is) (hn : (assignEach es X.env).length = is.length := by rfl) (hst : (assignEach es X.env).findIdx? (·.1) = none := by rfl) : PXG X (.Tuple es kk pos) (G.seq is) := by
  refine ⟨fun pins s σ H v u Q I rv0 ⟨ρ, F, F0, H0, d, ρ', r, rv, e, k⟩ => ?_⟩
  unfold G.seq at e
  split at e
  · rename_i ds
    exact (pxg_tup hc h hn hst).run pins s σ H v u Q I rv0 ⟨ρ, F, F0, H0, .tuple ds, ρ', r, rv, e, k⟩
  · rename_i ds
    by_cases hl : ds.length = is.length
    · rw [if_pos hl] at e
      cases e
      cases rv with
      | lst q z a => exact (pg_lst (pos := pos) (k := kk) hc h hn hst).run pins s σ H _ u Q I rv0 ⟨_, _, rfl, SqL.of (r.sub _ _ q), a.length.trans hl, ρ, F, F0, H0, ds, r, a, hl, k⟩
    · rw [if_neg hl] at e; cases e
  · cases e
end
end PV

namespace PV
open PySem PySem.Spec L2
def sem__law_reports_2 : List D → R D := fn 3 5 (S.seq (S.setO 3 (M.v (N.disp (A.nil))))
    (S.seq (S.for_ (I.range1 (A.cons (E.call sem__law_drawn (A.cons (E.var 0) (A.cons (E.var 1) (A.cons (E.op2 addD (E.var 2) (E.con (.int 1))) (A.nil))))) (A.nil))) (G.name 4)
    (S.seq (S.set 5 (M.v (E.op2 addD (E.op2 addD (E.var 1) (E.con (.int 1))) (E.op2 mulD (E.con (.int 3)) (E.var 4)))))
    (S.seq (S.set 6 (M.v (E.op2 mulD (E.call sem__law_drawn (A.cons (E.var 0) (A.cons (E.var 5) (A.cons (E.con (.int 12)) (A.nil))))) (E.con (.int 3)))))
    (S.seq (S.set 7 (M.v (E.op2 addD (E.var 6) (E.call sem__law_drawn (A.cons (E.var 0) (A.cons (E.op2 addD (E.var 5) (E.con (.int 1))) (A.cons (E.con (.int 25)) (A.nil))))))))
    (S.seq (S.ite (M.v (T.of (E.op2 eqD (E.call sem__law_drawn (A.cons (E.var 0) (A.cons (E.op2 addD (E.var 5) (E.con (.int 2))) (A.cons (E.con (.int 9)) (A.nil))))) (E.con (.int 0)))))
    (S.asgB [6, 7] (Bs.val (M.v (E.op2 addD (E.con (.int 9960)) (E.var 6))) (Bs.val (M.v (E.con (.int 9999))) (Bs.nil))))
    (S.skip))
    (S.append 3 (M.v (E.tup (A.cons (E.op2 ixD (E.con (.str "abcdefghij")) (E.var 4)) (A.cons (E.var 6) (A.cons (E.var 7) (A.nil))))))))))))
    (S.frz 3 (S.ret (M.v (E.bi tupleF (A.cons (E.var 3) (A.nil))))))))
def sem__law_possible : List D → R D := fn 2 8 (S.seq (S.set 2 (M.v (E.bi sortSetF (A.cons (E.op2 addD (E.op2 addD (E.lst (A.cons (E.con (.int 0)) (A.nil))) (E.ofL (N.comp (I.seq (E.var 0)) (GE.tup [7, 8, 9]) T.yes (E.var 8) [7, 8, 9]))) (E.ofL (N.comp (I.seq (E.var 0)) (GE.tup [7, 8, 9]) T.yes (E.op2 addD (E.var 9) (E.con (.int 1))) [7, 8, 9]))) (A.nil)))))
    (S.seq (S.setO 3 (M.v (N.disp (A.nil))))
    (S.seq (S.for_ (I.zip (A.cons (E.var 2) (A.cons (E.op2 addD (E.slice (E.var 2) (O.som (E.con (.int 1))) O.non) (E.lst (A.cons (E.con (.int 10000)) (A.nil)))) (A.nil)))) (G.tup [4, 5])
    (S.seq (S.set 6 (M.ofF (M.v (N.comp (I.seq (E.var 0)) (GE.tup [7, 8, 9]) (T.not (T.of (E.chain leD leD (E.var 8) (E.var 4) (E.var 9)))) (E.con (.int 1)) [7, 8, 9]))))
    (S.ite (M.v (T.and (T.of (E.op2 ltD (E.var 4) (E.con (.int 10000)))) (T.and (T.of (E.op2 gtD (E.var 5) (E.var 4))) (T.of (E.op2 leD (E.bi lenF (A.cons (E.var 6) (A.nil))) (E.var 1))))))
    (S.ite (M.kt (T.and (T.of (E.op2 neD (E.var 3) (E.lst (A.nil)))) (T.of (E.op2 eqD (E.op2 ixD (E.op2 ixD (E.var 3) (E.op1 negD (E.con (.int 1)))) (E.con (.int 1))) (E.op2 subD (E.var 4) (E.con (.int 1)))))))
    (S.setIx 3 (M.v (E.op1 negD (E.con (.int 1)))) (M.k (E.tup (A.cons (E.op2 ixD (E.op2 ixD (E.var 3) (E.op1 negD (E.con (.int 1)))) (E.con (.int 0))) (A.cons (E.op2 subD (E.var 5) (E.con (.int 1))) (A.nil))))))
    (S.append 3 (M.v (E.tup (A.cons (E.var 4) (A.cons (E.op2 subD (E.var 5) (E.con (.int 1))) (A.nil)))))))
    (S.skip))))
    (S.frz 3 (S.ret (M.v (E.var 3)))))))
def sem__law_sets : List D → R D := fn 1 5 (S.seq (S.set 1 (M.v (E.lst (A.cons (E.tup (A.nil)) (A.nil)))))
    (S.seq (S.for_ (I.seq (E.var 0)) (G.tup [2, 3, 4])
    (S.set 1 (M.v (E.op2 addD (E.var 1) (E.ofL (N.comp (I.seq (E.var 1)) (GE.name 5) T.yes (E.op2 addD (E.var 5) (E.tup (A.cons (E.var 2) (A.nil)))) [5]))))))
    (S.ret (M.v (E.var 1)))))
def sem_check_times : List D → R D := fn 4 0 (S.seq (S.ite (M.v (T.or (T.not (T.of (E.call sem_is_time (A.cons (E.var 2) (A.nil))))) (T.not (T.of (E.call sem_is_time (A.cons (E.var 3) (A.nil)))))))
    (S.raise "InvalidTime")
    (S.skip))
    (S.ex (M.v (E.call sem_check_possible (A.cons (E.var 0) (A.cons (E.var 1) (A.nil)))))))
def sem_check_question : List D → R D := fn 4 0 (S.seq (S.ex (M.v (E.call sem_check_reports (A.cons (E.var 0) (A.nil)))))
    (S.seq (S.ex (M.v (E.call sem_check_liars (A.cons (E.var 1) (A.nil)))))
    (S.ex (M.v (E.call sem_check_times (A.cons (E.var 0) (A.cons (E.var 1) (A.cons (E.var 2) (A.cons (E.var 3) (A.nil))))))))))
def rec_sets_of : (List D → R D) → List D → R D := fun self => fn 2 4 (S.seq (S.ite (M.v (T.of (E.op2 eqD (E.var 1) (E.con (.int 0)))))
    (S.ret (M.v (E.lst (A.cons (E.tup (A.nil)) (A.nil)))))
    (S.skip))
    (S.seq (S.set 2 (M.v (E.lst (A.nil))))
    (S.seq (S.for_ (I.enum (A.cons (E.var 0) (A.nil))) (G.tup [3, 4])
    (S.set 2 (M.v (E.op2 addD (E.var 2) (E.ofL (N.comp (I.seq (E.call self (A.cons (E.slice (E.var 0) (O.som (E.op2 addD (E.var 3) (E.con (.int 1)))) O.non) (A.cons (E.op2 subD (E.var 1) (E.con (.int 1))) (A.nil))))) (GE.name 5) T.yes (E.op2 addD (E.tup (A.cons (E.var 4) (A.nil))) (E.var 5)) [5]))))))
    (S.ret (M.v (E.var 2))))))
def sem_is_enough : List D → R D := fn 5 4 (S.seq (S.set 5 (M.v (E.bi tupleF (A.cons (E.ofL (N.comp (I.seq (E.var 0)) (GE.name 6) (T.of (E.op2 inD (E.op2 ixD (E.var 6) (E.con (.int 0))) (E.var 2))) (E.var 6) [6])) (A.nil)))))
    (S.ret (M.v (E.bi allF (A.cons (E.ofL (N.comp (I.seq (E.call sem_possible_times (A.cons (E.var 5) (A.cons (E.var 1) (A.nil))))) (GE.tup [7, 8]) T.yes (E.and (E.op2 leD (E.var 3) (E.var 7)) ((E.op2 leD (E.var 8) (E.var 4)))) [7, 8])) (A.nil))))))
def sem_fewest_reports : List D → R D := fn 4 3 (S.seq (S.ex (M.v (E.call sem_check_question (A.cons (E.var 0) (A.cons (E.var 1) (A.cons (E.var 2) (A.cons (E.var 3) (A.nil))))))))
    (S.seq (S.for_ (I.range1 (A.cons (E.op2 addD (E.bi lenF (A.cons (E.var 0) (A.nil))) (E.con (.int 1))) (A.nil))) (G.name 4)
    (S.seq (S.set 5 (M.ofF (M.v (N.comp (I.seq (E.call (recN rec_sets_of 12) (A.cons (E.call sem_sources (A.cons (E.var 0) (A.nil))) (A.cons (E.var 4) (A.nil))))) (GE.name 6) (T.of (E.call sem_is_enough (A.cons (E.var 0) (A.cons (E.var 1) (A.cons (E.var 6) (A.cons (E.var 2) (A.cons (E.var 3) (A.nil)))))))) (E.var 6) [6]))))
    (S.ite (M.v (T.of (E.op2 neD (E.var 5) (E.lst (A.nil)))))
    (S.ret (M.v (E.op2 ixD (E.var 5) (E.con (.int 0)))))
    (S.skip))))
    (S.ret (M.v (E.con .none)))))
def sem_needed_reports : List D → R D := fn 4 5 (S.seq (S.ex (M.v (E.call sem_check_question (A.cons (E.var 0) (A.cons (E.var 1) (A.cons (E.var 2) (A.cons (E.var 3) (A.nil))))))))
    (S.seq (S.set 4 (M.v (E.call sem_sources (A.cons (E.var 0) (A.nil)))))
    (S.seq (S.ite (M.v (T.not (T.of (E.call sem_is_enough (A.cons (E.var 0) (A.cons (E.var 1) (A.cons (E.var 4) (A.cons (E.var 2) (A.cons (E.var 3) (A.nil))))))))))
    (S.ret (M.v (E.con .none)))
    (S.skip))
    (S.seq (S.set 5 (M.ofF (M.v (N.comp (I.seq (E.var 4)) (GE.name 6) T.yes (E.ofL (N.comp (I.seq (E.var 4)) (GE.name 8) (T.of (E.op2 neD (E.var 8) (E.var 6))) (E.var 8) [8])) [6]))))
    (S.ret (M.v (E.ofL (N.comp (I.zip (A.cons (E.var 4) (A.cons (E.var 5) (A.nil)))) (GE.tup [6, 7]) (T.not (T.of (E.call sem_is_enough (A.cons (E.var 0) (A.cons (E.var 1) (A.cons (E.var 7) (A.cons (E.var 2) (A.cons (E.var 3) (A.nil))))))))) (E.var 6) [6, 7]))))))))
def sem_enough_reports : List D → R D := fn 4 2 (S.seq (S.ex (M.v (E.call sem_check_question (A.cons (E.var 0) (A.cons (E.var 1) (A.cons (E.var 2) (A.cons (E.var 3) (A.nil))))))))
    (S.seq (S.for_ (I.range1 (A.cons (E.op2 addD (E.bi lenF (A.cons (E.var 0) (A.nil))) (E.con (.int 1))) (A.nil))) (G.name 4)
    (S.ite (M.v (T.of (E.bi allF (A.cons (E.ofL (N.comp (I.seq (E.call (recN rec_sets_of 12) (A.cons (E.call sem_sources (A.cons (E.var 0) (A.nil))) (A.cons (E.var 4) (A.nil))))) (GE.name 5) T.yes (E.call sem_is_enough (A.cons (E.var 0) (A.cons (E.var 1) (A.cons (E.var 5) (A.cons (E.var 2) (A.cons (E.var 3) (A.nil))))))) [5])) (A.nil)))))
    (S.ret (M.v (E.var 4)))
    (S.skip)))
    (S.ret (M.v (E.con .none)))))
def sem__law_enough : List D → R D := fn 5 3 (S.seq (S.set 5 (M.v (E.bi tupleF (A.cons (E.ofL (N.comp (I.seq (E.var 0)) (GE.name 6) (T.of (E.op2 inD (E.op2 ixD (E.var 6) (E.con (.int 0))) (E.var 2))) (E.var 6) [6])) (A.nil)))))
    (S.ret (M.v (E.op2 eqD (E.ofL (N.comp (I.seq (E.call sem__law_possible (A.cons (E.var 5) (A.cons (E.var 1) (A.nil))))) (GE.name 7) (T.or (T.of (E.op2 ltD (E.op2 ixD (E.var 7) (E.con (.int 0))) (E.var 3))) (T.of (E.op2 gtD (E.op2 ixD (E.var 7) (E.con (.int 1))) (E.var 4)))) (E.var 7) [7])) (E.lst (A.nil))))))
def sem_suffices : List D → R D := fn 5 0 (S.seq (S.ex (M.v (E.call sem_check_reports (A.cons (E.var 0) (A.nil)))))
    (S.seq (S.ex (M.v (E.call sem_check_liars (A.cons (E.var 1) (A.nil)))))
    (S.seq (S.ite (M.v (T.not (T.of (E.call sem_are_names (A.cons (E.var 0) (A.cons (E.var 2) (A.nil)))))))
    (S.raise "InvalidNames")
    (S.skip))
    (S.seq (S.ex (M.v (E.call sem_check_times (A.cons (E.var 0) (A.cons (E.var 1) (A.cons (E.var 3) (A.cons (E.var 4) (A.nil))))))))
    (S.ret (M.v (E.call sem_is_enough (A.cons (E.var 0) (A.cons (E.var 1) (A.cons (E.var 2) (A.cons (E.var 3) (A.cons (E.var 4) (A.nil)))))))))))))
def sem__law_told : List D → R D := fn 4 11 (S.seq (S.set 4 (M.v (E.call sem__law_sets (A.cons (E.var 0) (A.nil)))))
    (S.seq (S.set 5 (M.v (E.ofL (N.comp (I.seq (E.var 4)) (GE.name 6) (T.of (E.call sem__law_enough (A.cons (E.var 0) (A.cons (E.var 1) (A.cons (E.var 6) (A.cons (E.var 2) (A.cons (E.var 3) (A.nil)))))))) (E.var 6) [6]))))
    (S.seq (S.for_ (I.seq (E.slice (E.var 4) O.non (O.som (E.con (.int 12))))) (G.name 6)
    (S.ite (M.v (T.of (E.op2 neD (E.call sem_suffices (A.cons (E.var 0) (A.cons (E.var 1) (A.cons (E.var 6) (A.cons (E.var 2) (A.cons (E.var 3) (A.nil))))))) (E.op2 inD (E.var 6) (E.var 5)))))
    (S.ret (M.v (E.con (.bool false))))
    (S.skip)))
    (S.seq (S.set 7 (M.ofF (M.v (N.comp (I.seq (E.var 5)) (GE.name 6) (T.of (E.op2 eqD (E.bi lenF (A.cons (E.var 6) (A.nil))) (E.bi minF (A.cons (E.ofL (N.comp (I.seq (E.var 5)) (GE.name 14) T.yes (E.bi lenF (A.cons (E.var 14) (A.nil))) [14])) (A.nil))))) (E.var 6) [6]))))
    (S.seq (S.ite (M.v (T.of (E.op2 neD (E.call sem_fewest_reports (A.cons (E.var 0) (A.cons (E.var 1) (A.cons (E.var 2) (A.cons (E.var 3) (A.nil)))))) (E.ite (T.of (E.op2 eqD (E.var 5) (E.lst (A.nil)))) (E.con .none) (E.bi minF (A.cons (E.var 7) (A.nil)))))))
    (S.ret (M.v (E.con (.bool false))))
    (S.skip))
    (S.seq (S.set 8 (M.ofF (M.v (N.comp (I.seq (E.var 0)) (GE.tup [11, 12, 13]) T.yes (E.var 11) [11, 12, 13]))))
    (S.seq (S.set 9 (M.ofF (M.v (N.comp (I.seq (E.var 8)) (GE.name 11) (T.of (E.op2 eqD (E.ofL (N.comp (I.seq (E.var 5)) (GE.name 6) (T.of (E.op2 notInD (E.var 11) (E.var 6))) (E.var 6) [6])) (E.lst (A.nil)))) (E.var 11) [11]))))
    (S.seq (S.ite (M.v (T.of (E.op2 neD (E.call sem_needed_reports (A.cons (E.var 0) (A.cons (E.var 1) (A.cons (E.var 2) (A.cons (E.var 3) (A.nil)))))) (E.ite (T.of (E.op2 eqD (E.var 5) (E.lst (A.nil)))) (E.con .none) (E.var 9)))))
    (S.ret (M.v (E.con (.bool false))))
    (S.skip))
    (S.seq (S.set 10 (M.ofF (M.v (N.comp (I.seq (E.var 4)) (GE.name 6) (T.of (E.op2 notInD (E.var 6) (E.var 5))) (E.bi lenF (A.cons (E.var 6) (A.nil))) [6]))))
    (S.seq (S.set 9 (M.v (E.ite (T.of (E.op2 eqD (E.var 10) (E.lst (A.nil)))) (E.con (.int 0)) (E.op2 addD (E.bi maxF (A.cons (E.var 10) (A.nil))) (E.con (.int 1))))))
    (S.ret (M.v (E.op2 eqD (E.call sem_enough_reports (A.cons (E.var 0) (A.cons (E.var 1) (A.cons (E.var 2) (A.cons (E.var 3) (A.nil)))))) (E.ite (T.of (E.op2 gtD (E.var 9) (E.bi lenF (A.cons (E.var 0) (A.nil))))) (E.con .none) (E.var 9)))))))))))))))
def tb__law_error_2 : SE → O := S.ite (M.v (T.of (E.op2 eqD (E.var 0) (E.con (.int 0)))))
    (S.ex (M.v (E.call sem_suffices (A.cons (E.var 2) (A.cons (E.var 3) (A.cons (E.var 4) (A.cons (E.var 5) (A.cons (E.var 6) (A.nil)))))))))
    (S.ex (M.v (E.pick [sem_fewest_reports, sem_needed_reports, sem_enough_reports] (E.op2 subD (E.var 0) (E.con (.int 1))) (A.cons (E.var 2) (A.cons (E.var 3) (A.cons (E.var 5) (A.cons (E.var 6) (A.nil))))))))
def ts__law_error_2 : SE → O := S.seq (S.set 8 (M.v (E.lst (A.cons (E.op1 (isExD ["InvalidReports", "InvalidTime", "InvalidNames", "InvalidNumber", "Contradiction"] "InvalidReports") (E.var 7)) (A.cons (E.op1 (isExD ["InvalidReports", "InvalidTime", "InvalidNames", "InvalidNumber", "Contradiction"] "InvalidNumber") (E.var 7)) (A.nil))))))
    (S.seq (S.set 8 (M.v (E.op2 addD (E.var 8) (E.lst (A.cons (E.op1 (isExD ["InvalidReports", "InvalidTime", "InvalidNames", "InvalidNumber", "Contradiction"] "InvalidNames") (E.var 7)) (A.nil))))))
    (S.ret (M.v (E.lindex (E.op2 addD (E.var 8) (E.lst (A.cons (E.op1 (isExD ["InvalidReports", "InvalidTime", "InvalidNames", "InvalidNumber", "Contradiction"] "InvalidTime") (E.var 7)) (A.cons (E.op1 (isExD ["InvalidReports", "InvalidTime", "InvalidNames", "InvalidNumber", "Contradiction"] "Contradiction") (E.var 7)) (A.nil))))) (E.con (.bool true))))))
def sem__law_error_2 : List D → R D := fn 2 7 (S.seq (S.asg (G.seq [2, 3, 4, 5, 6]) (M.v (E.var 1)))
    (S.seq (S.tryE ["InvalidReports", "InvalidTime", "InvalidNames", "InvalidNumber", "Contradiction"] 7
    (tb__law_error_2)
    (ts__law_error_2))
    (S.ret (M.v (E.con .none)))))
def sem_law_k55 : List D → R D := fn 1 11 (S.seq (S.set 1 (M.v (E.call sem__law_reports_2 (A.cons (E.var 0) (A.cons (E.con (.int 10)) (A.cons (E.con (.int 5)) (A.nil)))))))
    (S.seq (S.set 2 (M.v (E.call sem__law_drawn (A.cons (E.var 0) (A.cons (E.con (.int 1)) (A.cons (E.con (.int 4)) (A.nil)))))))
    (S.seq (S.set 3 (M.v (E.call sem__law_possible (A.cons (E.var 1) (A.cons (E.var 2) (A.nil))))))
    (S.seq (S.set 4 (M.v (E.call sem__law_drawn (A.cons (E.var 0) (A.cons (E.con (.int 2)) (A.cons (E.con (.int 30)) (A.nil)))))))
    (S.seq (S.set 5 (M.v (E.op2 addD (E.var 4) (E.call sem__law_drawn (A.cons (E.var 0) (A.cons (E.con (.int 3)) (A.cons (E.con (.int 40)) (A.nil))))))))
    (S.seq (S.ite (M.v (T.and (T.of (E.op2 neD (E.var 3) (E.lst (A.nil)))) (T.of (E.op2 gtD (E.call sem__law_drawn (A.cons (E.var 0) (A.cons (E.con (.int 4)) (A.cons (E.con (.int 3)) (A.nil))))) (E.con (.int 0))))))
    (S.seq (S.set 4 (M.v (E.bi max2F (A.cons (E.op2 subD (E.op2 ixD (E.op2 ixD (E.var 3) (E.con (.int 0))) (E.con (.int 0))) (E.call sem__law_drawn (A.cons (E.var 0) (A.cons (E.con (.int 5)) (A.cons (E.con (.int 5)) (A.nil)))))) (A.cons (E.con (.int 0)) (A.nil))))))
    (S.set 5 (M.v (E.bi min2F (A.cons (E.op2 addD (E.op2 ixD (E.op2 ixD (E.var 3) (E.op1 negD (E.con (.int 1)))) (E.con (.int 1))) (E.call sem__law_drawn (A.cons (E.var 0) (A.cons (E.con (.int 6)) (A.cons (E.con (.int 9)) (A.nil)))))) (A.cons (E.con (.int 9999)) (A.nil)))))))
    (S.skip))
    (S.seq (S.ite (M.v (T.of (E.op2 eqD (E.var 3) (E.lst (A.nil)))))
    (S.ite (M.v (T.of (E.op2 neD (E.ofL (N.comp (I.range1 (A.cons (E.con (.int 4)) (A.nil))) (GE.name 11) T.yes (E.call sem__law_error_2 (A.cons (E.var 11) (A.cons (E.lst (A.cons (E.var 1) (A.cons (E.var 2) (A.cons (E.tup (A.nil)) (A.cons (E.var 4) (A.cons (E.var 5) (A.nil))))))) (A.nil)))) [11])) (E.op2 mulD (E.lst (A.cons (E.con (.int 4)) (A.nil))) (E.con (.int 4))))))
    (S.ret (M.v (E.con (.bool false))))
    (S.skip))
    (S.ite (M.v (T.not (T.of (E.call sem__law_told (A.cons (E.var 1) (A.cons (E.var 2) (A.cons (E.var 4) (A.cons (E.var 5) (A.nil)))))))))
    (S.ret (M.v (E.con (.bool false))))
    (S.ite (M.v (T.and (T.of (E.op2 ltD (E.var 4) (E.var 5))) (T.not (T.of (E.call sem__law_told (A.cons (E.var 1) (A.cons (E.var 2) (A.cons (E.var 5) (A.cons (E.var 4) (A.nil))))))))))
    (S.ret (M.v (E.con (.bool false))))
    (S.skip))))
    (S.seq (S.set 6 (M.v (E.lst (A.cons (E.op2 ixD (E.lst (A.cons (E.con .none) (A.cons (E.lst (A.nil)) (A.cons (E.tup (A.cons (E.tup (A.cons (E.con (.str "b")) (A.cons (E.con (.int 1)) (A.cons (E.con (.int 2)) (A.nil))))) (A.cons (E.tup (A.cons (E.con (.str "a")) (A.cons (E.con (.int 1)) (A.cons (E.con (.int 2)) (A.nil))))) (A.nil)))) (A.cons (E.tup (A.cons (E.tup (A.cons (E.con (.str "a")) (A.cons (E.con (.int 2)) (A.cons (E.con (.int 1)) (A.nil))))) (A.nil))) (A.nil)))))) (E.call sem__law_drawn (A.cons (E.var 0) (A.cons (E.con (.int 7)) (A.cons (E.con (.int 4)) (A.nil)))))) (A.nil)))))
    (S.seq (S.set 6 (M.v (E.op2 addD (E.var 6) (E.lst (A.cons (E.op2 ixD (E.lst (A.cons (E.con .none) (A.cons (E.op1 negD (E.con (.int 1))) (A.cons (E.con (.int 11)) (A.cons (E.con (.bool true)) (A.nil)))))) (E.call sem__law_drawn (A.cons (E.var 0) (A.cons (E.con (.int 8)) (A.cons (E.con (.int 4)) (A.nil)))))) (A.nil))))))
    (S.seq (S.set 6 (M.v (E.op2 addD (E.var 6) (E.lst (A.cons (E.op2 ixD (E.lst (A.cons (E.con .none) (A.cons (E.lst (A.cons (E.con (.str "a")) (A.nil))) (A.cons (E.tup (A.cons (E.con (.str "zz")) (A.nil))) (A.cons (E.tup (A.cons (E.con (.str "b")) (A.cons (E.con (.str "a")) (A.nil)))) (A.cons (E.tup (A.cons (E.con (.str "a")) (A.cons (E.con (.str "a")) (A.nil)))) (A.cons (E.con (.str "a")) (A.nil)))))))) (E.call sem__law_drawn (A.cons (E.var 0) (A.cons (E.con (.int 9)) (A.cons (E.con (.int 6)) (A.nil)))))) (A.nil))))))
    (S.seq (S.set 6 (M.v (E.op2 addD (E.var 6) (E.lst (A.cons (E.op2 ixD (E.lst (A.cons (E.con .none) (A.cons (E.op1 negD (E.con (.int 1))) (A.cons (E.con (.int 10000)) (A.cons (E.con (.bool true)) (A.nil)))))) (E.call sem__law_drawn (A.cons (E.var 0) (A.cons (E.con (.int 30)) (A.cons (E.con (.int 4)) (A.nil)))))) (A.nil))))))
    (S.seq (S.set 6 (M.v (E.op2 addD (E.var 6) (E.lst (A.cons (E.op2 ixD (E.lst (A.cons (E.con .none) (A.cons (E.op1 negD (E.con (.int 1))) (A.cons (E.con (.int 10000)) (A.cons (E.con (.bool true)) (A.nil)))))) (E.call sem__law_drawn (A.cons (E.var 0) (A.cons (E.con (.int 31)) (A.cons (E.con (.int 4)) (A.nil)))))) (A.nil))))))
    (S.seq (S.asgB [7, 8] (Bs.val (M.v (E.lst (A.cons (E.var 1) (A.cons (E.var 2) (A.cons (E.tup (A.nil)) (A.cons (E.var 4) (A.cons (E.var 5) (A.nil)))))))) (Bs.own (M.v (N.disp (A.nil))) (Bs.nil))))
    (S.seq (S.for_ (I.range1 (A.cons (E.con (.int 5)) (A.nil))) (G.name 9)
    (S.append 8 (M.v (E.call sem__law_error_2 (A.cons (E.con (.int 0)) (A.cons (E.op2 addD (E.slice (E.var 7) O.non (O.som (E.var 9))) (E.slice (E.var 6) (O.som (E.var 9)) O.non)) (A.nil)))))))
    (S.seq (S.set 10 (M.v (E.op2 addD (E.ofL (N.comp (I.seq (E.tup (A.cons (E.con (.int 1)) (A.cons (E.con (.int 2)) (A.cons (E.con (.int 3)) (A.nil)))))) (GE.name 11) T.yes (E.call sem__law_error_2 (A.cons (E.var 11) (A.cons (E.var 6) (A.nil)))) [11])) (E.ofL (N.comp (I.seq (E.tup (A.cons (E.con (.int 1)) (A.cons (E.con (.int 2)) (A.cons (E.con (.int 3)) (A.nil)))))) (GE.name 11) T.yes (E.call sem__law_error_2 (A.cons (E.var 11) (A.cons (E.op2 addD (E.lst (A.cons (E.var 1) (A.nil))) (E.slice (E.var 6) (O.som (E.con (.int 1))) O.non)) (A.nil)))) [11])))))
    (S.seq (S.set 10 (M.v (E.op2 addD (E.var 10) (E.ofL (N.comp (I.seq (E.tup (A.cons (E.con (.int 1)) (A.cons (E.con (.int 2)) (A.cons (E.con (.int 3)) (A.nil)))))) (GE.name 11) T.yes (E.call sem__law_error_2 (A.cons (E.var 11) (A.cons (E.op2 addD (E.lst (A.cons (E.var 1) (A.cons (E.var 2) (A.nil)))) (E.slice (E.var 6) (O.som (E.con (.int 2))) O.non)) (A.nil)))) [11])))))
    (S.frz 8 (S.ret (M.v (E.and (E.op2 eqD (E.var 8) (E.lst (A.cons (E.con (.int 0)) (A.cons (E.con (.int 1)) (A.cons (E.con (.int 2)) (A.cons (E.con (.int 3)) (A.cons (E.con (.int 3)) (A.nil)))))))) ((E.op2 eqD (E.var 10) (E.lst (A.cons (E.con (.int 0)) (A.cons (E.con (.int 0)) (A.cons (E.con (.int 0)) (A.cons (E.con (.int 1)) (A.cons (E.con (.int 1)) (A.cons (E.con (.int 1)) (A.cons (E.con (.int 3)) (A.cons (E.con (.int 3)) (A.cons (E.con (.int 3)) (A.nil)))))))))))))))))))))))))))))))))
end PV

/-! P15: texts: split, join, str, int -/
namespace PV
open PySem PySem.Spec L2
open PyProof.Rows hiding St
def strsOf : List D → Option (List Str)
  | [] => some []
  | .str a :: r => (strsOf r).map (a :: ·)
  | _ => none
theorem strsOf_map : ∀ ys : List Str, strsOf (ys.map .str) = some ys
  | [] => rfl
  | y :: r => by rw [List.map_cons, strsOf, strsOf_map r]; rfl
def splitD : D → D → Option D
  | .str a, .str b => if (b.length == 0) = false ∧ a.length + 2 ≤ sizeLine ∧ (Txt.split a b).length ≤ sizeLine then some (.list ((Txt.split a b).map .str)) else none
  | _, _ => none
def joinD : D → D → Option D
  | .str a, .list ds => match strsOf ds with
    | some ys => if (ys.map (·.length)).sum + ys.length * a.length ≤ 16777216 then some (.str (Txt.join a ys)) else none
    | none => none
  | _, _ => none
def strF : List D → Option D
  | [.int i] => if i.natAbs.log2 < 1920 then some (.str (toString i)) else none
  | _ => none
def intF : List D → Option D
  | [.str a] => if a.length ≤ 640 then (PySem.intText? a).map PyData.int else none
  | _ => none
namespace E
def smeth (g : D → D → Option D) (fo fe : En → R D) : En → R D := fun ρ => (fo ρ).bind fun x => match x with
  | .str a => (fe ρ).bind fun y => R.ofO (g (.str a) y)
  | _ => .stuck
end E
section
variable {X : Cx} {W : WX} {o e : Expr} {fo fe : En → R D} {apos pos : Pos}
theorem rp_strs {K : PySem.W.Frag} {F : Hp} : ∀ ys : List Str, RpAll K F (ys.map V.str) (ys.map PyData.str)
  | [] => .nil
  | y :: r => .cons (.str y) (rp_strs r)
theorem strsOf_rp {K : PySem.W.Frag} {F : Hp} : ∀ {ds : List D} {ys : List Str} {vs : List V}, strsOf ds = some ys → RpAll K F vs ds → vs = ys.map V.str
  | [], ys, vs, h, r => by cases h; cases r; rfl
  | .str a :: t, ys, vs, h, r => by
    rw [strsOf] at h
    cases q : strsOf t with
    | none => rw [q] at h; cases h
    | some zs =>
      rw [q] at h
      cases h
      cases r with
      | cons r1 r2 =>
        cases r1
        rw [strsOf_rp q r2]; rfl
  | .none :: t, ys, vs, h, r => by cases h
  | .bool _ :: t, ys, vs, h, r => by cases h
  | .int _ :: t, ys, vs, h, r => by cases h
  | .list _ :: t, ys, vs, h, r => by cases h
  | .tuple _ :: t, ys, vs, h, r => by cases h
  | .dict _ :: t, ys, vs, h, r => by cases h
theorem px_split (ho : PX X W o fo) (he : PX X W e fe) (hs : starEach [e] X.env = [(false, eval e X.env)] := by rfl) (hbase : attributeBase o "split" X.env (eval o X.env) = eval o X.env := by rfl) (hline : (apos.endLine == pos.line) = true := by rfl) :
    PX X W (.Call (.Attribute o "split" apos) [e] [] pos) (E.smeth splitD fo fe) := by
  refine (pe_split ho he hs hbase hline).imp fun σ H Q ⟨ρ, F, hR, hS, hP⟩ => ?_
  refine ⟨ρ, F, hR, hS, Post.bind hP fun x dx F1 H1 e1 r1 p1 => ?_⟩
  cases dx with
  | str a =>
    cases r1
    refine ⟨⟨a, rfl⟩, ρ, F1, hR.mono e1.sF, e1.sub, Post.bind p1 fun y dy F2 H2 e2 r2 p2 => ?_⟩
    cases dy with
    | str b =>
      cases r2
      simp only [splitD] at p2
      by_cases c : (b.length == 0) = false ∧ a.length + 2 ≤ sizeLine ∧ (Txt.split a b).length ≤ sizeLine
      · rw [if_pos c] at p2
        refine ⟨a, b, rfl, rfl, c.1, c.2.1, fun p hp => ?_⟩
        exact p2 _ _ _ (.new e2.sub hp) (.lst upd_same (by rw [List.length_map]; exact c.2.2) (rp_strs _))
      · rw [if_neg c] at p2; exact p2.elim
    | _ => exact p2.elim
  | _ => exact p1.elim
theorem px_join (ho : PX X W o fo) (he : PX X W e fe) (hs : starEach [e] X.env = [(false, eval e X.env)] := by rfl) (hbase : attributeBase o "join" X.env (eval o X.env) = eval o X.env := by rfl) (hline : (apos.endLine == pos.line) = true := by rfl) :
    PX X W (.Call (.Attribute o "join" apos) [e] [] pos) (E.smeth joinD fo fe) := by
  refine (pe_m1 PySem.F.slot_str_join PySem.F.type_str_join mt_join ho he hs hbase hline).imp fun σ H Q ⟨ρ, F, hR, hS, hP⟩ => ?_
  refine ⟨ρ, F, hR, hS, Post.bind hP fun x dx F1 H1 e1 r1 p1 => ?_⟩
  cases dx with
  | str a =>
    cases r1
    refine ⟨⟨a, rfl⟩, ρ, F1, hR.mono e1.sF, e1.sub, Post.bind p1 fun y dy F2 H2 e2 r2 p2 => ?_⟩
    cases dy with
    | list ds =>
      simp only [joinD] at p2
      cases q : strsOf ds with
      | none => rw [q] at p2; exact p2.elim
      | some ys =>
        rw [q] at p2
        dsimp only at p2
        by_cases c : (ys.map (·.length)).sum + ys.length * a.length ≤ 16777216
        · rw [if_pos c] at p2
          cases r2 with
          | lst h1 h2 h3 =>
            have ev := strsOf_rp q h3
            subst ev
            exact ⟨a, _, ys, rfl, rfl, .inl (SqL.of (e2.sub _ _ h1)), c, p2.here e2.sub (.str _)⟩
        · rw [if_neg c] at p2; exact p2.elim
    | _ => exact p2.elim
  | _ => exact p1.elim
theorem call_strF : CallR X (.type "str") (cOf X.K strF) := by
  rintro pins s σ H xs us Q I r ⟨F, ds, dz, hS, ra, e, k⟩
  unfold strF at e
  split at e
  · next i =>
    by_cases c : i.natAbs.log2 < 1920
    · rw [if_pos c] at e
      cases e
      obtain ⟨v, rfl, rv⟩ := one_of ra
      cases rv
      exact call_str_int pins s σ H _ us Q I r ⟨i, rfl, c, k _ F H (.refl hS) (.str _)⟩
    · rw [if_neg c] at e; cases e
  · cases e
theorem call_intFD : CallR X (.type "int") (cOf X.K intF) := by
  rintro pins s σ H xs us Q I r ⟨F, ds, dz, hS, ra, e, k⟩
  unfold intF at e
  split at e
  · next a =>
    by_cases c : a.length ≤ 640
    · rw [if_pos c] at e
      cases q : PySem.intText? a with
      | none => rw [q] at e; cases e
      | some n =>
        rw [q] at e
        cases e
        obtain ⟨v, rfl, rv⟩ := one_of ra
        cases rv
        exact call_int_str pins s σ H _ us Q I r ⟨a, n, rfl, q, c, k _ F H (.refl hS) (.int _)⟩
    · rw [if_neg c] at e; cases e
  · cases e
end
end PV

namespace PV
open PySem PySem.Spec L2
def sem__law_text : List D → R D := fn 1 3 (S.ret (M.v (E.smeth joinD (E.con (.str ", ")) (E.ofL (N.comp (I.seq (E.var 0)) (GE.tup [1, 2, 3]) T.yes (E.op2 addD (E.op2 addD (E.op2 addD (E.op2 addD (E.var 1) (E.con (.str " "))) (E.bi strF (A.cons (E.var 2) (A.nil)))) (E.con (.str "-"))) (E.bi strF (A.cons (E.var 3) (A.nil)))) [1, 2, 3])))))
def sem__law_lines : List D → R D := fn 1 3 (S.seq (S.set 1 (M.v (E.con (.str ""))))
    (S.seq (S.for_ (I.seq (E.var 0)) (G.tup [2, 3])
    (S.set 1 (M.v (E.op2 addD (E.op2 addD (E.op2 addD (E.op2 addD (E.var 1) (E.bi strF (A.cons (E.var 2) (A.nil)))) (E.con (.str ":"))) (E.ite (T.of (E.op2 eqD (E.var 3) (E.tup (A.nil)))) (E.con (.str "")) (E.op2 addD (E.con (.str " ")) (E.call sem__law_text (A.cons (E.var 3) (A.nil)))))) (E.con (.str "\n"))))))
    (S.ret (M.v (E.var 1)))))
def sem_join_reports : List D → R D := fn 1 3 (S.ret (M.v (E.smeth joinD (E.con (.str ", ")) (E.ofL (N.comp (I.seq (E.var 0)) (GE.tup [1, 2, 3]) T.yes (E.op2 addD (E.op2 addD (E.op2 addD (E.op2 addD (E.var 1) (E.con (.str " "))) (E.bi strF (A.cons (E.var 2) (A.nil)))) (E.con (.str "-"))) (E.bi strF (A.cons (E.var 3) (A.nil)))) [1, 2, 3])))))
def sem_format_reports : List D → R D := fn 1 0 (S.seq (S.ex (M.v (E.call sem_check_reports (A.cons (E.var 0) (A.nil)))))
    (S.ret (M.v (E.call sem_join_reports (A.cons (E.var 0) (A.nil))))))
def sem_round_line : List D → R D := fn 1 2 (S.seq (S.asg (G.tup [1, 2]) (M.v (E.var 0)))
    (S.ret (M.v (E.op2 addD (E.op2 addD (E.op2 addD (E.bi strF (A.cons (E.var 1) (A.nil))) (E.con (.str ":"))) (E.ite (T.of (E.op2 neD (E.var 2) (E.tup (A.nil)))) (E.op2 addD (E.con (.str " ")) (E.call sem_join_reports (A.cons (E.var 2) (A.nil)))) (E.con (.str "")))) (E.con (.str "\n"))))))
def sem_join_log : List D → R D := fn 1 1 (S.ret (M.v (E.smeth joinD (E.con (.str "")) (E.ofL (N.comp (I.seq (E.var 0)) (GE.name 1) T.yes (E.call sem_round_line (A.cons (E.var 1) (A.nil))) [1])))))
def sem_format_log : List D → R D := fn 1 0 (S.seq (S.ite (M.v (T.not (T.of (E.call sem_is_log (A.cons (E.var 0) (A.nil))))))
    (S.raise "InvalidLog")
    (S.skip))
    (S.ret (M.v (E.call sem_join_log (A.cons (E.var 0) (A.nil))))))
def tb__law_error_3 : SE → O := S.ex (M.v (E.pick [sem_format_reports, sem_format_log] (E.var 0) (A.cons (E.var 1) (A.nil))))
def ts__law_error_3 : SE → O := S.ret (M.v (E.lindex (E.lst (A.cons (E.op1 (isExD ["InvalidReports", "InvalidLog", "ParseError"] "InvalidReports") (E.var 2)) (A.cons (E.op1 (isExD ["InvalidReports", "InvalidLog", "ParseError"] "InvalidLog") (E.var 2)) (A.nil)))) (E.con (.bool true))))
def sem__law_error_3 : List D → R D := fn 2 1 (S.seq (S.tryE ["InvalidReports", "InvalidLog", "ParseError"] 2
    (tb__law_error_3)
    (ts__law_error_3))
    (S.ret (M.v (E.con .none))))
def sem_read_number : List D → R D := fn 1 1 (S.seq (S.ite (M.v (T.or (T.not (T.of (E.chain leD leD (E.con (.int 1)) (E.bi lenF (A.cons (E.var 0) (A.nil))) (E.con (.int 4))))) (T.not (T.of (E.bi allF (A.cons (E.ofL (N.comp (I.seq (E.var 0)) (GE.name 1) T.yes (E.op2 inD (E.var 1) (E.con (.str "0123456789"))) [1])) (A.nil)))))))
    (S.ret (M.v (E.con .none)))
    (S.skip))
    (S.ret (M.v (E.bi intF (A.cons (E.var 0) (A.nil))))))
def sem_read_report : List D → R D := fn 1 3 (S.seq (S.set 1 (M.v (E.smeth splitD (E.var 0) (E.con (.str " ")))))
    (S.seq (S.set 2 (M.v (E.smeth splitD (E.op2 ixD (E.var 1) (E.op1 negD (E.con (.int 1)))) (E.con (.str "-")))))
    (S.ret (M.v (E.bi tupleF (A.cons (E.op2 addD (E.slice (E.var 1) O.non (O.som (E.op1 negD (E.con (.int 1))))) (E.ofL (N.comp (I.seq (E.var 2)) (GE.name 3) T.yes (E.call sem_read_number (A.cons (E.var 3) (A.nil))) [3]))) (A.nil)))))))
def sem_read_reports : List D → R D := fn 1 1 (S.ret (M.v (E.ite (T.of (E.op2 neD (E.var 0) (E.con (.str "")))) (E.bi tupleF (A.cons (E.ofL (N.comp (I.seq (E.smeth splitD (E.var 0) (E.con (.str ", ")))) (GE.name 1) T.yes (E.call sem_read_report (A.cons (E.var 1) (A.nil))) [1])) (A.nil))) (E.tup (A.nil)))))
def sem_parse_reports : List D → R D := fn 1 1 (S.seq (S.ite (M.v (T.not (T.of (E.op1 (isiD "str") (E.var 0)))))
    (S.raise "ParseError")
    (S.skip))
    (S.seq (S.set 1 (M.v (E.call sem_read_reports (A.cons (E.var 0) (A.nil)))))
    (S.seq (S.ite (M.v (T.or (T.not (T.of (E.call sem_are_reports (A.cons (E.var 1) (A.nil))))) (T.of (E.op2 neD (E.call sem_join_reports (A.cons (E.var 1) (A.nil))) (E.var 0)))))
    (S.raise "ParseError")
    (S.skip))
    (S.ret (M.v (E.var 1))))))
def sem_read_round : List D → R D := fn 1 1 (S.seq (S.set 1 (M.v (E.smeth splitD (E.var 0) (E.con (.str ":")))))
    (S.ret (M.v (E.tup (A.cons (E.call sem_read_number (A.cons (E.op2 ixD (E.var 1) (E.con (.int 0))) (A.nil))) (A.cons (E.call sem_read_reports (A.cons (E.slice (E.smeth joinD (E.con (.str ":")) (E.slice (E.var 1) (O.som (E.con (.int 1))) O.non)) (O.som (E.con (.int 1))) O.non) (A.nil))) (A.nil)))))))
def sem_parse_log : List D → R D := fn 1 2 (S.seq (S.ite (M.v (T.not (T.of (E.op1 (isiD "str") (E.var 0)))))
    (S.raise "ParseError")
    (S.skip))
    (S.seq (S.set 1 (M.v (E.bi tupleF (A.cons (E.ofL (N.comp (I.seq (E.slice (E.smeth splitD (E.var 0) (E.con (.str "\n"))) O.non (O.som (E.op1 negD (E.con (.int 1)))))) (GE.name 2) T.yes (E.call sem_read_round (A.cons (E.var 2) (A.nil))) [2])) (A.nil)))))
    (S.seq (S.ite (M.v (T.or (T.not (T.of (E.call sem_is_log (A.cons (E.var 1) (A.nil))))) (T.of (E.op2 neD (E.call sem_join_log (A.cons (E.var 1) (A.nil))) (E.var 0)))))
    (S.raise "ParseError")
    (S.skip))
    (S.ret (M.v (E.var 1))))))
def tb__law_again : SE → O := S.ret (M.v (E.ite (T.of (E.op2 eqD (E.var 0) (E.con (.int 0)))) (E.call sem__law_text (A.cons (E.call sem_parse_reports (A.cons (E.var 1) (A.nil))) (A.nil))) (E.call sem__law_lines (A.cons (E.call sem_parse_log (A.cons (E.var 1) (A.nil))) (A.nil)))))
def ts__law_again : SE → O := S.ret (M.v (E.ite (T.of (E.op1 (isExD ["InvalidReports", "InvalidLog", "ParseError"] "ParseError") (E.var 2))) (E.con .none) (E.con (.str "another exception"))))
def sem__law_again : List D → R D := fn 2 1 (S.tryE ["InvalidReports", "InvalidLog", "ParseError"] 2
    (tb__law_again)
    (ts__law_again))
def sem__law_rejected_2 : List D → R D := fn 0 2 (S.seq (S.set 0 (M.v (E.lst (A.cons (E.con .none) (A.cons (E.con (.int 7)) (A.cons (E.con (.str " ")) (A.cons (E.con (.str "a")) (A.cons (E.con (.str "a 1")) (A.cons (E.con (.str "a 1-")) (A.cons (E.con (.str "a 2-1")) (A.cons (E.con (.str "a 1-2,")) (A.cons (E.con (.str "a 1-2, ")) (A.cons (E.con (.str "a 1-2,b 1-2")) (A.nil))))))))))))))
    (S.seq (S.set 0 (M.v (E.op2 addD (E.var 0) (E.lst (A.cons (E.con (.str "a 1-2,  b 1-2")) (A.cons (E.con (.str "b 1-2, a 1-2")) (A.nil)))))))
    (S.seq (S.set 0 (M.v (E.op2 addD (E.var 0) (E.lst (A.cons (E.con (.str "a 01-2")) (A.cons (E.con (.str "a 1-02")) (A.cons (E.con (.str "a 1-10000")) (A.cons (E.con (.str "A 1-2")) (A.cons (E.con (.str "abcd 1-2")) (A.cons (E.con (.str "a  1-2")) (A.cons (E.con (.str " a 1-2")) (A.cons (E.con (.str "a 1-2 ")) (A.nil)))))))))))))
    (S.seq (S.set 0 (M.v (E.op2 addD (E.var 0) (E.lst (A.cons (E.con (.str "a 1 -2")) (A.cons (E.con (.str "a -1-2")) (A.cons (E.tup (A.cons (E.con (.str "a 1-2")) (A.nil))) (A.nil))))))))
    (S.seq (S.ite (M.v (T.or (T.of (E.op2 neD (E.ofL (N.comp (I.seq (E.var 0)) (GE.name 1) (T.of (E.op2 isNotD (E.call sem__law_again (A.cons (E.con (.int 0)) (A.cons (E.var 1) (A.nil)))) (E.con .none))) (E.var 1) [1])) (E.lst (A.nil)))) (T.of (E.op2 neD (E.call sem_parse_reports (A.cons (E.con (.str "")) (A.nil))) (E.tup (A.nil))))))
    (S.ret (M.v (E.con (.bool false))))
    (S.skip))
    (S.seq (S.set 0 (M.v (E.lst (A.cons (E.con .none) (A.cons (E.con (.int 7)) (A.cons (E.con (.str "")) (A.cons (E.con (.str "\n")) (A.cons (E.con (.str "0")) (A.cons (E.con (.str "0:")) (A.cons (E.con (.str "0: \n")) (A.cons (E.con (.str "0 :\n")) (A.cons (E.con (.str "00:\n")) (A.cons (E.con (.str "1000:\n")) (A.cons (E.con (.str "0:a 1-2\n")) (A.nil)))))))))))))))
    (S.seq (S.set 0 (M.v (E.op2 addD (E.var 0) (E.lst (A.cons (E.con (.str "0: a 1-2")) (A.cons (E.con (.str "0:  a 1-2\n")) (A.cons (E.con (.str "0: a 2-1\n")) (A.nil))))))))
    (S.seq (S.set 0 (M.v (E.op2 addD (E.var 0) (E.lst (A.cons (E.con (.str "1:\n0:\n")) (A.cons (E.con (.str "0:\n0:\n")) (A.cons (E.con (.str "0: a 1-2\n1: b 1-2\n")) (A.cons (E.con (.str "0: a 1-2\n1:\n")) (A.cons (E.con (.str "0:\n\n")) (A.nil))))))))))
    (S.seq (S.set 0 (M.v (E.op2 addD (E.var 0) (E.lst (A.cons (E.con (.str "0::\n")) (A.cons (E.con (.str "0: a 1-2:\n")) (A.cons (E.tup (A.cons (E.con (.str "0:\n")) (A.nil))) (A.nil))))))))
    (S.seq (S.ite (M.v (T.of (E.op2 neD (E.ofL (N.comp (I.seq (E.var 0)) (GE.name 1) (T.of (E.op2 isNotD (E.call sem__law_again (A.cons (E.con (.int 1)) (A.cons (E.var 1) (A.nil)))) (E.con .none))) (E.var 1) [1])) (E.lst (A.nil)))))
    (S.ret (M.v (E.con (.bool false))))
    (S.skip))
    (S.seq (S.ite (M.v (T.of (E.op2 neD (E.call sem_parse_log (A.cons (E.con (.str "0:\n7:\n")) (A.nil))) (E.tup (A.cons (E.tup (A.cons (E.con (.int 0)) (A.cons (E.tup (A.nil)) (A.nil)))) (A.cons (E.tup (A.cons (E.con (.int 7)) (A.cons (E.tup (A.nil)) (A.nil)))) (A.nil)))))))
    (S.ret (M.v (E.con (.bool false))))
    (S.skip))
    (S.ret (M.v (E.op2 eqD (E.call sem_parse_reports (A.cons (E.con (.str "a 0-9999")) (A.nil))) (E.tup (A.cons (E.tup (A.cons (E.con (.str "a")) (A.cons (E.con (.int 0)) (A.cons (E.con (.int 9999)) (A.nil))))) (A.nil)))))))))))))))))
def sem_law_k67 : List D → R D := fn 1 20 (S.seq (S.asgB [1, 2, 3] (Bs.val (M.v (E.call sem__law_reports_2 (A.cons (E.var 0) (A.cons (E.con (.int 10)) (A.cons (E.con (.int 6)) (A.nil)))))) (Bs.own (M.v (N.disp (A.nil))) (Bs.val (M.v (E.call sem__law_drawn (A.cons (E.var 0) (A.cons (E.con (.int 1)) (A.cons (E.con (.int 30)) (A.nil)))))) (Bs.nil)))))
    (S.seq (S.for_ (I.range1 (A.cons (E.op2 addD (E.con (.int 1)) (E.call sem__law_drawn (A.cons (E.var 0) (A.cons (E.con (.int 2)) (A.cons (E.con (.int 4)) (A.nil)))))) (A.nil))) (G.name 4)
    (S.seq (S.set 5 (M.v (E.call sem__law_reports_2 (A.cons (E.var 0) (A.cons (E.con (.int 40)) (A.cons (E.con (.int 4)) (A.nil)))))))
    (S.seq (S.set 6 (M.ofF (M.v (N.comp (I.seq (E.var 5)) (GE.tup [18, 19, 20]) T.yes (E.tup (A.cons (E.var 18) (A.cons (E.var 19) (A.cons (E.bi min2F (A.cons (E.op2 addD (E.var 20) (E.call sem__law_drawn (A.cons (E.var 0) (A.cons (E.op2 addD (E.con (.int 60)) (E.var 4)) (A.cons (E.con (.int 40)) (A.nil)))))) (A.cons (E.con (.int 9999)) (A.nil)))) (A.nil))))) [18, 19, 20]))))
    (S.seq (S.append 2 (M.v (E.tup (A.cons (E.var 3) (A.cons (E.bi tupleF (A.cons (E.var 6) (A.nil))) (A.nil))))))
    (S.set 3 (M.v (E.op2 addD (E.op2 addD (E.var 3) (E.con (.int 1))) (E.call sem__law_drawn (A.cons (E.var 0) (A.cons (E.op2 addD (E.con (.int 70)) (E.var 4)) (A.cons (E.con (.int 200)) (A.nil))))))))))))
    (S.seq (S.frz 2 (S.set 2 (M.v (E.bi tupleF (A.cons (E.var 2) (A.nil))))))
    (S.seq (S.asgB [7, 8] (Bs.val (M.v (E.call sem__law_text (A.cons (E.var 1) (A.nil)))) (Bs.val (M.v (E.call sem__law_lines (A.cons (E.var 2) (A.nil)))) (Bs.nil))))
    (S.seq (S.ite (M.v (T.or (T.of (E.op2 neD (E.call sem_format_reports (A.cons (E.var 1) (A.nil))) (E.var 7))) (T.or (T.of (E.op2 neD (E.call sem_parse_reports (A.cons (E.var 7) (A.nil))) (E.var 1))) (T.not (T.of (E.call0 sem__law_rejected_2))))))
    (S.ret (M.v (E.con (.bool false))))
    (S.skip))
    (S.seq (S.ite (M.v (T.or (T.of (E.op2 neD (E.call sem_format_log (A.cons (E.var 2) (A.nil))) (E.var 8))) (T.of (E.op2 neD (E.call sem_parse_log (A.cons (E.var 8) (A.nil))) (E.var 2)))))
    (S.ret (M.v (E.con (.bool false))))
    (S.skip))
    (S.seq (S.for_ (I.range1 (A.cons (E.con (.int 12)) (A.nil))) (G.name 4)
    (S.seq (S.set 9 (M.v (E.op2 addD (E.con (.int 100)) (E.op2 mulD (E.con (.int 5)) (E.var 4)))))
    (S.seq (S.set 10 (M.v (E.call sem__law_drawn (A.cons (E.var 0) (A.cons (E.var 9) (A.cons (E.con (.int 2)) (A.nil)))))))
    (S.seq (S.set 11 (M.v (E.op2 ixD (E.lst (A.cons (E.var 7) (A.cons (E.var 8) (A.nil)))) (E.var 10))))
    (S.seq (S.asgB [12, 13] (Bs.val (M.v (E.call sem__law_drawn (A.cons (E.var 0) (A.cons (E.op2 addD (E.var 9) (E.con (.int 1))) (A.cons (E.op2 addD (E.bi lenF (A.cons (E.var 11) (A.nil))) (E.con (.int 1))) (A.nil)))))) (Bs.val (M.v (E.op2 ixD (E.con (.str " 019,-:ab\n")) (E.call sem__law_drawn (A.cons (E.var 0) (A.cons (E.op2 addD (E.var 9) (E.con (.int 2))) (A.cons (E.con (.int 10)) (A.nil))))))) (Bs.nil))))
    (S.seq (S.set 14 (M.v (E.ite (T.of (E.op2 eqD (E.call sem__law_drawn (A.cons (E.var 0) (A.cons (E.op2 addD (E.var 9) (E.con (.int 3))) (A.cons (E.con (.int 3)) (A.nil))))) (E.con (.int 0)))) (E.con (.str "")) (E.var 13))))
    (S.seq (S.set 15 (M.v (E.op2 addD (E.op2 addD (E.slice (E.var 11) O.non (O.som (E.var 12))) (E.var 14)) (E.slice (E.var 11) (O.som (E.op2 addD (E.var 12) (E.call sem__law_drawn (A.cons (E.var 0) (A.cons (E.op2 addD (E.var 9) (E.con (.int 4))) (A.cons (E.con (.int 2)) (A.nil))))))) O.non))))
    (S.ite (M.v (T.of (E.op2 notInD (E.call sem__law_again (A.cons (E.var 10) (A.cons (E.var 15) (A.nil)))) (E.tup (A.cons (E.con .none) (A.cons (E.var 15) (A.nil)))))))
    (S.ret (M.v (E.con (.bool false))))
    (S.skip)))))))))
    (S.seq (S.set 16 (M.v (E.op2 ixD (E.lst (A.cons (E.con .none) (A.cons (E.lst (A.nil)) (A.cons (E.con (.str "a")) (A.cons (E.tup (A.cons (E.tup (A.cons (E.con (.str "a")) (A.cons (E.con (.int 2)) (A.cons (E.con (.int 1)) (A.nil))))) (A.nil))) (A.cons (E.tup (A.cons (E.tup (A.cons (E.con (.str "b")) (A.cons (E.con (.int 1)) (A.cons (E.con (.int 2)) (A.nil))))) (A.cons (E.tup (A.cons (E.con (.str "a")) (A.cons (E.con (.int 1)) (A.cons (E.con (.int 2)) (A.nil))))) (A.nil)))) (A.cons (E.tup (A.cons (E.tup (A.cons (E.con (.str "a")) (A.cons (E.con (.int 1)) (A.nil)))) (A.nil))) (A.nil)))))))) (E.call sem__law_drawn (A.cons (E.var 0) (A.cons (E.con (.int 3)) (A.cons (E.con (.int 6)) (A.nil))))))))
    (S.seq (S.set 17 (M.v (E.lst (A.cons (E.call sem__law_error_3 (A.cons (E.con (.int 0)) (A.cons (E.var 16) (A.nil)))) (A.cons (E.call sem__law_error_3 (A.cons (E.con (.int 1)) (A.cons (E.var 16) (A.nil)))) (A.cons (E.call sem__law_error_3 (A.cons (E.con (.int 1)) (A.cons (E.tup (A.nil)) (A.nil)))) (A.nil)))))))
    (S.seq (S.set 17 (M.v (E.op2 addD (E.var 17) (E.lst (A.cons (E.call sem__law_error_3 (A.cons (E.con (.int 1)) (A.cons (E.tup (A.cons (E.tup (A.cons (E.con (.int 1)) (A.cons (E.tup (A.nil)) (A.nil)))) (A.cons (E.tup (A.cons (E.con (.int 0)) (A.cons (E.tup (A.nil)) (A.nil)))) (A.nil)))) (A.nil)))) (A.nil))))))
    (S.ret (M.v (E.op2 eqD (E.var 17) (E.lst (A.cons (E.con (.int 0)) (A.cons (E.con (.int 1)) (A.cons (E.con (.int 1)) (A.cons (E.con (.int 1)) (A.nil)))))))))))))))))))
end PV

namespace PV
open PySem PySem.Spec L2
open PyProof.Rows hiding St
def topS (i : Nat) : Stmt := PySem.Challenge.pw_timevote_k67_formats.main.body.getD i (.Pass ⟨0, 0, 0, 0⟩)
theorem boot_all' : bootBuiltins "all" = some (.builtin "all") := by decide +kernel
theorem boot_bool' : bootBuiltins "bool" = some (.type "bool") := by decide +kernel
theorem boot_int' : bootBuiltins "int" = some (.type "int") := by decide +kernel
theorem boot_isinstance' : bootBuiltins "isinstance" = some (.builtin "isinstance") := by decide +kernel
theorem boot_len' : bootBuiltins "len" = some (.builtin "len") := by decide +kernel
theorem boot_min' : bootBuiltins "min" = some (.builtin "min") := by decide +kernel
theorem boot_range' : bootBuiltins "range" = some (.type "range") := by decide +kernel
theorem boot_str' : bootBuiltins "str" = some (.type "str") := by decide +kernel
theorem boot_tuple' : bootBuiltins "tuple" = some (.type "tuple") := by decide +kernel
theorem boot_zip' : bootBuiltins "zip" = some (.type "zip") := by decide +kernel
structure Facts (K : PySem.W.Frag) (mg : Str → Option Value) : Prop where
  z_all : mg "all" = none
  z_bool : mg "bool" = none
  z_int : mg "int" = none
  z_isinstance : mg "isinstance" = none
  z_len : mg "len" = none
  z_min : mg "min" = none
  z_range : mg "range" = none
  z_str : mg "str" = none
  z_tuple : mg "tuple" = none
  z_zip : mg "zip" = none
  c_MAX_TIME : ∃ t, mg "MAX_TIME" = some (.int 9999 t)
  c_MAX_SOURCES : ∃ t, mg "MAX_SOURCES" = some (.int 10 t)
  c_MAX_NAME : ∃ t, mg "MAX_NAME" = some (.int 3 t)
  c_LETTERS : ∃ t, mg "LETTERS" = some (.str "abcdefghijklmnopqrstuvwxyz" t)
  c_MAX_ROUNDS : ∃ t, mg "MAX_ROUNDS" = some (.int 6 t)
  c_MAX_MOMENT : ∃ t, mg "MAX_MOMENT" = some (.int 999 t)
  c_MAX_FOLLOWED : ∃ t, mg "MAX_FOLLOWED" = some (.int 6 t)
  c_DIGITS : ∃ t, mg "DIGITS" = some (.str "0123456789" t)
  c_MAX_DIGITS : ∃ t, mg "MAX_DIGITS" = some (.int 4 t)
  c_BETWEEN : ∃ t, mg "BETWEEN" = some (.str ", " t)
  e_InvalidLog : Exn K mg "InvalidLog"
  e_InvalidReports : Exn K mg "InvalidReports"
  e_ParseError : Exn K mg "ParseError"
  et : ET K mg ["InvalidReports", "InvalidLog", "ParseError"]
section
variable {P : Program} {w : World} {K : PySem.W.Frag} {mg : Str → Option Value} {base : Heap}
abbrev tx__law_drawn : Stmt := topS 40
abbrev NN__law_drawn : List Str := ["script", "k", "many", "cell", "turn", "rest"]
theorem sc__law_drawn : FnScope NN__law_drawn ["script", "k", "many"] (defScope tx__law_drawn) := ⟨rfl, rfl, rfl, by decide +kernel, rfl, by decide +kernel, by decide +kernel⟩
theorem fn__law_drawn (T : Facts K mg) {f : Addr} {fd : FuncData} (F : Fun K "_law_drawn" "_law_drawn" tx__law_drawn f fd) : FnOk P w K mg base (L2.CX P w) 1 f fd ["script", "k", "many"] (spP K mg 3 sem__law_drawn) :=
  def_fn F sc__law_drawn rfl rfl fun cdv A outer s H E hr =>
    have nd := sc__law_drawn.nd
    have hu := hr.units
    (pxs_cons (pxs_set 3 (px_v (px_op op_mulD (px_int) (px_var 1))) nd)
      (pxs_cons (pxs_if (pxt_v (pxt_cmp (op_neDD hu) (px_var 0) (px_lst (pxa_nil))))
      (pxs_cons (pxs_set 3 (px_v (px_ix (px_var 0) (px_op op_modD (px_var 1) (px_callB call_lenF T.z_len boot_len' (pxa_cons (px_var 0) (pxa_nil)))))) nd)
      (pxs_cons (pxs_set 4 (px_v (px_op op_fdivD (px_var 1) (px_callB call_lenF T.z_len boot_len' (pxa_cons (px_var 0) (pxa_nil))))) nd)
      (pxs_cons (pxs_if (pxt_v (pxt_bool (pxw_and (pxt_cmp (op_geD hu) (px_var 3) (px_op op_powD (px_int) (px_int))) (pxw_and1 (pxt_cmp (op_ltD hu) (px_var 4) (px_int))))))
      (pxs_cons (pxs_set 5 (px_v (px_op op_fdivD (px_var 3) (px_op op_powD (px_int) (px_int)))) nd)
      (pxs_cons (pxs_while 20000 ppD (pxt_v (pxt_bool (pxw_and (pxt_cmp (op_gtD hu) (px_var 5) (px_int)) (pxw_and1 (pxt_cmp (op_gtD hu) (px_var 4) (px_int))))))
      (pxs_cons (pxs_set 5 (px_v (px_op op_fdivD (px_var 5) (px_int))) nd)
      (pxs_one (pxs_set 4 (px_v (px_op op_subD (px_var 4) (px_int))) nd))))
      (pxs_one (pxs_if (pxt_v (pxt_cmp (op_gtD hu) (px_var 5) (px_int)))
      (pxs_one (pxs_ret (px_v (px_op op_modD (px_op op_modD (px_var 5) (px_int)) (px_var 2)))))
      (pxs_nil)))))
      (pxs_nil))
      (pxs_one (pxs_set 3 (px_v (px_op op_addD (px_var 3) (px_op op_mulD (px_int) (px_op op_fdivD (px_var 1) (px_callB call_lenF T.z_len boot_len' (pxa_cons (px_var 0) (pxa_nil))))))) nd)))))
      (pxs_nil))
      (pxs_cons (pxs_set 3 (px_v (px_op op_modD (px_op op_addD (px_op op_mulD (px_op op_modD (px_var 3) (px_int)) (px_int)) (px_op op_mulD (px_int) (px_op op_addD (px_var 1) (px_int)))) (px_int))) nd)
      (pxs_cons (pxs_set 3 (px_v (px_op op_modD (px_op op_addD (px_op op_mulD (px_var 3) (px_var 3)) (px_op op_fdivD (px_var 3) (px_int))) (px_int))) nd)
      (pxs_one (pxs_ret (px_v (px_op op_modD (px_op op_fdivD (px_op op_modD (px_op op_addD (px_op op_mulD (px_var 3) (px_var 3)) (px_op op_fdivD (px_var 3) (px_int))) (px_int)) (px_int)) (px_var 2)))))))))
abbrev tx__law_reports : Stmt := topS 41
abbrev NN__law_reports : List Str := ["script", "at", "most", "found", "k", "here", "low", "high"]
theorem sc__law_reports : FnScope NN__law_reports ["script", "at", "most"] (defScope tx__law_reports) := ⟨rfl, rfl, rfl, by decide +kernel, rfl, by decide +kernel, by decide +kernel⟩
theorem fn__law_reports (T : Facts K mg) (D__law_drawn : Def P w K mg base "_law_drawn" 3 1 sem__law_drawn) {f : Addr} {fd : FuncData} (F : Fun K "_law_reports" "_law_reports" tx__law_reports f fd) : FnOk P w K mg base (L2.CX P w) 2 f fd ["script", "at", "most"] (spP K mg 3 sem__law_reports_2) :=
  def_fn F sc__law_reports rfl rfl fun cdv A outer s H E hr =>
    have nd := sc__law_reports.nd
    have hu := hr.units
    (pxs_cons (pxs_setO 3 (pxf_v (pxf_disp (pxa_nil))) nd)
      (pxs_cons (pxs_for ppD rfl (pxi_range1 (pxa_cons (px_call D__law_drawn (hr.mono (by decide)) tkD (pxa_cons (px_var 0) (pxa_cons (px_var 1) (pxa_cons (px_op op_addD (px_var 2) (px_int)) (pxa_nil))))) (pxa_nil)) T.z_range) (pxg_name 4 nd)
      (pxs_cons (pxs_set 5 (px_v (px_op op_addD (px_op op_addD (px_var 1) (px_int)) (px_op op_mulD (px_int) (px_var 4)))) nd)
      (pxs_cons (pxs_set 6 (px_v (px_op op_mulD (px_call D__law_drawn (hr.mono (by decide)) tkD (pxa_cons (px_var 0) (pxa_cons (px_var 5) (pxa_cons (px_int) (pxa_nil))))) (px_int))) nd)
      (pxs_cons (pxs_set 7 (px_v (px_op op_addD (px_var 6) (px_call D__law_drawn (hr.mono (by decide)) tkD (pxa_cons (px_var 0) (pxa_cons (px_op op_addD (px_var 5) (px_int)) (pxa_cons (px_int) (pxa_nil))))))) nd)
      (pxs_cons (pxs_if (pxt_v (pxt_cmp (op_eqDD hu) (px_call D__law_drawn (hr.mono (by decide)) tkD (pxa_cons (px_var 0) (pxa_cons (px_op op_addD (px_var 5) (px_int)) (pxa_cons (px_int) (pxa_nil))))) (px_int)))
      (pxs_one (pxs_par (pxb_val (px_v (px_op op_addD (px_int) (px_var 6))) (pxb_val (px_v (px_int)) (pxb_nil))) (by decide) rfl nd))
      (pxs_nil))
      (pxs_one (pxs_append 3 (px_v (px_tup (pxa_cons (px_ix (px_str) (px_var 4)) (pxa_cons (px_var 6) (pxa_cons (px_var 7) (pxa_nil)))))))))))))
      (pxs_one (px1_frz 3 (pxs_ret (px_v (px_callTy call_tupleF T.z_tuple boot_tuple' (pxa_cons (px_var 3) (pxa_nil)))))))))
abbrev tx__law_text : Stmt := topS 42
abbrev NN__law_text : List Str := ["reports", "name", "low", "high"]
theorem sc__law_text : FnScope NN__law_text ["reports"] (defScope tx__law_text) := ⟨rfl, rfl, rfl, by decide +kernel, rfl, by decide +kernel, by decide +kernel⟩
theorem fn__law_text (T : Facts K mg) {f : Addr} {fd : FuncData} (F : Fun K "_law_text" "_law_text" tx__law_text f fd) : FnOk P w K mg base (L2.CX P w) 1 f fd ["reports"] (spP K mg 1 sem__law_text) :=
  def_fn F sc__law_text rfl rfl fun cdv A outer s H E hr =>
    have nd := sc__law_text.nd
    have hu := hr.units
    (pxs_one (pxs_ret (px_v (px_join (px_str) (px_of (pxf_lc [("name", 1), ("low", 2), ("high", 3)] nd (blkOk_by (N := NN__law_text) (sc := defScope tx__law_text) (by decide +kernel)) (pxi_seq (px_var 0)) (fun _ _ _ _ _ => pxge_tup rfl (pxges_cons (pxge_name 1 (by decide) nd) (pxges_cons (pxge_name 2 (by decide) nd) (pxges_cons (pxge_name 3 (by decide) nd) (pxges_nil))))) (fun _ _ _ _ _ => pxts_nil) (fun _ _ _ _ _ => px_op op_addD (px_op op_addD (px_op op_addD (px_op op_addD (px_var 1) (px_str)) (px_callTy call_strF T.z_str boot_str' (pxa_cons (px_var 2) (pxa_nil)))) (px_str)) (px_callTy call_strF T.z_str boot_str' (pxa_cons (px_var 3) (pxa_nil))))))))))
abbrev tx__law_lines : Stmt := topS 43
abbrev NN__law_lines : List Str := ["log", "found", "moment", "reports"]
theorem sc__law_lines : FnScope NN__law_lines ["log"] (defScope tx__law_lines) := ⟨rfl, rfl, rfl, by decide +kernel, rfl, by decide +kernel, by decide +kernel⟩
theorem fn__law_lines (T : Facts K mg) (D__law_text : Def P w K mg base "_law_text" 1 1 sem__law_text) {f : Addr} {fd : FuncData} (F : Fun K "_law_lines" "_law_lines" tx__law_lines f fd) : FnOk P w K mg base (L2.CX P w) 2 f fd ["log"] (spP K mg 1 sem__law_lines) :=
  def_fn F sc__law_lines rfl rfl fun cdv A outer s H E hr =>
    have nd := sc__law_lines.nd
    have hu := hr.units
    (pxs_cons (pxs_set 1 (px_v (px_str)) nd)
      (pxs_cons (pxs_for ppD rfl (pxi_seq (px_var 0)) (pxg_tup rfl (pxgs_cons (pxg_name 2 nd) (pxgs_cons (pxg_name 3 nd) (pxgs_nil))))
      (pxs_one (pxs_set 1 (px_v (px_op op_addD (px_op op_addD (px_op op_addD (px_op op_addD (px_var 1) (px_callTy call_strF T.z_str boot_str' (pxa_cons (px_var 2) (pxa_nil)))) (px_str)) (px_if (pxt_cmp (op_eqDD hu) (px_var 3) (px_tup (pxa_nil))) (px_str) (px_op op_addD (px_str) (px_call D__law_text (hr.mono (by decide)) tkD (pxa_cons (px_var 3) (pxa_nil)))))) (px_str))) nd)))
      (pxs_one (pxs_ret (px_v (px_var 1))))))
abbrev tx_sources : Stmt := topS 14
abbrev NN_sources : List Str := ["reports", "name", "low", "high"]
theorem sc_sources : FnScope NN_sources ["reports"] (defScope tx_sources) := ⟨rfl, rfl, rfl, by decide +kernel, rfl, by decide +kernel, by decide +kernel⟩
theorem fn_sources (T : Facts K mg) {f : Addr} {fd : FuncData} (F : Fun K "sources" "sources" tx_sources f fd) : FnOk P w K mg base (L2.CX P w) 1 f fd ["reports"] (spP K mg 1 sem_sources) :=
  def_fn F sc_sources rfl rfl fun cdv A outer s H E hr =>
    have nd := sc_sources.nd
    have hu := hr.units
    (pxs_one (pxs_ret (px_v (px_of (pxf_lc [("name", 1), ("low", 2), ("high", 3)] nd (blkOk_by (N := NN_sources) (sc := defScope tx_sources) (by decide +kernel)) (pxi_seq (px_var 0)) (fun _ _ _ _ _ => pxge_tup rfl (pxges_cons (pxge_name 1 (by decide) nd) (pxges_cons (pxge_name 2 (by decide) nd) (pxges_cons (pxge_name 3 (by decide) nd) (pxges_nil))))) (fun _ _ _ _ _ => pxts_nil) (fun _ _ _ _ _ => px_var 1))))))
abbrev tx_is_integer : Stmt := topS 10
abbrev NN_is_integer : List Str := ["value"]
theorem sc_is_integer : FnScope NN_is_integer ["value"] (defScope tx_is_integer) := ⟨rfl, rfl, rfl, by decide +kernel, rfl, by decide +kernel, by decide +kernel⟩
theorem fn_is_integer (T : Facts K mg) {f : Addr} {fd : FuncData} (F : Fun K "is_integer" "is_integer" tx_is_integer f fd) : FnOk P w K mg base (L2.CX P w) 1 f fd ["value"] (spP K mg 1 sem_is_integer) :=
  def_fn F sc_is_integer rfl rfl fun cdv A outer s H E hr =>
    have nd := sc_is_integer.nd
    have hu := hr.units
    (pxs_one (pxs_ret (px_v (px_and (px_isi "int" (px_var 0) T.z_isinstance T.z_int boot_int') (px_one (px_not (px_isi "bool" (px_var 0) T.z_isinstance T.z_bool boot_bool')))))))
abbrev tx_is_time : Stmt := topS 11
abbrev NN_is_time : List Str := ["value"]
theorem sc_is_time : FnScope NN_is_time ["value"] (defScope tx_is_time) := ⟨rfl, rfl, rfl, by decide +kernel, rfl, by decide +kernel, by decide +kernel⟩
theorem fn_is_time (T : Facts K mg) (D_is_integer : Def P w K mg base "is_integer" 1 1 sem_is_integer) {f : Addr} {fd : FuncData} (F : Fun K "is_time" "is_time" tx_is_time f fd) : FnOk P w K mg base (L2.CX P w) 2 f fd ["value"] (spP K mg 1 sem_is_time) :=
  def_fn F sc_is_time rfl rfl fun cdv A outer s H E hr =>
    have nd := sc_is_time.nd
    have hu := hr.units
    (pxs_one (pxs_ret (px_v (px_and (px_call D_is_integer (hr.mono (by decide)) tkD (pxa_cons (px_var 0) (pxa_nil))) (px_one (px_chain (op_leD hu) (op_leD hu) (px_int) (px_var 0) (px_gint T.c_MAX_TIME)))))))
abbrev tx_is_name : Stmt := topS 12
abbrev NN_is_name : List Str := ["value", "sign"]
theorem sc_is_name : FnScope NN_is_name ["value"] (defScope tx_is_name) := ⟨rfl, rfl, rfl, by decide +kernel, rfl, by decide +kernel, by decide +kernel⟩
theorem fn_is_name (T : Facts K mg) {f : Addr} {fd : FuncData} (F : Fun K "is_name" "is_name" tx_is_name f fd) : FnOk P w K mg base (L2.CX P w) 1 f fd ["value"] (spP K mg 1 sem_is_name) :=
  def_fn F sc_is_name rfl rfl fun cdv A outer s H E hr =>
    have nd := sc_is_name.nd
    have hu := hr.units
    (pxs_one (pxs_ret (px_v (px_and (px_isi "str" (px_var 0) T.z_isinstance T.z_str boot_str') (px_and (px_chain (op_leD hu) (op_leD hu) (px_int) (px_callB call_lenF T.z_len boot_len' (pxa_cons (px_var 0) (pxa_nil))) (px_gint T.c_MAX_NAME)) (px_one (px_callB (call_allF rfl) T.z_all boot_all' (pxa_cons (px_of (pxf_lc [("sign", 1)] nd (blkOk_by (N := NN_is_name) (sc := defScope tx_is_name) (by decide +kernel)) (pxi_seq (px_var 0)) (fun _ _ _ _ _ => pxge_name 1 (by decide) nd) (fun _ _ _ _ _ => pxts_nil) (fun _ _ _ _ _ => px_cmp (op_inD hu) (px_var 1) (px_gstr T.c_LETTERS)))) (pxa_nil)))))))))
abbrev tx_is_report : Stmt := topS 13
abbrev NN_is_report : List Str := ["value"]
theorem sc_is_report : FnScope NN_is_report ["value"] (defScope tx_is_report) := ⟨rfl, rfl, rfl, by decide +kernel, rfl, by decide +kernel, by decide +kernel⟩
theorem fn_is_report (T : Facts K mg) (D_is_time : Def P w K mg base "is_time" 1 2 sem_is_time) (D_is_name : Def P w K mg base "is_name" 1 1 sem_is_name) {f : Addr} {fd : FuncData} (F : Fun K "is_report" "is_report" tx_is_report f fd) : FnOk P w K mg base (L2.CX P w) 3 f fd ["value"] (spP K mg 1 sem_is_report) :=
  def_fn F sc_is_report rfl rfl fun cdv A outer s H E hr =>
    have nd := sc_is_report.nd
    have hu := hr.units
    (pxs_cons (pxs_if (pxt_v (pxt_bool (pxw_or (pxt_not (pxt_val (px_isi "tuple" (px_var 0) T.z_isinstance T.z_tuple boot_tuple'))) (pxw_or (pxt_cmp (op_neDD hu) (px_callB call_lenF T.z_len boot_len' (pxa_cons (px_var 0) (pxa_nil))) (px_int)) (pxw_or1 (pxt_not (pxt_val (px_call D_is_name (hr.mono (by decide)) tkD (pxa_cons (px_ix (px_var 0) (px_int)) (pxa_nil))))))))))
      (pxs_one (pxs_ret (px_v (px_bl))))
      (pxs_nil))
      (pxs_one (pxs_ret (px_v (px_and (px_call D_is_time (hr.mono (by decide)) tkD (pxa_cons (px_ix (px_var 0) (px_int)) (pxa_nil))) (px_and (px_call D_is_time (hr.mono (by decide)) tkD (pxa_cons (px_ix (px_var 0) (px_int)) (pxa_nil))) (px_one (px_cmp (op_leD hu) (px_ix (px_var 0) (px_int)) (px_ix (px_var 0) (px_int))))))))))
abbrev tx_are_reports : Stmt := topS 15
abbrev NN_are_reports : List Str := ["candidate", "names", "one", "other", "report"]
theorem sc_are_reports : FnScope NN_are_reports ["candidate"] (defScope tx_are_reports) := ⟨rfl, rfl, rfl, by decide +kernel, rfl, by decide +kernel, by decide +kernel⟩
theorem fn_are_reports (T : Facts K mg) (D_sources : Def P w K mg base "sources" 1 1 sem_sources) (D_is_report : Def P w K mg base "is_report" 1 3 sem_is_report) {f : Addr} {fd : FuncData} (F : Fun K "are_reports" "are_reports" tx_are_reports f fd) : FnOk P w K mg base (L2.CX P w) 4 f fd ["candidate"] (spP K mg 1 sem_are_reports) :=
  def_fn F sc_are_reports rfl rfl fun cdv A outer s H E hr =>
    have nd := sc_are_reports.nd
    have hu := hr.units
    (pxs_cons (pxs_if (pxt_v (pxt_bool (pxw_or (pxt_not (pxt_val (px_isi "tuple" (px_var 0) T.z_isinstance T.z_tuple boot_tuple'))) (pxw_or1 (pxt_cmp (op_gtD hu) (px_callB call_lenF T.z_len boot_len' (pxa_cons (px_var 0) (pxa_nil))) (px_gint T.c_MAX_SOURCES))))))
      (pxs_one (pxs_ret (px_v (px_bl))))
      (pxs_nil))
      (pxs_cons (pxs_if (pxt_v (pxt_not (pxt_val (px_callB (call_allF rfl) T.z_all boot_all' (pxa_cons (px_of (pxf_lc [("report", 4)] nd (blkOk_by (N := NN_are_reports) (sc := defScope tx_are_reports) (by decide +kernel)) (pxi_seq (px_var 0)) (fun _ _ _ _ _ => pxge_name 4 (by decide) nd) (fun _ _ _ _ _ => pxts_nil) (fun _ _ _ _ _ => px_call D_is_report (hr.mono (by decide)) takes0 (pxa_cons (px_var 4) (pxa_nil))))) (pxa_nil))))))
      (pxs_one (pxs_ret (px_v (px_bl))))
      (pxs_nil))
      (pxs_cons (pxs_set 1 (px_v (px_call D_sources (hr.mono (by decide)) tkD (pxa_cons (px_var 0) (pxa_nil)))) nd)
      (pxs_one (pxs_ret (px_v (px_callB (call_allF rfl) T.z_all boot_all' (pxa_cons (px_of (pxf_lc [("one", 2), ("other", 3)] nd (blkOk_by (N := NN_are_reports) (sc := defScope tx_are_reports) (by decide +kernel)) (pxi_zip (pxa_cons (px_var 1) (pxa_cons (px_slice (px_var 1) (pxo_some (px_int)) pxo_none) (pxa_nil))) T.z_zip) (fun _ _ _ _ _ => pxge_tup rfl (pxges_cons (pxge_name 2 (by decide) nd) (pxges_cons (pxge_name 3 (by decide) nd) (pxges_nil)))) (fun _ _ _ _ _ => pxts_nil) (fun _ _ _ _ _ => px_cmp (op_ltD hu) (px_var 2) (px_var 3)))) (pxa_nil)))))))))
abbrev tx_check_reports : Stmt := topS 16
abbrev NN_check_reports : List Str := ["value"]
theorem sc_check_reports : FnScope NN_check_reports ["value"] (defScope tx_check_reports) := ⟨rfl, rfl, rfl, by decide +kernel, rfl, by decide +kernel, by decide +kernel⟩
theorem fn_check_reports (T : Facts K mg) (D_are_reports : Def P w K mg base "are_reports" 1 4 sem_are_reports) {f : Addr} {fd : FuncData} (F : Fun K "check_reports" "check_reports" tx_check_reports f fd) : FnOk P w K mg base (L2.CX P w) 5 f fd ["value"] (spP K mg 1 sem_check_reports) :=
  def_fn F sc_check_reports rfl rfl fun cdv A outer s H E hr =>
    have nd := sc_check_reports.nd
    have hu := hr.units
    (pxs_one (pxs_if (pxt_v (pxt_not (pxt_val (px_call D_are_reports (hr.mono (by decide)) tkD (pxa_cons (px_var 0) (pxa_nil))))))
      (pxs_one (pxs_raise T.e_InvalidReports tkD rfl))
      (pxs_nil)))
abbrev tx_join_reports : Stmt := topS 28
abbrev NN_join_reports : List Str := ["reports", "name", "low", "high"]
theorem sc_join_reports : FnScope NN_join_reports ["reports"] (defScope tx_join_reports) := ⟨rfl, rfl, rfl, by decide +kernel, rfl, by decide +kernel, by decide +kernel⟩
theorem fn_join_reports (T : Facts K mg) {f : Addr} {fd : FuncData} (F : Fun K "join_reports" "join_reports" tx_join_reports f fd) : FnOk P w K mg base (L2.CX P w) 1 f fd ["reports"] (spP K mg 1 sem_join_reports) :=
  def_fn F sc_join_reports rfl rfl fun cdv A outer s H E hr =>
    have nd := sc_join_reports.nd
    have hu := hr.units
    (pxs_one (pxs_ret (px_v (px_join (px_gstr T.c_BETWEEN) (px_of (pxf_lc [("name", 1), ("low", 2), ("high", 3)] nd (blkOk_by (N := NN_join_reports) (sc := defScope tx_join_reports) (by decide +kernel)) (pxi_seq (px_var 0)) (fun _ _ _ _ _ => pxge_tup rfl (pxges_cons (pxge_name 1 (by decide) nd) (pxges_cons (pxge_name 2 (by decide) nd) (pxges_cons (pxge_name 3 (by decide) nd) (pxges_nil))))) (fun _ _ _ _ _ => pxts_nil) (fun _ _ _ _ _ => px_op op_addD (px_op op_addD (px_op op_addD (px_op op_addD (px_var 1) (px_str)) (px_callTy call_strF T.z_str boot_str' (pxa_cons (px_var 2) (pxa_nil)))) (px_str)) (px_callTy call_strF T.z_str boot_str' (pxa_cons (px_var 3) (pxa_nil))))))))))
abbrev tx_format_reports : Stmt := topS 29
abbrev NN_format_reports : List Str := ["reports"]
theorem sc_format_reports : FnScope NN_format_reports ["reports"] (defScope tx_format_reports) := ⟨rfl, rfl, rfl, by decide +kernel, rfl, by decide +kernel, by decide +kernel⟩
theorem fn_format_reports (T : Facts K mg) (D_check_reports : Def P w K mg base "check_reports" 1 5 sem_check_reports) (D_join_reports : Def P w K mg base "join_reports" 1 1 sem_join_reports) {f : Addr} {fd : FuncData} (F : Fun K "format_reports" "format_reports" tx_format_reports f fd) : FnOk P w K mg base (L2.CX P w) 6 f fd ["reports"] (spP K mg 1 sem_format_reports) :=
  def_fn F sc_format_reports rfl rfl fun cdv A outer s H E hr =>
    have nd := sc_format_reports.nd
    have hu := hr.units
    (pxs_cons (pxs_ex (px_v (px_call D_check_reports (hr.mono (by decide)) tkD (pxa_cons (px_var 0) (pxa_nil)))))
      (pxs_one (pxs_ret (px_v (px_call D_join_reports (hr.mono (by decide)) tkD (pxa_cons (px_var 0) (pxa_nil)))))))
abbrev tx_round_line : Stmt := topS 34
abbrev NN_round_line : List Str := ["part", "moment", "reports"]
theorem sc_round_line : FnScope NN_round_line ["part"] (defScope tx_round_line) := ⟨rfl, rfl, rfl, by decide +kernel, rfl, by decide +kernel, by decide +kernel⟩
theorem fn_round_line (T : Facts K mg) (D_join_reports : Def P w K mg base "join_reports" 1 1 sem_join_reports) {f : Addr} {fd : FuncData} (F : Fun K "round_line" "round_line" tx_round_line f fd) : FnOk P w K mg base (L2.CX P w) 2 f fd ["part"] (spP K mg 1 sem_round_line) :=
  def_fn F sc_round_line rfl rfl fun cdv A outer s H E hr =>
    have nd := sc_round_line.nd
    have hu := hr.units
    (pxs_cons (pxs_asg (px_v (px_var 0)) (pxg_tup rfl (pxgs_cons (pxg_name 1 nd) (pxgs_cons (pxg_name 2 nd) (pxgs_nil)))))
      (pxs_one (pxs_ret (px_v (px_op op_addD (px_op op_addD (px_op op_addD (px_callTy call_strF T.z_str boot_str' (pxa_cons (px_var 1) (pxa_nil))) (px_str)) (px_if (pxt_cmp (op_neDD hu) (px_var 2) (px_tup (pxa_nil))) (px_op op_addD (px_str) (px_call D_join_reports (hr.mono (by decide)) tkD (pxa_cons (px_var 2) (pxa_nil)))) (px_str))) (px_str))))))
abbrev tx_join_log : Stmt := topS 35
abbrev NN_join_log : List Str := ["log", "part"]
theorem sc_join_log : FnScope NN_join_log ["log"] (defScope tx_join_log) := ⟨rfl, rfl, rfl, by decide +kernel, rfl, by decide +kernel, by decide +kernel⟩
theorem fn_join_log (T : Facts K mg) (D_round_line : Def P w K mg base "round_line" 1 2 sem_round_line) {f : Addr} {fd : FuncData} (F : Fun K "join_log" "join_log" tx_join_log f fd) : FnOk P w K mg base (L2.CX P w) 3 f fd ["log"] (spP K mg 1 sem_join_log) :=
  def_fn F sc_join_log rfl rfl fun cdv A outer s H E hr =>
    have nd := sc_join_log.nd
    have hu := hr.units
    (pxs_one (pxs_ret (px_v (px_join (px_str) (px_of (pxf_lc [("part", 1)] nd (blkOk_by (N := NN_join_log) (sc := defScope tx_join_log) (by decide +kernel)) (pxi_seq (px_var 0)) (fun _ _ _ _ _ => pxge_name 1 (by decide) nd) (fun _ _ _ _ _ => pxts_nil) (fun _ _ _ _ _ => px_call D_round_line (hr.mono (by decide)) takes0 (pxa_cons (px_var 1) (pxa_nil)))))))))
abbrev tx_is_moment : Stmt := topS 21
abbrev NN_is_moment : List Str := ["value"]
theorem sc_is_moment : FnScope NN_is_moment ["value"] (defScope tx_is_moment) := ⟨rfl, rfl, rfl, by decide +kernel, rfl, by decide +kernel, by decide +kernel⟩
theorem fn_is_moment (T : Facts K mg) (D_is_integer : Def P w K mg base "is_integer" 1 1 sem_is_integer) {f : Addr} {fd : FuncData} (F : Fun K "is_moment" "is_moment" tx_is_moment f fd) : FnOk P w K mg base (L2.CX P w) 2 f fd ["value"] (spP K mg 1 sem_is_moment) :=
  def_fn F sc_is_moment rfl rfl fun cdv A outer s H E hr =>
    have nd := sc_is_moment.nd
    have hu := hr.units
    (pxs_one (pxs_ret (px_v (px_and (px_call D_is_integer (hr.mono (by decide)) tkD (pxa_cons (px_var 0) (pxa_nil))) (px_one (px_chain (op_leD hu) (op_leD hu) (px_int) (px_var 0) (px_gint T.c_MAX_MOMENT)))))))
abbrev tx_is_round : Stmt := topS 22
abbrev NN_is_round : List Str := ["value"]
theorem sc_is_round : FnScope NN_is_round ["value"] (defScope tx_is_round) := ⟨rfl, rfl, rfl, by decide +kernel, rfl, by decide +kernel, by decide +kernel⟩
theorem fn_is_round (T : Facts K mg) (D_are_reports : Def P w K mg base "are_reports" 1 4 sem_are_reports) (D_is_moment : Def P w K mg base "is_moment" 1 2 sem_is_moment) {f : Addr} {fd : FuncData} (F : Fun K "is_round" "is_round" tx_is_round f fd) : FnOk P w K mg base (L2.CX P w) 5 f fd ["value"] (spP K mg 1 sem_is_round) :=
  def_fn F sc_is_round rfl rfl fun cdv A outer s H E hr =>
    have nd := sc_is_round.nd
    have hu := hr.units
    (pxs_cons (pxs_if (pxt_v (pxt_bool (pxw_or (pxt_not (pxt_val (px_isi "tuple" (px_var 0) T.z_isinstance T.z_tuple boot_tuple'))) (pxw_or (pxt_cmp (op_neDD hu) (px_callB call_lenF T.z_len boot_len' (pxa_cons (px_var 0) (pxa_nil))) (px_int)) (pxw_or1 (pxt_not (pxt_val (px_call D_is_moment (hr.mono (by decide)) tkD (pxa_cons (px_ix (px_var 0) (px_int)) (pxa_nil))))))))))
      (pxs_one (pxs_ret (px_v (px_bl))))
      (pxs_nil))
      (pxs_one (pxs_ret (px_v (px_and (px_call D_are_reports (hr.mono (by decide)) tkD (pxa_cons (px_ix (px_var 0) (px_int)) (pxa_nil))) (px_one (px_cmp (op_leD hu) (px_callB call_lenF T.z_len boot_len' (pxa_cons (px_ix (px_var 0) (px_int)) (pxa_nil))) (px_gint T.c_MAX_FOLLOWED))))))))
abbrev tx_is_log : Stmt := topS 23
abbrev NN_is_log : List Str := ["candidate", "part", "one", "other"]
theorem sc_is_log : FnScope NN_is_log ["candidate"] (defScope tx_is_log) := ⟨rfl, rfl, rfl, by decide +kernel, rfl, by decide +kernel, by decide +kernel⟩
theorem fn_is_log (T : Facts K mg) (D_is_round : Def P w K mg base "is_round" 1 5 sem_is_round) (D_sources : Def P w K mg base "sources" 1 1 sem_sources) {f : Addr} {fd : FuncData} (F : Fun K "is_log" "is_log" tx_is_log f fd) : FnOk P w K mg base (L2.CX P w) 6 f fd ["candidate"] (spP K mg 1 sem_is_log) :=
  def_fn F sc_is_log rfl rfl fun cdv A outer s H E hr =>
    have nd := sc_is_log.nd
    have hu := hr.units
    (pxs_cons (pxs_if (pxt_v (pxt_bool (pxw_or (pxt_not (pxt_val (px_isi "tuple" (px_var 0) T.z_isinstance T.z_tuple boot_tuple'))) (pxw_or1 (pxt_not (pxt_chain (op_leD hu) (op_leD hu) (px_int) (px_callB call_lenF T.z_len boot_len' (pxa_cons (px_var 0) (pxa_nil))) (px_gint T.c_MAX_ROUNDS)))))))
      (pxs_one (pxs_ret (px_v (px_bl))))
      (pxs_nil))
      (pxs_cons (pxs_if (pxt_v (pxt_not (pxt_val (px_callB (call_allF rfl) T.z_all boot_all' (pxa_cons (px_of (pxf_lc [("part", 1)] nd (blkOk_by (N := NN_is_log) (sc := defScope tx_is_log) (by decide +kernel)) (pxi_seq (px_var 0)) (fun _ _ _ _ _ => pxge_name 1 (by decide) nd) (fun _ _ _ _ _ => pxts_nil) (fun _ _ _ _ _ => px_call D_is_round (hr.mono (by decide)) takes0 (pxa_cons (px_var 1) (pxa_nil))))) (pxa_nil))))))
      (pxs_one (pxs_ret (px_v (px_bl))))
      (pxs_nil))
      (pxs_cons (pxs_if (pxt_v (pxt_not (pxt_val (px_callB (call_allF rfl) T.z_all boot_all' (pxa_cons (px_of (pxf_lc [("one", 2), ("other", 3)] nd (blkOk_by (N := NN_is_log) (sc := defScope tx_is_log) (by decide +kernel)) (pxi_zip (pxa_cons (px_var 0) (pxa_cons (px_slice (px_var 0) (pxo_some (px_int)) pxo_none) (pxa_nil))) T.z_zip) (fun _ _ _ _ _ => pxge_tup rfl (pxges_cons (pxge_name 2 (by decide) nd) (pxges_cons (pxge_name 3 (by decide) nd) (pxges_nil)))) (fun _ _ _ _ _ => pxts_nil) (fun _ _ _ _ _ => px_cmp (op_ltD hu) (px_ix (px_var 2) (px_int)) (px_ix (px_var 3) (px_int))))) (pxa_nil))))))
      (pxs_one (pxs_ret (px_v (px_bl))))
      (pxs_nil))
      (pxs_one (pxs_ret (px_v (px_callB (call_allF rfl) T.z_all boot_all' (pxa_cons (px_of (pxf_lc [("part", 1)] nd (blkOk_by (N := NN_is_log) (sc := defScope tx_is_log) (by decide +kernel)) (pxi_seq (px_var 0)) (fun _ _ _ _ _ => pxge_name 1 (by decide) nd) (fun _ _ _ _ _ => pxts_nil) (fun _ _ _ _ _ => px_cmp (op_eqDD hu) (px_call D_sources (hr.mono (by decide)) takes0 (pxa_cons (px_ix (px_var 1) (px_int)) (pxa_nil))) (px_call D_sources (hr.mono (by decide)) takes0 (pxa_cons (px_ix (px_ix (px_var 0) (px_int)) (px_int)) (pxa_nil)))))) (pxa_nil)))))))))
abbrev tx_format_log : Stmt := topS 36
abbrev NN_format_log : List Str := ["log"]
theorem sc_format_log : FnScope NN_format_log ["log"] (defScope tx_format_log) := ⟨rfl, rfl, rfl, by decide +kernel, rfl, by decide +kernel, by decide +kernel⟩
theorem fn_format_log (T : Facts K mg) (D_join_log : Def P w K mg base "join_log" 1 3 sem_join_log) (D_is_log : Def P w K mg base "is_log" 1 6 sem_is_log) {f : Addr} {fd : FuncData} (F : Fun K "format_log" "format_log" tx_format_log f fd) : FnOk P w K mg base (L2.CX P w) 7 f fd ["log"] (spP K mg 1 sem_format_log) :=
  def_fn F sc_format_log rfl rfl fun cdv A outer s H E hr =>
    have nd := sc_format_log.nd
    have hu := hr.units
    (pxs_cons (pxs_if (pxt_v (pxt_not (pxt_val (px_call D_is_log (hr.mono (by decide)) tkD (pxa_cons (px_var 0) (pxa_nil))))))
      (pxs_one (pxs_raise T.e_InvalidLog tkD rfl))
      (pxs_nil))
      (pxs_one (pxs_ret (px_v (px_call D_join_log (hr.mono (by decide)) tkD (pxa_cons (px_var 0) (pxa_nil)))))))
abbrev tx__law_error : Stmt := topS 45
abbrev NN__law_error : List Str := ["way", "one", "e"]
theorem sc__law_error : FnScope NN__law_error ["way", "one"] (defScope tx__law_error) := ⟨rfl, rfl, rfl, by decide +kernel, rfl, by decide +kernel, by decide +kernel⟩
theorem fn__law_error (T : Facts K mg) (D_format_reports : Def P w K mg base "format_reports" 1 6 sem_format_reports) (D_format_log : Def P w K mg base "format_log" 1 7 sem_format_log) {f : Addr} {fd : FuncData} (F : Fun K "_law_error" "_law_error" tx__law_error f fd) : FnOk P w K mg base (L2.CX P w) 8 f fd ["way", "one"] (spP K mg 2 sem__law_error_3) :=
  def_fn F sc__law_error rfl rfl fun cdv A outer s H E hr =>
    have nd := sc__law_error.nd
    have hu := hr.units
    (pxs_cons (pxs_try 2 T.et tkD nd (fun W2 pn2 xe2 tk2 pp2 =>
      (pxs_one (pxs_ex (px_v (px_pick2 D_format_reports D_format_log (hr.mono (by decide)) (hr.mono (by decide)) tk2 (px_var 0) (pxa_cons (px_var 1) (pxa_nil))))))) (fun a2 pn2 =>
      (pxs_one (pxs_ret (px_v (px_lindex (px_lst (pxa_cons (px_isE T.et (px_var 2) T.z_isinstance) (pxa_cons (px_isE T.et (px_var 2) T.z_isinstance) (pxa_nil)))) (px_bl)))))))
      (pxs_one (pxs_ret (px_v (px_non)))))
abbrev tx_read_number : Stmt := topS 30
abbrev NN_read_number : List Str := ["word", "sign"]
theorem sc_read_number : FnScope NN_read_number ["word"] (defScope tx_read_number) := ⟨rfl, rfl, rfl, by decide +kernel, rfl, by decide +kernel, by decide +kernel⟩
theorem fn_read_number (T : Facts K mg) {f : Addr} {fd : FuncData} (F : Fun K "read_number" "read_number" tx_read_number f fd) : FnOk P w K mg base (L2.CX P w) 1 f fd ["word"] (spP K mg 1 sem_read_number) :=
  def_fn F sc_read_number rfl rfl fun cdv A outer s H E hr =>
    have nd := sc_read_number.nd
    have hu := hr.units
    (pxs_cons (pxs_if (pxt_v (pxt_bool (pxw_or (pxt_not (pxt_chain (op_leD hu) (op_leD hu) (px_int) (px_callB call_lenF T.z_len boot_len' (pxa_cons (px_var 0) (pxa_nil))) (px_gint T.c_MAX_DIGITS))) (pxw_or1 (pxt_not (pxt_val (px_callB (call_allF rfl) T.z_all boot_all' (pxa_cons (px_of (pxf_lc [("sign", 1)] nd (blkOk_by (N := NN_read_number) (sc := defScope tx_read_number) (by decide +kernel)) (pxi_seq (px_var 0)) (fun _ _ _ _ _ => pxge_name 1 (by decide) nd) (fun _ _ _ _ _ => pxts_nil) (fun _ _ _ _ _ => px_cmp (op_inD hu) (px_var 1) (px_gstr T.c_DIGITS)))) (pxa_nil)))))))))
      (pxs_one (pxs_ret (px_v (px_non))))
      (pxs_nil))
      (pxs_one (pxs_ret (px_v (px_callTy call_intFD T.z_int boot_int' (pxa_cons (px_var 0) (pxa_nil)))))))
abbrev tx_read_report : Stmt := topS 31
abbrev NN_read_report : List Str := ["text", "words", "numbers", "number"]
theorem sc_read_report : FnScope NN_read_report ["text"] (defScope tx_read_report) := ⟨rfl, rfl, rfl, by decide +kernel, rfl, by decide +kernel, by decide +kernel⟩
theorem fn_read_report (T : Facts K mg) (D_read_number : Def P w K mg base "read_number" 1 1 sem_read_number) {f : Addr} {fd : FuncData} (F : Fun K "read_report" "read_report" tx_read_report f fd) : FnOk P w K mg base (L2.CX P w) 2 f fd ["text"] (spP K mg 1 sem_read_report) :=
  def_fn F sc_read_report rfl rfl fun cdv A outer s H E hr =>
    have nd := sc_read_report.nd
    have hu := hr.units
    (pxs_cons (pxs_set 1 (px_v (px_split (px_var 0) (px_str))) nd)
      (pxs_cons (pxs_set 2 (px_v (px_split (px_ix (px_var 1) (px_un un_negD (px_int))) (px_str))) nd)
      (pxs_one (pxs_ret (px_v (px_callTy call_tupleF T.z_tuple boot_tuple' (pxa_cons (px_op op_addD (px_slice (px_var 1) pxo_none (pxo_some (px_un un_negD (px_int)))) (px_of (pxf_lc [("number", 3)] nd (blkOk_by (N := NN_read_report) (sc := defScope tx_read_report) (by decide +kernel)) (pxi_seq (px_var 2)) (fun _ _ _ _ _ => pxge_name 3 (by decide) nd) (fun _ _ _ _ _ => pxts_nil) (fun _ _ _ _ _ => px_call D_read_number (hr.mono (by decide)) takes0 (pxa_cons (px_var 3) (pxa_nil)))))) (pxa_nil))))))))
abbrev tx_read_reports : Stmt := topS 32
abbrev NN_read_reports : List Str := ["text", "part"]
theorem sc_read_reports : FnScope NN_read_reports ["text"] (defScope tx_read_reports) := ⟨rfl, rfl, rfl, by decide +kernel, rfl, by decide +kernel, by decide +kernel⟩
theorem fn_read_reports (T : Facts K mg) (D_read_report : Def P w K mg base "read_report" 1 2 sem_read_report) {f : Addr} {fd : FuncData} (F : Fun K "read_reports" "read_reports" tx_read_reports f fd) : FnOk P w K mg base (L2.CX P w) 3 f fd ["text"] (spP K mg 1 sem_read_reports) :=
  def_fn F sc_read_reports rfl rfl fun cdv A outer s H E hr =>
    have nd := sc_read_reports.nd
    have hu := hr.units
    (pxs_one (pxs_ret (px_v (px_if (pxt_cmp (op_neDD hu) (px_var 0) (px_str)) (px_callTy call_tupleF T.z_tuple boot_tuple' (pxa_cons (px_of (pxf_lc [("part", 1)] nd (blkOk_by (N := NN_read_reports) (sc := defScope tx_read_reports) (by decide +kernel)) (pxi_seq (px_split (px_var 0) (px_gstr T.c_BETWEEN))) (fun _ _ _ _ _ => pxge_name 1 (by decide) nd) (fun _ _ _ _ _ => pxts_nil) (fun _ _ _ _ _ => px_call D_read_report (hr.mono (by decide)) takes0 (pxa_cons (px_var 1) (pxa_nil))))) (pxa_nil))) (px_tup (pxa_nil))))))
abbrev tx_parse_reports : Stmt := topS 33
abbrev NN_parse_reports : List Str := ["text", "reports"]
theorem sc_parse_reports : FnScope NN_parse_reports ["text"] (defScope tx_parse_reports) := ⟨rfl, rfl, rfl, by decide +kernel, rfl, by decide +kernel, by decide +kernel⟩
theorem fn_parse_reports (T : Facts K mg) (D_read_reports : Def P w K mg base "read_reports" 1 3 sem_read_reports) (D_are_reports : Def P w K mg base "are_reports" 1 4 sem_are_reports) (D_join_reports : Def P w K mg base "join_reports" 1 1 sem_join_reports) {f : Addr} {fd : FuncData} (F : Fun K "parse_reports" "parse_reports" tx_parse_reports f fd) : FnOk P w K mg base (L2.CX P w) 5 f fd ["text"] (spP K mg 1 sem_parse_reports) :=
  def_fn F sc_parse_reports rfl rfl fun cdv A outer s H E hr =>
    have nd := sc_parse_reports.nd
    have hu := hr.units
    (pxs_cons (pxs_if (pxt_v (pxt_not (pxt_val (px_isi "str" (px_var 0) T.z_isinstance T.z_str boot_str'))))
      (pxs_one (pxs_raise T.e_ParseError tkD rfl))
      (pxs_nil))
      (pxs_cons (pxs_set 1 (px_v (px_call D_read_reports (hr.mono (by decide)) tkD (pxa_cons (px_var 0) (pxa_nil)))) nd)
      (pxs_cons (pxs_if (pxt_v (pxt_bool (pxw_or (pxt_not (pxt_val (px_call D_are_reports (hr.mono (by decide)) tkD (pxa_cons (px_var 1) (pxa_nil))))) (pxw_or1 (pxt_cmp (op_neDD hu) (px_call D_join_reports (hr.mono (by decide)) tkD (pxa_cons (px_var 1) (pxa_nil))) (px_var 0))))))
      (pxs_one (pxs_raise T.e_ParseError tkD rfl))
      (pxs_nil))
      (pxs_one (pxs_ret (px_v (px_var 1)))))))
abbrev tx_read_round : Stmt := topS 37
abbrev NN_read_round : List Str := ["line", "words"]
theorem sc_read_round : FnScope NN_read_round ["line"] (defScope tx_read_round) := ⟨rfl, rfl, rfl, by decide +kernel, rfl, by decide +kernel, by decide +kernel⟩
theorem fn_read_round (T : Facts K mg) (D_read_number : Def P w K mg base "read_number" 1 1 sem_read_number) (D_read_reports : Def P w K mg base "read_reports" 1 3 sem_read_reports) {f : Addr} {fd : FuncData} (F : Fun K "read_round" "read_round" tx_read_round f fd) : FnOk P w K mg base (L2.CX P w) 4 f fd ["line"] (spP K mg 1 sem_read_round) :=
  def_fn F sc_read_round rfl rfl fun cdv A outer s H E hr =>
    have nd := sc_read_round.nd
    have hu := hr.units
    (pxs_cons (pxs_set 1 (px_v (px_split (px_var 0) (px_str))) nd)
      (pxs_one (pxs_ret (px_v (px_tup (pxa_cons (px_call D_read_number (hr.mono (by decide)) tkD (pxa_cons (px_ix (px_var 1) (px_int)) (pxa_nil))) (pxa_cons (px_call D_read_reports (hr.mono (by decide)) tkD (pxa_cons (px_slice (px_join (px_str) (px_slice (px_var 1) (pxo_some (px_int)) pxo_none)) (pxo_some (px_int)) pxo_none) (pxa_nil))) (pxa_nil))))))))
abbrev tx_parse_log : Stmt := topS 38
abbrev NN_parse_log : List Str := ["text", "log", "line"]
theorem sc_parse_log : FnScope NN_parse_log ["text"] (defScope tx_parse_log) := ⟨rfl, rfl, rfl, by decide +kernel, rfl, by decide +kernel, by decide +kernel⟩
theorem fn_parse_log (T : Facts K mg) (D_read_round : Def P w K mg base "read_round" 1 4 sem_read_round) (D_is_log : Def P w K mg base "is_log" 1 6 sem_is_log) (D_join_log : Def P w K mg base "join_log" 1 3 sem_join_log) {f : Addr} {fd : FuncData} (F : Fun K "parse_log" "parse_log" tx_parse_log f fd) : FnOk P w K mg base (L2.CX P w) 7 f fd ["text"] (spP K mg 1 sem_parse_log) :=
  def_fn F sc_parse_log rfl rfl fun cdv A outer s H E hr =>
    have nd := sc_parse_log.nd
    have hu := hr.units
    (pxs_cons (pxs_if (pxt_v (pxt_not (pxt_val (px_isi "str" (px_var 0) T.z_isinstance T.z_str boot_str'))))
      (pxs_one (pxs_raise T.e_ParseError tkD rfl))
      (pxs_nil))
      (pxs_cons (pxs_set 1 (px_v (px_callTy call_tupleF T.z_tuple boot_tuple' (pxa_cons (px_of (pxf_lc [("line", 2)] nd (blkOk_by (N := NN_parse_log) (sc := defScope tx_parse_log) (by decide +kernel)) (pxi_seq (px_slice (px_split (px_var 0) (px_str)) pxo_none (pxo_some (px_un un_negD (px_int))))) (fun _ _ _ _ _ => pxge_name 2 (by decide) nd) (fun _ _ _ _ _ => pxts_nil) (fun _ _ _ _ _ => px_call D_read_round (hr.mono (by decide)) takes0 (pxa_cons (px_var 2) (pxa_nil))))) (pxa_nil)))) nd)
      (pxs_cons (pxs_if (pxt_v (pxt_bool (pxw_or (pxt_not (pxt_val (px_call D_is_log (hr.mono (by decide)) tkD (pxa_cons (px_var 1) (pxa_nil))))) (pxw_or1 (pxt_cmp (op_neDD hu) (px_call D_join_log (hr.mono (by decide)) tkD (pxa_cons (px_var 1) (pxa_nil))) (px_var 0))))))
      (pxs_one (pxs_raise T.e_ParseError tkD rfl))
      (pxs_nil))
      (pxs_one (pxs_ret (px_v (px_var 1)))))))
abbrev tx__law_again : Stmt := topS 44
abbrev NN__law_again : List Str := ["way", "text", "e"]
theorem sc__law_again : FnScope NN__law_again ["way", "text"] (defScope tx__law_again) := ⟨rfl, rfl, rfl, by decide +kernel, rfl, by decide +kernel, by decide +kernel⟩
theorem fn__law_again (T : Facts K mg) (D__law_text : Def P w K mg base "_law_text" 1 1 sem__law_text) (D__law_lines : Def P w K mg base "_law_lines" 1 2 sem__law_lines) (D_parse_reports : Def P w K mg base "parse_reports" 1 5 sem_parse_reports) (D_parse_log : Def P w K mg base "parse_log" 1 7 sem_parse_log) {f : Addr} {fd : FuncData} (F : Fun K "_law_again" "_law_again" tx__law_again f fd) : FnOk P w K mg base (L2.CX P w) 8 f fd ["way", "text"] (spP K mg 2 sem__law_again) :=
  def_fn F sc__law_again rfl rfl fun cdv A outer s H E hr =>
    have nd := sc__law_again.nd
    have hu := hr.units
    (pxs_one (pxs_try 2 T.et tkD nd (fun W2 pn2 xe2 tk2 pp2 =>
      (pxs_one (pxs_ret (px_v (px_if (pxt_cmp (op_eqDD hu) (px_var 0) (px_int)) (px_call D__law_text (hr.mono (by decide)) tk2 (pxa_cons (px_call D_parse_reports (hr.mono (by decide)) tk2 (pxa_cons (px_var 1) (pxa_nil))) (pxa_nil))) (px_call D__law_lines (hr.mono (by decide)) tk2 (pxa_cons (px_call D_parse_log (hr.mono (by decide)) tk2 (pxa_cons (px_var 1) (pxa_nil))) (pxa_nil)))))))) (fun a2 pn2 =>
      (pxs_one (pxs_ret (px_v (px_if (pxt_val (px_isE T.et (px_var 2) T.z_isinstance)) (px_non) (px_str))))))))
abbrev tx__law_rejected : Stmt := topS 46
abbrev NN__law_rejected : List Str := ["bad", "one"]
theorem sc__law_rejected : FnScope NN__law_rejected [] (defScope tx__law_rejected) := ⟨rfl, rfl, rfl, by decide +kernel, rfl, by decide +kernel, by decide +kernel⟩
theorem fn__law_rejected (T : Facts K mg) (D_parse_log : Def P w K mg base "parse_log" 1 7 sem_parse_log) (D_parse_reports : Def P w K mg base "parse_reports" 1 5 sem_parse_reports) (D__law_again : Def P w K mg base "_law_again" 2 8 sem__law_again) {f : Addr} {fd : FuncData} (F : Fun K "_law_rejected" "_law_rejected" tx__law_rejected f fd) : FnOk P w K mg base (L2.CX P w) 9 f fd [] (spP K mg 0 sem__law_rejected_2) :=
  def_fn F sc__law_rejected rfl rfl fun cdv A outer s H E hr =>
    have nd := sc__law_rejected.nd
    have hu := hr.units
    (pxs_cons (pxs_set 0 (px_v (px_lst (pxa_cons (px_non) (pxa_cons (px_int) (pxa_cons (px_str) (pxa_cons (px_str) (pxa_cons (px_str) (pxa_cons (px_str) (pxa_cons (px_str) (pxa_cons (px_str) (pxa_cons (px_str) (pxa_cons (px_str) (pxa_nil))))))))))))) nd)
      (pxs_cons (pxs_set 0 (px_v (px_op op_addD (px_var 0) (px_lst (pxa_cons (px_str) (pxa_cons (px_str) (pxa_nil)))))) nd)
      (pxs_cons (pxs_set 0 (px_v (px_op op_addD (px_var 0) (px_lst (pxa_cons (px_str) (pxa_cons (px_str) (pxa_cons (px_str) (pxa_cons (px_str) (pxa_cons (px_str) (pxa_cons (px_str) (pxa_cons (px_str) (pxa_cons (px_str) (pxa_nil)))))))))))) nd)
      (pxs_cons (pxs_set 0 (px_v (px_op op_addD (px_var 0) (px_lst (pxa_cons (px_str) (pxa_cons (px_str) (pxa_cons (px_tup (pxa_cons (px_str) (pxa_nil))) (pxa_nil))))))) nd)
      (pxs_cons (pxs_if (pxt_v (pxt_bool (pxw_or (pxt_cmp (op_neDD hu) (px_of (pxf_lc [("one", 1)] nd (blkOk_by (N := NN__law_rejected) (sc := defScope tx__law_rejected) (by decide +kernel)) (pxi_seq (px_var 0)) (fun _ _ _ _ _ => pxge_name 1 (by decide) nd) (fun _ _ _ _ _ => pxts_one (pxt_cmp op_isNotDD (px_call D__law_again (hr.mono (by decide)) takes0 (pxa_cons (px_int) (pxa_cons (px_var 1) (pxa_nil)))) (px_non))) (fun _ _ _ _ _ => px_var 1))) (px_lst (pxa_nil))) (pxw_or1 (pxt_cmp (op_neDD hu) (px_call D_parse_reports (hr.mono (by decide)) tkD (pxa_cons (px_str) (pxa_nil))) (px_tup (pxa_nil)))))))
      (pxs_one (pxs_ret (px_v (px_bl))))
      (pxs_nil))
      (pxs_cons (pxs_set 0 (px_v (px_lst (pxa_cons (px_non) (pxa_cons (px_int) (pxa_cons (px_str) (pxa_cons (px_str) (pxa_cons (px_str) (pxa_cons (px_str) (pxa_cons (px_str) (pxa_cons (px_str) (pxa_cons (px_str) (pxa_cons (px_str) (pxa_cons (px_str) (pxa_nil)))))))))))))) nd)
      (pxs_cons (pxs_set 0 (px_v (px_op op_addD (px_var 0) (px_lst (pxa_cons (px_str) (pxa_cons (px_str) (pxa_cons (px_str) (pxa_nil))))))) nd)
      (pxs_cons (pxs_set 0 (px_v (px_op op_addD (px_var 0) (px_lst (pxa_cons (px_str) (pxa_cons (px_str) (pxa_cons (px_str) (pxa_cons (px_str) (pxa_cons (px_str) (pxa_nil))))))))) nd)
      (pxs_cons (pxs_set 0 (px_v (px_op op_addD (px_var 0) (px_lst (pxa_cons (px_str) (pxa_cons (px_str) (pxa_cons (px_tup (pxa_cons (px_str) (pxa_nil))) (pxa_nil))))))) nd)
      (pxs_cons (pxs_if (pxt_v (pxt_cmp (op_neDD hu) (px_of (pxf_lc [("one", 1)] nd (blkOk_by (N := NN__law_rejected) (sc := defScope tx__law_rejected) (by decide +kernel)) (pxi_seq (px_var 0)) (fun _ _ _ _ _ => pxge_name 1 (by decide) nd) (fun _ _ _ _ _ => pxts_one (pxt_cmp op_isNotDD (px_call D__law_again (hr.mono (by decide)) takes0 (pxa_cons (px_int) (pxa_cons (px_var 1) (pxa_nil)))) (px_non))) (fun _ _ _ _ _ => px_var 1))) (px_lst (pxa_nil))))
      (pxs_one (pxs_ret (px_v (px_bl))))
      (pxs_nil))
      (pxs_cons (pxs_if (pxt_v (pxt_cmp (op_neDD hu) (px_call D_parse_log (hr.mono (by decide)) tkD (pxa_cons (px_str) (pxa_nil))) (px_tup (pxa_cons (px_tup (pxa_cons (px_int) (pxa_cons (px_tup (pxa_nil)) (pxa_nil)))) (pxa_cons (px_tup (pxa_cons (px_int) (pxa_cons (px_tup (pxa_nil)) (pxa_nil)))) (pxa_nil))))))
      (pxs_one (pxs_ret (px_v (px_bl))))
      (pxs_nil))
      (pxs_one (pxs_ret (px_v (px_cmp (op_eqDD hu) (px_call D_parse_reports (hr.mono (by decide)) tkD (pxa_cons (px_str) (pxa_nil))) (px_tup (pxa_cons (px_tup (pxa_cons (px_str) (pxa_cons (px_int) (pxa_cons (px_int) (pxa_nil))))) (pxa_nil))))))))))))))))))
abbrev tx_law : Stmt := topS 47
abbrev NN_law : List Str := ["script", "reports", "log", "moment", "k", "rows", "shifted", "text", "lines", "at", "way", "whole", "place", "sign", "new", "bent", "odd", "told", "name", "low", "high"]
theorem sc_law : FnScope NN_law ["script"] (defScope tx_law) := ⟨rfl, rfl, rfl, by decide +kernel, rfl, by decide +kernel, by decide +kernel⟩
theorem fn_law (T : Facts K mg) (D__law_reports : Def P w K mg base "_law_reports" 3 2 sem__law_reports_2) (D__law_drawn : Def P w K mg base "_law_drawn" 3 1 sem__law_drawn) (D__law_text : Def P w K mg base "_law_text" 1 1 sem__law_text) (D__law_lines : Def P w K mg base "_law_lines" 1 2 sem__law_lines) (D__law_error : Def P w K mg base "_law_error" 2 8 sem__law_error_3) (D_format_reports : Def P w K mg base "format_reports" 1 6 sem_format_reports) (D_parse_reports : Def P w K mg base "parse_reports" 1 5 sem_parse_reports) (D__law_rejected : Def P w K mg base "_law_rejected" 0 9 sem__law_rejected_2) (D_format_log : Def P w K mg base "format_log" 1 7 sem_format_log) (D_parse_log : Def P w K mg base "parse_log" 1 7 sem_parse_log) (D__law_again : Def P w K mg base "_law_again" 2 8 sem__law_again) {f : Addr} {fd : FuncData} (F : Fun K "law" "law" tx_law f fd) : FnOk P w K mg base (L2.CX P w) 10 f fd ["script"] (spP K mg 1 sem_law_k67) :=
  def_fn F sc_law rfl rfl fun cdv A outer s H E hr =>
    have nd := sc_law.nd
    have hu := hr.units
    (pxs_cons (pxs_par3 (pxb_val (px_v (px_call D__law_reports (hr.mono (by decide)) tkD (pxa_cons (px_var 0) (pxa_cons (px_int) (pxa_cons (px_int) (pxa_nil)))))) (pxb_own (pxf_v (pxf_disp (pxa_nil))) (pxb_val (px_v (px_call D__law_drawn (hr.mono (by decide)) tkD (pxa_cons (px_var 0) (pxa_cons (px_int) (pxa_cons (px_int) (pxa_nil)))))) (pxb_nil)))) (by decide) (by decide) (by decide) rfl nd)
      (pxs_cons (pxs_for ppD rfl (pxi_range1 (pxa_cons (px_op op_addD (px_int) (px_call D__law_drawn (hr.mono (by decide)) tkD (pxa_cons (px_var 0) (pxa_cons (px_int) (pxa_cons (px_int) (pxa_nil)))))) (pxa_nil)) T.z_range) (pxg_name 4 nd)
      (pxs_cons (pxs_set 5 (px_v (px_call D__law_reports (hr.mono (by decide)) tkD (pxa_cons (px_var 0) (pxa_cons (px_int) (pxa_cons (px_int) (pxa_nil)))))) nd)
      (pxs_cons (pxs_lc 6 [("name", 18), ("low", 19), ("high", 20)] evf_v nd (blkOk_by (N := NN_law) (sc := defScope tx_law) (by decide +kernel)) (pxi_seq (px_var 5)) (fun _ _ _ _ _ => pxge_tup rfl (pxges_cons (pxge_name 18 (by decide) nd) (pxges_cons (pxge_name 19 (by decide) nd) (pxges_cons (pxge_name 20 (by decide) nd) (pxges_nil))))) (fun _ _ _ _ _ => pxts_nil) (fun _ _ _ _ _ => px_tup (pxa_cons (px_var 18) (pxa_cons (px_var 19) (pxa_cons (px_callB (call_min2F rfl) T.z_min boot_min' (pxa_cons (px_op op_addD (px_var 20) (px_call D__law_drawn (hr.mono (by decide)) takes0 (pxa_cons (px_var 0) (pxa_cons (px_op op_addD (px_int) (px_var 4)) (pxa_cons (px_int) (pxa_nil)))))) (pxa_cons (px_int) (pxa_nil)))) (pxa_nil))))) (sw_true rfl rfl rfl (by decide +kernel)))
      (pxs_cons (pxs_append 2 (px_v (px_tup (pxa_cons (px_var 3) (pxa_cons (px_callTy call_tupleF T.z_tuple boot_tuple' (pxa_cons (px_var 6) (pxa_nil))) (pxa_nil))))))
      (pxs_one (pxs_set 3 (px_v (px_op op_addD (px_op op_addD (px_var 3) (px_int)) (px_call D__law_drawn (hr.mono (by decide)) tkD (pxa_cons (px_var 0) (pxa_cons (px_op op_addD (px_int) (px_var 4)) (pxa_cons (px_int) (pxa_nil))))))) nd))))))
      (pxs_cons (px1_frz 2 (pxs_set 2 (px_v (px_callTy call_tupleF T.z_tuple boot_tuple' (pxa_cons (px_var 2) (pxa_nil)))) nd))
      (pxs_cons (pxs_par (pxb_val (px_v (px_call D__law_text (hr.mono (by decide)) tkD (pxa_cons (px_var 1) (pxa_nil)))) (pxb_val (px_v (px_call D__law_lines (hr.mono (by decide)) tkD (pxa_cons (px_var 2) (pxa_nil)))) (pxb_nil))) (by decide) rfl nd)
      (pxs_cons (pxs_if (pxt_v (pxt_bool (pxw_or (pxt_cmp (op_neDD hu) (px_call D_format_reports (hr.mono (by decide)) tkD (pxa_cons (px_var 1) (pxa_nil))) (px_var 7)) (pxw_or (pxt_cmp (op_neDD hu) (px_call D_parse_reports (hr.mono (by decide)) tkD (pxa_cons (px_var 7) (pxa_nil))) (px_var 1)) (pxw_or1 (pxt_not (pxt_val (px_call0 D__law_rejected (hr.mono (by decide))))))))))
      (pxs_one (pxs_ret (px_v (px_bl))))
      (pxs_nil))
      (pxs_cons (pxs_if (pxt_v (pxt_bool (pxw_or (pxt_cmp (op_neDD hu) (px_call D_format_log (hr.mono (by decide)) tkD (pxa_cons (px_var 2) (pxa_nil))) (px_var 8)) (pxw_or1 (pxt_cmp (op_neDD hu) (px_call D_parse_log (hr.mono (by decide)) tkD (pxa_cons (px_var 8) (pxa_nil))) (px_var 2))))))
      (pxs_one (pxs_ret (px_v (px_bl))))
      (pxs_nil))
      (pxs_cons (pxs_for ppD rfl (pxi_range1 (pxa_cons (px_int) (pxa_nil)) T.z_range) (pxg_name 4 nd)
      (pxs_cons (pxs_set 9 (px_v (px_op op_addD (px_int) (px_op op_mulD (px_int) (px_var 4)))) nd)
      (pxs_cons (pxs_set 10 (px_v (px_call D__law_drawn (hr.mono (by decide)) tkD (pxa_cons (px_var 0) (pxa_cons (px_var 9) (pxa_cons (px_int) (pxa_nil)))))) nd)
      (pxs_cons (pxs_set 11 (px_v (px_ix (px_lst (pxa_cons (px_var 7) (pxa_cons (px_var 8) (pxa_nil)))) (px_var 10))) nd)
      (pxs_cons (pxs_par (pxb_val (px_v (px_call D__law_drawn (hr.mono (by decide)) tkD (pxa_cons (px_var 0) (pxa_cons (px_op op_addD (px_var 9) (px_int)) (pxa_cons (px_op op_addD (px_callB call_lenF T.z_len boot_len' (pxa_cons (px_var 11) (pxa_nil))) (px_int)) (pxa_nil)))))) (pxb_val (px_v (px_ix (px_str) (px_call D__law_drawn (hr.mono (by decide)) tkD (pxa_cons (px_var 0) (pxa_cons (px_op op_addD (px_var 9) (px_int)) (pxa_cons (px_int) (pxa_nil))))))) (pxb_nil))) (by decide) rfl nd)
      (pxs_cons (pxs_set 14 (px_v (px_if (pxt_cmp (op_eqDD hu) (px_call D__law_drawn (hr.mono (by decide)) tkD (pxa_cons (px_var 0) (pxa_cons (px_op op_addD (px_var 9) (px_int)) (pxa_cons (px_int) (pxa_nil))))) (px_int)) (px_str) (px_var 13))) nd)
      (pxs_cons (pxs_set 15 (px_v (px_op op_addD (px_op op_addD (px_slice (px_var 11) pxo_none (pxo_some (px_var 12))) (px_var 14)) (px_slice (px_var 11) (pxo_some (px_op op_addD (px_var 12) (px_call D__law_drawn (hr.mono (by decide)) tkD (pxa_cons (px_var 0) (pxa_cons (px_op op_addD (px_var 9) (px_int)) (pxa_cons (px_int) (pxa_nil))))))) pxo_none))) nd)
      (pxs_one (pxs_if (pxt_v (pxt_cmp (op_notInDD hu) (px_call D__law_again (hr.mono (by decide)) tkD (pxa_cons (px_var 10) (pxa_cons (px_var 15) (pxa_nil)))) (px_tup (pxa_cons (px_non) (pxa_cons (px_var 15) (pxa_nil))))))
      (pxs_one (pxs_ret (px_v (px_bl))))
      (pxs_nil))))))))))
      (pxs_cons (pxs_set 16 (px_v (px_ix (px_lst (pxa_cons (px_non) (pxa_cons (px_lst (pxa_nil)) (pxa_cons (px_str) (pxa_cons (px_tup (pxa_cons (px_tup (pxa_cons (px_str) (pxa_cons (px_int) (pxa_cons (px_int) (pxa_nil))))) (pxa_nil))) (pxa_cons (px_tup (pxa_cons (px_tup (pxa_cons (px_str) (pxa_cons (px_int) (pxa_cons (px_int) (pxa_nil))))) (pxa_cons (px_tup (pxa_cons (px_str) (pxa_cons (px_int) (pxa_cons (px_int) (pxa_nil))))) (pxa_nil)))) (pxa_cons (px_tup (pxa_cons (px_tup (pxa_cons (px_str) (pxa_cons (px_int) (pxa_nil)))) (pxa_nil))) (pxa_nil)))))))) (px_call D__law_drawn (hr.mono (by decide)) tkD (pxa_cons (px_var 0) (pxa_cons (px_int) (pxa_cons (px_int) (pxa_nil))))))) nd)
      (pxs_cons (pxs_set 17 (px_v (px_lst (pxa_cons (px_call D__law_error (hr.mono (by decide)) tkD (pxa_cons (px_int) (pxa_cons (px_var 16) (pxa_nil)))) (pxa_cons (px_call D__law_error (hr.mono (by decide)) tkD (pxa_cons (px_int) (pxa_cons (px_var 16) (pxa_nil)))) (pxa_cons (px_call D__law_error (hr.mono (by decide)) tkD (pxa_cons (px_int) (pxa_cons (px_tup (pxa_nil)) (pxa_nil)))) (pxa_nil)))))) nd)
      (pxs_cons (pxs_set 17 (px_v (px_op op_addD (px_var 17) (px_lst (pxa_cons (px_call D__law_error (hr.mono (by decide)) tkD (pxa_cons (px_int) (pxa_cons (px_tup (pxa_cons (px_tup (pxa_cons (px_int) (pxa_cons (px_tup (pxa_nil)) (pxa_nil)))) (pxa_cons (px_tup (pxa_cons (px_int) (pxa_cons (px_tup (pxa_nil)) (pxa_nil)))) (pxa_nil)))) (pxa_nil)))) (pxa_nil))))) nd)
      (pxs_one (pxs_ret (px_v (px_cmp (op_eqDD hu) (px_var 17) (px_lst (pxa_cons (px_int) (pxa_cons (px_int) (pxa_cons (px_int) (pxa_cons (px_int) (pxa_nil))))))))))))))))))))
end
end PV

namespace PV
open PySem PySem.Spec L2
open PyProof.Rows hiding St
theorem all_mk {P : Program} {w : World} {K : PySem.W.Frag} {h : Heap} {mg : Str → Option Value} {fa : Addr} (X : K.In h) (G : h.Ns mainGlobals mg) (hfa : mg "law" = some (.ref fa))
    {f0 : Addr} {od0 an0 : Option Addr} {sl0 : Array (Option Value)} {oc0 kV0 dc0 pm0 cd0 ct0 : Value}
    {f1 : Addr} {od1 an1 : Option Addr} {sl1 : Array (Option Value)} {oc1 kV1 dc1 pm1 cd1 ct1 : Value}
    {f2 : Addr} {od2 an2 : Option Addr} {sl2 : Array (Option Value)} {oc2 kV2 dc2 pm2 cd2 ct2 : Value}
    {f3 : Addr} {od3 an3 : Option Addr} {sl3 : Array (Option Value)} {oc3 kV3 dc3 pm3 cd3 ct3 : Value}
    {f4 : Addr} {od4 an4 : Option Addr} {sl4 : Array (Option Value)} {oc4 kV4 dc4 pm4 cd4 ct4 : Value}
    {f5 : Addr} {od5 an5 : Option Addr} {sl5 : Array (Option Value)} {oc5 kV5 dc5 pm5 cd5 ct5 : Value}
    {f6 : Addr} {od6 an6 : Option Addr} {sl6 : Array (Option Value)} {oc6 kV6 dc6 pm6 cd6 ct6 : Value}
    {f7 : Addr} {od7 an7 : Option Addr} {sl7 : Array (Option Value)} {oc7 kV7 dc7 pm7 cd7 ct7 : Value}
    {f8 : Addr} {od8 an8 : Option Addr} {sl8 : Array (Option Value)} {oc8 kV8 dc8 pm8 cd8 ct8 : Value}
    {f9 : Addr} {od9 an9 : Option Addr} {sl9 : Array (Option Value)} {oc9 kV9 dc9 pm9 cd9 ct9 : Value}
    {f10 : Addr} {od10 an10 : Option Addr} {sl10 : Array (Option Value)} {oc10 kV10 dc10 pm10 cd10 ct10 : Value}
    {f11 : Addr} {od11 an11 : Option Addr} {sl11 : Array (Option Value)} {oc11 kV11 dc11 pm11 cd11 ct11 : Value}
    {f12 : Addr} {od12 an12 : Option Addr} {sl12 : Array (Option Value)} {oc12 kV12 dc12 pm12 cd12 ct12 : Value}
    {f13 : Addr} {od13 an13 : Option Addr} {sl13 : Array (Option Value)} {oc13 kV13 dc13 pm13 cd13 ct13 : Value}
    {f14 : Addr} {od14 an14 : Option Addr} {sl14 : Array (Option Value)} {oc14 kV14 dc14 pm14 cd14 ct14 : Value}
    {f15 : Addr} {od15 an15 : Option Addr} {sl15 : Array (Option Value)} {oc15 kV15 dc15 pm15 cd15 ct15 : Value}
    {f16 : Addr} {od16 an16 : Option Addr} {sl16 : Array (Option Value)} {oc16 kV16 dc16 pm16 cd16 ct16 : Value}
    {f17 : Addr} {od17 an17 : Option Addr} {sl17 : Array (Option Value)} {oc17 kV17 dc17 pm17 cd17 ct17 : Value}
    {f18 : Addr} {od18 an18 : Option Addr} {sl18 : Array (Option Value)} {oc18 kV18 dc18 pm18 cd18 ct18 : Value}
    {f19 : Addr} {od19 an19 : Option Addr} {sl19 : Array (Option Value)} {oc19 kV19 dc19 pm19 cd19 ct19 : Value}
    {f20 : Addr} {od20 an20 : Option Addr} {sl20 : Array (Option Value)} {oc20 kV20 dc20 pm20 cd20 ct20 : Value}
    {f21 : Addr} {od21 an21 : Option Addr} {sl21 : Array (Option Value)} {oc21 kV21 dc21 pm21 cd21 ct21 : Value}
    {f22 : Addr} {od22 an22 : Option Addr} {sl22 : Array (Option Value)} {oc22 kV22 dc22 pm22 cd22 ct22 : Value}
    {f23 : Addr} {od23 an23 : Option Addr} {sl23 : Array (Option Value)} {oc23 kV23 dc23 pm23 cd23 ct23 : Value}
    {f24 : Addr} {od24 an24 : Option Addr} {sl24 : Array (Option Value)} {oc24 kV24 dc24 pm24 cd24 ct24 : Value}
    {f25 : Addr} {od25 an25 : Option Addr} {sl25 : Array (Option Value)} {oc25 kV25 dc25 pm25 cd25 ct25 : Value}
    {f26 : Addr} {od26 an26 : Option Addr} {sl26 : Array (Option Value)} {oc26 kV26 dc26 pm26 cd26 ct26 : Value}
    {f27 : Addr} {od27 an27 : Option Addr} {sl27 : Array (Option Value)} {oc27 kV27 dc27 pm27 cd27 ct27 : Value}
    {f28 : Addr} {od28 an28 : Option Addr} {sl28 : Array (Option Value)} {oc28 kV28 dc28 pm28 cd28 ct28 : Value}
    {tk_MAX_TIME : Tok}
    {tk_MAX_SOURCES : Tok}
    {tk_MAX_NAME : Tok}
    {tk_LETTERS : Tok}
    {tk_MAX_ROUNDS : Tok}
    {tk_MAX_MOMENT : Tok}
    {tk_MAX_FOLLOWED : Tok}
    {tk_DIGITS : Tok}
    {tk_MAX_DIGITS : Tok}
    {tk_BETWEEN : Tok}
    {C_InvalidLog : Addr}
    {C_InvalidReports : Addr}
    {C_ParseError : Addr}
    {C_VoteError : Addr}
    (a0 : PySem.W.nsIn K mainGlobals "_law_drawn" = some (some (.ref f0))) (l0 : K.lookup f0 = some ⟨oc0, od0, .func (PySem.W.fnOf "_law_drawn" "_law_drawn" (defArgs tx__law_drawn) (defBody tx__law_drawn) (defScope tx__law_drawn) .none kV0 dc0 pm0 an0 cd0 ct0), sl0⟩) (c0 : PySem.W.codeIn K cd0 "_law_drawn" = true) (k0 : PySem.W.keepIn K (.ref f0) = true)
    (a1 : PySem.W.nsIn K mainGlobals "_law_reports" = some (some (.ref f1))) (l1 : K.lookup f1 = some ⟨oc1, od1, .func (PySem.W.fnOf "_law_reports" "_law_reports" (defArgs tx__law_reports) (defBody tx__law_reports) (defScope tx__law_reports) .none kV1 dc1 pm1 an1 cd1 ct1), sl1⟩) (c1 : PySem.W.codeIn K cd1 "_law_reports" = true) (k1 : PySem.W.keepIn K (.ref f1) = true)
    (a2 : PySem.W.nsIn K mainGlobals "_law_text" = some (some (.ref f2))) (l2 : K.lookup f2 = some ⟨oc2, od2, .func (PySem.W.fnOf "_law_text" "_law_text" (defArgs tx__law_text) (defBody tx__law_text) (defScope tx__law_text) .none kV2 dc2 pm2 an2 cd2 ct2), sl2⟩) (c2 : PySem.W.codeIn K cd2 "_law_text" = true) (k2 : PySem.W.keepIn K (.ref f2) = true)
    (a3 : PySem.W.nsIn K mainGlobals "_law_lines" = some (some (.ref f3))) (l3 : K.lookup f3 = some ⟨oc3, od3, .func (PySem.W.fnOf "_law_lines" "_law_lines" (defArgs tx__law_lines) (defBody tx__law_lines) (defScope tx__law_lines) .none kV3 dc3 pm3 an3 cd3 ct3), sl3⟩) (c3 : PySem.W.codeIn K cd3 "_law_lines" = true) (k3 : PySem.W.keepIn K (.ref f3) = true)
    (a4 : PySem.W.nsIn K mainGlobals "sources" = some (some (.ref f4))) (l4 : K.lookup f4 = some ⟨oc4, od4, .func (PySem.W.fnOf "sources" "sources" (defArgs tx_sources) (defBody tx_sources) (defScope tx_sources) .none kV4 dc4 pm4 an4 cd4 ct4), sl4⟩) (c4 : PySem.W.codeIn K cd4 "sources" = true) (k4 : PySem.W.keepIn K (.ref f4) = true)
    (a5 : PySem.W.nsIn K mainGlobals "is_integer" = some (some (.ref f5))) (l5 : K.lookup f5 = some ⟨oc5, od5, .func (PySem.W.fnOf "is_integer" "is_integer" (defArgs tx_is_integer) (defBody tx_is_integer) (defScope tx_is_integer) .none kV5 dc5 pm5 an5 cd5 ct5), sl5⟩) (c5 : PySem.W.codeIn K cd5 "is_integer" = true) (k5 : PySem.W.keepIn K (.ref f5) = true)
    (a6 : PySem.W.nsIn K mainGlobals "is_time" = some (some (.ref f6))) (l6 : K.lookup f6 = some ⟨oc6, od6, .func (PySem.W.fnOf "is_time" "is_time" (defArgs tx_is_time) (defBody tx_is_time) (defScope tx_is_time) .none kV6 dc6 pm6 an6 cd6 ct6), sl6⟩) (c6 : PySem.W.codeIn K cd6 "is_time" = true) (k6 : PySem.W.keepIn K (.ref f6) = true)
    (a7 : PySem.W.nsIn K mainGlobals "is_name" = some (some (.ref f7))) (l7 : K.lookup f7 = some ⟨oc7, od7, .func (PySem.W.fnOf "is_name" "is_name" (defArgs tx_is_name) (defBody tx_is_name) (defScope tx_is_name) .none kV7 dc7 pm7 an7 cd7 ct7), sl7⟩) (c7 : PySem.W.codeIn K cd7 "is_name" = true) (k7 : PySem.W.keepIn K (.ref f7) = true)
    (a8 : PySem.W.nsIn K mainGlobals "is_report" = some (some (.ref f8))) (l8 : K.lookup f8 = some ⟨oc8, od8, .func (PySem.W.fnOf "is_report" "is_report" (defArgs tx_is_report) (defBody tx_is_report) (defScope tx_is_report) .none kV8 dc8 pm8 an8 cd8 ct8), sl8⟩) (c8 : PySem.W.codeIn K cd8 "is_report" = true) (k8 : PySem.W.keepIn K (.ref f8) = true)
    (a9 : PySem.W.nsIn K mainGlobals "are_reports" = some (some (.ref f9))) (l9 : K.lookup f9 = some ⟨oc9, od9, .func (PySem.W.fnOf "are_reports" "are_reports" (defArgs tx_are_reports) (defBody tx_are_reports) (defScope tx_are_reports) .none kV9 dc9 pm9 an9 cd9 ct9), sl9⟩) (c9 : PySem.W.codeIn K cd9 "are_reports" = true) (k9 : PySem.W.keepIn K (.ref f9) = true)
    (a10 : PySem.W.nsIn K mainGlobals "check_reports" = some (some (.ref f10))) (l10 : K.lookup f10 = some ⟨oc10, od10, .func (PySem.W.fnOf "check_reports" "check_reports" (defArgs tx_check_reports) (defBody tx_check_reports) (defScope tx_check_reports) .none kV10 dc10 pm10 an10 cd10 ct10), sl10⟩) (c10 : PySem.W.codeIn K cd10 "check_reports" = true) (k10 : PySem.W.keepIn K (.ref f10) = true)
    (a11 : PySem.W.nsIn K mainGlobals "join_reports" = some (some (.ref f11))) (l11 : K.lookup f11 = some ⟨oc11, od11, .func (PySem.W.fnOf "join_reports" "join_reports" (defArgs tx_join_reports) (defBody tx_join_reports) (defScope tx_join_reports) .none kV11 dc11 pm11 an11 cd11 ct11), sl11⟩) (c11 : PySem.W.codeIn K cd11 "join_reports" = true) (k11 : PySem.W.keepIn K (.ref f11) = true)
    (a12 : PySem.W.nsIn K mainGlobals "format_reports" = some (some (.ref f12))) (l12 : K.lookup f12 = some ⟨oc12, od12, .func (PySem.W.fnOf "format_reports" "format_reports" (defArgs tx_format_reports) (defBody tx_format_reports) (defScope tx_format_reports) .none kV12 dc12 pm12 an12 cd12 ct12), sl12⟩) (c12 : PySem.W.codeIn K cd12 "format_reports" = true) (k12 : PySem.W.keepIn K (.ref f12) = true)
    (a13 : PySem.W.nsIn K mainGlobals "round_line" = some (some (.ref f13))) (l13 : K.lookup f13 = some ⟨oc13, od13, .func (PySem.W.fnOf "round_line" "round_line" (defArgs tx_round_line) (defBody tx_round_line) (defScope tx_round_line) .none kV13 dc13 pm13 an13 cd13 ct13), sl13⟩) (c13 : PySem.W.codeIn K cd13 "round_line" = true) (k13 : PySem.W.keepIn K (.ref f13) = true)
    (a14 : PySem.W.nsIn K mainGlobals "join_log" = some (some (.ref f14))) (l14 : K.lookup f14 = some ⟨oc14, od14, .func (PySem.W.fnOf "join_log" "join_log" (defArgs tx_join_log) (defBody tx_join_log) (defScope tx_join_log) .none kV14 dc14 pm14 an14 cd14 ct14), sl14⟩) (c14 : PySem.W.codeIn K cd14 "join_log" = true) (k14 : PySem.W.keepIn K (.ref f14) = true)
    (a15 : PySem.W.nsIn K mainGlobals "is_moment" = some (some (.ref f15))) (l15 : K.lookup f15 = some ⟨oc15, od15, .func (PySem.W.fnOf "is_moment" "is_moment" (defArgs tx_is_moment) (defBody tx_is_moment) (defScope tx_is_moment) .none kV15 dc15 pm15 an15 cd15 ct15), sl15⟩) (c15 : PySem.W.codeIn K cd15 "is_moment" = true) (k15 : PySem.W.keepIn K (.ref f15) = true)
    (a16 : PySem.W.nsIn K mainGlobals "is_round" = some (some (.ref f16))) (l16 : K.lookup f16 = some ⟨oc16, od16, .func (PySem.W.fnOf "is_round" "is_round" (defArgs tx_is_round) (defBody tx_is_round) (defScope tx_is_round) .none kV16 dc16 pm16 an16 cd16 ct16), sl16⟩) (c16 : PySem.W.codeIn K cd16 "is_round" = true) (k16 : PySem.W.keepIn K (.ref f16) = true)
    (a17 : PySem.W.nsIn K mainGlobals "is_log" = some (some (.ref f17))) (l17 : K.lookup f17 = some ⟨oc17, od17, .func (PySem.W.fnOf "is_log" "is_log" (defArgs tx_is_log) (defBody tx_is_log) (defScope tx_is_log) .none kV17 dc17 pm17 an17 cd17 ct17), sl17⟩) (c17 : PySem.W.codeIn K cd17 "is_log" = true) (k17 : PySem.W.keepIn K (.ref f17) = true)
    (a18 : PySem.W.nsIn K mainGlobals "format_log" = some (some (.ref f18))) (l18 : K.lookup f18 = some ⟨oc18, od18, .func (PySem.W.fnOf "format_log" "format_log" (defArgs tx_format_log) (defBody tx_format_log) (defScope tx_format_log) .none kV18 dc18 pm18 an18 cd18 ct18), sl18⟩) (c18 : PySem.W.codeIn K cd18 "format_log" = true) (k18 : PySem.W.keepIn K (.ref f18) = true)
    (a19 : PySem.W.nsIn K mainGlobals "_law_error" = some (some (.ref f19))) (l19 : K.lookup f19 = some ⟨oc19, od19, .func (PySem.W.fnOf "_law_error" "_law_error" (defArgs tx__law_error) (defBody tx__law_error) (defScope tx__law_error) .none kV19 dc19 pm19 an19 cd19 ct19), sl19⟩) (c19 : PySem.W.codeIn K cd19 "_law_error" = true) (k19 : PySem.W.keepIn K (.ref f19) = true)
    (a20 : PySem.W.nsIn K mainGlobals "read_number" = some (some (.ref f20))) (l20 : K.lookup f20 = some ⟨oc20, od20, .func (PySem.W.fnOf "read_number" "read_number" (defArgs tx_read_number) (defBody tx_read_number) (defScope tx_read_number) .none kV20 dc20 pm20 an20 cd20 ct20), sl20⟩) (c20 : PySem.W.codeIn K cd20 "read_number" = true) (k20 : PySem.W.keepIn K (.ref f20) = true)
    (a21 : PySem.W.nsIn K mainGlobals "read_report" = some (some (.ref f21))) (l21 : K.lookup f21 = some ⟨oc21, od21, .func (PySem.W.fnOf "read_report" "read_report" (defArgs tx_read_report) (defBody tx_read_report) (defScope tx_read_report) .none kV21 dc21 pm21 an21 cd21 ct21), sl21⟩) (c21 : PySem.W.codeIn K cd21 "read_report" = true) (k21 : PySem.W.keepIn K (.ref f21) = true)
    (a22 : PySem.W.nsIn K mainGlobals "read_reports" = some (some (.ref f22))) (l22 : K.lookup f22 = some ⟨oc22, od22, .func (PySem.W.fnOf "read_reports" "read_reports" (defArgs tx_read_reports) (defBody tx_read_reports) (defScope tx_read_reports) .none kV22 dc22 pm22 an22 cd22 ct22), sl22⟩) (c22 : PySem.W.codeIn K cd22 "read_reports" = true) (k22 : PySem.W.keepIn K (.ref f22) = true)
    (a23 : PySem.W.nsIn K mainGlobals "parse_reports" = some (some (.ref f23))) (l23 : K.lookup f23 = some ⟨oc23, od23, .func (PySem.W.fnOf "parse_reports" "parse_reports" (defArgs tx_parse_reports) (defBody tx_parse_reports) (defScope tx_parse_reports) .none kV23 dc23 pm23 an23 cd23 ct23), sl23⟩) (c23 : PySem.W.codeIn K cd23 "parse_reports" = true) (k23 : PySem.W.keepIn K (.ref f23) = true)
    (a24 : PySem.W.nsIn K mainGlobals "read_round" = some (some (.ref f24))) (l24 : K.lookup f24 = some ⟨oc24, od24, .func (PySem.W.fnOf "read_round" "read_round" (defArgs tx_read_round) (defBody tx_read_round) (defScope tx_read_round) .none kV24 dc24 pm24 an24 cd24 ct24), sl24⟩) (c24 : PySem.W.codeIn K cd24 "read_round" = true) (k24 : PySem.W.keepIn K (.ref f24) = true)
    (a25 : PySem.W.nsIn K mainGlobals "parse_log" = some (some (.ref f25))) (l25 : K.lookup f25 = some ⟨oc25, od25, .func (PySem.W.fnOf "parse_log" "parse_log" (defArgs tx_parse_log) (defBody tx_parse_log) (defScope tx_parse_log) .none kV25 dc25 pm25 an25 cd25 ct25), sl25⟩) (c25 : PySem.W.codeIn K cd25 "parse_log" = true) (k25 : PySem.W.keepIn K (.ref f25) = true)
    (a26 : PySem.W.nsIn K mainGlobals "_law_again" = some (some (.ref f26))) (l26 : K.lookup f26 = some ⟨oc26, od26, .func (PySem.W.fnOf "_law_again" "_law_again" (defArgs tx__law_again) (defBody tx__law_again) (defScope tx__law_again) .none kV26 dc26 pm26 an26 cd26 ct26), sl26⟩) (c26 : PySem.W.codeIn K cd26 "_law_again" = true) (k26 : PySem.W.keepIn K (.ref f26) = true)
    (a27 : PySem.W.nsIn K mainGlobals "_law_rejected" = some (some (.ref f27))) (l27 : K.lookup f27 = some ⟨oc27, od27, .func (PySem.W.fnOf "_law_rejected" "_law_rejected" (defArgs tx__law_rejected) (defBody tx__law_rejected) (defScope tx__law_rejected) .none kV27 dc27 pm27 an27 cd27 ct27), sl27⟩) (c27 : PySem.W.codeIn K cd27 "_law_rejected" = true) (k27 : PySem.W.keepIn K (.ref f27) = true)
    (a28 : PySem.W.nsIn K mainGlobals "law" = some (some (.ref f28))) (l28 : K.lookup f28 = some ⟨oc28, od28, .func (PySem.W.fnOf "law" "law" (defArgs tx_law) (defBody tx_law) (defScope tx_law) .none kV28 dc28 pm28 an28 cd28 ct28), sl28⟩) (c28 : PySem.W.codeIn K cd28 "law" = true) (k28 : PySem.W.keepIn K (.ref f28) = true)
    (zb_all : PySem.W.nsIn K mainGlobals "all" = some none)
    (zb_bool : PySem.W.nsIn K mainGlobals "bool" = some none)
    (zb_int : PySem.W.nsIn K mainGlobals "int" = some none)
    (zb_isinstance : PySem.W.nsIn K mainGlobals "isinstance" = some none)
    (zb_len : PySem.W.nsIn K mainGlobals "len" = some none)
    (zb_min : PySem.W.nsIn K mainGlobals "min" = some none)
    (zb_range : PySem.W.nsIn K mainGlobals "range" = some none)
    (zb_str : PySem.W.nsIn K mainGlobals "str" = some none)
    (zb_tuple : PySem.W.nsIn K mainGlobals "tuple" = some none)
    (zb_zip : PySem.W.nsIn K mainGlobals "zip" = some none)
    (cb_MAX_TIME : PySem.W.nsIn K mainGlobals "MAX_TIME" = some (some (.int 9999 tk_MAX_TIME)))
    (cb_MAX_SOURCES : PySem.W.nsIn K mainGlobals "MAX_SOURCES" = some (some (.int 10 tk_MAX_SOURCES)))
    (cb_MAX_NAME : PySem.W.nsIn K mainGlobals "MAX_NAME" = some (some (.int 3 tk_MAX_NAME)))
    (cb_LETTERS : PySem.W.nsIn K mainGlobals "LETTERS" = some (some (.str "abcdefghijklmnopqrstuvwxyz" tk_LETTERS)))
    (cb_MAX_ROUNDS : PySem.W.nsIn K mainGlobals "MAX_ROUNDS" = some (some (.int 6 tk_MAX_ROUNDS)))
    (cb_MAX_MOMENT : PySem.W.nsIn K mainGlobals "MAX_MOMENT" = some (some (.int 999 tk_MAX_MOMENT)))
    (cb_MAX_FOLLOWED : PySem.W.nsIn K mainGlobals "MAX_FOLLOWED" = some (some (.int 6 tk_MAX_FOLLOWED)))
    (cb_DIGITS : PySem.W.nsIn K mainGlobals "DIGITS" = some (some (.str "0123456789" tk_DIGITS)))
    (cb_MAX_DIGITS : PySem.W.nsIn K mainGlobals "MAX_DIGITS" = some (some (.int 4 tk_MAX_DIGITS)))
    (cb_BETWEEN : PySem.W.nsIn K mainGlobals "BETWEEN" = some (some (.str ", " tk_BETWEEN)))
    (ea_InvalidLog : PySem.W.nsIn K mainGlobals "InvalidLog" = some (some (.ref C_InvalidLog))) (ex_InvalidLog : PySem.W.excIn K C_InvalidLog veMro "ValueError.__new__" = true) (ek_InvalidLog : PySem.W.keepIn K (.ref C_InvalidLog) = true) (eb_InvalidLog : PySem.W.subIn K (.ref C_InvalidLog) (.type "BaseException") = some true) (et_InvalidLog : PySem.W.typeIn K (.ref C_InvalidLog) = some (.type "type"))
    (ea_InvalidReports : PySem.W.nsIn K mainGlobals "InvalidReports" = some (some (.ref C_InvalidReports))) (ex_InvalidReports : PySem.W.excIn K C_InvalidReports veMro "ValueError.__new__" = true) (ek_InvalidReports : PySem.W.keepIn K (.ref C_InvalidReports) = true) (eb_InvalidReports : PySem.W.subIn K (.ref C_InvalidReports) (.type "BaseException") = some true) (et_InvalidReports : PySem.W.typeIn K (.ref C_InvalidReports) = some (.type "type"))
    (ea_ParseError : PySem.W.nsIn K mainGlobals "ParseError" = some (some (.ref C_ParseError))) (ex_ParseError : PySem.W.excIn K C_ParseError veMro "ValueError.__new__" = true) (ek_ParseError : PySem.W.keepIn K (.ref C_ParseError) = true) (eb_ParseError : PySem.W.subIn K (.ref C_ParseError) (.type "BaseException") = some true) (et_ParseError : PySem.W.typeIn K (.ref C_ParseError) = some (.type "type"))
    (vv_a : PySem.W.nsIn K mainGlobals "VoteError" = some (some (.ref C_VoteError))) (vv_b : PySem.W.subIn K (.ref C_VoteError) (.type "BaseException") = some true) (vv_d : PySem.W.hasDictIn K C_VoteError = true) (vv_t : PySem.W.typeIn K (.ref C_VoteError) = some (.type "type"))
    (vv_s : PySem.W.specialIn K (.builtin "object.__class__") "__get__" = some (some (.builtin "getset_descriptor.__get__"))) (vv_k : PySem.W.takesIn K (.builtin "object.__class__") = some true)
    (er_ParseError : mroL K C_ParseError = some [.ref C_ParseError, .ref C_VoteError, .type "ValueError", .type "Exception", .type "BaseException", .type "object"]) (eg_ParseError : PySem.W.findIn K (.ref C_ParseError) "__getattribute__" = some (some (.builtin "BaseException.__getattribute__"))) (eh_ParseError : PySem.W.findIn K (.ref C_ParseError) "__getattr__" = some none) (ed_ParseError : PySem.W.hasDictIn K C_ParseError = true) (ec_ParseError : PySem.W.findIn K (.ref C_ParseError) "__class__" = some (some (.builtin "object.__class__")))
    (er_InvalidLog : mroL K C_InvalidLog = some [.ref C_InvalidLog, .ref C_VoteError, .type "ValueError", .type "Exception", .type "BaseException", .type "object"]) (eg_InvalidLog : PySem.W.findIn K (.ref C_InvalidLog) "__getattribute__" = some (some (.builtin "BaseException.__getattribute__"))) (eh_InvalidLog : PySem.W.findIn K (.ref C_InvalidLog) "__getattr__" = some none) (ed_InvalidLog : PySem.W.hasDictIn K C_InvalidLog = true) (ec_InvalidLog : PySem.W.findIn K (.ref C_InvalidLog) "__class__" = some (some (.builtin "object.__class__")))
    (er_InvalidReports : mroL K C_InvalidReports = some [.ref C_InvalidReports, .ref C_VoteError, .type "ValueError", .type "Exception", .type "BaseException", .type "object"]) (eg_InvalidReports : PySem.W.findIn K (.ref C_InvalidReports) "__getattribute__" = some (some (.builtin "BaseException.__getattribute__"))) (eh_InvalidReports : PySem.W.findIn K (.ref C_InvalidReports) "__getattr__" = some none) (ed_InvalidReports : PySem.W.hasDictIn K C_InvalidReports = true) (ec_InvalidReports : PySem.W.findIn K (.ref C_InvalidReports) "__class__" = some (some (.builtin "object.__class__")))
    (vv_n : [C_VoteError, C_InvalidReports, C_InvalidLog, C_ParseError].Nodup)
    (hs : ∀ ns : List Int, ns.length ≤ 63 → sem_law_k67 [scr (ns.map PyData.int)] = .ok (.bool true)) :
    ∃ fd : FuncData, (∀ (s : Shared) (v : Value), BindsTo s fd ⟨[v], []⟩ [("script", v)]) ∧ ∀ base : Heap, K.In base → base.Ns mainGlobals mg → FnOk P w K mg base (L2.CX P w) 10 fa fd ["script"] (spEnd K) := by
  have e := hfa.symm.trans (PySem.W.mg_of X G a28)
  cases e
  have T : Facts K mg := ⟨PySem.W.mg_none_of X G zb_all, PySem.W.mg_none_of X G zb_bool, PySem.W.mg_none_of X G zb_int, PySem.W.mg_none_of X G zb_isinstance, PySem.W.mg_none_of X G zb_len, PySem.W.mg_none_of X G zb_min, PySem.W.mg_none_of X G zb_range, PySem.W.mg_none_of X G zb_str, PySem.W.mg_none_of X G zb_tuple, PySem.W.mg_none_of X G zb_zip, ⟨_, PySem.W.mg_of X G cb_MAX_TIME⟩, ⟨_, PySem.W.mg_of X G cb_MAX_SOURCES⟩, ⟨_, PySem.W.mg_of X G cb_MAX_NAME⟩, ⟨_, PySem.W.mg_of X G cb_LETTERS⟩, ⟨_, PySem.W.mg_of X G cb_MAX_ROUNDS⟩, ⟨_, PySem.W.mg_of X G cb_MAX_MOMENT⟩, ⟨_, PySem.W.mg_of X G cb_MAX_FOLLOWED⟩, ⟨_, PySem.W.mg_of X G cb_DIGITS⟩, ⟨_, PySem.W.mg_of X G cb_MAX_DIGITS⟩, ⟨_, PySem.W.mg_of X G cb_BETWEEN⟩, ⟨_, PySem.W.mg_of X G ea_InvalidLog, ex_InvalidLog, ek_InvalidLog, eb_InvalidLog, et_InvalidLog⟩, ⟨_, PySem.W.mg_of X G ea_InvalidReports, ex_InvalidReports, ek_InvalidReports, eb_InvalidReports, et_InvalidReports⟩, ⟨_, PySem.W.mg_of X G ea_ParseError, ex_ParseError, ek_ParseError, eb_ParseError, et_ParseError⟩, et_mk [("InvalidReports", C_InvalidReports), ("InvalidLog", C_InvalidLog), ("ParseError", C_ParseError)] C_VoteError (PySem.W.mg_of X G vv_a) vv_b vv_d vv_t (List.forall_mem_cons.mpr ⟨exf_mk ea_InvalidReports (PySem.W.mg_of X G ea_InvalidReports) er_InvalidReports et_InvalidReports eg_InvalidReports eh_InvalidReports ed_InvalidReports ec_InvalidReports vv_s vv_k, List.forall_mem_cons.mpr ⟨exf_mk ea_InvalidLog (PySem.W.mg_of X G ea_InvalidLog) er_InvalidLog et_InvalidLog eg_InvalidLog eh_InvalidLog ed_InvalidLog ec_InvalidLog vv_s vv_k, List.forall_mem_cons.mpr ⟨exf_mk ea_ParseError (PySem.W.mg_of X G ea_ParseError) er_ParseError et_ParseError eg_ParseError eh_ParseError ed_ParseError ec_ParseError vv_s vv_k, List.forall_mem_nil _⟩⟩⟩) vv_n⟩
  have F0 := fun_mk (st := tx__law_drawn) l0 c0 k0
  have b0 := F0.binds (ps := ["script", "k", "many"]) fun _ _ _ _ _ _ us hl => match us, hl with | [_, _, _], _ => rfl
  have F1 := fun_mk (st := tx__law_reports) l1 c1 k1
  have b1 := F1.binds (ps := ["script", "at", "most"]) fun _ _ _ _ _ _ us hl => match us, hl with | [_, _, _], _ => rfl
  have F2 := fun_mk (st := tx__law_text) l2 c2 k2
  have b2 := F2.binds (ps := ["reports"]) fun _ _ _ _ _ _ us hl => match us, hl with | [_], _ => rfl
  have F3 := fun_mk (st := tx__law_lines) l3 c3 k3
  have b3 := F3.binds (ps := ["log"]) fun _ _ _ _ _ _ us hl => match us, hl with | [_], _ => rfl
  have F4 := fun_mk (st := tx_sources) l4 c4 k4
  have b4 := F4.binds (ps := ["reports"]) fun _ _ _ _ _ _ us hl => match us, hl with | [_], _ => rfl
  have F5 := fun_mk (st := tx_is_integer) l5 c5 k5
  have b5 := F5.binds (ps := ["value"]) fun _ _ _ _ _ _ us hl => match us, hl with | [_], _ => rfl
  have F6 := fun_mk (st := tx_is_time) l6 c6 k6
  have b6 := F6.binds (ps := ["value"]) fun _ _ _ _ _ _ us hl => match us, hl with | [_], _ => rfl
  have F7 := fun_mk (st := tx_is_name) l7 c7 k7
  have b7 := F7.binds (ps := ["value"]) fun _ _ _ _ _ _ us hl => match us, hl with | [_], _ => rfl
  have F8 := fun_mk (st := tx_is_report) l8 c8 k8
  have b8 := F8.binds (ps := ["value"]) fun _ _ _ _ _ _ us hl => match us, hl with | [_], _ => rfl
  have F9 := fun_mk (st := tx_are_reports) l9 c9 k9
  have b9 := F9.binds (ps := ["candidate"]) fun _ _ _ _ _ _ us hl => match us, hl with | [_], _ => rfl
  have F10 := fun_mk (st := tx_check_reports) l10 c10 k10
  have b10 := F10.binds (ps := ["value"]) fun _ _ _ _ _ _ us hl => match us, hl with | [_], _ => rfl
  have F11 := fun_mk (st := tx_join_reports) l11 c11 k11
  have b11 := F11.binds (ps := ["reports"]) fun _ _ _ _ _ _ us hl => match us, hl with | [_], _ => rfl
  have F12 := fun_mk (st := tx_format_reports) l12 c12 k12
  have b12 := F12.binds (ps := ["reports"]) fun _ _ _ _ _ _ us hl => match us, hl with | [_], _ => rfl
  have F13 := fun_mk (st := tx_round_line) l13 c13 k13
  have b13 := F13.binds (ps := ["part"]) fun _ _ _ _ _ _ us hl => match us, hl with | [_], _ => rfl
  have F14 := fun_mk (st := tx_join_log) l14 c14 k14
  have b14 := F14.binds (ps := ["log"]) fun _ _ _ _ _ _ us hl => match us, hl with | [_], _ => rfl
  have F15 := fun_mk (st := tx_is_moment) l15 c15 k15
  have b15 := F15.binds (ps := ["value"]) fun _ _ _ _ _ _ us hl => match us, hl with | [_], _ => rfl
  have F16 := fun_mk (st := tx_is_round) l16 c16 k16
  have b16 := F16.binds (ps := ["value"]) fun _ _ _ _ _ _ us hl => match us, hl with | [_], _ => rfl
  have F17 := fun_mk (st := tx_is_log) l17 c17 k17
  have b17 := F17.binds (ps := ["candidate"]) fun _ _ _ _ _ _ us hl => match us, hl with | [_], _ => rfl
  have F18 := fun_mk (st := tx_format_log) l18 c18 k18
  have b18 := F18.binds (ps := ["log"]) fun _ _ _ _ _ _ us hl => match us, hl with | [_], _ => rfl
  have F19 := fun_mk (st := tx__law_error) l19 c19 k19
  have b19 := F19.binds (ps := ["way", "one"]) fun _ _ _ _ _ _ us hl => match us, hl with | [_, _], _ => rfl
  have F20 := fun_mk (st := tx_read_number) l20 c20 k20
  have b20 := F20.binds (ps := ["word"]) fun _ _ _ _ _ _ us hl => match us, hl with | [_], _ => rfl
  have F21 := fun_mk (st := tx_read_report) l21 c21 k21
  have b21 := F21.binds (ps := ["text"]) fun _ _ _ _ _ _ us hl => match us, hl with | [_], _ => rfl
  have F22 := fun_mk (st := tx_read_reports) l22 c22 k22
  have b22 := F22.binds (ps := ["text"]) fun _ _ _ _ _ _ us hl => match us, hl with | [_], _ => rfl
  have F23 := fun_mk (st := tx_parse_reports) l23 c23 k23
  have b23 := F23.binds (ps := ["text"]) fun _ _ _ _ _ _ us hl => match us, hl with | [_], _ => rfl
  have F24 := fun_mk (st := tx_read_round) l24 c24 k24
  have b24 := F24.binds (ps := ["line"]) fun _ _ _ _ _ _ us hl => match us, hl with | [_], _ => rfl
  have F25 := fun_mk (st := tx_parse_log) l25 c25 k25
  have b25 := F25.binds (ps := ["text"]) fun _ _ _ _ _ _ us hl => match us, hl with | [_], _ => rfl
  have F26 := fun_mk (st := tx__law_again) l26 c26 k26
  have b26 := F26.binds (ps := ["way", "text"]) fun _ _ _ _ _ _ us hl => match us, hl with | [_, _], _ => rfl
  have F27 := fun_mk (st := tx__law_rejected) l27 c27 k27
  have b27 := F27.binds (ps := []) fun _ _ _ _ _ _ us hl => match us, hl with | [], _ => rfl
  have F28 := fun_mk (st := tx_law) l28 c28 k28
  refine ⟨PySem.W.fnOf "law" "law" (defArgs tx_law) (defBody tx_law) (defScope tx_law) .none kV28 dc28 pm28 an28 cd28 ct28, fun s v => .of_eq rfl, fun base _ _ => ?_⟩
  have D__law_drawn : Def P w K mg base "_law_drawn" 3 1 sem__law_drawn := def_of (PySem.W.mg_of X G a0) k0 b0 (fn__law_drawn T  F0)
  have D__law_reports : Def P w K mg base "_law_reports" 3 2 sem__law_reports_2 := def_of (PySem.W.mg_of X G a1) k1 b1 (fn__law_reports T D__law_drawn F1)
  have D__law_text : Def P w K mg base "_law_text" 1 1 sem__law_text := def_of (PySem.W.mg_of X G a2) k2 b2 (fn__law_text T  F2)
  have D__law_lines : Def P w K mg base "_law_lines" 1 2 sem__law_lines := def_of (PySem.W.mg_of X G a3) k3 b3 (fn__law_lines T D__law_text F3)
  have D_sources : Def P w K mg base "sources" 1 1 sem_sources := def_of (PySem.W.mg_of X G a4) k4 b4 (fn_sources T  F4)
  have D_is_integer : Def P w K mg base "is_integer" 1 1 sem_is_integer := def_of (PySem.W.mg_of X G a5) k5 b5 (fn_is_integer T  F5)
  have D_is_time : Def P w K mg base "is_time" 1 2 sem_is_time := def_of (PySem.W.mg_of X G a6) k6 b6 (fn_is_time T D_is_integer F6)
  have D_is_name : Def P w K mg base "is_name" 1 1 sem_is_name := def_of (PySem.W.mg_of X G a7) k7 b7 (fn_is_name T  F7)
  have D_is_report : Def P w K mg base "is_report" 1 3 sem_is_report := def_of (PySem.W.mg_of X G a8) k8 b8 (fn_is_report T D_is_time D_is_name F8)
  have D_are_reports : Def P w K mg base "are_reports" 1 4 sem_are_reports := def_of (PySem.W.mg_of X G a9) k9 b9 (fn_are_reports T D_sources D_is_report F9)
  have D_check_reports : Def P w K mg base "check_reports" 1 5 sem_check_reports := def_of (PySem.W.mg_of X G a10) k10 b10 (fn_check_reports T D_are_reports F10)
  have D_join_reports : Def P w K mg base "join_reports" 1 1 sem_join_reports := def_of (PySem.W.mg_of X G a11) k11 b11 (fn_join_reports T  F11)
  have D_format_reports : Def P w K mg base "format_reports" 1 6 sem_format_reports := def_of (PySem.W.mg_of X G a12) k12 b12 (fn_format_reports T D_check_reports D_join_reports F12)
  have D_round_line : Def P w K mg base "round_line" 1 2 sem_round_line := def_of (PySem.W.mg_of X G a13) k13 b13 (fn_round_line T D_join_reports F13)
  have D_join_log : Def P w K mg base "join_log" 1 3 sem_join_log := def_of (PySem.W.mg_of X G a14) k14 b14 (fn_join_log T D_round_line F14)
  have D_is_moment : Def P w K mg base "is_moment" 1 2 sem_is_moment := def_of (PySem.W.mg_of X G a15) k15 b15 (fn_is_moment T D_is_integer F15)
  have D_is_round : Def P w K mg base "is_round" 1 5 sem_is_round := def_of (PySem.W.mg_of X G a16) k16 b16 (fn_is_round T D_are_reports D_is_moment F16)
  have D_is_log : Def P w K mg base "is_log" 1 6 sem_is_log := def_of (PySem.W.mg_of X G a17) k17 b17 (fn_is_log T D_is_round D_sources F17)
  have D_format_log : Def P w K mg base "format_log" 1 7 sem_format_log := def_of (PySem.W.mg_of X G a18) k18 b18 (fn_format_log T D_join_log D_is_log F18)
  have D__law_error : Def P w K mg base "_law_error" 2 8 sem__law_error_3 := def_of (PySem.W.mg_of X G a19) k19 b19 (fn__law_error T D_format_reports D_format_log F19)
  have D_read_number : Def P w K mg base "read_number" 1 1 sem_read_number := def_of (PySem.W.mg_of X G a20) k20 b20 (fn_read_number T  F20)
  have D_read_report : Def P w K mg base "read_report" 1 2 sem_read_report := def_of (PySem.W.mg_of X G a21) k21 b21 (fn_read_report T D_read_number F21)
  have D_read_reports : Def P w K mg base "read_reports" 1 3 sem_read_reports := def_of (PySem.W.mg_of X G a22) k22 b22 (fn_read_reports T D_read_report F22)
  have D_parse_reports : Def P w K mg base "parse_reports" 1 5 sem_parse_reports := def_of (PySem.W.mg_of X G a23) k23 b23 (fn_parse_reports T D_read_reports D_are_reports D_join_reports F23)
  have D_read_round : Def P w K mg base "read_round" 1 4 sem_read_round := def_of (PySem.W.mg_of X G a24) k24 b24 (fn_read_round T D_read_number D_read_reports F24)
  have D_parse_log : Def P w K mg base "parse_log" 1 7 sem_parse_log := def_of (PySem.W.mg_of X G a25) k25 b25 (fn_parse_log T D_read_round D_is_log D_join_log F25)
  have D__law_again : Def P w K mg base "_law_again" 2 8 sem__law_again := def_of (PySem.W.mg_of X G a26) k26 b26 (fn__law_again T D__law_text D__law_lines D_parse_reports D_parse_log F26)
  have D__law_rejected : Def P w K mg base "_law_rejected" 0 9 sem__law_rejected_2 := def_of (PySem.W.mg_of X G a27) k27 b27 (fn__law_rejected T D_parse_log D_parse_reports D__law_again F27)
  exact end_ok (fn_law T D__law_reports D__law_drawn D__law_text D__law_lines D__law_error D_format_reports D_parse_reports D__law_rejected D_format_log D_parse_log D__law_again F28) hs
end PV

/-! Q0: plain rules for the semantic functions -/
namespace PV
open PySem PySem.Spec L2
section
variable {α β : Type}
@[simp] theorem q_bok (a : α) (g : α → R β) : (R.ok a).bind g = g a := rfl
@[simp] theorem q_bexc (c : Str) (g : α → R β) : (R.exc c : R α).bind g = .exc c := rfl
@[simp] theorem q_bst (g : α → R β) : (R.stuck : R α).bind g = .stuck := rfl
@[simp] theorem q_os (a : α) : R.ofO (some a) = .ok a := rfl
@[simp] theorem q_on (a : α) (ρ : SE) (k : α → O) : (R.ok a).on ρ k = k a := rfl
@[simp] theorem q_one (c : Str) (ρ : SE) (k : α → O) : (R.exc c : R α).on ρ k = .exc c ρ := rfl
@[simp] theorem q_ne (a : α) : (R.ok a).ne = .ok a := rfl
end
section
variable (ρ : En) (fa fb fc : En → R D) (fs : En → R (List D))
@[simp] theorem q_var (i : Nat) : E.var i ρ = match ρ[i]? with | some (some d) => .ok d | _ => .stuck := rfl
@[simp] theorem q_con (d : D) : E.con d ρ = .ok d := rfl
@[simp] theorem q_op2 (g : D → D → Option D) : E.op2 g fa fb ρ = (fa ρ).bind fun x => (fb ρ).bind fun y => R.ofO (g x y) := rfl
@[simp] theorem q_op1 (g : D → Option D) : E.op1 g fa ρ = (fa ρ).bind fun x => R.ofO (g x) := rfl
@[simp] theorem q_tof : T.of fa ρ = (fa ρ).bind asB := rfl
@[simp] theorem q_tand (f g : En → R Bool) : T.and f g ρ = (f ρ).bind fun c => if c = true then g ρ else .ok false := rfl
@[simp] theorem q_tor (f g : En → R Bool) : T.or f g ρ = (f ρ).bind fun c => if c = true then .ok true else g ρ := rfl
@[simp] theorem q_tnot (f : En → R Bool) : T.not f ρ = (f ρ).bind fun c => .ok (!c) := rfl
@[simp] theorem q_tyes : T.yes ρ = .ok true := rfl
@[simp] theorem q_and : E.and fa fb ρ = (fa ρ).bind fun x => (asB x).bind fun c => if c = true then fb ρ else .ok (.bool false) := rfl
@[simp] theorem q_or : E.or fa fb ρ = (fa ρ).bind fun x => (asB x).bind fun c => if c = true then .ok (.bool true) else fb ρ := rfl
@[simp] theorem q_not : E.not fa ρ = (fa ρ).bind fun x => (asB x).bind fun c => .ok (.bool (!c)) := rfl
@[simp] theorem q_ite (t : En → R Bool) : E.ite t fa fb ρ = (t ρ).bind fun c => if c = true then fa ρ else fb ρ := rfl
@[simp] theorem q_chain (g1 g2 : D → D → Option D) : E.chain g1 g2 fa fb fc ρ = (fa ρ).bind fun x => (fb ρ).bind fun y => (R.ofO (g1 x y)).bind fun z => (asB z).bind fun k =>
  if k = true then (fc ρ).bind fun w => R.ofO (g2 y w) else .ok (.bool false) := rfl
@[simp] theorem q_anil : A.nil ρ = .ok [] := rfl
@[simp] theorem q_acons : A.cons fa fs ρ = (fa ρ).bind fun d => (fs ρ).bind fun ds => .ok (d :: ds) := rfl
@[simp] theorem q_call (sem : List D → R D) : E.call sem fs ρ = (fs ρ).bind sem := rfl
@[simp] theorem q_bi (g : List D → Option D) : E.bi g fs ρ = (fs ρ).bind fun ds => R.ofO (g ds) := rfl
@[simp] theorem q_ofL : E.ofL fs ρ = (fs ρ).bind fun ds => .ok (.list ds) := rfl
@[simp] theorem q_ndisp : N.disp fs ρ = (fs ρ).bind fun ds => if ds.length ≤ 16777216 then .ok ds else .stuck := rfl
@[simp] theorem q_ncat : N.cat fa fb ρ = (fa ρ).bind fun x => (fb ρ).bind fun y => (N.asL x).bind fun xs => (N.asL y).bind fun ys => if xs.length + ys.length ≤ 16777216 then .ok (xs ++ ys) else .stuck := rfl
@[simp] theorem q_asL (xs : List D) : N.asL (.list xs) = .ok xs := rfl
@[simp] theorem q_tup : E.tup fs ρ = (fs ρ).bind fun ds => if ds.length ≤ 16777216 then .ok (.tuple ds) else .stuck := rfl
@[simp] theorem q_lst : E.lst fs ρ = (fs ρ).bind fun ds => if ds.length ≤ 16777216 then .ok (.list ds) else .stuck := rfl
@[simp] theorem q_comp (it : En → R (List D)) (a : D → En → Option En) (t : En → R Bool) (vs : List Nat) : N.comp it a t fa vs ρ = (it ρ).bind fun ds => compF a t fa (wipeE ρ vs) ds := rfl
@[simp] theorem q_w0 : wipeE ρ [] = ρ := rfl
@[simp] theorem q_w1 (v : Nat) (vs : List Nat) : wipeE ρ (v :: vs) = (wipeE ρ vs).set v none := rfl
@[simp] theorem q_iseq : I.seq fa ρ = (fa ρ).bind I.itD := rfl
@[simp] theorem q_irange1 : I.range1 fs ρ = (fs ρ).bind I.r1 := rfl
@[simp] theorem q_irange2 : I.range2 fs ρ = (fs ρ).bind I.r2 := rfl
@[simp] theorem q_izip : I.zip fs ρ = (fs ρ).bind I.z2 := rfl
@[simp] theorem q_ienum : I.enum fs ρ = (fs ρ).bind I.en := rfl
@[simp] theorem q_itl (ds : List D) : I.itD (.list ds) = .ok ds := rfl
@[simp] theorem q_itt (ds : List D) : I.itD (.tuple ds) = .ok ds := rfl
@[simp] theorem q_asB (b : Bool) : asB (.bool b) = .ok b := rfl
@[simp] theorem q_asI (i : Int) : asI (.int i) = .ok i := rfl
@[simp] theorem q_slice (l h : En → R (Option Int)) : E.slice fa l h ρ = (fa ρ).bind fun d => (l ρ).bind fun lo => (h ρ).bind fun hi => R.ofO (sliceD d lo hi) := rfl
@[simp] theorem q_onon : O.non ρ = .ok none := rfl
@[simp] theorem q_osom : O.som fa ρ = (fa ρ).bind fun d => (asI d).bind fun i => .ok (some i) := rfl
@[simp] theorem q_zip (xs ys : List D) : I.z2 [.list xs, .list ys] = .ok (zipL xs ys) := rfl
@[simp] theorem q_gen (d : D) (i : Nat) : GE.name i d ρ = some (ρ.set i (some d)) := rfl
@[simp] theorem q_get2 (x y : D) (i j : Nat) : GE.tup [i, j] (.tuple [x, y]) ρ = some ((ρ.set i (some x)).set j (some y)) := rfl
@[simp] theorem q_get3 (x y z : D) (i j k : Nat) : GE.tup [i, j, k] (.tuple [x, y, z]) ρ = some (((ρ.set i (some x)).set j (some y)).set k (some z)) := rfl
end
section
variable (ρ : SE) (m m' : SE → R D) (ml : SE → R (List D)) (f g : SE → O)
@[simp] theorem q_mv {α : Type} (e : En → R α) : M.v e ρ = e (vals ρ) := rfl
@[simp] theorem q_mk (e : En → R D) : M.k e ρ = (e (peek ρ)).bind fun d => if nolist d = true then .ok d else .stuck := rfl
@[simp] theorem q_mkt (e : En → R Bool) : M.kt e ρ = e (peek ρ) := rfl
@[simp] theorem q_mof : M.ofF ml ρ = (ml ρ).bind fun ds => .ok (.list ds) := rfl
@[simp] theorem q_vals0 : vals [] = [] := rfl
@[simp] theorem q_vals1 (b : B) : vals (b :: ρ) = b.v :: vals ρ := rfl
@[simp] theorem q_peek0 : peek [] = [] := rfl
@[simp] theorem q_peek1 (b : B) : peek (b :: ρ) = b.k :: peek ρ := rfl
@[simp] theorem q_bv (d : D) : (B.val d).v = some d := rfl
@[simp] theorem q_bo (d : List D) : (B.own d).v = none := rfl
@[simp] theorem q_bu : B.un.v = none := rfl
@[simp] theorem q_kv (d : D) : (B.val d).k = some d := rfl
@[simp] theorem q_ko (d : List D) : (B.own d).k = some (.list d) := rfl
@[simp] theorem q_ku : B.un.k = none := rfl
@[simp] theorem q_seq : S.seq f g ρ = S.thn (f ρ) g := rfl
@[simp] theorem q_thn : S.thn (.nx ρ) g = g ρ := rfl
@[simp] theorem q_thr (d : D) : S.thn (.rt d) g = .rt d := rfl
@[simp] theorem q_thx (c : Str) : S.thn (.exc c ρ) g = .exc c ρ := rfl
@[simp] theorem q_skip : S.skip ρ = .nx ρ := rfl
@[simp] theorem q_ret : S.ret m ρ = (m ρ).on ρ fun d => .rt d := rfl
@[simp] theorem q_ex : S.ex m ρ = (m ρ).on ρ fun _ => .nx ρ := rfl
@[simp] theorem q_set (i : Nat) : S.set i m ρ = (m ρ).on ρ fun d => .nx (ρ.set i (.val d)) := rfl
@[simp] theorem q_setO (i : Nat) : S.setO i ml ρ = (ml ρ).on ρ fun ds => .nx (ρ.set i (.own ds)) := rfl
@[simp] theorem q_site (t : SE → R Bool) : S.ite t f g ρ = (t ρ).on ρ fun b => if b = true then f ρ else g ρ := rfl
@[simp] theorem q_raise (c : Str) : S.raise c ρ = .exc c ρ := rfl
@[simp] theorem q_frz (i : Nat) : S.frz i g ρ = match ρ[i]? with | some (.own ds) => g (ρ.set i (.val (.list ds))) | _ => .stuck := rfl
@[simp] theorem q_for (it : En → R (List D)) (a : D → SE → Option SE) : S.for_ it a f ρ = (it (vals ρ)).on ρ fun ds => loopS a f ds ρ := rfl
@[simp] theorem q_while (n : Nat) (t : SE → R Bool) : S.while_ n t f ρ = whileS t f n ρ := rfl
@[simp] theorem q_own (i : Nat) (k : List D → O) : S.onOwn i ρ k = match ρ[i]? with | some (.own ds) => k ds | _ => .stuck := rfl
@[simp] theorem q_app (i : Nat) : S.append i m ρ = S.onOwn i ρ fun ds => (m ρ).on ρ fun d => if ds.length < 16777216 then .nx (ρ.set i (.own (ds ++ [d]))) else .stuck := rfl
@[simp] theorem q_ext (i : Nat) : S.extend i ml ρ = S.onOwn i ρ fun ds => (ml ρ).on ρ fun es => if ds.length + es.length ≤ 16777216 then .nx (ρ.set i (.own (ds ++ es))) else .stuck := rfl
@[simp] theorem q_pop (i j : Nat) (h : D → Option D) : S.pop i j h ρ = S.onOwn j ρ fun ds => match ds.getLast? with
  | some d => match h d with
    | some d' => .nx ((ρ.set j (.own ds.dropLast)).set i (.val d'))
    | none => .stuck
  | none => .stuck := rfl
@[simp] theorem q_asgB (is : List Nat) (n : SE → R (List B)) : S.asgB is n ρ = (n ρ).on ρ fun bs => if is.length = bs.length then .nx (setsB is bs ρ) else .stuck := rfl
@[simp] theorem q_sb0 (bs : List B) : setsB [] bs ρ = ρ := rfl
@[simp] theorem q_sb1 (i : Nat) (is : List Nat) (b : B) (bs : List B) : setsB (i :: is) (b :: bs) ρ = setsB is bs (ρ.set i b) := rfl
@[simp] theorem q_bsn : Bs.nil ρ = .ok [] := rfl
@[simp] theorem q_bsv (n : SE → R (List B)) : Bs.val m n ρ = (m ρ).bind fun d => (n ρ).bind fun bs => .ok (.val d :: bs) := rfl
@[simp] theorem q_bso (n : SE → R (List B)) : Bs.own ml n ρ = (ml ρ).bind fun d => (n ρ).bind fun bs => .ok (.own d :: bs) := rfl
@[simp] theorem q_gn (d : D) (i : Nat) : G.name i d ρ = some (ρ.set i (.val d)) := rfl
@[simp] theorem q_gt2 (x y : D) (i j : Nat) : G.tup [i, j] (.tuple [x, y]) ρ = some ((ρ.set i (.val x)).set j (.val y)) := rfl
@[simp] theorem q_gt3 (x y z : D) (i j k : Nat) : G.tup [i, j, k] (.tuple [x, y, z]) ρ = some (((ρ.set i (.val x)).set j (.val y)).set k (.val z)) := rfl
@[simp] theorem q_asg (a : D → SE → Option SE) : S.asg a m ρ = (m ρ).on ρ fun d => match a d ρ with | some ρ' => .nx ρ' | none => .stuck := rfl
@[simp] theorem q_rt (d : D) : (O.rt d).run = .ok d := rfl
@[simp] theorem q_rn : (O.nx ρ).run = .ok .none := rfl
@[simp] theorem q_rx (c : Str) : (O.exc c ρ).run = .exc c := rfl
end
theorem q_fn (n m : Nat) (g : SE → O) (ds : List D) (h : ds.length = n) : fn n m g ds = (g (ent ds m)).run := if_pos h
@[simp] theorem q_fn0 (m : Nat) (g : SE → O) : fn 0 m g [] = (g (List.replicate m B.un)).run := rfl
@[simp] theorem q_fn1 (m : Nat) (g : SE → O) (a : D) : fn 1 m g [a] = (g (.val a :: List.replicate m B.un)).run := rfl
@[simp] theorem q_fn2 (m : Nat) (g : SE → O) (a b : D) : fn 2 m g [a, b] = (g (.val a :: .val b :: List.replicate m B.un)).run := rfl
@[simp] theorem q_fn3 (m : Nat) (g : SE → O) (a b c : D) : fn 3 m g [a, b, c] = (g (.val a :: .val b :: .val c :: List.replicate m B.un)).run := rfl
@[simp] theorem q_fn4 (m : Nat) (g : SE → O) (a b c d : D) : fn 4 m g [a, b, c, d] = (g (.val a :: .val b :: .val c :: .val d :: List.replicate m B.un)).run := rfl
@[simp] theorem q_rep0 : List.replicate 0 B.un = [] := rfl
@[simp] theorem q_repS (n : Nat) : List.replicate (n + 1) B.un = B.un :: List.replicate n B.un := rfl

/-! operators -/
section
variable (i j : Int)
@[simp] theorem o_add : addD (.int i) (.int j) = some (.int (i + j)) := rfl
@[simp] theorem o_sub : subD (.int i) (.int j) = some (.int (i - j)) := rfl
@[simp] theorem o_neg : negD (.int i) = some (.int (-i)) := rfl
@[simp] theorem o_lt : ltD (.int i) (.int j) = some (.bool (decide (i < j))) := rfl
@[simp] theorem o_gt : gtD (.int i) (.int j) = some (.bool (decide (j < i))) := rfl
@[simp] theorem o_le : leD (.int i) (.int j) = some (.bool (decide (i ≤ j))) := rfl
@[simp] theorem o_ge : geD (.int i) (.int j) = some (.bool (decide (j ≤ i))) := rfl
@[simp] theorem o_max : max2F [.int i, .int j] = some (.int (max i j)) := rfl
@[simp] theorem o_min : min2F [.int i, .int j] = some (.int (min i j)) := rfl
theorem o_mod (h : 0 < j) : modD (.int i) (.int j) = some (.int (i % j)) := if_pos h
theorem o_fdiv (h : 0 < j) (h2 : j ≤ 1000000000000000000) : fdivD (.int i) (.int j) = some (.int (i / j)) := if_pos ⟨h, h2⟩
theorem o_mul1 (h : -18446744073709551616 < i ∧ i < 18446744073709551616) : mulD (.int i) (.int j) = some (.int (i * j)) := if_pos (Or.inl h)
theorem o_mul2 (h : -18446744073709551616 < j ∧ j < 18446744073709551616) : mulD (.int i) (.int j) = some (.int (i * j)) := if_pos (Or.inr h)
@[simp] theorem o_eqi : eqD (.int i) (.int j) = some (.bool (decide (i = j))) := by
  simp only [eqD, unscr, okD, PyData.plain, PyData.eqv, PyData.depth]
  rw [if_pos (by decide), PySem.W.beq_decide]
@[simp] theorem o_nei : neD (.int i) (.int j) = some (.bool (!decide (i = j))) := by
  simp only [neD, unscr, okD, PyData.plain, PyData.eqv, PyData.depth]
  rw [if_pos (by decide), PySem.W.beq_decide]
@[simp] theorem o_isN : isD .none .none = some (.bool true) := rfl
@[simp] theorem o_isI : isD (.int i) .none = some (.bool false) := rfl
@[simp] theorem o_isnN : isNotD .none .none = some (.bool false) := rfl
@[simp] theorem o_isnI : isNotD (.int i) .none = some (.bool true) := rfl
end
section
variable (xs ys : List D)
@[simp] theorem o_lenl : lenF [.list xs] = some (.int xs.length) := rfl
@[simp] theorem o_lent : lenF [.tuple xs] = some (.int xs.length) := rfl
@[simp] theorem o_lens : lenF [scr xs] = some (.int xs.length) := rfl
@[simp] theorem o_tl : tupleF [.list xs] = some (.tuple xs) := rfl
@[simp] theorem o_tt : tupleF [.tuple xs] = some (.tuple xs) := rfl
@[simp] theorem o_ll : listF [.list xs] = some (.list xs) := rfl
@[simp] theorem o_lt2 : listF [.tuple xs] = some (.list xs) := rfl
@[simp] theorem o_isL : isD (.list xs) .none = some (.bool false) := rfl
@[simp] theorem o_isnL : isNotD (.list xs) .none = some (.bool true) := rfl
@[simp] theorem o_isT : isD (.tuple xs) .none = some (.bool false) := rfl
@[simp] theorem o_isnT : isNotD (.tuple xs) .none = some (.bool true) := rfl
@[simp] theorem o_addl (h : xs.length + ys.length ≤ 16777216) : addD (.list xs) (.list ys) = some (.list (xs ++ ys)) := if_pos h
@[simp] theorem o_addt (h : xs.length + ys.length ≤ 16777216) : addD (.tuple xs) (.tuple ys) = some (.tuple (xs ++ ys)) := if_pos h
end
@[simp] theorem o_asi0 : asInts [] = some [] := rfl
theorem o_all (bs : List Bool) : allF [.list (bs.map PyData.bool)] = some (.bool (bs.all id)) := by simp only [allF, asBools_map]; rfl
theorem o_any (bs : List Bool) : anyF [.list (bs.map PyData.bool)] = some (.bool (bs.any id)) := by simp only [anyF, asBools_map]; rfl
theorem o_allm {α : Type} (p : α → Bool) (xs : List α) : allF [.list (xs.map fun x => .bool (p x))] = some (.bool (xs.all p)) := by
  have := o_all (xs.map p)
  rw [List.map_map, List.all_map] at this
  exact this
theorem o_anym {α : Type} (p : α → Bool) (xs : List α) : anyF [.list (xs.map fun x => .bool (p x))] = some (.bool (xs.any p)) := by
  have := o_any (xs.map p)
  rw [List.map_map, List.any_map] at this
  exact this
theorem o_summ {α : Type} (p : α → Int) (xs : List α) : sumF [.list (xs.map fun x => .int (p x))] = some (.int (xs.map p).sum) := by
  have : (xs.map fun x => PyData.int (p x)) = (xs.map p).map PyData.int := by simp
  rw [this]
  simp only [sumF, asInts_map]; rfl

/-! data of a type -/
section
open PySem.W
variable {α : Type} [DecidableEq α] [Datum α]
theorem unscr_plain {d : D} (h : d.plain = true) : unscr d = d := by
  cases d with
  | dict _ => cases h
  | _ => rfl
theorem okD_dat (h : Datum.depth α ≤ 60) (x y : α) : okD (Datum.toD x) (Datum.toD y) = true := by
  simp only [okD, Datum.plain, Bool.and_self, Bool.true_and, decide_eq_true_eq]
  have := Datum.depth_le x
  omega
theorem eqD_dat (h : Datum.depth α ≤ 60) (x y : α) : eqD (Datum.toD x) (Datum.toD y) = some (.bool (decide (x = y))) := by
  rw [eqD, unscr_plain (Datum.plain x), unscr_plain (Datum.plain y), if_pos (okD_dat h x y), Datum.eqv]
theorem neD_dat (h : Datum.depth α ≤ 60) (x y : α) : neD (Datum.toD x) (Datum.toD y) = some (.bool (!decide (x = y))) := by
  rw [neD, unscr_plain (Datum.plain x), unscr_plain (Datum.plain y), if_pos (okD_dat h x y), Datum.eqv]
theorem eqD_nil (xs : List α) : eqD (.list (xs.map Datum.toD)) (.list []) = some (.bool (decide (xs = []))) := by
  have h1 : PyData.plain (.list (xs.map Datum.toD)) = true := by simp only [PyData.plain, plainAll_map]
  rw [eqD, unscr_plain h1, unscr_plain rfl, if_pos]
  · exact congrArg (fun b => some (PyData.bool b)) (Datum.eqv xs ([] : List α))
  simp only [okD, h1, Bool.true_and]
  simp [PyData.plain, PyData.plainAll, PyData.depth, PyData.depthAll]
theorem neD_nil (xs : List α) : neD (.list (xs.map Datum.toD)) (.list []) = some (.bool (!decide (xs = []))) := by
  have h1 : PyData.plain (.list (xs.map Datum.toD)) = true := by simp only [PyData.plain, plainAll_map]
  rw [neD, unscr_plain h1, unscr_plain rfl, if_pos]
  · exact congrArg (fun b => some (PyData.bool !b)) (Datum.eqv xs ([] : List α))
  simp only [okD, h1, Bool.true_and]
  simp [PyData.plain, PyData.plainAll, PyData.depth, PyData.depthAll]
end

@[simp] theorem nil_ne : neD (.list []) (.list []) = some (.bool false) := rfl
@[simp] theorem nil_eq : eqD (.list []) (.list []) = some (.bool true) := rfl
@[simp] theorem non_ne : neD .none .none = some (.bool false) := rfl
@[simp] theorem non_eq : eqD .none .none = some (.bool true) := rfl
/-! indices -/
theorem atI_some {α : Type} {xs : List α} {i : Int} {x : α} (h0 : 0 ≤ i) (h : xs[i.toNat]? = some x) : atI xs i = some x := by
  have := L2.atI_nat (xs := xs) (j := i.toNat) h
  rwa [Int.toNat_of_nonneg h0] at this
@[simp] theorem ix_l (xs : List D) (i : Int) : ixD (.list xs) (.int i) = atI xs i := rfl
@[simp] theorem ix_t (xs : List D) (i : Int) : ixD (.tuple xs) (.int i) = atI xs i := rfl
@[simp] theorem ix_s (xs : List D) (i : Int) : ixD (scr xs) (.int i) = atI xs i := rfl
@[simp] theorem at_0 {α : Type} (x : α) (xs : List α) : atI (x :: xs) 0 = some x := atI_some (by decide) rfl
@[simp] theorem at_1 {α : Type} (x y : α) (xs : List α) : atI (x :: y :: xs) 1 = some y := atI_some (by decide) rfl
@[simp] theorem at_2 {α : Type} (x y z : α) (xs : List α) : atI (x :: y :: z :: xs) 2 = some z := atI_some (by decide) rfl
theorem at_last {α : Type} {xs : List α} {x : α} (h : xs.getLast? = some x) : atI xs (-1) = some x := by
  obtain ⟨ys, rfl⟩ := List.getLast?_eq_some_iff.mp h
  exact L2.atI_last ys x

/-! loops -/
/-- P is kept from rewriting -/
inductive Tag (P : O → Prop) : Type
  | mk
def Sat (P : O → Prop) (o : O) (h : Tag P := .mk) : Prop := P o
def isNx (Q : SE → Prop) : O → Prop := fun o => ∃ ρ, o = .nx ρ ∧ Q ρ
theorem sat_nx {Q : SE → Prop} {ρ : SE} (h : Q ρ) : Sat (isNx Q) (.nx ρ) := ⟨ρ, rfl, h⟩
theorem sat_seq {P : O → Prop} {f g : SE → O} {ρ ρ' : SE} (h : f ρ = .nx ρ') (k : Sat P (g ρ')) : Sat P (S.seq f g ρ) := by
  rw [q_seq, h, q_thn]; exact k
theorem sat_run {o : O} {r : R D} (h : Sat (fun o => o.run = r) o) : o.run = r := h
/-- a loop whose body always goes on: Inv holds of the items done -/
theorem loop_pre {α : Type} {a : D → SE → Option SE} {body : SE → O} (enc : α → D) (Inv : List α → SE → Prop) :
    ∀ (xs pre : List α) (ρ : SE), Inv pre ρ → (∀ p x q ρ, pre ++ xs = p ++ x :: q → Inv p ρ → ∃ ρ1, a (enc x) ρ = some ρ1 ∧ Sat (isNx (Inv (p ++ [x]))) (body ρ1)) →
    ∃ ρ', loopS a body (xs.map enc) ρ = .nx ρ' ∧ Inv (pre ++ xs) ρ'
  | [], pre, ρ, h0, _ => ⟨ρ, rfl, by rw [List.append_nil]; exact h0⟩
  | x :: xs, pre, ρ, h0, hs => by
    obtain ⟨ρ1, e1, ρ2, e2, i2⟩ := hs pre x xs ρ rfl h0
    obtain ⟨ρ', e3, i3⟩ := loop_pre enc Inv xs (pre ++ [x]) ρ2 i2 (fun p y q ρ e i => hs p y q ρ (by rw [← e, List.append_assoc]; rfl) i)
    refine ⟨ρ', ?_, by rw [List.append_assoc] at i3; exact i3⟩
    rw [List.map_cons, loopS]
    simp only [e1, e2, e3]
theorem sat_loop {α : Type} {a : D → SE → Option SE} {body : SE → O} {g : SE → O} {P : O → Prop} {ds : List D} {ρ : SE} (enc : α → D) (Inv : List α → SE → Prop) (xs : List α) (hd : ds = xs.map enc) (h0 : Inv [] ρ)
    (hs : ∀ p x q ρ, xs = p ++ x :: q → Inv p ρ → ∃ ρ1, a (enc x) ρ = some ρ1 ∧ Sat (isNx (Inv (p ++ [x]))) (body ρ1)) (hk : ∀ ρ', Inv xs ρ' → Sat P (g ρ')) : Sat P (S.thn (loopS a body ds ρ) g) := by
  obtain ⟨ρ', e, i⟩ := loop_pre enc Inv xs [] ρ h0 hs
  rw [hd, e]
  exact hk ρ' i
/-- the same, at a block's end -/
theorem sat_loopE {α : Type} {a : D → SE → Option SE} {body : SE → O} {P : O → Prop} {ds : List D} {ρ : SE} (enc : α → D) (Inv : List α → SE → Prop) (xs : List α) (hd : ds = xs.map enc) (h0 : Inv [] ρ)
    (hs : ∀ p x q ρ, xs = p ++ x :: q → Inv p ρ → ∃ ρ1, a (enc x) ρ = some ρ1 ∧ Sat (isNx (Inv (p ++ [x]))) (body ρ1)) (hk : ∀ ρ', Inv xs ρ' → Sat P (.nx ρ')) : Sat P (loopS a body ds ρ) := by
  obtain ⟨ρ', e, i⟩ := loop_pre enc Inv xs [] ρ h0 hs
  rw [hd, e]
  exact hk ρ' i
/-- by numbers: Inv i holds ahead of item i -/
theorem loop_ix {a : D → SE → Option SE} {body : SE → O} (Inv : Nat → SE → Prop) :
    ∀ (ds : List D) (k : Nat) (ρ : SE), Inv k ρ → (∀ i d ρ, ds[i]? = some d → Inv (k + i) ρ → ∃ ρ1, a d ρ = some ρ1 ∧ Sat (isNx (Inv (k + i + 1))) (body ρ1)) →
    ∃ ρ', loopS a body ds ρ = .nx ρ' ∧ Inv (k + ds.length) ρ'
  | [], k, ρ, h0, _ => ⟨ρ, rfl, h0⟩
  | d :: ds, k, ρ, h0, hs => by
    obtain ⟨ρ1, e1, ρ2, e2, i2⟩ := hs 0 d ρ rfl h0
    obtain ⟨ρ', e3, i3⟩ := loop_ix Inv ds (k + 1) ρ2 i2 (fun i d' ρ e iv => by
      have := hs (i + 1) d' ρ (by simpa using e) (by rw [show k + (i + 1) = k + 1 + i by omega]; exact iv)
      rwa [show k + (i + 1) + 1 = k + 1 + i + 1 by omega] at this)
    refine ⟨ρ', ?_, by rw [List.length_cons, show k + (ds.length + 1) = k + 1 + ds.length by omega]; exact i3⟩
    rw [loopS]
    simp only [e1, e2, e3]
theorem range_get (lo : Int) (n i : Nat) (d : D) (h : (rangeL lo n)[i]? = some d) : i < n ∧ d = .int (lo + (i : Nat)) := by
  rw [rangeL, List.getElem?_map, Option.map_eq_some_iff] at h
  obtain ⟨j, h1, rfl⟩ := h
  obtain ⟨h2, rfl⟩ := List.getElem?_eq_some_iff.mp h1
  rw [List.length_range] at h2
  exact ⟨h2, by simp⟩
theorem sat_range {a : D → SE → Option SE} {body : SE → O} {g : SE → O} {P : O → Prop} {lo : Int} {n : Nat} {ρ : SE} (Inv : Nat → SE → Prop) (h0 : Inv 0 ρ)
    (hs : ∀ (i : Nat) ρ, i < n → Inv i ρ → ∃ ρ1, a (.int (lo + (i : Int))) ρ = some ρ1 ∧ Sat (isNx (Inv (i + 1))) (body ρ1)) (hk : ∀ ρ', Inv n ρ' → Sat P (g ρ')) : Sat P (S.thn (loopS a body (rangeL lo n) ρ) g) := by
  obtain ⟨ρ', e, i⟩ := loop_ix (a := a) (body := body) Inv (rangeL lo n) 0 ρ h0 (fun i d ρ e iv => by
    obtain ⟨hi, rfl⟩ := range_get lo n i d e
    rw [Nat.zero_add] at iv ⊢
    exact hs i ρ hi iv)
  rw [e]
  exact hk ρ' (by simpa [rangeL] using i)
theorem comp_map {α : Type} {a : D → En → Option En} {t : En → R Bool} {f : En → R D} {ρ : En} (enc : α → D) (p : α → Bool) (g : α → D) :
    ∀ (xs : List α), (∀ x ∈ xs, ∃ ρ1, a (enc x) ρ = some ρ1 ∧ t ρ1 = .ok (p x) ∧ (p x = true → f ρ1 = .ok (g x))) → compF a t f ρ (xs.map enc) = .ok ((xs.filter p).map g)
  | [], _ => rfl
  | x :: xs, h => by
    obtain ⟨ρ1, e1, e2, e3⟩ := h x (List.mem_cons_self ..)
    have ih := comp_map enc p g xs (fun y hy => h y (List.mem_cons_of_mem _ hy))
    rw [List.map_cons, compF]
    simp only [e1, e2, q_ne, q_bok, ih]
    by_cases hp : p x = true
    · rw [if_pos hp, e3 hp, List.filter_cons_of_pos hp]; rfl
    · rw [if_neg hp, List.filter_cons_of_neg hp]
theorem comp_all {α : Type} {a : D → En → Option En} {f : En → R D} {ρ : En} (enc : α → D) (g : α → D) (xs : List α) (h : ∀ x ∈ xs, ∃ ρ1, a (enc x) ρ = some ρ1 ∧ f ρ1 = .ok (g x)) : compF a T.yes f ρ (xs.map enc) = .ok (xs.map g) := by
  rw [comp_map enc (fun _ => true) g xs (fun x hx => by
    obtain ⟨ρ1, e1, e2⟩ := h x hx
    exact ⟨ρ1, e1, rfl, fun _ => e2⟩)]
  rw [List.filter_eq_self.mpr (fun _ _ => rfl)]
end PV

/-! Q1: lists of ranges, in plain Lean -/
namespace PV
abbrev Rg := Int × Int
/-- t lies in a range of l -/
def In (l : List Rg) (t : Int) : Prop := ∃ p ∈ l, p.1 ≤ t ∧ t ≤ p.2
/-- ranges in order, with gaps, from b on -/
def Cn : Int → List Rg → Prop
  | _, [] => True
  | b, p :: r => b ≤ p.1 ∧ p.1 ≤ p.2 ∧ Cn (p.2 + 2) r
theorem in_nil (t : Int) : ¬ In [] t := fun ⟨_, h, _⟩ => by cases h
theorem in_cons (p : Rg) (l : List Rg) (t : Int) : In (p :: l) t ↔ (p.1 ≤ t ∧ t ≤ p.2) ∨ In l t := by
  simp only [In, List.mem_cons]
  constructor
  · rintro ⟨q, rfl | h, h2⟩
    · exact Or.inl h2
    · exact Or.inr ⟨q, h, h2⟩
  · rintro (h | ⟨q, h, h2⟩)
    · exact ⟨p, Or.inl rfl, h⟩
    · exact ⟨q, Or.inr h, h2⟩
theorem in_append (l m : List Rg) (t : Int) : In (l ++ m) t ↔ In l t ∨ In m t := by
  simp only [In, List.mem_append]
  constructor
  · rintro ⟨q, h | h, h2⟩
    · exact Or.inl ⟨q, h, h2⟩
    · exact Or.inr ⟨q, h, h2⟩
  · rintro (⟨q, h, h2⟩ | ⟨q, h, h2⟩)
    · exact ⟨q, Or.inl h, h2⟩
    · exact ⟨q, Or.inr h, h2⟩
theorem Cn.weak {b c : Int} {l : List Rg} (h : Cn b l) (hc : c ≤ b) : Cn c l := by
  cases l with
  | nil => trivial
  | cons p r => exact ⟨by have := h.1; omega, h.2.1, h.2.2⟩
theorem Cn.lo : ∀ {l : List Rg} {b t : Int}, Cn b l → In l t → b ≤ t
  | [], _, _, _, i => (in_nil _ i).elim
  | p :: r, b, t, h, i => by
    have h1 := h.1; have h2 := h.2.1
    rcases (in_cons p r t).mp i with h3 | h3
    · omega
    · have := Cn.lo h.2.2 h3; omega
theorem cn_ext : ∀ {l m : List Rg} {b c : Int}, Cn b l → Cn c m → (∀ t, In l t ↔ In m t) → l = m
  | [], [], _, _, _, _, _ => rfl
  | [], q :: s, _, _, _, h, e => ((in_nil q.1) ((e q.1).mpr ((in_cons ..).mpr (Or.inl ⟨Int.le_refl _, h.2.1⟩)))).elim
  | p :: r, [], _, _, h, _, e => ((in_nil p.1) ((e p.1).mp ((in_cons ..).mpr (Or.inl ⟨Int.le_refl _, h.2.1⟩)))).elim
  | p :: r, q :: s, b, c, h, k, e => by
    have hp := h.2.1
    have hq := k.2.1
    have low : ∀ t, In (p :: r) t → p.1 ≤ t := fun t i => Cn.lo (l := p :: r) (b := p.1) ⟨Int.le_refl _, h.2⟩ i
    have low' : ∀ t, In (q :: s) t → q.1 ≤ t := fun t i => Cn.lo (l := q :: s) (b := q.1) ⟨Int.le_refl _, k.2⟩ i
    have e1 : p.1 = q.1 := by
      have a1 := low q.1 ((e _).mpr ((in_cons ..).mpr (Or.inl ⟨Int.le_refl _, hq⟩)))
      have a2 := low' p.1 ((e _).mp ((in_cons ..).mpr (Or.inl ⟨Int.le_refl _, hp⟩)))
      omega
    have nr : ∀ t, In r t → p.2 + 2 ≤ t := fun t i => Cn.lo h.2.2 i
    have ns : ∀ t, In s t → q.2 + 2 ≤ t := fun t i => Cn.lo k.2.2 i
    have e2 : p.2 = q.2 := by
      rcases Int.lt_trichotomy p.2 q.2 with h1 | h1 | h1
      · have := (e (p.2 + 1)).mpr ((in_cons ..).mpr (Or.inl ⟨by omega, by omega⟩))
        rcases (in_cons ..).mp this with h2 | h2
        · omega
        · have := nr _ h2; omega
      · exact h1
      · have := (e (q.2 + 1)).mp ((in_cons ..).mpr (Or.inl ⟨by omega, by omega⟩))
        rcases (in_cons ..).mp this with h2 | h2
        · omega
        · have := ns _ h2; omega
    have e3 : r = s := cn_ext h.2.2 k.2.2 (fun t => by
      have := e t
      rw [in_cons, in_cons] at this
      constructor
      · intro i
        have h1 := nr t i
        rcases this.mp (Or.inr i) with h2 | h2
        · omega
        · exact h2
      · intro i
        have h1 := ns t i
        rcases this.mpr (Or.inr i) with h2 | h2
        · omega
        · exact h2)
    rw [e3, Prod.ext e1 e2]

/-! ### merging -/
/-- ranges in the order of their begins -/
def Asc : List Rg → Prop
  | [] => True
  | p :: r => (∀ q ∈ r, p.1 ≤ q.1) ∧ Asc r
/-- one step: the ranges found so far, backwards -/
def mstep (acc : List Rg) (p : Rg) : List Rg := match acc with
  | q :: r => if p.1 ≤ q.2 + 1 then (q.1, max q.2 p.2) :: r else p :: q :: r
  | [] => [p]
def merge (l : List Rg) : List Rg := (l.foldl mstep []).reverse
/-- ranges backwards, with gaps, the last one's end at most e -/
def Cb : Int → List Rg → Prop
  | _, [] => True
  | e, p :: r => p.2 ≤ e ∧ p.1 ≤ p.2 ∧ Cb (p.1 - 2) r
theorem Cb.weak {e f : Int} {l : List Rg} (h : Cb e l) (hc : e ≤ f) : Cb f l := by
  cases l with
  | nil => trivial
  | cons p r => exact ⟨by have := h.1; omega, h.2.1, h.2.2⟩
theorem cb_cn : ∀ {l m : List Rg} {e b : Int}, Cb e l → Cn b m → e + 2 ≤ b → ∃ c, Cn c (l.reverse ++ m)
  | [], m, _, b, _, hm, _ => ⟨b, hm⟩
  | p :: r, m, e, b, h, hm, he => by
    rw [List.reverse_cons, List.append_assoc]
    exact cb_cn (l := r) (m := p :: m) (e := p.1 - 2) (b := p.1) h.2.2 ⟨Int.le_refl _, h.2.1, hm.weak (by have := h.1; omega)⟩ (by omega)
theorem mstep_ok {acc : List Rg} {p : Rg} {e : Int} (h : Cb e acc) (hp : p.1 ≤ p.2) (ha : ∀ q ∈ acc, q.1 ≤ p.1) :
    (∃ f, Cb f (mstep acc p)) ∧ (∀ t, In (mstep acc p) t ↔ In acc t ∨ (p.1 ≤ t ∧ t ≤ p.2)) ∧ (∀ q ∈ mstep acc p, q.1 ≤ p.1) ∧ (mstep acc p).length ≤ acc.length + 1 := by
  cases acc with
  | nil => exact ⟨⟨p.2, Int.le_refl _, hp, trivial⟩, fun t => by simp [mstep, in_cons, in_nil], by simp [mstep], by simp [mstep]⟩
  | cons q r =>
    have hq := ha q (List.mem_cons_self ..)
    have h2 := h.2.1
    unfold mstep
    by_cases c : p.1 ≤ q.2 + 1
    · simp only [if_pos c]
      refine ⟨⟨max q.2 p.2, Int.le_refl _, by simp only; omega, h.2.2⟩, fun t => ?_, ?_, by simp⟩
      · rw [in_cons, in_cons]
        simp only
        constructor
        · rintro (⟨a, b⟩ | a)
          · by_cases t ≤ q.2
            · exact Or.inl (Or.inl ⟨a, by assumption⟩)
            · exact Or.inr ⟨by omega, by omega⟩
          · exact Or.inl (Or.inr a)
        · rintro ((⟨a, b⟩ | a) | ⟨a, b⟩)
          · exact Or.inl ⟨a, by omega⟩
          · exact Or.inr a
          · exact Or.inl ⟨by omega, by omega⟩
      · intro s hs
        rcases List.mem_cons.mp hs with rfl | hs
        · exact hq
        · exact ha s (List.mem_cons_of_mem _ hs)
    · simp only [if_neg c]
      refine ⟨⟨p.2, Int.le_refl _, hp, (show Cb q.2 (q :: r) from ⟨Int.le_refl _, h.2⟩).weak (by omega)⟩, fun t => ?_, ?_, by simp⟩
      · rw [in_cons]
        constructor
        · rintro (a | a)
          · exact Or.inr a
          · exact Or.inl a
        · rintro (a | a)
          · exact Or.inr a
          · exact Or.inl a
      · intro s hs
        rcases List.mem_cons.mp hs with rfl | hs
        · exact Int.le_refl _
        · exact ha s hs
theorem fold_ok : ∀ (l acc : List Rg) (e : Int), Cb e acc → (∀ p ∈ l, p.1 ≤ p.2) → Asc l → (∀ q ∈ acc, ∀ p ∈ l, q.1 ≤ p.1) →
    (∃ f, Cb f (l.foldl mstep acc)) ∧ (∀ t, In (l.foldl mstep acc) t ↔ In acc t ∨ In l t)
  | [], acc, e, h, _, _, _ => ⟨⟨e, h⟩, fun t => by simp [in_nil]⟩
  | p :: l, acc, e, h, hp, ha, hq => by
    obtain ⟨⟨f, m1⟩, m2, m3, _⟩ := mstep_ok h (hp p (List.mem_cons_self ..)) (fun q k => hq q k p (List.mem_cons_self ..))
    obtain ⟨g1, g2⟩ := fold_ok l (mstep acc p) f m1 (fun q k => hp q (List.mem_cons_of_mem _ k)) ha.2 (fun q k s i => by
      have := m3 q k; have := ha.1 s i; omega)
    refine ⟨g1, fun t => ?_⟩
    rw [List.foldl_cons, g2, m2, in_cons, or_assoc]
theorem in_reverse (l : List Rg) (t : Int) : In l.reverse t ↔ In l t := by simp [In]
theorem merge_ok {l : List Rg} (h : ∀ p ∈ l, p.1 ≤ p.2) (a : Asc l) : (∃ b, Cn b (merge l)) ∧ ∀ t, In (merge l) t ↔ In l t := by
  obtain ⟨⟨f, g1⟩, g2⟩ := fold_ok l [] 0 trivial h a (by simp)
  refine ⟨?_, fun t => ?_⟩
  · have := cb_cn (m := []) g1 (b := f + 2) trivial (Int.le_refl _)
    rwa [List.append_nil] at this
  · rw [merge, in_reverse, g2]
    simp [in_nil]
theorem mstep_len (acc : List Rg) (p : Rg) : (mstep acc p).length ≤ acc.length + 1 := by
  unfold mstep
  cases acc with
  | nil => simp
  | cons q r => by_cases c : p.1 ≤ q.2 + 1 <;> simp [c]
theorem fold_len : ∀ (l acc : List Rg), (l.foldl mstep acc).length ≤ acc.length + l.length
  | [], _ => by simp
  | p :: l, acc => by
    have h1 := fold_len l (mstep acc p)
    have h2 := mstep_len acc p
    rw [List.foldl_cons, List.length_cons]
    omega
theorem merge_len (l : List Rg) : (merge l).length ≤ l.length := by
  have := fold_len l []
  rw [merge, List.length_reverse]
  simpa using this

/-! ### strictly ascending numbers without repetition -/
theorem mem_insU (x y : Int) : ∀ l : List Int, y ∈ insU x l ↔ y = x ∨ y ∈ l
  | [] => by simp [insU]
  | z :: l => by
    rw [insU]
    by_cases h1 : x < z
    · simp [h1]
    · by_cases h2 : x = z
      · simp [h1, h2]
      · rw [if_neg h1, if_neg h2, List.mem_cons, mem_insU x y l, List.mem_cons]
        constructor
        · rintro (h | h | h)
          · exact Or.inr (Or.inl h)
          · exact Or.inl h
          · exact Or.inr (Or.inr h)
        · rintro (h | h | h)
          · exact Or.inr (Or.inl h)
          · exact Or.inl h
          · exact Or.inr (Or.inr h)
theorem mem_sded (y : Int) : ∀ l : List Int, y ∈ sded l ↔ y ∈ l
  | [] => Iff.rfl
  | x :: l => by rw [sded, mem_insU, mem_sded y l, List.mem_cons]
theorem insU_asc (x : Int) : ∀ l : List Int, l.Pairwise (· < ·) → (insU x l).Pairwise (· < ·)
  | [], _ => by simp [insU]
  | z :: l, h => by
    rw [insU]
    rw [List.pairwise_cons] at h
    by_cases h1 : x < z
    · rw [if_pos h1, List.pairwise_cons, List.pairwise_cons]
      refine ⟨fun y hy => ?_, h⟩
      rcases List.mem_cons.mp hy with rfl | hy
      · exact h1
      · have := h.1 y hy; omega
    · by_cases h2 : x = z
      · rw [if_neg h1, if_pos h2, List.pairwise_cons]; exact h
      · rw [if_neg h1, if_neg h2, List.pairwise_cons]
        refine ⟨fun y hy => ?_, insU_asc x l h.2⟩
        rcases (mem_insU x y l).mp hy with rfl | hy
        · omega
        · exact h.1 y hy
theorem sded_asc : ∀ l : List Int, (sded l).Pairwise (· < ·)
  | [] => List.Pairwise.nil
  | x :: l => insU_asc x _ (sded_asc l)
theorem insU_len (x : Int) : ∀ l : List Int, (insU x l).length ≤ l.length + 1
  | [] => by simp [insU]
  | z :: l => by
    rw [insU]
    have := insU_len x l
    by_cases h1 : x < z
    · simp [h1]
    · by_cases h2 : x = z
      · simp [h1, h2]
      · simp [h1, h2]; omega
theorem sded_len : ∀ l : List Int, (sded l).length ≤ l.length
  | [] => Nat.le_refl _
  | x :: l => by
    have h1 := insU_len x (sded l)
    have h2 := sded_len l
    rw [sded, List.length_cons]
    omega

/-! ### pieces -/
def pcs (z : Int) : List Int → List Rg
  | [] => []
  | [a] => [(a, z)]
  | a :: b :: r => (a, b - 1) :: pcs z (b :: r)
theorem pcs_ok (z : Int) : ∀ (l : List Int), l.Pairwise (· < ·) → (∀ x ∈ l, x ≤ z) →
    (∀ p ∈ pcs z l, p.1 ≤ p.2 ∧ p.1 ∈ l ∧ p.2 ≤ z ∧ ∀ b ∈ l, b ≤ p.1 ∨ p.2 < b) ∧ Asc (pcs z l) ∧ (pcs z l).length = l.length ∧ ∀ a r, l = a :: r → ∀ t, a ≤ t → t ≤ z → In (pcs z l) t
  | [], _, _ => ⟨by simp [pcs], trivial, rfl, by simp⟩
  | [a], _, h => by
    refine ⟨fun p hp => ?_, ⟨by simp, trivial⟩, rfl, fun x r e t h1 h2 => ?_⟩
    · rw [pcs, List.mem_singleton] at hp
      subst hp
      exact ⟨h a (by simp), by simp, Int.le_refl _, fun b hb => by rw [List.mem_singleton] at hb; exact Or.inl (by rw [hb]; exact Int.le_refl _)⟩
    · cases e
      exact ⟨(a, z), by simp [pcs], h1, h2⟩
  | a :: b :: r, hs, h => by
    obtain ⟨i1, i2, i3, i4⟩ := pcs_ok z (b :: r) (List.pairwise_cons.mp hs).2 (fun x hx => h x (List.mem_cons_of_mem _ hx))
    have hab := (List.pairwise_cons.mp hs).1
    have hb := hab b (by simp)
    have hbz := h b (by simp)
    have hbr := (List.pairwise_cons.mp (List.pairwise_cons.mp hs).2).1
    refine ⟨fun p hp => ?_, ?_, ?_, ?_⟩
    · rw [pcs, List.mem_cons] at hp
      rcases hp with rfl | hp
      · refine ⟨by simp only; omega, by simp, by simp only; omega, fun c hc => ?_⟩
        rcases List.mem_cons.mp hc with rfl | hc
        · exact Or.inl (Int.le_refl _)
        · refine Or.inr ?_
          simp only
          rcases List.mem_cons.mp hc with rfl | hc
          · omega
          · have := hbr c hc; omega
      · obtain ⟨j1, j2, j3, j4⟩ := i1 p hp
        refine ⟨j1, List.mem_cons_of_mem _ j2, j3, fun c hc => ?_⟩
        rcases List.mem_cons.mp hc with rfl | hc
        · have := hab p.1 j2; exact Or.inl (by omega)
        · exact j4 c hc
    · refine ⟨fun q hq => ?_, i2⟩
      have := hab q.1 (i1 q hq).2.1
      simp only; omega
    · rw [pcs, List.length_cons, i3]; rfl
    · intro x s e t h1 h2
      cases e
      rw [pcs, in_cons]
      by_cases c : t ≤ b - 1
      · exact Or.inl ⟨h1, c⟩
      · exact Or.inr (i4 b r rfl t (by omega) h2)

/-! ### ranges of the good times among given ones -/
def rgo (P : Int → Bool) : Option Int → List Int → List Rg
  | _, [] => []
  | bg, t :: ts =>
    match (if P t = true ∧ bg = none then some t else bg) with
    | none => rgo P none ts
    | some b => match ts with
      | [] => [(b, t)]
      | u :: us => if P u = true then rgo P (some b) (u :: us) else (b, t) :: rgo P none (u :: us)
/-- between two given times that are no neighbours the answer stays -/
def Dense (P : Int → Bool) : List Int → Prop
  | t :: u :: us => t < u ∧ (∀ x, t ≤ x → x ≤ u → u ≠ t + 1 → P x = P t) ∧ Dense P (u :: us)
  | _ => True
theorem rgo_ok (P : Int → Bool) : ∀ (ts : List Int) (bg : Option Int) (t z : Int), Dense P (t :: ts) → (t :: ts).getLast? = some z →
    (∀ b, bg = some b → b ≤ t ∧ P t = true ∧ ∀ x, b ≤ x → x ≤ t → P x = true) →
    (∀ b, bg = some b → Cn b (rgo P bg (t :: ts))) ∧ (bg = none → Cn t (rgo P bg (t :: ts))) ∧ t ≤ z ∧
    ∀ x, In (rgo P bg (t :: ts)) x ↔ (P x = true ∧ t ≤ x ∧ x ≤ z) ∨ (∃ b, bg = some b ∧ b ≤ x ∧ x ≤ t)
  | [], bg, t, z, hd, hz, hb => by
    have : t = z := by simpa using hz
    subst this
    cases bg with
    | none =>
      by_cases c : P t = true
      · simp [rgo, c, Cn, in_cons, in_nil]
        intro x k1 k2
        rw [show x = t by omega]
        exact c
      · simp [rgo, c, Cn, in_nil]
        intro x hx h1
        by_cases d : x = t
        · rw [d] at hx; exact absurd hx c
        · omega
    | some b =>
      obtain ⟨h1, h2, h3⟩ := hb b rfl
      simp [rgo, Cn, in_cons, in_nil]
      exact ⟨h1, fun x k1 k2 k3 => by omega⟩
  | u :: us, bg, t, z, hd, hz, hb => by
    have hz' : (u :: us).getLast? = some z := by simpa using hz
    obtain ⟨htu, hconst, hd'⟩ := hd
    -- where a range goes on past t
    have key : ∀ b, b ≤ t → P t = true → (∀ x, b ≤ x → x ≤ t → P x = true) →
        Cn b (if P u = true then rgo P (some b) (u :: us) else (b, t) :: rgo P none (u :: us)) ∧ t ≤ z ∧
        ∀ x, In (if P u = true then rgo P (some b) (u :: us) else (b, t) :: rgo P none (u :: us)) x ↔ (P x = true ∧ t ≤ x ∧ x ≤ z) ∨ (b ≤ x ∧ x ≤ t) := by
      intro b h1 h2 h3
      by_cases c : P u = true
      · have hb' : ∀ b', some b = some b' → b' ≤ u ∧ P u = true ∧ ∀ x, b' ≤ x → x ≤ u → P x = true := by
          intro b' e
          cases e
          refine ⟨by omega, c, fun x k1 k2 => ?_⟩
          by_cases d : x ≤ t
          · exact h3 x k1 d
          · by_cases d2 : x = u
            · rw [d2]; exact c
            · rw [hconst x (by omega) k2 (by omega)]; exact h2
        obtain ⟨r1, _, r2, r3⟩ := rgo_ok P us (some b) u z hd' hz' hb'
        simp only [if_pos c]
        refine ⟨r1 b rfl, by omega, fun x => ?_⟩
        rw [r3]
        constructor
        · rintro (⟨k1, k2, k3⟩ | ⟨b', e, k1, k2⟩)
          · exact Or.inl ⟨k1, by omega, k3⟩
          · cases e
            by_cases d : x ≤ t
            · exact Or.inr ⟨k1, d⟩
            · exact Or.inl ⟨(hb' b rfl).2.2 x k1 k2, by omega, by omega⟩
        · rintro (⟨k1, k2, k3⟩ | ⟨k1, k2⟩)
          · by_cases d : u ≤ x
            · exact Or.inl ⟨k1, d, k3⟩
            · exact Or.inr ⟨b, rfl, by omega, by omega⟩
          · exact Or.inr ⟨b, rfl, k1, by omega⟩
      · obtain ⟨_, r1, r2, r3⟩ := rgo_ok P us none u z hd' hz' (by simp)
        have hu : u = t + 1 := by
          by_cases d : u = t + 1
          · exact d
          · exact absurd ((hconst u (by omega) (Int.le_refl _) d).trans h2) c
        simp only [if_neg c]
        have hcn : ∀ x, In (rgo P none (u :: us)) x → u + 1 ≤ x := by
          intro x k
          obtain ⟨k1, k2, k3⟩ | ⟨b', e, _⟩ := (r3 x).mp k
          · by_cases d : x = u
            · rw [d] at k1; exact absurd k1 c
            · omega
          · cases e
        refine ⟨⟨Int.le_refl _, h1, ?_⟩, by omega, fun x => ?_⟩
        · have r1' := r1 rfl
          revert r1' hcn
          cases rgo P none (u :: us) with
          | nil => intros; trivial
          | cons p r =>
            intro hcn r1'
            have := hcn p.1 ((in_cons ..).mpr (Or.inl ⟨Int.le_refl _, r1'.2.1⟩))
            exact ⟨by simp only; omega, r1'.2⟩
        · rw [in_cons, r3]
          simp only
          constructor
          · rintro (k | ⟨k1, k2, k3⟩ | ⟨b', e, _⟩)
            · exact Or.inr k
            · exact Or.inl ⟨k1, by omega, k3⟩
            · cases e
          · rintro (⟨k1, k2, k3⟩ | k)
            · by_cases d : x = t
              · exact Or.inl ⟨by omega, by omega⟩
              · exact Or.inr (Or.inl ⟨k1, by omega, k3⟩)
            · exact Or.inl k
    cases bg with
    | some b =>
      obtain ⟨h1, h2, h3⟩ := hb b rfl
      obtain ⟨k1, k2, k3⟩ := key b h1 h2 h3
      have e : rgo P (some b) (t :: u :: us) = (if P u = true then rgo P (some b) (u :: us) else (b, t) :: rgo P none (u :: us)) := by
        rw [rgo]; simp
      rw [e]
      refine ⟨fun b' e' => by cases e'; exact k1, by simp, k2, fun x => ?_⟩
      rw [k3]
      simp
    | none =>
      by_cases c : P t = true
      · obtain ⟨k1, k2, k3⟩ := key t (Int.le_refl _) c (fun x a1 a2 => by rw [show x = t by omega]; exact c)
        have e : rgo P none (t :: u :: us) = (if P u = true then rgo P (some t) (u :: us) else (t, t) :: rgo P none (u :: us)) := by
          rw [rgo]; simp [c]
        rw [e]
        refine ⟨by simp, fun _ => k1, k2, fun x => ?_⟩
        rw [k3]
        simp
        intro a1 a2
        rw [show x = t by omega]
        exact ⟨c, Int.le_refl _, k2⟩
      · have e : rgo P none (t :: u :: us) = rgo P none (u :: us) := by rw [rgo]; simp [c]
        obtain ⟨_, r1, r2, r3⟩ := rgo_ok P us none u z hd' hz' (by simp)
        rw [e]
        refine ⟨by simp, fun _ => (r1 rfl).weak (by omega), by omega, fun x => ?_⟩
        rw [r3]
        simp
        intro k1 k2
        constructor
        · intro; omega
        · intro k3
          by_cases d : x = t
          · rw [d] at k1; exact absurd k1 c
          · by_cases d2 : u ≤ x
            · exact d2
            · exact absurd ((hconst x (by omega) (by omega) (by omega)).symm.trans k1) c
end PV

/-! Q2: what the program's functions return, at reports -/
namespace PV
open PySem PySem.Spec L2
abbrev Rep := PySem.W.T3 Str Int Int
def eR (r : Rep) : D := .tuple [.str r.a, .int r.b, .int r.c]
def eP (p : Rg) : D := .tuple [.int p.1, .int p.2]
abbrev eRs (rs : List Rep) : D := .tuple (rs.map eR)
abbrev ePs (l : List Rg) : D := .list (l.map eP)
def hits (t : Int) (r : Rep) : Bool := decide (r.b ≤ t) && decide (t ≤ r.c)
def cnt (rs : List Rep) (t : Int) : Nat := (rs.filter (hits t)).length
def right (rs : List Rep) (t : Int) : List Str := (rs.filter (hits t)).map (·.a)
@[simp] theorem ps_eq (l m : List Rg) : eqD (ePs l) (ePs m) = some (.bool (decide (l = m))) := eqD_dat (α := List (Int × Int)) (by decide) l m
@[simp] theorem ps_ne (l m : List Rg) : neD (ePs l) (ePs m) = some (.bool (!decide (l = m))) := neD_dat (α := List (Int × Int)) (by decide) l m
@[simp] theorem ps_eq0 (l : List Rg) : eqD (ePs l) (.list []) = some (.bool (decide (l = []))) := eqD_nil (α := Int × Int) l
@[simp] theorem ps_ne0 (l : List Rg) : neD (ePs l) (.list []) = some (.bool (!decide (l = []))) := neD_nil (α := Int × Int) l

theorem s_right (rs : List Rep) (t : Int) : sem_right_names [eRs rs, .int t] = .ok (.list ((right rs t).map .str)) := by
  simp [sem_right_names]
  rw [comp_map eR (hits t) (fun r => .str r.a) rs]
  · simp [right]
  · intro r _
    refine ⟨_, rfl, ?_, ?_⟩
    · simp [hits]
      by_cases h : r.b ≤ t <;> simp [h]
    · simp
theorem s_sources (rs : List Rep) : sem_sources [eRs rs] = .ok (.list (rs.map fun r => .str r.a)) := by
  simp [sem_sources]
  rw [comp_all eR (fun r => .str r.a) rs]
  · simp
  · intro r _
    exact ⟨_, rfl, by simp⟩
theorem lenD_right (rs : List Rep) (t : Int) : lenF [.list ((right rs t).map .str)] = some (.int (cnt rs t)) := by simp [right, cnt]
def bds (rs : List Rep) : List Int := (0 :: rs.map (·.b)) ++ (rs.filter fun r => decide (r.c < 9999)).map fun r => r.c + 1
theorem s_borders (rs : List Rep) (h : rs.length ≤ 10) : sem_borders [eRs rs] = .ok (.list ((sded (bds rs)).map .int)) := by
  have e : (PyData.int 0 :: (rs.map fun r => PyData.int r.b)) ++ ((rs.filter fun r => decide (r.c < 9999)).map fun r => PyData.int (r.c + 1)) = (bds rs).map PyData.int := by simp [bds, Function.comp_def]
  have hf := List.length_filter_le (fun r : Rep => decide (r.c < 9999)) rs
  simp [sem_borders]
  rw [comp_all eR (fun r => .int r.b) rs (fun r _ => ⟨_, rfl, by simp⟩)]
  simp
  rw [if_pos (by omega)]
  simp
  rw [comp_map eR (fun r => decide (r.c < 9999)) (fun r => .int (r.c + 1)) rs (fun r _ => ⟨_, rfl, by simp, by simp⟩)]
  simp
  rw [if_pos (by omega)]
  simp only [List.cons_append] at e
  simp [e, sortSetF, asInts_map]
  rw [if_pos (by simp [bds]; omega)]
  simp
theorem cut1 {α : Type} (xs : List α) : cutL xs (some 1) none = xs.drop 1 := by
  simp only [cutL, HT.sIx]
  cases xs with
  | nil => rfl
  | cons x xs => simp
theorem zip_pcs (z : Int) : ∀ l : List Int, List.zipWith (fun x y => ((x, y - 1) : Rg)) l (l.drop 1 ++ [z + 1]) = pcs z l
  | [] => rfl
  | [a] => by simp [pcs]
  | a :: b :: r => by
    rw [pcs, ← zip_pcs z (b :: r)]
    rfl
def pieces (rs : List Rep) : List Rg := pcs 9999 (sded (bds rs))
theorem s_pieces (rs : List Rep) (h : rs.length ≤ 10) : sem_pieces [eRs rs] = .ok (ePs (pieces rs)) := by
  have hl := sded_len (bds rs)
  have hb : (bds rs).length ≤ 21 := by
    have hf := List.length_filter_le (fun r : Rep => decide (r.c < 9999)) rs
    simp [bds]; omega
  simp [sem_pieces, s_borders rs h, sliceD, cut1]
  rw [o_addl _ _ (by simp; omega)]
  simp
  have e : zipL ((sded (bds rs)).map .int) (((sded (bds rs)).map .int).drop 1 ++ [.int 10000]) = (List.zipWith (fun x y => ((x, y) : Rg)) (sded (bds rs)) ((sded (bds rs)).drop 1 ++ [10000])).map eP := by
    have : ((sded (bds rs)).map PyData.int).drop 1 ++ [.int 10000] = ((sded (bds rs)).drop 1 ++ [10000]).map PyData.int := by simp
    rw [this]
    simp only [zipL, List.map_zipWith, List.zipWith_map, eP]
  simp only [List.drop_one] at e
  rw [e, comp_all eP (fun p => eP (p.1, p.2 - 1)) _ (fun r _ => ⟨_, rfl, by simp [eP]⟩)]
  simp
  rw [pieces, ← zip_pcs]
  simp [List.map_zipWith]
/-! merging -/
theorem le_pairs (p q : Rg) : leB (eP p) (eP q) = decide (p.1 < q.1 ∨ p.1 = q.1 ∧ p.2 ≤ q.2) := by
  have : PySem.W.dataLt (eP q) (eP p) = decide (q.1 < p.1 ∨ q.1 = p.1 ∧ q.2 < p.2) := by
    have h := PySem.W.DatumOrd.lt_eq (α := Int × Int) q p
    refine Eq.trans h ?_
    show (if q.1 = p.1 then decide (q.2 < p.2) else decide (q.1 < p.1)) = _
    by_cases c : q.1 = p.1
    · simp [c]
    · simp [c]
  rw [leB, this, Bool.eq_iff_iff]
  simp
  omega
end PV

namespace PV
open PySem PySem.Spec L2
@[simp] theorem ixP0 (p : Rg) : ixD (eP p) (.int 0) = some (.int p.1) := rfl
@[simp] theorem ixP1 (p : Rg) : ixD (eP p) (.int 1) = some (.int p.2) := rfl
@[simp] theorem gP (ρ : SE) (p : Rg) (i j : Nat) : G.tup [i, j] (eP p) ρ = some ((ρ.set i (.val (.int p.1))).set j (.val (.int p.2))) := rfl
@[simp] theorem geP (ρ : En) (p : Rg) (i j : Nat) : GE.tup [i, j] (eP p) ρ = some ((ρ.set i (some (.int p.1))).set j (some (.int p.2))) := rfl
@[simp] theorem gR (ρ : SE) (p : Rep) (i j k : Nat) : G.tup [i, j, k] (eR p) ρ = some (((ρ.set i (.val (.str p.a))).set j (.val (.int p.b))).set k (.val (.int p.c))) := rfl
@[simp] theorem geR (ρ : En) (p : Rep) (i j k : Nat) : GE.tup [i, j, k] (eR p) ρ = some (((ρ.set i (some (.str p.a))).set j (some (.int p.b))).set k (some (.int p.c))) := rfl
@[simp] theorem ixR0 (p : Rep) : ixD (eR p) (.int 0) = some (.str p.a) := rfl
@[simp] theorem ixR1 (p : Rep) : ixD (eR p) (.int 1) = some (.int p.b) := rfl
@[simp] theorem ixR2 (p : Rep) : ixD (eR p) (.int 2) = some (.int p.c) := rfl
def pleB (p q : Rg) : Bool := decide (p.1 < q.1 ∨ p.1 = q.1 ∧ p.2 ≤ q.2)
def srt (l : List Rg) : List Rg := l.mergeSort pleB
theorem asc_of_pw : ∀ {l : List Rg}, l.Pairwise (fun p q => pleB p q = true) → Asc l
  | [], _ => trivial
  | p :: r, h => by
    rw [List.pairwise_cons] at h
    exact ⟨fun q hq => by have := h.1 q hq; simp [pleB] at this; omega, asc_of_pw h.2⟩
theorem srt_asc (l : List Rg) : Asc (srt l) := asc_of_pw (List.pairwise_mergeSort (le := pleB) (fun a b c h1 h2 => by simp [pleB] at *; omega) (fun a b => by simp [pleB]; omega) l)
theorem mem_srt (l : List Rg) (p : Rg) : p ∈ srt l ↔ p ∈ l := (List.mergeSort_perm l pleB).mem_iff
theorem srt_len (l : List Rg) : (srt l).length = l.length := (List.mergeSort_perm l pleB).length_eq
theorem in_srt (l : List Rg) (t : Int) : In (srt l) t ↔ In l t := by simp only [In, mem_srt]
theorem sort_ps (l : List Rg) : sortF [ePs l] = some (ePs (srt l)) := by
  have h : sortOk (l.map eP) = true := by
    simp only [sortOk, Bool.and_eq_true, decide_eq_true_eq]
    refine ⟨⟨⟨PySem.W.plainAll_map (α := Int × Int) l, ?_⟩, ?_⟩, Nat.le_trans (PySem.W.depthAll_map (α := Int × Int) l) (by decide)⟩
    · simp only [List.all_map, List.all_eq_true]
      intro p _
      simp only [Function.comp, List.all_eq_true]
      intro q _
      exact PySem.W.DatumOrd.alike (α := Int × Int) p q
    · rw [Bool.or_eq_true, Bool.or_eq_true]
      refine Or.inl (Or.inl ?_)
      simp only [List.all_map, List.all_eq_true]
      intro p _
      rfl
  simp only [sortF]
  rw [if_pos h, srt, ePs, List.map_mergeSort (r := pleB) (s := leB) (f := eP) (fun a _ b _ => (le_pairs a b).symm)]
def mrg (l : List Rg) : List Rg := merge (srt l)
theorem s_merged (l : List Rg) (h : l.length ≤ 1000000) : sem_merged [ePs l] = .ok (ePs (mrg l)) := by
  simp [sem_merged, sort_ps]
  refine sat_run ?_
  refine sat_loop eP (fun pre ρ => ∃ u2 u3 u4, ρ = [.val (ePs l), .own ((pre.foldl mstep []).reverse.map eP), u2, u3, u4]) (srt l) rfl ⟨_, _, _, rfl⟩ ?_ ?_
  · rintro p x q ρ e ⟨u2, u3, u4, rfl⟩
    refine ⟨_, rfl, ?_⟩
    have hl := fold_len p []
    have hp : p.length < l.length := by
      have := congrArg List.length e
      rw [srt_len] at this
      simp at this; omega
    rw [List.length_nil, Nat.zero_add] at hl
    rw [List.foldl_append, List.foldl_cons, List.foldl_nil]
    revert hl
    cases p.foldl mstep [] with
    | nil =>
      intro hl
      simp [eP, mstep]
      exact sat_nx ⟨_, _, _, rfl⟩
    | cons y r =>
      intro hl
      rw [List.length_cons] at hl
      have h1 : neD (.list ((y :: r).reverse.map eP)) (.list []) = some (.bool true) := by
        rw [ps_ne0]; simp
      have h2 : atI ((y :: r).reverse.map eP) (-1) = some (eP y) := at_last (by simp)
      have h3 : ((y :: r).reverse.map eP).getLast? = some (eP y) := by simp
      have h4 : ((y :: r).reverse.map eP).dropLast = r.reverse.map eP := by simp
      have h5 : ((y :: r).reverse.map eP).length = r.length + 1 := by simp
      have h6 : (x :: y :: r).reverse.map eP = (y :: r).reverse.map eP ++ [eP x] := by simp
      by_cases c : x.1 ≤ y.2 + 1
      · rw [show mstep (y :: r) x = (y.1, max y.2 x.2) :: r by simp [mstep, c]]
        generalize (y :: r).reverse.map eP = L at *
        simp [h1, h2, h3, h4, c]
        rw [if_pos (by omega)]
        exact sat_nx ⟨_, _, _, by rw [List.reverse_cons, List.map_append, List.map_reverse]; rfl⟩
      · rw [show mstep (y :: r) x = x :: y :: r by simp [mstep, c]]
        rw [h6]
        generalize (y :: r).reverse.map eP = L at *
        simp [h1, h2, h3, h4, c]
        rw [if_pos (by omega)]
        exact sat_nx ⟨_, _, _, rfl⟩
  · rintro ρ' ⟨u2, u3, u4, rfl⟩
    simp [Sat, mrg, merge]
theorem mrg_ok {l : List Rg} (h : ∀ p ∈ l, p.1 ≤ p.2) : (∃ b, Cn b (mrg l)) ∧ ∀ t, In (mrg l) t ↔ In l t := by
  obtain ⟨h1, h2⟩ := merge_ok (l := srt l) (fun p hp => h p ((mem_srt l p).mp hp)) (srt_asc l)
  exact ⟨h1, fun t => (h2 t).trans (in_srt l t)⟩
theorem mrg_len (l : List Rg) : (mrg l).length ≤ l.length := by
  have := merge_len (srt l)
  rwa [srt_len] at this
/-- reports whose times are times -/
def VT (rs : List Rep) : Prop := rs.length ≤ 10 ∧ ∀ r ∈ rs, 0 ≤ r.b ∧ r.b ≤ r.c ∧ r.c ≤ 9999
theorem mem_bds (rs : List Rep) (x : Int) : x ∈ sded (bds rs) ↔ x = 0 ∨ (∃ r ∈ rs, r.b = x) ∨ (∃ r ∈ rs, r.c < 9999 ∧ r.c + 1 = x) := by
  rw [mem_sded, bds]
  simp [or_assoc, and_assoc]
theorem bds_rng {rs : List Rep} (h : VT rs) (x : Int) (hx : x ∈ sded (bds rs)) : 0 ≤ x ∧ x ≤ 9999 := by
  rcases (mem_bds rs x).mp hx with rfl | ⟨r, hr, rfl⟩ | ⟨r, hr, h1, rfl⟩
  · omega
  · have := h.2 r hr; omega
  · have := h.2 r hr; omega
theorem bds_head {rs : List Rep} (h : VT rs) : ∃ r, sded (bds rs) = 0 :: r := by
  have h0 : (0 : Int) ∈ sded (bds rs) := (mem_bds rs 0).mpr (Or.inl rfl)
  have hr := bds_rng h
  have ha := sded_asc (bds rs)
  revert h0 hr ha
  cases sded (bds rs) with
  | nil => intro h0; cases h0
  | cons a r =>
    intro h0 hr ha
    refine ⟨r, ?_⟩
    have h1 := (hr a (by simp)).1
    rcases List.mem_cons.mp h0 with e | e
    · rw [← e]
    · have := (List.pairwise_cons.mp ha).1 0 e; omega
theorem pieces_ok {rs : List Rep} (h : VT rs) : (∀ p ∈ pieces rs, 0 ≤ p.1 ∧ p.1 ≤ p.2 ∧ p.2 ≤ 9999 ∧ ∀ t, p.1 ≤ t → t ≤ p.2 → ∀ r ∈ rs, hits t r = hits p.1 r) ∧ (∀ t, 0 ≤ t → t ≤ 9999 → In (pieces rs) t) ∧ (pieces rs).length ≤ 21 ∧ pieces rs ≠ [] := by
  obtain ⟨i1, i2, i3, i4⟩ := pcs_ok 9999 (sded (bds rs)) (sded_asc _) (fun x hx => (bds_rng h x hx).2)
  obtain ⟨r0, e0⟩ := bds_head h
  have hl := sded_len (bds rs)
  have hb : (bds rs).length ≤ 21 := by
    have hf := List.length_filter_le (fun r : Rep => decide (r.c < 9999)) rs
    have := h.1
    simp [bds]; omega
  refine ⟨fun p hp => ?_, fun t h1 h2 => i4 0 r0 e0 t h1 h2, by rw [pieces, i3]; omega, ?_⟩
  · obtain ⟨j1, j2, j3, j4⟩ := i1 p hp
    refine ⟨(bds_rng h _ j2).1, j1, j3, fun t k1 k2 r hr => ?_⟩
    have h1 := j4 r.b ((mem_bds rs _).mpr (Or.inr (Or.inl ⟨r, hr, rfl⟩)))
    have h2 : r.c < 9999 → r.c + 1 ≤ p.1 ∨ p.2 < r.c + 1 := fun hc => j4 (r.c + 1) ((mem_bds rs _).mpr (Or.inr (Or.inr ⟨r, hr, hc, rfl⟩)))
    rw [Bool.eq_iff_iff]
    simp only [hits, Bool.and_eq_true, decide_eq_true_eq]
    by_cases hc : r.c < 9999
    · have := h2 hc; omega
    · omega
  · intro e
    have := i3
    rw [← pieces, e, e0] at this
    cases this
theorem filter_congr_hits {rs : List Rep} {s t : Int} (h : ∀ r ∈ rs, hits t r = hits s r) : rs.filter (hits t) = rs.filter (hits s) := List.filter_congr h
def twith (rs : List Rep) (m : Int) : List Rg := mrg ((pieces rs).filter fun p => decide (m ≤ (cnt rs p.1 : Int)))
theorem twith_ok {rs : List Rep} (h : VT rs) (m : Int) : (∃ b, Cn b (twith rs m)) ∧ ∀ t, In (twith rs m) t ↔ 0 ≤ t ∧ t ≤ 9999 ∧ m ≤ (cnt rs t : Int) := by
  obtain ⟨p1, p2, p3, _⟩ := pieces_ok h
  obtain ⟨m1, m2⟩ := mrg_ok (l := (pieces rs).filter fun p => decide (m ≤ (cnt rs p.1 : Int))) (fun p hp => (p1 p (List.mem_filter.mp hp).1).2.1)
  refine ⟨m1, fun t => (m2 t).trans ?_⟩
  constructor
  · rintro ⟨p, hp, k1, k2⟩
    obtain ⟨hp, hc⟩ := List.mem_filter.mp hp
    obtain ⟨q1, q2, q3, q4⟩ := p1 p hp
    refine ⟨by omega, by omega, ?_⟩
    rw [cnt, filter_congr_hits (q4 t k1 k2)]
    exact of_decide_eq_true hc
  · rintro ⟨k1, k2, k3⟩
    obtain ⟨p, hp, l1, l2⟩ := p2 t k1 k2
    obtain ⟨q1, q2, q3, q4⟩ := p1 p hp
    refine ⟨p, List.mem_filter.mpr ⟨hp, ?_⟩, l1, l2⟩
    rw [cnt, filter_congr_hits (q4 t l1 l2)] at k3
    exact decide_eq_true k3
theorem twith_len {rs : List Rep} (h : VT rs) (m : Int) : (twith rs m).length ≤ 21 := by
  have h1 := (pieces_ok h).2.2.1
  have h2 := mrg_len ((pieces rs).filter fun p => decide (m ≤ (cnt rs p.1 : Int)))
  have h3 := List.length_filter_le (fun p : Rg => decide (m ≤ (cnt rs p.1 : Int))) (pieces rs)
  rw [twith]; omega
theorem s_times {rs : List Rep} (h : VT rs) (m : Int) : sem_times_with [eRs rs, .int m] = .ok (ePs (twith rs m)) := by
  have h1 := (pieces_ok h).2.2.1
  have h3 := List.length_filter_le (fun p : Rg => decide (m ≤ (cnt rs p.1 : Int))) (pieces rs)
  simp [sem_times_with, s_pieces rs h.1]
  rw [comp_map eP (fun p => decide (m ≤ (cnt rs p.1 : Int))) eP (pieces rs) (fun p _ => ⟨_, rfl, by
    simp [s_right]
    simp [right, cnt], by simp⟩)]
  simp [s_merged _ (show ((pieces rs).filter fun p => decide (m ≤ (cnt rs p.1 : Int))).length ≤ 1000000 by omega)]
  rfl
theorem s_ptimes {rs : List Rep} (h : VT rs) (k : Int) : sem_possible_times [eRs rs, .int k] = .ok (ePs (twith rs (rs.length - k))) := by
  simp [sem_possible_times, s_times h]
def hullO (l : List Rg) : Option Rg := match l.head?, l.getLast? with
  | some p, some q => some (p.1, q.2)
  | _, _ => none
def eH : Option Rg → D
  | some p => eP p
  | none => .none
theorem s_hull (l : List Rg) : sem_hull [ePs l] = .ok (eH (hullO l)) := by
  simp only [sem_hull]
  cases l with
  | nil => simp [hullO, eH]
  | cons p r =>
    have h2 : atI ((p :: r).map eP) (-1) = some (eP ((p :: r).getLast (by simp))) := at_last (by
      rw [List.getLast?_map, List.getLast?_eq_some_getLast (l := p :: r) (by simp)]; rfl)
    simp at h2
    simp [hullO, eH, h2]
    rw [List.getLast?_eq_some_getLast (l := p :: r) (by simp)]
    rfl
/-! the greatest of numbers -/
theorem fmax_ok : ∀ (ns : List Int) (n : Int), (ns.foldl max n = n ∨ ns.foldl max n ∈ ns) ∧ n ≤ ns.foldl max n ∧ ∀ x ∈ ns, x ≤ ns.foldl max n
  | [], n => ⟨Or.inl rfl, Int.le_refl _, by simp⟩
  | m :: ns, n => by
    obtain ⟨h1, h2, h3⟩ := fmax_ok ns (max n m)
    rw [List.foldl_cons]
    refine ⟨?_, by omega, fun x hx => ?_⟩
    · rcases h1 with h1 | h1
      · rw [h1]
        rcases Int.le_total n m with c | c
        · exact Or.inr (by rw [Int.max_eq_right c]; simp)
        · exact Or.inl (Int.max_eq_left c)
      · exact Or.inr (List.mem_cons_of_mem _ h1)
    · rcases List.mem_cons.mp hx with rfl | hx
      · omega
      · exact h3 x hx
theorem fmin_ok : ∀ (ns : List Int) (n : Int), (ns.foldl min n = n ∨ ns.foldl min n ∈ ns) ∧ ns.foldl min n ≤ n ∧ ∀ x ∈ ns, ns.foldl min n ≤ x
  | [], n => ⟨Or.inl rfl, Int.le_refl _, by simp⟩
  | m :: ns, n => by
    obtain ⟨h1, h2, h3⟩ := fmin_ok ns (min n m)
    rw [List.foldl_cons]
    refine ⟨?_, by omega, fun x hx => ?_⟩
    · rcases h1 with h1 | h1
      · rw [h1]
        rcases Int.le_total n m with c | c
        · exact Or.inl (Int.min_eq_left c)
        · exact Or.inr (by rw [Int.min_eq_right c]; simp)
      · exact Or.inr (List.mem_cons_of_mem _ h1)
    · rcases List.mem_cons.mp hx with rfl | hx
      · omega
      · exact h3 x hx
theorem alike_ints (ns : List Int) : alikeOk (ns.map PyData.int) = true := by
  simp only [alikeOk, Bool.and_eq_true, decide_eq_true_eq]
  refine ⟨⟨PySem.W.plainAll_map (α := Int) ns, ?_⟩, Nat.le_trans (PySem.W.depthAll_map (α := Int) ns) (by decide)⟩
  simp [notNone, PySem.W.alike]
theorem max_ints {ns : List Int} (h : ns ≠ []) : ∃ m, maxF [.list (ns.map .int)] = some (.int m) ∧ m ∈ ns ∧ ∀ x ∈ ns, x ≤ m := by
  cases ns with
  | nil => exact absurd rfl h
  | cons n ns =>
    obtain ⟨h1, h2, h3⟩ := fmax_ok ns n
    refine ⟨ns.foldl max n, ?_, ?_, ?_⟩
    · have ha := alike_ints (n :: ns)
      rw [List.map_cons] at ha ⊢
      simp only [maxF, if_pos ha, PySem.W.maxD_ints]
    · rcases h1 with h1 | h1
      · rw [h1]; simp
      · exact List.mem_cons_of_mem _ h1
    · intro x hx
      rcases List.mem_cons.mp hx with rfl | hx
      · exact h2
      · exact h3 x hx
theorem min_ints {ns : List Int} (h : ns ≠ []) : ∃ m, minF [.list (ns.map .int)] = some (.int m) ∧ m ∈ ns ∧ ∀ x ∈ ns, m ≤ x := by
  cases ns with
  | nil => exact absurd rfl h
  | cons n ns =>
    obtain ⟨h1, h2, h3⟩ := fmin_ok ns n
    refine ⟨ns.foldl min n, ?_, ?_, ?_⟩
    · have ha := alike_ints (n :: ns)
      rw [List.map_cons] at ha ⊢
      simp only [minF, if_pos ha, PySem.W.minD_ints]
    · rcases h1 with h1 | h1
      · rw [h1]; simp
      · exact List.mem_cons_of_mem _ h1
    · intro x hx
      rcases List.mem_cons.mp hx with rfl | hx
      · exact h2
      · exact h3 x hx
theorem s_most {rs : List Rep} (h : VT rs) : ∃ m : Nat, sem_most_together [eRs rs] = .ok (.int m) ∧ (∃ t, 0 ≤ t ∧ t ≤ 9999 ∧ cnt rs t = m) ∧ ∀ t, 0 ≤ t → t ≤ 9999 → cnt rs t ≤ m := by
  obtain ⟨p1, p2, p3, p4⟩ := pieces_ok h
  obtain ⟨m, e, hm, hu⟩ := max_ints (ns := (pieces rs).map fun p => (cnt rs p.1 : Int)) (by simpa using p4)
  obtain ⟨p, hp, rfl⟩ := List.mem_map.mp hm
  refine ⟨cnt rs p.1, ?_, ⟨p.1, (p1 p hp).1, by have := (p1 p hp).2; omega, rfl⟩, fun t k1 k2 => ?_⟩
  · simp [sem_most_together, s_pieces rs h.1]
    rw [comp_all eP (fun p => .int (cnt rs p.1)) (pieces rs) (fun p _ => ⟨_, rfl, by
      simp [s_right]
      simp [right, cnt]⟩)]
    simp [Function.comp_def] at e
    simp [e]
  · obtain ⟨q, hq, l1, l2⟩ := p2 t k1 k2
    have := hu (cnt rs q.1) (List.mem_map.mpr ⟨q, hq, rfl⟩)
    rw [cnt, filter_congr_hits ((p1 q hq).2.2.2 t l1 l2)]
    rw [← cnt]
    omega
end PV

namespace PV
open PySem PySem.Spec L2
theorem while_ok {t : SE → R Bool} {body : SE → O} (Inv : Nat → SE → Prop) (Fin : SE → Prop)
    (hs : ∀ n ρ, Inv n ρ → (t ρ = .ok false ∧ Fin ρ) ∨ (t ρ = .ok true ∧ ∃ n' ρ2, n' < n ∧ body ρ = .nx ρ2 ∧ Inv n' ρ2)) : ∀ (fuel n : Nat) (ρ : SE), Inv n ρ → n < fuel → ∃ ρ', whileS t body fuel ρ = .nx ρ' ∧ Fin ρ'
  | 0, _, _, _, h => absurd h (Nat.not_lt_zero _)
  | fuel + 1, n, ρ, i, h => by
    rcases hs n ρ i with ⟨e, f⟩ | ⟨e, n', ρ2, k1, k2, k3⟩
    · exact ⟨ρ, by rw [whileS, e]; rfl, f⟩
    · obtain ⟨ρ', e2, f⟩ := while_ok Inv Fin hs fuel n' ρ2 k3 (by omega)
      exact ⟨ρ', by rw [whileS, e]; simp only [q_on, if_true, k2, e2], f⟩
theorem sat_while {t : SE → R Bool} {body g : SE → O} {P : O → Prop} {fuel : Nat} {ρ : SE} (n : Nat) (Inv : Nat → SE → Prop) (Fin : SE → Prop) (h0 : Inv n ρ) (hn : n < fuel)
    (hs : ∀ n ρ, Inv n ρ → (t ρ = .ok false ∧ Fin ρ) ∨ (t ρ = .ok true ∧ ∃ n' ρ2, n' < n ∧ body ρ = .nx ρ2 ∧ Inv n' ρ2)) (hk : ∀ ρ', Fin ρ' → Sat P (g ρ')) : Sat P (S.thn (whileS t body fuel ρ) g) := by
  obtain ⟨ρ', e, f⟩ := while_ok Inv Fin hs fuel n ρ h0 hn
  rw [e]
  exact hk ρ' f
@[simp] theorem scr_ne (ns : List Int) : neD (scr (ns.map .int)) (.list []) = some (.bool (!decide (ns = []))) := neD_nil (α := Int) ns
theorem at_int {ns : List Int} {i : Int} (h0 : 0 ≤ i) (h1 : i < ns.length) : ∃ c, atI (ns.map PyData.int) i = some (.int c) := by
  have : i.toNat < ns.length := by omega
  exact ⟨ns[i.toNat], atI_some h0 (by simp [this])⟩
def isPick (many : Int) : O → Prop := fun o => ∃ v : Int, 0 ≤ v ∧ v < many ∧ o.run = .ok (.int v)
theorem pick_ex (ns : List Int) (k many : Int) (hl : ns.length ≤ 63) (hk : 0 ≤ k) (hk2 : k < 19999) (hm : 0 < many) : ∃ v : Int, 0 ≤ v ∧ v < many ∧ sem__law_pick [scr (ns.map .int), .int k, .int many] = .ok (.int v) := by
  have hcell : ∃ c : Int, E.ite (T.of (E.op2 neD (E.var 0) (E.lst (A.nil)))) (E.op2 ixD (E.var 0) (E.op2 modD (E.var 1) (E.bi lenF (A.cons (E.var 0) (A.nil))))) (E.con (.int 0))
      [some (scr (ns.map .int)), some (.int k), some (.int many), none, none, none, none] = .ok (.int c) := by
    by_cases h : ns = []
    · have e : neD (scr []) (.list []) = some (.bool false) := scr_ne []
      exact ⟨0, by simp [h, e]⟩
    · have hp : 0 < ns.length := List.length_pos_iff.mpr h
      obtain ⟨c, e⟩ := at_int (ns := ns) (i := k % (ns.length : Int)) (Int.emod_nonneg _ (by omega)) (Int.emod_lt_of_pos _ (by omega))
      exact ⟨c, by simp [h, o_mod k (ns.length : Int) (by omega), e]⟩
  obtain ⟨c, hc⟩ := hcell
  have hq : k / max (ns.length : Int) 1 ≤ k := Int.ediv_le_self _ hk
  simp only [sem__law_pick, q_fn3, q_seq, q_set, q_mv, q_repS, q_rep0, q_vals1, q_vals0, q_bv, q_bu, hc, q_on]
  have hp : powD (.int 10) (.int 18) = some (.int 1000000000000000000) := by
    simp only [powD]; rw [if_pos (by decide)]; rfl
  simp [hp, o_fdiv c 1000000000000000000 (by decide) (by decide), o_fdiv k (max (ns.length : Int) 1) (by omega) (by omega)]
  show Sat (isPick many) _
  refine sat_while (k / max (ns.length : Int) 1).toNat (fun n ρ => ∃ x y : Int, ρ = [.val (scr (ns.map .int)), .val (.int k), .val (.int many), .val (.int c), .val (.int x), .val (.int y), .un] ∧ n = y.toNat)
    (fun ρ => ∃ x y : Int, ρ = [.val (scr (ns.map .int)), .val (.int k), .val (.int many), .val (.int c), .val (.int x), .val (.int y), .un]) ⟨_, _, rfl, rfl⟩ (by omega) ?_ ?_
  · rintro n ρ ⟨x, y, rfl, rfl⟩
    by_cases h1 : 0 < x
    · by_cases h2 : 0 < y
      · refine Or.inr ⟨by simp [h1, h2], (y - 1).toNat, _, by omega, ?_, ⟨x / 840, y - 1, rfl, rfl⟩⟩
        simp [o_fdiv x 840 (by decide) (by decide)]
      · exact Or.inl ⟨by simp [h1, h2], x, y, rfl⟩
    · exact Or.inl ⟨by simp [h1], x, y, rfl⟩
  · rintro ρ' ⟨x, y, rfl⟩
    by_cases h1 : 0 < x
    · refine ⟨x % 840 % many, Int.emod_nonneg _ (by omega), Int.emod_lt_of_pos _ hm, ?_⟩
      simp [h1, o_mod _ 840 (by decide), o_mod _ many hm]
    · have b1 : 0 ≤ ((c * 31 + 6151 * (k + 1)) * 40692) % 2147483399 := Int.emod_nonneg _ (by decide)
      have b2 : ((c * 31 + 6151 * (k + 1)) * 40692) % 2147483399 < 2147483399 := Int.emod_lt_of_pos _ (by decide)
      have e1 := o_mul2 c 31 (by decide)
      have e2 := o_mul1 6151 (k + 1) (by decide)
      have e3 := o_mul2 (c * 31 + 6151 * (k + 1)) 40692 (by decide)
      have e4 := o_mod ((c * 31 + 6151 * (k + 1)) * 40692) 2147483399 (by decide)
      generalize ((c * 31 + 6151 * (k + 1)) * 40692) % 2147483399 = w at *
      have e5 := o_mul1 w w (by omega)
      refine ⟨(w * w + w / 31) % 2147483629 % many, Int.emod_nonneg _ (by omega), Int.emod_lt_of_pos _ hm, ?_⟩
      simp [h1, e1, e2, e3, e4, e5, o_fdiv w 31 (by decide) (by decide), o_mod _ 2147483629 (by decide), o_mod _ many hm]
/-- what is drawn -/
noncomputable def pk (ns : List Int) (k many : Int) : Int := match sem__law_pick [scr (ns.map .int), .int k, .int many] with
  | .ok (.int v) => v
  | _ => 0
theorem pk_eq {ns : List Int} {k many : Int} (hl : ns.length ≤ 63) (hk : 0 ≤ k) (hk2 : k < 19999) (hm : 0 < many) : sem__law_pick [scr (ns.map .int), .int k, .int many] = .ok (.int (pk ns k many)) ∧ 0 ≤ pk ns k many ∧ pk ns k many < many := by
  obtain ⟨v, h1, h2, e⟩ := pick_ex ns k many hl hk hk2 hm
  have : pk ns k many = v := by rw [pk, e]
  rw [this]
  exact ⟨e, h1, h2⟩
/-! the laws' own reports -/
def letter (i : Nat) : Str := ⟨#[97 + i]⟩
theorem letters_at {i : Nat} (h : i < 10) : ixD (.str "abcdefghij") (.int i) = some (.str (letter i)) := by
  rcases i with _|_|_|_|_|_|_|_|_|_|i
  all_goals first | rfl | omega
/-- reports as the laws draw them -/
structure Drawn (rs : List Rep) (most : Nat) : Prop where
  len : rs.length ≤ most
  nam : ∀ (i : Nat) r, rs[i]? = some r → r.a = letter i
  tim : ∀ r ∈ rs, 0 ≤ r.b ∧ r.b ≤ r.c ∧ r.c ≤ 9999
  gap : ∀ r ∈ rs, (r.b < 20 ∨ 9965 ≤ r.b) ∧ (r.c < 37 ∨ 9960 ≤ r.c)
theorem s_lawreps {ns : List Int} (hl : ns.length ≤ 63) (place most : Int) (h0 : 0 ≤ place) (h1 : place < 1000) (hm : 0 ≤ most) (hm2 : most ≤ 10) :
    ∃ rs, sem__law_reports [scr (ns.map .int), .int place, .int most] = .ok (eRs rs) ∧ Drawn rs most.toNat := by
  obtain ⟨e0, n0, n1⟩ := pk_eq hl h0 (by omega) (show 0 < most + 1 by omega)
  simp [sem__law_reports, e0, I.r1]
  rw [if_pos (by omega)]
  generalize pk ns place (most + 1) = n at *
  show Sat (fun o => ∃ rs, o.run = .ok (eRs rs) ∧ Drawn rs most.toNat) _
  simp only [q_on]
  refine sat_range (fun i ρ => ∃ rs u4 u5 u6 u7 u8, ρ = [.val (scr (ns.map .int)), .val (.int place), .val (.int most), .own (rs.map eR), u4, u5, u6, u7, u8] ∧ rs.length = i ∧ Drawn rs most.toNat) ?_ ?_ ?_
  · exact ⟨[], _, _, _, _, _, rfl, rfl, ⟨Nat.zero_le _, by simp, by simp, by simp⟩⟩
  · rintro i ρ hi ⟨rs, u4, u5, u6, u7, u8, rfl, hlen, hd⟩
    refine ⟨_, rfl, ?_⟩
    have hi2 : (i : Int) < n := by omega
    obtain ⟨f1, a1, b1⟩ := pk_eq (k := place + 1 + 4 * (0 + (i : Int))) hl (by omega) (by omega) (show (0:Int) < 20 by decide)
    obtain ⟨f2, a2, b2⟩ := pk_eq (k := place + 1 + 4 * (0 + (i : Int)) + 2) hl (by omega) (by omega) (show (0:Int) < 3 by decide)
    obtain ⟨f3, a3, b3⟩ := pk_eq (k := place + 1 + 4 * (0 + (i : Int)) + 3) hl (by omega) (by omega) (show (0:Int) < 12 by decide)
    have hw : ∃ w, atI [PyData.int 2, .int 9, .int 18] (pk ns (place + 1 + 4 * (0 + (i : Int)) + 2) 3) = some (.int w) ∧ 0 < w ∧ w ≤ 18 := by
      generalize pk ns (place + 1 + 4 * (0 + (i : Int)) + 2) 3 = j at *
      have : j = 0 ∨ j = 1 ∨ j = 2 := by omega
      rcases this with rfl | rfl | rfl
      · exact ⟨2, rfl, by decide, by decide⟩
      · exact ⟨9, rfl, by decide, by decide⟩
      · exact ⟨18, rfl, by decide, by decide⟩
    obtain ⟨w, ew, w0, w1⟩ := hw
    obtain ⟨f4, a4, b4⟩ := pk_eq (k := place + 1 + 4 * (0 + (i : Int)) + 1) hl (by omega) (by omega) w0
    have eL := letters_at (i := i) (by omega)
    have hlen2 : rs.length < 16777216 := by omega
    generalize pk ns (place + 1 + 4 * (0 + (i : Int))) 20 = lo at *
    generalize pk ns (place + 1 + 4 * (0 + (i : Int)) + 2) 3 = j at *
    generalize pk ns (place + 1 + 4 * (0 + (i : Int)) + 3) 12 = kind at *
    generalize pk ns (place + 1 + 4 * (0 + (i : Int)) + 1) w = wd at *
    have fin : ∀ (lo hi : Int) u5 u6 u7 u8, 0 ≤ lo → lo ≤ hi → hi ≤ 9999 → (lo < 20 ∨ 9965 ≤ lo) → (hi < 37 ∨ 9960 ≤ hi) →
        Sat (isNx fun ρ => ∃ rs u4 u5 u6 u7 u8, ρ = [.val (scr (ns.map .int)), .val (.int place), .val (.int most), .own (rs.map eR), u4, u5, u6, u7, u8] ∧ rs.length = i + 1 ∧ Drawn rs most.toNat)
          (.nx [.val (scr (ns.map .int)), .val (.int place), .val (.int most), .own (rs.map eR ++ [.tuple [.str (letter i), .int lo, .int hi]]), .val (.int i), u5, u6, u7, u8]) := by
      intro lo hi u5 u6 u7 u8 h1 h2 h3 h4 h5
      refine sat_nx ⟨rs ++ [⟨letter i, lo, hi⟩], _, _, _, _, _, by rw [List.map_append]; rfl, by simp [hlen], ⟨by simp; omega, ?_, ?_, ?_⟩⟩
      · intro j r hj
        rcases Nat.lt_or_ge j rs.length with c | c
        · rw [List.getElem?_append_left c] at hj
          exact hd.nam j r hj
        · rw [List.getElem?_append_right c, hlen] at hj
          cases hji : j - i with
          | zero =>
            rw [hji] at hj
            cases hj
            rw [show j = i by omega]
          | succ m => rw [hji] at hj; cases hj
      · intro r hr
        rcases List.mem_append.mp hr with hr | hr
        · exact hd.tim r hr
        · rw [List.mem_singleton] at hr; subst hr; exact ⟨h1, h2, h3⟩
      · intro r hr
        rcases List.mem_append.mp hr with hr | hr
        · exact hd.gap r hr
        · rw [List.mem_singleton] at hr; subst hr; exact ⟨h4, h5⟩
    have mul : mulD (.int 4) (.int (i : Int)) = some (.int (4 * (i : Int))) := o_mul1 _ _ (by decide)
    simp only [Int.zero_add] at *
    by_cases k0 : kind = 0
    · simp [mul, f1, f2, ew, f4, f3, k0, eL, hlen2]
      refine fin _ _ _ _ _ _ ?_ ?_ ?_ ?_ ?_ <;> omega
    · by_cases k1 : kind = 1
      · simp [mul, f1, f2, ew, f4, f3, k1, eL, hlen2]
        refine fin _ _ _ _ _ _ ?_ ?_ ?_ ?_ ?_ <;> omega
      · simp [mul, f1, f2, ew, f4, f3, k0, k1, eL, hlen2]
        refine fin _ _ _ _ _ _ ?_ ?_ ?_ ?_ ?_ <;> omega
  · rintro ρ' ⟨rs, u4, u5, u6, u7, u8, rfl, hlen, hd⟩
    exact ⟨rs, by simp, hd⟩
end PV

namespace PV
open PySem PySem.Spec L2
/-! valid reports -/
def nameOk (s : Str) : Prop := sem_is_name [.str s] = .ok (.bool true)
theorem name_letter {i : Nat} (h : i < 10) : nameOk (letter i) := by
  rcases i with _|_|_|_|_|_|_|_|_|_|i
  all_goals first | rfl | omega
def nlt (a b : Str) : Prop := ltD (.str a) (.str b) = some (.bool true)
theorem cmp_str (a b : Str) : cmpOk (.str a) (.str b) = true := by
  simp [cmpOk, okD, PyData.plain, PySem.W.alike, notNone, PyData.depth]
theorem lt_str (a b : Str) : ltD (.str a) (.str b) = some (.bool (decide (a.cps.toList < b.cps.toList))) := by
  simp only [ltD]
  rw [if_pos (cmp_str a b), PySem.W.dataLt_str]
theorem nlt_letter (i : Nat) : nlt (letter i) (letter (i + 1)) := by
  rw [nlt, lt_str]
  simp only [letter]
  exact congrArg (fun b => some (PyData.bool b)) (decide_eq_true (List.Lex.rel (show 97 + i < 97 + (i + 1) by omega)))
/-- reports of [0.4] -/
structure VR (rs : List Rep) : Prop where
  vt : VT rs
  nam : ∀ r ∈ rs, nameOk r.a
  asc : ∀ (i : Nat) r s, rs[i]? = some r → rs[i + 1]? = some s → nlt r.a s.a
theorem Drawn.vr {rs : List Rep} {m : Nat} (h : Drawn rs m) (hm : m ≤ 10) : VR rs := by
  refine ⟨⟨by have := h.len; omega, h.tim⟩, fun r hr => ?_, fun i r s h1 h2 => ?_⟩
  · obtain ⟨i, hi, e⟩ := List.getElem_of_mem hr
    rw [h.nam i r (by rw [List.getElem?_eq_getElem hi, e])]
    exact name_letter (by have := h.len; omega)
  · rw [h.nam i r h1, h.nam (i + 1) s h2]
    exact nlt_letter i
@[simp] theorem isi_tup (ds : List D) (h : PyData.plainAll ds = true) : isiD "tuple" (.tuple ds) = some (.bool true) := by
  simp [isiD, unscr, PyData.plain, h, PyData.isTuple]
@[simp] theorem isi_list (ds : List D) (h : PyData.plainAll ds = true) : isiD "tuple" (.list ds) = some (.bool false) := by
  simp [isiD, unscr, PyData.plain, h, PyData.isTuple]
@[simp] theorem isi_int (i : Int) : isiD "int" (.int i) = some (.bool true) := rfl
@[simp] theorem isi_intb (i : Int) : isiD "bool" (.int i) = some (.bool false) := rfl
theorem s_isint (i : Int) : sem_is_integer [.int i] = .ok (.bool true) := by simp [sem_is_integer]
theorem s_istime (i : Int) : sem_is_time [.int i] = .ok (.bool (decide (0 ≤ i ∧ i ≤ 9999))) := by
  simp [sem_is_time, s_isint]
  by_cases h : 0 ≤ i <;> simp [h]
theorem s_isrep {r : Rep} (h : 0 ≤ r.b ∧ r.b ≤ r.c ∧ r.c ≤ 9999) (hn : nameOk r.a) : sem_is_report [eR r] = .ok (.bool true) := by
  have h1 : isiD "tuple" (eR r) = some (.bool true) := rfl
  have h2 : lenF [eR r] = some (.int 3) := rfl
  rw [nameOk] at hn
  simp [sem_is_report, h1, h2, hn, s_istime, h]
  rw [if_pos (by omega), if_pos (by omega)]
  simp
theorem plain_reps (rs : List Rep) : PyData.plainAll (rs.map eR) = true := PySem.W.plainAll_map (α := Rep) rs
theorem zip_next {α : Type} : ∀ (l : List α) (p : α × α), p ∈ l.zip (l.drop 1) → ∃ i : Nat, l[i]? = some p.1 ∧ l[i + 1]? = some p.2
  | [], p, h => by simp at h
  | [a], p, h => by simp at h
  | a :: b :: r, p, h => by
    simp only [List.drop_one, List.tail_cons, List.zip_cons_cons, List.mem_cons] at h
    rcases h with rfl | h
    · exact ⟨0, rfl, rfl⟩
    · obtain ⟨i, h1, h2⟩ := zip_next (b :: r) p (by simpa using h)
      exact ⟨i + 1, by simpa using h1, by simpa using h2⟩
theorem s_arereps {rs : List Rep} (h : VR rs) : sem_are_reports [eRs rs] = .ok (.bool true) := by
  have hl := h.vt.1
  have hp := plain_reps rs
  simp [sem_are_reports, hp]
  rw [if_neg (by omega)]
  simp
  rw [comp_all eR (fun _ => .bool true) rs (fun r hr => ⟨_, rfl, by simp [s_isrep (h.vt.2 r hr) (h.nam r hr)]⟩)]
  rw [q_bok, q_bok, q_bok, o_allm (fun _ => true) rs]
  simp [s_sources, sliceD, cut1]
  have e : zipL (rs.map fun r => .str r.a) (((rs.map fun r => PyData.str r.a)).tail) = (rs.zip (rs.drop 1)).map fun p => .tuple [.str p.1.a, .str p.2.a] := by
    rw [← List.map_tail, zipL, List.zipWith_map, List.zip, List.map_zipWith, List.drop_one]
  rw [e, comp_all (fun p : Rep × Rep => .tuple [.str p.1.a, .str p.2.a]) (fun _ => .bool true) _ (fun p hp => ⟨_, rfl, by
    obtain ⟨i, h1, h2⟩ := zip_next rs p hp
    have := h.asc i _ _ h1 h2
    rw [nlt] at this
    simp [this]⟩)]
  rw [q_bok, q_bok, q_bok, o_allm (fun _ => true)]
  simp
theorem s_check {rs : List Rep} (h : VR rs) : sem_check_reports [eRs rs] = .ok .none := by simp [sem_check_reports, s_arereps h]
theorem s_chkliars {k : Int} (h0 : 0 ≤ k) (h1 : k ≤ 10) : sem_check_liars [.int k] = .ok .none := by simp [sem_check_liars, s_isint, h0, h1]
theorem s_possible {rs : List Rep} (h : VR rs) {k : Int} (h0 : 0 ≤ k) (h1 : k ≤ 10) : sem_possible [eRs rs, .int k] = .ok (ePs (twith rs (rs.length - k))) := by
  simp [sem_possible, s_check h, s_chkliars h0 h1, s_ptimes h.vt]
theorem s_agreed {rs : List Rep} (h : VR rs) {k : Int} (h0 : 0 ≤ k) (h1 : k ≤ 10) : sem_agreed [eRs rs, .int k] = .ok (eH (hullO (twith rs (rs.length - k)))) := by
  simp [sem_agreed, s_check h, s_chkliars h0 h1, s_ptimes h.vt, s_hull]
end PV

/-! Q6: the laws' own helpers -/
namespace PV
open PySem PySem.Spec L2
def rgI (lo : Int) (n : Nat) : List Int := (List.range n).map fun i => lo + ((i : Nat) : Int)
theorem range_ints (lo : Int) (n : Nat) : rangeL lo n = (rgI lo n).map .int := by simp [rangeL, rgI]
theorem mem_rgI (lo : Int) (n : Nat) (x : Int) : x ∈ rgI lo n ↔ lo ≤ x ∧ x < lo + n := by
  simp only [rgI, List.mem_map, List.mem_range]
  constructor
  · rintro ⟨i, h, rfl⟩; omega
  · rintro ⟨h1, h2⟩; exact ⟨(x - lo).toNat, by omega, by omega⟩
theorem rgI_succ (lo : Int) (n : Nat) : rgI lo (n + 1) = lo :: rgI (lo + 1) n := by
  simp only [rgI, List.range_succ_eq_map, List.map_cons, List.map_map]
  congr 1
  · simp
  · apply List.map_congr_left
    intro i _
    simp only [Function.comp]
    omega
def tms : List Int := rgI 0 46 ++ rgI 9950 50
theorem s_lawtimes : sem__law_times [] = .ok (.list (tms.map .int)) := by
  simp [sem__law_times, E.rg1, E.rg2]
  rw [o_addl _ _ (by simp [rangeL])]
  simp [tms, range_ints]
theorem s_lawright (rs : List Rep) (t : Int) (h : rs.length ≤ 1000) : sem__law_right [eRs rs, .int t] = .ok (.list ((right rs t).map .str)) := by
  simp [sem__law_right]
  refine sat_run ?_
  refine sat_loop eR (fun pre ρ => ∃ u3 u4 u5, ρ = [.val (eRs rs), .val (.int t), .own ((right pre t).map .str), u3, u4, u5]) rs rfl ⟨_, _, _, rfl⟩ ?_ ?_
  · rintro p x q ρ e ⟨u3, u4, u5, rfl⟩
    refine ⟨_, rfl, ?_⟩
    have hl : (right p t).length < 16777216 := by
      have h1 := List.length_filter_le (hits t) p
      have h2 := congrArg List.length e
      simp at h2
      simp [right]; omega
    have hs : right (p ++ [x]) t = if hits t x = true then right p t ++ [x.a] else right p t := by
      simp only [right, List.filter_append, List.map_append]
      by_cases c : hits t x = true
      · rw [if_pos c, List.filter_cons_of_pos c]; rfl
      · rw [if_neg c, List.filter_cons_of_neg c]; simp
    rw [hs]
    by_cases c1 : x.b ≤ t
    · by_cases c2 : t ≤ x.c
      · rw [if_pos (by simp [hits, c1, c2])]
        simp [c1, c2, hl]
        exact sat_nx ⟨_, _, _, by rw [List.map_append]; rfl⟩
      · rw [if_neg (by simp [hits, c1, c2])]
        simp [c1, c2, hl]
        exact sat_nx ⟨_, _, _, rfl⟩
    · rw [if_neg (by simp [hits, c1])]
      simp [c1]
      exact sat_nx ⟨_, _, _, rfl⟩
  · rintro ρ' ⟨u3, u4, u5, rfl⟩
    simp [Sat]
def eO : Option Int → D
  | some b => .int b
  | none => .none
theorem drop_cons {α : Type} {l : List α} {i : Nat} (h : i < l.length) : l.drop i = l[i] :: l.drop (i + 1) := by simp
theorem s_lawranges (P : Int → Bool) (ts : List Int) (h : ts.length ≤ 10000) : sem__law_ranges [.list (ts.map .int), .list ((ts.map P).map .bool)] = .ok (ePs (rgo P none ts)) := by
  simp [sem__law_ranges, I.r1]
  rw [if_pos (by omega)]
  simp only [q_on, Int.toNat_natCast]
  refine sat_run ?_
  refine sat_range (fun i ρ => ∃ acc bg u4, ρ = [.val (.list (ts.map .int)), .val (.list ((ts.map P).map .bool)), .own (acc.map eP), .val (eO bg), u4] ∧ acc ++ rgo P bg (ts.drop i) = rgo P none ts ∧ acc.length ≤ i) ?_ ?_ ?_
  · refine ⟨[], none, _, by simp [eO]; rfl, by simp, by simp⟩
  · rintro i ρ hi ⟨acc, bg, u4, rfl, hacc, hlen⟩
    refine ⟨_, rfl, ?_⟩
    rw [drop_cons hi] at hacc
    have e1 : atI (ts.map PyData.int) (i : Int) = some (.int ts[i]) := L2.atI_nat (by simp [hi])
    have e2 : atI ((ts.map P).map PyData.bool) (i : Int) = some (.bool (P ts[i])) := L2.atI_nat (by simp [hi])
    have hl2 : acc.length < 16777216 := by omega
    generalize ts[i] = t at *
    -- what the second test says
    have e3 : ∀ (bg : Option Int), rgo P bg (t :: ts.drop (i + 1)) = match (if P t = true ∧ bg = none then some t else bg) with
        | none => rgo P none (ts.drop (i + 1))
        | some b => if (i : Int) + 1 = ts.length ∨ (∃ h : i + 1 < ts.length, P (ts[i + 1]) = false) then (b, t) :: rgo P none (ts.drop (i + 1)) else rgo P (some b) (ts.drop (i + 1)) := by
      intro bg
      by_cases c : i + 1 < ts.length
      · rw [drop_cons c, rgo]
        generalize (if P t = true ∧ bg = none then some t else bg) = bb
        have : ¬ (i : Int) + 1 = ts.length := by omega
        cases bb with
        | none => rfl
        | some b =>
          by_cases c2 : P ts[i + 1] = true
          · simp [this, c, c2]
          · simp [this, c, c2]
      · have : (i : Int) + 1 = ts.length := by omega
        rw [List.drop_of_length_le (by omega), rgo.eq_def]
        simp only
        generalize (if P t = true ∧ bg = none then some t else bg) = bb
        cases bb with
        | none => rfl
        | some b => simp [this, rgo]
    have e4 : ∀ h : i + 1 < ts.length, atI ((ts.map P).map PyData.bool) ((i : Int) + 1) = some (.bool (P ts[i + 1])) := fun h => by
      have := L2.atI_nat (xs := (ts.map P).map PyData.bool) (j := i + 1) (v := .bool (P ts[i + 1])) (by simp [h])
      simpa using this
    rw [e3] at hacc
    simp only [Int.zero_add]
    -- with begun = b
    have fin : ∀ b, acc ++ (if (i : Int) + 1 = ts.length ∨ (∃ h : i + 1 < ts.length, P (ts[i + 1]) = false) then (b, t) :: rgo P none (ts.drop (i + 1)) else rgo P (some b) (ts.drop (i + 1))) = rgo P none ts → Sat (isNx fun ρ => ∃ acc bg u4, ρ = [.val (.list (ts.map .int)), .val (.list ((ts.map P).map .bool)), .own (acc.map eP), .val (eO bg), u4] ∧ acc ++ rgo P bg (ts.drop (i + 1)) = rgo P none ts ∧ acc.length ≤ i + 1)
        (S.ite (M.v (T.and (T.of (E.op2 isNotD (E.var 3) (E.con .none))) (T.or (T.of (E.op2 eqD (E.op2 addD (E.var 4) (E.con (.int 1))) (E.bi lenF (A.cons (E.var 0) (A.nil))))) (T.not (T.of (E.op2 ixD (E.var 1) (E.op2 addD (E.var 4) (E.con (.int 1)))))))))
    (S.seq (S.append 2 (M.v (E.tup (A.cons (E.var 3) (A.cons (E.op2 ixD (E.var 0) (E.var 4)) (A.nil))))))
    (S.set 3 (M.v (E.con .none))))
    (S.skip) [.val (.list (ts.map .int)), .val (.list ((ts.map P).map .bool)), .own (acc.map eP), .val (.int b), .val (.int i)]) := by
      intro b hb
      have close : acc ++ (b, t) :: rgo P none (ts.drop (i + 1)) = rgo P none ts → Sat (isNx fun ρ => ∃ acc bg u4, ρ = [.val (.list (ts.map .int)), .val (.list ((ts.map P).map .bool)), .own (acc.map eP), .val (eO bg), u4] ∧ acc ++ rgo P bg (ts.drop (i + 1)) = rgo P none ts ∧ acc.length ≤ i + 1)
          (.nx [.val (.list (ts.map .int)), .val (.list ((ts.map P).map .bool)), .own (acc.map eP ++ [.tuple [.int b, .int t]]), .val .none, .val (.int i)]) := fun h =>
        sat_nx ⟨acc ++ [(b, t)], none, _, by rw [List.map_append]; rfl, by simpa using h, by simp; omega⟩
      by_cases c : (i : Int) + 1 = ts.length
      · rw [if_pos (Or.inl c)] at hb
        have := close hb
        generalize ((ts.map P).map PyData.bool) = G at *
        generalize hT : (ts.map PyData.int) = T at *
        have hT2 : T.length = ts.length := by rw [← hT]; simp
        simp [c, e1, hl2, hT2]
        exact this
      · have c' : i + 1 < ts.length := by omega
        have e4' := e4 c'
        by_cases c2 : P ts[i + 1] = true
        · rw [if_neg (by simp [c, c2])] at hb
          generalize ((ts.map P).map PyData.bool) = G at *
          generalize hT : (ts.map PyData.int) = T at *
          have hT2 : T.length = ts.length := by rw [← hT]; simp
          simp [c, e4', c2, hT2]
          exact sat_nx ⟨acc, some b, _, rfl, hb, by omega⟩
        · rw [if_pos (Or.inr ⟨c', by simpa using c2⟩)] at hb
          have := close hb
          generalize ((ts.map P).map PyData.bool) = G at *
          generalize hT : (ts.map PyData.int) = T at *
          have hT2 : T.length = ts.length := by rw [← hT]; simp
          simp [c, e4', c2, e1, hl2, hT2]
          exact this
    cases bg with
    | some b =>
      rw [if_neg (by simp)] at hacc
      refine sat_seq ?_ (fin b hacc)
      generalize ((ts.map P).map PyData.bool) = G at *
      by_cases c : P t = true
      · simp [eO, e2, c]
      · simp [eO, e2, c]
    | none =>
      by_cases c : P t = true
      · rw [if_pos ⟨c, rfl⟩] at hacc
        refine sat_seq ?_ (fin t hacc)
        generalize ((ts.map P).map PyData.bool) = G at *
        simp [eO, e2, e1, c]
      · rw [if_neg (by simp [c])] at hacc
        generalize ((ts.map P).map PyData.bool) = G at *
        simp [eO, e2, c]
        exact sat_nx ⟨acc, none, _, rfl, hacc, by omega⟩
  · rintro ρ' ⟨acc, bg, u4, rfl, hacc, hlen⟩
    rw [List.drop_of_length_le (Nat.le_refl _)] at hacc
    simp [rgo] at hacc
    simp [Sat, hacc]
theorem s_lawhull (l : List Rg) : sem__law_hull [ePs l] = .ok (eH (hullO l)) := s_hull l
/-! the times of the laws serve for all times -/
theorem dense_step (P : Int → Bool) : ∀ (n : Nat) (a : Int) (r : List Int), Dense P r → (∀ b s, r = b :: s → a + n ≤ b ∧ (∀ x, a + n - 1 ≤ x → x ≤ b → b ≠ a + n → P x = P (a + n - 1))) → Dense P (rgI a n ++ r)
  | 0, a, r, h, _ => by simpa [rgI] using h
  | n + 1, a, r, h, hj => by
    have ih := dense_step P n (a + 1) r h (fun b s e => by
      obtain ⟨h1, h2⟩ := hj b s e
      exact ⟨by omega, fun x k1 k2 k3 => by
        rw [show a + 1 + (n : Int) - 1 = a + ((n + 1 : Nat) : Int) - 1 by omega]
        exact h2 x (by omega) k2 (by omega)⟩)
    rw [rgI_succ, List.cons_append]
    cases n with
    | zero =>
      simp only [rgI, List.range_zero, List.map_nil, List.nil_append] at ih ⊢
      cases r with
      | nil => trivial
      | cons b s =>
        obtain ⟨h1, h2⟩ := hj b s rfl
        exact ⟨by omega, fun x k1 k2 k3 => by
          have := h2 x (by omega) k2 (by omega)
          rw [this]; congr 1; omega, ih⟩
    | succ m =>
      rw [rgI_succ, List.cons_append] at ih ⊢
      exact ⟨by omega, fun x k1 k2 k3 => absurd rfl k3, ih⟩
theorem dense_tms (P : Int → Bool) (h : ∀ x, 45 ≤ x → x ≤ 9950 → P x = P 45) : Dense P tms := by
  refine dense_step P 46 0 _ ?_ ?_
  · have := dense_step P 50 9950 [] trivial (fun b s e => by cases e)
    simpa using this
  · intro b s e
    rw [rgI_succ] at e
    cases e
    exact ⟨by omega, fun x k1 k2 _ => h x (by omega) (by omega)⟩
theorem drawn_const {rs : List Rep} {m : Nat} (h : Drawn rs m) {x : Int} (h1 : 37 ≤ x) (h2 : x < 9960) : cnt rs x = cnt rs 45 := by
  rw [cnt, filter_congr_hits (s := 45)]
  · rfl
  · intro r hr
    obtain ⟨g1, g2⟩ := h.gap r hr
    rw [Bool.eq_iff_iff]
    simp only [hits, Bool.and_eq_true, decide_eq_true_eq]
    omega
theorem law_due {rs : List Rep} {m : Nat} (h : Drawn rs m) (hm : m ≤ 10) (k : Int) : rgo (fun t => decide (k ≤ (cnt rs t : Int))) none tms = twith rs k := by
  have vr := h.vr hm
  obtain ⟨⟨b, t1⟩, t2⟩ := twith_ok vr.vt k
  have hd := dense_tms (fun t => decide (k ≤ (cnt rs t : Int))) (fun x h1 h2 => by rw [drawn_const h (by omega) (by omega)])
  have e : tms = 0 :: (rgI 1 45 ++ rgI 9950 50) := by rw [tms, rgI_succ]; rfl
  rw [e] at hd ⊢
  obtain ⟨_, r1, _, r3⟩ := rgo_ok (fun t => decide (k ≤ (cnt rs t : Int))) _ none 0 9999 hd (by rw [← e]; rfl) (by simp)
  refine cn_ext (r1 rfl) t1 (fun t => ?_)
  rw [r3, t2]
  simp
  constructor
  · rintro ⟨a, b, c⟩; exact ⟨b, c, a⟩
  · rintro ⟨a, b, c⟩; exact ⟨c, a, b⟩
end PV

/-! Q7: right sources -/
namespace PV
open PySem PySem.Spec L2
structure Near (rs : List Rep) (most : Nat) (truth : Int) : Prop where
  len : rs.length ≤ most
  nam : ∀ (i : Nat) r, rs[i]? = some r → r.a = letter i
  lo : 5 ≤ truth
  hi : truth ≤ 16
  tim : ∀ r ∈ rs, 0 ≤ r.b ∧ r.b ≤ truth ∧ truth ≤ r.c ∧ r.c ≤ 23
theorem Near.drawn {rs : List Rep} {m : Nat} {t : Int} (h : Near rs m t) : Drawn rs m :=
  ⟨h.len, h.nam, fun r hr => by have := h.tim r hr; have := h.lo; have := h.hi; omega, fun r hr => by have := h.tim r hr; have := h.lo; have := h.hi; omega⟩
theorem s_lawnear {ns : List Int} (hl : ns.length ≤ 63) (place most : Int) (h0 : 0 ≤ place) (h1 : place < 1000) (hm : 0 ≤ most) (hm2 : most ≤ 10) :
    ∃ rs, sem__law_near [scr (ns.map .int), .int place, .int most] = .ok (eRs rs) ∧ ∃ t, Near rs most.toNat t := by
  obtain ⟨e0, n0, n1⟩ := pk_eq (k := place + 1) hl (by omega) (by omega) (show 0 < most + 1 by omega)
  obtain ⟨f0, t0, t1⟩ := pk_eq (k := place) hl (by omega) (by omega) (show (0 : Int) < 12 by decide)
  simp [sem__law_near, e0, f0, I.r1]
  rw [if_pos (by omega)]
  generalize pk ns (place + 1) (most + 1) = n at *
  generalize pk ns place 12 = tr at *
  show Sat (fun o => ∃ rs, o.run = .ok (eRs rs) ∧ ∃ t, Near rs most.toNat t) _
  simp only [q_on]
  refine sat_range (fun i ρ => ∃ rs u5 u6, ρ = [.val (scr (ns.map .int)), .val (.int place), .val (.int most), .val (.int (5 + tr)), .own (rs.map eR), u5, u6] ∧ rs.length = i ∧ Near rs most.toNat (5 + tr)) ?_ ?_ ?_
  · exact ⟨[], _, _, rfl, rfl, ⟨Nat.zero_le _, by simp, by omega, by omega, by simp⟩⟩
  · rintro i ρ hi ⟨rs, u5, u6, rfl, hlen, hd⟩
    refine ⟨_, rfl, ?_⟩
    have hi2 : (i : Int) < n := by omega
    rw [Int.zero_add]
    obtain ⟨f1, a1, b1⟩ := pk_eq (k := place + 2 + 2 * (i : Int)) hl (by omega) (by omega) (show (0:Int) < 6 by decide)
    obtain ⟨f2, a2, b2⟩ := pk_eq (k := place + 3 + 2 * (i : Int)) hl (by omega) (by omega) (show (0:Int) < 8 by decide)
    have eL := letters_at (i := i) (by omega)
    have hlen2 : rs.length < 16777216 := by omega
    have mul : mulD (.int 2) (.int (i : Int)) = some (.int (2 * (i : Int))) := o_mul1 _ _ (by decide)
    generalize pk ns (place + 2 + 2 * (i : Int)) 6 = lo at *
    generalize pk ns (place + 3 + 2 * (i : Int)) 8 = hi at *
    simp [mul, f1, f2, eL, hlen2]
    refine sat_nx ⟨rs ++ [⟨letter i, 5 + tr - lo, 5 + tr + hi⟩], _, _, by rw [List.map_append]; rfl, by simp [hlen], ⟨by simp; omega, ?_, hd.lo, hd.hi, ?_⟩⟩
    · intro j r hj
      rcases Nat.lt_or_ge j rs.length with c | c
      · rw [List.getElem?_append_left c] at hj
        exact hd.nam j r hj
      · rw [List.getElem?_append_right c, hlen] at hj
        cases hji : j - i with
        | zero =>
          rw [hji] at hj
          cases hj
          rw [show j = i by omega]
        | succ m => rw [hji] at hj; cases hj
    · intro r hr
      rcases List.mem_append.mp hr with hr | hr
      · exact hd.tim r hr
      · rw [List.mem_singleton] at hr; subst hr
        have := hd.lo; have := hd.hi
        simp only
        omega
  · rintro ρ' ⟨rs, u5, u6, rfl, hlen, hd⟩
    exact ⟨rs, by simp, _, hd⟩
theorem s_lawwith {rs : List Rep} {m : Nat} (h : Drawn rs m) (hm : m ≤ 10) (k : Int) : sem__law_with [eRs rs, .int k] = .ok (ePs (twith rs k)) := by
  have hl := h.len
  simp [sem__law_with, E.call0, s_lawtimes]
  rw [comp_all .int (fun t => .bool (decide (k ≤ (cnt rs t : Int)))) tms (fun t _ => ⟨_, rfl, by
    simp [s_lawright rs t (by omega)]
    simp [right, cnt]⟩)]
  have := s_lawranges (fun t => decide (k ≤ (cnt rs t : Int))) tms (by decide)
  rw [law_due h hm, List.map_map, Function.comp_def] at this
  simp only [q_bok, this, q_on, q_rt]
/-! hulls -/
theorem hull_ok {l : List Rg} {c : Int} (h : Cn c l) (hne : l ≠ []) : ∃ a b, hullO l = some (a, b) ∧ In l a ∧ In l b ∧ ∀ t, In l t → a ≤ t ∧ t ≤ b := by
  induction l generalizing c with
  | nil => exact absurd rfl hne
  | cons p r ih =>
    cases r with
    | nil => exact ⟨p.1, p.2, rfl, ⟨p, by simp, Int.le_refl _, h.2.1⟩, ⟨p, by simp, h.2.1, Int.le_refl _⟩, fun t ht => by
        rcases (in_cons ..).mp ht with k | k
        · exact k
        · exact (in_nil _ k).elim⟩
    | cons q s =>
      obtain ⟨a, b, e, i1, i2, i3⟩ := ih h.2.2 (by simp)
      refine ⟨p.1, b, ?_, ⟨p, by simp, Int.le_refl _, h.2.1⟩, (in_cons ..).mpr (Or.inr i2), fun t ht => ?_⟩
      · simp only [hullO, List.head?_cons, List.getLast?_cons_cons] at e ⊢
        cases hg : (q :: s).getLast? with
        | none => rw [hg] at e; cases e
        | some z => rw [hg] at e; cases e; rfl
      · have hb := i3 b i2
        have hlo := Cn.lo h.2.2 i2
        have h1 := h.2.1
        rcases (in_cons ..).mp ht with k | k
        · omega
        · have := i3 t k; have := Cn.lo h.2.2 k; omega
/-- a source that is right at a and one right at b is the same one, where many are right -/
theorem both_hit : ∀ (rs : List Rep) (a b : Int), rs.length < cnt rs a + cnt rs b → ∃ r ∈ rs, hits a r = true ∧ hits b r = true
  | [], a, b, h => by simp [cnt] at h
  | r :: rs, a, b, h => by
    by_cases c1 : hits a r = true
    · by_cases c2 : hits b r = true
      · exact ⟨r, by simp, c1, c2⟩
      · obtain ⟨s, hs, k⟩ := both_hit rs a b (by
          simp only [cnt, List.filter_cons_of_pos c1, List.filter_cons_of_neg c2, List.length_cons] at h ⊢
          omega)
        exact ⟨s, List.mem_cons_of_mem _ hs, k⟩
    · obtain ⟨s, hs, k⟩ := both_hit rs a b (by
        have := List.length_filter_le (hits b) [r]
        simp only [cnt, List.filter_cons_of_neg c1, List.length_cons] at h ⊢
        by_cases c2 : hits b r = true
        · simp only [List.filter_cons_of_pos c2, List.length_cons] at h; omega
        · simp only [List.filter_cons_of_neg c2] at h; omega)
      exact ⟨s, List.mem_cons_of_mem _ hs, k⟩
theorem cnt_all {rs : List Rep} {t : Int} (h : ∀ r ∈ rs, hits t r = true) : cnt rs t = rs.length := by
  rw [cnt, List.filter_eq_self.mpr h]
/-- all can be right -/
def AllRight (rs : List Rep) : Prop := ∃ t, 0 ≤ t ∧ t ≤ 9999 ∧ ∀ r ∈ rs, hits t r = true
theorem twith_ne {rs : List Rep} (h : VT rs) (a : AllRight rs) {m : Int} (hm : m ≤ rs.length) : twith rs m ≠ [] := by
  obtain ⟨t, t0, t1, ht⟩ := a
  intro e
  have := ((twith_ok h m).2 t).mpr ⟨t0, t1, by rw [cnt_all ht]; exact hm⟩
  rw [e] at this
  exact in_nil _ this
theorem s_chkright {rs : List Rep} (h : VR rs) (a : AllRight rs) {k : Int} (h0 : 0 ≤ k) (h1 : k ≤ 10) : sem_check_right [eRs rs, .int k] = .ok .none := by
  have := twith_ne h.vt a (m := rs.length) (Int.le_refl _)
  simp [sem_check_right, s_check h, s_chkliars h0 h1, s_times h.vt, this]
theorem s_reacht {rs : List Rep} (h : VT rs) (k : Int) : sem_reachable_times [eRs rs, .int k] = .ok (ePs (twith rs (rs.length - k))) := by
  simp [sem_reachable_times, s_times h]
theorem Near.all {rs : List Rep} {m : Nat} {t : Int} (h : Near rs m t) : AllRight rs :=
  ⟨t, by have := h.lo; omega, by have := h.hi; omega, fun r hr => by have := h.tim r hr; simp [hits]; omega⟩
end PV

/-! Q8: names, together, without, right_at -/
namespace PV
open PySem PySem.Spec L2
theorem nlt_iff (a b : Str) : nlt a b ↔ a.cps.toList < b.cps.toList := by
  rw [nlt, lt_str]; simp
theorem nlt_trans {a b c : Str} (h1 : nlt a b) (h2 : nlt b c) : nlt a c := by
  rw [nlt_iff] at *
  exact List.lt_trans h1 h2
theorem nlt_irrefl (a : Str) : ¬ nlt a a := by
  rw [nlt_iff]
  exact List.lt_irrefl _
theorem pw_of_next {α : Type} {R : α → α → Prop} (tr : ∀ a b c, R a b → R b c → R a c) : ∀ l : List α, (∀ (i : Nat) x y, l[i]? = some x → l[i + 1]? = some y → R x y) → l.Pairwise R
  | [], _ => .nil
  | [a], _ => by simp
  | a :: b :: r, h => by
    have ih := pw_of_next tr (b :: r) (fun i x y h1 h2 => h (i + 1) x y (by simpa using h1) (by simpa using h2))
    have hab := h 0 a b rfl rfl
    refine List.pairwise_cons.mpr ⟨fun x hx => ?_, ih⟩
    rcases List.mem_cons.mp hx with rfl | hx
    · exact hab
    · exact tr _ _ _ hab ((List.pairwise_cons.mp ih).1 x hx)
theorem next_of_pw {α : Type} {R : α → α → Prop} {l : List α} (h : l.Pairwise R) (i : Nat) (x y : α) (h1 : l[i]? = some x) (h2 : l[i + 1]? = some y) : R x y := by
  obtain ⟨a1, b1⟩ := List.getElem?_eq_some_iff.mp h1
  obtain ⟨a2, b2⟩ := List.getElem?_eq_some_iff.mp h2
  have := (List.pairwise_iff_getElem.mp h) i (i + 1) a1 a2 (by omega)
  rwa [b1, b2] at this
theorem VR.pw {rs : List Rep} (h : VR rs) : rs.Pairwise (fun r s => nlt r.a s.a) := pw_of_next (R := fun r s : Rep => nlt r.a s.a) (fun _ _ _ => nlt_trans) rs h.asc
theorem VR.of {rs : List Rep} (vt : VT rs) (nam : ∀ r ∈ rs, nameOk r.a) (pw : rs.Pairwise (fun r s => nlt r.a s.a)) : VR rs := ⟨vt, nam, fun i r s h1 h2 => next_of_pw pw i r s h1 h2⟩
theorem VR.filter {rs : List Rep} (h : VR rs) (p : Rep → Bool) : VR (rs.filter p) := by
  refine .of ⟨Nat.le_trans (List.length_filter_le _ _) h.vt.1, fun r hr => h.vt.2 r (List.mem_filter.mp hr).1⟩ (fun r hr => h.nam r (List.mem_filter.mp hr).1) (h.pw.filter p)
theorem VR.inj {rs : List Rep} (h : VR rs) {r s : Rep} (hr : r ∈ rs) (hs : s ∈ rs) (e : r.a = s.a) : r = s := by
  obtain ⟨i, hi, rfl⟩ := List.getElem_of_mem hr
  obtain ⟨j, hj, rfl⟩ := List.getElem_of_mem hs
  have pw := List.pairwise_iff_getElem.mp h.pw
  rcases Nat.lt_trichotomy i j with c | c | c
  · have := pw i j hi hj c; rw [e] at this; exact absurd this (nlt_irrefl _)
  · subst c; rfl
  · have := pw j i hj hi c; rw [e] at this; exact absurd this (nlt_irrefl _)
/-! sorting reports -/
theorem leB_total (a b : D) : (leB a b || leB b a) = true := by
  simp only [leB]
  cases h1 : PySem.W.dataLt b a with
  | false => rfl
  | true =>
    cases h2 : PySem.W.dataLt a b with
    | false => rfl
    | true =>
      have := PyProof.Rows.lex_trans _ _ _ h1 h2
      rw [PyProof.Rows.lex_irrefl] at this
      cases this
theorem leB_trans (a b c : D) (h1 : leB a b = true) (h2 : leB b c = true) : leB a c = true := by
  simp only [leB, Bool.not_eq_true'] at *
  cases h3 : PySem.W.dataLt c a with
  | false => rfl
  | true =>
    rcases PyProof.Rows.lex_negTrans _ (PySem.W.keyToks b) _ h3 with k | k
    · rw [PySem.W.dataLt, k] at h2; cases h2
    · rw [PySem.W.dataLt, k] at h1; cases h1
theorem lt_rep {r s : Rep} (h : nlt r.a s.a) : PySem.W.dataLt (eR r) (eR s) = true := by
  have hne : PyData.eqv (.str r.a) (.str s.a) = false := by
    have := PySem.W.Datum.eqv (α := Str) r.a s.a
    refine this.trans (decide_eq_false fun e => ?_)
    rw [e] at h
    exact nlt_irrefl _ h
  rw [eR, eR, PySem.W.dataLt_tuple, PySem.W.dataLt_all_no (by simp [PySem.W.alike]) hne, PySem.W.dataLt_str]
  exact decide_eq_true ((nlt_iff _ _).mp h)
theorem sort_eq {l m : List Rep} (hp : l.Perm m) (h : m.Pairwise (fun r s => nlt r.a s.a)) : (l.map eR).mergeSort leB = m.map eR := by
  have pw : (m.map eR).Pairwise (fun a b => leB a b = true) := by
    rw [List.pairwise_map]
    refine h.imp fun {r s} k => ?_
    have := lt_rep k
    cases h3 : PySem.W.dataLt (eR s) (eR r) with
    | false => simp [leB, h3]
    | true =>
      have := PyProof.Rows.lex_trans _ _ _ this h3
      rw [PyProof.Rows.lex_irrefl] at this
      cases this
  refine List.Perm.eq_of_pairwise (le := fun a b => leB a b = true) ?_ (List.pairwise_mergeSort leB_trans leB_total _) pw ((List.mergeSort_perm _ _).trans (hp.map eR))
  intro a b ha hb h1 h2
  rw [(List.mergeSort_perm _ _).mem_iff] at ha
  obtain ⟨r, hr, rfl⟩ := List.mem_map.mp ha
  obtain ⟨s, hs, rfl⟩ := List.mem_map.mp hb
  rw [hp.mem_iff] at hr
  obtain ⟨i, hi, rfl⟩ := List.getElem_of_mem hr
  obtain ⟨j, hj, rfl⟩ := List.getElem_of_mem hs
  have pw := List.pairwise_iff_getElem.mp h
  rcases Nat.lt_trichotomy i j with c | c | c
  · have := lt_rep (pw i j hi hj c); simp [leB, this] at h2
  · subst c; rfl
  · have := lt_rep (pw j i hj hi c); simp [leB, this] at h1
theorem sortOk_reps (l : List Rep) : sortOkT (l.map eR) = true := by
  simp only [sortOkT, Bool.and_eq_true, decide_eq_true_eq]
  refine ⟨⟨⟨plain_reps l, ?_⟩, ?_⟩, Nat.le_trans (PySem.W.depthAll_map (α := Rep) l) (by decide)⟩
  · simp only [List.all_map, List.all_eq_true]
    intro p _
    simp only [Function.comp, List.all_eq_true]
    intro q _
    simp [eR, PySem.W.alike, PySem.W.alikeAll]
  · rw [Bool.or_eq_true]
    refine Or.inl ?_
    simp only [List.all_map, List.all_eq_true]
    intro p _
    rfl
theorem sort_reps {l m : List Rep} (hp : l.Perm m) (h : VR m) : sortF [.tuple (l.map eR)] = some (.list (m.map eR)) := by
  simp only [sortF]
  rw [if_pos (sortOk_reps l), sort_eq hp h.pw]
/-! texts in lists and tuples -/
theorem inB_dat {α : Type} [DecidableEq α] [PySem.W.Datum α] (hd : PySem.W.Datum.depth α ≤ 60) (x : α) (l : List α) :
    inB (PySem.W.Datum.toD x) (.list (l.map PySem.W.Datum.toD)) = some (decide (x ∈ l)) ∧ inB (PySem.W.Datum.toD x) (.tuple (l.map PySem.W.Datum.toD)) = some (decide (x ∈ l)) := by
  have h1 := PySem.W.plainAll_map l
  have h2 := PySem.W.Datum.plain x
  have h3 : min (PyData.depthAll (l.map PySem.W.Datum.toD)) (PySem.W.Datum.toD x).depth ≤ 60 := by have := PySem.W.Datum.depth_le x; omega
  simp only [inB, h1, h2, Bool.and_self, Bool.true_and, decide_eq_true h3, if_true, PySem.W.any_datum, and_self]
@[simp] theorem in_strs (x : Str) (l : List Str) : inD (.str x) (.list (l.map .str)) = some (.bool (decide (x ∈ l))) := congrArg (fun o => Option.map PyData.bool o) (inB_dat (α := Str) (by decide) x l).1
@[simp] theorem in_strt (x : Str) (l : List Str) : inD (.str x) (.tuple (l.map .str)) = some (.bool (decide (x ∈ l))) := congrArg (fun o => Option.map PyData.bool o) (inB_dat (α := Str) (by decide) x l).2
@[simp] theorem nin_strs (x : Str) (l : List Str) : notInD (.str x) (.list (l.map .str)) = some (.bool (!decide (x ∈ l))) := congrArg (fun o => Option.map (fun b => PyData.bool !b) o) (inB_dat (α := Str) (by decide) x l).1
@[simp] theorem nin_strt (x : Str) (l : List Str) : notInD (.str x) (.tuple (l.map .str)) = some (.bool (!decide (x ∈ l))) := congrArg (fun o => Option.map (fun b => PyData.bool !b) o) (inB_dat (α := Str) (by decide) x l).2
@[simp] theorem strs_ne0 (l : List Str) : neD (.list (l.map .str)) (.list []) = some (.bool (!decide (l = []))) := neD_nil (α := Str) l
@[simp] theorem strs_eq0 (l : List Str) : eqD (.list (l.map .str)) (.list []) = some (.bool (decide (l = []))) := eqD_nil (α := Str) l
@[simp] theorem strs_eq (l m : List Str) : eqD (.list (l.map .str)) (.list (m.map .str)) = some (.bool (decide (l = m))) := eqD_dat (α := List Str) (by decide) l m
@[simp] theorem strs_ne (l m : List Str) : neD (.list (l.map .str)) (.list (m.map .str)) = some (.bool (!decide (l = m))) := neD_dat (α := List Str) (by decide) l m
@[simp] theorem reps_eq (l m : List Rep) : eqD (eRs l) (eRs m) = some (.bool (decide (l = m))) := (eqD_dat (α := PySem.W.Tup Rep) (by decide) ⟨l⟩ ⟨m⟩).trans (by simp)
@[simp] theorem reps_ne (l m : List Rep) : neD (eRs l) (eRs m) = some (.bool (!decide (l = m))) := (neD_dat (α := PySem.W.Tup Rep) (by decide) ⟨l⟩ ⟨m⟩).trans (by simp)
def nms (rs : List Rep) : List Str := rs.map (·.a)
theorem s_sources' (rs : List Rep) : sem_sources [eRs rs] = .ok (.list ((nms rs).map .str)) := by
  rw [s_sources, nms, List.map_map]; rfl
theorem mem_nms {rs : List Rep} {x : Str} : x ∈ nms rs ↔ ∃ r ∈ rs, r.a = x := List.mem_map
theorem s_together {one other rs : List Rep} (h1 : VR one) (h2 : VR other) (hr : VR rs) (hp : (one ++ other).Perm rs) : sem_together [eRs one, eRs other] = .ok (eRs rs) := by
  have hlen : one.length + other.length = rs.length := by rw [← hp.length_eq, List.length_append]
  have hl := hr.vt.1
  have hdis : ∀ r ∈ other, r.a ∉ nms one := by
    intro r hr' hm
    obtain ⟨s, hs, e⟩ := List.mem_map.mp hm
    have m1 : r ∈ rs := hp.mem_iff.mp (List.mem_append.mpr (Or.inr hr'))
    have m2 : s ∈ rs := hp.mem_iff.mp (List.mem_append.mpr (Or.inl hs))
    have : s = r := hr.inj m2 m1 e
    subst this
    have nd : (one ++ other).Nodup := by
      refine hp.nodup_iff.mpr ?_
      refine hr.pw.imp fun {a b} k e => ?_
      rw [e] at k
      exact nlt_irrefl _ k
    exact (List.nodup_append.mp nd).2.2 s hs s hr' rfl
  simp [sem_together, s_check h1, s_check h2, s_sources']
  rw [comp_all PyData.str (fun _ => .bool false) (nms other) (fun x hx => ⟨_, rfl, by
    obtain ⟨r, hr', rfl⟩ := mem_nms.mp hx
    simp [hdis r hr']⟩)]
  rw [q_bok, q_bok, q_bok, o_anym (fun _ => false) (nms other)]
  simp
  rw [if_neg (by omega)]
  have e1 := o_addt (one.map eR) (other.map eR) (by simp; omega)
  have e2 := sort_reps hp hr
  rw [List.map_append] at e2
  simp [e1, e2]
theorem s_rightat {rs : List Rep} (h : VR rs) {t : Int} (h0 : 0 ≤ t) (h1 : t ≤ 9999) : sem_right_at [eRs rs, .int t] = .ok (.list ((right rs t).map .str)) := by
  simp [sem_right_at, s_check h, s_istime, s_right, h0, h1]
theorem s_arenames {rs : List Rep} (l : List Str) (hn : ∀ x ∈ l, nameOk x) (he : l = (nms rs).filter fun x => decide (x ∈ l)) : sem_are_names [eRs rs, .tuple (l.map .str)] = .ok (.bool true) := by
  have hp : PyData.plainAll (l.map .str) = true := PySem.W.plainAll_map (α := Str) l
  simp [sem_are_names, hp]
  rw [comp_all PyData.str (fun _ => .bool true) l (fun x hx => ⟨_, rfl, by
    have := hn x hx
    rw [nameOk] at this
    simp [this]⟩)]
  rw [q_bok, q_bok, q_bok, o_allm (fun _ => true) l]
  simp [s_sources']
  rw [comp_map PyData.str (fun x => decide (x ∈ l)) PyData.str (nms rs) (fun x _ => ⟨_, rfl, by simp, by simp⟩)]
  rw [← he]
  simp
theorem s_without {rs : List Rep} (h : VR rs) (l : List Str) (hn : ∀ x ∈ l, nameOk x) (he : l = (nms rs).filter fun x => decide (x ∈ l)) :
    sem_without [eRs rs, .tuple (l.map .str)] = .ok (eRs (rs.filter fun r => !decide (r.a ∈ l))) := by
  simp [sem_without, s_check h, s_arenames l hn he]
  rw [comp_map eR (fun r => !decide (r.a ∈ l)) eR rs (fun r _ => ⟨_, rfl, by simp, by simp⟩)]
  simp
end PV

/-! Q9: further sources, one source less, ranges within ranges -/
namespace PV
open PySem PySem.Spec L2
theorem cnt_append (a b : List Rep) (t : Int) : cnt (a ++ b) t = cnt a t + cnt b t := by simp [cnt]
theorem cnt_le (a : List Rep) (t : Int) : cnt a t ≤ a.length := List.length_filter_le _ _
theorem cnt_perm {a b : List Rep} (h : a.Perm b) (t : Int) : cnt a t = cnt b t := (h.filter (hits t)).length_eq
/-- with z ahead of the name -/
def zr (r : Rep) : Rep := ⟨("z" : Str) ++ r.a, r.b, r.c⟩
theorem cnt_zr (rs : List Rep) (t : Int) : cnt (rs.map zr) t = cnt rs t := by
  simp only [cnt, List.filter_map, List.length_map]
  rfl
theorem z_cps (a : Str) : (("z" : Str) ++ a).cps.toList = 122 :: a.cps.toList := by
  show (("z" : Str).cps ++ a.cps).toList = _
  rw [Array.toList_append]
  rfl
theorem nlt_z {a b : Str} (h : nlt a b) : nlt (("z" : Str) ++ a) (("z" : Str) ++ b) := by
  rw [nlt_iff] at *
  rw [z_cps, z_cps]
  exact List.Lex.cons h
theorem nlt_lz {i : Nat} (h : i < 10) (a : Str) : nlt (letter i) (("z" : Str) ++ a) := by
  rw [nlt_iff, z_cps]
  exact List.Lex.rel (show 97 + i < 122 by omega)
theorem nameOkZ {i : Nat} (h : i < 10) : nameOk (("z" : Str) ++ letter i) := by
  rcases i with _|_|_|_|_|_|_|_|_|_|i
  all_goals first | rfl | omega
theorem add_z {i : Nat} (h : i < 10) : addD (.str "z") (.str (letter i)) = some (.str (("z" : Str) ++ letter i)) := by
  rcases i with _|_|_|_|_|_|_|_|_|_|i
  all_goals first | rfl | omega
theorem Drawn.name {rs : List Rep} {m : Nat} (h : Drawn rs m) (hm : m ≤ 10) {r : Rep} (hr : r ∈ rs) : ∃ i, i < 10 ∧ r.a = letter i := by
  obtain ⟨i, hi, e⟩ := List.getElem_of_mem hr
  exact ⟨i, by have := h.len; omega, h.nam i r (by rw [List.getElem?_eq_getElem hi, e])⟩
theorem vr_z {rs : List Rep} {m : Nat} (h : Drawn rs m) (hm : m ≤ 10) : VR (rs.map zr) := by
  have v := h.vr hm
  refine .of ⟨by rw [List.length_map]; exact v.vt.1, fun r hr => ?_⟩ (fun r hr => ?_) ?_
  · obtain ⟨s, hs, rfl⟩ := List.mem_map.mp hr
    exact v.vt.2 s hs
  · obtain ⟨s, hs, rfl⟩ := List.mem_map.mp hr
    obtain ⟨i, hi, e⟩ := h.name hm hs
    show nameOk (("z" : Str) ++ s.a)
    rw [e]; exact nameOkZ hi
  · rw [List.pairwise_map]
    exact v.pw.imp fun k => nlt_z k
theorem vr_both {rs zs : List Rep} {m k : Nat} (h : Drawn rs m) (hz : Drawn zs k) (hm : m + k ≤ 10) : VR (rs ++ zs.map zr) := by
  have v := h.vr (by omega)
  have w := vr_z hz (by omega)
  refine .of ⟨?_, fun r hr => ?_⟩ (fun r hr => ?_) ?_
  · have := h.len; have := hz.len; simp; omega
  · rcases List.mem_append.mp hr with hr | hr
    · exact v.vt.2 r hr
    · exact w.vt.2 r hr
  · rcases List.mem_append.mp hr with hr | hr
    · exact v.nam r hr
    · exact w.nam r hr
  · rw [List.pairwise_append]
    refine ⟨v.pw, w.pw, fun r hr s hs => ?_⟩
    obtain ⟨s', hs', rfl⟩ := List.mem_map.mp hs
    obtain ⟨i, hi, e⟩ := h.name (by omega) hr
    show nlt r.a (("z" : Str) ++ s'.a)
    rw [e]; exact nlt_lz hi _
/-! one source less -/
theorem filter_one : ∀ {rs : List Rep}, rs.Pairwise (fun r s => nlt r.a s.a) → ∀ {r : Rep}, r ∈ rs → rs.filter (fun s => decide (s.a ∈ [r.a])) = [r]
  | [], _, r, hr => by cases hr
  | x :: rs, h, r, hr => by
    rw [List.pairwise_cons] at h
    rcases List.mem_cons.mp hr with rfl | hr
    · rw [List.filter_cons_of_pos (by simp)]
      have : rs.filter (fun s => decide (s.a ∈ [r.a])) = [] := by
        rw [List.filter_eq_nil_iff]
        intro s hs c
        have h1 := h.1 s hs
        simp at c
        rw [c] at h1
        exact nlt_irrefl _ h1
      rw [this]
    · have h1 := h.1 r hr
      rw [List.filter_cons_of_neg (by
        simp
        intro e
        rw [e] at h1
        exact nlt_irrefl _ h1)]
      exact filter_one h.2 hr
def less (rs : List Rep) (x : Str) : List Rep := rs.filter fun s => !decide (s.a ∈ [x])
theorem less_perm {rs : List Rep} (h : VR rs) {r : Rep} (hr : r ∈ rs) : (r :: less rs r.a).Perm rs := by
  have := List.filter_append_perm (fun s : Rep => decide (s.a ∈ [r.a])) rs
  rw [filter_one h.pw hr] at this
  exact this
theorem less_names {rs : List Rep} (h : VR rs) {r : Rep} (hr : r ∈ rs) : [r.a] = (nms rs).filter fun x => decide (x ∈ [r.a]) := by
  rw [nms, List.filter_map, show ((fun x => decide (x ∈ [r.a])) ∘ fun x : Rep => x.a) = fun s : Rep => decide (s.a ∈ [r.a]) from rfl, filter_one h.pw hr]
  rfl
theorem s_less {rs : List Rep} (h : VR rs) {r : Rep} (hr : r ∈ rs) : sem_without [eRs rs, .tuple [.str r.a]] = .ok (eRs (less rs r.a)) :=
  s_without h [r.a] (fun x hx => by rw [List.mem_singleton] at hx; subst hx; exact h.nam r hr) (less_names h hr)
theorem less_len {rs : List Rep} (h : VR rs) {r : Rep} (hr : r ∈ rs) : (less rs r.a).length + 1 = rs.length := (less_perm h hr).length_eq
theorem cnt_less {rs : List Rep} (h : VR rs) {r : Rep} (hr : r ∈ rs) (t : Int) : cnt rs t = cnt (less rs r.a) t + (if hits t r = true then 1 else 0) := by
  rw [← cnt_perm (less_perm h hr) t]
  by_cases c : hits t r = true
  · simp [cnt, c]
  · simp [cnt, c]
/-! ranges within ranges -/
def allIn (l m : List Rg) : Bool := l.all fun p => m.any fun q => decide (q.1 ≤ p.1) && decide (p.2 ≤ q.2)
theorem cn_gap : ∀ {m : List Rg} {b : Int}, Cn b m → ∀ {q : Rg}, q ∈ m → ¬ In m (q.2 + 1)
  | [], _, _, q, hq => by cases hq
  | p :: r, b, h, q, hq => by
    rw [in_cons]
    have h1 := h.2.1
    rcases List.mem_cons.mp hq with rfl | hq
    · rintro (k | k)
      · omega
      · have := Cn.lo h.2.2 k; omega
    · have hr : In r q.2 ∧ q.1 ≤ q.2 := by
        have : ∀ {m : List Rg} {b : Int}, Cn b m → q ∈ m → q.1 ≤ q.2 := by
          intro m
          induction m with
          | nil => intro b _ hq; cases hq
          | cons x y ih =>
            intro b hb hq
            rcases List.mem_cons.mp hq with rfl | hq
            · exact hb.2.1
            · exact ih hb.2.2 hq
        have k := this h.2.2 hq
        exact ⟨⟨q, hq, k, Int.le_refl _⟩, k⟩
      have := Cn.lo h.2.2 hr.1
      rintro (k | k)
      · omega
      · exact cn_gap h.2.2 hq k
theorem cn_mem_le : ∀ {m : List Rg} {b : Int}, Cn b m → ∀ {q : Rg}, q ∈ m → q.1 ≤ q.2
  | [], _, _, q, hq => by cases hq
  | p :: r, b, h, q, hq => by
    rcases List.mem_cons.mp hq with rfl | hq
    · exact h.2.1
    · exact cn_mem_le h.2.2 hq
theorem allIn_of {l m : List Rg} {b c : Int} (hl : Cn b l) (hm : Cn c m) (h : ∀ t, In l t → In m t) : allIn l m = true := by
  simp only [allIn, List.all_eq_true, List.any_eq_true, Bool.and_eq_true, decide_eq_true_eq]
  intro p hp
  have hle := cn_mem_le hl hp
  obtain ⟨q, hq, k1, k2⟩ := h p.1 ⟨p, hp, Int.le_refl _, hle⟩
  refine ⟨q, hq, k1, ?_⟩
  by_cases c : p.2 ≤ q.2
  · exact c
  · exact absurd (h (q.2 + 1) ⟨p, hp, by omega, by omega⟩) (cn_gap hm hq)
theorem allIn_one (m : List Rg) (t : Int) : allIn [(t, t)] m = true ↔ In m t := by
  simp [allIn, In]
theorem twith_sub {rs ss : List Rep} (h : VT rs) (k : VT ss) {m n : Int} (s : ∀ t, m ≤ (cnt rs t : Int) → n ≤ (cnt ss t : Int)) : allIn (twith rs m) (twith ss n) = true := by
  obtain ⟨⟨b, h1⟩, h2⟩ := twith_ok h m
  obtain ⟨⟨c, k1⟩, k2⟩ := twith_ok k n
  refine allIn_of h1 k1 fun t i => ?_
  obtain ⟨a1, a2, a3⟩ := (h2 t).mp i
  exact (k2 t).mpr ⟨a1, a2, s t a3⟩
theorem s_allin (l m : List Rg) : sem__law_all_in [ePs l, ePs m] = .ok (.bool (allIn l m)) := by
  simp [sem__law_all_in]
  rw [comp_all eP (fun p => .bool (m.any fun q => decide (q.1 ≤ p.1) && decide (p.2 ≤ q.2))) l (fun p _ => ⟨_, rfl, by
    simp
    rw [comp_all eP (fun q => .bool (decide (q.1 ≤ p.1) && decide (p.2 ≤ q.2))) m (fun q _ => ⟨_, rfl, by
      simp
      by_cases c : q.1 ≤ p.1 <;> simp [c]⟩)]
    rw [q_bok, q_bok, q_bok, o_anym]
    simp⟩)]
  rw [q_bok, q_bok, q_bok, o_allm]
  simp
  rfl
@[simp] theorem ne_bools (a b : Bool) : neD (.bool a) (.bool b) = some (.bool (!decide (a = b))) := neD_dat (α := Bool) (by decide) a b
@[simp] theorem eq_bools (a b : Bool) : eqD (.bool a) (.bool b) = some (.bool (decide (a = b))) := eqD_dat (α := Bool) (by decide) a b
theorem s_fewest {rs : List Rep} (h : VR rs) : ∃ m : Nat, sem_fewest_liars [eRs rs] = .ok (.int (rs.length - m)) ∧ m ≤ rs.length ∧ (∃ t, 0 ≤ t ∧ t ≤ 9999 ∧ cnt rs t = m) ∧ ∀ t, 0 ≤ t → t ≤ 9999 → cnt rs t ≤ m := by
  obtain ⟨m, em, ⟨t0, a0, b0, c0⟩, hu⟩ := s_most h.vt
  exact ⟨m, by simp [sem_fewest_liars, s_check h, em], by rw [← c0]; exact cnt_le _ _, ⟨t0, a0, b0, c0⟩, hu⟩
theorem twith_nil {rs : List Rep} (h : VT rs) {k : Int} (hu : ∀ t, 0 ≤ t → t ≤ 9999 → (cnt rs t : Int) < k) : twith rs k = [] := by
  obtain ⟨⟨b, q1⟩, q2⟩ := twith_ok h k
  refine cn_ext q1 (m := []) (c := 0) trivial (fun t => ?_)
  rw [q2]
  constructor
  · rintro ⟨k1, k2, k3⟩
    have := hu t k1 k2
    omega
  · exact fun h => (in_nil t h).elim
theorem twith_some {rs : List Rep} (h : VT rs) {k : Int} {t : Int} (h0 : 0 ≤ t) (h1 : t ≤ 9999) (h2 : k ≤ (cnt rs t : Int)) : twith rs k ≠ [] := by
  intro e
  have := ((twith_ok h k).2 t).mpr ⟨h0, h1, h2⟩
  rw [e] at this
  exact in_nil _ this
end PV

/-! Q10: lies -/
namespace PV
open PySem PySem.Spec L2
def lettersD : List D := (List.range 26).map fun i => .str (letter i)
theorem it_letters : I.itD (.str "abcdefghijklmnopqrstuvwxyz") = .ok lettersD := rfl
theorem letter_inj {i j : Nat} (h : letter i = letter j) : i = j := by
  have : (97 + i) = 97 + j := by
    have := congrArg (fun s : Str => s.cps.toList) h
    simpa [letter] using this
  omega
theorem Near.mem {rs : List Rep} {m : Nat} {t : Int} (h : Near rs m t) (i : Nat) : letter i ∈ nms rs ↔ i < rs.length := by
  rw [mem_nms]
  constructor
  · rintro ⟨r, hr, e⟩
    obtain ⟨j, hj, rfl⟩ := List.getElem_of_mem hr
    have := h.nam j _ (List.getElem?_eq_getElem hj)
    rw [e] at this
    rw [letter_inj this]; exact hj
  · intro hi
    exact ⟨rs[i], List.getElem_mem hi, h.nam i _ (List.getElem?_eq_getElem hi)⟩
/-- the worst lies -/
def wl (n l : Nat) (a b : Int) : List Rep := (List.range l).map fun j => ⟨letter (n + j), a, b⟩
theorem cut_take {α : Type} (xs : List α) (l : Nat) : cutL xs none (some (l : Int)) = xs.take l := by
  simp only [cutL, HT.sIx]
  rw [if_neg (by omega), Int.toNat_natCast]
  simp
theorem free_letters : ∀ n < 7, ∀ l < 5, ((List.range 26).filter fun i => decide (n ≤ i)).take l = (List.range l).map (n + ·) := by decide
theorem s_chksum {rs : List Rep} (h : VR rs) (al : AllRight rs) {l : Nat} (hn : rs.length + l ≤ 10) : sem_check_sum [eRs rs, .int l] = .ok .none := by
  simp [sem_check_sum, s_chkright h al (k := (l : Int)) (by omega) (by omega)]
  rw [if_neg (by omega)]
  rfl
theorem s_worstlies {rs : List Rep} {m : Nat} {t : Int} (h : Near rs m t) (hm : m ≤ 6) {l : Nat} (hl : l < 5) {a b : Int} (e : hullO (twith rs (rs.length - (l : Int))) = some (a, b)) :
    sem_worst_lies [eRs rs, .int l] = .ok (eRs (wl rs.length l a b)) := by
  have vr := h.drawn.vr (by omega)
  have hlen := h.len
  simp [sem_worst_lies, s_chksum vr h.all (l := l) (by omega), s_reacht vr.vt, s_hull, e, eH, it_letters]
  rw [lettersD, comp_map (fun i => .str (letter i)) (fun i => decide (rs.length ≤ i)) (fun i => .str (letter i)) (List.range 26) (fun i _ => ⟨_, rfl, by
    have := h.mem i
    simp [s_sources', this]
    rw [Bool.eq_iff_iff]
    simp, by simp⟩)]
  simp [sliceD, cut_take]
  rw [← List.map_take, free_letters _ (by omega) _ hl, List.map_map, Function.comp_def]
  rw [comp_all (fun j => .str (letter (rs.length + j))) (fun j => eR ⟨letter (rs.length + j), a, b⟩) (List.range l) (fun j _ => ⟨_, rfl, by simp [eR]⟩)]
  simp [wl]
theorem vr_wl {rs : List Rep} {m : Nat} {t : Int} (h : Near rs m t) {l : Nat} (hm : m ≤ 10) (hn : rs.length + l ≤ 10) {a b : Int} (h0 : 0 ≤ a) (h1 : a ≤ b) (h2 : b ≤ 9999) : VR (wl rs.length l a b) ∧ VR (rs ++ wl rs.length l a b) := by
  have dw : ∀ (j : Nat) r, (wl rs.length l a b)[j]? = some r → r.a = letter (rs.length + j) ∧ r.b = a ∧ r.c = b := by
    intro j r hj
    rw [wl, List.getElem?_map, Option.map_eq_some_iff] at hj
    obtain ⟨k, h1, rfl⟩ := hj
    obtain ⟨_, rfl⟩ := List.getElem?_eq_some_iff.mp h1
    simp
  have lw : (wl rs.length l a b).length = l := by simp [wl]
  have all : ∀ r ∈ wl rs.length l a b, nameOk r.a ∧ 0 ≤ r.b ∧ r.b ≤ r.c ∧ r.c ≤ 9999 := by
    intro r hr
    obtain ⟨j, hj, e⟩ := List.getElem_of_mem hr
    obtain ⟨e1, e2, e3⟩ := dw j r (by rw [List.getElem?_eq_getElem hj, e])
    rw [e1, e2, e3]
    exact ⟨name_letter (by omega), h0, h1, h2⟩
  have vr := h.drawn.vr (by omega)
  refine ⟨⟨⟨by omega, fun r hr => (all r hr).2⟩, fun r hr => (all r hr).1, fun i r s k1 k2 => ?_⟩, ⟨⟨by rw [List.length_append]; omega, fun r hr => ?_⟩, fun r hr => ?_, fun i r s k1 k2 => ?_⟩⟩
  · rw [(dw i r k1).1, (dw (i + 1) s k2).1]
    exact nlt_letter _
  · rcases List.mem_append.mp hr with hr | hr
    · exact vr.vt.2 r hr
    · exact (all r hr).2
  · rcases List.mem_append.mp hr with hr | hr
    · exact vr.nam r hr
    · exact (all r hr).1
  · have at_ : ∀ (i : Nat) r, (rs ++ wl rs.length l a b)[i]? = some r → r.a = letter i := by
      intro i r hi
      rcases Nat.lt_or_ge i rs.length with c | c
      · rw [List.getElem?_append_left c] at hi
        exact h.nam i r hi
      · rw [List.getElem?_append_right c] at hi
        rw [(dw _ r hi).1]
        congr 1; omega
    rw [at_ i r k1, at_ (i + 1) s k2]
    exact nlt_letter _
theorem cnt_wl (n l : Nat) (a b t : Int) : cnt (wl n l a b) t = if a ≤ t ∧ t ≤ b then l else 0 := by
  by_cases c : a ≤ t ∧ t ≤ b
  · rw [if_pos c, cnt_all]
    · simp [wl]
    · intro r hr
      obtain ⟨j, _, rfl⟩ := List.mem_map.mp hr
      simp [hits, c]
  · rw [if_neg c, cnt]
    have : (wl n l a b).filter (hits t) = [] := by
      rw [List.filter_eq_nil_iff]
      intro r hr
      obtain ⟨j, _, rfl⟩ := List.mem_map.mp hr
      simp [hits]
      omega
    rw [this]; rfl
/-- the hull, told by its two ends -/
theorem hull_is {l : List Rg} {c a b : Int} (h : Cn c l) (ia : In l a) (ib : In l b) (u : ∀ t, In l t → a ≤ t ∧ t ≤ b) : hullO l = some (a, b) := by
  have hne : l ≠ [] := by rintro rfl; exact in_nil _ ia
  obtain ⟨x, y, e, ix, iy, uxy⟩ := hull_ok h hne
  have h1 := u x ix; have h2 := u y iy; have h3 := uxy a ia; have h4 := uxy b ib
  rw [e, show x = a by omega, show y = b by omega]
@[simp] theorem eq_P (p q : Rg) : eqD (eP p) (eP q) = some (.bool (decide (p = q))) := eqD_dat (α := Int × Int) (by decide) p q
@[simp] theorem ne_P (p q : Rg) : neD (eP p) (eP q) = some (.bool (!decide (p = q))) := neD_dat (α := Int × Int) (by decide) p q
theorem s_areworst {rs cs : List Rep} (h : VR rs) (al : AllRight rs) (hc : VR cs) (hb : VR (rs ++ cs)) {l : Nat} (hn : rs.length + l ≤ 10) (hcl : cs.length = l) {p q : Rg}
    (ep : hullO (twith (rs ++ cs) (rs.length : Int)) = some p) (eq : hullO (twith rs (rs.length - (l : Int))) = some q) : sem_are_worst_lies [eRs rs, .int l, eRs cs] = .ok (.bool (decide (p = q))) := by
  have hdis : ∀ x ∈ nms cs, x ∉ nms rs := by
    intro x hx hy
    obtain ⟨r, hr, rfl⟩ := mem_nms.mp hx
    obtain ⟨s, hs, e⟩ := mem_nms.mp hy
    have pw := List.pairwise_append.mp hb.pw
    have := pw.2.2 s hs r hr
    rw [e] at this
    exact nlt_irrefl _ this
  have e1 := o_addt (rs.map eR) (cs.map eR) (by simp; have := hb.vt.1; simp at this; omega)
  have e2 := s_ptimes hb.vt (l : Int)
  rw [eRs, List.map_append, show ((rs ++ cs).length : Int) - (l : Int) = rs.length by rw [List.length_append]; omega] at e2
  simp [sem_are_worst_lies, s_chksum h al hn, s_arereps hc, s_sources', hcl]
  rw [comp_all PyData.str (fun _ => .bool false) (nms cs) (fun x hx => ⟨_, rfl, by simp [hdis x hx]⟩)]
  rw [q_bok, q_bok, q_bok, o_anym (fun _ => false) (nms cs)]
  simp [e1, e2, s_hull, s_reacht h.vt, ep, eq, eH]
theorem s_notworst {rs cs : List Rep} (h : VR rs) (al : AllRight rs) (hc : VR cs) {l : Nat} (hn : rs.length + l ≤ 10) (hcl : cs.length ≠ l) : sem_are_worst_lies [eRs rs, .int l, eRs cs] = .ok (.bool false) := by
  have : ¬ ((cs.length : Int) = (l : Int)) := by omega
  simp [sem_are_worst_lies, s_chksum h al hn, s_arereps hc]
  rw [if_neg this]
  rfl
theorem sat_rangeE {a : D → SE → Option SE} {body : SE → O} {P : O → Prop} {lo : Int} {n : Nat} {ρ : SE} (Inv : Nat → SE → Prop) (h0 : Inv 0 ρ)
    (hs : ∀ (i : Nat) ρ, i < n → Inv i ρ → ∃ ρ1, a (.int (lo + (i : Int))) ρ = some ρ1 ∧ Sat (isNx (Inv (i + 1))) (body ρ1)) (hk : ∀ ρ', Inv n ρ' → Sat P (.nx ρ')) : Sat P (loopS a body (rangeL lo n) ρ) := by
  obtain ⟨ρ', e, i⟩ := loop_ix (a := a) (body := body) Inv (rangeL lo n) 0 ρ h0 (fun i d ρ e iv => by
    obtain ⟨hi, rfl⟩ := range_get lo n i d e
    rw [Nat.zero_add] at iv ⊢
    exact hs i ρ hi iv)
  rw [e]
  exact hk ρ' (by simpa [rangeL] using i)
theorem Drawn.take {rs : List Rep} {m : Nat} (h : Drawn rs m) (l : Nat) : Drawn (rs.take l) m := by
  refine ⟨Nat.le_trans (by simp; omega) h.len, fun i r hi => ?_, fun r hr => h.tim r (List.mem_of_mem_take hr), fun r hr => h.gap r (List.mem_of_mem_take hr)⟩
  rw [List.getElem?_take] at hi
  split at hi
  · exact h.nam i r hi
  · cases hi
end PV

/-! Q21: the later laws' draws -/
namespace PV
open PySem PySem.Spec L2
theorem draw_tail (sD : D) (k many c : Int) (hm : 0 < many) (u4 u5 : B) : Sat (isPick many) ((S.seq (S.set 3 (M.v (E.op2 modD (E.op2 addD (E.op2 mulD (E.op2 modD (E.var 3) (E.con (.int 2147483563))) (E.con (.int 69069))) (E.op2 mulD (E.con (.int 104723)) (E.op2 addD (E.var 1) (E.con (.int 1))))) (E.con (.int 2147483563)))))
    (S.seq (S.set 3 (M.v (E.op2 modD (E.op2 addD (E.op2 mulD (E.var 3) (E.var 3)) (E.op2 fdivD (E.var 3) (E.con (.int 3)))) (E.con (.int 2147483399)))))
    (S.ret (M.v (E.op2 modD (E.op2 fdivD (E.op2 modD (E.op2 addD (E.op2 mulD (E.var 3) (E.var 3)) (E.op2 fdivD (E.var 3) (E.con (.int 7)))) (E.con (.int 2147483647))) (E.con (.int 11))) (E.var 2))))))
    [.val sD, .val (.int k), .val (.int many), .val (.int c), u4, u5]) := by
  have e1 := o_mod c 2147483563 (by decide)
  have e2 := o_mul2 (c % 2147483563) 69069 (by decide)
  have e3 := o_mul1 104723 (k + 1) (by decide)
  have e4 := o_mod (c % 2147483563 * 69069 + 104723 * (k + 1)) 2147483563 (by decide)
  have b1 : 0 ≤ (c % 2147483563 * 69069 + 104723 * (k + 1)) % 2147483563 := Int.emod_nonneg _ (by decide)
  have b2 : (c % 2147483563 * 69069 + 104723 * (k + 1)) % 2147483563 < 2147483563 := Int.emod_lt_of_pos _ (by decide)
  generalize (c % 2147483563 * 69069 + 104723 * (k + 1)) % 2147483563 = w at *
  have e5 := o_mul1 w w (by omega)
  have e6 := o_fdiv w 3 (by decide) (by decide)
  have e7 := o_mod (w * w + w / 3) 2147483399 (by decide)
  have b3 : 0 ≤ (w * w + w / 3) % 2147483399 := Int.emod_nonneg _ (by decide)
  have b4 : (w * w + w / 3) % 2147483399 < 2147483399 := Int.emod_lt_of_pos _ (by decide)
  generalize (w * w + w / 3) % 2147483399 = z at *
  have e8 := o_mul1 z z (by omega)
  have e9 := o_fdiv z 7 (by decide) (by decide)
  refine ⟨(z * z + z / 7) % 2147483647 / 11 % many, Int.emod_nonneg _ (by omega), Int.emod_lt_of_pos _ hm, ?_⟩
  simp [e1, e2, e3, e4, e5, e6, e7, e8, e9, o_mod _ 2147483647 (by decide), o_fdiv _ 11 (by decide) (by decide), o_mod _ many hm]
theorem drawn_ex (ns : List Int) (k many : Int) (hl : ns.length ≤ 63) (hk : 0 ≤ k) (hk2 : k < 19999) (hm : 0 < many) : ∃ v : Int, 0 ≤ v ∧ v < many ∧ sem__law_drawn [scr (ns.map .int), .int k, .int many] = .ok (.int v) := by
  have m0 := o_mul1 7 k (by decide)
  simp only [sem__law_drawn, q_fn3]
  show Sat (isPick many) _
  refine sat_seq (ρ' := [.val (scr (ns.map .int)), .val (.int k), .val (.int many), .val (.int (7 * k)), .un, .un]) (by simp [m0]) ?_
  by_cases h : ns = []
  · have e : neD (scr []) (.list []) = some (.bool false) := scr_ne []
    subst h
    refine sat_seq (ρ' := [.val (scr []), .val (.int k), .val (.int many), .val (.int (7 * k)), .un, .un]) (by simp [e]) ?_
    exact draw_tail _ _ _ _ hm _ _
  · have hp : 0 < ns.length := List.length_pos_iff.mpr h
    obtain ⟨c, ec⟩ := at_int (ns := ns) (i := k % (ns.length : Int)) (Int.emod_nonneg _ (by omega)) (Int.emod_lt_of_pos _ (by omega))
    have ne : neD (scr (ns.map .int)) (.list []) = some (.bool true) := by rw [scr_ne]; simp [h]
    have hls : lenF [scr (ns.map .int)] = some (.int (ns.length : Int)) := by simp
    have em := o_mod k (ns.length : Int) (by omega)
    have ed := o_fdiv k (ns.length : Int) (by omega) (by omega)
    have hix : ixD (scr (ns.map .int)) (.int (k % (ns.length : Int))) = some (.int c) := ec
    have hq : k / (ns.length : Int) ≤ k := Int.ediv_le_self _ hk
    have hq0 : 0 ≤ k / (ns.length : Int) := Int.ediv_nonneg hk (by omega)
    generalize scr (ns.map .int) = sD at *
    generalize hlen : (ns.length : Int) = ln at *
    have hp18 : powD (.int 10) (.int 18) = some (.int 1000000000000000000) := by
      simp only [powD]; rw [if_pos (by decide)]; rfl
    have mq := o_mul1 6553 (k / ln) (by decide)
    generalize k / ln = t0 at *
    rw [q_seq]
    have key : ∀ (c' : Int) (u4 u5 : B), Sat (isPick many) ((S.seq (S.set 3 (M.v (E.op2 modD (E.op2 addD (E.op2 mulD (E.op2 modD (E.var 3) (E.con (.int 2147483563))) (E.con (.int 69069))) (E.op2 mulD (E.con (.int 104723)) (E.op2 addD (E.var 1) (E.con (.int 1))))) (E.con (.int 2147483563)))))
      (S.seq (S.set 3 (M.v (E.op2 modD (E.op2 addD (E.op2 mulD (E.var 3) (E.var 3)) (E.op2 fdivD (E.var 3) (E.con (.int 3)))) (E.con (.int 2147483399)))))
      (S.ret (M.v (E.op2 modD (E.op2 fdivD (E.op2 modD (E.op2 addD (E.op2 mulD (E.var 3) (E.var 3)) (E.op2 fdivD (E.var 3) (E.con (.int 7)))) (E.con (.int 2147483647))) (E.con (.int 11))) (E.var 2))))))
      [.val sD, .val (.int k), .val (.int many), .val (.int c'), u4, u5]) := fun c' u4 u5 => draw_tail _ _ _ _ hm _ _
    generalize (S.seq (S.set 3 (M.v (E.op2 modD (E.op2 addD (E.op2 mulD (E.op2 modD (E.var 3) (E.con (.int 2147483563))) (E.con (.int 69069))) (E.op2 mulD (E.con (.int 104723)) (E.op2 addD (E.var 1) (E.con (.int 1))))) (E.con (.int 2147483563)))))
      (S.seq (S.set 3 (M.v (E.op2 modD (E.op2 addD (E.op2 mulD (E.var 3) (E.var 3)) (E.op2 fdivD (E.var 3) (E.con (.int 3)))) (E.con (.int 2147483399)))))
      (S.ret (M.v (E.op2 modD (E.op2 fdivD (E.op2 modD (E.op2 addD (E.op2 mulD (E.var 3) (E.var 3)) (E.op2 fdivD (E.var 3) (E.con (.int 7)))) (E.con (.int 2147483647))) (E.con (.int 11))) (E.var 2)))))) = tail at *
    by_cases c1 : 1000000000000000000 ≤ c
    · by_cases c2 : t0 < 60
      · -- the figures of a great cell
        obtain ⟨ρ', e', x, y, rfl⟩ := while_ok (t := M.v (T.and (T.of (E.op2 gtD (E.var 5) (E.con (.int 0)))) (T.of (E.op2 gtD (E.var 4) (E.con (.int 0)))))) (body := S.seq (S.set 5 (M.v (E.op2 fdivD (E.var 5) (E.con (.int 1000000))))) (S.set 4 (M.v (E.op2 subD (E.var 4) (E.con (.int 1))))))
          (fun n ρ => ∃ x y : Int, ρ = [.val sD, .val (.int k), .val (.int many), .val (.int c), .val (.int y), .val (.int x)] ∧ n = y.toNat)
          (fun ρ => ∃ x y : Int, ρ = [.val sD, .val (.int k), .val (.int many), .val (.int c), .val (.int y), .val (.int x)])
          (by
            rintro n ρ ⟨x, y, rfl, rfl⟩
            by_cases h1 : 0 < x
            · by_cases h2 : 0 < y
              · refine Or.inr ⟨by simp [h1, h2], (y - 1).toNat, _, by omega, ?_, ⟨x / 1000000, y - 1, rfl, rfl⟩⟩
                simp [o_fdiv x 1000000 (by decide) (by decide)]
              · exact Or.inl ⟨by simp [h1, h2], x, y, rfl⟩
            · exact Or.inl ⟨by simp [h1], x, y, rfl⟩) 20000 t0.toNat [.val sD, .val (.int k), .val (.int many), .val (.int c), .val (.int t0), .val (.int (c / 1000000000000000000))] ⟨_, _, rfl, rfl⟩ (by omega)
        by_cases h1 : 0 < x
        · refine ⟨x % 1000000 % many, Int.emod_nonneg _ (by omega), Int.emod_lt_of_pos _ hm, ?_⟩
          simp [ne, hls, em, ed, hix, hp18, c1, c2, o_fdiv c 1000000000000000000 (by decide) (by decide), e', h1, o_mod _ 1000000 (by decide), o_mod _ many hm]
        · have := key (c + 6553 * t0) (.val (.int y)) (.val (.int x))
          simp [ne, hls, em, ed, hix, hp18, c1, c2, o_fdiv c 1000000000000000000 (by decide) (by decide), e', h1, mq]
          exact this
      · have := key (c + 6553 * t0) (.val (.int t0)) .un
        simp [ne, hls, em, ed, hix, hp18, c1, c2, mq]
        exact this
    · have := key (c + 6553 * t0) (.val (.int t0)) .un
      simp [ne, hls, em, ed, hix, hp18, c1, mq]
      exact this
noncomputable def dr (ns : List Int) (k many : Int) : Int := match sem__law_drawn [scr (ns.map .int), .int k, .int many] with
  | .ok (.int v) => v
  | _ => 0
theorem dr_eq {ns : List Int} {k many : Int} (hl : ns.length ≤ 63) (hk : 0 ≤ k) (hk2 : k < 19999) (hm : 0 < many) : sem__law_drawn [scr (ns.map .int), .int k, .int many] = .ok (.int (dr ns k many)) ∧ 0 ≤ dr ns k many ∧ dr ns k many < many := by
  obtain ⟨v, h1, h2, e⟩ := drawn_ex ns k many hl hk hk2 hm
  have : dr ns k many = v := by rw [dr, e]
  rw [this]
  exact ⟨e, h1, h2⟩
end PV

/-! Q22: exchanges -/
namespace PV
open PySem PySem.Spec L2
@[simp] theorem q_tryE (cs : List Str) (i : Nat) (b s : SE → O) (ρ : SE) : S.tryE cs i b s ρ = match b ρ with
  | .exc c ρ1 => if c ∈ cs then (s (ρ1.set i (.val (exD c)))).gone i else .stuck
  | o => o := rfl
@[simp] theorem q_pick (sems : List (List D → R D)) (fi : En → R D) (fa : En → R (List D)) (ρ : En) : E.pick sems fi fa ρ = (fi ρ).bind fun k => match k with
  | .int j => match L2.atI sems j with
    | some sem => (fa ρ).bind sem
    | none => .stuck
  | _ => .stuck := rfl
abbrev eX (s r a t : Int) : D := .tuple [.int s, .int r, .int a, .int t]
/-- an exchange -/
structure VX (s r a t : Int) : Prop where
  s0 : 0 ≤ s
  r0 : 0 ≤ r
  st : s ≤ t
  ra : r ≤ a
  le : a - r ≤ t - s
  t9 : t ≤ 9999
  a9 : a ≤ 9999
theorem s_isexch {s r a t : Int} (h : VX s r a t) : sem_is_exchange [eX s r a t] = .ok (.bool true) := by
  have h1 : isiD "tuple" (eX s r a t) = some (.bool true) := rfl
  have h2 : lenF [eX s r a t] = some (.int 4) := rfl
  have h3 : I.itD (eX s r a t) = .ok ([s, r, a, t].map .int) := rfl
  have h4 : ∀ ρ, G.tup [1, 2, 3, 4] (eX s r a t) ρ = some ((((ρ.set 1 (.val (.int s))).set 2 (.val (.int r))).set 3 (.val (.int a))).set 4 (.val (.int t))) := fun ρ => rfl
  have s0 := h.s0; have r0 := h.r0; have st := h.st; have ra := h.ra; have le := h.le; have t9 := h.t9; have a9 := h.a9
  generalize eX s r a t = x at *
  simp only [sem_is_exchange, q_fn1]
  simp [h1, h2, h3]
  have hc := comp_all (a := GE.name 5) (f := E.call sem_is_time (A.cons (E.var 5) (A.nil))) (ρ := [some x, none, none, none, none, none]) PyData.int (fun _ => .bool true) [s, r, a, t] (fun y hy => ⟨_, rfl, by
    have : 0 ≤ y ∧ y ≤ 9999 := by simp at hy; omega
    simp [s_istime, this]⟩)
  simp at hc
  simp [hc, allF, asBools, h4, st, ra, le]
@[simp] theorem g_X (s r a t : Int) (i j k l : Nat) (ρ : SE) : G.tup [i, j, k, l] (eX s r a t) ρ = some ((((ρ.set i (.val (.int s))).set j (.val (.int r))).set k (.val (.int a))).set l (.val (.int t))) := rfl
theorem s_chkexch {s r a t : Int} (h : VX s r a t) : sem_check_exchange [eX s r a t] = .ok .none := by
  simp [sem_check_exchange, s_isexch h]
def NotX (d : D) : Prop := sem_is_exchange [d] = .ok (.bool false)
def NotT (d : D) : Prop := sem_is_time [d] = .ok (.bool false)
theorem s_chkexchX {d : D} (h : NotX d) : sem_check_exchange [d] = .exc "InvalidExchange" := by
  have h : sem_is_exchange [d] = .ok (.bool false) := h
  simp [sem_check_exchange, h]
theorem s_fdelay (s r a t : Int) : sem_find_delay [eX s r a t] = .ok (.int (t - s - (a - r))) := by
  simp [sem_find_delay]
theorem s_foff (s r a t : Int) : sem_find_offsets [eX s r a t] = .ok (eP (a - t, r - s)) := by
  simp [sem_find_offsets, eP]
theorem s_delay {s r a t : Int} (h : VX s r a t) : sem_delay [eX s r a t] = .ok (.int (t - s - (a - r))) := by
  have h1 := s_chkexch h
  have h2 := s_fdelay s r a t
  generalize eX s r a t = x at *
  simp [sem_delay, h1, h2]
theorem s_offsets {s r a t : Int} (h : VX s r a t) : sem_offsets [eX s r a t] = .ok (eP (a - t, r - s)) := by
  have h1 := s_chkexch h
  have h2 := s_foff s r a t
  generalize eX s r a t = x at *
  simp [sem_offsets, h1, h2]
theorem s_delayX {d : D} (h : NotX d) : sem_delay [d] = .exc "InvalidExchange" := by simp [sem_delay, s_chkexchX h]
theorem s_offsetsX {d : D} (h : NotX d) : sem_offsets [d] = .exc "InvalidExchange" := by simp [sem_offsets, s_chkexchX h]
def isT (i : Int) : Bool := decide (0 ≤ i ∧ i ≤ 9999)
theorem s_chkdel {x y : Int} (hx : 0 ≤ x ∧ x ≤ 9999) (hy : 0 ≤ y ∧ y ≤ 9999) : sem_check_delays [.int x, .int y] = .ok .none := by
  simp [sem_check_delays, s_istime, hx, hy]
theorem s_chkdelX1 {d e : D} (h : NotT d) : sem_check_delays [d, e] = .exc "InvalidDelays" := by
  have h : sem_is_time [d] = .ok (.bool false) := h
  simp [sem_check_delays, h]
theorem s_chkdelX2 {x : Int} {e : D} (hx : 0 ≤ x ∧ x ≤ 9999) (h : NotT e) : sem_check_delays [.int x, e] = .exc "InvalidDelays" := by
  have h : sem_is_time [e] = .ok (.bool false) := h
  simp [sem_check_delays, h, s_istime, hx]
theorem s_offwith {s r a t x y : Int} (h : VX s r a t) (hx : 0 ≤ x ∧ x ≤ 9999) (hy : 0 ≤ y ∧ y ≤ 9999) : sem_offsets_with [eX s r a t, .int x, .int y] = if t - s - (a - r) < x + y then .exc "InvalidDelays" else .ok (eP (a - t + y, r - s - x)) := by
  have h1 := s_chkexch h
  have h2 := s_foff s r a t
  have h3 := s_fdelay s r a t
  have h4 := s_chkdel hx hy
  generalize eX s r a t = z at *
  by_cases c : t - s - (a - r) < x + y
  · simp [sem_offsets_with, h1, h2, h3, h4, c]
  · simp [sem_offsets_with, h1, h2, h3, h4, c, eP]
theorem s_offwithX {d e f : D} (h : NotX d) : sem_offsets_with [d, e, f] = .exc "InvalidExchange" := by simp [sem_offsets_with, s_chkexchX h]
theorem s_offwithX1 {s r a t : Int} {d e : D} (h : VX s r a t) (hd : sem_check_delays [d, e] = .exc "InvalidDelays") : sem_offsets_with [eX s r a t, d, e] = .exc "InvalidDelays" := by
  have h1 := s_chkexch h
  generalize eX s r a t = z at *
  simp [sem_offsets_with, h1, hd]
theorem s_delayed {s r a t x y : Int} (h : VX s r a t) (hx : 0 ≤ x ∧ x ≤ 9999) (hy : 0 ≤ y ∧ y ≤ 9999) : sem_delayed [eX s r a t, .int x, .int y] = if 9999 < a + x ∨ 9999 < t + x + y then .exc "TooLarge" else .ok (eX s (r + x) (a + x) (t + x + y)) := by
  have h1 := s_chkexch h
  have h4 := s_chkdel hx hy
  by_cases c : 9999 < a + x
  · simp [sem_delayed, h1, h4, c]
  · by_cases c' : 9999 < t + x + y
    · simp [sem_delayed, h1, h4, c, c']
    · simp [sem_delayed, h1, h4, c, c']
theorem s_delayedX {d e f : D} (h : NotX d) : sem_delayed [d, e, f] = .exc "InvalidExchange" := by simp [sem_delayed, s_chkexchX h]
theorem s_delayedX1 {s r a t : Int} {d e : D} (h : VX s r a t) (hd : sem_check_delays [d, e] = .exc "InvalidDelays") : sem_delayed [eX s r a t, d, e] = .exc "InvalidDelays" := by
  have h1 := s_chkexch h
  generalize eX s r a t = z at *
  simp [sem_delayed, h1, hd]
theorem s_repof {nm : Str} {s r a t n : Int} (hn : nameOk nm) (h : VX s r a t) (h1 : t ≤ n) (h2 : n ≤ 9999) : sem_report_of [.str nm, eX s r a t, .int n] = if isT (n + (a - t)) && isT (n + (r - s)) then .ok (.tuple [.str nm, .int (n + (a - t)), .int (n + (r - s))]) else .exc "TooLarge" := by
  have hn : sem_is_name [.str nm] = .ok (.bool true) := hn
  have c1 := s_chkexch h
  have c2 := s_foff s r a t
  have ix : ixD (eX s r a t) (.int 3) = some (.int t) := rfl
  have g : ∀ (ρ : SE), G.tup [3, 4] (eP (a - t, r - s)) ρ = some ((ρ.set 3 (.val (.int (a - t)))).set 4 (.val (.int (r - s)))) := fun ρ => rfl
  have t0 := h.s0; have st := h.st
  have tn : 0 ≤ n ∧ n ≤ 9999 := by omega
  have nt : ¬ n < t := by omega
  generalize eX s r a t = z at *
  by_cases k1 : 0 ≤ n + (a - t) ∧ n + (a - t) ≤ 9999
  · by_cases k2 : 0 ≤ n + (r - s) ∧ n + (r - s) ≤ 9999
    · simp [sem_report_of, hn, c1, c2, ix, s_istime, tn, nt, g, k1, k2, isT]
    · simp [sem_report_of, hn, c1, c2, ix, s_istime, tn, nt, g, k1, k2, isT]
  · simp [sem_report_of, hn, c1, c2, ix, s_istime, tn, nt, g, k1, isT]
theorem s_repofX0 {d e f : D} (h : sem_is_name [d] = .ok (.bool false)) : sem_report_of [d, e, f] = .exc "InvalidName" := by simp [sem_report_of, h]
theorem s_repofX1 {nm : Str} {e f : D} (hn : nameOk nm) (h : NotX e) : sem_report_of [.str nm, e, f] = .exc "InvalidExchange" := by
  have hn : sem_is_name [.str nm] = .ok (.bool true) := hn
  simp [sem_report_of, hn, s_chkexchX h]
theorem s_repofX2 {nm : Str} {s r a t : Int} {f : D} (hn : nameOk nm) (h : VX s r a t) (hf : NotT f) : sem_report_of [.str nm, eX s r a t, f] = .exc "InvalidTime" := by
  have hn : sem_is_name [.str nm] = .ok (.bool true) := hn
  have hf : sem_is_time [f] = .ok (.bool false) := hf
  have c1 := s_chkexch h
  generalize eX s r a t = z at *
  simp [sem_report_of, hn, c1, hf]
theorem s_repofX3 {nm : Str} {s r a t n : Int} (hn : nameOk nm) (h : VX s r a t) (h1 : n < t) (h0 : 0 ≤ n ∧ n ≤ 9999) : sem_report_of [.str nm, eX s r a t, .int n] = .exc "InvalidTime" := by
  have hn : sem_is_name [.str nm] = .ok (.bool true) := hn
  have c1 := s_chkexch h
  have ix : ixD (eX s r a t) (.int 3) = some (.int t) := rfl
  generalize eX s r a t = z at *
  simp [sem_report_of, hn, c1, ix, s_istime, h0, h1]
/-! lists of exchanges -/
abbrev X4 := PySem.W.T4 Int Int Int Int
abbrev e4 (x : X4) : D := eX x.a x.b x.c x.d
def V4 (x : X4) : Prop := VX x.a x.b x.c x.d
theorem plain_X4 (l : List X4) : PyData.plainAll (l.map e4) = true := PySem.W.plainAll_map (α := X4) l
theorem s_commoff {l : List X4} (h : ∀ x ∈ l, V4 x) (hne : l ≠ []) (hl : l.length ≤ 10) : ∃ lo hi : Int, lo ∈ l.map (fun x => x.c - x.d) ∧ (∀ x ∈ l, x.c - x.d ≤ lo) ∧ hi ∈ l.map (fun x => x.b - x.a) ∧ (∀ x ∈ l, hi ≤ x.b - x.a) ∧
    sem_common_offsets [.list (l.map e4)] = .ok (if lo ≤ hi then eP (lo, hi) else .none) := by
  obtain ⟨lo, a1, a2, a3⟩ := max_ints (ns := l.map fun x => x.c - x.d) (by simpa using hne)
  obtain ⟨hi, b1, b2, b3⟩ := min_ints (ns := l.map fun x => x.b - x.a) (by simpa using hne)
  refine ⟨lo, hi, a2, fun x hx => a3 _ (List.mem_map.mpr ⟨x, hx, rfl⟩), b2, fun x hx => b3 _ (List.mem_map.mpr ⟨x, hx, rfl⟩), ?_⟩
  have hi1 : isiD "list" (.list (l.map e4)) = some (.bool true) := by
    have := plain_X4 l
    simp only [isiD, unscr]
    rw [if_pos (by simpa only [PyData.plain] using this)]
    rfl
  have l1 : (1 : Int) ≤ l.length := by have := List.length_pos_iff.mpr hne; omega
  have l2 : (l.length : Int) ≤ 10 := by omega
  simp [sem_common_offsets, hi1, l1, l2]
  rw [comp_all e4 (fun _ => .bool true) l (fun x hx => ⟨_, rfl, by
    have := s_isexch (h x hx)
    simp [this]⟩)]
  rw [q_bok, q_bok, q_bok, o_allm (fun _ => true)]
  simp
  rw [comp_all e4 (fun x => eP (x.c - x.d, x.b - x.a)) l (fun x _ => ⟨_, rfl, by simp [s_foff]⟩)]
  simp
  rw [comp_all (fun x : X4 => eP (x.c - x.d, x.b - x.a)) (fun x => .int (x.c - x.d)) l (fun x _ => ⟨_, rfl, by simp⟩)]
  rw [comp_all (fun x : X4 => eP (x.c - x.d, x.b - x.a)) (fun x => .int (x.b - x.a)) l (fun x _ => ⟨_, rfl, by simp⟩)]
  have e1 : (l.map fun x => PyData.int (x.c - x.d)) = (l.map fun x => x.c - x.d).map .int := by simp
  have e2 : (l.map fun x => PyData.int (x.b - x.a)) = (l.map fun x => x.b - x.a).map .int := by simp
  rw [e1, e2]
  simp only [q_bok, a1, b1, q_os]
  by_cases c : lo ≤ hi
  · simp [c, eP]
  · simp [c]
end PV

/-! Q11: logs -/
namespace PV
open PySem PySem.Spec L2
abbrev Lg := List (Int × List Rep)
def eL (p : Int × List Rep) : D := .tuple [.int p.1, eRs p.2]
abbrev eLs (l : Lg) : D := .tuple (l.map eL)
@[simp] theorem ixL0 (p : Int × List Rep) : ixD (eL p) (.int 0) = some (.int p.1) := rfl
@[simp] theorem ixL1 (p : Int × List Rep) : ixD (eL p) (.int 1) = some (eRs p.2) := rfl
@[simp] theorem gL (ρ : SE) (p : Int × List Rep) (i j : Nat) : G.tup [i, j] (eL p) ρ = some ((ρ.set i (.val (.int p.1))).set j (.val (eRs p.2))) := rfl
structure VLog (lg : Lg) : Prop where
  ne : lg ≠ []
  len : lg.length ≤ 6
  mom : ∀ p ∈ lg, 0 ≤ p.1 ∧ p.1 ≤ 999
  rep : ∀ p ∈ lg, VR p.2 ∧ p.2.length ≤ 6
  asc : ∀ (i : Nat) p q, lg[i]? = some p → lg[i + 1]? = some q → p.1 < q.1
  src : ∀ p ∈ lg, ∀ q ∈ lg, nms p.2 = nms q.2
theorem plain_eL (l : Lg) : PyData.plainAll (l.map eL) = true := by
  induction l with
  | nil => rfl
  | cons p l ih =>
    have := plain_reps p.2
    rw [List.map_cons, PyData.plainAll, ih]
    simp [eL, PyData.plain, PyData.plainAll, this]
theorem s_ismoment (i : Int) : sem_is_moment [.int i] = .ok (.bool (decide (0 ≤ i ∧ i ≤ 999))) := by
  simp [sem_is_moment, s_isint]
  by_cases h : 0 ≤ i <;> simp [h]
theorem s_isround {p : Int × List Rep} (h0 : 0 ≤ p.1 ∧ p.1 ≤ 999) (h : VR p.2) (h2 : p.2.length ≤ 6) : sem_is_round [eL p] = .ok (.bool true) := by
  have h1 : isiD "tuple" (eL p) = some (.bool true) := isi_tup _ (by simp [PyData.plain, PyData.plainAll, plain_reps])
  have h3 : lenF [eL p] = some (.int 2) := rfl
  have h4 : ((p.2.length : Nat) : Int) ≤ 6 := by omega
  simp [sem_is_round, h1, h3, s_ismoment, h0, s_arereps h, h4]
theorem s_islog {lg : Lg} (h : VLog lg) : sem_is_log [eLs lg] = .ok (.bool true) := by
  have hp := plain_eL lg
  have hl := h.len
  have hpos : 0 < lg.length := List.length_pos_iff.mpr h.ne
  obtain ⟨p0, r0, e0⟩ : ∃ p r, lg = p :: r := by
    cases lg with
    | nil => exact absurd rfl h.ne
    | cons p r => exact ⟨p, r, rfl⟩
  have hix : atI (lg.map eL) 0 = some (eL p0) := by rw [e0]; simp
  have c1 : (1 : Int) ≤ lg.length := by omega
  have c2 : (lg.length : Int) ≤ 6 := by omega
  simp [sem_is_log, hp, c1, c2]
  rw [comp_all eL (fun _ => .bool true) lg (fun p hp' => ⟨_, rfl, by simp [s_isround (h.mom p hp') (h.rep p hp').1 (h.rep p hp').2]⟩)]
  rw [q_bok, q_bok, q_bok, o_allm (fun _ => true) lg]
  simp [sliceD, cut1]
  have ez : I.z2 [eLs lg, .tuple (lg.map eL).tail] = .ok ((lg.zip (lg.drop 1)).map fun p => .tuple [eL p.1, eL p.2]) := by
    simp only [I.z2, zipL]
    rw [← List.map_tail, List.zipWith_map, List.zip, List.map_zipWith, List.drop_one]
  rw [ez, q_bok, comp_all (fun p : (Int × List Rep) × (Int × List Rep) => .tuple [eL p.1, eL p.2]) (fun _ => .bool true) _ (fun p hp' => ⟨_, rfl, by
    obtain ⟨i, h1, h2⟩ := zip_next lg p hp'
    have := h.asc i _ _ h1 h2
    simp [this]⟩)]
  rw [q_bok, q_bok, q_bok, o_allm (fun _ => true)]
  simp
  rw [comp_all eL (fun _ => .bool true) lg (fun p hp' => ⟨_, rfl, by
    have := h.src p hp' p0 (by rw [e0]; simp)
    simp [hix, s_sources', this]⟩)]
  rw [q_bok, q_bok, q_bok, o_allm (fun _ => true)]
  simp
@[simp] theorem q_chain3 (ρ : En) (g1 g2 g3 : D → D → Option D) (fa fb fc fd : En → R D) : E.chain3 g1 g2 g3 fa fb fc fd ρ = (fa ρ).bind fun x => (fb ρ).bind fun y => (R.ofO (g1 x y)).bind fun z => (asB z).bind fun k =>
  if k = true then (fc ρ).bind fun w => (R.ofO (g2 y w)).bind fun z2 => (asB z2).bind fun k2 => if k2 = true then (fd ρ).bind fun v => R.ofO (g3 w v) else .ok (.bool false) else .ok (.bool false) := rfl
theorem s_chkpace {a b : Int} (h0 : 0 ≤ a) (h1 : a ≤ b) (h2 : b ≤ 9) : sem_check_pace [eP (a, b)] = .ok .none := by
  have e1 : isiD "tuple" (eP (a, b)) = some (.bool true) := rfl
  have e2 : lenF [eP (a, b)] = some (.int 2) := rfl
  have e3 : I.itD (eP (a, b)) = .ok ([a, b].map .int) := rfl
  simp only [sem_check_pace]
  simp [e1, e2, e3]
  have := comp_all (a := GE.name 1) (f := E.call sem_is_integer (A.cons (E.var 1) (A.nil))) (ρ := [some (eP (a, b)), none]) PyData.int (fun _ => .bool true) [a, b] (fun x _ => ⟨_, rfl, by simp [s_isint]⟩)
  simp at this
  simp [this, allF, asBools, h0, h1, h2]
theorem s_chklog {lg : Lg} (h : VLog lg) {a b k : Int} (h0 : 0 ≤ a) (h1 : a ≤ b) (h2 : b ≤ 9) (k0 : 0 ≤ k) (k1 : k ≤ 10) : sem_check_log [eLs lg, eP (a, b), .int k] = .ok .none := by
  simp [sem_check_log, s_islog h, s_chkpace h0 h1 h2, s_chkliars k0 k1]
/-! ranges that grow; common times -/
def grow (l : List Rg) (a b : Int) : List Rg := mrg ((l.map fun p => ((p.1 + a, min (p.2 + b) 9999) : Rg)).filter fun p => decide (p.1 ≤ p.2))
theorem s_grown (l : List Rg) (a b : Int) (hl : l.length ≤ 1000000) : sem_grown [ePs l, .int a, .int b] = .ok (ePs (grow l a b)) := by
  have hf := List.length_filter_le (fun p : Rg => decide (p.1 ≤ p.2)) (l.map fun p => ((p.1 + a, min (p.2 + b) 9999) : Rg))
  rw [List.length_map] at hf
  simp [sem_grown]
  rw [comp_all eP (fun p => eP (p.1 + a, min (p.2 + b) 9999)) l (fun p _ => ⟨_, rfl, by simp [eP]⟩)]
  have e : (l.map fun p => eP (p.1 + a, min (p.2 + b) 9999)) = (l.map fun p => ((p.1 + a, min (p.2 + b) 9999) : Rg)).map eP := by simp
  rw [e]
  obtain ⟨L, hL⟩ : ∃ L : List Rg, (l.map fun p => ((p.1 + a, min (p.2 + b) 9999) : Rg)) = L := ⟨_, rfl⟩
  rw [hL] at hf ⊢
  have hm := s_merged (L.filter fun p => decide (p.1 ≤ p.2)) (Nat.le_trans hf hl)
  simp
  rw [comp_map eP (fun p => decide (p.1 ≤ p.2)) eP L (fun p _ => ⟨_, rfl, by simp, by simp [eP]⟩)]
  simp [hm, grow, hL]
theorem grow_ok {l : List Rg} {a b : Int} (hab : a ≤ b) (hl : ∀ p ∈ l, p.1 ≤ p.2) : (∃ c, Cn c (grow l a b)) ∧ ∀ t, In (grow l a b) t ↔ t ≤ 9999 ∧ ∃ s, In l s ∧ s + a ≤ t ∧ t ≤ s + b := by
  obtain ⟨h1, h2⟩ := mrg_ok (l := (l.map fun p => ((p.1 + a, min (p.2 + b) 9999) : Rg)).filter fun p => decide (p.1 ≤ p.2)) (fun p hp => by
    have := (List.mem_filter.mp hp).2
    simpa using this)
  refine ⟨h1, fun t => (h2 t).trans ?_⟩
  constructor
  · rintro ⟨q, hq, k1, k2⟩
    obtain ⟨hq, _⟩ := List.mem_filter.mp hq
    obtain ⟨p, hp, rfl⟩ := List.mem_map.mp hq
    have := hl p hp
    simp only at k1 k2
    refine ⟨by omega, max p.1 (t - b), ⟨p, hp, by omega, by omega⟩, by omega, by omega⟩
  · rintro ⟨h0, s, ⟨p, hp, k1, k2⟩, k3, k4⟩
    refine ⟨(p.1 + a, min (p.2 + b) 9999), List.mem_filter.mpr ⟨List.mem_map.mpr ⟨p, hp, rfl⟩, ?_⟩, ?_, ?_⟩
    · simp only [decide_eq_true_eq]; omega
    · simp only; omega
    · simp only; omega
theorem grow_len (l : List Rg) (a b : Int) : (grow l a b).length ≤ l.length := by
  have h1 := mrg_len ((l.map fun p => ((p.1 + a, min (p.2 + b) 9999) : Rg)).filter fun p => decide (p.1 ≤ p.2))
  have hf := List.length_filter_le (fun p : Rg => decide (p.1 ≤ p.2)) (l.map fun p => ((p.1 + a, min (p.2 + b) 9999) : Rg))
  rw [List.length_map] at hf
  rw [grow]; omega
def cross (l m : List Rg) : List Rg := l.flatMap fun p => m.map fun q => (max p.1 q.1, min p.2 q.2)
def comm (l m : List Rg) : List Rg := mrg ((cross l m).filter fun p => decide (p.1 ≤ p.2))
theorem cross_len (l m : List Rg) : (cross l m).length = l.length * m.length := by
  induction l with
  | nil => simp [cross]
  | cons p l ih => rw [cross, List.flatMap_cons, List.length_append, ← cross, ih, List.length_map, List.length_cons, Nat.succ_mul]; omega
theorem s_common (l m : List Rg) (h1 : l.length ≤ 10000) (h2 : m.length ≤ 100) : sem_common [ePs l, ePs m] = .ok (ePs (comm l m)) := by
  simp [sem_common]
  refine sat_run ?_
  refine sat_loop eP (fun pre ρ => ∃ u3 u4 u5 u6, ρ = [.val (ePs l), .val (ePs m), .own ((cross pre m).map eP), u3, u4, u5, u6]) l rfl ⟨_, _, _, _, rfl⟩ ?_ ?_
  · rintro p x q ρ e ⟨u3, u4, u5, u6, rfl⟩
    refine ⟨_, rfl, ?_⟩
    have hc : cross (p ++ [x]) m = cross p m ++ m.map fun q => (max x.1 q.1, min x.2 q.2) := by simp [cross]
    have hp : p.length ≤ 10000 := by have := congrArg List.length e; simp at this; omega
    have hb : (cross p m).length ≤ 1000000 := by
      rw [cross_len]
      exact Nat.le_trans (Nat.mul_le_mul hp h2) (by decide)
    simp
    rw [comp_all eP (fun q => eP (max x.1 q.1, min x.2 q.2)) m (fun q _ => ⟨_, rfl, by simp [eP]⟩)]
    simp
    rw [if_pos (by omega)]
    exact sat_nx ⟨_, _, _, _, by rw [hc, List.map_append, List.map_map]; rfl⟩
  · rintro ρ' ⟨u3, u4, u5, u6, rfl⟩
    have hb : (cross l m).length ≤ 1000000 := by
      rw [cross_len]
      exact Nat.le_trans (Nat.mul_le_mul h1 h2) (by decide)
    have hf := List.length_filter_le (fun p : Rg => decide (p.1 ≤ p.2)) (cross l m)
    simp
    rw [comp_map eP (fun p => decide (p.1 ≤ p.2)) eP (cross l m) (fun p _ => ⟨_, rfl, by simp, by simp [eP]⟩)]
    simp [s_merged _ (show ((cross l m).filter fun p => decide (p.1 ≤ p.2)).length ≤ 1000000 by omega)]
    rfl
theorem comm_ok (l m : List Rg) : (∃ c, Cn c (comm l m)) ∧ ∀ t, In (comm l m) t ↔ In l t ∧ In m t := by
  obtain ⟨h1, h2⟩ := mrg_ok (l := (cross l m).filter fun p => decide (p.1 ≤ p.2)) (fun p hp => by
    have := (List.mem_filter.mp hp).2
    simpa using this)
  refine ⟨h1, fun t => (h2 t).trans ?_⟩
  constructor
  · rintro ⟨q, hq, k1, k2⟩
    obtain ⟨hq, _⟩ := List.mem_filter.mp hq
    obtain ⟨p, hp, hq⟩ := List.mem_flatMap.mp hq
    obtain ⟨r, hr, rfl⟩ := List.mem_map.mp hq
    simp only at k1 k2
    exact ⟨⟨p, hp, by omega, by omega⟩, ⟨r, hr, by omega, by omega⟩⟩
  · rintro ⟨⟨p, hp, a1, a2⟩, ⟨r, hr, b1, b2⟩⟩
    refine ⟨(max p.1 r.1, min p.2 r.2), List.mem_filter.mpr ⟨List.mem_flatMap.mpr ⟨p, hp, List.mem_map.mpr ⟨r, hr, rfl⟩⟩, ?_⟩, ?_, ?_⟩
    · simp only [decide_eq_true_eq]; omega
    · simp only; omega
    · simp only; omega
end PV

/-! Q12: following a log -/
namespace PV
open PySem PySem.Spec L2
theorem cn_zero {l : List Rg} {c : Int} (h : Cn c l) (h0 : ∀ t, In l t → 0 ≤ t) : Cn 0 l := by
  cases l with
  | nil => trivial
  | cons p r => exact ⟨h0 p.1 ((in_cons ..).mpr (Or.inl ⟨Int.le_refl _, h.2.1⟩)), h.2⟩
theorem cn_len : ∀ {l : List Rg} {b z : Int}, Cn b l → (∀ t, In l t → t ≤ z) → b ≤ z + 1 → 2 * (l.length : Int) ≤ z - b + 2
  | [], b, z, _, _, h => by simp; omega
  | p :: r, b, z, h, hz, hb => by
    have h1 := h.1
    have h2 := h.2.1
    have h3 := hz p.2 ((in_cons ..).mpr (Or.inl ⟨h2, Int.le_refl _⟩))
    have hr : ∀ t, In r t → t ≤ z := fun t ht => hz t ((in_cons ..).mpr (Or.inr ht))
    cases hrr : r with
    | nil => simp; omega
    | cons q s =>
      rw [hrr] at h hr
      have k := h.2.2
      have h4 := hr q.1 ((in_cons ..).mpr (Or.inl ⟨Int.le_refl _, k.2.1⟩))
      have h5 := k.1
      have ih := cn_len k hr (by omega)
      rw [List.length_cons]
      push_cast at ih ⊢
      omega
theorem cn_next : ∀ {l : List Rg} {b : Int}, Cn b l → ∀ (i : Nat) p q, l[i]? = some p → l[i + 1]? = some q → p.2 + 1 < q.1
  | [], _, _, i, p, q, h1, _ => by simp at h1
  | [x], _, _, i, p, q, h1, h2 => by simp at h2
  | x :: y :: r, b, h, 0, p, q, h1, h2 => by
    simp at h1 h2
    subst h1; subst h2
    have := h.2.2.1
    omega
  | x :: y :: r, b, h, i + 1, p, q, h1, h2 => cn_next h.2.2 i p q (by simpa using h1) (by simpa using h2)
/-- ranges as the program returns them -/
def GP (l : List Rg) : Prop := Cn 0 l ∧ ∀ t, In l t → t ≤ 9999
theorem GP.len {l : List Rg} (h : GP l) : l.length ≤ 10000 := by
  have := cn_len h.1 h.2 (by decide)
  omega
theorem gp_twith {rs : List Rep} (h : VT rs) (m : Int) : GP (twith rs m) := by
  obtain ⟨⟨b, h1⟩, h2⟩ := twith_ok h m
  exact ⟨cn_zero h1 (fun t ht => ((h2 t).mp ht).1), fun t ht => ((h2 t).mp ht).2.1⟩
def stp (a b k : Int) (s : Int × List Rg) (p : Int × List Rep) : Int × List Rg :=
  (p.1, comm (grow s.2 (a * (p.1 - s.1)) (b * (p.1 - s.1))) (twith p.2 (p.2.length - k)))
def led0 (k : Int) (p : Int × List Rep) : Int × List Rg := (p.1, twith p.2 (p.2.length - k))
def led (a b k : Int) : Lg → List Rg
  | [] => []
  | p :: r => (r.foldl (stp a b k) (led0 k p)).2
theorem mul_le {a b m : Int} (h : a ≤ b) (hm : 0 ≤ m) : a * m ≤ b * m := Int.mul_le_mul_of_nonneg_right h hm
theorem stp_ok {a b k : Int} {s : Int × List Rg} {p : Int × List Rep} (hab : a ≤ b) (hs : GP s.2) (hp : VT p.2) (hm : s.1 ≤ p.1) :
    GP (stp a b k s p).2 ∧ ∀ t, In (stp a b k s p).2 t ↔ (0 ≤ t ∧ t ≤ 9999 ∧ (p.2.length : Int) - k ≤ (cnt p.2 t : Int)) ∧ ∃ u, In s.2 u ∧ u + a * (p.1 - s.1) ≤ t ∧ t ≤ u + b * (p.1 - s.1) := by
  have hmul := mul_le hab (m := p.1 - s.1) (by omega)
  obtain ⟨_, g2⟩ := grow_ok (l := s.2) hmul (fun q hq => cn_mem_le hs.1 hq)
  obtain ⟨⟨c, c1⟩, c2⟩ := comm_ok (grow s.2 (a * (p.1 - s.1)) (b * (p.1 - s.1))) (twith p.2 (p.2.length - k))
  obtain ⟨_, t2⟩ := twith_ok hp (p.2.length - k)
  have mem : ∀ t, In (stp a b k s p).2 t ↔ (0 ≤ t ∧ t ≤ 9999 ∧ (p.2.length : Int) - k ≤ (cnt p.2 t : Int)) ∧ ∃ u, In s.2 u ∧ u + a * (p.1 - s.1) ≤ t ∧ t ≤ u + b * (p.1 - s.1) := by
    intro t
    refine (c2 t).trans ?_
    rw [g2, t2]
    constructor
    · rintro ⟨⟨x1, x2⟩, x3⟩; exact ⟨x3, x2⟩
    · rintro ⟨x3, x2⟩; exact ⟨⟨x3.2.1, x2⟩, x3⟩
  exact ⟨⟨cn_zero c1 (fun t ht => ((mem t).mp ht).1.1), fun t ht => ((mem t).mp ht).1.2.1⟩, mem⟩
theorem VLog.pw {lg : Lg} (h : VLog lg) : lg.Pairwise (fun p q => p.1 < q.1) := pw_of_next (R := fun p q : Int × List Rep => p.1 < q.1) (fun _ _ _ h1 h2 => by omega) lg h.asc
/-- what holds of each prefix -/
theorem fold_gp {a b k : Int} (hab : a ≤ b) {p0 : Int × List Rep} : ∀ (r pre : Lg), (p0 :: (pre ++ r)).Pairwise (fun p q => p.1 < q.1) → (∀ p ∈ p0 :: (pre ++ r), VT p.2) →
    GP (pre.foldl (stp a b k) (led0 k p0)).2 → (∃ y ∈ p0 :: pre, (pre.foldl (stp a b k) (led0 k p0)).1 = y.1) → GP ((pre ++ r).foldl (stp a b k) (led0 k p0)).2 ∧ ∃ y ∈ p0 :: (pre ++ r), ((pre ++ r).foldl (stp a b k) (led0 k p0)).1 = y.1
  | [], pre, _, _, h1, h2 => by rw [List.append_nil]; exact ⟨h1, h2⟩
  | x :: r, pre, pw, vt, h1, ⟨y, hy, ey⟩ => by
    have hlt : (pre.foldl (stp a b k) (led0 k p0)).1 < x.1 := by
      rw [ey]
      have := List.pairwise_append.mp (show ((p0 :: pre) ++ x :: r).Pairwise _ from pw)
      exact this.2.2 y hy x (by simp)
    have := fold_gp (a := a) (b := b) (k := k) hab r (pre ++ [x]) (by rw [List.append_assoc]; exact pw) (by rw [List.append_assoc]; exact vt)
      (by rw [List.foldl_append]; exact (stp_ok hab h1 (vt x (by simp)) (by omega)).1) ⟨x, by simp, by rw [List.foldl_append]; rfl⟩
    rwa [List.append_assoc] at this
theorem pre_gp {a b k : Int} (hab : a ≤ b) {p0 : Int × List Rep} {r pre : Lg} (pw : (p0 :: (pre ++ r)).Pairwise (fun p q => p.1 < q.1)) (vt : ∀ p ∈ p0 :: (pre ++ r), VT p.2) :
    GP (pre.foldl (stp a b k) (led0 k p0)).2 ∧ ∀ x q, r = x :: q → (pre.foldl (stp a b k) (led0 k p0)).1 < x.1 := by
  have pw' : (p0 :: pre).Pairwise (fun p q => p.1 < q.1) := (List.pairwise_append.mp (show ((p0 :: pre) ++ r).Pairwise _ from pw)).1
  obtain ⟨h1, y, hy, ey⟩ := fold_gp (a := a) (b := b) (k := k) hab (p0 := p0) pre [] (by simpa using pw') (fun p hp => vt p (by simp at hp ⊢; rcases hp with h | h; exact Or.inl h; exact Or.inr (Or.inl h))) (gp_twith (vt p0 (by simp)) _) ⟨p0, by simp, rfl⟩
  simp only [List.nil_append] at h1 hy ey
  refine ⟨h1, fun x q e => ?_⟩
  rw [ey]
  subst e
  have := List.pairwise_append.mp (show ((p0 :: pre) ++ x :: q).Pairwise _ from pw)
  exact this.2.2 y hy x (by simp)
theorem mul9 {a : Int} (h0 : 0 ≤ a) (h1 : a ≤ 9) (m : Int) : mulD (.int a) (.int m) = some (.int (a * m)) := o_mul1 _ _ (by omega)
theorem s_led {lg : Lg} (h : VLog lg) {a b k : Int} (h0 : 0 ≤ a) (h1 : a ≤ b) (h2 : b ≤ 9) : sem_led_through [eLs lg, eP (a, b), .int k] = .ok (ePs (led a b k lg)) := by
  cases lg with
  | nil => exact absurd rfl h.ne
  | cons p0 r =>
    have vt : ∀ p ∈ p0 :: r, VT p.2 := fun p hp => (h.rep p hp).1.vt
    have pw := h.pw
    simp [sem_led_through, s_ptimes (vt p0 (by simp)), sliceD, cut1]
    refine sat_run ?_
    refine sat_loop eL (fun pre ρ => ∃ u5 u6 u7, ρ = [.val (eLs (p0 :: r)), .val (eP (a, b)), .val (.int k), .val (.int (pre.foldl (stp a b k) (led0 k p0)).1), .val (ePs (pre.foldl (stp a b k) (led0 k p0)).2), u5, u6, u7]) r rfl ⟨_, _, _, rfl⟩ ?_ ?_
    · rintro pre x q ρ e ⟨u5, u6, u7, rfl⟩
      refine ⟨_, rfl, ?_⟩
      subst e
      obtain ⟨g1, g2⟩ := pre_gp (a := a) (b := b) (k := k) h1 pw vt
      rw [List.foldl_append, List.foldl_cons, List.foldl_nil]
      generalize pre.foldl (stp a b k) (led0 k p0) = s at *
      have m1 := mul9 h0 (by omega) (x.1 - s.1)
      have m2 := mul9 (show 0 ≤ b by omega) h2 (x.1 - s.1)
      have e1 := s_grown s.2 (a * (x.1 - s.1)) (b * (x.1 - s.1)) (Nat.le_trans g1.len (by decide))
      have vx := vt x (by simp)
      have e2 := s_common (grow s.2 (a * (x.1 - s.1)) (b * (x.1 - s.1))) (twith x.2 (x.2.length - k)) (Nat.le_trans (grow_len _ _ _) g1.len) (Nat.le_trans (twith_len vx _) (by decide))
      simp [m1, m2, e1, e2, s_ptimes vx]
      exact sat_nx ⟨_, _, _, rfl⟩
    · rintro ρ' ⟨u5, u6, u7, rfl⟩
      simp
      rfl
theorem s_followed {lg : Lg} (h : VLog lg) {a b k : Int} (h0 : 0 ≤ a) (h1 : a ≤ b) (h2 : b ≤ 9) (k0 : 0 ≤ k) (k1 : k ≤ 10) : sem_followed [eLs lg, eP (a, b), .int k] = .ok (ePs (led a b k lg)) := by
  simp [sem_followed, s_chklog h h0 h1 h2 k0 k1, s_led h h0 h1 h2]
theorem led_gp {lg : Lg} (h : VLog lg) {a b k : Int} (h1 : a ≤ b) : GP (led a b k lg) := by
  cases lg with
  | nil => exact absurd rfl h.ne
  | cons p0 r =>
    have vt : ∀ p ∈ p0 :: r, VT p.2 := fun p hp => (h.rep p hp).1.vt
    have := (pre_gp (a := a) (b := b) (k := k) h1 (p0 := p0) (r := []) (pre := r) (by simpa using h.pw) (by simpa using vt)).1
    exact this
/-! neat -/
theorem s_neat {l : List Rg} (h : GP l) : sem__law_neat [ePs l] = .ok (.bool true) := by
  simp [sem__law_neat]
  rw [comp_all eP (fun _ => .bool true) l (fun p hp => ⟨_, rfl, by
    have a1 := cn_mem_le h.1 hp
    have a2 := Cn.lo h.1 ⟨p, hp, Int.le_refl _, a1⟩
    have a3 := h.2 p.2 ⟨p, hp, a1, Int.le_refl _⟩
    simp [a1, a2, a3]⟩)]
  rw [q_bok, q_bok, q_bok, o_allm (fun _ => true)]
  simp [sliceD, cut1]
  have ez : zipL (l.map eP) (l.map eP).tail = (l.zip (l.drop 1)).map fun p => .tuple [eP p.1, eP p.2] := by
    rw [← List.map_tail, zipL, List.zipWith_map, List.zip, List.map_zipWith, List.drop_one]
  rw [ez, comp_all (fun p : Rg × Rg => .tuple [eP p.1, eP p.2]) (fun _ => .bool true) _ (fun p hp' => ⟨_, rfl, by
    obtain ⟨i, h1, h2⟩ := zip_next l p hp'
    have := cn_next h.1 i _ _ h1 h2
    simp [this]⟩)]
  rw [q_bok, q_bok, q_bok, o_allm (fun _ => true)]
  simp
end PV

/-! Q23: the later laws' reports and possible times -/
namespace PV
open PySem PySem.Spec L2
theorem cn_snoc' : ∀ {l : List Rg} {c a b : Int}, Cn c l → (∀ p ∈ l, p.2 + 2 ≤ a) → a ≤ b → c ≤ a → Cn c (l ++ [(a, b)])
  | [], c, a, b, _, _, h1, h2 => ⟨h2, h1, trivial⟩
  | p :: r, c, a, b, h, hp, h1, h2 => ⟨h.1, h.2.1, cn_snoc' h.2.2 (fun q hq => hp q (List.mem_cons_of_mem _ hq)) h1 (hp p (by simp))⟩
theorem cn_unsnoc : ∀ {l : List Rg} {c : Int} {q : Rg}, Cn c (l ++ [q]) → Cn c l ∧ c ≤ q.1 ∧ q.1 ≤ q.2 ∧ ∀ p ∈ l, p.2 + 2 ≤ q.1
  | [], c, q, h => ⟨trivial, h.1, h.2.1, by simp⟩
  | p :: r, c, q, h => by
    obtain ⟨h1, h2, h3, h4⟩ := cn_unsnoc h.2.2
    have := h.1; have := h.2.1
    refine ⟨⟨h.1, h.2.1, h1⟩, by omega, h3, fun x hx => ?_⟩
    rcases List.mem_cons.mp hx with rfl | hx
    · exact h2
    · exact h4 x hx
theorem pcs_next (z : Int) : ∀ (l : List Int) (i : Nat) (p q : Rg), (pcs z l)[i]? = some p → (pcs z l)[i + 1]? = some q → q.1 = p.2 + 1
  | [], i, p, q, h, _ => by simp [pcs] at h
  | [a], i, p, q, _, h => by simp [pcs] at h
  | a :: b :: r, 0, p, q, h1, h2 => by
    simp [pcs] at h1
    subst h1
    cases r with
    | nil => simp [pcs] at h2; subst h2; simp
    | cons c r => simp [pcs] at h2; subst h2; simp
  | a :: b :: r, i + 1, p, q, h1, h2 => pcs_next z (b :: r) i p q (by simpa [pcs] using h1) (by simpa [pcs] using h2)
theorem pcs_snoc (z : Int) : ∀ (l : List Int), l ≠ [] → pcs z (l ++ [z + 1]) = pcs z l ++ [(z + 1, z)]
  | [], h => absurd rfl h
  | [a], _ => by simp [pcs]
  | a :: b :: r, _ => by
    have := pcs_snoc z (b :: r) (by simp)
    simp only [List.cons_append] at this ⊢
    rw [pcs, this, pcs]; rfl
def bd2 (rs : List Rep) : List Int := (0 :: rs.map (·.b)) ++ rs.map fun r => r.c + 1
theorem sded_bd2 {rs : List Rep} (h : VT rs) : sded (bd2 rs) = sded (bds rs) ∨ sded (bd2 rs) = sded (bds rs) ++ [10000] := by
  have m2 : ∀ x, x ∈ sded (bd2 rs) ↔ x = 0 ∨ (∃ r ∈ rs, r.b = x) ∨ (∃ r ∈ rs, r.c + 1 = x) := fun x => by
    rw [mem_sded, bd2]; simp [or_assoc]
  by_cases c : ∃ r ∈ rs, r.c = 9999
  · right
    refine strict_ext (sded_sorted _) ?_ fun z => ?_
    · rw [List.pairwise_append]
      exact ⟨sded_sorted _, by simp, fun x hx y hy => by
        have := (bds_rng h x hx).2
        simp at hy; omega⟩
    · rw [m2, List.mem_append, mem_bds]
      constructor
      · rintro (k | k | ⟨r, hr, e⟩)
        · exact Or.inl (Or.inl k)
        · exact Or.inl (Or.inr (Or.inl k))
        · by_cases k : r.c < 9999
          · exact Or.inl (Or.inr (Or.inr ⟨r, hr, k, e⟩))
          · have := h.2 r hr
            exact Or.inr (by simp; omega)
      · rintro ((k | k | ⟨r, hr, _, e⟩) | k)
        · exact Or.inl k
        · exact Or.inr (Or.inl k)
        · exact Or.inr (Or.inr ⟨r, hr, e⟩)
        · obtain ⟨r, hr, e⟩ := c
          simp at k
          exact Or.inr (Or.inr ⟨r, hr, by omega⟩)
  · left
    refine strict_ext (sded_sorted _) (sded_sorted _) fun z => ?_
    rw [m2, mem_bds]
    constructor
    · rintro (k | k | ⟨r, hr, e⟩)
      · exact Or.inl k
      · exact Or.inr (Or.inl k)
      · refine Or.inr (Or.inr ⟨r, hr, ?_, e⟩)
        have := h.2 r hr
        apply Decidable.byContradiction
        intro hn
        exact c ⟨r, hr, by omega⟩
    · rintro (k | k | ⟨r, hr, _, e⟩)
      · exact Or.inl k
      · exact Or.inr (Or.inl k)
      · exact Or.inr (Or.inr ⟨r, hr, e⟩)
/-- what the law has found after some pieces -/
structure Fnd (P : Int → Bool) (pre acc : List Rg) : Prop where
  cn : Cn 0 acc
  mem : ∀ t, In acc t ↔ ∃ p ∈ pre, P p.1 = true ∧ p.1 ≤ t ∧ t ≤ p.2
  lst : ∀ q ∈ acc, ∃ p ∈ pre, q.2 ≤ p.2
  len : acc.length ≤ pre.length
theorem cnt_lies (rs : List Rep) (t : Int) : (((rs.filter fun r => !(decide (r.b ≤ t) && decide (t ≤ r.c))).length : Nat) : Int) = rs.length - cnt rs t := by
  have : ∀ l : List Rep, (l.filter fun r => !(decide (r.b ≤ t) && decide (t ≤ r.c))).length + cnt l t = l.length := by
    intro l
    induction l with
    | nil => rfl
    | cons r l ih =>
      by_cases c : hits t r = true
      · have c' : (decide (r.b ≤ t) && decide (t ≤ r.c)) = true := c
        have e : cnt (r :: l) t = cnt l t + 1 := by simp [cnt, c]
        rw [List.filter_cons_of_neg (by simp only [c']; simp), e, List.length_cons]; omega
      · have c' : (decide (r.b ≤ t) && decide (t ≤ r.c)) = false := by simpa [hits] using c
        have e : cnt (r :: l) t = cnt l t := by simp [cnt, c]
        rw [List.filter_cons_of_pos (by simp only [c']; rfl), e, List.length_cons, List.length_cons]; omega
  have := this rs
  omega
theorem asc_idx {l : List Rg} (h : ∀ (i : Nat) p q, l[i]? = some p → l[i + 1]? = some q → q.1 = p.2 + 1) (hl : ∀ p ∈ l, p.1 ≤ p.2 + 1) : ∀ {pre q : List Rg} {x : Rg}, l = pre ++ x :: q → ∀ p ∈ pre, p.2 < x.1 := by
  have key : ∀ (j i : Nat) (p x : Rg), l[i]? = some p → l[i + j + 1]? = some x → p.2 < x.1 := by
    intro j
    induction j with
    | zero => intro i p x h1 h2; have := h i p x h1 h2; omega
    | succ j ih =>
      intro i p x h1 h2
      have hlt : i + j + 1 < l.length := by have := (List.getElem?_eq_some_iff.mp h2).1; omega
      obtain ⟨y, hy⟩ : ∃ y, l[i + j + 1]? = some y := ⟨_, List.getElem?_eq_getElem hlt⟩
      have a1 := ih i p y h1 hy
      have a2 := h (i + j + 1) y x hy (by rw [show i + j + 1 + 1 = i + (j + 1) + 1 by omega]; exact h2)
      have a3 := hl y (List.mem_of_getElem? hy)
      omega
  intro pre q x e p hp
  obtain ⟨i, hi, ei⟩ := List.getElem_of_mem hp
  have h1 : l[i]? = some p := by rw [e, List.getElem?_append_left hi, List.getElem?_eq_getElem hi, ei]
  have h2 : l[pre.length]? = some x := by rw [e, List.getElem?_append_right (Nat.le_refl _)]; simp
  exact key (pre.length - i - 1) i p x h1 (by rw [show i + (pre.length - i - 1) + 1 = pre.length by omega]; exact h2)
theorem nolist_P (p : Rg) : nolist (eP p) = true := rfl
theorem s_lawposs {rs : List Rep} (h : VT rs) (k : Int) : sem__law_possible [eRs rs, .int k] = .ok (ePs (twith rs (rs.length - k))) := by
  have hn := h.1
  have hlen2 : (bd2 rs).length ≤ 21 := by simp [bd2]; omega
  have hpl := (pieces_ok h).2.2.1
  obtain ⟨p1, p2, _, _⟩ := pieces_ok h
  obtain ⟨ss, hss⟩ : ∃ ss, sded (bd2 rs) = ss := ⟨_, rfl⟩
  have hssl : ss.length ≤ 21 := by rw [← hss]; exact Nat.le_trans (sded_len _) hlen2
  -- the pieces that are walked
  obtain ⟨L, hL, hLn, hL1, hL2⟩ : ∃ L, pcs 9999 ss = L ∧ (∀ (i : Nat) p q, L[i]? = some p → L[i + 1]? = some q → q.1 = p.2 + 1) ∧ (L = pieces rs ∨ L = pieces rs ++ [(10000, 9999)]) ∧ L.length ≤ 22 := by
    refine ⟨_, rfl, pcs_next 9999 ss, ?_, ?_⟩
    · rcases sded_bd2 h with e | e
      · left; rw [← hss, e]; rfl
      · right
        rw [← hss, e]
        obtain ⟨r0, e0⟩ := bds_head h
        exact pcs_snoc 9999 _ (by rw [e0]; simp)
    · rcases sded_bd2 h with e | e
      · rw [← hss, e]; show (pieces rs).length ≤ 22; omega
      · obtain ⟨r0, e0⟩ := bds_head h
        rw [← hss, e, show (10000 : Int) = 9999 + 1 from rfl, pcs_snoc 9999 _ (by rw [e0]; simp), List.length_append]
        show (pieces rs).length + 1 ≤ 22; omega
  have hLp : ∀ p ∈ L, (0 ≤ p.1 ∧ p.1 ≤ p.2 ∧ p.2 ≤ 9999 ∧ ∀ t, p.1 ≤ t → t ≤ p.2 → ∀ r ∈ rs, hits t r = hits p.1 r) ∨ p = (10000, 9999) := fun p hp => by
    rcases hL1 with e | e
    · rw [e] at hp; exact Or.inl (p1 p hp)
    · rw [e] at hp
      rcases List.mem_append.mp hp with hp | hp
      · exact Or.inl (p1 p hp)
      · exact Or.inr (by simpa using hp)
  have hLi : ∀ t, 0 ≤ t → t ≤ 9999 → ∃ p ∈ L, p.1 ≤ t ∧ t ≤ p.2 := fun t t0 t1 => by
    obtain ⟨p, hp, q⟩ := p2 t t0 t1
    rcases hL1 with e | e
    · exact ⟨p, by rw [e]; exact hp, q⟩
    · exact ⟨p, by rw [e]; simp [hp], q⟩
  have hle : ∀ p ∈ L, p.1 ≤ p.2 + 1 := fun p hp => by
    rcases hLp p hp with k | k
    · omega
    · rw [k]; decide
  obtain ⟨P, hP⟩ : ∃ P : Int → Bool, P = fun t => decide (t < 10000 ∧ (rs.length : Int) - cnt rs t ≤ k) := ⟨_, rfl⟩
  simp only [sem__law_possible, q_fn2]
  refine sat_run ?_
  refine sat_seq (ρ' := [.val (eRs rs), .val (.int k), .val (.list (ss.map .int)), .un, .un, .un, .un, .un, .un, .un]) ?_ ?_
  · simp
    rw [comp_all eR (fun r => .int r.b) rs (fun r _ => ⟨_, rfl, by simp⟩), comp_all eR (fun r => .int (r.c + 1)) rs (fun r _ => ⟨_, rfl, by simp⟩)]
    have e1 : addD (.list [.int 0]) (.list (rs.map fun r => .int r.b)) = some (.list ((0 :: rs.map (·.b)).map .int)) := by
      rw [o_addl _ _ (by simp; omega)]; simp
    have e2 : addD (.list ((0 :: rs.map (·.b)).map .int)) (.list (rs.map fun r => .int (r.c + 1))) = some (.list ((bd2 rs).map .int)) := by
      rw [o_addl _ _ (by simp; omega), bd2]; simp
    simp only [q_bok, q_os, e1, e2]
    have e3 : sortSetF [.list ((bd2 rs).map .int)] = some (.list (ss.map .int)) := by
      simp only [sortSetF, asInts_map]
      rw [if_pos (by omega), hss]
    simp [e3]
  refine sat_seq (ρ' := [.val (eRs rs), .val (.int k), .val (.list (ss.map .int)), .own [], .un, .un, .un, .un, .un, .un]) (by simp) ?_
  have ez : I.z2 [.list (ss.map .int), .list ((ss.map .int).drop 1 ++ [.int 10000])] = .ok (L.map fun p => .tuple [.int p.1, .int (p.2 + 1)]) := by
    have e1 : (ss.map PyData.int).drop 1 ++ [.int 10000] = (ss.drop 1 ++ [9999 + 1]).map PyData.int := by simp
    have e2 := zip_pcs 9999 ss
    simp only [I.z2, zipL]
    rw [e1, ← hL, ← e2, List.map_zipWith, List.zipWith_map]
    simp
  have ea : addD (.list ((ss.map PyData.int).drop 1)) (.list [.int 10000]) = some (.list ((ss.map .int).drop 1 ++ [.int 10000])) := o_addl _ _ (by simp; omega)
  simp only [List.drop_one] at ez ea
  simp [sliceD, cut1]
  rw [ea]
  simp only [q_os, q_bok, q_acons, q_anil]
  rw [ez]
  simp only [q_on]
  refine sat_loop (fun p : Rg => PyData.tuple [.int p.1, .int (p.2 + 1)]) (fun pre ρ => ∃ (acc : List Rg) (u4 u5 u6 u7 u8 u9 : B), ρ = [.val (eRs rs), .val (.int k), .val (.list (ss.map .int)), .own (acc.map eP), u4, u5, u6, u7, u8, u9] ∧ Fnd P pre acc) L rfl ?_ ?_ ?_
  · exact ⟨[], _, _, _, _, _, _, rfl, ⟨trivial, fun t => by simp [in_nil], by simp, by simp⟩⟩
  · rintro pre x q ρ e ⟨acc, u4, u5, u6, u7, u8, u9, rfl, fd⟩
    refine ⟨_, rfl, ?_⟩
    have hpl : pre.length < L.length := by rw [e]; simp
    have hx := hLp x (by rw [e]; simp)
    have hbe := asc_idx hLn hle e
    have hac : ∀ q ∈ acc, q.2 < x.1 := fun q hq => by
      obtain ⟨p, hp, k1⟩ := fd.lst q hq
      have := hbe p hp; omega
    have fl := fd.len
    have hcl := cnt_lies rs x.1
    have hcomp : compF (GE.tup [7, 8, 9]) (T.not (T.of (E.chain leD leD (E.var 8) (E.var 4) (E.var 9)))) (E.con (.int 1)) [some (eRs rs), some (.int k), some (.list (ss.map .int)), none, some (.int x.1), some (.int (x.2 + 1)), u6.v, none, none, none] (rs.map eR) = .ok ((rs.filter fun r => !(decide (r.b ≤ x.1) && decide (x.1 ≤ r.c))).map fun _ => .int 1) := by
      rw [comp_map eR (fun r => !(decide (r.b ≤ x.1) && decide (x.1 ≤ r.c))) (fun _ => .int 1) rs (fun r _ => ⟨_, rfl, by
        simp
        by_cases c1 : r.b ≤ x.1 <;> simp [c1], fun _ => by simp⟩)]
    have hnum : lenF [.list ((rs.filter fun r => !(decide (r.b ≤ x.1) && decide (x.1 ≤ r.c))).map fun _ => PyData.int 1)] = some (.int ((rs.length : Int) - cnt rs x.1)) := by
      rw [o_lenl, List.length_map, hcl]
    refine sat_seq (ρ' := [.val (eRs rs), .val (.int k), .val (.list (ss.map .int)), .own (acc.map eP), .val (.int x.1), .val (.int (x.2 + 1)), .val (.list ((rs.filter fun r => !(decide (r.b ≤ x.1) && decide (x.1 ≤ r.c))).map fun _ => PyData.int 1)), u7, u8, u9]) (by simp; rw [hcomp]; simp) ?_
    generalize ((rs.filter fun r => !(decide (r.b ≤ x.1) && decide (x.1 ≤ r.c))).map fun _ => PyData.int 1) = ly at *
    generalize ss.map PyData.int = sD at *
    -- the next finding
    have stay : P x.1 = false ∨ ¬ x.1 ≤ x.2 → Fnd P (pre ++ [x]) acc := fun hno => ⟨fd.cn, fun t => by
      rw [fd.mem]
      constructor
      · rintro ⟨p, hp, w⟩; exact ⟨p, by simp [hp], w⟩
      · rintro ⟨p, hp, w1, w2, w3⟩
        rcases List.mem_append.mp hp with hp | hp
        · exact ⟨p, hp, w1, w2, w3⟩
        · simp at hp
          subst hp
          rcases hno with hno | hno
          · rw [hno] at w1; cases w1
          · omega, fun q hq => by
      obtain ⟨p, hp, w⟩ := fd.lst q hq
      exact ⟨p, by simp [hp], w⟩, by simp; omega⟩
    by_cases c1 : x.1 < 10000
    · have hxr : x.1 ≤ x.2 := by
        rcases hx with z | z
        · exact z.2.1
        · rw [z] at c1; exact absurd c1 (by decide)
      have x0 : 0 ≤ x.1 := by
        rcases hx with z | z
        · exact z.1
        · rw [z]; decide
      by_cases c2 : (rs.length : Int) - cnt rs x.1 ≤ k
      · have hPx : P x.1 = true := by rw [hP]; simp [c1, c2]
        have c3 : x.1 < x.2 + 1 := by omega
        by_cases ce : acc = []
        · subst ce
          simp [c1, c2, c3, hnum]
          refine sat_nx ⟨[x], _, _, _, _, _, _, rfl, ⟨⟨x0, hxr, trivial⟩, fun t => ?_, fun q hq => by simp at hq; subst hq; exact ⟨q, by simp, Int.le_refl _⟩, by simp⟩⟩
          rw [in_cons]
          simp only [in_nil, or_false]
          constructor
          · exact fun w => ⟨x, by simp, hPx, w⟩
          · rintro ⟨p, hp, w1, w2⟩
            rcases List.mem_append.mp hp with hp | hp
            · exact absurd ((fd.mem t).mpr ⟨p, hp, w1, w2⟩) (in_nil t)
            · simp at hp; subst hp; exact w2
        · obtain ⟨acc', l, rfl⟩ : ∃ a l, acc = a ++ [l] := ⟨acc.dropLast, acc.getLast ce, (List.dropLast_concat_getLast ce).symm⟩
          have hl2 := hac l (by simp)
          have hat : atI ((acc' ++ [l]).map eP) (-1) = some (eP l) := at_last (by simp)
          obtain ⟨u1, u2, u3, u4'⟩ := cn_unsnoc fd.cn
          have nn : neD (.list ((acc' ++ [l]).map eP)) (.list []) = some (.bool true) := by
            refine (neD_nil (α := Rg) (acc' ++ [l])).trans ?_
            simp
          have hixN : ixN ((acc' ++ [l]).map eP).length (-1) = some acc'.length := by
            unfold ixN
            rw [if_neg (by decide), if_pos (by simp; omega)]
            simp
            omega
          have hset : ((acc' ++ [l]).map eP).set acc'.length (eP (l.1, x.2)) = (acc' ++ [(l.1, x.2)]).map eP := by
            have e3 : (acc' ++ [l]).map eP = acc'.map eP ++ [eP l] := by simp
            have e4 : (acc' ++ [(l.1, x.2)]).map eP = acc'.map eP ++ [eP (l.1, x.2)] := by simp
            rw [e3, e4, List.set_append_right _ _ (by simp)]
            simp
          have nl : nolist (.tuple [.int l.1, .int x.2]) = true := rfl
          have hlt : ((acc' ++ [l]).map eP).length < 16777216 := by simp at fl ⊢; omega
          have eset : eP (l.1, x.2) = .tuple [.int l.1, .int x.2] := rfl
          rw [eset] at hset
          have ex : (acc' ++ [l] ++ [x]).map eP = (acc' ++ [l]).map eP ++ [.tuple [.int x.1, .int x.2]] := by simp [eP]
          have memS : ∀ t, (∃ p ∈ pre ++ [x], P p.1 = true ∧ p.1 ≤ t ∧ t ≤ p.2) ↔ In (acc' ++ [l]) t ∨ (x.1 ≤ t ∧ t ≤ x.2) := fun t => by
            rw [fd.mem]
            constructor
            · rintro ⟨p, hp, w⟩
              rcases List.mem_append.mp hp with hp | hp
              · exact Or.inl ⟨p, hp, w⟩
              · simp at hp; subst hp; exact Or.inr w.2
            · rintro (⟨p, hp, w⟩ | w)
              · exact ⟨p, by simp [hp], w⟩
              · exact ⟨x, by simp, hPx, w⟩
          have lstS : ∀ q ∈ acc', ∃ p ∈ pre ++ [x], q.2 ≤ p.2 := fun q hq => by
            obtain ⟨p, hp, w⟩ := fd.lst q (by simp [hq])
            exact ⟨p, by simp [hp], w⟩
          by_cases c4 : l.2 = x.1 - 1
          · have fd' : Fnd P (pre ++ [x]) (acc' ++ [(l.1, x.2)]) := ⟨cn_snoc' u1 u4' (by omega) u2, fun t => by
                rw [memS, in_append, in_append, in_cons, in_cons]
                simp only [in_nil, or_false]
                constructor
                · rintro (w | w)
                  · exact Or.inl (Or.inl w)
                  · by_cases z : x.1 ≤ t
                    · exact Or.inr ⟨z, w.2⟩
                    · exact Or.inl (Or.inr ⟨w.1, by omega⟩)
                · rintro ((w | w) | w)
                  · exact Or.inl w
                  · exact Or.inr ⟨w.1, by omega⟩
                  · exact Or.inr ⟨by omega, w.2⟩, fun q hq => by
                rcases List.mem_append.mp hq with hq | hq
                · exact lstS q hq
                · simp at hq; subst hq; exact ⟨x, by simp, Int.le_refl _⟩, by simp at fl ⊢; omega⟩
            generalize (acc' ++ [l]).map eP = aD at *
            simp [c1, c2, c3, hnum, nn, hat, c4, S.setIx, hixN, hset, nl]
            exact sat_nx ⟨_, _, _, _, _, _, _, by rw [List.map_append]; rfl, fd'⟩
          · have fd' : Fnd P (pre ++ [x]) (acc' ++ [l] ++ [x]) := ⟨cn_snoc' fd.cn (fun q hq => by
                rcases List.mem_append.mp hq with hq | hq
                · have := u4' q hq; omega
                · simp at hq; subst hq; omega) hxr x0, fun t => by
                rw [memS, in_append, in_cons]
                simp only [in_nil, or_false], fun q hq => by
                rcases List.mem_append.mp hq with hq | hq
                · obtain ⟨p, hp, w⟩ := fd.lst q hq
                  exact ⟨p, by simp [hp], w⟩
                · simp at hq; subst hq; exact ⟨q, by simp, Int.le_refl _⟩, by simp at fl ⊢; omega⟩
            generalize (acc' ++ [l]).map eP = aD at *
            simp [c1, c2, c3, hnum, nn, hat, c4, hlt]
            exact sat_nx ⟨_, _, _, _, _, _, _, by rw [ex], fd'⟩
      · have hPx : P x.1 = false := by rw [hP]; simp [c2]
        have c3 : x.1 < x.2 + 1 := by omega
        simp [c1, c2, c3, hnum]
        exact sat_nx ⟨_, _, _, _, _, _, _, rfl, stay (Or.inl hPx)⟩
    · have hPx : P x.1 = false := by rw [hP]; simp [c1]
      simp [c1]
      exact sat_nx ⟨_, _, _, _, _, _, _, rfl, stay (Or.inl hPx)⟩
  · rintro ρ' ⟨acc, u4, u5, u6, u7, u8, u9, rfl, fd⟩
    have : acc = twith rs (rs.length - k) := by
      obtain ⟨⟨b, b1⟩, b2⟩ := twith_ok h (rs.length - k)
      refine cn_ext fd.cn b1 fun t => ?_
      rw [fd.mem, b2]
      constructor
      · rintro ⟨p, hp, w1, w2, w3⟩
        rcases hLp p hp with z | z
        · have e := filter_congr_hits (z.2.2.2 t w2 w3)
          have e : cnt rs t = cnt rs p.1 := by rw [cnt, cnt, e]
          rw [hP] at w1
          simp at w1
          exact ⟨by omega, by omega, by rw [e]; omega⟩
        · rw [z] at w2 w3; simp at w2 w3; omega
      · rintro ⟨w1, w2, w3⟩
        obtain ⟨p, hp, v1, v2⟩ := hLi t w1 w2
        rcases hLp p hp with z | z
        · have e := filter_congr_hits (z.2.2.2 t v1 v2)
          have e : cnt rs t = cnt rs p.1 := by rw [cnt, cnt, e]
          refine ⟨p, hp, ?_, v1, v2⟩
          rw [hP]
          simp
          rw [e] at w3
          omega
        · rw [z] at v1 v2; simp at v1 v2; omega
    subst this
    simp [Sat]
end PV

/-! Q13: the laws' own following of a log -/
namespace PV
open PySem PySem.Spec L2
def inB' (l : List Rg) (t : Int) : Bool := l.any fun p => decide (p.1 ≤ t) && decide (t ≤ p.2)
theorem inB_iff (l : List Rg) (t : Int) : inB' l t = true ↔ In l t := by simp [inB', In]
theorem s_inside (l : List Rg) (t : Int) : sem__law_inside [ePs l, .int t] = .ok (.bool (inB' l t)) := by
  simp [sem__law_inside]
  rw [comp_all eP (fun p => .bool (decide (p.1 ≤ t) && decide (t ≤ p.2))) l (fun p _ => ⟨_, rfl, by
    simp
    by_cases c : p.1 ≤ t <;> simp [c]⟩)]
  rw [q_bok, q_bok, q_bok, o_anym]
  simp
  rfl
theorem s_lawrightL (rs : List Rep) (t : Int) (h : rs.length ≤ 1000) : sem__law_right [.list (rs.map eR), .int t] = .ok (.list ((right rs t).map .str)) := by
  simp [sem__law_right]
  refine sat_run ?_
  refine sat_loop eR (fun pre ρ => ∃ u3 u4 u5, ρ = [.val (.list (rs.map eR)), .val (.int t), .own ((right pre t).map .str), u3, u4, u5]) rs rfl ⟨_, _, _, rfl⟩ ?_ ?_
  · rintro p x q ρ e ⟨u3, u4, u5, rfl⟩
    refine ⟨_, rfl, ?_⟩
    have hl : (right p t).length < 16777216 := by
      have h1 := List.length_filter_le (hits t) p
      have h2 := congrArg List.length e
      simp at h2
      simp [right]; omega
    have hs : right (p ++ [x]) t = if hits t x = true then right p t ++ [x.a] else right p t := by
      simp only [right, List.filter_append, List.map_append]
      by_cases c : hits t x = true
      · rw [if_pos c, List.filter_cons_of_pos c]; rfl
      · rw [if_neg c, List.filter_cons_of_neg c]; simp
    rw [hs]
    by_cases c1 : x.b ≤ t
    · by_cases c2 : t ≤ x.c
      · rw [if_pos (by simp [hits, c1, c2])]
        simp [c1, c2, hl]
        exact sat_nx ⟨_, _, _, by rw [List.map_append]; rfl⟩
      · rw [if_neg (by simp [hits, c1, c2])]
        simp [c1, c2, hl]
        exact sat_nx ⟨_, _, _, rfl⟩
    · rw [if_neg (by simp [hits, c1])]
      simp [c1]
      exact sat_nx ⟨_, _, _, rfl⟩
  · rintro ρ' ⟨u3, u4, u5, rfl⟩
    simp [Sat]
@[simp] theorem in_ints (x : Int) (l : List Int) : inD (.int x) (.list (l.map .int)) = some (.bool (decide (x ∈ l))) := congrArg (fun o => Option.map PyData.bool o) (inB_dat (α := Int) (by decide) x l).1
theorem at_rgI (f : Int → D) {n : Nat} {t : Int} (h : t ∈ rgI 0 n) : atI ((rgI 0 n).map f) t = some (f t) := by
  obtain ⟨h0, h1⟩ := (mem_rgI _ _ _).mp h
  refine atI_some h0 ?_
  have : t.toNat < n := by omega
  simp [rgI, this]
  congr 1
  omega
/-- sources that are not named -/
def fl (nm : List Str) (rs : List Rep) : List Rep := rs.filter fun r => !decide (r.a ∈ nm)
def fp (nm : List Str) (p : Int × List Rep) : Int × List Rep := (p.1, fl nm p.2)
def canL (l : List Rg) : List D := (rgI 0 101).map fun t => .bool (inB' l t)
theorem all_true : mulD (.list [.bool true]) (.int 101) = some (.list ((rgI 0 101).map fun _ => .bool true)) := by rfl
/-- a round of the laws' own count -/
theorem dp_step {p0 x : Int × List Rep} {a b k bf : Int} {nm : List Str} {lgD : D} (c : Int → Bool) {u8 u9 u10 u11 u12 u13 u14 u15 : B} (h0 : 0 ≤ a) (h1 : a ≤ b) (h2 : b ≤ 9) (hx : x.2.length ≤ 10)
    (hl0 : ixD lgD (.int 0) = some (eL p0)) (Q : SE → Prop) (c' : Int → Bool)
    (hc : ∀ t, 0 ≤ t → t < 101 → (c' t = true ↔ (if x.1 = p0.1 then c t = true else ∃ u, 0 ≤ u ∧ u < 101 ∧ c u = true ∧ u + a * (x.1 - bf) ≤ t ∧ t ≤ u + b * (x.1 - bf)) ∧ ((fl nm x.2).length : Int) - k ≤ (cnt (fl nm x.2) t : Int)))
    (hQ : ∀ v6 v7 v8 v9 v10 v11 v12 v13 v14 v15 : B, Q [.val lgD, .val (eP (a, b)), .val (.tuple (nm.map .str)), .val (.int k), .val (.int x.1), .val (.list ((rgI 0 101).map fun t => .bool (c' t))), v6, v7, v8, v9, v10, v11, v12, v13, v14, v15]) :
    Sat (isNx Q) ((S.seq (S.set 8 (M.v (E.ofL (N.comp (I.seq (E.var 7)) (GE.name 12) (T.of (E.op2 notInD (E.op2 ixD (E.var 12) (E.con (.int 0))) (E.var 2))) (E.var 12) [12]))))
    (S.seq (S.set 9 (M.v (E.ofL (N.comp (I.range1 (A.cons (E.con (.int 101)) (A.nil))) (GE.name 13) (T.of (E.op2 ixD (E.var 5) (E.var 13))) (E.var 13) [13]))))
    (S.seq (S.ite (M.v (T.of (E.op2 neD (E.var 6) (E.op2 ixD (E.op2 ixD (E.var 0) (E.con (.int 0))) (E.con (.int 0))))))
    (S.seq (S.set 10 (M.v (E.op2 subD (E.var 6) (E.var 4))))
    (S.seq (S.set 11 (M.v (E.ofL (N.comp (I.seq (E.var 9)) (GE.name 13) T.yes (E.tup (A.cons (E.op2 addD (E.var 13) (E.op2 mulD (E.op2 ixD (E.var 1) (E.con (.int 0))) (E.var 10))) (A.cons (E.op2 addD (E.var 13) (E.op2 mulD (E.op2 ixD (E.var 1) (E.con (.int 1))) (E.var 10))) (A.nil)))) [13]))))
    (S.set 9 (M.v (E.ofL (N.comp (I.range1 (A.cons (E.con (.int 101)) (A.nil))) (GE.name 13) (T.of (E.bi anyF (A.cons (E.ofL (N.comp (I.seq (E.var 11)) (GE.tup [14, 15]) T.yes (E.and (E.op2 leD (E.var 14) (E.var 13)) ((E.op2 leD (E.var 13) (E.var 15)))) [14, 15])) (A.nil)))) (E.var 13) [13]))))))
    (S.skip))
    (S.seq (S.set 4 (M.v (E.var 6)))
    (S.set 5 (M.v (E.ofL (N.comp (I.range1 (A.cons (E.con (.int 101)) (A.nil))) (GE.name 13) T.yes (E.and (E.op2 inD (E.var 13) (E.var 9)) ((E.op2 geD (E.bi lenF (A.cons (E.call sem__law_right (A.cons (E.var 8) (A.cons (E.var 13) (A.nil)))) (A.nil))) (E.op2 subD (E.bi lenF (A.cons (E.var 8) (A.nil))) (E.var 3))))) [13]))))))))
      [.val lgD, .val (eP (a, b)), .val (.tuple (nm.map .str)), .val (.int k), .val (.int bf), .val (.list ((rgI 0 101).map fun t => .bool (c t))), .val (.int x.1), .val (eRs x.2), u8, u9, u10, u11, u12, u13, u14, u15]) := by
  have r1 : I.r1 [.int 101] = .ok ((rgI 0 101).map .int) := by rw [← range_ints]; rfl
  have hk : (fl nm x.2).length ≤ 10 := Nat.le_trans (List.length_filter_le _ _) hx
  refine sat_seq (ρ' := [.val lgD, .val (eP (a, b)), .val (.tuple (nm.map .str)), .val (.int k), .val (.int bf), .val (.list ((rgI 0 101).map fun t => .bool (c t))), .val (.int x.1), .val (eRs x.2), .val (.list ((fl nm x.2).map eR)), u9, u10, u11, u12, u13, u14, u15]) ?_ ?_
  · simp
    rw [comp_map eR (fun r => !decide (r.a ∈ nm)) eR x.2 (fun r _ => ⟨_, rfl, by simp, by simp⟩)]
    rfl
  generalize fl nm x.2 = kp at *
  refine sat_seq (ρ' := [.val lgD, .val (eP (a, b)), .val (.tuple (nm.map .str)), .val (.int k), .val (.int bf), .val (.list ((rgI 0 101).map fun t => .bool (c t))), .val (.int x.1), .val (eRs x.2), .val (.list (kp.map eR)), .val (.list (((rgI 0 101).filter c).map .int)), u10, u11, u12, u13, u14, u15]) ?_ ?_
  · simp [r1]
    rw [comp_map PyData.int c PyData.int (rgI 0 101) (fun t ht => ⟨_, rfl, by
      have := at_rgI (fun t => .bool (c t)) ht
      simp [this], by simp⟩)]
    rfl
  -- the candidates
  have cand : ∃ v10 v11 v13 v14 v15, ∃ ps : List Int, (∀ t, t ∈ ps ↔ (0 ≤ t ∧ t < 101) ∧ (if x.1 = p0.1 then c t = true else ∃ u, 0 ≤ u ∧ u < 101 ∧ c u = true ∧ u + a * (x.1 - bf) ≤ t ∧ t ≤ u + b * (x.1 - bf))) ∧
      (S.ite (M.v (T.of (E.op2 neD (E.var 6) (E.op2 ixD (E.op2 ixD (E.var 0) (E.con (.int 0))) (E.con (.int 0))))))
    (S.seq (S.set 10 (M.v (E.op2 subD (E.var 6) (E.var 4))))
    (S.seq (S.set 11 (M.v (E.ofL (N.comp (I.seq (E.var 9)) (GE.name 13) T.yes (E.tup (A.cons (E.op2 addD (E.var 13) (E.op2 mulD (E.op2 ixD (E.var 1) (E.con (.int 0))) (E.var 10))) (A.cons (E.op2 addD (E.var 13) (E.op2 mulD (E.op2 ixD (E.var 1) (E.con (.int 1))) (E.var 10))) (A.nil)))) [13]))))
    (S.set 9 (M.v (E.ofL (N.comp (I.range1 (A.cons (E.con (.int 101)) (A.nil))) (GE.name 13) (T.of (E.bi anyF (A.cons (E.ofL (N.comp (I.seq (E.var 11)) (GE.tup [14, 15]) T.yes (E.and (E.op2 leD (E.var 14) (E.var 13)) ((E.op2 leD (E.var 13) (E.var 15)))) [14, 15])) (A.nil)))) (E.var 13) [13]))))))
    (S.skip)) [.val lgD, .val (eP (a, b)), .val (.tuple (nm.map .str)), .val (.int k), .val (.int bf), .val (.list ((rgI 0 101).map fun t => .bool (c t))), .val (.int x.1), .val (eRs x.2), .val (.list (kp.map eR)), .val (.list (((rgI 0 101).filter c).map .int)), u10, u11, u12, u13, u14, u15]
      = .nx [.val lgD, .val (eP (a, b)), .val (.tuple (nm.map .str)), .val (.int k), .val (.int bf), .val (.list ((rgI 0 101).map fun t => .bool (c t))), .val (.int x.1), .val (eRs x.2), .val (.list (kp.map eR)), .val (.list (ps.map .int)), v10, v11, u12, v13, v14, v15] := by
    by_cases e : x.1 = p0.1
    · refine ⟨u10, u11, u13, u14, u15, (rgI 0 101).filter c, fun t => ?_, ?_⟩
      · rw [List.mem_filter, mem_rgI, if_pos e]
        constructor
        · rintro ⟨k1, k2⟩; exact ⟨by omega, k2⟩
        · rintro ⟨k1, k2⟩; exact ⟨by omega, k2⟩
      · have : neD (.int x.1) (.int p0.1) = some (.bool false) := by rw [o_nei, decide_eq_true e]; rfl
        simp [hl0, this]
    · have ne : neD (.int x.1) (.int p0.1) = some (.bool true) := by rw [o_nei, decide_eq_false e]; rfl
      have m1 := mul9 h0 (by omega) (x.1 - bf)
      have m2 := mul9 (show 0 ≤ b by omega) h2 (x.1 - bf)
      obtain ⟨sp, hsp⟩ : ∃ sp : List Rg, (((rgI 0 101).filter c).map fun t => ((t + a * (x.1 - bf), t + b * (x.1 - bf)) : Rg)) = sp := ⟨_, rfl⟩
      refine ⟨.val (.int (x.1 - bf)), .val (ePs sp), u13, u14, u15, (rgI 0 101).filter fun t => sp.any fun p => decide (p.1 ≤ t) && decide (t ≤ p.2), fun t => ?_, ?_⟩
      · rw [List.mem_filter, mem_rgI, if_neg e, ← hsp]
        simp only [List.any_map, List.any_eq_true, List.mem_filter, mem_rgI, Function.comp, Bool.and_eq_true, decide_eq_true_eq]
        constructor
        · rintro ⟨k1, u, ⟨⟨k2, k3⟩, k4⟩, k5, k6⟩
          exact ⟨by omega, u, k2, by omega, k4, k5, k6⟩
        · rintro ⟨k1, u, k2, k3, k4, k5, k6⟩
          exact ⟨by omega, u, ⟨⟨k2, by omega⟩, k4⟩, k5, k6⟩
      · simp [hl0, ne]
        rw [comp_all PyData.int (fun t => eP (t + a * (x.1 - bf), t + b * (x.1 - bf))) ((rgI 0 101).filter c) (fun t _ => ⟨_, rfl, by simp [m1, m2, eP]⟩)]
        have eq : (((rgI 0 101).filter c).map fun t => eP (t + a * (x.1 - bf), t + b * (x.1 - bf))) = (((rgI 0 101).filter c).map fun t => ((t + a * (x.1 - bf), t + b * (x.1 - bf)) : Rg)).map eP := by simp
        rw [eq, hsp]
        simp [r1]
        rw [comp_map PyData.int (fun t => sp.any fun p => decide (p.1 ≤ t) && decide (t ≤ p.2)) PyData.int (rgI 0 101) (fun t _ => ⟨_, rfl, by
          simp
          rw [comp_all eP (fun p => .bool (decide (p.1 ≤ t) && decide (t ≤ p.2))) sp (fun p _ => ⟨_, rfl, by
            simp
            by_cases c : p.1 ≤ t <;> simp [c]⟩)]
          rw [q_bok, q_bok, q_bok, o_anym]
          simp, by simp⟩)]
        simp
  obtain ⟨v10, v11, v13, v14, v15, ps, hps, hcand⟩ := cand
  refine sat_seq hcand ?_
  simp [r1]
  rw [comp_all PyData.int (fun t => .bool (c' t)) (rgI 0 101) (fun t ht => ⟨_, rfl, by
    obtain ⟨k1, k2⟩ := (mem_rgI _ _ _).mp ht
    have hcc := hc t k1 (by omega)
    have hp := hps t
    have hr := s_lawrightL kp t (by omega)
    have hlen : (right kp t).length = cnt kp t := by simp [right, cnt]
    simp [hr, hlen]
    have hin : (t ∈ ps) ↔ (if x.1 = p0.1 then c t = true else ∃ u, 0 ≤ u ∧ u < 101 ∧ c u = true ∧ u + a * (x.1 - bf) ≤ t ∧ t ≤ u + b * (x.1 - bf)) := by
      rw [hp]
      constructor
      · exact fun h => h.2
      · exact fun h => ⟨⟨k1, by omega⟩, h⟩
    have key : c' t = (decide (t ∈ ps) && decide ((kp.length : Int) - k ≤ (cnt kp t : Int))) := by
      rw [Bool.eq_iff_iff, hcc, Bool.and_eq_true, decide_eq_true_eq, decide_eq_true_eq, hin]
    rw [key]
    by_cases m : t ∈ ps <;> simp [m]⟩)]
  simp
  exact sat_nx (hQ ..)
end PV

/-! Q14: the laws' logs, and their own following -/
namespace PV
open PySem PySem.Spec L2
theorem neD_self {d : D} (h : d.plain = true) (h2 : d.depth ≤ 60) : neD d d = some (.bool false) := by
  rw [neD, unscr_plain h, if_pos (by simp [okD, h, h2]), PySem.SeqAt.eqv_refl_plain d h]; rfl
theorem eqD_self {d : D} (h : d.plain = true) (h2 : d.depth ≤ 60) : eqD d d = some (.bool true) := by
  rw [eqD, unscr_plain h, if_pos (by simp [okD, h, h2]), PySem.SeqAt.eqv_refl_plain d h]
theorem vt_fl {rs : List Rep} (h : VT rs) (nm : List Str) : VT (fl nm rs) := ⟨Nat.le_trans (List.length_filter_le _ _) h.1, fun r hr => h.2 r (List.mem_filter.mp hr).1⟩
theorem s_dp {lg : Lg} (h : VLog lg) (nm : List Str) {a b k : Int} (h0 : 0 ≤ a) (h1 : a ≤ b) (h2 : b ≤ 9) : sem__law_dp [eLs lg, eP (a, b), .tuple (nm.map .str), .int k] = .ok (.list (canL (led a b k (lg.map (fp nm))))) := by
  cases lg with
  | nil => exact absurd rfl h.ne
  | cons p0 r =>
    have vt : ∀ p ∈ p0 :: r, VT p.2 := fun p hp => (h.rep p hp).1.vt
    have pw := h.pw
    have hl0 : ixD (eLs (p0 :: r)) (.int 0) = some (eL p0) := by simp
    generalize hlg : eLs (p0 :: r) = lgD at *
    have it : I.itD lgD = .ok ((p0 :: r).map eL) := by rw [← hlg]; rfl
    simp [sem__law_dp, hl0, all_true]
    simp only [it, q_on]
    refine sat_run ?_
    refine sat_loop eL (fun pre ρ => ∃ (bf : Int) (c : Int → Bool) (u6 u7 u8 u9 u10 u11 u12 u13 u14 u15 : B), ρ = [.val lgD, .val (eP (a, b)), .val (.tuple (nm.map .str)), .val (.int k), .val (.int bf), .val (.list ((rgI 0 101).map fun t => .bool (c t))), u6, u7, u8, u9, u10, u11, u12, u13, u14, u15] ∧
      (pre = [] → ∀ t, c t = true) ∧ ∀ y ys, pre = y :: ys → bf = ((ys.map (fp nm)).foldl (stp a b k) (led0 k (fp nm y))).1 ∧ ∀ t, c t = inB' ((ys.map (fp nm)).foldl (stp a b k) (led0 k (fp nm y))).2 t) (p0 :: r) rfl ?_ ?_ ?_
    · exact ⟨_, fun _ => true, _, _, _, _, _, _, _, _, _, _, rfl, fun _ _ => rfl, by simp⟩
    · rintro pre x q ρ e ⟨bf, c, u6, u7, u8, u9, u10, u11, u12, u13, u14, u15, rfl, hp1, hp2⟩
      refine ⟨_, rfl, ?_⟩
      have hx : x ∈ p0 :: r := by rw [e]; simp
      have hxl := (vt x hx).1
      cases pre with
      | nil =>
        have ex : p0 = x := by simpa using (List.cons.inj e).1
        subst ex
        refine dp_step c h0 h1 h2 hxl hl0 _ (inB' (led0 k (fp nm p0)).2) (fun t t0 t1 => ?_) (fun v6 v7 v8 v9 v10 v11 v12 v13 v14 v15 => ?_)
        · rw [if_pos rfl, inB_iff]
          have := (twith_ok (vt_fl (vt p0 hx) nm) ((fl nm p0.2).length - k)).2 t
          refine this.trans ?_
          constructor
          · exact fun k => ⟨hp1 rfl t, k.2.2⟩
          · exact fun k => ⟨t0, by omega, k.2⟩
        · exact ⟨_, _, _, _, _, _, _, _, _, _, _, _, rfl, by simp, fun y ys ey => by cases ey; exact ⟨rfl, fun _ => rfl⟩⟩
      | cons y ys =>
        have ey : p0 = y := (List.cons.inj e).1
        have er : r = ys ++ x :: q := (List.cons.inj e).2
        subst ey
        obtain ⟨hb, hc⟩ := hp2 p0 ys rfl
        have hlt : p0.1 < x.1 := by
          rw [er] at pw
          exact (List.pairwise_cons.mp pw).1 x (by simp)
        have pw' : (fp nm p0 :: (ys.map (fp nm) ++ (fp nm x :: q.map (fp nm)))).Pairwise (fun p q => p.1 < q.1) := by
          have : (fp nm p0 :: (ys.map (fp nm) ++ (fp nm x :: q.map (fp nm)))) = (p0 :: r).map (fp nm) := by rw [er]; simp
          rw [this, List.pairwise_map]
          exact pw
        have vt' : ∀ p ∈ fp nm p0 :: (ys.map (fp nm) ++ (fp nm x :: q.map (fp nm))), VT p.2 := by
          have : (fp nm p0 :: (ys.map (fp nm) ++ (fp nm x :: q.map (fp nm)))) = (p0 :: r).map (fp nm) := by rw [er]; simp
          rw [this]
          intro p hp
          obtain ⟨p', hp', rfl⟩ := List.mem_map.mp hp
          exact vt_fl (vt p' hp') nm
        obtain ⟨g1, g2⟩ := pre_gp (a := a) (b := b) (k := k) h1 pw' vt'
        have g3 := g2 (fp nm x) _ rfl
        obtain ⟨g4, g5⟩ := stp_ok (a := a) (b := b) (k := k) h1 g1 (vt' (fp nm x) (by simp)) (by omega)
        have hfold : (((ys ++ [x]).map (fp nm)).foldl (stp a b k) (led0 k (fp nm p0))) = stp a b k ((ys.map (fp nm)).foldl (stp a b k) (led0 k (fp nm p0))) (fp nm x) := by simp
        generalize (ys.map (fp nm)).foldl (stp a b k) (led0 k (fp nm p0)) = s at *
        refine dp_step c h0 h1 h2 hxl hl0 _ (inB' (stp a b k s (fp nm x)).2) (fun t t0 t1 => ?_) (fun v6 v7 v8 v9 v10 v11 v12 v13 v14 v15 => ?_)
        · rw [if_neg (by omega), inB_iff, g5]
          have hnn : 0 ≤ a * (x.1 - bf) := Int.mul_nonneg h0 (by rw [hb]; show 0 ≤ (fp nm x).1 - s.1; omega)
          show _ ↔ _
          constructor
          · rintro ⟨⟨k1, k2, k3⟩, u, k4, k5, k6⟩
            have k5' : u + a * (x.1 - bf) ≤ t := by rw [hb]; exact k5
            have k6' : t ≤ u + b * (x.1 - bf) := by rw [hb]; exact k6
            have u0 := Cn.lo g1.1 k4
            exact ⟨⟨u, u0, by omega, by rw [hc]; exact (inB_iff _ _).mpr k4, k5', k6'⟩, k3⟩
          · rintro ⟨⟨u, k1, k2, k3, k4, k5⟩, k6⟩
            rw [hc, inB_iff] at k3
            rw [hb] at k4 k5
            exact ⟨⟨t0, by omega, k6⟩, u, k3, k4, k5⟩
        · refine ⟨_, _, _, _, _, _, _, _, _, _, _, _, rfl, by simp, fun y' ys' ey => ?_⟩
          obtain ⟨rfl, rfl⟩ := List.cons.inj ey
          rw [show ys.append [x] = ys ++ [x] from rfl, hfold]
          exact ⟨rfl, fun _ => rfl⟩
    · rintro ρ' ⟨bf, c, u6, u7, u8, u9, u10, u11, u12, u13, u14, u15, rfl, _, hp2⟩
      obtain ⟨_, hc⟩ := hp2 p0 r rfl
      have : c = inB' ((r.map (fp nm)).foldl (stp a b k) (led0 k (fp nm p0))).2 := funext hc
      subst this
      simp
      rfl
/-! the laws' logs -/
theorem abcde_at {i : Nat} (h : i < 5) : ixD (.str "abcde") (.int i) = some (.str (letter i)) := by
  rcases i with _|_|_|_|_|i
  all_goals first | rfl | omega
/-- a round as the laws draw it -/
structure Rnd (rs : List Rep) (many : Nat) : Prop where
  len : rs.length = many
  nam : ∀ (i : Nat) r, rs[i]? = some r → r.a = letter i
  tim : ∀ r ∈ rs, 0 ≤ r.b ∧ r.b ≤ r.c ∧ r.c ≤ 40
theorem Rnd.vr {rs : List Rep} {m : Nat} (h : Rnd rs m) (hm : m ≤ 10) : VR rs := by
  refine ⟨⟨by rw [h.len]; exact hm, fun r hr => by have := h.tim r hr; omega⟩, fun r hr => ?_, fun i r s h1 h2 => ?_⟩
  · obtain ⟨i, hi, e⟩ := List.getElem_of_mem hr
    rw [h.nam i r (by rw [List.getElem?_eq_getElem hi, e])]
    exact name_letter (by have := h.len; omega)
  · rw [h.nam i r h1, h.nam (i + 1) s h2]
    exact nlt_letter i
theorem Rnd.names {rs : List Rep} {m : Nat} (h : Rnd rs m) : nms rs = (List.range m).map letter := by
  apply List.ext_getElem?
  intro i
  rw [nms, List.getElem?_map, List.getElem?_map]
  rcases Nat.lt_or_ge i rs.length with c | c
  · rw [List.getElem?_eq_getElem c, List.getElem?_range (by rw [← h.len]; exact c)]
    simp [h.nam i _ (List.getElem?_eq_getElem c)]
  · rw [List.getElem?_eq_none c, List.getElem?_eq_none (by simp; rw [← h.len]; exact c)]
    rfl
theorem snoc_nam {rs : List Rep} {x : Rep} (h : ∀ (i : Nat) r, rs[i]? = some r → r.a = letter i) (hx : x.a = letter rs.length) : ∀ (i : Nat) r, (rs ++ [x])[i]? = some r → r.a = letter i := by
  intro j r hj
  rcases Nat.lt_or_ge j rs.length with c | c
  · rw [List.getElem?_append_left c] at hj
    exact h j r hj
  · rw [List.getElem?_append_right c] at hj
    cases hji : j - rs.length with
    | zero =>
      rw [hji] at hj
      cases hj
      rw [show j = rs.length by omega]; exact hx
    | succ m => rw [hji] at hj; cases hj
/-- a log as the laws draw it: moments at most 2 + 3 i -/
structure DLog (lg : Lg) (many : Nat) : Prop where
  rnd : ∀ p ∈ lg, Rnd p.2 many
  mom : ∀ (i : Nat) p, lg[i]? = some p → 0 ≤ p.1 ∧ p.1 ≤ 2 + 3 * (i : Int)
  asc : ∀ (i : Nat) p q, lg[i]? = some p → lg[i + 1]? = some q → p.1 < q.1
theorem DLog.vlog {lg : Lg} {m : Nat} (h : DLog lg m) (hm : m ≤ 6) (hne : lg ≠ []) (hl : lg.length ≤ 6) : VLog lg := by
  refine ⟨hne, hl, fun p hp => ?_, fun p hp => ⟨(h.rnd p hp).vr (by omega), by rw [(h.rnd p hp).len]; exact hm⟩, h.asc, fun p hp q hq => by rw [(h.rnd p hp).names, (h.rnd q hq).names]⟩
  obtain ⟨i, hi, e⟩ := List.getElem_of_mem hp
  have := h.mom i p (by rw [List.getElem?_eq_getElem hi, e])
  omega
theorem nolist_reps (rs : List Rep) : nolistAll (rs.map eR) = true := by
  induction rs with
  | nil => rfl
  | cons x l ih => rw [List.map_cons, nolistAll, ih]; rfl
theorem s_lawlog {ns : List Int} (hl : ns.length ≤ 63) (place : Int) (h0 : 0 ≤ place) (h1 : place < 1000) :
    ∃ lg, sem__law_log [scr (ns.map .int), .int place] = .ok (eLs lg) ∧ ∃ m, m ≤ 4 ∧ DLog lg m ∧ 1 ≤ lg.length ∧ lg.length ≤ 4 := by
  obtain ⟨e0, x0, y0⟩ := pk_eq (k := place) hl (by omega) (by omega) (show (0 : Int) < 5 by decide)
  obtain ⟨e1, x1, y1⟩ := pk_eq (k := place + 1) hl (by omega) (by omega) (show (0 : Int) < 4 by decide)
  obtain ⟨e2, x2, y2⟩ := pk_eq (k := place + 2) hl (by omega) (by omega) (show (0 : Int) < 3 by decide)
  obtain ⟨e3, x3, y3⟩ := pk_eq (k := place + 3) hl (by omega) (by omega) (show (0 : Int) < 5 by decide)
  simp [sem__law_log, e0, e1, e2, e3, I.r1]
  generalize pk ns place 5 = mn at *
  generalize hrr : 1 + pk ns (place + 1) 4 = rr at *
  generalize pk ns (place + 2) 3 = m0 at *
  generalize hbb : 6 + pk ns (place + 3) 5 = b0 at *
  rw [if_pos (by omega)]
  simp only [q_on]
  show Sat (fun o => ∃ lg, o.run = .ok (eLs lg) ∧ ∃ m, m ≤ 4 ∧ DLog lg m ∧ 1 ≤ lg.length ∧ lg.length ≤ 4) _
  refine sat_range (fun i ρ => ∃ (lg : Lg) (mo be : Int) (u7 u8 u9 u10 u11 u12 : B), ρ = [.val (scr (ns.map .int)), .val (.int place), .val (.int mn), .val (.int rr), .val (.int mo), .val (.int be), .own (lg.map eL), u7, u8, u9, u10, u11, u12] ∧
    lg.length = i ∧ DLog lg mn.toNat ∧ 0 ≤ mo ∧ mo ≤ 2 + 3 * (i : Int) ∧ 0 ≤ be ∧ be ≤ 10 + 3 * (i : Int) ∧ ∀ p, lg.getLast? = some p → p.1 < mo) ?_ ?_ ?_
  · exact ⟨[], _, _, _, _, _, _, _, _, rfl, rfl, ⟨by simp, by simp, by simp⟩, by omega, by omega, by omega, by omega, by simp⟩
  · rintro i ρ hi ⟨lg, mo, be, u7, u8, u9, u10, u11, u12, rfl, hlen, hd, k1, k2, k3, k4, k5⟩
    refine ⟨_, rfl, ?_⟩
    rw [Int.zero_add]
    have hi4 : (i : Int) < 4 := by omega
    simp [I.r1]
    rw [if_pos (by omega)]
    simp only [q_on]
    refine sat_range (fun j ρ => ∃ (rs : List Rep) (u9 u10 u11 : B), ρ = [.val (scr (ns.map .int)), .val (.int place), .val (.int mn), .val (.int rr), .val (.int mo), .val (.int be), .own (lg.map eL), .val (.int i), .own (rs.map eR), u9, u10, u11, u12] ∧ Rnd rs j) ?_ ?_ ?_
    · exact ⟨[], _, _, _, rfl, ⟨rfl, by simp, by simp⟩⟩
    · rintro j ρ hj ⟨rs, u9, u10, u11, rfl, hr⟩
      refine ⟨_, rfl, ?_⟩
      rw [Int.zero_add]
      have hj4 : (j : Int) < 4 := by omega
      obtain ⟨f1, a1, b1⟩ := pk_eq (k := place + 10 + 20 * (i : Int) + 4 * (j : Int)) hl (by omega) (by omega) (show (0:Int) < 7 by decide)
      obtain ⟨f2, a2, b2⟩ := pk_eq (k := place + 10 + 20 * (i : Int) + 4 * (j : Int) + 1) hl (by omega) (by omega) (show (0:Int) < 3 by decide)
      obtain ⟨f3, a3, b3⟩ := pk_eq (k := place + 10 + 20 * (i : Int) + 4 * (j : Int) + 2) hl (by omega) (by omega) (show (0:Int) < 9 by decide)
      have m1 : mulD (.int 20) (.int (i : Int)) = some (.int (20 * (i : Int))) := o_mul1 _ _ (by decide)
      have m2 : mulD (.int 4) (.int (j : Int)) = some (.int (4 * (j : Int))) := o_mul1 _ _ (by decide)
      have eL' := abcde_at (i := j) (by omega)
      have hrl : rs.length < 16777216 := by rw [hr.len]; omega
      generalize pk ns (place + 10 + 20 * (i : Int) + 4 * (j : Int)) 7 = z1 at *
      generalize pk ns (place + 10 + 20 * (i : Int) + 4 * (j : Int) + 1) 3 = z2 at *
      generalize pk ns (place + 10 + 20 * (i : Int) + 4 * (j : Int) + 2) 9 = z3 at *
      simp [m1, m2, f1, f2, f3, eL', hrl]
      refine sat_nx ⟨rs ++ [⟨letter j, max (be - z1 + z2) 0, max (be - z1 + z2) 0 + z3⟩], _, _, _, by rw [List.map_append]; rfl, ⟨by simp [hr.len], snoc_nam hr.nam (by rw [hr.len]), fun r hr' => ?_⟩⟩
      rcases List.mem_append.mp hr' with hr' | hr'
      · exact hr.tim r hr'
      · rw [List.mem_singleton] at hr'; subst hr'; simp only; omega
    · rintro ρ' ⟨rs, u9, u10, u11, rfl, hr⟩
      obtain ⟨f1, a1, b1⟩ := pk_eq (k := place + 5 + (i : Int)) hl (by omega) (by omega) (show (0:Int) < 3 by decide)
      generalize pk ns (place + 5 + (i : Int)) 3 = z at *
      have hll : lg.length < 16777216 := by omega
      have nl := nolist_reps rs
      simp [f1, hll, nolist, nolistAll, nl]
      refine sat_nx ⟨lg ++ [(mo, rs)], mo + (1 + z), be + (1 + z), _, _, _, _, _, _, by rw [List.map_append]; rfl, by simp [hlen], ⟨?_, ?_, ?_⟩, by omega, by push_cast; omega, by omega, by push_cast; omega, ?_⟩
      · intro p hp
        rcases List.mem_append.mp hp with hp | hp
        · exact hd.rnd p hp
        · rw [List.mem_singleton] at hp; subst hp; exact hr
      · intro j p hj
        rcases Nat.lt_or_ge j lg.length with c | c
        · rw [List.getElem?_append_left c] at hj
          exact hd.mom j p hj
        · rw [List.getElem?_append_right c] at hj
          cases hji : j - lg.length with
          | zero => rw [hji] at hj; cases hj; simp only; omega
          | succ m => rw [hji] at hj; cases hj
      · intro j p q hp hq
        rcases Nat.lt_or_ge (j + 1) lg.length with c | c
        · rw [List.getElem?_append_left (by omega)] at hp
          rw [List.getElem?_append_left c] at hq
          exact hd.asc j p q hp hq
        · rw [List.getElem?_append_right c] at hq
          cases hji : j + 1 - lg.length with
          | zero =>
            rw [hji] at hq
            cases hq
            rw [List.getElem?_append_left (by omega)] at hp
            exact k5 p (by rw [List.getLast?_eq_getElem?, show lg.length - 1 = j by omega]; exact hp)
          | succ m => rw [hji] at hq; cases hq
      · intro p hp
        simp at hp
        subst hp
        simp only; omega
  · rintro ρ' ⟨lg, mo, be, u7, u8, u9, u10, u11, u12, rfl, hlen, hd, _⟩
    exact ⟨lg, by simp, mn.toNat, by omega, hd, by omega, by omega⟩
theorem s_lawpace {ns : List Int} (hl : ns.length ≤ 63) (place : Int) (h0 : 0 ≤ place) (h1 : place < 1000) : ∃ a b, sem__law_pace [scr (ns.map .int), .int place] = .ok (eP (a, b)) ∧ 0 ≤ a ∧ a ≤ b ∧ b ≤ 4 := by
  obtain ⟨e0, x0, y0⟩ := pk_eq (k := place) hl (by omega) (by omega) (show (0 : Int) < 3 by decide)
  obtain ⟨e1, x1, y1⟩ := pk_eq (k := place + 1) hl (by omega) (by omega) (show (0 : Int) < 3 by decide)
  refine ⟨pk ns place 3, pk ns place 3 + pk ns (place + 1) 3, ?_, by omega, by omega, by omega⟩
  simp [sem__law_pace, e0, e1, eP]
end PV

/-! Q15: small sets of names -/
namespace PV
open PySem PySem.Spec L2
/-- an ascending tuple of some of the names -/
def Sb (names S : List Str) : Prop := S.Pairwise nlt ∧ ∀ x ∈ S, x ∈ names
theorem pw_snoc {S : List Str} {x : Str} : (S ++ [x]).Pairwise nlt ↔ S.Pairwise nlt ∧ ∀ y ∈ S, nlt y x := by
  rw [List.pairwise_append]
  simp
def aft (S : List Str) (x : Str) : Bool := match S.getLast? with
  | none => true
  | some y => decide (y.cps.toList < x.cps.toList)
theorem aft_iff {S : List Str} (h : S.Pairwise nlt) (x : Str) : aft S x = true ↔ ∀ y ∈ S, nlt y x := by
  unfold aft
  cases hS : S.getLast? with
  | none =>
    rw [List.getLast?_eq_none_iff] at hS
    subst hS
    simp
  | some z =>
    obtain ⟨ys, rfl⟩ := List.getLast?_eq_some_iff.mp hS
    rw [decide_eq_true_eq, ← nlt_iff]
    constructor
    · intro hz y hy
      rcases List.mem_append.mp hy with hy | hy
      · exact nlt_trans ((pw_snoc.mp h).2 y hy) hz
      · rw [List.mem_singleton] at hy; subst hy; exact hz
    · exact fun k => k z (by simp)
def nxt (names S : List Str) : List (List Str) := (names.filter (aft S)).map fun x => S ++ [x]
def lv (names : List Str) : Nat → List (List Str)
  | 0 => [[]]
  | n + 1 => (lv names n).flatMap (nxt names)
theorem mem_lv (names : List Str) : ∀ (n : Nat) (S : List Str), S ∈ lv names n ↔ Sb names S ∧ S.length = n
  | 0, S => by
    rw [lv, List.mem_singleton]
    constructor
    · rintro rfl; exact ⟨⟨.nil, by simp⟩, rfl⟩
    · rintro ⟨_, h⟩; exact List.length_eq_zero_iff.mp h
  | n + 1, S => by
    rw [lv, List.mem_flatMap]
    constructor
    · rintro ⟨T, hT, hS⟩
      obtain ⟨x, hx, rfl⟩ := List.mem_map.mp hS
      obtain ⟨hx1, hx2⟩ := List.mem_filter.mp hx
      obtain ⟨⟨t1, t2⟩, t3⟩ := (mem_lv names n T).mp hT
      refine ⟨⟨pw_snoc.mpr ⟨t1, (aft_iff t1 x).mp hx2⟩, fun y hy => ?_⟩, by simp [t3]⟩
      rcases List.mem_append.mp hy with hy | hy
      · exact t2 y hy
      · rw [List.mem_singleton] at hy; subst hy; exact hx1
    · rintro ⟨⟨s1, s2⟩, s3⟩
      have hne : S ≠ [] := by rintro rfl; simp at s3
      obtain ⟨T, x, rfl⟩ : ∃ T x, S = T ++ [x] := ⟨S.dropLast, S.getLast hne, (List.dropLast_concat_getLast hne).symm⟩
      obtain ⟨p1, p2⟩ := pw_snoc.mp s1
      refine ⟨T, (mem_lv names n T).mpr ⟨⟨p1, fun y hy => s2 y (by simp [hy])⟩, by simpa using s3⟩, List.mem_map.mpr ⟨x, List.mem_filter.mpr ⟨s2 x (by simp), (aft_iff p1 x).mpr p2⟩, rfl⟩⟩
def smalls (names : List Str) (m : Nat) : List (List Str) := (List.range (m + 1)).flatMap (lv names)
theorem mem_smalls (names : List Str) (m : Nat) (S : List Str) : S ∈ smalls names m ↔ Sb names S ∧ S.length ≤ m := by
  rw [smalls, List.mem_flatMap]
  constructor
  · rintro ⟨n, hn, h⟩
    obtain ⟨h1, h2⟩ := (mem_lv names n S).mp h
    rw [List.mem_range] at hn
    exact ⟨h1, by omega⟩
  · rintro ⟨h1, h2⟩
    exact ⟨S.length, by rw [List.mem_range]; omega, (mem_lv names _ S).mpr ⟨h1, rfl⟩⟩
/-- the law's own choice -/
def chs (l : Nat) (names : List Str) : List (List Str) := names.foldl (fun acc x => acc ++ (acc.filter fun S => decide (S.length < l)).map fun S => S ++ [x]) [[]]
theorem mem_chs (l : Nat) : ∀ (names : List Str), names.Pairwise nlt → ∀ S, S ∈ chs l names ↔ Sb names S ∧ S.length ≤ l := by
  intro names
  have key : ∀ (r pre : List Str), (pre ++ r).Pairwise nlt → (∀ S, S ∈ chs l pre ↔ Sb pre S ∧ S.length ≤ l) → ∀ S, S ∈ chs l (pre ++ r) ↔ Sb (pre ++ r) S ∧ S.length ≤ l := by
    intro r
    induction r with
    | nil => intro pre _ h S; rw [List.append_nil]; exact h S
    | cons x r ih =>
      intro pre pw h S
      have := ih (pre ++ [x]) (by rw [List.append_assoc]; exact pw) (fun S => ?_) S
      · rwa [List.append_assoc] at this
      · have pwx : ∀ y ∈ pre, nlt y x := fun y hy => (List.pairwise_append.mp pw).2.2 y hy x (by simp)
        have e : chs l (pre ++ [x]) = chs l pre ++ ((chs l pre).filter fun S => decide (S.length < l)).map fun S => S ++ [x] := by simp [chs]
        rw [e, List.mem_append, h]
        constructor
        · rintro (⟨⟨a1, a2⟩, a3⟩ | hm)
          · exact ⟨⟨a1, fun y hy => by simp [a2 y hy]⟩, a3⟩
          · obtain ⟨T, hT, rfl⟩ := List.mem_map.mp hm
            obtain ⟨hT1, hT2⟩ := List.mem_filter.mp hT
            obtain ⟨⟨t1, t2⟩, t3⟩ := (h T).mp hT1
            simp only [decide_eq_true_eq] at hT2
            refine ⟨⟨pw_snoc.mpr ⟨t1, fun y hy => pwx y (t2 y hy)⟩, fun y hy => ?_⟩, by simp; omega⟩
            rcases List.mem_append.mp hy with hy | hy
            · simp [t2 y hy]
            · simp at hy; simp [hy]
        · rintro ⟨⟨a1, a2⟩, a3⟩
          by_cases hx : x ∈ S
          · refine Or.inr ?_
            have hne : S ≠ [] := by rintro rfl; cases hx
            obtain ⟨T, z, rfl⟩ : ∃ T z, S = T ++ [z] := ⟨S.dropLast, S.getLast hne, (List.dropLast_concat_getLast hne).symm⟩
            obtain ⟨p1, p2⟩ := pw_snoc.mp a1
            have hz : z = x := by
              rcases List.mem_append.mp hx with hx | hx
              · have h1 := p2 x hx
                have h2 := a2 z (by simp)
                rcases List.mem_append.mp h2 with h2 | h2
                · exact absurd (nlt_trans h1 (pwx z h2)) (nlt_irrefl _)
                · simpa using h2
              · rw [List.mem_singleton] at hx; exact hx.symm
            subst hz
            refine List.mem_map.mpr ⟨T, List.mem_filter.mpr ⟨(h T).mpr ⟨⟨p1, fun y hy => ?_⟩, by simp at a3; omega⟩, by simp at a3; simp; omega⟩, rfl⟩
            have h2 := a2 y (by simp [hy])
            rcases List.mem_append.mp h2 with h2 | h2
            · exact h2
            · simp at h2
              have := p2 y hy
              rw [h2] at this
              exact absurd this (nlt_irrefl _)
          · refine Or.inl ⟨⟨a1, fun y hy => ?_⟩, a3⟩
            rcases List.mem_append.mp (a2 y hy) with h2 | h2
            · exact h2
            · simp at h2; subst h2; exact absurd hy hx
  intro pw S
  have := key names [] pw (fun S => by
    show S ∈ [[]] ↔ _
    rw [List.mem_singleton]
    constructor
    · rintro rfl; exact ⟨⟨.nil, by simp⟩, Nat.zero_le _⟩
    · rintro ⟨⟨_, h⟩, _⟩
      cases S with
      | nil => rfl
      | cons y r => exact absurd (h y (by simp)) (by simp)) S
  exact this
end PV

/-! Q16: lists of sets of names; logs without some names -/
namespace PV
open PySem PySem.Spec L2
abbrev eS (S : List Str) : D := .tuple (S.map .str)
/-! plain facts about lists -/
theorem perm_of_mem {α : Type} [DecidableEq α] : ∀ {l m : List α}, l.Nodup → m.Nodup → (∀ x, x ∈ l ↔ x ∈ m) → l.Perm m
  | [], m, _, _, h => by
    cases m with
    | nil => exact .nil
    | cons y r => exact absurd ((h y).mpr (by simp)) (by simp)
  | x :: l, m, hl, hm, h => by
    have hx : x ∈ m := (h x).mp (by simp)
    have hl' := List.nodup_cons.mp hl
    refine .trans (.cons x (perm_of_mem (m := m.erase x) hl'.2 (hm.erase x) fun y => ?_)) (List.perm_cons_erase hx).symm
    rw [hm.mem_erase_iff]
    constructor
    · exact fun hy => ⟨fun e => hl'.1 (e ▸ hy), (h y).mp (List.mem_cons_of_mem _ hy)⟩
    · rintro ⟨hne, hy⟩
      rcases List.mem_cons.mp ((h y).mpr hy) with e | e
      · exact absurd e hne
      · exact e
theorem snoc_inj {α : Type} {S T : List α} {x y : α} (h : S ++ [x] = T ++ [y]) : S = T ∧ x = y := by
  have := List.append_inj' h rfl
  exact ⟨this.1, by simpa using this.2⟩
theorem pw_nodup {S : List Str} (h : S.Pairwise nlt) : S.Nodup := List.Pairwise.imp (fun {a b} (k : nlt a b) (e : a = b) => nlt_irrefl b (by rw [e] at k; exact k)) h
theorem lv_nodup {names : List Str} (hn : names.Nodup) : ∀ n, (lv names n).Nodup
  | 0 => by simp [lv]
  | n + 1 => by
    rw [lv, List.Nodup, List.pairwise_flatMap]
    refine ⟨fun S hS => ?_, (lv_nodup hn n).imp fun {S T} hST U hU V hV e => ?_⟩
    · rw [nxt, List.pairwise_map]
      exact (hn.filter _).imp fun {x y} hxy e => hxy (snoc_inj e).2
    · obtain ⟨x, _, rfl⟩ := List.mem_map.mp hU
      obtain ⟨y, _, rfl⟩ := List.mem_map.mp hV
      exact hST (snoc_inj e).1
theorem range_pw (n : Nat) : (List.range n).Pairwise (· < ·) := List.pairwise_lt_range
theorem smalls_nodup {names : List Str} (hn : names.Nodup) (m : Nat) : (smalls names m).Nodup := by
  rw [smalls, List.Nodup, List.pairwise_flatMap]
  refine ⟨fun n _ => lv_nodup hn n, (range_pw (m + 1)).imp fun {i j} hij S hS T hT e => ?_⟩
  have h1 := ((mem_lv names i S).mp hS).2
  have h2 := ((mem_lv names j T).mp hT).2
  rw [e] at h1
  omega
theorem smalls_asc (names : List Str) (m : Nat) : (smalls names m).Pairwise (fun S T => S.length ≤ T.length) := by
  rw [smalls, List.pairwise_flatMap]
  refine ⟨fun n _ => ?_, (range_pw (m + 1)).imp fun {i j} hij S hS T hT => ?_⟩
  · refine List.pairwise_of_forall_mem_list fun S hS T hT => ?_
    have h1 := ((mem_lv names n S).mp hS).2
    have h2 := ((mem_lv names n T).mp hT).2
    omega
  · have h1 := ((mem_lv names i S).mp hS).2
    have h2 := ((mem_lv names j T).mp hT).2
    omega
theorem chs_nodup (l : Nat) : ∀ (names : List Str), names.Pairwise nlt → (chs l names).Nodup := by
  intro names
  have key : ∀ (r pre : List Str), (pre ++ r).Pairwise nlt → (chs l pre).Nodup → (chs l (pre ++ r)).Nodup := by
    intro r
    induction r with
    | nil => intro pre _ h; rw [List.append_nil]; exact h
    | cons x r ih =>
      intro pre pw h
      have := ih (pre ++ [x]) (by rw [List.append_assoc]; exact pw) ?_
      · rwa [List.append_assoc] at this
      · have e : chs l (pre ++ [x]) = chs l pre ++ ((chs l pre).filter fun S => decide (S.length < l)).map fun S => S ++ [x] := by simp [chs]
        have pp := (List.pairwise_append.mp pw).1
        have pwx : ∀ y ∈ pre, nlt y x := fun y hy => (List.pairwise_append.mp pw).2.2 y hy x (by simp)
        rw [e, List.nodup_append]
        refine ⟨h, ?_, fun S hS T hT eST => ?_⟩
        · rw [List.Nodup, List.pairwise_map]
          exact (h.filter _).imp fun {S T} hST e => hST (snoc_inj e).1
        · obtain ⟨U, hU, rfl⟩ := List.mem_map.mp hT
          have := ((mem_chs l pre pp S).mp hS).1.2 x (by rw [eST]; simp)
          exact nlt_irrefl x (pwx x this)
  intro pw
  exact key names [] pw (by simp [chs])
/-! how many -/
theorem lv_len {names : List Str} (hn : names.length ≤ 6) : ∀ n, (lv names n).length ≤ 6 ^ n
  | 0 => by simp [lv]
  | n + 1 => by
    have ih := lv_len hn n
    have : ∀ l : List (List Str), (l.flatMap (nxt names)).length ≤ l.length * 6 := by
      intro l
      induction l with
      | nil => simp
      | cons S l ihl =>
        have h1 : (nxt names S).length ≤ 6 := by
          rw [nxt, List.length_map]
          exact Nat.le_trans (List.length_filter_le _ _) hn
        rw [List.flatMap_cons, List.length_append, List.length_cons]
        omega
    have := this (lv names n)
    rw [lv, Nat.pow_succ]
    omega
theorem sb_len {names S : List Str} (h : Sb names S) : S.length ≤ names.length := by
  have hn := pw_nodup h.1
  have : ∀ (S names : List Str), S.Nodup → (∀ x ∈ S, x ∈ names) → S.length ≤ names.length := by
    intro S
    induction S with
    | nil => intro names _ _; simp
    | cons x S ih =>
      intro names hn hs
      have hx := hs x (by simp)
      have hn' := List.nodup_cons.mp hn
      have := ih (names.erase x) hn'.2 (fun y hy => by
        rw [List.mem_erase_of_ne]
        · exact hs y (by simp [hy])
        · exact fun e => hn'.1 (e ▸ hy))
      rw [List.length_erase_of_mem hx] at this
      have := List.length_pos_of_mem hx
      rw [List.length_cons]; omega
  exact this S names hn h.2
theorem lv_le {names : List Str} (hn : names.length ≤ 6) (n : Nat) : (lv names n).length ≤ 46656 := by
  rcases Nat.lt_or_ge n 7 with c | c
  · refine Nat.le_trans (lv_len hn n) ?_
    exact Nat.le_trans (Nat.pow_le_pow_right (by decide) (show n ≤ 6 by omega)) (by decide)
  · have : lv names n = [] := by
      cases h : lv names n with
      | nil => rfl
      | cons S r =>
        obtain ⟨h1, h2⟩ := (mem_lv names n S).mp (by rw [h]; simp)
        have := sb_len h1
        omega
    rw [this]; simp
theorem smalls_succ (names : List Str) (m : Nat) : smalls names (m + 1) = smalls names m ++ lv names (m + 1) := by
  rw [smalls, List.range_succ, List.flatMap_append]; simp [smalls]
theorem smalls_len {names : List Str} (hn : names.length ≤ 6) : ∀ m, (smalls names m).length ≤ 46656 * (m + 1)
  | 0 => by simp [smalls, lv]
  | m + 1 => by
    have := smalls_len hn m
    have := lv_le hn (m + 1)
    rw [smalls_succ, List.length_append]; omega
theorem smalls_next (names : List Str) (m : Nat) : (smalls names m).flatMap (fun S => if S.length = m then nxt names S else []) = lv names (m + 1) := by
  have lo : ∀ l : List (List Str), (∀ S ∈ l, S.length ≠ m) → l.flatMap (fun S => if S.length = m then nxt names S else []) = [] := by
    intro l
    induction l with
    | nil => intro _; rfl
    | cons S l ih =>
      intro h
      rw [List.flatMap_cons, if_neg (h S (by simp)), ih fun T hT => h T (by simp [hT])]; rfl
  have hi : ∀ l : List (List Str), (∀ S ∈ l, S.length = m) → l.flatMap (fun S => if S.length = m then nxt names S else []) = l.flatMap (nxt names) := by
    intro l
    induction l with
    | nil => intro _; rfl
    | cons S l ih =>
      intro h
      rw [List.flatMap_cons, if_pos (h S (by simp)), ih fun T hT => h T (by simp [hT]), List.flatMap_cons]
  cases m with
  | zero => simp [smalls, lv]
  | succ m =>
    rw [smalls_succ, List.flatMap_append, lo (smalls names m), List.nil_append, hi (lv names (m + 1))]
    · rfl
    · exact fun S hS => ((mem_lv _ _ _).mp hS).2
    · intro S hS
      have := ((mem_smalls _ _ _).mp hS).2
      omega
/-! sorting -/
theorem slt (S T : List Str) : PySem.W.dataLt (eS S) (eS T) = PySem.W.listLt S T := PySem.W.DatumOrd.lt_eq (α := PySem.W.Tup Str) ⟨S⟩ ⟨T⟩
theorem str_eq_of {x y : Str} (h : x.cps.toList = y.cps.toList) : x = y := by
  obtain ⟨⟨a⟩⟩ := x
  obtain ⟨⟨b⟩⟩ := y
  have : a = b := h
  rw [this]
theorem listLt_anti : ∀ S T : List Str, PySem.W.listLt S T = false → PySem.W.listLt T S = false → S = T
  | [], [], _, _ => rfl
  | [], _ :: _, h, _ => by simp [PySem.W.listLt] at h
  | _ :: _, [], _, h => by simp [PySem.W.listLt] at h
  | x :: S, y :: T, h1, h2 => by
    by_cases e : x = y
    · subst e
      simp only [PySem.W.listLt, if_pos rfl] at h1 h2
      rw [listLt_anti S T (by simpa using h1) (by simpa using h2)]
    · exfalso
      simp only [PySem.W.listLt, if_neg e, if_neg (Ne.symm e)] at h1 h2
      have h1 : ¬ x.cps.toList < y.cps.toList := of_decide_eq_false h1
      have h2 : ¬ y.cps.toList < x.cps.toList := of_decide_eq_false h2
      exact e (str_eq_of (List.le_antisymm (List.not_lt.mp h2) (List.not_lt.mp h1)))
theorem sort_sets {l m : List (List Str)} (hp : l.Perm m) : (l.map eS).mergeSort leB = (m.map eS).mergeSort leB := by
  refine List.Perm.eq_of_pairwise (le := fun a b => leB a b = true) ?_ (List.pairwise_mergeSort leB_trans leB_total _) (List.pairwise_mergeSort leB_trans leB_total _) ((List.mergeSort_perm _ _).trans ((hp.map eS).trans (List.mergeSort_perm _ _).symm))
  intro a b ha hb h1 h2
  rw [(List.mergeSort_perm _ _).mem_iff] at ha hb
  obtain ⟨S, hS, rfl⟩ := List.mem_map.mp ha
  obtain ⟨T, hT, rfl⟩ := List.mem_map.mp hb
  simp only [leB, slt, Bool.not_eq_true'] at h1 h2
  rw [listLt_anti S T h2 h1]
theorem sortOk_sets {l : List (List Str)} (h : (∀ S ∈ l, S ≠ []) ∨ l.length ≤ 1) : sortOk (l.map eS) = true := by
  simp only [sortOk, Bool.and_eq_true, decide_eq_true_eq]
  have e : l.map eS = (l.map fun S => (⟨S⟩ : PySem.W.Tup Str)).map PySem.W.Datum.toD := by simp; intro S _; rfl
  refine ⟨⟨⟨?_, ?_⟩, ?_⟩, ?_⟩
  · rw [e]; exact PySem.W.plainAll_map _
  · simp only [List.all_map, List.all_eq_true]
    intro S _
    simp only [Function.comp, List.all_eq_true]
    intro T _
    exact PySem.W.DatumOrd.alike (α := PySem.W.Tup Str) ⟨S⟩ ⟨T⟩
  · rcases h with h | h
    · have : (l.map eS).all isTup1 = true := by
        simp only [List.all_map, List.all_eq_true]
        intro S hS
        cases S with
        | nil => exact absurd rfl (h _ hS)
        | cons x r => rfl
      rw [this]; rfl
    · have h1 : (l.map eS).all notNone = true := by
        simp only [List.all_map, List.all_eq_true]
        intro S _
        rfl
      rw [h1]
      simp [h]
  · rw [e]
    exact Nat.le_trans (PySem.W.depthAll_map (α := PySem.W.Tup Str) _) (by decide)
theorem sort_F {l : List (List Str)} (h : (∀ S ∈ l, S ≠ []) ∨ l.length ≤ 1) : sortF [.list (l.map eS)] = some (.list ((l.map eS).mergeSort leB)) := by
  simp only [sortF]
  rw [if_pos (sortOk_sets h)]
/-! small_sets, _law_chosen -/
@[simp] theorem gt_str (a b : Str) : gtD (.str a) (.str b) = some (.bool (decide (b.cps.toList < a.cps.toList))) := by
  show (if cmpOk (.str a) (.str b) = true then some (PyData.bool (PySem.W.dataLt (.str b) (.str a))) else none) = _
  rw [if_pos (cmp_str a b), PySem.W.dataLt_str]
@[simp] theorem eq_tnil (S : List Str) : eqD (.tuple (S.map .str)) (.tuple []) = some (.bool (decide (S = []))) := by
  have := eqD_dat (α := PySem.W.Tup Str) (by decide) ⟨S⟩ ⟨[]⟩
  refine this.trans ?_
  congr 2
  simp
theorem last_str {S : List Str} {y : Str} (h : S.getLast? = some y) : atI (S.map PyData.str) (-1) = some (.str y) := at_last (by rw [List.getLast?_map, h]; rfl)
theorem s_smallsets {names : List Str} (hn : names.length ≤ 6) {m : Nat} (hm : m ≤ 10) : sem_small_sets [.list (names.map .str), .int m] = .ok (.list ((smalls names m).map eS)) := by
  simp [sem_small_sets, I.r1]
  rw [if_pos (by omega)]
  simp only [q_on]
  refine sat_run ?_
  refine sat_range (fun i ρ => ∃ u3 u4 u5 u6, ρ = [.val (.list (names.map .str)), .val (.int m), .val (.list ((smalls names i).map eS)), u3, u4, u5, u6]) ?_ ?_ ?_
  · exact ⟨_, _, _, _, rfl⟩
  · rintro i ρ hi ⟨u3, u4, u5, u6, rfl⟩
    refine ⟨_, rfl, ?_⟩
    rw [Int.zero_add]
    have hlen := smalls_len hn i
    have hi10 : i + 1 ≤ 10 := by omega
    simp
    refine sat_loop eS (fun pre ρ => ∃ u5 u6, ρ = [.val (.list (names.map .str)), .val (.int m), .val (.list ((smalls names i).map eS)), .val (.int i), .own ((pre.flatMap fun S => if S.length = i then nxt names S else []).map eS), u5, u6] ∧ (pre.flatMap fun S => if S.length = i then nxt names S else []).length ≤ 6 * pre.length) (smalls names i) rfl ?_ ?_ ?_
    · exact ⟨_, _, rfl, by simp⟩
    · rintro pre S q ρ e ⟨u5, u6, rfl, hlp⟩
      refine ⟨_, rfl, ?_⟩
      have hpl : pre.length < (smalls names i).length := by rw [e]; simp
      rw [List.flatMap_append, List.flatMap_cons, List.flatMap_nil, List.append_nil]
      generalize (pre.flatMap fun S => if S.length = i then nxt names S else []) = acc at *
      by_cases c : S.length = i
      · rw [if_pos c]
        have hnx : (nxt names S).length ≤ 6 := by
          rw [nxt, List.length_map]
          exact Nat.le_trans (List.length_filter_le _ _) hn
        simp [c]
        have hc : compF (GE.name 6) (T.or (T.of (E.op2 eqD (E.var 5) (E.tup (A.nil)))) (T.of (E.op2 gtD (E.var 6) (E.op2 ixD (E.var 5) (E.op1 negD (E.con (.int 1))))))) (E.op2 addD (E.var 5) (E.tup (A.cons (E.var 6) (A.nil))))
            [some (.list (names.map .str)), some (.int m), some (.list ((smalls names i).map eS)), some (.int i), none, some (eS S), none] (names.map .str) = .ok ((nxt names S).map eS) := by
          rw [comp_map PyData.str (aft S) (fun x => eS (S ++ [x])) names (fun x _ => ⟨_, rfl, ?_, fun _ => ?_⟩)]
          · simp [nxt]
          · cases hS : S.getLast? with
            | none =>
              have : S = [] := List.getLast?_eq_none_iff.mp hS
              subst this
              simp [aft]
            | some y =>
              have hne : S ≠ [] := by rintro rfl; cases hS
              have := last_str hS
              simp [aft, hS, hne, this]
          · have : S.length + 1 ≤ 16777216 := by
              have := ((mem_smalls _ _ _).mp (show S ∈ smalls names i by rw [e]; simp)).2
              omega
            have ha : addD (.tuple (S.map .str)) (.tuple [.str x]) = some (.tuple (S.map .str ++ [.str x])) := o_addt _ _ (by simpa using this)
            simp [ha]
        have hb : acc.length + (nxt names S).length ≤ 16777216 := by omega
        rw [hc]
        simp [hb]
        refine sat_nx ⟨_, _, by rw [List.map_append], ?_⟩
        rw [List.length_append, List.length_append]
        simp
        omega
      · rw [if_neg c]
        have : ¬ ((S.length : Int) = (i : Int)) := by omega
        simp [this]
        exact sat_nx ⟨_, _, by rw [List.append_nil], by simp; omega⟩
    · rintro ρ' ⟨u5, u6, rfl, _⟩
      rw [smalls_next]
      have h2 := lv_le hn (i + 1)
      have ha : addD (.list ((smalls names i).map eS)) (.list ((lv names (i + 1)).map eS)) = some (.list ((smalls names (i + 1)).map eS)) := by
        rw [o_addl _ _ (by simp; omega), ← List.map_append, ← smalls_succ]
      simp [ha]
      exact sat_nx ⟨_, _, _, _, rfl⟩
  · rintro ρ' ⟨u3, u4, u5, u6, rfl⟩
    simp [Sat]
theorem chs_len (m : Nat) (pre : List Str) : (chs m pre).length ≤ 2 ^ pre.length := by
  have key : ∀ (r p : List Str), (chs m p).length ≤ 2 ^ p.length → (chs m (p ++ r)).length ≤ 2 ^ (p ++ r).length := by
    intro r
    induction r with
    | nil => intro p h; simpa using h
    | cons x r ih =>
      intro p h
      have e : chs m (p ++ [x]) = chs m p ++ ((chs m p).filter fun S => decide (S.length < m)).map fun S => S ++ [x] := by simp [chs]
      have := ih (p ++ [x]) (by
        rw [e, List.length_append, List.length_map, List.length_append, List.length_singleton, Nat.pow_succ]
        have := List.length_filter_le (fun S : List Str => decide (S.length < m)) (chs m p)
        omega)
      simpa using this
  exact key pre [] (by simp [chs])
theorem smalls_perm {names : List Str} (pw : names.Pairwise nlt) (m : Nat) : (smalls names m).Perm (chs m names) :=
  perm_of_mem (smalls_nodup (pw_nodup pw) m) (chs_nodup m names pw) fun S => (mem_smalls names m S).trans (mem_chs m names pw S).symm
theorem smalls_64 {names : List Str} (pw : names.Pairwise nlt) (hn : names.length ≤ 6) (m : Nat) : (smalls names m).length ≤ 64 := by
  rw [(smalls_perm pw m).length_eq]
  exact Nat.le_trans (chs_len m names) (Nat.pow_le_pow_right (by decide) hn)
theorem s_chosen {names : List Str} (hn : names.length ≤ 6) (m : Nat) : sem__law_chosen [.list (names.map .str), .int m] = .ok (.list ((chs m names).map eS)) := by
  have hb := chs_len m
  have hs : ∀ (pre : List Str) S, S ∈ chs m pre → S.length ≤ pre.length := by
    intro pre
    have key : ∀ (r p : List Str), (∀ S ∈ chs m p, S.length ≤ p.length) → ∀ S ∈ chs m (p ++ r), S.length ≤ (p ++ r).length := by
      intro r
      induction r with
      | nil => intro p h; simpa using h
      | cons x r ih =>
        intro p h
        have e : chs m (p ++ [x]) = chs m p ++ ((chs m p).filter fun S => decide (S.length < m)).map fun S => S ++ [x] := by simp [chs]
        have := ih (p ++ [x]) (by
          intro S hS
          rw [e] at hS
          rcases List.mem_append.mp hS with hS | hS
          · have := h S hS
            simp; omega
          · obtain ⟨T, hT, rfl⟩ := List.mem_map.mp hS
            have := h T (List.mem_filter.mp hT).1
            simp; omega)
        simpa using this
    exact key pre [] (by simp [chs])
  simp [sem__law_chosen]
  refine sat_run ?_
  refine sat_loop PyData.str (fun pre ρ => ∃ u3 u4, ρ = [.val (.list (names.map .str)), .val (.int m), .val (.list ((chs m pre).map eS)), u3, u4]) names rfl ⟨_, _, rfl⟩ ?_ ?_
  · rintro pre x q ρ e ⟨u3, u4, rfl⟩
    refine ⟨_, rfl, ?_⟩
    have hpl : pre.length < names.length := by rw [e]; simp
    have h1 := hb pre
    have h2 : 2 ^ pre.length ≤ 2 ^ 6 := Nat.pow_le_pow_right (by decide) (by omega)
    have e1 : chs m (pre ++ [x]) = chs m pre ++ ((chs m pre).filter fun S => decide (S.length < m)).map fun S => S ++ [x] := by simp [chs]
    have hf := List.length_filter_le (fun S : List Str => decide (S.length < m)) (chs m pre)
    simp
    rw [comp_map eS (fun S => decide (S.length < m)) (fun S => eS (S ++ [x])) (chs m pre) (fun S hS => ⟨_, rfl, by simp, fun _ => by
      have := hs pre S hS
      have ha : addD (.tuple (S.map .str)) (.tuple [.str x]) = some (.tuple (S.map .str ++ [.str x])) := o_addt _ _ (by simp; omega)
      simp [ha]⟩)]
    have ha : addD (.list ((chs m pre).map eS)) (.list (((chs m pre).filter fun S => decide (S.length < m)).map fun S => eS (S ++ [x]))) = some (.list ((chs m (pre ++ [x])).map eS)) := by
      rw [o_addl _ _ (by simp only [List.length_map]; omega), e1, List.map_append, List.map_map]; rfl
    simp only [q_bok, ha, q_os, q_on]
    exact sat_nx ⟨_, _, rfl⟩
  · rintro ρ' ⟨u3, u4, rfl⟩
    simp [Sat]
end PV

/-! Q17: followed with fixed liars, suspects -/
namespace PV
open PySem PySem.Spec L2
theorem VLog.fp {lg : Lg} (h : VLog lg) (S : List Str) : VLog (lg.map (fp S)) := by
  refine ⟨by simpa using h.ne, by simpa using h.len, fun p hp => ?_, fun p hp => ?_, fun i p q hp hq => ?_, fun p hp q hq => ?_⟩
  · obtain ⟨p', hp', rfl⟩ := List.mem_map.mp hp
    exact h.mom p' hp'
  · obtain ⟨p', hp', rfl⟩ := List.mem_map.mp hp
    exact ⟨(h.rep p' hp').1.filter _, Nat.le_trans (List.length_filter_le _ _) (h.rep p' hp').2⟩
  · rw [List.getElem?_map, Option.map_eq_some_iff] at hp hq
    obtain ⟨p', h1, rfl⟩ := hp
    obtain ⟨q', h2, rfl⟩ := hq
    exact h.asc i p' q' h1 h2
  · obtain ⟨p', hp', rfl⟩ := List.mem_map.mp hp
    obtain ⟨q', hq', rfl⟩ := List.mem_map.mp hq
    have e : ∀ rs : List Rep, nms (fl S rs) = (nms rs).filter fun x => !decide (x ∈ S) := fun rs => by simp [nms, fl, List.filter_map]; rfl
    show nms (fl S p'.2) = nms (fl S q'.2)
    rw [e, e, h.src p' hp' q' hq']
abbrev eLl (l : Lg) : D := .list (l.map eL)
theorem s_ledL {lg : Lg} (h : VLog lg) {a b k : Int} (h0 : 0 ≤ a) (h1 : a ≤ b) (h2 : b ≤ 9) : sem_led_through [eLl lg, eP (a, b), .int k] = .ok (ePs (led a b k lg)) := by
  cases lg with
  | nil => exact absurd rfl h.ne
  | cons p0 r =>
    have vt : ∀ p ∈ p0 :: r, VT p.2 := fun p hp => (h.rep p hp).1.vt
    have pw := h.pw
    simp [sem_led_through, s_ptimes (vt p0 (by simp)), sliceD, cut1]
    refine sat_run ?_
    refine sat_loop eL (fun pre ρ => ∃ u5 u6 u7, ρ = [.val (eLl (p0 :: r)), .val (eP (a, b)), .val (.int k), .val (.int (pre.foldl (stp a b k) (led0 k p0)).1), .val (ePs (pre.foldl (stp a b k) (led0 k p0)).2), u5, u6, u7]) r rfl ⟨_, _, _, rfl⟩ ?_ ?_
    · rintro pre x q ρ e ⟨u5, u6, u7, rfl⟩
      refine ⟨_, rfl, ?_⟩
      subst e
      obtain ⟨g1, g2⟩ := pre_gp (a := a) (b := b) (k := k) h1 pw vt
      rw [List.foldl_append, List.foldl_cons, List.foldl_nil]
      generalize pre.foldl (stp a b k) (led0 k p0) = s at *
      have m1 := mul9 h0 (by omega) (x.1 - s.1)
      have m2 := mul9 (show 0 ≤ b by omega) h2 (x.1 - s.1)
      have e1 := s_grown s.2 (a * (x.1 - s.1)) (b * (x.1 - s.1)) (Nat.le_trans g1.len (by decide))
      have vx := vt x (by simp)
      have e2 := s_common (grow s.2 (a * (x.1 - s.1)) (b * (x.1 - s.1))) (twith x.2 (x.2.length - k)) (Nat.le_trans (grow_len _ _ _) g1.len) (Nat.le_trans (twith_len vx _) (by decide))
      simp [m1, m2, e1, e2, s_ptimes vx]
      exact sat_nx ⟨_, _, _, rfl⟩
    · rintro ρ' ⟨u5, u6, u7, rfl⟩
      simp
      rfl
def LW (a b : Int) (lg : Lg) (S : List Str) : List Rg := led a b 0 (lg.map (fp S))
theorem s_ledw {lg : Lg} (h : VLog lg) (S : List Str) {a b : Int} (h0 : 0 ≤ a) (h1 : a ≤ b) (h2 : b ≤ 9) : sem_led_without [eLs lg, eP (a, b), eS S] = .ok (ePs (LW a b lg S)) := by
  simp [sem_led_without]
  rw [comp_all eL (fun p => eL (fp S p)) lg (fun p _ => ⟨_, rfl, by
    simp
    rw [comp_map eR (fun r => !decide (r.a ∈ S)) eR p.2 (fun r _ => ⟨_, rfl, by simp, by simp⟩)]
    simp [eL, fp, fl]⟩)]
  have e : lg.map (fun p => eL (fp S p)) = (lg.map (fp S)).map eL := by simp
  rw [e]
  have := s_ledL (h.fp S) (k := 0) h0 h1 h2
  generalize hlf : lg.map (fp S) = lf at *
  simp [this]
  rw [LW, hlf]
theorem gp_lw {lg : Lg} (h : VLog lg) (S : List Str) {a b : Int} (h1 : a ≤ b) : GP (LW a b lg S) := led_gp (h.fp S) h1
/-! ranges of several lists -/
theorem in_flat {α : Type} (f : α → List Rg) (t : Int) : ∀ l : List α, In (l.flatMap f) t ↔ ∃ x ∈ l, In (f x) t
  | [] => by simp [in_nil]
  | x :: l => by rw [List.flatMap_cons, in_append, in_flat f t l]; simp
def fixd (a b : Int) (lg : Lg) (names : List Str) (m : Nat) : List Rg := mrg ((smalls names m).flatMap (LW a b lg))
theorem gp_fixd {lg : Lg} (h : VLog lg) {a b : Int} (h1 : a ≤ b) (names : List Str) (m : Nat) : GP (fixd a b lg names m) ∧ ∀ t, In (fixd a b lg names m) t ↔ ∃ S, (Sb names S ∧ S.length ≤ m) ∧ In (LW a b lg S) t := by
  obtain ⟨⟨c, k1⟩, k2⟩ := mrg_ok (l := (smalls names m).flatMap (LW a b lg)) (fun p hp => by
    obtain ⟨S, _, hS⟩ := List.mem_flatMap.mp hp
    exact cn_mem_le (gp_lw h S h1).1 hS)
  have k3 : ∀ t, In (fixd a b lg names m) t ↔ ∃ S, (Sb names S ∧ S.length ≤ m) ∧ In (LW a b lg S) t := fun t => by
    refine (k2 t).trans ((in_flat _ t _).trans ?_)
    simp only [mem_smalls]
  refine ⟨⟨cn_zero k1 fun t ht => ?_, fun t ht => ?_⟩, k3⟩
  · obtain ⟨S, _, hS⟩ := (k3 t).mp ht
    exact Cn.lo (gp_lw h S h1).1 hS
  · obtain ⟨S, _, hS⟩ := (k3 t).mp ht
    exact (gp_lw h S h1).2 t hS
/-- few ranges each -/
theorem comm_len (l m : List Rg) : (comm l m).length ≤ l.length * m.length := by
  refine Nat.le_trans (mrg_len _) (Nat.le_trans (List.length_filter_le _ _) ?_)
  rw [cross_len]; exact Nat.le_refl _
theorem sb_pos {names : List Str} (S : List Str) : S ∈ smalls names 0 → S = [] := fun h => List.length_eq_zero_iff.mp (Nat.le_zero.mp ((mem_smalls _ _ _).mp h).2)
theorem s_fixed {lg : Lg} (h : VLog lg) {p0 : Int × List Rep} {r : Lg} (e0 : lg = p0 :: r) {a b : Int} {m : Nat} (h0 : 0 ≤ a) (h1 : a ≤ b) (h2 : b ≤ 9) (hm : m ≤ 10) :
    sem_followed_fixed [eLs lg, eP (a, b), .int m] = .ok (ePs (fixd a b lg (nms p0.2) m)) := by
  have hix : ixD (eLs lg) (.int 0) = some (eL p0) := by rw [e0]; simp
  have hp0 := h.rep p0 (by rw [e0]; simp)
  have pw : (nms p0.2).Pairwise nlt := by
    have := hp0.1.pw
    rw [nms, List.pairwise_map]; exact this
  have hn : (nms p0.2).length ≤ 6 := by rw [nms, List.length_map]; exact hp0.2
  have hs := s_sources' p0.2
  have hss := s_smallsets hn (m := m) hm
  have h64 := smalls_64 pw hn m
  have hck := s_chklog h h0 h1 h2 (k := m) (by omega) (by omega)
  have hlw := fun S => s_ledw h S h0 h1 h2
  have hgp := fun S => gp_lw h S h1
  unfold fixd
  generalize nms p0.2 = names at *
  generalize LW a b lg = L at *
  generalize eLs lg = lgD at *
  simp [sem_followed_fixed, hck, hix, hs, hss]
  refine sat_run ?_
  refine sat_loop eS (fun pre ρ => ∃ u4, ρ = [.val lgD, .val (eP (a, b)), .val (.int m), .own ((pre.flatMap L).map eP), u4] ∧ (pre.flatMap L).length ≤ 10000 * pre.length) (smalls names m) rfl ⟨_, rfl, by simp⟩ ?_ ?_
  · rintro pre S q ρ e ⟨u4, rfl, hlp⟩
    refine ⟨_, rfl, ?_⟩
    have hpl : pre.length < (smalls names m).length := by rw [e]; simp
    rw [List.flatMap_append, List.flatMap_cons, List.flatMap_nil, List.append_nil]
    have hl2 := (hgp S).len
    have hlS := hlw S
    generalize pre.flatMap L = acc at *
    generalize L S = LS at *
    have hb : acc.length + LS.length ≤ 16777216 := by omega
    simp [M.vl, hlS, hb]
    refine sat_nx ⟨_, by rw [List.map_append], ?_⟩
    rw [List.length_append, List.length_append]
    simp
    omega
  · rintro ρ' ⟨u4, rfl, hlp⟩
    have hmm := s_merged ((smalls names m).flatMap L) (by omega)
    simp [hmm]
    rfl
/-! with fixed liars: no more than with changing ones -/
theorem fold_sub {a b k k' : Int} (hab : a ≤ b) (f : Int × List Rep → Int × List Rep) : ∀ (r : Lg) (s s' : Int × List Rg), s.1 = s'.1 → GP s.2 → GP s'.2 → (∀ t, In s.2 t → In s'.2 t) → (∀ p ∈ r, s.1 < p.1) → r.Pairwise (fun p q => p.1 < q.1) →
    (∀ p ∈ r, (f p).1 = p.1 ∧ VT (f p).2 ∧ VT p.2 ∧ ∀ t, ((f p).2.length : Int) - k ≤ (cnt (f p).2 t : Int) → (p.2.length : Int) - k' ≤ (cnt p.2 t : Int)) → ∀ t, In ((r.map f).foldl (stp a b k) s).2 t → In (r.foldl (stp a b k') s').2 t
  | [], s, s', _, _, _, hi, _, _, _, t, ht => hi t ht
  | p :: r, s, s', e, g, g', hi, hm, pw, hf, t, ht => by
    obtain ⟨f1, f2, f3, f4⟩ := hf p (by simp)
    have hmp := hm p (by simp)
    obtain ⟨q1, q2⟩ := stp_ok (k := k) hab g f2 (by omega)
    obtain ⟨q1', q2'⟩ := stp_ok (k := k') hab g' f3 (by omega)
    have pw' := List.pairwise_cons.mp pw
    rw [List.map_cons, List.foldl_cons] at ht
    rw [List.foldl_cons]
    refine fold_sub hab f r _ _ f1 q1 q1' (fun u hu => ?_) (fun q hq => by show (f p).1 < q.1; rw [f1]; exact pw'.1 q hq) pw'.2 (fun q hq => hf q (by simp [hq])) t ht
    obtain ⟨⟨x1, x2, x3⟩, v, x4, x5, x6⟩ := (q2 u).mp hu
    refine (q2' u).mpr ⟨⟨x1, x2, f4 u x3⟩, v, hi v x4, ?_, ?_⟩
    · rw [f1] at x5; rw [← e]; exact x5
    · rw [f1] at x6; rw [← e]; exact x6
theorem cnt_full {rs : List Rep} {t : Int} : rs.length ≤ cnt rs t ↔ ∀ r ∈ rs, hits t r = true := by
  constructor
  · intro h r hr
    have e : rs.filter (hits t) = rs := List.Sublist.eq_of_length_le List.filter_sublist h
    rw [← e] at hr
    exact (List.mem_filter.mp hr).2
  · intro h; rw [cnt_all h]; exact Nat.le_refl _
theorem cnt_fl (rs : List Rep) (S : List Str) (t : Int) : cnt (fl S rs) t ≤ cnt rs t := by
  have : ((fl S rs).filter (hits t)).Sublist (rs.filter (hits t)) := List.Sublist.filter _ List.filter_sublist
  exact this.length_le
theorem fl_len {rs : List Rep} (h : VR rs) (S : List Str) : rs.length ≤ (fl S rs).length + S.length := by
  have h1 : ∀ rs : List Rep, rs.length = (fl S rs).length + (rs.filter fun r => decide (r.a ∈ S)).length := by
    intro rs
    induction rs with
    | nil => rfl
    | cons x l ih =>
      by_cases c : x.a ∈ S
      · simp [fl, c] at ih ⊢; omega
      · simp [fl, c] at ih ⊢; omega
  have h2 : ((rs.filter fun r => decide (r.a ∈ S)).map (·.a)).length ≤ S.length := by
    have nd : ((rs.filter fun r => decide (r.a ∈ S)).map (·.a)).Nodup := by
      rw [List.Nodup, List.pairwise_map]
      refine (h.pw.filter _).imp fun {r s} k e => ?_
      rw [e] at k; exact nlt_irrefl _ k
    have : ∀ (l m : List Str), l.Nodup → (∀ x ∈ l, x ∈ m) → l.length ≤ m.length := by
      intro l
      induction l with
      | nil => intro m _ _; simp
      | cons x l ih =>
        intro m hn hs
        have hx := hs x (by simp)
        have hn' := List.nodup_cons.mp hn
        have := ih (m.erase x) hn'.2 (fun y hy => by
          rw [List.mem_erase_of_ne]
          · exact hs y (by simp [hy])
          · exact fun e => hn'.1 (e ▸ hy))
        rw [List.length_erase_of_mem hx] at this
        have := List.length_pos_of_mem hx
        rw [List.length_cons]; omega
    refine this _ _ nd fun x hx => ?_
    obtain ⟨r, hr, rfl⟩ := List.mem_map.mp hx
    have := (List.mem_filter.mp hr).2
    simpa using this
  have := h1 rs
  rw [List.length_map] at h2
  omega
theorem fix_sub {lg : Lg} (h : VLog lg) {a b : Int} (hab : a ≤ b) {S : List Str} {k : Int} (hS : (S.length : Int) ≤ k) (t : Int) (ht : In (LW a b lg S) t) : In (led a b k lg) t := by
  have val : ∀ p ∈ lg, ∀ t, ((fl S p.2).length : Int) - 0 ≤ (cnt (fl S p.2) t : Int) → (p.2.length : Int) - k ≤ (cnt p.2 t : Int) := fun p hp t ht => by
    have h1 := fl_len (h.rep p hp).1 S
    have h2 := cnt_fl p.2 S t
    omega
  cases lg with
  | nil => exact absurd rfl h.ne
  | cons p0 r =>
    have vt : ∀ p ∈ p0 :: r, VT p.2 := fun p hp => (h.rep p hp).1.vt
    have pw := List.pairwise_cons.mp h.pw
    refine fold_sub hab (fp S) r (led0 0 (fp S p0)) (led0 k p0) rfl (gp_twith (vt_fl (vt p0 (by simp)) S) _) (gp_twith (vt p0 (by simp)) _) (fun u hu => ?_) pw.1 pw.2 (fun p hp => ⟨rfl, vt_fl (vt p (by simp [hp])) S, vt p (by simp [hp]), val p (by simp [hp])⟩) t ht
    obtain ⟨x1, x2, x3⟩ := ((twith_ok (vt_fl (vt p0 (by simp)) S) _).2 u).mp hu
    exact ((twith_ok (vt p0 (by simp)) _).2 u).mpr ⟨x1, x2, val p0 (by simp) u x3⟩
end PV

/-! Q18: suspects -/
namespace PV
open PySem PySem.Spec L2
theorem len_sub {α : Type} [DecidableEq α] : ∀ {l m : List α}, l.Nodup → (∀ x ∈ l, x ∈ m) → l.length ≤ m.length
  | [], _, _, _ => by simp
  | x :: l, m, hn, hs => by
    have hx := hs x (by simp)
    have hn' := List.nodup_cons.mp hn
    have := len_sub (l := l) (m := m.erase x) hn'.2 (fun y hy => by
      rw [List.mem_erase_of_ne]
      · exact hs y (by simp [hy])
      · exact fun e => hn'.1 (e ▸ hy))
    rw [List.length_erase_of_mem hx] at this
    have := List.length_pos_of_mem hx
    rw [List.length_cons]; omega
theorem sub_short {S T : List Str} (hS : S.Pairwise nlt) (hT : T.Pairwise nlt) (h : ∀ x ∈ T, x ∈ S) (hne : T ≠ S) : T.length < S.length := by
  have nS := pw_nodup hS
  have nT := pw_nodup hT
  have h1 := len_sub nT h
  rcases Nat.lt_or_ge T.length S.length with c | c
  · exact c
  · exfalso
    have h2 : ∀ x ∈ S, x ∈ T := fun x hx => by
      apply Decidable.byContradiction
      intro hxT
      have := len_sub (m := S.erase x) nT (fun y hy => by
        rw [List.mem_erase_of_ne]
        · exact h y hy
        · exact fun e => hxT (e ▸ hy))
      rw [List.length_erase_of_mem hx] at this
      have := List.length_pos_of_mem hx
      omega
    have hp := perm_of_mem nT nS fun x => ⟨h x, h2 x⟩
    exact hne (List.Perm.eq_of_pairwise (le := nlt) (fun a b _ _ k1 k2 => absurd (nlt_trans k1 k2) (nlt_irrefl _)) hT hS hp)
section
variable (L : List Str → List Rg) (sets : List (List Str))
def Mi (S : List Str) : Prop := L S ≠ [] ∧ ∀ T ∈ sets, L T ≠ [] → (∀ x ∈ T, x ∈ S) → T = S
end
section
variable {L : List Str → List Rg} {sets : List (List Str)}
theorem mi_below (hs : ∀ S ∈ sets, S.Pairwise nlt) : ∀ (n : Nat) (S : List Str), S.length ≤ n → S ∈ sets → L S ≠ [] → ∃ T ∈ sets, Mi L sets T ∧ ∀ x ∈ T, x ∈ S := by
  intro n
  induction n with
  | zero =>
    intro S hn hS hL
    refine ⟨S, hS, ⟨hL, fun T hT hLT hsub => ?_⟩, fun _ h => h⟩
    apply Decidable.byContradiction
    intro hne
    have := sub_short (hs S hS) (hs T hT) hsub hne
    omega
  | succ n ih =>
    intro S hn hS hL
    apply Classical.byContradiction
    intro hno
    have hm : Mi L sets S := ⟨hL, fun T hT hLT hsub => by
      apply Decidable.byContradiction
      intro hne
      have := sub_short (hs S hS) (hs T hT) hsub hne
      obtain ⟨U, u1, u2, u3⟩ := ih T (by omega) hT hLT
      exact hno ⟨U, u1, u2, fun x hx => hsub x (u3 x hx)⟩⟩
    exact hno ⟨S, hS, hm, fun _ h => h⟩
/-- one more set is looked at -/
theorem mi_step (hs : ∀ S ∈ sets, S.Pairwise nlt) (nd : sets.Nodup) (asc : sets.Pairwise (fun S T => S.length ≤ T.length)) {pre q acc : List (List Str)} {S : List Str} (e : sets = pre ++ S :: q) (ha : ∀ T, T ∈ acc ↔ T ∈ pre ∧ Mi L sets T) :
    ((acc.filter fun T => T.all fun x => decide (x ∈ S)) = [] ∧ L S ≠ []) ↔ Mi L sets S := by
  have hS : S ∈ sets := by rw [e]; simp
  constructor
  · rintro ⟨h1, h2⟩
    refine ⟨h2, fun T hT hLT hsub => ?_⟩
    apply Decidable.byContradiction
    intro hne
    obtain ⟨U, u1, u2, u3⟩ := mi_below hs T.length T (Nat.le_refl _) hT hLT
    have hUS : ∀ x ∈ U, x ∈ S := fun x hx => hsub x (u3 x hx)
    have lt1 := sub_short (hs S hS) (hs T hT) hsub hne
    have lt2 := len_sub (pw_nodup (hs U u1)) u3
    have hU : U ∈ pre := by
      rw [e] at u1 asc
      rcases List.mem_append.mp u1 with k | k
      · exact k
      · exfalso
        rcases List.mem_cons.mp k with k | k
        · rw [k] at lt2; omega
        · have := (List.pairwise_cons.mp (List.pairwise_append.mp asc).2.1).1 U k
          omega
    have : U ∈ acc.filter fun T => T.all fun x => decide (x ∈ S) := List.mem_filter.mpr ⟨(ha U).mpr ⟨hU, u2⟩, by simpa using hUS⟩
    rw [h1] at this
    cases this
  · intro hm
    refine ⟨?_, hm.1⟩
    rw [List.filter_eq_nil_iff]
    intro T hT hall
    obtain ⟨h1, h2⟩ := (ha T).mp hT
    have hTs : T ∈ sets := by rw [e]; simp [h1]
    have := hm.2 T hTs h2.1 (by simpa using hall)
    subst this
    rw [e, List.nodup_append] at nd
    exact nd.2.2 T h1 T (by simp) rfl
end
theorem nolist_strs : ∀ S : List Str, nolistAll (S.map .str) = true
  | [] => rfl
  | x :: S => by rw [List.map_cons, nolistAll, nolist_strs S]; rfl
theorem nolist_sets : ∀ l : List (List Str), nolistAll (l.map eS) = true
  | [] => rfl
  | S :: l => by rw [List.map_cons, nolistAll, nolist_sets l, nolist, nolist_strs]; rfl
@[simp] theorem ne_snil (l : List (List Str)) : eqD (.list (l.map eS)) (.list []) = some (.bool (decide (l = []))) := by
  have e : l.map eS = (l.map fun S => (⟨S⟩ : PySem.W.Tup Str)).map PySem.W.Datum.toD := by simp; intro S _; rfl
  rw [e, eqD_nil]
  simp
theorem ne_pnil (l : List Rg) : neD (ePs l) (.list []) = some (.bool (!decide (l = []))) := neD_nil (α := Rg) l
theorem allIn_comp (U S : List Str) (ρ : En) (i j : Nat) (h : ∀ x, (ρ.set i (some (.str x)))[i]? = some (some (.str x)) ∧ (ρ.set i (some (.str x)))[j]? = some (some (eS S))) :
    compF (GE.name i) T.yes (E.op2 inD (E.var i) (E.var j)) ρ (U.map .str) = .ok (U.map fun x => .bool (decide (x ∈ S))) := by
  rw [comp_all PyData.str (fun x => .bool (decide (x ∈ S))) U (fun x _ => ⟨_, rfl, by
    obtain ⟨h1, h2⟩ := h x
    simp [h1, h2, in_strs]⟩)]
theorem s_suspects {lg : Lg} (h : VLog lg) {p0 : Int × List Rep} {r : Lg} (e0 : lg = p0 :: r) {a b : Int} {m : Nat} (h0 : 0 ≤ a) (h1 : a ≤ b) (h2 : b ≤ 9) (hm : m ≤ 10) :
    ∃ l : List (List Str), sem_suspects [eLs lg, eP (a, b), .int m] = .ok (.list ((l.map eS).mergeSort leB)) ∧ l.Nodup ∧ ∀ S, S ∈ l ↔ S ∈ smalls (nms p0.2) m ∧ Mi (LW a b lg) (smalls (nms p0.2) m) S := by
  have hix : ixD (eLs lg) (.int 0) = some (eL p0) := by rw [e0]; simp
  have hp0 := h.rep p0 (by rw [e0]; simp)
  have pw : (nms p0.2).Pairwise nlt := by
    have := hp0.1.pw
    rw [nms, List.pairwise_map]; exact this
  have hn : (nms p0.2).length ≤ 6 := by rw [nms, List.length_map]; exact hp0.2
  have hs := s_sources' p0.2
  have hss := s_smallsets hn (m := m) hm
  have h64 := smalls_64 pw hn m
  have hck := s_chklog h h0 h1 h2 (k := m) (by omega) (by omega)
  have hlw := fun S => s_ledw h S h0 h1 h2
  have nd := smalls_nodup (pw_nodup pw) m
  have asc := smalls_asc (nms p0.2) m
  have hpw : ∀ S ∈ smalls (nms p0.2) m, S.Pairwise nlt := fun S hS => ((mem_smalls _ _ _).mp hS).1.1
  generalize nms p0.2 = names at *
  generalize LW a b lg = L at *
  generalize eLs lg = lgD at *
  generalize smalls names m = sets at *
  simp [sem_suspects, hck, hix, hs, hss]
  show Sat (fun o => ∃ l : List (List Str), o.run = .ok (.list ((l.map eS).mergeSort leB)) ∧ l.Nodup ∧ ∀ S, S ∈ l ↔ S ∈ sets ∧ Mi L sets S) _
  refine sat_loop eS (fun pre ρ => ∃ (acc : List (List Str)) (u4 u5 u6 u7 : B), ρ = [.val lgD, .val (eP (a, b)), .val (.int m), .own (acc.map eS), u4, u5, u6, u7] ∧ acc.Nodup ∧ acc.length ≤ pre.length ∧ ∀ S, S ∈ acc ↔ S ∈ pre ∧ Mi L sets S) sets rfl ?_ ?_ ?_
  · exact ⟨[], _, _, _, _, rfl, by simp, by simp, by simp⟩
  · rintro pre S q ρ e ⟨acc, u4, u5, u6, u7, rfl, k1, k2, k3⟩
    refine ⟨_, rfl, ?_⟩
    have hst := mi_step hpw nd asc e k3
    have hpl : pre.length < sets.length := by rw [e]; simp
    have hlS := hlw S
    have nl := nolist_sets (acc.filter fun T => T.all fun x => decide (x ∈ S))
    have hSn : S ∉ pre := fun hS => by
      rw [e, List.nodup_append] at nd
      exact nd.2.2 S hS S (by simp) rfl
    simp [M.kf]
    have hc : compF (GE.name 6) (T.of (E.bi allF (A.cons (E.ofL (N.comp (I.seq (E.var 6)) (GE.name 7) T.yes (E.op2 inD (E.var 7) (E.var 4)) [7])) (A.nil)))) (E.var 6)
        [some lgD, some (eP (a, b)), some (.int m), some (.list (acc.map eS)), some (eS S), u5.k, none, u7.k] (acc.map eS) = .ok ((acc.filter fun T => T.all fun x => decide (x ∈ S)).map eS) := by
      rw [comp_map eS (fun T => T.all fun x => decide (x ∈ S)) eS acc (fun T _ => ⟨_, rfl, by
        simp
        rw [allIn_comp T S _ 7 4 (fun x => by simp)]
        rw [q_bok, q_bok, q_bok, o_allm]
        simp, fun _ => by simp⟩)]
    rw [hc]
    clear hc
    generalize (acc.filter fun T => T.all fun x => decide (x ∈ S)) = G at *
    simp [nl]
    by_cases c1 : G = []
    · by_cases c2 : L S = []
      · have hno : ¬ Mi L sets S := fun hm => hm.1 c2
        have nn := ne_pnil (L S)
        simp [c1, hlS, nn, c2]
        refine sat_nx ⟨acc, _, _, _, _, rfl, k1, by simp; omega, fun T => ?_⟩
        rw [k3]
        constructor
        · rintro ⟨x1, x2⟩; exact ⟨by simp [x1], x2⟩
        · rintro ⟨x1, x2⟩
          rcases List.mem_append.mp x1 with x1 | x1
          · exact ⟨x1, x2⟩
          · simp at x1; subst x1; exact absurd x2 hno
      · have hyes : Mi L sets S := hst.mp ⟨c1, c2⟩
        have nn := ne_pnil (L S)
        have hb : acc.length < 16777216 := by omega
        simp [c1, hlS, nn, c2, hb]
        refine sat_nx ⟨acc ++ [S], _, _, _, _, by rw [List.map_append]; rfl, ?_, by simp; omega, fun T => ?_⟩
        · rw [List.nodup_append]
          exact ⟨k1, by simp, fun T hT U hU eTU => by simp at hU; subst hU; subst eTU; exact hSn ((k3 T).mp hT).1⟩
        · rw [List.mem_append, List.mem_append, k3]
          constructor
          · rintro (⟨x1, x2⟩ | x1)
            · exact ⟨Or.inl x1, x2⟩
            · simp at x1; subst x1; exact ⟨Or.inr (by simp), hyes⟩
          · rintro ⟨x1 | x1, x2⟩
            · exact Or.inl ⟨x1, x2⟩
            · exact Or.inr x1
    · have hno : ¬ Mi L sets S := fun hm => c1 (hst.mpr hm).1
      simp [c1]
      refine sat_nx ⟨acc, _, _, _, _, rfl, k1, by simp; omega, fun T => ?_⟩
      rw [k3]
      constructor
      · rintro ⟨x1, x2⟩; exact ⟨by simp [x1], x2⟩
      · rintro ⟨x1, x2⟩
        rcases List.mem_append.mp x1 with x1 | x1
        · exact ⟨x1, x2⟩
        · simp at x1; subst x1; exact absurd x2 hno
  · rintro ρ' ⟨acc, u4, u5, u6, u7, rfl, k1, k2, k3⟩
    have hok : (∀ S ∈ acc, S ≠ []) ∨ acc.length ≤ 1 := by
      by_cases c : ([] : List Str) ∈ acc
      · right
        have hmi := ((k3 []).mp c)
        have all : ∀ T ∈ acc, T = [] := fun T hT => by
          have := ((k3 T).mp hT).2.2 [] hmi.1 hmi.2.1 (by simp)
          exact this.symm
        match acc, k1, all with
        | [], _, _ => simp
        | [x], _, _ => simp
        | x :: y :: r, k1, all =>
          have := (List.nodup_cons.mp k1).1
          rw [all x (by simp), all y (by simp)] at this
          simp at this
      · left
        exact fun S hS e => c (e ▸ hS)
    have := sort_F hok
    simp [this]
    exact ⟨acc, by simp [Sat], k1, k3⟩
end PV

/-! Q19: what is certain -/
namespace PV
open PySem PySem.Spec L2
theorem s_chkpos {rs : List Rep} (h : VR rs) {k : Int} (h0 : 0 ≤ k) (h1 : k ≤ 10) (hne : twith rs (rs.length - k) ≠ []) : sem_check_possible [eRs rs, .int k] = .ok .none := by
  have e := eqD_nil (α := Rg) (twith rs (rs.length - k))
  have e : eqD (ePs (twith rs (rs.length - k))) (.list []) = some (.bool false) := by
    refine Eq.trans e ?_
    simp [hne]
  simp [sem_check_possible, s_check h, s_chkliars h0 h1, s_ptimes h.vt, e]
theorem s_chkposX {rs : List Rep} (h : VR rs) {k : Int} (h0 : 0 ≤ k) (h1 : k ≤ 10) (hne : twith rs (rs.length - k) = []) : sem_check_possible [eRs rs, .int k] = .exc "Contradiction" := by
  simp [sem_check_possible, s_check h, s_chkliars h0 h1, s_ptimes h.vt, hne]
def rsets (rs : List Rep) (k : Int) : List (List Str) := ((pieces rs).map fun p => right rs p.1).filter fun l => decide ((rs.length : Int) - k ≤ (l.length : Int))
theorem right_congr {rs : List Rep} {s t : Int} (h : ∀ r ∈ rs, hits t r = hits s r) : right rs t = right rs s := by rw [right, right, filter_congr_hits h]
theorem right_len (rs : List Rep) (t : Int) : (right rs t).length = cnt rs t := by simp [right, cnt]
theorem mem_rsets {rs : List Rep} (h : VT rs) (k : Int) (l : List Str) : l ∈ rsets rs k ↔ ∃ t, 0 ≤ t ∧ t ≤ 9999 ∧ l = right rs t ∧ (rs.length : Int) - k ≤ (cnt rs t : Int) := by
  obtain ⟨p1, p2, p3, p4⟩ := pieces_ok h
  rw [rsets, List.mem_filter, List.mem_map, decide_eq_true_eq]
  constructor
  · rintro ⟨⟨p, hp, rfl⟩, hk⟩
    obtain ⟨q1, q2, q3, q4⟩ := p1 p hp
    rw [right_len] at hk
    exact ⟨p.1, q1, by omega, rfl, hk⟩
  · rintro ⟨t, t0, t1, rfl, hk⟩
    obtain ⟨p, hp, q1, q2⟩ := p2 t t0 t1
    have e := right_congr ((p1 p hp).2.2.2 t q1 q2)
    exact ⟨⟨p, hp, e.symm⟩, by rw [right_len]; exact hk⟩
abbrev eNs (l : List Str) : D := .list (l.map .str)
theorem s_rsets {rs : List Rep} (h : VT rs) (k : Int) : sem_right_sets [eRs rs, .int k] = .ok (.list ((rsets rs k).map eNs)) := by
  have hp := s_pieces rs h.1
  simp [sem_right_sets, hp]
  rw [comp_all eP (fun p => eNs (right rs p.1)) (pieces rs) (fun p _ => ⟨_, rfl, by simp [s_right]⟩)]
  have e : (pieces rs).map (fun p => eNs (right rs p.1)) = ((pieces rs).map fun p => right rs p.1).map eNs := by simp
  rw [e]
  simp only [rsets]
  generalize ((pieces rs).map fun p => right rs p.1) = ls at *
  simp
  rw [comp_map eNs (fun l => decide ((rs.length : Int) - k ≤ (l.length : Int))) eNs ls (fun l _ => ⟨_, rfl, by simp, fun _ => by simp⟩)]
  simp
def slying (rs : List Rep) (k : Int) : List Str := (nms rs).filter fun x => !((rsets rs k).any fun l => decide (x ∈ l))
def sright (rs : List Rep) (k : Int) : List Str := (nms rs).filter fun x => (rsets rs k).all fun l => decide (x ∈ l)
theorem s_slying {rs : List Rep} (h : VR rs) {k : Int} (h0 : 0 ≤ k) (h1 : k ≤ 10) (hne : twith rs (rs.length - k) ≠ []) : sem_surely_lying [eRs rs, .int k] = .ok (eNs (slying rs k)) := by
  have hr := s_rsets h.vt k
  have hs := s_sources' rs
  have hc := s_chkpos h h0 h1 hne
  unfold slying
  generalize rsets rs k = ls at *
  generalize nms rs = nm at *
  generalize eRs rs = rD at *
  simp [sem_surely_lying, hc, hr, hs]
  rw [comp_map PyData.str (fun x => !(ls.any fun l => decide (x ∈ l))) PyData.str nm (fun x _ => ⟨_, rfl, by
    simp
    rw [comp_all eNs (fun l => .bool (decide (x ∈ l))) ls (fun l _ => ⟨_, rfl, by simp⟩)]
    rw [q_bok, q_bok, q_bok, o_anym]
    simp, fun _ => by simp⟩)]
  simp
theorem s_sright {rs : List Rep} (h : VR rs) {k : Int} (h0 : 0 ≤ k) (h1 : k ≤ 10) (hne : twith rs (rs.length - k) ≠ []) : sem_surely_right [eRs rs, .int k] = .ok (eNs (sright rs k)) := by
  have hr := s_rsets h.vt k
  have hs := s_sources' rs
  have hc := s_chkpos h h0 h1 hne
  unfold sright
  generalize rsets rs k = ls at *
  generalize nms rs = nm at *
  generalize eRs rs = rD at *
  simp [sem_surely_right, hc, hr, hs]
  rw [comp_map PyData.str (fun x => ls.all fun l => decide (x ∈ l)) PyData.str nm (fun x _ => ⟨_, rfl, by
    simp
    rw [comp_all eNs (fun l => .bool (decide (x ∈ l))) ls (fun l _ => ⟨_, rfl, by simp⟩)]
    rw [q_bok, q_bok, q_bok, o_allm]
    simp, fun _ => by simp⟩)]
  simp
end PV

/-! Q24: reports as the later laws draw them; which sources suffice -/
namespace PV
open PySem PySem.Spec L2
@[simp] theorem q_fn5 (m : Nat) (g : SE → O) (a b c d e : D) : fn 5 m g [a, b, c, d, e] = (g (.val a :: .val b :: .val c :: .val d :: .val e :: List.replicate m B.un)).run := rfl
theorem s_lawreps2 {ns : List Int} (hl : ns.length ≤ 63) (at' most : Int) (h0 : 0 ≤ at') (h1 : at' < 1000) (hm : 0 ≤ most) (hm2 : most ≤ 10) :
    ∃ rs, sem__law_reports_2 [scr (ns.map .int), .int at', .int most] = .ok (eRs rs) ∧ VR rs ∧ (rs.length : Int) ≤ most ∧ ∀ (i : Nat) r, rs[i]? = some r → r.a = letter i := by
  obtain ⟨e0, n0, n1⟩ := dr_eq (k := at') hl h0 (by omega) (show 0 < most + 1 by omega)
  simp [sem__law_reports_2, e0, I.r1]
  rw [if_pos (by omega)]
  generalize dr ns at' (most + 1) = n at *
  simp only [q_on]
  show Sat (fun o => ∃ rs, o.run = .ok (eRs rs) ∧ VR rs ∧ (rs.length : Int) ≤ most ∧ ∀ (i : Nat) r, rs[i]? = some r → r.a = letter i) _
  refine sat_range (fun i ρ => ∃ (rs : List Rep) (u4 u5 u6 u7 : B), ρ = [.val (scr (ns.map .int)), .val (.int at'), .val (.int most), .own (rs.map eR), u4, u5, u6, u7] ∧ rs.length = i ∧ (∀ (j : Nat) r, rs[j]? = some r → r.a = letter j) ∧ ∀ r ∈ rs, 0 ≤ r.b ∧ r.b ≤ r.c ∧ r.c ≤ 9999) ?_ ?_ ?_
  · exact ⟨[], _, _, _, _, rfl, rfl, by simp, by simp⟩
  · rintro i ρ hi ⟨rs, u4, u5, u6, u7, rfl, q1, q2, q3⟩
    refine ⟨_, rfl, ?_⟩
    rw [Int.zero_add]
    have hi10 : (i : Int) < 10 := by omega
    have m1 : mulD (.int 3) (.int (i : Int)) = some (.int (3 * (i : Int))) := o_mul1 _ _ (by decide)
    obtain ⟨f1, a1, b1⟩ := dr_eq (k := at' + 1 + 3 * (i : Int)) hl (by omega) (by omega) (show (0:Int) < 12 by decide)
    obtain ⟨f2, a2, b2⟩ := dr_eq (k := at' + 1 + 3 * (i : Int) + 1) hl (by omega) (by omega) (show (0:Int) < 25 by decide)
    obtain ⟨f3, a3, b3⟩ := dr_eq (k := at' + 1 + 3 * (i : Int) + 2) hl (by omega) (by omega) (show (0:Int) < 9 by decide)
    generalize dr ns (at' + 1 + 3 * (i : Int)) 12 = z1 at *
    generalize dr ns (at' + 1 + 3 * (i : Int) + 1) 25 = z2 at *
    generalize dr ns (at' + 1 + 3 * (i : Int) + 2) 9 = z3 at *
    have m2 : mulD (.int z1) (.int 3) = some (.int (z1 * 3)) := o_mul2 _ _ (by decide)
    have eL := letters_at (i := i) (by omega)
    have hrl : rs.length < 16777216 := by omega
    have step : ∀ (lo hi : Int), 0 ≤ lo → lo ≤ hi → hi ≤ 9999 → (rs ++ [(⟨letter i, lo, hi⟩ : Rep)]).length = i + 1 ∧ (∀ (j : Nat) r, (rs ++ [(⟨letter i, lo, hi⟩ : Rep)])[j]? = some r → r.a = letter j) ∧ ∀ r ∈ rs ++ [(⟨letter i, lo, hi⟩ : Rep)], 0 ≤ r.b ∧ r.b ≤ r.c ∧ r.c ≤ 9999 := by
      intro lo hi w1 w2 w3
      refine ⟨by simp [q1], fun j r hj => ?_, fun r hr => ?_⟩
      · rcases Nat.lt_or_ge j rs.length with c | c
        · rw [List.getElem?_append_left c] at hj
          exact q2 j r hj
        · rw [List.getElem?_append_right c] at hj
          cases hji : j - rs.length with
          | zero =>
            rw [hji] at hj
            cases hj
            rw [show j = i by omega]
          | succ m => rw [hji] at hj; cases hj
      · rcases List.mem_append.mp hr with hr | hr
        · exact q3 r hr
        · rw [List.mem_singleton] at hr; subst hr; exact ⟨w1, w2, w3⟩
    by_cases c : z3 = 0
    · subst c
      simp [m1, m2, f1, f2, f3, eL, hrl]
      obtain ⟨s1, s2, s3⟩ := step (9960 + z1 * 3) 9999 (by omega) (by omega) (by omega)
      exact sat_nx ⟨_, _, _, _, _, by rw [List.map_append]; rfl, s1, s2, s3⟩
    · simp [m1, m2, f1, f2, f3, eL, hrl, c]
      obtain ⟨s1, s2, s3⟩ := step (z1 * 3) (z1 * 3 + z2) (by omega) (by omega) (by omega)
      exact sat_nx ⟨_, _, _, _, _, by rw [List.map_append]; rfl, s1, s2, s3⟩
  · rintro ρ' ⟨rs, u4, u5, u6, u7, rfl, q1, q2, q3⟩
    refine ⟨rs, by simp, ?_, by omega, q2⟩
    refine ⟨⟨by omega, q3⟩, fun r hr => ?_, fun i r s k1 k2 => ?_⟩
    · obtain ⟨i, hi, e⟩ := List.getElem_of_mem hr
      rw [q2 i r (by rw [List.getElem?_eq_getElem hi, e])]
      exact name_letter (by omega)
    · rw [q2 i r k1, q2 (i + 1) s k2]
      exact nlt_letter i
/-! which sources suffice -/
def subR (rs : List Rep) (S : List Str) : List Rep := rs.filter fun r => decide (r.a ∈ S)
def okS (rs : List Rep) (k f l : Int) (S : List Str) : Bool := (twith (subR rs S) ((subR rs S).length - k)).all fun p => decide (f ≤ p.1) && decide (p.2 ≤ l)
theorem vt_sub {rs : List Rep} (h : VT rs) (S : List Str) : VT (subR rs S) := ⟨Nat.le_trans (List.length_filter_le _ _) h.1, fun r hr => h.2 r (List.mem_filter.mp hr).1⟩
theorem okS_iff {rs : List Rep} (h : VT rs) (k f l : Int) (S : List Str) : okS rs k f l S = true ↔ ∀ t, 0 ≤ t → t ≤ 9999 → ((subR rs S).length : Int) - k ≤ cnt (subR rs S) t → f ≤ t ∧ t ≤ l := by
  obtain ⟨⟨b, b1⟩, b2⟩ := twith_ok (vt_sub h S) ((subR rs S).length - k)
  rw [okS, List.all_eq_true]
  constructor
  · intro hall t t0 t1 hc
    obtain ⟨p, hp, q1, q2⟩ := (b2 t).mpr ⟨t0, t1, hc⟩
    have := hall p hp
    simp at this
    omega
  · intro hall p hp
    have hle := cn_mem_le b1 hp
    obtain ⟨x1, x2, x3⟩ := (b2 p.1).mp ⟨p, hp, Int.le_refl _, hle⟩
    obtain ⟨y1, y2, y3⟩ := (b2 p.2).mp ⟨p, hp, hle, Int.le_refl _⟩
    have := hall p.1 x1 x2 x3
    have := hall p.2 y1 y2 y3
    simp; omega
/-- more sources suffice for whatever fewer suffice for -/
theorem okS_mono {rs : List Rep} (h : VT rs) {k f l : Int} {S U : List Str} (hsub : ∀ x ∈ S, x ∈ U) (hS : okS rs k f l S = true) : okS rs k f l U = true := by
  rw [okS_iff h] at hS ⊢
  intro t t0 t1 hc
  refine hS t t0 t1 ?_
  have key : ∀ l : List Rep, ((subR l S).length : Int) - cnt (subR l S) t ≤ ((subR l U).length : Int) - cnt (subR l U) t := by
    intro l
    induction l with
    | nil => simp [subR, cnt]
    | cons r l ih =>
      by_cases c1 : r.a ∈ S
      · have c2 := hsub _ c1
        by_cases c3 : hits t r = true
        · simp [subR, cnt, c1, c2, c3] at ih ⊢; omega
        · simp [subR, cnt, c1, c2, c3] at ih ⊢; omega
      · by_cases c2 : r.a ∈ U
        · by_cases c3 : hits t r = true
          · simp [subR, cnt, c1, c2, c3] at ih ⊢; omega
          · simp [subR, cnt, c1, c2, c3] at ih ⊢; omega
        · simp [subR, cnt, c1, c2] at ih ⊢; omega
  have := key rs
  omega
theorem s_enoughT {rs : List Rep} (h : VT rs) (k f l : Int) (S : List Str) : sem_is_enough [eRs rs, .int k, eS S, .int f, .int l] = .ok (.bool (okS rs k f l S)) := by
  simp [sem_is_enough]
  rw [comp_map eR (fun r => decide (r.a ∈ S)) eR rs (fun r _ => ⟨_, rfl, by simp, fun _ => by simp⟩)]
  have hp := s_ptimes (vt_sub h S) k
  have e : rs.filter (fun r => decide (r.a ∈ S)) = subR rs S := rfl
  rw [e]
  simp [hp]
  rw [comp_all eP (fun p => .bool (decide (f ≤ p.1) && decide (p.2 ≤ l))) _ (fun p _ => ⟨_, rfl, by
    simp
    by_cases c : f ≤ p.1 <;> simp [c]⟩)]
  rw [q_bok, q_bok, q_bok, o_allm]
  rfl
theorem s_enoughL {rs : List Rep} (h : VT rs) (k f l : Int) (S : List Str) : sem_is_enough [eRs rs, .int k, eNs S, .int f, .int l] = .ok (.bool (okS rs k f l S)) := by
  simp [sem_is_enough]
  rw [comp_map eR (fun r => decide (r.a ∈ S)) eR rs (fun r _ => ⟨_, rfl, by simp, fun _ => by simp⟩)]
  have hp := s_ptimes (vt_sub h S) k
  have e : rs.filter (fun r => decide (r.a ∈ S)) = subR rs S := rfl
  rw [e]
  simp [hp]
  rw [comp_all eP (fun p => .bool (decide (f ≤ p.1) && decide (p.2 ≤ l))) _ (fun p _ => ⟨_, rfl, by
    simp
    by_cases c : f ≤ p.1 <;> simp [c]⟩)]
  rw [q_bok, q_bok, q_bok, o_allm]
  rfl
theorem s_lawenough {rs : List Rep} (h : VT rs) (k f l : Int) (S : List Str) : sem__law_enough [eRs rs, .int k, eS S, .int f, .int l] = .ok (.bool (okS rs k f l S)) := by
  simp [sem__law_enough]
  rw [comp_map eR (fun r => decide (r.a ∈ S)) eR rs (fun r _ => ⟨_, rfl, by simp, fun _ => by simp⟩)]
  have hp := s_lawposs (vt_sub h S) k
  have e : rs.filter (fun r => decide (r.a ∈ S)) = subR rs S := rfl
  rw [e]
  simp [hp]
  rw [comp_map eP (fun p => decide (p.1 < f) || decide (l < p.2)) eP _ (fun p _ => ⟨_, rfl, by
    simp
    by_cases c : p.1 < f <;> simp [c], fun _ => by simp⟩)]
  have : ∀ L : List Rg, decide (L.filter (fun p => decide (p.1 < f) || decide (l < p.2)) = []) = L.all fun p => decide (f ≤ p.1) && decide (p.2 ≤ l) := by
    intro L
    rw [Bool.eq_iff_iff, decide_eq_true_eq, List.filter_eq_nil_iff, List.all_eq_true]
    constructor
    · intro hh p hp
      have := hh p hp
      simp at this ⊢
      omega
    · intro hh p hp
      have := hh p hp
      simp at this ⊢
      omega
  have e2 := ps_eq0 ((twith (subR rs S) ((subR rs S).length - k)).filter fun p => decide (p.1 < f) || decide (l < p.2))
  rw [this] at e2
  simp only [q_bok, e2, q_os]
  rfl
end PV

/-! Q25: tuples of so many sources -/
namespace PV
open PySem PySem.Spec L2
/-- a loop that may return -/
theorem sat_loopX {α : Type} {a : D → SE → Option SE} {body : SE → O} {g : SE → O} {P : O → Prop} {ds : List D} {ρ : SE} (enc : α → D) (Inv : List α → SE → Prop) (xs : List α) (hd : ds = xs.map enc) (h0 : Inv [] ρ)
    (hs : ∀ p x q ρ, xs = p ++ x :: q → Inv p ρ → ∃ ρ1, a (enc x) ρ = some ρ1 ∧ (Sat (isNx (Inv (p ++ [x]))) (body ρ1) ∨ ∃ d, body ρ1 = .rt d ∧ Sat P (.rt d))) (hk : ∀ ρ', Inv xs ρ' → Sat P (g ρ')) : Sat P (S.thn (loopS a body ds ρ) g) := by
  have key : ∀ (r pre : List α) (ρ : SE), xs = pre ++ r → Inv pre ρ → (∃ ρ', loopS a body (r.map enc) ρ = .nx ρ' ∧ Inv xs ρ') ∨ ∃ d, loopS a body (r.map enc) ρ = .rt d ∧ Sat P (.rt d) := by
    intro r
    induction r with
    | nil => intro pre ρ e i; exact Or.inl ⟨ρ, rfl, by rw [e, List.append_nil]; exact i⟩
    | cons x r ih =>
      intro pre ρ e i
      obtain ⟨ρ1, e1, k | ⟨d, k1, k2⟩⟩ := hs pre x r ρ e i
      · obtain ⟨ρ2, e2, i2⟩ := k
        rcases ih (pre ++ [x]) ρ2 (by rw [e, List.append_assoc]; rfl) i2 with ⟨ρ', e3, i3⟩ | ⟨d, e3, i3⟩
        · exact Or.inl ⟨ρ', by rw [List.map_cons, loopS]; simp only [e1, e2, e3], i3⟩
        · exact Or.inr ⟨d, by rw [List.map_cons, loopS]; simp only [e1, e2, e3], i3⟩
      · exact Or.inr ⟨d, by rw [List.map_cons, loopS]; simp only [e1, k1], k2⟩
  rw [hd]
  rcases key xs [] ρ rfl h0 with ⟨ρ', e, i⟩ | ⟨d, e, i⟩
  · rw [e]; exact hk ρ' i
  · rw [e]; exact i
theorem range_nats (n : Nat) : rangeL 0 n = (List.range n).map fun i => .int ((i : Nat) : Int) := by
  unfold rangeL
  apply List.map_congr_left
  intro i _
  simp
def cmb : Nat → List Str → List (List Str)
  | 0, _ => [[]]
  | _ + 1, [] => []
  | n + 1, x :: r => (cmb n r).map (x :: ·) ++ cmb (n + 1) r
theorem cmb_len : ∀ (names : List Str) (n : Nat), (cmb n names).length ≤ 2 ^ names.length
  | [], 0 => by simp [cmb]
  | [], n + 1 => by simp [cmb]
  | x :: r, 0 => by
    have : 1 ≤ 2 ^ (x :: r).length := Nat.one_le_two_pow
    simpa [cmb] using this
  | x :: r, n + 1 => by
    have h1 := cmb_len r n
    have h2 := cmb_len r (n + 1)
    rw [cmb, List.length_append, List.length_map, List.length_cons, Nat.pow_succ]
    omega
theorem mem_cmb : ∀ (names : List Str), names.Pairwise nlt → ∀ (n : Nat) (S : List Str), S ∈ cmb n names ↔ Sb names S ∧ S.length = n
  | names, _, 0, S => by
    cases names <;>
    · simp only [cmb, List.mem_singleton]
      constructor
      · rintro rfl; exact ⟨⟨.nil, by simp⟩, rfl⟩
      · rintro ⟨_, h⟩; exact List.length_eq_zero_iff.mp h
  | [], _, n + 1, S => by
    simp only [cmb, List.not_mem_nil, false_iff]
    rintro ⟨⟨_, h⟩, h2⟩
    cases S with
    | nil => simp at h2
    | cons x r => exact absurd (h x (by simp)) (by simp)
  | x :: r, pw, n + 1, S => by
    have pw' := List.pairwise_cons.mp pw
    have ih1 := mem_cmb r pw'.2 n
    have ih2 := mem_cmb r pw'.2 (n + 1)
    rw [cmb, List.mem_append, ih2, List.mem_map]
    constructor
    · rintro (⟨U, hU, rfl⟩ | ⟨⟨h1, h2⟩, h3⟩)
      · obtain ⟨⟨u1, u2⟩, u3⟩ := (ih1 U).mp hU
        refine ⟨⟨List.pairwise_cons.mpr ⟨fun y hy => pw'.1 y (u2 y hy), u1⟩, fun y hy => ?_⟩, by simp [u3]⟩
        rcases List.mem_cons.mp hy with e | e
        · rw [e]; simp
        · exact List.mem_cons_of_mem _ (u2 y e)
      · exact ⟨⟨h1, fun y hy => List.mem_cons_of_mem _ (h2 y hy)⟩, h3⟩
    · rintro ⟨⟨h1, h2⟩, h3⟩
      cases S with
      | nil => simp at h3
      | cons y U =>
        have h1' := List.pairwise_cons.mp h1
        by_cases e : y = x
        · subst e
          refine Or.inl ⟨U, (ih1 U).mpr ⟨⟨h1'.2, fun z hz => ?_⟩, by simpa using h3⟩, rfl⟩
          rcases List.mem_cons.mp (h2 z (by simp [hz])) with k | k
          · exact absurd (h1'.1 z hz) (by rw [k]; exact nlt_irrefl _)
          · exact k
        · right
          have hy : y ∈ r := by
            rcases List.mem_cons.mp (h2 y (by simp)) with k | k
            · exact absurd k e
            · exact k
          refine ⟨⟨h1, fun z hz => ?_⟩, h3⟩
          rcases List.mem_cons.mp hz with k | k
          · rw [k]; exact hy
          · rcases List.mem_cons.mp (h2 z (by simp [k])) with k' | k'
            · have a1 := h1'.1 z k
              rw [k'] at a1
              exact absurd (nlt_trans a1 (pw'.1 y hy)) (nlt_irrefl _)
            · exact k'
theorem nlt_lt {a b : Str} (h : nlt a b) : PySem.W.DatumOrd.lt a b = true := decide_eq_true ((nlt_iff a b).mp h)
theorem cmb_asc : ∀ (names : List Str), names.Pairwise nlt → ∀ (n : Nat), (cmb n names).Pairwise (fun S U => PySem.W.listLt S U = true)
  | names, _, 0 => by cases names <;> simp [cmb]
  | [], _, n + 1 => by simp [cmb]
  | x :: r, pw, n + 1 => by
    have pw' := List.pairwise_cons.mp pw
    rw [cmb, List.pairwise_append, List.pairwise_map]
    refine ⟨(cmb_asc r pw'.2 n).imp fun {S U} h => ?_, cmb_asc r pw'.2 (n + 1), fun S hS U hU => ?_⟩
    · rw [PySem.W.listLt, if_pos rfl]; exact h
    · obtain ⟨V, _, rfl⟩ := List.mem_map.mp hS
      obtain ⟨⟨u1, u2⟩, u3⟩ := (mem_cmb r pw'.2 (n + 1) U).mp hU
      cases U with
      | nil => simp at u3
      | cons y W =>
        have hxy := pw'.1 y (u2 y (by simp))
        have hne : x ≠ y := fun e => nlt_irrefl _ (e ▸ hxy)
        rw [PySem.W.listLt, if_neg hne]
        exact nlt_lt hxy
theorem cut_drop {α : Type} (xs : List α) {n : Nat} (h : n ≤ xs.length) : cutL xs (some (n : Int)) none = xs.drop n := by
  have : cutL xs (some (n : Int)) none = ((xs.drop (HT.sIx xs.length 0 (some (n : Int)))).take (xs.length - HT.sIx xs.length 0 (some (n : Int)))) := rfl
  have e : HT.sIx xs.length 0 (some (n : Int)) = n := by
    simp only [HT.sIx]
    split
    · omega
    · rw [Int.toNat_natCast]; omega
  rw [this, e]
  exact List.take_of_length_le (by simp)
theorem s_setsof : ∀ (j n : Nat) (names : List Str), n < j → names.length ≤ 10 → recN rec_sets_of j [.list (names.map .str), .int n] = .ok (.list ((cmb n names).map eS))
  | 0, n, names, h, _ => absurd h (Nat.not_lt_zero _)
  | j + 1, 0, names, _, _ => by
    have e : cmb 0 names = [[]] := by cases names <;> rfl
    rw [recN, e]
    simp [rec_sets_of]
  | j + 1, n + 1, names, h, hl => by
    have ih := fun names' hl' => s_setsof j n names' (by omega) hl'
    rw [recN]
    have ne : ¬ (((n : Nat) : Int) + 1 = 0) := by omega
    simp [rec_sets_of, ne]
    have e1 : I.en [.list (names.map .str)] = .ok (names.zipIdx.map fun p => .tuple [.int (p.2 : Nat), .str p.1]) := by
      simp only [I.en, enumL]
      rw [List.zipIdx_map, List.map_map]; rfl
    rw [e1]
    simp only [q_on]
    refine sat_run ?_
    have tot := cmb_len names (n + 1)
    have tot2 : 2 ^ names.length ≤ 2 ^ 10 := Nat.pow_le_pow_right (by decide) hl
    refine sat_loop (fun p : Str × Nat => PyData.tuple [.int (p.2 : Nat), .str p.1]) (fun pre ρ => ∃ (acc : List (List Str)) (u3 u4 u5 : B), ρ = [.val (.list (names.map .str)), .val (.int ((n : Int) + 1)), .val (.list (acc.map eS)), u3, u4, u5] ∧ acc ++ cmb (n + 1) (names.drop pre.length) = cmb (n + 1) names) names.zipIdx rfl ⟨[], _, _, _, rfl, by simp⟩ ?_ ?_
    · rintro pre x q ρ e ⟨acc, u3, u4, u5, rfl, hacc⟩
      refine ⟨_, rfl, ?_⟩
      have hpl : pre.length < names.length := by
        have : pre.length < names.zipIdx.length := by rw [e]; simp
        simpa using this
      have hx : names.zipIdx[pre.length]? = some x := by rw [e, List.getElem?_append_right (Nat.le_refl _)]; simp
      rw [List.getElem?_zipIdx, List.getElem?_eq_getElem hpl] at hx
      simp at hx
      have hx1 : x.1 = names[pre.length] := by rw [← hx]
      have hx2 : x.2 = pre.length := by rw [← hx]
      have hdr : names.drop pre.length = x.1 :: names.drop (pre.length + 1) := by rw [hx1]; exact (List.drop_eq_getElem_cons hpl)
      rw [hdr, cmb] at hacc
      have hc : sliceD (.list (names.map .str)) (some ((x.2 : Int) + 1)) none = some (.list ((names.drop (pre.length + 1)).map .str)) := by
        simp only [sliceD]
        rw [hx2, show ((pre.length : Nat) : Int) + 1 = ((pre.length + 1 : Nat) : Int) by push_cast; rfl, cut_drop _ (by simp; omega), List.map_drop]
      have ihq := ih (names.drop (pre.length + 1)) (by simp; omega)
      have hsum : acc.length + (cmb n (names.drop (pre.length + 1))).length ≤ 1024 := by
        have := congrArg List.length hacc
        rw [List.length_append, List.length_append, List.length_map] at this
        omega
      have hmem : ∀ S ∈ cmb n (names.drop (pre.length + 1)), S.length ≤ 10 := by
        have key : ∀ (l : List Str) (m : Nat), ∀ S ∈ cmb m l, S.length = m := by
          intro l
          induction l with
          | nil => intro m S hS; cases m with
            | zero => simp [cmb] at hS; simp [hS]
            | succ m => simp [cmb] at hS
          | cons y l ihl => intro m S hS; cases m with
            | zero => simp [cmb] at hS; simp [hS]
            | succ m =>
              rw [cmb, List.mem_append, List.mem_map] at hS
              rcases hS with ⟨U, hU, rfl⟩ | hS
              · rw [List.length_cons, ihl m U hU]
              · exact ihl _ S hS
        intro S hS
        have h1 := key _ _ S hS
        have : n ≤ 10 ∨ cmb n (names.drop (pre.length + 1)) = [] := by
          rcases Nat.lt_or_ge 10 n with c | c
          · right
            have emp : ∀ (l : List Str) (m : Nat), l.length < m → cmb m l = [] := by
              intro l
              induction l with
              | nil => intro m hm; cases m with
                | zero => simp at hm
                | succ m => rfl
              | cons y l ihl => intro m hm; cases m with
                | zero => simp at hm
                | succ m =>
                  simp at hm
                  rw [cmb, ihl m (by omega), ihl (m + 1) (by omega)]; rfl
            exact emp _ _ (by simp; omega)
          · exact Or.inl c
        rcases this with c | c
        · omega
        · rw [c] at hS; cases hS
      generalize cmb n (names.drop (pre.length + 1)) = cc at *
      generalize (names.drop (pre.length + 1)).map PyData.str = dd at *
      simp [hc, ihq]
      rw [comp_all eS (fun S => eS (x.1 :: S)) cc (fun S hS => ⟨_, rfl, by
        have := hmem S hS
        have ha : addD (.tuple [.str x.1]) (.tuple (S.map .str)) = some (.tuple ([.str x.1] ++ S.map .str)) := o_addt _ _ (by simp; omega)
        simp [ha]⟩)]
      have ha : addD (.list (acc.map eS)) (.list (cc.map fun S => eS (x.1 :: S))) = some (.list ((acc ++ cc.map (x.1 :: ·)).map eS)) := by
        rw [o_addl _ _ (by simp only [List.length_map]; omega), List.map_append, List.map_map]; rfl
      simp only [q_bok, ha, q_os, q_on]
      refine sat_nx ⟨_, _, _, _, rfl, ?_⟩
      rw [List.length_append, List.length_singleton, List.append_assoc]
      exact hacc
    · rintro ρ' ⟨acc, u3, u4, u5, rfl, hacc⟩
      have : acc = cmb (n + 1) names := by
        simp only [List.length_zipIdx, List.drop_length] at hacc
        rw [← hacc]; simp [cmb]
      subst this
      simp [Sat]
/-- the law's own sets -/
theorem s_lawsets {rs : List Rep} (hn : rs.length ≤ 10) : sem__law_sets [eRs rs] = .ok (.list ((chs rs.length (nms rs)).map eS)) := by
  have hs : ∀ (m : Nat) (pre : List Str) S, S ∈ chs m pre → S.length ≤ pre.length := by
    intro m pre
    have key : ∀ (r p : List Str), (∀ S ∈ chs m p, S.length ≤ p.length) → ∀ S ∈ chs m (p ++ r), S.length ≤ (p ++ r).length := by
      intro r
      induction r with
      | nil => intro p h; simpa using h
      | cons x r ih =>
        intro p h
        have e : chs m (p ++ [x]) = chs m p ++ ((chs m p).filter fun S => decide (S.length < m)).map fun S => S ++ [x] := by simp [chs]
        have := ih (p ++ [x]) (by
          intro S hS
          rw [e] at hS
          rcases List.mem_append.mp hS with hS | hS
          · have := h S hS
            simp; omega
          · obtain ⟨U, hU, rfl⟩ := List.mem_map.mp hS
            have := h U (List.mem_filter.mp hU).1
            simp; omega)
        simpa using this
    exact key pre [] (by simp [chs])
  simp [sem__law_sets]
  refine sat_run ?_
  refine sat_loop eR (fun pre ρ => ∃ u2 u3 u4 u5, ρ = [.val (eRs rs), .val (.list ((chs rs.length (nms pre)).map eS)), u2, u3, u4, u5]) rs rfl ⟨_, _, _, _, rfl⟩ ?_ ?_
  · rintro pre x q ρ e ⟨u2, u3, u4, u5, rfl⟩
    refine ⟨_, rfl, ?_⟩
    have hpl : pre.length < rs.length := by rw [e]; simp
    have en : nms (pre ++ [x]) = nms pre ++ [x.a] := by simp [nms]
    have hnl : (nms pre).length = pre.length := by simp [nms]
    have h1 := chs_len rs.length (nms pre)
    have h2 : 2 ^ (nms pre).length ≤ 2 ^ 10 := Nat.pow_le_pow_right (by decide) (by omega)
    have e1 : chs rs.length (nms pre ++ [x.a]) = chs rs.length (nms pre) ++ (chs rs.length (nms pre)).map fun S => S ++ [x.a] := by
      have : chs rs.length (nms pre ++ [x.a]) = chs rs.length (nms pre) ++ ((chs rs.length (nms pre)).filter fun S => decide (S.length < rs.length)).map fun S => S ++ [x.a] := by simp [chs]
      rw [this, List.filter_eq_self.mpr]
      intro S hS
      have := hs _ _ S hS
      simp; omega
    rw [en]
    simp
    rw [comp_all eS (fun S => eS (S ++ [x.a])) (chs rs.length (nms pre)) (fun S hS => ⟨_, rfl, by
      have := hs _ _ S hS
      have ha : addD (.tuple (S.map .str)) (.tuple [.str x.a]) = some (.tuple (S.map .str ++ [.str x.a])) := o_addt _ _ (by simp; omega)
      simp [ha]⟩)]
    have ha : addD (.list ((chs rs.length (nms pre)).map eS)) (.list ((chs rs.length (nms pre)).map fun S => eS (S ++ [x.a]))) = some (.list ((chs rs.length (nms pre ++ [x.a])).map eS)) := by
      rw [o_addl _ _ (by simp only [List.length_map]; omega), e1, List.map_append, List.map_map]; rfl
    simp only [q_bok, ha, q_os, q_on]
    exact sat_nx ⟨_, _, _, _, rfl⟩
  · rintro ρ' ⟨u2, u3, u4, u5, rfl⟩
    simp [Sat]
end PV

/-! Q26: which reports tell a time -/
namespace PV
open PySem PySem.Spec L2
theorem sat_for {P : O → Prop} {it : En → R (List D)} {a : D → SE → Option SE} {f g : SE → O} {ρ : SE} {ds : List D} (h : it (vals ρ) = .ok ds) (k : Sat P (S.thn (loopS a f ds ρ) g)) : Sat P (S.seq (S.for_ it a f) g ρ) := by
  rw [q_seq, q_for, h, q_on]; exact k
theorem it_r1 {fs : En → R (List D)} {ρ : En} {m : Int} {ds : List D} (h : fs ρ = .ok [.int m]) (hr : I.r1 [.int m] = .ok ds) : I.range1 fs ρ = .ok ds := by
  rw [q_irange1, h, q_bok, hr]
theorem listLt_asym {S T : List Str} (h : PySem.W.listLt S T = true) : PySem.W.listLt T S = false := by
  have := leB_total (eS S) (eS T)
  simp only [leB, slt, h, Bool.not_true, Bool.or_false, Bool.not_eq_true'] at this
  exact this
theorem listLt_irr (S : List Str) : PySem.W.listLt S S = false := by
  cases h : PySem.W.listLt S S with
  | false => rfl
  | true => rw [listLt_asym h] at h; cases h
theorem min_sets {l : List (List Str)} {T : List Str} (hT : T ∈ l) (h : ∀ S ∈ l, S ≠ T → PySem.W.listLt T S = true) : minF [.list (l.map eS)] = some (eS T) := by
  have key : ∀ (xs : List (List Str)) (a : List Str), (T = a ∨ T ∈ xs) → (∀ S ∈ a :: xs, S ≠ T → PySem.W.listLt T S = true) → PySem.W.minD (eS a) (xs.map eS) = eS T := by
    intro xs
    induction xs with
    | nil =>
      intro a h1 _
      rcases h1 with rfl | h1
      · rfl
      · cases h1
    | cons y ys ih =>
      intro a h1 h2
      have step : PySem.W.minD (eS a) ((y :: ys).map eS) = PySem.W.minD (if PySem.W.dataLt (eS y) (eS a) then eS y else eS a) (ys.map eS) := rfl
      rw [step, slt]
      by_cases c : PySem.W.listLt y a = true
      · rw [if_pos c]
        refine ih y ?_ fun S hS => h2 S (List.mem_cons_of_mem _ hS)
        rcases h1 with rfl | h1
        · by_cases e : y = T
          · exact Or.inl e.symm
          · have := listLt_asym (h2 y (by simp) e)
            rw [this] at c; cases c
        · rcases List.mem_cons.mp h1 with k | k
          · exact Or.inl k
          · exact Or.inr k
      · rw [if_neg c]
        refine ih a ?_ fun S hS => h2 S (by
          rcases List.mem_cons.mp hS with k | k
          · rw [k]; simp
          · simp [k])
        rcases h1 with h1 | h1
        · exact Or.inl h1
        · rcases List.mem_cons.mp h1 with k | k
          · subst k
            by_cases e : a = T
            · exact Or.inl e.symm
            · exact absurd (h2 a (by simp) e) c
          · exact Or.inr k
  cases l with
  | nil => cases hT
  | cons x xs =>
    have ok : alikeOk ((x :: xs).map eS) = true := by
      have e : (x :: xs).map eS = ((x :: xs).map fun S => (⟨S⟩ : PySem.W.Tup Str)).map PySem.W.Datum.toD := by rw [List.map_map]; rfl
      simp only [alikeOk, Bool.and_eq_true, decide_eq_true_eq]
      refine ⟨⟨?_, ?_⟩, ?_⟩
      · rw [e]; exact PySem.W.plainAll_map _
      · simp only [List.all_map, List.all_eq_true]
        intro S _
        simp only [Function.comp, Bool.and_eq_true, List.all_eq_true]
        refine ⟨rfl, fun T _ => ?_⟩
        exact PySem.W.DatumOrd.alike (α := PySem.W.Tup Str) ⟨S⟩ ⟨T⟩
      · rw [e]
        exact Nat.le_trans (PySem.W.depthAll_map (α := PySem.W.Tup Str) _) (by decide)
    rw [List.map_cons] at ok ⊢
    simp only [minF]
    rw [if_pos ok, key xs x (List.mem_cons.mp hT) h]
@[simp] theorem ne_sN (l : List (List Str)) : neD (.list (l.map eS)) (.list []) = some (.bool (!decide (l = []))) := by
  have e : l.map eS = (l.map fun S => (⟨S⟩ : PySem.W.Tup Str)).map PySem.W.Datum.toD := by rw [List.map_map]; rfl
  rw [e, neD_nil]
  simp
@[simp] theorem in_sN (S : List Str) (l : List (List Str)) : inD (.tuple (S.map .str)) (.list (l.map eS)) = some (.bool (decide (S ∈ l))) := by
  have e : l.map eS = (l.map fun S => (⟨S⟩ : PySem.W.Tup Str)).map PySem.W.Datum.toD := by rw [List.map_map]; rfl
  have := congrArg (fun o => Option.map PyData.bool o) (inB_dat (α := PySem.W.Tup Str) (by decide) ⟨S⟩ (l.map fun S => (⟨S⟩ : PySem.W.Tup Str))).1
  rw [← e] at this
  refine this.trans ?_
  simp
@[simp] theorem nin_sN (S : List Str) (l : List (List Str)) : notInD (.tuple (S.map .str)) (.list (l.map eS)) = some (.bool (!decide (S ∈ l))) := by
  have e : l.map eS = (l.map fun S => (⟨S⟩ : PySem.W.Tup Str)).map PySem.W.Datum.toD := by rw [List.map_map]; rfl
  have := congrArg (fun o => Option.map (fun b => PyData.bool !b) o) (inB_dat (α := PySem.W.Tup Str) (by decide) ⟨S⟩ (l.map fun S => (⟨S⟩ : PySem.W.Tup Str))).1
  rw [← e] at this
  refine this.trans ?_
  simp
theorem pw_ext {S T : List Str} (hS : S.Pairwise nlt) (hT : T.Pairwise nlt) (h : ∀ x, x ∈ S ↔ x ∈ T) : S = T := by
  apply Decidable.byContradiction
  intro hn
  have h1 := sub_short hS hT (fun x hx => (h x).mpr hx) (fun e => hn e.symm)
  have h2 := sub_short hT hS (fun x hx => (h x).mp hx) hn
  omega
theorem nms_len (rs : List Rep) : (nms rs).length = rs.length := by simp [nms]
theorem VR.npw {rs : List Rep} (h : VR rs) : (nms rs).Pairwise nlt := by rw [nms, List.pairwise_map]; exact h.pw
/-- a question that may be asked -/
structure Ask (rs : List Rep) (k f l : Int) : Prop where
  vr : VR rs
  k0 : 0 ≤ k
  k1 : k ≤ 10
  f0 : 0 ≤ f
  f1 : f ≤ 9999
  l0 : 0 ≤ l
  l1 : l ≤ 9999
  ne : twith rs (rs.length - k) ≠ []
variable {rs : List Rep} {k f l : Int}
theorem s_chktimes (h : Ask rs k f l) : sem_check_times [eRs rs, .int k, .int f, .int l] = .ok .none := by
  simp [sem_check_times, s_istime, h.f0, h.f1, h.l0, h.l1, s_chkpos h.vr h.k0 h.k1 h.ne]
theorem s_chkquest (h : Ask rs k f l) : sem_check_question [eRs rs, .int k, .int f, .int l] = .ok .none := by
  simp [sem_check_question, s_check h.vr, s_chkliars h.k0 h.k1, s_chktimes h]
theorem sb_names {rs : List Rep} {S : List Str} (h : VR rs) (hS : Sb (nms rs) S) : S = (nms rs).filter fun x => decide (x ∈ S) := by
  refine pw_ext hS.1 (h.npw.filter _) fun x => ?_
  rw [List.mem_filter, decide_eq_true_eq]
  exact ⟨fun hx => ⟨hS.2 x hx, hx⟩, fun hx => hx.2⟩
theorem s_suff (h : Ask rs k f l) {S : List Str} (hS : Sb (nms rs) S) : sem_suffices [eRs rs, .int k, eS S, .int f, .int l] = .ok (.bool (okS rs k f l S)) := by
  have hn := s_arenames (rs := rs) S (fun x hx => by
    obtain ⟨r, hr, rfl⟩ := mem_nms.mp (hS.2 x hx)
    exact h.vr.nam r hr) (sb_names h.vr hS)
  have he := s_enoughT h.vr.vt k f l S
  simp [sem_suffices, s_check h.vr, s_chkliars h.k0 h.k1, hn, s_chktimes h, he]
theorem comp_sets {a : D → En → Option En} {t : En → R Bool} {g : En → R D} {ρ : En} (p : List Str → Bool) (xs : List (List Str)) (h : ∀ x ∈ xs, ∃ ρ1, a (eS x) ρ = some ρ1 ∧ t ρ1 = .ok (p x) ∧ (p x = true → g ρ1 = .ok (eS x))) : compF a t g ρ (xs.map eS) = .ok ((xs.filter p).map eS) := comp_map eS p eS xs h
theorem s_fewrep (h : Ask rs k f l) :
    ((∀ S, Sb (nms rs) S → okS rs k f l S = false) ∧ sem_fewest_reports [eRs rs, .int k, .int f, .int l] = .ok .none) ∨
    ∃ T, Sb (nms rs) T ∧ okS rs k f l T = true ∧ (∀ S, Sb (nms rs) S → okS rs k f l S = true → T.length ≤ S.length ∧ (S.length = T.length → S ≠ T → PySem.W.listLt T S = true)) ∧ sem_fewest_reports [eRs rs, .int k, .int f, .int l] = .ok (eS T) := by
  simp only [sem_fewest_reports, q_fn4]
  have hq := s_chkquest h
  have hsrc := s_sources' rs
  have hvt := h.vr.vt
  have hlen : lenF [eRs rs] = some (.int (rs.length : Nat)) := by simp
  have hset := fun n hn => s_setsof 12 n (nms rs) hn (by rw [nms_len]; exact h.vr.vt.1)
  have hen := s_enoughT hvt k f l
  have pw := h.vr.npw
  have nl := nms_len rs
  generalize hrD : eRs rs = rD at *
  generalize recN rec_sets_of 12 = rsets at *
  show Sat (fun o => ((∀ S, Sb (nms rs) S → okS rs k f l S = false) ∧ o.run = .ok .none) ∨
    ∃ T, Sb (nms rs) T ∧ okS rs k f l T = true ∧ (∀ S, Sb (nms rs) S → okS rs k f l S = true → T.length ≤ S.length ∧ (S.length = T.length → S ≠ T → PySem.W.listLt T S = true)) ∧ o.run = .ok (eS T)) _
  refine sat_seq (ρ' := [.val rD, .val (.int k), .val (.int f), .val (.int l), .un, .un, .un]) (by simp [hq]) ?_
  have hr : I.r1 [.int ((rs.length : Int) + 1)] = .ok ((List.range (rs.length + 1)).map fun i => .int ((i : Nat) : Int)) := by
    have := hvt.1
    simp only [I.r1]
    rw [if_pos (by omega), show ((rs.length : Int) + 1).toNat = rs.length + 1 by omega, range_nats]
  refine sat_for (ds := (List.range (rs.length + 1)).map fun i => .int ((i : Nat) : Int)) (it_r1 (m := (rs.length : Int) + 1) (by simp [hlen]) hr) ?_
  refine sat_loopX (fun i : Nat => PyData.int (i : Int)) (fun pre ρ => (∃ u4 u5 u6, ρ = [.val rD, .val (.int k), .val (.int f), .val (.int l), u4, u5, u6]) ∧ ∀ S, Sb (nms rs) S → S.length < pre.length → okS rs k f l S = false) (List.range (rs.length + 1)) rfl ⟨⟨_, _, _, rfl⟩, fun S _ hS => absurd hS (Nat.not_lt_zero _)⟩ ?_ ?_
  · rintro pre x q ρ e ⟨⟨u4, u5, u6, rfl⟩, hno⟩
    refine ⟨_, rfl, ?_⟩
    have hx : (List.range (rs.length + 1))[pre.length]? = some x := by rw [e, List.getElem?_append_right (Nat.le_refl _)]; simp
    have hpl : pre.length < rs.length + 1 := by
      have : pre.length < (List.range (rs.length + 1)).length := by rw [e]; simp
      simpa using this
    rw [List.getElem?_range hpl] at hx
    cases hx
    have hset' := hset pre.length (by have := hvt.1; omega)
    have hF : compF (GE.name 6) (T.of (E.call sem_is_enough (A.cons (E.var 0) (A.cons (E.var 1) (A.cons (E.var 6) (A.cons (E.var 2) (A.cons (E.var 3) (A.nil)))))))) (E.var 6) [some rD, some (.int k), some (.int f), some (.int l), some (.int (pre.length : Nat)), u5.v, none] ((cmb pre.length (nms rs)).map eS) = .ok (((cmb pre.length (nms rs)).filter (okS rs k f l)).map eS) := by
      refine comp_sets (okS rs k f l) _ (fun S hS => ⟨_, rfl, ?_, fun _ => by simp⟩)
      have := hen S
      simp [this]
    have mem := mem_cmb (nms rs) pw pre.length
    have asc := cmb_asc (nms rs) pw pre.length
    generalize cmb pre.length (nms rs) = cc at *
    have hne : neD (.list ((cc.filter (okS rs k f l)).map eS)) (.list []) = some (.bool (!decide (cc.filter (okS rs k f l) = []))) := ne_sN _
    have hlt : pre.length < 10000 := by have := hvt.1; omega
    obtain ⟨FL, hFL⟩ : ∃ FL, cc.filter (okS rs k f l) = FL := ⟨_, rfl⟩
    rw [hFL] at hF hne
    cases FL with
    | nil =>
      left
      simp [hsrc, hset', hF, hne]
      refine sat_nx ⟨⟨_, _, _, rfl⟩, fun S hS hl => ?_⟩
      rcases Nat.lt_or_ge S.length pre.length with c | c
      · exact hno S hS c
      · have hm : S ∈ cc := (mem S).mpr ⟨hS, by simp at hl; omega⟩
        have := (List.filter_eq_nil_iff.mp hFL) S hm
        simpa using this
    | cons T FL =>
      right
      rw [List.map_cons] at hF hne
      have hne' : neD (.list (eS T :: FL.map eS)) (.list []) = some (.bool true) := hne.trans (by simp)
      have hTm : T ∈ cc.filter (okS rs k f l) := by rw [hFL]; simp
      have hT1 := List.mem_filter.mp hTm
      have hT2 := (mem T).mp hT1.1
      refine ⟨eS T, by simp [hsrc, hset', hF, hne'], Or.inr ⟨T, hT2.1, hT1.2, fun S hS hok => ⟨?_, fun hl hneT => ?_⟩, rfl⟩⟩
      · apply Decidable.byContradiction
        intro hn
        have := hno S hS (by omega)
        rw [this] at hok; cases hok
      · have hm : S ∈ cc.filter (okS rs k f l) := List.mem_filter.mpr ⟨(mem S).mpr ⟨hS, by omega⟩, hok⟩
        have pwf := asc.filter (okS rs k f l)
        rw [hFL] at pwf hm
        rcases List.mem_cons.mp hm with e | e
        · exact absurd e hneT
        · exact (List.pairwise_cons.mp pwf).1 S e
  · rintro ρ' ⟨⟨u4, u5, u6, rfl⟩, hno⟩
    refine Or.inl ⟨fun S hS => hno S hS ?_, by simp⟩
    have := sb_len hS
    rw [List.length_range]
    omega
/-! the needed ones -/
theorem neS (x y : Str) : neD (.str x) (.str y) = some (.bool (!decide (x = y))) := neD_dat (α := Str) (by decide) x y
def withoutN (names : List Str) (x : Str) : List Str := names.filter fun y => !decide (y = x)
theorem s_needed (h : Ask rs k f l) : sem_needed_reports [eRs rs, .int k, .int f, .int l] = if okS rs k f l (nms rs) = true then .ok (eNs ((nms rs).filter fun x => !okS rs k f l (withoutN (nms rs) x))) else .ok .none := by
  have hq := s_chkquest h
  have hsrc := s_sources' rs
  have hen := s_enoughL h.vr.vt k f l
  have hpl : (nms rs).length ≤ 10 := by rw [nms_len]; exact h.vr.vt.1
  generalize eRs rs = rD at *
  generalize nms rs = names at *
  have h0 := hen names
  simp only [sem_needed_reports, q_fn4]
  by_cases c : okS rs k f l names = true
  · rw [if_pos c]
    rw [c] at h0
    refine sat_run ?_
    refine sat_seq (ρ' := [.val rD, .val (.int k), .val (.int f), .val (.int l), .un, .un, .un, .un, .un]) (by simp [hq]) ?_
    refine sat_seq (ρ' := [.val rD, .val (.int k), .val (.int f), .val (.int l), .val (eNs names), .un, .un, .un, .un]) (by simp [hsrc]) ?_
    refine sat_seq (ρ' := [.val rD, .val (.int k), .val (.int f), .val (.int l), .val (eNs names), .un, .un, .un, .un]) (by simp [h0]) ?_
    refine sat_seq (ρ' := [.val rD, .val (.int k), .val (.int f), .val (.int l), .val (eNs names), .val (.list (names.map fun x => eNs (withoutN names x))), .un, .un, .un]) ?_ ?_
    · simp
      rw [comp_all PyData.str (fun x => eNs (withoutN names x)) names (fun x _ => ⟨_, rfl, by
        simp
        rw [comp_map PyData.str (fun y => !decide (y = x)) PyData.str names (fun y _ => ⟨_, rfl, by simp [neS], fun _ => by simp⟩)]
        rfl⟩)]
      rfl
    have hz : I.z2 [.list (names.map .str), .list (names.map fun x => eNs (withoutN names x))] = .ok (names.map fun x => .tuple [.str x, eNs (withoutN names x)]) := by
      simp only [I.z2, zipL, List.zipWith_map]
      congr 1
      generalize (fun x => eNs (withoutN names x)) = g
      clear hpl hsrc hen h0 c
      induction names with
      | nil => rfl
      | cons x r ih => simp [ih]
    obtain ⟨ww, hww⟩ : ∃ ww, names.map (fun x => eNs (withoutN names x)) = ww := ⟨_, rfl⟩
    rw [hww] at hz ⊢
    simp only [eNs]
    simp [hz]
    rw [comp_map (fun x => PyData.tuple [.str x, eNs (withoutN names x)]) (fun x => !okS rs k f l (withoutN names x)) PyData.str names (fun x _ => ⟨_, rfl, by
      have := hen (withoutN names x)
      simp [this], fun _ => by simp⟩)]
    simp [Sat]
  · rw [if_neg c]
    have c' : okS rs k f l names = false := by simpa using c
    rw [c'] at h0
    simp [hq, hsrc, h0]
/-! how many are enough -/
theorem s_enoughrep (h : Ask rs k f l) :
    (∃ n : Nat, n ≤ rs.length ∧ (∀ S, Sb (nms rs) S → S.length = n → okS rs k f l S = true) ∧ (∀ m, m < n → ∃ S, Sb (nms rs) S ∧ S.length = m ∧ okS rs k f l S = false) ∧ sem_enough_reports [eRs rs, .int k, .int f, .int l] = .ok (.int n)) ∨
    ((∀ m, m ≤ rs.length → ∃ S, Sb (nms rs) S ∧ S.length = m ∧ okS rs k f l S = false) ∧ sem_enough_reports [eRs rs, .int k, .int f, .int l] = .ok .none) := by
  simp only [sem_enough_reports, q_fn4]
  have hq := s_chkquest h
  have hsrc := s_sources' rs
  have hvt := h.vr.vt
  have hlen : lenF [eRs rs] = some (.int (rs.length : Nat)) := by simp
  have hset := fun n hn => s_setsof 12 n (nms rs) hn (by rw [nms_len]; exact h.vr.vt.1)
  have hen := s_enoughT hvt k f l
  have pw := h.vr.npw
  generalize hrD : eRs rs = rD at *
  generalize recN rec_sets_of 12 = rsets at *
  show Sat (fun o => (∃ n : Nat, n ≤ rs.length ∧ (∀ S, Sb (nms rs) S → S.length = n → okS rs k f l S = true) ∧ (∀ m, m < n → ∃ S, Sb (nms rs) S ∧ S.length = m ∧ okS rs k f l S = false) ∧ o.run = .ok (.int n)) ∨
    ((∀ m, m ≤ rs.length → ∃ S, Sb (nms rs) S ∧ S.length = m ∧ okS rs k f l S = false) ∧ o.run = .ok .none)) _
  refine sat_seq (ρ' := [.val rD, .val (.int k), .val (.int f), .val (.int l), .un, .un]) (by simp [hq]) ?_
  have hr : I.r1 [.int ((rs.length : Int) + 1)] = .ok ((List.range (rs.length + 1)).map fun i => .int ((i : Nat) : Int)) := by
    have := hvt.1
    simp only [I.r1]
    rw [if_pos (by omega), show ((rs.length : Int) + 1).toNat = rs.length + 1 by omega, range_nats]
  refine sat_for (ds := (List.range (rs.length + 1)).map fun i => .int ((i : Nat) : Int)) (it_r1 (m := (rs.length : Int) + 1) (by simp [hlen]) hr) ?_
  refine sat_loopX (fun i : Nat => PyData.int (i : Int)) (fun pre ρ => (∃ u4 u5, ρ = [.val rD, .val (.int k), .val (.int f), .val (.int l), u4, u5]) ∧ ∀ m, m < pre.length → ∃ S, Sb (nms rs) S ∧ S.length = m ∧ okS rs k f l S = false) (List.range (rs.length + 1)) rfl ⟨⟨_, _, rfl⟩, fun m hm => absurd hm (Nat.not_lt_zero _)⟩ ?_ ?_
  · rintro pre x q ρ e ⟨⟨u4, u5, rfl⟩, hno⟩
    refine ⟨_, rfl, ?_⟩
    have hx : (List.range (rs.length + 1))[pre.length]? = some x := by rw [e, List.getElem?_append_right (Nat.le_refl _)]; simp
    have hpl : pre.length < rs.length + 1 := by
      have : pre.length < (List.range (rs.length + 1)).length := by rw [e]; simp
      simpa using this
    rw [List.getElem?_range hpl] at hx
    cases hx
    have hset' := hset pre.length (by have := hvt.1; omega)
    have hF : compF (GE.name 5) T.yes (E.call sem_is_enough (A.cons (E.var 0) (A.cons (E.var 1) (A.cons (E.var 5) (A.cons (E.var 2) (A.cons (E.var 3) (A.nil))))))) [some rD, some (.int k), some (.int f), some (.int l), some (.int (pre.length : Nat)), none] ((cmb pre.length (nms rs)).map eS) = .ok ((cmb pre.length (nms rs)).map fun S => .bool (okS rs k f l S)) := by
      refine comp_all eS (fun S => .bool (okS rs k f l S)) _ (fun S hS => ⟨_, rfl, ?_⟩)
      have := hen S
      simp [this]
    have mem := mem_cmb (nms rs) pw pre.length
    generalize cmb pre.length (nms rs) = cc at *
    have hall := o_allm (okS rs k f l) cc
    obtain ⟨FL, hFL⟩ : ∃ FL, cc.map (fun S => PyData.bool (okS rs k f l S)) = FL := ⟨_, rfl⟩
    rw [hFL] at hF hall
    cases c : cc.all (okS rs k f l) with
    | false =>
      left
      have c' : ¬ ∀ S ∈ cc, okS rs k f l S = true := fun hh => by
        have := List.all_eq_true.mpr hh
        rw [this] at c; cases c
      obtain ⟨S, hS⟩ := Classical.not_forall.mp c'
      obtain ⟨hS1, hS2⟩ := Classical.not_imp.mp hS
      obtain ⟨k1, k2⟩ := (mem S).mp hS1
      rw [c] at hall
      simp [hsrc, hset', hF, hall]
      refine sat_nx ⟨⟨_, _, rfl⟩, fun m hm => ?_⟩
      rcases Nat.lt_or_ge m pre.length with d | d
      · exact hno m d
      · exact ⟨S, k1, by simp at hm; omega, by simpa using hS2⟩
    | true =>
      right
      rw [c] at hall
      exact ⟨.int (pre.length : Nat), by simp [hsrc, hset', hF, hall], Or.inl ⟨pre.length, by omega, fun S hS hl => List.all_eq_true.mp c S ((mem S).mpr ⟨hS, hl⟩), hno, rfl⟩⟩
  · rintro ρ' ⟨⟨u4, u5, rfl⟩, hno⟩
    refine Or.inr ⟨fun m hm => hno m (by rw [List.length_range]; omega), by simp⟩
end PV

/-! Q27: _law_told -/
namespace PV
open PySem PySem.Spec L2
variable {rs : List Rep} {k f l : Int}
theorem cut_tk {α : Type} (xs : List α) (n : Nat) : cutL xs none (some (n : Int)) = xs.take n := by
  have : cutL xs none (some (n : Int)) = ((xs.drop 0).take (HT.sIx xs.length xs.length (some (n : Int)) - 0)) := rfl
  have e : HT.sIx xs.length xs.length (some (n : Int)) = min n xs.length := by
    simp only [HT.sIx]
    split
    · omega
    · rw [Int.toNat_natCast]
  rw [this, e, List.drop_zero, Nat.sub_zero]
  rcases Nat.lt_or_ge n xs.length with c | c
  · rw [Nat.min_eq_left (by omega)]
  · rw [Nat.min_eq_right c, List.take_of_length_le (Nat.le_refl _), List.take_of_length_le c]
theorem neBB (a b : Bool) : neD (.bool a) (.bool b) = some (.bool (a != b)) := by cases a <;> cases b <;> rfl
theorem neSS (S T : List Str) : neD (eS S) (eS T) = some (.bool (!decide (S = T))) := (neD_dat (α := PySem.W.Tup Str) (by decide) ⟨S⟩ ⟨T⟩).trans (by simp)
theorem sb_take {names S : List Str} (h : Sb names S) (n : Nat) : Sb names (S.take n) := ⟨h.1.sublist (List.take_sublist _ _), fun x hx => h.2 x (List.mem_of_mem_take hx)⟩
theorem s_told (h : Ask rs k f l) : sem__law_told [eRs rs, .int k, .int f, .int l] = .ok (.bool true) := by
  have hfew := s_fewrep h
  have hneed := s_needed h
  have henr := s_enoughrep h
  have hsuf := fun S hS => s_suff h (S := S) hS
  have hen := s_lawenough h.vr.vt k f l
  have hsets := s_lawsets h.vr.vt.1
  have pw := h.vr.npw
  have mem : ∀ S, S ∈ chs rs.length (nms rs) ↔ Sb (nms rs) S := fun S => by
    rw [mem_chs _ _ pw]
    exact ⟨fun a => a.1, fun a => ⟨a, by have := sb_len a; rwa [nms_len] at this⟩⟩
  have mono := fun (S U : List Str) (hs : ∀ x ∈ S, x ∈ U) => okS_mono h.vr.vt (k := k) (f := f) (l := l) hs
  have hlen : lenF [eRs rs] = some (.int (rs.length : Nat)) := by simp
  have hn10 := h.vr.vt.1
  have hclen : (chs rs.length (nms rs)).length ≤ 1024 := Nat.le_trans (chs_len _ _) (Nat.le_trans (Nat.pow_le_pow_right (by decide) (show (nms rs).length ≤ 10 by rw [nms_len]; exact hn10)) (by decide))
  have hnmlen := nms_len rs
  have hnm : ∀ ρ : En, compF (GE.tup [11, 12, 13]) T.yes (E.var 11) ([some (eRs rs)] ++ ρ) (rs.map eR) = compF (GE.tup [11, 12, 13]) T.yes (E.var 11) ([some (eRs rs)] ++ ρ) (rs.map eR) := fun _ => rfl
  generalize hok : okS rs k f l = ok at *
  generalize chs rs.length (nms rs) = cs at *
  simp only [sem__law_told, q_fn4]
  refine sat_run ?_
  refine sat_seq (ρ' := [.val (eRs rs), .val (.int k), .val (.int f), .val (.int l), .val (.list (cs.map eS)), .un, .un, .un, .un, .un, .un, .un, .un, .un, .un]) (by simp [hsets]) ?_
  obtain ⟨E, hE⟩ : ∃ E, cs.filter ok = E := ⟨_, rfl⟩
  have memE : ∀ S, S ∈ E ↔ Sb (nms rs) S ∧ ok S = true := fun S => by rw [← hE, List.mem_filter, mem]
  refine sat_seq (ρ' := [.val (eRs rs), .val (.int k), .val (.int f), .val (.int l), .val (.list (cs.map eS)), .val (.list (E.map eS)), .un, .un, .un, .un, .un, .un, .un, .un, .un]) ?_ ?_
  · simp
    rw [comp_sets ok cs (fun S hS => ⟨_, rfl, by
      have := hen S
      simp [this], fun _ => by simp⟩), hE]
    rfl
  refine sat_for (ds := (cs.take 12).map eS) ?_ ?_
  · have : sliceD (.list (cs.map eS)) none (some 12) = some (.list ((cs.take 12).map eS)) := by
      simp only [sliceD]
      rw [show (12 : Int) = ((12 : Nat) : Int) from rfl, cut_tk, List.map_take]
    generalize (cs.take 12).map eS = dd at *
    simp [this]
  have hsub : ∀ S ∈ cs.take 12, Sb (nms rs) S := fun S hS => (mem S).mp (List.mem_of_mem_take hS)
  refine sat_loop eS (fun pre ρ => ∃ u6, ρ = [.val (eRs rs), .val (.int k), .val (.int f), .val (.int l), .val (.list (cs.map eS)), .val (.list (E.map eS)), u6, .un, .un, .un, .un, .un, .un, .un, .un]) (cs.take 12) rfl ⟨_, rfl⟩ ?_ ?_
  · rintro pre x q ρ e ⟨u6, rfl⟩
    refine ⟨_, rfl, ?_⟩
    have hx := hsub x (by rw [e]; simp)
    have h1 := hsuf x hx
    have h2 : decide (x ∈ E) = ok x := by
      rw [Bool.eq_iff_iff, decide_eq_true_eq, memE]
      exact ⟨fun a => a.2, fun a => ⟨hx, a⟩⟩
    have h3 := in_sN x E
    rw [h2] at h3
    have h4 := neBB (ok x) (ok x)
    rw [bne_self_eq_false] at h4
    simp [h1, h3, h4]
    exact sat_nx ⟨_, rfl⟩
  rintro ρ' ⟨u6, rfl⟩
  generalize hrD : eRs rs = rD at *
  have hmn : ∃ mn : Int, (E ≠ [] → minF [.list (E.map fun S => .int (S.length : Int))] = some (.int mn)) ∧ ∀ T ∈ E, (∀ S ∈ E, T.length ≤ S.length) → mn = T.length := by
    rcases Decidable.em (E = []) with c | c
    · refine ⟨0, fun hh => absurd c hh, fun T hT => ?_⟩
      rw [c] at hT; cases hT
    · obtain ⟨m, e, hm, hu⟩ := min_ints (ns := E.map fun S => (S.length : Int)) (by simpa using c)
      refine ⟨m, fun _ => by rw [List.map_map] at e; exact e, fun T hT hall => ?_⟩
      obtain ⟨S, hS, e1⟩ := List.mem_map.mp hm
      have a1 := hu _ (List.mem_map.mpr ⟨T, hT, rfl⟩)
      have a2 := hall S hS
      omega
  obtain ⟨mn, hmn1, hmn2⟩ := hmn
  obtain ⟨sh, hsh⟩ : ∃ sh, E.filter (fun S => decide ((S.length : Int) = mn)) = sh := ⟨_, rfl⟩
  refine sat_seq (ρ' := [.val rD, .val (.int k), .val (.int f), .val (.int l), .val (.list (cs.map eS)), .val (.list (E.map eS)), u6, .val (.list (sh.map eS)), .un, .un, .un, .un, .un, .un, .un]) ?_ ?_
  · simp
    rw [comp_sets (fun S => decide ((S.length : Int) = mn)) E (fun S hS => ⟨_, rfl, by
      have hc : E ≠ [] := fun z => by rw [z] at hS; cases hS
      have := hmn1 hc
      simp
      rw [comp_all eS (fun S => .int (S.length : Int)) E (fun U _ => ⟨_, rfl, by simp⟩)]
      rw [q_bok, q_bok, q_bok, this]
      simp, fun _ => by simp⟩), hsh]
    rfl
  have hEl : ∀ (a : D), E = [] ∨ E ≠ [] := fun _ => Decidable.em _
  refine sat_seq (ρ' := [.val rD, .val (.int k), .val (.int f), .val (.int l), .val (.list (cs.map eS)), .val (.list (E.map eS)), u6, .val (.list (sh.map eS)), .un, .un, .un, .un, .un, .un, .un]) ?_ ?_
  · rcases hfew with ⟨hno, hv⟩ | ⟨T, hT1, hT2, hT3, hv⟩
    · have hEn : E = [] := by
        rw [List.eq_nil_iff_forall_not_mem]
        intro S hS
        have := (memE S).mp hS
        rw [hno S this.1] at this
        cases this.2
      have : neD .none .none = some (.bool false) := rfl
      simp [hv, hEn, this]
    · have hTE : T ∈ E := (memE T).mpr ⟨hT1, hT2⟩
      have hEn : ¬ E = [] := fun z => by rw [z] at hTE; cases hTE
      have hmnT := hmn2 T hTE (fun S hS => (hT3 S ((memE S).mp hS).1 ((memE S).mp hS).2).1)
      have hTs : T ∈ sh := by
        rw [← hsh]
        exact List.mem_filter.mpr ⟨hTE, decide_eq_true hmnT.symm⟩
      have hmin := min_sets hTs (fun S hS hne => by
        rw [← hsh, List.mem_filter, decide_eq_true_eq] at hS
        have := (memE S).mp hS.1
        exact (hT3 S this.1 this.2).2 (by omega) hne)
      have hsn := neSS T T
      rw [decide_eq_true rfl] at hsn
      simp only [eS] at hsn hmin hv
      simp [hv, hEn, hmin, hsn]
  obtain ⟨nd, hnd⟩ : ∃ nd, (nms rs).filter (fun x => decide (E.filter (fun S => !decide (x ∈ S)) = [])) = nd := ⟨_, rfl⟩
  refine sat_seq (ρ' := [.val rD, .val (.int k), .val (.int f), .val (.int l), .val (.list (cs.map eS)), .val (.list (E.map eS)), u6, .val (.list (sh.map eS)), .val (eNs (nms rs)), .un, .un, .un, .un, .un, .un]) ?_ ?_
  · rw [← hrD]
    simp
    rw [comp_all eR (fun r => .str r.a) rs (fun r _ => ⟨_, rfl, by simp⟩)]
    simp [nms]
  generalize nms rs = names at *
  refine sat_seq (ρ' := [.val rD, .val (.int k), .val (.int f), .val (.int l), .val (.list (cs.map eS)), .val (.list (E.map eS)), u6, .val (.list (sh.map eS)), .val (eNs names), .val (eNs nd), .un, .un, .un, .un, .un]) ?_ ?_
  · simp
    rw [comp_map PyData.str (fun x => decide (E.filter (fun S => !decide (x ∈ S)) = [])) PyData.str names (fun x _ => ⟨_, rfl, by
      simp
      rw [comp_sets (fun S => !decide (x ∈ S)) E (fun S _ => ⟨_, rfl, by simp, fun _ => by simp⟩)]
      simp, fun _ => by simp⟩), hnd]
    rfl
  have hok1 : ok names = true ↔ E ≠ [] := by
    constructor
    · intro a z
      have : names ∈ E := (memE names).mpr ⟨⟨pw, fun _ hx => hx⟩, a⟩
      rw [z] at this; cases this
    · intro a
      obtain ⟨S, hS⟩ := List.exists_mem_of_ne_nil E a
      have := (memE S).mp hS
      exact mono S names this.1.2 this.2
  have hnd2 : E ≠ [] → names.filter (fun x => !ok (withoutN names x)) = nd := by
    intro _
    rw [← hnd]
    apply List.filter_congr
    intro x hx
    rw [Bool.eq_iff_iff, decide_eq_true_eq, Bool.not_eq_true', List.filter_eq_nil_iff]
    constructor
    · intro a S hS b
      have hS' := (memE S).mp hS
      have := mono S (withoutN names x) (fun y hy => List.mem_filter.mpr ⟨hS'.1.2 y hy, by
        simp at b ⊢
        intro e; rw [e] at hy; exact b hy⟩) hS'.2
      rw [this] at a; cases a
    · intro a
      cases c : ok (withoutN names x) with
      | false => rfl
      | true =>
        have hm : withoutN names x ∈ E := (memE _).mpr ⟨⟨pw.filter _, fun y hy => (List.mem_filter.mp hy).1⟩, c⟩
        have := a _ hm
        simp [withoutN] at this
  refine sat_seq (ρ' := [.val rD, .val (.int k), .val (.int f), .val (.int l), .val (.list (cs.map eS)), .val (.list (E.map eS)), u6, .val (.list (sh.map eS)), .val (eNs names), .val (eNs nd), .un, .un, .un, .un, .un]) ?_ ?_
  · rcases Decidable.em (E = []) with c | c
    · rw [if_neg (fun z => hok1.mp z c)] at hneed
      have : neD .none .none = some (.bool false) := rfl
      simp [hneed, c, this]
    · rw [if_pos (hok1.mpr c), hnd2 c] at hneed
      simp [hneed, c]
  obtain ⟨st, hst⟩ : ∃ st, cs.filter (fun S => !decide (S ∈ E)) = st := ⟨_, rfl⟩
  have memT : ∀ S, S ∈ st ↔ Sb names S ∧ ok S = false := fun S => by
    rw [← hst, List.mem_filter, mem]
    simp only [Bool.not_eq_true', decide_eq_false_iff_not, memE]
    constructor
    · rintro ⟨a, b⟩
      refine ⟨a, ?_⟩
      cases c : ok S with
      | false => rfl
      | true => exact absurd ⟨a, c⟩ b
    · rintro ⟨a, b⟩
      exact ⟨a, fun z => by rw [b] at z; cases z.2⟩
  refine sat_seq (ρ' := [.val rD, .val (.int k), .val (.int f), .val (.int l), .val (.list (cs.map eS)), .val (.list (E.map eS)), u6, .val (.list (sh.map eS)), .val (eNs names), .val (eNs nd), .val (.list ((st.map fun S => (S.length : Int)).map .int)), .un, .un, .un, .un]) ?_ ?_
  · simp
    rw [comp_map eS (fun S => !decide (S ∈ E)) (fun S => .int (S.length : Int)) cs (fun S _ => ⟨_, rfl, by simp, fun _ => by simp⟩), hst]
    simp [Function.comp_def]
  have hmx : ∃ mx : Nat, (st ≠ [] → maxF [.list ((st.map fun S => (S.length : Int)).map .int)] = some (.int mx) ∧ ∃ S ∈ st, S.length = mx ∧ ∀ U ∈ st, U.length ≤ S.length) := by
    rcases Decidable.em (st = []) with c | c
    · exact ⟨0, fun hh => absurd c hh⟩
    · obtain ⟨m, e, hm, hu⟩ := max_ints (ns := st.map fun S => (S.length : Int)) (by simpa using c)
      obtain ⟨S, hS, e1⟩ := List.mem_map.mp hm
      refine ⟨S.length, fun _ => ⟨by rw [e, ← e1], S, hS, rfl, fun U hU => ?_⟩⟩
      have := hu _ (List.mem_map.mpr ⟨U, hU, rfl⟩)
      omega
  obtain ⟨mx, hmx⟩ := hmx
  have heq0 : eqD (.list ((st.map fun S => (S.length : Int)).map .int)) (.list []) = some (.bool (decide (st = []))) := (eqD_nil (α := Int) _).trans (by simp)
  have key : sem_enough_reports [rD, .int k, .int f, .int l] = .ok (if st = [] then .int 0 else if (rs.length : Int) < mx + 1 then .none else .int (mx + 1)) := by
    by_cases c : st = []
    · rw [if_pos c]
      have all : ∀ S, Sb names S → ok S = true := fun S hS => by
        cases d : ok S with
        | true => rfl
        | false =>
          have := (memT S).mpr ⟨hS, d⟩
          rw [c] at this; cases this
      rcases henr with ⟨n, n1, n2, n3, n4⟩ | ⟨n3, n4⟩
      · cases n with
        | zero => exact n4
        | succ n =>
          obtain ⟨S, a1, _, a3⟩ := n3 n (by omega)
          rw [all S a1] at a3; cases a3
      · obtain ⟨S, a1, _, a3⟩ := n3 0 (by omega)
        rw [all S a1] at a3; cases a3
    · rw [if_neg c]
      obtain ⟨_, S, hS, e1, hU⟩ := hmx c
      have hS' := (memT S).mp hS
      have hSl := sb_len hS'.1
      rcases henr with ⟨n, n1, n2, n3, n4⟩ | ⟨n3, n4⟩
      · have hn : n = mx + 1 := by
          have a1 : ¬ n ≤ mx := by
            intro hle
            have := n2 (S.take n) (sb_take hS'.1 n) (by rw [List.length_take]; omega)
            have := mono _ S (fun x hx => List.mem_of_mem_take hx) this
            rw [hS'.2] at this; cases this
          have a2 : n ≤ mx + 1 := by
            apply Decidable.byContradiction
            intro hn
            obtain ⟨U, b1, b2, b3⟩ := n3 (mx + 1) (by omega)
            have := hU U ((memT U).mpr ⟨b1, b3⟩)
            omega
          omega
        rw [if_neg (by omega), n4, hn]
        rfl
      · have : mx = rs.length := by
          obtain ⟨U, b1, b2, b3⟩ := n3 rs.length (by omega)
          have := hU U ((memT U).mpr ⟨b1, b3⟩)
          omega
        rw [if_pos (by omega), n4]
  generalize hsl : (st.map fun S => (S.length : Int)).map PyData.int = sl at *
  by_cases c : st = []
  · rw [if_pos c] at key
    have : ¬ ((rs.length : Int) < 0) := by omega
    refine sat_seq (ρ' := [.val rD, .val (.int k), .val (.int f), .val (.int l), .val (.list (cs.map eS)), .val (.list (E.map eS)), u6, .val (.list (sh.map eS)), .val (eNs names), .val (.int 0), .val (.list sl), .un, .un, .un, .un]) (by simp [heq0, c]) ?_
    simp [key, hlen, this, Sat]
  · rw [if_neg c] at key
    obtain ⟨hm, S, hS, e1, hU⟩ := hmx c
    refine sat_seq (ρ' := [.val rD, .val (.int k), .val (.int f), .val (.int l), .val (.list (cs.map eS)), .val (.list (E.map eS)), u6, .val (.list (sh.map eS)), .val (eNs names), .val (.int ((mx : Int) + 1)), .val (.list sl), .un, .un, .un, .un]) (by simp [heq0, c, hm]) ?_
    have : eqD .none .none = some (.bool true) := rfl
    by_cases d : (rs.length : Int) < mx + 1
    · rw [if_pos d] at key
      simp [key, hlen, d, Sat, this]
    · rw [if_neg d] at key
      simp [key, hlen, d, Sat]
end PV

/-! Q28: texts -/
namespace PV
open PySem PySem.Spec L2 TL
def lets : List Nat := (Str.ofString "abcdefghijklmnopqrstuvwxyz").cps.toList
def digs : List Nat := (Str.ofString "0123456789").cps.toList
theorem mem_lets {c : Nat} (h : c ∈ lets) : 97 ≤ c ∧ c ≤ 122 := by
  have : ∀ c ∈ lets, 97 ≤ c ∧ c ≤ 122 := by decide +kernel
  exact this c h
theorem mem_digs {c : Nat} : c ∈ digs ↔ 48 ≤ c ∧ c ≤ 57 := by
  have h1 : ∀ c ∈ digs, 48 ≤ c ∧ c ≤ 57 := by decide +kernel
  have h2 : ∀ c, c < 58 → 48 ≤ c → c ∈ digs := by decide +kernel
  exact ⟨h1 c, fun h => h2 c (by omega) h.1⟩
theorem o_len (z : Str) (h : z.length ≤ 16777216) : lenF [.str z] = some (.int z.length) := by simp only [lenF]; rw [if_pos h]
theorem in_lets (c : Nat) : inD (.str ⟨#[c]⟩) (.str "abcdefghijklmnopqrstuvwxyz") = some (.bool (decide (c ∈ lets))) := rfl
theorem in_digs (c : Nat) : inD (.str ⟨#[c]⟩) (.str "0123456789") = some (.bool (decide (c ∈ digs))) := rfl
theorem it_str (z : Str) (h : z.length ≤ 16777216) : I.itD (.str z) = .ok ((tl z).map fun c => .str ⟨#[c]⟩) := by simp only [I.itD]; rw [if_pos h]; rfl
theorem s_isname (s : Str) (h : s.length ≤ 16777216) : sem_is_name [.str s] = .ok (.bool (decide (1 ≤ s.length ∧ s.length ≤ 3) && (tl s).all fun c => decide (c ∈ lets))) := by
  have h1 : isiD "str" (.str s) = some (.bool true) := rfl
  have h2 := o_len s h
  have h3 := it_str s h
  generalize hn : s.length = n at *
  simp only [sem_is_name, q_fn1]
  by_cases c1 : (1 : Int) ≤ (n : Int)
  · by_cases c2 : (n : Int) ≤ 3
    · simp [h1, h2, h3, c1, c2]
      rw [comp_all (fun c => PyData.str ⟨#[c]⟩) (fun c => .bool (decide (c ∈ lets))) (tl s) (fun c _ => ⟨_, rfl, by simp [in_lets]⟩)]
      rw [q_bok, q_bok, q_bok, o_allm]
      have : decide (1 ≤ n ∧ n ≤ 3) = true := decide_eq_true (by omega)
      simp [this]
      exact fun _ => by omega
    · have : decide (1 ≤ n ∧ n ≤ 3) = false := decide_eq_false (by omega)
      simp [h1, h2, c1, c2, this]
  · have : decide (1 ≤ n ∧ n ≤ 3) = false := decide_eq_false (by omega)
    simp [h1, h2, c1, this]
theorem name_facts {s : Str} (h : nameOk s) : (1 ≤ s.length ∧ s.length ≤ 3) ∧ ∀ c ∈ tl s, 97 ≤ c ∧ c ≤ 122 := by
  rcases Nat.lt_or_ge 16777216 s.length with c | c
  · exfalso
    have h1 : isiD "str" (.str s) = some (.bool true) := rfl
    have h2 : lenF [.str s] = none := by simp only [lenF]; rw [if_neg (by omega)]
    simp [nameOk, sem_is_name, h1, h2] at h
    have h' : (R.stuck : R D) = .ok (.bool true) := h
    cases h'
  · rw [nameOk, s_isname s c] at h
    simp only [R.ok.injEq, PyData.bool.injEq, Bool.and_eq_true, decide_eq_true_eq, List.all_eq_true] at h
    exact ⟨h.1, fun c hc => mem_lets (h.2 c hc)⟩
/-! numbers -/
abbrev tS (i : Int) : Str := Str.ofString (toString i)
theorem tl_tS {i : Int} (h : 0 ≤ i) : tl (tS i) = numL i.toNat := by
  obtain ⟨n, rfl⟩ := Int.eq_ofNat_of_zero_le h
  rw [tS, tl_num]
  rfl
theorem len_tS {i : Int} (h : 0 ≤ i) (h1 : i ≤ 9999) : (tl (tS i)).length ≤ 4 ∧ 1 ≤ (tl (tS i)).length := by
  rw [tl_tS h]
  refine ⟨numL_len (by decide) (by show i.toNat < 10000; omega), ?_⟩
  have := numL_ne i.toNat
  cases q : numL i.toNat with
  | nil => exact absurd q this
  | cons _ _ => simp
theorem dig_tS {i : Int} (h : 0 ≤ i) : ∀ c ∈ tl (tS i), 48 ≤ c ∧ c ≤ 57 := by
  rw [tl_tS h]
  exact numL_digits _
theorem o_str {i : Int} (h : 0 ≤ i) (h1 : i ≤ 9999) : strF [.int i] = some (.str (tS i)) := by
  simp only [strF]
  have : i.natAbs.log2 < 1920 := by
    have h2 : i.natAbs ≤ 9999 := by omega
    rcases Nat.eq_zero_or_pos i.natAbs with e | e
    · rw [e]; decide
    · have : i.natAbs.log2 < 14 := (Nat.log2_lt (by omega)).mpr (by omega)
      omega
  rw [if_pos this]
theorem o_int {i : Int} (h : 0 ≤ i) (h1 : i ≤ 9999) : intF [.str (tS i)] = some (.int i) := by
  have hl := (len_tS h h1).1
  simp only [intF]
  rw [if_pos (by rw [len_tl]; omega)]
  have e : i = ((i.toNat : Nat) : Int) := by omega
  have : intText? (tS i) = some i := by
    have := int_num (n := i.toNat) (Nat.le_trans (numL_len (k := 4) (by decide) (by show i.toNat < 10000; omega)) (by decide))
    rw [← e] at this
    exact this
  rw [this]; rfl
/-- reading digits -/
theorem s_readnum (w : Str) (hw : w.length ≤ 16777216) : sem_read_number [.str w] = if (1 ≤ w.length ∧ w.length ≤ 4) ∧ (∀ c ∈ tl w, 48 ≤ c ∧ c ≤ 57) then .ok (.int ((NumText.digitsVal (tl w) : Nat) : Int)) else .ok .none := by
  have h2 := o_len w hw
  have h3 := it_str w hw
  have hlt := len_tl w
  have hc : ∀ ρ : En, ρ.length = 2 → compF (GE.name 1) T.yes (E.op2 inD (E.var 1) (E.con (.str "0123456789"))) ρ ((tl w).map fun c => .str ⟨#[c]⟩) = .ok ((tl w).map fun c => .bool (decide (c ∈ digs))) := by
    intro ρ hρ
    rw [comp_all (fun c => PyData.str ⟨#[c]⟩) (fun c => .bool (decide (c ∈ digs))) (tl w) (fun c _ => ⟨_, rfl, by
      match ρ, hρ with
      | [a, b], _ => simp [in_digs]⟩)]
  generalize hn : w.length = n at *
  simp only [sem_read_number, q_fn1]
  by_cases c1 : (1 : Int) ≤ (n : Int)
  · by_cases c2 : (n : Int) ≤ 4
    · have ha := o_allm (fun c => decide (c ∈ digs)) (tl w)
      by_cases c3 : ∀ c ∈ tl w, 48 ≤ c ∧ c ≤ 57
      · have e : (tl w).all (fun c => decide (c ∈ digs)) = true := List.all_eq_true.mpr fun c hc => decide_eq_true (mem_digs.mpr (c3 c hc))
        rw [e] at ha
        have hi : intF [.str w] = some (.int ((NumText.digitsVal (tl w) : Nat) : Int)) := by
          simp only [intF]
          rw [if_pos (by omega), intText_digits (x := w) c3 (by
            intro z
            have : (tl w).length = 0 := by rw [show tl w = [] from z]; rfl
            omega) (by omega)]
          rfl
        rw [if_pos ⟨by omega, c3⟩]
        simp [h2, h3, c1, c2, hc, ha, hi]
      · have e : (tl w).all (fun c => decide (c ∈ digs)) = false := by
          cases q : (tl w).all (fun c => decide (c ∈ digs)) with
          | false => rfl
          | true => exact absurd (fun c hc => mem_digs.mp (of_decide_eq_true (List.all_eq_true.mp q c hc))) c3
        rw [e] at ha
        rw [if_neg (fun z => c3 z.2)]
        simp [h2, h3, c1, c2, hc, ha]
    · rw [if_neg (fun z => by omega)]
      simp [h2, c1, c2]
  · rw [if_neg (fun z => by omega)]
    simp [h2, c1]
end PV

/-! Q29: reports as texts -/
namespace PV
open PySem PySem.Spec L2 TL
@[simp] theorem q_smeth (g : D → D → Option D) (fo fe : En → R D) (ρ : En) : E.smeth g fo fe ρ = (fo ρ).bind fun x => match x with
  | .str a => (fe ρ).bind fun y => R.ofO (g (.str a) y)
  | _ => .stuck := rfl
theorem o_adds (a b : Str) (h : (tl a).length + (tl b).length ≤ 16777216) : addD (.str a) (.str b) = some (.str (a ++ b)) := by
  simp only [addD]
  rw [if_pos (by rw [len_tl, len_tl]; exact h)]
theorem sum_le {α : Type} (f : α → Nat) (k : Nat) : ∀ ys : List α, (∀ y ∈ ys, f y ≤ k) → (ys.map f).sum ≤ ys.length * k
  | [], _ => by simp
  | y :: r, h => by
    have h1 := h y (by simp)
    have h2 := sum_le f k r (fun z hz => h z (by simp [hz]))
    rw [List.map_cons, List.sum_cons, List.length_cons, Nat.succ_mul]
    omega
theorem o_join (a : Str) (ys : List Str) (h : (ys.map (·.length)).sum + ys.length * a.length ≤ 16777216) : joinD (.str a) (.list (ys.map .str)) = some (.str (Txt.join a ys)) := by
  simp only [joinD, strsOf_map]
  rw [if_pos h]
theorem o_split (a b : Str) (hb : 1 ≤ b.length) (h : a.length ≤ 1000000) : splitD (.str a) (.str b) = some (.list ((Txt.split a b).map .str)) := by
  simp only [splitD]
  have h1 := PyProof.Rows.split_le a b
  have e : sizeLine = 16777216 := rfl
  rw [if_pos ⟨by simp; omega, by omega, by omega⟩]
theorem joinL_len (S : List Nat) (k : Nat) : ∀ ps : List (List Nat), (∀ p ∈ ps, p.length ≤ k) → (joinL S ps).length ≤ ps.length * (k + S.length)
  | [], _ => by simp [joinL]
  | [p], h => by
    have := h p (by simp)
    simp [joinL]; omega
  | p :: q :: r, h => by
    have h1 := h p (by simp)
    have h2 := joinL_len S k (q :: r) (fun z hz => h z (by simp [hz]))
    rw [joinL, List.length_append, List.length_append, List.length_cons, Nat.succ_mul]
    omega
theorem join_len (y : Str) (k : Nat) (ps : List Str) (h : ∀ p ∈ ps, (tl p).length ≤ k) : (tl (Txt.join y ps)).length ≤ ps.length * (k + (tl y).length) := by
  rw [join_eq, tl_join]
  have := joinL_len (tl y) k (ps.map tl) (fun p hp => by
    obtain ⟨z, hz, rfl⟩ := List.mem_map.mp hp
    exact h z hz)
  rwa [List.length_map] at this
/-- a report's text -/
def rtx (r : Rep) : Str := r.a ++ (" " : Str) ++ tS r.b ++ ("-" : Str) ++ tS r.c
structure RO (r : Rep) : Prop where
  nam : nameOk r.a
  b0 : 0 ≤ r.b
  bc : r.b ≤ r.c
  c9 : r.c ≤ 9999
theorem VR.ro {rs : List Rep} (h : VR rs) : ∀ r ∈ rs, RO r := fun r hr => ⟨h.nam r hr, (h.vt.2 r hr).1, (h.vt.2 r hr).2.1, (h.vt.2 r hr).2.2⟩
theorem tl_rtx (r : Rep) : tl (rtx r) = tl r.a ++ [32] ++ tl (tS r.b) ++ [45] ++ tl (tS r.c) := by
  rw [rtx, tl_append, tl_append, tl_append, tl_append]; rfl
theorem rtx_len {r : Rep} (h : RO r) : (tl (rtx r)).length ≤ 13 := by
  have h1 := (name_facts h.nam).1
  rw [len_tl] at h1
  have h2 := len_tS h.b0 (Int.le_trans h.bc h.c9)
  have h3 := len_tS (Int.le_trans h.b0 h.bc) h.c9
  rw [tl_rtx]
  simp only [List.length_append, List.length_singleton]
  omega
def jt (rs : List Rep) : Str := Txt.join ", " (rs.map rtx)
theorem jt_len {rs : List Rep} (h : VR rs) : (tl (jt rs)).length ≤ 150 := by
  have := join_len ", " 13 (rs.map rtx) (fun p hp => by
    obtain ⟨r, hr, rfl⟩ := List.mem_map.mp hp
    exact rtx_len (h.ro r hr))
  have h1 := h.vt.1
  rw [List.length_map] at this
  have e : (tl (", " : Str)).length = 2 := rfl
  rw [e] at this
  rw [jt]
  omega
theorem s_jrep {rs : List Rep} (h : VR rs) : sem_join_reports [eRs rs] = .ok (.str (jt rs)) := by
  simp only [sem_join_reports, q_fn1]
  have hc : ∀ ρ : En, ρ.length = 4 → compF (GE.tup [1, 2, 3]) T.yes (E.op2 addD (E.op2 addD (E.op2 addD (E.op2 addD (E.var 1) (E.con (.str " "))) (E.bi strF (A.cons (E.var 2) (A.nil)))) (E.con (.str "-"))) (E.bi strF (A.cons (E.var 3) (A.nil)))) ρ (rs.map eR) = .ok ((rs.map rtx).map .str) := by
    intro ρ hρ
    rw [comp_all eR (fun r => .str (rtx r)) rs (fun r hr => ⟨_, rfl, by
      have ro := h.ro r hr
      have h1 := (name_facts ro.nam).1
      rw [len_tl] at h1
      have h2 := len_tS ro.b0 (Int.le_trans ro.bc ro.c9)
      have h3 := len_tS (Int.le_trans ro.b0 ro.bc) ro.c9
      have s1 := o_str ro.b0 (Int.le_trans ro.bc ro.c9)
      have s2 := o_str (Int.le_trans ro.b0 ro.bc) ro.c9
      have l1 : (tl (" " : Str)).length = 1 := rfl
      have l2 : (tl ("-" : Str)).length = 1 := rfl
      have a1 := o_adds r.a " " (by omega)
      have a2 := o_adds (r.a ++ (" " : Str)) (tS r.b) (by rw [tl_append, List.length_append]; omega)
      have a3 := o_adds (r.a ++ (" " : Str) ++ tS r.b) "-" (by rw [tl_append, tl_append, List.length_append, List.length_append]; omega)
      have a4 := o_adds (r.a ++ (" " : Str) ++ tS r.b ++ ("-" : Str)) (tS r.c) (by rw [tl_append, tl_append, tl_append, List.length_append, List.length_append, List.length_append]; omega)
      match ρ, hρ with
      | [x, y, z, w], _ => simp [a1, a2, a3, a4, s1, s2, rtx]⟩)]
    rw [List.map_map]; rfl
  have hj := o_join ", " (rs.map rtx) (by
    have h1 := sum_le (fun y : Str => y.length) 13 (rs.map rtx) (fun y hy => by
      obtain ⟨r, hr, rfl⟩ := List.mem_map.mp hy
      rw [len_tl]; exact rtx_len (h.ro r hr))
    have h2 := h.vt.1
    rw [List.length_map] at h1 ⊢
    have e : ((", " : Str)).length = 2 := rfl
    rw [e]
    omega)
  generalize (rs.map rtx).map PyData.str = ts at *
  simp [hc, hj, jt]
theorem s_ltext {rs : List Rep} (h : VR rs) : sem__law_text [eRs rs] = .ok (.str (jt rs)) := s_jrep h
theorem s_fmt {rs : List Rep} (h : VR rs) : sem_format_reports [eRs rs] = .ok (.str (jt rs)) := by
  simp [sem_format_reports, s_check h, s_jrep h]
/-- what a read report holds -/
inductive Jk : D → Prop
  | str (s : Str) (h : s.length ≤ 1000000) : Jk (.str s)
  | int (i : Int) : Jk (.int i)
  | non : Jk .none
theorem readnum_jk (w : Str) (hw : w.length ≤ 1000000) : ∃ d, sem_read_number [.str w] = .ok d ∧ Jk d := by
  rw [s_readnum w (by omega)]
  split
  · exact ⟨_, rfl, .int _⟩
  · exact ⟨_, rfl, .non⟩
theorem readrep_jk (t : Str) (ht : t.length ≤ 1000) : ∃ ds, sem_read_report [.str t] = .ok (.tuple ds) ∧ (∀ d ∈ ds, Jk d) := by
  have h1 := o_split t " " (by decide) (by omega)
  have p1 := PyProof.Rows.split_pos t " "
  have sh := fun a (h : a ∈ Txt.split t " ") => PyProof.Rows.part_short h
  have sl := PyProof.Rows.split_le t " "
  generalize Txt.split t " " = ws at *
  obtain ⟨l, hl⟩ : ∃ l, ws.getLast? = some l := ⟨_, List.getLast?_eq_some_getLast (by intro z; rw [z] at p1; simp at p1)⟩
  have i1 : ixD (.list (ws.map .str)) (.int (-1)) = some (.str l) := by
    show atI (ws.map PyData.str) (-1) = _
    exact at_last (by rw [List.getLast?_map, hl]; rfl)
  have hll := sh l (List.mem_of_getLast? hl)
  have h2 := o_split l "-" (by decide) (by omega)
  have sh2 := fun a (h : a ∈ Txt.split l "-") => PyProof.Rows.part_short h
  have sl2 := PyProof.Rows.split_le l "-"
  generalize Txt.split l "-" = ns at *
  obtain ⟨g, hg⟩ : ∃ g : Str → D, ∀ n ∈ ns, sem_read_number [.str n] = .ok (g n) ∧ Jk (g n) := by
    refine ⟨fun n => if h : n.length ≤ 1000000 then (readnum_jk n h).choose else .none, fun n hn => ?_⟩
    have hh : n.length ≤ 1000000 := by have := sh2 n hn; omega
    simp only [dif_pos hh]
    exact (readnum_jk n hh).choose_spec
  have cut : sliceD (.list (ws.map .str)) none (some (-1)) = some (.list ((ws.take (ws.length - 1)).map .str)) := by
    simp only [sliceD]
    congr 2
    have : cutL (ws.map PyData.str) none (some (-1)) = (ws.map PyData.str).take ((ws.map PyData.str).length - 1) := by
      simp only [cutL, HT.sIx]
      rw [if_pos (by decide)]
      simp
      congr 1
      omega
    rw [this, List.length_map, List.map_take]
  have hadd : addD (.list ((ws.take (ws.length - 1)).map .str)) (.list (ns.map g)) = some (.list ((ws.take (ws.length - 1)).map .str ++ ns.map g)) := o_addl _ _ (by simp only [List.length_map, List.length_take]; omega)
  refine ⟨(ws.take (ws.length - 1)).map .str ++ ns.map g, ?_, fun d hd => ?_⟩
  · generalize (ws.take (ws.length - 1)).map PyData.str = w1 at *
    generalize ws.map PyData.str = w2 at *
    have hc : ∀ ρ : En, ρ.length = 4 → compF (GE.name 3) T.yes (E.call sem_read_number (A.cons (E.var 3) (A.nil))) ρ (ns.map .str) = .ok (ns.map g) := by
      intro ρ hρ
      rw [comp_all PyData.str g ns (fun n hn => ⟨_, rfl, by
        have := (hg n hn).1
        match ρ, hρ with
        | [x, y, z, w], _ => simp [this]⟩)]
    generalize ns.map PyData.str = n1 at *
    generalize ns.map g = n2 at *
    simp [sem_read_report, h1, i1, h2, cut, hc, hadd]
  · rcases List.mem_append.mp hd with hd | hd
    · obtain ⟨s, hs, rfl⟩ := List.mem_map.mp hd
      exact .str s (by have := sh s (List.mem_of_mem_take hs); omega)
    · obtain ⟨n, hn, rfl⟩ := List.mem_map.mp hd
      exact (hg n hn).2
end PV

/-! Q30: reading reports -/
namespace PV
open PySem PySem.Spec L2 TL
theorem Jk.plain {d : D} (h : Jk d) : d.plain = true := by cases h <;> rfl
theorem jk_plain : ∀ {ds : List D}, (∀ d ∈ ds, Jk d) → PyData.plainAll ds = true
  | [], _ => rfl
  | d :: r, h => by
    have h1 := (h d (by simp)).plain
    have h2 := jk_plain (ds := r) (fun x hx => h x (by simp [hx]))
    simp only [PyData.plainAll, h1, h2, Bool.and_self]
theorem jk_name {d : D} (h : Jk d) : ∃ b, sem_is_name [d] = .ok (.bool b) ∧ (b = true → ∃ s, d = .str s ∧ nameOk s) := by
  cases h with
  | str s hs =>
    refine ⟨_, s_isname s (by omega), fun hb => ⟨s, rfl, ?_⟩⟩
    rw [nameOk, s_isname s (by omega), hb]
  | int i =>
    have : isiD "str" (.int i) = some (.bool false) := rfl
    exact ⟨false, by simp [sem_is_name, this], by simp⟩
  | non =>
    have : isiD "str" (.none : D) = some (.bool false) := rfl
    exact ⟨false, by simp [sem_is_name, this], by simp⟩
theorem jk_time {d : D} (h : Jk d) : ∃ b, sem_is_time [d] = .ok (.bool b) ∧ (b = true → ∃ i, d = .int i ∧ 0 ≤ i ∧ i ≤ 9999) := by
  cases h with
  | str s hs =>
    have : isiD "int" (.str s) = some (.bool false) := rfl
    exact ⟨false, by simp [sem_is_time, sem_is_integer, this], by simp⟩
  | int i => exact ⟨_, s_istime i, fun hb => ⟨i, rfl, of_decide_eq_true hb⟩⟩
  | non =>
    have : isiD "int" (.none : D) = some (.bool false) := rfl
    exact ⟨false, by simp [sem_is_time, sem_is_integer, this], by simp⟩
theorem s_isrepJ {xs : List D} (h : ∀ d ∈ xs, Jk d) : ∃ b, sem_is_report [.tuple xs] = .ok (.bool b) ∧ (b = true → ∃ r, (.tuple xs : D) = eR r ∧ RO r) := by
  have h1 := isi_tup xs (jk_plain h)
  by_cases c : xs.length = 3
  · match xs, c with
    | [x, y, z], _ =>
      obtain ⟨b1, e1, f1⟩ := jk_name (h x (by simp))
      obtain ⟨b2, e2, f2⟩ := jk_time (h y (by simp))
      obtain ⟨b3, e3, f3⟩ := jk_time (h z (by simp))
      have h2 : lenF [.tuple [x, y, z]] = some (.int 3) := rfl
      have i0 : ixD (.tuple [x, y, z]) (.int 0) = some x := rfl
      have i1 : ixD (.tuple [x, y, z]) (.int 1) = some y := rfl
      have i2 : ixD (.tuple [x, y, z]) (.int 2) = some z := rfl
      have fin : b1 = true → b2 = true → b3 = true → ∃ s i j, (.tuple [x, y, z] : D) = eR ⟨s, i, j⟩ ∧ nameOk s ∧ 0 ≤ i ∧ i ≤ 9999 ∧ 0 ≤ j ∧ j ≤ 9999 ∧ y = .int i ∧ z = .int j := by
        intro g1 g2 g3
        obtain ⟨s, rfl, k1⟩ := f1 g1
        obtain ⟨i, rfl, k2⟩ := f2 g2
        obtain ⟨j, rfl, k3⟩ := f3 g3
        exact ⟨s, i, j, rfl, k1, k2.1, k2.2, k3.1, k3.2, rfl, rfl⟩
      generalize (.tuple [x, y, z] : D) = t at *
      cases b1 with
      | false => exact ⟨false, by simp [sem_is_report, h1, h2, i0, e1], by simp⟩
      | true =>
        cases b2 with
        | false => exact ⟨false, by simp [sem_is_report, h1, h2, i0, i1, e1, e2], by simp⟩
        | true =>
          cases b3 with
          | false => exact ⟨false, by simp [sem_is_report, h1, h2, i0, i1, i2, e1, e2, e3], by simp⟩
          | true =>
            obtain ⟨s, i, j, k0, k1, k2, k3, k4, k5, rfl, rfl⟩ := fin rfl rfl rfl
            refine ⟨decide (i ≤ j), by simp [sem_is_report, h1, h2, i0, i1, i2, e1, e2, e3], fun hb => ⟨_, k0, ⟨k1, k2, of_decide_eq_true hb, k5⟩⟩⟩
  · have h2 : lenF [.tuple xs] = some (.int (xs.length : Int)) := rfl
    have c' : ¬ (xs.length : Int) = 3 := by omega
    generalize (xs.length : Int) = n at *
    exact ⟨false, by simp [sem_is_report, h1, h2, c'], by simp⟩
theorem ascR {rs : List Rep} (hr : ∀ r ∈ rs, RO r) (hl : rs.length ≤ 10) : ∃ b, sem_are_reports [eRs rs] = .ok (.bool b) ∧ (b = true → VR rs) := by
  have hp := plain_reps rs
  have h1 : isiD "tuple" (eRs rs) = some (.bool true) := isi_tup _ hp
  have hc : ∀ ρ : En, ρ.length = 5 → compF (GE.name 4) T.yes (E.call sem_is_report (A.cons (E.var 4) (A.nil))) ρ (rs.map eR) = .ok (rs.map fun _ => .bool true) := by
    intro ρ hρ
    rw [comp_all eR (fun _ => .bool true) rs (fun r hr' => ⟨_, rfl, by
      have ro := hr r hr'
      have := s_isrep (r := r) ⟨ro.b0, ro.bc, ro.c9⟩ ro.nam
      match ρ, hρ with
      | [x, y, z, w, v], _ => simp [this]⟩)]
  have ha := o_allm (fun _ : Rep => true) rs
  have hlen : lenF [eRs rs] = some (.int (rs.length : Nat)) := by simp
  have hsrc := s_sources rs
  have hz : I.z2 [.list (rs.map fun r => .str r.a), .list ((rs.map fun r => PyData.str r.a).tail)] = .ok ((rs.zip (rs.drop 1)).map fun p => .tuple [.str p.1.a, .str p.2.a]) := by
    simp only [I.z2]
    rw [← List.map_tail, zipL, List.zipWith_map, List.zip, List.map_zipWith, List.drop_one]
  refine ⟨(rs.zip (rs.drop 1)).all (fun p => decide (p.1.a.cps.toList < p.2.a.cps.toList)), ?_, fun hb => ⟨⟨hl, fun r hr' => ⟨(hr r hr').b0, (hr r hr').bc, (hr r hr').c9⟩⟩, fun r hr' => (hr r hr').nam, fun i r s e1 e2 => ?_⟩⟩
  · have hcut : sliceD (.list (rs.map fun r => .str r.a)) (some 1) none = some (.list ((rs.map fun r => PyData.str r.a).tail)) := by
      simp only [sliceD]
      rw [← List.drop_one]
      congr 2
      cases rs with
      | nil => rfl
      | cons x r => exact cut_drop _ (by simp)
    have hc2 : ∀ ρ : En, ρ.length = 5 → compF (GE.tup [2, 3]) T.yes (E.op2 ltD (E.var 2) (E.var 3)) ρ ((rs.zip (rs.drop 1)).map fun p => .tuple [.str p.1.a, .str p.2.a]) = .ok ((rs.zip (rs.drop 1)).map fun p => .bool (decide (p.1.a.cps.toList < p.2.a.cps.toList))) := by
      intro ρ hρ
      rw [comp_all (fun p : Rep × Rep => PyData.tuple [.str p.1.a, .str p.2.a]) (fun p => .bool (decide (p.1.a.cps.toList < p.2.a.cps.toList))) (rs.zip (rs.drop 1)) (fun p _ => ⟨_, rfl, by
        have := lt_str p.1.a p.2.a
        match ρ, hρ with
        | [x, y, z, w, v], _ => simp [this]⟩)]
    have ha2 := o_allm (fun p : Rep × Rep => decide (p.1.a.cps.toList < p.2.a.cps.toList)) (rs.zip (rs.drop 1))
    have ng : ¬ (10 : Int) < (rs.length : Int) := by omega
    have hit : I.itD (eRs rs) = .ok (rs.map eR) := rfl
    have hone : rs.all (fun _ => true) = true := by simp
    rw [hone] at ha
    generalize eRs rs = rD at *
    generalize (rs.zip (rs.drop 1)).all (fun p => decide (p.1.a.cps.toList < p.2.a.cps.toList)) = bb at *
    generalize (rs.zip (rs.drop 1)).map (fun p => PyData.tuple [.str p.1.a, .str p.2.a]) = zz at *
    generalize (rs.zip (rs.drop 1)).map (fun p => PyData.bool (decide (p.1.a.cps.toList < p.2.a.cps.toList))) = z2 at *
    generalize (rs.map fun r => PyData.str r.a).tail = tt at *
    generalize (rs.map fun r => PyData.str r.a) = nn at *
    generalize rs.map eR = re at *
    generalize (rs.map fun _ => PyData.bool true) = tr at *
    generalize (rs.length : Int) = n at *
    simp [sem_are_reports, h1, hlen, ng, hit, hc, ha, hsrc, hcut, hz, hc2, ha2]
  · have hm : (r, s) ∈ rs.zip (rs.drop 1) := by
      rw [List.mem_iff_getElem?]
      refine ⟨i, ?_⟩
      rw [List.getElem?_zip_eq_some]
      exact ⟨e1, by rw [List.getElem?_drop, Nat.add_comm]; exact e2⟩
    rw [nlt_iff]
    exact of_decide_eq_true (List.all_eq_true.mp hb _ hm)
/-- reports that were read, good or bad -/
def Jr (d : D) : Prop := ∃ xs, d = .tuple xs ∧ ∀ x ∈ xs, Jk x
theorem jr_plain : ∀ {ds : List D}, (∀ d ∈ ds, Jr d) → PyData.plainAll ds = true
  | [], _ => rfl
  | d :: r, h => by
    obtain ⟨xs, rfl, hx⟩ := h d (by simp)
    have h1 : (PyData.tuple xs).plain = true := by simpa only [PyData.plain] using jk_plain hx
    have h2 := jr_plain (ds := r) (fun x hx => h x (by simp [hx]))
    simp only [PyData.plainAll, h1, h2, Bool.and_self]
theorem s_arerepJ {ds : List D} (h : ∀ d ∈ ds, Jr d) (hl : ds.length ≤ 100000) : ∃ b, sem_are_reports [.tuple ds] = .ok (.bool b) ∧ (b = true → ∃ rs, ds = rs.map eR ∧ VR rs) := by
  have h1 := isi_tup ds (jr_plain h)
  have hlen : lenF [.tuple ds] = some (.int (ds.length : Int)) := rfl
  by_cases c : ds.length ≤ 10
  · have ng : ¬ (10 : Int) < (ds.length : Int) := by omega
    have hh : ∀ d ∈ ds, ∃ b, sem_is_report [d] = .ok (.bool b) ∧ (b = true → ∃ r, d = eR r ∧ RO r) := by
      intro d hd
      obtain ⟨xs, rfl, hx⟩ := h d hd
      exact s_isrepJ hx
    by_cases q : ∀ d ∈ ds, ∃ r, d = eR r ∧ RO r
    · have : ∃ rs : List Rep, ds = rs.map eR ∧ ∀ r ∈ rs, RO r := by
        clear h1 hlen c ng hh h hl
        induction ds with
        | nil => exact ⟨[], rfl, by simp⟩
        | cons d t ih =>
          obtain ⟨r, e, ro⟩ := q d (by simp)
          obtain ⟨rs, e2, ro2⟩ := ih (fun x hx => q x (by simp [hx]))
          exact ⟨r :: rs, by rw [e, e2]; rfl, fun x hx => by
            rcases List.mem_cons.mp hx with k | k
            · rw [k]; exact ro
            · exact ro2 x k⟩
      obtain ⟨rs, rfl, ro⟩ := this
      obtain ⟨b, e, f⟩ := ascR ro (by simpa using c)
      exact ⟨b, e, fun hb => ⟨rs, rfl, f hb⟩⟩
    · refine ⟨false, ?_, by simp⟩
      obtain ⟨g, hg⟩ : ∃ g : D → Bool, ∀ d ∈ ds, sem_is_report [d] = .ok (.bool (g d)) ∧ (g d = true → ∃ r, d = eR r ∧ RO r) := by
        classical
        refine ⟨fun d => if hd : d ∈ ds then (hh d hd).choose else false, fun d hd => ?_⟩
        simp only [dif_pos hd]
        exact (hh d hd).choose_spec
      have hc : ∀ ρ : En, ρ.length = 5 → compF (GE.name 4) T.yes (E.call sem_is_report (A.cons (E.var 4) (A.nil))) ρ (ds.map id) = .ok (ds.map fun d => .bool (g d)) := by
        intro ρ hρ
        rw [comp_all id (fun d => .bool (g d)) ds (fun d hd => ⟨_, rfl, by
          have := (hg d hd).1
          match ρ, hρ with
          | [x, y, z, w, v], _ => simp [this]⟩)]
      rw [List.map_id] at hc
      have ha := o_allm g ds
      have hf : ds.all g = false := by
        cases qq : ds.all g with
        | false => rfl
        | true => exact absurd (fun d hd => (hg d hd).2 (List.all_eq_true.mp qq d hd)) q
      rw [hf] at ha
      have hit : I.itD (.tuple ds) = .ok ds := rfl
      generalize (ds.length : Int) = n at *
      generalize (ds.map fun d => PyData.bool (g d)) = gg at *
      generalize hD : (.tuple ds : D) = dd at *
      simp [sem_are_reports, h1, hlen, ng, hit, hc, ha]
  · have ng : (10 : Int) < (ds.length : Int) := by omega
    generalize (ds.length : Int) = n at *
    generalize (.tuple ds : D) = dd at *
    exact ⟨false, by simp [sem_are_reports, h1, hlen, ng], by simp⟩
end PV

/-! Q31: parsing reports -/
namespace PV
open PySem PySem.Spec L2 TL
theorem ne_strs (a b : Str) : neD (.str a) (.str b) = some (.bool (!decide (a = b))) := neD_dat (α := Str) (by decide) a b
theorem tupF (ds : List D) : tupleF [.list ds] = some (.tuple ds) := rfl
theorem s_readreps (t : Str) (ht : t.length ≤ 1000) : ∃ ds, sem_read_reports [.str t] = .ok (.tuple ds) ∧ (∀ d ∈ ds, Jr d) ∧ ds.length ≤ 1002 := by
  by_cases c : t = ""
  · subst c
    have : neD (.str "") (.str "") = some (.bool false) := rfl
    exact ⟨[], by simp [sem_read_reports, this], by simp, by simp⟩
  · have h0 := ne_strs t ""
    rw [decide_eq_false c] at h0
    have h1 := o_split t ", " (by decide) (by omega)
    have sh := fun a (h : a ∈ Txt.split t ", ") => PyProof.Rows.part_short h
    have sl := PyProof.Rows.split_le t ", "
    generalize Txt.split t ", " = ws at *
    obtain ⟨g, hg⟩ : ∃ g : Str → D, ∀ n ∈ ws, sem_read_report [.str n] = .ok (g n) ∧ Jr (g n) := by
      refine ⟨fun n => if h : n.length ≤ 1000 then .tuple (readrep_jk n h).choose else .none, fun n hn => ?_⟩
      have hh : n.length ≤ 1000 := by have := sh n hn; omega
      simp only [dif_pos hh]
      exact ⟨(readrep_jk n hh).choose_spec.1, _, rfl, (readrep_jk n hh).choose_spec.2⟩
    refine ⟨ws.map g, ?_, fun d hd => ?_, by rw [List.length_map]; omega⟩
    · have hc : ∀ ρ : En, ρ.length = 2 → compF (GE.name 1) T.yes (E.call sem_read_report (A.cons (E.var 1) (A.nil))) ρ (ws.map .str) = .ok (ws.map g) := by
        intro ρ hρ
        rw [comp_all PyData.str g ws (fun n hn => ⟨_, rfl, by
          have := (hg n hn).1
          match ρ, hρ with
          | [x, y], _ => simp [this]⟩)]
      have htp := tupF (ws.map g)
      generalize ws.map PyData.str = w1 at *
      generalize ws.map g = w2 at *
      simp [sem_read_reports, h0, h1, hc, htp]
    · obtain ⟨n, hn, rfl⟩ := List.mem_map.mp hd
      exact (hg n hn).2
theorem s_parse (t : Str) (ht : t.length ≤ 1000) : sem_parse_reports [.str t] = .exc "ParseError" ∨ ∃ rs, VR rs ∧ jt rs = t ∧ sem_parse_reports [.str t] = .ok (eRs rs) := by
  obtain ⟨ds, e1, hj, hl⟩ := s_readreps t ht
  obtain ⟨b, e2, hb⟩ := s_arerepJ hj (by omega)
  have h1 : isiD "str" (.str t) = some (.bool true) := rfl
  cases b with
  | false =>
    left
    generalize (.tuple ds : D) = dd at *
    simp [sem_parse_reports, h1, e1, e2]
  | true =>
    obtain ⟨rs, rfl, vr⟩ := hb rfl
    have e3 := s_jrep vr
    have h4 := ne_strs (jt rs) t
    have e1 : sem_read_reports [.str t] = .ok (eRs rs) := e1
    have e2 : sem_are_reports [eRs rs] = .ok (.bool true) := e2
    by_cases c : jt rs = t
    · right
      refine ⟨rs, vr, c, ?_⟩
      rw [decide_eq_true c] at h4
      generalize eRs rs = dd at *
      simp [sem_parse_reports, h1, e1, e2, e3, h4]
    · left
      rw [decide_eq_false c] at h4
      generalize eRs rs = dd at *
      simp [sem_parse_reports, h1, e1, e2, e3, h4]
/-! read back -/
theorem join_two (y a b : Str) : Txt.join y [a, b] = a ++ y ++ b := by
  apply ext_tl
  rw [join_eq, tl_join, tl_append, tl_append, List.append_assoc]
  rfl
theorem s_readback1 {r : Rep} (h : RO r) : sem_read_report [.str (rtx r)] = .ok (eR r) := by
  have hn := name_facts h.nam
  have hb1 := Int.le_trans h.bc h.c9
  have hc0 := Int.le_trans h.b0 h.bc
  have db := dig_tS h.b0
  have dc := dig_tS hc0
  have lb := len_tS h.b0 hb1
  have lc := len_tS hc0 h.c9
  have e0 : rtx r = Txt.join " " [r.a, tS r.b ++ ("-" : Str) ++ tS r.c] := by
    rw [join_two]
    apply ext_tl
    rw [tl_rtx]
    simp only [tl_append]
    rw [show tl (" " : Str) = [32] from rfl, show tl ("-" : Str) = [45] from rfl]
    simp only [List.append_assoc]
  have hs := split_join (y := " ") (s := 32) (S := []) rfl (by decide +kernel) (parts := [r.a, tS r.b ++ ("-" : Str) ++ tS r.c]) (by simp) (fun p hp hm => by
    simp only [List.mem_cons, List.not_mem_nil, or_false] at hp
    rcases hp with rfl | rfl
    · have := hn.2 32 hm; omega
    · rw [tl_append, tl_append, show tl ("-" : Str) = [45] from rfl] at hm
      simp only [List.mem_append, List.mem_singleton] at hm
      rcases hm with (hm | hm) | hm
      · have := db 32 hm; omega
      · cases hm
      · have := dc 32 hm; omega)
  rw [← e0] at hs
  have hs2 := split_join (y := "-") (s := 45) (S := []) rfl (by decide +kernel) (parts := [tS r.b, tS r.c]) (by simp) (fun p hp hm => by
    simp only [List.mem_cons, List.not_mem_nil, or_false] at hp
    rcases hp with rfl | rfl
    · have := db 45 hm; omega
    · have := dc 45 hm; omega)
  rw [join_two] at hs2
  have hrl := rtx_len h
  have h1 := o_split (rtx r) " " (by decide) (by rw [len_tl]; omega)
  rw [hs] at h1
  have hll : (tS r.b ++ ("-" : Str) ++ tS r.c).length ≤ 1000000 := by
    rw [len_tl, tl_append, tl_append, List.length_append, List.length_append, show tl ("-" : Str) = [45] from rfl, List.length_singleton]
    omega
  have h2 := o_split (tS r.b ++ ("-" : Str) ++ tS r.c) "-" (by decide) hll
  rw [hs2] at h2
  have n1 : sem_read_number [.str (tS r.b)] = .ok (.int r.b) := by
    rw [s_readnum _ (by rw [len_tl]; omega), if_pos ⟨by rw [len_tl]; omega, db⟩, tl_tS h.b0, numL_val]
    congr 2
    have := h.b0
    omega
  have n2 : sem_read_number [.str (tS r.c)] = .ok (.int r.c) := by
    rw [s_readnum _ (by rw [len_tl]; omega), if_pos ⟨by rw [len_tl]; omega, dc⟩, tl_tS hc0, numL_val]
    congr 2
    omega
  generalize tS r.b ++ ("-" : Str) ++ tS r.c = lastw at *
  generalize tS r.b = w1 at *
  generalize tS r.c = w2 at *
  generalize rtx r = w0 at *
  simp only [List.map_cons, List.map_nil] at h1 h2
  have i1 : ixD (.list [.str r.a, .str lastw]) (.int (-1)) = some (.str lastw) := rfl
  have cu : sliceD (.list [.str r.a, .str lastw]) none (some (-1)) = some (.list [.str r.a]) := rfl
  have ad : addD (.list [.str r.a]) (.list [.int r.b, .int r.c]) = some (.list [.str r.a, .int r.b, .int r.c]) := by rw [o_addl _ _ (by simp)]; rfl
  simp [sem_read_report, h1, i1, h2, cu, compF, n1, n2, ad, tupF]
  rfl
theorem s_readback {rs : List Rep} (h : VR rs) : sem_read_reports [.str (jt rs)] = .ok (eRs rs) := by
  cases rs with
  | nil =>
    have e : jt [] = "" := rfl
    have : neD (.str "") (.str "") = some (.bool false) := rfl
    rw [e]
    simp [sem_read_reports, this]
  | cons r rs =>
    have hne : ((r :: rs).map rtx) ≠ [] := by simp
    have hfree : ∀ p ∈ (r :: rs).map rtx, 44 ∉ tl p := by
      intro p hp hm
      obtain ⟨x, hx, rfl⟩ := List.mem_map.mp hp
      have ro := h.ro x hx
      rw [tl_rtx] at hm
      simp only [List.mem_append, List.mem_singleton] at hm
      rcases hm with (((hm | hm) | hm) | hm) | hm
      · have := (name_facts ro.nam).2 44 hm; omega
      · cases hm
      · have := dig_tS ro.b0 44 hm; omega
      · cases hm
      · have := dig_tS (Int.le_trans ro.b0 ro.bc) 44 hm; omega
    have hs := split_join (y := ", ") (s := 44) (S := [32]) rfl (by decide +kernel) hne hfree
    have hnt : jt (r :: rs) ≠ "" := by
      intro z
      rw [show Txt.join ", " ((r :: rs).map rtx) = "" from z] at hs
      have e1 : Txt.split ("" : Str) (", " : Str) = [("" : Str)] := by decide +kernel
      rw [e1] at hs
      have e2 : rtx r = "" := by
        have := congrArg (fun l : List Str => l.head?) hs
        simpa using this.symm
      have := congrArg tl e2
      rw [tl_rtx] at this
      have := congrArg List.length this
      simp [show tl ("" : Str) = [] from rfl] at this
    have h0 := ne_strs (jt (r :: rs)) ""
    rw [decide_eq_false hnt] at h0
    have hl := jt_len h
    have h1 := o_split (jt (r :: rs)) ", " (by decide) (by rw [len_tl]; omega)
    rw [show Txt.split (jt (r :: rs)) ", " = (r :: rs).map rtx from hs] at h1
    have ro := h.ro
    generalize r :: rs = l at *
    have hc : ∀ ρ : En, ρ.length = 2 → compF (GE.name 1) T.yes (E.call sem_read_report (A.cons (E.var 1) (A.nil))) ρ (l.map fun r => .str (rtx r)) = .ok (l.map eR) := by
      intro ρ hρ
      rw [comp_all (fun r => PyData.str (rtx r)) eR l (fun r hr => ⟨_, rfl, by
        have := s_readback1 (ro r hr)
        match ρ, hρ with
        | [x, y], _ => simp [this]⟩)]
    rw [List.map_map] at h1
    have h1 : splitD (.str (jt l)) (.str ", ") = some (.list (l.map fun r => .str (rtx r))) := h1
    have htp := tupF (l.map eR)
    generalize l.map (fun r => PyData.str (rtx r)) = w1 at *
    generalize jt l = jl at *
    simp [sem_read_reports, h0, h1, hc, htp]
theorem s_parseback {rs : List Rep} (h : VR rs) : sem_parse_reports [.str (jt rs)] = .ok (eRs rs) := by
  have h1 : isiD "str" (.str (jt rs)) = some (.bool true) := rfl
  have e1 := s_readback h
  have e2 := s_arereps h
  have e3 := s_jrep h
  have h4 := ne_strs (jt rs) (jt rs)
  rw [decide_eq_true rfl] at h4
  generalize eRs rs = dd at *
  generalize jt rs = jl at *
  simp [sem_parse_reports, h1, e1, e2, e3, h4]
end PV

/-! k45, first part: what is_log says -/
namespace PV
open PySem PySem.Spec L2
theorem comp_raw {a : D → En → Option En} {f : En → R D} {ρ : En} {ds : List D} (g : D → D) (h : ∀ d ∈ ds, ∃ ρ1, a d ρ = some ρ1 ∧ f ρ1 = .ok (g d)) : compF a T.yes f ρ ds = .ok (ds.map g) := by
  have := comp_all (a := a) (f := f) (ρ := ρ) id g ds h
  rwa [List.map_id] at this
/-- rounds in form -/
structure NL (lg : Lg) : Prop where
  ne : lg ≠ []
  len : lg.length ≤ 6
  mom : ∀ p ∈ lg, 0 ≤ p.1 ∧ p.1 ≤ 999
  rep : ∀ p ∈ lg, VR p.2 ∧ p.2.length ≤ 6
def ascL (lg : Lg) : Bool := (lg.zip (lg.drop 1)).all fun p => decide (p.1.1 < p.2.1)
def srcL : Lg → Bool
  | [] => true
  | p :: r => (p :: r).all fun q => decide (nms q.2 = nms p.2)
theorem s_logNL {lg : Lg} (h : NL lg) : sem_is_log [eLs lg] = .ok (.bool (ascL lg && srcL lg)) := by
  have hp := plain_eL lg
  have hl := h.len
  have hpos : 0 < lg.length := List.length_pos_iff.mpr h.ne
  obtain ⟨p0, r0, e0⟩ : ∃ p r, lg = p :: r := by
    cases lg with
    | nil => exact absurd rfl h.ne
    | cons p r => exact ⟨p, r, rfl⟩
  have hix : atI (lg.map eL) 0 = some (eL p0) := by rw [e0]; simp
  have c1 : (1 : Int) ≤ lg.length := by omega
  have c2 : (lg.length : Int) ≤ 6 := by omega
  simp [sem_is_log, hp, c1, c2]
  rw [comp_all eL (fun _ => .bool true) lg (fun p hp' => ⟨_, rfl, by simp [s_isround (h.mom p hp') (h.rep p hp').1 (h.rep p hp').2]⟩)]
  rw [q_bok, q_bok, q_bok, o_allm (fun _ => true) lg]
  simp [sliceD, cut1]
  have ez : I.z2 [eLs lg, .tuple (lg.map eL).tail] = .ok ((lg.zip (lg.drop 1)).map fun p => .tuple [eL p.1, eL p.2]) := by
    simp only [I.z2, zipL]
    rw [← List.map_tail, List.zipWith_map, List.zip, List.map_zipWith, List.drop_one]
  rw [ez, q_bok, comp_all (fun p : (Int × List Rep) × (Int × List Rep) => .tuple [eL p.1, eL p.2]) (fun p => .bool (decide (p.1.1 < p.2.1))) _ (fun p hp' => ⟨_, rfl, by simp⟩)]
  rw [q_bok, q_bok, q_bok, o_allm]
  have ha : ((lg.zip (lg.drop 1)).all fun p => decide (p.1.1 < p.2.1)) = ascL lg := rfl
  rw [ha]
  cases hasc : ascL lg with
  | false => simp
  | true =>
    simp
    rw [comp_all eL (fun q => .bool (decide (nms q.2 = nms p0.2))) lg (fun p hp' => ⟨_, rfl, by simp [hix, s_sources']⟩)]
    rw [q_bok, q_bok, q_bok, o_allm]
    simp
    rw [e0]
    rfl
theorem s_logbad {lg : Lg} (hn : ∀ p ∈ lg, (0 ≤ p.1 ∧ p.1 ≤ 999) ∧ VR p.2 ∧ p.2.length ≤ 6) (hl : lg.length < 6) {x : D} (px : x.plain = true) (hx : sem_is_round [x] = .ok (.bool false)) : sem_is_log [.tuple (lg.map eL ++ [x])] = .ok (.bool false) := by
  have hp : PyData.plainAll (lg.map eL ++ [x]) = true := by
    have : ∀ l : List D, PyData.plainAll l = true → PyData.plainAll (l ++ [x]) = true := by
      intro l
      induction l with
      | nil => intro _; simp [PyData.plainAll, px]
      | cons y l ih =>
        intro h
        rw [PyData.plainAll, Bool.and_eq_true] at h
        rw [List.cons_append, PyData.plainAll, h.1, ih h.2]; rfl
    exact this _ (plain_eL lg)
  let enc : Option (Int × List Rep) → D := fun o => match o with | some r => eL r | none => x
  have e : lg.map eL ++ [x] = (lg.map some ++ [none]).map enc := by simp [enc]
  have c : ∀ ρ : En, ρ.length = 4 → compF (GE.name 1) T.yes (E.call sem_is_round (A.cons (E.var 1) (A.nil))) ρ (lg.map eL ++ [x]) = .ok ((lg.map some ++ [none]).map fun o : Option (Int × List Rep) => .bool o.isSome) := by
    intro ρ hρ
    rw [e]
    refine comp_all enc (fun o : Option (Int × List Rep) => .bool o.isSome) (lg.map some ++ [none]) (fun o ho => ⟨_, rfl, ?_⟩)
    have g : ∀ d, (ρ.set 1 (some d))[1]? = some (some d) := fun d => by rw [List.getElem?_set_self (by omega)]
    simp only [q_call, q_acons, q_anil, q_var, g, q_bok]
    rcases List.mem_append.mp ho with ho | ho
    · obtain ⟨r, hr, rfl⟩ := List.mem_map.mp ho
      exact s_isround (hn r hr).1 (hn r hr).2.1 (hn r hr).2.2
    · rw [List.mem_singleton] at ho
      subst ho
      exact hx
  have c1 : (1 : Int) ≤ (lg.length : Int) + 1 := by omega
  have c2 : (lg.length : Int) + 1 ≤ 6 := by omega
  simp [sem_is_log, hp, c1, c2]
  rw [c _ rfl, q_bok, q_bok, q_bok, o_allm]
  simp
/-! carried -/
theorem s_isrange {p : Rg} (h : 0 ≤ p.1 ∧ p.1 ≤ p.2 ∧ p.2 ≤ 9999) : sem_is_range [eP p] = .ok (.bool true) := by
  have e1 : isiD "tuple" (eP p) = some (.bool true) := rfl
  have e2 : lenF [eP p] = some (.int 2) := rfl
  have h1 : p.1 ≤ 9999 := by omega
  have h2 : 0 ≤ p.2 := by omega
  simp [sem_is_range, e1, e2, s_istime, h, h1, h2]
theorem s_areranges {l : List Rg} (h : GP l) : sem_are_ranges [ePs l] = .ok (.bool true) := by
  have hp : isiD "list" (ePs l) = some (.bool true) := by
    have := PySem.W.plainAll_map (α := Int × Int) l
    have : PyData.plainAll (l.map eP) = true := this
    simp [isiD, unscr, PyData.plain, this, PyData.isList]
  simp [sem_are_ranges, hp]
  rw [comp_all eP (fun _ => .bool true) l (fun p hp' => ⟨_, rfl, by
    have a1 := cn_mem_le h.1 hp'
    have a2 := Cn.lo h.1 ⟨p, hp', Int.le_refl _, a1⟩
    have a3 := h.2 p.2 ⟨p, hp', a1, Int.le_refl _⟩
    simp [s_isrange ⟨a2, a1, a3⟩]⟩)]
  rw [q_bok, q_bok, q_bok, o_allm (fun _ => true)]
  simp [sliceD, cut1]
  have ez : zipL (l.map eP) (l.map eP).tail = (l.zip (l.drop 1)).map fun p => .tuple [eP p.1, eP p.2] := by
    rw [← List.map_tail, zipL, List.zipWith_map, List.zip, List.map_zipWith, List.drop_one]
  rw [ez, comp_all (fun p : Rg × Rg => .tuple [eP p.1, eP p.2]) (fun _ => .bool true) _ (fun p hp' => ⟨_, rfl, by
    obtain ⟨i, h1, h2⟩ := zip_next l p hp'
    have := cn_next h.1 i _ _ h1 h2
    simp [this]⟩)]
  rw [q_bok, q_bok, q_bok, o_allm (fun _ => true)]
  simp
theorem s_carried {l : List Rg} (h : GP l) {m a b : Int} (hm : 0 ≤ m ∧ m ≤ 999) (h0 : 0 ≤ a) (h1 : a ≤ b) (h2 : b ≤ 9) : sem_carried [ePs l, .int m, eP (a, b)] = .ok (ePs (grow l (a * m) (b * m))) := by
  have m1 := mul9 h0 (by omega) m
  have m2 := mul9 (show 0 ≤ b by omega) h2 m
  simp [sem_carried, s_areranges h, s_ismoment, hm, s_chkpace h0 h1 h2, m1, m2, s_grown l _ _ (Nat.le_trans h.len (by decide))]
end PV

/-! Q32: logs as texts -/
namespace PV
open PySem PySem.Spec L2 TL
/-- a round in form -/
structure PO (p : Int × List Rep) : Prop where
  m0 : 0 ≤ p.1
  m1 : p.1 ≤ 999
  vr : VR p.2
theorem NL.po {lg : Lg} (h : NL lg) : ∀ p ∈ lg, PO p := fun p hp => ⟨(h.mom p hp).1, (h.mom p hp).2, (h.rep p hp).1⟩
def rst (rs : List Rep) : Str := if rs = [] then "" else (" " : Str) ++ jt rs
def lnx (p : Int × List Rep) : Str := tS p.1 ++ (":" : Str) ++ rst p.2
def lin (p : Int × List Rep) : Str := lnx p ++ ("\n" : Str)
def lgt (lg : Lg) : Str := Txt.join "" (lg.map lin)
theorem rst_len {rs : List Rep} (h : VR rs) : (tl (rst rs)).length ≤ 151 := by
  have := jt_len h
  unfold rst
  split
  · exact Nat.zero_le _
  · rw [tl_append, List.length_append, show tl (" " : Str) = [32] from rfl, List.length_singleton]; omega
theorem lnx_len {p : Int × List Rep} (h : PO p) : (tl (lnx p)).length ≤ 156 := by
  have h1 := len_tS h.m0 (by have := h.m1; omega)
  have h2 := rst_len h.vr
  rw [lnx, tl_append, tl_append, List.length_append, List.length_append, show tl (":" : Str) = [58] from rfl, List.length_singleton]
  omega
theorem lin_len {p : Int × List Rep} (h : PO p) : (tl (lin p)).length ≤ 157 := by
  have h1 := lnx_len h
  rw [lin, tl_append, List.length_append, show tl ("\n" : Str) = [10] from rfl, List.length_singleton]
  omega
theorem reps_ne0 (rs : List Rep) : neD (eRs rs) (.tuple []) = some (.bool (!decide (rs = []))) := reps_ne rs []
theorem reps_eq0 (rs : List Rep) : eqD (eRs rs) (.tuple []) = some (.bool (decide (rs = []))) := reps_eq rs []
theorem s_rline {p : Int × List Rep} (h : PO p) : sem_round_line [eL p] = .ok (.str (lin p)) := by
  have hm1 := h.m1
  have h1 := o_str h.m0 (by omega)
  have h2 := len_tS h.m0 (by omega)
  have hj := s_jrep h.vr
  have hjl := jt_len h.vr
  have hne := reps_ne0 p.2
  have l1 : (tl (":" : Str)).length = 1 := rfl
  have l2 : (tl (" " : Str)).length = 1 := rfl
  have l3 : (tl ("\n" : Str)).length = 1 := rfl
  have l4 : (tl ("" : Str)).length = 0 := rfl
  have a1 := o_adds (tS p.1) ":" (by omega)
  have hg : ∀ ρ : SE, G.tup [1, 2] (eL p) ρ = some ((ρ.set 1 (.val (.int p.1))).set 2 (.val (eRs p.2))) := fun ρ => gL ρ p 1 2
  by_cases c : p.2 = []
  · have er : rst p.2 = "" := by rw [rst, if_pos c]
    have a2 := o_adds (tS p.1 ++ (":" : Str)) "" (by rw [tl_append, List.length_append]; omega)
    have a3 := o_adds (tS p.1 ++ (":" : Str) ++ ("" : Str)) "\n" (by rw [tl_append, tl_append, List.length_append, List.length_append]; omega)
    rw [decide_eq_true c] at hne
    rw [lin, lnx, er]
    generalize eRs p.2 = rD at *
    generalize eL p = pD at *
    simp [sem_round_line, hg, h1, a1, hne, a2, a3]
  · have er : rst p.2 = (" " : Str) ++ jt p.2 := by rw [rst, if_neg c]
    have a0 := o_adds " " (jt p.2) (by omega)
    have a2 := o_adds (tS p.1 ++ (":" : Str)) ((" " : Str) ++ jt p.2) (by rw [tl_append, tl_append, List.length_append, List.length_append]; omega)
    have a3 := o_adds (tS p.1 ++ (":" : Str) ++ ((" " : Str) ++ jt p.2)) "\n" (by rw [tl_append, tl_append, tl_append, List.length_append, List.length_append, List.length_append]; omega)
    rw [decide_eq_false c] at hne
    rw [lin, lnx, er]
    generalize eRs p.2 = rD at *
    generalize eL p = pD at *
    simp [sem_round_line, hg, h1, a1, hne, hj, a0, a2, a3]
theorem s_jlog {lg : Lg} (h : ∀ p ∈ lg, PO p) (hl : lg.length ≤ 6) : sem_join_log [eLs lg] = .ok (.str (lgt lg)) := by
  have hc : ∀ ρ : En, ρ.length = 2 → compF (GE.name 1) T.yes (E.call sem_round_line (A.cons (E.var 1) (A.nil))) ρ (lg.map eL) = .ok ((lg.map lin).map .str) := by
    intro ρ hρ
    rw [comp_all eL (fun p => .str (lin p)) lg (fun p hp => ⟨_, rfl, by
      have := s_rline (h p hp)
      match ρ, hρ with
      | [x, y], _ => simp [this]⟩)]
    rw [List.map_map]; rfl
  have hj := o_join "" (lg.map lin) (by
    have h1 := sum_le (fun y : Str => y.length) 157 (lg.map lin) (fun y hy => by
      obtain ⟨r, hr, rfl⟩ := List.mem_map.mp hy
      rw [len_tl]; exact lin_len (h r hr))
    rw [List.length_map] at h1 ⊢
    have e : (("" : Str)).length = 0 := rfl
    rw [e]
    omega)
  generalize (lg.map lin).map PyData.str = ts at *
  simp [sem_join_log, hc, hj, lgt]
theorem joinL_nil : ∀ ps : List (List Nat), joinL [] ps = ps.flatten
  | [] => rfl
  | [p] => by simp [joinL]
  | p :: q :: r => by rw [joinL, joinL_nil (q :: r)]; simp
theorem tl_cat (ps : List Str) : tl (Txt.join "" ps) = (ps.map tl).flatten := by
  rw [join_eq, tl_join]
  exact joinL_nil _
theorem lgt_snoc (lg : Lg) (p : Int × List Rep) : lgt (lg ++ [p]) = lgt lg ++ lin p := by
  apply ext_tl
  rw [lgt, tl_cat, tl_append, lgt, tl_cat]
  simp
theorem lgt_len {lg : Lg} (h : ∀ p ∈ lg, PO p) (hl : lg.length ≤ 6) : (tl (lgt lg)).length ≤ 942 := by
  have := join_len "" 157 (lg.map lin) (fun p hp => by
    obtain ⟨r, hr, rfl⟩ := List.mem_map.mp hp
    exact lin_len (h r hr))
  rw [List.length_map, show (tl ("" : Str)).length = 0 from rfl] at this
  rw [lgt]
  omega
theorem s_llines {lg : Lg} (h : ∀ p ∈ lg, PO p) (hl : lg.length ≤ 6) : sem__law_lines [eLs lg] = .ok (.str (lgt lg)) := by
  simp only [sem__law_lines, q_fn1]
  refine sat_run ?_
  refine sat_seq (ρ' := [.val (eLs lg), .val (.str ""), .un, .un]) (by simp) ?_
  refine sat_for (ds := lg.map eL) (by simp) ?_
  refine sat_loop eL (fun pre ρ => ∃ u2 u3, ρ = [.val (eLs lg), .val (.str (lgt pre)), u2, u3]) lg rfl ⟨_, _, rfl⟩ ?_ ?_
  · rintro pre p q ρ e ⟨u2, u3, rfl⟩
    refine ⟨_, rfl, ?_⟩
    have po : PO p := h p (by rw [e]; simp)
    have hpre : ∀ x ∈ pre, PO x := fun x hx => h x (by rw [e]; simp [hx])
    have hpl := lgt_len hpre (by have : pre.length ≤ lg.length := by rw [e]; simp
                                 omega)
    have hm1 := po.m1
    have h1 := o_str po.m0 (by omega)
    have h2 := len_tS po.m0 (by omega)
    have hj := s_ltext po.vr
    have hjl := jt_len po.vr
    have hne := reps_eq0 p.2
    have l1 : (tl (":" : Str)).length = 1 := rfl
    have l2 : (tl (" " : Str)).length = 1 := rfl
    have l3 : (tl ("\n" : Str)).length = 1 := rfl
    have l4 : (tl ("" : Str)).length = 0 := rfl
    have hls := lgt_snoc pre p
    generalize lgt (pre ++ [p]) = nx at *
    generalize lgt pre = lp at *
    have a1 := o_adds lp (tS p.1) (by omega)
    have a2 := o_adds (lp ++ tS p.1) ":" (by rw [tl_append, List.length_append]; omega)
    by_cases c : p.2 = []
    · have er : rst p.2 = "" := by rw [rst, if_pos c]
      have a3 := o_adds (lp ++ tS p.1 ++ (":" : Str)) "" (by rw [tl_append, tl_append, List.length_append, List.length_append]; omega)
      have a4 := o_adds (lp ++ tS p.1 ++ (":" : Str) ++ ("" : Str)) "\n" (by rw [tl_append, tl_append, tl_append, List.length_append, List.length_append, List.length_append]; omega)
      rw [decide_eq_true c] at hne
      have fin : lp ++ tS p.1 ++ (":" : Str) ++ ("" : Str) ++ ("\n" : Str) = nx := by
        rw [hls, lin, lnx, er]
        apply ext_tl
        simp only [tl_append, List.append_assoc]
      rw [fin] at a4
      generalize eRs p.2 = rD at *
      generalize eLs lg = lD at *
      simp [h1, a1, a2, hne, a3, a4]
      exact sat_nx ⟨_, _, rfl⟩
    · have er : rst p.2 = (" " : Str) ++ jt p.2 := by rw [rst, if_neg c]
      have a0 := o_adds " " (jt p.2) (by omega)
      have a3 := o_adds (lp ++ tS p.1 ++ (":" : Str)) ((" " : Str) ++ jt p.2) (by simp only [tl_append, List.length_append]; omega)
      have a4 := o_adds (lp ++ tS p.1 ++ (":" : Str) ++ ((" " : Str) ++ jt p.2)) "\n" (by simp only [tl_append, List.length_append]; omega)
      rw [decide_eq_false c] at hne
      have fin : lp ++ tS p.1 ++ (":" : Str) ++ ((" " : Str) ++ jt p.2) ++ ("\n" : Str) = nx := by
        rw [hls, lin, lnx, er]
        apply ext_tl
        simp only [tl_append, List.append_assoc]
      rw [fin] at a4
      generalize eRs p.2 = rD at *
      generalize eLs lg = lD at *
      simp [h1, a1, a2, hne, hj, a0, a3, a4]
      exact sat_nx ⟨_, _, rfl⟩
  · rintro ρ' ⟨u2, u3, rfl⟩
    simp [Sat]
end PV

/-! Q33: parsing logs -/
namespace PV
open PySem PySem.Spec L2 TL
def Jl (d : D) : Prop := ∃ m ds, d = .tuple [m, .tuple ds] ∧ Jk m ∧ (∀ x ∈ ds, Jr x) ∧ ds.length ≤ 100000
theorem o_cuts (z : Str) (lo hi : Option Int) (h : z.length ≤ 16777216) : sliceD (.str z) lo hi = some (.str (cutS z lo hi)) := by
  simp only [sliceD]; rw [if_pos h]
theorem tl_cut1 (z : Str) : tl (cutS z (some 1) none) = (tl z).drop 1 := by
  have e : z.length = (tl z).length := len_tl z
  have : tl (cutS z (some 1) none) = (((tl z).drop (HT.sIx z.length 0 (some 1))).take (HT.sIx z.length z.length none - HT.sIx z.length 0 (some 1))) := by
    simp [tl, cutS]
  rw [this]
  have e1 : HT.sIx z.length 0 (some 1) = min 1 z.length := by
    simp only [HT.sIx]
    rw [if_neg (by decide)]
    rfl
  have e2 : HT.sIx z.length z.length none = z.length := rfl
  rw [e1, e2, e]
  rcases Nat.eq_zero_or_pos (tl z).length with c | c
  · rw [List.length_eq_zero_iff.mp c]; rfl
  · rw [Nat.min_eq_left (by omega), List.take_of_length_le (by simp)]
theorem s_readround (t : Str) (ht : t.length ≤ 950) : ∃ d, sem_read_round [.str t] = .ok d ∧ Jl d := by
  have h1 := o_split t ":" (by decide) (by omega)
  have p1 := PyProof.Rows.split_pos t ":"
  have sh := fun a (h : a ∈ Txt.split t ":") => PyProof.Rows.part_short h
  have wt := PyProof.Rows.split_weight t ":" (by decide)
  generalize Txt.split t ":" = ws at *
  obtain ⟨w, r, rfl⟩ : ∃ w r, ws = w :: r := by
    cases ws with
    | nil => simp at p1
    | cons w r => exact ⟨w, r, rfl⟩
  have hw := sh w (by simp)
  obtain ⟨m, em, jm⟩ := readnum_jk w (by omega)
  have wt' : (r.map (·.length)).sum + r.length ≤ 951 := by
    simp only [List.map_cons, List.sum_cons, List.length_cons] at wt
    omega
  have l1 : ((":" : Str)).length = 1 := rfl
  have hj := o_join ":" r (by rw [l1]; omega)
  have hjl : (Txt.join ":" r).length ≤ 1000 := by
    rw [len_tl, join_eq, tl_join]
    have key : ∀ ps : List Str, (joinL (tl (":" : Str)) (ps.map tl)).length ≤ (ps.map (·.length)).sum + ps.length := by
      intro ps
      induction ps with
      | nil => simp [joinL]
      | cons p q ih =>
        cases q with
        | nil => simp only [List.map_cons, List.map_nil, joinL, List.sum_cons, List.sum_nil, List.length_cons, List.length_nil]; rw [len_tl]; omega
        | cons q r =>
          simp only [List.map_cons, List.sum_cons, List.length_cons] at ih ⊢
          rw [joinL, List.length_append, List.length_append, len_tl p, show (tl (":" : Str)).length = 1 from rfl]
          omega
    have := key r
    omega
  have hcl : (cutS (Txt.join ":" r) (some 1) none).length ≤ 1000 := by
    have : (cutS (Txt.join ":" r) (some 1) none).length = (tl (cutS (Txt.join ":" r) (some 1) none)).length := len_tl _
    rw [this, tl_cut1, List.length_drop, ← len_tl]
    omega
  have hcut := o_cuts (Txt.join ":" r) (some 1) none (by omega)
  obtain ⟨ds, e1, hd, hdl⟩ := s_readreps _ hcl
  have i0 : ixD (.list ((w :: r).map .str)) (.int 0) = some (.str w) := by
    show atI ((w :: r).map PyData.str) 0 = _
    exact atI_some (by decide) rfl
  have cu : sliceD (.list ((w :: r).map .str)) (some 1) none = some (.list (r.map .str)) := by
    simp only [sliceD]
    rw [show (1 : Int) = ((1 : Nat) : Int) from rfl, cut_drop _ (by simp)]
    rfl
  refine ⟨.tuple [m, .tuple ds], ?_, m, ds, rfl, jm, hd, by omega⟩
  generalize (w :: r).map PyData.str = ww at *
  generalize r.map PyData.str = rr at *
  generalize (.tuple ds : D) = dd at *
  generalize Txt.join ":" r = jj at *
  simp [sem_read_round, h1, i0, em, cu, hj, hcut, e1]
theorem Jr.plain {d : D} (h : Jr d) : d.plain = true := by
  obtain ⟨xs, rfl, hx⟩ := h
  simpa only [PyData.plain] using jk_plain hx
theorem Jl.plain {d : D} (h : Jl d) : d.plain = true := by
  obtain ⟨m, ds, rfl, jm, jd, _⟩ := h
  have h1 := jr_plain jd
  simp [PyData.plain, PyData.plainAll, jm.plain, h1]
theorem jl_plain : ∀ {ds : List D}, (∀ d ∈ ds, Jl d) → PyData.plainAll ds = true
  | [], _ => rfl
  | d :: r, h => by
    have h1 := (h d (by simp)).plain
    have h2 := jl_plain (ds := r) (fun x hx => h x (by simp [hx]))
    simp only [PyData.plainAll, h1, h2, Bool.and_self]
theorem jk_moment {d : D} (h : Jk d) : ∃ b, sem_is_moment [d] = .ok (.bool b) ∧ (b = true → ∃ i, d = .int i ∧ 0 ≤ i ∧ i ≤ 999) := by
  cases h with
  | str s hs =>
    have : isiD "int" (.str s) = some (.bool false) := rfl
    exact ⟨false, by simp [sem_is_moment, sem_is_integer, this], by simp⟩
  | int i => exact ⟨_, s_ismoment i, fun hb => ⟨i, rfl, of_decide_eq_true hb⟩⟩
  | non =>
    have : isiD "int" (.none : D) = some (.bool false) := rfl
    exact ⟨false, by simp [sem_is_moment, sem_is_integer, this], by simp⟩
theorem s_isroundJ {d : D} (h : Jl d) : ∃ b, sem_is_round [d] = .ok (.bool b) ∧ (b = true → ∃ p, d = eL p ∧ PO p ∧ p.2.length ≤ 6) := by
  have hpl := h.plain
  obtain ⟨m, ds, rfl, jm, jd, hl⟩ := h
  obtain ⟨b1, e1, f1⟩ := jk_moment jm
  obtain ⟨b2, e2, f2⟩ := s_arerepJ jd hl
  have h1 : isiD "tuple" (.tuple [m, .tuple ds]) = some (.bool true) := isi_tup _ (by simpa only [PyData.plain] using hpl)
  have h2 : lenF [.tuple [m, .tuple ds]] = some (.int 2) := rfl
  have i0 : ixD (.tuple [m, .tuple ds]) (.int 0) = some m := rfl
  have i1 : ixD (.tuple [m, .tuple ds]) (.int 1) = some (.tuple ds) := rfl
  have h3 : lenF [.tuple ds] = some (.int (ds.length : Int)) := rfl
  have fin : b1 = true → b2 = true → (ds.length : Int) ≤ 6 → ∃ p, (.tuple [m, .tuple ds] : D) = eL p ∧ PO p ∧ p.2.length ≤ 6 := by
    intro g1 g2 g3
    obtain ⟨i, rfl, k0, k1⟩ := f1 g1
    obtain ⟨rs, rfl, vr⟩ := f2 g2
    exact ⟨(i, rs), rfl, ⟨k0, k1, vr⟩, by rw [List.length_map] at g3; show rs.length ≤ 6; omega⟩
  generalize (.tuple [m, .tuple ds] : D) = t at *
  generalize (.tuple ds : D) = dd at *
  cases b1 with
  | false => exact ⟨false, by simp [sem_is_round, h1, h2, i0, e1], by simp⟩
  | true =>
    cases b2 with
    | false => exact ⟨false, by simp [sem_is_round, h1, h2, i0, i1, e1, e2], by simp⟩
    | true =>
      refine ⟨decide ((ds.length : Int) ≤ 6), by simp [sem_is_round, h1, h2, i0, i1, e1, e2, h3], fun hb => fin rfl rfl (of_decide_eq_true hb)⟩
theorem s_islogJ {ds : List D} (h : ∀ d ∈ ds, Jl d) : ∃ b, sem_is_log [.tuple ds] = .ok (.bool b) ∧ (b = true → ∃ lg, ds = lg.map eL ∧ NL lg) := by
  have h1 : isiD "tuple" (.tuple ds) = some (.bool true) := isi_tup ds (jl_plain h)
  have hlen : lenF [.tuple ds] = some (.int (ds.length : Int)) := rfl
  by_cases c1 : 1 ≤ ds.length
  · by_cases c2 : ds.length ≤ 6
    · have hh : ∀ d ∈ ds, ∃ b, sem_is_round [d] = .ok (.bool b) ∧ (b = true → ∃ p, d = eL p ∧ PO p ∧ p.2.length ≤ 6) := fun d hd => s_isroundJ (h d hd)
      by_cases q : ∀ d ∈ ds, ∃ p, d = eL p ∧ PO p ∧ p.2.length ≤ 6
      · have : ∃ lg : Lg, ds = lg.map eL ∧ ∀ p ∈ lg, PO p ∧ p.2.length ≤ 6 := by
          clear h1 hlen c1 c2 hh h
          induction ds with
          | nil => exact ⟨[], rfl, by simp⟩
          | cons d t ih =>
            obtain ⟨r, e, ro⟩ := q d (by simp)
            obtain ⟨rs, e2, ro2⟩ := ih (fun x hx => q x (by simp [hx]))
            exact ⟨r :: rs, by rw [e, e2]; rfl, fun x hx => by
              rcases List.mem_cons.mp hx with k | k
              · rw [k]; exact ro
              · exact ro2 x k⟩
        obtain ⟨lg, rfl, ro⟩ := this
        have nl : NL lg := ⟨fun z => by rw [z] at c1; simp at c1, by simpa using c2, fun p hp => ⟨(ro p hp).1.m0, (ro p hp).1.m1⟩, fun p hp => ⟨(ro p hp).1.vr, (ro p hp).2⟩⟩
        exact ⟨_, s_logNL nl, fun _ => ⟨lg, rfl, nl⟩⟩
      · refine ⟨false, ?_, by simp⟩
        obtain ⟨g, hg⟩ : ∃ g : D → Bool, ∀ d ∈ ds, sem_is_round [d] = .ok (.bool (g d)) ∧ (g d = true → ∃ p, d = eL p ∧ PO p ∧ p.2.length ≤ 6) := by
          classical
          refine ⟨fun d => if hd : d ∈ ds then (hh d hd).choose else false, fun d hd => ?_⟩
          simp only [dif_pos hd]
          exact (hh d hd).choose_spec
        have hc : ∀ ρ : En, ρ.length = 4 → compF (GE.name 1) T.yes (E.call sem_is_round (A.cons (E.var 1) (A.nil))) ρ (ds.map id) = .ok (ds.map fun d => .bool (g d)) := by
          intro ρ hρ
          rw [comp_all id (fun d => .bool (g d)) ds (fun d hd => ⟨_, rfl, by
            have := (hg d hd).1
            match ρ, hρ with
            | [x, y, z, w], _ => simp [this]⟩)]
        rw [List.map_id] at hc
        have ha := o_allm g ds
        have hf : ds.all g = false := by
          cases qq : ds.all g with
          | false => rfl
          | true => exact absurd (fun d hd => (hg d hd).2 (List.all_eq_true.mp qq d hd)) q
        rw [hf] at ha
        have hit : I.itD (.tuple ds) = .ok ds := rfl
        have c1' : (1 : Int) ≤ (ds.length : Int) := by omega
        have c2' : (ds.length : Int) ≤ 6 := by omega
        generalize (ds.length : Int) = n at *
        generalize (ds.map fun d => PyData.bool (g d)) = gg at *
        generalize hD : (.tuple ds : D) = dd at *
        simp [sem_is_log, h1, hlen, c1', c2', hit, hc, ha]
    · have c1' : (1 : Int) ≤ (ds.length : Int) := by omega
      have c2' : ¬ (ds.length : Int) ≤ 6 := by omega
      generalize (ds.length : Int) = n at *
      generalize (.tuple ds : D) = dd at *
      exact ⟨false, by simp [sem_is_log, h1, hlen, c1', c2'], by simp⟩
  · have c1' : ¬ (1 : Int) ≤ (ds.length : Int) := by omega
    generalize (ds.length : Int) = n at *
    generalize (.tuple ds : D) = dd at *
    exact ⟨false, by simp [sem_is_log, h1, hlen, c1'], by simp⟩
theorem cut_m1 {α : Type} (xs : List α) : cutL xs none (some (-1)) = xs.take (xs.length - 1) := by
  simp only [cutL, HT.sIx]
  rw [if_pos (by decide)]
  simp
  congr 1
  omega
theorem s_parselog (t : Str) (ht : t.length ≤ 950) : sem_parse_log [.str t] = .exc "ParseError" ∨ ∃ lg, NL lg ∧ lgt lg = t ∧ sem_parse_log [.str t] = .ok (eLs lg) := by
  have h0 : isiD "str" (.str t) = some (.bool true) := rfl
  have h1 := o_split t "\n" (by decide) (by omega)
  have sh := fun a (h : a ∈ Txt.split t "\n") => PyProof.Rows.part_short h
  generalize Txt.split t "\n" = ws at *
  have cu : sliceD (.list (ws.map .str)) none (some (-1)) = some (.list ((ws.take (ws.length - 1)).map .str)) := by
    simp only [sliceD]
    rw [cut_m1, List.length_map, List.map_take]
  obtain ⟨vs, hvs⟩ : ∃ vs, ws.take (ws.length - 1) = vs := ⟨_, rfl⟩
  have shv : ∀ a ∈ vs, a.length ≤ 950 := fun a ha => by
    rw [← hvs] at ha
    have := sh a (List.mem_of_mem_take ha)
    omega
  rw [hvs] at cu
  obtain ⟨g, hg⟩ : ∃ g : Str → D, ∀ n ∈ vs, sem_read_round [.str n] = .ok (g n) ∧ Jl (g n) := by
    refine ⟨fun n => if h : n.length ≤ 950 then (s_readround n h).choose else .none, fun n hn => ?_⟩
    have hh := shv n hn
    simp only [dif_pos hh]
    exact (s_readround n hh).choose_spec
  have hc : ∀ ρ : En, ρ.length = 3 → compF (GE.name 2) T.yes (E.call sem_read_round (A.cons (E.var 2) (A.nil))) ρ (vs.map .str) = .ok (vs.map g) := by
    intro ρ hρ
    rw [comp_all PyData.str g vs (fun n hn => ⟨_, rfl, by
      have := (hg n hn).1
      match ρ, hρ with
      | [x, y, z], _ => simp [this]⟩)]
  have jl : ∀ d ∈ vs.map g, Jl d := fun d hd => by
    obtain ⟨n, hn, rfl⟩ := List.mem_map.mp hd
    exact (hg n hn).2
  obtain ⟨b, eb, fb⟩ := s_islogJ jl
  have htp := tupF (vs.map g)
  generalize ws.map PyData.str = w1 at *
  generalize vs.map PyData.str = w2 at *
  cases b with
  | false =>
    left
    generalize (.tuple (vs.map g) : D) = dd at *
    generalize vs.map g = w3 at *
    simp [sem_parse_log, h0, h1, cu, hc, htp, eb]
  | true =>
    obtain ⟨lg, e, nl⟩ := fb rfl
    rw [e] at htp hc eb
    have e3 := s_jlog nl.po nl.len
    have h4 := ne_strs (lgt lg) t
    have htp2 : tupleF [.list (lg.map eL)] = some (eLs lg) := htp
    have eb2 : sem_is_log [eLs lg] = .ok (.bool true) := eb
    clear htp eb fb
    by_cases c : lgt lg = t
    · right
      refine ⟨lg, nl, c, ?_⟩
      rw [decide_eq_true c] at h4
      generalize eLs lg = dd at *
      generalize lg.map eL = w3 at *
      simp [sem_parse_log, h0, h1, cu, hc, htp2, eb2, e3, h4]
    · left
      rw [decide_eq_false c] at h4
      generalize eLs lg = dd at *
      generalize lg.map eL = w3 at *
      simp [sem_parse_log, h0, h1, cu, hc, htp2, eb2, e3, h4]
end PV

/-! Q34: a log read back; _law_again -/
namespace PV
open PySem PySem.Spec L2 TL
theorem mem_joinL {S : List Nat} {c : Nat} : ∀ {ps : List (List Nat)}, c ∈ joinL S ps → c ∈ S ∨ ∃ p ∈ ps, c ∈ p
  | [], h => by cases h
  | [p], h => Or.inr ⟨p, by simp, h⟩
  | p :: q :: r, h => by
    rw [joinL, List.mem_append, List.mem_append] at h
    rcases h with h | h | h
    · exact Or.inr ⟨p, by simp, h⟩
    · exact Or.inl h
    · rcases mem_joinL h with k | ⟨x, hx, hc⟩
      · exact Or.inl k
      · exact Or.inr ⟨x, List.mem_cons_of_mem _ hx, hc⟩
theorem rtx_chr {r : Rep} (h : RO r) : ∀ c ∈ tl (rtx r), c = 32 ∨ c = 45 ∨ (48 ≤ c ∧ c ≤ 57) ∨ (97 ≤ c ∧ c ≤ 122) := by
  intro c hm
  rw [tl_rtx] at hm
  simp only [List.mem_append, List.mem_singleton] at hm
  rcases hm with (((hm | hm) | hm) | hm) | hm
  · have := (name_facts h.nam).2 c hm; omega
  · omega
  · have := dig_tS h.b0 c hm; omega
  · omega
  · have := dig_tS (Int.le_trans h.b0 h.bc) c hm; omega
theorem jt_chr {rs : List Rep} (h : VR rs) : ∀ c ∈ tl (jt rs), c = 44 ∨ c = 32 ∨ c = 45 ∨ (48 ≤ c ∧ c ≤ 57) ∨ (97 ≤ c ∧ c ≤ 122) := by
  intro c hm
  rw [jt, join_eq, tl_join] at hm
  rcases mem_joinL hm with k | ⟨p, hp, hc⟩
  · rw [show tl (", " : Str) = [44, 32] from rfl] at k
    simp at k; omega
  · obtain ⟨z, hz, rfl⟩ := List.mem_map.mp hp
    obtain ⟨r, hr, rfl⟩ := List.mem_map.mp hz
    have := rtx_chr (h.ro r hr) c hc
    omega
theorem rst_chr {rs : List Rep} (h : VR rs) : ∀ c ∈ tl (rst rs), c ≠ 58 ∧ c ≠ 10 := by
  intro c hm
  unfold rst at hm
  split at hm
  · rw [show tl ("" : Str) = [] from rfl] at hm; cases hm
  · rw [tl_append, show tl (" " : Str) = [32] from rfl] at hm
    rcases List.mem_append.mp hm with k | k
    · rw [List.mem_singleton] at k; omega
    · have := jt_chr h c k; omega
theorem s_roundback {p : Int × List Rep} (h : PO p) : sem_read_round [.str (lnx p)] = .ok (eL p) := by
  have hm1 := h.m1
  have dg := dig_tS h.m0
  have lg := len_tS h.m0 (show p.1 ≤ 9999 by omega)
  have rc := rst_chr h.vr
  have e0 : lnx p = Txt.join ":" [tS p.1, rst p.2] := by rw [join_two, lnx]
  have hs := split_join (y := ":") (s := 58) (S := []) rfl (by decide +kernel) (parts := [tS p.1, rst p.2]) (by simp) (fun q hq hm => by
    simp only [List.mem_cons, List.not_mem_nil, or_false] at hq
    rcases hq with rfl | rfl
    · have := dg 58 hm; omega
    · exact (rc 58 hm).1 rfl)
  rw [← e0] at hs
  have hll := lnx_len h
  have hrl := rst_len h.vr
  have h1 := o_split (lnx p) ":" (by decide) (by rw [len_tl]; omega)
  rw [hs] at h1
  have n1 : sem_read_number [.str (tS p.1)] = .ok (.int p.1) := by
    rw [s_readnum _ (by rw [len_tl]; omega), if_pos ⟨by rw [len_tl]; omega, dg⟩, tl_tS h.m0, numL_val]
    congr 2
    have := h.m0
    omega
  have hj := o_join ":" [rst p.2] (by
    simp only [List.map_cons, List.map_nil, List.sum_cons, List.sum_nil, List.length_cons, List.length_nil]
    rw [len_tl, show ((":" : Str)).length = 1 from rfl]
    omega)
  have ej : Txt.join ":" [rst p.2] = rst p.2 := by
    apply ext_tl
    rw [join_eq, tl_join]; rfl
  rw [ej] at hj
  have hcut := o_cuts (rst p.2) (some 1) none (by rw [len_tl]; omega)
  have ec : cutS (rst p.2) (some 1) none = jt p.2 := by
    apply ext_tl
    rw [tl_cut1]
    unfold rst
    split
    · next c => rw [c]; rfl
    · rw [tl_append]; rfl
  rw [ec] at hcut
  have rb := s_readback h.vr
  have eE : eL p = .tuple [.int p.1, eRs p.2] := rfl
  rw [eE]
  generalize eRs p.2 = rD at *
  generalize lnx p = w0 at *
  generalize tS p.1 = w1 at *
  generalize rst p.2 = w2 at *
  generalize jt p.2 = w3 at *
  simp only [List.map_cons, List.map_nil] at h1 hj
  have i0 : ixD (.list [.str w1, .str w2]) (.int 0) = some (.str w1) := rfl
  have cu : sliceD (.list [.str w1, .str w2]) (some 1) none = some (.list [.str w2]) := rfl
  simp [sem_read_round, h1, i0, n1, cu, hj, hcut, rb]
theorem joinL_snoc_nil (S : List Nat) : ∀ ps : List (List Nat), joinL S (ps ++ [[]]) = (ps.map (· ++ S)).flatten
  | [] => rfl
  | [p] => by simp [joinL]
  | p :: q :: r => by
    have ih := joinL_snoc_nil S (q :: r)
    rw [List.cons_append] at ih
    rw [List.cons_append, List.cons_append, joinL, ih]
    simp
theorem lgt_join (lg : Lg) : lgt lg = Txt.join "\n" (lg.map lnx ++ [("" : Str)]) := by
  apply ext_tl
  rw [lgt, tl_cat, join_eq, tl_join, List.map_append, List.map_cons, List.map_nil, show tl ("" : Str) = [] from rfl, joinL_snoc_nil, List.map_map, List.map_map, List.map_map]
  congr 1
  apply List.map_congr_left
  intro p _
  simp only [Function.comp, lin, tl_append]
theorem s_logback {lg : Lg} (h : NL lg) (hlog : sem_is_log [eLs lg] = .ok (.bool true)) : sem_parse_log [.str (lgt lg)] = .ok (eLs lg) := by
  have h0 : isiD "str" (.str (lgt lg)) = some (.bool true) := rfl
  have hll := lgt_len h.po h.len
  have h1 := o_split (lgt lg) "\n" (by decide) (by rw [len_tl]; omega)
  have hs := split_join (y := "\n") (s := 10) (S := []) rfl (by decide +kernel) (parts := lg.map lnx ++ [("" : Str)]) (by simp) (fun q hq hm => by
    rcases List.mem_append.mp hq with k | k
    · obtain ⟨p, hp, rfl⟩ := List.mem_map.mp k
      have po := h.po p hp
      rw [lnx, tl_append, tl_append, show tl (":" : Str) = [58] from rfl] at hm
      simp only [List.mem_append, List.mem_singleton] at hm
      rcases hm with (hm | hm) | hm
      · have := dig_tS po.m0 10 hm; omega
      · cases hm
      · exact (rst_chr po.vr 10 hm).2 rfl
    · rw [List.mem_singleton] at k
      rw [k, show tl ("" : Str) = [] from rfl] at hm
      cases hm)
  rw [← lgt_join] at hs
  rw [hs] at h1
  have cu : sliceD (.list ((lg.map lnx ++ [("" : Str)]).map .str)) none (some (-1)) = some (.list (lg.map fun p => .str (lnx p))) := by
    simp only [sliceD]
    rw [cut_m1, List.length_map, List.length_append, List.length_singleton, Nat.add_sub_cancel, List.map_append, List.take_append_of_le_length (by simp), List.take_of_length_le (by simp), List.map_map]
    rfl
  have hc : ∀ ρ : En, ρ.length = 3 → compF (GE.name 2) T.yes (E.call sem_read_round (A.cons (E.var 2) (A.nil))) ρ (lg.map fun p => .str (lnx p)) = .ok (lg.map eL) := by
    intro ρ hρ
    rw [comp_all (fun p => PyData.str (lnx p)) eL lg (fun n hn => ⟨_, rfl, by
      have := s_roundback (h.po n hn)
      match ρ, hρ with
      | [x, y, z], _ => simp [this]⟩)]
  have htp : tupleF [.list (lg.map eL)] = some (eLs lg) := rfl
  have e3 := s_jlog h.po h.len
  have h4 := ne_strs (lgt lg) (lgt lg)
  rw [decide_eq_true rfl] at h4
  generalize (lg.map lnx ++ [("" : Str)]).map PyData.str = w1 at *
  generalize lg.map (fun p => PyData.str (lnx p)) = w2 at *
  generalize eLs lg = dd at *
  generalize lg.map eL = w3 at *
  generalize lgt lg = tt at *
  simp [sem_parse_log, h0, h1, cu, hc, htp, hlog, e3, h4]
theorem s_fmtlog {lg : Lg} (h : NL lg) (hlog : sem_is_log [eLs lg] = .ok (.bool true)) : sem_format_log [eLs lg] = .ok (.str (lgt lg)) := by
  have e3 := s_jlog h.po h.len
  generalize eLs lg = dd at *
  simp [sem_format_log, hlog, e3]
/-! again -/
abbrev cs67 : List Str := ["InvalidReports", "InvalidLog", "ParseError"]
theorem again_exc {w t : D} (hb : tb__law_again [.val w, .val t, .un] = .exc "ParseError" [.val w, .val t, .un]) : sem__law_again [w, t] = .ok .none := by
  have hs : ts__law_again [.val w, .val t, .val (exD "ParseError")] = .rt .none := by rfl
  have hm : ("ParseError" : Str) ∈ (["InvalidReports", "InvalidLog", "ParseError"] : List Str) := by simp
  simp only [sem__law_again, q_fn2, q_repS, q_rep0, q_tryE, hb, if_pos hm]
  simp [hs, O.gone]
theorem again_ok {w t v : D} (hb : tb__law_again [.val w, .val t, .un] = .rt v) : sem__law_again [w, t] = .ok v := by
  simp only [sem__law_again, q_fn2, q_repS, q_rep0, q_tryE, hb]
  rfl
theorem s_again0 (t : Str) (ht : t.length ≤ 950) : sem__law_again [.int 0, .str t] = .ok .none ∨ sem__law_again [.int 0, .str t] = .ok (.str t) := by
  rcases s_parse t (by omega) with e | ⟨rs, vr, e1, e2⟩
  · exact Or.inl (again_exc (by simp [tb__law_again, e]))
  · right
    have e3 := s_ltext vr
    rw [e1] at e3
    generalize eRs rs = rD at *
    exact again_ok (by simp [tb__law_again, e2, e3])
theorem s_again1 (t : Str) (ht : t.length ≤ 950) : sem__law_again [.int 1, .str t] = .ok .none ∨ sem__law_again [.int 1, .str t] = .ok (.str t) := by
  rcases s_parselog t ht with e | ⟨lg, nl, e1, e2⟩
  · exact Or.inl (again_exc (by simp [tb__law_again, e]))
  · right
    have e3 := s_llines nl.po nl.len
    rw [e1] at e3
    generalize eLs lg = rD at *
    exact again_ok (by simp [tb__law_again, e2, e3])
end PV

namespace PV
open PySem PySem.Spec L2 TL
theorem rej67 : sem__law_rejected_2 [] = .ok (.bool true) := by kernel_rfl
theorem odd67 : ∀ d ∈ ([.none, .list [], .str "a", .tuple [.tuple [.str "a", .int 2, .int 1]], .tuple [.tuple [.str "b", .int 1, .int 2], .tuple [.str "a", .int 1, .int 2]], .tuple [.tuple [.str "a", .int 1]]] : List D), sem__law_error_3 [.int 0, d] = .ok (.int 0) ∧ sem__law_error_3 [.int 1, d] = .ok (.int 1) := by
  intro d hd
  simp only [List.mem_cons, List.not_mem_nil, or_false] at hd
  rcases hd with rfl | rfl | rfl | rfl | rfl | rfl <;> exact ⟨by kernel_rfl, by kernel_rfl⟩
theorem oddA : sem__law_error_3 [.int 1, .tuple []] = .ok (.int 1) := by kernel_rfl
theorem oddB : sem__law_error_3 [.int 1, .tuple [.tuple [.int 1, .tuple []], .tuple [.int 0, .tuple []]]] = .ok (.int 1) := by kernel_rfl
theorem pick_lst' {ds : List D} {w : Int} (h0 : 0 ≤ w) (h1 : w < ds.length) {P : D → Prop} (h : ∀ d ∈ ds, P d) : ∃ d, atI ds w = some d ∧ P d := by
  have hw : w.toNat < ds.length := by omega
  exact ⟨ds[w.toNat], atI_some h0 (List.getElem?_eq_getElem hw), h _ (List.getElem_mem hw)⟩
theorem nin_two (t : Str) : notInD .none (.tuple [.none, .str t]) = some (.bool false) ∧ notInD (.str t) (.tuple [.none, .str t]) = some (.bool false) := by
  constructor
  · rfl
  · have h2 : PyData.eqv (.str t) (.str t) = true := by simp [PyData.eqv]
    have h3 : PyData.eqv .none (.str t) = false := rfl
    have hp : PyData.plainAll [PyData.none, .str t] = true := rfl
    have hp2 : (PyData.str t).plain = true := rfl
    have hd : (min (PyData.depthAll [PyData.none, .str t]) (PyData.str t).depth ≤ 60) := by
      refine Nat.le_trans (Nat.min_le_right _ _) ?_
      exact Nat.le_trans (PySem.W.Datum.depth_le (α := Str) t) (by decide)
    simp only [notInD, inB, hp, hp2, decide_eq_true hd, Bool.and_self, if_true, List.any_cons, h2, h3]
    rfl
theorem chr67 {w : Int} (h0 : 0 ≤ w) (h1 : w < 10) : ∃ s : Str, ixD (.str " 019,-:ab\n") (.int w) = some (.str s) ∧ (tl s).length = 1 := by
  have : ∀ n : Nat, n < 10 → ∃ s : Str, ixD (.str " 019,-:ab\n") (.int (n : Int)) = some (.str s) ∧ (tl s).length = 1 := by
    intro n hn
    match n, hn with
    | 0, _ => exact ⟨_, rfl, rfl⟩
    | 1, _ => exact ⟨_, rfl, rfl⟩
    | 2, _ => exact ⟨_, rfl, rfl⟩
    | 3, _ => exact ⟨_, rfl, rfl⟩
    | 4, _ => exact ⟨_, rfl, rfl⟩
    | 5, _ => exact ⟨_, rfl, rfl⟩
    | 6, _ => exact ⟨_, rfl, rfl⟩
    | 7, _ => exact ⟨_, rfl, rfl⟩
    | 8, _ => exact ⟨_, rfl, rfl⟩
    | 9, _ => exact ⟨_, rfl, rfl⟩
  have := this w.toNat (by omega)
  rwa [Int.toNat_of_nonneg h0] at this
theorem cut_short (z : Str) (lo hi : Option Int) : (tl (cutS z lo hi)).length ≤ (tl z).length := by
  simp only [cutS, tl]
  simp only [List.length_take, List.length_drop]
  omega
theorem jt_len2 {rs : List Rep} (h : VR rs) : (tl (jt rs)).length ≤ rs.length * 15 := by
  have := join_len ", " 13 (rs.map rtx) (fun p hp => by
    obtain ⟨r, hr, rfl⟩ := List.mem_map.mp hp
    exact rtx_len (h.ro r hr))
  rwa [List.length_map] at this
theorem lgt_len2 {lg : Lg} (h : ∀ p ∈ lg, PO p) (h4 : ∀ p ∈ lg, p.2.length ≤ 4) : (tl (lgt lg)).length ≤ lg.length * 67 := by
  have := join_len "" 67 (lg.map lin) (fun q hq => by
    obtain ⟨p, hp, rfl⟩ := List.mem_map.mp hq
    have po := h p hp
    have h1 := len_tS po.m0 (by have := po.m1; omega)
    have h2 := jt_len2 po.vr
    have h3 := h4 p hp
    have h5 : (tl (rst p.2)).length ≤ 61 := by
      unfold rst
      split
      · exact Nat.zero_le _
      · rw [tl_append, List.length_append, show tl (" " : Str) = [32] from rfl, List.length_singleton]; omega
    rw [lin, lnx, tl_append, tl_append, tl_append, List.length_append, List.length_append, List.length_append, show tl (":" : Str) = [58] from rfl, show tl ("\n" : Str) = [10] from rfl, List.length_singleton, List.length_singleton]
    omega)
  rwa [List.length_map] at this
def shf (d : Int) (r : Rep) : Rep := ⟨r.a, r.b, min (r.c + d) 9999⟩
theorem vr_shf {rs : List Rep} (h : VR rs) {d : Int} (hd : 0 ≤ d) : VR (rs.map (shf d)) := by
  refine ⟨⟨by simpa using h.vt.1, fun r hr => ?_⟩, fun r hr => ?_, fun i r s e1 e2 => ?_⟩
  · obtain ⟨x, hx, rfl⟩ := List.mem_map.mp hr
    have := h.vt.2 x hx
    simp only [shf]
    omega
  · obtain ⟨x, hx, rfl⟩ := List.mem_map.mp hr
    exact h.nam x hx
  · rw [List.getElem?_map] at e1 e2
    cases q1 : rs[i]? with
    | none => rw [q1] at e1; cases e1
    | some x =>
      cases q2 : rs[i + 1]? with
      | none => rw [q2] at e2; cases e2
      | some y =>
        rw [q1] at e1; rw [q2] at e2
        cases e1; cases e2
        exact h.asc i x y q1 q2
theorem nms_shf (d : Int) (rs : List Rep) : nms (rs.map (shf d)) = nms rs := by
  rw [nms, List.map_map]; rfl
theorem sem_law_k67_holds (ns : List Int) (hl : ns.length ≤ 63) : sem_law_k67 [scr (ns.map PyData.int)] = .ok (.bool true) := by
  obtain ⟨rs, er, hv, hlen, _⟩ := s_lawreps2 hl 10 6 (by decide) (by decide) (by decide) (by decide)
  obtain ⟨rw', erw, hvw, hlenw, _⟩ := s_lawreps2 hl 40 4 (by decide) (by decide) (by decide) (by decide)
  obtain ⟨e1, a1, b1⟩ := dr_eq (k := 1) hl (by decide) (by decide) (show (0 : Int) < 30 by decide)
  obtain ⟨e2, a2, b2⟩ := dr_eq (k := 2) hl (by decide) (by decide) (show (0 : Int) < 4 by decide)
  obtain ⟨e3, a3, b3⟩ := dr_eq (k := 3) hl (by decide) (by decide) (show (0 : Int) < 6 by decide)
  obtain ⟨od, fod, god⟩ := pick_lst' (ds := [.none, .list [], .str "a", .tuple [.tuple [.str "a", .int 2, .int 1]], .tuple [.tuple [.str "b", .int 1, .int 2], .tuple [.str "a", .int 1, .int 2]], .tuple [.tuple [.str "a", .int 1]]]) a3 b3 odd67
  generalize dr ns 1 30 = w1 at *
  generalize dr ns 2 4 = w2 at *
  generalize dr ns 3 6 = w3 at *
  have hdr : ∀ (k m : Int), 0 ≤ k → k < 1000 → 0 < m → ∃ w, sem__law_drawn [scr (ns.map .int), .int k, .int m] = .ok (.int w) ∧ 0 ≤ w ∧ w < m := fun k m h0 h1 h2 => by
    obtain ⟨e, a, b⟩ := dr_eq (k := k) hl h0 (by omega) h2
    exact ⟨_, e, a, b⟩
  generalize scr (ns.map .int) = sD at *
  simp only [sem_law_k67, q_fn1]
  refine sat_run ?_
  refine sat_seq (ρ' := [.val sD, .val (eRs rs), .own [], .val (.int w1), .un, .un, .un, .un, .un, .un, .un, .un, .un, .un, .un, .un, .un, .un, .un, .un, .un]) (by simp [er, e1]) ?_
  refine sat_for (ds := rangeL 0 (1 + w2).toNat) (it_r1 (m := 1 + w2) (by simp [e2]) (by simp only [I.r1]; rw [if_pos (by omega)])) ?_
  refine sat_range (fun i ρ => ∃ (lg : Lg) (m : Int) (u4 u5 u6 u18 u19 u20 : B), ρ = [.val sD, .val (eRs rs), .own (lg.map eL), .val (.int m), u4, u5, u6, .un, .un, .un, .un, .un, .un, .un, .un, .un, .un, .un, u18, u19, u20] ∧ lg.length = i ∧ 0 ≤ m ∧ m ≤ 29 + 200 * (i : Int) ∧ (∀ p ∈ lg, 0 ≤ p.1 ∧ p.1 < m) ∧ (∀ p ∈ lg, VR p.2 ∧ p.2.length ≤ 4 ∧ nms p.2 = nms rw') ∧ lg.Pairwise (fun p q => p.1 < q.1)) ?_ ?_ ?_
  · exact ⟨[], w1, _, _, _, _, _, _, rfl, rfl, a1, by omega, by simp, by simp, .nil⟩
  · rintro i ρ hi ⟨lg, m, u4, u5, u6, u18, u19, u20, rfl, q1, q2, q3, q4, q5, q6⟩
    refine ⟨_, rfl, ?_⟩
    have hi4 : i < 4 := by omega
    rw [Int.zero_add]
    obtain ⟨d, ed, ad, bd⟩ := hdr (60 + (i : Int)) 40 (by omega) (by omega) (by decide)
    obtain ⟨e, ee, ae, be⟩ := hdr (70 + (i : Int)) 200 (by omega) (by omega) (by decide)
    generalize eRs rs = rD at *
    refine sat_seq (ρ' := [.val sD, .val rD, .own (lg.map eL), .val (.int m), .val (.int (i : Int)), .val (eRs rw'), u6, .un, .un, .un, .un, .un, .un, .un, .un, .un, .un, .un, u18, u19, u20]) (by simp [erw]) ?_
    refine sat_seq (ρ' := [.val sD, .val rD, .own (lg.map eL), .val (.int m), .val (.int (i : Int)), .val (eRs rw'), .val (.list ((rw'.map (shf d)).map eR)), .un, .un, .un, .un, .un, .un, .un, .un, .un, .un, .un, u18, u19, u20]) ?_ ?_
    · simp
      rw [comp_all eR (fun r => eR (shf d r)) rw' (fun r _ => ⟨_, rfl, by simp [ed, shf, eR]⟩)]
      simp [Function.comp_def]
    have htp : tupleF [.list ((rw'.map (shf d)).map eR)] = some (eRs (rw'.map (shf d))) := rfl
    have hll : (lg.map eL).length < 16777216 := by rw [List.length_map]; omega
    generalize (rw'.map (shf d)).map eR = shD at *
    refine sat_seq (ρ' := [.val sD, .val rD, .own ((lg ++ [(m, rw'.map (shf d))]).map eL), .val (.int m), .val (.int (i : Int)), .val (eRs rw'), .val (.list shD), .un, .un, .un, .un, .un, .un, .un, .un, .un, .un, .un, u18, u19, u20]) ?_ ?_
    · rw [List.map_append]
      have eE : eL (m, rw'.map (shf d)) = .tuple [.int m, eRs (rw'.map (shf d))] := rfl
      rw [List.map_cons, List.map_nil, eE]
      generalize eRs (rw'.map (shf d)) = zD at *
      generalize lg.map eL = lD at *
      generalize eRs rw' = yD at *
      simp [htp, hll]
    generalize eRs rw' = yD at *
    have hnx : S.set 3 (M.v (E.op2 addD (E.op2 addD (E.var 3) (E.con (.int 1))) (E.call sem__law_drawn (A.cons (E.var 0) (A.cons (E.op2 addD (E.con (.int 70)) (E.var 4)) (A.cons (E.con (.int 200)) (A.nil))))))) [.val sD, .val rD, .own ((lg ++ [(m, rw'.map (shf d))]).map eL), .val (.int m), .val (.int (i : Int)), .val yD, .val (.list shD), .un, .un, .un, .un, .un, .un, .un, .un, .un, .un, .un, u18, u19, u20] = .nx [.val sD, .val rD, .own ((lg ++ [(m, rw'.map (shf d))]).map eL), .val (.int (m + 1 + e)), .val (.int (i : Int)), .val yD, .val (.list shD), .un, .un, .un, .un, .un, .un, .un, .un, .un, .un, .un, u18, u19, u20] := by
      generalize (lg ++ [(m, rw'.map (shf d))]).map eL = lD at *
      simp [ee]
    rw [hnx]
    refine sat_nx ⟨lg ++ [(m, rw'.map (shf d))], m + 1 + e, _, _, _, _, _, _, rfl, by simp [q1], by omega, by push_cast; omega, fun p hp => ?_, fun p hp => ?_, ?_⟩
    · rcases List.mem_append.mp hp with k | k
      · have := q4 p k; omega
      · rw [List.mem_singleton] at k; subst k; exact ⟨q2, by show m < m + 1 + e; omega⟩
    · rcases List.mem_append.mp hp with k | k
      · exact q5 p k
      · rw [List.mem_singleton] at k; subst k
        exact ⟨vr_shf hvw ad, by show (rw'.map (shf d)).length ≤ 4; rw [List.length_map]; omega, nms_shf d rw'⟩
    · rw [List.pairwise_append]
      refine ⟨q6, by simp, fun p hp q hq => ?_⟩
      rw [List.mem_singleton] at hq; subst hq
      exact (q4 p hp).2
  rintro ρ' ⟨lg, m, u4, u5, u6, u18, u19, u20, rfl, q1, q2, q3, q4, q5, q6⟩
  have hlg : lg.length ≤ 4 := by omega
  have hne : lg ≠ [] := fun z => by rw [z] at q1; simp at q1; omega
  have vl : VLog lg := ⟨hne, by omega, fun p hp => by have := q4 p hp; omega, fun p hp => ⟨(q5 p hp).1, by have := (q5 p hp).2.1; omega⟩, fun i p q h1 h2 => by
    obtain ⟨hi1, e1⟩ := List.getElem?_eq_some_iff.mp h1
    obtain ⟨hi2, e2⟩ := List.getElem?_eq_some_iff.mp h2
    rw [← e1, ← e2]
    exact List.pairwise_iff_getElem.mp q6 i (i + 1) hi1 hi2 (by omega), fun p hp q hq => by rw [(q5 p hp).2.2, (q5 q hq).2.2]⟩
  have nl : NL lg := ⟨vl.ne, vl.len, vl.mom, vl.rep⟩
  have hlog := s_islog vl
  have hfl := s_fmtlog nl hlog
  have hpl := s_logback nl hlog
  have hll := s_llines nl.po nl.len
  have hln := lgt_len2 nl.po (fun p hp => (q5 p hp).2.1)
  have hft := s_fmt hv
  have hpt := s_parseback hv
  have htx := s_ltext hv
  have hjl := jt_len hv
  have htp : tupleF [.list (lg.map eL)] = some (eLs lg) := rfl
  have nr : neD (eRs rs) (eRs rs) = some (.bool false) := by rw [reps_ne]; simp
  have nL : neD (eLs lg) (eLs lg) = some (.bool false) := by
    refine neD_self ?_ ?_
    · simpa only [PyData.plain] using plain_eL lg
    · have e : eLs lg = PySem.W.Datum.toD (⟨lg.map fun p => (p.1, (⟨p.2⟩ : PySem.W.Tup Rep))⟩ : PySem.W.Tup (Int × PySem.W.Tup Rep)) := by
        show PyData.tuple (lg.map eL) = PyData.tuple ((lg.map fun p => (p.1, (⟨p.2⟩ : PySem.W.Tup Rep))).map PySem.W.Datum.toD)
        rw [List.map_map]
        rfl
      rw [e]
      exact Nat.le_trans (PySem.W.Datum.depth_le (α := PySem.W.Tup (Int × PySem.W.Tup Rep)) _) (by decide)
  have nt := ne_strs (jt rs) (jt rs)
  rw [decide_eq_true rfl] at nt
  have nl2 := ne_strs (lgt lg) (lgt lg)
  rw [decide_eq_true rfl] at nl2
  have hjl2 : (tl (jt rs)).length ≤ 300 := by omega
  have hln2 : (tl (lgt lg)).length ≤ 300 := by omega
  clear hjl hln
  generalize hLD : lg.map eL = lM at *
  generalize eLs lg = lD at *
  generalize eRs rs = rD at *
  generalize jt rs = tx at *
  generalize lgt lg = lt at *
  have c0 : ∀ ρ, E.call0 sem__law_rejected_2 ρ = .ok (.bool true) := fun ρ => by simp [E.call0, rej67]
  refine sat_seq (ρ' := [.val sD, .val rD, .val lD, .val (.int m), u4, u5, u6, .un, .un, .un, .un, .un, .un, .un, .un, .un, .un, .un, u18, u19, u20]) (by simp [htp]) ?_
  refine sat_seq (ρ' := [.val sD, .val rD, .val lD, .val (.int m), u4, u5, u6, .val (.str tx), .val (.str lt), .un, .un, .un, .un, .un, .un, .un, .un, .un, u18, u19, u20]) (by simp [htx, hll]) ?_
  refine sat_seq (ρ' := [.val sD, .val rD, .val lD, .val (.int m), u4, u5, u6, .val (.str tx), .val (.str lt), .un, .un, .un, .un, .un, .un, .un, .un, .un, u18, u19, u20]) (by simp [hft, nt, hpt, nr, c0]) ?_
  refine sat_seq (ρ' := [.val sD, .val rD, .val lD, .val (.int m), u4, u5, u6, .val (.str tx), .val (.str lt), .un, .un, .un, .un, .un, .un, .un, .un, .un, u18, u19, u20]) (by simp [hfl, nl2, hpl, nL]) ?_
  refine sat_for (ds := rangeL 0 12) (it_r1 (m := 12) (by simp) rfl) ?_
  refine sat_range (fun i ρ => ∃ (u4 u9 u10 u11 u12 u13 u14 u15 : B), ρ = [.val sD, .val rD, .val lD, .val (.int m), u4, u5, u6, .val (.str tx), .val (.str lt), u9, u10, u11, u12, u13, u14, u15, .un, .un, u18, u19, u20]) ?_ ?_ ?_
  · exact ⟨_, _, _, _, _, _, _, _, rfl⟩
  · rintro i ρ hi ⟨u4, u9, u10, u11, u12, u13, u14, u15, rfl⟩
    refine ⟨_, rfl, ?_⟩
    rw [Int.zero_add]
    have m1 : mulD (.int 5) (.int (i : Int)) = some (.int (5 * (i : Int))) := o_mul1 _ _ (by decide)
    obtain ⟨at', hat⟩ : ∃ at' : Int, 100 + 5 * (i : Int) = at' := ⟨_, rfl⟩
    obtain ⟨way, ew, aw, bw⟩ := hdr at' 2 (by omega) (by omega) (by decide)
    obtain ⟨wh, hwh, hwl, hag⟩ : ∃ wh : Str, ixD (.list [.str tx, .str lt]) (.int way) = some (.str wh) ∧ (tl wh).length ≤ 300 ∧ ∀ t : Str, t.length ≤ 950 → sem__law_again [.int way, .str t] = .ok .none ∨ sem__law_again [.int way, .str t] = .ok (.str t) := by
      rcases (show way = 0 ∨ way = 1 by omega) with rfl | rfl
      · exact ⟨tx, rfl, hjl2, s_again0⟩
      · exact ⟨lt, rfl, hln2, s_again1⟩
    obtain ⟨pl, ep, ap, bp⟩ := hdr (at' + 1) ((wh.length : Int) + 1) (by omega) (by omega) (by omega)
    obtain ⟨w2', e2', a2', b2'⟩ := hdr (at' + 2) 10 (by omega) (by omega) (by decide)
    obtain ⟨w3', e3', a3', b3'⟩ := hdr (at' + 3) 3 (by omega) (by omega) (by decide)
    obtain ⟨w4', e4', a4', b4'⟩ := hdr (at' + 4) 2 (by omega) (by omega) (by decide)
    obtain ⟨sg, hsg, hsl⟩ := chr67 a2' b2'
    have hwl2 : wh.length ≤ 300 := by rw [len_tl]; exact hwl
    have hlen := o_len wh (by omega)
    refine sat_seq (ρ' := [.val sD, .val rD, .val lD, .val (.int m), .val (.int (i : Int)), u5, u6, .val (.str tx), .val (.str lt), .val (.int at'), u10, u11, u12, u13, u14, u15, .un, .un, u18, u19, u20]) (by simp [m1, hat]) ?_
    refine sat_seq (ρ' := [.val sD, .val rD, .val lD, .val (.int m), .val (.int (i : Int)), u5, u6, .val (.str tx), .val (.str lt), .val (.int at'), .val (.int way), u11, u12, u13, u14, u15, .un, .un, u18, u19, u20]) (by simp [ew]) ?_
    refine sat_seq (ρ' := [.val sD, .val rD, .val lD, .val (.int m), .val (.int (i : Int)), u5, u6, .val (.str tx), .val (.str lt), .val (.int at'), .val (.int way), .val (.str wh), u12, u13, u14, u15, .un, .un, u18, u19, u20]) (by
      have : atI [PyData.str tx, .str lt] way = some (.str wh) := hwh
      simp [this]) ?_
    refine sat_seq (ρ' := [.val sD, .val rD, .val lD, .val (.int m), .val (.int (i : Int)), u5, u6, .val (.str tx), .val (.str lt), .val (.int at'), .val (.int way), .val (.str wh), .val (.int pl), .val (.str sg), u14, u15, .un, .un, u18, u19, u20]) (by simp [hlen, ep, e2', hsg]) ?_
    obtain ⟨nw, hnw, hnl⟩ : ∃ nw : Str, S.set 14 (M.v (E.ite (T.of (E.op2 eqD (E.call sem__law_drawn (A.cons (E.var 0) (A.cons (E.op2 addD (E.var 9) (E.con (.int 3))) (A.cons (E.con (.int 3)) (A.nil))))) (E.con (.int 0)))) (E.con (.str "")) (E.var 13))) [.val sD, .val rD, .val lD, .val (.int m), .val (.int (i : Int)), u5, u6, .val (.str tx), .val (.str lt), .val (.int at'), .val (.int way), .val (.str wh), .val (.int pl), .val (.str sg), u14, u15, .un, .un, u18, u19, u20] = .nx [.val sD, .val rD, .val lD, .val (.int m), .val (.int (i : Int)), u5, u6, .val (.str tx), .val (.str lt), .val (.int at'), .val (.int way), .val (.str wh), .val (.int pl), .val (.str sg), .val (.str nw), u15, .un, .un, u18, u19, u20] ∧ (tl nw).length ≤ 1 := by
      by_cases c : w3' = 0
      · exact ⟨"", by simp [e3', c], Nat.zero_le _⟩
      · exact ⟨sg, by simp [e3', c], by omega⟩
    refine sat_seq hnw ?_
    have c1 := o_cuts wh none (some pl) (by omega)
    have c2 := o_cuts wh (some (pl + w4')) none (by omega)
    have s1 := cut_short wh none (some pl)
    have s2 := cut_short wh (some (pl + w4')) none
    generalize cutS wh none (some pl) = z1 at *
    generalize cutS wh (some (pl + w4')) none = z2 at *
    have ad1 := o_adds z1 nw (by omega)
    have ad2 := o_adds (z1 ++ nw) z2 (by rw [tl_append, List.length_append]; omega)
    have hbl : (z1 ++ nw ++ z2).length ≤ 950 := by rw [len_tl, tl_append, tl_append, List.length_append, List.length_append]; omega
    obtain ⟨bt, hbt⟩ : ∃ bt, z1 ++ nw ++ z2 = bt := ⟨_, rfl⟩
    rw [hbt] at ad2 hbl
    refine sat_seq (ρ' := [.val sD, .val rD, .val lD, .val (.int m), .val (.int (i : Int)), u5, u6, .val (.str tx), .val (.str lt), .val (.int at'), .val (.int way), .val (.str wh), .val (.int pl), .val (.str sg), .val (.str nw), .val (.str bt), .un, .un, u18, u19, u20]) (by simp [e4', c1, c2, ad1, ad2]) ?_
    obtain ⟨n1, n2⟩ := nin_two bt
    rcases hag bt hbl with ea | ea
    · simp [ea, n1]
      exact sat_nx ⟨_, _, _, _, _, _, _, _, rfl⟩
    · simp [ea, n2]
      exact sat_nx ⟨_, _, _, _, _, _, _, _, rfl⟩
  rintro ρ' ⟨u4, u9, u10, u11, u12, u13, u14, u15, rfl⟩
  obtain ⟨g0, g1⟩ := god
  have ad : addD (.list [.int 0, .int 1, .int 1]) (.list [.int 1]) = some (.list [.int 0, .int 1, .int 1, .int 1]) := by rw [o_addl _ _ (by simp)]; rfl
  have eq : eqD (.list [.int 0, .int 1, .int 1, .int 1]) (.list [.int 0, .int 1, .int 1, .int 1]) = some (.bool true) := rfl
  refine sat_seq (ρ' := [.val sD, .val rD, .val lD, .val (.int m), u4, u5, u6, .val (.str tx), .val (.str lt), u9, u10, u11, u12, u13, u14, u15, .val od, .un, u18, u19, u20]) (by simp [e3, fod]) ?_
  refine sat_seq (ρ' := [.val sD, .val rD, .val lD, .val (.int m), u4, u5, u6, .val (.str tx), .val (.str lt), u9, u10, u11, u12, u13, u14, u15, .val od, .val (.list [.int 0, .int 1, .int 1]), u18, u19, u20]) (by simp [g0, g1, oddA]) ?_
  refine sat_seq (ρ' := [.val sD, .val rD, .val lD, .val (.int m), u4, u5, u6, .val (.str tx), .val (.str lt), u9, u10, u11, u12, u13, u14, u15, .val od, .val (.list [.int 0, .int 1, .int 1, .int 1]), u18, u19, u20]) (by simp [oddB, ad]) ?_
  simp [eq, Sat]
end PV

open PySem PySem.W PyProof.Rows
set_option maxHeartbeats 0 in
theorem PySem.Challenge.cw_timevote_k67_formats_holds : PySem.Challenge.rw_timevote_k67_formats.Holds := by
  w_on; o_law; k_head; (case hw => w_witness2)
  k_fill
  refine L2.walk_of (l := PySem.Challenge.rw_timevote_k67_formats) (n := 63) (k := 10) (x := "script") (CX := fun w => L2.CX PySem.Challenge.rw_timevote_k67_formats.prog w) (sp := fun w => PV.spEnd _) rfl (by decide) rfl ⟨rfl, by decide, by decide⟩ (fun w h Y => PySem.W.kIn_of Y) ?F (fun _ _ a ns hl _ hS => PV.end_sp hl hS) (fun _ _ _ _ _ h => PV.end_cx h)
  case F =>
    intro w mg fa h KX G hmg
    refine' PV.all_mk KX G hmg ?a0 ?l0 ?c0 ?k0 ?a1 ?l1 ?c1 ?k1 ?a2 ?l2 ?c2 ?k2 ?a3 ?l3 ?c3 ?k3 ?a4 ?l4 ?c4 ?k4 ?a5 ?l5 ?c5 ?k5 ?a6 ?l6 ?c6 ?k6 ?a7 ?l7 ?c7 ?k7 ?a8 ?l8 ?c8 ?k8 ?a9 ?l9 ?c9 ?k9 ?a10 ?l10 ?c10 ?k10 ?a11 ?l11 ?c11 ?k11 ?a12 ?l12 ?c12 ?k12 ?a13 ?l13 ?c13 ?k13 ?a14 ?l14 ?c14 ?k14 ?a15 ?l15 ?c15 ?k15 ?a16 ?l16 ?c16 ?k16 ?a17 ?l17 ?c17 ?k17 ?a18 ?l18 ?c18 ?k18 ?a19 ?l19 ?c19 ?k19 ?a20 ?l20 ?c20 ?k20 ?a21 ?l21 ?c21 ?k21 ?a22 ?l22 ?c22 ?k22 ?a23 ?l23 ?c23 ?k23 ?a24 ?l24 ?c24 ?k24 ?a25 ?l25 ?c25 ?k25 ?a26 ?l26 ?c26 ?k26 ?a27 ?l27 ?c27 ?k27 ?a28 ?l28 ?c28 ?k28 ?zb_all ?zb_bool ?zb_int ?zb_isinstance ?zb_len ?zb_min ?zb_range ?zb_str ?zb_tuple ?zb_zip ?cb_MAX_TIME ?cb_MAX_SOURCES ?cb_MAX_NAME ?cb_LETTERS ?cb_MAX_ROUNDS ?cb_MAX_MOMENT ?cb_MAX_FOLLOWED ?cb_DIGITS ?cb_MAX_DIGITS ?cb_BETWEEN ?ea_InvalidLog ?ex_InvalidLog ?ek_InvalidLog ?eb_InvalidLog ?et_InvalidLog ?ea_InvalidReports ?ex_InvalidReports ?ek_InvalidReports ?eb_InvalidReports ?et_InvalidReports ?ea_ParseError ?ex_ParseError ?ek_ParseError ?eb_ParseError ?et_ParseError ?vv_a ?vv_b ?vv_d ?vv_t ?vv_s ?vv_k ?er_ParseError ?eg_ParseError ?eh_ParseError ?ed_ParseError ?ec_ParseError ?er_InvalidLog ?eg_InvalidLog ?eh_InvalidLog ?ed_InvalidLog ?ec_InvalidLog ?er_InvalidReports ?eg_InvalidReports ?eh_InvalidReports ?ed_InvalidReports ?ec_InvalidReports ?vv_n PV.sem_law_k67_holds
    (case a0 => k_is)
    (case l0 => k_is)
    (case c0 => k_is)
    (case k0 => k_is)
    (case a1 => k_is)
    (case l1 => k_is)
    (case c1 => k_is)
    (case k1 => k_is)
    (case a2 => k_is)
    (case l2 => k_is)
    (case c2 => k_is)
    (case k2 => k_is)
    (case a3 => k_is)
    (case l3 => k_is)
    (case c3 => k_is)
    (case k3 => k_is)
    (case a4 => k_is)
    (case l4 => k_is)
    (case c4 => k_is)
    (case k4 => k_is)
    (case a5 => k_is)
    (case l5 => k_is)
    (case c5 => k_is)
    (case k5 => k_is)
    (case a6 => k_is)
    (case l6 => k_is)
    (case c6 => k_is)
    (case k6 => k_is)
    (case a7 => k_is)
    (case l7 => k_is)
    (case c7 => k_is)
    (case k7 => k_is)
    (case a8 => k_is)
    (case l8 => k_is)
    (case c8 => k_is)
    (case k8 => k_is)
    (case a9 => k_is)
    (case l9 => k_is)
    (case c9 => k_is)
    (case k9 => k_is)
    (case a10 => k_is)
    (case l10 => k_is)
    (case c10 => k_is)
    (case k10 => k_is)
    (case a11 => k_is)
    (case l11 => k_is)
    (case c11 => k_is)
    (case k11 => k_is)
    (case a12 => k_is)
    (case l12 => k_is)
    (case c12 => k_is)
    (case k12 => k_is)
    (case a13 => k_is)
    (case l13 => k_is)
    (case c13 => k_is)
    (case k13 => k_is)
    (case a14 => k_is)
    (case l14 => k_is)
    (case c14 => k_is)
    (case k14 => k_is)
    (case a15 => k_is)
    (case l15 => k_is)
    (case c15 => k_is)
    (case k15 => k_is)
    (case a16 => k_is)
    (case l16 => k_is)
    (case c16 => k_is)
    (case k16 => k_is)
    (case a17 => k_is)
    (case l17 => k_is)
    (case c17 => k_is)
    (case k17 => k_is)
    (case a18 => k_is)
    (case l18 => k_is)
    (case c18 => k_is)
    (case k18 => k_is)
    (case a19 => k_is)
    (case l19 => k_is)
    (case c19 => k_is)
    (case k19 => k_is)
    (case a20 => k_is)
    (case l20 => k_is)
    (case c20 => k_is)
    (case k20 => k_is)
    (case a21 => k_is)
    (case l21 => k_is)
    (case c21 => k_is)
    (case k21 => k_is)
    (case a22 => k_is)
    (case l22 => k_is)
    (case c22 => k_is)
    (case k22 => k_is)
    (case a23 => k_is)
    (case l23 => k_is)
    (case c23 => k_is)
    (case k23 => k_is)
    (case a24 => k_is)
    (case l24 => k_is)
    (case c24 => k_is)
    (case k24 => k_is)
    (case a25 => k_is)
    (case l25 => k_is)
    (case c25 => k_is)
    (case k25 => k_is)
    (case a26 => k_is)
    (case l26 => k_is)
    (case c26 => k_is)
    (case k26 => k_is)
    (case a27 => k_is)
    (case l27 => k_is)
    (case c27 => k_is)
    (case k27 => k_is)
    (case a28 => k_is)
    (case l28 => k_is)
    (case c28 => k_is)
    (case k28 => k_is)
    (case zb_all => k_is)
    (case zb_bool => k_is)
    (case zb_int => k_is)
    (case zb_isinstance => k_is)
    (case zb_len => k_is)
    (case zb_min => k_is)
    (case zb_range => k_is)
    (case zb_str => k_is)
    (case zb_tuple => k_is)
    (case zb_zip => k_is)
    (case cb_MAX_TIME => k_is)
    (case cb_MAX_SOURCES => k_is)
    (case cb_MAX_NAME => k_is)
    (case cb_LETTERS => k_is)
    (case cb_MAX_ROUNDS => k_is)
    (case cb_MAX_MOMENT => k_is)
    (case cb_MAX_FOLLOWED => k_is)
    (case cb_DIGITS => k_is)
    (case cb_MAX_DIGITS => k_is)
    (case cb_BETWEEN => k_is)
    (case ea_InvalidLog => k_is)
    (case ex_InvalidLog => k_exc)
    (case ek_InvalidLog => k_is)
    (case eb_InvalidLog => k_is)
    (case et_InvalidLog => k_is)
    (case ea_InvalidReports => k_is)
    (case ex_InvalidReports => k_exc)
    (case ek_InvalidReports => k_is)
    (case eb_InvalidReports => k_is)
    (case et_InvalidReports => k_is)
    (case ea_ParseError => k_is)
    (case ex_ParseError => k_exc)
    (case ek_ParseError => k_is)
    (case eb_ParseError => k_is)
    (case et_ParseError => k_is)
    (case vv_a => first | k_is | rfl | decide +kernel)
    (case vv_b => first | k_is | rfl | decide +kernel)
    (case vv_d => first | k_is | rfl | decide +kernel)
    (case vv_t => first | k_is | rfl | decide +kernel)
    (case vv_s => first | k_is | rfl | decide +kernel)
    (case vv_k => first | k_is | rfl | decide +kernel)
    (case er_ParseError => first | k_is | rfl | decide +kernel)
    (case eg_ParseError => first | k_is | rfl | decide +kernel)
    (case eh_ParseError => first | k_is | rfl | decide +kernel)
    (case ed_ParseError => first | k_is | rfl | decide +kernel)
    (case ec_ParseError => first | k_is | rfl | decide +kernel)
    (case er_InvalidLog => first | k_is | rfl | decide +kernel)
    (case eg_InvalidLog => first | k_is | rfl | decide +kernel)
    (case eh_InvalidLog => first | k_is | rfl | decide +kernel)
    (case ed_InvalidLog => first | k_is | rfl | decide +kernel)
    (case ec_InvalidLog => first | k_is | rfl | decide +kernel)
    (case er_InvalidReports => first | k_is | rfl | decide +kernel)
    (case eg_InvalidReports => first | k_is | rfl | decide +kernel)
    (case eh_InvalidReports => first | k_is | rfl | decide +kernel)
    (case ed_InvalidReports => first | k_is | rfl | decide +kernel)
    (case ec_InvalidReports => first | k_is | rfl | decide +kernel)
    (case vv_n => first | k_is | rfl | decide +kernel)
