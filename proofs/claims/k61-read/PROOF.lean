import PyProof.Rows.All
import Wide.All
import OpenK.AllK
import Wide.FinOn
import HandS.ForMost
import HandS.ForExc
import HandS.IsInst
import HandS.TupAny
import HandS.Walk
import HandS.Deep
import PyProof.StrOps2
import HandS.Style
import HandS.StrMore
import HandS.Conv
import HandS.ExcCtx
import HandS.Iter
import HandS.TupLen
import HandS.ExcIs
import HandS.HotCalls
import HandS.Text
import PyProof.ListStr
import HandS.Ends
import KE.SortData
import KE.DataCmp
import HandS.TupSets
import HandS.SetTxt0
import KE.DataMinMax
import HandS.Zip
import HandS.More
import HandS.TryOnly
import KE.KStateDown
import KE.KDictCopyH
import KE.KDictPairs
import PySem.Challenge.RW_cellwords_k61_whole_read
set_option Elab.async false
set_option linter.all false
set_option maxRecDepth 100000
set_option maxHeartbeats 3000000
/-! The pure layer, part 1: outcomes, data over a frozen heap, states by slots, expressions. -/
namespace Pu
open PySem PySem.Spec
open PyProof.Rows L2

/-- what a piece of the program comes to: a value, an exception of the class so called, or nothing that this layer speaks of -/
inductive Rs (α : Type) where
  | ok (a : α)
  | exc (c : Str)
  | stuck
namespace Rs
def bind {α β : Type} (m : Rs α) (k : α → Rs β) : Rs β := match m with
  | .ok a => k a
  | .exc c => .exc c
  | .stuck => .stuck
@[simp] theorem bind_ok {α β : Type} (a : α) (k : α → Rs β) : (Rs.ok a).bind k = k a := rfl
@[simp] theorem bind_exc {α β : Type} (c : Str) (k : α → Rs β) : (Rs.exc c : Rs α).bind k = .exc c := rfl
@[simp] theorem bind_stuck {α β : Type} (k : α → Rs β) : (Rs.stuck : Rs α).bind k = .stuck := rfl
/-- an exception is not spoken of -/
def nox {α : Type} (m : Rs α) : Rs α := match m with
  | .ok a => .ok a
  | _ => .stuck
@[simp] theorem nox_ok {α : Type} (a : α) : (Rs.ok a).nox = .ok a := rfl
end Rs
abbrev D := PyData

/-! ### heaps -/
/-- a dict that may still be changed -/
def noD : HO → Bool
  | .dK _ => false
  | .dT _ => false
  | _ => true
def NoD (F : Hp) : Prop := ∀ a u, F a = some u → noD u = true
theorem NoD.upd {F : Hp} {p : Addr} {o : HO} (h : NoD F) (ho : noD o = true) : NoD (upd F p o) := fun a u e => by
  by_cases hb : a = p
  · subst hb; rw [upd_same] at e; cases e; exact ho
  · rw [upd_ne hb] at e; exact h a u e
/-- F: what is frozen of H; tuples always are; a dict is locked -/
structure FH (F H : Hp) : Prop where
  sub : Same F H
  tup : ∀ a xs, H a = some (.tup xs) → F a = some (.tup xs)
  nd : NoD F
/-- an expression's step: both grow, what is new in F is new in H -/
structure Ext (F H F' H' : Hp) : Prop where
  f : Same F F'
  h : Same H H'
  fh : FH F' H'
  nw : ∀ a, F a = none → F' a ≠ none → H a = none
theorem FH.none {F H : Hp} (x : FH F H) {a : Addr} (h : H a = none) : F a = none := x.sub.free h
theorem Ext.refl {F H : Hp} (x : FH F H) : Ext F H F H := ⟨.refl _, .refl _, x, fun _ h h' => absurd h h'⟩
theorem Ext.trans {F H F1 H1 F2 H2 : Hp} (a : Ext F H F1 H1) (b : Ext F1 H1 F2 H2) : Ext F H F2 H2 :=
  ⟨a.f.trans b.f, a.h.trans b.h, b.fh, fun p h h' => by
    by_cases q : F1 p = .none
    · exact a.h.free (b.nw p q h')
    · exact a.nw p h q⟩
theorem same_upd {H : Hp} {p : Addr} {o : HO} (h : H p = none) : Same H (upd H p o) := fun b u e => by
  rw [upd_ne (ne_of_none e h)]; exact e
theorem same_updB {F H : Hp} {p : Addr} {o : HO} (x : Same F H) : Same (upd F p o) (upd H p o) := fun b u e => by
  by_cases hb : b = p
  · subst hb; rw [upd_same] at e ⊢; exact e
  · rw [upd_ne hb] at e ⊢; exact x b u e
theorem FH.upd {F H : Hp} {p : Addr} {o : HO} (x : FH F H) (ho : noD o = true) : FH (upd F p o) (upd H p o) :=
  ⟨same_updB x.sub, fun b xs e => by
    by_cases hb : b = p
    · subst hb; rw [upd_same] at e ⊢; exact e
    · rw [upd_ne hb] at e ⊢; exact x.tup b xs e, x.nd.upd ho⟩
/-- a new frozen object -/
theorem Ext.new {F H : Hp} {p : Addr} {o : HO} (x : FH F H) (h : H p = none) (ho : noD o = true := by rfl) : Ext F H (upd F p o) (upd H p o) :=
  ⟨same_upd (x.none h), same_upd h, x.upd ho, fun a ha ha' => by
    by_cases hb : a = p
    · rw [hb]; exact h
    · rw [upd_ne hb] at ha'; exact absurd ha ha'⟩

/-! ### data over a heap -/
def keyD : Key → D
  | .inl i => .int i
  | .inr x => .str x
/-- a dict as a datum: keys ints and texts; keys tuples of such (marked by a first pair that stands for no entry) -/
abbrev okD (kvs : List (Key × D)) : D := .dict (kvs.map fun p => (keyD p.1, p.2))
abbrev otD (kvs : List (List Key × D)) : D := .dict ((.none, .none) :: kvs.map fun p => (PyData.tuple (p.1.map keyD), p.2))
mutual
/-- v is, over F, the datum d -/
inductive Rp (F : Hp) : V → D → Prop
  | non : Rp F .non .none
  | bl (b : Bool) : Rp F (.bl b) (.bool b)
  | int (i : Int) : Rp F (.int i) (.int i)
  | str (x : Str) : Rp F (.str x) (.str x)
  | lst {a : Addr} {xs : List V} {ds : List D} : Rd F a (.lst xs) → xs.length ≤ sizeLine → RpA F xs ds → Rp F (.ref a) (.list ds)
  | tup {a : Addr} {xs : List V} {ds : List D} : F a = some (.tup xs) → xs.length ≤ sizeLine → RpA F xs ds → Rp F (.ref a) (.tuple ds)
  | dk {a : Addr} {ws : List (Key × V)} {kvs : List (Key × D)} : Rd F a (.dK ws) → ws.map (·.1) = kvs.map (·.1) → RpA F (ws.map (·.2)) (kvs.map (·.2)) → Rp F (.ref a) (okD kvs)
  | dt {a : Addr} {ws : List (List Key × V)} {kvs : List (List Key × D)} : Rd F a (.dT ws) → ws.map (·.1) = kvs.map (·.1) → RpA F (ws.map (·.2)) (kvs.map (·.2)) → Rp F (.ref a) (otD kvs)
inductive RpA (F : Hp) : List V → List D → Prop
  | nil : RpA F [] []
  | cons {v : V} {vs : List V} {d : D} {ds : List D} : Rp F v d → RpA F vs ds → RpA F (v :: vs) (d :: ds)
end
theorem rd_mono {F F' : Hp} {a : Addr} {o : HO} (e : Same F F') (h : Rd F a o) : Rd F' a o := by
  rcases h with h | ⟨u, h⟩
  · exact .inl (e _ _ h)
  · exact .inr ⟨u, e _ _ h⟩
mutual
theorem Rp.mono {F F' : Hp} (e : Same F F') : ∀ {v : V} {d : D}, Rp F v d → Rp F' v d
  | _, _, .non => .non
  | _, _, .bl b => .bl b
  | _, _, .int i => .int i
  | _, _, .str x => .str x
  | _, _, .lst h z r => .lst (rd_mono e h) z (RpA.mono e r)
  | _, _, .tup h z r => .tup (e _ _ h) z (RpA.mono e r)
  | _, _, .dk h k r => .dk (rd_mono e h) k (RpA.mono e r)
  | _, _, .dt h k r => .dt (rd_mono e h) k (RpA.mono e r)
theorem RpA.mono {F F' : Hp} (e : Same F F') : ∀ {v : List V} {d : List D}, RpA F v d → RpA F' v d
  | _, _, .nil => .nil
  | _, _, .cons h r => .cons (Rp.mono e h) (RpA.mono e r)
end
theorem RpA.length {F : Hp} : ∀ {v : List V} {d : List D}, RpA F v d → v.length = d.length
  | _, _, .nil => rfl
  | _, _, .cons _ r => by rw [List.length_cons, List.length_cons, RpA.length r]
theorem RpA.get {F : Hp} : ∀ {vs : List V} {ds : List D} {i : Nat} {v : V}, RpA F vs ds → vs[i]? = some v → ∃ d, ds[i]? = some d ∧ Rp F v d
  | _, _, _, _, RpA.nil, e => by simp at e
  | _, _, 0, _, .cons h r, e => ⟨_, rfl, by rw [List.getElem?_cons_zero] at e; cases e; exact h⟩
  | _, _, i + 1, _, .cons h r, e => by
    obtain ⟨d, e1, h1⟩ := RpA.get (i := i) r (by rw [List.getElem?_cons_succ] at e; exact e)
    exact ⟨d, by rw [List.getElem?_cons_succ]; exact e1, h1⟩
theorem RpA.getD {F : Hp} : ∀ {vs : List V} {ds : List D} {i : Nat} {d : D}, RpA F vs ds → ds[i]? = some d → ∃ v, vs[i]? = some v ∧ Rp F v d
  | _, _, _, _, RpA.nil, e => by simp at e
  | _, _, 0, _, .cons h r, e => ⟨_, rfl, by rw [List.getElem?_cons_zero] at e; cases e; exact h⟩
  | _, _, i + 1, _, .cons h r, e => by
    obtain ⟨d, e1, h1⟩ := RpA.getD (i := i) r (by rw [List.getElem?_cons_succ] at e; exact e)
    exact ⟨d, by rw [List.getElem?_cons_succ]; exact e1, h1⟩
theorem RpA.app {F : Hp} : ∀ {a b : List V} {c d : List D}, RpA F a c → RpA F b d → RpA F (a ++ b) (c ++ d)
  | _, _, _, _, .nil, s => s
  | _, _, _, _, .cons h r, s => .cons h (RpA.app r s)
theorem RpA.snoc {F : Hp} {a : List V} {c : List D} {v : V} {d : D} (h : RpA F a c) (h2 : Rp F v d) : RpA F (a ++ [v]) (c ++ [d]) := h.app (.cons h2 .nil)
theorem RpA.drop {F : Hp} : ∀ {a : List V} {c : List D} (n : Nat), RpA F a c → RpA F (a.drop n) (c.drop n)
  | _, _, 0, h => h
  | _, _, _ + 1, .nil => .nil
  | _, _, n + 1, .cons _ r => RpA.drop n r
theorem RpA.take {F : Hp} : ∀ {a : List V} {c : List D} (n : Nat), RpA F a c → RpA F (a.take n) (c.take n)
  | _, _, 0, _ => .nil
  | _, _, _ + 1, .nil => .nil
  | _, _, n + 1, .cons h r => .cons h (RpA.take n r)
theorem RpA.rev {F : Hp} : ∀ {a : List V} {c : List D}, RpA F a c → RpA F a.reverse c.reverse
  | _, _, .nil => .nil
  | _, _, .cons h r => by rw [List.reverse_cons, List.reverse_cons]; exact (RpA.rev r).snoc h
theorem RpA.set {F : Hp} {v : V} {d : D} (h : Rp F v d) : ∀ {a : List V} {c : List D} (n : Nat), RpA F a c → RpA F (a.set n v) (c.set n d)
  | _, _, _, .nil => .nil
  | _, _, 0, .cons _ r => .cons h r
  | _, _, n + 1, .cons g r => .cons g (RpA.set h n r)
mutual
/-- for ==: what can be compared has no dicts -/
theorem Rp.dp {K : PySem.W.Frag} {F : Hp} : ∀ {v : V} {d : D}, Rp F v d → d.canLay0 = true → Dp K F v d
  | _, _, .non, _ => .non
  | _, _, .bl b, _ => .bl b
  | _, _, .int i, _ => .int i
  | _, _, .str x, _ => .str x
  | _, _, .lst h z r, c => .lst (.inl h) (RpA.dp r (by rw [PyData.canLay0] at c; exact c))
  | _, _, .tup h z r, c => .tup (.inl (.inl h)) (RpA.dp r (by rw [PyData.canLay0] at c; exact c))
  | _, _, .dk h _ r, c => by rw [PyData.canLay0] at c; cases c
  | _, _, .dt h _ r, c => by rw [PyData.canLay0] at c; cases c
theorem RpA.dp {K : PySem.W.Frag} {F : Hp} : ∀ {v : List V} {d : List D}, RpA F v d → PyData.canLayAll0 d = true → DpAll K F v d
  | _, _, .nil, _ => .nil
  | _, _, .cons h r, c => by
    rw [PyData.canLayAll0, Bool.and_eq_true] at c
    exact .cons (Rp.dp h c.1) (RpA.dp r c.2)
end
/-! data without lists and dicts, by tuples of such -/
mutual
def flatD : D → Bool
  | .none | .int _ | .bool _ | .str _ => true
  | .tuple xs => flatDs xs
  | _ => false
def flatDs : List D → Bool
  | [] => true
  | x :: xs => flatD x && flatDs xs
end
mutual
theorem Rp.frozen {F H : Hp} (x : FH F H) : ∀ {v : V} {d : D}, Rp H v d → flatD d = true → Rp F v d
  | _, _, .non, _ => .non
  | _, _, .bl b, _ => .bl b
  | _, _, .int i, _ => .int i
  | _, _, .str x, _ => .str x
  | _, _, .lst h z r, c => by rw [flatD] at c <;> first | cases c | (intros; rename_i q; cases q)
  | _, _, .tup h z r, c => .tup (x.tup _ _ h) z (RpA.frozen x r (by rw [flatD] at c; exact c))
  | _, _, .dk h _ r, c => by rw [flatD] at c <;> first | cases c | (intros; rename_i q; cases q)
  | _, _, .dt h _ r, c => by rw [flatD] at c <;> first | cases c | (intros; rename_i q; cases q)
theorem RpA.frozen {F H : Hp} (x : FH F H) : ∀ {v : List V} {d : List D}, RpA H v d → flatDs d = true → RpA F v d
  | _, _, .nil, _ => .nil
  | _, _, .cons h r, c => by
    rw [flatDs, Bool.and_eq_true] at c
    exact .cons (Rp.frozen x h c.1) (RpA.frozen x r c.2)
end

/-! ### states by slots -/
/-- what is known of a slot: nothing; it holds d, frozen; it holds a list of its own; a dict of its own (keys ints and texts; keys tuples of such) -/
inductive Sl where
  | no
  | da (d : D)
  | ex (a : Addr)
  | ol (ds : List D)
  | ok (kvs : List (Key × D))
  | ot (kvs : List (List Key × D))
/-- the objects that a slot owns -/
def OwnAt (F H : Hp) (a : Addr) : Sl → Prop
  | .no => True
  | .da _ => True
  | .ex _ => True
  | .ol ds => ∃ xs, H a = some (.lst xs) ∧ xs.length ≤ sizeLine ∧ RpA F xs ds
  | .ok kvs => ∃ ws : List (Key × V), H a = some (.dK ws) ∧ ws.map (·.1) = kvs.map (·.1) ∧ RpA F (ws.map (·.2)) (kvs.map (·.2))
  | .ot kvs => ∃ ws : List (List Key × V), H a = some (.dT ws) ∧ ws.map (·.1) = kvs.map (·.1) ∧ RpA F (ws.map (·.2)) (kvs.map (·.2))
def owns : Sl → Bool
  | .no | .da _ | .ex _ => false
  | _ => true
def SlOk (F G H : Hp) (σ : L2.St) (i : Nat) : Sl → Prop
  | .no => True
  | .da d => ∃ v, σ[i]? = some (some v) ∧ Rp F v d
  | .ex a => σ[i]? = some (some (.ref a))
  | s => ∃ a, σ[i]? = some (some (.ref a)) ∧ F a = none ∧ G a = none ∧ OwnAt F H a s
/-- the state: F frozen, G to stay as it is (what stood at the entry) -/
structure Ste (F G H : Hp) (σ : L2.St) (ρ : List Sl) : Prop where
  fh : FH F H
  gh : Same G H
  len : σ.length = ρ.length
  sl : ∀ i s, ρ[i]? = some s → SlOk F G H σ i s
  dis : ∀ (i j : Nat) (s t : Sl) (a : Addr), ρ[i]? = some s → ρ[j]? = some t → owns s = true → owns t = true → σ[i]? = some (some (V.ref a)) → σ[j]? = some (some (V.ref a)) → i = j
theorem OwnAt.mono {F H F' H' : Hp} (x : Ext F H F' H') {a : Addr} : ∀ {s : Sl}, OwnAt F H a s → OwnAt F' H' a s
  | .no, _ => trivial
  | .da _, _ => trivial
  | .ex _, _ => trivial
  | .ol _, ⟨xs, h, z, r⟩ => ⟨xs, x.h _ _ h, z, r.mono x.f⟩
  | .ok _, ⟨xs, h, z, r⟩ => ⟨xs, x.h _ _ h, z, r.mono x.f⟩
  | .ot _, ⟨xs, h, z, r⟩ => ⟨xs, x.h _ _ h, z, r.mono x.f⟩
theorem OwnAt.there {F H : Hp} {a : Addr} : ∀ {s : Sl}, owns s = true → OwnAt F H a s → H a ≠ none
  | .no, h, _ => by cases h
  | .da _, h, _ => by cases h
  | .ex _, h, _ => by cases h
  | .ol _, _, ⟨xs, h, _⟩ => by rw [h]; intro z; cases z
  | .ok _, _, ⟨xs, h, _⟩ => by rw [h]; intro z; cases z
  | .ot _, _, ⟨xs, h, _⟩ => by rw [h]; intro z; cases z
theorem Ext.keepNone {F H F' H' : Hp} (x : Ext F H F' H') {a : Addr} (h : F a = none) (hH : H a ≠ none) : F' a = none := by
  cases e : F' a with
  | none => rfl
  | some o => exact absurd (x.nw a h (by rw [e]; intro z; cases z)) hH
theorem SlOk.mono {F G H F' H' : Hp} {σ : L2.St} {i : Nat} (x : Ext F H F' H') : ∀ {s : Sl}, SlOk F G H σ i s → SlOk F' G H' σ i s
  | .no, _ => trivial
  | .da _, ⟨v, e, r⟩ => ⟨v, e, r.mono x.f⟩
  | .ex _, e => e
  | .ol _, ⟨a, e, f, g, o⟩ => ⟨a, e, x.keepNone f (o.there rfl), g, o.mono x⟩
  | .ok _, ⟨a, e, f, g, o⟩ => ⟨a, e, x.keepNone f (o.there rfl), g, o.mono x⟩
  | .ot _, ⟨a, e, f, g, o⟩ => ⟨a, e, x.keepNone f (o.there rfl), g, o.mono x⟩
theorem Ste.mono {F G H F' H' : Hp} {σ : L2.St} {ρ : List Sl} (S : Ste F G H σ ρ) (x : Ext F H F' H') : Ste F' G H' σ ρ :=
  ⟨x.fh, S.gh.trans x.h, S.len, fun i s e => (S.sl i s e).mono x, S.dis⟩
theorem Ste.ext {F G H : Hp} {σ : L2.St} {ρ : List Sl} (S : Ste F G H σ ρ) : Ext F H F H := .refl S.fh

/-! ### readings -/
/-- where the exception's class stands -/
def Cl (mg : Str → Option Value) (c : Str) (v : Value) : Prop := ∃ C : Addr, v = .ref C ∧ mg c = some (.ref C)
/-- what is wanted of an exception, by its class -/
def DenX (X : Cx) (W : WX) (σ : L2.St) (H : Hp) (c : Str) : Prop := ∀ v H', Cl X.mg c v → Same H H' → W v none σ H'
/-- a value: b: it may lean on objects that are not frozen -/
def DenE (X : Cx) (W : WX) (b : Bool) (m : Rs D) (F H : Hp) (σ : L2.St) (Q : VK) : Prop := match m with
  | .ok d => ∀ v F' H', Ext F H F' H' → Rp (if b then H' else F') v d → Q v H'
  | .exc c => DenX X W σ H c
  | .stuck => False
def DenT (X : Cx) (W : WX) (m : Rs Bool) (F H : Hp) (σ : L2.St) (Q : Bool → Hp → Prop) : Prop := match m with
  | .ok c => ∀ F' H', Ext F H F' H' → Q c H'
  | .exc c => DenX X W σ H c
  | .stuck => False
def DenA (X : Cx) (W : WX) (b : Bool) (m : Rs (List D)) (F H : Hp) (σ : L2.St) (Q : List V → Hp → Prop) : Prop := match m with
  | .ok ds => ∀ vs F' H', Ext F H F' H' → RpA (if b then H' else F') vs ds → Q vs H'
  | .exc c => DenX X W σ H c
  | .stuck => False
def rEV (X : Cx) (W : WX) (b : Bool) (ρ : List Sl) (m : Rs D) : TE := fun σ H Q => ∃ F G, Ste F G H σ ρ ∧ DenE X W b m F H σ Q
def rET (X : Cx) (W : WX) (ρ : List Sl) (m : Rs Bool) : TT := fun σ H Q => ∃ F G, Ste F G H σ ρ ∧ DenT X W m F H σ Q
def rEA (X : Cx) (W : WX) (b : Bool) (ρ : List Sl) (m : Rs (List D)) : TA := fun σ H Q => ∃ F G, Ste F G H σ ρ ∧ DenA X W b m F H σ Q
/-- e evaluates, from slots ρ, to m -/
def EV (X : Cx) (W : WX) (b : Bool) (ρ : List Sl) (e : Expr) (m : Rs D) : Prop := PE X e (rEV X W b ρ m)
def ET (X : Cx) (W : WX) (ρ : List Sl) (e : Expr) (m : Rs Bool) : Prop := PT X e (rET X W ρ m)
def EA (X : Cx) (W : WX) (b : Bool) (ρ : List Sl) (es : List Expr) (m : Rs (List D)) : Prop := PA X es (rEA X W b ρ m)

theorem PE.imp {X : Cx} {e : Expr} {t u : TE} (h : PE X e t) (i : ∀ σ H Q, u σ H Q → t σ H Q) : PE X e u :=
  ⟨fun pins s σ H Q I q => h.run pins s σ H Q I (i σ H Q q)⟩
theorem PT.imp {X : Cx} {e : Expr} {t u : TT} (h : PT X e t) (i : ∀ σ H Q, u σ H Q → t σ H Q) : PT X e u :=
  ⟨fun pins s σ H Q I q => h.run pins s σ H Q I (i σ H Q q)⟩
theorem PA.imp {X : Cx} {e : List Expr} {t u : TA} (h : PA X e t) (i : ∀ σ H Q, u σ H Q → t σ H Q) : PA X e u :=
  ⟨fun pos pins s σ H Q I q => h.run pos pins s σ H Q I (i σ H Q q)⟩
section
variable {X : Cx} {W : WX} {b : Bool} {ρ : List Sl} {e e1 e2 : Expr} {pos : Pos} {F G H : Hp} {σ : L2.St}

theorem Rp.up {b : Bool} {F H : Hp} {v : V} {d : D} (x : FH F H) (h : Rp F v d) : Rp (if b then H else F) v d := by
  cases b with
  | true => exact h.mono x.sub
  | false => exact h
theorem RpA.up {b : Bool} {F H : Hp} {v : List V} {d : List D} (x : FH F H) (h : RpA F v d) : RpA (if b then H else F) v d := by
  cases b with
  | true => exact h.mono x.sub
  | false => exact h
theorem Rp.toH {b : Bool} {F H : Hp} {v : V} {d : D} (x : FH F H) (h : Rp (if b then H else F) v d) : Rp H v d := by
  cases b with
  | true => exact h
  | false => exact h.mono x.sub
theorem RpA.toH {b : Bool} {F H : Hp} {v : List V} {d : List D} (x : FH F H) (h : RpA (if b then H else F) v d) : RpA H v d := by
  cases b with
  | true => exact h
  | false => exact h.mono x.sub
theorem Rp.bmono {b : Bool} {F H F' H' : Hp} {v : V} {d : D} (x : Ext F H F' H') (h : Rp (if b then H else F) v d) : Rp (if b then H' else F') v d := by
  cases b with
  | true => exact h.mono x.h
  | false => exact h.mono x.f

theorem DenX.mono {H' : Hp} {c : Str} (x : Same H H') (h : DenX X W σ H c) : DenX X W σ H' c := fun v H'' q s => h v H'' q (x.trans s)
/-- how a bind is read -/
theorem DenE.bindE {m : Rs D} {k : D → Rs D} {b b' : Bool} {Q : VK} (h : DenE X W b' (m.bind k) F H σ Q) (x : FH F H) :
    DenE X W b m F H σ (fun v H' => ∃ F' d, m = .ok d ∧ Ext F H F' H' ∧ Rp (if b then H' else F') v d ∧ DenE X W b' (k d) F' H' σ Q) := by
  cases m with
  | ok d =>
    intro v F' H' xx r
    refine ⟨F', d, rfl, xx, r, ?_⟩
    have h' : DenE X W b' (k d) F H σ Q := h
    cases q : k d with
    | ok d2 => rw [q] at h'; exact fun v2 F2 H2 x2 r2 => h' v2 F2 H2 (xx.trans x2) r2
    | exc c => rw [q] at h'; exact DenX.mono xx.h h'
    | stuck => rw [q] at h'; exact h'
  | exc c => exact h
  | stuck => exact h
theorem DenE.mono {m : Rs D} {F' H' : Hp} {Q : VK} (h : DenE X W b m F H σ Q) (x : Ext F H F' H') : DenE X W b m F' H' σ Q := by
  cases m with
  | ok d => exact fun v2 F2 H2 x2 r2 => h v2 F2 H2 (x.trans x2) r2
  | exc c => exact DenX.mono x.h h
  | stuck => exact h
theorem DenT.mono {m : Rs Bool} {F' H' : Hp} {Q : Bool → Hp → Prop} (h : DenT X W m F H σ Q) (x : Ext F H F' H') : DenT X W m F' H' σ Q := by
  cases m with
  | ok d => exact fun F2 H2 x2 => h F2 H2 (x.trans x2)
  | exc c => exact DenX.mono x.h h
  | stuck => exact h
theorem DenA.mono {m : Rs (List D)} {F' H' : Hp} {Q : List V → Hp → Prop} (h : DenA X W b m F H σ Q) (x : Ext F H F' H') : DenA X W b m F' H' σ Q := by
  cases m with
  | ok d => exact fun v2 F2 H2 x2 r2 => h v2 F2 H2 (x.trans x2) r2
  | exc c => exact DenX.mono x.h h
  | stuck => exact h
/-- the first of two steps -/
theorem DenE.seq {α : Type} {m : Rs D} {k : D → Rs α} {R : V → Hp → Prop} {P : Rs α → Hp → Hp → Prop}
    (h : P (m.bind k) F H) (x : FH F H) (hm : ∀ r F' H', Ext F H F' H' → P r F H → P r F' H') (hx : ∀ c, P (.exc c) F H → DenX X W σ H c) (hs : ¬ P .stuck F H)
    (go : ∀ v d F' H', m = .ok d → Ext F H F' H' → Rp (if b then H' else F') v d → P (k d) F' H' → R v H') : DenE X W b m F H σ R := by
  cases m with
  | ok d => exact fun v F' H' xx r => go v d F' H' rfl xx r (hm _ _ _ xx h)
  | exc c => exact hx c h
  | stuck => exact hs h
/-- borrowed from full -/
theorem ev_up {m : Rs D} (h : EV X W false ρ e m) : EV X W true ρ e m := PE.imp h fun σ H Q ⟨F, G, S, d⟩ => ⟨F, G, S, by
  cases m with
  | ok x => exact fun v F' H' xx r => d v F' H' xx (r.mono xx.fh.sub)
  | exc c => exact d
  | stuck => exact d⟩
/-- full from borrowed, for what has no lists -/
def flatOnly (d : D) : Rs D := if flatD d = true then .ok d else .stuck
theorem ev_flat {m : Rs D} (h : EV X W true ρ e m) : EV X W false ρ e (m.bind flatOnly) := PE.imp h fun σ H Q ⟨F, G, S, d⟩ => ⟨F, G, S, by
  cases m with
  | ok x =>
    intro v F' H' xx r
    have d' : DenE X W false (flatOnly x) F H σ Q := d
    unfold flatOnly at d'
    by_cases hx : flatD x = true
    · rw [if_pos hx] at d'; exact d' v F' H' xx (r.frozen xx.fh hx)
    · rw [if_neg hx] at d'; exact d'.elim
  | exc c => exact d
  | stuck => exact d⟩

/-! ### names; constants -/
/-- a name of the def's in slot i -/
structure Va (X : Cx) (i : Nat) (x : Str) : Prop where
  n : X.N[i]? = some x
  v : Vis X.env.scope x
  d : (x == ("__debug__" : Str)) = false
  c : (x == ("__classdict__" : Str)) = false
theorem ev_var {i : Nat} {x : Str} {d : D} (v : Va X i x) (h : ρ[i]? = some (.da d)) : EV X W b ρ (.Name x pos) (.ok d) :=
  PE.imp (pe_var v.n v.v v.d v.c) fun σ H Q ⟨F, G, S, k⟩ => by
    obtain ⟨u, e, r⟩ := S.sl i _ h
    exact ⟨u, e, k u F H S.ext (r.up S.fh)⟩
theorem ev_varL {i : Nat} {x : Str} {ds : List D} (v : Va X i x) (h : ρ[i]? = some (.ol ds)) : EV X W true ρ (.Name x pos) (.ok (.list ds)) :=
  PE.imp (pe_var v.n v.v v.d v.c) fun σ H Q ⟨F, G, S, k⟩ => by
    obtain ⟨a, e, _, _, xs, h1, z, r⟩ := S.sl i _ h
    exact ⟨_, e, k _ F H S.ext (.lst (.inl h1) z (r.mono S.fh.sub))⟩
theorem ev_varK {i : Nat} {x : Str} {kvs : List (Key × D)} (v : Va X i x) (h : ρ[i]? = some (.ok kvs)) : EV X W true ρ (.Name x pos) (.ok (okD kvs)) :=
  PE.imp (pe_var v.n v.v v.d v.c) fun σ H Q ⟨F, G, S, k⟩ => by
    obtain ⟨a, e, _, _, ws, h1, z, r⟩ := S.sl i _ h
    exact ⟨_, e, k _ F H S.ext (.dk (.inl h1) z (r.mono S.fh.sub))⟩
theorem ev_varT {i : Nat} {x : Str} {kvs : List (List Key × D)} (v : Va X i x) (h : ρ[i]? = some (.ot kvs)) : EV X W true ρ (.Name x pos) (.ok (otD kvs)) :=
  PE.imp (pe_var v.n v.v v.d v.c) fun σ H Q ⟨F, G, S, k⟩ => by
    obtain ⟨a, e, _, _, ws, h1, z, r⟩ := S.sl i _ h
    exact ⟨_, e, k _ F H S.ext (.dt (.inl h1) z (r.mono S.fh.sub))⟩
theorem ev_c {v : V} {d : D} (h : PE X e (tC v)) (r : ∀ F, Rp F v d) : EV X W b ρ e (.ok d) :=
  PE.imp h fun σ H Q ⟨F, G, S, k⟩ => k v F H S.ext (r _)
theorem ev_int {i j} : EV X W b ρ (.Constant (.int i) j pos) (.ok (.int i)) := ev_c pe_int fun _ => .int i
theorem ev_bl {i j} : EV X W b ρ (.Constant (.bool i) j pos) (.ok (.bool i)) := ev_c pe_bl fun _ => .bl i
theorem ev_non {j} : EV X W b ρ (.Constant .none j pos) (.ok .none) := ev_c pe_non fun _ => .non
theorem ev_str {i j} : EV X W b ρ (.Constant (.str i) j pos) (.ok (.str i)) := ev_c pe_str fun _ => .str i
/-- a constant of the module -/
structure Gv (X : Cx) (x : Str) (v : V) (d : D) : Prop where
  g : Gl X x
  m : ∃ u, X.mg x = some u ∧ RelV v u
  db : (x == ("__debug__" : Str)) = false
  r : ∀ F, Rp F v d
theorem ev_glob {x : Str} {v : V} {d : D} (h : Gv X x v d) : EV X W b ρ (.Name x pos) (.ok d) := by
  obtain ⟨u, hm, hr⟩ := h.m
  exact ev_c (pe_glob h.g hm hr h.db) h.r

/-! ### two operands -/
/-- an operator on data -/
def DenO (X : Cx) (m : Rs D) (b : Bool) (F H : Hp) (Q : VK) : Prop := match m with
  | .ok d => ∀ v F' H', Ext F H F' H' → Rp (if b then H' else F') v d → Q v H'
  | _ => False
def rO2 (X : Cx) (b b' : Bool) (g : D → D → Rs D) : R2 := fun x y H Q => ∃ F p q, FH F H ∧ Rp (if b then H else F) x p ∧ Rp (if b then H else F) y q ∧ DenO X (g p q) b' F H Q
/-- what an operator's rule must show: full operands (b = false) or borrowed -/
def Op2 (X : Cx) (b b' : Bool) (f : Value → Value → Sem Value) (g : D → D → Rs D) : Prop := OpR X f (rO2 X b b' g)
def noE (m : Rs D) : Rs D := m.nox
theorem DenE.toO {m : Rs D} {b : Bool} {Q : VK} (h : DenE X W b m.nox F H σ Q) : DenO X m b F H Q := by
  cases m with
  | ok d => exact h
  | exc c => exact h
  | stuck => exact h
theorem bin_den {m1 m2 : Rs D} {g : D → D → Rs D} {b b' : Bool} {Q : VK}
    (S : Ste F G H σ ρ) (k : DenE X W b' (m1.bind fun x => m2.bind fun y => (g x y).nox) F H σ Q) :
    DenE X W b m1 F H σ fun x H1 => rEV X W b ρ m2 σ H1 fun y H2 => rO2 X b b' g x y H2 Q := by
  cases m1 with
  | ok p =>
    intro v F1 H1 x1 r1
    have k1 : DenE X W b' (m2.bind fun y => (g p y).nox) F H σ Q := k
    refine ⟨F1, G, S.mono x1, ?_⟩
    cases m2 with
    | ok q =>
      intro u F2 H2 x2 r2
      have k2 : DenE X W b' (g p q).nox F H σ Q := k1
      exact ⟨F2, p, q, x2.fh, r1.bmono x2, r2, DenE.toO (W := W) (σ := σ) (k2.mono (x1.trans x2))⟩
    | exc c => exact DenX.mono x1.h k1
    | stuck => exact k1
  | exc c => exact k
  | stuck => exact k
theorem ev_op {op : Operator} {m1 m2 : Rs D} {g : D → D → Rs D} {b b' : Bool} (ho : Op2 X b b' (binaryOp op) g) (h1 : EV X W b ρ e1 m1) (h2 : EV X W b ρ e2 m2) :
    EV X W b' ρ (.BinOp e1 op e2 pos) (m1.bind fun x => m2.bind fun y => (g x y).nox) :=
  PE.imp (pe_op ho h1 h2) fun σ H Q ⟨F, G, S, k⟩ => ⟨F, G, S, bin_den S k⟩
theorem ev_cmp {op : CmpOp} {m1 m2 : Rs D} {g : D → D → Rs D} {b b' : Bool} (ho : Op2 X b b' (compareOp op) g) (h1 : EV X W b ρ e1 m1) (h2 : EV X W b ρ e2 m2) (hm : behindInMarks op e2 = false) :
    EV X W b' ρ (.Compare e1 [op] [e2] pos) (m1.bind fun x => m2.bind fun y => (g x y).nox) :=
  PE.imp (pe_cmpR ho h1 h2 hm) fun σ H Q ⟨F, G, S, k⟩ => ⟨F, G, S, bin_den S k⟩
end
end Pu

/-! The pure layer, part 2: operators on data. -/
namespace Pu
open PySem PySem.Spec
open PyProof.Rows L2

/-- room for a comparison and a call -/
abbrev Rm (X : Cx) : Prop := X.A.units + 65 < cLine
theorem Rm.u64 {X : Cx} (h : Rm X) : X.A.units + 64 < cLine := Nat.lt_trans (Nat.lt_succ_self _) h
theorem Rm.u1 {X : Cx} (h : Rm X) : X.A.units + 1 < cLine := Nat.lt_of_le_of_lt (Nat.add_le_add_left (by decide : 1 ≤ 65) _) h

/-! ### what the operators are on data -/
def pAdd : D → D → Rs D
  | .int i, .int j => .ok (.int (i + j))
  | .str a, .str b => if a.length + b.length ≤ sizeLine then .ok (.str (a ++ b)) else .stuck
  | .list a, .list b => if a.length + b.length ≤ sizeLine then .ok (.list (a ++ b)) else .stuck
  | .tuple a, .tuple b => if a.length + b.length ≤ sizeLine then .ok (.tuple (a ++ b)) else .stuck
  | _, _ => .stuck
def pSub : D → D → Rs D
  | .int i, .int j => .ok (.int (i - j))
  | _, _ => .stuck
def mulOk (i j : Int) : Bool := decide (-(2 ^ 64) < i ∧ i < 2 ^ 64) || decide (-(2 ^ 64) < j ∧ j < 2 ^ 64)
def pMul : D → D → Rs D
  | .int i, .int j => if mulOk i j = true then .ok (.int (i * j)) else .stuck
  | .list xs, .int k => if -(2 ^ 63) ≤ k ∧ k < 2 ^ 63 ∧ xs.length * k.toNat ≤ sizeLine then .ok (.list (List.replicate k.toNat xs).flatten) else .stuck
  | .str x, .int k => if 0 ≤ k ∧ k < 2 ^ 20 ∧ x.length * k.toNat ≤ 2 ^ 20 then .ok (.str ⟨(List.replicate k.toNat x.cps.toList).flatten.toArray⟩) else .stuck
  | _, _ => .stuck
def pDiv : D → D → Rs D
  | .int i, .int j => if 0 < j ∧ j < 1073741824 then .ok (.int (i / j)) else .stuck
  | _, _ => .stuck
def pMod : D → D → Rs D
  | .int i, .int j => if 0 < j then .ok (.int (i % j)) else .stuck
  | _, _ => .stuck
def pEq (a b : D) : Rs D := if (SeqAt.shaped a && SeqAt.shaped b) = true then .ok (.bool (PyData.eqv a b)) else .stuck
def pNe (a b : D) : Rs D := if (SeqAt.shaped a && SeqAt.shaped b) = true then .ok (.bool (!PyData.eqv a b)) else .stuck
def pLt : D → D → Rs D
  | .int i, .int j => .ok (.bool (decide (i < j)))
  | .str a, .str b => .ok (.bool (decide (a.cps.toList < b.cps.toList)))
  | _, _ => .stuck
def pLe : D → D → Rs D
  | .int i, .int j => .ok (.bool (decide (i ≤ j)))
  | .str a, .str b => .ok (.bool (!decide (b.cps.toList < a.cps.toList)))
  | _, _ => .stuck
def pGt (a b : D) : Rs D := pLt b a
def pGe (a b : D) : Rs D := pLe b a

section
variable {X : Cx} {b : Bool}
theorem inv_i {F : Hp} {x : V} {i : Int} (h : Rp F x (.int i)) : x = .int i := by cases h; rfl
theorem inv_s {F : Hp} {x : V} {i : Str} (h : Rp F x (.str i)) : x = .str i := by cases h; rfl
theorem inv_b {F : Hp} {x : V} {i : Bool} (h : Rp F x (.bool i)) : x = .bl i := by cases h; rfl
theorem inv_n {F : Hp} {x : V} (h : Rp F x .none) : x = .non := by cases h; rfl
theorem inv_l {F : Hp} {x : V} {ds : List D} (h : Rp F x (.list ds)) : ∃ a xs, x = .ref a ∧ Rd F a (.lst xs) ∧ xs.length ≤ sizeLine ∧ RpA F xs ds := by
  cases h with
  | lst h z r => exact ⟨_, _, rfl, h, z, r⟩
theorem inv_t {F : Hp} {x : V} {ds : List D} (h : Rp F x (.tuple ds)) : ∃ a xs, x = .ref a ∧ F a = some (.tup xs) ∧ xs.length ≤ sizeLine ∧ RpA F xs ds := by
  cases h with
  | tup h z r => exact ⟨_, _, rfl, h, z, r⟩
/-- list + list, whatever is known of them -/
theorem cat_rd : OpR X (binaryOp .Add) (fun x y H Q => ∃ l b xs zs, x = .ref l ∧ y = .ref b ∧ Rd H l (.lst xs) ∧ Rd H b (.lst zs) ∧ xs.length + zs.length ≤ sizeLine ∧ ∀ p, H p = none → Q (.ref p) (upd H p (.lst (xs ++ zs)))) := by
  rintro pins s σ H x y v u Q I rx ry ⟨l, b, xs, zs, rfl, rfl, hH, hB, hz, q⟩
  cases rx
  cases ry
  obtain ⟨z, its, n, r, e⟩ := hH.ok I.hok
  obtain ⟨z2, its2, n2, r2, e2⟩ := hB.ok I.hok
  have hl := r.length
  have hl2 := r2.length
  refine PySem.P.add_list e e2 ?_ (by simp only [List.size_toArray]; omega)
  have eA : its.toArray ++ its2.toArray = (its ++ its2).toArray := by simp
  rw [eA]
  exact ⟨.ref _, _, I.lnew (t' := s.toks) (r.append r2) (by rw [List.length_append]; exact hz), rfl, q _ I.fresh⟩
/-- list * int, whatever is known of the list -/
theorem rep_rd : OpR X (binaryOp .Mult) (fun x y H Q => ∃ l k xs, x = .ref l ∧ y = .int k ∧ Rd H l (.lst xs) ∧ -(2 ^ 63) ≤ k ∧ k < 2 ^ 63 ∧ xs.length * k.toNat ≤ sizeLine ∧
  ∀ p, H p = none → Q (.ref p) (upd H p (.lst (List.replicate k.toNat xs).flatten))) := by
  rintro pins s σ H x y v u Q I rx ry hh
  obtain ⟨c, m, xs, rfl, rfl, hH, g1, g2, gz, q⟩ := hh
  cases rx
  obtain ⟨tk, rfl⟩ := ry
  obtain ⟨z, its, n, r, e⟩ := hH.ok I.hok
  have hl := r.length
  have b1 : its.toArray.size * m.toNat ≤ sizeLine := by simp only [List.size_toArray]; rw [← hl]; exact gz
  have b2 : ¬ its.toArray.size * m.toNat > (2 ^ 63 - 1) / 8 := by
    have w0 : (sizeLine : Nat) ≤ (2 ^ 63 - 1) / 8 := by decide
    omega
  have b3 : ¬ (!Builtin.List.listFitsIndex m) = true := by rw [fitsIndex_both g1 g2]; decide
  have b4 : ¬ Builtin.List.listTooLong (its.toArray.size * m.toNat) = true := by rw [notLongL b1]; decide
  have b5 : List.foldl (fun w1 w2 => w1 ++ w2) #[] (List.replicate (if its.toArray.isEmpty = true then 0 else m.toNat) its.toArray) = (List.replicate m.toNat its).flatten.toArray := by
    have f1 : ∀ j : Nat, List.foldl (fun w1 w2 => w1 ++ w2) #[] (List.replicate j its.toArray) = (List.replicate j its).flatten.toArray := fun j => by
      have w1 := foldl_rep its j []
      rw [List.nil_append] at w1
      exact w1
    rw [f1]
    cases its with
    | nil => simp
    | cons y0 ys => rw [if_neg (by simp)]
  have step : wpAny (model X.prog X.w) X.A (call (.builtin "list.__mul__") [.ref c, .int m tk]) (EP X pins σ Q) X.xe s := by
    refine call_meets F.slot_list_mul ⟨_, e, rfl⟩ F.entry_list_mul (F.args_list_mul_2 _ _) (AutoListH.list___mul___list_int_3 c its.toArray n m tk b3 b2 b4) ⟨e, ?_⟩
    rw [b5]
    exact ⟨.ref _, _, I.lnew (t' := s.toks) (r.rep m.toNat) (by rw [PyProof.Rows.lm_len_rep_flat, Nat.mul_comm]; exact gz), rfl, q _ I.fresh⟩
  exact wpAny_binaryOp_repeat_ref (T := "list") (U := "int") (by decide) ⟨_, e, rfl⟩ (fun s1 => typeIs_int s1 m tk) noFill_list_mul F.fills_int_mul F.slot_int_rmul repeat_list F.slot_int_index.lookup
    (call_meets F.slot_int_rmul (typeIs_int s m tk) F.entry_int_rmul (F.args_int_rmul_2 _ _) (int___rmul___int_list m tk c its.toArray n) ⟨e, rfl, ⟨_, e, rfl⟩, step⟩)
theorem RpA.rep {F : Hp} {xs : List V} {ds : List D} (h : RpA F xs ds) : ∀ n : Nat, RpA F (List.replicate n xs).flatten (List.replicate n ds).flatten
  | 0 => .nil
  | n + 1 => by rw [List.replicate_succ, List.replicate_succ, List.flatten_cons, List.flatten_cons]; exact h.app (RpA.rep h n)
theorem len_rep {α : Type} (l : List α) : ∀ n : Nat, (List.replicate n l).flatten.length = l.length * n
  | 0 => by simp
  | n + 1 => by rw [List.replicate_succ, List.flatten_cons, List.length_append, len_rep l n, Nat.mul_succ, Nat.add_comm]
theorem DenO.nost {m : Rs D} {F H : Hp} {Q : VK} (h : DenO X .stuck b F H Q) {P : Prop} : P := False.elim h
theorem den_ite {c : Prop} [Decidable c] {m : Rs D} {F H : Hp} {Q : VK} (h : DenO X (if c then m else .stuck) b F H Q) : c ∧ DenO X m b F H Q := by
  by_cases hc : c
  · rw [if_pos hc] at h; exact ⟨hc, h⟩
  · rw [if_neg hc] at h; exact h.elim
theorem o_add : Op2 X false b (binaryOp .Add) pAdd := by
  rintro pins s σ H x y v u Q I rx ry ⟨F, p, q, fh, rp, rq, d⟩
  unfold pAdd at d
  split at d
  · rw [inv_i rp] at rx; rw [inv_i rq] at ry
    exact op_add pins s σ H _ _ v u Q I rx ry ⟨_, _, rfl, rfl, d _ F H (.refl fh) (.int _)⟩
  · rw [inv_s rp] at rx; rw [inv_s rq] at ry
    obtain ⟨hc, d⟩ := den_ite d
    exact op_add_str pins s σ H _ _ v u Q I rx ry ⟨_, _, rfl, rfl, hc, d _ F H (.refl fh) (.str _)⟩
  · obtain ⟨a1, xs, rfl, h1, z1, r1⟩ := inv_l rp
    obtain ⟨a2, ys, rfl, h2, z2, r2⟩ := inv_l rq
    obtain ⟨hc, d⟩ := den_ite d
    have hz : xs.length + ys.length ≤ sizeLine := by rw [r1.length, r2.length]; exact hc
    refine cat_rd pins s σ H _ _ v u Q I rx ry ⟨_, _, xs, ys, rfl, rfl, rd_mono fh.sub h1, rd_mono fh.sub h2, hz, fun p hp => ?_⟩
    have x : Ext F H (upd F p (.lst (xs ++ ys))) (upd H p (.lst (xs ++ ys))) := .new fh hp
    exact d _ _ _ x (Rp.up x.fh (.lst (.inl upd_same) (by rw [List.length_append]; exact hz) ((r1.app r2).mono x.f)))
  · obtain ⟨a1, xs, rfl, h1, z1, r1⟩ := inv_t rp
    obtain ⟨a2, ys, rfl, h2, z2, r2⟩ := inv_t rq
    obtain ⟨hc, d⟩ := den_ite d
    have hz : xs.length + ys.length ≤ sizeLine := by rw [r1.length, r2.length]; exact hc
    refine op_catA pins s σ H _ _ v u Q I rx ry ⟨_, _, xs, ys, rfl, rfl, .of (fh.sub _ _ h1), .of (fh.sub _ _ h2), hz, fun e => ?_, fun _ e => ?_, fun _ _ p hp => ?_⟩
    · subst e; cases r1
      exact d _ F H (.refl fh) (Rp.up fh (.tup h2 z2 r2))
    · subst e; cases r2
      exact d _ F H (.refl fh) (Rp.up fh (.tup h1 z1 (by rw [List.append_nil]; exact r1)))
    · have x : Ext F H (upd F p (.tup (xs ++ ys))) (upd H p (.tup (xs ++ ys))) := .new fh hp
      exact d _ _ _ x (Rp.up x.fh (.tup upd_same (by rw [List.length_append]; exact hz) ((r1.app r2).mono x.f)))
  · exact d.elim
theorem o_sub : Op2 X true b (binaryOp .Sub) pSub := by
  rintro pins s σ H x y v u Q I rx ry ⟨F, p, q, fh, rp, rq, d⟩
  unfold pSub at d
  split at d
  · rw [inv_i rp] at rx; rw [inv_i rq] at ry
    exact op_sub pins s σ H _ _ v u Q I rx ry ⟨_, _, rfl, rfl, d _ F H (.refl fh) (.int _)⟩
  · exact d.elim
theorem foldl_cps (l : List Nat) : ∀ (n : Nat) (acc : Array Nat), (List.replicate n l.toArray).foldl (· ++ ·) acc = acc ++ (List.replicate n l).flatten.toArray
  | 0, acc => by simp
  | n + 1, acc => by
    rw [List.replicate_succ, List.foldl_cons, foldl_cps l n, List.replicate_succ, List.flatten_cons]
    simp [Array.append_assoc]
theorem mul_text {x : Str} {k : Int} {t u : Tok} {prog : Program} {w : World} {A : Around} {E : Value → Shared → Prop} {s : Shared} {Q : Value → Shared → Prop} (h0 : 0 ≤ k) (h1 : k < 2 ^ 20) (h2 : x.length * k.toNat ≤ 2 ^ 20)
    (h : ∀ t' tk, Q (.str ⟨(List.replicate k.toNat x.cps.toList).flatten.toArray⟩ t') { s with toks := tk }) : wpAny (model prog w) A (binaryOp .Mult (.str x t) (.int k u)) Q E s := by
  have hx : ∀ n : Nat, n ≠ 0 → x.length ≤ x.length * n := fun n hn => Nat.le_mul_of_pos_right _ (Nat.pos_of_ne_zero hn)
  refine PySem.P.mul_str ?_ (fun hk _ => ?_) (fun hk _ => ?_) ?_
  · have a : ¬ k < -(2 ^ 63 : Int) := by omega
    have c : ¬ k ≥ 2 ^ 63 := by omega
    rw [decide_eq_false a, decide_eq_false c]; rfl
  · have hn : k.toNat ≠ 0 := by omega
    have h3 := Nat.le_trans (hx _ hn) h2
    intro z
    have h4 : (2 ^ 63 - 1) / (2 ^ 20 : Int) ≤ (2 ^ 63 - 1) / k := by
      refine Int.le_ediv_of_mul_le (by omega) ?_
      have : (2 ^ 63 - 1 : Int) / 2 ^ 20 = 8796093022207 := by decide
      rw [this]
      have h5 : 8796093022207 * k ≤ 8796093022207 * 2 ^ 20 := Int.mul_le_mul_of_nonneg_left (by omega) (by decide)
      omega
    have : (2 ^ 63 - 1 : Int) / 2 ^ 20 = 8796093022207 := by decide
    rw [this] at h4
    omega
  · show decide _ = false
    refine decide_eq_false ?_
    intro z
    have : (sizeLine : Nat) = 16777216 := sizeLine_eq
    omega
  · have fin : ∀ t' tk, Q (.str ⟨(List.replicate k.toNat x.cps.toList).flatten.toArray⟩ t') { s with toks := tk } := h
    have lens : (⟨(List.replicate k.toNat x.cps.toList).flatten.toArray⟩ : Str).length ≤ sizeLine := by
      show ((List.replicate k.toNat x.cps.toList).flatten.toArray).size ≤ sizeLine
      rw [List.size_toArray, len_rep, Array.length_toList, sizeLine_eq]
      have : x.cps.size * k.toNat ≤ 2 ^ 20 := h2
      omega
    by_cases hk : k < 1
    · rw [if_pos hk]
      have e : k.toNat = 0 := by omega
      rw [e] at fin
      exact ⟨by decide, fin _ _⟩
    · rw [if_neg hk]
      by_cases hc : (k == 1 || x.length == 0) = true
      · rw [if_pos hc]
        have e : (⟨(List.replicate k.toNat x.cps.toList).flatten.toArray⟩ : Str) = x := by
          refine Str.ext' ?_
          show (List.replicate k.toNat x.cps.toList).flatten.toArray = x.cps
          rw [Bool.or_eq_true] at hc
          rcases hc with hc | hc
          · have : k = 1 := by simpa using hc
            rw [this]; simp
          · have e0 : x.cps.toList = [] := by
              have : x.cps.size = 0 := by simpa [Str.length] using hc
              exact List.eq_nil_of_length_eq_zero (by rw [Array.length_toList]; exact this)
            rw [e0]
            have : x.cps = #[] := by rw [← Array.toArray_toList (xs := x.cps), e0]
            rw [this]
            simp
        rw [e] at fin
        exact fin _ _
      · rw [if_neg hc]
        have e : (List.replicate k.toNat x.cps).foldl (· ++ ·) #[] = (List.replicate k.toNat x.cps.toList).flatten.toArray := by
          have := foldl_cps x.cps.toList k.toNat #[]
          rw [Array.toArray_toList] at this
          rw [this]; simp
        rw [e]
        exact ⟨lens, fin _ _⟩
theorem o_mul : Op2 X false b (binaryOp .Mult) pMul := by
  rintro pins s σ H x y v u Q I rx ry ⟨F, p, q, fh, rp, rq, d⟩
  unfold pMul at d
  split at d
  · rename_i i j
    rw [inv_i rp] at rx; rw [inv_i rq] at ry
    obtain ⟨hc, d⟩ := den_ite d
    have hc' : CMul i j := by
      unfold mulOk at hc
      rw [Bool.or_eq_true] at hc
      exact hc.imp of_decide_eq_true of_decide_eq_true
    exact op_mul pins s σ H _ _ v u Q I rx ry ⟨_, _, rfl, rfl, hc', d _ F H (.refl fh) (.int _)⟩
  · rename_i ds k
    obtain ⟨a1, xs, rfl, h1, z1, r1⟩ := inv_l rp
    rw [inv_i rq] at ry
    obtain ⟨⟨c1, c2, c3⟩, d⟩ := den_ite d
    have hz : xs.length * k.toNat ≤ sizeLine := by rw [r1.length]; exact c3
    refine rep_rd pins s σ H _ _ v u Q I rx ry ⟨_, _, xs, rfl, rfl, rd_mono fh.sub h1, c1, c2, hz, fun p hp => ?_⟩
    have x : Ext F H (upd F p (.lst (List.replicate k.toNat xs).flatten)) (upd H p (.lst (List.replicate k.toNat xs).flatten)) := .new fh hp
    exact d _ _ _ x (Rp.up x.fh (.lst (.inl upd_same) (by rw [len_rep]; exact hz) ((r1.rep _).mono x.f)))
  · rw [inv_s rp] at rx; rw [inv_i rq] at ry
    obtain ⟨⟨c1, c2, c3⟩, d⟩ := den_ite d
    obtain ⟨t1, rfl⟩ := rx
    obtain ⟨t2, rfl⟩ := ry
    exact mul_text c1 c2 c3 fun t' tk => ⟨.str _, H, I.tok _, ⟨_, rfl⟩, d _ F H (.refl fh) (.str _)⟩
  · exact d.elim
theorem o_div : Op2 X true b (binaryOp .FloorDiv) pDiv := by
  rintro pins s σ H x y v u Q I rx ry ⟨F, p, q, fh, rp, rq, d⟩
  unfold pDiv at d
  split at d
  · rw [inv_i rp] at rx; rw [inv_i rq] at ry
    obtain ⟨hc, d⟩ := den_ite d
    exact op_fdiv pins s σ H _ _ v u Q I rx ry ⟨_, _, rfl, rfl, hc, d _ F H (.refl fh) (.int _)⟩
  · exact d.elim
theorem o_mod : Op2 X true b (binaryOp .Mod) pMod := by
  rintro pins s σ H x y v u Q I rx ry ⟨F, p, q, fh, rp, rq, d⟩
  unfold pMod at d
  split at d
  · rw [inv_i rp] at rx; rw [inv_i rq] at ry
    obtain ⟨hc, d⟩ := den_ite d
    exact op_mod pins s σ H _ _ v u Q I rx ry ⟨_, _, rfl, rfl, hc, d _ F H (.refl fh) (.int _)⟩
  · exact d.elim
theorem o_eq (hu : Rm X) : Op2 X true b (compareOp .Eq) pEq := by
  rintro pins s σ H x y v u Q I rx ry ⟨F, p, q, fh, rp, rq, d⟩
  obtain ⟨hc, d⟩ := den_ite d
  rw [Bool.and_eq_true] at hc
  exact op_eqD hu.u64 pins s σ H _ _ v u Q I rx ry ⟨p, q, rp.dp (SeqAt.canLay_of_shaped hc.1), rq.dp (SeqAt.canLay_of_shaped hc.2), hc.1, hc.2, d _ F H (.refl fh) (.bl _)⟩
theorem o_ne (hu : Rm X) : Op2 X true b (compareOp .NotEq) pNe := by
  rintro pins s σ H x y v u Q I rx ry ⟨F, p, q, fh, rp, rq, d⟩
  obtain ⟨hc, d⟩ := den_ite d
  rw [Bool.and_eq_true] at hc
  exact op_neD hu.u64 pins s σ H _ _ v u Q I rx ry ⟨p, q, rp.dp (SeqAt.canLay_of_shaped hc.1), rq.dp (SeqAt.canLay_of_shaped hc.2), hc.1, hc.2, d _ F H (.refl fh) (.bl _)⟩
theorem o_lt : Op2 X true b (compareOp .Lt) pLt := by
  rintro pins s σ H x y v u Q I rx ry ⟨F, p, q, fh, rp, rq, d⟩
  unfold pLt at d
  split at d
  · rw [inv_i rp] at rx; rw [inv_i rq] at ry
    exact op_lt pins s σ H _ _ v u Q I rx ry ⟨_, _, rfl, rfl, d _ F H (.refl fh) (.bl _)⟩
  · rw [inv_s rp] at rx; rw [inv_s rq] at ry
    exact op_lt_str pins s σ H _ _ v u Q I rx ry ⟨_, _, rfl, rfl, d _ F H (.refl fh) (.bl _)⟩
  · exact d.elim
theorem o_le : Op2 X true b (compareOp .LtE) pLe := by
  rintro pins s σ H x y v u Q I rx ry ⟨F, p, q, fh, rp, rq, d⟩
  unfold pLe at d
  split at d
  · rw [inv_i rp] at rx; rw [inv_i rq] at ry
    exact op_le pins s σ H _ _ v u Q I rx ry ⟨_, _, rfl, rfl, d _ F H (.refl fh) (.bl _)⟩
  · rw [inv_s rp] at rx; rw [inv_s rq] at ry
    exact op_le_str pins s σ H _ _ v u Q I rx ry ⟨_, _, rfl, rfl, d _ F H (.refl fh) (.bl _)⟩
  · exact d.elim
theorem o_gt : Op2 X true b (compareOp .Gt) pGt := by
  rintro pins s σ H x y v u Q I rx ry ⟨F, p, q, fh, rp, rq, d⟩
  unfold pGt pLt at d
  split at d
  · rw [inv_i rp] at rx; rw [inv_i rq] at ry
    exact op_gt pins s σ H _ _ v u Q I rx ry ⟨_, _, rfl, rfl, d _ F H (.refl fh) (.bl _)⟩
  · rw [inv_s rp] at rx; rw [inv_s rq] at ry
    exact op_gt_str pins s σ H _ _ v u Q I rx ry ⟨_, _, rfl, rfl, d _ F H (.refl fh) (.bl _)⟩
  · exact d.elim
theorem o_ge : Op2 X true b (compareOp .GtE) pGe := by
  rintro pins s σ H x y v u Q I rx ry ⟨F, p, q, fh, rp, rq, d⟩
  unfold pGe pLe at d
  split at d
  · rw [inv_i rp] at rx; rw [inv_i rq] at ry
    exact op_ge pins s σ H _ _ v u Q I rx ry ⟨_, _, rfl, rfl, d _ F H (.refl fh) (.bl _)⟩
  · rw [inv_s rp] at rx; rw [inv_s rq] at ry
    exact op_ge_str pins s σ H _ _ v u Q I rx ry ⟨_, _, rfl, rfl, d _ F H (.refl fh) (.bl _)⟩
  · exact d.elim

/-! ### is None; in -/
def pIsN : D → D → Rs D
  | .none, .none => .ok (.bool true)
  | _, .none => .ok (.bool false)
  | _, _ => .stuck
def pNotN : D → D → Rs D
  | .none, .none => .ok (.bool false)
  | _, .none => .ok (.bool true)
  | _, _ => .stuck
theorem o_isN : Op2 X true b (compareOp .Is) pIsN := by
  rintro pins s σ H x y v u Q I rx ry ⟨F, p, q, fh, rp, rq, d⟩
  unfold pIsN at d
  split at d
  · rw [inv_n rp] at rx; rw [inv_n rq] at ry
    exact op_isN pins s σ H _ _ v u Q I rx ry ⟨rfl, d _ F H (.refl fh) (.bl _)⟩
  · rename_i hp
    rw [inv_n rq] at ry
    have e : decide (x = .non) = false := decide_eq_false fun e => by subst e; cases rp; exact hp rfl
    refine op_isN pins s σ H _ _ v u Q I rx ry ⟨rfl, ?_⟩
    rw [e]
    exact d _ F H (.refl fh) (.bl _)
  · exact d.elim
theorem o_notN : Op2 X true b (compareOp .IsNot) pNotN := by
  rintro pins s σ H x y v u Q I rx ry ⟨F, p, q, fh, rp, rq, d⟩
  unfold pNotN at d
  split at d
  · rw [inv_n rp] at rx; rw [inv_n rq] at ry
    exact op_notN pins s σ H _ _ v u Q I rx ry ⟨rfl, d _ F H (.refl fh) (.bl _)⟩
  · rename_i hp
    rw [inv_n rq] at ry
    have e : decide (x = .non) = false := decide_eq_false fun e => by subst e; cases rp; exact hp rfl
    refine op_notN pins s σ H _ _ v u Q I rx ry ⟨rfl, ?_⟩
    rw [e]
    exact d _ F H (.refl fh) (.bl _)
  · exact d.elim
/-- a dict's key, of a datum -/
def keyOf : D → Option Key
  | .int i => some (.inl i)
  | .str x => some (.inr x)
  | _ => none
def keysOf : List D → Option (List Key)
  | [] => some []
  | d :: ds => match keyOf d, keysOf ds with
    | some k, some ks => some (k :: ks)
    | _, _ => none
theorem keyOf_eq : ∀ {d : D} {k : Key}, keyOf d = some k → d = keyD k
  | .int i, _, h => by cases h; rfl
  | .str x, _, h => by cases h; rfl
theorem keysOf_eq : ∀ {d : List D} {k : List Key}, keysOf d = some k → d = k.map keyD
  | [], k, h => by cases h; rfl
  | d :: ds, k, h => by
    unfold keysOf at h
    split at h
    · rename_i k1 ks h1 h2
      cases h
      rw [List.map_cons, ← keyOf_eq h1, ← keysOf_eq h2]
    · cases h
theorem keyOf_keyD (k : Key) : keyOf (keyD k) = some k := by cases k <;> rfl
theorem keysOf_map : ∀ k : List Key, keysOf (k.map keyD) = some k
  | [] => rfl
  | k :: ks => by rw [List.map_cons, keysOf, keyOf_keyD, keysOf_map ks]
theorem rp_key {F : Hp} {v : V} : ∀ {k : Key}, Rp F v (keyD k) → v = kV k
  | .inl _, h => inv_i h
  | .inr _, h => inv_s h
theorem rp_keys {F : Hp} : ∀ {ks : List Key} {vs : List V}, RpA F vs (ks.map keyD) → vs = ks.map kV
  | [], _, h => by cases h; rfl
  | k :: ks, _, h => by
    cases h with
    | cons a r => rw [rp_key a, rp_keys r]; rfl
/-- a dict's pairs -/
def pairsK : List (D × D) → Option (List (Key × D))
  | [] => some []
  | (a, v) :: r => match keyOf a, pairsK r with
    | some k, some l => some ((k, v) :: l)
    | _, _ => none
def pairsT : List (D × D) → Option (List (List Key × D))
  | [] => some []
  | (.tuple a, v) :: r => match keysOf a, pairsT r with
    | some k, some l => some ((k, v) :: l)
    | _, _ => none
  | _ :: _ => none
inductive DD where
  | k (kvs : List (Key × D))
  | t (kvs : List (List Key × D))
def ddOf : D → Option DD
  | .dict ((.none, .none) :: r) => (pairsT r).map .t
  | .dict r => (pairsK r).map .k
  | _ => none
theorem pairsK_map : ∀ kvs : List (Key × D), pairsK (kvs.map fun p => (keyD p.1, p.2)) = some kvs
  | [] => rfl
  | (k, v) :: r => by rw [List.map_cons, pairsK, keyOf_keyD, pairsK_map r]
theorem pairsT_map : ∀ kvs : List (List Key × D), pairsT (kvs.map fun p => (PyData.tuple (p.1.map keyD), p.2)) = some kvs
  | [] => rfl
  | (k, v) :: r => by rw [List.map_cons, pairsT, keysOf_map, pairsT_map r]
@[simp] theorem ddOf_k (kvs : List (Key × D)) : ddOf (okD kvs) = some (.k kvs) := by
  cases kvs with
  | nil => rfl
  | cons p r =>
    obtain ⟨k, v⟩ := p
    have : ddOf (okD ((k, v) :: r)) = (pairsK (((k, v) :: r).map fun p => (keyD p.1, p.2))).map .k := by cases k <;> rfl
    rw [this, pairsK_map]; rfl
@[simp] theorem ddOf_t (kvs : List (List Key × D)) : ddOf (otD kvs) = some (.t kvs) := by
  have : ddOf (otD kvs) = (pairsT (kvs.map fun p => (PyData.tuple (p.1.map keyD), p.2))).map .t := rfl
  rw [this, pairsT_map]; rfl
theorem inv_dd {F : Hp} {v : V} {d : D} : Rp F v d → ∀ {x : DD}, ddOf d = some x → ∃ a, v = .ref a ∧ ((∃ ws kvs, x = .k kvs ∧ Rd F a (.dK ws) ∧ ws.map (·.1) = kvs.map (·.1) ∧ RpA F (ws.map (·.2)) (kvs.map (·.2))) ∨
    ∃ ws kvs, x = .t kvs ∧ Rd F a (.dT ws) ∧ ws.map (·.1) = kvs.map (·.1) ∧ RpA F (ws.map (·.2)) (kvs.map (·.2)))
  | .non, _, h => by cases h
  | .bl _, _, h => by cases h
  | .int _, _, h => by cases h
  | .str _, _, h => by cases h
  | .lst _ _ _, _, h => by cases h
  | .tup _ _ _, _, h => by cases h
  | .dk h1 h2 h3, _, h => by rw [ddOf_k] at h; cases h; exact ⟨_, rfl, .inl ⟨_, _, rfl, h1, h2, h3⟩⟩
  | .dt h1 h2 h3, _, h => by rw [ddOf_t] at h; cases h; exact ⟨_, rfl, .inr ⟨_, _, rfl, h1, h2, h3⟩⟩
/-- the value at a key -/
def lookK {κ : Type} [DecidableEq κ] (kvs : List (κ × D)) (k : κ) : Option D := (kvs.find? fun kv => decide (kv.1 = k)).map (·.2)
theorem rp_look {κ : Type} [DecidableEq κ] {F : Hp} (k : κ) : ∀ {ws : List (κ × V)} {kvs : List (κ × D)}, ws.map (·.1) = kvs.map (·.1) → RpA F (ws.map (·.2)) (kvs.map (·.2)) →
    (valV ws k = none ∧ lookK kvs k = none) ∨ ∃ v d, valV ws k = some v ∧ lookK kvs k = some d ∧ Rp F v d
  | [], [], _, _ => .inl ⟨rfl, rfl⟩
  | [], _ :: _, hh, _ => by cases hh
  | _ :: _, [], hh, _ => by cases hh
  | (a, v) :: ws, (c, d) :: kvs, h, r => by
    rw [List.map_cons, List.map_cons] at h r
    cases r with
    | cons r0 r =>
      have h1 : a = c := (List.cons.inj h).1
      have h2 := (List.cons.inj h).2
      subst h1
      by_cases e : a = k
      · exact .inr ⟨v, d, valV_pos e, by simp [lookK, List.find?_cons, e], r0⟩
      · have e1 : valV ((a, v) :: ws) k = valV ws k := valV_neg e
        have e2 : lookK ((a, d) :: kvs) k = lookK kvs k := by simp [lookK, List.find?_cons, e]
        rw [e1, e2]
        exact rp_look k h2 r
/-- d[k], by data -/
def getD? (d k : D) : Option (Option D) := match ddOf d with
  | some (.k kvs) => (keyOf k).map (lookK kvs)
  | some (.t kvs) => match k with
    | .tuple ks => (keysOf ks).map (lookK kvs)
    | _ => none
  | none => none
theorem rp_get {H : Hp} {v kv : V} {d k : D} {o : Option D} (hd : Rp H v d) (hk : Rp H kv k) (h : getD? d k = some o) :
    ∃ a ov, v = .ref a ∧ DGet H a kv ov ∧ ((ov = none ∧ o = none) ∨ ∃ u x, ov = some u ∧ o = some x ∧ Rp H u x) := by
  unfold getD? at h
  split at h
  · rename_i kvs e
    obtain ⟨a, rfl, ⟨ws, kvs', e', h1, h2, h3⟩ | ⟨ws, kvs', e', _⟩⟩ := inv_dd hd e
    · cases e'
      obtain ⟨kk, hkk, ho⟩ := Option.map_eq_some_iff.mp h
      have ek := keyOf_eq hkk
      subst ek
      have := rp_key hk
      subst this
      refine ⟨a, valV ws kk, rfl, .inl ⟨ws, kk, h1, rfl, rfl⟩, ?_⟩
      rw [← ho]
      exact rp_look kk h2 h3
    · cases e'
  · rename_i kvs e
    obtain ⟨a, rfl, ⟨ws, kvs', e', _⟩ | ⟨ws, kvs', e', h1, h2, h3⟩⟩ := inv_dd hd e
    · cases e'
    · cases e'
      split at h
      · obtain ⟨kk, hkk, ho⟩ := Option.map_eq_some_iff.mp h
        have ek := keysOf_eq hkk
        subst ek
        obtain ⟨c, xs, rfl, hc, _, hx⟩ := inv_t hk
        have := rp_keys hx
        subst this
        refine ⟨a, valV ws kk, rfl, .inr ⟨ws, kk, c, h1, rfl, hc, rfl⟩, ?_⟩
        rw [← ho]
        exact rp_look kk h2 h3
      · cases h
  · cases h
def pIn (x y : D) : Rs D := match y with
  | .str t => match x with
    | .str c => if c.cps.size = 1 then .ok (.bool (decide (c.cps.getD 0 0 ∈ t.cps.toList))) else .stuck
    | _ => .stuck
  | .list ds => if (SeqAt.shaped x && SeqAt.shaped (.list ds)) = true then .ok (.bool (ds.any fun z => PyData.eqv z x)) else .stuck
  | .tuple ds => if (SeqAt.shaped x && SeqAt.shaped (.tuple ds)) = true then .ok (.bool (ds.any fun z => PyData.eqv z x)) else .stuck
  | d => match getD? d x with
    | some o => .ok (.bool o.isSome)
    | none => .stuck
def pNotIn (x y : D) : Rs D := match y with
  | .str t => match x with
    | .str c => if c.cps.size = 1 then .ok (.bool (!decide (c.cps.getD 0 0 ∈ t.cps.toList))) else .stuck
    | _ => .stuck
  | .list ds => if (SeqAt.shaped x && SeqAt.shaped (.list ds)) = true then .ok (.bool (!ds.any fun z => PyData.eqv z x)) else .stuck
  | .tuple ds => if (SeqAt.shaped x && SeqAt.shaped (.tuple ds)) = true then .ok (.bool (!ds.any fun z => PyData.eqv z x)) else .stuck
  | d => match getD? d x with
    | some o => .ok (.bool (!o.isSome))
    | none => .stuck
theorem one_sign {c : Str} (h : c.cps.size = 1) : c = ⟨#[c.cps.getD 0 0]⟩ := by
  refine Str.ext' ?_
  obtain ⟨a⟩ := c
  show a = #[a.getD 0 0]
  have h' : a.size = 1 := h
  match a, h' with
  | ⟨[x]⟩, _ => rfl
theorem reads_of {pins : List (Addr × Obj)} {σ : L2.St} {H : Hp} {s : Shared} {v : V} {u : Value} {d : D} (I : Inv X pins σ H s) (r : RelV v u) (h : Rp H v d) (hs : SeqAt.shaped d = true) : ∃ as, Reads s.heap u d as :=
  Dp.reads I d v u (h.dp (SeqAt.canLay_of_shaped hs)) r
theorem room_in {A : Around} {xs : List D} {d : D} (hd : SeqAt.shaped d = true) (hu : A.units + 65 < cLine) : A.units + 1 + min (PyData.depthAll xs) d.depth < cLine := by
  have h1 := SeqAt.depth_of_shaped hd
  have hm : min (PyData.depthAll xs) d.depth ≤ d.depth := Nat.min_le_right _ _
  omega
theorem o_in (hu : Rm X) : Op2 X true b (compareOp .In) pIn := by
  rintro pins s σ H x y v u Q I rx ry ⟨F, p, q, fh, rp, rq, d⟩
  unfold pIn at d
  split at d
  · split at d
    · rw [inv_s rp] at rx; rw [inv_s rq] at ry
      obtain ⟨hc, d⟩ := den_ite d
      have e := one_sign hc
      rw [e] at rx
      exact op_in_sign pins s σ H _ _ v u Q I rx ry ⟨_, _, rfl, rfl, d _ F H (.refl fh) (.bl _)⟩
    · exact d.elim
  · obtain ⟨hc, d⟩ := den_ite d
    rw [Bool.and_eq_true] at hc
    obtain ⟨as, r1⟩ := reads_of I rx rp hc.1
    obtain ⟨bs, r2⟩ := reads_of I ry rq hc.2
    exact SeqAt.in_list_reads r2 r1 (SeqAt.canLay_of_shaped hc.2) (SeqAt.canLay_of_shaped hc.1) (room_in hc.1 hu) ⟨.bl _, H, I, rfl, d _ F H (.refl fh) (.bl _)⟩
  · obtain ⟨hc, d⟩ := den_ite d
    rw [Bool.and_eq_true] at hc
    obtain ⟨as, r1⟩ := reads_of I rx rp hc.1
    obtain ⟨bs, r2⟩ := reads_of I ry rq hc.2
    exact SeqAt.in_tuple_reads r2 r1 (SeqAt.canLay_of_shaped hc.2) (SeqAt.canLay_of_shaped hc.1) (room_in hc.1 hu) ⟨.bl _, H, I, rfl, d _ F H (.refl fh) (.bl _)⟩
  · split at d
    · rename_i o ho
      obtain ⟨a, ov, rfl, g, e⟩ := rp_get rq rp ho
      cases ry
      refine d_in hu.u1 I g rx fun s' I' => ⟨.bl _, H, I', rfl, ?_⟩
      have : ov.isSome = o.isSome := by
        rcases e with ⟨e1, e2⟩ | ⟨_, _, e1, e2, _⟩ <;> rw [e1, e2] <;> rfl
      rw [this]
      exact d _ F H (.refl fh) (.bl _)
    · exact d.elim
theorem o_notin (hu : Rm X) : Op2 X true b (compareOp .NotIn) pNotIn := by
  rintro pins s σ H x y v u Q I rx ry ⟨F, p, q, fh, rp, rq, d⟩
  unfold pNotIn at d
  split at d
  · split at d
    · rw [inv_s rp] at rx; rw [inv_s rq] at ry
      obtain ⟨hc, d⟩ := den_ite d
      have e := one_sign hc
      rw [e] at rx
      exact op_notIn_sign pins s σ H _ _ v u Q I rx ry ⟨_, _, rfl, rfl, d _ F H (.refl fh) (.bl _)⟩
    · exact d.elim
  · obtain ⟨hc, d⟩ := den_ite d
    rw [Bool.and_eq_true] at hc
    obtain ⟨as, r1⟩ := reads_of I rx rp hc.1
    obtain ⟨bs, r2⟩ := reads_of I ry rq hc.2
    exact SeqAt.notIn_list_reads r2 r1 (SeqAt.canLay_of_shaped hc.2) (SeqAt.canLay_of_shaped hc.1) (room_in hc.1 hu) ⟨.bl _, H, I, rfl, d _ F H (.refl fh) (.bl _)⟩
  · obtain ⟨hc, d⟩ := den_ite d
    rw [Bool.and_eq_true] at hc
    obtain ⟨as, r1⟩ := reads_of I rx rp hc.1
    obtain ⟨bs, r2⟩ := reads_of I ry rq hc.2
    exact SeqAt.notIn_tuple_reads r2 r1 (SeqAt.canLay_of_shaped hc.2) (SeqAt.canLay_of_shaped hc.1) (room_in hc.1 hu) ⟨.bl _, H, I, rfl, d _ F H (.refl fh) (.bl _)⟩
  · split at d
    · rename_i o ho
      obtain ⟨a, ov, rfl, g, e⟩ := rp_get rq rp ho
      cases ry
      refine d_notIn hu.u1 I g rx fun s' I' => ⟨.bl _, H, I', rfl, ?_⟩
      have : ov.isSome = o.isSome := by
        rcases e with ⟨e1, e2⟩ | ⟨_, _, e1, e2, _⟩ <;> rw [e1, e2] <;> rfl
      rw [this]
      exact d _ F H (.refl fh) (.bl _)
    · exact d.elim
end
end Pu

/-! The pure layer, part 3: tests, subscripts, displays, calls. -/
namespace Pu
open PySem PySem.Spec
open PyProof.Rows L2

theorem PE.or {X : Cx} {e : Expr} {t u : TE} (h : PE X e t) (h' : PE X e u) : PE X e (fun σ H Q => t σ H Q ∨ u σ H Q) :=
  ⟨fun pins s σ H Q I q => q.elim (h.run pins s σ H Q I) (h'.run pins s σ H Q I)⟩

/-! ### tests -/
def asB : D → Rs Bool
  | .bool b => .ok b
  | _ => .stuck
def Rs.andB (m n : Rs Bool) : Rs Bool := m.bind fun c => if c = true then n else .ok false
def Rs.orB (m n : Rs Bool) : Rs Bool := m.bind fun c => if c = true then .ok true else n
def Rs.notB (m : Rs Bool) : Rs Bool := m.bind fun c => .ok (!c)
section
variable {X : Cx} {W : WX} {b : Bool} {ρ : List Sl} {e e1 e2 e3 : Expr} {pos : Pos} {rest : List Expr}
theorem den_asB {m : Rs D} {F H : Hp} {σ : L2.St} {Q : Bool → Hp → Prop} (k : DenT X W (m.bind Pu.asB) F H σ Q) : DenE X W b m F H σ fun x H1 => ∃ c, x = .bl c ∧ Q c H1 := by
  cases m with
  | ok d =>
    have k' : DenT X W (Pu.asB d) F H σ Q := k
    intro v F' H' x r
    cases d with
    | bool c => exact ⟨c, inv_b r, k' F' H' x⟩
    | _ => exact k'.elim
  | exc c => exact k
  | stuck => exact k
theorem et_val {m : Rs D} (h : EV X W b ρ e m) (he : ∀ whole, isTrue e X.env whole = (do let v ← whole; standAt e.pos; holding [v] (truthy v)) := by intro _; rfl) : ET X W ρ e (m.bind asB) :=
  PT.imp (pt_val h he) fun σ H Q ⟨F, G, S, k⟩ => ⟨F, G, S, den_asB k⟩
theorem et_cmp {op : CmpOp} {m1 m2 : Rs D} {g : D → D → Rs D} {b : Bool} (ho : Op2 X b true (compareOp op) g) (h1 : EV X W b ρ e1 m1) (h2 : EV X W b ρ e2 m2) (hm : behindInMarks op e2 = false) :
    ET X W ρ (.Compare e1 [op] [e2] pos) ((m1.bind fun x => m2.bind fun y => (g x y).nox).bind asB) :=
  PT.imp (pt_cmpR ho h1 h2 hm) fun σ H Q ⟨F, G, S, k⟩ => ⟨F, G, S, bin_den (b' := true) (W := W) S (den_asB k)⟩
theorem DenT.step {m : Rs Bool} {k : Bool → Rs Bool} {F G H : Hp} {σ : L2.St} {Q : Bool → Hp → Prop} (S : Ste F G H σ ρ) (h : DenT X W (m.bind k) F H σ Q) :
    DenT X W m F H σ fun c H1 => ∃ F1, Ste F1 G H1 σ ρ ∧ Ext F H F1 H1 ∧ DenT X W (k c) F1 H1 σ Q := by
  cases m with
  | ok c =>
    have h' : DenT X W (k c) F H σ Q := h
    exact fun F' H' x => ⟨F', S.mono x, x, h'.mono x⟩
  | exc c => exact h
  | stuck => exact h
/-- and, or: one more test ahead -/
structure EW (X : Cx) (W : WX) (ρ : List Sl) (op : BoolOp) (es : List Expr) (m : Rs Bool) : Prop where
  run : ∀ pos, PW X (.BoolOp op es pos) (rET X W ρ m)
theorem PW.imp {X : Cx} {e : Expr} {t u : TT} (h : PW X e t) (i : ∀ σ H Q, u σ H Q → t σ H Q) : PW X e u :=
  ⟨fun w pins s σ H Q I q => h.run w pins s σ H Q I (i σ H Q q)⟩
theorem ew_and1 {m : Rs Bool} (h : ET X W ρ e m) : EW X W ρ .And [e] m := ⟨fun _ => pw_and1 h⟩
theorem ew_or1 {m : Rs Bool} (h : ET X W ρ e m) : EW X W ρ .Or [e] m := ⟨fun _ => pw_or1 h⟩
theorem ew_and {m n : Rs Bool} (h : ET X W ρ e m) (h2 : EW X W ρ .And (e2 :: rest) n) : EW X W ρ .And (e :: e2 :: rest) (m.andB n) :=
  ⟨fun pos => PW.imp (pw_and h (h2.run pos)) fun σ H Q ⟨F, G, S, k⟩ => ⟨F, G, S, by
    have q := DenT.step S k
    cases m with
    | ok c =>
      intro F' H' x
      obtain ⟨F1, S1, _, k1⟩ := q F' H' x
      cases c with
      | true => exact ⟨F1, G, S1, k1⟩
      | false => exact k1 F1 H' S1.ext
    | exc c => exact q
    | stuck => exact q⟩⟩
theorem ew_or {m n : Rs Bool} (h : ET X W ρ e m) (h2 : EW X W ρ .Or (e2 :: rest) n) : EW X W ρ .Or (e :: e2 :: rest) (m.orB n) :=
  ⟨fun pos => PW.imp (pw_or h (h2.run pos)) fun σ H Q ⟨F, G, S, k⟩ => ⟨F, G, S, by
    have q := DenT.step S k
    cases m with
    | ok c =>
      intro F' H' x
      obtain ⟨F1, S1, _, k1⟩ := q F' H' x
      cases c with
      | false => exact ⟨F1, G, S1, k1⟩
      | true => exact k1 F1 H' S1.ext
    | exc c => exact q
    | stuck => exact q⟩⟩
theorem et_bool {op : BoolOp} {es : List Expr} {m : Rs Bool} (h : EW X W ρ op es m) : ET X W ρ (.BoolOp op es pos) m := (h.run pos).pt
theorem et_not {m : Rs Bool} (h : ET X W ρ e m) : ET X W ρ (.UnaryOp .Not e pos) m.notB :=
  PT.imp (pt_not h) fun σ H Q ⟨F, G, S, k⟩ => ⟨F, G, S, by
    cases m with
    | ok c => exact fun F' H' x => k F' H' x
    | exc c => exact k
    | stuck => exact k⟩
/-- a test's value -/
def Rs.val (m : Rs Bool) : Rs D := m.bind fun c => .ok (.bool c)
theorem ev_not {m : Rs D} (h : EV X W true ρ e m) : EV X W b ρ (.UnaryOp .Not e pos) ((m.bind asB).notB.val) :=
  PE.imp (pe_not h) fun σ H Q ⟨F, G, S, k⟩ => ⟨F, G, S, by
    cases m with
    | ok d =>
      intro v F' H' x r
      cases d with
      | bool c =>
        have k' : DenE X W b (.ok (.bool (!c))) F H σ Q := k
        exact ⟨c, inv_b r, k' _ F' H' x (.bl _)⟩
      | _ => exact (show False from k).elim
    | exc c => exact k
    | stuck => exact k⟩
/-- and, or as values of truths -/
structure EVW (X : Cx) (W : WX) (b : Bool) (ρ : List Sl) (op : BoolOp) (es : List Expr) (m : Rs D) : Prop where
  run : ∀ pos, EV X W b ρ (.BoolOp op es pos) m
theorem evw_one {op : BoolOp} {m : Rs D} (h : EV X W b ρ e m) : EVW X W b ρ op [e] m := ⟨fun _ => pe_one h⟩
theorem evw_and {m n : Rs D} (h : EV X W true ρ e m) (h2 : EVW X W b ρ .And (e2 :: rest) n) : EVW X W b ρ .And (e :: e2 :: rest) ((m.bind asB).bind fun c => if c = true then n else .ok (.bool false)) :=
  ⟨fun pos => PE.imp (pe_and h (h2.run pos)) fun σ H Q ⟨F, G, S, k⟩ => ⟨F, G, S, by
    cases m with
    | ok d =>
      intro v F' H' x r
      cases d with
      | bool c =>
        refine ⟨c, inv_b r, ?_⟩
        cases c with
        | true => exact ⟨F', G, S.mono x, (show DenE X W b n F H σ Q from k).mono x⟩
        | false => exact (show DenE X W b (.ok (.bool false)) F H σ Q from k) _ F' H' x (.bl _)
      | _ => exact (show False from k).elim
    | exc c => exact k
    | stuck => exact k⟩⟩
theorem evw_or {m n : Rs D} (h : EV X W true ρ e m) (h2 : EVW X W b ρ .Or (e2 :: rest) n) : EVW X W b ρ .Or (e :: e2 :: rest) ((m.bind asB).bind fun c => if c = true then .ok (.bool true) else n) :=
  ⟨fun pos => PE.imp (pe_or h (h2.run pos)) fun σ H Q ⟨F, G, S, k⟩ => ⟨F, G, S, by
    cases m with
    | ok d =>
      intro v F' H' x r
      cases d with
      | bool c =>
        refine ⟨c, inv_b r, ?_⟩
        cases c with
        | false => exact ⟨F', G, S.mono x, (show DenE X W b n F H σ Q from k).mono x⟩
        | true => exact (show DenE X W b (.ok (.bool true)) F H σ Q from k) _ F' H' x (.bl _)
      | _ => exact (show False from k).elim
    | exc c => exact k
    | stuck => exact k⟩⟩
theorem ev_bool {op : BoolOp} {es : List Expr} {m : Rs D} (h : EVW X W b ρ op es m) : EV X W b ρ (.BoolOp op es pos) m := h.run pos
theorem ev_if {mc : Rs Bool} {m1 m2 : Rs D} (hc : ET X W ρ e mc) (h1 : EV X W b ρ e1 m1) (h2 : EV X W b ρ e2 m2) : EV X W b ρ (.IfExp e e1 e2 pos) (mc.bind fun c => if c = true then m1 else m2) :=
  PE.imp (pe_ifExp hc h1 h2) fun σ H Q ⟨F, G, S, k⟩ => ⟨F, G, S, by
    cases mc with
    | ok c =>
      intro F' H' x
      cases c with
      | true => exact ⟨F', G, S.mono x, (show DenE X W b m1 F H σ Q from k).mono x⟩
      | false => exact ⟨F', G, S.mono x, (show DenE X W b m2 F H σ Q from k).mono x⟩
    | exc c => exact k
    | stuck => exact k⟩
/-- a < b < c -/
def chain (g g' : D → D → Rs D) (m1 m2 m3 : Rs D) : Rs D := m1.bind fun x => m2.bind fun y => ((g x y).nox.bind asB).bind fun c => if c = true then m3.bind fun z => (g' y z).nox else .ok (.bool false)
theorem chain_den {m1 m2 m3 : Rs D} {g g' : D → D → Rs D} {b' : Bool} {F G H : Hp} {σ : L2.St} {Q : VK} (S : Ste F G H σ ρ) (k : DenE X W b' (chain g g' m1 m2 m3) F H σ Q) (hQ : ∀ H', Q (.bl false) H' → True) :
    DenE X W b m1 F H σ fun x H1 => rEV X W b ρ m2 σ H1 fun y H2 => rO2 X b true g x y H2 fun z H3 => ∃ k, z = .bl k ∧ if k = true then rEV X W b ρ m3 σ H3 (fun w H4 => rO2 X b b' g' y w H4 Q) else Q (.bl false) H3 := by
  cases m1 with
  | ok p =>
    intro v F1 H1 x1 r1
    have k1 : DenE X W b' (m2.bind fun y => ((g p y).nox.bind asB).bind fun c => if c = true then m3.bind fun z => (g' y z).nox else .ok (.bool false)) F H σ Q := k
    refine ⟨F1, G, S.mono x1, ?_⟩
    cases m2 with
    | ok q =>
      intro u F2 H2 x2 r2
      have x12 := x1.trans x2
      have k2 : DenE X W b' (((g p q).nox.bind asB).bind fun c => if c = true then m3.bind fun z => (g' q z).nox else .ok (.bool false)) F H σ Q := k1
      refine ⟨F2, p, q, x2.fh, r1.bmono x2, r2, ?_⟩
      cases e : g p q with
      | ok d =>
        rw [e] at k2
        intro w F3 H3 x3 r3
        have x13 := x12.trans x3
        cases d with
        | bool c =>
          refine ⟨c, inv_b r3, ?_⟩
          cases c with
          | true =>
            have k3 : DenE X W b' (m3.bind fun z => (g' q z).nox) F H σ Q := k2
            refine ⟨F3, G, S.mono x13, ?_⟩
            cases m3 with
            | ok z =>
              intro w2 F4 H4 x4 r4
              have k4 : DenE X W b' (g' q z).nox F H σ Q := k3
              exact ⟨F4, q, z, x4.fh, (r2.bmono x3).bmono x4, r4, DenE.toO (W := W) (σ := σ) (k4.mono (x13.trans x4))⟩
            | exc c => exact DenX.mono x13.h k3
            | stuck => exact k3
          | false => exact (show DenE X W b' (.ok (.bool false)) F H σ Q from k2) _ F3 H3 x13 (.bl _)
        | _ => exact (show False from k2).elim
      | exc c => rw [e] at k2; exact (show False from k2).elim
      | stuck => rw [e] at k2; exact (show False from k2).elim
    | exc c => exact DenX.mono x1.h k1
    | stuck => exact k1
  | exc c => exact k
  | stuck => exact k
theorem ev_chain {op op' : CmpOp} {m1 m2 m3 : Rs D} {g g' : D → D → Rs D} {b b' : Bool} (ho : Op2 X b true (compareOp op) g) (ho' : Op2 X b b' (compareOp op') g') (h1 : EV X W b ρ e1 m1) (h2 : EV X W b ρ e2 m2) (h3 : EV X W b ρ e3 m3)
    (hm : lastMarks [op, op'] [e2, e3] = false := by with_unfolding_all rfl) :
    EV X W b' ρ (.Compare e1 [op, op'] [e2, e3] pos) (chain g g' m1 m2 m3) :=
  PE.imp (pe_chain ho ho' h1 h2 h3 hm) fun σ H Q ⟨F, G, S, k⟩ => ⟨F, G, S, chain_den S k fun _ _ => trivial⟩
theorem et_chain {op op' : CmpOp} {m1 m2 m3 : Rs D} {g g' : D → D → Rs D} {b : Bool} (ho : Op2 X b true (compareOp op) g) (ho' : Op2 X b true (compareOp op') g') (h1 : EV X W b ρ e1 m1) (h2 : EV X W b ρ e2 m2) (h3 : EV X W b ρ e3 m3)
    (hm : lastMarks [op, op'] [e2, e3] = false := by with_unfolding_all rfl) :
    ET X W ρ (.Compare e1 [op, op'] [e2, e3] pos) ((chain g g' m1 m2 m3).bind asB) :=
  PT.imp (pt_chain ho ho' h1 h2 h3 hm) fun σ H Q ⟨F, G, S, k⟩ => ⟨F, G, S, chain_den (b' := true) (W := W) S (den_asB k) fun _ _ => trivial⟩

/-! ### subscripts -/
def ixL (ds : List D) (i : Int) : Rs D := match atI ds i with
  | some d => .ok d
  | none => .stuck
def pIx (d k : D) : Rs D := match d with
  | .list ds => match k with
    | .int i => ixL ds i
    | _ => .stuck
  | .tuple ds => match k with
    | .int i => ixL ds i
    | _ => .stuck
  | .str z => match k with
    | .int i => if z.length ≤ sizeLine then (match atI z.cps.toList i with
      | some c => .ok (.str ⟨#[c]⟩)
      | none => .stuck) else .stuck
    | _ => .stuck
  | d => match getD? d k with
    | some (some v) => .ok v
    | _ => .stuck
theorem dget_mono {H H' : Hp} {a : Addr} {y : V} {o : Option V} (e : Same H H') (h : DGet H a y o) : DGet H' a y o := by
  rcases h with ⟨kvs, k, h1, h2, h3⟩ | ⟨kvs, k, b, h1, h2, h3, h4⟩
  · exact .inl ⟨kvs, k, rd_mono e h1, h2, h3⟩
  · exact .inr ⟨kvs, k, b, rd_mono e h1, h2, e _ _ h3, h4⟩
theorem rp_at {F : Hp} {xs : List V} {ds : List D} {i : Int} {d : D} (r : RpA F xs ds) (h : atI ds i = some d) : ∃ v, atI xs i = some v ∧ Rp F v d := by
  unfold atI at h ⊢
  rw [r.length]
  cases e : ixN ds.length i with
  | none => rw [e] at h <;> cases h
  | some j =>
    rw [e] at h
    exact r.getD h
theorem ix_den {m1 m2 : Rs D} {F G H : Hp} {σ : L2.St} {Q : VK} (S : Ste F G H σ ρ) (k : DenE X W b (m1.bind fun x => m2.bind fun y => (pIx x y).nox) F H σ Q) :
    tOp (rIx X.K) (rEV X W b ρ m1) (rEV X W b ρ m2) σ H Q ∨ tDGet (rEV X W b ρ m1) (rEV X W b ρ m2) σ H Q := by
  cases m1 with
  | ok d =>
    have k1 : DenE X W b (m2.bind fun y => (pIx d y).nox) F H σ Q := k
    have base : ∀ R : V → V → Hp → Prop, (∀ v u F2 H2 q, m2 = .ok q → Ext F H F2 H2 → Rp (if b then H2 else F2) v d → Rp (if b then H2 else F2) u q → DenO X (pIx d q) b F2 H2 Q → R v u H2) →
        rEV X W b ρ (.ok d) σ H fun x H1 => rEV X W b ρ m2 σ H1 fun y H2 => R x y H2 := fun R hR => by
      refine ⟨F, G, S, fun v F1 H1 x1 r1 => ⟨F1, G, S.mono x1, ?_⟩⟩
      cases m2 with
      | ok q =>
        intro u F2 H2 x2 r2
        have k2 : DenE X W b (pIx d q).nox F H σ Q := k1
        exact hR v u F2 H2 q rfl (x1.trans x2) (r1.bmono x2) r2 (DenE.toO (W := W) (σ := σ) (k2.mono (x1.trans x2)))
      | exc c => exact DenX.mono x1.h k1
      | stuck => exact k1
    cases d with
    | list ds =>
      refine .inl (base (fun x y H2 => rIx X.K x y H2 Q) fun v u F2 H2 q _ x r1 r2 d => ?_)
      cases q with
      | int i =>
        obtain ⟨a, xs, rfl, h1, z1, r⟩ := inv_l r1
        rw [inv_i r2]
        have d' : DenO X (ixL ds i) b F2 H2 Q := d
        unfold ixL at d'
        split at d'
        · rename_i dd e
          obtain ⟨w, hw, rw'⟩ := rp_at r e
          refine .inl ⟨a, xs, i, w, rfl, rfl, .inl ?_, hw, d' w F2 H2 (.refl x.fh) rw'⟩
          cases b with
          | true => exact h1
          | false => exact rd_mono x.fh.sub h1
        · exact d'.elim
      | _ => exact (show False from d).elim
    | tuple ds =>
      refine .inl (base (fun x y H2 => rIx X.K x y H2 Q) fun v u F2 H2 q _ x r1 r2 d => ?_)
      cases q with
      | int i =>
        obtain ⟨a, xs, rfl, h1, z1, r⟩ := inv_t r1
        rw [inv_i r2]
        have d' : DenO X (ixL ds i) b F2 H2 Q := d
        unfold ixL at d'
        split at d'
        · rename_i dd e
          obtain ⟨w, hw, rw'⟩ := rp_at r e
          refine .inr (.inl ⟨a, xs, i, w, rfl, rfl, .of ?_, hw, d' w F2 H2 (.refl x.fh) rw'⟩)
          cases b with
          | true => exact h1
          | false => exact x.fh.sub _ _ h1
        · exact d'.elim
      | _ => exact (show False from d).elim
    | str z =>
      refine .inl (base (fun x y H2 => rIx X.K x y H2 Q) fun v u F2 H2 q _ x r1 r2 d => ?_)
      cases q with
      | int i =>
        rw [inv_s r1, inv_i r2]
        have d' : DenO X (if z.length ≤ sizeLine then (match atI z.cps.toList i with
          | some c => .ok (.str ⟨#[c]⟩)
          | none => .stuck) else .stuck) b F2 H2 Q := d
        obtain ⟨hc, d'⟩ := den_ite d'
        split at d'
        · rename_i c e
          exact .inr (.inr ⟨z, i, c, rfl, rfl, hc, e, d' _ F2 H2 (.refl x.fh) (.str _)⟩)
        · exact d'.elim
      | _ => exact (show False from d).elim
    | dict l =>
      refine .inr (base (fun x y H2 => ∃ a v, x = .ref a ∧ DGet H2 a y (some v) ∧ Q v H2) fun v u F2 H2 q _ x r1 r2 d => ?_)
      have d' : DenO X (match getD? (.dict l) q with
        | some (some v) => .ok v
        | _ => .stuck) b F2 H2 Q := d
      split at d'
      · rename_i w e
        cases b with
        | true =>
          obtain ⟨a, ov, rfl, g, ⟨_, z⟩ | ⟨uu, xx, e1, e2, r⟩⟩ := rp_get r1 r2 e
          · cases z
          · cases e2; subst e1
            exact ⟨a, uu, rfl, g, d' uu F2 H2 (.refl x.fh) r⟩
        | false =>
          obtain ⟨a, ov, rfl, g, ⟨_, z⟩ | ⟨uu, xx, e1, e2, r⟩⟩ := rp_get r1 r2 e
          · cases z
          · cases e2; subst e1
            exact ⟨a, uu, rfl, dget_mono x.fh.sub g, d' uu F2 H2 (.refl x.fh) r⟩
      · exact d'.elim
    | none => exact .inl (base (fun x y H2 => rIx X.K x y H2 Q) fun v u F2 H2 q _ x r1 r2 d => (show False from d).elim)
    | bool _ => exact .inl (base (fun x y H2 => rIx X.K x y H2 Q) fun v u F2 H2 q _ x r1 r2 d => (show False from d).elim)
    | int _ => exact .inl (base (fun x y H2 => rIx X.K x y H2 Q) fun v u F2 H2 q _ x r1 r2 d => (show False from d).elim)
  | exc c => exact .inl ⟨F, G, S, k⟩
  | stuck => exact (show False from k).elim
theorem ev_ix {m1 m2 : Rs D} (hu : Rm X) (h1 : EV X W b ρ e1 m1) (h2 : EV X W b ρ e2 m2) (hs : PlainIx e2 := by intro _ _; rfl) : EV X W b ρ (.Subscript e1 e2 pos) (m1.bind fun x => m2.bind fun y => (pIx x y).nox) :=
  PE.imp (PE.or (pe_ix ix_seq h1 h2 hs) (pe_dget hu.u1 h1 h2 hs)) fun σ H Q ⟨F, G, S, k⟩ => ix_den S k

/-! ### slices -/
def DenI (X : Cx) (W : WX) (m : Rs (Option Int)) (F H : Hp) (σ : L2.St) (Q : Option Int → Hp → Prop) : Prop := match m with
  | .ok d => ∀ F' H', Ext F H F' H' → Q d H'
  | .exc c => DenX X W σ H c
  | .stuck => False
def EO (X : Cx) (W : WX) (ρ : List Sl) (e : Option Expr) (m : Rs (Option Int)) : Prop := PO X e (fun σ H Q => ∃ F G, Ste F G H σ ρ ∧ DenI X W m F H σ Q)
theorem PO.imp {X : Cx} {e : Option Expr} {t u : TO} (h : PO X e t) (i : ∀ σ H Q, u σ H Q → t σ H Q) : PO X e u :=
  ⟨fun pins s σ H Q I q => h.run pins s σ H Q I (i σ H Q q)⟩
theorem eo_none : EO X W ρ none (.ok none) := PO.imp po_none fun σ H Q ⟨F, G, S, k⟩ => k F H S.ext
def asI : D → Rs (Option Int)
  | .int i => .ok (some i)
  | _ => .stuck
theorem eo_some {m : Rs D} (h : EV X W true ρ e m) : EO X W ρ (some e) (m.bind asI) := PO.imp (po_some h) fun σ H Q ⟨F, G, S, k⟩ => ⟨F, G, S, by
  cases m with
  | ok d =>
    intro v F' H' x r
    cases d with
    | int i => exact ⟨i, inv_i r, (show DenI X W (.ok (some i)) F H σ Q from k) F' H' x⟩
    | _ => exact (show False from k).elim
  | exc c => exact k
  | stuck => exact k⟩
def cutD (xs : List D) (lo hi : Option Int) : List D := (xs.drop (HT.sIx xs.length 0 lo)).take (HT.sIx xs.length xs.length hi - HT.sIx xs.length 0 lo)
def pSl (d : D) (lo hi : Option Int) : Rs D := match d with
  | .list ds => .ok (.list (cutD ds lo hi))
  | .tuple ds => .ok (.tuple (cutD ds lo hi))
  | .str z => if z.length ≤ sizeLine then .ok (.str (cutS z lo hi)) else .stuck
  | _ => .stuck
theorem rp_cut {F : Hp} {xs : List V} {ds : List D} {lo hi : Option Int} (r : RpA F xs ds) : RpA F (cutV xs lo hi) (cutD ds lo hi) := by
  unfold cutV cutD
  rw [r.length]
  exact (r.drop _).take _
def rSl (X : Cx) (b : Bool) : V → Option Int → Option Int → Hp → VK → Prop := fun x lo hi H Q => ∃ F d, FH F H ∧ Rp (if b then H else F) x d ∧ DenO X (pSl d lo hi) b F H Q
theorem Rd.toH {b : Bool} {F H : Hp} {a : Addr} {o : HO} (x : FH F H) (h : Rd (if b then H else F) a o) : Rd H a o := by
  cases b with
  | true => exact h
  | false => exact rd_mono x.sub h
theorem tupH {b : Bool} {F H : Hp} {a : Addr} {xs : List V} (x : FH F H) (h : (if b then H else F) a = some (.tup xs)) : H a = some (.tup xs) := by
  cases b with
  | true => exact h
  | false => exact x.sub _ _ h
theorem cut_all {α : Type} (xs : List α) (lo hi : Option Int) (h : HT.sIx xs.length 0 lo = 0 ∧ HT.sIx xs.length xs.length hi = xs.length) : (xs.drop (HT.sIx xs.length 0 lo)).take (HT.sIx xs.length xs.length hi - HT.sIx xs.length 0 lo) = xs := by
  rw [h.1, h.2]; simp
theorem sl_data : SlR X (rSl X b) := by
  rintro pins s σ H x v vl vu lo hi sl Q I rx hs pl pu ⟨F, d, fh, rp, k⟩
  unfold pSl at k
  split at k
  · obtain ⟨a, xs, rfl, h1, z1, r⟩ := inv_l rp
    refine sl_list pins s σ H _ v vl vu lo hi sl Q I rx hs pl pu ⟨a, xs, rfl, .inl (Rd.toH fh h1), fun p hp => ?_⟩
    have x : Ext F H (upd F p (.lst (cutV xs lo hi))) (upd H p (.lst (cutV xs lo hi))) := .new fh hp
    have zz : (cutV xs lo hi).length ≤ sizeLine := Nat.le_trans (cutV_length _ _ _) z1
    cases b with
    | true => exact k _ _ _ x (.lst (.inl upd_same) zz ((rp_cut r).mono x.h))
    | false => exact k _ _ _ x (.lst (.inl upd_same) zz ((rp_cut r).mono x.f))
  · obtain ⟨a, xs, rfl, h1, z1, r⟩ := inv_t rp
    refine sl_tupA pins s σ H _ v vl vu lo hi sl Q I rx hs pl pu ⟨a, xs, rfl, .of (tupH fh h1), fun w => ?_, fun w p hp => ?_⟩
    · have e : cutV xs lo hi = xs := cut_all xs lo hi w
      have r2 := rp_cut (lo := lo) (hi := hi) r
      rw [e] at r2
      exact k _ F H (.refl fh) (.tup h1 z1 r2)
    · have x : Ext F H (upd F p (.tup (cutV xs lo hi))) (upd H p (.tup (cutV xs lo hi))) := .new fh hp
      have zz : (cutV xs lo hi).length ≤ sizeLine := Nat.le_trans (cutV_length _ _ _) z1
      cases b with
      | true => exact k _ _ _ x (.tup upd_same zz ((rp_cut r).mono x.h))
      | false => exact k _ _ _ x (.tup upd_same zz ((rp_cut r).mono x.f))
  · obtain ⟨hc, k⟩ := den_ite k
    rw [inv_s rp] at rx
    exact sl_str pins s σ H _ v vl vu lo hi sl Q I rx hs pl pu ⟨_, rfl, hc, k _ F H (.refl fh) (.str _)⟩
  · exact k.elim
theorem ev_slice {m : Rs D} {ml mh : Rs (Option Int)} {lo hi : Option Expr} {p2 : Pos} (h : EV X W b ρ e m) (hl : EO X W ρ lo ml) (hh : EO X W ρ hi mh) :
    EV X W b ρ (.Subscript e (.Slice lo hi none p2) pos) (m.bind fun d => ml.bind fun l => mh.bind fun u => (pSl d l u).nox) :=
  PE.imp (pe_slice (r := rSl X b) sl_data h hl hh) fun σ H Q ⟨F, G, S, k⟩ => ⟨F, G, S, by
    cases m with
    | ok d =>
      intro v F1 H1 x1 r1
      have k1 : DenE X W b (ml.bind fun l => mh.bind fun u => (pSl d l u).nox) F H σ Q := k
      refine ⟨F1, G, S.mono x1, ?_⟩
      cases ml with
      | ok l =>
        intro F2 H2 x2
        have k2 : DenE X W b (mh.bind fun u => (pSl d l u).nox) F H σ Q := k1
        have x12 := x1.trans x2
        refine ⟨F2, G, S.mono x12, ?_⟩
        cases mh with
        | ok u =>
          intro F3 H3 x3
          have x13 := x12.trans x3
          have k3 : DenE X W b (pSl d l u).nox F H σ Q := k2
          exact ⟨F3, d, x3.fh, (r1.bmono x2).bmono x3, DenE.toO (W := W) (σ := σ) (k3.mono x13)⟩
        | exc c => exact DenX.mono x12.h k2
        | stuck => exact k2
      | exc c => exact DenX.mono x1.h k1
      | stuck => exact k1
    | exc c => exact k
    | stuck => exact k⟩
/-- xs[::-1] of a list -/
def pRev : D → Rs D
  | .list ds => .ok (.list ds.reverse)
  | _ => .stuck
theorem ev_rev {m : Rs D} {k : Nat} {p1 p2 p3 : Pos} (h : EV X W b ρ e m) : EV X W b ρ (.Subscript e (.Slice none none (some (.UnaryOp .USub (.Constant (.int 1) k p1) p2)) p3) pos) (m.bind pRev) :=
  PE.imp (pe_revL h) fun σ H Q ⟨F, G, S, k⟩ => ⟨F, G, S, by
    cases m with
    | ok d =>
      intro v F1 H1 x1 r1
      cases d with
      | list ds =>
        obtain ⟨a, xs, rfl, h1, z1, r⟩ := inv_l r1
        refine ⟨a, xs, rfl, .inl (Rd.toH x1.fh h1), fun p hp => ?_⟩
        have x : Ext F1 H1 (upd F1 p (.lst xs.reverse)) (upd H1 p (.lst xs.reverse)) := .new x1.fh hp
        have k1 : DenE X W b (.ok (.list ds.reverse)) F H σ Q := k
        have zz : xs.reverse.length ≤ sizeLine := by rw [List.length_reverse]; exact z1
        cases b with
        | true => exact k1 _ _ _ (x1.trans x) (.lst (.inl upd_same) zz (r.rev.mono x.h))
        | false => exact k1 _ _ _ (x1.trans x) (.lst (.inl upd_same) zz (r.rev.mono x.f))
      | _ => exact (show False from k).elim
    | exc c => exact k
    | stuck => exact k⟩

/-! ### argument lists, displays -/
structure EAs (X : Cx) (W : WX) (b : Bool) (ρ : List Sl) (es : List Expr) (m : Rs (List D)) : Prop where
  run : EA X W b ρ es m
  len : ∀ ds, m = .ok ds → ds.length = es.length
def consM (m : Rs D) (n : Rs (List D)) : Rs (List D) := m.bind fun x => n.bind fun xs => .ok (x :: xs)
theorem ea_nil : EAs X W b ρ [] (.ok []) := ⟨PA.imp pa_nil fun σ H Q ⟨F, G, S, k⟩ => k [] F H S.ext .nil, fun ds h => by cases h; rfl⟩
theorem ea_cons {es : List Expr} {m : Rs D} {n : Rs (List D)} (h : EV X W b ρ e m) (hr : EAs X W b ρ es n) (hs : starEach (e :: es) X.env = (false, eval e X.env) :: starEach es X.env := by rfl) :
    EAs X W b ρ (e :: es) (consM m n) := by
  refine ⟨PA.imp (pa_cons h hr.run hs) fun σ H Q ⟨F, G, S, k⟩ => ⟨F, G, S, ?_⟩, fun ds q => ?_⟩
  · cases m with
    | ok d =>
      intro v F1 H1 x1 r1
      have k1 : DenA X W b (n.bind fun xs => .ok (d :: xs)) F H σ Q := k
      refine ⟨F1, G, S.mono x1, ?_⟩
      cases n with
      | ok ds =>
        intro vs F2 H2 x2 r2
        have k2 : DenA X W b (.ok (d :: ds)) F H σ Q := k1
        exact k2 _ F2 H2 (x1.trans x2) (.cons (r1.bmono x2) r2)
      | exc c => exact DenX.mono x1.h k1
      | stuck => exact k1
    | exc c => exact k
    | stuck => exact k
  · unfold consM at q
    cases m with
    | ok d =>
      cases n with
      | ok ds' =>
        cases q
        rw [List.length_cons, List.length_cons, hr.len _ rfl]
      | exc c => cases q
      | stuck => cases q
    | exc c => cases q
    | stuck => cases q
theorem ev_tup {es : List Expr} {m : Rs (List D)} {x1} (h : EAs X W false ρ es m) (hl : es.length ≤ sizeLine := by decide) : EV X W b ρ (.Tuple es x1 pos) (m.bind fun ds => .ok (.tuple ds)) :=
  PE.imp (pe_tup h.run) fun σ H Q ⟨F, G, S, k⟩ => ⟨F, G, S, by
    cases m with
    | ok ds =>
      intro vs F1 H1 x1 r1
      have hz : vs.length ≤ sizeLine := by rw [r1.length, h.len _ rfl]; exact hl
      refine ⟨hz, fun p hp => ?_⟩
      have x : Ext F1 H1 (upd F1 p (.tup vs)) (upd H1 p (.tup vs)) := .new x1.fh hp
      exact (show DenE X W b (.ok (.tuple ds)) F H σ Q from k) _ _ _ (x1.trans x) (Rp.up x.fh (.tup upd_same hz (RpA.mono x.f r1)))
    | exc c => exact k
    | stuck => exact k⟩
theorem ev_lst {es : List Expr} {m : Rs (List D)} (h : EAs X W false ρ es m) (hl : es.length ≤ sizeLine := by decide) : EV X W b ρ (.List es pos) (m.bind fun ds => .ok (.list ds)) :=
  PE.imp (pe_lst h.run) fun σ H Q ⟨F, G, S, k⟩ => ⟨F, G, S, by
    cases m with
    | ok ds =>
      intro vs F1 H1 x1 r1
      have hz : vs.length ≤ sizeLine := by rw [r1.length, h.len _ rfl]; exact hl
      refine ⟨hz, fun p hp => ?_⟩
      have x : Ext F1 H1 (upd F1 p (.lst vs)) (upd H1 p (.lst vs)) := .new x1.fh hp
      exact (show DenE X W b (.ok (.list ds)) F H σ Q from k) _ _ _ (x1.trans x) (Rp.up x.fh (.lst (.inl upd_same) hz (RpA.mono x.f r1)))
    | exc c => exact k
    | stuck => exact k⟩
/-- -n -/
def pNeg : D → Rs D
  | .int i => .ok (.int (-i))
  | _ => .stuck
theorem ev_neg {m : Rs D} (h : EV X W true ρ e m) : EV X W b ρ (.UnaryOp .USub e pos) (m.bind pNeg) :=
  PE.imp (pe_un un_neg h) fun σ H Q ⟨F, G, S, k⟩ => ⟨F, G, S, by
    cases m with
    | ok d =>
      intro v F1 H1 x1 r1
      cases d with
      | int i => exact ⟨i, inv_i r1, (show DenE X W b (.ok (.int (-i))) F H σ Q from k) _ F1 H1 x1 (.int _)⟩
      | _ => exact (show False from k).elim
    | exc c => exact k
    | stuck => exact k⟩

/-! ### calls -/
def DenF (mg : Str → Option Value) (m : Rs D) (F G H : Hp) (Q : VK) (E : XK) : Prop := match m with
  | .ok d => ∀ v F' H', Same F F' → FH F' H' → Same G H' → (∀ a, F a = none → F' a ≠ none → G a = none) → Rp F' v d → Q v H'
  | .exc c => ∀ v H', Cl mg c v → Same G H' → E v none H'
  | .stuck => False
/-- a def's promise: from n data, the mirror f's answer -/
def spP (mg : Str → Option Value) (n : Nat) (f : List D → Rs D) : Sp := fun vs H Q E => vs.length = n ∧ ∃ F G ds, FH F H ∧ Same G H ∧ RpA F vs ds ∧ DenF mg (f ds) F G H Q E
/-- the def called x keeps the promise, at level k -/
def Cal (P : Program) (w : World) (K : PySem.W.Frag) (mg : Str → Option Value) (base : Heap) (k : Nat) (x : Str) (n : Nat) (f : List D → Rs D) : Prop :=
  ∃ (a : Addr) (fd : FuncData) (ps : List Str), mg x = some (.ref a) ∧ PySem.W.keepIn K (.ref a) = true ∧ Binds K fd ps [] ∧ FnOk P w K mg base (L2N.CX P w) k a fd ps (spP mg n f)
theorem Cal.mono {P : Program} {w : World} {K : PySem.W.Frag} {mg : Str → Option Value} {base : Heap} {j k : Nat} {x : Str} {n : Nat} {f : List D → Rs D} (h : Cal P w K mg base j x n f) (hk : j ≤ k) : Cal P w K mg base k x n f := by
  obtain ⟨a, fd, ps, h1, h2, h3, h4⟩ := h
  exact ⟨a, fd, ps, h1, h2, h3, h4.mono hk⟩
abbrev CalX (X : Cx) (k : Nat) (x : Str) (n : Nat) (f : List D → Rs D) : Prop := Cal X.prog X.w X.K X.mg X.base k x n f
/-- a name of the module's, within the def -/
structure Gn (X : Cx) (x : Str) : Prop where
  g : Gl X x
  db : (x == ("__debug__" : Str)) = false
theorem ev_call {k n : Nat} {x : Str} {p : Pos} {es : List Expr} {m : Rs (List D)} {f : List D → Rs D} (tk : L2N.Takes X W) (hr : Room k X.A) (hg : Gn X x) (C : CalX X k x n f) (h : EAs X W false ρ (e :: es) m) (hn : (e :: es).length = n)
    (he : starEach (e :: es) X.env = (false, eval e X.env) :: starEach es X.env := by rfl) (hp0 : (backTo pos (starEach es X.env)).any (·.1) = false := by rfl) :
    EV X W b ρ (.Call (.Name x p) (e :: es) [] pos) (m.bind f) := by
  obtain ⟨a, fd, ps, h1, h2, h3, h4⟩ := C
  refine PE.imp (pe_callS h4 hr hg.g h1 h2 h3 (fun σ => L2N.passAt tk σ) h.run hg.db he hp0) fun σ H Q ⟨F, G, S, k⟩ => ⟨F, G, S, ?_⟩
  cases m with
  | ok ds =>
    intro vs F1 H1 x1 r1
    have k1 : DenE X W b (f ds) F H σ Q := k
    refine ⟨by rw [RpA.length r1, h.len _ rfl]; exact hn, F1, H1, ds, x1.fh, .refl _, r1, ?_⟩
    cases q : f ds with
    | ok d =>
      rw [q] at k1
      exact fun v F' H' f1 f2 f3 f4 r => k1 v F' H' (x1.trans ⟨f1, f3, f2, f4⟩) (Rp.up f2 r)
    | exc c =>
      rw [q] at k1
      exact fun v H' c1 s1 => k1 v H' c1 (x1.h.trans s1)
    | stuck => rw [q] at k1; exact k1
  | exc c => exact k
  | stuck => exact k
/-- a built-in by its name -/
structure Bn (X : Cx) (x : Str) (f : Value) : Prop where
  g : Gl X x
  m : X.mg x = none
  v : bootBuiltins x = some f
  n : x ≠ "__name__"
  db : (x == ("__debug__" : Str)) = false
def rCB (X : Cx) (b b' : Bool) (g : List D → Rs D) : List V → Hp → VK → Prop := fun vs H Q => ∃ F ds, FH F H ∧ RpA (if b then H else F) vs ds ∧ DenO X (g ds) b' F H Q
def Cb (X : Cx) (b b' : Bool) (f : Value) (g : List D → Rs D) : Prop := CallR X f (rCB X b b' g)
theorem cb_den {b b' : Bool} {m : Rs (List D)} {g : List D → Rs D} {F H : Hp} {σ : L2.St} {Q : VK} (k : DenE X W b' (m.bind fun ds => (g ds).nox) F H σ Q) : DenA X W b m F H σ fun vs H1 => rCB X b b' g vs H1 Q := by
  cases m with
  | ok ds =>
    intro vs F1 H1 x1 r1
    have k1 : DenE X W b' (g ds).nox F H σ Q := k
    exact ⟨F1, ds, x1.fh, r1, DenE.toO (W := W) (σ := σ) (k1.mono x1)⟩
  | exc c => exact k
  | stuck => exact k
theorem ev_cb {b b' : Bool} {x : Str} {id : String} {p : Pos} {es : List Expr} {m : Rs (List D)} {g : List D → Rs D} (hc : Cb X b b' (.builtin id) g) (B : Bn X x (.builtin id)) (h : EAs X W b ρ (e :: es) m)
    (he : starEach (e :: es) X.env = (false, eval e X.env) :: starEach es X.env := by rfl) (hp0 : (backTo pos (starEach es X.env)).any (·.1) = false := by rfl) :
    EV X W b' ρ (.Call (.Name x p) (e :: es) [] pos) (m.bind fun ds => (g ds).nox) :=
  PE.imp (pe_callB hc B.g B.m B.v h.run B.n B.db he hp0) fun σ H Q ⟨F, G, S, k⟩ => ⟨F, G, S, cb_den k⟩
theorem ev_ct {b b' : Bool} {x : Str} {T : String} {p : Pos} {es : List Expr} {m : Rs (List D)} {g : List D → Rs D} (hc : Cb X b b' (.type T) g) (B : Bn X x (.type T)) (h : EAs X W b ρ (e :: es) m)
    (he : starEach (e :: es) X.env = (false, eval e X.env) :: starEach es X.env := by rfl) (hp0 : (backTo pos (starEach es X.env)).any (·.1) = false := by rfl) :
    EV X W b' ρ (.Call (.Name x p) (e :: es) [] pos) (m.bind fun ds => (g ds).nox) :=
  PE.imp (pe_callTy hc B.g B.m B.v h.run B.n B.db he hp0) fun σ H Q ⟨F, G, S, k⟩ => ⟨F, G, S, cb_den k⟩
end
end Pu

/-! The pure layer, part 4: statements. -/
namespace Pu
open PySem PySem.Spec
open PyProof.Rows L2

/-- where a block ends: behind it, with what is known then; or it returned -/
inductive Out (α : Type) where
  | nx (a : α)
  | ret (d : D)
def Rs.seq {α β : Type} (m : Rs (Out α)) (k : α → Rs (Out β)) : Rs (Out β) := match m with
  | .ok (.nx a) => k a
  | .ok (.ret d) => .ok (.ret d)
  | .exc c => .exc c
  | .stuck => .stuck
@[simp] theorem Rs.seq_nx {α β : Type} (a : α) (k : α → Rs (Out β)) : (Rs.ok (Out.nx a)).seq k = k a := rfl
@[simp] theorem Rs.seq_ret {α β : Type} (d : D) (k : α → Rs (Out β)) : (Rs.ok (Out.ret d) : Rs (Out α)).seq k = .ok (.ret d) := rfl
@[simp] theorem Rs.seq_exc {α β : Type} (c : Str) (k : α → Rs (Out β)) : (Rs.exc c : Rs (Out α)).seq k = .exc c := rfl
@[simp] theorem Rs.seq_stuck {α β : Type} (k : α → Rs (Out β)) : (Rs.stuck : Rs (Out α)).seq k = .stuck := rfl
/-- a def's answer -/
def Rs.fin {α : Type} (m : Rs (Out α)) : Rs D := match m with
  | .ok (.nx _) => .ok .none
  | .ok (.ret d) => .ok d
  | .exc c => .exc c
  | .stuck => .stuck
def Rs.ret {α : Type} (m : Rs D) : Rs (Out α) := m.bind fun d => .ok (.ret d)
@[simp] theorem Rs.fin_nx {α : Type} (a : α) : (Rs.ok (Out.nx a)).fin = .ok .none := rfl
@[simp] theorem Rs.fin_ret {α : Type} (d : D) : (Rs.ok (Out.ret d) : Rs (Out α)).fin = .ok d := rfl
@[simp] theorem Rs.fin_exc {α : Type} (c : Str) : (Rs.exc c : Rs (Out α)).fin = .exc c := rfl

/-- F grows, by nothing that stood in G -/
structure Gr (G F F' : Hp) : Prop where
  f : Same F F'
  nw : ∀ a, F a = none → F' a ≠ none → G a = none
theorem Gr.refl {G F : Hp} : Gr G F F := ⟨.refl _, fun _ h h' => absurd h h'⟩
theorem Gr.trans {G F F1 F2 : Hp} (a : Gr G F F1) (b : Gr G F1 F2) : Gr G F F2 := ⟨a.f.trans b.f, fun p h h' => by
  by_cases q : F1 p = .none
  · exact b.nw p q h'
  · exact a.nw p h q⟩
theorem Ext.gr {G F H F' H' : Hp} (x : Ext F H F' H') (g : Same G H) : Gr G F F' := ⟨x.f, fun a h h' => g.free (x.nw a h h')⟩
def DenS {α : Type} (X : Cx) (W : WX) (m : Rs (Out α)) (ρ' : α → List Sl) (F G : Hp) (n : Nat) (D : Ends) : Prop := match m with
  | .ok (.nx a) => ∀ σ' F' H', Gr G F F' → Ste F' G H' σ' (ρ' a) → D.nx σ' H'
  | .ok (.ret d) => ∀ v F' H', Gr G F F' → FH F' H' → Same G H' → Rp F' v d → D.rt v H'
  | .exc c => ∀ v σ' H', Cl X.mg c v → Same F H' → Same G H' → σ'.length = n → W v none σ' H'
  | .stuck => False
theorem DenS.gr {α : Type} {X : Cx} {W : WX} {m : Rs (Out α)} {ρ' : α → List Sl} {F F1 G : Hp} {n : Nat} {D : Ends} (h : DenS X W m ρ' F G n D) (x : Gr G F F1) : DenS X W m ρ' F1 G n D := by
  cases m with
  | ok o =>
    cases o with
    | nx a => exact fun σ' F' H' g => h σ' F' H' (x.trans g)
    | ret d => exact fun v F' H' g => h v F' H' (x.trans g)
  | exc c => exact fun v σ' H' c f => h v σ' H' c (x.f.trans f)
  | stuck => exact h
def rBS {α : Type} (X : Cx) (W : WX) (ρ : List Sl) (ρ' : α → List Sl) (m : Rs (Out α)) : TS := fun D σ H => ∃ F G, Ste F G H σ ρ ∧ DenS X W m ρ' F G σ.length D
/-- the block sts comes, from slots ρ, to m; behind it the slots are ρ' -/
def BS {α : Type} (X : Cx) (W : WX) (ρ : List Sl) (sts : List Stmt) (ρ' : α → List Sl) (m : Rs (Out α)) : Prop := PSs X sts (rBS X W ρ ρ' m)
theorem PS.imp {X : Cx} {e : Stmt} {t u : TS} (h : PS X e t) (i : ∀ D σ H, u D σ H → t D σ H) : PS X e u :=
  ⟨fun pins s σ H D I q => h.run pins s σ H D I (i D σ H q)⟩
theorem PSs.imp {X : Cx} {e : List Stmt} {t u : TS} (h : PSs X e t) (i : ∀ D σ H, u D σ H → t D σ H) : PSs X e u :=
  ⟨fun pins s σ H D I q => h.run pins s σ H D I (i D σ H q)⟩

/-! ### slots -/
/-- less is known -/
def SlsLe : List Sl → List Sl → Prop
  | [], [] => True
  | s :: l, t :: r => (t = .no ∨ s = t) ∧ SlsLe l r
  | _, _ => False
theorem SlsLe.len : ∀ {l r : List Sl}, SlsLe l r → l.length = r.length
  | [], [], _ => rfl
  | s :: l, t :: r, h => by rw [List.length_cons, List.length_cons, SlsLe.len h.2]
  | [], _ :: _, h => h.elim
  | _ :: _, [], h => h.elim
theorem SlsLe.get : ∀ {l r : List Sl}, SlsLe l r → ∀ (i : Nat) (t : Sl), r[i]? = some t → t = .no ∨ l[i]? = some t
  | [], [], _, i, t, h => by simp at h
  | s :: l, u :: r, h, 0, t, e => by
    rw [List.getElem?_cons_zero] at e
    cases e
    rcases h.1 with q | q
    · exact .inl q
    · exact .inr (by rw [List.getElem?_cons_zero, q])
  | s :: l, u :: r, h, i + 1, t, e => by
    rw [List.getElem?_cons_succ] at e ⊢
    exact SlsLe.get h.2 i t e
  | [], _ :: _, h, _, _, _ => h.elim
  | _ :: _, [], h, _, _, _ => h.elim
theorem Ste.weak {F G H : Hp} {σ : L2.St} {ρ ρ' : List Sl} (S : Ste F G H σ ρ) (h : SlsLe ρ ρ') : Ste F G H σ ρ' :=
  ⟨S.fh, S.gh, S.len.trans h.len, fun i s e => by
    rcases h.get i s e with q | q
    · subst q; trivial
    · exact S.sl i s q, fun i j s t a e1 e2 o1 o2 => by
    rcases h.get i s e1 with q | q
    · subst q; cases o1
    · rcases h.get j t e2 with q2 | q2
      · subst q2; cases o2
      · exact S.dis i j s t a q q2 o1 o2⟩
theorem SlOk.setNe {F G H : Hp} {σ : L2.St} {i j : Nat} {v : Option V} (h : j ≠ i) : ∀ {s : Sl}, SlOk F G H σ i s → SlOk F G H (σ.set j v) i s
  | .no, _ => trivial
  | .da _, ⟨u, e, r⟩ => ⟨u, by rw [List.getElem?_set_ne h]; exact e, r⟩
  | .ex _, e => by
    show (σ.set _ _)[_]? = _
    rw [List.getElem?_set_ne h]; exact e
  | .ol _, ⟨a, e, r⟩ => ⟨a, by rw [List.getElem?_set_ne h]; exact e, r⟩
  | .ok _, ⟨a, e, r⟩ => ⟨a, by rw [List.getElem?_set_ne h]; exact e, r⟩
  | .ot _, ⟨a, e, r⟩ => ⟨a, by rw [List.getElem?_set_ne h]; exact e, r⟩
/-- slot i is set to something that it does not own, or to a new object of its own -/
theorem Ste.setG {F G H : Hp} {σ : L2.St} {ρ : List Sl} {i : Nat} {v : Option V} {s : Sl} (S : Ste F G H σ ρ) (hi : i < ρ.length) (h : SlOk F G H (σ.set i v) i s)
    (hd : owns s = true → ∀ j t a, j ≠ i → ρ[j]? = some t → owns t = true → σ[j]? = some (some (V.ref a)) → v ≠ some (V.ref a)) : Ste F G H (σ.set i v) (ρ.set i s) := by
  have hσ : i < σ.length := by rw [S.len]; exact hi
  refine ⟨S.fh, S.gh, by rw [List.length_set, List.length_set, S.len], fun j t e => ?_, fun j k t u a e1 e2 o1 o2 q1 q2 => ?_⟩
  · by_cases hj : i = j
    · subst hj
      rw [List.getElem?_set_self hi] at e
      cases e
      exact h
    · rw [List.getElem?_set_ne hj] at e
      exact (S.sl j t e).setNe hj
  · by_cases hj : i = j
    · subst hj
      rw [List.getElem?_set_self hi] at e1; cases e1
      by_cases hk : i = k
      · exact hk
      · rw [List.getElem?_set_ne hk] at e2 q2
        rw [List.getElem?_set_self hσ] at q1; cases q1
        exact absurd rfl (hd o1 k u a (Ne.symm hk) e2 o2 q2)
    · by_cases hk : i = k
      · subst hk
        rw [List.getElem?_set_self hi] at e2; cases e2
        rw [List.getElem?_set_ne hj] at e1 q1
        rw [List.getElem?_set_self hσ] at q2; cases q2
        exact absurd rfl (hd o2 j t a (Ne.symm hj) e1 o1 q1)
      · rw [List.getElem?_set_ne hj] at e1 q1
        rw [List.getElem?_set_ne hk] at e2 q2
        exact S.dis j k t u a e1 e2 o1 o2 q1 q2
theorem Ste.setD {F G H : Hp} {σ : L2.St} {ρ : List Sl} {i : Nat} {v : V} {d : D} (S : Ste F G H σ ρ) (hi : i < ρ.length) (r : Rp F v d) : Ste F G H (σ.set i (some v)) (ρ.set i (.da d)) :=
  S.setG hi ⟨v, by rw [List.getElem?_set_self (by rw [S.len]; exact hi)], r⟩ fun z => by cases z
/-- the owned object of slot i: what the others say stays when it changes -/
theorem Ste.own {F G H : Hp} {σ : L2.St} {ρ : List Sl} {i : Nat} {s s' : Sl} {a : Addr} {o : HO} (S : Ste F G H σ ρ) (hs : ρ[i]? = some s) (ho : owns s = true) (ha : σ[i]? = some (some (V.ref a))) (hF : F a = none) (hG : G a = none)
    (ho' : owns s' = true) (nt : ∀ xs, o ≠ .tup xs) (new : OwnAt F (upd H a o) a s') : Ste F G (upd H a o) σ (ρ.set i s') := by
  have hi : i < ρ.length := (List.getElem?_eq_some_iff.mp hs).1
  have nF : ∀ b u, F b = some u → b ≠ a := fun b u e z => by subst z; rw [hF] at e; cases e
  have nG : ∀ b u, G b = some u → b ≠ a := fun b u e z => by subst z; rw [hG] at e; cases e
  refine ⟨⟨fun b u e => by rw [upd_ne (nF b u e)]; exact S.fh.sub b u e, fun b xs e => ?_, S.fh.nd⟩, fun b u e => by rw [upd_ne (nG b u e)]; exact S.gh b u e, by rw [List.length_set]; exact S.len, fun j t e => ?_, fun j k t u c e1 e2 o1 o2 q1 q2 => ?_⟩
  · by_cases hb : b = a
    · subst hb; rw [upd_same] at e; cases e; exact absurd rfl (nt xs)
    · rw [upd_ne hb] at e; exact S.fh.tup b xs e
  · by_cases hj : i = j
    · subst hj
      rw [List.getElem?_set_self hi] at e; cases e
      cases s' with
      | no => cases ho'
      | da _ => cases ho'
      | ex _ => cases ho'
      | ol _ => exact ⟨a, ha, hF, hG, new⟩
      | ok _ => exact ⟨a, ha, hF, hG, new⟩
      | ot _ => exact ⟨a, ha, hF, hG, new⟩
    · rw [List.getElem?_set_ne hj] at e
      have q := S.sl j t e
      have ne : owns t = true → ∀ c, σ[j]? = some (some (V.ref c)) → c ≠ a := fun ot c hc z => hj (S.dis i j s t a hs e ho ot ha (by rw [← z]; exact hc))
      cases t with
      | no => trivial
      | da _ => exact q
      | ex _ => exact q
      | ol ds =>
        obtain ⟨c, e1, f1, g1, xs, h1, r1⟩ := q
        exact ⟨c, e1, f1, g1, xs, by rw [upd_ne (ne rfl c e1)]; exact h1, r1⟩
      | ok ds =>
        obtain ⟨c, e1, f1, g1, xs, h1, r1⟩ := q
        exact ⟨c, e1, f1, g1, xs, by rw [upd_ne (ne rfl c e1)]; exact h1, r1⟩
      | ot ds =>
        obtain ⟨c, e1, f1, g1, xs, h1, r1⟩ := q
        exact ⟨c, e1, f1, g1, xs, by rw [upd_ne (ne rfl c e1)]; exact h1, r1⟩
  · have key : ∀ (l : Nat) (t : Sl), (ρ.set i s')[l]? = some t → owns t = true → ∃ t', ρ[l]? = some t' ∧ owns t' = true := fun l t e o => by
      by_cases hl : i = l
      · subst hl; exact ⟨s, hs, ho⟩
      · rw [List.getElem?_set_ne hl] at e; exact ⟨t, e, o⟩
    obtain ⟨t', e1', o1'⟩ := key j t e1 o1
    obtain ⟨u', e2', o2'⟩ := key k u e2 o2
    exact S.dis j k t' u' c e1' e2' o1' o2' q1 q2
/-- the owned object of slot i is frozen -/
theorem Ste.freeze {F G H : Hp} {σ : L2.St} {ρ : List Sl} {i : Nat} {s : Sl} {a : Addr} {o : HO} {d : D} (S : Ste F G H σ ρ) (hs : ρ[i]? = some s) (ho : owns s = true) (ha : σ[i]? = some (some (V.ref a))) (hF : F a = none) (hG : G a = none)
    (hH : H a = some o) (r : Rp (upd F a o) (.ref a) d) (nd : noD o = true := by rfl) : Ste (upd F a o) G H σ (ρ.set i (.da d)) := by
  have hi : i < ρ.length := (List.getElem?_eq_some_iff.mp hs).1
  have sF : Same F (upd F a o) := same_upd hF
  refine ⟨⟨fun b u e => ?_, fun b xs e => sF _ _ (S.fh.tup b xs e), S.fh.nd.upd nd⟩, S.gh, by rw [List.length_set]; exact S.len, fun j t e => ?_, fun j k t u c e1 e2 o1 o2 q1 q2 => ?_⟩
  · by_cases hb : b = a
    · subst hb; rw [upd_same] at e; cases e; exact hH
    · rw [upd_ne hb] at e; exact S.fh.sub b u e
  · by_cases hj : i = j
    · subst hj
      rw [List.getElem?_set_self hi] at e; cases e
      exact ⟨_, ha, r⟩
    · rw [List.getElem?_set_ne hj] at e
      have q := S.sl j t e
      have ne : owns t = true → ∀ c, σ[j]? = some (some (V.ref c)) → c ≠ a := fun ot c hc z => hj (S.dis i j s t a hs e ho ot ha (by rw [← z]; exact hc))
      cases t with
      | no => trivial
      | da _ => obtain ⟨v, e1, r1⟩ := q; exact ⟨v, e1, r1.mono sF⟩
      | ex _ => exact q
      | ol ds =>
        obtain ⟨c, e1, f1, g1, xs, h1, z1, r1⟩ := q
        exact ⟨c, e1, by rw [upd_ne (ne rfl c e1)]; exact f1, g1, xs, h1, z1, r1.mono sF⟩
      | ok ds =>
        obtain ⟨c, e1, f1, g1, xs, h1, z1, r1⟩ := q
        exact ⟨c, e1, by rw [upd_ne (ne rfl c e1)]; exact f1, g1, xs, h1, z1, r1.mono sF⟩
      | ot ds =>
        obtain ⟨c, e1, f1, g1, xs, h1, z1, r1⟩ := q
        exact ⟨c, e1, by rw [upd_ne (ne rfl c e1)]; exact f1, g1, xs, h1, z1, r1.mono sF⟩
  · by_cases hj : i = j
    · subst hj; rw [List.getElem?_set_self hi] at e1; cases e1; cases o1
    · by_cases hk : i = k
      · subst hk; rw [List.getElem?_set_self hi] at e2; cases e2; cases o2
      · rw [List.getElem?_set_ne hj] at e1
        rw [List.getElem?_set_ne hk] at e2
        exact S.dis j k t u c e1 e2 o1 o2 q1 q2
theorem Gr.fresh {G F : Hp} {a : Addr} {o : HO} (hF : F a = none) (hG : G a = none) : Gr G F (upd F a o) := ⟨same_upd hF, fun b h h' => by
  by_cases hb : b = a
  · rw [hb]; exact hG
  · rw [upd_ne hb] at h'; exact absurd h h'⟩

section
variable {X : Cx} {W : WX} {ρ ρ2 : List Sl} {α β : Type} {ρ' : α → List Sl} {e : Expr} {pos pos' : Pos} {rest : List Stmt}
/-- fewer things known -/
theorem bs_weak {sts : List Stmt} {m : Rs (Out α)} (h : BS X W ρ2 sts ρ' m) (w : SlsLe ρ ρ2) : BS X W ρ sts ρ' m := PSs.imp h fun D σ H ⟨F, G, S, k⟩ => ⟨F, G, S.weak w, k⟩
theorem bs_nil {a : α} (w : SlsLe ρ (ρ' a)) : BS X W ρ [] ρ' (.ok (.nx a)) := PSs.imp pss_nil fun D σ H ⟨F, G, S, k⟩ => k σ F H .refl (S.weak w)
theorem bs_ret {m : Rs D} (h : EV X W false ρ e m) : BS X W ρ (.Return (some e) pos :: rest) ρ' m.ret :=
  PSs.imp (pss_cons (ps_ret h) pss_never) fun D σ H ⟨F, G, S, k⟩ => ⟨F, G, S, by
    cases m with
    | ok d => exact fun v F' H' x r => (show DenS X W (.ok (.ret d)) ρ' F G σ.length D from k) v F' H' (x.gr S.gh) x.fh (S.gh.trans x.h) r
    | exc c => exact fun v H' q s => (show DenS X W (.exc c) ρ' F G σ.length D from k) v σ H' q (S.fh.sub.trans s) (S.gh.trans s) rfl
    | stuck => exact k⟩
theorem bs_retN : BS X W ρ (.Return none pos :: rest) ρ' (.ok (.ret .none)) :=
  PSs.imp (pss_cons ps_retN pss_never) fun D σ H ⟨F, G, S, k⟩ => k .non F H .refl S.fh S.gh .non
/-- an expression's value, then a block -/
theorem DenS.step {m : Rs D} {k : D → Rs (Out α)} {F G H : Hp} {σ : L2.St} {D : Ends} {b : Bool} (S : Ste F G H σ ρ) (h : DenS X W (m.bind k) ρ' F G σ.length D) :
    DenE X W b m F H σ fun v H1 => ∃ F1 d, m = .ok d ∧ Ste F1 G H1 σ ρ ∧ Ext F H F1 H1 ∧ Rp (if b then H1 else F1) v d ∧ DenS X W (k d) ρ' F1 G σ.length D := by
  cases m with
  | ok d =>
    have h' : DenS X W (k d) ρ' F G σ.length D := h
    exact fun v F' H' x r => ⟨F', d, rfl, S.mono x, x, r, h'.gr (x.gr S.gh)⟩
  | exc c => exact fun v H' q s => (show DenS X W (.exc c) ρ' F G σ.length D from h) v σ H' q (S.fh.sub.trans s) (S.gh.trans s) rfl
  | stuck => exact h
theorem DenS.stepT {m : Rs Bool} {k : Bool → Rs (Out α)} {F G H : Hp} {σ : L2.St} {D : Ends} (S : Ste F G H σ ρ) (h : DenS X W (m.bind k) ρ' F G σ.length D) :
    DenT X W m F H σ fun c H1 => ∃ F1, m = .ok c ∧ Ste F1 G H1 σ ρ ∧ DenS X W (k c) ρ' F1 G σ.length D := by
  cases m with
  | ok d =>
    have h' : DenS X W (k d) ρ' F G σ.length D := h
    exact fun F' H' x => ⟨F', rfl, S.mono x, h'.gr (x.gr S.gh)⟩
  | exc c => exact fun v H' q s => (show DenS X W (.exc c) ρ' F G σ.length D from h) v σ H' q (S.fh.sub.trans s) (S.gh.trans s) rfl
  | stuck => exact h
/-- a name of the def's that is stored -/
structure Vs (X : Cx) (i : Nat) (x : Str) : Prop where
  nd : X.N.Nodup
  n : X.N[i]? = some x
  l : Loc X.env.scope x
  f : X.fn x = true ∨ X.env.scope.names.lookup x = some .local
theorem PE.name {t u : TE} (h : PE X e t) (i : ∀ σ H Q, u σ H Q → t σ H Q) : PE X e u := PE.imp h i
theorem setlen {σ : L2.St} {i : Nat} {v : Option V} : (σ.set i v).length = σ.length := List.length_set ..
/-- x = e -/
theorem bs_set {i : Nat} {x : Str} {m : Rs D} {k : D → Rs (Out α)} (hx : Vs X i x) (hi : i < ρ.length) (h : EV X W false ρ e m) (hr : ∀ d, BS X W (ρ.set i (.da d)) rest ρ' (k d))
    (hs : swapsWith e (some (.Name x pos')) pos.line X.env = pure false := by rfl) : BS X W ρ (.Assign [.Name x pos'] e pos :: rest) ρ' (m.bind k) := by
  cases m with
  | ok d =>
    refine PSs.imp (pss_cons (ps_set hx.nd hx.n hx.l h hs hx.f) (hr d)) fun D σ H ⟨F, G, S, q⟩ => ⟨F, G, S, ?_⟩
    intro v F' H' x r
    refine ⟨F', G, (S.mono x).setD hi r, ?_⟩
    rw [setlen]
    exact (show DenS X W (k d) ρ' F G σ.length D from q).gr (x.gr S.gh)
  | exc c =>
    refine PSs.imp (pss_cons (ps_set hx.nd hx.n hx.l h hs hx.f) pss_never) fun D σ H ⟨F, G, S, q⟩ => ⟨F, G, S, ?_⟩
    exact fun v H' c s => (show DenS X W (.exc _) ρ' F G σ.length D from q) v σ H' c (S.fh.sub.trans s) (S.gh.trans s) rfl
  | stuck => exact PSs.imp pss_never fun D σ H ⟨F, G, S, q⟩ => q
/-- an expression; its value goes -/
theorem bs_expr {b : Bool} {m : Rs D} {k : D → Rs (Out α)} (h : EV X W b ρ e m) (hr : ∀ d, BS X W ρ rest ρ' (k d)) (hs : swapsWith e none pos.line X.env = pure false := by rfl) : BS X W ρ (.Expr e pos :: rest) ρ' (m.bind k) := by
  cases m with
  | ok d =>
    refine PSs.imp (pss_cons (ps_expr h hs) (hr d)) fun D σ H ⟨F, G, S, q⟩ => ⟨F, G, S, ?_⟩
    exact fun v F' H' x r => ⟨F', G, S.mono x, (show DenS X W (k d) ρ' F G σ.length D from q).gr (x.gr S.gh)⟩
  | exc c =>
    refine PSs.imp (pss_cons (ps_expr h hs) pss_never) fun D σ H ⟨F, G, S, q⟩ => ⟨F, G, S, ?_⟩
    exact fun v H' c s => (show DenS X W (.exc _) ρ' F G σ.length D from q) v σ H' c (S.fh.sub.trans s) (S.gh.trans s) rfl
  | stuck => exact PSs.imp pss_never fun D σ H ⟨F, G, S, q⟩ => q
theorem bs_pass {m : Rs (Out α)} (h : BS X W ρ rest ρ' m) : BS X W ρ (.Pass pos :: rest) ρ' m := PSs.imp (pss_cons ps_pass h) fun D σ H q => q
/-- one block, then another: by what the first leaves -/
theorem seq_den {ρ1 : α → List Sl} {ρ' : β → List Sl} {m : Rs (Out α)} {k : α → Rs (Out β)} {F G : Hp} {n : Nat} {D : Ends} (h : DenS X W (m.seq k) ρ' F G n D) :
    DenS X W m ρ1 F G n { D with nx := fun σ' H' => ∃ a F', m = .ok (.nx a) ∧ Gr G F F' ∧ Ste F' G H' σ' (ρ1 a) ∧ DenS X W (k a) ρ' F' G n D } := by
  cases m with
  | ok o =>
    cases o with
    | nx a => exact fun σ' F' H' g S => ⟨a, F', rfl, g, S, (show DenS X W (k a) ρ' F G n D from h).gr g⟩
    | ret d => exact h
  | exc c => exact h
  | stuck => exact h
theorem bs_if {c : Expr} {a b : List Stmt} {mc : Rs Bool} {ma mb : Rs (Out α)} {ρ1 : α → List Sl} {ρ' : β → List Sl} {k : α → Rs (Out β)} (hc : ET X W ρ c mc) (ha : BS X W ρ a ρ1 ma) (hb : BS X W ρ b ρ1 mb)
    (hl : ∀ x, (ρ1 x).length = ρ.length) (hr : ∀ x, BS X W (ρ1 x) rest ρ' (k x)) : BS X W ρ (.If c a b pos :: rest) ρ' (mc.bind fun c => (if c = true then ma else mb).seq k) := by
  have rest_ok : PSs X rest (fun D σ H => ∃ (x : α) (F G : Hp), Ste F G H σ (ρ1 x) ∧ DenS X W (k x) ρ' F G σ.length D) :=
    ⟨fun pins s σ H D I ⟨x, F, G, S, q⟩ => (hr x).run pins s σ H D I ⟨F, G, S, q⟩⟩
  refine PSs.imp (pss_cons (ps_if hc ha hb) rest_ok) fun D σ H ⟨F, G, S, q⟩ => ⟨F, G, S, ?_⟩
  have go : ∀ (c : Bool) (F1 H1 : Hp), Ste F1 G H1 σ ρ → DenS X W ((if c = true then ma else mb).seq k) ρ' F1 G σ.length D →
      (if c = true then rBS X W ρ ρ1 ma { D with nx := fun σ' H' => ∃ (x : α) (F G : Hp), Ste F G H' σ' (ρ1 x) ∧ DenS X W (k x) ρ' F G σ'.length D } σ H1
        else rBS X W ρ ρ1 mb { D with nx := fun σ' H' => ∃ (x : α) (F G : Hp), Ste F G H' σ' (ρ1 x) ∧ DenS X W (k x) ρ' F G σ'.length D } σ H1) := fun c F1 H1 S1 q1 => by
    have fin : ∀ {m : Rs (Out α)}, DenS X W (m.seq k) ρ' F1 G σ.length D → DenS X W m ρ1 F1 G σ.length { D with nx := fun σ' H' => ∃ (x : α) (F G : Hp), Ste F G H' σ' (ρ1 x) ∧ DenS X W (k x) ρ' F G σ'.length D } := fun {m} h => by
      have h2 := seq_den (ρ1 := ρ1) h
      cases m with
      | ok o =>
        cases o with
        | nx x =>
          intro σ' F' H' g S'
          obtain ⟨a, F2, e, _, S2, d⟩ := h2 σ' F' H' g S'
          have hlen : σ'.length = σ.length := by rw [S2.len, hl, ← S1.len]
          exact ⟨a, F2, G, S2, by rw [hlen]; exact d⟩
        | ret d => exact h2
      | exc c => exact h2
      | stuck => exact h2
    cases c with
    | true => exact ⟨F1, G, S1, fin q1⟩
    | false => exact ⟨F1, G, S1, fin q1⟩
  have st := DenS.stepT S q
  cases mc with
  | ok c =>
    intro F' H' x
    obtain ⟨F1, _, S1, q1⟩ := st F' H' x
    exact go c F1 H' S1 q1
  | exc c => exact st
  | stuck => exact st
end
end Pu

/-! The pure layer, part 5: what is walked, loops, comprehensions. -/
namespace Pu
open PySem PySem.Spec
open PyProof.Rows L2

/-- J walks the data ds, over any heap whose frozen part has F -/
structure WalkD (J : It) (ds : List D) (F : Hp) : Prop where
  small : ds.length ≤ sizeLine
  goes : ∀ i F1 H, i < ds.length → Same F F1 → FH F1 H → J.go i H
  stops : ∀ F1 H, Same F F1 → FH F1 H → J.stop ds.length H
  yields : ∀ i F1 H v H', i < ds.length → Same F F1 → FH F1 H → J.yld i H v H' → ∃ F2 d, Ext F1 H F2 H' ∧ ds[i]? = some d ∧ Rp F2 v d
def DenW (X : Cx) (W : WX) (m : Rs (List D)) (F H : Hp) (σ : L2.St) (R : It → Hp → Prop) : Prop := match m with
  | .ok ds => ∀ J F' H', Ext F H F' H' → WalkD J ds F' → R J H'
  | .exc c => DenX X W σ H c
  | .stuck => False
def rEI (X : Cx) (W : WX) (ρ : List Sl) (m : Rs (List D)) : TI := fun σ H R => ∃ F G, Ste F G H σ ρ ∧ DenW X W m F H σ R
/-- what e gives to walk over with the target tg -/
def EI (X : Cx) (W : WX) (ρ : List Sl) (tg e : Expr) (m : Rs (List D)) : Prop := PI X tg e (rEI X W ρ m)
theorem PI.imp {X : Cx} {tg e : Expr} {t u : TI} (h : PI X tg e t) (i : ∀ σ H Q, u σ H Q → t σ H Q) : PI X tg e u :=
  ⟨fun pins s σ H Q I q => h.run pins s σ H Q I (i σ H Q q)⟩
theorem PI.or {X : Cx} {tg e : Expr} {t u : TI} (h : PI X tg e t) (h' : PI X tg e u) : PI X tg e (fun σ H Q => t σ H Q ∨ u σ H Q) :=
  ⟨fun pins s σ H Q I q => q.elim (h.run pins s σ H Q I) (h'.run pins s σ H Q I)⟩
/-- the items of a list, a tuple, a text -/
def itemsOf : D → Rs (List D)
  | .list ds => .ok ds
  | .tuple ds => .ok ds
  | .str x => if x.length ≤ sizeLine then .ok (x.cps.toList.map fun c => .str ⟨#[c]⟩) else .stuck
  | d => match ddOf d with
    | some (.k kvs) => if kvs.length ≤ 16000000 then .ok (kvs.map fun p => keyD p.1) else .stuck
    | some (.t kvs) => if kvs.length ≤ 16000000 ∧ (kvs.all fun p => decide (p.1.length ≤ 1000)) = true then .ok (kvs.map fun p => .tuple (p.1.map keyD)) else .stuck
    | none => .stuck
section
variable {X : Cx} {W : WX} {ρ : List Sl} {tg e e2 : Expr} {pos : Pos}
theorem walkD_list {a : Addr} {xs : List V} {ds : List D} {F : Hp} {K : PySem.W.Frag} (h : Rd F a (.lst xs)) (z : xs.length ≤ sizeLine) (r : RpA F xs ds) : WalkD (Itl K a) ds F := by
  have w := walk_list (K := K) (a := a) (xs := xs)
  have hl := r.length
  refine ⟨by rw [← hl]; exact z, fun i F1 H hi s x => w.goes i H (by rw [hl]; exact hi) (.inl (rd_mono (s.trans x.sub) h)), fun F1 H s x => by rw [← hl]; exact w.stops H (.inl (rd_mono (s.trans x.sub) h)), fun i F1 H v H' hi s x y => ?_⟩
  obtain ⟨rfl, e⟩ := w.yields i H v H' (by rw [hl]; exact hi) (.inl (rd_mono (s.trans x.sub) h)) y
  obtain ⟨d, hd, hr⟩ := r.get e
  exact ⟨F1, d, .refl x, hd, hr.mono s⟩
theorem walkD_tup {a : Addr} {xs : List V} {ds : List D} {F : Hp} {K : PySem.W.Frag} (h : F a = some (.tup xs)) (z : xs.length ≤ sizeLine) (r : RpA F xs ds) : WalkD (Itt K a) ds F := by
  have w := walk_tup (K := K) (a := a) (xs := xs)
  have hl := r.length
  refine ⟨by rw [← hl]; exact z, fun i F1 H hi s x => w.goes i H (by rw [hl]; exact hi) (.of (x.sub _ _ (s _ _ h))), fun F1 H s x => by rw [← hl]; exact w.stops H (.of (x.sub _ _ (s _ _ h))), fun i F1 H v H' hi s x y => ?_⟩
  obtain ⟨rfl, e⟩ := w.yields i H v H' (by rw [hl]; exact hi) (.of (x.sub _ _ (s _ _ h))) y
  obtain ⟨d, hd, hr⟩ := r.get e
  exact ⟨F1, d, .refl x, hd, hr.mono s⟩
theorem walkD_str {z : Str} {F : Hp} (hz : z.length ≤ sizeLine) : WalkD (Its z) (z.cps.toList.map fun c => .str ⟨#[c]⟩) F := by
  have w := walk_str (z := z)
  have hl : (z.cps.toList.map fun c => (PyData.str ⟨#[c]⟩ : D)).length = z.cps.size := by rw [List.length_map, Array.length_toList]
  refine ⟨by rw [hl]; exact hz, fun i F1 H hi s x => w.goes i H (by rw [← hl]; exact hi) trivial, fun F1 H s x => by rw [hl]; exact w.stops H trivial, fun i F1 H v H' hi s x y => ?_⟩
  obtain ⟨rfl, c, e, rfl⟩ := w.yields i H v H' (by rw [← hl]; exact hi) trivial y
  refine ⟨F1, _, .refl x, ?_, .str _⟩
  rw [List.getElem?_map, Array.getElem?_toList, e]
  rfl
theorem rpA_key {F : Hp} : ∀ k : List Key, RpA F (k.map kV) (k.map keyD)
  | [] => .nil
  | .inl i :: k => .cons (.int i) (rpA_key k)
  | .inr x :: k => .cons (.str x) (rpA_key k)
theorem rp_keyV {F : Hp} : ∀ k : Key, Rp F (kV k) (keyD k)
  | .inl i => .int i
  | .inr x => .str x
theorem walkD_k {a : Addr} {o : Obj} {ws : List (Key × V)} {kvs : List (Key × D)} {F : Hp} (h : F a = some (.frz o (.dK ws))) (e : ws.map (·.1) = kvs.map (·.1)) (z : kvs.length ≤ 16000000) : WalkD (Itk a o ws) (kvs.map fun p => keyD p.1) F := by
  have w := walk_keys (d := a) (o := o) (kvs := ws)
  have hl : ws.length = (kvs.map fun p => keyD p.1).length := by
    have := congrArg List.length e
    rw [List.length_map, List.length_map] at this
    rw [this, List.length_map]
  refine ⟨by rw [List.length_map, sizeLine_eq]; omega, fun i F1 H hi s x => w.goes i H (by rw [hl]; exact hi) (x.sub _ _ (s _ _ h)), fun F1 H s x => by rw [← hl]; exact w.stops H (x.sub _ _ (s _ _ h)), fun i F1 H v H' hi s x y => ?_⟩
  obtain ⟨rfl, k, u, e1, rfl⟩ := w.yields i H v H' (by rw [hl]; exact hi) (x.sub _ _ (s _ _ h)) y
  refine ⟨F1, keyD k, .refl x, ?_, rp_keyV k⟩
  have q : (ws.map (·.1))[i]? = some k := by rw [List.getElem?_map, e1]; rfl
  rw [e, List.getElem?_map] at q
  rw [List.getElem?_map]
  cases c : kvs[i]? with
  | none => rw [c] at q; cases q
  | some p => rw [c] at q; cases q; rfl
theorem walkD_kT {a : Addr} {o : Obj} {ws : List (List Key × V)} {kvs : List (List Key × D)} {F : Hp} (h : F a = some (.frz o (.dT ws))) (e : ws.map (·.1) = kvs.map (·.1)) (z : kvs.length ≤ 16000000) (zz : (kvs.all fun p => decide (p.1.length ≤ 1000)) = true) : WalkD (Itkt a o ws) (kvs.map fun p => PyData.tuple (p.1.map keyD)) F := by
  have w := walk_keysT (d := a) (o := o) (kvs := ws)
  have hl : ws.length = (kvs.map fun p => PyData.tuple (p.1.map keyD)).length := by
    have := congrArg List.length e
    rw [List.length_map, List.length_map] at this
    rw [this, List.length_map]
  refine ⟨by rw [List.length_map, sizeLine_eq]; omega, fun i F1 H hi s x => w.goes i H (by rw [hl]; exact hi) (x.sub _ _ (s _ _ h)), fun F1 H s x => by rw [← hl]; exact w.stops H (x.sub _ _ (s _ _ h)), fun i F1 H v H' hi s x y => ?_⟩
  obtain ⟨rfl, k, u, q, e1, rfl, hq⟩ := w.yields i H v H' (by rw [hl]; exact hi) (x.sub _ _ (s _ _ h)) y
  have q1 : (ws.map (·.1))[i]? = some k := by rw [List.getElem?_map, e1]; rfl
  rw [e, List.getElem?_map] at q1
  cases c : kvs[i]? with
  | none => rw [c] at q1; cases q1
  | some p =>
    rw [c] at q1
    cases q1
    have hk := of_decide_eq_true (List.all_eq_true.mp zz p (List.mem_of_getElem? c))
    refine ⟨F1, .tuple (p.1.map keyD), .refl x, by rw [List.getElem?_map, c]; rfl, .tup (x.tup _ _ hq) (by rw [List.length_map, sizeLine_eq]; exact Nat.le_trans hk (by decide)) (rpA_key p.1)⟩
/-- a list, a tuple, a text, a dict -/
theorem ei_any {m : Rs D} (h : EV X W false ρ e m) : EI X W ρ tg e (m.bind itemsOf) :=
  PI.imp (PI.or (pi_list h) (PI.or (pi_tup h) (PI.or (pi_str h) (pi_keys h)))) fun σ H R ⟨F, G, S, k⟩ => by
    cases m with
    | ok d =>
      cases d with
      | list ds =>
        refine .inl ⟨F, G, S, fun v F1 H1 x r => ?_⟩
        obtain ⟨a, xs, rfl, h1, z, r1⟩ := inv_l r
        exact ⟨a, rfl, ⟨xs, .inl (rd_mono x.fh.sub h1)⟩, (show DenW X W (.ok ds) F H σ R from k) _ F1 H1 x (walkD_list h1 z r1)⟩
      | tuple ds =>
        refine .inr (.inl ⟨F, G, S, fun v F1 H1 x r => ?_⟩)
        obtain ⟨a, xs, rfl, h1, z, r1⟩ := inv_t r
        exact ⟨a, rfl, ⟨xs, .of (x.fh.sub _ _ h1)⟩, (show DenW X W (.ok ds) F H σ R from k) _ F1 H1 x (walkD_tup h1 z r1)⟩
      | str z =>
        refine .inr (.inr (.inl ⟨F, G, S, fun v F1 H1 x r => ?_⟩))
        have k1 : DenW X W (if z.length ≤ sizeLine then .ok (z.cps.toList.map fun c => .str ⟨#[c]⟩) else .stuck) F H σ R := k
        by_cases hz : z.length ≤ sizeLine
        · rw [if_pos hz] at k1
          exact ⟨z, inv_s r, k1 _ F1 H1 x (walkD_str hz)⟩
        · rw [if_neg hz] at k1; exact k1.elim
      | dict l =>
        have k1 : DenW X W (match ddOf (.dict l) with
          | some (.k kvs) => if kvs.length ≤ 16000000 then .ok (kvs.map fun p => keyD p.1) else .stuck
          | some (.t kvs) => if kvs.length ≤ 16000000 ∧ (kvs.all fun p => decide (p.1.length ≤ 1000)) = true then .ok (kvs.map fun p => .tuple (p.1.map keyD)) else .stuck
          | none => .stuck) F H σ R := k
        cases hd : ddOf (.dict l) with
        | none => rw [hd] at k1; exact k1.elim
        | some dd =>
          rw [hd] at k1
          refine .inr (.inr (.inr ⟨F, G, S, fun v F1 H1 x r => ?_⟩))
          obtain ⟨a, rfl, ⟨ws, kvs, e, h1, h2, h3⟩ | ⟨ws, kvs, e, h1, h2, h3⟩⟩ := inv_dd (show Rp F1 v (.dict l) from r) hd
          · subst e
            have h0 : ∃ o, F1 a = some (.frz o (.dK ws)) := by
              rcases h1 with h1 | h1
              · have := x.fh.nd _ _ h1; cases this
              · exact h1
            obtain ⟨o, ho⟩ := h0
            by_cases hz : kvs.length ≤ 16000000
            · dsimp only at k1
              rw [if_pos hz] at k1
              exact ⟨a, o, rfl, .inl ⟨ws, x.fh.sub _ _ ho, (show DenW X W (.ok _) F H σ R from k1) _ F1 H1 x (walkD_k ho h2 hz)⟩⟩
            · dsimp only at k1
              rw [if_neg hz] at k1; exact k1.elim
          · subst e
            have h0 : ∃ o, F1 a = some (.frz o (.dT ws)) := by
              rcases h1 with h1 | h1
              · have := x.fh.nd _ _ h1; cases this
              · exact h1
            obtain ⟨o, ho⟩ := h0
            by_cases hz : kvs.length ≤ 16000000 ∧ (kvs.all fun p => decide (p.1.length ≤ 1000)) = true
            · dsimp only at k1
              rw [if_pos hz] at k1
              exact ⟨a, o, rfl, .inr ⟨ws, x.fh.sub _ _ ho, (show DenW X W (.ok _) F H σ R from k1) _ F1 H1 x (walkD_kT ho h2 hz.1 hz.2)⟩⟩
            · dsimp only at k1
              rw [if_neg hz] at k1; exact k1.elim
      | _ => exact (show False from k).elim
    | exc c => exact .inl ⟨F, G, S, k⟩
    | stuck => exact (show False from k).elim
/-- lo, lo + 1, .. below hi -/
def rangeD (lo hi : Int) : List D := (List.range (hi - lo).toNat).map fun (i : Nat) => .int (lo + (i : Int))
def rngOk (i : Int) : Bool := decide (-8388608 ≤ i) && decide (i ≤ 8388608)
def pRange : List D → Rs (List D)
  | [.int hi] => if rngOk hi = true then .ok (rangeD 0 hi) else .stuck
  | [.int lo, .int hi] => if (rngOk lo && rngOk hi) = true then .ok (rangeD lo hi) else .stuck
  | [.int lo, .int hi, .int c] => if (rngOk lo && rngOk hi && decide (c = -1)) = true then .ok ((List.range (lo - hi).toNat).map fun (i : Nat) => .int (lo - (i : Int))) else
      if (rngOk lo && rngOk hi && decide (0 < c) && decide (c < 1000)) = true then .ok ((List.range ((hi - lo + c - 1) / c).toNat).map fun (i : Nat) => .int (lo + (i : Int) * c)) else .stuck
  | _ => .stuck
theorem rngOk_iff {i : Int} (h : rngOk i = true) : -8388608 ≤ i ∧ i ≤ 8388608 := by
  unfold rngOk at h
  rw [Bool.and_eq_true] at h
  exact ⟨of_decide_eq_true h.1, of_decide_eq_true h.2⟩
theorem walkD_fn {n : Nat} {f : Nat → Int} {F : Hp} {J : It} (hz : n ≤ sizeLine) (w : Walk J n (fun _ => True) (YFn fun i => .int (f i))) : WalkD J ((List.range n).map fun i => .int (f i)) F := by
  have hl : ((List.range n).map fun i => (PyData.int (f i) : D)).length = n := by rw [List.length_map, List.length_range]
  refine ⟨by rw [hl]; exact hz, fun i F1 H hi s x => w.goes i H (by rw [← hl]; exact hi) trivial, fun F1 H s x => by rw [hl]; exact w.stops H trivial, fun i F1 H v H' hi s x y => ?_⟩
  obtain ⟨rfl, rfl⟩ := w.yields i H v H' (by rw [← hl]; exact hi) trivial y
  refine ⟨F1, _, .refl x, ?_, .int _⟩
  rw [List.getElem?_map, List.getElem?_range (by rw [← hl]; exact hi)]
  rfl
theorem range_den {es : List Expr} {m : Rs (List D)} {F G H : Hp} {σ : L2.St} {R : It → Hp → Prop} {P : List V → Hp → Prop} (S : Ste F G H σ ρ) (k : DenW X W (m.bind pRange) F H σ R)
    (go : ∀ ds vs F1 H1, m = .ok ds → Ext F H F1 H1 → RpA H1 vs ds → DenW X W (pRange ds) F1 H1 σ R → P vs H1) : DenA X W true m F H σ P := by
  cases m with
  | ok ds =>
    intro vs F1 H1 x r
    refine go ds vs F1 H1 rfl x r ?_
    have k' : DenW X W (pRange ds) F H σ R := k
    cases q : pRange ds with
    | ok l => rw [q] at k'; exact fun J F' H' x2 w => k' J F' H' (x.trans x2) w
    | exc c => rw [q] at k'; exact DenX.mono x.h k'
    | stuck => rw [q] at k'; exact k'
  | exc c => exact k
  | stuck => exact k
theorem ei_range1 {m : Rs (List D)} {p : Pos} (B : Bn X "range" (.type "range")) (h : EAs X W true ρ [e] m) (hs : starEach [e] X.env = [(false, eval e X.env)] := by rfl) : EI X W ρ tg (.Call (.Name "range" p) [e] [] pos) (m.bind pRange) :=
  PI.imp (pi_range1 B.g B.m h.run hs) fun σ H R ⟨F, G, S, k⟩ => ⟨F, G, S, range_den (es := [e]) (G := G) S k fun ds vs F1 H1 e x r k1 => by
    have hl := h.len _ e
    match ds, hl, r with
    | [d], _, .cons r0 .nil =>
      cases d with
      | int i =>
        have k2 : DenW X W (if rngOk i = true then .ok (rangeD 0 i) else .stuck) F1 H1 σ R := k1
        by_cases hc : rngOk i = true
        · rw [if_pos hc] at k2
          have b := rngOk_iff hc
          refine ⟨i, by rw [inv_i r0], by omega, by omega, k2 _ F1 H1 (.refl x.fh) ?_⟩
          unfold rangeD
          rw [Int.sub_zero]
          exact walkD_fn (by rw [sizeLine_eq]; omega) walk_range
        · rw [if_neg hc] at k2; exact k2.elim
      | _ => exact (show False from k1).elim⟩
theorem ei_range2 {m : Rs (List D)} {p : Pos} (B : Bn X "range" (.type "range")) (h : EAs X W true ρ [e, e2] m) (hs : starEach [e, e2] X.env = [(false, eval e X.env), (false, eval e2 X.env)] := by rfl) (hs2 : starEach [e2] X.env = [(false, eval e2 X.env)] := by rfl) :
    EI X W ρ tg (.Call (.Name "range" p) [e, e2] [] pos) (m.bind pRange) :=
  PI.imp (pi_range2 B.g B.m h.run hs hs2) fun σ H R ⟨F, G, S, k⟩ => ⟨F, G, S, range_den (es := [e]) (G := G) S k fun ds vs F1 H1 e x r k1 => by
    have hl := h.len _ e
    match ds, hl, r with
    | [d, d'], _, .cons r0 (.cons r1 .nil) =>
      cases d with
      | int i =>
        cases d' with
        | int j =>
          have k2 : DenW X W (if (rngOk i && rngOk j) = true then .ok (rangeD i j) else .stuck) F1 H1 σ R := k1
          by_cases hc : (rngOk i && rngOk j) = true
          · rw [if_pos hc] at k2
            rw [Bool.and_eq_true] at hc
            have b := rngOk_iff hc.1
            have b' := rngOk_iff hc.2
            exact ⟨i, j, by rw [inv_i r0, inv_i r1], ⟨by omega, by omega, by omega, by omega⟩, k2 _ F1 H1 (.refl x.fh) (walkD_fn (by rw [sizeLine_eq]; omega) walk_range)⟩
          · rw [if_neg hc] at k2; exact k2.elim
        | _ => exact (show False from k1).elim
      | _ => cases d' <;> exact (show False from k1).elim⟩
end

/-! ### for -/
/-- the loop: a state turned by each item, or left -/
def forM {α : Type} (body : α → D → Rs (Out α)) : List D → α → Rs (Out α)
  | [], a => .ok (.nx a)
  | d :: ds, a => (body a d).seq (forM body ds)
section
variable {X : Cx} {W : WX} {ρ ρ2 : List Sl} {α β : Type} {ρ' : β → List Sl} {e tg : Expr} {pos pos' : Pos} {rest body : List Stmt}
/-- how a target takes an item: from the slots ρ it makes the slots of ρt, of the state that the item turns -/
def rTg {α γ : Type} (vs : List Nat) (ρ : α → List Sl) (take : D → Option γ) (ρt : α → γ → List Sl) : TG :=
  fun v σ H Q => ∃ (a : α) (c : γ) (F G : Hp) (d : D), take d = some c ∧ Ste F G H σ (ρ a) ∧ Rp F v d ∧ ∀ σ', σ'.length = σ.length → wipe σ' vs = wipe σ vs → Ste F G H σ' (ρt a c) → Q σ' H
def TgOk {α γ : Type} (X : Cx) (tg : Expr) (vs : List Nat) (ρ : α → List Sl) (take : D → Option γ) (ρt : α → γ → List Sl) : Prop := PG X tg (rTg vs ρ take ρt)
/-- an item taken -/
def took {γ β : Type} (o : Option γ) (k : γ → Rs β) : Rs β := match o with
  | some c => k c
  | none => .stuck
@[simp] theorem took_some {γ β : Type} (c : γ) (k : γ → Rs β) : took (some c) k = k c := rfl
def rAny {α : Type} (X : Cx) (W : WX) (ρ1 : α → List Sl) {β : Type} (ρ' : β → List Sl) (k : α → Rs (Out β)) : TS := fun D σ H => ∃ (x : α) (F G : Hp), Ste F G H σ (ρ1 x) ∧ DenS X W (k x) ρ' F G σ.length D
def rAny2 {α γ : Type} (X : Cx) (W : WX) (ρt : α → γ → List Sl) (ρL : α → List Sl) (mb : α → γ → Rs (Out α)) : TS := fun D σ H => ∃ (a : α) (c : γ) (F G : Hp), Ste F G H σ (ρt a c) ∧ DenS X W (mb a c) ρL F G σ.length D
theorem wipe_get {σ : L2.St} {j : Nat} : ∀ {vs : List Nat}, j ∈ vs → j < σ.length → (wipe σ vs)[j]? = some none
  | [], h, _ => by cases h
  | v :: vs, h, hl => by
    show ((wipe σ vs).set v none)[j]? = _
    by_cases e : v = j
    · subst e
      rw [List.getElem?_set_self (by rw [wipe_length]; exact hl)]
    · rw [List.getElem?_set_ne e]
      exact wipe_get ((List.mem_cons.mp h).resolve_left (Ne.symm e)) hl
theorem wipe_not {σ : L2.St} {j : Nat} : ∀ {vs : List Nat}, j ∉ vs → (wipe σ vs)[j]? = σ[j]?
  | [], _ => rfl
  | v :: vs, h => by
    show ((wipe σ vs).set v none)[j]? = _
    have h1 : v ≠ j := fun e => h (by rw [e]; exact List.mem_cons_self)
    rw [List.getElem?_set_ne h1]
    exact wipe_not fun e => h (List.mem_cons_of_mem _ e)
theorem wipe_ext {σ σ' : L2.St} {vs : List Nat} (hl : σ'.length = σ.length) (h : ∀ j, j ∉ vs → σ'[j]? = σ[j]?) : wipe σ' vs = wipe σ vs := by
  refine List.ext_getElem? (fun j => ?_)
  by_cases hj : j ∈ vs
  · by_cases hs : j < σ.length
    · rw [wipe_get hj (by rw [hl]; exact hs), wipe_get hj hs]
    · rw [List.getElem?_eq_none (by rw [wipe_length, hl]; omega), List.getElem?_eq_none (by rw [wipe_length]; omega)]
  · rw [wipe_not hj, wipe_not hj, h j hj]
theorem wipe_set1 (σ : L2.St) (i : Nat) (v : Option V) : wipe (σ.set i v) [i] = wipe σ [i] :=
  wipe_ext setlen fun j h => List.getElem?_set_ne (fun e => h (by simp [e]))
theorem wipe_set2 (σ : L2.St) (i j : Nat) (v w : Option V) : wipe ((σ.set i v).set j w) [i, j] = wipe σ [i, j] :=
  wipe_ext (by rw [setlen, setlen]) fun k h => by
    rw [List.getElem?_set_ne (fun e => h (by simp [e])), List.getElem?_set_ne (fun e => h (by simp [e]))]
theorem wipe_set3 (σ : L2.St) (i j l : Nat) (v w u : Option V) : wipe (((σ.set i v).set j w).set l u) [i, j, l] = wipe σ [i, j, l] :=
  wipe_ext (by rw [setlen, setlen, setlen]) fun k h => by
    rw [List.getElem?_set_ne (fun e => h (by simp [e])), List.getElem?_set_ne (fun e => h (by simp [e])), List.getElem?_set_ne (fun e => h (by simp [e]))]
theorem tg_name {i : Nat} {x : Str} {ρ : α → List Sl} (hx : Vs X i x) (hi : ∀ a, i < (ρ a).length) : TgOk (γ := D) X (.Name x pos) [i] ρ some (fun a d => (ρ a).set i (.da d)) :=
  ⟨fun pins s σ H v u Q I r ⟨a, c, F, G, d, e, S, rp, q⟩ => (pg_name hx.nd hx.n hx.l hx.f).run pins s σ H v u Q I r (by cases e; exact q _ setlen (wipe_set1 ..) (S.setD (hi a) rp))⟩
def up2 : D → Option (D × D)
  | .tuple [a, b] => some (a, b)
  | _ => none
def up3 : D → Option (D × D × D)
  | .tuple [a, b, c] => some (a, b, c)
  | _ => none
theorem PG.imp {X : Cx} {tg : Expr} {t u : TG} (h : PG X tg t) (i : ∀ v σ H Q, u v σ H Q → t v σ H Q) : PG X tg u :=
  ⟨fun pins s σ H v w Q I r q => h.run pins s σ H v w Q I r (i v σ H Q q)⟩
theorem tg_two {i j : Nat} {x y : Str} {p1 p2 : Pos} {k : Nat} {ρ : α → List Sl} (hc : X.calm = true) (hx : Vs X i x) (hy : Vs X j y) (hi : ∀ a, i < (ρ a).length) (hj : ∀ a, j < (ρ a).length) :
    TgOk (γ := D × D) X (.Tuple [.Name x p1, .Name y p2] k pos) [i, j] ρ up2 (fun a d => ((ρ a).set i (.da d.1)).set j (.da d.2)) :=
  PG.imp (pg_tup (n := 2) hc (pgs_cons (pg_name hx.nd hx.n hx.l hx.f) (pgs_cons (pg_name hy.nd hy.n hy.l hy.f) pgs_nil))) fun v σ H Q ⟨a, c, F, G, d, e, S, rp, q⟩ => by
    match d, e, rp with
    | .tuple [d1, d2], e, rp =>
      cases e
      obtain ⟨p, xs, rfl, h1, z, r⟩ := inv_t rp
      cases r with
      | cons r1 r =>
        cases r with
        | cons r2 r =>
          cases r
          refine ⟨p, _, rfl, .of (S.fh.sub _ _ h1), rfl, _, _, rfl, _, _, rfl, rfl, q _ (by rw [setlen, setlen]) (wipe_set2 ..) ?_⟩
          exact (S.setD (hi a) r1).setD (by rw [List.length_set]; exact hj a) r2
theorem tg_three {i j l : Nat} {x y z : Str} {p1 p2 p3 : Pos} {k : Nat} {ρ : α → List Sl} (hc : X.calm = true) (hx : Vs X i x) (hy : Vs X j y) (hz : Vs X l z) (hi : ∀ a, i < (ρ a).length) (hj : ∀ a, j < (ρ a).length) (hl : ∀ a, l < (ρ a).length) :
    TgOk (γ := D × D × D) X (.Tuple [.Name x p1, .Name y p2, .Name z p3] k pos) [i, j, l] ρ up3 (fun a d => (((ρ a).set i (.da d.1)).set j (.da d.2.1)).set l (.da d.2.2)) :=
  PG.imp (pg_tup (n := 3) hc (pgs_cons (pg_name hx.nd hx.n hx.l hx.f) (pgs_cons (pg_name hy.nd hy.n hy.l hy.f) (pgs_cons (pg_name hz.nd hz.n hz.l hz.f) pgs_nil)))) fun v σ H Q ⟨a, c, F, G, d, e, S, rp, q⟩ => by
    match d, e, rp with
    | .tuple [d1, d2, d3], e, rp =>
      cases e
      obtain ⟨p, xs, rfl, h1, zz, r⟩ := inv_t rp
      cases r with
      | cons r1 r =>
        cases r with
        | cons r2 r =>
          cases r with
          | cons r3 r =>
            cases r
            refine ⟨p, _, rfl, .of (S.fh.sub _ _ h1), rfl, _, _, rfl, _, _, rfl, _, _, rfl, rfl, q _ (by rw [setlen, setlen, setlen]) (wipe_set3 ..) ?_⟩
            exact ((S.setD (hi a) r1).setD (by rw [List.length_set]; exact hj a) r2).setD (by rw [List.length_set, List.length_set]; exact hl a) r3
/-- for target in e: body -/
theorem bs_for {γ : Type} {vs : List Nat} {mi : Rs (List D)} {take : D → Option γ} {mb : α → γ → Rs (Out α)} {ρL : α → List Sl} {ρt : α → γ → List Sl} {a0 : α} {k : α → Rs (Out β)}
    (hp : PassesOwn (model X.prog X.w) X.A X.env X.xe) (hc : X.calm = true) (hi : EI X W ρ tg e mi) (hg : TgOk X tg vs ρL take ρt) (hb : ∀ a c, BS X W (ρt a c) body ρL (mb a c))
    (hl : ∀ a, (ρL a).length = ρ.length) (h0 : SlsLe ρ (ρL a0)) (hr : ∀ a, BS X W (ρL a) rest ρ' (k a)) (hs : ∀ x, foldedSetIterable e X.env x = pure x := by intro _; rfl) :
    BS X W ρ (.For tg e body [] pos :: rest) ρ' (mi.bind fun ds => (forM (fun a d => took (take d) (mb a)) ds a0).seq k) := by
  have rest_ok : PSs X rest (rAny X W ρL ρ' k) :=
    ⟨fun pins s σ H D I ⟨x, F, G, S, q⟩ => (hr x).run pins s σ H D I ⟨F, G, S, q⟩⟩
  have body_ok : PSs X body (rAny2 X W ρt ρL mb) :=
    ⟨fun pins s σ H D I ⟨a, c, F, G, S, q⟩ => (hb a c).run pins s σ H D I ⟨F, G, S, q⟩⟩
  refine PSs.imp (pss_cons (ps_for hp hc hi hg body_ok hs) rest_ok) fun D σ H ⟨F, G, S, q⟩ => ⟨F, G, S, ?_⟩
  cases mi with
  | exc c => exact fun v H' q' s => (show DenS X W (.exc c) ρ' F G σ.length D from q) v σ H' q' (S.fh.sub.trans s) (S.gh.trans s) rfl
  | stuck => exact q
  | ok ds =>
    have q0 : DenS X W ((forM (fun a d => took (take d) (mb a)) ds a0).seq k) ρ' F G σ.length D := q
    intro J F0 H0 x0 w
    have lenL : ∀ {a : α} {F G H : Hp} {σ' : L2.St}, Ste F G H σ' (ρL a) → σ'.length = σ.length := fun {a} {_} {_} {_} {_} S' => by rw [S'.len, hl, ← S.len]
    -- between two turns: the rest of the loop is wanted
    refine for_it (g := rTg vs ρL take ρt) (tb := rAny2 X W ρt ρL mb) (D := { D with nx := rAny X W ρL ρ' k D }) (J := J) (n := ds.length) (G := fun H' => ∃ F1, Same F0 F1 ∧ FH F1 H') (Y := fun i H v H' => i < ds.length ∧ J.yld i H v H') ⟨fun i H' hi' ⟨F1, s1, f1⟩ => w.goes i F1 H' hi' s1 f1, fun H' ⟨F1, s1, f1⟩ => w.stops F1 H' s1 f1, fun i H' v H'' hi' _ y => ⟨hi', y⟩⟩
      (fun i σ' H' => ∃ a F1, Ste F1 G H' σ' (ρL a) ∧ Same F0 F1 ∧ DenS X W ((forM (fun a d => took (take d) (mb a)) (ds.drop i) a).seq k) ρ' F1 G σ.length D)
      ⟨a0, F0, (S.mono x0).weak h0, .refl _, q0.gr (x0.gr S.gh)⟩ (fun i σ' H' _ ⟨a, F1, S1, s1, _⟩ => ⟨F1, s1, S1.fh⟩) ?_ ?_
    · rintro i v σ' H1 H2 hi' ⟨a, F1, S1, s1, d1⟩ ⟨_, y⟩
      obtain ⟨F2, d, x2, hd, r2⟩ := w.yields i F1 H1 v H2 hi' s1 S1.fh y
      have e1 : ds.drop i = d :: ds.drop (i + 1) := by
        rw [List.drop_eq_getElem_cons hi']
        congr 1
        rw [List.getElem?_eq_getElem hi'] at hd
        exact Option.some.inj hd
      rw [e1] at d1
      have S2 := S1.mono x2
      have d2 := DenS.gr d1 (x2.gr S1.gh)
      cases ht : take d with
      | some c =>
        have d3 : DenS X W (((mb a c).seq (forM (fun a d => took (take d) (mb a)) (ds.drop (i + 1)))).seq k) ρ' F2 G σ.length D := by
          have : forM (fun a d => took (take d) (mb a)) (d :: ds.drop (i + 1)) a = (mb a c).seq (forM (fun a d => took (take d) (mb a)) (ds.drop (i + 1))) := by
            show (took (take d) (mb a)).seq _ = _
            rw [ht]; rfl
          rw [this] at d2
          exact d2
        refine ⟨a, c, F2, G, d, ht, S2, r2, fun σ3 l3 _ S3 => ⟨a, c, F2, G, S3, ?_⟩⟩
        have l4 : σ3.length = σ.length := by rw [l3]; exact lenL S1
        rw [l4]
        cases em : mb a c with
        | ok o =>
          rw [em] at d3
          cases o with
          | nx b =>
            intro σ4 F4 H4 g4 S4
            exact ⟨b, F4, S4, s1.trans (x2.f.trans g4.f), (show DenS X W ((forM (fun a d => took (take d) (mb a)) (ds.drop (i + 1)) b).seq k) ρ' F2 G σ.length D from d3).gr g4⟩
          | ret d => exact d3
        | exc c => rw [em] at d3; exact d3
        | stuck => rw [em] at d3; exact d3
      | none =>
        have : forM (fun a d => took (take d) (mb a)) (d :: ds.drop (i + 1)) a = .stuck := by
          show (took (take d) (mb a)).seq _ = _
          rw [ht]; rfl
        rw [this] at d2
        exact (show False from d2).elim
    · rintro σ' H' ⟨a, F1, S1, s1, d1⟩
      rw [List.drop_length] at d1
      have d2 : DenS X W (k a) ρ' F1 G σ.length D := d1
      exact ⟨a, F1, G, S1, by rw [lenL S1]; exact d2⟩

/-! ### comprehensions -/
def lcM {γ : Type} (take : D → Option γ) (t : γ → Rs Bool) (f : γ → Rs D) : List D → Rs (List D)
  | [] => .ok []
  | d :: ds => took (take d) fun c => (t c).nox.bind fun b => if b = true then (f c).nox.bind fun y => (lcM take t f ds).bind fun ys => .ok (y :: ys) else lcM take t f ds
def wipeS (ρ : List Sl) : List Nat → List Sl
  | [] => ρ
  | v :: vs => (wipeS ρ vs).set v .no
theorem wipeS_length (ρ : List Sl) : ∀ vs : List Nat, (wipeS ρ vs).length = ρ.length
  | [] => rfl
  | v :: vs => by unfold wipeS; rw [List.length_set, wipeS_length ρ vs]
theorem Ste.wipe {F G H : Hp} {σ : L2.St} {ρ : List Sl} (S : Ste F G H σ ρ) : ∀ vs : List Nat, Ste F G H (L2.wipe σ vs) (wipeS ρ vs)
  | [] => S
  | v :: vs => by
    have ih := Ste.wipe S vs
    by_cases hv : v < (wipeS ρ vs).length
    · exact ih.setG hv trivial fun z => by cases z
    · have e1 : wipeS ρ (v :: vs) = wipeS ρ vs := List.set_eq_of_length_le (by omega)
      have e2 : L2.wipe σ (v :: vs) = L2.wipe σ vs := List.set_eq_of_length_le (by rw [ih.len]; omega)
      rw [e1, e2]; exact ih
abbrev W0 : WX := fun _ _ _ _ => False
/-- a comprehension's tests -/
def ETs (X : Cx) (W : WX) (ρ : List Sl) (es : List Expr) (m : Rs Bool) : Prop := PTs X es (rET X W ρ m)
theorem ets_nil : ETs X W ρ [] (.ok true) := ⟨fun pins s σ H Q I ⟨F, G, S, k⟩ => pts_nil.run pins s σ H Q I (k F H S.ext)⟩
theorem ets_one {m : Rs Bool} (h : ET X W ρ e m) : ETs X W ρ [e] m := pts_one h
theorem DenE.nox {m : Rs D} {b : Bool} {F H : Hp} {σ : L2.St} {Q : VK} {d : D} (hm : m = .ok d) (h : ∀ v F' H', Ext F H F' H' → Rp (if b then H' else F') v d → Q v H') : DenE X W b m F H σ Q := by
  subst hm; exact h
/-- a comprehension's reading -/
def lcT {γ : Type} (ρt : γ → List Sl) (mt : γ → Rs Bool) : TT := fun σ H Q => ∃ (c : γ) (F G : Hp) (b : Bool), mt c = .ok b ∧ Ste F G H σ (ρt c) ∧ ∀ F' H', Ext F H F' H' → Q b H'
def lcE {γ : Type} (ρt : γ → List Sl) (me : γ → Rs D) : TE := fun σ H Q => ∃ (c : γ) (F G : Hp) (d : D), me c = .ok d ∧ Ste F G H σ (ρt c) ∧ ∀ v F' H', Ext F H F' H' → Rp F' v d → Q v H'
theorem lc_den {γ : Type} {b : Bool} {vs : List Nat} {own : List (Str × Nat)} {mi : Rs (List D)} {take : D → Option γ} {mt : γ → Rs Bool} {me : γ → Rs D} {ρt : γ → List Sl} (hv : own.map (·.2) = vs) (σ : L2.St) (H : Hp) (Q : VK)
    (h : rEV X W b ρ (mi.bind fun ds => (lcM take mt me ds).bind fun l => .ok (.list l)) σ H Q) : tLc (rEI X W ρ mi) (rTg vs (fun _ : Unit => wipeS ρ vs) take (fun _ c => ρt c)) (lcT ρt mt) (lcE ρt me) (own.map (·.2)) σ H Q := by
  obtain ⟨F, G, S, q⟩ := h
  refine ⟨F, G, S, ?_⟩
  rw [hv]
  cases mi with
  | exc c => exact q
  | stuck => exact q
  | ok ds =>
    intro J F0 H0 x0 w Dn hD
    have q1 : DenE X W b ((lcM take mt me ds).bind fun l => .ok (.list l)) F H σ Q := q
    have never : ∀ ds c, lcM take mt me ds ≠ .exc c := by
      intro ds
      induction ds with
      | nil => intro c z; cases z
      | cons d ds ih =>
        intro c z
        unfold lcM took at z
        cases ht : take d with
        | none => rw [ht] at z; cases z
        | some t =>
          rw [ht] at z
          dsimp only at z
          cases e1 : mt t with
          | ok bb =>
            rw [e1] at z
            cases bb with
            | false => exact ih c z
            | true =>
              have z' : (me t).nox.bind (fun y => (lcM take mt me ds).bind fun ys => .ok (y :: ys)) = .exc c := z
              cases e2 : me t with
              | ok y =>
                rw [e2] at z'
                cases e3 : lcM take mt me ds with
                | ok l => rw [Rs.nox_ok, Rs.bind_ok, e3] at z'; cases z'
                | exc c2 => exact ih c2 e3
                | stuck => rw [Rs.nox_ok, Rs.bind_ok, e3] at z'; cases z'
              | exc c2 => rw [e2] at z'; cases z'
              | stuck => rw [e2] at z'; cases z'
          | exc c2 => rw [e1] at z; cases z
          | stuck => rw [e1] at z; cases z
    cases el : lcM take mt me ds with
    | exc c => exact absurd el (never ds c)
    | stuck => rw [el] at q1; exact (show False from q1).elim
    | ok l =>
      rw [el] at q1
      have q2 : ∀ v F' H', Ext F H F' H' → Rp (if b then H' else F') v (.list l) → Q v H' := q1
      have nF0 : F0 Dn = none := x0.fh.none hD
      have ntup : ∀ (xs : List V) ys, HO.lst xs ≠ HO.tup ys := fun _ _ z => by cases z
      -- what stands between two turns
      refine lc_it (J := J) (n := ds.length) (g := rTg vs (fun _ : Unit => wipeS ρ vs) take (fun _ c => ρt c))
        (tt := lcT ρt mt)
        (te := lcE ρt me)
        (G := fun H' => ∃ F1, Same F0 F1 ∧ FH F1 H') (Y := fun i H v H' => i < ds.length ∧ J.yld i H v H')
        ⟨fun i H' hi' ⟨F1, s1, f1⟩ => w.goes i F1 H' hi' s1 f1, fun H' ⟨F1, s1, f1⟩ => w.stops F1 H' s1 f1, fun i H' v H'' hi' _ y => ⟨hi', y⟩⟩
        (fun i H' => ∃ F1 acc accd more, H' Dn = some (.lst acc) ∧ F1 Dn = none ∧ RpA F1 acc accd ∧ acc.length ≤ i ∧ lcM take mt me (ds.drop i) = .ok more ∧ l = accd ++ more ∧ Same F0 F1 ∧ FH F1 H' ∧ Same H0 H' ∧
          (∀ a, F0 a = none → F1 a ≠ none → H0 a = none) ∧ Ste F1 G H' (wipe σ vs) (wipeS ρ vs))
        ⟨F0, [], [], l, upd_same, nF0, .nil, Nat.le_refl _, el, rfl, .refl _, ⟨fun b u e => by rw [upd_ne (ne_of_none e nF0)]; exact x0.fh.sub b u e, fun b xs e => by
            by_cases hb : b = Dn
            · subst hb; rw [upd_same] at e; cases e
            · rw [upd_ne hb] at e; exact x0.fh.tup b xs e, x0.fh.nd⟩, same_upd hD, fun a h h' => absurd h h', ?_⟩
        (fun i H' _ ⟨F1, acc, accd, more, _, _, _, _, _, _, s1, f1, _⟩ => ⟨F1, s1, f1⟩) ?_ ?_
      · have S0 := (S.mono x0).wipe vs
        exact ⟨⟨fun b u e => by rw [upd_ne (ne_of_none e nF0)]; exact x0.fh.sub b u e, fun b xs e => by
            by_cases hb : b = Dn
            · subst hb; rw [upd_same] at e; cases e
            · rw [upd_ne hb] at e; exact x0.fh.tup b xs e, x0.fh.nd⟩, S0.gh.trans (same_upd hD), S0.len, fun i s e => by
            have q := S0.sl i s e
            have keep : ∀ {a : Addr} {t : Sl}, owns t = true → OwnAt F0 H0 a t → OwnAt F0 (upd H0 Dn (.lst [])) a t := fun {a} {t} ot o => by
              cases t with
              | no => cases ot
              | da _ => cases ot
              | ex _ => cases ot
              | ol _ => obtain ⟨xs, h, r⟩ := o; exact ⟨xs, same_upd hD _ _ h, r⟩
              | ok _ => obtain ⟨xs, h, r⟩ := o; exact ⟨xs, same_upd hD _ _ h, r⟩
              | ot _ => obtain ⟨xs, h, r⟩ := o; exact ⟨xs, same_upd hD _ _ h, r⟩
            cases s with
            | no => trivial
            | da _ => exact q
            | ex _ => exact q
            | ol _ => obtain ⟨a, e, f, g, o⟩ := q; exact ⟨a, e, f, g, keep rfl o⟩
            | ok _ => obtain ⟨a, e, f, g, o⟩ := q; exact ⟨a, e, f, g, keep rfl o⟩
            | ot _ => obtain ⟨a, e, f, g, o⟩ := q; exact ⟨a, e, f, g, keep rfl o⟩, S0.dis⟩
      · rintro i v H1 H2 hi' ⟨F1, acc, accd, more, hA, hFn, hR, hL, hM, hl, s1, f1, h1, nw1, S1⟩ ⟨_, y⟩
        obtain ⟨F2, d, x2, hd, r2⟩ := w.yields i F1 H1 v H2 hi' s1 f1 y
        have e1 : ds.drop i = d :: ds.drop (i + 1) := by
          rw [List.drop_eq_getElem_cons hi']
          congr 1
          rw [List.getElem?_eq_getElem hi'] at hd
          exact Option.some.inj hd
        rw [e1] at hM
        unfold lcM took at hM
        cases htk : take d with
        | none => rw [htk] at hM; cases hM
        | some c =>
          rw [htk] at hM
          dsimp only at hM
          have S2 := S1.mono x2
          refine ⟨(), c, F2, G, d, htk, S2, r2, fun σ3 l3 w3 S3 => ⟨?_, ?_⟩⟩
          · rw [w3]
            refine wipe_ext (wipe_length ..) fun j hj => wipe_not hj
          · cases e2 : mt c with
            | exc c2 => rw [e2] at hM; cases hM
            | stuck => rw [e2] at hM; cases hM
            | ok bb =>
              rw [e2] at hM
              refine ⟨c, F2, G, bb, e2, S3, fun F3 H3 x3 => ?_⟩
              have x13 := x2.trans x3
              have nw3 : ∀ a, F0 a = none → F3 a ≠ none → H0 a = none := fun a h h' => by
                by_cases q : F1 a = none
                · exact h1.free (x13.nw a q h')
                · exact nw1 a h q
              cases bb with
              | false =>
                refine iteF ?_
                exact ⟨F3, acc, accd, more, x13.h _ _ hA, x13.keepNone hFn (by rw [hA]; intro z; cases z), hR.mono x13.f, Nat.le_succ_of_le hL, hM, hl, s1.trans x13.f, x13.fh, h1.trans x13.h, nw3, S1.mono x13⟩
              | true =>
                refine iteT ?_
                have hM' : (me c).nox.bind (fun y => (lcM take mt me (ds.drop (i + 1))).bind fun ys => .ok (y :: ys)) = .ok more := hM
                cases e3 : me c with
                | exc c2 => rw [e3] at hM'; cases hM'
                | stuck => rw [e3] at hM'; cases hM'
                | ok yd =>
                  rw [e3, Rs.nox_ok, Rs.bind_ok] at hM'
                  cases e4 : lcM take mt me (ds.drop (i + 1)) with
                  | exc c2 => rw [e4] at hM'; cases hM'
                  | stuck => rw [e4] at hM'; cases hM'
                  | ok ys =>
                    rw [e4] at hM'
                    have em : yd :: ys = more := by cases hM'; rfl
                    refine ⟨c, F3, G, yd, e3, S3.mono x3, fun u F4 H4 x4 r4 => ?_⟩
                    have x14 := x13.trans x4
                    have hA4 := x14.h _ _ hA
                    have hF4 : F4 Dn = none := x14.keepNone hFn (by rw [hA]; intro z; cases z)
                    have nG : ∀ b u, G b = some u → b ≠ Dn := fun b u e z => by
                      subst z
                      exact absurd (x0.h _ _ (S.gh _ _ e)) (by rw [hD]; intro z; cases z)
                    have S4 := S1.mono x14
                    have hsmall : acc.length < sizeLine := Nat.lt_of_lt_of_le (Nat.lt_of_le_of_lt hL hi') w.small
                    refine ⟨acc, hA4, hsmall, F4, acc ++ [u], accd ++ [yd], ys, upd_same, hF4, (hR.mono x14.f).snoc r4, by rw [List.length_append]; exact Nat.succ_le_succ hL, rfl, by rw [hl, ← em]; simp, s1.trans x14.f, ⟨fun b u e => by rw [upd_ne (ne_of_none e hF4)]; exact x14.fh.sub b u e, fun b xs e => by
                        by_cases hb : b = Dn
                        · subst hb; rw [upd_same] at e; cases e
                        · rw [upd_ne hb] at e; exact x14.fh.tup b xs e, x14.fh.nd⟩, ?_, ?_, ?_⟩
                    · intro b u e
                      rw [upd_ne (ne_of_none e hD)]
                      exact (h1.trans x14.h) b u e
                    · intro a h h'
                      by_cases q : F3 a = none
                      · by_cases q1 : F1 a = none
                        · exact h1.free (x14.nw a q1 h')
                        · exact nw1 a h q1
                      · exact nw3 a h q
                    · refine ⟨⟨fun b u e => by rw [upd_ne (ne_of_none e hF4)]; exact x14.fh.sub b u e, fun b xs e => by
                        by_cases hb : b = Dn
                        · subst hb; rw [upd_same] at e; cases e
                        · rw [upd_ne hb] at e; exact x14.fh.tup b xs e, x14.fh.nd⟩, fun b u e => by rw [upd_ne (nG b u e)]; exact S4.gh b u e, S4.len, fun j s e => ?_, S4.dis⟩
                      have qq := S4.sl j s e
                      have q0 := ((S.mono x0).wipe vs).sl j s e
                      have nD : ∀ a : Addr, H0 a ≠ none → a ≠ Dn := fun a h z => h (by rw [z]; exact hD)
                      cases s with
                      | no => trivial
                      | da _ => exact qq
                      | ex _ => exact qq
                      | ol _ =>
                        obtain ⟨a, e1, f, g, o⟩ := qq
                        obtain ⟨a', e1', f', g', o'⟩ := q0
                        rw [e1] at e1'; cases e1'
                        obtain ⟨xs, hx, r⟩ := o
                        exact ⟨a, e1, f, g, xs, by rw [upd_ne (nD a (OwnAt.there rfl o'))]; exact hx, r⟩
                      | ok _ =>
                        obtain ⟨a, e1, f, g, o⟩ := qq
                        obtain ⟨a', e1', f', g', o'⟩ := q0
                        rw [e1] at e1'; cases e1'
                        obtain ⟨xs, hx, r⟩ := o
                        exact ⟨a, e1, f, g, xs, by rw [upd_ne (nD a (OwnAt.there rfl o'))]; exact hx, r⟩
                      | ot _ =>
                        obtain ⟨a, e1, f, g, o⟩ := qq
                        obtain ⟨a', e1', f', g', o'⟩ := q0
                        rw [e1] at e1'; cases e1'
                        obtain ⟨xs, hx, r⟩ := o
                        exact ⟨a, e1, f, g, xs, by rw [upd_ne (nD a (OwnAt.there rfl o'))]; exact hx, r⟩
      · rintro H' ⟨F1, acc, accd, more, hA, hFn, hR, hL, hM, hl, s1, f1, h1, nw1, S1⟩
        rw [List.drop_length] at hM
        have em : more = [] := by cases hM; rfl
        rw [em, List.append_nil] at hl
        have f2 : FH (upd F1 Dn (.lst acc)) H' := ⟨fun b u e => by
            by_cases hb : b = Dn
            · subst hb; rw [upd_same] at e; cases e; exact hA
            · rw [upd_ne hb] at e; exact f1.sub b u e, fun b xs e => same_upd hFn _ _ (f1.tup b xs e), f1.nd.upd rfl⟩
        have xx : Ext F0 H0 (upd F1 Dn (.lst acc)) H' := ⟨s1.trans (same_upd hFn), h1, f2, fun a h h' => by
            by_cases ha : a = Dn
            · rw [ha]; exact hD
            · rw [upd_ne ha] at h'; exact nw1 a h h'⟩
        refine q2 _ _ H' (x0.trans xx) (Rp.up f2 (.lst (.inl upd_same) (Nat.le_trans hL w.small) ?_))
        rw [hl]
        exact hR.mono (same_upd hFn)
theorem lcT_ok {γ : Type} {X : Cx} {W : WX} {ifs : List Expr} {mt : γ → Rs Bool} {ρt : γ → List Sl} (h : ∀ c : γ, ETs X W (ρt c) ifs (mt c)) : PTs X ifs (lcT ρt mt) :=
  ⟨fun pins s' σ H' Q I ⟨c, F, G, b, e, S, k⟩ => (h c).run pins s' σ H' Q I ⟨F, G, S, by rw [e]; exact k⟩⟩
theorem lcE_ok {γ : Type} {X : Cx} {W : WX} {elt : Expr} {me : γ → Rs D} {ρt : γ → List Sl} (h : ∀ c : γ, EV X W false (ρt c) elt (me c)) : PE X elt (lcE ρt me) :=
  ⟨fun pins s' σ H' Q I ⟨c, F, G, d, e, S, k⟩ => (h c).run pins s' σ H' Q I ⟨F, G, S, by rw [e]; exact k⟩⟩
theorem ev_lc {γ : Type} {b : Bool} {vs : List Nat} {iter elt : Expr} {ifs : List Expr} {scope : Scope} {own : List (Str × Nat)} {mi : Rs (List D)} {take : D → Option γ} {mt : γ → Rs Bool} {me : γ → Rs D} {ρt : γ → List Sl}
    (hc : X.calm = true) (hN : X.N.Nodup) (hi : EI X W ρ tg iter mi) (ok : BlkOk X.N X.env.scope scope own) (hv : own.map (·.2) = vs)
    (hg : ∀ (s : Shared) (H : Hp) (C : Addr) (cl : List (Str × Addr)) (fp : List Addr), TgOk (X.blk s H scope (compEnvC scope cl C X.env) fp) tg vs (fun _ : Unit => wipeS ρ vs) take (fun _ c => ρt c))
    (ht : ∀ (s : Shared) (H : Hp) (C : Addr) (cl : List (Str × Addr)) (fp : List Addr) (c : γ), ETs (X.blk s H scope (compEnvC scope cl C X.env) fp) W0 (ρt c) ifs (mt c))
    (he : ∀ (s : Shared) (H : Hp) (C : Addr) (cl : List (Str × Addr)) (fp : List Addr) (c : γ), EV (X.blk s H scope (compEnvC scope cl C X.env) fp) W0 false (ρt c) elt (me c))
    (hs : ∀ x, foldedSetIterable iter X.env x = pure x := by intro _; rfl) :
    EV X W b ρ (.ListComp elt [⟨tg, iter, ifs, 0⟩] scope pos) (mi.bind fun ds => (lcM take mt me ds).bind fun l => .ok (.list l)) :=
  PE.imp (pe_lc hc hN hi ok (fun s H C cl fp => hg s H C cl fp) (fun s H C cl fp => lcT_ok (ht s H C cl fp)) (fun s H C cl fp => lcE_ok (he s H C cl fp)) hs) (lc_den hv)
/-- name = [..], all on one line -/
theorem bs_setLc {γ α : Type} {vs : List Nat} {iter elt : Expr} {ifs : List Expr} {scope : Scope} {own : List (Str × Nat)} {mi : Rs (List D)} {take : D → Option γ} {mt : γ → Rs Bool} {me : γ → Rs D} {ρt : γ → List Sl} {i : Nat} {y : Str} {py spos : Pos} {rest : List Stmt} {ρ' : α → List Sl} {k : D → Rs (Out α)}
    (hc : X.calm = true) (hy : Vs X i y) (hyl : X.env.scope.names.lookup y = some .local) (hi0 : i < ρ.length) (hsw : swapsWith (.ListComp elt [⟨tg, iter, ifs, 0⟩] scope pos) (some (.Name y py)) spos.line X.env = pure true)
    (hi : EI X W ρ tg iter mi) (ok : BlkOk X.N X.env.scope scope own) (hv : own.map (·.2) = vs)
    (hg : ∀ (s : Shared) (H : Hp) (C : Addr) (cl : List (Str × Addr)) (fp : List Addr), TgOk (X.blk s H scope (compEnvC scope cl C X.env) fp) tg vs (fun _ : Unit => wipeS ρ vs) take (fun _ c => ρt c))
    (ht : ∀ (s : Shared) (H : Hp) (C : Addr) (cl : List (Str × Addr)) (fp : List Addr) (c : γ), ETs (X.blk s H scope (compEnvC scope cl C X.env) fp) W0 (ρt c) ifs (mt c))
    (he : ∀ (s : Shared) (H : Hp) (C : Addr) (cl : List (Str × Addr)) (fp : List Addr) (c : γ), EV (X.blk s H scope (compEnvC scope cl C X.env) fp) W0 false (ρt c) elt (me c))
    (hr : ∀ d, BS X W (ρ.set i (.da d)) rest ρ' (k d))
    (hs : ∀ x, foldedSetIterable iter X.env x = pure x := by intro _; rfl) :
    BS X W ρ (.Assign [.Name y py] (.ListComp elt [⟨tg, iter, ifs, 0⟩] scope pos) spos :: rest) ρ' ((mi.bind fun ds => (lcM take mt me ds).bind fun l => .ok (.list l)).bind k) := by
  have st := ps_setLc (i := i) (py := py) hc hy.nd hy.n hyl hsw hi ok (fun s H C cl fp => hg s H C cl fp) (fun s H C cl fp => lcT_ok (ht s H C cl fp)) (fun s H C cl fp => lcE_ok (he s H C cl fp)) hs
  have den : ∀ σ H Q, rEV X W false ρ (mi.bind fun ds => (lcM take mt me ds).bind fun l => .ok (.list l)) σ H Q → tLc (rEI X W ρ mi) (rTg vs (fun _ : Unit => wipeS ρ vs) take (fun _ c => ρt c)) (lcT ρt mt) (lcE ρt me) (own.map (·.2)) σ H Q := fun σ H Q => lc_den (b := false) (ρt := ρt) (W := W) hv σ H Q
  generalize hm : (mi.bind fun ds => (lcM take mt me ds).bind fun l => Rs.ok (PyData.list l)) = m at den ⊢
  cases m with
  | ok d =>
    refine PSs.imp (pss_cons st (hr d)) fun D σ H ⟨F, G, S, q⟩ => ?_
    refine den σ H (fun x H1 => gName i x σ H1 (rBS X W (ρ.set i (.da d)) ρ' (k d) D)) ⟨F, G, S, ?_⟩
    intro v F' H' x r
    refine ⟨F', G, (S.mono x).setD hi0 r, ?_⟩
    rw [setlen]
    exact (show DenS X W (k d) ρ' F G σ.length D from q).gr (x.gr S.gh)
  | exc c =>
    refine PSs.imp (pss_cons st pss_never) fun D σ H ⟨F, G, S, q⟩ => ?_
    refine den σ H (fun x H1 => gName i x σ H1 (tNever D)) ⟨F, G, S, ?_⟩
    exact fun v H' c s => (show DenS X W (.exc _) ρ' F G σ.length D from q) v σ H' c (S.fh.sub.trans s) (S.gh.trans s) rfl
  | stuck => exact PSs.imp pss_never fun D σ H ⟨F, G, S, q⟩ => q
end
end Pu

/-! The pure layer, part 6: defs, names, built-ins, methods. -/
namespace Pu
open PySem PySem.Spec
open PyProof.Rows L2

/-! ### names by a look at the scope -/
def vaC (N : List Str) (sc : Scope) (i : Nat) (x : Str) : Bool :=
  decide (N[i]? = some x) && (match sc.names.lookup x with
    | some .local => true
    | some .cell => true
    | some .free => true
    | _ => false) && !(x == ("__debug__" : Str)) && !(x == ("__classdict__" : Str))
theorem va_of {X : Cx} {N : List Str} {sc : Scope} {i : Nat} {x : Str} (hn : X.N = N) (hs : X.env.scope = sc) (h : vaC N sc i x = true) : Va X i x := by
  unfold vaC at h
  simp only [Bool.and_eq_true, decide_eq_true_eq, Bool.not_eq_true'] at h
  obtain ⟨⟨⟨h1, h2⟩, h3⟩, h4⟩ := id h
  refine ⟨by rw [hn]; exact h1, ?_, h3, h4⟩
  unfold Vis
  rw [hs]
  split at h2
  · exact .inl (by assumption)
  · exact .inr (.inl (by assumption))
  · exact .inr (.inr (by assumption))
  · cases h2
def vsC (N : List Str) (sc : Scope) (fn : Str → Bool) (i : Nat) (x : Str) : Bool :=
  decide N.Nodup && decide (N[i]? = some x) && (match sc.names.lookup x with
    | some .local => true
    | some .cell => fn x
    | _ => false)
theorem vs_of {X : Cx} {N : List Str} {sc : Scope} {fn : Str → Bool} {i : Nat} {x : Str} (hn : X.N = N) (hs : X.env.scope = sc) (hf : X.fn = fn) (h : vsC N sc fn i x = true) : Vs X i x := by
  unfold vsC at h
  simp only [decide_eq_true_eq, Bool.and_eq_true] at h
  obtain ⟨⟨h1, h2⟩, h3⟩ := h
  split at h3
  · rename_i e
    exact ⟨by rw [hn]; exact h1, by rw [hn]; exact h2, .inl (by rw [hs]; exact e), .inr (by rw [hs]; exact e)⟩
  · rename_i e
    exact ⟨by rw [hn]; exact h1, by rw [hn]; exact h2, .inr (by rw [hs]; exact e), .inl (by rw [hf]; exact h3)⟩
  · cases h3
def gnC (sc : Scope) (x : Str) : Bool := (match sc.names.lookup x with
  | some .globalImplicit => true
  | _ => false) && !(x == ("__debug__" : Str)) && decide (x ≠ "__name__")
theorem gn_of {X : Cx} {sc : Scope} {x : Str} (hs : X.env.scope = sc) (h : gnC sc x = true) : Gn X x := by
  unfold gnC at h
  simp only [Bool.and_eq_true, decide_eq_true_eq, Bool.not_eq_true'] at h
  obtain ⟨⟨h1, h2⟩, h3⟩ := h
  split at h1
  · rename_i e
    exact ⟨by unfold Gl Env.kindOf; rw [hs]; exact e, h2⟩
  · cases h1
theorem bn_of {X : Cx} {sc : Scope} {x : Str} {f : Value} (hs : X.env.scope = sc) (h : gnC sc x = true) (hm : X.mg x = none) (hv : bootBuiltins x = some f) : Bn X x f := by
  have g := gn_of hs h
  unfold gnC at h
  simp only [Bool.and_eq_true, decide_eq_true_eq, Bool.not_eq_true'] at h
  exact ⟨g.g, hm, hv, h.2, g.db⟩
theorem gv_of {X : Cx} {sc : Scope} {x : Str} {v : V} {d : D} (hs : X.env.scope = sc) (h : gnC sc x = true) (hm : ∃ u, X.mg x = some u ∧ RelV v u) (r : ∀ F, Rp F v d) : Gv X x v d := by
  have g := gn_of hs h
  exact ⟨g.g, hm, g.db, r⟩

/-! ### defs -/
/-- the context of a def's body -/
structure DX (N : List Str) (sc : Scope) (k : Nat) (X : Cx) (W : WX) : Prop where
  n : X.N = N
  s : X.env.scope = sc
  c : X.calm = true
  f : X.fn = fun _ => true
  tk : L2N.Takes X W
  hr : Room k X.A
  hp : PassesOwn (model X.prog X.w) X.A X.env X.xe
  nd : X.N.Nodup
  stk : X.stack = X.env :: X.outer
  fr : X.env.frame = some X.env.locals
theorem Room.rm {k : Nat} {X : Cx} (h : Room k X.A) : Rm X := by
  have := h.un
  show X.A.units + 65 < cLine
  omega
/-- what is known at a def's entry -/
def slots0 (N : List Str) (ds : List D) : List Sl := ds.map .da ++ List.replicate (N.length - ds.length) .no
theorem ste_start {F G H : Hp} {N : List Str} {vs : List V} {ds : List D} (fh : FH F H) (gh : Same G H) (r : RpA F vs ds) : Ste F G H (L2.start N vs) (slots0 N ds) := by
  have hl := r.length
  refine ⟨fh, gh, ?_, fun i s e => ?_, fun i j s t a e1 _ o1 => ?_⟩
  · unfold L2.start slots0
    rw [List.length_append, List.length_append, List.length_map, List.length_map, List.length_replicate, List.length_replicate, hl]
  · unfold slots0 at e
    by_cases hi : i < ds.length
    · rw [List.getElem?_append_left (by rw [List.length_map]; exact hi), List.getElem?_map] at e
      cases ed : ds[i]? with
      | none => rw [ed] at e; cases e
      | some d =>
        rw [ed] at e; cases e
        obtain ⟨v, hv, rv⟩ := r.getD ed
        refine ⟨v, ?_, rv⟩
        unfold L2.start
        rw [List.getElem?_append_left (by rw [List.length_map, hl]; exact hi), List.getElem?_map, hv]
        rfl
    · rw [List.getElem?_append_right (by rw [List.length_map]; omega), List.getElem?_replicate] at e
      split at e
      · cases e; trivial
      · cases e
  · unfold slots0 at e1
    by_cases hi : i < ds.length
    · rw [List.getElem?_append_left (by rw [List.length_map]; exact hi), List.getElem?_map] at e1
      cases ed : ds[i]? with
      | none => rw [ed] at e1; cases e1
      | some d => rw [ed] at e1; cases e1; cases o1
    · rw [List.getElem?_append_right (by rw [List.length_map]; omega), List.getElem?_replicate] at e1
      split at e1
      · cases e1; cases o1
      · cases e1
section
variable {P : Program} {w : World} {K : PySem.W.Frag} {base : Heap} {mg : Str → Option Value}
/-- a body comes to m: for DenF -/
theorem fin_den {α : Type} {X : Cx} {m : Rs (Out α)} {ρ' : α → List Sl} {F G H : Hp} {Q : VK} {E : XK} {n : Nat} {W : WX} (hG : ∀ a, F a = none → G a ≠ none → True) (hW : ∀ c d σ H, E c d H → W c d σ H) (fh : FH F H) (k : DenF X.mg m.fin F G H Q E) :
    DenS X W m ρ' F G n { nx := fun _ H' => Q .non H', rt := Q } := by
  cases m with
  | ok o =>
    cases o with
    | nx a => exact fun σ' F' H' g S => (show DenF X.mg (.ok .none) F G H Q E from k) .non F' H' g.f S.fh S.gh g.nw .non
    | ret d => exact fun v F' H' g fh' gh' r => (show DenF X.mg (.ok d) F G H Q E from k) v F' H' g.f fh' gh' g.nw r
  | exc c => exact fun v σ' H' cl f gh' _ => hW _ _ _ _ ((show DenF X.mg (.exc c) F G H Q E from k) v H' cl gh')
  | stuck => exact k
theorem okN {x qual : Str} {st : Stmt} {f : Addr} {fd : FuncData} {N ps : List Str} {k : Nat} {sp : Sp} (F : Fun K x qual st f fd) (S : FnScope N ps (defScope st)) (hl : ∀ us G Q E, sp us G Q E → us.length = ps.length)
    (body : ∀ (cd : Value) (A : Around) (outer : List Env) (s : Shared) (G : Hp) (us : List V) (Q : VK) (E : XK), Room k (A.deeper (envOfC qual (defScope st) s.heap.objs.size f cd)) → sp us G Q E →
      ∃ t, PSs (cxOf (L2N.CX P w) P w K mg base N qual (defScope st) f cd A outer s G E) (defBody st) t ∧ t { nx := fun _ G' => Q .non G', rt := Q } (L2.start N us) G) : FnOk P w K mg base (L2N.CX P w) (k + 1) f fd ps sp := by
  obtain ⟨oc, od, kV, dc, pm, an, cd, ct, sl, e, lk, hc⟩ := F.ex
  subst e
  exact fn_of lk hc S hl fun A outer s G us Q E => body cd A outer s G us Q E
theorem fnok_of {x qual : Str} {st : Stmt} {f : Addr} {fd : FuncData} {N ps : List Str} {k n : Nat} {g : List D → Rs D} (F : Fun K x qual st f fd) (S : FnScope N ps (defScope st)) (hn : ps.length = n)
    (body : ∀ (X : Cx) (W : WX), X.prog = P → X.w = w → X.K = K → X.mg = mg → X.base = base → DX N (defScope st) k X W → ∀ ds : List D, ds.length = n → ∃ (α : Type) (ρ' : α → List Sl) (m : Rs (Out α)), m.fin = g ds ∧ BS X W (slots0 N ds) (defBody st) ρ' m) :
    FnOk P w K mg base (L2N.CX P w) (k + 1) f fd ps (spP mg n g) := by
  refine okN F S (fun vs H Q E h => by rw [h.1, hn]) fun cdv A outer s H vs Q E hr ⟨hl, F0, G, ds, fh, gh, r, k0⟩ => ?_
  have dl : ds.length = n := by rw [← r.length]; exact hl
  obtain ⟨α, ρ', m, e, hB⟩ := body (cxOf (L2N.CX P w) P w K mg base N qual (defScope st) f cdv A outer s H E) (fun cls d _ H => E cls d H) rfl rfl rfl rfl rfl
    ⟨rfl, rfl, rfl, rfl, L2N.takes_of rfl rfl rfl rfl, hr, passes_of rfl, S.nd, rfl, rfl⟩ ds dl
  refine ⟨_, hB, F0, G, ste_start fh gh r, ?_⟩
  rw [← e] at k0
  exact fin_den (X := cxOf (L2N.CX P w) P w K mg base N qual (defScope st) f cdv A outer s H E) (fun _ _ _ => trivial) (fun _ _ _ _ h => h) fh k0
theorem cal_of {x qual : Str} {st : Stmt} {f : Addr} {fd : FuncData} {N ps : List Str} {k n : Nat} {g : List D → Rs D} (F : Fun K x qual st f fd) (S : FnScope N ps (defScope st)) (hm : mg x = some (.ref f)) (hb : Binds K fd ps []) (hn : ps.length = n)
    (body : ∀ (X : Cx) (W : WX), X.prog = P → X.w = w → X.K = K → X.mg = mg → X.base = base → DX N (defScope st) k X W → ∀ ds : List D, ds.length = n → ∃ (α : Type) (ρ' : α → List Sl) (m : Rs (Out α)), m.fin = g ds ∧ BS X W (slots0 N ds) (defBody st) ρ' m) :
    Cal P w K mg base (k + 1) x n g := ⟨f, fd, ps, hm, F.kp, hb, fnok_of F S hn body⟩
end

/-! ### built-ins -/
section
variable {X : Cx} {b b' : Bool}
theorem Rp.ty {F H : Hp} {v : V} {d : D} (x : FH F H) (h : Rp (if b then H else F) v d) : Rp H v d := h.toH x
def pLen : List D → Rs D
  | [.str x] => if x.length ≤ sizeLine then .ok (.int x.length) else .stuck
  | [.list ds] => .ok (.int ds.length)
  | [.tuple ds] => .ok (.int ds.length)
  | _ => .stuck
theorem c_len : Cb X b b' (.builtin "len") pLen := by
  rintro pins s σ H vs us Q I r ⟨F, ds, fh, rp, k⟩
  unfold pLen at k
  split at k
  · obtain ⟨hc, k⟩ := den_ite k
    cases rp with
    | cons r0 rn =>
      cases rn
      rw [inv_s r0] at r
      exact call_len pins s σ H _ us Q I r ⟨_, _, rfl, ⟨hc, rfl⟩, k _ F H (.refl fh) (Rp.up fh (.int _))⟩
  · cases rp with
    | cons r0 rn =>
      cases rn
      obtain ⟨a, xs, rfl, h1, z1, r1⟩ := inv_l r0
      refine call_len pins s σ H _ us Q I r ⟨_, _, rfl, .inl ⟨xs, .inl (Rd.toH fh h1), rfl⟩, ?_⟩
      rw [r1.length]
      exact k _ F H (.refl fh) (Rp.up fh (.int _))
  · cases rp with
    | cons r0 rn =>
      cases rn
      obtain ⟨a, xs, rfl, h1, z1, r1⟩ := inv_t r0
      refine call_len pins s σ H _ us Q I r ⟨_, _, rfl, .inr ⟨xs, .of (tupH fh h1), rfl⟩, ?_⟩
      rw [r1.length]
      exact k _ F H (.refl fh) (Rp.up fh (.int _))
  · exact k.elim
def boolsOf : List D → Option (List Bool)
  | [] => some []
  | .bool b :: ds => (boolsOf ds).map (b :: ·)
  | _ => none
def intsOf : List D → Option (List Int)
  | [] => some []
  | .int b :: ds => (intsOf ds).map (b :: ·)
  | _ => none
def strsOf : List D → Option (List Str)
  | [] => some []
  | .str b :: ds => (strsOf ds).map (b :: ·)
  | _ => none
theorem rp_bools {F : Hp} : ∀ {ds : List D} {bs : List Bool} {vs : List V}, boolsOf ds = some bs → RpA F vs ds → vs = bs.map V.bl
  | [], _, _, h, .nil => by cases h; rfl
  | d :: ds, bs, _, h, .cons r0 rn => by
    cases d with
    | bool b =>
      obtain ⟨l, e, rfl⟩ := Option.map_eq_some_iff.mp (show (boolsOf ds).map (b :: ·) = some bs from h)
      rw [inv_b r0, rp_bools e rn]; rfl
    | _ => cases h
theorem rp_ints {F : Hp} : ∀ {ds : List D} {bs : List Int} {vs : List V}, intsOf ds = some bs → RpA F vs ds → vs = bs.map V.int
  | [], _, _, h, .nil => by cases h; rfl
  | d :: ds, bs, _, h, .cons r0 rn => by
    cases d with
    | int b =>
      obtain ⟨l, e, rfl⟩ := Option.map_eq_some_iff.mp (show (intsOf ds).map (b :: ·) = some bs from h)
      rw [inv_i r0, rp_ints e rn]; rfl
    | _ => cases h
theorem rp_strs {F : Hp} : ∀ {ds : List D} {bs : List Str} {vs : List V}, strsOf ds = some bs → RpA F vs ds → vs = bs.map V.str
  | [], _, _, h, .nil => by cases h; rfl
  | d :: ds, bs, _, h, .cons r0 rn => by
    cases d with
    | str b =>
      obtain ⟨l, e, rfl⟩ := Option.map_eq_some_iff.mp (show (strsOf ds).map (b :: ·) = some bs from h)
      rw [inv_s r0, rp_strs e rn]; rfl
    | _ => cases h
def pAll : List D → Rs D
  | [.list ds] => match boolsOf ds with
    | some bs => .ok (.bool (bs.all id))
    | none => .stuck
  | _ => .stuck
theorem c_all (hc : X.calm = true) : Cb X b b' (.builtin "all") pAll := by
  rintro pins s σ H vs us Q I r ⟨F, ds, fh, rp, k⟩
  unfold pAll at k
  split at k
  · split at k
    · rename_i bs e
      cases rp with
      | cons r0 rn =>
        cases rn
        obtain ⟨a, xs, rfl, h1, z1, r1⟩ := inv_l r0
        have := rp_bools e r1
        subst this
        exact cr_all hc pins s σ H _ us Q I r ⟨a, bs, rfl, .inl (Rd.toH fh h1), k _ F H (.refl fh) (Rp.up fh (.bl _))⟩
    · exact k.elim
  · exact k.elim
def pSum : List D → Rs D
  | [.list ds] => match intsOf ds with
    | some bs => .ok (.int bs.sum)
    | none => .stuck
  | _ => .stuck
theorem c_sum (hc : X.calm = true) : Cb X b b' (.builtin "sum") pSum := by
  rintro pins s σ H vs us Q I r ⟨F, ds, fh, rp, k⟩
  unfold pSum at k
  split at k
  · split at k
    · rename_i bs e
      cases rp with
      | cons r0 rn =>
        cases rn
        obtain ⟨a, xs, rfl, h1, z1, r1⟩ := inv_l r0
        have := rp_ints e r1
        subst this
        exact cr_sum hc pins s σ H _ us Q I r ⟨a, bs, rfl, .inl (Rd.toH fh h1), k _ F H (.refl fh) (Rp.up fh (.int _))⟩
    · exact k.elim
  · exact k.elim
def pAbs : List D → Rs D
  | [.int i] => .ok (.int (if i < 0 then -i else i))
  | _ => .stuck
theorem c_abs : Cb X b b' (.builtin "abs") pAbs := by
  rintro pins s σ H vs us Q I r ⟨F, ds, fh, rp, k⟩
  unfold pAbs at k
  split at k
  · cases rp with
    | cons r0 rn =>
      cases rn
      rw [inv_i r0] at r
      exact call_abs pins s σ H _ us Q I r ⟨_, rfl, k _ F H (.refl fh) (Rp.up fh (.int _))⟩
  · exact k.elim
/-- list(xs), list(t) -/
def pList : List D → Rs D
  | [.list ds] => .ok (.list ds)
  | [.tuple ds] => .ok (.list ds)
  | _ => .stuck
theorem c_list : Cb X b b (.type "list") pList := by
  rintro pins s σ H vs us Q I r ⟨F, ds, fh, rp, k⟩
  unfold pList at k
  split at k
  · cases rp with
    | cons r0 rn =>
      cases rn
      obtain ⟨a, xs, rfl, h1, z1, r1⟩ := inv_l r0
      refine call_list_of pins s σ H _ us Q I r ⟨a, xs, rfl, .inl (.inl (Rd.toH fh h1)), fun l hl => ?_⟩
      have x : Ext F H (upd F l (.lst xs)) (upd H l (.lst xs)) := .new fh hl
      cases b with
      | true => exact k _ _ _ x (.lst (.inl upd_same) z1 (RpA.mono x.h r1))
      | false => exact k _ _ _ x (.lst (.inl upd_same) z1 (RpA.mono x.f r1))
  · cases rp with
    | cons r0 rn =>
      cases rn
      obtain ⟨a, xs, rfl, h1, z1, r1⟩ := inv_t r0
      refine call_list_of pins s σ H _ us Q I r ⟨a, xs, rfl, .inr (.of (tupH fh h1)), fun l hl => ?_⟩
      have x : Ext F H (upd F l (.lst xs)) (upd H l (.lst xs)) := .new fh hl
      cases b with
      | true => exact k _ _ _ x (.lst (.inl upd_same) z1 (RpA.mono x.h r1))
      | false => exact k _ _ _ x (.lst (.inl upd_same) z1 (RpA.mono x.f r1))
  · exact k.elim
/-! isinstance -/
inductive Ty where
  | int | bool | str | tuple | list
  deriving DecidableEq
def Ty.nm : Ty → String
  | .int => "int"
  | .bool => "bool"
  | .str => "str"
  | .tuple => "tuple"
  | .list => "list"
def tyD : D → Option String
  | .none => some "NoneType"
  | .bool _ => some "bool"
  | .int _ => some "int"
  | .str _ => some "str"
  | .tuple _ => some "tuple"
  | .list _ => some "list"
  | .dict _ => none
def isTy (d : D) (T : Ty) : Bool := match T, d with
  | .int, .int _ => true
  | .int, .bool _ => true
  | .bool, .bool _ => true
  | .str, .str _ => true
  | .tuple, .tuple _ => true
  | .list, .list _ => true
  | _, _ => false
def isT (n m : String) : Bool := n == m || (n == "bool" && m == "int")
theorem kit_tab : ∀ n ∈ ["NoneType", "bool", "int", "str", "tuple", "list"], ∀ m ∈ ["int", "bool", "str", "tuple", "list"], kitB n m = some (isT n m) := by decide +kernel
theorem isTy_kit {d : D} {T : Ty} {t : String} (h : tyD d = some t) : kitB t T.nm = some (isTy d T) := by
  have e : isTy d T = isT t T.nm := by cases d <;> cases h <;> cases T <;> rfl
  rw [e]
  refine kit_tab t ?_ _ (by cases T <;> decide)
  cases d <;> cases h <;> decide
theorem tyX_of {K : PySem.W.Frag} {H : Hp} {v : V} {d : D} {t : String} (h : Rp H v d) (q : tyD d = some t) : TyX K H v (.type t) := by
  cases h with
  | non => cases q; exact .base .non
  | bl b => cases q; exact .base (.bl _)
  | int i => cases q; exact .base (.int _)
  | str i => cases q; exact .base (.str _)
  | lst h z r =>
    cases q
    rcases h with h | ⟨o, h⟩
    · exact .base (.lst h)
    · exact .base (.frz h)
  | tup h z r => cases q; exact .base (.tup h)
  | dk h e r => cases q
  | dt h e r => cases q
def tyV (T : Ty) : V := .ty T.nm
/-- isinstance(e, T) -/
def pIsi (T : Ty) (d : D) : Rs D := if (tyD d).isSome = true then .ok (.bool (isTy d T)) else .stuck
variable {W : WX} {ρ : List Sl} {e : Expr} {pos p1 p2 : Pos}
def rI1 (X : Cx) (W : WX) (ρ : List Sl) (m : Rs D) (T : Ty) : TA := fun σ H Q => ∃ F G, Ste F G H σ ρ ∧ DenA X W true (m.bind fun x => .ok [x]) F H σ fun vs H1 => Q (vs ++ [tyV T]) H1
theorem ev_isi {T : Ty} {y : Str} {m : Rs D} (B : Bn X "isinstance" (.builtin "isinstance")) (B2 : Bn X y (.type T.nm)) (h : EV X W true ρ e m) (he : starEach [e, .Name y p2] X.env = [(false, eval e X.env), (false, eval (.Name y p2) X.env)] := by rfl) (he2 : starEach [.Name y p2] X.env = [(false, eval (.Name y p2) X.env)] := by rfl) :
    EV X W b ρ (.Call (.Name "isinstance" p1) [e, .Name y p2] [] pos) (m.bind fun d => (pIsi T d).nox) :=
  PE.imp (pe_callB call_isi B.g B.m B.v (pa_cons h (pa_cons (pe_bltn (v := .ty T.nm) B2.g B2.m B2.v rfl B2.n B2.db) pa_nil he2) he) B.n B.db he (by rfl)) fun σ H Q ⟨F, G, S, k⟩ => ⟨F, G, S, by
    cases m with
    | ok d =>
      intro v F1 H1 x1 r1
      have k1 : DenE X W b (pIsi T d).nox F H σ Q := k
      unfold pIsi at k1
      by_cases hc : (tyD d).isSome = true
      · rw [if_pos hc] at k1
        obtain ⟨t, ht⟩ := Option.isSome_iff_exists.mp hc
        exact ⟨v, .ty T.nm, .type t, _, _, rfl, .ty _, tyX_of r1 ht, kit_ty (isTy_kit ht), (show DenE X W b (.ok (.bool (isTy d T))) F H σ Q from k1) _ F1 H1 x1 (.bl _)⟩
      · rw [if_neg hc] at k1; exact k1.elim
    | exc c => exact k
    | stuck => exact k⟩
end
end Pu

/-! The pure layer, part 7: methods of texts and lists; list(text). -/
namespace Pu
open PySem PySem.Spec
open PyProof.Rows L2

def ofS : D → Rs Str
  | .str s => .ok s
  | _ => .stuck
def ofL : D → Rs (List D)
  | .list l => .ok l
  | _ => .stuck
section
variable {X : Cx} {W : WX} {b : Bool} {ρ : List Sl} {o e : Expr} {es : List Expr} {apos cpos : Pos} {name : Str} {id : String}
def rMs (X : Cx) (b : Bool) (g : Str → List D → Rs D) : V → List V → Hp → VK → Prop := fun x xs H Q => ∃ F s ds, FH F H ∧ x = .str s ∧ RpA H xs ds ∧ DenO X (g s ds) b F H Q
def rMl (X : Cx) (b : Bool) (g : List D → List D → Rs D) : V → List V → Hp → VK → Prop := fun x xs H Q => ∃ F a ys l ds, FH F H ∧ x = .ref a ∧ Rd H a (.lst ys) ∧ ys.length ≤ sizeLine ∧ RpA H ys l ∧ RpA H xs ds ∧ DenO X (g l ds) b F H Q
theorem ev_ms {g : Str → List D → Rs D} {m1 : Rs D} {m2 : Rs (List D)} (slot : Slot "str" name id) (hty : typeOf (.builtin id) = pure (.type "method_descriptor")) (hm : MtR X id (rMs X b g)) (ho : EV X W true ρ o m1) (ha : EAs X W true ρ (e :: es) m2)
    (hbs : attributeBase o name X.env (eval o X.env) = eval o X.env := by rfl) (hfew : ((backTo cpos (starEach (e :: es) X.env)).all (fun x => !x.1) && (backToKw cpos (keywordEach [] X.env)).all (fun x => x.1.isSome) && decide ((e :: es).length + ([] : List Keyword).length + (if ([] : List Keyword).isEmpty then 0 else 1) < 30)) = true := by rfl)
    (hln : (apos.endLine == cpos.line) = true := by rfl)
    (hs : starEach (e :: es) X.env = (false, eval e X.env) :: starEach es X.env := by rfl)
    (hplain : (backTo cpos (starEach es X.env)).any (·.1) = false := by rfl) :
    EV X W b ρ (.Call (.Attribute o name apos) (e :: es) [] cpos) (m1.bind fun d => (ofS d).bind fun s => m2.bind fun ds => (g s ds).nox) :=
  PE.imp (pe_bm F.plainAttrs_str slot hty hm ho ha.run hbs hfew hln hs hplain) fun σ H Q ⟨F, G, S, k⟩ => ⟨F, G, S, by
    cases m1 with
    | ok d =>
      intro v F1 H1 x1 r1
      cases d with
      | str s =>
        have k1 : DenE X W b (m2.bind fun ds => (g s ds).nox) F H σ Q := k
        have := inv_s r1
        subst this
        refine ⟨rfl, F1, G, S.mono x1, ?_⟩
        cases m2 with
        | ok ds =>
          intro vs F2 H2 x2 r2
          have x12 := x1.trans x2
          have k2 : DenE X W b (g s ds).nox F H σ Q := k1
          exact ⟨F2, s, ds, x12.fh, rfl, r2, DenE.toO (W := W) (σ := σ) (k2.mono x12)⟩
        | exc c => exact DenX.mono x1.h k1
        | stuck => exact k1
      | _ => exact (show False from k).elim
    | exc c => exact k
    | stuck => exact k⟩
theorem ev_ml {g : List D → List D → Rs D} {m1 : Rs D} {m2 : Rs (List D)} (slot : Slot "list" name id) (hty : typeOf (.builtin id) = pure (.type "method_descriptor")) (hm : MtR X id (rMl X b g)) (ho : EV X W true ρ o m1) (ha : EAs X W true ρ (e :: es) m2)
    (hbs : attributeBase o name X.env (eval o X.env) = eval o X.env := by rfl) (hfew : ((backTo cpos (starEach (e :: es) X.env)).all (fun x => !x.1) && (backToKw cpos (keywordEach [] X.env)).all (fun x => x.1.isSome) && decide ((e :: es).length + ([] : List Keyword).length + (if ([] : List Keyword).isEmpty then 0 else 1) < 30)) = true := by rfl)
    (hln : (apos.endLine == cpos.line) = true := by rfl)
    (hs : starEach (e :: es) X.env = (false, eval e X.env) :: starEach es X.env := by rfl)
    (hplain : (backTo cpos (starEach es X.env)).any (·.1) = false := by rfl) :
    EV X W b ρ (.Call (.Attribute o name apos) (e :: es) [] cpos) (m1.bind fun d => (ofL d).bind fun s => m2.bind fun ds => (g s ds).nox) :=
  PE.imp (pe_bm F.plainAttrs_list slot hty hm ho ha.run hbs hfew hln hs hplain) fun σ H Q ⟨F, G, S, k⟩ => ⟨F, G, S, by
    cases m1 with
    | ok d =>
      intro v F1 H1 x1 r1
      cases d with
      | list s =>
        have k1 : DenE X W b (m2.bind fun ds => (g s ds).nox) F H σ Q := k
        obtain ⟨a, ys, rfl, h1, z1, r2⟩ := inv_l r1
        refine ⟨.inl ⟨rfl, ys, .inl h1⟩, F1, G, S.mono x1, ?_⟩
        cases m2 with
        | ok ds =>
          intro vs F2 H2 x2 r3
          have x12 := x1.trans x2
          have k2 : DenE X W b (g s ds).nox F H σ Q := k1
          exact ⟨F2, a, ys, s, ds, x12.fh, rfl, rd_mono x2.h h1, z1, r2.mono x2.h, r3, DenE.toO (W := W) (σ := σ) (k2.mono x12)⟩
        | exc c => exact DenX.mono x1.h k1
        | stuck => exact k1
      | _ => exact (show False from k).elim
    | exc c => exact k
    | stuck => exact k⟩
/-! the rules -/
def pStarts (s : Str) : List D → Rs D
  | [.str t] => .ok (.bool (Txt.startswith s t))
  | _ => .stuck
theorem m_startswith : MtR X "str.startswith" (rMs X b pStarts) := by
  rintro pins s σ H x xs v us Q I rx rs ⟨F, z, ds, fh, rfl, r, k⟩
  unfold pStarts at k
  split at k
  · cases r with
    | cons r0 rn =>
      cases rn
      rw [inv_s r0] at rs
      exact mt_startswith pins s σ H _ _ v us Q I rx rs ⟨_, _, rfl, rfl, k _ F H (.refl fh) (Rp.up fh (.bl _))⟩
  · exact k.elim
def pSindex (s : Str) : List D → Rs D
  | [.str t] => match Txt.index0 s t with
    | some i => .ok (.int (i : Nat))
    | none => .stuck
  | _ => .stuck
theorem m_sindex : MtR X "str.index" (rMs X b pSindex) := by
  rintro pins s σ H x xs v us Q I rx rs ⟨F, z, ds, fh, rfl, r, k⟩
  unfold pSindex at k
  split at k
  · rename_i tt
    cases r with
    | cons r0 rn =>
      cases rn
      rw [inv_s r0] at rs
      obtain ⟨t, rfl⟩ := rx
      cases rs with
      | cons q1 qn =>
        cases qn
        obtain ⟨u, rfl⟩ := q1
        split at k
        · rename_i i hi
          unfold Txt.index0 at hi
          cases q : Builtin.Str.occurrences z tt 0 z.length 1 with
          | nil => rw [q] at hi; cases hi
          | cons j rest =>
            rw [q] at hi; cases hi
            exact PySem.SC.index q ⟨.int (i : Nat), H, I.tok _, ⟨_, rfl⟩, k _ F H (.refl fh) (Rp.up fh (.int _))⟩
        · exact k.elim
  · exact k.elim
def joinOk (a : Str) (ys : List Str) : Bool := decide ((ys.map (·.length)).sum + ys.length * a.length ≤ 16777216)
def pJoin (s : Str) : List D → Rs D
  | [.list ds] => match strsOf ds with
    | some ys => if joinOk s ys = true then .ok (.str (Txt.join s ys)) else .stuck
    | none => .stuck
  | _ => .stuck
theorem m_join : MtR X "str.join" (rMs X b pJoin) := by
  rintro pins s σ H x xs v us Q I rx rs ⟨F, z, ds, fh, rfl, r, k⟩
  unfold pJoin at k
  split at k
  · split at k
    · rename_i ys hy
      obtain ⟨hc, k⟩ := den_ite k
      cases r with
      | cons r0 rn =>
        cases rn
        obtain ⟨a, vs, rfl, h1, z1, r1⟩ := inv_l r0
        have := rp_strs hy r1
        subst this
        exact mt_join pins s σ H _ _ v us Q I rx rs ⟨z, a, ys, rfl, rfl, .inl (.inl h1), of_decide_eq_true hc, k _ F H (.refl fh) (Rp.up fh (.str _))⟩
    · exact k.elim
  · exact k.elim
def pSplit (s : Str) : List D → Rs D
  | [.str t] => if ((!(t.length == 0)) && decide (s.length + 2 ≤ sizeLine)) = true then .ok (.list ((Txt.split s t).map .str)) else .stuck
  | _ => .stuck
def pCount (l : List D) : List D → Rs D
  | [d] => if (SeqAt.shaped (.list l) && SeqAt.shaped d) = true then .ok (.int (l.countP fun z => PyData.eqv z d : Nat)) else .stuck
  | _ => .stuck
theorem dp_lst {K : PySem.W.Frag} {H : Hp} {a : Addr} {ys : List V} {l : List D} (h : Rd H a (.lst ys)) (z : ys.length ≤ sizeLine) (r : RpA H ys l) (hs : SeqAt.shaped (.list l) = true) : Dp K H (.ref a) (.list l) := (Rp.lst h z r).dp (SeqAt.canLay_of_shaped hs)
theorem m_count (hu : Rm X) : MtR X "list.count" (rMl X b pCount) := by
  rintro pins s σ H x xs v us Q I rx rs ⟨F, a, ys, l, ds, fh, rfl, h1, z1, r1, r, k⟩
  unfold pCount at k
  split at k
  · rename_i d
    obtain ⟨hc, k⟩ := den_ite k
    rw [Bool.and_eq_true] at hc
    cases rx
    cases r with
    | cons r0 rn =>
      cases rn
      cases rs with
      | cons q1 qn =>
        cases qn
        rename_i uy
        have hxs : PyData.canLayAll0 l = true := SeqAt.canLay_of_shaped hc.1
        obtain ⟨bs, rb⟩ := reads_of I q1 r0 hc.2
        obtain ⟨its, rv, ⟨⟨cls, dd, data, sls⟩, n, ho, hcl, hdn, hdt⟩, hlen⟩ := I.list (.inl h1)
        simp only at hcl hdt
        subst hcl hdt
        have ha : DpAll X.K H ys l := r1.dp hxs
        obtain ⟨as, h4⟩ := Dp.readsAll I l _ its ha rv
        refine call_meets PySem.F.slot_list_count ⟨_, ho, rfl⟩ PySem.F.entry_list_count (PySem.F.args_list_count_2 _ _) (SeqAt.list_countAt a its.toArray n dd sls uy (fun u => PyData.eqv (SeqAt.readOf s.heap u) d)) ⟨ho, SeqAt.items_eqAt (vs := its.toArray) (show ReadsAll s.heap its.toArray.toList l as from h4) rb hxs (SeqAt.canLay_of_shaped hc.2) (room_in hc.2 hu), ?_⟩
        have hmap : its.map (SeqAt.readOf s.heap) = l := SeqAt.readsAll_map l its as hxs h4
        have ec : its.toArray.toList.countP (fun u => PyData.eqv (SeqAt.readOf s.heap u) d) = l.countP fun z => PyData.eqv z d := by
          rw [← hmap, List.countP_map]; rfl
        refine ⟨.int (l.countP fun z => PyData.eqv z d : Nat), H, I.tok _, ⟨s.toks, ?_⟩, k _ F H (.refl fh) (Rp.up fh (.int _))⟩
        show Value.int ((its.toArray.toList.countP (fun u => PyData.eqv (SeqAt.readOf s.heap u) d) : Nat) : Int) s.toks = _
        rw [ec]
  · exact k.elim
def pLindex (l : List D) : List D → Rs D
  | [d] => if (SeqAt.shaped (.list l) && SeqAt.shaped d) = true then (match l.findIdx? fun z => PyData.eqv z d with
    | some j => .ok (.int (j : Nat))
    | none => .stuck) else .stuck
  | _ => .stuck
theorem m_lindex (hu : Rm X) : MtR X "list.index" (rMl X b pLindex) := by
  rintro pins s σ H x xs v us Q I rx rs ⟨F, a, ys, l, ds, fh, rfl, h1, z1, r1, r, k⟩
  unfold pLindex at k
  split at k
  · rename_i d
    obtain ⟨hc, k⟩ := den_ite k
    rw [Bool.and_eq_true] at hc
    cases r with
    | cons r0 rn =>
      cases rn
      split at k
      · rename_i j hj
        obtain ⟨hjl, hj1, hj2⟩ := List.findIdx?_eq_some_iff_getElem.mp hj
        refine mt_indexD hu pins s σ H _ _ v us Q I rx rs ⟨a, _, d, l, j, l[j], rfl, rfl, dp_lst h1 z1 r1 hc.1, r0.dp (SeqAt.canLay_of_shaped hc.2), hc.1, hc.2, List.getElem?_eq_getElem hjl, hj1, fun m z' hm hz => ?_, k _ F H (.refl fh) (Rp.up fh (.int _))⟩
        obtain ⟨hml, rfl⟩ := List.getElem?_eq_some_iff.mp hz
        exact Bool.eq_false_iff.mpr (hj2 m hm)
      · exact k.elim
  · exact k.elim
/-! list(text) -/
def pListS : List D → Rs D
  | [.str x] => if x.length ≤ sizeLine then .ok (.list (x.cps.toList.map fun c => .str ⟨#[c]⟩)) else .stuck
  | ds => pList ds
theorem rp_signs {F : Hp} : ∀ l : List Nat, RpA F (l.map fun c => V.str ⟨#[c]⟩) (l.map fun c => PyData.str ⟨#[c]⟩)
  | [] => .nil
  | c :: l => .cons (.str _) (rp_signs l)
theorem c_listS (hc : X.calm = true) : Cb X b b (.type "list") pListS := by
  rintro pins s σ H vs us Q I r ⟨F, ds, fh, rp, k⟩
  unfold pListS at k
  split at k
  · rename_i x
    obtain ⟨hx, k⟩ := den_ite k
    cases rp with
    | cons r0 rn =>
      cases rn
      have := inv_s r0
      subst this
      obtain ⟨u0, rfl, t, rfl⟩ := vals1 r
      refine call_list_str (I.ok.hd hc) x t (fun h' tk acc c kp e hi => ?_) hx
      have hp : H s.heap.objs.size = none := I.hok.fresh (Nat.le_refl _)
      have hl : (x.cps.toList.map fun c => V.str ⟨#[c]⟩).length ≤ sizeLine := by rw [List.length_map, Array.length_toList]; exact hx
      have hv : Vals (x.cps.toList.map fun c => V.str ⟨#[c]⟩) acc.toList := by
        obtain ⟨hsz, hit⟩ := hi
        refine vals_of_at (by rw [List.length_map, Array.length_toList, Array.length_toList, hsz]) fun j y w h1 h2 => ?_
        rw [Array.getElem?_toList] at h2
        rw [List.getElem?_map, Array.getElem?_toList] at h1
        obtain ⟨cc, tt, h3, h4⟩ := hit j w h2
        rw [h3] at h1; cases h1
        exact ⟨tt, h4⟩
      have I1 := I.laid (t' := tk) kp (Nat.le_refl _) (show ObjOk X.prog X.w _ h' _ (.lst (x.cps.toList.map fun c => V.str ⟨#[c]⟩)) from ⟨hl, acc.toList, c, hv, by rw [Array.toArray_toList]; exact e⟩)
      refine ⟨.ref s.heap.objs.size, _, I1, rfl, ?_⟩
      have xx : Ext F H (upd F s.heap.objs.size (.lst (x.cps.toList.map fun c => V.str ⟨#[c]⟩))) (upd H s.heap.objs.size (.lst (x.cps.toList.map fun c => V.str ⟨#[c]⟩))) := .new fh hp
      exact k _ _ _ xx (Rp.up xx.fh (.lst (.inl upd_same) hl (rp_signs _)))
  · exact c_list pins s σ H vs us Q I r ⟨F, ds, fh, rp, k⟩
end
end Pu

/-! The pure layer, part 8: refusals: raise, try, and the def that reads what was caught. -/
namespace Pu
open PySem PySem.Spec
open PyProof.Rows L2

abbrev veT : List Value := [.type "ValueError", .type "Exception", .type "BaseException", .type "object"]
def gaV : Option (Option Value) := some (some (.builtin "BaseException.__getattribute__"))
def clV : Option (Option Value) := some (some (.builtin "object.__class__"))
def gtV : Option (Option Value) := some (some (.builtin "getset_descriptor.__get__"))
/-- what the written part says of a refusal's class at C -/
def exOne (K : PySem.W.Frag) (C : Addr) : Bool :=
  PySem.W.excIn K C veT "ValueError.__new__" && PySem.W.keepIn K (.ref C) && (PySem.W.subIn K (.ref C) (.type "BaseException") == some true) && (PySem.W.typeIn K (.ref C) == some (.type "type"))
  && (PySem.W.findIn K (.ref C) "__getattribute__" == gaV) && (PySem.W.findIn K (.ref C) "__getattr__" == some none) && PySem.W.hasDictIn K C && (PySem.W.findIn K (.ref C) "__class__" == clV)
  && (PySem.W.specialIn K (.builtin "object.__class__") "__get__" == gtV) && (PySem.W.takesIn K (.builtin "object.__class__") == some true) && (PySem.W.mroIn K C (.type "object") == some true)
def exTab (K : PySem.W.Frag) (B : Addr) (ns : List (Str × Addr)) : Bool :=
  ns.all fun p => exOne K p.2 && (PySem.W.exmOne K (.ref p.2) (.ref B) == some true) && (PySem.W.kitOne K (.ref p.2) (.type "ValueError") == some true) && (PySem.W.kitOne K (.ref p.2) (.ref B) == some true)
    && ns.all fun q => PySem.W.kitOne K (.ref p.2) (.ref q.2) == some (decide (p.1 = q.1))
structure ExT (K : PySem.W.Frag) (mg : Str → Option Value) (ns : List Str) : Prop where
  df : ∀ c ∈ ns, ∃ C, mg c = some (.ref C)
  one : ∀ c ∈ ns, ∀ C, mg c = some (.ref C) → exOne K C = true
  is : ∀ c ∈ ns, ∀ x ∈ ns, ∀ C D, mg c = some (.ref C) → mg x = some (.ref D) → PySem.W.kitOne K (.ref C) (.ref D) = some (decide (c = x))
  ve : ∀ c ∈ ns, ∀ C, mg c = some (.ref C) → PySem.W.kitOne K (.ref C) (.type "ValueError") = some true
  we : ∃ B, mg "WordError" = some (.ref B) ∧ ∀ c ∈ ns, ∀ C, mg c = some (.ref C) → PySem.W.exmOne K (.ref C) (.ref B) = some true ∧ PySem.W.kitOne K (.ref C) (.ref B) = some true
theorem exT_of {K : PySem.W.Frag} {mg : Str → Option Value} {B : Addr} {ns : List (Str × Addr)} (hB : mg "WordError" = some (.ref B)) (hm : ∀ p ∈ ns, mg p.1 = some (.ref p.2)) (h : exTab K B ns = true) : ExT K mg (ns.map (·.1)) := by
  have hp : ∀ p ∈ ns, exOne K p.2 = true ∧ PySem.W.exmOne K (.ref p.2) (.ref B) = some true ∧ PySem.W.kitOne K (.ref p.2) (.type "ValueError") = some true ∧ PySem.W.kitOne K (.ref p.2) (.ref B) = some true ∧ ∀ q ∈ ns, PySem.W.kitOne K (.ref p.2) (.ref q.2) = some (decide (p.1 = q.1)) := fun p hp => by
    have e := List.all_eq_true.mp h p hp
    simp only [Bool.and_eq_true, beq_iff_eq] at e
    obtain ⟨⟨⟨⟨h1, h2⟩, h3⟩, h4⟩, h5⟩ := e
    exact ⟨h1, h2, h3, h4, fun q hq => by simpa using List.all_eq_true.mp h5 q hq⟩
  have at_ : ∀ c ∈ ns.map (·.1), ∀ C, mg c = some (.ref C) → ∃ p ∈ ns, p.1 = c ∧ p.2 = C := fun c hc C hC => by
    obtain ⟨p, h1, rfl⟩ := List.mem_map.mp hc
    refine ⟨p, h1, rfl, ?_⟩
    have := (hm p h1).symm.trans hC
    cases this; rfl
  refine ⟨fun c hc => ?_, fun c hc C hC => ?_, fun c hc x hx C D hC hD => ?_, fun c hc C hC => ?_, B, hB, fun c hc C hC => ?_⟩
  · obtain ⟨p, h1, rfl⟩ := List.mem_map.mp hc
    exact ⟨_, hm p h1⟩
  · obtain ⟨p, h1, rfl, rfl⟩ := at_ c hc C hC
    exact (hp p h1).1
  · obtain ⟨p, h1, rfl, rfl⟩ := at_ c hc C hC
    obtain ⟨q, h2, rfl, rfl⟩ := at_ x hx D hD
    exact (hp p h1).2.2.2.2 q h2
  · obtain ⟨p, h1, rfl, rfl⟩ := at_ c hc C hC
    exact (hp p h1).2.2.1
  · obtain ⟨p, h1, rfl, rfl⟩ := at_ c hc C hC
    exact ⟨(hp p h1).2.1, (hp p h1).2.2.2.1⟩
structure ExO (K : PySem.W.Frag) (C : Addr) : Prop where
  ex : PySem.W.excIn K C veT "ValueError.__new__" = true
  keep : PySem.W.keepIn K (.ref C) = true
  sb : PySem.W.subIn K (.ref C) (.type "BaseException") = some true
  ty : PySem.W.typeIn K (.ref C) = some (.type "type")
  cc : ExcC K C
theorem exO_of {K : PySem.W.Frag} {C : Addr} (h : exOne K C = true) : Pu.ExO K C := by
  unfold exOne gaV clV gtV at h
  simp only [Bool.and_eq_true, beq_iff_eq] at h
  obtain ⟨⟨⟨⟨⟨⟨⟨⟨⟨⟨h1, h2⟩, h3⟩, h4⟩, h5⟩, h6⟩, h7⟩, h8⟩, h9⟩, h10⟩, h11⟩ := h
  exact ⟨h1, h2, h3, h4, ⟨h5, h6, h3, h7, h8, h9, h10, h11⟩⟩

section
variable {X : Cx} {W : WX} {ρ : List Sl} {α β : Type} {ρ' : β → List Sl} {pos pos' : Pos} {rest body : List Stmt} {ns : List Str}
/-- raise X('..') -/
theorem bs_raise {x m : Str} {j : Nat} {p p2 p3 : Pos} (T : ExT X.K X.mg ns) (hx : x ∈ ns) (hc : X.calm = true) (tk : L2N.Takes X W) (hg : Gn X x) :
    BS X W ρ (.Raise (some (.Call (.Name x p) [.Constant (.str m) j p2] [] p3)) none pos :: rest) ρ' (.exc x) := by
  obtain ⟨C, hC⟩ := T.df x hx
  have O := exO_of (T.one x hx C hC)
  exact PSs.imp (pss_cons (L2N.ps_raise hc tk (L2N.pmk_own F.excBase_ValueError O.ex hC O.keep (raises_own O.sb O.ty) hg.g hg.db)) pss_never) fun D σ H ⟨F, G, S, k⟩ =>
    (show DenS X W (.exc x) ρ' F G σ.length D from k) (.ref C) σ H ⟨C, rfl, hC⟩ S.fh.sub S.gh rfl

/-! ### the def that reads what was caught -/
open L2H in
/-- what it promises: of an exception of the class called c it tells g c -/
def FnR (P : Program) (w : World) (K : PySem.W.Frag) (mg : Str → Option Value) (base : Heap) (k : Nat) (x : Str) (ns : List Str) (g : Str → Rs D) : Prop :=
  ∃ (f : Addr) (fd : FuncData) (ps : List Str), mg x = some (.ref f) ∧ PySem.W.keepIn K (.ref f) = true ∧ Binds K fd ps [] ∧ ps.length = 1 ∧
    ∀ (c : Str) (C : Addr) (A : Around) (outer : List Env) (s : Shared) (H : Hp) (args : Args) (us : List Value) (Q : VK) (E : XK) (p : Addr × Obj), c ∈ ns → mg c = some (.ref C) → RoomH k A → Hot1 A p → PinOk outer H s p → L2N.Zn (.ref C) none p.2 →
      Env0 P w K mg base A outer s H → BindsTo s fd args (ps.zip us) → Vals [V.ref p.1] us →
      (∃ F G d, FH F H ∧ Same G H ∧ g c = .ok d ∧ ∀ v F' H', Same F F' → FH F' H' → Same G H' → (∀ a, F a = none → F' a ≠ none → G a = none) → Rp F' v d → Q v H') →
      codeAny (model P w) A (.call (.ref f) args) (CR (L2N.CX P w) outer P w H s Q E) s
theorem FnR.mono {P : Program} {w : World} {K : PySem.W.Frag} {mg : Str → Option Value} {base : Heap} {j k : Nat} {x : Str} {ns : List Str} {g : Str → Rs D} (h : FnR P w K mg base j x ns g) (hk : j ≤ k) : FnR P w K mg base k x ns g := by
  obtain ⟨f, fd, ps, h1, h2, h3, h4, h5⟩ := h
  exact ⟨f, fd, ps, h1, h2, h3, h4, fun c C A outer s H args us Q E p a1 a2 a3 => h5 c C A outer s H args us Q E p a1 a2 (a3.mono hk)⟩
/-- where its body stands -/
structure DXH (N : List Str) (sc : Scope) (c : Str) (p : Addr × Obj) (X : Cx) : Prop where
  n : X.N = N
  s : X.env.scope = sc
  f : X.fn = fun _ => true
  nd : X.N.Nodup
  rm : Rm X
  pn : p ∈ X.pn
  cl : ∃ C, X.mg c = some (.ref C) ∧ L2N.Zn (.ref C) none p.2 ∧ ∃ vs, p.2.data = .fields vs
end
theorem ste_startX {F G H : Hp} {N : List Str} {a : Addr} (fh : FH F H) (gh : Same G H) (hN : 1 ≤ N.length) : Ste F G H (L2.start N [V.ref a]) (.ex a :: List.replicate (N.length - 1) .no) := by
  have e : L2.start N [V.ref a] = some (V.ref a) :: List.replicate (N.length - 1) none := rfl
  rw [e]
  refine ⟨fh, gh, by rw [List.length_cons, List.length_cons, List.length_replicate, List.length_replicate], fun i s hs => ?_, fun i j s t b e1 _ o1 => ?_⟩
  · cases i with
    | zero => rw [List.getElem?_cons_zero] at hs; cases hs; rfl
    | succ i =>
      rw [List.getElem?_cons_succ, List.getElem?_replicate] at hs
      split at hs
      · cases hs; trivial
      · cases hs
  · cases i with
    | zero => rw [List.getElem?_cons_zero] at e1; cases e1; cases o1
    | succ i =>
      rw [List.getElem?_cons_succ, List.getElem?_replicate] at e1
      split at e1
      · cases e1; cases o1
      · cases e1
section
open L2H
variable {P : Program} {w : World} {K : PySem.W.Frag} {base : Heap} {mg : Str → Option Value}
theorem fnR_of {x qual : Str} {st : Stmt} {f : Addr} {fd : FuncData} {N ps : List Str} {k : Nat} {ns : List Str} {g : Str → Rs D} (F0 : Fun K x qual st f fd) (S : FnScope N ps (defScope st)) (hm : mg x = some (.ref f)) (hb : Binds K fd ps []) (hn : ps.length = 1)
    (body : ∀ (X : Cx) (c : Str) (p : Addr × Obj), c ∈ ns → X.prog = P → X.w = w → X.K = K → X.mg = mg → X.base = base → DXH N (defScope st) c p X → ∃ (α : Type) (ρ' : α → List Sl) (m : Rs (Out α)), m.fin = g c ∧ BS X W0 (.ex p.1 :: List.replicate (N.length - 1) .no) (defBody st) ρ' m) :
    FnR P w K mg base (k + 1) x ns g := by
  refine ⟨f, fd, ps, hm, F0.kp, hb, hn, fun c C A outer s H args us Q E p hc hC hr hot hpin hz e0 hbd r ⟨F, G, d, fh, gh, hg, q⟩ => ?_⟩
  obtain ⟨oc, od, kV, dc, pm, an, cdv, ct, osl, rfl, lk, hcd⟩ := F0.ex
  have hl : ([V.ref p.1] : List V).length = ps.length := hn.symm
  have KX : K.In s.heap := e0.mod.kin.keeps fun b o z => (e0.bs b o z).1
  have lim : s.heap.NoLimit := e0.mod.nolimit.keeps fun b o z => (e0.bs b o z).1
  have hkd : ∀ y ∈ ps.zip us, (defScope st).names.lookup y.1 = some .local ∨ ((defScope st).names.lookup y.1 = some .cell ∧ ((cellsFrom (s.heap.objs.size + 1) (defScope st).names []).lookup y.1).isSome = true) := by
    intro ⟨n, v⟩ hy
    exact (S.par n (List.of_mem_zip hy).1).imp id fun z => ⟨z, PySem.W.cellsFrom_some _ _ _ (.inl z)⟩
  refine codeAny_call_function hr.depth (KX _ _ lk) rfl S.co S.gen rfl (PySem.W.codeRec_of KX hcd) (hbd _ _ _ _ ?_)
  refine wpAny_newFunctionEnv_cells S.kind hkd fun env he s1 y => ?_
  subst he
  refine ⟨lim.keeps y.toInCall.keep, codeAny_func ?_⟩
  have I := inv_startH (CX := L2N.CX P w) (N := N) (qual := qual) (f := f) (cd := cdv) (E := E) S hpin e0 hl r y
  obtain ⟨hh, vsP, hd, hctx⟩ := id hot
  have hX : DXH N (defScope st) c p (cxH (L2N.CX P w) P w K mg base N qual (defScope st) f cdv A outer s H E p) :=
    ⟨rfl, rfl, rfl, S.nd, by have := (hr.deeper (envOfC qual (defScope st) s.heap.objs.size f cdv)).un; show (A.deeper _).units + 65 < cLine; omega, List.mem_singleton.mpr rfl, C, hC, hz, vsP, hd⟩
  obtain ⟨α, ρ', m, em, hB⟩ := body _ c p hc rfl rfl rfl rfl rfl hX
  have hNl : 1 ≤ N.length := by have := congrArg List.length S.pre; rw [List.length_take, hn] at this; omega
  have dS : DenS (cxH (L2N.CX P w) P w K mg base N qual (defScope st) f cdv A outer s H E p) W0 m ρ' F G (L2.start N [V.ref p.1]).length { nx := fun _ H' => Q .non H', rt := Q } := by
    rw [← em] at hg
    cases m with
    | ok o =>
      cases o with
      | nx a => cases hg; exact fun σ' F' H' z St => q .non F' H' z.f St.fh St.gh z.nw .non
      | ret v => cases hg; exact fun v F' H' z f1 g1 rp => q v F' H' z.f f1 g1 z.nw rp
    | exc c => cases hg
    | stuck => cases hg
  have hq : rBS (cxH (L2N.CX P w) P w K mg base N qual (defScope st) f cdv A outer s H E p) W0 (.ex p.1 :: List.replicate (N.length - 1) .no) ρ' m { nx := fun _ H' => Q .non H', rt := Q } (L2.start N [V.ref p.1]) H :=
    ⟨F, G, ste_startX fh gh hNl, dS⟩
  refine wpAny_mono (hB.run [] s1 (L2.start N [V.ref p.1]) H _ I hq) (fun fl s' hs => ?_) fun e s' hs => hs
  have fin : ∀ {σ' : L2.St} {H' : Hp} {v : V} {u : Value}, Inv (cxH (L2N.CX P w) P w K mg base N qual (defScope st) f cdv A outer s H E p) [] σ' H' s' → RelV v u → Q v H' → CE outer P w H s Q u s' := by
    intro σ' H' v u J rv z
    exact ⟨v, H', J.os, J.bare, J.base, J.hok, rv, z⟩
  cases fl with
  | ret u => obtain ⟨v, σ', H', J, rv, z⟩ := hs; exact fin J rv z
  | next => obtain ⟨σ', H', J, z⟩ := hs; exact fin (v := V.non) (u := Value.none) J rfl z
  | brk => obtain ⟨_, _, _, z⟩ := hs; exact z.elim
  | cont => obtain ⟨_, _, _, z⟩ := hs; exact z.elim
end
section
variable {X : Cx} {W : WX} {b : Bool} {ρ : List Sl} {α β : Type} {ρ' : β → List Sl} {pos pos' : Pos} {rest body : List Stmt} {ns : List Str}
/-! isinstance(e, C), e what was caught -/
theorem call_isP {p : Addr × Obj} {C : Addr} (hp : p ∈ X.pn) (c : ExcC X.K C) (hz : L2N.Zn (.ref C) none p.2) (hf : ∃ vs, p.2.data = .fields vs) : CallR X (.builtin "isinstance") (rIsE X.K C p.1) := by
  rintro pins s σ H xs us Q I r ⟨k, kv, bb, rfl, hk, e, q⟩
  obtain ⟨v1, v2, rfl, r1, r2⟩ := vals2 r
  cases r1
  have ec := hk _ r2
  subst ec
  obtain ⟨hget, _⟩ := I.pin p (List.mem_append.mpr (.inl hp))
  obtain ⟨vs, hv⟩ := hf
  obtain ⟨a, oc, od, oda, osl⟩ := p
  obtain ⟨h1, h2, _⟩ := hz
  dsimp only at h1 h2 hv hget
  subst h1 h2 hv
  have J : PySem.W.InstAt s.heap a ⟨.ref C, none, .fields vs, osl⟩ C none := ⟨hget, rfl, rfl, trivial⟩
  refine PySem.W.kia_one (PySem.W.handS_kitx_exc c.hg c.hk c.hs c.hd c.ha c.hn c.ht c.hm) I.kIn J e (fun z => nomatch z) fun tk => ?_
  exact ⟨.bl bb, H, I.kept (t' := tk) fun _ _ z => z, rfl, q⟩
theorem ev_isE {N : List Str} {sc : Scope} {c : Str} {p : Addr × Obj} {i : Nat} {n y : Str} {p1 p2 p3 : Pos} (Hx : DXH N sc c p X) (T : ExT X.K X.mg ns) (hc : c ∈ ns) (hy : y ∈ ns) (B : Bn X "isinstance" (.builtin "isinstance")) (hv : Va X i n) (hi : ρ[i]? = some (.ex p.1)) (hg : Gn X y)
    (he : starEach [.Name n p2, .Name y p3] X.env = [(false, eval (.Name n p2) X.env), (false, eval (.Name y p3) X.env)] := by rfl) (he2 : starEach [.Name y p3] X.env = [(false, eval (.Name y p3) X.env)] := by rfl) :
    EV X W b ρ (.Call (.Name "isinstance" p1) [.Name n p2, .Name y p3] [] pos) (.ok (.bool (decide (c = y)))) := by
  obtain ⟨C, hC, hz, hf⟩ := Hx.cl
  obtain ⟨D0, hD⟩ := T.df y hy
  refine PE.imp (pe_callB (call_isP Hx.pn (exO_of (T.one c hc C hC)).cc hz hf) B.g B.m B.v (pa_cons (pe_var hv.n hv.v hv.d hv.c) (pa_cons (pe_glob (v := .ref D0) hg.g hD rfl hg.db) pa_nil he2) he) B.n B.db he (by rfl)) fun σ H Q ⟨F, G, S, k⟩ => ?_
  have e := S.sl i _ hi
  exact ⟨_, e, .ref D0, .ref D0, _, rfl, fun u r => r, T.is c hc y hy C D0 hC hD, (show DenE X W b (.ok (.bool (decide (c = y)))) F H σ Q from k) _ F H S.ext (.bl _)⟩
theorem ev_isVE {N : List Str} {sc : Scope} {c : Str} {p : Addr × Obj} {i : Nat} {n : Str} {p1 p2 p3 : Pos} (Hx : DXH N sc c p X) (T : ExT X.K X.mg ns) (hc : c ∈ ns) (B : Bn X "isinstance" (.builtin "isinstance")) (B2 : Bn X "ValueError" (.type "ValueError")) (hv : Va X i n) (hi : ρ[i]? = some (.ex p.1))
    (he : starEach [.Name n p2, .Name "ValueError" p3] X.env = [(false, eval (.Name n p2) X.env), (false, eval (.Name "ValueError" p3) X.env)] := by rfl) (he2 : starEach [.Name "ValueError" p3] X.env = [(false, eval (.Name "ValueError" p3) X.env)] := by rfl) :
    EV X W b ρ (.Call (.Name "isinstance" p1) [.Name n p2, .Name "ValueError" p3] [] pos) (.ok (.bool true)) := by
  obtain ⟨C, hC, hz, hf⟩ := Hx.cl
  refine PE.imp (pe_callB (call_isP Hx.pn (exO_of (T.one c hc C hC)).cc hz hf) B.g B.m B.v (pa_cons (pe_var hv.n hv.v hv.d hv.c) (pa_cons (pe_bltn (v := .ty "ValueError") B2.g B2.m B2.v rfl B2.n B2.db) pa_nil he2) he) B.n B.db he (by rfl)) fun σ H Q ⟨F, G, S, k⟩ => ?_
  have e := S.sl i _ hi
  exact ⟨_, e, .ty "ValueError", .type "ValueError", _, rfl, fun u r => r, T.ve c hc C hC, (show DenE X W b (.ok (.bool true)) F H σ Q from k) _ F H S.ext (.bl _)⟩
end
end Pu

/-! The pure layer, part 9: try .. except WordError as e: return refused(e). -/
namespace Pu
open PySem PySem.Spec
open PyProof.Rows L2
section
variable {X : Cx} {W : WX} {b : Bool} {ρ : List Sl} {α β : Type} {ρ' : β → List Sl} {pos pos' : Pos} {rest body : List Stmt} {ns : List Str}
/-- what is wanted of refused(e) -/
def tRf (mg : Str → Option Value) (ns : List Str) (g : Str → Rs D) (i : Nat) (a : Addr) (cls : Value) (dd : Option Addr) : TE := fun σ H Q =>
  σ[i]? = some (some (V.ref a)) ∧ ∃ c C, cls = .ref C ∧ dd = none ∧ c ∈ ns ∧ mg c = some (.ref C) ∧ ∃ F G d, FH F H ∧ Same G H ∧ g c = .ok d ∧ ∀ v F' H', Same F F' → FH F' H' → Same G H' → (∀ a, F a = none → F' a ≠ none → G a = none) → Rp F' v d → Q v H'
theorem pe_ref {k i : Nat} {x n : Str} {a : Addr} {oe : Obj} {cls : Value} {dd : Option Addr} {pn : List (Addr × Obj)} {g : Str → Rs D} {q p2 : Pos} (R : FnR X.prog X.w X.K X.mg X.base k x ns g) (hr : Room k X.A) (hg : Gn X x) (hv : Va X i n) (hz : L2N.Zn cls dd oe) (hf : ∃ vs, oe.data = .fields vs)
    (he : starEach [.Name n p2] X.env = [(false, eval (.Name n p2) X.env)] := by rfl) :
    PE (X.suite a ((a, oe) :: pn)) (.Call (.Name x q) [.Name n p2] [] pos) (tRf X.mg ns g i a cls dd) := by
  obtain ⟨f, fd, ps, h1, h2, h3, h4, h5⟩ := R
  refine ⟨fun pins s σ H Q I ⟨hs, c, C, e1, e2, hc, hC, F, G, d, fh, gh, hd, z⟩ => ?_⟩
  subst e1 e2
  have ha : PA (X.suite a ((a, oe) :: pn)) [.Name n p2] (tCons (tVar i) tNil) := pa_cons (pe_var hv.n hv.v hv.d hv.c) pa_nil he
  refine wpAny_Call_Name_kw (ld_glob I hg.g h1 ?_ hg.db)
  refine PySem.W.callWith_K (h₀ := X.base) I.ok.mod.kin h2 (thn (ha.run pos pins s σ H (fun vs H1 => vs = [V.ref a] ∧ H = H1) I ⟨V.ref a, hs, rfl, rfl⟩) fun us s1 hh => ?_) he (by rfl)
  obtain ⟨vs, H1, I1, r, ev, eH⟩ := hh
  subst ev
  rw [← eH] at I1
  refine ⟨I1.kIn, ?_⟩
  have hl : us.length = ps.length := by rw [← r.length]; exact h4.symm
  have bb := h3 s1 us I1.kIn (by rw [List.append_nil]; exact hl)
  rw [List.append_nil] at bb
  have P1 := I1.pin (a, oe) (List.mem_append_left _ List.mem_cons_self)
  obtain ⟨vsO, hvs⟩ := hf
  have hot : L2H.Hot1 (X.A.mark (some (.ref a))) (a, oe) := ⟨rfl, vsO, hvs, hz.2.2 vsO hvs⟩
  have hp : L2H.PinOk X.stack H s1 (a, oe) := ⟨P1.1, P1.2.1, fun hm => (List.mem_cons.mp (I1.stkSub a hm)).elim P1.2.2.1 P1.2.2.2.1, P1.2.2.2.2⟩
  have run := h5 c C (X.A.mark (some (.ref a))) X.stack s1 H ⟨us, []⟩ us Q (fun _ _ _ => False) (a, oe) hc hC ⟨hr.dp, hr.un⟩ hot hp hz I1.env0 bb r ⟨F, G, d, fh, gh, hd, z⟩
  refine wpAny_call (codeAny_mono run fun r s' hq => ?_)
  cases r with
  | error e =>
    obtain ⟨_, _, _, _, _, _, _, _, _, _, _, _, no⟩ := hq
    exact no.elim
  | ok fl =>
    cases fl with
    | ret u => exact I1.after hq
    | next => exact False.elim hq
    | brk => exact False.elim hq
    | cont => exact False.elim hq
def Rs.catch {γ : Type} (ns : List Str) (g : Str → Rs D) (m : Rs (Out γ)) : Rs (Out γ) := match m with
  | .exc c => if c ∈ ns then (match g c with
    | .ok d => .ok (.ret d)
    | _ => .stuck) else .stuck
  | m => m
/-- all tuples of H are frozen too -/
def withTups (F H : Hp) : Hp := fun a => match H a with
  | some (.tup xs) => some (.tup xs)
  | _ => F a
theorem withTups_fh {F H : Hp} (s : Same F H) (nd : NoD F) : FH (withTups F H) H ∧ Same F (withTups F H) := by
  refine ⟨⟨fun a u e => ?_, fun a xs e => ?_, fun a u e => ?_⟩, fun a u e => ?_⟩
  · unfold withTups at e
    split at e
    · rename_i q; cases e; exact q
    · exact s a u e
  · unfold withTups; rw [e]
  · unfold withTups at e
    split at e
    · cases e; rfl
    · exact nd a u e
  · have := s a u e
    unfold withTups
    rw [this]
    cases u <;> first | rfl | exact e
def catchTS (X : Cx) (ns : List Str) (g : Str → Rs D) (i : Nat) (a : Addr) (cls : Value) (dd : Option Addr) : TS := fun D σ H => tRf X.mg ns g i a cls dd σ H D.rt
theorem bs_try {ρ1 : α → List Sl} {k i : Nat} {x n : Str} {g : Str → Rs D} {mb : Rs (Out α)} {kk : α → Rs (Out β)} {p1 p2 p3 p4 p5 : Pos}
    (hs : X.stack = X.env :: X.outer) (hf : X.env.frame = some X.env.locals) (hN : X.N.Nodup) (T : ExT X.K X.mg ns) (tk : L2N.Takes X W) (R : FnR X.prog X.w X.K X.mg X.base k x ns g) (hr : Room k X.A) (hg : Gn X x) (hw : Gn X "WordError") (hv : Va X i n) (hln : X.env.kindOf n = some .local) (hi : i < ρ.length) (hl : ∀ a, (ρ1 a).length = ρ.length)
    (hb : ∀ (W' : WX) (pn : List (Addr × Obj)) (xe : Value → Shared → Prop), L2N.Takes (X.tr pn xe) W' → PassesOwn (model X.prog X.w) X.A X.env xe → BS (X.tr pn xe) W' ρ body ρ1 mb) (hR : ∀ a, BS X W (ρ1 a) rest ρ' (kk a))
    (he : starEach [.Name n p2] X.env = [(false, eval (.Name n p2) X.env)] := by rfl) :
    BS X W ρ (.Try body [.ExceptHandler (some (.Name "WordError" p1)) (some n) [.Return (some (.Call (.Name x p3) [.Name n p2] [] p4)) p5] pos'] [] [] pos :: rest) ρ' ((mb.catch ns g).seq kk) := by
  obtain ⟨B, hB, hBC⟩ := T.we
  have suite : ∀ (a : Addr) (oe : Obj) (cls : Value) (d : Option Addr) (pn : List (Addr × Obj)), L2N.Zn cls d oe → (∃ vs, oe.data = .fields vs) → PSs (X.suite a ((a, oe) :: pn)) [.Return (some (.Call (.Name x p3) [.Name n p2] [] p4)) p5] (catchTS X ns g i a cls d) :=
    fun a oe cls d pn hz hfd => PSs.imp (pss_cons (ps_ret (pe_ref R hr hg hv hz hfd he)) pss_never) fun D σ H q => q
  have rest_ok : PSs X rest (rAny X W ρ1 ρ' kk) := ⟨fun pins s σ H D I ⟨x, F, G, S, q⟩ => (hR x).run pins s σ H D I ⟨F, G, S, q⟩⟩
  refine PSs.imp (pss_cons (L2N.ps_try_as (i := i) (c := .ref B) (tb := fun W' => rBS X W' ρ ρ1 mb) (ts := catchTS X ns g i) hs hf hN hv.n hln ⟨hw.g, hw.db, .inl hB⟩ tk (fun W' pn xe t' p' => hb W' pn xe t' p') suite) rest_ok) fun D σ H ⟨F, G, S, q⟩ => ⟨F, G, S, ?_⟩
  cases mb with
  | ok o =>
    cases o with
    | nx a =>
      intro σ' F' H' gr S'
      have q1 : DenS X W (kk a) ρ' F G σ.length D := q
      have el : σ'.length = σ.length := by rw [S'.len, hl, ← S.len]
      exact ⟨a, F', G, S', by rw [el]; exact q1.gr gr⟩
    | ret d => exact fun v F' H' gr fh' gh' r => (show DenS X W (.ok (.ret d)) ρ' F G σ.length D from q) v F' H' gr fh' gh' r
  | exc c =>
    intro v σ' H' ⟨C, hv', hC⟩ sF sG hn
    subst hv'
    have q' : DenS X W ((Rs.catch ns g (.exc c : Rs (Out α))).seq kk) ρ' F G σ.length D := q
    unfold Rs.catch at q'
    dsimp only at q'
    by_cases hc : c ∈ ns
    · rw [if_pos hc] at q'
      cases hgc : g c with
      | ok d =>
        rw [hgc] at q'
        have q2 : ∀ v F' H', Gr G F F' → FH F' H' → Same G H' → Rp F' v d → D.rt v H' := q'
        refine ⟨true, (hBC c hc C hC).1, fun _ a ha => ?_, fun z => by cases z⟩
        have hi2 : i < σ'.length := by rw [hn, S.len]; exact hi
        obtain ⟨f1, f2⟩ := withTups_fh sF S.fh.nd
        refine ⟨by rw [List.getElem?_set_self hi2], c, C, rfl, rfl, hc, hC, withTups F H', G, d, f1, sG, hgc, fun v F' H2 s1 fh2 g2 nw r => ?_⟩
        refine q2 v F' H2 ⟨f2.trans s1, fun b hb hb' => ?_⟩ fh2 g2 r
        by_cases hw' : withTups F H' b = none
        · exact nw b hw' hb'
        · cases hG : G b with
          | none => rfl
          | some o =>
            exfalso
            have hH := sG b o hG
            unfold withTups at hw'
            rw [hH] at hw'
            cases o with
            | tup xs =>
              have := S.fh.tup b xs (S.gh b _ hG)
              rw [this] at hb; cases hb
            | _ => exact hw' hb
      | exc c2 => rw [hgc] at q'; exact (show False from q').elim
      | stuck => rw [hgc] at q'; exact (show False from q').elim
    · rw [if_neg hc] at q'; exact (show False from q').elim
  | stuck => exact q
end
end Pu

/-! The pure layer, part 10: the words in which the printed proofs are written. -/
namespace Pu
open PySem PySem.Spec
open PyProof.Rows L2

structure Un where
  P : Program
  w : World
  K : PySem.W.Frag
  mg : Str → Option Value
  base : Heap
/-- the built-ins of which the text speaks are not its own -/
def bNames : List Str := ["range", "len", "all", "any", "isinstance", "list", "sorted", "set", "sum", "min", "max", "abs", "dict", "enumerate", "zip", "int", "str", "bool", "tuple", "ValueError", "reversed"]
def NoB (U : Un) : Prop := ∀ x ∈ bNames, U.mg x = none
def Fn (U : Un) (k : Nat) (x : Str) (n : Nat) (f : List D → Rs D) : Prop := Cal U.P U.w U.K U.mg U.base k x n f
/-- a place in the text: what expressions need -/
structure DY (U : Un) (N : List Str) (sc : Scope) (fn : Str → Bool) (k : Nat) (X : Cx) (W : WX) : Prop where
  eP : X.prog = U.P
  eW : X.w = U.w
  eK : X.K = U.K
  eM : X.mg = U.mg
  eB : X.base = U.base
  n : X.N = N
  s : X.env.scope = sc
  f : X.fn = fn
  c : X.calm = true
  tk : L2N.Takes X W
  hr : Room k X.A
  nd : X.N.Nodup
  nb : NoB U
/-- what statements need, too -/
structure DZ (U : Un) (N : List Str) (sc : Scope) (k : Nat) (X : Cx) (W : WX) : Prop where
  y : DY U N sc (fun _ => true) k X W
  hp : PassesOwn (model X.prog X.w) X.A X.env X.xe
  stk : X.stack = X.env :: X.outer
  fr : X.env.frame = some X.env.locals
/-! ### how values are put together -/
def b2 (g : D → D → Rs D) (m1 m2 : Rs D) : Rs D := m1.bind fun x => m2.bind fun y => (g x y).nox
def c2 (g : D → D → Rs D) (m1 m2 : Rs D) : Rs Bool := (b2 g m1 m2).bind asB
def chT (g g' : D → D → Rs D) (m1 m2 m3 : Rs D) : Rs Bool := (chain g g' m1 m2 m3).bind asB
def isB (m : Rs D) : Rs Bool := m.bind asB
def andV (m n : Rs D) : Rs D := (m.bind asB).bind fun c => if c = true then n else .ok (.bool false)
def orV (m n : Rs D) : Rs D := (m.bind asB).bind fun c => if c = true then .ok (.bool true) else n
def notV (m : Rs D) : Rs D := (m.bind asB).notB.val
def ifV (mc : Rs Bool) (m1 m2 : Rs D) : Rs D := mc.bind fun c => if c = true then m1 else m2
def cb (g : List D → Rs D) (m : Rs (List D)) : Rs D := m.bind fun ds => (g ds).nox
def tupV (m : Rs (List D)) : Rs D := m.bind fun ds => .ok (.tuple ds)
def lstV (m : Rs (List D)) : Rs D := m.bind fun ds => .ok (.list ds)
def isiV (T : Ty) (m : Rs D) : Rs D := m.bind fun d => (pIsi T d).nox
def slV (m : Rs D) (ml mh : Rs (Option Int)) : Rs D := m.bind fun d => ml.bind fun l => mh.bind fun u => (pSl d l u).nox
def msV (g : Str → List D → Rs D) (m1 : Rs D) (m2 : Rs (List D)) : Rs D := m1.bind fun d => (ofS d).bind fun s => m2.bind fun ds => (g s ds).nox
def mlV (g : List D → List D → Rs D) (m1 : Rs D) (m2 : Rs (List D)) : Rs D := m1.bind fun d => (ofL d).bind fun s => m2.bind fun ds => (g s ds).nox
def lcV {γ : Type} (take : D → Option γ) (mi : Rs (List D)) (mt : γ → Rs Bool) (me : γ → Rs D) : Rs D := mi.bind fun ds => (lcM take mt me ds).bind fun l => .ok (.list l)
def ifS {α β : Type} (mc : Rs Bool) (ma mb : Rs (Out α)) (k : α → Rs (Out β)) : Rs (Out β) := mc.bind fun c => (if c = true then ma else mb).seq k
def forS {α β γ : Type} (take : D → Option γ) (mi : Rs (List D)) (a0 : α) (mb : α → γ → Rs (Out α)) (k : α → Rs (Out β)) : Rs (Out β) := mi.bind fun ds => (forM (fun a d => took (take d) (mb a)) ds a0).seq k
def upS {β γ : Type} (take : D → Option γ) (m : Rs D) (k : γ → Rs (Out β)) : Rs (Out β) := m.bind fun d => took (take d) k
theorem sle_nil : SlsLe [] [] := trivial
theorem sle_no {s : Sl} {l r : List Sl} (h : SlsLe l r) : SlsLe (s :: l) (.no :: r) := ⟨.inl rfl, h⟩
theorem sle_eq {s : Sl} {l r : List Sl} (h : SlsLe l r) : SlsLe (s :: l) (s :: r) := ⟨.inr rfl, h⟩
section
variable {U : Un} {N : List Str} {sc : Scope} {fn : Str → Bool} {k j : Nat} {X : Cx} {W : WX} {b b' : Bool} {ρ : List Sl} {e e1 e2 e3 : Expr} {es : List Expr} {pos p1 p2 : Pos} {x : Str}
theorem DY.rm (y : DY U N sc fn k X W) : Rm X := Room.rm y.hr
theorem DY.calls (y : DY U N sc fn k X W) {n : Nat} {f : List D → Rs D} (h : Fn U j x n f) : CalX X j x n f := by
  unfold CalX; rw [y.eP, y.eW, y.eK, y.eM, y.eB]; exact h
theorem DY.bn (y : DY U N sc fn k X W) {f : Value} (c : gnC sc x = true) (hx : x ∈ bNames) (hv : bootBuiltins x = some f) : Bn X x f := bn_of y.s c (by rw [y.eM]; exact y.nb x hx) hv
theorem DZ.tr (z : DZ U N sc k X W) {W' : WX} {pn : List (Addr × Obj)} {xe : Value → Shared → Prop} (t : L2N.Takes (X.tr pn xe) W') (p : PassesOwn (model X.prog X.w) X.A X.env xe) : DZ U N sc k (X.tr pn xe) W' :=
  ⟨⟨z.y.eP, z.y.eW, z.y.eK, z.y.eM, z.y.eB, z.y.n, z.y.s, z.y.f, z.y.c, t, z.y.hr, z.y.nd, z.y.nb⟩, p, z.stk, z.fr⟩
theorem takes_blk {X : Cx} : L2N.Takes X W0 := fun _ _ ⟨_, _, _, _, _, _, _, _, _, _, _, _, _, _, _, _, w⟩ => w.elim
/-- a comprehension's names, within a block whose names are sc's -/
def relS (scope sc : Scope) : Scope := { scope with names := scope.names.map fun (n, k) => if k == .free && sc.kind == .function && sc.names.lookup n == some .cell then (n, .cell) else (n, k) }
theorem DY.blk (y : DY U N sc fn k X W) (s : Shared) (H : Hp) (scope : Scope) (C : Addr) (cl : List (Str × Addr)) (fp : List Addr) : DY U N (relS scope sc) (fun x => scope.names.lookup x == some .cell) k (X.blk s H scope (compEnvC scope cl C X.env) fp) W0 :=
  ⟨y.eP, y.eW, y.eK, y.eM, y.eB, y.n, by rw [← y.s]; rfl, rfl, y.c, takes_blk, y.hr, y.nd, y.nb⟩
/-! ### expressions -/
theorem y_var (y : DY U N sc fn k X W) (i : Nat) {d : D} (h : ρ[i]? = some (.da d)) (c : vaC N sc i x = true := by decide +kernel) : EV X W b ρ (.Name x pos) (.ok d) := ev_var (va_of y.n y.s c) h
theorem y_varL (y : DY U N sc fn k X W) (i : Nat) {d : List D} (h : ρ[i]? = some (.ol d)) (c : vaC N sc i x = true := by decide +kernel) : EV X W true ρ (.Name x pos) (.ok (.list d)) := ev_varL (va_of y.n y.s c) h
theorem y_varK (y : DY U N sc fn k X W) (i : Nat) {d : List (Key × D)} (h : ρ[i]? = some (.ok d)) (c : vaC N sc i x = true := by decide +kernel) : EV X W true ρ (.Name x pos) (.ok (okD d)) := ev_varK (va_of y.n y.s c) h
theorem y_varT (y : DY U N sc fn k X W) (i : Nat) {d : List (List Key × D)} (h : ρ[i]? = some (.ot d)) (c : vaC N sc i x = true := by decide +kernel) : EV X W true ρ (.Name x pos) (.ok (otD d)) := ev_varT (va_of y.n y.s c) h
/-- a constant of the module -/
def Gc (U : Un) (x : Str) (d : D) : Prop := ∃ v u, U.mg x = some u ∧ RelV v u ∧ ∀ F, Rp F v d
theorem gc_str {U : Un} {x a : Str} {t : Tok} (h : U.mg x = some (.str a t)) : Gc U x (.str a) := ⟨.str a, _, h, ⟨t, rfl⟩, fun F => .str a⟩
theorem gc_int {U : Un} {x : Str} {a : Int} {t : Tok} (h : U.mg x = some (.int a t)) : Gc U x (.int a) := ⟨.int a, _, h, ⟨t, rfl⟩, fun F => .int a⟩
theorem y_glob (y : DY U N sc fn k X W) {d : D} (h : Gc U x d) (c : gnC sc x = true := by decide +kernel) : EV X W b ρ (.Name x pos) (.ok d) := by
  obtain ⟨v, u, h1, h2, h3⟩ := h
  exact ev_glob (gv_of y.s c ⟨u, by rw [y.eM]; exact h1, h2⟩ h3)
theorem y_op {op : Operator} {m1 m2 : Rs D} {g : D → D → Rs D} (ho : Op2 X b b' (binaryOp op) g) (h1 : EV X W b ρ e1 m1) (h2 : EV X W b ρ e2 m2) : EV X W b' ρ (.BinOp e1 op e2 pos) (b2 g m1 m2) := ev_op ho h1 h2
theorem y_cmp {op : CmpOp} {m1 m2 : Rs D} {g : D → D → Rs D} (ho : Op2 X b b' (compareOp op) g) (h1 : EV X W b ρ e1 m1) (h2 : EV X W b ρ e2 m2) (hm : behindInMarks op e2 = false := by rfl) : EV X W b' ρ (.Compare e1 [op] [e2] pos) (b2 g m1 m2) := ev_cmp ho h1 h2 hm
theorem t_cmp {op : CmpOp} {m1 m2 : Rs D} {g : D → D → Rs D} (ho : Op2 X b true (compareOp op) g) (h1 : EV X W b ρ e1 m1) (h2 : EV X W b ρ e2 m2) (hm : behindInMarks op e2 = false := by rfl) : ET X W ρ (.Compare e1 [op] [e2] pos) (c2 g m1 m2) := et_cmp ho h1 h2 hm
theorem t_chain {op op' : CmpOp} {m1 m2 m3 : Rs D} {g g' : D → D → Rs D} (ho : Op2 X b true (compareOp op) g) (ho' : Op2 X b true (compareOp op') g') (h1 : EV X W b ρ e1 m1) (h2 : EV X W b ρ e2 m2) (h3 : EV X W b ρ e3 m3) (hm : lastMarks [op, op'] [e2, e3] = false := by rfl) :
    ET X W ρ (.Compare e1 [op, op'] [e2, e3] pos) (chT g g' m1 m2 m3) := et_chain ho ho' h1 h2 h3 hm
theorem y_chain {op op' : CmpOp} {m1 m2 m3 : Rs D} {g g' : D → D → Rs D} (ho : Op2 X b true (compareOp op) g) (ho' : Op2 X b b' (compareOp op') g') (h1 : EV X W b ρ e1 m1) (h2 : EV X W b ρ e2 m2) (h3 : EV X W b ρ e3 m3) (hm : lastMarks [op, op'] [e2, e3] = false := by rfl) :
    EV X W b' ρ (.Compare e1 [op, op'] [e2, e3] pos) (chain g g' m1 m2 m3) := ev_chain ho ho' h1 h2 h3 hm
theorem t_val {m : Rs D} (h : EV X W true ρ e m) (he : ∀ whole, isTrue e X.env whole = (do let v ← whole; standAt e.pos; holding [v] (truthy v)) := by intro _; rfl) : ET X W ρ e (isB m) := et_val h he
theorem y_not {m : Rs D} (h : EV X W true ρ e m) : EV X W b ρ (.UnaryOp .Not e pos) (notV m) := ev_not h
theorem y_and {m n : Rs D} {rest : List Expr} (h : EV X W true ρ e m) (h2 : EVW X W b ρ .And (e2 :: rest) n) : EVW X W b ρ .And (e :: e2 :: rest) (andV m n) := evw_and h h2
theorem y_or {m n : Rs D} {rest : List Expr} (h : EV X W true ρ e m) (h2 : EVW X W b ρ .Or (e2 :: rest) n) : EVW X W b ρ .Or (e :: e2 :: rest) (orV m n) := evw_or h h2
theorem y_if {mc : Rs Bool} {m1 m2 : Rs D} (hc : ET X W ρ e mc) (h1 : EV X W b ρ e1 m1) (h2 : EV X W b ρ e2 m2) : EV X W b ρ (.IfExp e e1 e2 pos) (ifV mc m1 m2) := ev_if hc h1 h2
theorem y_ix (y : DY U N sc fn k X W) {m1 m2 : Rs D} (h1 : EV X W b ρ e1 m1) (h2 : EV X W b ρ e2 m2) (hs : PlainIx e2 := by intro _ _; rfl) : EV X W b ρ (.Subscript e1 e2 pos) (b2 pIx m1 m2) := ev_ix y.rm h1 h2 hs
theorem y_slice {m : Rs D} {ml mh : Rs (Option Int)} {lo hi : Option Expr} (h : EV X W b ρ e m) (hl : EO X W ρ lo ml) (hh : EO X W ρ hi mh) : EV X W b ρ (.Subscript e (.Slice lo hi none p2) pos) (slV m ml mh) := ev_slice h hl hh
theorem y_tup {m : Rs (List D)} {x1} (h : EAs X W false ρ es m) (hl : es.length ≤ sizeLine := by decide) : EV X W b ρ (.Tuple es x1 pos) (tupV m) := ev_tup h hl
theorem y_lst {m : Rs (List D)} (h : EAs X W false ρ es m) (hl : es.length ≤ sizeLine := by decide) : EV X W b ρ (.List es pos) (lstV m) := ev_lst h hl
theorem y_call (y : DY U N sc fn k X W) {n : Nat} {f : List D → Rs D} {m : Rs (List D)} (C : Fn U j x n f) (h : EAs X W false ρ (e :: es) m) (hj : j ≤ k := by omega) (hn : (e :: es).length = n := by rfl) (c : gnC sc x = true := by decide +kernel)
    (he : starEach (e :: es) X.env = (false, eval e X.env) :: starEach es X.env := by rfl) (hpl : (backTo pos (starEach es X.env)).any (·.1) = false := by rfl) : EV X W b ρ (.Call (.Name x p1) (e :: es) [] pos) (m.bind f) :=
  ev_call y.tk y.hr (gn_of y.s c) ((y.calls C).mono hj) h hn he hpl
theorem y_cb (y : DY U N sc fn k X W) {id : String} {g : List D → Rs D} {m : Rs (List D)} (hc : Cb X b b' (.builtin id) g) (h : EAs X W b ρ (e :: es) m) (hv : bootBuiltins x = some (.builtin id) := by decide +kernel) (hx : x ∈ bNames := by decide +kernel) (c : gnC sc x = true := by decide +kernel)
    (he : starEach (e :: es) X.env = (false, eval e X.env) :: starEach es X.env := by rfl) (hpl : (backTo pos (starEach es X.env)).any (·.1) = false := by rfl) : EV X W b' ρ (.Call (.Name x p1) (e :: es) [] pos) (cb g m) :=
  ev_cb hc (y.bn c hx hv) h he hpl
theorem y_ct (y : DY U N sc fn k X W) {id : String} {g : List D → Rs D} {m : Rs (List D)} (hc : Cb X b b' (.type id) g) (h : EAs X W b ρ (e :: es) m) (hv : bootBuiltins x = some (.type id) := by decide +kernel) (hx : x ∈ bNames := by decide +kernel) (c : gnC sc x = true := by decide +kernel)
    (he : starEach (e :: es) X.env = (false, eval e X.env) :: starEach es X.env := by rfl) (hpl : (backTo pos (starEach es X.env)).any (·.1) = false := by rfl) : EV X W b' ρ (.Call (.Name x p1) (e :: es) [] pos) (cb g m) :=
  ev_ct hc (y.bn c hx hv) h he hpl
theorem y_isi (y : DY U N sc fn k X W) (T : Ty) {z : Str} {m : Rs D} (h : EV X W true ρ e m) (hz : bootBuiltins z = some (.type T.nm) := by decide +kernel) (hx : z ∈ bNames := by decide +kernel) (c : gnC sc "isinstance" = true := by decide +kernel) (c2 : gnC sc z = true := by decide +kernel)
    (he : starEach [e, .Name z p2] X.env = [(false, eval e X.env), (false, eval (.Name z p2) X.env)] := by rfl) (he2 : starEach [.Name z p2] X.env = [(false, eval (.Name z p2) X.env)] := by rfl) : EV X W b ρ (.Call (.Name "isinstance" p1) [e, .Name z p2] [] pos) (isiV T m) :=
  ev_isi (y.bn c (by decide +kernel) (by decide +kernel)) (y.bn c2 hx hz) h he he2
theorem y_ms {o : Expr} {name : Str} {id : String} {apos : Pos} {g : Str → List D → Rs D} {ma : Rs D} {mb : Rs (List D)} (slot : Slot "str" name id) (hty : typeOf (.builtin id) = pure (.type "method_descriptor")) (hm : MtR X id (rMs X b g)) (ho : EV X W true ρ o ma) (ha : EAs X W true ρ (e :: es) mb)
    (hbs : attributeBase o name X.env (eval o X.env) = eval o X.env := by rfl) (hfew : ((backTo pos (starEach (e :: es) X.env)).all (fun x => !x.1) && (backToKw pos (keywordEach [] X.env)).all (fun x => x.1.isSome) && decide ((e :: es).length + ([] : List Keyword).length + (if ([] : List Keyword).isEmpty then 0 else 1) < 30)) = true := by rfl)
    (hline : (apos.endLine == pos.line) = true := by rfl) (hs : starEach (e :: es) X.env = (false, eval e X.env) :: starEach es X.env := by rfl)
    (hplain : (backTo pos (starEach es X.env)).any (·.1) = false := by rfl) :
    EV X W b ρ (.Call (.Attribute o name apos) (e :: es) [] pos) (msV g ma mb) := ev_ms slot hty hm ho ha hbs hfew hline hs hplain
theorem y_ml {o : Expr} {name : Str} {id : String} {apos : Pos} {g : List D → List D → Rs D} {ma : Rs D} {mb : Rs (List D)} (slot : Slot "list" name id) (hty : typeOf (.builtin id) = pure (.type "method_descriptor")) (hm : MtR X id (rMl X b g)) (ho : EV X W true ρ o ma) (ha : EAs X W true ρ (e :: es) mb)
    (hbs : attributeBase o name X.env (eval o X.env) = eval o X.env := by rfl) (hfew : ((backTo pos (starEach (e :: es) X.env)).all (fun x => !x.1) && (backToKw pos (keywordEach [] X.env)).all (fun x => x.1.isSome) && decide ((e :: es).length + ([] : List Keyword).length + (if ([] : List Keyword).isEmpty then 0 else 1) < 30)) = true := by rfl)
    (hline : (apos.endLine == pos.line) = true := by rfl) (hs : starEach (e :: es) X.env = (false, eval e X.env) :: starEach es X.env := by rfl)
    (hplain : (backTo pos (starEach es X.env)).any (·.1) = false := by rfl) :
    EV X W b ρ (.Call (.Attribute o name apos) (e :: es) [] pos) (mlV g ma mb) := ev_ml slot hty hm ho ha hbs hfew hline hs hplain
theorem y_range1 (y : DY U N sc fn k X W) {tg : Expr} {m : Rs (List D)} (h : EAs X W true ρ [e] m) (c : gnC sc "range" = true := by decide +kernel) (hs : starEach [e] X.env = [(false, eval e X.env)] := by rfl) : EI X W ρ tg (.Call (.Name "range" p1) [e] [] pos) (m.bind pRange) :=
  ei_range1 (y.bn c (by decide +kernel) (by decide +kernel)) h hs
theorem y_range2 (y : DY U N sc fn k X W) {tg : Expr} {m : Rs (List D)} (h : EAs X W true ρ [e, e2] m) (c : gnC sc "range" = true := by decide +kernel) (hs : starEach [e, e2] X.env = [(false, eval e X.env), (false, eval e2 X.env)] := by rfl) (hs2 : starEach [e2] X.env = [(false, eval e2 X.env)] := by rfl) :
    EI X W ρ tg (.Call (.Name "range" p1) [e, e2] [] pos) (m.bind pRange) := ei_range2 (y.bn c (by decide +kernel) (by decide +kernel)) h hs hs2
/-- a comprehension's target: a name; two; three -/
theorem k_one (y : DY U N sc fn k X W) (i : Nat) {α : Type} {ρ : α → List Sl} (hi : ∀ a, i < (ρ a).length) (c : vsC N sc fn i x = true := by decide +kernel) : TgOk (γ := D) X (.Name x pos) [i] ρ some (fun a d => (ρ a).set i (.da d)) := tg_name (vs_of y.n y.s y.f c) hi
theorem k_two (y : DY U N sc fn k X W) (i j : Nat) {α : Type} {ρ : α → List Sl} {z : Str} {l : Nat} (hi : ∀ a, i < (ρ a).length) (hj : ∀ a, j < (ρ a).length) (c : vsC N sc fn i x = true := by decide +kernel) (c2 : vsC N sc fn j z = true := by decide +kernel) :
    TgOk (γ := D × D) X (.Tuple [.Name x p1, .Name z p2] l pos) [i, j] ρ up2 (fun a d => ((ρ a).set i (.da d.1)).set j (.da d.2)) := tg_two y.c (vs_of y.n y.s y.f c) (vs_of y.n y.s y.f c2) hi hj
theorem k_three (y : DY U N sc fn k X W) (i j q : Nat) {α : Type} {ρ : α → List Sl} {z u : Str} {l : Nat} {p3 : Pos} (hi : ∀ a, i < (ρ a).length) (hj : ∀ a, j < (ρ a).length) (hq : ∀ a, q < (ρ a).length) (c : vsC N sc fn i x = true := by decide +kernel) (c2 : vsC N sc fn j z = true := by decide +kernel) (c3 : vsC N sc fn q u = true := by decide +kernel) :
    TgOk (γ := D × D × D) X (.Tuple [.Name x p1, .Name z p2, .Name u p3] l pos) [i, j, q] ρ up3 (fun a d => (((ρ a).set i (.da d.1)).set j (.da d.2.1)).set q (.da d.2.2)) := tg_three y.c (vs_of y.n y.s y.f c) (vs_of y.n y.s y.f c2) (vs_of y.n y.s y.f c3) hi hj hq
/-- [elt for tg in iter if ..] -/
theorem y_lc (y : DY U N sc fn k X W) {γ : Type} {tg iter elt : Expr} {ifs : List Expr} {scope : Scope} (vs : List Nat) (own : List (Str × Nat)) {mi : Rs (List D)} {take : D → Option γ} {mt : γ → Rs Bool} {me : γ → Rs D} (ρt : γ → List Sl)
    (hi : EI X W ρ tg iter mi) (hg : ∀ Y, DY U N (relS scope sc) (fun x => scope.names.lookup x == some .cell) k Y W0 → TgOk Y tg vs (fun _ : Unit => wipeS ρ vs) take (fun _ c => ρt c))
    (ht : ∀ Y, DY U N (relS scope sc) (fun x => scope.names.lookup x == some .cell) k Y W0 → ∀ c : γ, ETs Y W0 (ρt c) ifs (mt c))
    (he : ∀ Y, DY U N (relS scope sc) (fun x => scope.names.lookup x == some .cell) k Y W0 → ∀ c : γ, EV Y W0 false (ρt c) elt (me c))
    (ok : blkC N sc scope own = true := by decide +kernel) (hv : own.map (·.2) = vs := by rfl) (hs : ∀ x, foldedSetIterable iter X.env x = pure x := by intro _; rfl) :
    EV X W b ρ (.ListComp elt [⟨tg, iter, ifs, 0⟩] scope pos) (lcV take mi mt me) :=
  ev_lc y.c y.nd hi (by have := blkOk_by ok; rw [← y.n, ← y.s] at this; exact this) hv (fun s H C cl fp => hg _ (y.blk s H scope C cl fp)) (fun s H C cl fp c => ht _ (y.blk s H scope C cl fp) c) (fun s H C cl fp c => he _ (y.blk s H scope C cl fp) c) hs
end
/-! ### statements -/
section
variable {U : Un} {N : List Str} {sc : Scope} {k j : Nat} {X : Cx} {W : WX} {b : Bool} {ρ : List Sl} {e : Expr} {pos pos' p1 p2 : Pos} {x : Str} {α β γ : Type} {ρ' : β → List Sl} {rest body : List Stmt}
theorem s_set (z : DZ U N sc k X W) (i : Nat) {m : Rs D} {kk : D → Rs (Out β)} (h : EV X W false ρ e m) (hr : ∀ d, BS X W (ρ.set i (.da d)) rest ρ' (kk d)) (hi : i < ρ.length := by simp) (c : vsC N sc (fun _ => true) i x = true := by decide +kernel)
    (hs : swapsWith e (some (.Name x pos')) pos.line X.env = pure false := by rfl) : BS X W ρ (.Assign [.Name x pos'] e pos :: rest) ρ' (m.bind kk) := bs_set (vs_of z.y.n z.y.s z.y.f c) hi h hr hs
def swC (scope sc : Scope) (y : Str) (l1 l2 : Nat) : Bool := (match sc.kind with | .function => true | _ => false) && decide (sc.names.lookup y = some .local) && (l1 == l2) && !(scope.names.any fun (n, k) => n == y && (k == .local || k == .cell))
theorem s_setLc (z : DZ U N sc k X W) (i : Nat) {tg iter elt : Expr} {ifs : List Expr} {scope : Scope} (vs : List Nat) (own : List (Str × Nat)) {mi : Rs (List D)} {take : D → Option γ} {mt : γ → Rs Bool} {me : γ → Rs D} (ρt : γ → List Sl) {kk : D → Rs (Out β)} {py spos : Pos}
    (hi : EI X W ρ tg iter mi) (hg : ∀ Y, DY U N (relS scope sc) (fun x => scope.names.lookup x == some .cell) k Y W0 → TgOk Y tg vs (fun _ : Unit => wipeS ρ vs) take (fun _ c => ρt c))
    (ht : ∀ Y, DY U N (relS scope sc) (fun x => scope.names.lookup x == some .cell) k Y W0 → ∀ c : γ, ETs Y W0 (ρt c) ifs (mt c))
    (he : ∀ Y, DY U N (relS scope sc) (fun x => scope.names.lookup x == some .cell) k Y W0 → ∀ c : γ, EV Y W0 false (ρt c) elt (me c)) (hr : ∀ d, BS X W (ρ.set i (.da d)) rest ρ' (kk d))
    (hi0 : i < ρ.length := by simp) (c : vsC N sc (fun _ => true) i x = true := by decide +kernel) (sw : swC scope sc x py.line pos.line = true := by decide +kernel) (ok : blkC N sc scope own = true := by decide +kernel) (hv : own.map (·.2) = vs := by rfl) (hs : ∀ x, foldedSetIterable iter X.env x = pure x := by intro _; rfl) :
    BS X W ρ (.Assign [.Name x py] (.ListComp elt [⟨tg, iter, ifs, 0⟩] scope pos) spos :: rest) ρ' ((lcV take mi mt me).bind kk) := by
  unfold swC at sw
  simp only [Bool.and_eq_true, decide_eq_true_eq, Bool.not_eq_true'] at sw
  obtain ⟨⟨⟨s1, s2⟩, s3⟩, s4⟩ := sw
  have hk : X.env.scope.kind = .function := by
    rw [z.y.s]
    split at s1
    · assumption
    · cases s1
  have hl : X.env.scope.names.lookup x = some .local := by rw [z.y.s]; exact s2
  refine bs_setLc z.y.c (vs_of z.y.n z.y.s z.y.f c) hl hi0 (sw_true hk hl s3 s4) hi (by have := blkOk_by ok; rw [← z.y.n, ← z.y.s] at this; exact this) hv (fun s H C cl fp => hg _ (z.y.blk s H scope C cl fp)) (fun s H C cl fp c => ht _ (z.y.blk s H scope C cl fp) c) (fun s H C cl fp c => he _ (z.y.blk s H scope C cl fp) c) hr hs
theorem s_expr {m : Rs D} {kk : D → Rs (Out β)} (h : EV X W b ρ e m) (hr : ∀ d, BS X W ρ rest ρ' (kk d)) (hs : swapsWith e none pos.line X.env = pure false := by rfl) : BS X W ρ (.Expr e pos :: rest) ρ' (m.bind kk) := bs_expr h hr hs
theorem s_if {c : Expr} {a b : List Stmt} {mc : Rs Bool} {ma mb : Rs (Out α)} (ρ1 : α → List Sl) {kk : α → Rs (Out β)} (hc : ET X W ρ c mc) (ha : BS X W ρ a ρ1 ma) (hb : BS X W ρ b ρ1 mb) (hr : ∀ x, BS X W (ρ1 x) rest ρ' (kk x)) (hl : ∀ x, (ρ1 x).length = ρ.length := by intro _; rfl) :
    BS X W ρ (.If c a b pos :: rest) ρ' (ifS mc ma mb kk) := bs_if hc ha hb hl hr
theorem s_for (z : DZ U N sc k X W) {tg : Expr} {vs : List Nat} {mi : Rs (List D)} {take : D → Option γ} {mb : α → γ → Rs (Out α)} (ρL : α → List Sl) {ρt : α → γ → List Sl} {a0 : α} {kk : α → Rs (Out β)}
    (hi : EI X W ρ tg e mi) (hg : TgOk X tg vs ρL take ρt) (hb : ∀ a c, BS X W (ρt a c) body ρL (mb a c)) (h0 : SlsLe ρ (ρL a0)) (hr : ∀ a, BS X W (ρL a) rest ρ' (kk a)) (hl : ∀ a, (ρL a).length = ρ.length := by intro _; rfl) (hs : ∀ x, foldedSetIterable e X.env x = pure x := by intro _; rfl) :
    BS X W ρ (.For tg e body [] pos :: rest) ρ' (forS take mi a0 mb kk) := bs_for z.hp z.y.c hi hg hb hl h0 hr hs
/-- a, b = e -/
theorem s_up {tg : Expr} {vs : List Nat} {take : D → Option γ} {ρt : Unit → γ → List Sl} {m : Rs D} {kk : γ → Rs (Out β)} (hg : TgOk X tg vs (fun _ : Unit => ρ) take ρt) (h : EV X W false ρ e m) (hr : ∀ c, BS X W (ρt () c) rest ρ' (kk c)) (hl : ∀ c, (ρt () c).length = ρ.length := by intro _; rfl)
    (hs : swapsWithSole [tg] e pos.line X.env = pure false := by rfl) (hw : swappedStores [tg] e X.env = pure none := by rfl) (h1 : (assignEach [tg] X.env).map (·.2) = [assign tg X.env] := by rfl) : BS X W ρ (.Assign [tg] e pos :: rest) ρ' (upS take m kk) := by
  have rest_ok : PSs X rest (rAny X W (ρt ()) ρ' kk) := ⟨fun pins s σ H D I ⟨x, F, G, S, q⟩ => (hr x).run pins s σ H D I ⟨F, G, S, q⟩⟩
  refine PSs.imp (pss_cons (ps_asg h hg hs hw h1) rest_ok) fun D σ H ⟨F, G, S, q⟩ => ⟨F, G, S, ?_⟩
  cases m with
  | ok d =>
    intro v F' H' x r
    have q1 : DenS X W (took (take d) kk) ρ' F G σ.length D := q
    cases ht : take d with
    | some c =>
      rw [ht] at q1
      refine ⟨(), c, F', G, d, ht, S.mono x, r, fun σ' l w S' => ⟨c, F', G, S', ?_⟩⟩
      rw [l]
      exact (show DenS X W (kk c) ρ' F G σ.length D from q1).gr (x.gr S.gh)
    | none => rw [ht] at q1; exact (show False from q1).elim
  | exc c => exact fun v H' c' s => (show DenS X W (.exc c) ρ' F G σ.length D from q) v σ H' c' (S.fh.sub.trans s) (S.gh.trans s) rfl
  | stuck => exact q
theorem s_raise (z : DZ U N sc k X W) {ns : List Str} {m : Str} {i : Nat} {p3 : Pos} (T : ExT U.K U.mg ns) (hx : x ∈ ns := by decide +kernel) (c : gnC sc x = true := by decide +kernel) : BS X W ρ (.Raise (some (.Call (.Name x p1) [.Constant (.str m) i p2] [] p3)) none pos :: rest) ρ' (.exc x) :=
  bs_raise (by rw [z.y.eK, z.y.eM]; exact T) hx z.y.c z.y.tk (gn_of z.y.s c)
def FnRf (U : Un) (k : Nat) (x : Str) (ns : List Str) (g : Str → Rs D) : Prop := FnR U.P U.w U.K U.mg U.base k x ns g
def tryS {α β : Type} (ns : List Str) (g : Str → Rs D) (m : Rs (Out α)) (kk : α → Rs (Out β)) : Rs (Out β) := (m.catch ns g).seq kk
theorem s_try (z : DZ U N sc k X W) (i : Nat) {ns : List Str} {n : Str} {g : Str → Rs D} (ρ1 : α → List Sl) {mb : Rs (Out α)} {kk : α → Rs (Out β)} {p3 p4 p5 : Pos} (T : ExT U.K U.mg ns) (R : FnRf U j x ns g)
    (hb : ∀ Y W', DZ U N sc k Y W' → BS Y W' ρ body ρ1 mb) (hR : ∀ a, BS X W (ρ1 a) rest ρ' (kk a)) (hj : j ≤ k := by omega) (hi : i < ρ.length := by simp) (hl : ∀ a, (ρ1 a).length = ρ.length := by intro _; rfl)
    (c : gnC sc x = true := by decide +kernel) (cw : gnC sc "WordError" = true := by decide +kernel) (cv : vaC N sc i n = true := by decide +kernel) (cl : sc.names.lookup n = some .local := by decide +kernel) (he : starEach [.Name n p2] X.env = [(false, eval (.Name n p2) X.env)] := by rfl) :
    BS X W ρ (.Try body [.ExceptHandler (some (.Name "WordError" p1)) (some n) [.Return (some (.Call (.Name x p3) [.Name n p2] [] p4)) p5] pos'] [] [] pos :: rest) ρ' (tryS ns g mb kk) := by
  have R' : FnR X.prog X.w X.K X.mg X.base k x ns g := by rw [z.y.eP, z.y.eW, z.y.eK, z.y.eM, z.y.eB]; exact FnR.mono R hj
  exact bs_try z.stk z.fr z.y.nd (by rw [z.y.eK, z.y.eM]; exact T) z.y.tk R' z.y.hr (gn_of z.y.s c) (gn_of z.y.s cw) (va_of z.y.n z.y.s cv) (by unfold Env.kindOf; rw [z.y.s]; exact cl) hi hl (fun W' pn xe t p => hb _ W' (z.tr t p)) hR he
end
/-! ### defs -/
theorem law_def {U : Un} {x : Str} {st : Stmt} {f : Addr} {fd : FuncData} {N ps : List Str} {k n : Nat} {g : List D → Rs D} (nb : NoB U) (F : Fun U.K x x st f fd) (S : FnScope N ps (defScope st)) (hn : ps.length = n)
    (body : ∀ (X : Cx) (W : WX), DZ U N (defScope st) k X W → ∀ ds : List D, ds.length = n → ∃ (α : Type) (ρ' : α → List Sl) (m : Rs (Out α)), m.fin = g ds ∧ BS X W (slots0 N ds) (defBody st) ρ' m) : FnOk U.P U.w U.K U.mg U.base (L2N.CX U.P U.w) (k + 1) f fd ps (spP U.mg n g) :=
  fnok_of F S hn fun X W h1 h2 h3 h4 h5 d ds hl => body X W ⟨⟨h1, h2, h3, h4, h5, d.n, d.s, d.f, d.c, d.tk, d.hr, d.nd, nb⟩, d.hp, d.stk, d.fr⟩ ds hl
theorem fn_def {U : Un} {x : Str} {st : Stmt} {f : Addr} {fd : FuncData} {N ps : List Str} {k n : Nat} {g : List D → Rs D} (nb : NoB U) (F : Fun U.K x x st f fd) (S : FnScope N ps (defScope st)) (hm : U.mg x = some (.ref f)) (hb : Binds U.K fd ps []) (hn : ps.length = n)
    (body : ∀ (X : Cx) (W : WX), DZ U N (defScope st) k X W → ∀ ds : List D, ds.length = n → ∃ (α : Type) (ρ' : α → List Sl) (m : Rs (Out α)), m.fin = g ds ∧ BS X W (slots0 N ds) (defBody st) ρ' m) : Fn U (k + 1) x n g :=
  cal_of F S hm hb hn fun X W h1 h2 h3 h4 h5 d ds hl => body X W ⟨⟨h1, h2, h3, h4, h5, d.n, d.s, d.f, d.c, d.tk, d.hr, d.nd, nb⟩, d.hp, d.stk, d.fr⟩ ds hl
/-! ### the def that reads what was caught -/
structure DH (U : Un) (N : List Str) (sc : Scope) (c : Str) (p : Addr × Obj) (X : Cx) : Prop where
  eK : X.K = U.K
  eM : X.mg = U.mg
  h : DXH N sc c p X
  nb : NoB U
section
variable {U : Un} {N : List Str} {sc : Scope} {c : Str} {p : Addr × Obj} {X : Cx} {W : WX} {b : Bool} {ρ : List Sl} {e : Expr} {pos pos' p1 p2 p3 : Pos} {x n : Str} {β : Type} {ρ' : β → List Sl} {rest : List Stmt} {ns : List Str}
theorem DH.rm (y : DH U N sc c p X) : Rm X := y.h.rm
theorem h_var (y : DH U N sc c p X) (i : Nat) {d : D} (h : ρ[i]? = some (.da d)) (c : vaC N sc i x = true := by decide +kernel) : EV X W b ρ (.Name x pos) (.ok d) := ev_var (va_of y.h.n y.h.s c) h
theorem h_set (y : DH U N sc c p X) (i : Nat) {m : Rs D} {kk : D → Rs (Out β)} (h : EV X W false ρ e m) (hr : ∀ d, BS X W (ρ.set i (.da d)) rest ρ' (kk d)) (hi : i < ρ.length := by simp) (c : vsC N sc (fun _ => true) i x = true := by decide +kernel)
    (hs : swapsWith e (some (.Name x pos')) pos.line X.env = pure false := by rfl) : BS X W ρ (.Assign [.Name x pos'] e pos :: rest) ρ' (m.bind kk) := bs_set (vs_of y.h.n y.h.s y.h.f c) hi h hr hs
theorem h_isE (y : DH U N sc c p X) (i : Nat) (T : ExT U.K U.mg ns) (hc : c ∈ ns) (h : ρ[i]? = some (.ex p.1)) (hx : x ∈ ns := by decide +kernel) (c1 : vaC N sc i n = true := by decide +kernel) (c2 : gnC sc x = true := by decide +kernel) (c3 : gnC sc "isinstance" = true := by decide +kernel)
    (he : starEach [.Name n p2, .Name x p3] X.env = [(false, eval (.Name n p2) X.env), (false, eval (.Name x p3) X.env)] := by rfl) (he2 : starEach [.Name x p3] X.env = [(false, eval (.Name x p3) X.env)] := by rfl) :
    EV X W b ρ (.Call (.Name "isinstance" p1) [.Name n p2, .Name x p3] [] pos) (.ok (.bool (decide (c = x)))) :=
  ev_isE y.h (by rw [y.eK, y.eM]; exact T) hc hx (bn_of y.h.s c3 (by rw [y.eM]; exact y.nb _ (by decide +kernel)) (by decide +kernel)) (va_of y.h.n y.h.s c1) h (gn_of y.h.s c2) he he2
theorem h_isVE (y : DH U N sc c p X) (i : Nat) (T : ExT U.K U.mg ns) (hc : c ∈ ns) (h : ρ[i]? = some (.ex p.1)) (c1 : vaC N sc i n = true := by decide +kernel) (c2 : gnC sc "ValueError" = true := by decide +kernel) (c3 : gnC sc "isinstance" = true := by decide +kernel)
    (he : starEach [.Name n p2, .Name "ValueError" p3] X.env = [(false, eval (.Name n p2) X.env), (false, eval (.Name "ValueError" p3) X.env)] := by rfl) (he2 : starEach [.Name "ValueError" p3] X.env = [(false, eval (.Name "ValueError" p3) X.env)] := by rfl) :
    EV X W b ρ (.Call (.Name "isinstance" p1) [.Name n p2, .Name "ValueError" p3] [] pos) (.ok (.bool true)) :=
  ev_isVE y.h (by rw [y.eK, y.eM]; exact T) hc (bn_of y.h.s c3 (by rw [y.eM]; exact y.nb _ (by decide +kernel)) (by decide +kernel)) (bn_of y.h.s c2 (by rw [y.eM]; exact y.nb _ (by decide +kernel)) (by decide +kernel)) (va_of y.h.n y.h.s c1) h he he2
end
theorem fnR_def {U : Un} {x : Str} {st : Stmt} {f : Addr} {fd : FuncData} {N ps : List Str} {k : Nat} {ns : List Str} {g : Str → Rs D} (nb : NoB U) (F0 : Fun U.K x x st f fd) (S : FnScope N ps (defScope st)) (hm : U.mg x = some (.ref f)) (hb : Binds U.K fd ps []) (hn : ps.length = 1)
    (body : ∀ (X : Cx) (c : Str) (p : Addr × Obj), c ∈ ns → DH U N (defScope st) c p X → ∃ (α : Type) (ρ' : α → List Sl) (m : Rs (Out α)), m.fin = g c ∧ BS X W0 (.ex p.1 :: List.replicate (N.length - 1) .no) (defBody st) ρ' m) :
    FnRf U (k + 1) x ns g := fnR_of F0 S hm hb hn fun X c p hc h1 h2 h3 h4 h5 d => body X c p hc ⟨h3, h4, d, nb⟩
end Pu

/-! The pure layer, part 11: the law itself. -/
namespace Pu
open PySem PySem.Spec
open PyProof.Rows L2

/-- no list stands in the written part -/
def noLst (K : PySem.W.Frag) : Bool := K.all fun p => match p.2.cls with
  | .type n => !(n == "list")
  | _ => true
theorem lookup_mem {κ β : Type} [BEq κ] [LawfulBEq κ] {a : κ} {b : β} : ∀ {l : List (κ × β)}, l.lookup a = some b → (a, b) ∈ l
  | (c, d) :: l, h => by
    unfold List.lookup at h
    cases e : a == c with
    | true => rw [e] at h; cases h; rw [eq_of_beq e]; exact List.mem_cons_self
    | false => rw [e] at h; exact List.mem_cons_of_mem _ (lookup_mem h)
theorem noLst_at {K : PySem.W.Frag} (h : noLst K = true) {a : Addr} {o : Obj} (e : K.lookup a = some o) : o.cls ≠ .type "list" := fun z => by
  have q := List.all_eq_true.mp h (a, o) (lookup_mem e)
  rw [z] at q
  exact absurd q (by decide)
/-- the law's promise -/
def spL (K : PySem.W.Frag) : Sp := fun vs H Q _ => ∃ (a : Addr) (ns : List Int), vs = [.ref a] ∧ Only H ∧ SqL K H a (ns.map V.int) ∧ ns.length ≤ 63 ∧ ∀ H', Q (.bl true) H'
theorem rp_ofInts {F : Hp} : ∀ ns : List Int, RpA F (ns.map V.int) (ns.map PyData.int)
  | [] => .nil
  | _ :: ns => .cons (.int _) (rp_ofInts ns)
theorem law_ok {P : Program} {w : World} {K : PySem.W.Frag} {mg : Str → Option Value} {base : Heap} {k : Nat} {f : Addr} {fd : FuncData} {ps : List Str} {g : List D → Rs D} (h : FnOk P w K mg base (L2N.CX P w) k f fd ps (spP mg 1 g)) (hp : ps.length = 1) (nl : noLst K = true)
    (law : ∀ ns : List Int, ns.length ≤ 63 → g [.list (ns.map .int)] = .ok (.bool true)) : FnOk P w K mg base (L2N.CX P w) k f fd ps (spL K) := by
  have imp : ∀ vs H Q E, spL K vs H Q E → spP mg 1 g vs H Q E := fun vs H Q E ⟨a, ns, e, hO, hS, hl, q⟩ => by
    subst e
    have hR : Rd H a (.lst (ns.map V.int)) := by
      rcases hS with hS | ⟨o, its, n, h1, h2, _⟩
      · exact hS
      · exact absurd h2 (noLst_at nl h1)
    have fh : FH H H := ⟨.refl _, fun _ _ z => z, fun b u z => by
      rcases hO b with q | ⟨o, xs, q⟩
      · rw [q] at z; cases z
      · rw [q] at z; cases z; rfl⟩
    refine ⟨rfl, H, H, [.list (ns.map .int)], fh, .refl _, .cons (.lst hR ?_ (rp_ofInts ns)) .nil, ?_⟩
    · rw [List.length_map, sizeLine_eq]; omega
    · rw [law ns hl]
      intro v F' H' _ _ _ _ r
      rw [inv_b r]
      exact q H'
  exact ⟨fun vs H Q E z => by obtain ⟨a, ns, e, _⟩ := z; rw [e, hp]; rfl, fun A outer s H args us vs Q E hr e0 hb r z => h.run A outer s H args us vs Q E hr e0 hb r (imp _ _ _ _ z)⟩
theorem nob_of {K : PySem.W.Frag} {h : Heap} {mg : Str → Option Value} (X : K.In h) (G : h.Ns mainGlobals mg) (e : (bNames.all fun x => PySem.W.nsIn K mainGlobals x == some none) = true) : ∀ x ∈ bNames, mg x = none := fun x hx =>
  PySem.W.mg_none_of X G (by simpa using List.all_eq_true.mp e x hx)
theorem noX {P : Program} {w : World} {H : Hp} {s s' : Shared} {e : Value} (h : L2N.CX P w [] H s (fun _ _ _ => False) e s') : False := by
  obtain ⟨_, _, _, _, _, _, _, _, _, _, _, _, no⟩ := h
  exact no
theorem walkL {l : PySem.W.OpenLaw} {q : Program} {loose : List Str} {XP : (Str → Option Value) → Heap → Prop} {YP : World → Heap → Prop} {d : DefRec} {K : Params → PySem.W.Frag} {k : Nat} {x : Str} (hn : l.most = some 63) (hdf : d.params.defaults = [])
    (hr : Room k callerA) (hY : ∀ (w : World) (h : Heap), YP w h → (K w.params).In h)
    (F : ∀ (w : World) (mg : Str → Option Value) (fa : Addr) (h : Heap), (K w.params).In h → h.Ns mainGlobals mg → mg d.name = some (.ref fa) → ∃ fd : FuncData, (∀ (s : Shared) (u : Value), BindsTo s fd ⟨[u], []⟩ [(x, u)]) ∧ ∀ base : Heap, (K w.params).In base → base.Ns mainGlobals mg → FnOk l.prog w (K w.params) mg base (L2N.CX l.prog w) k fa fd [x] (spL (K w.params))) :
    PySem.W.WalkO q loose XP YP l.row.toRowW d [] (fun g us => PySem.call g us) :=
  L2.walk_of (n := 63) (k := k) (x := x) (CX := fun w => L2N.CX l.prog w) (sp := fun w => spL (K w.params)) hn (by decide) hdf hr hY F (fun _ H a ns hl hO hS => ⟨a, ns, rfl, hO, hS, hl, fun _ => rfl⟩) fun _ _ _ _ _ z => noX z
end Pu

/-! The pure layer, part 12: while; lists of one's own. -/
namespace Pu
open PySem PySem.Spec
open PyProof.Rows L2

/-- a loop by a test, with so many turns at the most -/
def whileM {α : Type} (t : α → Rs Bool) (b : α → Rs (Out α)) : Nat → α → Rs (Out α)
  | 0, _ => .stuck
  | n + 1, a => (t a).bind fun c => if c = true then (b a).seq (whileM t b n) else .ok (.nx a)
def whileS {α β : Type} (n : Nat) (a0 : α) (t : α → Rs Bool) (b : α → Rs (Out α)) (k : α → Rs (Out β)) : Rs (Out β) := (whileM t b n a0).seq k
section
variable {U : Un} {N : List Str} {sc : Scope} {k j : Nat} {X : Cx} {W : WX} {b : Bool} {ρ : List Sl} {c e : Expr} {pos pos' p1 p2 p3 : Pos} {x : Str} {α β : Type} {ρ' : β → List Sl} {rest body : List Stmt}
def rT2 {α : Type} (X : Cx) (W : WX) (ρL : α → List Sl) (mt : α → Rs Bool) : TT := fun σ H Q => ∃ (a : α) (F G : Hp), Ste F G H σ (ρL a) ∧ DenT X W (mt a) F H σ Q
def rB2 {α : Type} (X : Cx) (W : WX) (ρL : α → List Sl) (mb : α → Rs (Out α)) : TS := fun D σ H => ∃ (a : α) (F G : Hp), Ste F G H σ (ρL a) ∧ DenS X W (mb a) ρL F G σ.length D
theorem s_while (z : DZ U N sc k X W) (ρL : α → List Sl) (n : Nat) {mt : α → Rs Bool} {mb : α → Rs (Out α)} {a0 : α} {kk : α → Rs (Out β)} (hc : ∀ a, ET X W (ρL a) c (mt a)) (hb : ∀ a, BS X W (ρL a) body ρL (mb a)) (h0 : SlsLe ρ (ρL a0)) (hr : ∀ a, BS X W (ρL a) rest ρ' (kk a))
    (hl : ∀ a, (ρL a).length = ρ.length := by intro _; rfl) : BS X W ρ (.While c body [] pos :: rest) ρ' (whileS n a0 mt mb kk) := by
  have rest_ok : PSs X rest (rAny X W ρL ρ' kk) := ⟨fun pins s σ H D I ⟨x, F, G, S, q⟩ => (hr x).run pins s σ H D I ⟨F, G, S, q⟩⟩
  have test_ok : PT X c (rT2 X W ρL mt) := ⟨fun pins s σ H Q I ⟨a, F, G, S, q⟩ => (hc a).run pins s σ H Q I ⟨F, G, S, q⟩⟩
  have body_ok : PSs X body (rB2 X W ρL mb) := ⟨fun pins s σ H D I ⟨a, F, G, S, q⟩ => (hb a).run pins s σ H D I ⟨F, G, S, q⟩⟩
  refine PSs.imp (pss_cons (ps_while z.hp test_ok body_ok) rest_ok) fun D σ H ⟨F, G, S, q⟩ => ?_
  have lenL : ∀ {a : α} {F1 H1 : Hp} {σ' : L2.St}, Ste F1 G H1 σ' (ρL a) → σ'.length = σ.length := fun {a} {_} {_} {_} S' => by rw [S'.len, hl, ← S.len]
  refine ⟨fun m σ' H' => ∃ a F1, Ste F1 G H' σ' (ρL a) ∧ DenS X W ((whileM mt mb m a).seq kk) ρ' F1 G σ.length D, ⟨n, a0, F, S.weak h0, q⟩, ?_⟩
  rintro m σ1 H1 ⟨a, F1, S1, q1⟩
  cases m with
  | zero => exact (show False from q1).elim
  | succ m =>
    refine ⟨a, F1, G, S1, ?_⟩
    have q2 : DenS X W (((mt a).bind fun c => if c = true then (mb a).seq (whileM mt mb m) else .ok (.nx a)).seq kk) ρ' F1 G σ.length D := q1
    cases et : mt a with
    | exc cc =>
      rw [et] at q2
      exact fun v H' q' s => (show DenS X W (.exc cc) ρ' F1 G σ.length D from q2) v σ1 H' q' (S1.fh.sub.trans s) (S1.gh.trans s) (lenL S1)
    | stuck => rw [et] at q2; exact (show False from q2).elim
    | ok cc =>
      rw [et] at q2
      intro F2 H2 x2
      have S2 := S1.mono x2
      cases cc with
      | false =>
        refine iteF ?_
        exact ⟨a, F2, G, S2, by rw [lenL S2]; exact (show DenS X W (kk a) ρ' F1 G σ.length D from q2).gr (x2.gr S1.gh)⟩
      | true =>
        refine iteT ?_
        refine ⟨fun σ' H' => ∃ a F1, Ste F1 G H' σ' (ρL a) ∧ DenS X W ((whileM mt mb m a).seq kk) ρ' F1 G σ.length D, fun σ' H' hn => ⟨m, Nat.lt_succ_self m, hn⟩, a, F2, G, S2, ?_⟩
        have q3 : DenS X W (((mb a).seq (whileM mt mb m)).seq kk) ρ' F1 G σ.length D := q2
        have q4 := q3.gr (x2.gr S1.gh)
        rw [lenL S2]
        cases em : mb a with
        | ok o =>
          rw [em] at q4
          cases o with
          | nx a2 => exact fun σ' F' H' g S' => ⟨a2, F', S', (show DenS X W ((whileM mt mb m a2).seq kk) ρ' F2 G σ.length D from q4).gr g⟩
          | ret d => exact q4
        | exc c2 => rw [em] at q4; exact q4
        | stuck => rw [em] at q4; exact (show False from q4).elim
/-! ### lists of one's own -/
theorem Ste.newOwn {F G H : Hp} {σ : L2.St} {ρ : List Sl} {i : Nat} {p : Addr} {o : HO} {s : Sl} (S : Ste F G H σ ρ) (hi : i < ρ.length) (hp : H p = none) (ho : owns s = true) (nt : ∀ xs, o ≠ .tup xs) (new : OwnAt F (upd H p o) p s) : Ste F G (upd H p o) (σ.set i (some (.ref p))) (ρ.set i s) := by
  have pF : F p = none := S.fh.none hp
  have pG : G p = none := S.gh.free hp
  have S1 : Ste F G (upd H p o) σ ρ := by
    refine ⟨⟨fun b u e => by rw [upd_ne (ne_of_none e pF)]; exact S.fh.sub b u e, fun b xs e => ?_, S.fh.nd⟩, fun b u e => by rw [upd_ne (ne_of_none e pG)]; exact S.gh b u e, S.len, fun j t e => ?_, S.dis⟩
    · by_cases hb : b = p
      · subst hb; rw [upd_same] at e; cases e; exact absurd rfl (nt xs)
      · rw [upd_ne hb] at e; exact S.fh.tup b xs e
    · have q := S.sl j t e
      have keep : ∀ {a : Addr} {t : Sl}, owns t = true → OwnAt F H a t → OwnAt F (upd H p o) a t := fun {a} {t} ot w => by
        have hne : a ≠ p := fun z => by
          have := w.there ot
          rw [z, hp] at this
          exact this rfl
        cases t with
        | no => cases ot
        | da _ => cases ot
        | ex _ => cases ot
        | ol _ => obtain ⟨xs, h, r⟩ := w; exact ⟨xs, by rw [upd_ne hne]; exact h, r⟩
        | ok _ => obtain ⟨xs, h, r⟩ := w; exact ⟨xs, by rw [upd_ne hne]; exact h, r⟩
        | ot _ => obtain ⟨xs, h, r⟩ := w; exact ⟨xs, by rw [upd_ne hne]; exact h, r⟩
      cases t with
      | no => trivial
      | da _ => exact q
      | ex _ => exact q
      | ol _ => obtain ⟨a, e, f, g, w⟩ := q; exact ⟨a, e, f, g, keep rfl w⟩
      | ok _ => obtain ⟨a, e, f, g, w⟩ := q; exact ⟨a, e, f, g, keep rfl w⟩
      | ot _ => obtain ⟨a, e, f, g, w⟩ := q; exact ⟨a, e, f, g, keep rfl w⟩
  have hσ : (σ.set i (some (.ref p)))[i]? = some (some (V.ref p)) := List.getElem?_set_self (by rw [S.len]; exact hi)
  refine S1.setG hi ?_ fun _ jj t a hj e ot ea z => ?_
  · cases s with
    | no => cases ho
    | da _ => cases ho
    | ex _ => cases ho
    | ol _ => exact ⟨p, hσ, pF, pG, new⟩
    | ok _ => exact ⟨p, hσ, pF, pG, new⟩
    | ot _ => exact ⟨p, hσ, pF, pG, new⟩
  · have q := S.sl jj t e
    cases z
    cases t with
    | no => cases ot
    | da _ => cases ot
    | ex _ => cases ot
    | ol _ => obtain ⟨a, e1, f, g, w⟩ := q; rw [ea] at e1; cases e1; exact w.there rfl hp
    | ok _ => obtain ⟨a, e1, f, g, w⟩ := q; rw [ea] at e1; cases e1; exact w.there rfl hp
    | ot _ => obtain ⟨a, e1, f, g, w⟩ := q; rw [ea] at e1; cases e1; exact w.there rfl hp
/-- x = [a, b, ..], x to be changed -/
theorem s_newL (z : DZ U N sc k X W) (i : Nat) {es : List Expr} {m : Rs (List D)} {kk : List D → Rs (Out β)} (h : EAs X W false ρ es m) (hr : ∀ ds, BS X W (ρ.set i (.ol ds)) rest ρ' (kk ds)) (hi : i < ρ.length := by simp) (cx : vsC N sc (fun _ => true) i x = true := by decide +kernel) (hz : es.length ≤ sizeLine := by decide)
    (hs : swapsWith (.List es p1) (some (.Name x pos')) pos.line X.env = pure false := by rfl) : BS X W ρ (.Assign [.Name x pos'] (.List es p1) pos :: rest) ρ' (m.bind kk) := by
  have hx := vs_of z.y.n z.y.s z.y.f cx
  cases m with
  | ok ds =>
    refine PSs.imp (pss_cons (ps_set hx.nd hx.n hx.l (pe_lst h.run) hs hx.f) (hr ds)) fun D σ H ⟨F, G, S, q⟩ => ⟨F, G, S, ?_⟩
    intro vs F' H' x1 r
    have hzz : vs.length ≤ sizeLine := by rw [RpA.length r, h.len _ rfl]; exact hz
    refine ⟨hzz, fun p hp => ?_⟩
    have S1 := S.mono x1
    refine ⟨F', G, S1.newOwn hi hp rfl (fun _ z => by cases z) ⟨vs, upd_same, hzz, r⟩, ?_⟩
    rw [setlen]
    exact (show DenS X W (kk ds) ρ' F G σ.length D from q).gr (x1.gr S.gh)
  | exc c =>
    refine PSs.imp (pss_cons (ps_set hx.nd hx.n hx.l (pe_lst h.run) hs hx.f) pss_never) fun D σ H ⟨F, G, S, q⟩ => ⟨F, G, S, ?_⟩
    exact fun v H' c s => (show DenS X W (.exc _) ρ' F G σ.length D from q) v σ H' c (S.fh.sub.trans s) (S.gh.trans s) rfl
  | stuck => exact PSs.imp pss_never fun D σ H ⟨F, G, S, q⟩ => q
/-- as many as may be in a list -/
def capL {γ : Type} (n : Nat) (m : Rs γ) : Rs γ := if n ≤ 16000000 then m else .stuck
theorem capL_ok {γ : Type} {n : Nat} {m : Rs γ} (h : n ≤ 16000000) : capL n m = m := if_pos h
/-- from here on the list of slot i is not changed any more -/
theorem s_frzL (i : Nat) {ds : List D} {sts : List Stmt} {m : Rs (Out β)} (hs : ρ[i]? = some (.ol ds)) (h : BS X W (ρ.set i (.da (.list ds))) sts ρ' m) : BS X W ρ sts ρ' m :=
  PSs.imp h fun D σ H ⟨F, G, S, q⟩ => by
    obtain ⟨a, e, f, g, xs, h1, z1, r1⟩ := S.sl i _ hs
    have gr : Gr G F (upd F a (.lst xs)) := .fresh f g
    exact ⟨_, G, S.freeze hs rfl e f g h1 (.lst (.inl upd_same) z1 (r1.mono gr.f)), q.gr gr⟩
/-- x.append(e) -/
theorem s_app (z : DZ U N sc k X W) (i : Nat) {ds : List D} {m : Rs D} {kk : D → Rs (Out β)} (hs : ρ[i]? = some (.ol ds)) (h : EV X W false ρ e m) (hr : ∀ d, BS X W (ρ.set i (.ol (ds ++ [d]))) rest ρ' (kk d)) (cx : vaC N sc i x = true := by decide +kernel)
    (hb : attributeBase (.Name x p1) "append" X.env (eval (.Name x p1) X.env) = eval (.Name x p1) X.env := by rfl)
    (hfew : ((backTo p3 (starEach [e] X.env)).all (fun x => !x.1) && (backToKw p3 (keywordEach [] X.env)).all (fun x => x.1.isSome) && decide ([e].length + ([] : List Keyword).length + (if ([] : List Keyword).isEmpty then 0 else 1) < 30)) = true := by rfl)
    (hln : (p2.endLine == p3.line) = true := by rfl) (he : starEach [e] X.env = (false, eval e X.env) :: starEach [] X.env := by rfl) (hpl : (backTo p3 (starEach [] X.env)).any (·.1) = false := by rfl)
    (hsw : swapsWith (.Call (.Attribute (.Name x p1) "append" p2) [e] [] p3) none pos.line X.env = pure false := by rfl) :
    BS X W ρ (.Expr (.Call (.Attribute (.Name x p1) "append" p2) [e] [] p3) pos :: rest) ρ' (m.bind fun d => capL ds.length (kk d)) := by
  have hv := va_of z.y.n z.y.s cx
  have st := ps_expr (X := X) (pos := pos) (pe_bm (X := X) PySem.F.plainAttrs_list PySem.F.slot_list_append PySem.F.type_list_append mt_append (pe_var hv.n hv.v hv.d hv.c) (pa_cons h pa_nil he) hb hfew hln he hpl) hsw
  have hi : i < ρ.length := (List.getElem?_eq_some_iff.mp hs).1
  cases m with
  | ok d =>
    by_cases hcap : ds.length ≤ 16000000
    · refine PSs.imp (pss_cons st (hr d)) fun D σ H ⟨F, G, S, q⟩ => ?_
      obtain ⟨a, e1, f1, g1, xs, h1, z1, r1⟩ := S.sl i _ hs
      refine ⟨.ref a, e1, .inl ⟨rfl, xs, .inl (.inl h1)⟩, F, G, S, fun v F' H' x1 r => ?_⟩
      have q1 : DenS X W (kk d) ρ' F G σ.length D := by
        have q2 : DenS X W (capL ds.length (kk d)) ρ' F G σ.length D := q
        rw [capL_ok hcap] at q2; exact q2
      have S1 := S.mono x1
      have hxl : xs.length ≤ 16000000 := by rw [r1.length]; exact hcap
      have f2 : F' a = none := x1.keepNone f1 (by rw [h1]; intro zz; cases zz)
      refine ⟨a, xs, v, rfl, rfl, x1.h _ _ h1, by rw [sizeLine_eq]; omega, F', G, ?_, q1.gr (x1.gr S.gh)⟩
      exact S1.own hs rfl e1 f2 g1 rfl (fun _ zz => by cases zz) ⟨xs ++ [v], upd_same, by rw [List.length_append, sizeLine_eq]; simp; omega, (r1.mono x1.f).snoc r⟩
    · refine PSs.imp pss_never fun D σ H ⟨F, G, S, q⟩ => ?_
      have q2 : DenS X W (capL ds.length (kk d)) ρ' F G σ.length D := q
      unfold capL at q2
      rw [if_neg hcap] at q2
      exact (show False from q2).elim
  | exc c =>
    refine PSs.imp (pss_cons st pss_never) fun D σ H ⟨F, G, S, q⟩ => ?_
    obtain ⟨a, e1, f1, g1, xs, h1, z1, r1⟩ := S.sl i _ hs
    exact ⟨.ref a, e1, .inl ⟨rfl, xs, .inl (.inl h1)⟩, F, G, S, fun v H' c s => (show DenS X W (.exc _) ρ' F G σ.length D from q) v σ H' c (S.fh.sub.trans s) (S.gh.trans s) rfl⟩
  | stuck => exact PSs.imp pss_never fun D σ H ⟨F, G, S, q⟩ => q
end
end Pu

/-! The pure layer, part 13: a def out of a list of defs. -/
namespace Pu
open PySem PySem.Spec
open PyProof.Rows L2

/-- the defs so called, each with its promise -/
inductive FnL (U : Un) (k n : Nat) : List Str → List (List D → Rs D) → Prop
  | nil : FnL U k n [] []
  | cons {j : Nat} {x : Str} {xs : List Str} {f : List D → Rs D} {fs : List (List D → Rs D)} (h : Fn U j x n f) (r : FnL U k n xs fs) (hj : j ≤ k := by omega) : FnL U k n (x :: xs) (f :: fs)
/-- a def at a -/
def FnAt (P : Program) (w : World) (K : PySem.W.Frag) (mg : Str → Option Value) (base : Heap) (k n : Nat) (a : Addr) (f : List D → Rs D) : Prop :=
  ∃ (fd : FuncData) (ps : List Str), PySem.W.keepIn K (.ref a) = true ∧ Binds K fd ps [] ∧ FnOk P w K mg base (L2N.CX P w) k a fd ps (spP mg n f)
inductive Ads (P : Program) (w : World) (K : PySem.W.Frag) (mg : Str → Option Value) (base : Heap) (k n : Nat) : List Addr → List (List D → Rs D) → Prop
  | nil : Ads P w K mg base k n [] []
  | cons {a : Addr} {as : List Addr} {f : List D → Rs D} {fs : List (List D → Rs D)} (h : FnAt P w K mg base k n a f) (r : Ads P w K mg base k n as fs) : Ads P w K mg base k n (a :: as) (f :: fs)
theorem Ads.get {P : Program} {w : World} {K : PySem.W.Frag} {mg : Str → Option Value} {base : Heap} {k n : Nat} : ∀ {as : List Addr} {fs : List (List D → Rs D)} {i : Nat} {f : List D → Rs D}, Ads P w K mg base k n as fs → fs[i]? = some f → ∃ a, as[i]? = some a ∧ FnAt P w K mg base k n a f
  | _, _, _, _, Ads.nil, e => by simp at e
  | _, _, 0, _, .cons h r, e => ⟨_, rfl, by rw [List.getElem?_cons_zero] at e; cases e; exact h⟩
  | _, _, i + 1, _, .cons h r, e => by
    obtain ⟨a, e1, h1⟩ := Ads.get (i := i) r (by rw [List.getElem?_cons_succ] at e; exact e)
    exact ⟨a, by rw [List.getElem?_cons_succ]; exact e1, h1⟩
theorem Ads.len {P : Program} {w : World} {K : PySem.W.Frag} {mg : Str → Option Value} {base : Heap} {k n : Nat} : ∀ {as : List Addr} {fs : List (List D → Rs D)}, Ads P w K mg base k n as fs → as.length = fs.length
  | _, _, .nil => rfl
  | _, _, .cons _ r => by rw [List.length_cons, List.length_cons, Ads.len r]
def fnV (fs : List (List D → Rs D)) (mi : Rs D) (ma : Rs (List D)) : Rs D := mi.bind fun d => match d with
  | .int i => (match atI fs i with
    | some f => ma.bind f
    | none => .stuck)
  | _ => .stuck
section
variable {U : Un} {N : List Str} {sc : Scope} {fn : Str → Bool} {k n : Nat} {X : Cx} {W : WX} {b : Bool} {ρ : List Sl} {e ei : Expr} {es : List Expr} {pos p1 p2 : Pos}
theorem ext_junk {F H : Hp} {p : Addr} {xs : List V} (x : FH F H) (hp : H p = none) : Ext F H F (upd H p (.lst xs)) :=
  ⟨.refl _, same_upd hp, ⟨fun b u e => by rw [upd_ne (ne_of_none e (x.none hp))]; exact x.sub b u e, fun b ys e => by
    by_cases hb : b = p
    · subst hb; rw [upd_same] at e; cases e
    · rw [upd_ne hb] at e; exact x.tup b ys e, x.nd⟩, fun a h h' => absurd h h'⟩
theorem pe_callV {fe : Expr} {tf : TE} {t : TA} (hf : PE X fe tf) (ha : PA X (e :: es) t) (hx : ∀ σ, PassesAt (L2N.CX X.prog X.w) X σ (WE W σ)) (hr : Room k X.A)
    (hev : eval (.Call fe (e :: es) [] pos) X.env = (do callWith pos (← eval fe X.env) [] (backTo pos (starEach (e :: es) X.env)) (backToKw pos (keywordEach [] X.env))) := by rfl)
    (he : starEach (e :: es) X.env = (false, eval e X.env) :: starEach es X.env := by rfl) (hp0 : (backTo pos (starEach es X.env)).any (·.1) = false := by rfl) :
    PE X (.Call fe (e :: es) [] pos) (fun σ H Q => tf σ H fun y H1 => ∃ a f, y = V.ref a ∧ FnAt X.prog X.w X.K X.mg X.base k n a f ∧ t σ H1 fun vs H2 => spP X.mg n f vs H2 Q (WE W σ)) := by
  constructor
  intro pins s σ H Q I h
  refine Call_ (thn (hf.run pins s σ H _ I h) fun u s1 ⟨y, H1, I1, ry, a, f, ey, ⟨fd, ps, hk, hb, F⟩, q⟩ => ?_) hev
  subst ey
  have hu : u = Value.ref a := ry
  subst hu
  refine PySem.W.callWith_K (h₀ := X.base) I.ok.mod.kin hk (thn (ha.run pos pins s1 σ H1 _ I1 q) fun us s2 ⟨vs, H2, I2, r, q2⟩ => ⟨I2.kIn, ?_⟩) he hp0
  exact run_fnS F hr hb (hx σ) I2 r q2
/-- the names of a list of defs -/
inductive Nms : List Expr → List Str → Prop
  | nil : Nms [] []
  | cons {x : Str} {p : Pos} {es : List Expr} {xs : List Str} (r : Nms es xs) : Nms (.Name x p :: es) (x :: xs)
theorem FnL.len : ∀ {xs : List Str} {fs : List (List D → Rs D)}, FnL U k n xs fs → fs.length = xs.length
  | _, _, .nil => rfl
  | _, _, .cons _ r _ => by rw [List.length_cons, List.length_cons, FnL.len r]
theorem Nms.len : ∀ {es : List Expr} {xs : List Str}, Nms es xs → es.length = xs.length
  | _, _, .nil => rfl
  | _, _, .cons r => by rw [List.length_cons, List.length_cons, Nms.len r]
def rRefs (X : Cx) (k n : Nat) (fs : List (List D → Rs D)) : TA := fun _ H Q => ∀ as, Ads X.prog X.w X.K X.mg X.base k n as fs → Q (as.map V.ref) H
theorem pa_refs (y : DY U N sc fn k X W) : ∀ {es : List Expr} {xs : List Str} {fs : List (List D → Rs D)}, Nms es xs → FnL U k n xs fs → (xs.all fun x => gnC sc x) = true → PA X es (rRefs X k n fs)
  | _, _, _, .nil, .nil, _ => PA.imp pa_nil fun σ H Q q => q [] .nil
  | _, _, _, .cons nm, .cons h r hj, c => by
    rw [List.all_cons, Bool.and_eq_true] at c
    obtain ⟨a, fd, ps, h1, h2, h3, h4⟩ := (y.calls h).mono hj
    have g := gn_of y.s c.1
    refine PA.imp (pa_cons (pe_glob (v := .ref a) g.g h1 rfl g.db) (pa_refs y nm r c.2) rfl) fun σ H Q q => ?_
    exact fun as A => q (a :: as) (.cons ⟨fd, ps, h2, h3, h4⟩ A)
theorem y_fnv (y : DY U N sc fn k X W) {ns : List Expr} {xs : List Str} {fs : List (List D → Rs D)} {mi : Rs D} {ma : Rs (List D)} (C : FnL U k n xs fs) (hi : EV X W true ρ ei mi) (h : EAs X W false ρ (e :: es) ma) (nm : Nms ns xs) (c : (xs.all fun x => gnC sc x) = true := by decide +kernel) (hn : (e :: es).length = n := by rfl)
    (hz : ns.length ≤ sizeLine := by decide) (hs : PlainIx ei := by intro _ _; rfl)
    (ht : eval (.Call (.Subscript (.List ns p1) ei p2) (e :: es) [] pos) X.env = (do callWith pos (← eval (.Subscript (.List ns p1) ei p2) X.env) [] (backTo pos (starEach (e :: es) X.env)) (backToKw pos (keywordEach [] X.env))) := by rfl)
    (he : starEach (e :: es) X.env = (false, eval e X.env) :: starEach es X.env := by rfl) (hp0 : (backTo pos (starEach es X.env)).any (·.1) = false := by rfl) :
    EV X W b ρ (.Call (.Subscript (.List ns p1) ei p2) (e :: es) [] pos) (fnV fs mi ma) := by
  refine PE.imp (pe_callV (W := W) (n := n) (pe_ix ix_seq (pe_lst (pa_refs y nm C c)) hi hs) h.run (fun σ => L2N.passAt y.tk σ) y.hr ht he hp0) fun σ H Q ⟨F, G, S, kq⟩ => ?_
  intro as A
  have hl : (as.map V.ref).length ≤ sizeLine := by
    rw [List.length_map, A.len, C.len, ← nm.len]; exact hz
  refine ⟨hl, fun p hp => ?_⟩
  have x0 : Ext F H F (upd H p (.lst (as.map V.ref))) := ext_junk S.fh hp
  refine ⟨F, G, S.mono x0, ?_⟩
  cases mi with
  | exc cc => exact DenX.mono x0.h kq
  | stuck => exact kq
  | ok d =>
    intro u F1 H1 x1 r1
    cases d with
    | int i =>
      have kq1 : DenE X W b (match atI fs i with | some f => ma.bind f | none => .stuck) F H σ Q := kq
      split at kq1
      · rename_i f hf
        unfold atI at hf
        obtain ⟨j, hj, hf2⟩ := Option.bind_eq_some_iff.mp hf
        obtain ⟨a, ha, FA⟩ := A.get hf2
        have hix : atI (as.map V.ref) i = some (V.ref a) := by
          unfold atI
          rw [List.length_map, A.len, hj]
          show (as.map V.ref)[j]? = _
          rw [List.getElem?_map, ha]; rfl
        refine .inl ⟨p, as.map V.ref, i, V.ref a, rfl, inv_i r1, .inl (.inl (x1.h _ _ upd_same)), hix, a, f, rfl, FA, F1, G, (S.mono x0).mono x1, ?_⟩
        have x01 := x0.trans x1
        cases ma with
        | ok ds =>
          intro vs F2 H2 x2 r2
          have k1 : DenE X W b (f ds) F H σ Q := kq1
          have x02 := x01.trans x2
          refine ⟨by rw [RpA.length r2, h.len _ rfl]; exact hn, F2, H2, ds, x2.fh, .refl _, r2, ?_⟩
          cases q : f ds with
          | ok d =>
            rw [q] at k1
            exact fun v F' H' f1 f2 f3 f4 r => k1 v F' H' (x02.trans ⟨f1, f3, f2, f4⟩) (Rp.up f2 r)
          | exc c =>
            rw [q] at k1
            exact fun v H' c1 s1 => k1 v H' c1 (x02.h.trans s1)
          | stuck => rw [q] at k1; exact k1
        | exc c => exact DenX.mono x01.h kq1
        | stuck => exact kq1
      · exact kq1.elim
    | _ => exact (show False from kq).elim
end
end Pu

/-! The pure layer, part 14: min, max, sorted; extend. -/
namespace Pu
open PySem PySem.Spec
open PyProof.Rows L2
open PySem.W (dataLt alike AllAlike Sortable EachIs dataLe)

def pMin : List D → Rs D
  | [.int i, .int j] => .ok (.int (if j < i then j else i))
  | _ => .stuck
def pMax : List D → Rs D
  | [.int i, .int j] => .ok (.int (if j > i then j else i))
  | _ => .stuck
section
variable {X : Cx} {b b' : Bool}
theorem c_min (hc : X.calm = true) : Cb X b b' (.builtin "min") pMin := by
  rintro pins s σ H vs us Q I r ⟨F, ds, fh, rp, k⟩
  unfold pMin at k
  split at k
  · cases rp with
    | cons r0 rn =>
      cases rn with
      | cons r1 rn =>
        cases rn
        rw [inv_i r0, inv_i r1] at r
        exact call_min2 hc pins s σ H _ us Q I r ⟨_, _, rfl, k _ F H (.refl fh) (Rp.up fh (.int _))⟩
  · exact k.elim
theorem c_max (hc : X.calm = true) : Cb X b b' (.builtin "max") pMax := by
  rintro pins s σ H vs us Q I r ⟨F, ds, fh, rp, k⟩
  unfold pMax at k
  split at k
  · cases rp with
    | cons r0 rn =>
      cases rn with
      | cons r1 rn =>
        cases rn
        rw [inv_i r0, inv_i r1] at r
        exact call_max2 hc pins s σ H _ us Q I r ⟨_, _, rfl, k _ F H (.refl fh) (Rp.up fh (.int _))⟩
  · exact k.elim
/-! ### sorted -/
def tupC : D → Bool
  | .tuple (_ :: _) => true
  | _ => false
def noTup : D → Bool
  | .tuple _ => false
  | .none => false
  | _ => true
def sortOk (l : List D) : Bool := (l.all fun d => l.all fun d' => alike d d') && (l.all tupC || l.all noTup) && (l.all fun d => SeqAt.shaped d && decide (d.depth ≤ 60)) && decide (l.length ≤ 16000000)
def dLe (a b : D) : Bool := !dataLt b a
def sortD (l : List D) : List D := l.mergeSort dLe
def pSorted : List D → Rs D
  | [.list l] => if sortOk l = true then .ok (.list (sortD l)) else .stuck
  | _ => .stuck
theorem sortOk_ok {l : List D} (h : sortOk l = true) : AllAlike l ∧ Sortable l ∧ (∀ d ∈ l, SeqAt.shaped d = true ∧ d.depth ≤ 60) ∧ l.length ≤ 16000000 := by
  unfold sortOk at h
  simp only [Bool.and_eq_true, Bool.or_eq_true, List.all_eq_true, decide_eq_true_eq] at h
  obtain ⟨⟨⟨h1, h2⟩, h3⟩, h4⟩ := id h
  refine ⟨h1, ?_, h3, h4⟩
  rcases h2 with h2 | h2
  · refine .inl fun d hd => ?_
    have q := h2 d hd
    match d, q with
    | .tuple (x :: r), _ => exact ⟨x, r, rfl⟩
  · refine .inr fun d hd => ?_
    have q := h2 d hd
    constructor
    · intro z; subst z; cases q
    · intro xs z; subst z; cases q
theorem each_zip {xs : List V} {us : List Value} (h : Vals xs us) : ∀ {l : List D}, xs.length = l.length → EachIs (fun v (p : V × D) => RelV p.1 v) us (xs.zip l) := by
  induction h with
  | nil => intro l _; exact .nil
  | cons r t ih =>
    intro l hl
    cases l with
    | nil => cases hl
    | cons d l => exact .cons r (ih (Nat.succ.inj hl))
theorem each_vals {ps : List (V × D)} {us : List Value} (h : EachIs (fun v (p : V × D) => RelV p.1 v) us ps) : Vals (ps.map (·.1)) us := by
  induction h with
  | nil => exact .nil
  | cons r t ih => exact .cons r ih
theorem each_reads {pins : List (Addr × Obj)} {σ : L2.St} {H : Hp} {s : Shared} (I : Inv X pins σ H s) {xs : List V} {us : List Value} (h : Vals xs us) : ∀ {l : List D}, RpA H xs l → (∀ d ∈ l, SeqAt.shaped d = true) → EachIs (fun v (p : V × D) => ∃ as, Reads s.heap v p.2 as) us (xs.zip l) := by
  induction h with
  | nil => intro l r _; cases r; exact .nil
  | cons r t ih =>
    intro l rp hs
    cases rp with
    | cons r0 rn => exact .cons (reads_of I r r0 (hs _ List.mem_cons_self)) (ih rn fun d hd => hs d (List.mem_cons_of_mem _ hd))
theorem rpa_pairs {F : Hp} : ∀ {ps : List (V × D)}, (∀ p ∈ ps, Rp F p.1 p.2) → RpA F (ps.map (·.1)) (ps.map (·.2))
  | [], _ => .nil
  | p :: ps, h => .cons (h p List.mem_cons_self) (rpa_pairs fun q hq => h q (List.mem_cons_of_mem _ hq))
theorem rpa_zip {F : Hp} : ∀ {xs : List V} {l : List D}, RpA F xs l → ∀ p ∈ xs.zip l, Rp F p.1 p.2
  | _, _, .nil, p, hp => by cases hp
  | _, _, .cons r rn, p, hp => by
    rcases List.mem_cons.mp (by simpa using hp) with e | hp'
    · rw [e]; exact r
    · exact rpa_zip rn p hp'
theorem zip_snd {α β : Type} : ∀ {a : List α} {c : List β}, a.length = c.length → (a.zip c).map (·.2) = c
  | [], [], _ => rfl
  | _ :: a, _ :: c, h => by rw [List.zip_cons_cons, List.map_cons, zip_snd (Nat.succ.inj h)]
  | [], _ :: _, h => by cases h
  | _ :: _, [], h => by cases h
theorem c_sorted (hu : Rm X) : Cb X b b (.builtin "sorted") pSorted := by
  rintro pins s σ H vs us Q I r ⟨F, ds, fh, rp, k⟩
  unfold pSorted at k
  split at k
  · rename_i l
    obtain ⟨hc, k⟩ := den_ite k
    obtain ⟨hal, hso, hsh, hlen⟩ := sortOk_ok hc
    cases rp with
    | cons r0 rn =>
      cases rn
      obtain ⟨a, xs, rfl, h1, z1, r1⟩ := inv_l r0
      obtain ⟨u0, rfl, ru⟩ := vals1 r
      cases ru
      have hxl := r1.length
      have rH : RpA H xs l := RpA.toH fh r1
      obtain ⟨its, rv, pl, _⟩ := I.list (.inl (Rd.toH fh h1))
      have hl2 : ((xs.zip l).map fun p => p.2) = l := zip_snd hxl
      refine PySem.W.sorted_data (bs := xs.zip l) (enc := fun p => p.2) pl.isList (each_zip rv hxl) (each_reads I rv rH fun d hd => (hsh d hd).1) (by rw [hl2]; exact hal) (by rw [hl2]; exact hso) (by rw [List.length_zip, sizeLine_eq]; omega) (fun p hp => ?_) fun out ho eo => ?_
      · have hm : p.2 ∈ l := by rw [← hl2]; exact List.mem_map.mpr ⟨p, hp, rfl⟩
        have := (hsh _ hm).2
        have hu' : X.A.units + 65 < cLine := hu
        show X.A.units + 2 + p.2.depth < cLine
        omega
      · have hp : H (s.heap.objs.size + 1) = none := I.hok.fresh (Nat.le_succ _)
        generalize hsd : (xs.zip l).mergeSort (dataLe false fun p => p.2) = srt at eo
        have perm : srt.Perm (xs.zip l) := by rw [← hsd]; exact List.mergeSort_perm _ _
        have hv : Vals (srt.map (·.1)) out := each_vals eo
        have hsn : srt.map (·.2) = sortD l := by
          rw [← hsd, List.map_mergeSort (s := dLe) (fun p hp q hq => by rw [PySem.W.dataLe_eq]; rfl), hl2]; rfl
        have hz : (srt.map (·.1)).length ≤ sizeLine := by rw [List.length_map, perm.length_eq, List.length_zip, sizeLine_eq]; omega
        obtain ⟨c, hc2⟩ := sortedAll_at s.heap its out.toArray
        have I1 := I.laid (t' := s.toks) (h' := sortedAll s.heap its out.toArray) (fun _ _ q => sortedAll_old q) (Nat.le_succ _) (show ObjOk X.prog X.w _ _ _ (.lst (srt.map (·.1))) from ⟨hz, out, c, hv, hc2⟩)
        refine ⟨.ref (s.heap.objs.size + 1), _, I1, rfl, ?_⟩
        have xx : Ext F H (upd F (s.heap.objs.size + 1) (.lst (srt.map (·.1)))) (upd H (s.heap.objs.size + 1) (.lst (srt.map (·.1)))) := .new fh hp
        have each : RpA (if b then H else F) (srt.map (·.1)) (sortD l) := by
          rw [← hsn]
          exact rpa_pairs fun p hp => rpa_zip r1 p (perm.mem_iff.mp hp)
        cases b with
        | true => exact k _ _ _ xx (.lst (.inl upd_same) hz (RpA.mono xx.h each))
        | false => exact k _ _ _ xx (.lst (.inl upd_same) hz (RpA.mono xx.f each))
  · exact k.elim
end
/-! ### extend -/
def extS {β : Type} (m : Rs D) (n : Nat) (kk : List D → Rs (Out β)) : Rs (Out β) := m.bind fun d => match d with
  | .list l => if n + l.length ≤ 16000000 then kk l else .stuck
  | _ => .stuck
def rExt2 : V → List V → Hp → VK → Prop := fun x vs H Q => ∃ l c xs ys, x = .ref l ∧ vs = [.ref c] ∧ H l = some (.lst xs) ∧ Rd H c (.lst ys) ∧ xs.length + ys.length ≤ sizeLine ∧ l ≠ c ∧ Q .non (upd H l (.lst (xs ++ ys)))
theorem m_ext {X : Cx} : MtR X "list.extend" rExt2 := by
  rintro pins s σ H x vs v us Q I rx rv ⟨l, c, xs, ys, rfl, rfl, hH, hC, hz, ne, q⟩
  cases rx
  obtain ⟨u, rfl, ru⟩ := rv.one
  cases ru
  obtain ⟨zz, its, n, r, hl, e⟩ := I.lstM hH
  obtain ⟨z2, its2, n2, r2, e2⟩ := hC.ok I.hok
  have hl2 := r2.length
  have h3 : its.toArray.size + its2.toArray.size ≤ sizeLine := by simp only [List.size_toArray]; omega
  have h4 : ¬ (!its.toArray.isEmpty && Builtin.List.listTooLong (its.toArray.size + its2.toArray.size)) = true := fun z => by
    rw [notLongL h3, Bool.and_false] at z
    cases z
  refine call_meets PySem.F.slot_list_extend ⟨_, e, rfl⟩ PySem.F.entry_list_extend (PySem.F.args_list_extend_2 _ _) (AutoSeq1.list_extend_list_list_0 l its.toArray n c its2.toArray n2 h4 (by simp only [List.size_toArray]; omega) (by simp only [List.size_toArray]; omega)) ⟨e, e2, ?_⟩
  refine ⟨V.non, _, I.lset (its' := its ++ its2) hH e (by simp) (r.append r2) ?_, rfl, q⟩
  rw [List.length_append]
  exact hz
section
variable {U : Un} {N : List Str} {sc : Scope} {k : Nat} {X : Cx} {W : WX} {ρ : List Sl} {e : Expr} {pos p1 p2 p3 : Pos} {x : Str} {β : Type} {ρ' : β → List Sl} {rest : List Stmt}
/-- x.extend(e) -/
theorem s_ext (z : DZ U N sc k X W) (i : Nat) {ds : List D} {m : Rs D} {kk : List D → Rs (Out β)} (hs : ρ[i]? = some (.ol ds)) (h : EV X W false ρ e m) (hr : ∀ l, BS X W (ρ.set i (.ol (ds ++ l))) rest ρ' (kk l)) (cx : vaC N sc i x = true := by decide +kernel)
    (hb : attributeBase (.Name x p1) "extend" X.env (eval (.Name x p1) X.env) = eval (.Name x p1) X.env := by rfl)
    (hfew : ((backTo p3 (starEach [e] X.env)).all (fun x => !x.1) && (backToKw p3 (keywordEach [] X.env)).all (fun x => x.1.isSome) && decide ([e].length + ([] : List Keyword).length + (if ([] : List Keyword).isEmpty then 0 else 1) < 30)) = true := by rfl)
    (hln : (p2.endLine == p3.line) = true := by rfl) (he : starEach [e] X.env = (false, eval e X.env) :: starEach [] X.env := by rfl) (hpl : (backTo p3 (starEach [] X.env)).any (·.1) = false := by rfl)
    (hsw : swapsWith (.Call (.Attribute (.Name x p1) "extend" p2) [e] [] p3) none pos.line X.env = pure false := by rfl) :
    BS X W ρ (.Expr (.Call (.Attribute (.Name x p1) "extend" p2) [e] [] p3) pos :: rest) ρ' (extS m ds.length kk) := by
  have hv := va_of z.y.n z.y.s cx
  have st := ps_expr (X := X) (pos := pos) (pe_bm (X := X) PySem.F.plainAttrs_list PySem.F.slot_list_extend PySem.F.type_list_extend m_ext (pe_var hv.n hv.v hv.d hv.c) (pa_cons h pa_nil he) hb hfew hln he hpl) hsw
  have hi : i < ρ.length := (List.getElem?_eq_some_iff.mp hs).1
  cases m with
  | ok d =>
    cases d with
    | list ls =>
      by_cases hcap : ds.length + ls.length ≤ 16000000
      · refine PSs.imp (pss_cons st (hr ls)) fun D σ H ⟨F, G, S, q⟩ => ?_
        obtain ⟨a, e1, f1, g1, xs, h1, z1, r1⟩ := S.sl i _ hs
        refine ⟨.ref a, e1, .inl ⟨rfl, xs, .inl (.inl h1)⟩, F, G, S, fun v F' H' x1 r => ?_⟩
        have q1 : DenS X W (kk ls) ρ' F G σ.length D := by
          have q2 : DenS X W (if ds.length + ls.length ≤ 16000000 then kk ls else .stuck) ρ' F G σ.length D := q
          rw [if_pos hcap] at q2; exact q2
        have S1 := S.mono x1
        have f2 : F' a = none := x1.keepNone f1 (by rw [h1]; intro zz; cases zz)
        obtain ⟨c, ys, rfl, hc, zc, rc⟩ := inv_l (show Rp F' v (.list ls) from r)
        have hne : a ≠ c := fun zz => by
          subst zz
          rcases hc with hc | ⟨o, hc⟩ <;> rw [f2] at hc <;> cases hc
        have hxl : xs.length + ys.length ≤ 16000000 := by rw [r1.length, rc.length]; exact hcap
        refine ⟨a, c, xs, ys, rfl, rfl, x1.h _ _ h1, rd_mono x1.fh.sub hc, by rw [sizeLine_eq]; omega, hne, F', G, ?_, q1.gr (x1.gr S.gh)⟩
        exact S1.own hs rfl e1 f2 g1 rfl (fun _ zz => by cases zz) ⟨xs ++ ys, upd_same, by rw [List.length_append, sizeLine_eq]; omega, (r1.mono x1.f).app rc⟩
      · refine PSs.imp pss_never fun D σ H ⟨F, G, S, q⟩ => ?_
        have q2 : DenS X W (if ds.length + ls.length ≤ 16000000 then kk ls else .stuck) ρ' F G σ.length D := q
        rw [if_neg hcap] at q2
        exact (show False from q2).elim
    | _ => exact PSs.imp pss_never fun D σ H ⟨F, G, S, q⟩ => (show False from q).elim
  | exc c =>
    refine PSs.imp (pss_cons st pss_never) fun D σ H ⟨F, G, S, q⟩ => ?_
    obtain ⟨a, e1, f1, g1, xs, h1, z1, r1⟩ := S.sl i _ hs
    exact ⟨.ref a, e1, .inl ⟨rfl, xs, .inl (.inl h1)⟩, F, G, S, fun v H' c s => (show DenS X W (.exc _) ρ' F G σ.length D from q) v σ H' c (S.fh.sub.trans s) (S.gh.trans s) rfl⟩
  | stuck => exact PSs.imp pss_never fun D σ H ⟨F, G, S, q⟩ => q
end
end Pu

/-! The pure layer, part 15: set(list of texts). -/
namespace Pu
open PySem PySem.Spec
open PyProof.Rows L2
open PySem.Froz (SD sObj addTx tailTx TxOk)

/-- the text of an entry -/
def mOf (e : Int × Value) : Str := match e.2 with | .str x _ => x | _ => ""
/-- the payload D of a set has just the texts l; its table can be walked -/
structure TxtS (P : Program) (w : World) (D : SD) (l : List Str) : Prop where
  ok : TxOk P w D l
  perm : (D.1.toList.map mOf).Perm l
  vals : ∀ e ∈ D.1.toList, ∃ t, e.2 = Value.str (mOf e) t
  nd : l.Nodup
  ris : Ris D.2.2.place.toList
  led : w.params.followText "set-order" = true ∨ D.2.2.led = true
section
variable {P : Program} {w : World}
/-- what a payload says stays when its table is laid anew -/
theorem TxtS.tail {es : Array (Int × Value)} {t : SetTable} {l : List Str} (ep : Nat) (dummy : Bool) (x : TxtS P w (es, ep, t) l) : TxtS P w (tailTx ep es t dummy) l := by
  by_cases c : (!dummy && t.tooFull) = true
  case neg =>
    have e : tailTx ep es t dummy = (es, ep + 1, t) := if_neg c
    rw [e]
    exact ⟨⟨x.ok.el, x.ok.mem, x.ok.sz, x.ok.fit⟩, x.perm, x.vals, x.nd, x.ris, x.led⟩
  case pos =>
    have e : tailTx ep es t dummy = _ := if_pos c
    have p := relayAll_perm t es (SetTable.grown es.size)
    have o := Froz.tail_ok (wasDummy := dummy) x.ok
    rw [e] at o ⊢
    exact ⟨o, (p.map mOf).trans x.perm, fun q hq => x.vals q (p.mem_iff.mp hq), x.nd, relayAll_ris t es _, x.led.imp id fun z => (relayAll_led t es _).trans z⟩
/-- a text more -/
theorem TxtS.add {D : SD} {l : List Str} {k : Str} (u : Tok) (x : TxtS P w D l) (hk : k ∉ l) : TxtS P w (addTx (hashStr w k) (.str k u) D) (k :: l) := by
  obtain ⟨es, ep, t⟩ := D
  have o := Froz.add_ok u x.ok (k := k)
  have p0 := layNew_perm t es (hashStr w k) (.str k u)
  have p := p0
  rw [Array.toList_push] at p
  have r := layNew_ris t es (hashStr w k) (.str k u) x.ris
  have d := layNew_led t es (hashStr w k) (.str k u)
  have f := layNew_fits t es (hashStr w k) (.str k u)
  unfold addTx
  dsimp only
  refine TxtS.tail ep _ ⟨x.ok.push p0 ?_, ?_, ?_, List.nodup_cons.mpr ⟨hk, x.nd⟩, ?_, ?_⟩
  · split
    · exact SetTable.fits_plain_off f
    · exact f
  · have q := p.map mOf
    rw [List.map_append] at q
    exact q.trans ((List.perm_append_singleton _ _).trans (x.perm.cons k))
  · intro q hq
    rcases List.mem_append.mp (p.mem_iff.mp hq) with h | h
    · exact x.vals q h
    · exact ⟨u, by rw [List.mem_singleton.mp h]; rfl⟩
  · split <;> exact r
  · refine x.led.imp id fun z => ?_
    split <;> exact d.trans z
end
section
variable {w : World} {P : Program} {s : Shared} {A : Around} {E : Value → Shared → Prop}
/-- a text that is there -/
theorem here_x {a : Addr} {D : SD} {l : List Str} {k : Str} {u : Tok} {Q : Bool → Shared → Prop} (ho : s.heap.get? a = some (sObj "set" D)) (F : TxOk P w D l) (hk : k ∈ l) (hb : l.length < scanBound) (h : Q false s) :
    wpAny (model P w) A (setAddHashed a (.str k u) (hashStr w k)) Q E s := by
  have hf : D.2.2.fits D.1.size = true := F.fit
  obtain ⟨e, he, q⟩ := (F.mem k).mp hk
  obtain ⟨j, hj⟩ : ∃ j, D.1.toList.findIdx? (fun e => (strKind P w).is k e.2) = some j := by
    rcases z : D.1.toList.findIdx? (fun e => (strKind P w).is k e.2) with _ | j
    · exact absurd q (by rw [List.findIdx?_eq_none_iff.mp z e he]; exact Bool.false_ne_true)
    · exact ⟨j, z⟩
  have sc : ∀ {A' : Around} {E' : Value → Shared → Prop} {Q' : ScanMet → Shared → Prop}, Q' (.found (0 + j)) s → wpAny (model P w) A' (setScan a (.str k u) (hashStr w k) true D.1) Q' E' s := fun {_ _ _} z =>
    wpAny_setScan_of (knd := strKind P w) (Froz.is_str k u) ho rfl hf F.el (by rw [hj]; exact z)
  have by_ : byScan (.str k u) D.1 = true := byScan_of (knd := strKind P w) rfl (by rw [F.sz]; exact hb) F.el
  unfold setAddHashed setAddHashedIn setAddByScan
  refine wpAny_holding (wpAny_bind (wpAny_setState_of ho (es := D.1) (ep := D.2.1) (t := D.2.2) rfl hf ?_))
  dsimp only
  simp only [by_, if_true]
  exact wpAny_bind (wpAny_bind (wpAny_rule (wpAny_bind (sc (wpAny_pure (wpAny_pure h))))))
def stepC (l : List Str) (x : Str) : List Str := if x ∈ l then l else x :: l
theorem stepC_len (l : List Str) (x : Str) : (stepC l x).length ≤ l.length + 1 := by
  unfold stepC; split <;> simp
/-- S.update: what is left of the texts -/
theorem upd_texts {I S : Addr} {fp wr : List Addr} {G : Array GenState → Array GenState → Prop} {xs : List Str} {Pv : Nat → Value → Prop} {St : Nat → Shared → Prop} {R : Result → Shared → Prop}
    (W : WalksS P w A.in1 I fp wr G xs.length Pv St) (no : S ∉ fp) (hv : ∀ i v, Pv i v → ∃ x t, xs[i]? = some x ∧ v = .str x t) : ∀ (r : List Str) (i : Nat) (D : SD) (l : List Str) (s : Shared),
      xs.drop i = r → i + r.length = xs.length → St i s → s.heap.get? S = some (sObj "set" D) → TxtS P w D l → l.length + r.length + 1 < scanBound →
      (∀ s' D', Moved (S :: wr) G s s' → s'.heap.get? S = some (sObj "set" D') → TxtS P w D' (r.foldl stepC l) → R (.ok (.ret .none)) s') → codeAny (model P w) A (.builtin "set.update.loop" ⟨[.ref S, .ref I], []⟩) R s := by
  have now : S ∉ wr := no ∘ W.sub S
  have more : ∀ b, b ∈ wr → b ∈ S :: wr := fun _ => List.mem_cons_of_mem S
  intro r
  induction r with
  | nil =>
    intro i D l s _ hi st ho T _ k
    have e : i = xs.length := hi
    subst e
    apply codeAny_builtin PyProof.Rows.F.entry_set_update_loop
    rw [Around.under_plainId PyProof.Rows.F.plain_set_update_loop]
    exact wpAny_bind (m := pyNext (.ref I)) (W.done s _ _ st fun s1 m => wpAny_pure (k s1 D (m.mono more) (m.heap S _ now ho) T))
  | cons x r ih =>
    intro i D l s hd hi st ho T hb k
    rw [List.length_cons] at hi hb
    have hx : xs[i]? = some x := by
      have := congrArg List.head? hd
      rwa [List.head?_drop] at this
    have hr : xs.drop (i + 1) = r := by
      have := congrArg List.tail hd
      rwa [List.tail_drop] at this
    apply codeAny_builtin PyProof.Rows.F.entry_set_update_loop
    rw [Around.under_plainId PyProof.Rows.F.plain_set_update_loop]
    refine wpAny_bind (m := pyNext (.ref I)) (W.item i s _ _ (by omega) st fun v s1 pv st1 m => ?_)
    obtain ⟨y, t, hy, rfl⟩ := hv i v pv
    rw [hx] at hy
    cases hy
    have ho1 := m.heap S _ now ho
    -- behind the add
    have next : ∀ (h' : Heap) (D' : SD), (∀ b, b ≠ S → h'.get? b = s1.heap.get? b) → h'.get? S = some (sObj "set" D') → TxtS P w D' (stepC l x) →
        codeAny (model P w) A (.builtin "set.update.loop" ⟨[.ref S, .ref I], []⟩) R { s1 with heap := h', toks := s1.toks + 1 } := fun h' D' sm o' T' => by
      have hl := stepC_len l x
      refine ih (i + 1) D' (stepC l x) _ hr (by omega) (W.frame _ s1 _ _ st1 (Nat.le_succ _) fun b hb o e => ?_) o' T' (by omega) fun s2 D2 m2 o2 T2 => k s2 D2 (Moved.trans W.gtrans ((m.mono more).then_heap (Nat.le_succ _) fun b o hb e => ?_) m2) o2 T2
      · exact (sm b (by rintro rfl; exact no hb)).trans e
      · exact (sm b (by rintro rfl; exact hb List.mem_cons_self)).trans e
    refine wpAny_bind (m := holding [Value.str x t] (setAdd S (.str x t))) (wpAny_holding ?_)
    unfold setAdd
    refine wpAny_holding (wpAny_bind ((strKind P w).pyHash (Froz.is_str x t) ?_))
    by_cases hm : x ∈ l
    · refine here_x (s := { s1 with toks := s1.toks + 1 }) ho1 T.ok hm (by omega) (wpAny_pure ⟨plainId_quiet PyProof.Rows.F.plain_set_update_loop _, next s1.heap D (fun _ _ => rfl) ho1 ?_⟩)
      have e : stepC l x = l := if_pos hm
      rw [e]; exact T
    · refine Froz.add_x (s := { s1 with toks := s1.toks + 1 }) ho1 T.ok hm (by omega) (wpAny_pure ⟨plainId_quiet PyProof.Rows.F.plain_set_update_loop _, next _ _ (fun b hb => Heap.get?_update_other _ _ (Ne.symm hb)) (Froz.get_upd _ ho1 rfl) ?_⟩)
      have e : stepC l x = x :: l := if_neg hm
      rw [e]; exact T.add t hm
abbrev set0 (w : World) : Obj := { cls := .type "set", data := .set #[] 0 (.fresh 0 0 (!w.params.followText "set-order")) }
theorem TxtS.zero (P : Program) (w : World) : TxtS P w (#[], 0, .fresh 0 0 (!w.params.followText "set-order")) [] :=
  ⟨Froz.TxOk.nil rfl, .refl _, fun e he => by simp at he, .nil, .nil, by cases h : w.params.followText "set-order" <;> simp [SetTable.fresh]⟩
/-- what set.__init__ makes of the texts of a list -/
theorem init_texts {S l : Addr} {items : Array Value} (xs : List Str) (calm : A.handled = none) (hS : s.heap.get? S = some (set0 w)) (il : s.heap.IsList l items) (iv : Vals (xs.map V.str) items.toList) (few : xs.length + 1 < scanBound) :
    wpAny (model P w) A (Builtin.«set.__init__» ⟨[.ref S, .ref l], []⟩) (fun f s' => f = .done (.ret .none) ∧ ∃ h' k D, s' = { s with heap := h', toks := k } ∧ h'.get? S = some (sObj "set" D) ∧ TxtS P w D (xs.foldl stepC []) ∧ ∀ b o, b ≠ S → s.heap.get? b = some o → h'.get? b = some o) E s := by
  have many : items.size = xs.length := by
    have e := iv.length
    rw [List.length_map] at e
    exact (e.trans Array.length_toList).symm
  obtain ⟨⟨_, od, _, os⟩, ho, hc, n, hd⟩ := id il
  simp only at hc hd
  subst hc hd
  have u0 := F.sub_list_set; have u1 := F.sub_list_frozenset
  have u2 : (Value.type "list" == .type "dict") = false := by decide
  have away : l ≠ S := by
    rintro rfl
    rw [hS] at ho
    exact absurd (congrArg Obj.cls (Option.some.inj ho)) (by simp)
  unfold Builtin.«set.__init__» Builtin.Frozenset.updateFrom noKeywords
  generalize hp : pyIter = pI
  wp_walk
  subst hp
  refine wpAny_pyIter_list il (wpAny_bind (wpAny_runValue ?_))
  have lS := Heap.lt_size hS
  have ll := Heap.lt_size ho
  have at1 : ∀ {b : Addr} {o o' : Obj}, s.heap.get? b = some o → (s.heap.push o').get? b = some o := Heap.get?_push_of_some _
  refine upd_texts (Walks.list (by simp [calm]) _ l (Nat.ne_of_lt ll) items |>.toS |> fun W => many ▸ W) (fun z => (List.mem_cons.mp z).elim (fun e => absurd lS (by rw [e]; exact Nat.lt_irrefl _)) fun e => away (List.mem_singleton.mp e).symm) (fun i v hv => ?_) xs 0 (#[], 0, .fresh 0 0 (!w.params.followText "set-order")) [] _ rfl (Nat.zero_add _) ⟨⟨_, Heap.get?_push_size _ rfl, rfl, rfl⟩, il.push _⟩ (at1 hS) (TxtS.zero P w) (by simpa using few) fun s1 D m o T => ?_
  · have hi : i < xs.length := many ▸ (Array.getElem?_eq_some_iff.mp hv).1
    obtain ⟨u, e1, t, e2⟩ := iv.get (i := i) (x := .str xs[i]) (by simp [hi])
    rw [Array.getElem?_toList, hv] at e1
    exact ⟨_, t, List.getElem?_eq_getElem hi, (Option.some.inj e1).trans e2⟩
  · obtain ⟨h', g', d', k', o'⟩ := s1
    cases (show g' = _ from m.gens)
    cases (show d' = _ from m.drawn)
    cases (show o' = _ from m.os)
    refine wpAny_pure (wpAny_pure ⟨rfl, h', k', D, rfl, o, T, fun b q nb e => m.heap b q ?_ (at1 e)⟩)
    have lb := Heap.lt_size e
    intro z
    rcases List.mem_cons.mp z with ez | z
    · exact nb ez
    · exact absurd lb (by rw [List.mem_singleton.mp z]; exact Nat.lt_irrefl _)
/-- set(l), l a list of texts -/
theorem call_set_texts {l : Addr} {items : Array Value} (xs : List Str) {Q : Value → Shared → Prop} (calm : A.handled = none) (il : s.heap.IsList l items) (iv : Vals (xs.map V.str) items.toList) (few : xs.length + 1 < scanBound)
    (fin : ∀ (h' : Heap) (k : Nat) (D : SD), h'.get? s.heap.objs.size = some (sObj "set" D) → TxtS P w D (xs.foldl stepC []) → (∀ b o, s.heap.get? b = some o → h'.get? b = some o) → Q (.ref s.heap.objs.size) { s with heap := h', toks := k }) :
    wpAny (model P w) A (call (.type "set") [.ref l] []) Q E s := by
  have T0 := F.typeCall_set_1 (.ref l); have T1 := F.called_set.notType; have T2 := F.called_set.canCreate; have T3 := F.called_set.made; have T4 := F.called_set.sub
  obtain ⟨_, _, T5⟩ := F.called_set.mro
  refine wpAny_call <| codeAny_of_tree ?_
  change wpAny _ _ (callAny (.type "set") _) _ _ _
  refine wpAny_pure ⟨by first | exact Code.quiet_builtin _ (by decide +kernel), codeAny_builtin F.entry_type_call ?_⟩
  rw [Around.under_plain (weight_type_call_type "set" [.ref l] ([] : List (Str × Value))) rfl]
  repeat any_goals first | wp_step | assumption
  have new1 := code_set_led1 (P := P) (w := w) (A := A.in1) (E := E) (s := s) (.ref l) (Q₁ := fun obj s1 => obj = .ref s.heap.objs.size ∧ s1 = { s with heap := s.heap.push (set0 w) }) ⟨rfl, rfl⟩
  refine codeAny_mono new1 ?_
  rintro r s1 hr
  cases r with
  | error _ => exact hr
  | ok fl =>
    cases fl with
    | ret obj =>
      obtain ⟨rfl, rfl⟩ := hr
      have at0 : (s.heap.push (set0 w)).get? s.heap.objs.size = some (set0 w) := Heap.get?_push_size _ rfl
      have ty0 : Shared.TypeIs { s with heap := s.heap.push (set0 w) } (.ref s.heap.objs.size) "set" := ⟨_, at0, rfl⟩
      have I0 := F.called_set.init.lookup; have I1 := F.called_set.init.bind (.ref s.heap.objs.size)
      repeat any_goals first | wp_step | assumption
      have at1 : ∀ {b : Addr} {o : Obj}, s.heap.get? b = some o → (s.heap.push (set0 w)).get? b = some o := Heap.get?_push_of_some _
      have il1 : (s.heap.push (set0 w)).IsList l items := il.push _
      refine codeAny_mono (codeAny_call_builtin (R := wants (fun v s' => v = .none ∧ ∃ h' k D, s' = { s with heap := h', toks := k } ∧ h'.get? s.heap.objs.size = some (sObj "set" D) ∧ TxtS P w D (xs.foldl stepC []) ∧ ∀ b o, s.heap.get? b = some o → h'.get? b = some o) E)
        F.called_set.init.plain F.entry_set_init (check_set_init_1 ty0 ?_)) ?_
      · refine wpAny_mono (init_texts (s := { s with heap := s.heap.push (set0 w) }) xs (by simp [calm]) at0 il1 iv few) ?_ fun _ _ z => z
        rintro _ _ ⟨rfl, h', k, D, rfl, q1, q2, q3⟩
        exact ⟨rfl, h', k, D, rfl, q1, q2, fun b o e => q3 b o (Nat.ne_of_lt (Heap.lt_size e)) (at1 e)⟩
      · rintro r2 s2 h2
        cases r2 with
        | error _ => exact h2
        | ok f2 =>
          cases f2 with
          | ret _ =>
            obtain ⟨rfl, h', k, D, rfl, q1, q2, q3⟩ := h2
            repeat any_goals first | wp_step | assumption
            exact fin h' k D q1 q2 q3
          | _ => exact h2.elim
    | _ => exact hr.elim
end
end Pu

/-! The pure layer, part 16: sorted(set(x)), len(set(x)) by data. -/
namespace Pu
open PySem PySem.Spec
open PyProof.Rows L2
open PySem.W (dataLt alike AllAlike Sortable EachIs dataLe)

open PySem.Froz (SD sObj)
/-- each once, as it comes first -/
def stepG {κ : Type} [DecidableEq κ] (L : List κ) (x : κ) : List κ := if x ∈ L then L else L ++ [x]
/-- a set by its members, as its table has them -/
def SetXr (w : World) (h : Heap) (a : Addr) (xs : List V) : Prop :=
  ∃ es ep t, (∃ o, h.get? a = some o ∧ o.ExactSet ∧ o.data = .set es ep t) ∧ Vals xs (es.toList.map (·.2)) ∧ es.size < scanBound ∧ t.fits es.size = true ∧ Ris t.place.toList ∧ (w.params.followText "set-order" = true ∨ t.led = true)
def SetX (w : World) (a : Addr) (xs : List V) : HO := .ext fun h => SetXr w h a xs
theorem setX_new {P : Program} {w : World} {H : Hp} {h : Heap} {a : Addr} {xs : List V} (R : SetXr w h a xs) : ObjOk P w H h a (SetX w a xs) := by
  have ⟨es, ep, t, ⟨o, ho, r⟩, q⟩ := R
  exact ⟨R, ⟨o, ho⟩, fun h1 h2 ⟨es1, ep1, t1, ⟨o1, ho1, r1⟩, q1⟩ k => ⟨es1, ep1, t1, ⟨o1, k o1 ho1, r1⟩, q1⟩⟩
/-! ### each once -/
theorem stepC_mem (l : List Str) (x y : Str) : x ∈ stepC l y ↔ x ∈ l ∨ x = y := by
  unfold stepC
  split
  · rename_i h
    exact ⟨.inl, fun z => z.elim id fun e => by rw [e]; exact h⟩
  · rw [List.mem_cons]; exact Or.comm
theorem foldC_mem : ∀ (xs l : List Str) (x : Str), x ∈ xs.foldl stepC l ↔ x ∈ l ∨ x ∈ xs
  | [], l, x => by simp
  | y :: xs, l, x => by rw [List.foldl_cons, foldC_mem xs, stepC_mem, List.mem_cons, or_assoc]
def dedG {κ : Type} [DecidableEq κ] (xs : List κ) : List κ := xs.foldl stepG []
section
variable {κ : Type} [dκ : DecidableEq κ]
theorem stepG_mem (L : List κ) (x y : κ) : x ∈ stepG L y ↔ x ∈ L ∨ x = y := by
  unfold stepG
  split
  · rename_i h
    exact ⟨.inl, fun z => z.elim id fun e => by rw [e]; exact h⟩
  · rw [List.mem_append, List.mem_singleton]
theorem foldG_mem : ∀ (xs L : List κ) (x : κ), x ∈ xs.foldl stepG L ↔ x ∈ L ∨ x ∈ xs
  | [], L, x => by simp
  | y :: xs, L, x => by rw [List.foldl_cons, foldG_mem xs, stepG_mem, List.mem_cons, or_assoc]
theorem stepG_nodup {L : List κ} (y : κ) (h : L.Nodup) : (stepG L y).Nodup := by
  unfold stepG
  split
  · exact h
  · rename_i hn
    exact (List.perm_append_singleton _ _).nodup_iff.mpr (List.nodup_cons.mpr ⟨hn, h⟩)
theorem stepG_len (L : List κ) (x : κ) : (stepG L x).length ≤ L.length + 1 := by
  unfold stepG; split <;> simp
theorem foldG_len : ∀ (xs L : List κ), (xs.foldl stepG L).length ≤ L.length + xs.length
  | [], L => Nat.le_refl _
  | x :: xs, L => by
    have h1 := foldG_len xs (stepG L x)
    have h2 := stepG_len L x
    rw [List.foldl_cons, List.length_cons]; omega
theorem foldG_nodup : ∀ (xs : List κ) {L : List κ}, L.Nodup → (xs.foldl stepG L).Nodup
  | [], _, h => h
  | y :: xs, _, h => foldG_nodup xs (stepG_nodup y h)
theorem dedG_mem (xs : List κ) (x : κ) : x ∈ dedG xs ↔ x ∈ xs := by
  unfold dedG; rw [foldG_mem]; simp
theorem dedG_nodup (xs : List κ) : (dedG xs).Nodup := foldG_nodup xs List.nodup_nil
end
def stepD (acc : List D) (d : D) : List D := if (acc.any fun z => PyData.eqv z d) = true then acc else acc ++ [d]
def dedD (l : List D) : List D := l.foldl stepD []
theorem stepD_map {κ : Type} [DecidableEq κ] {enc : κ → D} (h : ∀ a b, PyData.eqv (enc a) (enc b) = decide (a = b)) (L : List κ) (x : κ) : stepD (L.map enc) (enc x) = (stepG L x).map enc := by
  have e : ((L.map enc).any fun z => PyData.eqv z (enc x)) = decide (x ∈ L) := by
    rw [List.any_map]
    refine Bool.eq_iff_iff.mpr ?_
    rw [List.any_eq_true, decide_eq_true_eq]
    constructor
    · rintro ⟨z, hz, q⟩
      have q' : PyData.eqv (enc z) (enc x) = true := q
      rw [h, decide_eq_true_eq] at q'
      rw [← q']; exact hz
    · intro hx
      refine ⟨x, hx, ?_⟩
      show PyData.eqv (enc x) (enc x) = true
      rw [h, decide_eq_true_eq]
  unfold stepD stepG
  rw [e]
  by_cases hx : x ∈ L
  · rw [if_pos hx, decide_eq_true hx, if_pos rfl]
  · rw [if_neg hx, decide_eq_false hx, if_neg (by simp), List.map_append]; rfl
theorem foldD_map {κ : Type} [DecidableEq κ] {enc : κ → D} (h : ∀ a b, PyData.eqv (enc a) (enc b) = decide (a = b)) : ∀ (xs L : List κ), (xs.map enc).foldl stepD (L.map enc) = (xs.foldl stepG L).map enc
  | [], _ => rfl
  | x :: xs, L => by rw [List.map_cons, List.foldl_cons, stepD_map h, foldD_map h xs, List.foldl_cons]
theorem dedD_map {κ : Type} [DecidableEq κ] {enc : κ → D} (h : ∀ a b, PyData.eqv (enc a) (enc b) = decide (a = b)) (xs : List κ) : dedD (xs.map enc) = (dedG xs).map enc := foldD_map h xs []
theorem eqv_strs (a b : Str) : PyData.eqv (.str a) (.str b) = decide (a = b) := by
  rw [PyData.eqv]
  refine Bool.eq_iff_iff.mpr ?_
  rw [beq_iff_eq, decide_eq_true_eq]
abbrev tupI (ns : List Int) : D := .tuple (ns.map .int)
theorem eqvAll_ints : ∀ a b : List Int, PyData.eqvAll (a.map .int) (b.map .int) = decide (a = b)
  | [], [] => by rw [List.map_nil, PyData.eqvAll]; simp
  | [], _ :: _ => by rw [List.map_nil, List.map_cons, PyData.eqvAll]; simp
  | _ :: _, [] => by rw [List.map_nil, List.map_cons, PyData.eqvAll]; simp
  | x :: a, y :: b => by
    rw [List.map_cons, List.map_cons, PyData.eqvAll, eqvAll_ints a b, PyData.eqv]
    refine Bool.eq_iff_iff.mpr ?_
    simp
theorem eqv_tups (a b : List Int) : PyData.eqv (tupI a) (tupI b) = decide (a = b) := by
  rw [PyData.eqv, eqvAll_ints]

/-! ### sorted, whatever the order ahead -/
theorem sort_perm {κ : Type} {enc : κ → D} {le : κ → κ → Bool} (hle : ∀ a b, dLe (enc a) (enc b) = le a b) (tr : ∀ a b c, le a b = true → le b c = true → le a c = true) (tot : ∀ a b, (le a b || le b a) = true)
    (anti : ∀ a b, le a b = true → le b a = true → a = b) {xs ys : List κ} (p : xs.Perm ys) : sortD (xs.map enc) = sortD (ys.map enc) := by
  have e : ∀ zs : List κ, sortD (zs.map enc) = (zs.mergeSort le).map enc := fun zs => (List.map_mergeSort (s := dLe) (r := le) (f := enc) fun a _ b _ => (hle a b).symm).symm
  rw [e, e]
  congr 1
  exact List.Perm.eq_of_pairwise (le := fun a b => le a b = true) (fun a b _ _ h1 h2 => anti a b h1 h2) (List.pairwise_mergeSort tr tot xs) (List.pairwise_mergeSort tr tot ys) ((List.mergeSort_perm xs le).trans (p.trans (List.mergeSort_perm ys le).symm))
def leS (a b : Str) : Bool := !decide (b.cps.toList < a.cps.toList)
def leI (a b : List Int) : Bool := !decide (b < a)
theorem dLe_strs (a b : Str) : dLe (.str a) (.str b) = leS a b := by
  unfold dLe leS
  rw [PySem.W.dataLt_str]
theorem dLe_tups (a b : List Int) : dLe (tupI a) (tupI b) = leI a b := by
  unfold dLe leI
  rw [PySem.W.dataLt_tuple]
  exact congrArg (!·) (PySem.W.dataLt_ints b a)
theorem leS_iff (a b : Str) : leS a b = true ↔ a.cps.toList ≤ b.cps.toList := by
  unfold leS
  rw [Bool.not_eq_true', decide_eq_false_iff_not]; exact Iff.rfl
theorem leI_iff (a b : List Int) : leI a b = true ↔ a ≤ b := by
  unfold leI
  rw [Bool.not_eq_true', decide_eq_false_iff_not]; exact Iff.rfl
theorem sort_strs {xs ys : List Str} (p : xs.Perm ys) : sortD (xs.map .str) = sortD (ys.map .str) :=
  sort_perm dLe_strs (fun a b c h1 h2 => (leS_iff a c).mpr (List.le_trans ((leS_iff a b).mp h1) ((leS_iff b c).mp h2)))
    (fun a b => by rw [Bool.or_eq_true, leS_iff, leS_iff]; exact List.le_total _ _)
    (fun a b h1 h2 => Str.ext' (Array.toList_inj.mp (List.le_antisymm ((leS_iff a b).mp h1) ((leS_iff b a).mp h2)))) p
theorem sort_tups {xs ys : List (List Int)} (p : xs.Perm ys) : sortD (xs.map tupI) = sortD (ys.map tupI) :=
  sort_perm dLe_tups (fun a b c h1 h2 => (leI_iff a c).mpr (List.le_trans ((leI_iff a b).mp h1) ((leI_iff b c).mp h2)))
    (fun a b => by rw [Bool.or_eq_true, leI_iff, leI_iff]; exact List.le_total _ _)
    (fun a b h1 h2 => List.le_antisymm ((leI_iff a b).mp h1) ((leI_iff b a).mp h2)) p

/-! ### what lists make sets here -/
def strsOf? : List D → Option (List Str)
  | [] => some []
  | .str x :: r => (strsOf? r).map (x :: ·)
  | _ :: _ => none
def intsOf? : List D → Option (List Int)
  | [] => some []
  | .int x :: r => (intsOf? r).map (x :: ·)
  | _ :: _ => none
def tupsOf? : List D → Option (List (List Int))
  | [] => some []
  | .tuple (x :: xs) :: r => match intsOf? (x :: xs), tupsOf? r with
    | some a, some l => some (a :: l)
    | _, _ => none
  | _ :: _ => none
theorem strsOf?_eq : ∀ {l : List D} {xs : List Str}, strsOf? l = some xs → l = xs.map .str
  | [], xs, h => by cases h; rfl
  | .str x :: r, xs, h => by
    rw [strsOf?] at h
    obtain ⟨ys, h1, rfl⟩ := Option.map_eq_some_iff.mp h
    rw [strsOf?_eq h1]; rfl
theorem intsOf?_eq : ∀ {l : List D} {xs : List Int}, intsOf? l = some xs → l = xs.map .int
  | [], xs, h => by cases h; rfl
  | .int x :: r, xs, h => by
    rw [intsOf?] at h
    obtain ⟨ys, h1, rfl⟩ := Option.map_eq_some_iff.mp h
    rw [intsOf?_eq h1]; rfl
theorem tupsOf?_eq : ∀ {l : List D} {xs : List (List Int)}, tupsOf? l = some xs → l = xs.map tupI
  | [], xs, h => by cases h; rfl
  | .tuple (x :: xs) :: r, ys, h => by
    rw [tupsOf?] at h
    split at h
    · rename_i a l h1 h2
      cases h
      rw [tupsOf?_eq h2, List.map_cons]
      show _ = PyData.tuple (a.map .int) :: _
      rw [← intsOf?_eq h1]
    · cases h
theorem strsOf?_map : ∀ xs : List Str, strsOf? (xs.map .str) = some xs
  | [] => rfl
  | x :: xs => by rw [List.map_cons, strsOf?, strsOf?_map xs]; rfl
theorem intsOf?_map : ∀ xs : List Int, intsOf? (xs.map .int) = some xs
  | [] => rfl
  | x :: xs => by rw [List.map_cons, intsOf?, intsOf?_map xs]; rfl
theorem tupsOf?_map : ∀ xs : List (List Int), (∀ x ∈ xs, x ≠ []) → tupsOf? (xs.map tupI) = some xs
  | [], _ => rfl
  | [] :: xs, h => absurd rfl (h [] List.mem_cons_self)
  | (x :: r) :: xs, h => by
    have e := tupsOf?_map xs fun z hz => h z (List.mem_cons_of_mem _ hz)
    show (match intsOf? (List.map PyData.int (x :: r)), tupsOf? (xs.map tupI) with | some a, some l => some (a :: l) | _, _ => none) = _
    rw [intsOf?_map, e]
inductive SetKd where
  | s (xs : List Str)
  | t (xs : List (List Int))
def setKd (l : List D) : Option SetKd := match strsOf? l with
  | some xs => if xs.length < 4000 then some (.s xs) else none
  | none => match tupsOf? l with
    | some xs => if xs.length < 64 then some (.t xs) else none
    | none => none
/-- sorted(set(l)) -/
def pSSet : D → Rs D
  | .list l => if (setKd l).isSome = true ∧ sortOk l = true then .ok (.list (sortD (dedD l))) else .stuck
  | _ => .stuck
def pLSet : D → Rs D
  | .list l => if (setKd l).isSome = true then .ok (.int (dedD l).length) else .stuck
  | _ => .stuck

def ssV (m : Rs D) : Rs D := m.bind fun d => (pSSet d).nox
def lsV (m : Rs D) : Rs D := m.bind fun d => (pLSet d).nox
/-! ### the calls -/
theorem each_perm {α β : Type} {R : α → β → Prop} {us us' : List α} (p : us'.Perm us) : ∀ {bs : List β}, EachIs R us bs → ∃ bs', bs'.Perm bs ∧ EachIs R us' bs' := by
  induction p with
  | nil => intro bs h; exact ⟨bs, .refl _, h⟩
  | cons x _ ih =>
    intro bs h
    cases h with
    | cons a t =>
      obtain ⟨bs', p', t'⟩ := ih t
      exact ⟨_ :: bs', p'.cons _, .cons a t'⟩
  | swap x y l =>
    intro bs h
    cases h with
    | cons a t =>
      cases t with
      | cons a2 t2 => exact ⟨_, .swap _ _ _, .cons a2 (.cons a t2)⟩
  | trans _ _ ih1 ih2 =>
    intro bs h
    obtain ⟨b1, p1, t1⟩ := ih2 h
    obtain ⟨b2, p2, t2⟩ := ih1 t1
    exact ⟨b2, p2.trans p1, t2⟩

theorem each_mapU {κ : Type} {f : κ → D} : ∀ xs : List κ, EachIs (fun d x => d = f x) (xs.map f) xs
  | [] => .nil
  | x :: xs => .cons rfl (each_mapU xs)
theorem of_each {κ : Type} {f : κ → D} {l : List D} {xs : List κ} (h : EachIs (fun d x => d = f x) l xs) : l = xs.map f := by
  induction h with
  | nil => rfl
  | cons a t ih => rw [List.map_cons, ← ih, ← a]
theorem perm_map_ex {κ : Type} {f : κ → D} {l : List D} {xs : List κ} (p : l.Perm (xs.map f)) : ∃ ys : List κ, ys.Perm xs ∧ l = ys.map f := by
  obtain ⟨ys, p1, e⟩ := each_perm p (each_mapU xs)
  exact ⟨ys, p1, of_each e⟩
def rSetD (w : World) (b : Bool) : List V → Hp → VK → Prop := fun vs H Q => ∃ F l v, vs = [v] ∧ FH F H ∧ Rp (if b then H else F) v (.list l) ∧ (setKd l).isSome = true ∧
  ∀ p ys ds, H p = none → RpA (if b then H else F) ys ds → sortD ds = sortD (dedD l) → ds.length = (dedD l).length → (∀ ds', ds'.Perm ds → sortD ds' = sortD ds) → (∀ d ∈ ds, d ∈ l ∧ ((∃ x, d = .str x) ∨ ∃ ns, d = tupI ns)) → Q (.ref p) (upd H p (SetX w p ys))
theorem rpq_strs {F : Hp} : ∀ {xs : List Str} {vs : List V}, RpA F vs (xs.map .str) → vs = xs.map V.str
  | [], _, h => by cases h; rfl
  | x :: xs, _, h => by
    cases h with
    | cons r t => rw [inv_s r, rpq_strs t]; rfl
theorem rpq_strsU {F : Hp} : ∀ xs : List Str, RpA F (xs.map V.str) (xs.map .str)
  | [] => .nil
  | x :: xs => .cons (.str x) (rpq_strsU xs)
theorem rpq_ints {F : Hp} : ∀ {xs : List Int} {vs : List V}, RpA F vs (xs.map .int) → vs = xs.map V.int
  | [], _, h => by cases h; rfl
  | x :: xs, _, h => by
    cases h with
    | cons r t => rw [inv_i r, rpq_ints t]; rfl
theorem rpq_tups {F : Hp} : ∀ {xs : List (List Int)} {vs : List V}, RpA F vs (xs.map tupI) → ∃ ks : List (Addr × List Int), vs = ks.map (fun p => V.ref p.1) ∧ ks.map (·.2) = xs ∧ ∀ p ∈ ks, F p.1 = some (.tup (p.2.map V.int)) ∧ Rp F (.ref p.1) (tupI p.2)
  | [], _, h => by cases h; exact ⟨[], rfl, rfl, fun p hp => by cases hp⟩
  | x :: xs, _, h => by
    cases h with
    | cons r t =>
      obtain ⟨ks, e1, e2, h3⟩ := rpq_tups t
      obtain ⟨a, us, rfl, h4, z, r5⟩ := inv_t r
      have e5 := rpq_ints r5
      subst e5
      refine ⟨(a, x) :: ks, by rw [List.map_cons, e1], by rw [List.map_cons, e2], fun p hp => ?_⟩
      rcases List.mem_cons.mp hp with ep | hp
      · rw [ep]; exact ⟨h4, r⟩
      · exact h3 p hp
theorem txt_vals : ∀ {l : List (Int × Value)}, (∀ e ∈ l, ∃ t, e.2 = Value.str (mOf e) t) → Vals ((l.map mOf).map V.str) (l.map (·.2))
  | [], _ => .nil
  | e :: l, h => .cons (h e List.mem_cons_self) (txt_vals fun z hz => h z (List.mem_cons_of_mem _ hz))
section
variable {X : Cx} {b : Bool}
theorem c_setD (hc : X.calm = true) (hu : Rm X) : CallR X (.type "set") (rSetD X.w b) := by
  intro pins s σ H vs us Q I rv0 h
  obtain ⟨F, l, v, rfl, fh, rp, hk, q⟩ := h
  obtain ⟨a, xs, rfl, h1, z1, r1⟩ := inv_l rp
  obtain ⟨u0, rfl, ru⟩ := vals1 rv0
  cases ru
  obtain ⟨its, rv, pl, hz⟩ := I.list (.inl (Rd.toH fh h1))
  have hn : H s.heap.objs.size = .none := I.hok.fresh (Nat.le_refl _)
  unfold setKd at hk
  split at hk
  · rename_i ss hs
    have el := strsOf?_eq hs
    subst el
    have e1 := rpq_strs r1
    subst e1
    have hlen : ss.length < 4000 := by
      by_cases hh : ss.length < 4000
      · exact hh
      · rw [if_neg hh] at hk; cases hk
    refine call_set_texts (P := X.prog) (w := X.w) ss (I.ok.hd hc) pl.isList (by simpa using rv) (by unfold scanBound; omega) fun h' tk D ho T k => ?_
    obtain ⟨es, ep, t⟩ := D
    have pm : (es.toList.map mOf).Perm (dedG ss) := T.perm.trans ((List.perm_ext_iff_of_nodup T.nd (dedG_nodup ss)).mpr fun x => by rw [foldC_mem, dedG_mem]; simp)
    have hsz : es.size ≤ ss.length := by
      have e1 := pm.length_eq
      have e2 := foldG_len ss ([] : List Str)
      have e3 : (es.toList.map mOf).length = es.size := by rw [List.length_map]; exact Array.length_toList
      have e4 : (dedG ss).length ≤ 0 + ss.length := e2
      omega
    have pd : ((es.toList.map mOf).map PyData.str).Perm ((dedG ss).map .str) := pm.map _
    refine ⟨.ref s.heap.objs.size, upd H s.heap.objs.size (SetX X.w s.heap.objs.size ((es.toList.map mOf).map V.str)), I.laid (t' := tk) k (Nat.le_refl _) (setX_new ⟨es, ep, t, ⟨_, ho, ⟨rfl, rfl, rfl⟩, rfl⟩, txt_vals T.vals, by unfold scanBound; omega, T.ok.fit, T.ris, T.led⟩), rfl, ?_⟩
    refine q _ _ ((es.toList.map mOf).map .str) hn (rpq_strsU _) ?_ ?_ (fun ds' p => by obtain ⟨zs, pz, rfl⟩ := perm_map_ex p; exact sort_strs pz) fun d hd' => ?_
    · rw [dedD_map eqv_strs]; exact sort_strs pm
    · rw [dedD_map eqv_strs]; exact pd.length_eq
    · obtain ⟨x, hx, rfl⟩ := List.mem_map.mp hd'
      exact ⟨List.mem_map.mpr ⟨x, (dedG_mem ss x).mp (pm.mem_iff.mp hx), rfl⟩, .inl ⟨x, rfl⟩⟩
  · split at hk
    · rename_i ss hs
      have el := tupsOf?_eq hs
      subst el
      have hlen : ss.length < 64 := by
        by_cases hh : ss.length < 64
        · exact hh
        · rw [if_neg hh] at hk; cases hk
      obtain ⟨ks, e1, e2, h3⟩ := rpq_tups r1
      subst e1
      have hkl : ks.length < 64 := by rw [← e2, List.length_map] at hlen; exact hlen
      have rH : ∀ p ∈ ks, SqT X.K H p.1 (p.2.map V.int) := fun p hp => .of (tupH fh (h3 p hp).1)
      have hu' : X.A.units + 65 < cLine := hu
      refine call_set_tups (P := X.prog) (w := X.w) ks (I.ok.hd hc) pl.isList (by simpa using refs_of_vals rv) (fun p hp => I.isT (rH p hp)) hkl (by omega) fun h' tk L es ep t R g k => ?_
      have hes : es.toList.map (fun e => e.2) = L.map fun q => Value.ref q.1 := by rw [R.rows, rowsOf, List.map_map]; rfl
      have hsub : ∀ p ∈ L, p ∈ ks := fun p hp => List.mem_of_mem_take (g.sub p hp)
      have pm : (L.map (·.2)).Perm (dedG ss) := by
        refine (List.perm_ext_iff_of_nodup R.nd (dedG_nodup ss)).mpr fun x => ?_
        rw [dedG_mem, ← e2]
        constructor
        · intro hx
          obtain ⟨p, hp, rfl⟩ := List.mem_map.mp hx
          exact List.mem_map.mpr ⟨p, hsub p hp, rfl⟩
        · intro hx
          obtain ⟨p, hp, rfl⟩ := List.mem_map.mp hx
          exact g.all p (by rw [List.take_length]; exact hp)
      have rl : ∀ L' : List (Addr × List Int), (∀ p ∈ L', p ∈ ks) → RpA (if b then H else F) (L'.map fun p => V.ref p.1) ((L'.map (·.2)).map tupI) := by
        intro L'
        induction L' with
        | nil => intro _; exact .nil
        | cons p L' ih => intro hp; exact .cons (h3 p (hp p List.mem_cons_self)).2 (ih fun z hz => hp z (List.mem_cons_of_mem _ hz))
      refine ⟨.ref s.heap.objs.size, upd H s.heap.objs.size (SetX X.w s.heap.objs.size (L.map fun p => V.ref p.1)), I.laid (t' := tk) k (Nat.le_refl _) (setX_new ⟨es, ep, t, R.ob, by rw [hes]; exact vals_of_refs L, by have := SetTR.size (s := { s with heap := h' }) R; have := R.few; unfold scanBound; omega, SetTR.fits (s := { s with heap := h' }) R, R.tab.ris, R.led⟩), rfl, ?_⟩
      refine q _ _ ((L.map (·.2)).map tupI) hn (rl L hsub) ?_ ?_ (fun ds' p => by obtain ⟨zs, pz, rfl⟩ := perm_map_ex p; exact sort_tups pz) fun d hd' => ?_
      · rw [dedD_map eqv_tups]; exact sort_tups pm
      · rw [dedD_map eqv_tups]; have := pm.length_eq; simp only [List.length_map] at this ⊢; exact this
      · obtain ⟨x, hx, rfl⟩ := List.mem_map.mp hd'
        exact ⟨List.mem_map.mpr ⟨x, (dedG_mem ss x).mp (pm.mem_iff.mp hx), rfl⟩, .inr ⟨x, rfl⟩⟩
    · cases hk
/-- len(set) -/
def rLenX (w : World) : List V → Hp → VK → Prop := fun vs H Q => ∃ p ys, vs = [.ref p] ∧ H p = some (SetX w p ys) ∧ Q (.int ys.length) H
theorem c_lenX : CallR X (.builtin "len") (rLenX X.w) := by
  intro pins s σ H vs us Q I rv0 h
  obtain ⟨p, ys, rfl, hp, q⟩ := h
  obtain ⟨u0, rfl, ru⟩ := vals1 rv0
  cases ru
  have R : SetXr X.w s.heap p ys := (I.hok p _ hp).1
  obtain ⟨es, ep, t, ⟨o, ho, hex, hd⟩, hv, hb, hf, _⟩ := R
  have hl : ys.length = es.size := by
    rw [hv.length, List.length_map]
    exact Array.length_toList
  unfold scanBound at hb
  refine call_len_set ho hex hd hf (by omega) ⟨.int ys.length, H, I.tok _, ⟨_, by rw [hl]⟩, q⟩
end
theorem readsA_ints {h : Heap} : ∀ {ns : List Int} {vs : List Value} {as : List Addr}, ReadsAll h vs (ns.map .int) as → as = []
  | [], _, _, q => by cases q; rfl
  | i :: ns, _, _, q => by
    cases q with
    | cons a1 a2 =>
      cases a1
      rw [readsA_ints a2]; rfl
theorem reads_flat {h : Heap} {v : Value} {as : List Addr} {d : D} (hd : (∃ x, d = .str x) ∨ ∃ ns, d = tupI ns) (r : Reads h v d as) : as = [] := by
  rcases hd with ⟨x, rfl⟩ | ⟨ns, rfl⟩
  · cases r; rfl
  · cases r with
    | tuple _ _ _ q => exact readsA_ints q

section
variable {X : Cx} {b : Bool}
/-- sorted(set) -/
def rSrtX (X : Cx) (b : Bool) : List V → Hp → VK → Prop := fun vs H Q => ∃ F p ys ds, vs = [.ref p] ∧ FH F H ∧ H p = some (SetX X.w p ys) ∧ RpA (if b then H else F) ys ds ∧ AllAlike ds ∧ Sortable ds ∧
  (∀ d ∈ ds, SeqAt.shaped d = true ∧ d.depth ≤ 60 ∧ ((∃ x, d = .str x) ∨ ∃ ns, d = tupI ns)) ∧ DenO X (.ok (.list (sortD ds))) b F H Q ∧ ∀ ds', ds'.Perm ds → sortD ds' = sortD ds
theorem sorted_alike {l l' : List D} (h : AllAlike l) (s : ∀ d ∈ l', d ∈ l) : AllAlike l' := fun d hd d' hd' => h d (s d hd) d' (s d' hd')
theorem sorted_able {l l' : List D} (h : Sortable l) (s : ∀ d ∈ l', d ∈ l) : Sortable l' := h.imp (fun q d hd => q d (s d hd)) fun q d hd => q d (s d hd)
theorem c_srtX (hc : X.calm = true) (hu : Rm X) : CallR X (.builtin "sorted") (rSrtX X b) := by
  intro pins s σ H vs us Q I rv0 h
  obtain ⟨F, p, ys, ds, rfl, fh, hp, rp, hal, hso, hsh, k, hpm⟩ := h
  obtain ⟨u0, rfl, ru⟩ := vals1 rv0
  cases ru
  have R : SetXr X.w s.heap p ys := (I.hok p _ hp).1
  obtain ⟨es, ep, t, ⟨o, ho, hex, hd⟩, hv, hb, hf, hr, hl⟩ := R
  have hyl := rp.length
  have hyl2 : ys.length = es.size := by
    rw [hv.length, List.length_map]
    exact Array.length_toList
  have rH : RpA H ys ds := RpA.toH fh rp
  have hl2 : ((ys.zip ds).map fun p => p.2) = ds := zip_snd hyl
  have e0 : EachIs (fun (v : Value) (p : V × D) => RelV p.1 v ∧ ∃ as, Reads s.heap v p.2 as ∧ as = []) (es.toList.map (·.2)) (ys.zip ds) := by
    have go : ∀ {xs : List V} {us : List Value}, Vals xs us → ∀ {l : List D}, RpA H xs l → (∀ d ∈ l, SeqAt.shaped d = true ∧ d.depth ≤ 60 ∧ ((∃ x, d = .str x) ∨ ∃ ns, d = tupI ns)) → EachIs (fun (v : Value) (p : V × D) => RelV p.1 v ∧ ∃ as, Reads s.heap v p.2 as ∧ as = []) us (xs.zip l) := by
      intro xs us h
      induction h with
      | nil => intro l r _; cases r; exact .nil
      | cons r t ih =>
        intro l rp hs
        cases rp with
        | cons r0 rn =>
          obtain ⟨as, q⟩ := reads_of I r r0 (hs _ List.mem_cons_self).1
          exact .cons ⟨r, as, q, reads_flat (hs _ List.mem_cons_self).2.2 q⟩ (ih rn fun d hd => hs d (List.mem_cons_of_mem _ hd))
    exact go hv rH hsh
  apply Calls.call_function_entry kind_sorted plain_sorted entry_sorted (args_sorted1 _)
  unfold Builtin.«sorted»
  refine wpAny_bind (m := checkCount _ 1 1 _) (wpAny_pure (wpAny_bind ?_))
  refine (collect_set (A := X.A.in1) (I.ok.hd hc) ⟨o, ho, hex.1, hd⟩ hf hb hr hl fun s1 vs1 k1 hz g1 o1 pm => ?_)
  obtain ⟨bs, pb, eb⟩ := each_perm pm e0
  have hbl : bs.length = es.size := by rw [pb.length_eq, List.length_zip, ← hyl]; omega
  have hvl : vs1.length = es.size := by rw [eb.length, hbl]
  have hsz : es.size ≤ 16777216 := by unfold scanBound at hb; omega
  have hbd : ∀ q ∈ bs, q.2 ∈ ds := fun q hq => by rw [← hl2]; exact List.mem_map.mpr ⟨q, pb.mem_iff.mp hq, rfl⟩
  have hsub : ∀ d ∈ bs.map (fun q => q.2), d ∈ ds := fun d hd => by
    obtain ⟨q, qb, rfl⟩ := List.mem_map.mp hd
    exact hbd q qb
  refine wpAny_bind (wpAny_newList ?_ (by rw [hvl, sizeLine_eq]; exact hsz))
  have hoL : (s1.heap.push (seqObj "list" vs1.toArray 0)).get? s1.heap.objs.size = some (seqObj "list" vs1.toArray 0) := Heap.get?_push_size _ rfl
  refine wpAny_bind (wpAny_holding (PySem.W.list_sort_data (s := { s1 with heap := s1.heap.push (seqObj "list" vs1.toArray 0) }) (bs := bs) (enc := fun q => q.2) (R := fun v q => RelV q.1 v) hoL (eb.mono fun _ _ z => z.1)
    (eb.mono fun v q ⟨_, as, q1, q2⟩ => ⟨as, PyProof.Rows.Reads.keeps (fun b u e => Heap.get?_push_of_some _ (k1 b u e)) q1, by rw [q2]; simp⟩) (sorted_alike hal hsub) (sorted_able hso hsub) (by rw [hbl, sizeLine_eq]; exact hsz) (fun q hq => ?_) fun out hol eo => ?_))
  · have := (hsh q.2 (hbd q hq)).2.1
    have hu' : X.A.units + 65 < cLine := hu
    show X.A.units + 1 + 1 + q.2.depth < cLine
    omega
  · obtain ⟨c, hcc⟩ := sortedHeap_at (vs := vs1) (out := out.toArray) hoL
    generalize hsd : bs.mergeSort (dataLe false fun q => q.2) = srt at eo
    have perm : srt.Perm bs := by rw [← hsd]; exact List.mergeSort_perm _ _
    have hvv : Vals (srt.map (·.1)) out := each_vals eo
    have hsn : srt.map (·.2) = sortD (bs.map fun q => q.2) := by
      rw [← hsd, List.map_mergeSort (s := dLe) (fun p hp q hq => by rw [PySem.W.dataLe_eq]; rfl)]; rfl
    have hsn2 : srt.map (·.2) = sortD ds := by
      rw [hsn]
      refine hpm _ ?_
      have := pb.map (fun q : V × D => q.2)
      rw [hl2] at this
      exact this
    have hz2 : (srt.map (·.1)).length ≤ sizeLine := by rw [List.length_map, perm.length_eq, hbl, sizeLine_eq]; exact hsz
    have hn : H s1.heap.objs.size = none := I.hok.fresh hz
    have kk : ∀ b u, s.heap.get? b = some u → (sortedHeap (s1.heap.push (seqObj "list" vs1.toArray 0)) s1.heap.objs.size vs1 out.toArray).get? b = some u := fun b u e => by
      have q := k1 b u e
      have hlt := Heap.lt_size q
      exact (sortedHeap_old (Nat.ne_of_lt hlt) (by rw [size_push']; exact Nat.lt_succ_of_lt hlt)).trans (Heap.get?_push_of_some _ q)
    have J : Inv X pins σ (upd H s1.heap.objs.size (.lst (srt.map (·.1)))) { s with heap := sortedHeap (s1.heap.push (seqObj "list" vs1.toArray 0)) s1.heap.objs.size vs1 out.toArray, gens := s1.gens, drawn := s1.drawn, toks := s1.toks } :=
      I.call (ch := []) (Un.laid kk hz hn) (I.hok.laid kk hz ⟨hz2, out, c, hvv, hcc⟩) (by rw [g1]; exact I.bare) (fun _ z => nomatch z)
    have es : ({ s1 with heap := sortedHeap (s1.heap.push (seqObj "list" vs1.toArray 0)) s1.heap.objs.size vs1 out.toArray } : Shared) = { s with heap := sortedHeap (s1.heap.push (seqObj "list" vs1.toArray 0)) s1.heap.objs.size vs1 out.toArray, gens := s1.gens, drawn := s1.drawn, toks := s1.toks } := by
      cases s1
      cases s
      cases o1
      rfl
    apply wpAny_pure; refine ⟨_, rfl, ?_⟩
    show EP X pins σ Q (.ref s1.heap.objs.size) ({ s1 with heap := sortedHeap (s1.heap.push (seqObj "list" vs1.toArray 0)) s1.heap.objs.size vs1 out.toArray } : Shared)
    rw [es]
    refine ⟨.ref s1.heap.objs.size, _, J, rfl, ?_⟩
    have xx : Ext F H (upd F s1.heap.objs.size (.lst (srt.map (·.1)))) (upd H s1.heap.objs.size (.lst (srt.map (·.1)))) := .new fh hn
    have each : RpA (if b then H else F) (srt.map (·.1)) (sortD ds) := by
      rw [← hsn2]
      exact rpa_pairs fun p hp => rpa_zip rp p (pb.mem_iff.mp (perm.mem_iff.mp hp))
    cases b with
    | true => exact k _ _ _ xx (.lst (.inl upd_same) hz2 (RpA.mono xx.h each))
    | false => exact k _ _ _ xx (.lst (.inl upd_same) hz2 (RpA.mono xx.f each))
end
section
variable {X : Cx} {W : WX} {b : Bool} {ρ : List Sl} {e : Expr} {p1 p2 p3 pos : Pos}
theorem setX_ext {F H : Hp} {w : World} {p : Addr} {ys : List V} (fh : FH F H) (hp : H p = none) : Ext F H F (upd H p (SetX w p ys)) :=
  ⟨.refl _, same_upd hp, ⟨fun a o h => by
    have : a ≠ p := fun z => by subst z; rw [fh.none hp] at h; cases h
    rw [upd_ne this]; exact fh.sub a o h, fun a xs h => by
    by_cases z : a = p
    · subst z; rw [upd_same] at h; cases h
    · rw [upd_ne z] at h; exact fh.tup a xs h, fh.nd⟩, fun a h h' => absurd h h'⟩
theorem ev_sset (hc : X.calm = true) (hu : Rm X) {m : Rs D} (B : Bn X "sorted" (.builtin "sorted")) (B2 : Bn X "set" (.type "set")) (h : EV X W b ρ e m)
    (he : starEach [.Call (.Name "set" p2) [e] [] p3] X.env = (false, eval (.Call (.Name "set" p2) [e] [] p3) X.env) :: starEach [] X.env := by rfl) (he2 : starEach [e] X.env = (false, eval e X.env) :: starEach [] X.env := by rfl) :
    EV X W b ρ (.Call (.Name "sorted" p1) [.Call (.Name "set" p2) [e] [] p3] [] pos) (m.bind fun d => (pSSet d).nox) :=
  PE.imp (pe_callB (c_srtX (b := b) hc hu) B.g B.m B.v (pa_cons (pe_callTy (c_setD (b := b) hc hu) B2.g B2.m B2.v (pa_cons h pa_nil he2) B2.n B2.db he2 rfl) pa_nil he) B.n B.db he rfl) fun σ H Q ⟨F, G, S, k⟩ => ⟨F, G, S, by
    cases m with
    | ok d =>
      intro v F1 H1 x1 r1
      have k1 : DenE X W b (pSSet d).nox F H σ Q := k
      have k2 := DenE.toO (W := W) (σ := σ) (k1.mono x1)
      cases d with
      | list l =>
        obtain ⟨⟨hk, hs⟩, k3⟩ := den_ite (show DenO X (if (setKd l).isSome = true ∧ sortOk l = true then .ok (.list (sortD (dedD l))) else .stuck) b F1 H1 Q from k2)
        obtain ⟨hal, hso, hsh, hlen⟩ := sortOk_ok hs
        refine ⟨F1, l, v, rfl, x1.fh, r1, hk, fun p ys ds hp ry es el hpm hd => ?_⟩
        have xx := setX_ext (w := X.w) (ys := ys) x1.fh hp
        have hsub : ∀ d ∈ ds, d ∈ l := fun d hq => (hd d hq).1
        refine ⟨F1, p, ys, ds, rfl, xx.fh, upd_same, ?_, sorted_alike hal hsub, sorted_able hso hsub, fun d hq => ⟨(hsh d (hsub d hq)).1, (hsh d (hsub d hq)).2, (hd d hq).2⟩, ?_, ?_⟩
        · cases b with
          | true => exact RpA.mono xx.h ry
          | false => exact ry
        · rw [es]
          exact fun v F' H' x r => k3 v F' H' (xx.trans x) r
        · exact hpm
      | _ => exact (show False from k2).elim
    | exc c => exact k
    | stuck => exact k⟩
theorem ev_lset (hc : X.calm = true) (hu : Rm X) {m : Rs D} (B : Bn X "len" (.builtin "len")) (B2 : Bn X "set" (.type "set")) (h : EV X W true ρ e m)
    (he : starEach [.Call (.Name "set" p2) [e] [] p3] X.env = (false, eval (.Call (.Name "set" p2) [e] [] p3) X.env) :: starEach [] X.env := by rfl) (he2 : starEach [e] X.env = (false, eval e X.env) :: starEach [] X.env := by rfl) :
    EV X W b ρ (.Call (.Name "len" p1) [.Call (.Name "set" p2) [e] [] p3] [] pos) (m.bind fun d => (pLSet d).nox) :=
  PE.imp (pe_callB c_lenX B.g B.m B.v (pa_cons (pe_callTy (c_setD (b := true) hc hu) B2.g B2.m B2.v (pa_cons h pa_nil he2) B2.n B2.db he2 rfl) pa_nil he) B.n B.db he rfl) fun σ H Q ⟨F, G, S, k⟩ => ⟨F, G, S, by
    cases m with
    | ok d =>
      intro v F1 H1 x1 r1
      have k1 : DenE X W b (pLSet d).nox F H σ Q := k
      have k2 := DenE.toO (W := W) (σ := σ) (k1.mono x1)
      cases d with
      | list l =>
        obtain ⟨hk, k3⟩ := den_ite (show DenO X (if (setKd l).isSome = true then .ok (.int (dedD l).length) else .stuck) b F1 H1 Q from k2)
        refine ⟨F1, l, v, rfl, x1.fh, r1, hk, fun p ys ds hp ry es el hpm hd => ?_⟩
        have xx := setX_ext (w := X.w) (ys := ys) x1.fh hp
        refine ⟨p, ys, rfl, upd_same, ?_⟩
        rw [RpA.length ry, el]
        exact k3 _ F1 _ xx (.int _)
      | _ => exact (show False from k2).elim
    | exc c => exact k
    | stuck => exact k⟩
end
section
variable {U : Un} {N : List Str} {sc : Scope} {fn : Str → Bool} {k : Nat} {X : Cx} {W : WX} {ρ : List Sl} {b : Bool} {e : Expr} {p1 p2 p3 pos : Pos}
theorem y_sset (y : DY U N sc fn k X W) {m : Rs D} (h : EV X W b ρ e m) (c : gnC sc "sorted" = true := by decide +kernel) (c2 : gnC sc "set" = true := by decide +kernel)
    (he : starEach [.Call (.Name "set" p2) [e] [] p3] X.env = (false, eval (.Call (.Name "set" p2) [e] [] p3) X.env) :: starEach [] X.env := by rfl) (he2 : starEach [e] X.env = (false, eval e X.env) :: starEach [] X.env := by rfl) :
    EV X W b ρ (.Call (.Name "sorted" p1) [.Call (.Name "set" p2) [e] [] p3] [] pos) (ssV m) :=
  ev_sset y.c y.rm (y.bn c (by decide +kernel) (by decide +kernel)) (y.bn c2 (by decide +kernel) (by decide +kernel)) h he he2
theorem y_lset (y : DY U N sc fn k X W) {m : Rs D} (h : EV X W true ρ e m) (c : gnC sc "len" = true := by decide +kernel) (c2 : gnC sc "set" = true := by decide +kernel)
    (he : starEach [.Call (.Name "set" p2) [e] [] p3] X.env = (false, eval (.Call (.Name "set" p2) [e] [] p3) X.env) :: starEach [] X.env := by rfl) (he2 : starEach [e] X.env = (false, eval e X.env) :: starEach [] X.env := by rfl) :
    EV X W b ρ (.Call (.Name "len" p1) [.Call (.Name "set" p2) [e] [] p3] [] pos) (lsV m) :=
  ev_lset y.c y.rm (y.bn c (by decide +kernel) (by decide +kernel)) (y.bn c2 (by decide +kernel) (by decide +kernel)) h he he2
end
end Pu

/-! The pure layer, part 17: dicts of one's own; sorted(dict); min, max of a list; list(range); enumerate, zip, range by steps. -/
namespace Pu
open PySem PySem.Spec
open PyProof.Rows L2
open PySem.W (dataLt alike AllAlike Sortable EachIs dataLe minD maxD)

/-! ### x = {}; x[k] = v -/
def putD {κ : Type} [DecidableEq κ] (kvs : List (κ × D)) (k : κ) (v : D) : List (κ × D) :=
  if (kvs.any fun p => decide (p.1 = k)) = true then kvs.map (fun p => if p.1 = k then (p.1, v) else p) else kvs ++ [(k, v)]
section
variable {κ : Type} [dκ : DecidableEq κ]
theorem put_any {ws : List (κ × V)} {kvs : List (κ × D)} (k : κ) (h : ws.map (·.1) = kvs.map (·.1)) : (ws.any fun p => decide (p.1 = k)) = (kvs.any fun p => decide (p.1 = k)) := by
  have e1 : (ws.any fun p => decide (p.1 = k)) = (ws.map (·.1)).any fun x => decide (x = k) := by rw [List.any_map]; rfl
  have e2 : (kvs.any fun p => decide (p.1 = k)) = (kvs.map (·.1)).any fun x => decide (x = k) := by rw [List.any_map]; rfl
  rw [e1, e2, h]
theorem put_in {F : Hp} {k : κ} {v : V} {d : D} (r : Rp F v d) : ∀ {ws : List (κ × V)} {kvs : List (κ × D)}, ws.map (·.1) = kvs.map (·.1) → RpA F (ws.map (·.2)) (kvs.map (·.2)) →
    (ws.map fun p => if p.1 = k then (p.1, v) else p).map (·.1) = (kvs.map fun p => if p.1 = k then (p.1, d) else p).map (·.1) ∧ RpA F ((ws.map fun p => if p.1 = k then (p.1, v) else p).map (·.2)) ((kvs.map fun p => if p.1 = k then (p.1, d) else p).map (·.2))
  | [], [], _, _ => ⟨rfl, .nil⟩
  | [], _ :: _, hq, _ => by cases hq
  | _ :: _, [], hq, _ => by cases hq
  | (a, u) :: ws, (c, e) :: kvs, h, q => by
    rw [List.map_cons, List.map_cons] at h q
    have h1 : a = c := (List.cons.inj h).1
    subst h1
    cases q with
    | cons q0 qn =>
      obtain ⟨i1, i2⟩ := put_in r (List.cons.inj h).2 qn
      simp only [List.map_cons]
      by_cases e : a = k
      · rw [if_pos e, if_pos e]
        exact ⟨by rw [i1], .cons r i2⟩
      · rw [if_neg e, if_neg e]
        exact ⟨by rw [i1], .cons q0 i2⟩
theorem put_rel {F : Hp} {k : κ} {v : V} {d : D} {ws : List (κ × V)} {kvs : List (κ × D)} (h : ws.map (·.1) = kvs.map (·.1)) (q : RpA F (ws.map (·.2)) (kvs.map (·.2))) (r : Rp F v d) :
    (putK ws k v).map (·.1) = (putD kvs k d).map (·.1) ∧ RpA F ((putK ws k v).map (·.2)) ((putD kvs k d).map (·.2)) := by
  unfold putK putD
  rw [put_any k h]
  split
  · exact put_in r h q
  · refine ⟨by rw [List.map_append, List.map_append, h]; rfl, ?_⟩
    rw [List.map_append, List.map_append]
    exact q.app (.cons r .nil)
end
def putKS {β : Type} (mv mk : Rs D) (kvs : List (Key × D)) (kk : List (Key × D) → Rs (Out β)) : Rs (Out β) := mv.bind fun v => mk.bind fun kd => match keyOf kd with
  | some k => if kvs.length < 16000000 then kk (putD kvs k v) else .stuck
  | none => .stuck
def tkOf : D → Option (List Key)
  | .tuple ks => keysOf ks
  | _ => none
def putTS {β : Type} (mv mk : Rs D) (kvs : List (List Key × D)) (kk : List (List Key × D) → Rs (Out β)) : Rs (Out β) := mv.bind fun v => mk.bind fun kd => match tkOf kd with
  | some k => if kvs.length < 16000000 then kk (putD kvs k v) else .stuck
  | none => .stuck
section
variable {U : Un} {N : List Str} {sc : Scope} {k : Nat} {X : Cx} {W : WX} {ρ : List Sl} {e ev ek : Expr} {pos pos' p1 p2 p3 : Pos} {x : Str} {β : Type} {ρ' : β → List Sl} {rest : List Stmt}
theorem s_newK (z : DZ U N sc k X W) (i : Nat) {kk : Rs (Out β)} (hr : BS X W (ρ.set i (.ok [])) rest ρ' kk) (hi : i < ρ.length := by simp) (cx : vsC N sc (fun _ => true) i x = true := by decide +kernel)
    (hs : swapsWith (.Dict [] [] p1) (some (.Name x pos')) pos.line X.env = pure false := by rfl) : BS X W ρ (.Assign [.Name x pos'] (.Dict [] [] p1) pos :: rest) ρ' kk := by
  have hx := vs_of z.y.n z.y.s z.y.f cx
  refine PSs.imp (pss_cons (ps_set hx.nd hx.n hx.l pe_dnewK hs hx.f) hr) fun D σ H ⟨F, G, S, q⟩ p hp => ⟨F, G, S.newOwn hi hp rfl (fun _ zz => by cases zz) ⟨[], upd_same, rfl, .nil⟩, ?_⟩
  rw [setlen]
  exact q
theorem s_newT (z : DZ U N sc k X W) (i : Nat) {kk : Rs (Out β)} (hr : BS X W (ρ.set i (.ot [])) rest ρ' kk) (hi : i < ρ.length := by simp) (cx : vsC N sc (fun _ => true) i x = true := by decide +kernel)
    (hs : swapsWith (.Dict [] [] p1) (some (.Name x pos')) pos.line X.env = pure false := by rfl) : BS X W ρ (.Assign [.Name x pos'] (.Dict [] [] p1) pos :: rest) ρ' kk := by
  have hx := vs_of z.y.n z.y.s z.y.f cx
  refine PSs.imp (pss_cons (ps_set hx.nd hx.n hx.l pe_dnewT hs hx.f) hr) fun D σ H ⟨F, G, S, q⟩ p hp => ⟨F, G, S.newOwn hi hp rfl (fun _ zz => by cases zz) ⟨[], upd_same, rfl, .nil⟩, ?_⟩
  rw [setlen]
  exact q
theorem s_putK (z : DZ U N sc k X W) (i : Nat) {kvs : List (Key × D)} {mv mk : Rs D} {kk : List (Key × D) → Rs (Out β)} (hs : ρ[i]? = some (.ok kvs)) (hv : EV X W false ρ ev mv) (hk : EV X W true ρ ek mk) (hr : ∀ l, BS X W (ρ.set i (.ok l)) rest ρ' (kk l)) (cx : vaC N sc i x = true := by decide +kernel)
    (hw : swapsWith ev (some (.Subscript (.Name x p1) ek p2)) pos.line X.env = pure false := by rfl) : BS X W ρ (.Assign [.Subscript (.Name x p1) ek p2] ev pos :: rest) ρ' (putKS mv mk kvs kk) := by
  have hx := va_of z.y.n z.y.s cx
  have st := ps_dput (X := X) (pos := pos) (pos' := p2) z.y.rm.u1 (pe_var (pos := p1) hx.n hx.v hx.d hx.c) hk hv hw
  have bad : ∀ {m : Rs (Out β)}, m = .stuck → BS X W ρ (.Assign [.Subscript (.Name x p1) ek p2] ev pos :: rest) ρ' m := fun {m} e => by
    subst e
    exact PSs.imp pss_never fun D σ H ⟨F, G, S, q⟩ => q
  cases mv with
  | exc c => exact PSs.imp (pss_cons st pss_never) fun D σ H ⟨F, G, S, q⟩ => ⟨F, G, S, fun v H' c s => (show DenS X W (.exc _) ρ' F G σ.length D from q) v σ H' c (S.fh.sub.trans s) (S.gh.trans s) rfl⟩
  | stuck => exact bad rfl
  | ok d =>
    cases mk with
    | exc c =>
      refine PSs.imp (pss_cons st pss_never) fun D σ H ⟨F, G, S, q⟩ => ⟨F, G, S, fun v F1 H1 x1 r1 => ?_⟩
      obtain ⟨a, e1, _⟩ := S.sl i _ hs
      exact ⟨.ref a, e1, F1, G, S.mono x1, fun v H' c s => (show DenS X W (.exc _) ρ' F G σ.length D from q) v σ H' c (S.fh.sub.trans (x1.h.trans s)) (S.gh.trans (x1.h.trans s)) rfl⟩
    | stuck => exact bad rfl
    | ok kd =>
      cases hkd : keyOf kd with
      | none => exact bad (by show (match keyOf kd with | some k => _ | none => _) = _; rw [hkd])
      | some q1 =>
        by_cases hl : kvs.length < 16000000
        · have em : putKS (.ok d) (.ok kd) kvs kk = kk (putD kvs q1 d) := by
            show (match keyOf kd with | some k => if kvs.length < 16000000 then kk (putD kvs k d) else Rs.stuck | none => Rs.stuck) = _
            rw [hkd]; exact if_pos hl
          rw [em]
          refine PSs.imp (pss_cons st (hr (putD kvs q1 d))) fun D σ H ⟨F, G, S, q⟩ => ⟨F, G, S, fun v F1 H1 x1 r1 => ?_⟩
          have S1 := S.mono x1
          obtain ⟨a, e1, _⟩ := S.sl i _ hs
          refine ⟨.ref a, e1, F1, G, S1, fun u F2 H2 x2 r2 => ?_⟩
          have S2 := S1.mono x2
          obtain ⟨a', e2, f2, g2, ws, h2, hd2, rr2⟩ := S2.sl i _ hs
          rw [e1] at e2
          cases e2
          have ek' := keyOf_eq hkd
          subst ek'
          have hu := rp_key r2
          subst hu
          have hwl : ws.length = kvs.length := by
            have := congrArg List.length hd2
            rwa [List.length_map, List.length_map] at this
          have pr := put_rel (k := q1) hd2 rr2 ((show Rp F1 v d from r1).mono x2.f)
          refine ⟨a, _, rfl, DPut.k h2 (by rw [hwl, sizeLine_eq]; omega), F2, G, S2.own hs rfl e1 f2 g2 rfl (fun _ zz => by cases zz) ⟨_, upd_same, pr.1, pr.2⟩, ?_⟩
          exact (show DenS X W (kk (putD kvs q1 d)) ρ' F G σ.length D from q).gr ((x1.trans x2).gr S.gh)
        · exact bad (by show (match keyOf kd with | some k => if kvs.length < 16000000 then kk (putD kvs k d) else Rs.stuck | none => Rs.stuck) = _; rw [hkd]; exact if_neg hl)
theorem s_putT (z : DZ U N sc k X W) (i : Nat) {kvs : List (List Key × D)} {mv mk : Rs D} {kk : List (List Key × D) → Rs (Out β)} (hs : ρ[i]? = some (.ot kvs)) (hv : EV X W false ρ ev mv) (hk : EV X W true ρ ek mk) (hr : ∀ l, BS X W (ρ.set i (.ot l)) rest ρ' (kk l)) (cx : vaC N sc i x = true := by decide +kernel)
    (hw : swapsWith ev (some (.Subscript (.Name x p1) ek p2)) pos.line X.env = pure false := by rfl) : BS X W ρ (.Assign [.Subscript (.Name x p1) ek p2] ev pos :: rest) ρ' (putTS mv mk kvs kk) := by
  have hx := va_of z.y.n z.y.s cx
  have st := ps_dput (X := X) (pos := pos) (pos' := p2) z.y.rm.u1 (pe_var (pos := p1) hx.n hx.v hx.d hx.c) hk hv hw
  have bad : ∀ {m : Rs (Out β)}, m = .stuck → BS X W ρ (.Assign [.Subscript (.Name x p1) ek p2] ev pos :: rest) ρ' m := fun {m} e => by
    subst e
    exact PSs.imp pss_never fun D σ H ⟨F, G, S, q⟩ => q
  cases mv with
  | exc c => exact PSs.imp (pss_cons st pss_never) fun D σ H ⟨F, G, S, q⟩ => ⟨F, G, S, fun v H' c s => (show DenS X W (.exc _) ρ' F G σ.length D from q) v σ H' c (S.fh.sub.trans s) (S.gh.trans s) rfl⟩
  | stuck => exact bad rfl
  | ok d =>
    cases mk with
    | exc c =>
      refine PSs.imp (pss_cons st pss_never) fun D σ H ⟨F, G, S, q⟩ => ⟨F, G, S, fun v F1 H1 x1 r1 => ?_⟩
      obtain ⟨a, e1, _⟩ := S.sl i _ hs
      exact ⟨.ref a, e1, F1, G, S.mono x1, fun v H' c s => (show DenS X W (.exc _) ρ' F G σ.length D from q) v σ H' c (S.fh.sub.trans (x1.h.trans s)) (S.gh.trans (x1.h.trans s)) rfl⟩
    | stuck => exact bad rfl
    | ok kd =>
      cases hkd : tkOf kd with
      | none => exact bad (by show (match tkOf kd with | some k => _ | none => _) = _; rw [hkd])
      | some q1 =>
        by_cases hl : kvs.length < 16000000
        · have em : putTS (.ok d) (.ok kd) kvs kk = kk (putD kvs q1 d) := by
            show (match tkOf kd with | some k => if kvs.length < 16000000 then kk (putD kvs k d) else Rs.stuck | none => Rs.stuck) = _
            rw [hkd]; exact if_pos hl
          rw [em]
          refine PSs.imp (pss_cons st (hr (putD kvs q1 d))) fun D σ H ⟨F, G, S, q⟩ => ⟨F, G, S, fun v F1 H1 x1 r1 => ?_⟩
          have S1 := S.mono x1
          obtain ⟨a, e1, _⟩ := S.sl i _ hs
          refine ⟨.ref a, e1, F1, G, S1, fun u F2 H2 x2 r2 => ?_⟩
          have S2 := S1.mono x2
          obtain ⟨a', e2, f2, g2, ws, h2, hd2, rr2⟩ := S2.sl i _ hs
          rw [e1] at e2
          cases e2
          have hwl : ws.length = kvs.length := by
            have := congrArg List.length hd2
            rwa [List.length_map, List.length_map] at this
          match kd, hkd, r2 with
          | .tuple ks, hkd, r2 =>
            have ek' := keysOf_eq hkd
            subst ek'
            obtain ⟨c, us, rfl, hc, _, ru⟩ := inv_t r2
            have hu := rp_keys ru
            subst hu
            have pr := put_rel (k := q1) hd2 rr2 ((show Rp F1 v d from r1).mono x2.f)
            refine ⟨a, _, rfl, .inr ⟨ws, q1, c, h2, rfl, hc, by rw [hwl, sizeLine_eq]; omega, rfl⟩, F2, G, S2.own hs rfl e1 f2 g2 rfl (fun _ zz => by cases zz) ⟨_, upd_same, pr.1, pr.2⟩, ?_⟩
            exact (show DenS X W (kk (putD kvs q1 d)) ρ' F G σ.length D from q).gr ((x1.trans x2).gr S.gh)
        · exact bad (by show (match tkOf kd with | some k => if kvs.length < 16000000 then kk (putD kvs k d) else Rs.stuck | none => Rs.stuck) = _; rw [hkd]; exact if_neg hl)
end
end Pu

/-! The pure layer, part 18: sorted(dict); min, max of a list; list(range); enumerate, zip, range by steps. -/
namespace Pu
open PySem PySem.Spec
open PyProof.Rows L2
open PySem.W (dataLt alike AllAlike Sortable EachIs dataLe minD maxD)

section
variable {X : Cx} {b : Bool}
/-- sorted(x), by what is gathered of x -/
theorem sorted_by {pins : List (Addr × Obj)} {σ : L2.St} {F H : Hp} {s : Shared} {Q : VK} {r : Addr} {ds : List D} (I : Inv X pins σ H s) (hu : Rm X) (fh : FH F H) (ok : sortOk ds = true) (flat : ∀ d ∈ ds, flatD d = true)
    (col : ∀ (E : Value → Shared → Prop) (R : List Value → Shared → Prop), (∀ s1 vs (ys : List V), (∀ c o, s.heap.get? c = some o → s1.heap.get? c = some o) → s1.gens = s.gens → s1.os = s.os → Vals ys vs → RpA (if b then H else F) ys ds → R vs s1) →
      wpAny (model X.prog X.w) X.A.in1 (collect (.ref r)) R E s)
    (k : DenO X (.ok (.list (sortD ds))) b F H Q) : wpAny (model X.prog X.w) X.A (call (.builtin "sorted") [.ref r]) (EP X pins σ Q) X.xe s := by
  obtain ⟨hal, hso, hsh, hlen⟩ := sortOk_ok ok
  apply Calls.call_function_entry kind_sorted plain_sorted entry_sorted (args_sorted1 _)
  unfold Builtin.«sorted»
  refine wpAny_bind (m := checkCount _ 1 1 _) (wpAny_pure (wpAny_bind ?_))
  refine col _ _ fun s1 vs1 ys k1 g1 o1 hv rp => ?_
  have hyl := rp.length
  have hvl : vs1.length = ds.length := by rw [← hv.length, hyl]
  have rH : RpA H ys ds := RpA.toH fh rp
  have hl2 : ((ys.zip ds).map fun p => p.2) = ds := zip_snd hyl
  have e0 : EachIs (fun (v : Value) (p : V × D) => RelV p.1 v ∧ ∃ as, Reads s.heap v p.2 as ∧ as = []) vs1 (ys.zip ds) := by
    have none_of : ∀ (d : D) (v : Value) (as : List Addr), flatD d = true → Reads s.heap v d as → as = [] := by
      intro d
      have both : (∀ d : D, ∀ (v : Value) (as : List Addr), flatD d = true → Reads s.heap v d as → as = []) := by
        intro d
        refine PyData.rec (motive_1 := fun d => ∀ (v : Value) (as : List Addr), flatD d = true → Reads s.heap v d as → as = []) (motive_2 := fun ds => ∀ (vs : List Value) (as : List Addr), flatDs ds = true → ReadsAll s.heap vs ds as → as = []) (motive_3 := fun _ => True) (motive_4 := fun _ => True) ?_ ?_ ?_ ?_ ?_ ?_ ?_ ?_ ?_ ?_ ?_ ?_ d
        · intro v as _ q; cases q; rfl
        · intro b v as _ q; cases q; rfl
        · intro i v as _ q; cases q; rfl
        · intro x v as _ q; cases q; rfl
        · intro xs _ v as c q; rw [flatD] at c <;> first | cases c | (intros; rename_i z; cases z)
        · intro xs ih v as c q
          cases q with
          | tuple _ _ _ q => exact ih _ _ (by rw [flatD] at c; exact c) q
        · intro kvs _ v as c q; rw [flatD] at c <;> first | cases c | (intros; rename_i z; cases z)
        · intro vs as _ q; cases q; rfl
        · intro x xs ih1 ih2 vs as c q
          rw [flatDs, Bool.and_eq_true] at c
          cases q with
          | cons a1 a2 => rw [ih1 _ _ c.1 a1, ih2 _ _ c.2 a2]; rfl
        · trivial
        · intros; trivial
        · intros; trivial
      exact both d
    have go : ∀ {xs : List V} {us : List Value}, Vals xs us → ∀ {l : List D}, RpA H xs l → (∀ d ∈ l, SeqAt.shaped d = true ∧ d.depth ≤ 60) → (∀ d ∈ l, flatD d = true) → EachIs (fun (v : Value) (p : V × D) => RelV p.1 v ∧ ∃ as, Reads s.heap v p.2 as ∧ as = []) us (xs.zip l) := by
      intro xs us h
      induction h with
      | nil => intro l r _ _; cases r; exact .nil
      | cons r t ih =>
        intro l rp hs hf
        cases rp with
        | cons r0 rn =>
          obtain ⟨as, q⟩ := reads_of I r r0 (hs _ List.mem_cons_self).1
          exact .cons ⟨r, as, q, none_of _ _ _ (hf _ List.mem_cons_self) q⟩ (ih rn (fun d hd => hs d (List.mem_cons_of_mem _ hd)) fun d hd => hf d (List.mem_cons_of_mem _ hd))
    exact go hv rH hsh flat
  have hbl : (ys.zip ds).length = ds.length := by rw [List.length_zip, ← hyl]; omega
  have hsz : ds.length ≤ 16777216 := by omega
  have hbd : ∀ q ∈ ys.zip ds, q.2 ∈ ds := fun q hq => by rw [← hl2]; exact List.mem_map.mpr ⟨q, hq, rfl⟩
  refine wpAny_bind (wpAny_newList ?_ (by rw [hvl, sizeLine_eq]; exact hsz))
  have hoL : (s1.heap.push (seqObj "list" vs1.toArray 0)).get? s1.heap.objs.size = some (seqObj "list" vs1.toArray 0) := Heap.get?_push_size _ rfl
  refine wpAny_bind (wpAny_holding (PySem.W.list_sort_data (s := { s1 with heap := s1.heap.push (seqObj "list" vs1.toArray 0) }) (bs := ys.zip ds) (enc := fun q => q.2) (R := fun v q => RelV q.1 v) hoL (e0.mono fun _ _ z => z.1)
    (e0.mono fun v q ⟨_, as, q1, q2⟩ => ⟨as, PyProof.Rows.Reads.keeps (fun b u e => Heap.get?_push_of_some _ (k1 b u e)) q1, by rw [q2]; simp⟩) (by rw [hl2]; exact hal) (by rw [hl2]; exact hso) (by rw [hbl, sizeLine_eq]; exact hsz) (fun q hq => ?_) fun out hol eo => ?_))
  · have := (hsh q.2 (hbd q hq)).2
    have hu' : X.A.units + 65 < cLine := hu
    show X.A.units + 1 + 1 + q.2.depth < cLine
    omega
  · obtain ⟨c, hcc⟩ := sortedHeap_at (vs := vs1) (out := out.toArray) hoL
    generalize hsd : (ys.zip ds).mergeSort (dataLe false fun q => q.2) = srt at eo
    have perm : srt.Perm (ys.zip ds) := by rw [← hsd]; exact List.mergeSort_perm _ _
    have hvv : Vals (srt.map (·.1)) out := each_vals eo
    have hsn : srt.map (·.2) = sortD ds := by
      rw [← hsd, List.map_mergeSort (s := dLe) (fun p hp q hq => by rw [PySem.W.dataLe_eq]; rfl), hl2]; rfl
    have hz2 : (srt.map (·.1)).length ≤ sizeLine := by rw [List.length_map, perm.length_eq, hbl, sizeLine_eq]; exact hsz
    have I1 : Inv X pins σ H s1 := by
      have e : s1 = { s with heap := s1.heap, gens := s1.gens, drawn := s1.drawn, toks := s1.toks } := by
        cases s1
        cases s
        cases o1
        rfl
      rw [e]
      exact I.call (ch := []) (Un.kept k1) (I.hok.kept k1) (by rw [g1]; exact I.bare) (fun _ z => nomatch z)
    have hn : H s1.heap.objs.size = .none := I1.hok.fresh (Nat.le_refl _)
    have kk : ∀ c u, s1.heap.get? c = some u → (sortedHeap (s1.heap.push (seqObj "list" vs1.toArray 0)) s1.heap.objs.size vs1 out.toArray).get? c = some u := fun c u q => by
      have hlt := Heap.lt_size q
      exact (sortedHeap_old (Nat.ne_of_lt hlt) (by rw [size_push']; exact Nat.lt_succ_of_lt hlt)).trans (Heap.get?_push_of_some _ q)
    refine wpAny_pure ⟨_, rfl, .ref s1.heap.objs.size, _, I1.laid (t' := s1.toks) kk (Nat.le_refl _) (show ObjOk X.prog X.w _ _ _ (.lst (srt.map (·.1))) from ⟨hz2, out, c, hvv, hcc⟩), rfl, ?_⟩
    have xx : Ext F H (upd F s1.heap.objs.size (.lst (srt.map (·.1)))) (upd H s1.heap.objs.size (.lst (srt.map (·.1)))) := .new fh hn
    have each : RpA (if b then H else F) (srt.map (·.1)) (sortD ds) := by
      rw [← hsn]
      exact rpa_pairs fun p hp => rpa_zip rp p (perm.mem_iff.mp hp)
    cases b with
    | true => exact k _ _ _ xx (.lst (.inl upd_same) hz2 (RpA.mono xx.h each))
    | false => exact k _ _ _ xx (.lst (.inl upd_same) hz2 (RpA.mono xx.f each))
/-- the keys of a dict -/
def keysD (d : D) : Option (List D) := match ddOf d with
  | some (.k kvs) => some (kvs.map fun p => keyD p.1)
  | some (.t kvs) => some (kvs.map fun p => .tuple (p.1.map keyD))
  | none => none
def pSortK : List D → Rs D
  | [d] => match keysD d with
    | some l => if sortOk l = true then .ok (.list (sortD l)) else .stuck
    | none => .stuck
  | _ => .stuck
theorem flat_key : ∀ k : Key, flatD (keyD k) = true
  | .inl i => by rw [keyD, flatD]
  | .inr x => by rw [keyD, flatD]
theorem flat_keys : ∀ ks : List Key, flatDs (ks.map keyD) = true
  | [] => by rw [List.map_nil, flatDs]
  | k :: ks => by rw [List.map_cons, flatDs, flat_key, flat_keys ks]; rfl
theorem flat_tups : ∀ l : List (List Key), flatDs (l.map fun ks => PyData.tuple (ks.map keyD)) = true
  | [] => by rw [List.map_nil, flatDs]
  | k :: l => by rw [List.map_cons, flatDs, flatD, flat_keys, flat_tups l]; rfl
theorem rp_kv {F : Hp} : ∀ k : Key, Rp F (kV k) (keyD k)
  | .inl i => .int i
  | .inr x => .str x
theorem rp_kvs {F : Hp} : ∀ ks : List Key, RpA F (ks.map kV) (ks.map keyD)
  | [] => .nil
  | k :: ks => .cons (rp_kv k) (rp_kvs ks)
theorem pairs_vals {P : Program} {w : World} {es : List DictEntry} {kvs : List (Key × Value)} (h : PySem.Pairs (mixKind P w) es kvs) : Vals ((kvs.map (·.1)).map kV) (es.map (·.key)) := by
  induction h with
  | nil => exact .nil
  | cons a _ _ ih => exact .cons (keyIs_rel a) ih
theorem items_all {P : Nat → Value → Prop} {acc : Array Value} {es : Array DictEntry} (it : ItemsOf P acc es.size) (h : ∀ i v, P i v → ∃ en, es[i]? = some en ∧ v = en.key) : acc.toList = es.toList.map (·.key) := by
  have hl : acc.size = es.size := it.1
  refine List.ext_getElem? (fun j => ?_)
  rw [List.getElem?_map, Array.getElem?_toList, Array.getElem?_toList]
  cases hj : acc[j]? with
  | none => rw [Array.getElem?_eq_none (by have := Array.getElem?_eq_none_iff.mp hj; omega)]; rfl
  | some v =>
    obtain ⟨en, h1, h2⟩ := h j v (it.2 j v hj)
    rw [h1, h2]; rfl
theorem kvs_fst {kvs : List (Key × V)} {vs : List (Key × Value)} (h : KV kvs vs) : kvs.map (·.1) = vs.map (·.1) := by
  induction h with
  | nil => rfl
  | cons a _ ih => rw [List.map_cons, List.map_cons, ih, a.1]
theorem refs_entries {P : Program} {w : World} : ∀ xs : List (List Key × Addr × Value), Vals (xs.map fun x => V.ref x.2.1) (xs.map ((fun e => e.key) ∘ entryOfKey (tupleKind (mixKind P w))))
  | [] => .nil
  | _ :: xs => .cons rfl (refs_entries xs)
theorem tups_entries {H : Hp} (z : ∀ (a : Addr) (t : List V), H a = some (.tup t) → t.length ≤ sizeLine) {ws : List (List Key × V)} {xs : List (List Key × Addr × Value)}
    (pr : Paired (fun (p : List Key × V) (q : List Key × Addr × Value) => p.1 = q.1 ∧ H q.2.1 = some (.tup (p.1.map kV)) ∧ RelV p.2 q.2.2) ws xs) :
    RpA H (xs.map fun x => V.ref x.2.1) ((ws.map (·.1)).map fun ks => PyData.tuple (ks.map keyD)) := by
  induction pr with
  | nil => exact .nil
  | cons a _ ih => exact .cons (.tup a.2.1 (z _ _ a.2.1) (rp_kvs _)) ih
theorem c_sortK (hc : X.calm = true) (hu : Rm X) : Cb X true b (.builtin "sorted") pSortK := by
  rintro pins s σ H vs us Q I rv0 ⟨F, ds, fh, rp, k⟩
  unfold pSortK at k
  split at k
  · rename_i d
    split at k
    · rename_i l hk
      obtain ⟨hs, k⟩ := den_ite k
      cases rp with
      | cons r0 rn =>
        cases rn
        obtain ⟨u0, rfl, ru⟩ := vals1 rv0
        unfold keysD at hk
        have r0' : Rp H _ d := r0
        split at hk
        · rename_i kvs e
          cases hk
          obtain ⟨a, rfl, ⟨ws, kvs', e', h1, h2, h3⟩ | ⟨ws, kvs', e', _⟩⟩ := inv_dd r0' e
          · cases e'
            cases ru
            obtain ⟨z, lo, vs2, kv, o, es, ep, ho, hx, hd, ko, pr, nd⟩ := dk_rd I.hok h1
            refine sorted_by (b := b) I hu fh hs (fun d hd => by obtain ⟨p, _, rfl⟩ := List.mem_map.mp hd; exact flat_key _) (fun E R q => ?_) k
            have hpv := pairs_vals pr
            have hsz : es.size ≤ sizeLine := by
              have e1 := hpv.length
              rw [List.length_map, List.length_map, List.length_map] at e1
              have e2 := congrArg List.length (kvs_fst kv)
              rw [List.length_map, List.length_map] at e2
              have e3 : es.toList.length = es.size := Array.length_toList
              omega
            refine PySem.W.kdu_collect (kdl_raw lo hx hd) (I.ok.hd hc) ho hsz fun h' tk acc kp it => ?_
            refine q _ _ (ws.map fun p => kV p.1) kp rfl rfl ?_ ?_
            · rw [items_all it fun i v h => h, show (ws.map fun p => kV p.1) = (vs2.map (·.1)).map kV by rw [← kvs_fst kv, List.map_map]; rfl]
              exact hpv
            · have e1 : (ws.map fun p => kV p.1) = (ws.map (·.1)).map kV := by rw [List.map_map]; rfl
              have e2 : (kvs.map fun p => keyD p.1) = (kvs.map (·.1)).map keyD := by rw [List.map_map]; rfl
              rw [e1, e2, h2]
              exact rp_kvs _
          · cases e'
        · rename_i kvs e
          cases hk
          obtain ⟨a, rfl, ⟨ws, kvs', e', _⟩ | ⟨ws, kvs', e', h1, h2, h3⟩⟩ := inv_dd r0' e
          · cases e'
          · cases e'
            cases ru
            obtain ⟨z, lo, xs, pr, o, es, ep, ho, hx, hd, he, nd⟩ := (show ObjOk X.prog X.w H s.heap a (.dT ws) from h1.ok I.hok)
            refine sorted_by (b := b) I hu fh hs (fun d hd => by obtain ⟨p, _, rfl⟩ := List.mem_map.mp hd; rw [flatD]; exact flat_keys _) (fun E R q => ?_) k
            have hsz : es.size ≤ sizeLine := by
              have e1 := congrArg List.length he
              rw [List.length_map] at e1
              have e2 := Paired.length pr
              have e3 : es.toList.length = es.size := Array.length_toList
              omega
            refine PySem.W.kdu_collect (kdl_raw lo hx hd) (I.ok.hd hc) ho hsz fun h' tk acc kp it => ?_
            refine q _ _ (xs.map fun x => V.ref x.2.1) kp rfl rfl ?_ ?_
            · rw [items_all it fun i v h => h, he, List.map_map]
              exact refs_entries xs
            · have e2 : (kvs.map fun p => PyData.tuple (p.1.map keyD)) = (kvs.map (·.1)).map fun ks => PyData.tuple (ks.map keyD) := by rw [List.map_map]; rfl
              rw [e2, ← h2]
              have tt := tups_entries (fun a t h => (I.hok a _ h).1) pr
              cases b with
              | true => exact tt
              | false => exact RpA.frozen fh tt (flat_tups _)
        · cases hk
    · exact k.elim
  · exact k.elim
end
end Pu

/-! The pure layer, part 19: min, max of a list; list(range); enumerate, zip, range by steps; written tables. -/
namespace Pu
open PySem PySem.Spec
open PyProof.Rows L2
open PySem.W (dataLt alike AllAlike Sortable EachIs dataLe minD maxD)

/-! ### min, max of a list -/
def mmOk (l : List D) : Bool := (l.all fun d => l.all fun d' => alike d d') && (l.all fun d => SeqAt.shaped d && flatD d && decide (d.depth ≤ 60)) && l.all fun d => !(match d with | .none => true | _ => false)
def pMinL : List D → Rs D
  | [.list (x :: xs)] => if mmOk (x :: xs) = true then .ok (minD x xs) else .stuck
  | _ => .stuck
def pMaxL : List D → Rs D
  | [.list (x :: xs)] => if mmOk (x :: xs) = true then .ok (maxD x xs) else .stuck
  | _ => .stuck
theorem mmOk_ok {l : List D} (h : mmOk l = true) : PySem.W.AlikeAll l ∧ (∀ d ∈ l, SeqAt.shaped d = true ∧ d.depth ≤ 60) := by
  unfold mmOk at h
  simp only [decide_eq_true_eq, Bool.and_eq_true, List.all_eq_true] at h
  obtain ⟨⟨h1, h2⟩, h3⟩ := h
  refine ⟨⟨h1, fun d hd e => ?_⟩, fun d hd => ⟨(h2 d hd).1.1, (h2 d hd).2⟩⟩
  subst e
  have := h3 _ hd
  simp at this
theorem depth_all {n : Nat} : ∀ {l : List D}, (∀ d ∈ l, d.depth ≤ n) → PyData.depthAll l ≤ n
  | [], _ => by rw [PyData.depthAll]; omega
  | d :: l, h => by
    have h1 := h d List.mem_cons_self
    have h2 := depth_all (l := l) fun x hx => h x (List.mem_cons_of_mem _ hx)
    rw [PyData.depthAll]; omega
theorem each_all {h : Heap} : ∀ {vs : List Value} {l : List D}, EachIs (fun v (d : D) => ∃ as, Reads h v d as) vs l → ∃ as, ReadsAll h vs l as
  | _, _, .nil => ⟨[], .nil⟩
  | _, _, .cons ⟨as, q⟩ t => by
    obtain ⟨bs, r⟩ := each_all t
    exact ⟨as ++ bs, .cons q r⟩
theorem each_vals2 {pins : List (Addr × Obj)} {σ : L2.St} {H : Hp} {s : Shared} {X : Cx} (I : Inv X pins σ H s) {xs : List V} {us : List Value} (h : Vals xs us) : ∀ {l : List D}, RpA H xs l → (∀ d ∈ l, SeqAt.shaped d = true) → EachIs (fun v (d : D) => ∃ as, Reads s.heap v d as) us l := by
  induction h with
  | nil => intro l r _; cases r; exact .nil
  | cons r t ih =>
    intro l rp hs
    cases rp with
    | cons r0 rn => exact .cons (reads_of I r r0 (hs _ List.mem_cons_self)) (ih rn fun d hd => hs d (List.mem_cons_of_mem _ hd))
section
variable {X : Cx} {b : Bool}
/-- the item that reads as d -/
theorem at_item {pins : List (Addr × Obj)} {σ : L2.St} {F H : Hp} {s : Shared} {l : List D} {xs : List V} {us : List Value} {v : Value} {i : Nat} {d : D} {h' : Heap} {bs : List Addr} (I : Inv X pins σ H s) (fh : FH F H) (rv : Vals xs us) (rp : RpA (if b then H else F) xs l)
    (hs : ∀ d ∈ l, SeqAt.shaped d = true) (hi : us[i]? = some v) (rd : Reads h' v d bs) (kp : ∀ c o, s.heap.get? c = some o → h'.get? c = some o) : ∃ y, RelV y v ∧ Rp (if b then H else F) y d := by
  have hlt : i < us.length := (List.getElem?_eq_some_iff.mp hi).1
  have hx : i < xs.length := by rw [rv.length]; exact hlt
  obtain ⟨u, e1, r⟩ := rv.get (List.getElem?_eq_getElem hx)
  rw [hi] at e1
  cases e1
  obtain ⟨d', e2, r2⟩ := rp.get (List.getElem?_eq_getElem hx)
  have hm : d' ∈ l := List.mem_of_getElem? e2
  obtain ⟨as, q⟩ := reads_of I r (Rp.toH fh r2) (hs d' hm)
  have e : d' = d := (Reads.unique (PyProof.Rows.Reads.keeps kp q) d bs rd).1
  subst e
  exact ⟨_, r, r2⟩
theorem c_minL (hc : X.calm = true) (hu : Rm X) : Cb X b b (.builtin "min") pMinL := by
  rintro pins s σ H vs us Q I rv0 ⟨F, ds, fh, rp, k⟩
  unfold pMinL at k
  split at k
  · rename_i x xs
    obtain ⟨hs, k⟩ := den_ite k
    obtain ⟨hal, hsh⟩ := mmOk_ok hs
    cases rp with
    | cons r0 rn =>
      cases rn
      obtain ⟨a, ys, rfl, h1, z1, r1⟩ := inv_l r0
      obtain ⟨u0, rfl, ru⟩ := vals1 rv0
      cases ru
      obtain ⟨its, rv, pl, hz⟩ := I.list (.inl (Rd.toH fh h1))
      obtain ⟨as, ra⟩ := each_all (each_vals2 I rv (RpA.toH fh r1) fun d hd => (hsh d hd).1)
      refine PySem.W.min_list_data (I.ok.hd hc) pl.isList (by simpa using ra) hal (by have := depth_all fun d hd => (hsh d hd).2; have hu' : X.A.units + 65 < cLine := hu; omega) fun i v h' tk bs hi rd kp => ?_
      obtain ⟨y, ry, rq⟩ := at_item I fh rv r1 (fun d hd => (hsh d hd).1) (by simpa using hi) rd kp
      exact ⟨y, H, I.kept kp, ry, k y F H (.refl fh) rq⟩
  · exact k.elim
theorem c_maxL (hc : X.calm = true) (hu : Rm X) : Cb X b b (.builtin "max") pMaxL := by
  rintro pins s σ H vs us Q I rv0 ⟨F, ds, fh, rp, k⟩
  unfold pMaxL at k
  split at k
  · rename_i x xs
    obtain ⟨hs, k⟩ := den_ite k
    obtain ⟨hal, hsh⟩ := mmOk_ok hs
    cases rp with
    | cons r0 rn =>
      cases rn
      obtain ⟨a, ys, rfl, h1, z1, r1⟩ := inv_l r0
      obtain ⟨u0, rfl, ru⟩ := vals1 rv0
      cases ru
      obtain ⟨its, rv, pl, hz⟩ := I.list (.inl (Rd.toH fh h1))
      obtain ⟨as, ra⟩ := each_all (each_vals2 I rv (RpA.toH fh r1) fun d hd => (hsh d hd).1)
      refine PySem.W.max_list_data (I.ok.hd hc) pl.isList (by simpa using ra) hal (by have := depth_all fun d hd => (hsh d hd).2; have hu' : X.A.units + 65 < cLine := hu; omega) fun i v h' tk bs hi rd kp => ?_
      obtain ⟨y, ry, rq⟩ := at_item I fh rv r1 (fun d hd => (hsh d hd).1) (by simpa using hi) rd kp
      exact ⟨y, H, I.kept kp, ry, k y F H (.refl fh) rq⟩
  · exact k.elim
end

/-! ### list(range) -/
def pLr (x y : D) : Rs D := match x, y with
  | .int i, .int j => if (rngOk i && rngOk j) = true then .ok (.list (rangeD i j)) else .stuck
  | _, _ => .stuck
def lr1 (m : Rs D) : Rs D := m.bind fun y => (pLr (.int 0) y).nox
theorem rp_rg {F : Hp} (i j : Int) : RpA F (rgV i j) (rangeD i j) := by
  unfold rgV rangeD
  generalize List.range (j - i).toNat = l
  induction l with
  | nil => exact .nil
  | cons a l ih => exact .cons (.int _) ih
section
variable {X : Cx} {W : WX} {b : Bool} {ρ : List Sl} {e e2 : Expr} {p1 p2 p3 pos tpos : Pos}
theorem lr_fin {F H : Hp} {Q : VK} {i j : Int} (fh : FH F H) (k : DenO X (pLr (.int i) (.int j)) b F H Q) : RgOk i j ∧ ∀ q, H q = none → Q (.ref q) (upd H q (.lst (rgV i j))) := by
  obtain ⟨hc, k⟩ := den_ite (show DenO X (if (rngOk i && rngOk j) = true then .ok (.list (rangeD i j)) else .stuck) b F H Q from k)
  rw [Bool.and_eq_true] at hc
  have h1 := rngOk_iff hc.1
  have h2 := rngOk_iff hc.2
  refine ⟨⟨by omega, by omega, by omega, by omega, by omega⟩, fun q hq => ?_⟩
  have hz : (rgV i j).length ≤ sizeLine := by rw [rgV_length, sizeLine_eq]; omega
  have xx : Ext F H (upd F q (.lst (rgV i j))) (upd H q (.lst (rgV i j))) := .new fh hq
  exact k _ _ _ xx (Rp.up xx.fh (.lst (.inl upd_same) hz (rp_rg i j)))
theorem ev_lr2 (hc : X.calm = true) {m1 m2 : Rs D} (B : Bn X "list" (.type "list")) (B2 : Bn X "range" (.type "range")) (h1 : EV X W true ρ e m1) (h2 : EV X W true ρ e2 m2)
    (na : starEach [.Call (.Name "range" p2) [e, e2] [] p3] X.env = (false, eval (.Call (.Name "range" p2) [e, e2] [] p3) X.env) :: starEach [] X.env := by rfl)
    (n2 : starEach [e, e2] X.env = (false, eval e X.env) :: starEach [e2] X.env := by rfl) (n3 : starEach [e2] X.env = (false, eval e2 X.env) :: starEach [] X.env := by rfl) (hp : (backTo p3 (starEach [e2] X.env)).any (·.1) = false := by rfl) :
    EV X W b ρ (.Call (.Name "list" p1) [.Call (.Name "range" p2) [e, e2] [] p3] [] pos) (b2 pLr m1 m2) :=
  PE.imp (pe_listRg hc B.g B.m (prg_2 B2.g B2.m h1 h2 n2 n3 hp) na) fun σ H Q ⟨F, G, S, k⟩ => ⟨F, G, S, by
    have z := bin_den (b' := b) (b := true) (W := W) S k
    revert z
    cases m1 with
    | exc c => exact id
    | stuck => exact id
    | ok d1 =>
      intro z v F1 H1 x1 r1
      obtain ⟨F2, G2, S2, z2⟩ := z v F1 H1 x1 r1
      refine ⟨F2, G2, S2, ?_⟩
      revert z2
      cases m2 with
      | exc c => exact id
      | stuck => exact id
      | ok d2 =>
        intro z2 u F3 H3 x3 r3
        obtain ⟨F4, p, q, fh, rp, rq, k2⟩ := z2 u F3 H3 x3 r3
        match p, q, rp, rq, k2 with
        | .int i, .int j, rp, rq, k2 => exact ⟨i, j, inv_i rp, inv_i rq, lr_fin fh k2⟩⟩
theorem ev_lr1 (hc : X.calm = true) {m : Rs D} (B : Bn X "list" (.type "list")) (B2 : Bn X "range" (.type "range")) (h1 : EV X W true ρ e m)
    (na : starEach [.Call (.Name "range" p2) [e] [] p3] X.env = (false, eval (.Call (.Name "range" p2) [e] [] p3) X.env) :: starEach [] X.env := by rfl) (n2 : starEach [e] X.env = (false, eval e X.env) :: starEach [] X.env := by rfl) :
    EV X W b ρ (.Call (.Name "list" p1) [.Call (.Name "range" p2) [e] [] p3] [] pos) (lr1 m) :=
  PE.imp (pe_listRg hc B.g B.m (prg_1 B2.g B2.m h1 n2) na) fun σ H Q ⟨F, G, S, k⟩ => ⟨F, G, S, by
    cases m with
    | exc c => exact k
    | stuck => exact k
    | ok d =>
      intro v F1 H1 x1 r1
      have k1 : DenE X W b (pLr (.int 0) d).nox F H σ Q := k
      have k2 := DenE.toO (W := W) (σ := σ) (k1.mono x1)
      match d, r1, k2 with
      | .int j, r1, k2 => exact ⟨j, inv_i r1, lr_fin x1.fh k2⟩⟩

/-! ### enumerate, zip, range by steps -/
def pEnum : List D → Rs (List D)
  | [.list l] => .ok (l.mapIdx fun i d => .tuple [.int (i : Nat), d])
  | _ => .stuck
def pZip : List D → Rs (List D)
  | [.list l, .list r] => .ok ((l.zip r).map fun p => .tuple [p.1, p.2])
  | _ => .stuck
/-- a walk over new pairs -/
theorem walkD_pair {J : It} {ds : List D} {F : Hp} {Gd : Hp → Prop} {fx fy : Nat → Option V} (w : Walk J ds.length Gd (YPair fx fy)) (hz : ds.length ≤ sizeLine) (hg : ∀ F1 H, Same F F1 → FH F1 H → Gd H)
    (hd : ∀ i x y, i < ds.length → fx i = some x → fy i = some y → ∃ p q, ds[i]? = some (.tuple [p, q]) ∧ Rp F x p ∧ Rp F y q) : WalkD J ds F := by
  refine ⟨hz, fun i F1 H hi s x => w.goes i H hi (hg F1 H s x), fun F1 H s x => w.stops H (hg F1 H s x), fun i F1 H v H' hi s x y => ?_⟩
  obtain ⟨T, u1, u2, rfl, hT, rfl, e1, e2⟩ := w.yields i H v H' hi (hg F1 H s x) y
  obtain ⟨p, q, e3, rp, rq⟩ := hd i u1 u2 hi e1 e2
  have xx : Ext F1 H (upd F1 T (.tup [u1, u2])) (upd H T (.tup [u1, u2])) := .new x hT
  exact ⟨_, _, xx, e3, .tup upd_same (by rw [sizeLine_eq]; simp) (.cons ((rp.mono s).mono xx.f) (.cons ((rq.mono s).mono xx.f) .nil))⟩
theorem ei_enum {elts : List Expr} {kk : Nat} {m : Rs (List D)} (B : Bn X "enumerate" (.type "enumerate")) (h : EAs X W false ρ [e] m) (hs : starEach [e] X.env = [(false, eval e X.env)] := by rfl) : EI X W ρ (.Tuple elts kk tpos) (.Call (.Name "enumerate" p1) [e] [] pos) (m.bind pEnum) :=
  PI.imp (pi_enum B.g B.m h.run hs) fun σ H R ⟨F, G, S, k⟩ => ⟨F, G, S, by
    cases m with
    | exc c => exact k
    | stuck => exact k
    | ok ds =>
      intro vs F1 H1 x1 r1
      have k1 : DenW X W (pEnum ds) F H σ R := k
      match ds, r1, k1 with
      | [.list l], .cons r0 .nil, k1 =>
        obtain ⟨a, xs, rfl, h1, z1, r2⟩ := inv_l (show Rp F1 _ (.list l) from r0)
        have hl := r2.length
        refine ⟨a, xs, rfl, .inl (rd_mono x1.fh.sub h1), k1 _ _ _ x1 ?_⟩
        have e : (l.mapIdx fun i d => PyData.tuple [.int (i : Nat), d]).length = xs.length := by rw [List.length_mapIdx, hl]
        refine walkD_pair (Gd := fun H => SqL X.K H a xs) (by rw [e]; exact walk_enum (K := X.K) (a := a) (xs := xs)) (by rw [e]; exact z1) (fun F2 H2 s x => .inl (rd_mono (s.trans x.sub) h1)) fun i x y hi ex ey => ?_
        obtain ⟨d, hd, rd⟩ := r2.get ey
        cases ex
        exact ⟨_, d, by rw [List.getElem?_mapIdx, hd]; rfl, .int _, rd⟩⟩
theorem ei_zip {elts : List Expr} {kk : Nat} {m : Rs (List D)} (B : Bn X "zip" (.type "zip")) (h : EAs X W false ρ [e, e2] m) (hs : starEach [e, e2] X.env = (false, eval e X.env) :: starEach [e2] X.env := by rfl) (hp : (backTo pos (starEach [e2] X.env)).any (·.1) = false := by rfl) :
    EI X W ρ (.Tuple elts kk tpos) (.Call (.Name "zip" p1) [e, e2] [] pos) (m.bind pZip) :=
  PI.imp (pi_zip B.g B.m h.run hs hp) fun σ H R ⟨F, G, S, k⟩ => ⟨F, G, S, by
    cases m with
    | exc c => exact k
    | stuck => exact k
    | ok ds =>
      intro vs F1 H1 x1 r1
      have k1 : DenW X W (pZip ds) F H σ R := k
      match ds, r1, k1 with
      | [.list l, .list l2], .cons r0 (.cons r0' .nil), k1 =>
        obtain ⟨a, xs, rfl, h1, z1, r2⟩ := inv_l (show Rp F1 _ (.list l) from r0)
        obtain ⟨a', ys, rfl, h1', z1', r2'⟩ := inv_l (show Rp F1 _ (.list l2) from r0')
        have hl := r2.length
        have hl' := r2'.length
        refine ⟨a, a', xs, ys, rfl, .inl (rd_mono x1.fh.sub h1), .inl (rd_mono x1.fh.sub h1'), k1 _ _ _ x1 ?_⟩
        have e : ((l.zip l2).map fun p => PyData.tuple [p.1, p.2]).length = min xs.length ys.length := by rw [List.length_map, List.length_zip, hl, hl']
        refine walkD_pair (walk_zip (K := X.K) (a := a) (b := a') (xs := xs) (ys := ys) e) (by rw [e]; omega) (fun F2 H2 s x => ⟨.inl (rd_mono (s.trans x.sub) h1), .inl (rd_mono (s.trans x.sub) h1')⟩) fun i x y hi ex ey => ?_
        obtain ⟨d, hd, rd⟩ := r2.get ex
        obtain ⟨d', hd', rd'⟩ := r2'.get ey
        exact ⟨d, d', by rw [List.getElem?_map, (List.getElem?_zip_eq_some.mpr ⟨hd, hd'⟩ : (l.zip l2)[i]? = some (d, d'))]; rfl, rd, rd'⟩⟩
end
end Pu

/-! The pure layer, part 20: a written table of tuples of ints by texts. -/
namespace Pu
open PySem PySem.Spec
open PyProof.Rows L2

def TupK (K : PySem.W.Frag) (t : Addr) (ns : List Int) : Prop := ∃ (o : Obj) (its : Array Value) (n : Nat), K.lookup t = some o ∧ o.cls = .type "tuple" ∧ o.data = .seq its n ∧ its.size ≤ sizeLine ∧ Vals (ns.map V.int) its.toList
/-- the module's x: a dict with just this table -/
def WTab (U : Un) (x : Str) (tab : List (Str × List Int)) : Prop := ∃ (a : Addr) (es : Array DictEntry) (n : Nat), U.mg x = some (.ref a) ∧ KDict U.K U.w a es n ∧
  ∀ z, (PySem.W.nsIn U.K a z = some none ∧ tab.lookup z = none) ∨ ∃ t ns, PySem.W.nsIn U.K a z = some (some (.ref t)) ∧ tab.lookup z = some ns ∧ TupK U.K t ns
abbrev WEnt := Int × Str × Tok × Addr × List Int
def wEnt (e : WEnt) : DictEntry := ⟨e.1, .str e.2.1 e.2.2.1, .ref e.2.2.2.1⟩
theorem wtab_mk {U : Un} {x : Str} {ents : List WEnt} {a : Addr} {n : Nat} (hm : U.mg x = some (.ref a)) (hl : U.K.lookup a = some ⟨.type "dict", none, .dict (ents.map wEnt).toArray n, #[]⟩) (hk : PySem.W.KeysLit U.w.params (ents.map wEnt)) (low : (a == sysModules) = false)
    (ht : ∀ e ∈ ents, TupK U.K e.2.2.2.1 e.2.2.2.2) : WTab U x (ents.map fun e => (e.2.1, e.2.2.2.2)) := by
  refine ⟨a, _, n, hm, ⟨hl, by simpa using hk, low⟩, fun z => ?_⟩
  have e0 : PySem.W.nsIn U.K a z = (match (ents.map wEnt).find? (·.key.isStr z) with
      | some e => some (some e.val)
      | none => if (ents.map wEnt).any (·.refKey) then none else some none) := by
    unfold PySem.W.nsIn
    rw [hl]
    rfl
  rw [e0]
  clear e0 hl hk
  have noRef : (ents.map wEnt).any (·.refKey) = false := by
    rw [List.any_map, List.any_eq_false]
    intro e _ z
    exact Bool.false_ne_true z
  rw [noRef]
  clear noRef
  induction ents with
  | nil => exact Or.inl ⟨rfl, rfl⟩
  | cons e ents ih =>
    rw [List.map_cons, List.map_cons, List.find?_cons, List.lookup_cons]
    have hs : (wEnt e).key.isStr z = (z == e.2.1) := by
      show (Value.str e.2.1 e.2.2.1).isStr z = _
      have e1 : (Value.str e.2.1 e.2.2.1).isStr z = (e.2.1 == z) := rfl
      rw [e1, Bool.eq_iff_iff, beq_iff_eq, beq_iff_eq]
      exact eq_comm
    rw [hs]
    cases hz : (z == e.2.1) with
    | true => exact .inr ⟨_, _, rfl, rfl, ht e List.mem_cons_self⟩
    | false => exact ih fun q hq => ht q (List.mem_cons_of_mem _ hq)
/-- WAYS[x][i] -/
def wixV (tab : List (Str × List Int)) (m1 m2 : Rs D) : Rs D := m1.bind fun d => match d with
  | .str z => match tab.lookup z with
    | some ns => m2.bind fun i => match i with
      | .int i => match atI ns i with
        | some n => .ok (.int n)
        | none => .stuck
      | _ => .stuck
    | none => .stuck
  | _ => .stuck
def wniV (tab : List (Str × List Int)) (m : Rs D) : Rs Bool := m.bind fun d => match d with
  | .str z => .ok (tab.lookup z).isNone
  | _ => .stuck
section
variable {U : Un} {N : List Str} {sc : Scope} {fn : Str → Bool} {k : Nat} {X : Cx} {W : WX} {ρ : List Sl} {b : Bool} {e e2 : Expr} {x : Str} {p1 p2 pos : Pos}
theorem y_wni (y : DY U N sc fn k X W) {tab : List (Str × List Int)} {m : Rs D} (T : WTab U x tab) (h : EV X W true ρ e m) (c : gnC sc x = true := by decide +kernel) (hm : behindInMarks .NotIn (.Name x p1) = false := by rfl) :
    ET X W ρ (.Compare e [.NotIn] [.Name x p1] pos) (wniV tab m) := by
  obtain ⟨a, es, n, h1, h2, h3⟩ := T
  have D2 : KDict X.K X.w a es n := by rw [y.eK, y.eW]; exact h2
  have g := gn_of y.s c
  refine PT.imp (pt_cmpR (op_notIn_kd D2) h (pe_glob (v := .ref a) g.g (by rw [y.eM]; exact h1) rfl g.db) hm) fun σ H Q ⟨F, G, S, q⟩ => ⟨F, G, S, ?_⟩
  cases m with
  | exc c => exact q
  | stuck => exact q
  | ok d =>
    intro v F1 H1 x1 r1
    match d, r1, q with
    | .str z, r1, q =>
      have q1 : Q (tab.lookup z).isNone H1 := (show DenT X W (.ok (tab.lookup z).isNone) F H σ Q from q) F1 H1 x1
      rw [inv_s r1]
      rcases h3 z with ⟨e1, e2⟩ | ⟨t, ns, e1, e2, _⟩
      · exact ⟨z, none, rfl, rfl, by rw [y.eK]; exact e1, _, rfl, by rw [e2] at q1; exact q1⟩
      · exact ⟨z, some (.ref t), rfl, rfl, by rw [y.eK]; exact e1, _, rfl, by rw [e2] at q1; exact q1⟩
theorem y_wix (y : DY U N sc fn k X W) {tab : List (Str × List Int)} {m1 m2 : Rs D} (T : WTab U x tab) (h1 : EV X W true ρ e m1) (h2 : EV X W true ρ e2 m2) (c : gnC sc x = true := by decide +kernel) (hs : PlainIx e := by intro _ _; rfl) (hs2 : PlainIx e2 := by intro _ _; rfl) :
    EV X W b ρ (.Subscript (.Subscript (.Name x p1) e p2) e2 pos) (wixV tab m1 m2) := by
  obtain ⟨a, es, n, t1, t2, t3⟩ := T
  have g := gn_of y.s c
  refine PE.imp (pe_ix ix_seq (pe_ix ix_kdict (pe_glob (v := .ref a) g.g (by rw [y.eM]; exact t1) rfl g.db) h1 hs) h2 hs2) fun σ H Q ⟨F, G, S, q⟩ => ⟨F, G, S, ?_⟩
  cases m1 with
  | exc c => exact q
  | stuck => exact q
  | ok d =>
    intro v F1 H1 x1 r1
    match d, r1, q with
    | .str z, r1, q =>
      rw [inv_s r1]
      rcases t3 z with ⟨e1, e2⟩ | ⟨t, ns, e1, e2, o, its, k', l1, l2, l3, l4, l5⟩
      · have q' : DenE X W b (match tab.lookup z with | some ns => (m2.bind fun i => match i with | .int i => (match atI ns i with | some n => .ok (.int n) | none => .stuck) | _ => .stuck) | none => .stuck) F H σ Q := q
        rw [e2] at q'; exact (show False from q').elim
      · have q' : DenE X W b (match tab.lookup z with | some ns => (m2.bind fun i => match i with | .int i => (match atI ns i with | some n => .ok (.int n) | none => .stuck) | _ => .stuck) | none => .stuck) F H σ Q := q
        rw [e2] at q'
        have q2 : DenE X W b (m2.bind fun i => match i with | .int i => (match atI ns i with | some n => .ok (.int n) | none => .stuck) | _ => .stuck) F H σ Q := q'
        refine ⟨a, z, .ref t, rfl, rfl, ⟨es, n, .ref t, by rw [y.eK]; exact t2.at_, by rw [y.eW]; exact t2.lit, by rw [y.eK]; exact e1, rfl⟩, F1, G, S.mono x1, ?_⟩
        cases m2 with
        | stuck => exact (show False from q2).elim
        | exc c => exact DenX.mono x1.h (show DenX X W σ H c from q2)
        | ok i =>
          intro u F2 H2 x2 r2
          match i, q2, r2 with
          | .int i, q2, r2 =>
            rw [inv_i r2]
            have q3 : DenE X W b (match atI ns i with | some n => .ok (.int n) | none => .stuck) F H σ Q := q2
            split at q3
            · rename_i nn hn
              refine .inr (.inl ⟨t, ns.map V.int, i, .int nn, rfl, rfl, .inr ⟨o, its, k', by rw [y.eK]; exact l1, l2, l3, l4, l5⟩, ?_, q3 _ F2 H2 (x1.trans x2) (.int _)⟩)
              unfold atI at hn ⊢
              rw [List.length_map]
              cases hx : ixN ns.length i with
              | none => rw [hx] at hn; cases hn
              | some j =>
                rw [hx] at hn
                have hn' : ns[j]? = some nn := hn
                show (ns.map V.int)[j]? = _
                rw [List.getElem?_map, hn']; rfl
            · exact (show False from q3).elim
theorem y_lr2 (y : DY U N sc fn k X W) {m1 m2 : Rs D} {p3 : Pos} (h1 : EV X W true ρ e m1) (h2 : EV X W true ρ e2 m2) (c : gnC sc "list" = true := by decide +kernel) (c2 : gnC sc "range" = true := by decide +kernel)
    (na : starEach [.Call (.Name "range" p2) [e, e2] [] p3] X.env = (false, eval (.Call (.Name "range" p2) [e, e2] [] p3) X.env) :: starEach [] X.env := by rfl)
    (n2 : starEach [e, e2] X.env = (false, eval e X.env) :: starEach [e2] X.env := by rfl) (n3 : starEach [e2] X.env = (false, eval e2 X.env) :: starEach [] X.env := by rfl) (hp : (backTo p3 (starEach [e2] X.env)).any (·.1) = false := by rfl) :
    EV X W b ρ (.Call (.Name "list" p1) [.Call (.Name "range" p2) [e, e2] [] p3] [] pos) (b2 pLr m1 m2) :=
  ev_lr2 y.c (y.bn c (by decide +kernel) (by decide +kernel)) (y.bn c2 (by decide +kernel) (by decide +kernel)) h1 h2 na n2 n3 hp
theorem y_lr1 (y : DY U N sc fn k X W) {m : Rs D} {p3 : Pos} (h1 : EV X W true ρ e m) (c : gnC sc "list" = true := by decide +kernel) (c2 : gnC sc "range" = true := by decide +kernel)
    (na : starEach [.Call (.Name "range" p2) [e] [] p3] X.env = (false, eval (.Call (.Name "range" p2) [e] [] p3) X.env) :: starEach [] X.env := by rfl) (n2 : starEach [e] X.env = (false, eval e X.env) :: starEach [] X.env := by rfl) :
    EV X W b ρ (.Call (.Name "list" p1) [.Call (.Name "range" p2) [e] [] p3] [] pos) (lr1 m) :=
  ev_lr1 y.c (y.bn c (by decide +kernel) (by decide +kernel)) (y.bn c2 (by decide +kernel) (by decide +kernel)) h1 na n2
theorem y_enum (y : DY U N sc fn k X W) {elts : List Expr} {kk : Nat} {tpos : Pos} {m : Rs (List D)} (h : EAs X W false ρ [e] m) (c : gnC sc "enumerate" = true := by decide +kernel) (hs : starEach [e] X.env = [(false, eval e X.env)] := by rfl) :
    EI X W ρ (.Tuple elts kk tpos) (.Call (.Name "enumerate" p1) [e] [] pos) (m.bind pEnum) := ei_enum (y.bn c (by decide +kernel) (by decide +kernel)) h hs
theorem y_zip (y : DY U N sc fn k X W) {elts : List Expr} {kk : Nat} {tpos : Pos} {m : Rs (List D)} (h : EAs X W false ρ [e, e2] m) (c : gnC sc "zip" = true := by decide +kernel) (hs : starEach [e, e2] X.env = (false, eval e X.env) :: starEach [e2] X.env := by rfl) (hp : (backTo pos (starEach [e2] X.env)).any (·.1) = false := by rfl) :
    EI X W ρ (.Tuple elts kk tpos) (.Call (.Name "zip" p1) [e, e2] [] pos) (m.bind pZip) := ei_zip (y.bn c (by decide +kernel) (by decide +kernel)) h hs hp
end
section
variable {U : Un} {N : List Str} {sc : Scope} {k : Nat} {X : Cx} {W : WX} {ρ : List Sl} {pos py spos : Pos} {x : Str} {β : Type} {ρ' : β → List Sl} {rest sts : List Stmt}
theorem bs_stuck : BS X W ρ sts ρ' (.stuck : Rs (Out β)) := PSs.imp pss_never fun D σ H ⟨F, G, S, q⟩ => q
/-- x = [..], x no plain local -/
theorem s_setN (z : DZ U N sc k X W) (i : Nat) {elt : Expr} {gens : List Comprehension} {scope : Scope} {m : Rs D} {kk : D → Rs (Out β)} (h : EV X W false ρ (.ListComp elt gens scope pos) m) (hr : ∀ d, BS X W (ρ.set i (.da d)) rest ρ' (kk d)) (hi : i < ρ.length := by simp) (c : vsC N sc (fun _ => true) i x = true := by decide +kernel)
    (sw : (sc.names.lookup x == some .local && py.line == pos.line && !(scope.names.any fun (n, k) => n == x && (k == .local || k == .cell))) = false := by decide +kernel) : BS X W ρ (.Assign [.Name x py] (.ListComp elt gens scope pos) spos :: rest) ρ' (m.bind kk) := by
  refine bs_set (vs_of z.y.n z.y.s z.y.f c) hi h hr ?_
  unfold swapsWith
  show (pure (X.env.blockKind == .function && X.env.scope.names.lookup x == some .local && py.line == pos.line && !(scope.names.any fun (n, k) => n == x && (k == .local || k == .cell))) : Sem Bool) = pure false
  rw [z.y.s]
  congr 1
  cases hb : X.env.blockKind == .function with
  | false => rfl
  | true => simpa using sw
end
end Pu

/-! Layer 21: t[::-1] of a tuple. -/
namespace Pu
open PySem PySem.Spec
open PyProof.Rows L2

theorem all_items {α : Type} : ∀ l : List α, (List.range l.length).filterMap (fun k => l[k]?) = l
  | [] => rfl
  | a :: l => by
    rw [List.length_cons, List.range_succ_eq_map, List.filterMap_cons, List.filterMap_map]
    exact congrArg (a :: ·) (all_items l)
theorem back_items (xs : Array Value) : ((List.range xs.size).filterMap fun (k : Nat) => xs[((xs.size : Int) - 1 + (k : Int) * (-1)).toNat]?).toArray = xs.toList.reverse.toArray := by
  have h := all_items xs.toList.reverse
  rw [List.length_reverse, Array.length_toList] at h
  refine congrArg List.toArray (Eq.trans ?_ h)
  have same : ∀ ks : List Nat, (∀ k ∈ ks, k < xs.size) → ks.filterMap (fun (k : Nat) => xs[((xs.size : Int) - 1 + (k : Int) * (-1)).toNat]?) = ks.filterMap (fun k => xs.toList.reverse[k]?) := by
    intro ks
    induction ks with
    | nil => intro _; rfl
    | cons k ks ih =>
      intro hk
      have k1 := hk k List.mem_cons_self
      have e : xs[((xs.size : Int) - 1 + (k : Int) * (-1)).toNat]? = xs.toList.reverse[k]? := by
        rw [List.getElem?_reverse (by rw [Array.length_toList]; exact k1), Array.length_toList, Array.getElem?_toList, show ((xs.size : Int) - 1 + (k : Int) * (-1)).toNat = xs.size - 1 - k by omega]
      rw [List.filterMap_cons, List.filterMap_cons, e, ih fun j hj => hk j (List.mem_cons_of_mem _ hj)]
  exact same _ fun k hk => List.mem_range.mp hk
section
variable {E : Value → Shared → Prop} {s : Shared} {prog : Program} {A : Around} {w : World}
theorem back_slice {sl : Addr} {k : Tok} {n : Nat} {Q : Int × Int × Nat → Shared → Prop} (h1 : s.heap.IsSliceOf sl .none .none (.int (-1) k)) (q : Q ((n : Int) - 1, -1, n) s) : wpAny (model prog w) A (Builtin.Slice.sliceApplied (.ref sl) (pure (n : Int))) Q E s := by
  obtain ⟨ob, e1, e2, e3⟩ := h1
  rw [Builtin.Slice.sliceApplied, Builtin.Slice.sliceFields]
  refine wpAny_bind (wpAny_bind (wpAny_field e1 e3 (x := Value.none) rfl (wpAny_bind (wpAny_field e1 e3 (x := Value.none) rfl (wpAny_bind (wpAny_field e1 e3 (x := Value.int (-1) k) rfl (wpAny_pure ?_)))))))
  refine wpAny_bind (slicePart_int (wpAny_bind (slicePart_none (wpAny_bind (slicePart_none (wpAny_bind (wpAny_pure ?_)))))))
  have e : Builtin.Slice.slicePlaces ((n : Int) - 1) (-1) (-1) = n := by
    rw [Builtin.Slice.slicePlaces, if_neg (show ¬ ((-1 : Int) > 0) by decide)]
    by_cases c : (n : Int) - 1 > -1
    · rw [if_pos c, show (-(-1) : Int) = 1 from rfl, Int.ediv_one]; omega
    · rw [if_neg c]; omega
  have g : wpAny (model prog w) A (pure ((n : Int) - 1, (-1 : Int), Builtin.Slice.slicePlaces ((n : Int) - 1) (-1) (-1))) Q E s := by
    rw [e]
    exact wpAny_pure q
  exact g
theorem back_tuple {t sl : Addr} {k : Tok} {xs : Array Value} {Q : Value → Shared → Prop} (ht : IsTup s.heap t xs) (h1 : s.heap.IsSliceOf sl .none .none (.int (-1) k)) (hz : xs.size ≤ sizeLine)
    (q : Q (.ref s.heap.objs.size) { s with heap := s.heap.push { cls := .type "tuple", data := .seq xs.toList.reverse.toArray } }) : wpAny (model prog w) A (getItem (.ref t) (.ref sl)) Q E s := by
  have ty : s.TypeIs (.ref sl) "slice" := by
    obtain ⟨ob, e1, e2, _⟩ := h1
    exact ⟨ob, e1, e2⟩
  have fits : sizeOk (.seq xs.toList.reverse.toArray) := by
    show xs.toList.reverse.toArray.size ≤ sizeLine
    rw [List.size_toArray, List.length_reverse, Array.length_toList]; exact hz
  unfold getItem
  refine wpAny_holding (wpAny_bind (wpAny_sequenceKey ht.typeIs (by decide) (wpAny_bind (wpAny_callSpecial?_slot (name := Str.ofString "__getitem__") ht.typeIs PyProof.Rows.slot_tuple_getitem (wpAny_call_entry PyProof.Rows.slot_tuple_getitem ht.typeIs entry_tuple_getitem ?_ (args_tuple_getitem _ _))))))
  refine wpAny_bind (m := Builtin.Tuple.tupleItemsOf (.ref t)) (tupleItemsOf_ ht (wpAny_bind (wpAny_typeOf ty ?_)))
  rw [if_pos (by decide)]
  refine wpAny_bind (back_slice h1 ?_)
  have other : ¬ ((((xs.size : Int) - 1 == 0 && (-1 : Int) == 1 && xs.size == xs.size)) = true) := by
    rw [show ((-1 : Int) == 1) = false from rfl, Bool.and_false, Bool.false_and]
    exact Bool.false_ne_true
  change wpAny _ _ (if (((xs.size : Int) - 1 == 0 && (-1 : Int) == 1 && xs.size == xs.size)) = true then _ else _) _ _ s
  rw [if_neg other, back_items]
  exact wpAny_bind (m := Builtin.Tuple.tupleExact _) (wpAny_newObj_type (wpAny_pure ⟨_, rfl, wpAny_pure q⟩) fits)
end
section
variable {X : Cx} {e : Expr} {W : WX} {b : Bool} {ρ : List Sl} {te : TE} {pos p1 p2 p3 : Pos} {k : Nat}
def tBack (K : PySem.W.Frag) (te : TE) : TE := fun σ H Q => te σ H fun x H1 => ∃ t xs, x = .ref t ∧ SqT K H1 t xs ∧ ∀ p, H1 p = none → Q (.ref p) (upd H1 p (.tup xs.reverse))
theorem pe_back (h : PE X e te) : PE X (.Subscript e (.Slice none none (some (.UnaryOp .USub (.Constant (.int 1) k p1) p2)) p3) pos) (tBack X.K te) := by
  constructor
  intro pins s σ H Q I z
  refine Subscript_ (thn (h.run pins s σ H _ I z) ?_)
  rintro v s1 ⟨x, H1, I1, rv, t, xs, rfl, ht, q⟩
  cases rv
  have one : PO X (some (.UnaryOp .USub (.Constant (.int 1) k p1) p2)) (tPart (tUn (rU fun i => .int (-i)) (tC (.int 1)))) := po_some (pe_un un_neg pe_int)
  refine wpAny_Slice ?_
  rw [evalPart_none]
  refine wpAny_pure ?_
  refine wpAny_pure ?_
  refine thn (one.run pins s1 σ H1 (fun o H2 => o = some (-1) ∧ H2 = H1) I1 ⟨1, rfl, -1, rfl, rfl, rfl⟩) ?_
  rintro u s2 ⟨o, H2, I2, pu, rfl, rfl⟩
  cases pu with
  | int i tk =>
    have I3 : Inv X pins σ H2 { s2 with heap := s2.heap.push { cls := .type "slice", data := .fields #[.none, .none, .int (-1) tk] } } := I2.kept (t' := s2.toks) fun b ob g => Heap.get?_push_of_some _ g
    obtain ⟨its, r, hT, hz⟩ := I3.tuple ht
    change wpAny (model X.prog X.w) X.A (subscriptTail e (.Slice none none (some (.UnaryOp .USub (.Constant (.int 1) k p1) p2)) p3) (.ref t) (.ref s2.heap.objs.size)) (EP X pins σ Q) X.xe _
    refine tail_any (ops := [.ref t, .ref s2.heap.objs.size]) hT.typeIs PyProof.Rows.slot_tuple_getitem.lookup ?_ (by with_unfolding_all rfl)
    have len := r.length
    refine back_tuple hT (Heap.IsSliceOf.new _ .none .none (.int (-1) tk)) (by rw [List.size_toArray]; omega) ?_
    refine ⟨.ref _, _, I3.laid (t' := s2.toks) (o := .tup xs.reverse) (fun b ob g => Heap.get?_push_of_some _ g) (Nat.le_refl _) ?_, rfl, q _ (I3.hok.fresh (Nat.le_refl _))⟩
    refine ⟨?_, _, r.reverse, IsTup.new _ _⟩
    rw [List.length_reverse]; exact hz
/-- t[::-1] of a tuple -/
def pRevT : D → Rs D
  | .tuple ds => .ok (.tuple ds.reverse)
  | _ => .stuck
theorem ev_revT {m : Rs D} (h : EV X W b ρ e m) : EV X W b ρ (.Subscript e (.Slice none none (some (.UnaryOp .USub (.Constant (.int 1) k p1) p2)) p3) pos) (m.bind pRevT) :=
  PE.imp (pe_back h) fun σ H Q ⟨F, G, S, g⟩ => ⟨F, G, S, by
    cases m with
    | exc c => exact g
    | stuck => exact g
    | ok d =>
      intro v F1 H1 x1 r1
      cases d with
      | tuple ds =>
        obtain ⟨t, xs, rfl, h1, z1, r⟩ := inv_t r1
        refine ⟨t, xs, rfl, .of (tupH x1.fh h1), fun p hp => ?_⟩
        have g1 : DenE X W b (.ok (.tuple ds.reverse)) F H σ Q := g
        have y : Ext F1 H1 (upd F1 p (.tup xs.reverse)) (upd H1 p (.tup xs.reverse)) := .new x1.fh hp
        have z2 : xs.reverse.length ≤ sizeLine := by rw [List.length_reverse]; exact z1
        cases b with
        | true => exact g1 _ _ _ (x1.trans y) (.tup upd_same z2 (r.rev.mono y.h))
        | false => exact g1 _ _ _ (x1.trans y) (.tup upd_same z2 (r.rev.mono y.f))
      | _ => exact (show False from g).elim⟩
end
/-! ### a, b, c = a list of as many -/
section
variable {α : Type}
def up2L : D → Option (D × D)
  | .list [a, b] => some (a, b)
  | _ => none
def up3L : D → Option (D × D × D)
  | .list [a, b, c] => some (a, b, c)
  | _ => none
theorem tg_twoL {X : Cx} {i j : Nat} {x y : Str} {p1 p2 pos : Pos} {k : Nat} {ρ : α → List Sl} (hc : X.calm = true) (hx : Vs X i x) (hy : Vs X j y) (hi : ∀ a, i < (ρ a).length) (hj : ∀ a, j < (ρ a).length) :
    TgOk (γ := D × D) X (.Tuple [.Name x p1, .Name y p2] k pos) [i, j] ρ up2L (fun a d => ((ρ a).set i (.da d.1)).set j (.da d.2)) :=
  PG.imp (pg_lst (n := 2) hc (pgs_cons (pg_name hx.nd hx.n hx.l hx.f) (pgs_cons (pg_name hy.nd hy.n hy.l hy.f) pgs_nil))) fun v σ H Q ⟨a, c, F, G, d, e, S, rp, q⟩ => by
    match d, e, rp with
    | .list [d1, d2], e, rp =>
      cases e
      obtain ⟨p, xs, rfl, h1, z, r⟩ := inv_l rp
      cases r with
      | cons r1 r =>
        cases r with
        | cons r2 r =>
          cases r
          refine ⟨p, _, rfl, .inl (rd_mono S.fh.sub h1), rfl, _, _, rfl, _, _, rfl, rfl, q _ (by rw [setlen, setlen]) (wipe_set2 ..) ?_⟩
          exact (S.setD (hi a) r1).setD (by rw [List.length_set]; exact hj a) r2
theorem tg_threeL {X : Cx} {i j l : Nat} {x y z : Str} {p1 p2 p3 pos : Pos} {k : Nat} {ρ : α → List Sl} (hc : X.calm = true) (hx : Vs X i x) (hy : Vs X j y) (hz : Vs X l z) (hi : ∀ a, i < (ρ a).length) (hj : ∀ a, j < (ρ a).length) (hl : ∀ a, l < (ρ a).length) :
    TgOk (γ := D × D × D) X (.Tuple [.Name x p1, .Name y p2, .Name z p3] k pos) [i, j, l] ρ up3L (fun a d => (((ρ a).set i (.da d.1)).set j (.da d.2.1)).set l (.da d.2.2)) :=
  PG.imp (pg_lst (n := 3) hc (pgs_cons (pg_name hx.nd hx.n hx.l hx.f) (pgs_cons (pg_name hy.nd hy.n hy.l hy.f) (pgs_cons (pg_name hz.nd hz.n hz.l hz.f) pgs_nil)))) fun v σ H Q ⟨a, c, F, G, d, e, S, rp, q⟩ => by
    match d, e, rp with
    | .list [d1, d2, d3], e, rp =>
      cases e
      obtain ⟨p, xs, rfl, h1, zz, r⟩ := inv_l rp
      cases r with
      | cons r1 r =>
        cases r with
        | cons r2 r =>
          cases r with
          | cons r3 r =>
            cases r
            refine ⟨p, _, rfl, .inl (rd_mono S.fh.sub h1), rfl, _, _, rfl, _, _, rfl, _, _, rfl, rfl, q _ (by rw [setlen, setlen, setlen]) (wipe_set3 ..) ?_⟩
            exact ((S.setD (hi a) r1).setD (by rw [List.length_set]; exact hj a) r2).setD (by rw [List.length_set, List.length_set]; exact hl a) r3
variable {U : Un} {N : List Str} {sc : Scope} {fn : Str → Bool} {k : Nat} {X : Cx} {W : WX} {x : Str} {p1 p2 pos : Pos}
theorem k_twoL (y : DY U N sc fn k X W) (i j : Nat) {ρ : α → List Sl} {z : Str} {l : Nat} (hi : ∀ a, i < (ρ a).length) (hj : ∀ a, j < (ρ a).length) (c : vsC N sc fn i x = true := by decide +kernel) (c2 : vsC N sc fn j z = true := by decide +kernel) :
    TgOk (γ := D × D) X (.Tuple [.Name x p1, .Name z p2] l pos) [i, j] ρ up2L (fun a d => ((ρ a).set i (.da d.1)).set j (.da d.2)) := tg_twoL y.c (vs_of y.n y.s y.f c) (vs_of y.n y.s y.f c2) hi hj
theorem k_threeL (y : DY U N sc fn k X W) (i j q : Nat) {ρ : α → List Sl} {z u : Str} {l : Nat} {p3 : Pos} (hi : ∀ a, i < (ρ a).length) (hj : ∀ a, j < (ρ a).length) (hq : ∀ a, q < (ρ a).length) (c : vsC N sc fn i x = true := by decide +kernel) (c2 : vsC N sc fn j z = true := by decide +kernel) (c3 : vsC N sc fn q u = true := by decide +kernel) :
    TgOk (γ := D × D × D) X (.Tuple [.Name x p1, .Name z p2, .Name u p3] l pos) [i, j, q] ρ up3L (fun a d => (((ρ a).set i (.da d.1)).set j (.da d.2.1)).set q (.da d.2.2)) := tg_threeL y.c (vs_of y.n y.s y.f c) (vs_of y.n y.s y.f c2) (vs_of y.n y.s y.f c3) hi hj hq
theorem upS2L_ok {β : Type} (a b : D) (k : D × D → Rs (Out β)) : upS up2L (.ok (.list [a, b])) k = k (a, b) := rfl
theorem upS3L_ok {β : Type} (a b c : D) (k : D × D × D → Rs (Out β)) : upS up3L (.ok (.list [a, b, c])) k = k (a, b, c) := rfl
end
end Pu

/-! The pure layer, part 22: range with a step; a dict written out; xs[i] = v; d.get(k, x). -/
namespace Pu
open PySem PySem.Spec
open PyProof.Rows L2

/-! ### range(i, j, c) -/
theorem rgSize_up {i j c : Int} (hc : 0 < c) : Builtin.Range.rangeSize i j c = (((j - i + c - 1) / c).toNat : Int) := by
  unfold PySem.Builtin.Range.rangeSize
  rw [if_pos hc]
  by_cases h : i < j
  · rw [if_pos h]
    have e : j - i + c - 1 = (j - i - 1) + c := by omega
    have := Int.add_ediv_of_dvd_right (a := j - i - 1) (b := c) (c := c) (Int.dvd_refl c)
    rw [Int.ediv_self (by omega)] at this
    have p : 0 ≤ (j - i - 1) / c := Int.ediv_nonneg (by omega) (by omega)
    rw [e, this]
    omega
  · rw [if_neg h]
    have : (j - i + c - 1) / c ≤ 0 := by
      have h1 : (j - i + c - 1) / c < 1 := Int.ediv_lt_of_lt_mul hc (by omega)
      omega
    omega
theorem rgSize_le {i j c : Int} (hc : 0 < c) : ((j - i + c - 1) / c).toNat ≤ (j - i).toNat := by
  by_cases h : i < j
  · have e : j - i + c - 1 = (j - i - 1) + c := by omega
    have := Int.add_ediv_of_dvd_right (a := j - i - 1) (b := c) (c := c) (Int.dvd_refl c)
    rw [Int.ediv_self (by omega)] at this
    have p : (j - i - 1) / c ≤ j - i - 1 := Int.ediv_le_self _ (by omega)
    rw [e, this]
    omega
  · have : (j - i + c - 1) / c < 1 := Int.ediv_lt_of_lt_mul hc (by omega)
    omega
theorem small_up {i j c : Int} (a1 : -8388608 ≤ i) (a2 : i ≤ 8388608) (b1 : -8388608 ≤ j) (b2 : j ≤ 8388608) (hc : 0 < c) (hc2 : c < 1000) : Builtin.Range.small i j c = true := by
  unfold Builtin.Range.small
  rw [rgSize_up hc]
  have := rgSize_le (i := i) (j := j) hc
  simp only [Builtin.Range.rangeFitsLong, Bool.and_eq_true, Bool.or_eq_true, decide_eq_true_eq, beq_iff_eq, show c > 0 from hc, if_true]
  omega
section
variable {X : Cx} {W : WX} {ρ : List Sl} {tg e e2 e3 : Expr} {pos : Pos}
theorem ei_range3 {m : Rs (List D)} {p : Pos} (B : Bn X "range" (.type "range")) (h : EAs X W true ρ [e, e2, e3] m) (hs : starEach [e, e2, e3] X.env = (false, eval e X.env) :: starEach [e2, e3] X.env := by rfl) (hpl : (backTo pos (starEach [e2, e3] X.env)).any (·.1) = false := by rfl) :
    EI X W ρ tg (.Call (.Name "range" p) [e, e2, e3] [] pos) (m.bind pRange) :=
  PI.imp (pi_range3 B.g B.m h.run hs hpl) fun σ H R ⟨F, G, S, k⟩ => ⟨F, G, S, range_den (es := [e]) (G := G) S k fun ds vs F1 H1 e x r k1 => by
    have hl := h.len _ e
    match ds, hl, r with
    | [d, d', d''], _, .cons r0 (.cons r1 (.cons r2 .nil)) =>
      cases d with
      | int i =>
        cases d' with
        | int j =>
          cases d'' with
          | int c =>
            have k2 : DenW X W (if (rngOk i && rngOk j && decide (c = -1)) = true then .ok ((List.range (i - j).toNat).map fun (q : Nat) => .int (i - (q : Int))) else
              if (rngOk i && rngOk j && decide (0 < c) && decide (c < 1000)) = true then .ok ((List.range ((j - i + c - 1) / c).toNat).map fun (q : Nat) => .int (i + (q : Int) * c)) else .stuck) F1 H1 σ R := k1
            by_cases hc : (rngOk i && rngOk j && decide (c = -1)) = true
            · rw [if_pos hc] at k2
              rw [Bool.and_eq_true, Bool.and_eq_true, decide_eq_true_eq] at hc
              have b := rngOk_iff hc.1.1
              have b' := rngOk_iff hc.1.2
              have ec := hc.2
              subst ec
              refine ⟨i, j, -1, (i - j).toNat, by rw [inv_i r0, inv_i r1, inv_i r2], RgC.neg (by omega) (by omega) (by omega) (by omega), k2 _ F1 H1 (.refl x.fh) ?_⟩
              have e : ((List.range (i - j).toNat).map fun (q : Nat) => (PyData.int (i - (q : Int)) : D)) = (List.range (i - j).toNat).map fun (q : Nat) => PyData.int (i + (q : Int) * -1) := List.map_congr_left fun q _ => by
                rw [show i - (q : Int) = i + (q : Int) * -1 by omega]
              rw [e]
              exact walkD_fn (by rw [sizeLine_eq]; omega) walk_rangeC
            · rw [if_neg hc] at k2
              by_cases hc2 : (rngOk i && rngOk j && decide (0 < c) && decide (c < 1000)) = true
              · rw [if_pos hc2] at k2
                rw [Bool.and_eq_true, Bool.and_eq_true, Bool.and_eq_true, decide_eq_true_eq, decide_eq_true_eq] at hc2
                have b := rngOk_iff hc2.1.1.1
                have b' := rngOk_iff hc2.1.1.2
                have q1 := hc2.1.2
                have q2 := hc2.2
                have le := rgSize_le (i := i) (j := j) q1
                exact ⟨i, j, c, _, by rw [inv_i r0, inv_i r1, inv_i r2], ⟨by omega, by omega, small_up b.1 b.2 b'.1 b'.2 q1 q2, rgSize_up q1⟩, k2 _ F1 H1 (.refl x.fh) (walkD_fn (by rw [sizeLine_eq]; omega) walk_rangeC)⟩
              · rw [if_neg hc2] at k2; exact k2.elim
          | _ => exact (show False from k1).elim
        | _ => cases d'' <;> exact (show False from k1).elim
      | _ => cases d' <;> cases d'' <;> exact (show False from k1).elim⟩
theorem y_range3 {U : Un} {N : List Str} {sc : Scope} {fn : Str → Bool} {k : Nat} {p1 : Pos} (y : DY U N sc fn k X W) {m : Rs (List D)} (h : EAs X W true ρ [e, e2, e3] m) (c : gnC sc "range" = true := by decide +kernel) (hs : starEach [e, e2, e3] X.env = (false, eval e X.env) :: starEach [e2, e3] X.env := by rfl) (hpl : (backTo pos (starEach [e2, e3] X.env)).any (·.1) = false := by rfl) :
    EI X W ρ tg (.Call (.Name "range" p1) [e, e2, e3] [] pos) (m.bind pRange) := ei_range3 (y.bn c (by decide +kernel) (by decide +kernel)) h hs hpl
end
/-! ### {"a": "b", ..} -/
def mkK (kvs : List (Str × Str)) : List (Key × D) := kvs.foldl (fun acc p => putD acc (.inr p.1) (.str p.2)) []
structure KDs (X : Cx) (pos : Pos) (keys : List (Option Expr)) (values : List Expr) (kvs : List (Str × Str)) : Prop where
  run : PPs X pos keys values (kvs.map fun p => (tC (.str p.1), tC (.str p.2)))
  lk : keys.length = kvs.length
  lv : values.length = kvs.length
  all : keys.all (·.isSome) = true
theorem kds_nil {X : Cx} {pos : Pos} : KDs X pos [] [] [] := ⟨pps_nil, rfl, rfl, rfl⟩
theorem kds_cons {X : Cx} {pos pa pb : Pos} {ja jb} {a b : Str} {ks : List (Option Expr)} {vs : List Expr} {kvs : List (Str × Str)} (h : KDs X pos ks vs kvs) : KDs X pos (some (.Constant (.str a) ja pa) :: ks) (.Constant (.str b) jb pb :: vs) ((a, b) :: kvs) :=
  ⟨pps_cons pe_str pe_str h.run, by rw [List.length_cons, h.lk]; rfl, by rw [List.length_cons, h.lv]; rfl, by rw [List.all_cons, h.all]; rfl⟩
theorem pairs_c {σ : L2.St} {H : Hp} : ∀ {kvs : List (Str × Str)} {Q : List (V × V) → Hp → Prop}, Q (kvs.map fun p => (.str p.1, .str p.2)) H → tPairs (kvs.map fun p => (tC (.str p.1), tC (.str p.2))) σ H Q
  | [], _, h => h
  | _ :: kvs, _, h => pairs_c (kvs := kvs) h
theorem mk_rel {F : Hp} : ∀ (kvs : List (Str × Str)) (ws : List (Key × V)) (acc : List (Key × D)), ws.map (·.1) = acc.map (·.1) → RpA F (ws.map (·.2)) (acc.map (·.2)) →
    (mergeK ws (kvs.map fun p => (.inr p.1, .str p.2))).map (·.1) = (kvs.foldl (fun acc p => putD acc (.inr p.1) (.str p.2)) acc).map (·.1) ∧ RpA F ((mergeK ws (kvs.map fun p => (.inr p.1, .str p.2))).map (·.2)) ((kvs.foldl (fun acc p => putD acc (.inr p.1) (.str p.2)) acc).map (·.2))
  | [], _, _, h, r => ⟨h, r⟩
  | p :: kvs, ws, acc, h, r => by
    have := put_rel (k := (.inr p.1 : Key)) h r (.str p.2)
    exact mk_rel kvs _ _ this.1 this.2
section
variable {U : Un} {N : List Str} {sc : Scope} {k : Nat} {X : Cx} {W : WX} {ρ : List Sl} {e ev ek : Expr} {pos pos' p1 p2 p3 : Pos} {x : Str} {β : Type} {ρ' : β → List Sl} {rest : List Stmt}
theorem s_newKc (z : DZ U N sc k X W) (i : Nat) {keys : List (Option Expr)} {values : List Expr} {kvs : List (Str × Str)} {kk : Rs (Out β)} (h : KDs X p1 keys values kvs) (hr : BS X W (ρ.set i (.ok (mkK kvs))) rest ρ' kk) (hi : i < ρ.length := by simp) (cx : vsC N sc (fun _ => true) i x = true := by decide +kernel)
    (h0 : keys ≠ [] := by simp) (h15 : keys.length ≤ 15 := by decide) (hs : swapsWith (.Dict keys values p1) (some (.Name x pos')) pos.line X.env = pure false := by rfl) : BS X W ρ (.Assign [.Name x pos'] (.Dict keys values p1) pos :: rest) ρ' kk := by
  have hx := vs_of z.y.n z.y.s z.y.f cx
  refine PSs.imp (pss_cons (ps_set hx.nd hx.n hx.l (pe_disp h.run h.all (by rw [h.lk, h.lv]) h0 h15) hs hx.f) hr) fun D σ H ⟨F, G, S, q⟩ p hp => ?_
  refine pairs_c ⟨upd_same, kvs.map (fun q => (.inr q.1, .str q.2)), by rw [List.map_map]; rfl, by rw [List.length_map, ← h.lk]; exact h15, ?_⟩
  rw [upd_upd]
  have mr := mk_rel (F := F) kvs [] [] rfl .nil
  refine ⟨F, G, S.newOwn hi hp rfl (fun _ zz => by cases zz) ⟨_, upd_same, mr.1, mr.2⟩, ?_⟩
  rw [setlen]
  exact q
/-! ### xs[i] = v, of a list of one's own -/
def setLS {β : Type} (mv mi : Rs D) (ds : List D) (kk : List D → Rs (Out β)) : Rs (Out β) := mv.bind fun v => mi.bind fun i => match i with
  | .int z => match ixN ds.length z with
    | some j => kk (ds.set j v)
    | none => .stuck
  | _ => .stuck
theorem s_setE (z : DZ U N sc k X W) (i : Nat) {ds : List D} {mv mi : Rs D} {kk : List D → Rs (Out β)} (hs : ρ[i]? = some (.ol ds)) (hv : EV X W false ρ ev mv) (hk : EV X W true ρ ek mi) (hr : ∀ l, BS X W (ρ.set i (.ol l)) rest ρ' (kk l)) (cx : vaC N sc i x = true := by decide +kernel)
    (ha : ∀ v, assign (.Subscript (.Name x p1) ek p2) X.env v = (do
      let o1 ← holding [v] (eval (.Name x p1) X.env)
      let i1 ← holding [v, o1] (eval ek X.env)
      standAt p2
      holding [v, o1, i1] (setItem o1 i1 v)
      release [v, o1, i1] []) := by intro _; rfl)
    (h2 : swapsWithSole [.Subscript (.Name x p1) ek p2] ev pos.line X.env = pure false := by rfl) (hw : swappedStores [.Subscript (.Name x p1) ek p2] ev X.env = pure none := by rfl)
    (h1 : (assignEach [.Subscript (.Name x p1) ek p2] X.env).map (·.2) = [assign (.Subscript (.Name x p1) ek p2) X.env] := by rfl) : BS X W ρ (.Assign [.Subscript (.Name x p1) ek p2] ev pos :: rest) ρ' (setLS mv mi ds kk) := by
  have hx := va_of z.y.n z.y.s cx
  have st := ps_asg (X := X) (pos := pos) hv (pg_sub (pos := p2) (pe_var (pos := p1) hx.n hx.v hx.d hx.c) hk set_list ha) h2 hw h1
  have bad : ∀ {m : Rs (Out β)}, m = .stuck → BS X W ρ (.Assign [.Subscript (.Name x p1) ek p2] ev pos :: rest) ρ' m := fun {m} e => by
    subst e
    exact PSs.imp pss_never fun D σ H ⟨F, G, S, q⟩ => q
  cases mv with
  | exc c => exact PSs.imp (pss_cons st pss_never) fun D σ H ⟨F, G, S, q⟩ => ⟨F, G, S, fun v H' c s => (show DenS X W (.exc _) ρ' F G σ.length D from q) v σ H' c (S.fh.sub.trans s) (S.gh.trans s) rfl⟩
  | stuck => exact bad rfl
  | ok d =>
    cases mi with
    | exc c =>
      refine PSs.imp (pss_cons st pss_never) fun D σ H ⟨F, G, S, q⟩ => ⟨F, G, S, fun v F1 H1 x1 r1 => ?_⟩
      obtain ⟨a, e1, _⟩ := S.sl i _ hs
      exact ⟨.ref a, e1, F1, G, S.mono x1, fun v H' c s => (show DenS X W (.exc _) ρ' F G σ.length D from q) v σ H' c (S.fh.sub.trans (x1.h.trans s)) (S.gh.trans (x1.h.trans s)) rfl⟩
    | stuck => exact bad rfl
    | ok kd =>
      cases kd with
      | int kz =>
        cases hj : ixN ds.length kz with
        | none => exact bad (by show (match ixN ds.length kz with | some j => kk (ds.set j d) | none => Rs.stuck) = _; rw [hj])
        | some j =>
          have em : setLS (.ok d) (.ok (.int kz)) ds kk = kk (ds.set j d) := by
            show (match ixN ds.length kz with | some j => kk (ds.set j d) | none => Rs.stuck) = _
            rw [hj]
          rw [em]
          refine PSs.imp (pss_cons st (hr (ds.set j d))) fun D σ H ⟨F, G, S, q⟩ => ⟨F, G, S, fun v F1 H1 x1 r1 => ?_⟩
          have S1 := S.mono x1
          obtain ⟨a, e1, _⟩ := S.sl i _ hs
          refine ⟨.ref a, e1, F1, G, S1, fun u F2 H2 x2 r2 => ?_⟩
          have S2 := S1.mono x2
          obtain ⟨a', e2, f2, g2, xs, h2, z2, rr2⟩ := S2.sl i _ hs
          rw [e1] at e2
          cases e2
          refine ⟨a, xs, kz, j, rfl, inv_i r2, h2, by rw [rr2.length]; exact hj, F2, G, S2.own hs rfl e1 f2 g2 rfl (fun _ zz => by cases zz) ⟨_, upd_same, by rw [List.length_set]; exact z2, RpA.set ((show Rp F1 v d from r1).mono x2.f) j rr2⟩, ?_⟩
          exact (show DenS X W (kk (ds.set j d)) ρ' F G σ.length D from q).gr ((x1.trans x2).gr S.gh)
      | _ => exact bad rfl
end
/-! ### d.get(k, x) -/
def getV (md mk mx : Rs D) : Rs D := md.bind fun d => if (ddOf d).isSome = true then mk.bind fun k => mx.bind fun x => match getD? d k with
  | some o => .ok (o.getD x)
  | none => .stuck
  else .stuck
section
variable {U : Un} {N : List Str} {sc : Scope} {fn : Str → Bool} {k : Nat} {X : Cx} {W : WX} {ρ : List Sl} {o e f : Expr} {apos cpos : Pos} {md mk mx : Rs D}
theorem isD_rp {H : Hp} {v : V} {d : D} (r : Rp H v d) (h : (ddOf d).isSome = true) : ∃ a, v = .ref a ∧ IsD H a := by
  obtain ⟨x, hx⟩ := Option.isSome_iff_exists.mp h
  obtain ⟨a, rfl, ⟨ws, kvs, _, h1, _⟩ | ⟨ws, kvs, _, h1, _⟩⟩ := inv_dd r hx
  · exact ⟨a, rfl, .inl ⟨ws, h1⟩⟩
  · exact ⟨a, rfl, .inr ⟨ws, h1⟩⟩
theorem ev_get2 (hu : Rm X) (ho : EV X W true ρ o md) (he : EV X W true ρ e mk) (hf : EV X W true ρ f mx) (m : M2 X o "get" apos e f cpos) : EV X W true ρ (.Call (.Attribute o "get" apos) [e, f] [] cpos) (getV md mk mx) :=
  PE.imp (pe_dget2 hu.u1 ho he hf m) fun σ H Q ⟨F, G, S, q⟩ => by
    cases md with
    | exc c => exact ⟨F, G, S, q⟩
    | stuck => exact (show False from q).elim
    | ok d =>
      have q1 : DenE X W true (if (ddOf d).isSome = true then mk.bind fun k => mx.bind fun x => match getD? d k with | some o => .ok (o.getD x) | none => .stuck else .stuck) F H σ Q := q
      by_cases hd : (ddOf d).isSome = true
      · rw [if_pos hd] at q1
        refine ⟨F, G, S, fun v F1 H1 x1 r1 => ?_⟩
        obtain ⟨a, rfl, ia⟩ := isD_rp (show Rp H1 v d from r1) hd
        refine ⟨a, rfl, ia, F1, G, S.mono x1, ?_⟩
        cases mk with
        | exc c => exact DenX.mono x1.h q1
        | stuck => exact (show False from q1).elim
        | ok kd =>
          intro u F2 H2 x2 r2
          refine ⟨F2, G, (S.mono x1).mono x2, ?_⟩
          cases mx with
          | exc c => exact DenX.mono (x1.trans x2).h q1
          | stuck => exact (show False from q1).elim
          | ok xd =>
            intro w F3 H3 x3 r3
            have q2 : DenE X W true (match getD? d kd with | some o => .ok (o.getD xd) | none => .stuck) F H σ Q := q1
            cases hg : getD? d kd with
            | none => rw [hg] at q2; exact q2.elim
            | some oo =>
              rw [hg] at q2
              obtain ⟨a', ov, ea, g, al⟩ := rp_get ((show Rp H1 _ d from r1).mono (x2.trans x3).h) ((show Rp H2 u kd from r2).mono x3.h) hg
              cases ea
              refine ⟨ov, g, q2 _ F3 H3 ((x1.trans x2).trans x3) ?_⟩
              rcases al with ⟨rfl, rfl⟩ | ⟨u', x', rfl, rfl, rr⟩
              · exact r3
              · exact rr
      · rw [if_neg hd] at q1; exact q1.elim
theorem y_get2 (y : DY U N sc fn k X W) (ho : EV X W true ρ o md) (he : EV X W true ρ e mk) (hf : EV X W true ρ f mx) (h1 : attributeBase o "get" X.env (eval o X.env) = eval o X.env := by rfl)
    (h2 : ((backTo cpos (starEach [e, f] X.env)).all (fun x => !x.1) && (backToKw cpos (keywordEach [] X.env)).all (fun x => x.1.isSome) && decide (([e, f] : List Expr).length + ([] : List Keyword).length + (if ([] : List Keyword).isEmpty then 0 else 1) < 30)) = true := by rfl)
    (h3 : (apos.endLine == cpos.line) = true := by rfl) (h4 : backTo cpos (starEach [e, f] X.env) = [(false, eval e X.env), (false, eval f X.env)] := by rfl) : EV X W true ρ (.Call (.Attribute o "get" apos) [e, f] [] cpos) (getV md mk mx) := ev_get2 y.rm ho he hf ⟨h1, h2, h3, h4⟩
/-- d.get(k) -/
def getV1 (md mk : Rs D) : Rs D := md.bind fun d => if (ddOf d).isSome = true then mk.bind fun k => match getD? d k with
  | some o => .ok (o.getD .none)
  | none => .stuck
  else .stuck
theorem ev_get1 (hu : Rm X) (ho : EV X W true ρ o md) (he : EV X W true ρ e mk) (m : M1 X o "get" apos e cpos) : EV X W true ρ (.Call (.Attribute o "get" apos) [e] [] cpos) (getV1 md mk) :=
  PE.imp (pe_dget1 hu.u1 ho he m) fun σ H Q ⟨F, G, S, q⟩ => by
    cases md with
    | exc c => exact ⟨F, G, S, q⟩
    | stuck => exact (show False from q).elim
    | ok d =>
      have q1 : DenE X W true (if (ddOf d).isSome = true then mk.bind fun k => match getD? d k with | some o => .ok (o.getD .none) | none => .stuck else .stuck) F H σ Q := q
      by_cases hd : (ddOf d).isSome = true
      · rw [if_pos hd] at q1
        refine ⟨F, G, S, fun v F1 H1 x1 r1 => ?_⟩
        obtain ⟨a, rfl, ia⟩ := isD_rp (show Rp H1 v d from r1) hd
        refine ⟨a, rfl, ia, F1, G, S.mono x1, ?_⟩
        cases mk with
        | exc c => exact DenX.mono x1.h q1
        | stuck => exact (show False from q1).elim
        | ok kd =>
          intro u F2 H2 x2 r2
          have q2 : DenE X W true (match getD? d kd with | some o => .ok (o.getD .none) | none => .stuck) F H σ Q := q1
          cases hg : getD? d kd with
          | none => rw [hg] at q2; exact q2.elim
          | some oo =>
            rw [hg] at q2
            obtain ⟨a', ov, ea, g, al⟩ := rp_get ((show Rp H1 _ d from r1).mono x2.h) (show Rp H2 u kd from r2) hg
            cases ea
            refine ⟨ov, g, q2 _ F2 H2 (x1.trans x2) ?_⟩
            rcases al with ⟨rfl, rfl⟩ | ⟨u', x', rfl, rfl, rr⟩
            · exact .non
            · exact rr
      · rw [if_neg hd] at q1; exact q1.elim
theorem y_get1 (y : DY U N sc fn k X W) (ho : EV X W true ρ o md) (he : EV X W true ρ e mk) (h1 : attributeBase o "get" X.env (eval o X.env) = eval o X.env := by rfl)
    (h2 : ((backTo cpos (starEach [e] X.env)).all (fun x => !x.1) && (backToKw cpos (keywordEach [] X.env)).all (fun x => x.1.isSome) && decide (([e] : List Expr).length + ([] : List Keyword).length + (if ([] : List Keyword).isEmpty then 0 else 1) < 30)) = true := by rfl)
    (h3 : (apos.endLine == cpos.line) = true := by rfl) (h4 : backTo cpos (starEach [e] X.env) = [(false, eval e X.env)] := by rfl) : EV X W true ρ (.Call (.Attribute o "get" apos) [e] [] cpos) (getV1 md mk) := ev_get1 y.rm ho he ⟨h1, h2, h3, h4⟩
end
end Pu

/-! The pure layer, part 23: dicts not changed any more; text.split(sep). -/
namespace Pu
open PySem PySem.Spec
open PyProof.Rows L2
section
variable {X : Cx} {W : WX} {ρ : List Sl} {β : Type} {ρ' : β → List Sl}
theorem pss_lock {X : Cx} {sts : List Stmt} {t : TS} (h : PSs X sts t) : PSs X sts (fun D σ H => ∃ d u, H d = some u ∧ Mut (some u) ∧ ∀ od, t D σ (upd H d (.frz od u))) :=
  ⟨fun pins s σ H D I ⟨d, u, hd, mu, hw⟩ => by
    obtain ⟨od, J1⟩ := I.lock hd mu
    exact h.run pins s σ _ D J1 (hw od)⟩
theorem Ste.freezeL {F G H : Hp} {σ : L2.St} {ρ : List Sl} {i : Nat} {s : Sl} {a : Addr} {o : HO} {d : D} (S : Ste F G H σ ρ) (hs : ρ[i]? = some s) (ho : owns s = true) (ha : σ[i]? = some (some (V.ref a))) (hF : F a = none) (hG : G a = none)
    (nt : ∀ xs, o ≠ .tup xs) (r : Rp (upd F a o) (.ref a) d) (nd : noD o = true) : Ste (upd F a o) G (upd H a o) σ (ρ.set i (.da d)) := by
  have hi : i < ρ.length := (List.getElem?_eq_some_iff.mp hs).1
  have sF : Same F (upd F a o) := same_upd hF
  refine ⟨⟨fun b u e => ?_, fun b xs e => ?_, S.fh.nd.upd nd⟩, fun b u e => ?_, by rw [List.length_set]; exact S.len, fun j t e => ?_, fun j k t u c e1 e2 o1 o2 q1 q2 => ?_⟩
  · by_cases hb : b = a
    · subst hb; rw [upd_same] at e ⊢; exact e
    · rw [upd_ne hb] at e ⊢; exact S.fh.sub b u e
  · by_cases hb : b = a
    · subst hb; rw [upd_same] at e; cases e; exact absurd rfl (nt xs)
    · rw [upd_ne hb] at e ⊢; exact S.fh.tup b xs e
  · rw [upd_ne (ne_of_none e hG)]; exact S.gh b u e
  · by_cases hj : i = j
    · subst hj
      rw [List.getElem?_set_self hi] at e; cases e
      exact ⟨_, ha, r⟩
    · rw [List.getElem?_set_ne hj] at e
      have q := S.sl j t e
      have ne : owns t = true → ∀ c, σ[j]? = some (some (V.ref c)) → c ≠ a := fun ot c hc z => hj (S.dis i j s t a hs e ho ot ha (by rw [← z]; exact hc))
      cases t with
      | no => trivial
      | da _ => obtain ⟨v, e1, r1⟩ := q; exact ⟨v, e1, r1.mono sF⟩
      | ex _ => exact q
      | ol ds =>
        obtain ⟨c, e1, f1, g1, xs, h1, z1, r1⟩ := q
        exact ⟨c, e1, by rw [upd_ne (ne rfl c e1)]; exact f1, g1, xs, by rw [upd_ne (ne rfl c e1)]; exact h1, z1, r1.mono sF⟩
      | ok ds =>
        obtain ⟨c, e1, f1, g1, xs, h1, z1, r1⟩ := q
        exact ⟨c, e1, by rw [upd_ne (ne rfl c e1)]; exact f1, g1, xs, by rw [upd_ne (ne rfl c e1)]; exact h1, z1, r1.mono sF⟩
      | ot ds =>
        obtain ⟨c, e1, f1, g1, xs, h1, z1, r1⟩ := q
        exact ⟨c, e1, by rw [upd_ne (ne rfl c e1)]; exact f1, g1, xs, by rw [upd_ne (ne rfl c e1)]; exact h1, z1, r1.mono sF⟩
  · by_cases hj : i = j
    · subst hj; rw [List.getElem?_set_self hi] at e1; cases e1; cases o1
    · by_cases hk : i = k
      · subst hk; rw [List.getElem?_set_self hi] at e2; cases e2; cases o2
      · rw [List.getElem?_set_ne hj] at e1
        rw [List.getElem?_set_ne hk] at e2
        exact S.dis j k t u c e1 e2 o1 o2 q1 q2
theorem s_frzK (i : Nat) {kvs : List (Key × D)} {sts : List Stmt} {m : Rs (Out β)} (hs : ρ[i]? = some (.ok kvs)) (h : BS X W (ρ.set i (.da (okD kvs))) sts ρ' m) : BS X W ρ sts ρ' m :=
  PSs.imp (pss_lock h) fun D σ H ⟨F, G, S, q⟩ => by
    obtain ⟨a, e, f, g, ws, h1, h2, r1⟩ := S.sl i _ hs
    refine ⟨a, _, h1, trivial, fun od => ?_⟩
    have gr : Gr G F (upd F a (.frz od (.dK ws))) := .fresh f g
    exact ⟨_, G, S.freezeL hs rfl e f g (fun _ z => by cases z) (.dk (.inr ⟨od, upd_same⟩) h2 (r1.mono gr.f)) rfl, q.gr gr⟩
theorem s_frzT (i : Nat) {kvs : List (List Key × D)} {sts : List Stmt} {m : Rs (Out β)} (hs : ρ[i]? = some (.ot kvs)) (h : BS X W (ρ.set i (.da (otD kvs))) sts ρ' m) : BS X W ρ sts ρ' m :=
  PSs.imp (pss_lock h) fun D σ H ⟨F, G, S, q⟩ => by
    obtain ⟨a, e, f, g, ws, h1, h2, r1⟩ := S.sl i _ hs
    refine ⟨a, _, h1, trivial, fun od => ?_⟩
    have gr : Gr G F (upd F a (.frz od (.dT ws))) := .fresh f g
    exact ⟨_, G, S.freezeL hs rfl e f g (fun _ z => by cases z) (.dt (.inr ⟨od, upd_same⟩) h2 (r1.mono gr.f)) rfl, q.gr gr⟩
end
section
variable {X : Cx} {b : Bool}
theorem rpA_strs {F : Hp} : ∀ l : List Str, RpA F (l.map V.str) (l.map .str)
  | [] => .nil
  | s :: l => .cons (.str s) (rpA_strs l)
theorem m_split : MtR X "str.split" (rMs X b pSplit) := by
  rintro pins s σ H x xs v us Q I rx rs ⟨F, z, ds, fh, rfl, r, k⟩
  unfold pSplit at k
  split at k
  · rename_i t
    obtain ⟨hc, k⟩ := den_ite k
    rw [Bool.and_eq_true] at hc
    cases r with
    | cons r0 rn =>
      cases rn
      rw [inv_s r0] at rs
      have hz : z.length + 2 ≤ sizeLine := of_decide_eq_true hc.2
      refine mt_split pins s σ H _ _ v us Q I rx rs ⟨z, t, rfl, rfl, by simpa using hc.1, hz, fun p hp => ?_⟩
      have pF : F p = none := fh.none hp
      have hl : (Txt.split z t).length ≤ sizeLine := Nat.le_trans (PyProof.Rows.split_le z t) hz
      have x : Ext F H (upd F p (.lst ((Txt.split z t).map V.str))) (upd H p (.lst ((Txt.split z t).map V.str))) := .new fh hp
      refine k (.ref p) _ _ x ?_
      have rr : Rp (upd F p (.lst ((Txt.split z t).map V.str))) (.ref p) (.list ((Txt.split z t).map .str)) := .lst (.inl upd_same) (by rw [List.length_map]; exact hl) (rpA_strs _)
      exact Rp.up x.fh rr
  · exact k.elim
end
end Pu

/-! The pure layer, part 24: dict(pairs), dict(d), d.update(e), {k: v}; keys texts, keys points. -/
namespace Pu
open PySem PySem.Spec
open PyProof.Rows L2

/-! ### no two points hash alike -/
def ptH (x y : Nat) : Int := reduceHash (Builtin.Tuple.tupleHashOf [hashInt (x : Int), hashInt (y : Int)])
def toN (i : Int) : Nat := (i + 9223372036854775808).toNat
def allP : List (Nat × Nat) := (List.range 32).flatMap fun x => (List.range 32).map fun y => (x, y)
/-- parted by bits till all stand alone -/
def ndB : Nat → List Nat → Bool
  | _, [] => true
  | _, [_] => true
  | 0, _ => false
  | k + 1, l => ndB k (l.filter fun a => a.testBit k) && ndB k (l.filter fun a => !(a.testBit k))
theorem nd_parts {α : Type} (p : α → Bool) : ∀ l : List α, (l.filter p).Nodup → (l.filter fun a => !(p a)).Nodup → l.Nodup
  | [], _, _ => List.nodup_nil
  | a :: l, h1, h2 => by
    cases hp : p a with
    | true =>
      rw [List.filter_cons, if_pos hp] at h1
      rw [List.filter_cons, if_neg (by rw [hp]; simp)] at h2
      rw [List.nodup_cons] at h1 ⊢
      exact ⟨fun m => h1.1 (List.mem_filter.mpr ⟨m, hp⟩), nd_parts p l h1.2 h2⟩
    | false =>
      rw [List.filter_cons, if_neg (by rw [hp]; simp)] at h1
      rw [List.filter_cons, if_pos (by rw [hp]; rfl)] at h2
      rw [List.nodup_cons] at h2 ⊢
      exact ⟨fun m => h2.1 (List.mem_filter.mpr ⟨m, by rw [hp]; rfl⟩), nd_parts p l h1 h2.2⟩
theorem ndB_ok : ∀ (k : Nat) (l : List Nat), ndB k l = true → l.Nodup
  | _, [], _ => List.nodup_nil
  | _, [a], _ => List.nodup_cons.mpr ⟨List.not_mem_nil, List.nodup_nil⟩
  | 0, _ :: _ :: _, h => by cases h
  | k + 1, a :: b :: l, h => by
    have h' : (ndB k ((a :: b :: l).filter fun a => a.testBit k) && ndB k ((a :: b :: l).filter fun a => !(a.testBit k))) = true := h
    rw [Bool.and_eq_true] at h'
    exact nd_parts (fun a => a.testBit k) _ (ndB_ok k _ h'.1) (ndB_ok k _ h'.2)
theorem allP_nd : ndB 64 (allP.map fun p => toN (ptH p.1 p.2)) = true := by kernel_rfl
theorem inj_of_nodup {α β : Type} {f : α → β} : ∀ {l : List α}, (l.map f).Nodup → ∀ x ∈ l, ∀ y ∈ l, f x = f y → x = y
  | [], _, _, h, _, _, _ => nomatch h
  | a :: l, nd, x, hx, y, hy, e => by
    rw [List.map_cons, List.nodup_cons (a := _)] at nd
    rcases (List.mem_cons.mp hx) with rfl | hx
    · rcases (List.mem_cons.mp hy) with rfl | hy
      · rfl
      · exact absurd (List.mem_map.mpr ⟨y, hy, e.symm⟩) nd.1
    · rcases List.mem_cons.mp hy with h0 | hy
      · exact absurd (List.mem_map.mpr ⟨x, hx, by rw [e, h0]⟩) nd.1
      · exact inj_of_nodup nd.2 x hx y hy e
theorem mem_allP {x y : Nat} (hx : x < 32) (hy : y < 32) : (x, y) ∈ allP :=
  List.mem_flatMap.mpr ⟨x, List.mem_range.mpr hx, List.mem_map.mpr ⟨y, List.mem_range.mpr hy, rfl⟩⟩
theorem ptH_inj {x y x' y' : Nat} (h1 : x < 32) (h2 : y < 32) (h3 : x' < 32) (h4 : y' < 32) (e : ptH x y = ptH x' y') : x = x' ∧ y = y' := by
  have := inj_of_nodup (f := fun p : Nat × Nat => toN (ptH p.1 p.2)) (ndB_ok _ _ allP_nd) _ (mem_allP h1 h2) _ (mem_allP h3 h4) (by show toN (ptH x y) = toN (ptH x' y'); rw [e])
  exact ⟨congrArg Prod.fst this, congrArg Prod.snd this⟩
/-- the key is a point -/
def ptK : List Key → Bool
  | [.inl x, .inl y] => decide (0 ≤ x) && decide (x < 32) && decide (0 ≤ y) && decide (y < 32)
  | _ => false
theorem ptK_is {k : List Key} (h : ptK k = true) : ∃ x y : Nat, x < 32 ∧ y < 32 ∧ k = [.inl (x : Int), .inl (y : Int)] := by
  unfold ptK at h
  split at h
  · rename_i x y
    simp only [decide_eq_true_eq, Bool.and_eq_true] at h
    exact ⟨x.toNat, y.toNat, by omega, by omega, by rw [Int.toNat_of_nonneg (by omega), Int.toNat_of_nonneg (by omega)]⟩
  · cases h
theorem ptK_hash {P : Program} {w : World} {k k' : List Key} (h : ptK k = true) (h' : ptK k' = true) (e : (tupleKind (mixKind P w)).hash k = (tupleKind (mixKind P w)).hash k') : k = k' := by
  obtain ⟨x, y, h1, h2, rfl⟩ := ptK_is h
  obtain ⟨x', y', h3, h4, rfl⟩ := ptK_is h'
  have e' : ptH x y = ptH x' y' := e
  obtain ⟨rfl, rfl⟩ := ptH_inj h1 h2 h3 h4 e'
  rfl
theorem hash_nd {P : Program} {w : World} : ∀ {l : List (List Key)}, (∀ k ∈ l, ptK k = true) → l.Nodup → (l.map (tupleKind (mixKind P w)).hash).Nodup
  | [], _, _ => List.nodup_nil
  | a :: l, h, nd => by
    rw [List.nodup_cons] at nd
    rw [List.map_cons, List.nodup_cons (a := _)]
    refine ⟨fun m => ?_, hash_nd (fun k hk => h k (List.mem_cons_of_mem _ hk)) nd.2⟩
    obtain ⟨b, hb, e⟩ := List.mem_map.mp m
    have := ptK_hash (h b (List.mem_cons_of_mem _ hb)) (h a List.mem_cons_self) e
    subst this
    exact nd.1 hb

/-! ### merging -/
def mergeT (kvs more : List (List Key × V)) : List (List Key × V) := more.foldl (fun acc kv => putK acc kv.1 kv.2) kvs
theorem length_mergeT : ∀ (more kvs : List (List Key × V)), (mergeT kvs more).length ≤ kvs.length + more.length
  | [], kvs => by show kvs.length ≤ (kvs.length + 0); omega
  | p :: r, kvs => by
    have h1 := length_mergeT r (putK kvs p.1 p.2)
    have h2 := (length_putK kvs p.1 p.2)
    show (mergeT (putK kvs p.1 p.2) r).length ≤ _
    rw [List.length_cons]; omega
theorem KT.merge {H : Hp} : ∀ {more : List (List Key × V)} {rs : List (List Key × Addr × Value)} {kvs : List (List Key × V)} {vs : List (List Key × Addr × Value)}, L2.KT H more rs → L2.KT H kvs vs → L2.KT H (mergeT kvs more) (storedAllH vs rs)
  | [], _, _, _, r, q => by cases r; exact q
  | p :: more, _, kvs, vs, r, q => by
    cases r with
    | @cons _ b _ bs h t =>
      obtain ⟨k, a, u⟩ := b
      obtain ⟨h1, h2, h3⟩ := h
      have e : L2.KT H (putK kvs p.1 p.2) (storedH vs k a u) := by
        have := q.put p.1 (b := a) h2 h3
        rw [← show p.1 = k from h1]; exact this
      exact KT.merge (more := more) (rs := bs) t e
def putAll {κ : Type} [DecidableEq κ] (kvs more : List (κ × D)) : List (κ × D) := more.foldl (fun acc kv => putD acc kv.1 kv.2) kvs
theorem merge_rel {κ : Type} [DecidableEq κ] {F : Hp} : ∀ {mw : List (κ × V)} {md : List (κ × D)} {ws : List (κ × V)} {kvs : List (κ × D)}, mw.map (·.1) = md.map (·.1) → RpA F (mw.map (·.2)) (md.map (·.2)) → ws.map (·.1) = kvs.map (·.1) → RpA F (ws.map (·.2)) (kvs.map (·.2)) →
    (mw.foldl (fun acc kv => putK acc kv.1 kv.2) ws).map (·.1) = (putAll kvs md).map (·.1) ∧ RpA F ((mw.foldl (fun acc kv => putK acc kv.1 kv.2) ws).map (·.2)) ((putAll kvs md).map (·.2))
  | [], [], _, _, _, _, h, r => ⟨h, r⟩
  | [], _ :: _, _, _, e, _, _, _ => by cases e
  | _ :: _, [], _, _, e, _, _, _ => by cases e
  | (k, v) :: mw, (k', d) :: md, ws, kvs, e, q, h, r => by
    rw [List.map_cons, List.map_cons] at e q
    obtain ⟨e1, e2⟩ := List.cons.inj e
    dsimp only at e1
    subst e1
    cases q with
    | cons q0 qn =>
      have p := put_rel (k := k) h r q0
      exact merge_rel (mw := mw) (md := md) e2 qn p.1 p.2

/-! ### the pairs of a list -/
def pairOf : D → Option (D × D)
  | .tuple [k, v] => some (k, v)
  | _ => none
def pairsD {κ : Type} (key : D → Option κ) : List D → Option (List (κ × D))
  | [] => some []
  | d :: ds => match pairOf d with
    | some (k, v) => match key k with
      | some kk => (pairsD key ds).map ((kk, v) :: ·)
      | none => none
    | none => none
theorem pairsD_cons {κ : Type} {key : D → Option κ} {d : D} {ds : List D} {l : List (κ × D)} (h : pairsD key (d :: ds) = some l) : ∃ k v kk l', d = .tuple [k, v] ∧ key k = some kk ∧ pairsD key ds = some l' ∧ l = (kk, v) :: l' := by
  unfold pairsD pairOf at h
  split at h
  · rename_i k v e
    split at h
    · rename_i kk ek
      obtain ⟨l', e1, e2⟩ := Option.map_eq_some_iff.mp h
      split at e
      · cases e
        exact ⟨_, _, kk, l', rfl, ek, e1, e2.symm⟩
      · cases e
    · cases h
  · cases h
theorem pairsK_rp {K : PySem.W.Frag} {H : Hp} : ∀ {ds : List D} {l : List (Key × D)} {xs : List V}, pairsD keyOf ds = some l → RpA H xs ds →
    ∃ (ps : List Addr) (ws : List (Key × V)), xs = ps.map V.ref ∧ Paired (fun p kv => SqT K H p [kV kv.1, kv.2]) ps ws ∧ ws.map (·.1) = l.map (·.1) ∧ RpA H (ws.map (·.2)) (l.map (·.2))
  | [], l, _, h, .nil => by cases h; exact ⟨[], [], rfl, .nil, rfl, .nil⟩
  | d :: ds, l, _, h, .cons r0 rn => by
    obtain ⟨k, v, kk, l', rfl, ek, hl', rfl⟩ := pairsD_cons h
    obtain ⟨ps, ws, rfl, hp, hk, hv⟩ := pairsK_rp (K := K) hl' rn
    obtain ⟨a, ys, rfl, ha, _, ra⟩ := inv_t r0
    cases ra with
    | cons q0 qn =>
      cases qn with
      | cons q1 qn =>
        cases qn
        rename_i vv _
        have ek' := keyOf_eq ek
        subst ek'
        have := rp_key q0
        subst this
        exact ⟨a :: ps, (kk, vv) :: ws, rfl, .cons (.of ha) hp, by rw [List.map_cons, List.map_cons, hk], by rw [List.map_cons, List.map_cons]; exact .cons q1 hv⟩
/-- a tuple, as a key -/
def tkP (K : PySem.W.Frag) (H : Hp) (p : Addr) (q : List Key × Addr × V) : Prop := SqT K H p [.ref q.2.1, q.2.2] ∧ H q.2.1 = some (.tup (q.1.map kV))
theorem pairsT_rp {K : PySem.W.Frag} {H : Hp} : ∀ {ds : List D} {l : List (List Key × D)} {xs : List V}, pairsD tkOf ds = some l → RpA H xs ds →
    ∃ (ps : List Addr) (ws : List (List Key × Addr × V)), xs = ps.map V.ref ∧ Paired (tkP K H) ps ws ∧ ws.map (·.1) = l.map (·.1) ∧ RpA H (ws.map (·.2.2)) (l.map (·.2))
  | [], l, _, h, .nil => by cases h; exact ⟨[], [], rfl, .nil, rfl, .nil⟩
  | d :: ds, l, _, h, .cons r0 rn => by
    obtain ⟨k, v, kk, l', rfl, ek, hl', rfl⟩ := pairsD_cons h
    obtain ⟨ps, ws, rfl, hp, hk, hv⟩ := pairsT_rp (K := K) hl' rn
    obtain ⟨a, ys, rfl, ha, _, ra⟩ := inv_t r0
    cases ra with
    | cons q0 qn =>
      cases qn with
      | cons q1 qn =>
        cases qn
        rename_i vv _
        match k, ek, q0 with
        | .tuple ks, ek, q0 =>
          have ek' := keysOf_eq ek
          subst ek'
          obtain ⟨c, us, rfl, hc, _, ru⟩ := inv_t q0
          have := rp_keys ru
          subst this
          exact ⟨a :: ps, (kk, c, vv) :: ws, rfl, .cons ⟨.of ha, hc⟩ hp, by rw [List.map_cons, List.map_cons, hk], by rw [List.map_cons, List.map_cons]; exact .cons q1 hv⟩

/-! ### dict(e) -/
section
variable {X : Cx} {H : Hp} {s : Shared} {σ : L2.St} {pins : List (Addr × Obj)}
theorem pairs_ofT (I : Inv X pins σ H s) : ∀ {ps : List Addr} {ws : List (List Key × Addr × V)}, Paired (tkP X.K H) ps ws →
    ∃ prs : List (List Key × Addr × Value), L2.KT H (ws.map fun q => (q.1, q.2.2)) prs ∧ prs.length = ps.length ∧ ∀ (j : Nat) (q : List Key × Addr × Value), prs[j]? = some q → ∃ b : Addr, ps[j]? = some b ∧ IsTup s.heap b #[.ref q.2.1, q.2.2]
  | _, _, .nil => ⟨[], .nil, rfl, fun j r e => by simp at e⟩
  | _, _, .cons (b := kv) (a := p) h t => by
    obtain ⟨prs, r, hl, hp⟩ := pairs_ofT I t
    obtain ⟨its, rv, ht, _⟩ := I.tuple h.1
    obtain ⟨u, y, ei, ru, ry⟩ := (vals2 rv)
    subst ei
    cases (show u = Value.ref kv.2.1 from ru)
    refine ⟨(kv.1, kv.2.1, y) :: prs, by rw [List.map_cons]; exact .cons ⟨rfl, h.2, ry⟩ r, by rw [List.length_cons, List.length_cons, hl], fun j q e => ?_⟩
    cases j with
    | zero =>
      have e' : (kv.1, kv.2.1, y) = q := Option.some.inj e
      subst e'
      exact ⟨p, rfl, ht⟩
    | succ j =>
      obtain ⟨b, e1, e2⟩ := hp j q (by simpa using e)
      exact ⟨b, by simpa using e1, e2⟩
theorem key_keep {P : Program} {w : World} {h h' : Heap} {k : List Key} {b : Addr} (x : (tupleKind (mixKind P w)).is h k b) (e : ∀ o, h.get? b = some o → h'.get? b = some o) : (tupleKind (mixKind P w)).is h' k b := by
  obtain ⟨o, items, n, h1, h2⟩ := x
  exact ⟨o, items, n, e _ h1, h2⟩
theorem kt_keys {H : Hp} {h : Heap} (ok : HOk X.prog X.w H h) : ∀ {l : List (List Key × V)} {m : List (List Key × Addr × Value)}, L2.KT H l m → ∀ x ∈ m, (tupleKind (mixKind X.prog X.w)).is h x.1 x.2.1
  | _, _, .nil, x, hx => nomatch hx
  | _, _, .cons hq t, x, hx => by
    rcases (List.mem_cons.mp hx) with e | hx
    · subst e
      exact (key_of ok (by rw [← hq.1]; exact hq.2.1))
    · exact kt_keys ok t x hx
theorem kt_len {H : Hp} : ∀ {l : List (List Key × V)} {m : List (List Key × Addr × Value)}, L2.KT H l m → l.length = m.length
  | _, _, .nil => rfl
  | _, _, .cons _ t => by rw [List.length_cons, List.length_cons, kt_len t]
theorem call_dictPT (hcalm : X.calm = true) (hu : X.A.units + 3 < cLine) : CallR X (.type "dict") (fun xs H Q => ∃ (a : Addr) (ps : List Addr) (ws : List (List Key × Addr × V)), xs = [.ref a] ∧ SqL X.K H a (ps.map V.ref) ∧ Paired (tkP X.K H) ps ws ∧
    ∀ p, H p = none → Q (.ref p) (upd H p (.dT (mergeT [] (ws.map fun q => (q.1, q.2.2)))))) := by
  intro pins s σ H xs us Q I r q0
  obtain ⟨a, ps, ws, ex, hq, hp, q⟩ := q0
  subst ex
  obtain ⟨u, eu, rx⟩ := vals1 r
  subst eu
  cases rx
  obtain ⟨its, rv, pl, hz⟩ := (I.list hq)
  have ei := refs_at rv
  subst ei
  rw [List.length_map] at hz
  obtain ⟨prs, rel, hl, hpr⟩ := pairs_ofT I hp
  obtain ⟨o, n, ho, hc, hd, hdat⟩ := id pl
  have kinds := kt_keys I.hok rel
  refine PySem.call_dict_pairsH (knd := tupleKind (mixKind X.prog X.w)) (ps := prs) (PairArg.list a (ps.map Value.ref).toArray (fun j => ps[j]?.getD 0) (prs.map fun q => (.ref q.2.1, q.2.2))) (I.ok.hd hcalm)
    (show (X.A.in1.in1).units < cLine from by show X.A.units + 1 + 1 < cLine; omega) ⟨⟨o, n, ho, hc, hd, hdat⟩, by rw [List.length_map]; simp [hl], fun j k v hj => ?_⟩ ⟨by rw [List.length_map], fun i key v hi => ?_⟩ (fun h' hk x hx => ?_) (by rw [List.length_map, hl]; exact hz) fun h' tk hd' k => ?_
  · rw [List.getElem?_map] at hj
    cases e : prs[j]? with
    | none => rw [e] at hj; cases hj
    | some q' =>
      rw [e] at hj
      cases hj
      obtain ⟨b, e1, e2⟩ := hpr j q' e
      have eb : ps[j]?.getD 0 = b := by rw [e1]; rfl
      refine ⟨by show _ = some (Value.ref (ps[j]?.getD 0)); rw [eb]; simp [e1], .inl ?_⟩
      show s.heap.IsTuple (ps[j]?.getD 0) _
      rw [eb]
      obtain ⟨ob, h1, h2, nn, h3⟩ := e2
      exact ⟨ob, h1, h2, nn, h3⟩
  · have hi' : (prs.map fun q => (Value.ref q.2.1, q.2.2))[i]? = some (key, v) := hi
    rw [List.getElem?_map] at hi'
    cases e : prs[i]? with
    | none => rw [e] at hi'; cases hi'
    | some q' =>
      rw [e] at hi'
      cases hi'
      exact ⟨q'.1, q'.2.1, rfl, rfl⟩
  · have hx' := kinds x hx
    refine key_keep hx' fun o h => hk _ _ ?_ (by simp) h
    exact Nat.ne_of_lt (Heap.lt_size h)
  · have hm : (s.heap.objs.size == sysModules) = false := (beq_eq_false_iff_ne.mpr (Nat.ne_of_gt I.big))
    have hlen : (mergeT [] (ws.map fun q => (q.1, q.2.2))).length ≤ sizeLine := by
      refine Nat.le_trans (length_mergeT _ []) ?_
      rw [List.length_nil, Nat.zero_add, kt_len rel, hl]
      exact hz
    have hH : H s.heap.objs.size = none := I.hok.fresh (Nat.le_refl _)
    obtain ⟨od, es, ep, g1, g2, g3, g4, _, g6⟩ := hd'
    have kt := KT.merge rel (.nil : L2.KT H [] [])
    refine ⟨.ref s.heap.objs.size, upd H s.heap.objs.size (.dT (mergeT [] (ws.map fun q => (q.1, q.2.2)))), I.laid (t' := tk) (fun b o e => k b o (by simp) e) (Nat.le_refl _) (show ObjOk X.prog X.w _ _ _ (.dT (mergeT [] (ws.map fun q => (q.1, q.2.2)))) from
      ⟨hlen, hm, storedAllH [] prs, ?_, od, es, ep, g1, g2, g3, g4, g6⟩), rfl, q _ hH⟩
    exact KT.keeps kt fun b ys e => by rw [upd_ne (ne_of_none e hH)]; exact e
end
end Pu

/-! The pure layer, part 25: the rules for dict(e), d.update(e), {k: v}. -/
namespace Pu
open PySem PySem.Spec
open PyProof.Rows L2

theorem sqT_mono {K : PySem.W.Frag} {F H : Hp} (x : Same F H) {a : Addr} {xs : List V} (h : SqT K F a xs) : SqT K H a xs := by
  rcases h with h | h
  · exact .inl (rd_mono x h)
  · exact .inr h
section
variable {X : Cx} {H : Hp} {s : Shared} {σ : L2.St} {pins : List (Addr × Obj)}
/-- dict(d), d a dict of tuples -/
theorem call_dictCT {a : Addr} {ws : List (List Key × V)} {Q : Value → Shared → Prop} {A : Around} {E : Value → Shared → Prop} (hu : A.units + 3 < cLine) (I : Inv X pins σ H s) (e : Rd H a (.dT ws)) (hk : ∀ k ∈ ws.map (·.1), ptK k = true)
    (h : ∀ p s', H p = none → Inv X pins σ (upd H p (.dT ws)) s' → Q (.ref p) s') : wpAny (model X.prog X.w) A (call (.type "dict") [.ref a]) Q E s := by
  obtain ⟨z, hd, xs, rel, dd⟩ := (dt_rd I.hok e)
  have kinds := kt_keys I.hok rel
  have lt := dd.lt_size
  have big := I.big
  have hkeys : ws.map (·.1) = xs.map (·.1) := by
    clear h e hk dd kinds lt z
    induction rel with
    | nil => rfl
    | cons hq _ ih => rw [List.map_cons, List.map_cons, ih, hq.1]
  refine callType_codes (Q₁ := fun ob s₁ => ob = .ref s.heap.objs.size ∧ s₁ = { s with heap := s.heap.push { cls := .type "dict", data := .dict #[] } }) PySem.F.kt_called_dict (PySem.F.kt_typeCall_dict_1 _) PySem.F.entry_dict_init (kt_code_dict_new _ ⟨rfl, rfl⟩) ?_
  rintro obj s₁ ⟨rfl, rfl⟩
  have hT : Shared.TypeIs (id { s with heap := s.heap.push { cls := .type "dict", data := .dict #[] } }) (.ref s.heap.objs.size) "dict" := ⟨_, Heap.get?_push_size _ rfl, rfl⟩
  refine ⟨hT, PySem.F.args_dict_init_2 _ _, ?_⟩
  unfold Builtin.«dict.__init__» -- as written
  refine wpAny_bind ?_
  unfold Builtin.Dict.selfAndRest -- one argument
  refine (wpAny_bind (wpAny_notOrdered_dict hT ?_))
  show wpAny _ _ (pure (s.heap.objs.size, ([Value.ref a] : List Value))) _ _ _
  refine wpAny_pure ?_
  have k0 : ∀ b o, s.heap.get? b = some o → (s.heap.push { cls := .type "dict", data := .dict #[] }).get? b = some o := fun b o q => Heap.get?_push_of_some _ q
  refine updateFrom_dictH (A := A.in1) (knd := tupleKind (mixKind X.prog X.w)) (kvs := []) (more := xs) .none (show (A.in1.in1).units < cLine from by show A.units + 1 + 1 < cLine; omega) (Nat.ne_of_gt lt) hd (Heap.DictOfH.new s.heap)
    (dd.at' (fun o q => k0 _ _ q) fun y hy => key_keep (kinds y hy) fun o q => k0 _ _ q) (.inr ⟨fun x hx => (IsTupleKey.typeIs (s := { s with heap := s.heap.push { cls := .type "dict", data := .dict #[] } }) (key_keep (kinds x hx) fun o q => k0 _ _ q)), ?_⟩) (by rw [List.length_nil, Nat.zero_add, ← kt_len rel]; exact z) fun h' hd' _ hs' => ?_
  · have := hash_nd (P := X.prog) (w := X.w) (l := xs.map (·.1)) (by rw [← hkeys]; exact hk) dd.nodup
    rw [List.map_map] at this
    exact this
  · have kk : ∀ b o, s.heap.get? b = some o → h'.get? b = some o := fun b o q => (hs'.2 b (Nat.ne_of_lt (Heap.lt_size q))).trans (k0 _ _ q)
    have hH : H s.heap.objs.size = none := I.hok.fresh (Nat.le_refl _)
    rw [storedAllH_nil_of_nodup xs dd.nodup] at hd'
    obtain ⟨od, es, ep, g1, g2, g3, g4, _, g6⟩ := hd'
    refine ⟨rfl, h _ _ hH (I.laid (a := s.heap.objs.size) (o := .dT ws) (t' := s.toks) kk (Nat.le_refl _) ?_)⟩
    exact ⟨z, beq_eq_false_iff_ne.mpr (Nat.ne_of_gt big), xs, KT.keeps rel fun b ys q => by rw [upd_ne (ne_of_none q hH)]; exact q, od, es, ep, g1, g2, g3, g4, g6⟩
/-- d.update(e), both dicts of tuples -/
theorem call_updT {a b : Addr} {ws more : List (List Key × V)} {Q : Value → Shared → Prop} {A : Around} {E : Value → Shared → Prop} (hu : A.units + 3 < cLine) (I : Inv X pins σ H s) (e : H a = some (.dT ws)) (eb : Rd H b (.dT more)) (hab : a ≠ b)
    (hk : ws ≠ [] ∨ ∀ k ∈ more.map (·.1), ptK k = true) (hz : ws.length + more.length ≤ sizeLine) (h : ∀ s', Inv X pins σ (upd H a (.dT (mergeT ws more))) s' → Q .none s') : wpAny (model X.prog X.w) A (call (.builtin "dict.update") [.ref a, .ref b]) Q E s := by
  obtain ⟨za, hda, xa, rela, da⟩ := dt_of I.hok e
  obtain ⟨zb, hdb, xb, relb, db⟩ := dt_rd I.hok eb
  have kb := kt_keys I.hok relb
  have hkeys : more.map (·.1) = xb.map (·.1) := by
    clear h eb hk db kb zb hz
    induction relb with
    | nil => rfl
    | cons hq _ ih => rw [List.map_cons, List.map_cons, ih, hq.1]
  refine call_update_dictH (knd := tupleKind (mixKind X.prog X.w)) (show A.in1.units < cLine from by show A.units + 1 < cLine; omega) hab hdb da db ?_ (by rw [← kt_len rela, ← kt_len relb]; exact hz) fun h' hd' _ hs' => ?_
  · rcases hk with hk | hk
    · refine .inl fun z => hk ?_
      subst z
      cases rela; rfl
    · refine .inr ⟨fun x hx => IsTupleKey.typeIs (kb x hx), ?_⟩
      have := hash_nd (P := X.prog) (w := X.w) (l := xb.map (·.1)) (by rw [← hkeys]; exact hk) db.nodup
      rw [List.map_map] at this
      exact this
  · obtain ⟨od, es, ep, g1, g2, g3, g4, _, g6⟩ := hd'
    have kt := KT.merge relb rela
    refine h _ (d_write (h' := h') (t' := s.toks) I (by rw [e]; trivial) hs' ⟨_, g1⟩ ⟨Nat.le_trans (length_mergeT _ _) hz, hda, _, KT.keeps kt fun c ys q => ?_, od, es, ep, g1, g2, g3, g4, g6⟩)
    rw [upd_ne fun z => by rw [z, e] at q; cases q]
    exact q
end

/-! ### readings -/
def pDictK : D → Rs (List (Key × D))
  | .list ds => match pairsD keyOf ds with
    | some l => .ok (putAll [] l)
    | none => .stuck
  | d => match ddOf d with
    | some (.k kvs) => .ok kvs
    | _ => .stuck
def ptKs (kvs : List (List Key × D)) : Bool := kvs.all fun p => ptK p.1
def pDictT : D → Rs (List (List Key × D))
  | .list ds => match pairsD tkOf ds with
    | some l => .ok (putAll [] l)
    | none => .stuck
  | d => match ddOf d with
    | some (.t kvs) => if ptKs kvs = true then .ok kvs else .stuck
    | _ => .stuck
def rDK : List V → Hp → VK → Prop := fun xs H Q => ∃ F0 v d kvs, xs = [v] ∧ Same F0 H ∧ Rp F0 v d ∧ pDictK d = .ok kvs ∧ ∀ (p : Addr) (ws : List (Key × V)), H p = none → ws.map (·.1) = kvs.map (·.1) → RpA F0 (ws.map (·.2)) (kvs.map (·.2)) → Q (.ref p) (upd H p (.dK ws))
def rDT : List V → Hp → VK → Prop := fun xs H Q => ∃ F0 v d kvs, xs = [v] ∧ Same F0 H ∧ Rp F0 v d ∧ pDictT d = .ok kvs ∧ ∀ (p : Addr) (ws : List (List Key × V)), H p = none → ws.map (·.1) = kvs.map (·.1) → RpA F0 (ws.map (·.2)) (kvs.map (·.2)) → Q (.ref p) (upd H p (.dT ws))
section
variable {X : Cx}
theorem c_dictK (hcalm : X.calm = true) : CallR X (.type "dict") rDK := by
  rintro pins s σ H xs us Q I r ⟨F0, v, d, kvs, rfl, sm, rp, hd, q⟩
  have other : ∀ x, ddOf d = some (.k x) → kvs = x → wpAny (model X.prog X.w) X.A (call (.type "dict") us) (EP X pins σ Q) X.xe s := fun x hx e => by
    subst e
    obtain ⟨a, rfl, ⟨ws, kvs', e', h1, h2, h3⟩ | ⟨ws, kvs', e', _⟩⟩ := inv_dd rp hx
    · cases e'
      obtain ⟨u, eu, rx⟩ := vals1 r
      subst eu
      cases rx
      exact d_copyOf I (rd_mono sm h1) fun p s' hp J => ⟨.ref p, _, J, rfl, q p ws hp h2 h3⟩
    · cases e'
  cases d with
  | list ds =>
    have hd' : (match pairsD keyOf ds with | some l => Rs.ok (putAll [] l) | none => .stuck) = .ok kvs := hd
    cases hp : pairsD keyOf ds with
    | none => rw [hp] at hd'; cases hd'
    | some l =>
      rw [hp] at hd'
      cases hd'
      obtain ⟨a, ys, rfl, h1, _, r1⟩ := inv_l rp
      obtain ⟨ps, ws, rfl, h2, h3, h4⟩ := pairsK_rp (K := X.K) hp r1
      refine call_dictP hcalm pins s σ H _ us Q I r ⟨a, ps, ws, rfl, .inl (rd_mono sm h1), Paired.mapP h2 fun p kv z => sqT_mono sm z, fun p hpn => ?_⟩
      have m := merge_rel (F := F0) h3 h4 (ws := []) (kvs := []) rfl .nil
      exact q p (mergeK [] ws) hpn m.1 m.2
  | dict l =>
    have hd' : (match ddOf (.dict l) with | some (.k kvs) => Rs.ok kvs | _ => .stuck) = .ok kvs := hd
    cases hx : ddOf (.dict l) with
    | none => rw [hx] at hd'; cases hd'
    | some y =>
      rw [hx] at hd'
      cases y with
      | k x => cases hd'; exact other _ hx rfl
      | t x => cases hd'
  | _ => cases hd
theorem c_dictT (hcalm : X.calm = true) (hu : X.A.units + 3 < cLine) : CallR X (.type "dict") rDT := by
  rintro pins s σ H xs us Q I r ⟨F0, v, d, kvs, rfl, sm, rp, hd, q⟩
  cases d with
  | list ds =>
    have hd' : (match pairsD tkOf ds with | some l => Rs.ok (putAll [] l) | none => .stuck) = .ok kvs := hd
    cases hp : pairsD tkOf ds with
    | none => rw [hp] at hd'; cases hd'
    | some l =>
      rw [hp] at hd'
      cases hd'
      obtain ⟨a, ys, rfl, h1, _, r1⟩ := inv_l rp
      obtain ⟨ps, ws, rfl, h2, h3, h4⟩ := pairsT_rp (K := X.K) hp r1
      refine call_dictPT hcalm hu pins s σ H _ us Q I r ⟨a, ps, ws, rfl, .inl (rd_mono sm h1), Paired.mapP h2 fun p kv z => ⟨sqT_mono sm z.1, sm _ _ z.2⟩, fun p hpn => ?_⟩
      have m := merge_rel (F := F0) (mw := ws.map fun q => (q.1, q.2.2)) (md := l) (by rw [List.map_map]; exact h3) (by rw [List.map_map]; exact h4) (ws := []) (kvs := []) rfl .nil
      exact q p _ hpn m.1 m.2
  | dict l =>
    have hd' : (match ddOf (.dict l) with | some (.t kvs) => if ptKs kvs = true then Rs.ok kvs else .stuck | _ => .stuck) = .ok kvs := hd
    cases hx : ddOf (.dict l) with
    | none => rw [hx] at hd'; cases hd'
    | some y =>
      rw [hx] at hd'
      cases y with
      | k x => cases hd'
      | t x =>
        dsimp only at hd'
        by_cases hk : ptKs x = true
        · rw [if_pos hk] at hd'
          cases hd'
          obtain ⟨a, rfl, ⟨ws, kvs', e', _⟩ | ⟨ws, kvs', e', h1, h2, h3⟩⟩ := inv_dd rp hx
          · cases e'
          · cases e'
            obtain ⟨u, eu, rx⟩ := vals1 r
            subst eu
            cases rx
            refine call_dictCT hu I (rd_mono sm h1) (fun k hkk => ?_) fun p s' hp J => ⟨.ref p, _, J, rfl, q p ws hp h2 h3⟩
            rw [h2] at hkk
            obtain ⟨z, hz, rfl⟩ := List.mem_map.mp hkk
            exact List.all_eq_true.mp hk z hz
        · rw [if_neg hk] at hd'; cases hd'
  | _ => cases hd
theorem pe_lock {e : Expr} {t : TE} (h : PE X e t) : PE X e (fun σ H Q => t σ H fun v H1 => ∃ a u, v = .ref a ∧ H1 a = some u ∧ Mut (some u) ∧ ∀ od, Q v (upd H1 a (.frz od u))) :=
  ⟨fun pins s σ H Q I q => thn (h.run pins s σ H _ I q) fun u s1 ⟨v, H1, I1, rv, a, w, ev, ha, mu, hw⟩ => by
    obtain ⟨od, J⟩ := I1.lock ha mu
    exact ⟨v, _, J, rv, hw od⟩⟩
end
section
variable {X : Cx} {W : WX} {ρ : List Sl} {b : Bool} {e : Expr} {pos p1 : Pos} {m : Rs D}
def dKV (m : Rs D) : Rs D := m.bind fun d => (pDictK d).nox.bind fun l => .ok (okD l)
def dTV (m : Rs D) : Rs D := m.bind fun d => (pDictT d).nox.bind fun l => .ok (otD l)
theorem ev_dictK (hc : X.calm = true) (B : Bn X "dict" (.type "dict")) (h : EV X W false ρ e m) (he : starEach [e] X.env = [(false, eval e X.env)] := by rfl) : EV X W b ρ (.Call (.Name "dict" p1) [e] [] pos) (dKV m) :=
  PE.imp (pe_lock (pe_callTy (c_dictK hc) B.g B.m B.v (pa_cons h pa_nil he) B.n B.db he (by rfl))) fun σ H Q ⟨F, G, S, k⟩ => ⟨F, G, S, by
    cases m with
    | ok d =>
      intro v F1 H1 x1 r1
      have k1 : DenE X W b ((pDictK d).nox.bind fun l => .ok (okD l)) F H σ Q := k
      cases hd : pDictK d with
      | ok l =>
        rw [hd] at k1
        refine ⟨F1, v, d, l, rfl, x1.fh.sub, r1, hd, fun p ws hp hk hr => ⟨p, _, rfl, upd_same, trivial, fun od => ?_⟩⟩
        rw [upd_upd]
        have x : Ext F1 H1 (upd F1 p (.frz od (.dK ws))) (upd H1 p (.frz od (.dK ws))) := .new x1.fh hp
        exact (show DenE X W b (.ok (okD l)) F H σ Q from k1) _ _ _ (x1.trans x) (Rp.up x.fh (.dk (.inr ⟨od, upd_same⟩) hk (hr.mono x.f)))
      | exc c => rw [hd] at k1; exact k1.elim
      | stuck => rw [hd] at k1; exact k1.elim
    | exc c => exact k
    | stuck => exact k⟩
theorem ev_dictT (hu : Rm X) (hc : X.calm = true) (B : Bn X "dict" (.type "dict")) (h : EV X W false ρ e m) (he : starEach [e] X.env = [(false, eval e X.env)] := by rfl) : EV X W b ρ (.Call (.Name "dict" p1) [e] [] pos) (dTV m) :=
  PE.imp (pe_lock (pe_callTy (c_dictT hc (by have : X.A.units + 65 < cLine := hu; omega)) B.g B.m B.v (pa_cons h pa_nil he) B.n B.db he (by rfl))) fun σ H Q ⟨F, G, S, k⟩ => ⟨F, G, S, by
    cases m with
    | ok d =>
      intro v F1 H1 x1 r1
      have k1 : DenE X W b ((pDictT d).nox.bind fun l => .ok (otD l)) F H σ Q := k
      cases hd : pDictT d with
      | ok l =>
        rw [hd] at k1
        refine ⟨F1, v, d, l, rfl, x1.fh.sub, r1, hd, fun p ws hp hk hr => ⟨p, _, rfl, upd_same, trivial, fun od => ?_⟩⟩
        rw [upd_upd]
        have x : Ext F1 H1 (upd F1 p (.frz od (.dT ws))) (upd H1 p (.frz od (.dT ws))) := .new x1.fh hp
        exact (show DenE X W b (.ok (otD l)) F H σ Q from k1) _ _ _ (x1.trans x) (Rp.up x.fh (.dt (.inr ⟨od, upd_same⟩) hk (hr.mono x.f)))
      | exc c => rw [hd] at k1; exact k1.elim
      | stuck => rw [hd] at k1; exact k1.elim
    | exc c => exact k
    | stuck => exact k⟩
end
end Pu

/-! The pure layer, part 26: statements with dicts: x = dict(e), x = {k: v}, x.update(e). -/
namespace Pu
open PySem PySem.Spec
open PyProof.Rows L2

/-! ### the trees -/
section
variable {X : Cx} {o e ek ev : Expr} {apos cpos pos : Pos} {td ty tk tv : TE}
def tDUpd (td ty : TE) : TE := fun σ H Q => td σ H fun x H1 => ∃ a, x = .ref a ∧ IsD H1 a ∧ ty σ H1 fun y H2 => ∃ b kvs more, y = .ref b ∧ H2 a = some (.dT kvs) ∧ Rd H2 b (.dT more) ∧ a ≠ b ∧
  (kvs ≠ [] ∨ ∀ k ∈ more.map (·.1), ptK k = true) ∧ kvs.length + more.length ≤ sizeLine ∧ Q .non (upd H2 a (.dT (mergeT kvs more)))
theorem pe_dupd (hu : X.A.units + 3 < cLine) (ho : PE X o td) (he : PE X e ty) (m : M1 X o "update" apos e cpos) : PE X (.Call (.Attribute o "update" apos) [e] [] cpos) (tDUpd td ty) := by
  refine ⟨fun pns s σ H Q I h => ?_⟩
  refine wpAny_Call_method m.base m.few m.line PySem.F.plainAttrs_dict PySem.F.slot_dict_update PySem.F.type_dict_update (thn (ho.run pns s σ H _ I h) fun u s1 ⟨x, H1, I1, rx, a, ex, d, q1⟩ => ?_)
  subst ex
  obtain rfl : u = Value.ref a := id rx
  obtain ⟨t1, t2, _⟩ := (isD_at I1 d)
  refine ⟨t1, t2, ?_⟩
  rw [m.trees]
  refine Calls.callWith_builtin rfl (Calls.evalArgs_plain (Calls.spliced_cons (thn (he.run pns s1 σ H1 _ I1 q1) fun iv s2 ⟨y, H2, I2, ry, b, kvs, more, ey, h1, h2, h3, h4, h5, q2⟩ => Calls.spliced_nil ?_)))
  subst ey
  cases (show iv = Value.ref b from ry)
  exact call_updT hu I2 h1 h2 h3 h4 h5 fun s3 I3 => ⟨.non, _, I3, rfl, q2⟩
def tDisp1 (tk tv : TE) : TE := fun σ H Q => ∀ p, H p = none → tk σ (upd H p (.dT [])) fun y H1 => tv σ H1 fun v H2 => ∃ b kk, y = .ref b ∧ H2 b = some (.tup (kk.map kV)) ∧ H2 p = some (.dT []) ∧ Q (.ref p) (upd H2 p (.dT [(kk, v)]))
theorem pe_disp1 (hu : X.A.units < cLine) (hk : PE X ek tk) (hv : PE X ev tv) : PE X (.Dict [some ek] [ev] pos) (tDisp1 tk tv) := by
  refine ⟨fun pns s σ H Q I q => ?_⟩
  have hn := (I.hok.fresh (Nat.le_refl s.heap.objs.size))
  have I1 := I.laid (a := s.heap.objs.size) (o := .dT []) (h' := s.heap.push { cls := .type "dict", data := .dict #[] }) (t' := s.toks) (fun _ _ q => Heap.get?_push_of_some _ q) (Nat.le_refl _) (dt_empty s.heap I.big)
  refine wpAny_Dict_any (by rfl) (by rfl) (by simp) (by show 1 ≤ 15; decide) (pairTrees_cons_walk (thn (hk.run pns _ σ _ _ I1 (q _ hn)) fun u s2 ⟨y, H2, I2, ry, q2⟩ => thn (hv.run pns _ σ _ _ I2 q2) fun w2 s3 ⟨v, H3, I3, rv, b, kk, ey, hb, hp, q3⟩ => pairTrees_nil_walk ?_))
  subst ey
  cases (show u = Value.ref b from id ry)
  obtain ⟨z, hd, xs, rel, dd⟩ := dt_of I3.hok hp
  cases rel
  unfold storeAll
  rw [List.forIn_cons]
  refine wpAny_bind (wpAny_bind (wpAny_dictSet_heap (hsz := Nat.zero_le _) (knd := tupleKind (mixKind X.prog X.w)) hu (key_of I3.hok hb) dd fun h' hm' hs => wpAny_pure ?_))
  show wpAny _ _ (forIn ([] : List (Value × Value)) PUnit.unit _) _ _ _
  rw [List.forIn_nil]
  refine wpAny_pure ?_
  obtain ⟨od, es, ep, g1, g2, g3, g4, _, g6⟩ := hm'
  have bp : b ≠ s.heap.objs.size := fun z => by rw [z, hp] at hb; cases hb
  refine ⟨.ref s.heap.objs.size, _, d_write (h' := h') (ob := .dT [(kk, v)]) I3 (by rw [hp]; trivial) hs ⟨_, g1⟩ ?_, rfl, q3⟩
  exact ⟨by rw [sizeLine_eq]; show 1 ≤ _; decide, hd, _, .cons ⟨rfl, by rw [upd_ne bp]; exact hb, rv⟩ .nil, od, es, ep, g1, g2, g3, g4, g6⟩
end

section
variable {U : Un} {N : List Str} {sc : Scope} {fn : Str → Bool} {k : Nat} {X : Cx} {W : WX} {ρ : List Sl} {b : Bool} {e ek ev : Expr} {pos pos' p1 p2 p3 apos cpos : Pos} {x : Str} {β : Type} {ρ' : β → List Sl} {rest : List Stmt} {m mk mv : Rs D}
theorem y_dictK (y : DY U N sc fn k X W) (h : EV X W false ρ e m) (c : gnC sc "dict" = true := by decide +kernel) (he : starEach [e] X.env = [(false, eval e X.env)] := by rfl) : EV X W b ρ (.Call (.Name "dict" p1) [e] [] pos) (dKV m) :=
  ev_dictK y.c (y.bn c (by decide +kernel) (by decide +kernel)) h he
theorem y_dictT (y : DY U N sc fn k X W) (h : EV X W false ρ e m) (c : gnC sc "dict" = true := by decide +kernel) (he : starEach [e] X.env = [(false, eval e X.env)] := by rfl) : EV X W b ρ (.Call (.Name "dict" p1) [e] [] pos) (dTV m) :=
  ev_dictT y.rm y.c (y.bn c (by decide +kernel) (by decide +kernel)) h he
/-- x = dict(e), x to be changed -/
def dKS {β : Type} (m : Rs D) (kk : List (Key × D) → Rs (Out β)) : Rs (Out β) := m.bind fun d => (pDictK d).nox.bind kk
def dTS {β : Type} (m : Rs D) (kk : List (List Key × D) → Rs (Out β)) : Rs (Out β) := m.bind fun d => (pDictT d).nox.bind kk
theorem s_dictK (z : DZ U N sc k X W) (i : Nat) {kk : List (Key × D) → Rs (Out β)} (h : EV X W false ρ e m) (hr : ∀ l, BS X W (ρ.set i (.ok l)) rest ρ' (kk l)) (hi : i < ρ.length := by simp) (cx : vsC N sc (fun _ => true) i x = true := by decide +kernel) (c : gnC sc "dict" = true := by decide +kernel)
    (he : starEach [e] X.env = [(false, eval e X.env)] := by rfl) (hs : swapsWith (.Call (.Name "dict" p1) [e] [] p2) (some (.Name x pos')) pos.line X.env = pure false := by rfl) : BS X W ρ (.Assign [.Name x pos'] (.Call (.Name "dict" p1) [e] [] p2) pos :: rest) ρ' (dKS m kk) := by
  have hx := vs_of z.y.n z.y.s z.y.f cx
  have B := z.y.bn (x := "dict") (f := .type "dict") c (by decide +kernel) (by decide +kernel)
  have st := ps_set (pos := pos) (pos' := pos') hx.nd hx.n hx.l (pe_callTy (pos := p2) (p := p1) (c_dictK z.y.c) B.g B.m B.v (pa_cons h pa_nil he) B.n B.db he (by rfl)) hs hx.f
  have bad : ∀ {m : Rs (Out β)}, m = .stuck → BS X W ρ (.Assign [.Name x pos'] (.Call (.Name "dict" p1) [e] [] p2) pos :: rest) ρ' m := fun {m} e => by
    subst e
    exact PSs.imp pss_never fun D σ H ⟨F, G, S, q⟩ => q
  cases m with
  | exc c => exact PSs.imp (pss_cons st pss_never) fun D σ H ⟨F, G, S, q⟩ => ⟨F, G, S, fun v H' c s => (show DenS X W (.exc _) ρ' F G σ.length D from q) v σ H' c (S.fh.sub.trans s) (S.gh.trans s) rfl⟩
  | stuck => exact bad rfl
  | ok d =>
    cases hd : pDictK d with
    | ok l =>
      have em : dKS (.ok d) kk = kk l := by show ((pDictK d).nox.bind kk) = _; rw [hd]; rfl
      rw [em]
      refine PSs.imp (pss_cons st (hr l)) fun D σ H ⟨F, G, S, q⟩ => ⟨F, G, S, fun v F1 H1 x1 r1 => ⟨F1, v, d, l, rfl, x1.fh.sub, r1, hd, fun p ws hp hk hv => ?_⟩⟩
      refine ⟨F1, G, (S.mono x1).newOwn hi hp rfl (fun _ zz => by cases zz) ⟨ws, upd_same, hk, hv⟩, ?_⟩
      rw [setlen]
      exact (show DenS X W (kk l) ρ' F G σ.length D from q).gr (x1.gr S.gh)
    | exc c => exact bad (by show ((pDictK d).nox.bind kk) = _; rw [hd]; rfl)
    | stuck => exact bad (by show ((pDictK d).nox.bind kk) = _; rw [hd]; rfl)
theorem s_dictT (z : DZ U N sc k X W) (i : Nat) {kk : List (List Key × D) → Rs (Out β)} (h : EV X W false ρ e m) (hr : ∀ l, BS X W (ρ.set i (.ot l)) rest ρ' (kk l)) (hi : i < ρ.length := by simp) (cx : vsC N sc (fun _ => true) i x = true := by decide +kernel) (c : gnC sc "dict" = true := by decide +kernel)
    (he : starEach [e] X.env = [(false, eval e X.env)] := by rfl) (hs : swapsWith (.Call (.Name "dict" p1) [e] [] p2) (some (.Name x pos')) pos.line X.env = pure false := by rfl) : BS X W ρ (.Assign [.Name x pos'] (.Call (.Name "dict" p1) [e] [] p2) pos :: rest) ρ' (dTS m kk) := by
  have hx := vs_of z.y.n z.y.s z.y.f cx
  have B := z.y.bn (x := "dict") (f := .type "dict") c (by decide +kernel) (by decide +kernel)
  have hu : X.A.units + 65 < cLine := z.y.rm
  have st := ps_set (pos := pos) (pos' := pos') hx.nd hx.n hx.l (pe_callTy (pos := p2) (p := p1) (c_dictT z.y.c (by omega)) B.g B.m B.v (pa_cons h pa_nil he) B.n B.db he (by rfl)) hs hx.f
  have bad : ∀ {m : Rs (Out β)}, m = .stuck → BS X W ρ (.Assign [.Name x pos'] (.Call (.Name "dict" p1) [e] [] p2) pos :: rest) ρ' m := fun {m} e => by
    subst e
    exact PSs.imp pss_never fun D σ H ⟨F, G, S, q⟩ => q
  cases m with
  | exc c => exact PSs.imp (pss_cons st pss_never) fun D σ H ⟨F, G, S, q⟩ => ⟨F, G, S, fun v H' c s => (show DenS X W (.exc _) ρ' F G σ.length D from q) v σ H' c (S.fh.sub.trans s) (S.gh.trans s) rfl⟩
  | stuck => exact bad rfl
  | ok d =>
    cases hd : pDictT d with
    | ok l =>
      have em : dTS (.ok d) kk = kk l := by show ((pDictT d).nox.bind kk) = _; rw [hd]; rfl
      rw [em]
      refine PSs.imp (pss_cons st (hr l)) fun D σ H ⟨F, G, S, q⟩ => ⟨F, G, S, fun v F1 H1 x1 r1 => ⟨F1, v, d, l, rfl, x1.fh.sub, r1, hd, fun p ws hp hk hv => ?_⟩⟩
      refine ⟨F1, G, (S.mono x1).newOwn hi hp rfl (fun _ zz => by cases zz) ⟨ws, upd_same, hk, hv⟩, ?_⟩
      rw [setlen]
      exact (show DenS X W (kk l) ρ' F G σ.length D from q).gr (x1.gr S.gh)
    | exc c => exact bad (by show ((pDictT d).nox.bind kk) = _; rw [hd]; rfl)
    | stuck => exact bad (by show ((pDictT d).nox.bind kk) = _; rw [hd]; rfl)
/-- x.update(e) -/
def updTS {β : Type} (m : Rs D) (kvs : List (List Key × D)) (kk : List (List Key × D) → Rs (Out β)) : Rs (Out β) := m.bind fun d => match ddOf d with
  | some (.t more) => if (!kvs.isEmpty || ptKs more) = true ∧ kvs.length + more.length ≤ 16000000 then kk (putAll kvs more) else .stuck
  | _ => .stuck
theorem s_updT (z : DZ U N sc k X W) (i : Nat) {kvs : List (List Key × D)} {kk : List (List Key × D) → Rs (Out β)} (hs : ρ[i]? = some (.ot kvs)) (h : EV X W false ρ e m) (hr : ∀ l, BS X W (ρ.set i (.ot l)) rest ρ' (kk l)) (cx : vaC N sc i x = true := by decide +kernel)
    (h1 : attributeBase (.Name x p1) "update" X.env (eval (.Name x p1) X.env) = eval (.Name x p1) X.env := by rfl)
    (h2 : ((backTo cpos (starEach [e] X.env)).all (fun x => !x.1) && (backToKw cpos (keywordEach [] X.env)).all (fun x => x.1.isSome) && decide (([e] : List Expr).length + ([] : List Keyword).length + (if ([] : List Keyword).isEmpty then 0 else 1) < 30)) = true := by rfl)
    (h3 : (apos.endLine == cpos.line) = true := by rfl) (h4 : backTo cpos (starEach [e] X.env) = [(false, eval e X.env)] := by rfl) (hw : swapsWith (.Call (.Attribute (.Name x p1) "update" apos) [e] [] cpos) none pos.line X.env = pure false := by rfl) :
    BS X W ρ (.Expr (.Call (.Attribute (.Name x p1) "update" apos) [e] [] cpos) pos :: rest) ρ' (updTS m kvs kk) := by
  have hx := va_of z.y.n z.y.s cx
  have hu : X.A.units + 65 < cLine := z.y.rm
  have st := ps_expr (pos := pos) (pe_dupd (X := X) (by omega) (pe_var (pos := p1) hx.n hx.v hx.d hx.c) h ⟨h1, h2, h3, h4⟩) hw
  have bad : ∀ {m : Rs (Out β)}, m = .stuck → BS X W ρ (.Expr (.Call (.Attribute (.Name x p1) "update" apos) [e] [] cpos) pos :: rest) ρ' m := fun {m} e => by
    subst e
    exact PSs.imp pss_never fun D σ H ⟨F, G, S, q⟩ => q
  have isd : ∀ {F G H : Hp} {σ : L2.St}, Ste F G H σ ρ → ∃ a, σ[i]? = some (some (.ref a)) ∧ IsD H a := fun {F G H σ} S => by
    obtain ⟨a, e1, _, _, ws, h1, _⟩ := S.sl i _ hs
    exact ⟨a, e1, .inr ⟨ws, .inl h1⟩⟩
  cases m with
  | exc c =>
    refine PSs.imp (pss_cons st pss_never) fun D σ H ⟨F, G, S, q⟩ => ?_
    obtain ⟨a, e1, i1⟩ := isd S
    exact ⟨.ref a, e1, a, rfl, i1, F, G, S, fun v H' c s => (show DenS X W (.exc _) ρ' F G σ.length D from q) v σ H' c (S.fh.sub.trans s) (S.gh.trans s) rfl⟩
  | stuck => exact bad rfl
  | ok d =>
    have hd0 : updTS (.ok d) kvs kk = match ddOf d with
      | some (.t more) => if (!kvs.isEmpty || ptKs more) = true ∧ kvs.length + more.length ≤ 16000000 then kk (putAll kvs more) else .stuck
      | _ => .stuck := rfl
    rw [hd0]
    cases hd : ddOf d with
    | none => exact bad rfl
    | some y =>
      cases y with
      | k more => exact bad rfl
      | t more =>
        dsimp only
        by_cases hc : (!kvs.isEmpty || ptKs more) = true ∧ kvs.length + more.length ≤ 16000000
        · rw [if_pos hc]
          refine PSs.imp (pss_cons st (hr (putAll kvs more))) fun D σ H ⟨F, G, S, q⟩ => ?_
          obtain ⟨a, e1, i1⟩ := isd S
          refine ⟨.ref a, e1, a, rfl, i1, F, G, S, fun v F1 H1 x1 r1 => ?_⟩
          have S1 := S.mono x1
          obtain ⟨a', e2, f2, g2, ws, h2, hd2, rr2⟩ := S1.sl i _ hs
          rw [e1] at e2
          cases e2
          obtain ⟨b, rfl, ⟨_, _, e', _⟩ | ⟨mw, more', e', hb, hk, hv⟩⟩ := inv_dd (show Rp F1 v d from r1) hd
          · cases e'
          · cases e'
            have hab : a ≠ b := fun z => by
              rw [← z] at hb
              rcases hb with hb | ⟨_, hb⟩ <;> (rw [f2] at hb; cases hb)
            have l1 : ws.length = kvs.length := by have := congrArg List.length hd2; rwa [List.length_map, List.length_map] at this
            have l2 : mw.length = more.length := by have := congrArg List.length hk; rwa [List.length_map, List.length_map] at this
            have pr := merge_rel hk hv hd2 rr2
            refine ⟨b, ws, mw, rfl, h2, rd_mono x1.fh.sub hb, hab, ?_, by rw [l1, l2, sizeLine_eq]; omega, F1, G, S1.own hs rfl e1 f2 g2 rfl (fun _ zz => by cases zz) ⟨_, upd_same, pr.1, pr.2⟩, ?_⟩
            · rw [Bool.or_eq_true] at hc
              rcases hc.1 with hc | hc
              · refine .inl fun z => ?_
                subst z
                cases kvs with
                | nil => cases hc
                | cons _ _ => cases l1
              · refine .inr fun kx hkx => ?_
                rw [hk] at hkx
                obtain ⟨y, hy, rfl⟩ := List.mem_map.mp hkx
                exact List.all_eq_true.mp hc y hy
            · exact (show DenS X W (kk (putAll kvs more)) ρ' F G σ.length D from q).gr (x1.gr S.gh)
        · rw [if_neg hc]; exact bad rfl
/-- x = {k: v}, k a tuple -/
def new1S {β : Type} (mk mv : Rs D) (kk : List (List Key × D) → Rs (Out β)) : Rs (Out β) := mk.bind fun kd => mv.bind fun v => match tkOf kd with
  | some q => kk [(q, v)]
  | none => .stuck
theorem s_new1 (z : DZ U N sc k X W) (i : Nat) {kk : List (List Key × D) → Rs (Out β)} (hk : EV X W false ρ ek mk) (hv : EV X W false ρ ev mv) (hr : ∀ l, BS X W (ρ.set i (.ot l)) rest ρ' (kk l)) (hi : i < ρ.length := by simp) (cx : vsC N sc (fun _ => true) i x = true := by decide +kernel)
    (hs : swapsWith (.Dict [some ek] [ev] p1) (some (.Name x pos')) pos.line X.env = pure false := by rfl) : BS X W ρ (.Assign [.Name x pos'] (.Dict [some ek] [ev] p1) pos :: rest) ρ' (new1S mk mv kk) := by
  have hx := vs_of z.y.n z.y.s z.y.f cx
  have hu : X.A.units + 65 < cLine := z.y.rm
  have st := ps_set (pos := pos) (pos' := pos') hx.nd hx.n hx.l (pe_disp1 (pos := p1) (by omega) hk hv) hs hx.f
  have bad : ∀ {m : Rs (Out β)}, m = .stuck → BS X W ρ (.Assign [.Name x pos'] (.Dict [some ek] [ev] p1) pos :: rest) ρ' m := fun {m} e => by
    subst e
    exact PSs.imp pss_never fun D σ H ⟨F, G, S, q⟩ => q
  have x0 : ∀ {F H : Hp} {p : Addr}, FH F H → H p = none → Ext F H F (upd H p (.dT [])) := fun {F H p} fh hp =>
    ⟨.refl _, same_upd hp, ⟨fun a u e => by rw [upd_ne (ne_of_none e (fh.none hp))]; exact fh.sub a u e, fun a xs e => by
      by_cases h : a = p
      · subst h; rw [upd_same] at e; cases e
      · rw [upd_ne h] at e; exact fh.tup a xs e, fh.nd⟩, fun a h h' => absurd h h'⟩
  cases mk with
  | exc c => exact PSs.imp (pss_cons st pss_never) fun D σ H ⟨F, G, S, q⟩ p hp => ⟨F, G, S.mono (x0 S.fh hp), fun v H' c s => (show DenS X W (.exc _) ρ' F G σ.length D from q) v σ H' c (S.fh.sub.trans ((same_upd hp).trans s)) (S.gh.trans ((same_upd hp).trans s)) rfl⟩
  | stuck => exact bad rfl
  | ok kd =>
    cases mv with
    | exc c =>
      refine PSs.imp (pss_cons st pss_never) fun D σ H ⟨F, G, S, q⟩ p hp => ⟨F, G, S.mono (x0 S.fh hp), fun v F1 H1 x1 r1 => ⟨F1, G, (S.mono (x0 S.fh hp)).mono x1, fun v H' c s => ?_⟩⟩
      exact (show DenS X W (.exc _) ρ' F G σ.length D from q) v σ H' c (S.fh.sub.trans ((same_upd hp).trans (x1.h.trans s))) (S.gh.trans ((same_upd hp).trans (x1.h.trans s))) rfl
    | stuck => exact bad rfl
    | ok vd =>
      cases hkd : tkOf kd with
      | none => exact bad (by show (match tkOf kd with | some q => kk [(q, vd)] | none => _) = _; rw [hkd])
      | some q1 =>
        have em : new1S (.ok kd) (.ok vd) kk = kk [(q1, vd)] := by show (match tkOf kd with | some q => kk [(q, vd)] | none => _) = _; rw [hkd]
        rw [em]
        refine PSs.imp (pss_cons st (hr [(q1, vd)])) fun D σ H ⟨F, G, S, q⟩ p hp => ⟨F, G, S.mono (x0 S.fh hp), fun y F1 H1 x1 r1 => ⟨F1, G, (S.mono (x0 S.fh hp)).mono x1, fun v F2 H2 x2 r2 => ?_⟩⟩
        match kd, hkd, r1 with
        | .tuple ks, hkd, r1 =>
          have ek' := keysOf_eq hkd
          subst ek'
          obtain ⟨c, us, rfl, hc, _, ru⟩ := inv_t (show Rp F1 _ _ from r1)
          have hu := rp_keys ru
          subst hu
          have xx := (x0 S.fh hp).trans (x1.trans x2)
          have hp2 : H2 p = some (.dT []) := x2.h _ _ (x1.h _ _ upd_same)
          have fp : F2 p = none := x2.keepNone (x1.keepNone (S.fh.none hp) (by rw [upd_same]; intro z; cases z)) (by rw [x1.h _ _ upd_same]; intro z; cases z)
          refine ⟨c, q1, rfl, x2.h _ _ (x1.fh.sub _ _ hc), hp2, F2, G, ?_, ?_⟩
          · have T0 := (S.newOwn (i := i) (s := .ot []) (o := .dT []) hi hp rfl (fun _ zz => by cases zz) ⟨[], upd_same, rfl, .nil⟩).mono (x1.trans x2)
            have T1 := T0.own (i := i) (s := .ot []) (s' := .ot [(q1, vd)]) (a := p) (o := .dT [(q1, v)]) (List.getElem?_set_self hi) rfl (List.getElem?_set_self (by rw [S.len]; exact hi)) fp (S.gh.free hp) rfl (fun _ zz => by cases zz) ⟨_, upd_same, rfl, .cons r2 .nil⟩
            rw [List.set_set] at T1
            exact T1
          · rw [setlen]
            exact (show DenS X W (kk [(q1, vd)]) ρ' F G σ.length D from q).gr (xx.gr S.gh)
end
/-- {} as a value -/
theorem ev_new0K {X : Cx} {W : WX} {ρ : List Sl} {b : Bool} {pos : Pos} : EV X W b ρ (.Dict [] [] pos) (.ok (okD [])) := PE.imp (pe_lock pe_dnewK) fun σ H Q ⟨F, G, S, k⟩ p hp => ⟨p, _, rfl, upd_same, trivial, fun od => by
  rw [upd_upd]
  have x : Ext F H (upd F p (.frz od (.dK []))) (upd H p (.frz od (.dK []))) := .new S.fh hp
  exact (show DenE X W b (.ok (okD [])) F H σ Q from k) _ _ _ x (Rp.up x.fh (.dk (ws := []) (kvs := []) (.inr ⟨od, upd_same⟩) rfl .nil))⟩
theorem ev_new0T {X : Cx} {W : WX} {ρ : List Sl} {b : Bool} {pos : Pos} : EV X W b ρ (.Dict [] [] pos) (.ok (otD [])) := PE.imp (pe_lock pe_dnewT) fun σ H Q ⟨F, G, S, k⟩ p hp => ⟨p, _, rfl, upd_same, trivial, fun od => by
  rw [upd_upd]
  have x : Ext F H (upd F p (.frz od (.dT []))) (upd H p (.frz od (.dT []))) := .new S.fh hp
  exact (show DenE X W b (.ok (otD [])) F H σ Q from k) _ _ _ x (Rp.up x.fh (.dt (ws := []) (kvs := []) (.inr ⟨od, upd_same⟩) rfl .nil))⟩
/-- int(e), of a number, a bool -/
def pInt : List D → Rs D
  | [.int i] => .ok (.int i)
  | [.bool c] => .ok (.int (if c = true then 1 else 0))
  | _ => .stuck
theorem c_int {X : Cx} {b b' : Bool} : Cb X b b' (.type "int") pInt := by
  rintro pins s σ H vs us Q I r ⟨F, ds, fh, rp, k⟩
  unfold pInt at k
  split at k
  · cases rp with
    | cons r0 rn =>
      cases rn
      rw [inv_i r0] at r
      exact call_int1 pins s σ H _ us Q I r (.inl ⟨_, rfl, k _ F H (.refl fh) (Rp.up fh (.int _))⟩)
  · rename_i c
    cases rp with
    | cons r0 rn =>
      cases rn
      rw [inv_b r0] at r
      exact call_int1 pins s σ H _ us Q I r (.inr ⟨c, rfl, k _ F H (.refl fh) (Rp.up fh (.int _))⟩)
  · exact k.elim
end Pu

/-! The pure layer, part 27: try forms: except X: return False; except WordError as e: with a suite of its own. -/
namespace Pu
open PySem PySem.Spec
open PyProof.Rows L2
def DgE (U : Un) (c : Str) : Prop := ∃ C, U.mg c = some (.ref C) ∧ PySem.W.exmOne U.K (.ref C) (.ref C) = some true
/-- what is caught, all tuples being frozen: the frozen part grows -/
theorem withTups_gr {F G H H' : Hp} (fh : FH F H) (gh : Same G H) (sF : Same F H') (sG : Same G H') : FH (withTups F H') H' ∧ Gr G F (withTups F H') := by
  obtain ⟨f1, f2⟩ := withTups_fh sF fh.nd
  refine ⟨f1, f2, fun b hb hw' => ?_⟩
  cases hG : G b with
  | none => rfl
  | some o =>
    exfalso
    have hH := sG b o hG
    unfold withTups at hw'
    rw [hH] at hw'
    cases o with
    | tup xs =>
      have := fh.tup b xs (gh b _ hG)
      rw [this] at hb; cases hb
    | _ => exact hw' hb
def Rs.catch1 {γ : Type} (nm : Str) (v : Bool) (m : Rs (Out γ)) : Rs (Out γ) := match m with
  | .exc c => if c = nm then .ok (.ret (.bool v)) else .stuck
  | m => m
def try1S {α β : Type} (nm : Str) (v : Bool) (m : Rs (Out α)) (kk : α → Rs (Out β)) : Rs (Out β) := (m.catch1 nm v).seq kk
section
variable {U : Un} {N : List Str} {sc : Scope} {k j : Nat} {X : Cx} {W : WX} {b : Bool} {ρ : List Sl} {e : Expr} {pos pos' p1 p2 : Pos} {x : Str} {α β γ : Type} {ρ' : β → List Sl} {rest body : List Stmt}
theorem s_try1 (z : DZ U N sc k X W) {nm : Str} {v : Bool} {j : Nat} (ρ1 : α → List Sl) {mb : Rs (Out α)} {kk : α → Rs (Out β)} {p3 p5 : Pos} (Dg : DgE U nm)
    (hb : ∀ Y W', DZ U N sc k Y W' → BS Y W' ρ body ρ1 mb) (hR : ∀ a, BS X W (ρ1 a) rest ρ' (kk a)) (hl : ∀ a, (ρ1 a).length = ρ.length := by intro _; rfl)
    (cn : gnC sc nm = true := by decide +kernel) :
    BS X W ρ (.Try body [.ExceptHandler (some (.Name nm p1)) none [.Return (some (.Constant (.bool v) j p3)) p5] pos'] [] [] pos :: rest) ρ' (try1S nm v mb kk) := by
  obtain ⟨B, hB, hBC⟩ := Dg
  have hw : Gn X nm := gn_of z.y.s cn
  have rest_ok : PSs X rest (rAny X W ρ1 ρ' kk) := ⟨fun pins s σ H D I ⟨x, F, G, S, q⟩ => (hR x).run pins s σ H D I ⟨F, G, S, q⟩⟩
  have hd : L2N.HdsOk X [.ExceptHandler (some (.Name nm p1)) none [.Return (some (.Constant (.bool v) j p3)) p5] pos'] [(.ref B, fun _ _ _ => fun D _ H => D.rt (.bl v) H)] :=
    .cons ⟨hw.g, hw.db, .inl (by rw [z.y.eM]; exact hB)⟩ (fun a oe cls d pn hz hfd => PSs.imp (pss_cons (ps_ret pe_bl) pss_never) fun D σ H q => q) .nil
  refine PSs.imp (pss_cons (L2N.ps_try_many (tb := fun W' => rBS X W' ρ ρ1 mb) z.stk z.fr z.y.tk (fun W' pn xe t' p' => hb _ W' (z.tr t' p')) hd) rest_ok) fun D σ H ⟨F, G, S, q⟩ => ⟨F, G, S, ?_⟩
  cases mb with
  | ok o =>
    cases o with
    | nx a =>
      intro σ' F' H' gr S'
      have q1 : DenS X W (kk a) ρ' F G σ.length D := q
      have el : σ'.length = σ.length := by rw [S'.len, hl, ← S.len]
      exact ⟨a, F', G, S', by rw [el]; exact q1.gr gr⟩
    | ret d => exact fun v F' H' gr fh' gh' r => (show DenS X W (.ok (.ret d)) ρ' F G σ.length D from q) v F' H' gr fh' gh' r
  | exc c =>
    intro v2 σ' H' ⟨C, hv', hC⟩ sF sG hn
    subst hv'
    have q' : DenS X W ((Rs.catch1 nm v (.exc c : Rs (Out α))).seq kk) ρ' F G σ.length D := q
    unfold Rs.catch1 at q'
    dsimp only at q'
    by_cases hc : c = nm
    · rw [if_pos hc] at q'
      have q2 : ∀ u F' H', Gr G F F' → FH F' H' → Same G H' → Rp F' u (.bool v) → D.rt u H' := q'
      have e : C = B := by
        subst hc
        have h1 : U.mg c = some (.ref C) := by rw [← z.y.eM]; exact hC
        rw [hB] at h1; cases h1; rfl
      subst e
      obtain ⟨f1, f2⟩ := withTups_gr S.fh S.gh sF sG
      exact ⟨true, by rw [z.y.eK]; exact hBC, fun _ a ha => q2 _ _ _ f2 f1 sG (.bl v), fun z => by cases z⟩
    · rw [if_neg hc] at q'; exact (show False from q').elim
  | stuck => exact q
/-! except WordError as e: a suite -/
def Rs.catchE (ns : List Str) (ms : Str → Rs (Out Unit)) (m : Rs (Out Unit)) : Rs (Out Unit) := match m with
  | .exc c => if c ∈ ns then (match ms c with
    | .ok o => .ok o
    | _ => .stuck) else .stuck
  | m => m
def tryES {β : Type} (ns : List Str) (ms : Str → Rs (Out Unit)) (m : Rs (Out Unit)) (kk : Unit → Rs (Out β)) : Rs (Out β) := (m.catchE ns ms).seq kk
theorem ste_no {F G H : Hp} {σ : L2.St} {n : Nat} (fh : FH F H) (gh : Same G H) (hl : σ.length = n) : Ste F G H σ (List.replicate n .no) := by
  refine ⟨fh, gh, by rw [List.length_replicate]; exact hl, fun i s hs => ?_, fun i j s t b e1 _ o1 => ?_⟩
  · rw [List.getElem?_replicate] at hs
    split at hs
    · cases hs; trivial
    · cases hs
  · rw [List.getElem?_replicate] at e1
    split at e1
    · cases e1; cases o1
    · cases e1
theorem ste_ex {F G H : Hp} {σ : L2.St} {n i : Nat} {a : Addr} (fh : FH F H) (gh : Same G H) (hl : σ.length = n) (hi : i < n) : Ste F G H (σ.set i (some (.ref a))) ((List.replicate n .no).set i (.ex a)) := by
  have key : ∀ j s, ((List.replicate n Sl.no).set i (.ex a))[j]? = some s → (j = i ∧ s = .ex a) ∨ s = .no := fun j s hs => by
    by_cases h : i = j
    · subst h
      rw [List.getElem?_set_self (by rw [List.length_replicate]; exact hi)] at hs
      cases hs; exact .inl ⟨rfl, rfl⟩
    · rw [List.getElem?_set_ne h, List.getElem?_replicate] at hs
      split at hs
      · cases hs; exact .inr rfl
      · cases hs
  refine ⟨fh, gh, by rw [List.length_set, List.length_set, List.length_replicate]; exact hl, fun j s hs => ?_, fun i2 j s t b e1 _ o1 => ?_⟩
  · rcases key j s hs with ⟨rfl, rfl⟩ | rfl
    · exact List.getElem?_set_self (by rw [hl]; exact hi)
    · trivial
  · rcases key _ _ e1 with ⟨rfl, rfl⟩ | rfl <;> cases o1
def tsE (X : Cx) (ns : List Str) (n i : Nat) (ρs : Unit → List Sl) (ms : Str → Rs (Out Unit)) (a : Addr) (cls : Value) (dd : Option Addr) : TS := fun D σ H =>
  ∃ c, c ∈ ns ∧ (∃ C, cls = .ref C ∧ X.mg c = some (.ref C)) ∧ dd = none ∧ rBS X W0 ((List.replicate n .no).set i (.ex a)) ρs (ms c) D σ H
theorem s_tryE (z : DZ U N sc k X W) (i : Nat) {ns : List Str} {n : Str} {b₀ : Stmt} {suite : List Stmt} (ρs : Unit → List Sl) {ms : Str → Rs (Out Unit)} {mb : Rs (Out Unit)} {kk : Unit → Rs (Out β)} (T : ExT U.K U.mg ns)
    (hb : ∀ Y W', DZ U N sc k Y W' → BS Y W' ρ body (fun _ : Unit => List.replicate ρ.length .no) mb)
    (hs : ∀ (Y : Cx) (c : Str) (p : Addr × Obj), c ∈ ns → DH U N sc c p Y → BS Y W0 ((List.replicate ρ.length .no).set i (.ex p.1)) (b₀ :: suite) ρs (ms c))
    (hR : BS X W (List.replicate ρ.length .no) rest ρ' (kk ())) (hi : i < ρ.length := by simp) (hls : (ρs ()).length = ρ.length := by rfl)
    (cw : gnC sc "WordError" = true := by decide +kernel) (cv : vaC N sc i n = true := by decide +kernel) (cl : sc.names.lookup n = some .local := by decide +kernel) :
    BS X W ρ (.Try body [.ExceptHandler (some (.Name "WordError" p1)) (some n) (b₀ :: suite) pos'] [] [] pos :: rest) ρ' (tryES ns ms mb kk) := by
  obtain ⟨B, hB, hBC⟩ := T.we
  have hw : Gn X "WordError" := gn_of z.y.s cw
  have hv := va_of z.y.n z.y.s cv
  have hln : X.env.kindOf n = some .local := by unfold Env.kindOf; rw [z.y.s]; exact cl
  have suite_ok : ∀ (a : Addr) (oe : Obj) (cls : Value) (d : Option Addr) (pn : List (Addr × Obj)), L2N.Zn cls d oe → (∃ vs, oe.data = .fields vs) → PSs (X.suite a ((a, oe) :: pn)) (b₀ :: suite) (tsE X ns ρ.length i ρs ms a cls d) :=
    fun a oe cls d pn hz hfd => ⟨fun pins s σ H D I ⟨c, hc, ⟨C, e1, hC⟩, e2, q⟩ => by
      subst e1 e2
      have dh : DH U N sc c (a, oe) (X.suite a ((a, oe) :: pn)) :=
        ⟨z.y.eK, z.y.eM, ⟨z.y.n, z.y.s, z.y.f, z.y.nd, z.y.rm, List.mem_cons_self, C, hC, hz, hfd⟩, z.y.nb⟩
      exact (hs _ c (a, oe) hc dh).run pins s σ H D I q⟩
  have rest_ok : PSs X rest (rAny X W (fun _ : Unit => List.replicate ρ.length .no) ρ' kk) := ⟨fun pins s σ H D I ⟨_, F, G, S, q⟩ => hR.run pins s σ H D I ⟨F, G, S, q⟩⟩
  refine PSs.imp (pss_cons (L2N.ps_try_as (i := i) (c := .ref B) (tb := fun W' => rBS X W' ρ (fun _ : Unit => List.replicate ρ.length .no) mb) (ts := tsE X ns ρ.length i ρs ms) z.stk z.fr z.y.nd hv.n hln ⟨hw.g, hw.db, .inl (by rw [z.y.eM]; exact hB)⟩ z.y.tk (fun W' pn xe t' p' => hb _ W' (z.tr t' p')) suite_ok) rest_ok) fun D σ H ⟨F, G, S, q⟩ => ⟨F, G, S, ?_⟩
  cases mb with
  | ok o =>
    cases o with
    | nx a =>
      intro σ' F' H' gr S'
      have q1 : DenS X W (kk a) ρ' F G σ.length D := q
      have el : σ'.length = σ.length := by rw [S'.len, List.length_replicate, ← S.len]
      exact ⟨a, F', G, S', by rw [el]; exact q1.gr gr⟩
    | ret d => exact fun v F' H' gr fh' gh' r => (show DenS X W (.ok (.ret d)) ρ' F G σ.length D from q) v F' H' gr fh' gh' r
  | exc c =>
    intro v2 σ' H' ⟨C, hv', hC⟩ sF sG hn
    subst hv'
    have q' : DenS X W ((Rs.catchE ns ms (.exc c : Rs (Out Unit))).seq kk) ρ' F G σ.length D := q
    unfold Rs.catchE at q'
    dsimp only at q'
    by_cases hc : c ∈ ns
    · rw [if_pos hc] at q'
      have hC' : U.mg c = some (.ref C) := by rw [← z.y.eM]; exact hC
      refine ⟨true, by rw [z.y.eK]; exact (hBC c hc C hC').1, fun _ a ha => ?_, fun z => by cases z⟩
      obtain ⟨f1, f2⟩ := withTups_gr S.fh S.gh sF sG
      have hl : σ'.length = ρ.length := hn.trans S.len
      refine ⟨c, hc, ⟨C, rfl, hC⟩, rfl, withTups F H', G, ste_ex f1 sG hl hi, ?_⟩
      cases hm : ms c with
      | ok o =>
        rw [hm] at q'
        cases o with
        | nx u =>
          intro σ2 F2 H2 g2 S2
          have q1 : DenS X W (kk u) ρ' F G σ.length D := q'
          have el : σ2.length = ρ.length := by rw [S2.len]; exact hls
          refine ⟨u, F2, G, ste_no S2.fh S2.gh (by rw [setlen]; exact el), ?_⟩
          rw [setlen, el, ← S.len]
          exact q1.gr (f2.trans g2)
        | ret d => exact fun v F' H' gr fh' gh' r => (show DenS X W (.ok (.ret d)) ρ' F G σ.length D from q') v F' H' (f2.trans gr) fh' gh' r
      | exc c2 => rw [hm] at q'; exact (show False from q').elim
      | stuck => rw [hm] at q'; exact (show False from q').elim
    · rw [if_neg hc] at q'; exact (show False from q').elim
  | stuck => exact q
end
end Pu

/-! The pure layer, part 28: x = list + list, x being a list of its own from then on. -/
namespace Pu
open PySem PySem.Spec
open PyProof.Rows L2
def catS {β : Type} (kk : List D → Rs (Out β)) : D → D → Rs (Out β)
  | .list a, .list c => if a.length + c.length ≤ sizeLine then kk (a ++ c) else .stuck
  | _, _ => .stuck
def newCatS {β : Type} (m1 m2 : Rs D) (kk : List D → Rs (Out β)) : Rs (Out β) := m1.bind fun a => m2.bind fun c => catS kk a c
section
variable {U : Un} {N : List Str} {sc : Scope} {k j : Nat} {X : Cx} {W : WX} {b : Bool} {ρ : List Sl} {e1 e2 : Expr} {pos pos' p1 p2 : Pos} {x : Str} {β : Type} {ρ' : β → List Sl} {rest : List Stmt}
theorem s_newCat (z : DZ U N sc k X W) (i : Nat) {m1 m2 : Rs D} {kk : List D → Rs (Out β)} (h1 : EV X W false ρ e1 m1) (h2 : EV X W false ρ e2 m2) (hr : ∀ ds, BS X W (ρ.set i (.ol ds)) rest ρ' (kk ds)) (hi : i < ρ.length := by simp) (cx : vsC N sc (fun _ => true) i x = true := by decide +kernel)
    (hs : swapsWith (.BinOp e1 .Add e2 p1) (some (.Name x pos')) pos.line X.env = pure false := by rfl) : BS X W ρ (.Assign [.Name x pos'] (.BinOp e1 .Add e2 p1) pos :: rest) ρ' (newCatS m1 m2 kk) := by
  have hx := vs_of z.y.n z.y.s z.y.f cx
  have st := ps_set (pos := pos) (pos' := pos') hx.nd hx.n hx.l (pe_op (pos := p1) cat_rd h1 h2) hs hx.f
  cases m1 with
  | exc c =>
    refine PSs.imp (pss_cons st pss_never) fun D σ H ⟨F, G, S, q⟩ => ⟨F, G, S, ?_⟩
    exact fun v H' c s => (show DenS X W (.exc _) ρ' F G σ.length D from q) v σ H' c (S.fh.sub.trans s) (S.gh.trans s) rfl
  | stuck => exact PSs.imp pss_never fun D σ H ⟨F, G, S, q⟩ => q
  | ok d1 =>
    cases m2 with
    | exc c =>
      refine PSs.imp (pss_cons st pss_never) fun D σ H ⟨F, G, S, q⟩ => ⟨F, G, S, fun v F1 H1 x1 r1 => ⟨F1, G, S.mono x1, fun v H' c s => ?_⟩⟩
      exact (show DenS X W (.exc _) ρ' F G σ.length D from q) v σ H' c (S.fh.sub.trans (x1.h.trans s)) (S.gh.trans (x1.h.trans s)) rfl
    | stuck => exact PSs.imp pss_never fun D σ H ⟨F, G, S, q⟩ => q
    | ok d2 =>
      show BS X W ρ _ ρ' (catS kk d1 d2)
      unfold catS
      split
      · rename_i a c
        by_cases hc : a.length + c.length ≤ sizeLine
        · rw [if_pos hc]
          refine PSs.imp (pss_cons st (hr (a ++ c))) fun D σ H ⟨F, G, S, q⟩ => ⟨F, G, S, fun v F1 H1 x1 r1 => ⟨F1, G, S.mono x1, fun u F2 H2 x2 r2 => ?_⟩⟩
          obtain ⟨l1, xs, rfl, g1, z1, r1⟩ := inv_l (show Rp F1 v _ from r1)
          obtain ⟨l2, ys, rfl, g2, z2, r2⟩ := inv_l (show Rp F2 u _ from r2)
          have hz : xs.length + ys.length ≤ sizeLine := by rw [r1.length, r2.length]; exact hc
          have xx := x1.trans x2
          refine ⟨l1, l2, xs, ys, rfl, rfl, rd_mono (x2.f.trans x2.fh.sub) g1, rd_mono x2.fh.sub g2, hz, fun p hp => ?_⟩
          refine ⟨F2, G, (S.mono xx).newOwn hi hp rfl (fun _ z => by cases z) ⟨_, upd_same, by rw [List.length_append]; exact hz, (r1.mono x2.f).app r2⟩, ?_⟩
          rw [setlen]
          exact (show DenS X W (kk (a ++ c)) ρ' F G σ.length D from q).gr (xx.gr S.gh)
        · rw [if_neg hc]; exact PSs.imp pss_never fun D σ H ⟨F, G, S, q⟩ => q
      · exact PSs.imp pss_never fun D σ H ⟨F, G, S, q⟩ => q
end
end Pu

/-! Plain law, part a: how the mirrors' words reckon; texts as lists of signs; words and points. -/
namespace Pu
open PySem PySem.Spec
open PyProof.Rows L2

/-! ### reckoning -/
@[simp] theorem b2_ok (g : D → D → Rs D) (a b : D) : b2 g (.ok a) (.ok b) = (g a b).nox := rfl
@[simp] theorem c2_ok (g : D → D → Rs D) (a b : D) : c2 g (.ok a) (.ok b) = (g a b).nox.bind asB := rfl
@[simp] theorem asB_bool (b : Bool) : asB (.bool b) = .ok b := rfl
@[simp] theorem asI_int (i : Int) : asI (.int i) = .ok (some i) := rfl
@[simp] theorem isB_ok (b : Bool) : isB (.ok (.bool b)) = .ok b := rfl
@[simp] theorem andV_t (n : Rs D) : andV (.ok (.bool true)) n = n := rfl
@[simp] theorem andV_f (n : Rs D) : andV (.ok (.bool false)) n = .ok (.bool false) := rfl
@[simp] theorem orV_t (n : Rs D) : orV (.ok (.bool true)) n = .ok (.bool true) := rfl
@[simp] theorem orV_f (n : Rs D) : orV (.ok (.bool false)) n = n := rfl
@[simp] theorem notV_ok (b : Bool) : notV (.ok (.bool b)) = .ok (.bool (!b)) := rfl
@[simp] theorem andB_t (n : Rs Bool) : Rs.andB (.ok true) n = n := rfl
@[simp] theorem andB_f (n : Rs Bool) : Rs.andB (.ok false) n = .ok false := rfl
@[simp] theorem orB_t (n : Rs Bool) : Rs.orB (.ok true) n = .ok true := rfl
@[simp] theorem orB_f (n : Rs Bool) : Rs.orB (.ok false) n = n := rfl
@[simp] theorem notB_ok (b : Bool) : Rs.notB (.ok b) = .ok (!b) := rfl
@[simp] theorem ifV_t (a b : Rs D) : ifV (.ok true) a b = a := rfl
@[simp] theorem ifV_f (a b : Rs D) : ifV (.ok false) a b = b := rfl
@[simp] theorem ifS_t {α β : Type} (a b : Rs (Out α)) (k : α → Rs (Out β)) : ifS (.ok true) a b k = a.seq k := rfl
@[simp] theorem ifS_f {α β : Type} (a b : Rs (Out α)) (k : α → Rs (Out β)) : ifS (.ok false) a b k = b.seq k := rfl
@[simp] theorem consM_ok (a : D) (l : List D) : consM (.ok a) (.ok l) = .ok (a :: l) := rfl
@[simp] theorem cb_ok (g : List D → Rs D) (l : List D) : cb g (.ok l) = (g l).nox := rfl
@[simp] theorem tupV_ok (l : List D) : tupV (.ok l) = .ok (.tuple l) := rfl
@[simp] theorem lstV_ok (l : List D) : lstV (.ok l) = .ok (.list l) := rfl
@[simp] theorem slV_ok (d : D) (l u : Option Int) : slV (.ok d) (.ok l) (.ok u) = (pSl d l u).nox := rfl
@[simp] theorem msV_ok (g : Str → List D → Rs D) (s : Str) (l : List D) : msV g (.ok (.str s)) (.ok l) = (g s l).nox := rfl
@[simp] theorem mlV_ok (g : List D → List D → Rs D) (s : List D) (l : List D) : mlV g (.ok (.list s)) (.ok l) = (g s l).nox := rfl
@[simp] theorem ret_ok {α : Type} (d : D) : (Rs.ret (.ok d) : Rs (Out α)) = .ok (.ret d) := rfl
@[simp] theorem ret_exc {α : Type} (d : Str) : (Rs.ret (.exc d) : Rs (Out α)) = .exc d := rfl
@[simp] theorem upS2_ok {β : Type} (a b : D) (k : D × D → Rs (Out β)) : upS up2 (.ok (.tuple [a, b])) k = k (a, b) := rfl
@[simp] theorem upS3_ok {β : Type} (a b c : D) (k : D × D × D → Rs (Out β)) : upS up3 (.ok (.tuple [a, b, c])) k = k (a, b, c) := rfl
@[simp] theorem up2_t (a b : D) : up2 (.tuple [a, b]) = some (a, b) := rfl
@[simp] theorem up3_t (a b c : D) : up3 (.tuple [a, b, c]) = some (a, b, c) := rfl
@[simp] theorem pAdd_i (i j : Int) : pAdd (.int i) (.int j) = .ok (.int (i + j)) := rfl
@[simp] theorem pSub_i (i j : Int) : pSub (.int i) (.int j) = .ok (.int (i - j)) := rfl
@[simp] theorem pNeg_i (i : Int) : pNeg (.int i) = .ok (.int (-i)) := rfl
@[simp] theorem pLt_i (i j : Int) : pLt (.int i) (.int j) = .ok (.bool (decide (i < j))) := rfl
@[simp] theorem pLe_i (i j : Int) : pLe (.int i) (.int j) = .ok (.bool (decide (i ≤ j))) := rfl
@[simp] theorem pGt_i (i j : Int) : pGt (.int i) (.int j) = .ok (.bool (decide (j < i))) := rfl
@[simp] theorem pGe_i (i j : Int) : pGe (.int i) (.int j) = .ok (.bool (decide (j ≤ i))) := rfl
theorem pDiv_i {i j : Int} (h : 0 < j) (h2 : j < 1073741824) : pDiv (.int i) (.int j) = .ok (.int (i / j)) := if_pos ⟨h, h2⟩
theorem pMod_i {i j : Int} (h : 0 < j) : pMod (.int i) (.int j) = .ok (.int (i % j)) := if_pos h
theorem pMul_r {i j : Int} (h : -(2 ^ 64) < j) (h2 : j < 2 ^ 64) : pMul (.int i) (.int j) = .ok (.int (i * j)) := if_pos (by unfold mulOk; simp only [Bool.or_eq_true, decide_eq_true_eq]; exact .inr ⟨h, h2⟩)
theorem pMul_l {i j : Int} (h : -(2 ^ 64) < i) (h2 : i < 2 ^ 64) : pMul (.int i) (.int j) = .ok (.int (i * j)) := if_pos (by unfold mulOk; simp only [Bool.or_eq_true, decide_eq_true_eq]; exact .inl ⟨h, h2⟩)
@[simp] theorem chain_ok (g g' : D → D → Rs D) (a b : D) (m : Rs D) : chain g g' (.ok a) (.ok b) m = ((g a b).nox.bind asB).bind fun c => if c = true then m.bind fun z => (g' b z).nox else .ok (.bool false) := rfl
/-! ### walks -/
theorem lcM_ok {γ : Type} {take : D → Option γ} {t : γ → Rs Bool} {f : γ → Rs D} {p : D → Bool} {g : D → D} : ∀ {ds : List D}, (∀ d ∈ ds, ∃ c, take d = some c ∧ t c = .ok (p d) ∧ (p d = true → f c = .ok (g d))) → lcM take t f ds = .ok ((ds.filter p).map g)
  | [], _ => rfl
  | d :: ds, h => by
    obtain ⟨c, h1, h2, h3⟩ := h d List.mem_cons_self
    have ih := lcM_ok (ds := ds) (take := take) (t := t) (f := f) (p := p) (g := g) fun x hx => h x (List.mem_cons_of_mem _ hx)
    unfold lcM
    rw [h1, took_some, h2, Rs.nox_ok, Rs.bind_ok]
    cases e : p d with
    | true => rw [if_pos rfl, h3 e, Rs.nox_ok, Rs.bind_ok, ih, Rs.bind_ok, List.filter_cons_of_pos e, List.map_cons]
    | false => rw [if_neg (by simp), ih, List.filter_cons_of_neg (by simp [e])]
theorem lcM_map {γ : Type} {take : D → Option γ} {t : γ → Rs Bool} {f : γ → Rs D} {g : D → D} {ds : List D} (h : ∀ d ∈ ds, ∃ c, take d = some c ∧ t c = .ok true ∧ f c = .ok (g d)) : lcM take t f ds = .ok (ds.map g) := by
  have := lcM_ok (take := take) (t := t) (f := f) (p := fun _ => true) (g := g) (ds := ds) fun d hd => by
    obtain ⟨c, h1, h2, h3⟩ := h d hd
    exact ⟨c, h1, h2, fun _ => h3⟩
  rw [this, List.filter_eq_self.mpr fun _ _ => rfl]
theorem lcM_okL {ι γ : Type} {take : D → Option γ} {t : γ → Rs Bool} {f : γ → Rs D} {hh : ι → D} {p : ι → Bool} {g : ι → D} : ∀ {l : List ι}, (∀ a ∈ l, ∃ c, take (hh a) = some c ∧ t c = .ok (p a) ∧ (p a = true → f c = .ok (g a))) → lcM take t f (l.map hh) = .ok ((l.filter p).map g)
  | [], _ => rfl
  | a :: l, h => by
    obtain ⟨c, h1, h2, h3⟩ := h a List.mem_cons_self
    have ih := lcM_okL (l := l) (take := take) (t := t) (f := f) (p := p) (g := g) (hh := hh) fun x hx => h x (List.mem_cons_of_mem _ hx)
    rw [List.map_cons]
    unfold lcM
    rw [h1, took_some, h2, Rs.nox_ok, Rs.bind_ok]
    cases e : p a with
    | true => rw [if_pos rfl, h3 e, Rs.nox_ok, Rs.bind_ok, ih, Rs.bind_ok, List.filter_cons_of_pos e, List.map_cons]
    | false => rw [if_neg (by simp), ih, List.filter_cons_of_neg (by simp [e])]
theorem lcM_mapL {ι γ : Type} {take : D → Option γ} {t : γ → Rs Bool} {f : γ → Rs D} {hh : ι → D} {g : ι → D} {l : List ι} (h : ∀ a ∈ l, ∃ c, take (hh a) = some c ∧ t c = .ok true ∧ f c = .ok (g a)) : lcM take t f (l.map hh) = .ok (l.map g) := by
  have := lcM_okL (take := take) (t := t) (f := f) (p := fun _ => true) (g := g) (hh := hh) (l := l) fun d hd => by
    obtain ⟨c, h1, h2, h3⟩ := h d hd
    exact ⟨c, h1, h2, fun _ => h3⟩
  rw [this, List.filter_eq_self.mpr fun _ _ => rfl]
theorem rangeD_nat (n : Nat) : rangeD 0 n = (List.range n).map fun (i : Nat) => PyData.int (i : Int) := by
  unfold rangeD
  simp
theorem pRange1 {n : Nat} (h : n ≤ 8388608) : pRange [.int n] = .ok ((List.range n).map fun (i : Nat) => PyData.int (i : Int)) := by
  show (if rngOk n = true then _ else _) = _
  rw [if_pos (by unfold rngOk; simp; omega), rangeD_nat]
theorem pRange2 {a b : Nat} (ha : a ≤ 8388608) (h : b ≤ 8388608) : pRange [.int a, .int b] = .ok ((List.range (b - a)).map fun (i : Nat) => PyData.int ((a + i : Nat) : Int)) := by
  show (if (rngOk a && rngOk b) = true then _ else _) = _
  rw [if_pos (by unfold rngOk; simp; omega)]
  unfold rangeD
  rw [show ((b : Int) - (a : Int)).toNat = b - a by omega]
  rfl
/-- a loop over what is made of a list -/
theorem forM_foldL {ι α : Type} {b : α → D → Rs (Out α)} {hh : ι → D} {step : α → ι → α} (I : α → List ι → Prop) (h : ∀ a d ds, I a (d :: ds) → b a (hh d) = .ok (.nx (step a d)) ∧ I (step a d) ds) : ∀ (ds : List ι) (a : α), I a ds → forM b (ds.map hh) a = .ok (.nx (ds.foldl step a))
  | [], a, _ => rfl
  | d :: ds, a, hi => by
    obtain ⟨h1, h2⟩ := h a d ds hi
    rw [List.map_cons, forM, h1, Rs.seq_nx, forM_foldL I h ds _ h2, List.foldl_cons]
@[simp] theorem lcV_ok {γ : Type} (take : D → Option γ) (ds : List D) (t : γ → Rs Bool) (f : γ → Rs D) : lcV take (.ok ds) t f = (lcM take t f ds).bind fun l => .ok (.list l) := rfl
@[simp] theorem forS_ok {α β γ : Type} (take : D → Option γ) (ds : List D) (a0 : α) (mb : α → γ → Rs (Out α)) (k : α → Rs (Out β)) : forS take (.ok ds) a0 mb k = (forM (fun a d => took (take d) (mb a)) ds a0).seq k := rfl
theorem forM_nil {α : Type} (b : α → D → Rs (Out α)) (a : α) : forM b [] a = .ok (.nx a) := rfl
theorem forM_cons {α : Type} (b : α → D → Rs (Out α)) (d : D) (ds : List D) (a : α) : forM b (d :: ds) a = (b a d).seq (forM b ds) := rfl
/-- a loop that turns a state, with what stays true of it -/
theorem forM_fold {α : Type} {b : α → D → Rs (Out α)} {step : α → D → α} (I : α → List D → Prop) (h : ∀ a d ds, I a (d :: ds) → b a d = .ok (.nx (step a d)) ∧ I (step a d) ds) : ∀ (ds : List D) (a : α), I a ds → forM b ds a = .ok (.nx (ds.foldl step a))
  | [], a, _ => rfl
  | d :: ds, a, hi => by
    obtain ⟨h1, h2⟩ := h a d ds hi
    rw [forM_cons, h1, Rs.seq_nx, forM_fold I h ds _ h2, List.foldl_cons]
/-- a loop that changes nothing -/
theorem forM_all {α : Type} {b : α → D → Rs (Out α)} {a : α} : ∀ {ds : List D}, (∀ d ∈ ds, b a d = .ok (.nx a)) → forM b ds a = .ok (.nx a)
  | [], _ => rfl
  | d :: ds, h => by rw [forM_cons, h d List.mem_cons_self, Rs.seq_nx, forM_all fun x hx => h x (List.mem_cons_of_mem _ hx)]
/-! ### texts -/
def sL (l : List Nat) : Str := ⟨l.toArray⟩
@[simp] theorem sL_list (l : List Nat) : (sL l).cps.toList = l := rfl
@[simp] theorem sL_size (l : List Nat) : (sL l).cps.size = l.length := by unfold sL; simp
@[simp] theorem sL_length (l : List Nat) : (sL l).length = l.length := by show (sL l).cps.size = _; simp
theorem sL_inj {a b : List Nat} : sL a = sL b ↔ a = b := ⟨fun h => by have := congrArg (fun s : Str => s.cps.toList) h; simpa using this, fun h => by rw [h]⟩
theorem sL_of (s : Str) : sL s.cps.toList = s := by
  refine Str.ext' ?_
  show s.cps.toList.toArray = s.cps
  rw [Array.toArray_toList]
@[simp] theorem sL_app (a b : List Nat) : sL a ++ sL b = sL (a ++ b) := by
  refine Str.ext' ?_
  show a.toArray ++ b.toArray = (a ++ b).toArray
  simp
theorem sL_one (c : Nat) : (⟨#[c]⟩ : Str) = sL [c] := rfl
theorem pAdd_s {a b : List Nat} (h : a.length + b.length ≤ 16777216) : pAdd (.str (sL a)) (.str (sL b)) = .ok (.str (sL (a ++ b))) := by
  show (if (sL a).length + (sL b).length ≤ sizeLine then _ else _) = _
  rw [if_pos (by rw [sL_length, sL_length, sizeLine_eq]; exact h), sL_app]
theorem pSl_s {a : List Nat} {lo hi : Option Int} (h : a.length ≤ 16777216) : pSl (.str (sL a)) lo hi = .ok (.str (sL ((a.drop (HT.sIx a.length 0 lo)).take (HT.sIx a.length a.length hi - HT.sIx a.length 0 lo)))) := by
  show (if (sL a).length ≤ sizeLine then _ else _) = _
  rw [if_pos (by rw [sL_length, sizeLine_eq]; exact h)]
  show Rs.ok (PyData.str (cutS (sL a) lo hi)) = _
  unfold cutS
  rw [sL_length, sL_list]; rfl
theorem pIx_s {a : List Nat} {i : Int} {c : Nat} (h : a.length ≤ 16777216) (hc : atI a i = some c) : pIx (.str (sL a)) (.int i) = .ok (.str (sL [c])) := by
  show (if (sL a).length ≤ sizeLine then (match atI (sL a).cps.toList i with | some c => Rs.ok (PyData.str ⟨#[c]⟩) | none => Rs.stuck) else Rs.stuck) = _
  rw [if_pos (by rw [sL_length, sizeLine_eq]; exact h), sL_list, hc]; rfl
theorem itemsOf_s {a : List Nat} (h : a.length ≤ 16777216) : itemsOf (.str (sL a)) = .ok (a.map fun c => .str (sL [c])) := by
  show (if (sL a).length ≤ sizeLine then _ else _) = _
  rw [if_pos (by rw [sL_length, sizeLine_eq]; exact h), sL_list]; rfl
theorem pLen_s {a : List Nat} (h : a.length ≤ 16777216) : pLen [.str (sL a)] = .ok (.int a.length) := by
  show (if (sL a).length ≤ sizeLine then _ else _) = _
  rw [if_pos (by rw [sL_length, sizeLine_eq]; exact h), sL_length]
@[simp] theorem pLen_l (l : List D) : pLen [.list l] = .ok (.int l.length) := rfl
@[simp] theorem pLen_t (l : List D) : pLen [.tuple l] = .ok (.int l.length) := rfl
@[simp] theorem itemsOf_l (l : List D) : itemsOf (.list l) = .ok l := rfl
@[simp] theorem itemsOf_t (l : List D) : itemsOf (.tuple l) = .ok l := rfl
theorem startswith_sL (a b : List Nat) : Txt.startswith (sL a) (sL b) = decide (b <+: a) := by
  unfold Txt.startswith Builtin.Str.subAt
  rw [sL_length, sL_length]
  have e : ((sL a).cps.extract 0 (0 + b.length) == (sL b).cps) = decide (a.take b.length = b) := by
    rw [Nat.zero_add]
    refine Bool.eq_iff_iff.mpr ?_
    rw [beq_iff_eq, decide_eq_true_eq]
    constructor
    · intro h
      have := congrArg Array.toList h
      rw [Array.toList_extract] at this
      simpa [sL, List.extract_eq_take_drop] using this
    · intro h
      apply Array.ext'
      rw [Array.toList_extract]
      simpa [sL, List.extract_eq_take_drop] using h
  rw [e]
  refine Bool.eq_iff_iff.mpr ?_
  rw [Bool.and_eq_true, decide_eq_true_eq, decide_eq_true_eq, decide_eq_true_eq, List.prefix_iff_eq_take]
  constructor
  · rintro ⟨_, h⟩; exact h.symm
  · intro h
    refine ⟨?_, h.symm⟩
    have this := congrArg List.length h
    rw [List.length_take] at this
    omega
theorem pIn_s (c : Nat) (a : List Nat) : pIn (.str (sL [c])) (.str (sL a)) = .ok (.bool (decide (c ∈ a))) := rfl
theorem pNotIn_s (c : Nat) (a : List Nat) : pNotIn (.str (sL [c])) (.str (sL a)) = .ok (.bool (!decide (c ∈ a))) := rfl
theorem abcd_eq : ("abcd" : Str) = sL [97, 98, 99, 100] := by decide +kernel
theorem empty_eq : ("" : Str) = sL [] := by decide +kernel
/-! ### == -/
theorem pEq_of {a b : D} (h : (SeqAt.shaped a && SeqAt.shaped b) = true) : pEq a b = .ok (.bool (PyData.eqv a b)) := if_pos h
theorem pNe_of {a b : D} (h : (SeqAt.shaped a && SeqAt.shaped b) = true) : pNe a b = .ok (.bool (!PyData.eqv a b)) := if_pos h
/-! ### the same, as steps that simp keeps apart -/
theorem nd {α : Sort _} {a b : α} (h : a = b) : a = b := Eq.trans h (Eq.refl b)
theorem q_bind {α β : Type} (a : α) (k : α → Rs β) : (Rs.ok a).bind k = k a := nd (Rs.bind_ok a k)
theorem q_bindx {α β : Type} (c : Str) (k : α → Rs β) : (Rs.exc c : Rs α).bind k = .exc c := nd (Rs.bind_exc c k)
theorem q_nox {α : Type} (a : α) : (Rs.ok a).nox = .ok a := nd (Rs.nox_ok a)
theorem q_seq {α β : Type} (a : α) (k : α → Rs (Out β)) : (Rs.ok (Out.nx a)).seq k = k a := nd (Rs.seq_nx a k)
theorem q_seqr {α β : Type} (d : D) (k : α → Rs (Out β)) : (Rs.ok (Out.ret d) : Rs (Out α)).seq k = .ok (.ret d) := nd (Rs.seq_ret d k)
theorem q_ifSt {α β : Type} (a b : Rs (Out α)) (k : α → Rs (Out β)) : ifS (.ok true) a b k = a.seq k := nd (ifS_t a b k)
theorem q_ifSf {α β : Type} (a b : Rs (Out α)) (k : α → Rs (Out β)) : ifS (.ok false) a b k = b.seq k := nd (ifS_f a b k)
theorem q_ifVt (a b : Rs D) : ifV (.ok true) a b = a := nd (ifV_t a b)
theorem q_ifVf (a b : Rs D) : ifV (.ok false) a b = b := nd (ifV_f a b)
theorem q_cons (a : D) (l : List D) : consM (.ok a) (.ok l) = .ok (a :: l) := nd (consM_ok a l)
theorem q_b2 (g : D → D → Rs D) (a b : D) : b2 g (.ok a) (.ok b) = (g a b).nox := nd (b2_ok g a b)
theorem q_isB (b : Bool) : isB (.ok (.bool b)) = .ok b := nd (isB_ok b)
theorem q_notB (b : Bool) : Rs.notB (.ok b) = .ok (!b) := nd (notB_ok b)
theorem q_lst (l : List D) : lstV (.ok l) = .ok (.list l) := nd (lstV_ok l)
theorem q_tup (l : List D) : tupV (.ok l) = .ok (.tuple l) := nd (tupV_ok l)
theorem q_ret {α : Type} (d : D) : (Rs.ret (.ok d) : Rs (Out α)) = .ok (.ret d) := nd (ret_ok d)
theorem q_fin {α : Type} (d : D) : (Rs.ok (Out.ret d) : Rs (Out α)).fin = .ok d := nd (Rs.fin_ret d)
theorem q_asI (i : Int) : asI (.int i) = .ok (some i) := nd (asI_int i)
theorem q_add (i j : Int) : pAdd (.int i) (.int j) = .ok (.int (i + j)) := nd (pAdd_i i j)
theorem q_lc {γ : Type} (take : D → Option γ) (ds : List D) (t : γ → Rs Bool) (f : γ → Rs D) : lcV take (.ok ds) t f = (lcM take t f ds).bind fun l => .ok (.list l) := nd (lcV_ok take ds t f)
theorem q_cb (g : List D → Rs D) (l : List D) : cb g (.ok l) = (g l).nox := nd (cb_ok g l)
end Pu

namespace Pu
open PySem PySem.Spec
open PyProof.Rows L2

def top (i : Nat) : Stmt := PySem.Challenge.pw_cellwords_k61_whole_read.main.body.getD i (.Pass ⟨0, 0, 0, 0⟩)
def exNs : List Str := ["NoWord", "NoLength", "NoText"]
structure Gs (U : Un) : Prop where
  LETTERS : Gc U "LETTERS" (.str "abcd")
  LONG : Gc U "LONG" (.int 5)
  MOST : Gc U "MOST" (.int 1024)
def b_is_word (v_thing : D) : Rs (Out Unit) := (Rs.ret (andV (isiV .str (.ok v_thing)) (andV (b2 pLe (cb pLen (consM (.ok v_thing) (.ok []))) (.ok (.int 5))) (cb pAll (consM (lcV some (Rs.bind (.ok v_thing) itemsOf) (fun (sign_1 : D) => (.ok true)) (fun (sign_1 : D) => (b2 pIn (.ok sign_1) (.ok (.str "abcd"))))) (.ok []))))))
def m_is_word : List D → Rs D
  | [v_thing] => (b_is_word v_thing).fin
  | _ => .stuck
theorem ok_is_word {U : Un} {f : Addr} {fd : FuncData} (nb : NoB U) (g : Gs U) (F : Fun U.K "is_word" "is_word" (top 8) f fd) (hm : U.mg "is_word" = some (.ref f)) : Fn U 1 "is_word" 1 m_is_word :=
  fn_def (N := ["thing", "sign"]) nb F ⟨rfl, rfl, rfl, by decide +kernel, rfl, by decide +kernel, by decide +kernel⟩ hm (F.binds (ps := ["thing"]) fun _ _ _ _ _ _ us hl => match us, hl with | [_], _ => rfl) rfl fun X W z ds hl => match ds, hl with
    | [v_thing], _ => ⟨_, fun _ => [.no, .no], b_is_word v_thing, rfl, by
      show BS X W [.da v_thing, .no] (defBody (top 8)) _ _
      unfold b_is_word
      exact (bs_ret (ev_bool (y_and (y_isi z.y .str (y_var z.y 0 rfl)) (y_and (y_cmp o_le (y_cb z.y (b := true) c_len (ea_cons (y_var z.y 0 rfl) ea_nil)) (y_glob z.y g.LONG)) (evw_one (y_cb z.y (b := true) (c_all z.y.c) (ea_cons (y_lc z.y [1] [("sign", 1)] (fun (sign_1 : D) => [.da v_thing, .da sign_1]) (ei_any (y_var z.y 0 rfl)) (fun Y y => (k_one y 1 (by intro _; simp [wipeS]))) (fun Y y sign_1 => ets_nil) (fun Y y sign_1 => (y_cmp (o_in y.rm) (y_var y 1 rfl) (y_glob y g.LETTERS)))) ea_nil)))))))⟩
def b_are_words (v_thing : D) : Rs (Out Unit) := (Rs.ret (andV (isiV .list (.ok v_thing)) (andV (b2 pLe (cb pLen (consM (.ok v_thing) (.ok []))) (.ok (.int 1024))) (cb pAll (consM (lcV some (Rs.bind (.ok v_thing) itemsOf) (fun (word_1 : D) => (.ok true)) (fun (word_1 : D) => (Rs.bind (consM (.ok word_1) (.ok [])) m_is_word))) (.ok []))))))
def m_are_words : List D → Rs D
  | [v_thing] => (b_are_words v_thing).fin
  | _ => .stuck
theorem ok_are_words {U : Un} {f : Addr} {fd : FuncData} (nb : NoB U) (g : Gs U) (F : Fun U.K "are_words" "are_words" (top 11) f fd) (hm : U.mg "are_words" = some (.ref f)) (c_is_word : Fn U 1 "is_word" 1 m_is_word) : Fn U 2 "are_words" 1 m_are_words :=
  fn_def (N := ["thing", "word"]) nb F ⟨rfl, rfl, rfl, by decide +kernel, rfl, by decide +kernel, by decide +kernel⟩ hm (F.binds (ps := ["thing"]) fun _ _ _ _ _ _ us hl => match us, hl with | [_], _ => rfl) rfl fun X W z ds hl => match ds, hl with
    | [v_thing], _ => ⟨_, fun _ => [.no, .no], b_are_words v_thing, rfl, by
      show BS X W [.da v_thing, .no] (defBody (top 11)) _ _
      unfold b_are_words
      exact (bs_ret (ev_bool (y_and (y_isi z.y .list (y_var z.y 0 rfl)) (y_and (y_cmp o_le (y_cb z.y (b := true) c_len (ea_cons (y_var z.y 0 rfl) ea_nil)) (y_glob z.y g.MOST)) (evw_one (y_cb z.y (b := true) (c_all z.y.c) (ea_cons (y_lc z.y [1] [("word", 1)] (fun (word_1 : D) => [.da v_thing, .da word_1]) (ei_any (y_var z.y 0 rfl)) (fun Y y => (k_one y 1 (by intro _; simp [wipeS]))) (fun Y y word_1 => ets_nil) (fun Y y word_1 => (y_call y c_is_word (ea_cons (y_var y 1 rfl) ea_nil)))) ea_nil)))))))⟩
def b_need_words (v_words : D) : Rs (Out Unit) := (ifS (α := Unit) (Rs.notB (isB (Rs.bind (consM (.ok v_words) (.ok [])) m_are_words))) (.exc "NoWord") (.ok (.nx ())) fun j_1 => (.ok (.nx ())))
def m_need_words : List D → Rs D
  | [v_words] => (b_need_words v_words).fin
  | _ => .stuck
theorem ok_need_words {U : Un} {f : Addr} {fd : FuncData} (nb : NoB U) (g : Gs U) (F : Fun U.K "need_words" "need_words" (top 12) f fd) (hm : U.mg "need_words" = some (.ref f)) (c_are_words : Fn U 2 "are_words" 1 m_are_words) (T : ExT U.K U.mg exNs) : Fn U 3 "need_words" 1 m_need_words :=
  fn_def (N := ["words"]) nb F ⟨rfl, rfl, rfl, by decide +kernel, rfl, by decide +kernel, by decide +kernel⟩ hm (F.binds (ps := ["words"]) fun _ _ _ _ _ _ us hl => match us, hl with | [_], _ => rfl) rfl fun X W z ds hl => match ds, hl with
    | [v_words], _ => ⟨_, fun _ => [.no], b_need_words v_words, rfl, by
      show BS X W [.da v_words] (defBody (top 12)) _ _
      unfold b_need_words
      exact (s_if (α := Unit) (fun j_1 => [.da v_words]) (et_not (t_val (y_call z.y c_are_words (ea_cons (y_var z.y 0 rfl) ea_nil)))) (s_raise z T) (bs_nil (sle_eq sle_nil)) fun j_1 => (bs_nil (sle_no sle_nil)))⟩
def b_joined_l1  (a_9 : D) (head_10 : D) : Rs (Out D) := (Rs.bind (lcV some (Rs.bind (.ok (.str "abcd")) itemsOf) (fun (letter_12 : D) => (.ok true)) (fun (letter_12 : D) => (b2 pAdd (.ok head_10) (.ok letter_12)))) fun four_11 => (ifS (α := D) (isB (cb pAll (consM (lcV some (Rs.bind (.ok four_11) itemsOf) (fun (word_13 : D) => (.ok true)) (fun (word_13 : D) => (b2 pIn (.ok word_13) (.ok a_9)))) (.ok [])))) (Rs.bind (b2 pAdd (lcV some (Rs.bind (.ok a_9) itemsOf) (fun (word_16 : D) => (c2 pNotIn (.ok word_16) (.ok four_11))) (fun (word_16 : D) => (.ok word_16))) (lstV (consM (.ok head_10) (.ok [])))) fun found_15 => (.ok (.nx found_15))) (.ok (.nx a_9)) fun j_14 => (.ok (.nx j_14))))
def b_joined_l2  (a_5 : D) (long_6 : D) : Rs (Out D) := (Rs.bind (ssV (lcV some (Rs.bind (.ok a_5) itemsOf) (fun (word_8 : D) => (c2 pEq (cb pLen (consM (.ok word_8) (.ok []))) (.ok long_6))) (fun (word_8 : D) => (slV (.ok word_8) (.ok none) (Rs.bind (Rs.bind (.ok (.int 1)) pNeg) asI))))) fun heads_7 => (forS (α := D) some (Rs.bind (.ok heads_7) itemsOf) a_5 (b_joined_l1) fun a_9 => (.ok (.nx a_9))))
def b_joined (v_words : D) : Rs (Out Unit) := (Rs.bind (ssV (.ok v_words)) fun found_1 => (Rs.bind (lcV some (Rs.bind (.ok found_1) itemsOf) (fun (word_3 : D) => (c2 pEq (lcV some (Rs.bind (consM (cb pLen (consM (.ok word_3) (.ok []))) (.ok [])) pRange) (fun (size_4 : D) => (c2 pIn (slV (.ok word_3) (.ok none) (Rs.bind (.ok size_4) asI)) (.ok found_1))) (fun (size_4 : D) => (.ok size_4))) (lstV (.ok [])))) (fun (word_3 : D) => (.ok word_3))) fun found_2 => (forS (α := D) some (Rs.bind (Rs.bind (b2 pLr (.ok (.int 1)) (b2 pAdd (.ok (.int 5)) (.ok (.int 1)))) pRev) itemsOf) found_2 (b_joined_l2) fun a_5 => (Rs.ret (cb pSorted (consM (.ok a_5) (.ok [])))))))
def m_joined : List D → Rs D
  | [v_words] => (b_joined v_words).fin
  | _ => .stuck
theorem ok_joined {U : Un} {f : Addr} {fd : FuncData} (nb : NoB U) (g : Gs U) (F : Fun U.K "joined" "joined" (top 13) f fd) (hm : U.mg "joined" = some (.ref f)) : Fn U 1 "joined" 1 m_joined :=
  fn_def (N := ["words", "found", "long", "heads", "head", "four", "word", "size", "letter"]) nb F ⟨rfl, rfl, rfl, by decide +kernel, rfl, by decide +kernel, by decide +kernel⟩ hm (F.binds (ps := ["words"]) fun _ _ _ _ _ _ us hl => match us, hl with | [_], _ => rfl) rfl fun X W z ds hl => match ds, hl with
    | [v_words], _ => ⟨_, fun _ => [.no, .no, .no, .no, .no, .no, .no, .no, .no], b_joined v_words, rfl, by
      show BS X W [.da v_words, .no, .no, .no, .no, .no, .no, .no, .no] (defBody (top 13)) _ _
      unfold b_joined
      exact (s_set z 1 (y_sset z.y (y_var z.y 0 rfl)) fun found_1 => (s_setN z 1 (y_lc z.y [6] [("word", 6)] (fun (word_3 : D) => [.da v_words, .da found_1, .no, .no, .no, .no, .da word_3, .no, .no]) (ei_any (y_var z.y 1 rfl)) (fun Y y => (k_one y 6 (by intro _; simp [wipeS]))) (fun Y y word_3 => (ets_one (t_cmp (o_eq y.rm) (y_lc y [7] [("size", 7)] (fun (size_4 : D) => [.da v_words, .da found_1, .no, .no, .no, .no, .da word_3, .da size_4, .no]) (y_range1 y (ea_cons (y_cb y (b := true) c_len (ea_cons (y_var y 6 rfl) ea_nil)) ea_nil)) (fun Y y => (k_one y 7 (by intro _; simp [wipeS]))) (fun Y y size_4 => (ets_one (t_cmp (o_in y.rm) (y_slice (y_var y 6 rfl) eo_none (eo_some (y_var y 7 rfl))) (y_var y 1 rfl)))) (fun Y y size_4 => (y_var y 7 rfl))) (y_lst ea_nil)))) (fun Y y word_3 => (y_var y 6 rfl))) fun found_2 => (s_for (α := D) z (fun a_5 => [.da v_words, .da a_5, .no, .no, .no, .no, .no, .no, .no]) (ei_any (ev_rev (y_lr2 z.y ev_int (y_op o_add (y_glob z.y g.LONG) ev_int)))) (k_one z.y 2 (by intro _; simp)) (fun a_5 long_6 => by unfold b_joined_l2; exact (s_set z 3 (y_sset z.y (y_lc z.y [6] [("word", 6)] (fun (word_8 : D) => [.da v_words, .da a_5, .da long_6, .no, .no, .no, .da word_8, .no, .no]) (ei_any (y_var z.y 1 rfl)) (fun Y y => (k_one y 6 (by intro _; simp [wipeS]))) (fun Y y word_8 => (ets_one (t_cmp (o_eq y.rm) (y_cb y (b := true) c_len (ea_cons (y_var y 6 rfl) ea_nil)) (y_var y 2 rfl)))) (fun Y y word_8 => (y_slice (y_var y 6 rfl) eo_none (eo_some (ev_neg ev_int)))))) fun heads_7 => (s_for (α := D) z (fun a_9 => [.da v_words, .da a_9, .da long_6, .da heads_7, .no, .no, .no, .no, .no]) (ei_any (y_var z.y 3 rfl)) (k_one z.y 4 (by intro _; simp)) (fun a_9 head_10 => by unfold b_joined_l1; exact (s_setN z 5 (y_lc z.y [8] [("letter", 8)] (fun (letter_12 : D) => [.da v_words, .da a_9, .da long_6, .da heads_7, .da head_10, .no, .no, .no, .da letter_12]) (ei_any (y_glob z.y g.LETTERS)) (fun Y y => (k_one y 8 (by intro _; simp [wipeS]))) (fun Y y letter_12 => ets_nil) (fun Y y letter_12 => (y_op o_add (y_var y 4 rfl) (y_var y 8 rfl)))) fun four_11 => (s_if (α := D) (fun j_14 => [.da v_words, .da j_14, .da long_6, .da heads_7, .da head_10, .da four_11, .no, .no, .no]) (t_val (y_cb z.y (b := true) (c_all z.y.c) (ea_cons (y_lc z.y [6] [("word", 6)] (fun (word_13 : D) => [.da v_words, .da a_9, .da long_6, .da heads_7, .da head_10, .da four_11, .da word_13, .no, .no]) (ei_any (y_var z.y 5 rfl)) (fun Y y => (k_one y 6 (by intro _; simp [wipeS]))) (fun Y y word_13 => ets_nil) (fun Y y word_13 => (y_cmp (o_in y.rm) (y_var y 6 rfl) (y_var y 1 rfl)))) ea_nil))) (s_set z 1 (y_op o_add (y_lc z.y [6] [("word", 6)] (fun (word_16 : D) => [.da v_words, .da a_9, .da long_6, .da heads_7, .da head_10, .da four_11, .da word_16, .no, .no]) (ei_any (y_var z.y 1 rfl)) (fun Y y => (k_one y 6 (by intro _; simp [wipeS]))) (fun Y y word_16 => (ets_one (t_cmp (o_notin y.rm) (y_var y 6 rfl) (y_var y 5 rfl)))) (fun Y y word_16 => (y_var y 6 rfl))) (y_lst (ea_cons (y_var z.y 4 rfl) ea_nil))) fun found_15 => (bs_nil (sle_eq (sle_eq (sle_eq (sle_eq (sle_eq (sle_eq (sle_no (sle_no (sle_no sle_nil))))))))))) (bs_nil (sle_eq (sle_eq (sle_eq (sle_eq (sle_eq (sle_eq (sle_no (sle_no (sle_no sle_nil)))))))))) fun j_14 => (bs_nil (sle_eq (sle_eq (sle_eq (sle_eq (sle_no (sle_no (sle_no (sle_no (sle_no sle_nil))))))))))))) (sle_eq (sle_eq (sle_eq (sle_eq (sle_no (sle_no (sle_no (sle_no (sle_no sle_nil))))))))) fun a_9 => (bs_nil (sle_eq (sle_eq (sle_no (sle_no (sle_no (sle_no (sle_no (sle_no (sle_no sle_nil))))))))))))) (sle_eq (sle_eq (sle_no (sle_no (sle_no (sle_no (sle_no (sle_no (sle_no sle_nil))))))))) fun a_5 => (bs_ret (y_cb z.y (b := false) (c_sorted z.y.rm) (ea_cons (y_var z.y 1 rfl) ea_nil))))))⟩
def b_fewest (v_words : D) : Rs (Out Unit) := (Rs.bind (Rs.bind (consM (.ok v_words) (.ok [])) m_need_words) fun _ => (Rs.ret (Rs.bind (consM (.ok v_words) (.ok [])) m_joined)))
def m_fewest : List D → Rs D
  | [v_words] => (b_fewest v_words).fin
  | _ => .stuck
theorem ok_fewest {U : Un} {f : Addr} {fd : FuncData} (nb : NoB U) (g : Gs U) (F : Fun U.K "fewest" "fewest" (top 14) f fd) (hm : U.mg "fewest" = some (.ref f)) (c_need_words : Fn U 3 "need_words" 1 m_need_words) (c_joined : Fn U 1 "joined" 1 m_joined) : Fn U 4 "fewest" 1 m_fewest :=
  fn_def (N := ["words"]) nb F ⟨rfl, rfl, rfl, by decide +kernel, rfl, by decide +kernel, by decide +kernel⟩ hm (F.binds (ps := ["words"]) fun _ _ _ _ _ _ us hl => match us, hl with | [_], _ => rfl) rfl fun X W z ds hl => match ds, hl with
    | [v_words], _ => ⟨_, fun _ => [.no], b_fewest v_words, rfl, by
      show BS X W [.da v_words] (defBody (top 14)) _ _
      unfold b_fewest
      exact (s_expr (b := true) (y_call z.y c_need_words (ea_cons (y_var z.y 0 rfl) ea_nil)) fun _ => (bs_ret (y_call z.y c_joined (ea_cons (y_var z.y 0 rfl) ea_nil))))⟩
def b_words_text (v_words : D) : Rs (Out Unit) := (Rs.bind (Rs.bind (consM (.ok v_words) (.ok [])) m_need_words) fun _ => (Rs.ret (msV pJoin (.ok (.str "")) (consM (lcV some (Rs.bind (Rs.bind (consM (.ok v_words) (.ok [])) m_joined) itemsOf) (fun (word_1 : D) => (.ok true)) (fun (word_1 : D) => (b2 pAdd (ifV (c2 pNe (.ok word_1) (.ok (.str ""))) (.ok word_1) (.ok (.str "-"))) (.ok (.str "\n"))))) (.ok [])))))
def m_words_text : List D → Rs D
  | [v_words] => (b_words_text v_words).fin
  | _ => .stuck
theorem ok_words_text {U : Un} {f : Addr} {fd : FuncData} (nb : NoB U) (g : Gs U) (F : Fun U.K "words_text" "words_text" (top 16) f fd) (hm : U.mg "words_text" = some (.ref f)) (c_need_words : Fn U 3 "need_words" 1 m_need_words) (c_joined : Fn U 1 "joined" 1 m_joined) : Fn U 4 "words_text" 1 m_words_text :=
  fn_def (N := ["words", "word"]) nb F ⟨rfl, rfl, rfl, by decide +kernel, rfl, by decide +kernel, by decide +kernel⟩ hm (F.binds (ps := ["words"]) fun _ _ _ _ _ _ us hl => match us, hl with | [_], _ => rfl) rfl fun X W z ds hl => match ds, hl with
    | [v_words], _ => ⟨_, fun _ => [.no, .no], b_words_text v_words, rfl, by
      show BS X W [.da v_words, .no] (defBody (top 16)) _ _
      unfold b_words_text
      exact (s_expr (b := true) (y_call z.y c_need_words (ea_cons (y_var z.y 0 rfl) ea_nil)) fun _ => (bs_ret (y_ms PySem.F.slot_str_join PySem.F.type_str_join m_join ev_str (ea_cons (y_lc z.y [1] [("word", 1)] (fun (word_1 : D) => [.da v_words, .da word_1]) (ei_any (y_call z.y c_joined (ea_cons (y_var z.y 0 rfl) ea_nil))) (fun Y y => (k_one y 1 (by intro _; simp [wipeS]))) (fun Y y word_1 => ets_nil) (fun Y y word_1 => (y_op o_add (y_if (t_cmp (o_ne y.rm) (y_var y 1 rfl) ev_str) (y_var y 1 rfl) ev_str) ev_str))) ea_nil))))⟩
def b_read_words (v_text : D) : Rs (Out Unit) := (Rs.bind (lcV some (Rs.bind (slV (msV pSplit (.ok v_text) (consM (.ok (.str "\n")) (.ok []))) (.ok none) (Rs.bind (Rs.bind (.ok (.int 1)) pNeg) asI)) itemsOf) (fun (line_2 : D) => (.ok true)) (fun (line_2 : D) => (ifV (c2 pNe (.ok line_2) (.ok (.str "-"))) (.ok line_2) (.ok (.str ""))))) fun found_1 => (ifS (α := Unit) (Rs.orB (Rs.notB (isB (Rs.bind (consM (.ok found_1) (.ok [])) m_are_words))) (c2 pNe (Rs.bind (consM (.ok found_1) (.ok [])) m_words_text) (.ok v_text))) (.exc "NoText") (.ok (.nx ())) fun j_3 => (Rs.ret (.ok found_1))))
def m_read_words : List D → Rs D
  | [v_text] => (b_read_words v_text).fin
  | _ => .stuck
theorem ok_read_words {U : Un} {f : Addr} {fd : FuncData} (nb : NoB U) (g : Gs U) (F : Fun U.K "read_words" "read_words" (top 17) f fd) (hm : U.mg "read_words" = some (.ref f)) (c_words_text : Fn U 4 "words_text" 1 m_words_text) (c_are_words : Fn U 2 "are_words" 1 m_are_words) (T : ExT U.K U.mg exNs) : Fn U 5 "read_words" 1 m_read_words :=
  fn_def (N := ["text", "found", "line"]) nb F ⟨rfl, rfl, rfl, by decide +kernel, rfl, by decide +kernel, by decide +kernel⟩ hm (F.binds (ps := ["text"]) fun _ _ _ _ _ _ us hl => match us, hl with | [_], _ => rfl) rfl fun X W z ds hl => match ds, hl with
    | [v_text], _ => ⟨_, fun _ => [.no, .no, .no], b_read_words v_text, rfl, by
      show BS X W [.da v_text, .no, .no] (defBody (top 17)) _ _
      unfold b_read_words
      exact (s_setLc z 1 [2] [("line", 2)] (fun (line_2 : D) => [.da v_text, .no, .da line_2]) (ei_any (y_slice (y_ms PySem.F.slot_str_split PySem.F.type_str_split m_split (y_var z.y 0 rfl) (ea_cons ev_str ea_nil)) eo_none (eo_some (ev_neg ev_int)))) (fun Y y => (k_one y 2 (by intro _; simp [wipeS]))) (fun Y y line_2 => ets_nil) (fun Y y line_2 => (y_if (t_cmp (o_ne y.rm) (y_var y 2 rfl) ev_str) (y_var y 2 rfl) ev_str)) fun found_1 => (s_if (α := Unit) (fun j_3 => [.da v_text, .da found_1, .no]) (et_bool (ew_or (et_not (t_val (y_call z.y c_are_words (ea_cons (y_var z.y 1 rfl) ea_nil)))) (ew_or1 (t_cmp (o_ne z.y.rm) (y_call z.y c_words_text (ea_cons (y_var z.y 1 rfl) ea_nil)) (y_var z.y 0 rfl))))) (s_raise z T) (bs_nil (sle_eq (sle_eq (sle_no sle_nil)))) fun j_3 => (bs_ret (y_var z.y 1 rfl))))⟩
def b_law_cell (v_law_script v_law_k : D) : Rs (Out Unit) := (ifS (α := Unit) (c2 pEq (.ok v_law_script) (lstV (.ok []))) (Rs.ret (b2 pMul (.ok (.int 7)) (.ok v_law_k))) (.ok (.nx ())) fun j_1 => (Rs.ret (b2 pAdd (b2 pIx (.ok v_law_script) (b2 pMod (.ok v_law_k) (cb pLen (consM (.ok v_law_script) (.ok []))))) (b2 pMul (.ok (.int 6553)) (b2 pDiv (.ok v_law_k) (cb pLen (consM (.ok v_law_script) (.ok []))))))))
def m_law_cell : List D → Rs D
  | [v_law_script, v_law_k] => (b_law_cell v_law_script v_law_k).fin
  | _ => .stuck
theorem ok_law_cell {U : Un} {f : Addr} {fd : FuncData} (nb : NoB U) (g : Gs U) (F : Fun U.K "_law_cell" "_law_cell" (top 19) f fd) (hm : U.mg "_law_cell" = some (.ref f)) : Fn U 1 "_law_cell" 2 m_law_cell :=
  fn_def (N := ["_law_script", "_law_k"]) nb F ⟨rfl, rfl, rfl, by decide +kernel, rfl, by decide +kernel, by decide +kernel⟩ hm (F.binds (ps := ["_law_script", "_law_k"]) fun _ _ _ _ _ _ us hl => match us, hl with | [_, _], _ => rfl) rfl fun X W z ds hl => match ds, hl with
    | [v_law_script, v_law_k], _ => ⟨_, fun _ => [.no, .no], b_law_cell v_law_script v_law_k, rfl, by
      show BS X W [.da v_law_script, .da v_law_k] (defBody (top 19)) _ _
      unfold b_law_cell
      exact (s_if (α := Unit) (fun j_1 => [.da v_law_script, .da v_law_k]) (t_cmp (o_eq z.y.rm) (y_var z.y 0 rfl) (y_lst ea_nil)) (bs_ret (y_op o_mul ev_int (y_var z.y 1 rfl))) (bs_nil (sle_eq (sle_eq sle_nil))) fun j_1 => (bs_ret (y_op o_add (y_ix z.y (y_var z.y 0 rfl) (y_op o_mod (y_var z.y 1 rfl) (y_cb z.y (b := true) c_len (ea_cons (y_var z.y 0 rfl) ea_nil)))) (y_op o_mul ev_int (y_op o_div (y_var z.y 1 rfl) (y_cb z.y (b := true) c_len (ea_cons (y_var z.y 0 rfl) ea_nil)))))))⟩
def b_law_drawn (v_law_script v_law_k v_law_many : D) : Rs (Out Unit) := (Rs.bind (b2 pMod (b2 pAdd (b2 pMul (b2 pMod (Rs.bind (consM (.ok v_law_script) (consM (.ok v_law_k) (.ok []))) m_law_cell) (.ok (.int 2147483563))) (.ok (.int 69069))) (b2 pMul (.ok (.int 104723)) (b2 pAdd (.ok v_law_k) (.ok (.int 1))))) (.ok (.int 2147483563))) fun law_cell_here_1 => (Rs.bind (b2 pMod (b2 pAdd (b2 pMul (.ok law_cell_here_1) (.ok law_cell_here_1)) (b2 pDiv (.ok law_cell_here_1) (.ok (.int 3)))) (.ok (.int 2147483399))) fun law_cell_here_2 => (Rs.ret (b2 pMod (b2 pDiv (b2 pMod (b2 pAdd (b2 pMul (.ok law_cell_here_2) (.ok law_cell_here_2)) (b2 pDiv (.ok law_cell_here_2) (.ok (.int 7)))) (.ok (.int 2147483647))) (.ok (.int 11))) (.ok v_law_many)))))
def m_law_drawn : List D → Rs D
  | [v_law_script, v_law_k, v_law_many] => (b_law_drawn v_law_script v_law_k v_law_many).fin
  | _ => .stuck
theorem ok_law_drawn {U : Un} {f : Addr} {fd : FuncData} (nb : NoB U) (g : Gs U) (F : Fun U.K "_law_drawn" "_law_drawn" (top 20) f fd) (hm : U.mg "_law_drawn" = some (.ref f)) (c_law_cell : Fn U 1 "_law_cell" 2 m_law_cell) : Fn U 2 "_law_drawn" 3 m_law_drawn :=
  fn_def (N := ["_law_script", "_law_k", "_law_many", "_law_cell_here"]) nb F ⟨rfl, rfl, rfl, by decide +kernel, rfl, by decide +kernel, by decide +kernel⟩ hm (F.binds (ps := ["_law_script", "_law_k", "_law_many"]) fun _ _ _ _ _ _ us hl => match us, hl with | [_, _, _], _ => rfl) rfl fun X W z ds hl => match ds, hl with
    | [v_law_script, v_law_k, v_law_many], _ => ⟨_, fun _ => [.no, .no, .no, .no], b_law_drawn v_law_script v_law_k v_law_many, rfl, by
      show BS X W [.da v_law_script, .da v_law_k, .da v_law_many, .no] (defBody (top 20)) _ _
      unfold b_law_drawn
      exact (s_set z 3 (y_op o_mod (y_op o_add (y_op o_mul (y_op o_mod (y_call z.y c_law_cell (ea_cons (y_var z.y 0 rfl) (ea_cons (y_var z.y 1 rfl) ea_nil))) ev_int) ev_int) (y_op o_mul ev_int (y_op o_add (y_var z.y 1 rfl) ev_int))) ev_int) fun law_cell_here_1 => (s_set z 3 (y_op o_mod (y_op o_add (y_op o_mul (y_var z.y 3 rfl) (y_var z.y 3 rfl)) (y_op o_div (y_var z.y 3 rfl) ev_int)) ev_int) fun law_cell_here_2 => (bs_ret (y_op o_mod (y_op o_div (y_op o_mod (y_op o_add (y_op o_mul (y_var z.y 3 rfl) (y_var z.y 3 rfl)) (y_op o_div (y_var z.y 3 rfl) ev_int)) ev_int) ev_int) (y_var z.y 2 rfl)))))⟩
def b_law_word (v_law_script v_law_at : D) : Rs (Out Unit) := (Rs.ret (msV pJoin (.ok (.str "")) (consM (lcV some (Rs.bind (consM (Rs.bind (consM (.ok v_law_script) (consM (.ok v_law_at) (consM (.ok (.int 6)) (.ok [])))) m_law_drawn) (.ok [])) pRange) (fun (law_k_1 : D) => (.ok true)) (fun (law_k_1 : D) => (b2 pIx (.ok (.str "abcd")) (Rs.bind (consM (.ok v_law_script) (consM (b2 pAdd (b2 pAdd (.ok v_law_at) (.ok (.int 1))) (.ok law_k_1)) (consM (.ok (.int 4)) (.ok [])))) m_law_drawn)))) (.ok []))))
def m_law_word : List D → Rs D
  | [v_law_script, v_law_at] => (b_law_word v_law_script v_law_at).fin
  | _ => .stuck
theorem ok_law_word {U : Un} {f : Addr} {fd : FuncData} (nb : NoB U) (g : Gs U) (F : Fun U.K "_law_word" "_law_word" (top 21) f fd) (hm : U.mg "_law_word" = some (.ref f)) (c_law_drawn : Fn U 2 "_law_drawn" 3 m_law_drawn) : Fn U 3 "_law_word" 2 m_law_word :=
  fn_def (N := ["_law_script", "_law_at", "_law_k"]) nb F ⟨rfl, rfl, rfl, by decide +kernel, rfl, by decide +kernel, by decide +kernel⟩ hm (F.binds (ps := ["_law_script", "_law_at"]) fun _ _ _ _ _ _ us hl => match us, hl with | [_, _], _ => rfl) rfl fun X W z ds hl => match ds, hl with
    | [v_law_script, v_law_at], _ => ⟨_, fun _ => [.no, .no, .no], b_law_word v_law_script v_law_at, rfl, by
      show BS X W [.da v_law_script, .da v_law_at, .no] (defBody (top 21)) _ _
      unfold b_law_word
      exact (bs_ret (y_ms PySem.F.slot_str_join PySem.F.type_str_join m_join ev_str (ea_cons (y_lc z.y [2] [("_law_k", 2)] (fun (law_k_1 : D) => [.da v_law_script, .da v_law_at, .da law_k_1]) (y_range1 z.y (ea_cons (y_call z.y c_law_drawn (ea_cons (y_var z.y 0 rfl) (ea_cons (y_var z.y 1 rfl) (ea_cons ev_int ea_nil)))) ea_nil)) (fun Y y => (k_one y 2 (by intro _; simp [wipeS]))) (fun Y y law_k_1 => ets_nil) (fun Y y law_k_1 => (y_ix y ev_str (y_call y c_law_drawn (ea_cons (y_var y 0 rfl) (ea_cons (y_op o_add (y_op o_add (y_var y 1 rfl) ev_int) (y_var y 2 rfl)) (ea_cons ev_int ea_nil))))))) ea_nil)))⟩
def b_law_point (v_law_script v_law_at : D) : Rs (Out Unit) := (Rs.bind (lstV (consM (.ok (.int 0)) (consM (.ok (.int 31)) (consM (.ok (.int 15)) (consM (.ok (.int 16)) (consM (.ok (.int 7)) (consM (.ok (.int 8)) (consM (Rs.bind (consM (.ok v_law_script) (consM (b2 pAdd (.ok v_law_at) (.ok (.int 2))) (consM (.ok (.int 32)) (.ok [])))) m_law_drawn) (consM (Rs.bind (consM (.ok v_law_script) (consM (b2 pAdd (.ok v_law_at) (.ok (.int 3))) (consM (.ok (.int 32)) (.ok [])))) m_law_drawn) (.ok [])))))))))) fun law_some_1 => (Rs.bind (lstV (consM (.ok (.int 0)) (consM (.ok (.int 31)) (consM (.ok (.int 15)) (consM (.ok (.int 16)) (consM (.ok (.int 7)) (consM (.ok (.int 8)) (consM (Rs.bind (consM (.ok v_law_script) (consM (b2 pAdd (.ok v_law_at) (.ok (.int 4))) (consM (.ok (.int 32)) (.ok [])))) m_law_drawn) (consM (Rs.bind (consM (.ok v_law_script) (consM (b2 pAdd (.ok v_law_at) (.ok (.int 5))) (consM (.ok (.int 32)) (.ok [])))) m_law_drawn) (.ok [])))))))))) fun law_more_2 => (Rs.ret (tupV (consM (b2 pIx (.ok law_some_1) (Rs.bind (consM (.ok v_law_script) (consM (.ok v_law_at) (consM (.ok (.int 8)) (.ok [])))) m_law_drawn)) (consM (b2 pIx (.ok law_more_2) (Rs.bind (consM (.ok v_law_script) (consM (b2 pAdd (.ok v_law_at) (.ok (.int 1))) (consM (.ok (.int 8)) (.ok [])))) m_law_drawn)) (.ok [])))))))
def m_law_point : List D → Rs D
  | [v_law_script, v_law_at] => (b_law_point v_law_script v_law_at).fin
  | _ => .stuck
theorem ok_law_point {U : Un} {f : Addr} {fd : FuncData} (nb : NoB U) (g : Gs U) (F : Fun U.K "_law_point" "_law_point" (top 22) f fd) (hm : U.mg "_law_point" = some (.ref f)) (c_law_drawn : Fn U 2 "_law_drawn" 3 m_law_drawn) : Fn U 3 "_law_point" 2 m_law_point :=
  fn_def (N := ["_law_script", "_law_at", "_law_some", "_law_more"]) nb F ⟨rfl, rfl, rfl, by decide +kernel, rfl, by decide +kernel, by decide +kernel⟩ hm (F.binds (ps := ["_law_script", "_law_at"]) fun _ _ _ _ _ _ us hl => match us, hl with | [_, _], _ => rfl) rfl fun X W z ds hl => match ds, hl with
    | [v_law_script, v_law_at], _ => ⟨_, fun _ => [.no, .no, .no, .no], b_law_point v_law_script v_law_at, rfl, by
      show BS X W [.da v_law_script, .da v_law_at, .no, .no] (defBody (top 22)) _ _
      unfold b_law_point
      exact (s_set z 2 (y_lst (ea_cons ev_int (ea_cons ev_int (ea_cons ev_int (ea_cons ev_int (ea_cons ev_int (ea_cons ev_int (ea_cons (y_call z.y c_law_drawn (ea_cons (y_var z.y 0 rfl) (ea_cons (y_op o_add (y_var z.y 1 rfl) ev_int) (ea_cons ev_int ea_nil)))) (ea_cons (y_call z.y c_law_drawn (ea_cons (y_var z.y 0 rfl) (ea_cons (y_op o_add (y_var z.y 1 rfl) ev_int) (ea_cons ev_int ea_nil)))) ea_nil))))))))) fun law_some_1 => (s_set z 3 (y_lst (ea_cons ev_int (ea_cons ev_int (ea_cons ev_int (ea_cons ev_int (ea_cons ev_int (ea_cons ev_int (ea_cons (y_call z.y c_law_drawn (ea_cons (y_var z.y 0 rfl) (ea_cons (y_op o_add (y_var z.y 1 rfl) ev_int) (ea_cons ev_int ea_nil)))) (ea_cons (y_call z.y c_law_drawn (ea_cons (y_var z.y 0 rfl) (ea_cons (y_op o_add (y_var z.y 1 rfl) ev_int) (ea_cons ev_int ea_nil)))) ea_nil))))))))) fun law_more_2 => (bs_ret (y_tup (ea_cons (y_ix z.y (y_var z.y 2 rfl) (y_call z.y c_law_drawn (ea_cons (y_var z.y 0 rfl) (ea_cons (y_var z.y 1 rfl) (ea_cons ev_int ea_nil))))) (ea_cons (y_ix z.y (y_var z.y 3 rfl) (y_call z.y c_law_drawn (ea_cons (y_var z.y 0 rfl) (ea_cons (y_op o_add (y_var z.y 1 rfl) ev_int) (ea_cons ev_int ea_nil))))) ea_nil))))))⟩
def b_law_letters_l1 (v_law_point_here : D) (a_2 : D) (law_side_3 : D) : Rs (Out D) := (Rs.bind (b2 pAdd (.ok a_2) (b2 pIx (.ok (.str "abcd")) (b2 pAdd (b2 pMod (b2 pDiv (b2 pIx (.ok v_law_point_here) (.ok (.int 0))) (.ok law_side_3)) (.ok (.int 2))) (b2 pMul (b2 pMod (b2 pDiv (b2 pIx (.ok v_law_point_here) (.ok (.int 1))) (.ok law_side_3)) (.ok (.int 2))) (.ok (.int 2)))))) fun law_found_4 => (.ok (.nx law_found_4)))
def b_law_letters (v_law_point_here : D) : Rs (Out Unit) := (Rs.bind (.ok (.str "")) fun law_found_1 => (forS (α := D) some (Rs.bind (tupV (consM (.ok (.int 16)) (consM (.ok (.int 8)) (consM (.ok (.int 4)) (consM (.ok (.int 2)) (consM (.ok (.int 1)) (.ok []))))))) itemsOf) law_found_1 (b_law_letters_l1 v_law_point_here) fun a_2 => (Rs.ret (.ok a_2))))
def m_law_letters : List D → Rs D
  | [v_law_point_here] => (b_law_letters v_law_point_here).fin
  | _ => .stuck
theorem ok_law_letters {U : Un} {f : Addr} {fd : FuncData} (nb : NoB U) (g : Gs U) (F : Fun U.K "_law_letters" "_law_letters" (top 23) f fd) (hm : U.mg "_law_letters" = some (.ref f)) : Fn U 1 "_law_letters" 1 m_law_letters :=
  fn_def (N := ["_law_point_here", "_law_found", "_law_side"]) nb F ⟨rfl, rfl, rfl, by decide +kernel, rfl, by decide +kernel, by decide +kernel⟩ hm (F.binds (ps := ["_law_point_here"]) fun _ _ _ _ _ _ us hl => match us, hl with | [_], _ => rfl) rfl fun X W z ds hl => match ds, hl with
    | [v_law_point_here], _ => ⟨_, fun _ => [.no, .no, .no], b_law_letters v_law_point_here, rfl, by
      show BS X W [.da v_law_point_here, .no, .no] (defBody (top 23)) _ _
      unfold b_law_letters
      exact (s_set z 1 ev_str fun law_found_1 => (s_for (α := D) z (fun a_2 => [.da v_law_point_here, .da a_2, .no]) (ei_any (y_tup (ea_cons ev_int (ea_cons ev_int (ea_cons ev_int (ea_cons ev_int (ea_cons ev_int ea_nil))))))) (k_one z.y 2 (by intro _; simp)) (fun a_2 law_side_3 => by unfold b_law_letters_l1; exact (s_set z 1 (y_op o_add (y_var z.y 1 rfl) (y_ix z.y ev_str (y_op o_add (y_op o_mod (y_op o_div (y_ix z.y (y_var z.y 0 rfl) ev_int) (y_var z.y 2 rfl)) ev_int) (y_op o_mul (y_op o_mod (y_op o_div (y_ix z.y (y_var z.y 0 rfl) ev_int) (y_var z.y 2 rfl)) ev_int) ev_int)))) fun law_found_4 => (bs_nil (sle_eq (sle_eq (sle_no sle_nil)))))) (sle_eq (sle_eq (sle_no sle_nil))) fun a_2 => (bs_ret (y_var z.y 1 rfl))))⟩
def b_law_corner_l1  (a_4 : D × D × D) (law_letter_5 : D) : Rs (Out (D × D × D)) := (Rs.bind (b2 pDiv (.ok a_4.2.2) (.ok (.int 2))) fun law_side_6 => (Rs.bind (b2 pAdd (.ok a_4.1) (ifV (c2 pIn (.ok law_letter_5) (.ok (.str "bd"))) (.ok law_side_6) (.ok (.int 0)))) fun law_right_7 => (Rs.bind (b2 pAdd (.ok a_4.2.1) (ifV (c2 pIn (.ok law_letter_5) (.ok (.str "cd"))) (.ok law_side_6) (.ok (.int 0)))) fun law_up_8 => (.ok (.nx (law_right_7, law_up_8, law_side_6))))))
def b_law_corner (v_law_word_here : D) : Rs (Out Unit) := (Rs.bind (.ok (.int 0)) fun law_right_1 => (Rs.bind (.ok (.int 0)) fun law_up_2 => (Rs.bind (.ok (.int 32)) fun law_side_3 => (forS (α := D × D × D) some (Rs.bind (.ok v_law_word_here) itemsOf) (law_right_1, law_up_2, law_side_3) (b_law_corner_l1) fun a_4 => (Rs.ret (tupV (consM (.ok a_4.1) (consM (.ok a_4.2.1) (consM (.ok a_4.2.2) (.ok []))))))))))
def m_law_corner : List D → Rs D
  | [v_law_word_here] => (b_law_corner v_law_word_here).fin
  | _ => .stuck
theorem ok_law_corner {U : Un} {f : Addr} {fd : FuncData} (nb : NoB U) (g : Gs U) (F : Fun U.K "_law_corner" "_law_corner" (top 24) f fd) (hm : U.mg "_law_corner" = some (.ref f)) : Fn U 1 "_law_corner" 1 m_law_corner :=
  fn_def (N := ["_law_word_here", "_law_right", "_law_up", "_law_side", "_law_letter"]) nb F ⟨rfl, rfl, rfl, by decide +kernel, rfl, by decide +kernel, by decide +kernel⟩ hm (F.binds (ps := ["_law_word_here"]) fun _ _ _ _ _ _ us hl => match us, hl with | [_], _ => rfl) rfl fun X W z ds hl => match ds, hl with
    | [v_law_word_here], _ => ⟨_, fun _ => [.no, .no, .no, .no, .no], b_law_corner v_law_word_here, rfl, by
      show BS X W [.da v_law_word_here, .no, .no, .no, .no] (defBody (top 24)) _ _
      unfold b_law_corner
      exact (s_set z 1 ev_int fun law_right_1 => (s_set z 2 ev_int fun law_up_2 => (s_set z 3 ev_int fun law_side_3 => (s_for (α := D × D × D) z (fun a_4 => [.da v_law_word_here, .da a_4.1, .da a_4.2.1, .da a_4.2.2, .no]) (ei_any (y_var z.y 0 rfl)) (k_one z.y 4 (by intro _; simp)) (fun a_4 law_letter_5 => by unfold b_law_corner_l1; exact (s_set z 3 (y_op o_div (y_var z.y 3 rfl) ev_int) fun law_side_6 => (s_set z 1 (y_op o_add (y_var z.y 1 rfl) (y_if (t_cmp (o_in z.y.rm) (y_var z.y 4 rfl) ev_str) (y_var z.y 3 rfl) ev_int)) fun law_right_7 => (s_set z 2 (y_op o_add (y_var z.y 2 rfl) (y_if (t_cmp (o_in z.y.rm) (y_var z.y 4 rfl) ev_str) (y_var z.y 3 rfl) ev_int)) fun law_up_8 => (bs_nil (sle_eq (sle_eq (sle_eq (sle_eq (sle_no sle_nil)))))))))) (sle_eq (sle_eq (sle_eq (sle_eq (sle_no sle_nil))))) fun a_4 => (bs_ret (y_tup (ea_cons (y_var z.y 1 rfl) (ea_cons (y_var z.y 2 rfl) (ea_cons (y_var z.y 3 rfl) ea_nil)))))))))⟩
def b_law_box (v_law_script v_law_at : D) : Rs (Out Unit) := (Rs.bind (Rs.bind (consM (.ok v_law_script) (consM (.ok v_law_at) (.ok []))) m_law_point) fun law_one_1 => (Rs.bind (Rs.bind (consM (.ok v_law_script) (consM (b2 pAdd (.ok v_law_at) (.ok (.int 6))) (.ok []))) m_law_point) fun law_other_2 => (Rs.ret (tupV (consM (cb pMin (consM (b2 pIx (.ok law_one_1) (.ok (.int 0))) (consM (b2 pIx (.ok law_other_2) (.ok (.int 0))) (.ok [])))) (consM (cb pMin (consM (b2 pIx (.ok law_one_1) (.ok (.int 1))) (consM (b2 pIx (.ok law_other_2) (.ok (.int 1))) (.ok [])))) (consM (cb pMax (consM (b2 pIx (.ok law_one_1) (.ok (.int 0))) (consM (b2 pIx (.ok law_other_2) (.ok (.int 0))) (.ok [])))) (consM (cb pMax (consM (b2 pIx (.ok law_one_1) (.ok (.int 1))) (consM (b2 pIx (.ok law_other_2) (.ok (.int 1))) (.ok [])))) (.ok [])))))))))
def m_law_box : List D → Rs D
  | [v_law_script, v_law_at] => (b_law_box v_law_script v_law_at).fin
  | _ => .stuck
theorem ok_law_box {U : Un} {f : Addr} {fd : FuncData} (nb : NoB U) (g : Gs U) (F : Fun U.K "_law_box" "_law_box" (top 25) f fd) (hm : U.mg "_law_box" = some (.ref f)) (c_law_point : Fn U 3 "_law_point" 2 m_law_point) : Fn U 4 "_law_box" 2 m_law_box :=
  fn_def (N := ["_law_script", "_law_at", "_law_one", "_law_other"]) nb F ⟨rfl, rfl, rfl, by decide +kernel, rfl, by decide +kernel, by decide +kernel⟩ hm (F.binds (ps := ["_law_script", "_law_at"]) fun _ _ _ _ _ _ us hl => match us, hl with | [_, _], _ => rfl) rfl fun X W z ds hl => match ds, hl with
    | [v_law_script, v_law_at], _ => ⟨_, fun _ => [.no, .no, .no, .no], b_law_box v_law_script v_law_at, rfl, by
      show BS X W [.da v_law_script, .da v_law_at, .no, .no] (defBody (top 25)) _ _
      unfold b_law_box
      exact (s_set z 2 (y_call z.y c_law_point (ea_cons (y_var z.y 0 rfl) (ea_cons (y_var z.y 1 rfl) ea_nil))) fun law_one_1 => (s_set z 3 (y_call z.y c_law_point (ea_cons (y_var z.y 0 rfl) (ea_cons (y_op o_add (y_var z.y 1 rfl) ev_int) ea_nil))) fun law_other_2 => (bs_ret (y_tup (ea_cons (y_cb z.y (b := true) (c_min z.y.c) (ea_cons (y_ix z.y (y_var z.y 2 rfl) ev_int) (ea_cons (y_ix z.y (y_var z.y 3 rfl) ev_int) ea_nil))) (ea_cons (y_cb z.y (b := true) (c_min z.y.c) (ea_cons (y_ix z.y (y_var z.y 2 rfl) ev_int) (ea_cons (y_ix z.y (y_var z.y 3 rfl) ev_int) ea_nil))) (ea_cons (y_cb z.y (b := true) (c_max z.y.c) (ea_cons (y_ix z.y (y_var z.y 2 rfl) ev_int) (ea_cons (y_ix z.y (y_var z.y 3 rfl) ev_int) ea_nil))) (ea_cons (y_cb z.y (b := true) (c_max z.y.c) (ea_cons (y_ix z.y (y_var z.y 2 rfl) ev_int) (ea_cons (y_ix z.y (y_var z.y 3 rfl) ev_int) ea_nil))) ea_nil))))))))⟩
def b_law_in (v_law_word_here v_law_box_here : D) : Rs (Out Unit) := (upS up3 (Rs.bind (consM (.ok v_law_word_here) (.ok [])) m_law_corner) fun (c_1 : D × D × D) => (ifS (α := Unit) (Rs.orB (c2 pGt (.ok c_1.1) (b2 pIx (.ok v_law_box_here) (.ok (.int 2)))) (Rs.orB (c2 pLt (b2 pSub (b2 pAdd (.ok c_1.1) (.ok c_1.2.2)) (.ok (.int 1))) (b2 pIx (.ok v_law_box_here) (.ok (.int 0)))) (Rs.orB (c2 pGt (.ok c_1.2.1) (b2 pIx (.ok v_law_box_here) (.ok (.int 3)))) (c2 pLt (b2 pSub (b2 pAdd (.ok c_1.2.1) (.ok c_1.2.2)) (.ok (.int 1))) (b2 pIx (.ok v_law_box_here) (.ok (.int 1))))))) (Rs.ret (.ok (.int 0))) (.ok (.nx ())) fun j_2 => (Rs.bind (andV (b2 pLe (b2 pIx (.ok v_law_box_here) (.ok (.int 0))) (.ok c_1.1)) (andV (b2 pLe (b2 pSub (b2 pAdd (.ok c_1.1) (.ok c_1.2.2)) (.ok (.int 1))) (b2 pIx (.ok v_law_box_here) (.ok (.int 2)))) (andV (b2 pLe (b2 pIx (.ok v_law_box_here) (.ok (.int 1))) (.ok c_1.2.1)) (b2 pLe (b2 pSub (b2 pAdd (.ok c_1.2.1) (.ok c_1.2.2)) (.ok (.int 1))) (b2 pIx (.ok v_law_box_here) (.ok (.int 3))))))) fun law_whole_3 => (Rs.ret (ifV (isB (.ok law_whole_3)) (.ok (.int 2)) (.ok (.int 1)))))))
def m_law_in : List D → Rs D
  | [v_law_word_here, v_law_box_here] => (b_law_in v_law_word_here v_law_box_here).fin
  | _ => .stuck
theorem ok_law_in {U : Un} {f : Addr} {fd : FuncData} (nb : NoB U) (g : Gs U) (F : Fun U.K "_law_in" "_law_in" (top 26) f fd) (hm : U.mg "_law_in" = some (.ref f)) (c_law_corner : Fn U 1 "_law_corner" 1 m_law_corner) : Fn U 2 "_law_in" 2 m_law_in :=
  fn_def (N := ["_law_word_here", "_law_box_here", "_law_right", "_law_up", "_law_side", "_law_whole"]) nb F ⟨rfl, rfl, rfl, by decide +kernel, rfl, by decide +kernel, by decide +kernel⟩ hm (F.binds (ps := ["_law_word_here", "_law_box_here"]) fun _ _ _ _ _ _ us hl => match us, hl with | [_, _], _ => rfl) rfl fun X W z ds hl => match ds, hl with
    | [v_law_word_here, v_law_box_here], _ => ⟨_, fun _ => [.no, .no, .no, .no, .no, .no], b_law_in v_law_word_here v_law_box_here, rfl, by
      show BS X W [.da v_law_word_here, .da v_law_box_here, .no, .no, .no, .no] (defBody (top 26)) _ _
      unfold b_law_in
      exact (s_up (k_three z.y 2 3 4 (by intro _; simp) (by intro _; simp) (by intro _; simp)) (y_call z.y c_law_corner (ea_cons (y_var z.y 0 rfl) ea_nil)) fun c_1 => (s_if (α := Unit) (fun j_2 => [.da v_law_word_here, .da v_law_box_here, .da c_1.1, .da c_1.2.1, .da c_1.2.2, .no]) (et_bool (ew_or (t_cmp o_gt (y_var z.y 2 rfl) (y_ix z.y (y_var z.y 1 rfl) ev_int)) (ew_or (t_cmp o_lt (y_op o_sub (y_op o_add (y_var z.y 2 rfl) (y_var z.y 4 rfl)) ev_int) (y_ix z.y (y_var z.y 1 rfl) ev_int)) (ew_or (t_cmp o_gt (y_var z.y 3 rfl) (y_ix z.y (y_var z.y 1 rfl) ev_int)) (ew_or1 (t_cmp o_lt (y_op o_sub (y_op o_add (y_var z.y 3 rfl) (y_var z.y 4 rfl)) ev_int) (y_ix z.y (y_var z.y 1 rfl) ev_int))))))) (bs_ret ev_int) (bs_nil (sle_eq (sle_eq (sle_eq (sle_eq (sle_eq (sle_no sle_nil))))))) fun j_2 => (s_set z 5 (ev_bool (y_and (y_cmp o_le (y_ix z.y (y_var z.y 1 rfl) ev_int) (y_var z.y 2 rfl)) (y_and (y_cmp o_le (y_op o_sub (y_op o_add (y_var z.y 2 rfl) (y_var z.y 4 rfl)) ev_int) (y_ix z.y (y_var z.y 1 rfl) ev_int)) (y_and (y_cmp o_le (y_ix z.y (y_var z.y 1 rfl) ev_int) (y_var z.y 3 rfl)) (evw_one (y_cmp o_le (y_op o_sub (y_op o_add (y_var z.y 3 rfl) (y_var z.y 4 rfl)) ev_int) (y_ix z.y (y_var z.y 1 rfl) ev_int))))))) fun law_whole_3 => (bs_ret (y_if (t_val (y_var z.y 5 rfl)) ev_int ev_int)))))⟩
def b_law_words (v_law_script v_law_at v_law_many : D) : Rs (Out Unit) := (Rs.bind (lcV some (Rs.bind (consM (Rs.bind (consM (.ok v_law_script) (consM (.ok v_law_at) (consM (b2 pAdd (.ok v_law_many) (.ok (.int 1))) (.ok [])))) m_law_drawn) (.ok [])) pRange) (fun (law_k_2 : D) => (.ok true)) (fun (law_k_2 : D) => (Rs.bind (consM (.ok v_law_script) (consM (b2 pAdd (b2 pAdd (.ok v_law_at) (b2 pMul (.ok (.int 7)) (.ok law_k_2))) (.ok (.int 1))) (.ok []))) m_law_word))) fun law_found_1 => (ifS (α := D) (Rs.andB (c2 pNe (.ok law_found_1) (lstV (.ok []))) (Rs.andB (c2 pLt (cb pLen (consM (b2 pIx (.ok law_found_1) (.ok (.int 0))) (.ok []))) (.ok (.int 5))) (c2 pEq (Rs.bind (consM (.ok v_law_script) (consM (b2 pAdd (.ok v_law_at) (.ok (.int 60))) (consM (.ok (.int 2)) (.ok [])))) m_law_drawn) (.ok (.int 0))))) (Rs.bind (b2 pAdd (slV (.ok law_found_1) (Rs.bind (.ok (.int 1)) asI) (.ok none)) (lcV some (Rs.bind (.ok (.str "abcd")) itemsOf) (fun (law_letter_5 : D) => (.ok true)) (fun (law_letter_5 : D) => (b2 pAdd (b2 pIx (.ok law_found_1) (.ok (.int 0))) (.ok law_letter_5))))) fun law_found_4 => (.ok (.nx law_found_4))) (.ok (.nx law_found_1)) fun j_3 => (Rs.ret (.ok j_3))))
def m_law_words : List D → Rs D
  | [v_law_script, v_law_at, v_law_many] => (b_law_words v_law_script v_law_at v_law_many).fin
  | _ => .stuck
theorem ok_law_words {U : Un} {f : Addr} {fd : FuncData} (nb : NoB U) (g : Gs U) (F : Fun U.K "_law_words" "_law_words" (top 27) f fd) (hm : U.mg "_law_words" = some (.ref f)) (c_law_drawn : Fn U 2 "_law_drawn" 3 m_law_drawn) (c_law_word : Fn U 3 "_law_word" 2 m_law_word) : Fn U 4 "_law_words" 3 m_law_words :=
  fn_def (N := ["_law_script", "_law_at", "_law_many", "_law_found", "_law_k", "_law_letter"]) nb F ⟨rfl, rfl, rfl, by decide +kernel, rfl, by decide +kernel, by decide +kernel⟩ hm (F.binds (ps := ["_law_script", "_law_at", "_law_many"]) fun _ _ _ _ _ _ us hl => match us, hl with | [_, _, _], _ => rfl) rfl fun X W z ds hl => match ds, hl with
    | [v_law_script, v_law_at, v_law_many], _ => ⟨_, fun _ => [.no, .no, .no, .no, .no, .no], b_law_words v_law_script v_law_at v_law_many, rfl, by
      show BS X W [.da v_law_script, .da v_law_at, .da v_law_many, .no, .no, .no] (defBody (top 27)) _ _
      unfold b_law_words
      exact (s_setN z 3 (y_lc z.y [4] [("_law_k", 4)] (fun (law_k_2 : D) => [.da v_law_script, .da v_law_at, .da v_law_many, .no, .da law_k_2, .no]) (y_range1 z.y (ea_cons (y_call z.y c_law_drawn (ea_cons (y_var z.y 0 rfl) (ea_cons (y_var z.y 1 rfl) (ea_cons (y_op o_add (y_var z.y 2 rfl) ev_int) ea_nil)))) ea_nil)) (fun Y y => (k_one y 4 (by intro _; simp [wipeS]))) (fun Y y law_k_2 => ets_nil) (fun Y y law_k_2 => (y_call y c_law_word (ea_cons (y_var y 0 rfl) (ea_cons (y_op o_add (y_op o_add (y_var y 1 rfl) (y_op o_mul ev_int (y_var y 4 rfl))) ev_int) ea_nil))))) fun law_found_1 => (s_if (α := D) (fun j_3 => [.da v_law_script, .da v_law_at, .da v_law_many, .da j_3, .no, .no]) (et_bool (ew_and (t_cmp (o_ne z.y.rm) (y_var z.y 3 rfl) (y_lst ea_nil)) (ew_and (t_cmp o_lt (y_cb z.y (b := true) c_len (ea_cons (y_ix z.y (y_var z.y 3 rfl) ev_int) ea_nil)) ev_int) (ew_and1 (t_cmp (o_eq z.y.rm) (y_call z.y c_law_drawn (ea_cons (y_var z.y 0 rfl) (ea_cons (y_op o_add (y_var z.y 1 rfl) ev_int) (ea_cons ev_int ea_nil)))) ev_int))))) (s_set z 3 (y_op o_add (y_slice (y_var z.y 3 rfl) (eo_some ev_int) eo_none) (y_lc z.y [5] [("_law_letter", 5)] (fun (law_letter_5 : D) => [.da v_law_script, .da v_law_at, .da v_law_many, .da law_found_1, .no, .da law_letter_5]) (ei_any ev_str) (fun Y y => (k_one y 5 (by intro _; simp [wipeS]))) (fun Y y law_letter_5 => ets_nil) (fun Y y law_letter_5 => (y_op o_add (y_ix y (y_var y 3 rfl) ev_int) (y_var y 5 rfl))))) fun law_found_4 => (bs_nil (sle_eq (sle_eq (sle_eq (sle_eq (sle_no (sle_no sle_nil)))))))) (bs_nil (sle_eq (sle_eq (sle_eq (sle_eq (sle_no (sle_no sle_nil))))))) fun j_3 => (bs_ret (y_var z.y 3 rfl))))⟩
def b_law_has (rc_ : List D → Rs D) (v_law_words_here v_law_word_here : D) : Rs (Out Unit) := (ifS (α := Unit) (c2 pNe (lcV some (Rs.bind (consM (b2 pAdd (cb pLen (consM (.ok v_law_word_here) (.ok []))) (.ok (.int 1))) (.ok [])) pRange) (fun (law_size_1 : D) => (c2 pIn (slV (.ok v_law_word_here) (.ok none) (Rs.bind (.ok law_size_1) asI)) (.ok v_law_words_here))) (fun (law_size_1 : D) => (.ok law_size_1))) (lstV (.ok []))) (Rs.ret (.ok (.bool true))) (.ok (.nx ())) fun j_2 => (ifS (α := Unit) (c2 pEq (lcV some (Rs.bind (.ok v_law_words_here) itemsOf) (fun (law_one_3 : D) => (isB (msV pStarts (.ok law_one_3) (consM (.ok v_law_word_here) (.ok []))))) (fun (law_one_3 : D) => (.ok law_one_3))) (lstV (.ok []))) (Rs.ret (.ok (.bool false))) (.ok (.nx ())) fun j_4 => (Rs.ret (b2 pEq (lcV some (Rs.bind (.ok (.str "abcd")) itemsOf) (fun (law_letter_5 : D) => (Rs.notB (isB (Rs.bind (consM (.ok v_law_words_here) (consM (b2 pAdd (.ok v_law_word_here) (.ok law_letter_5)) (.ok []))) rc_)))) (fun (law_letter_5 : D) => (.ok law_letter_5))) (lstV (.ok []))))))
def mr_law_has : Nat → List D → Rs D
  | n + 1, [v_law_words_here, v_law_word_here] => (b_law_has (mr_law_has n) v_law_words_here v_law_word_here).fin
  | _, _ => .stuck
abbrev m_law_has : List D → Rs D := mr_law_has 7
theorem okr_law_has {U : Un} {f : Addr} {fd : FuncData} (nb : NoB U) (g : Gs U) (F : Fun U.K "_law_has" "_law_has" (top 28) f fd) (hm : U.mg "_law_has" = some (.ref f)) : ∀ n : Nat, Fn U (1 + n) "_law_has" 2 (mr_law_has n)
  | 0 => fn_def (k := 0) (N := ["_law_words_here", "_law_word_here", "_law_size", "_law_one", "_law_letter"]) nb F ⟨rfl, rfl, rfl, by decide +kernel, rfl, by decide +kernel, by decide +kernel⟩ hm (F.binds (ps := ["_law_words_here", "_law_word_here"]) fun _ _ _ _ _ _ us hl => match us, hl with | [_, _], _ => rfl) rfl fun X W z ds hl => ⟨Unit, fun _ => [.no, .no, .no, .no, .no], .stuck, rfl, bs_stuck⟩
  | q + 1 => by
    have c_law_has := okr_law_has nb g F hm q
    exact fn_def (k := 1 + q) (N := ["_law_words_here", "_law_word_here", "_law_size", "_law_one", "_law_letter"]) nb F ⟨rfl, rfl, rfl, by decide +kernel, rfl, by decide +kernel, by decide +kernel⟩ hm (F.binds (ps := ["_law_words_here", "_law_word_here"]) fun _ _ _ _ _ _ us hl => match us, hl with | [_, _], _ => rfl) rfl fun X W z ds hl => match ds, hl with
      | [v_law_words_here, v_law_word_here], _ => ⟨_, fun _ => [.no, .no, .no, .no, .no], b_law_has (mr_law_has q) v_law_words_here v_law_word_here, rfl, by
        show BS X W [.da v_law_words_here, .da v_law_word_here, .no, .no, .no] (defBody (top 28)) _ _
        unfold b_law_has
        exact (s_if (α := Unit) (fun j_2 => [.da v_law_words_here, .da v_law_word_here, .no, .no, .no]) (t_cmp (o_ne z.y.rm) (y_lc z.y [2] [("_law_size", 2)] (fun (law_size_1 : D) => [.da v_law_words_here, .da v_law_word_here, .da law_size_1, .no, .no]) (y_range1 z.y (ea_cons (y_op o_add (y_cb z.y (b := true) c_len (ea_cons (y_var z.y 1 rfl) ea_nil)) ev_int) ea_nil)) (fun Y y => (k_one y 2 (by intro _; simp [wipeS]))) (fun Y y law_size_1 => (ets_one (t_cmp (o_in y.rm) (y_slice (y_var y 1 rfl) eo_none (eo_some (y_var y 2 rfl))) (y_var y 0 rfl)))) (fun Y y law_size_1 => (y_var y 2 rfl))) (y_lst ea_nil)) (bs_ret ev_bl) (bs_nil (sle_eq (sle_eq (sle_no (sle_no (sle_no sle_nil)))))) fun j_2 => (s_if (α := Unit) (fun j_4 => [.da v_law_words_here, .da v_law_word_here, .no, .no, .no]) (t_cmp (o_eq z.y.rm) (y_lc z.y [3] [("_law_one", 3)] (fun (law_one_3 : D) => [.da v_law_words_here, .da v_law_word_here, .no, .da law_one_3, .no]) (ei_any (y_var z.y 0 rfl)) (fun Y y => (k_one y 3 (by intro _; simp [wipeS]))) (fun Y y law_one_3 => (ets_one (t_val (y_ms PySem.F.slot_str_startswith PySem.F.type_str_startswith m_startswith (y_var y 3 rfl) (ea_cons (y_var y 1 rfl) ea_nil))))) (fun Y y law_one_3 => (y_var y 3 rfl))) (y_lst ea_nil)) (bs_ret ev_bl) (bs_nil (sle_eq (sle_eq (sle_no (sle_no (sle_no sle_nil)))))) fun j_4 => (bs_ret (y_cmp (o_eq z.y.rm) (y_lc z.y [4] [("_law_letter", 4)] (fun (law_letter_5 : D) => [.da v_law_words_here, .da v_law_word_here, .no, .no, .da law_letter_5]) (ei_any ev_str) (fun Y y => (k_one y 4 (by intro _; simp [wipeS]))) (fun Y y law_letter_5 => (ets_one (et_not (t_val (y_call y c_law_has (ea_cons (y_var y 0 rfl) (ea_cons (y_op o_add (y_var y 1 rfl) (y_var y 4 rfl)) ea_nil))))))) (fun Y y law_letter_5 => (y_var y 4 rfl))) (y_lst ea_nil)))))⟩
theorem ok_law_has {U : Un} {f : Addr} {fd : FuncData} (nb : NoB U) (g : Gs U) (F : Fun U.K "_law_has" "_law_has" (top 28) f fd) (hm : U.mg "_law_has" = some (.ref f)) : Fn U 8 "_law_has" 2 m_law_has := okr_law_has nb g F hm 7
def b_law_fewest_l1  (a_3 : (List D) × D) : Rs Bool := (c2 pNe (.ok a_3.2) (lstV (.ok [])))
def b_law_fewest_l2 (v_law_words_here : D) (a_5 : (List D) × D) (law_head_6 : D) : Rs (Out ((List D) × D)) := (ifS (α := (List D) × D) (isB (Rs.bind (consM (.ok v_law_words_here) (consM (.ok law_head_6) (.ok []))) m_law_has)) (Rs.bind (.ok law_head_6) fun d_8 => capL (List.length a_5.1) (.ok (.nx ((a_5.1 ++ [d_8]), a_5.2)))) (ifS (α := D) (c2 pNe (lcV some (Rs.bind (.ok v_law_words_here) itemsOf) (fun (law_one_9 : D) => (isB (msV pStarts (.ok law_one_9) (consM (.ok law_head_6) (.ok []))))) (fun (law_one_9 : D) => (.ok law_one_9))) (lstV (.ok []))) (Rs.bind (b2 pAdd (.ok a_5.2) (lcV some (Rs.bind (.ok (.str "abcd")) itemsOf) (fun (law_letter_12 : D) => (.ok true)) (fun (law_letter_12 : D) => (b2 pAdd (.ok law_head_6) (.ok law_letter_12))))) fun law_more_11 => (.ok (.nx law_more_11))) (.ok (.nx a_5.2)) fun j_10 => (.ok (.nx (a_5.1, j_10)))) fun j_7 => (.ok (.nx (j_7.1, j_7.2))))
def b_law_fewest_l3 (v_law_words_here : D) (a_3 : (List D) × D) : Rs (Out ((List D) × D)) := (Rs.bind (lstV (.ok [])) fun law_more_4 => (forS (α := (List D) × D) some (Rs.bind (.ok a_3.2) itemsOf) (a_3.1, law_more_4) (b_law_fewest_l2 v_law_words_here) fun a_5 => (Rs.bind (.ok a_5.2) fun law_heads_13 => (.ok (.nx (a_5.1, law_heads_13))))))
def b_law_fewest (v_law_words_here : D) : Rs (Out Unit) := (Rs.bind (.ok []) fun law_found_1 => (Rs.bind (lstV (consM (.ok (.str "")) (.ok []))) fun law_heads_2 => (whileS (α := (List D) × D) 5000 (law_found_1, law_heads_2) (b_law_fewest_l1) (b_law_fewest_l3 v_law_words_here) fun a_3 => (Rs.ret (cb pSorted (consM (.ok (.list a_3.1)) (.ok [])))))))
def m_law_fewest : List D → Rs D
  | [v_law_words_here] => (b_law_fewest v_law_words_here).fin
  | _ => .stuck
theorem ok_law_fewest {U : Un} {f : Addr} {fd : FuncData} (nb : NoB U) (g : Gs U) (F : Fun U.K "_law_fewest" "_law_fewest" (top 29) f fd) (hm : U.mg "_law_fewest" = some (.ref f)) (c_law_has : Fn U 8 "_law_has" 2 m_law_has) : Fn U 9 "_law_fewest" 1 m_law_fewest :=
  fn_def (N := ["_law_words_here", "_law_found", "_law_heads", "_law_more", "_law_head", "_law_one", "_law_letter"]) nb F ⟨rfl, rfl, rfl, by decide +kernel, rfl, by decide +kernel, by decide +kernel⟩ hm (F.binds (ps := ["_law_words_here"]) fun _ _ _ _ _ _ us hl => match us, hl with | [_], _ => rfl) rfl fun X W z ds hl => match ds, hl with
    | [v_law_words_here], _ => ⟨_, fun _ => [.no, .no, .no, .no, .no, .no, .no], b_law_fewest v_law_words_here, rfl, by
      show BS X W [.da v_law_words_here, .no, .no, .no, .no, .no, .no] (defBody (top 29)) _ _
      unfold b_law_fewest
      exact (s_newL z 1 ea_nil fun law_found_1 => (s_set z 2 (y_lst (ea_cons ev_str ea_nil)) fun law_heads_2 => (s_while (α := (List D) × D) z (fun a_3 => [.da v_law_words_here, .ol a_3.1, .da a_3.2, .no, .no, .no, .no]) 5000 (fun a_3 => by unfold b_law_fewest_l1; exact (t_cmp (o_ne z.y.rm) (y_var z.y 2 rfl) (y_lst ea_nil))) (fun a_3 => by unfold b_law_fewest_l3; exact (s_set z 3 (y_lst ea_nil) fun law_more_4 => (s_for (α := (List D) × D) z (fun a_5 => [.da v_law_words_here, .ol a_5.1, .da a_3.2, .da a_5.2, .no, .no, .no]) (ei_any (y_var z.y 2 rfl)) (k_one z.y 4 (by intro _; simp)) (fun a_5 law_head_6 => by unfold b_law_fewest_l2; exact (s_if (α := (List D) × D) (fun j_7 => [.da v_law_words_here, .ol j_7.1, .da a_3.2, .da j_7.2, .da law_head_6, .no, .no]) (t_val (y_call z.y c_law_has (ea_cons (y_var z.y 0 rfl) (ea_cons (y_var z.y 4 rfl) ea_nil)))) (s_app z 1 rfl (y_var z.y 4 rfl) fun d_8 => (bs_nil (sle_eq (sle_eq (sle_eq (sle_eq (sle_eq (sle_no (sle_no sle_nil))))))))) (s_if (α := D) (fun j_10 => [.da v_law_words_here, .ol a_5.1, .da a_3.2, .da j_10, .da law_head_6, .no, .no]) (t_cmp (o_ne z.y.rm) (y_lc z.y [5] [("_law_one", 5)] (fun (law_one_9 : D) => [.da v_law_words_here, .ol a_5.1, .da a_3.2, .da a_5.2, .da law_head_6, .da law_one_9, .no]) (ei_any (y_var z.y 0 rfl)) (fun Y y => (k_one y 5 (by intro _; simp [wipeS]))) (fun Y y law_one_9 => (ets_one (t_val (y_ms PySem.F.slot_str_startswith PySem.F.type_str_startswith m_startswith (y_var y 5 rfl) (ea_cons (y_var y 4 rfl) ea_nil))))) (fun Y y law_one_9 => (y_var y 5 rfl))) (y_lst ea_nil)) (s_set z 3 (y_op o_add (y_var z.y 3 rfl) (y_lc z.y [6] [("_law_letter", 6)] (fun (law_letter_12 : D) => [.da v_law_words_here, .ol a_5.1, .da a_3.2, .da a_5.2, .da law_head_6, .no, .da law_letter_12]) (ei_any ev_str) (fun Y y => (k_one y 6 (by intro _; simp [wipeS]))) (fun Y y law_letter_12 => ets_nil) (fun Y y law_letter_12 => (y_op o_add (y_var y 4 rfl) (y_var y 6 rfl))))) fun law_more_11 => (bs_nil (sle_eq (sle_eq (sle_eq (sle_eq (sle_eq (sle_no (sle_no sle_nil))))))))) (bs_nil (sle_eq (sle_eq (sle_eq (sle_eq (sle_eq (sle_no (sle_no sle_nil)))))))) fun j_10 => (bs_nil (sle_eq (sle_eq (sle_eq (sle_eq (sle_eq (sle_no (sle_no sle_nil))))))))) fun j_7 => (bs_nil (sle_eq (sle_eq (sle_eq (sle_eq (sle_no (sle_no (sle_no sle_nil)))))))))) (sle_eq (sle_eq (sle_eq (sle_eq (sle_no (sle_no (sle_no sle_nil))))))) fun a_5 => (s_set z 2 (y_var z.y 3 rfl) fun law_heads_13 => (bs_nil (sle_eq (sle_eq (sle_eq (sle_no (sle_no (sle_no (sle_no sle_nil)))))))))))) (sle_eq (sle_eq (sle_eq (sle_no (sle_no (sle_no (sle_no sle_nil))))))) fun a_3 => (s_frzL 1 rfl (bs_ret (y_cb z.y (b := false) (c_sorted z.y.rm) (ea_cons (y_var z.y 1 rfl) ea_nil)))))))⟩
def b_law_told_x1 (ec : Str) : Rs (Out Unit) := (Rs.bind (lstV (consM (.ok (.bool (decide (ec = "NoText")))) (consM (.ok (.bool (decide (ec = "NoWord")))) (consM (.ok (.bool (decide (ec = "NoLength")))) (.ok []))))) fun law_flags_1 => (ifS (α := Unit) (Rs.andB (isB (.ok (.bool true))) (c2 pEq (.ok law_flags_1) (lstV (consM (.ok (.bool true)) (consM (.ok (.bool false)) (consM (.ok (.bool false)) (.ok []))))))) (Rs.ret (.ok .none)) (.ok (.nx ())) fun j_2 => (.ok (.nx ()))))
def b_law_told (v_law_text : D) : Rs (Out Unit) := (tryES exNs b_law_told_x1 (Rs.ret (Rs.bind (consM (.ok v_law_text) (.ok [])) m_read_words)) fun _ => (Rs.ret (.ok (.bool false))))
def m_law_told : List D → Rs D
  | [v_law_text] => (b_law_told v_law_text).fin
  | _ => .stuck
theorem ok_law_told {U : Un} {f : Addr} {fd : FuncData} (nb : NoB U) (g : Gs U) (F : Fun U.K "_law_told" "_law_told" (top 30) f fd) (hm : U.mg "_law_told" = some (.ref f)) (c_read_words : Fn U 5 "read_words" 1 m_read_words) (T : ExT U.K U.mg exNs) : Fn U 6 "_law_told" 1 m_law_told :=
  fn_def (N := ["_law_text", "e", "_law_flags"]) nb F ⟨rfl, rfl, rfl, by decide +kernel, rfl, by decide +kernel, by decide +kernel⟩ hm (F.binds (ps := ["_law_text"]) fun _ _ _ _ _ _ us hl => match us, hl with | [_], _ => rfl) rfl fun X W z ds hl => match ds, hl with
    | [v_law_text], _ => ⟨_, fun _ => [.no, .no, .no], b_law_told v_law_text, rfl, by
      show BS X W [.da v_law_text, .no, .no] (defBody (top 30)) _ _
      unfold b_law_told
      exact (s_tryE z 1 (fun _ => [.no, .no, .no]) T (fun X W z => (bs_ret (y_call z.y c_read_words (ea_cons (y_var z.y 0 rfl) ea_nil)))) (fun X ec p hc y => by unfold b_law_told_x1; exact (h_set y 2 (y_lst (ea_cons (h_isE y 1 T hc rfl) (ea_cons (h_isE y 1 T hc rfl) (ea_cons (h_isE y 1 T hc rfl) ea_nil)))) fun law_flags_1 => (s_if (α := Unit) (fun j_2 => [.no, .ex p.1, .da law_flags_1]) (et_bool (ew_and (t_val (h_isVE y 1 T hc rfl)) (ew_and1 (t_cmp (o_eq y.rm) (h_var y 2 rfl) (y_lst (ea_cons ev_bl (ea_cons ev_bl (ea_cons ev_bl ea_nil)))))))) (bs_ret ev_non) (bs_nil (sle_no (sle_eq (sle_eq sle_nil)))) fun j_2 => (bs_nil (sle_no (sle_no (sle_no sle_nil))))))) (bs_ret ev_bl))⟩
def b_law_due (v_law_text : D) : Rs (Out Unit) := (Rs.bind (msV pSplit (.ok v_law_text) (consM (.ok (.str "\n")) (.ok []))) fun law_lines_1 => (Rs.bind (lcV some (Rs.bind (slV (.ok law_lines_1) (.ok none) (Rs.bind (Rs.bind (.ok (.int 1)) pNeg) asI)) itemsOf) (fun (law_line_3 : D) => (.ok true)) (fun (law_line_3 : D) => (ifV (c2 pEq (.ok law_line_3) (.ok (.str "-"))) (.ok (.str "")) (.ok law_line_3)))) fun law_found_2 => (ifS (α := Unit) (Rs.orB (c2 pNe (b2 pIx (.ok law_lines_1) (Rs.bind (.ok (.int 1)) pNeg)) (.ok (.str ""))) (Rs.orB (c2 pIn (.ok (.str "")) (slV (.ok law_lines_1) (.ok none) (Rs.bind (Rs.bind (.ok (.int 1)) pNeg) asI))) (c2 pNe (lcV some (Rs.bind (.ok law_found_2) itemsOf) (fun (law_word_here_4 : D) => (Rs.notB (isB (Rs.bind (consM (.ok law_word_here_4) (.ok [])) m_is_word)))) (fun (law_word_here_4 : D) => (.ok law_word_here_4))) (lstV (.ok []))))) (Rs.ret (.ok .none)) (.ok (.nx ())) fun j_5 => (Rs.ret (ifV (c2 pEq (Rs.bind (consM (.ok law_found_2) (.ok [])) m_fewest) (.ok law_found_2)) (.ok law_found_2) (.ok .none))))))
def m_law_due : List D → Rs D
  | [v_law_text] => (b_law_due v_law_text).fin
  | _ => .stuck
theorem ok_law_due {U : Un} {f : Addr} {fd : FuncData} (nb : NoB U) (g : Gs U) (F : Fun U.K "_law_due" "_law_due" (top 31) f fd) (hm : U.mg "_law_due" = some (.ref f)) (c_is_word : Fn U 1 "is_word" 1 m_is_word) (c_fewest : Fn U 4 "fewest" 1 m_fewest) : Fn U 5 "_law_due" 1 m_law_due :=
  fn_def (N := ["_law_text", "_law_lines", "_law_found", "_law_line", "_law_word_here"]) nb F ⟨rfl, rfl, rfl, by decide +kernel, rfl, by decide +kernel, by decide +kernel⟩ hm (F.binds (ps := ["_law_text"]) fun _ _ _ _ _ _ us hl => match us, hl with | [_], _ => rfl) rfl fun X W z ds hl => match ds, hl with
    | [v_law_text], _ => ⟨_, fun _ => [.no, .no, .no, .no, .no], b_law_due v_law_text, rfl, by
      show BS X W [.da v_law_text, .no, .no, .no, .no] (defBody (top 31)) _ _
      unfold b_law_due
      exact (s_set z 1 (y_ms PySem.F.slot_str_split PySem.F.type_str_split m_split (y_var z.y 0 rfl) (ea_cons ev_str ea_nil)) fun law_lines_1 => (s_setLc z 2 [3] [("_law_line", 3)] (fun (law_line_3 : D) => [.da v_law_text, .da law_lines_1, .no, .da law_line_3, .no]) (ei_any (y_slice (y_var z.y 1 rfl) eo_none (eo_some (ev_neg ev_int)))) (fun Y y => (k_one y 3 (by intro _; simp [wipeS]))) (fun Y y law_line_3 => ets_nil) (fun Y y law_line_3 => (y_if (t_cmp (o_eq y.rm) (y_var y 3 rfl) ev_str) ev_str (y_var y 3 rfl))) fun law_found_2 => (s_if (α := Unit) (fun j_5 => [.da v_law_text, .da law_lines_1, .da law_found_2, .no, .no]) (et_bool (ew_or (t_cmp (o_ne z.y.rm) (y_ix z.y (y_var z.y 1 rfl) (ev_neg ev_int)) ev_str) (ew_or (t_cmp (o_in z.y.rm) ev_str (y_slice (y_var z.y 1 rfl) eo_none (eo_some (ev_neg ev_int)))) (ew_or1 (t_cmp (o_ne z.y.rm) (y_lc z.y [4] [("_law_word_here", 4)] (fun (law_word_here_4 : D) => [.da v_law_text, .da law_lines_1, .da law_found_2, .no, .da law_word_here_4]) (ei_any (y_var z.y 2 rfl)) (fun Y y => (k_one y 4 (by intro _; simp [wipeS]))) (fun Y y law_word_here_4 => (ets_one (et_not (t_val (y_call y c_is_word (ea_cons (y_var y 4 rfl) ea_nil)))))) (fun Y y law_word_here_4 => (y_var y 4 rfl))) (y_lst ea_nil)))))) (bs_ret ev_non) (bs_nil (sle_eq (sle_eq (sle_eq (sle_no (sle_no sle_nil)))))) fun j_5 => (bs_ret (y_if (t_cmp (o_eq z.y.rm) (y_call z.y c_fewest (ea_cons (y_var z.y 2 rfl) ea_nil)) (y_var z.y 2 rfl)) (y_var z.y 2 rfl) ev_non)))))⟩
def b_law_c1 (law_lines_7 : D) (law_to_8 : D) (law_letter_14 : D) : Rs D := (b2 pAdd (b2 pIx (.ok law_lines_7) (.ok law_to_8)) (.ok law_letter_14))
def b_law_l2  (a_17 : Unit) (law_some_18 : D) : Rs (Out Unit) := (ifS (α := Unit) (c2 pNe (Rs.bind (consM (.ok law_some_18) (.ok [])) m_law_told) (Rs.bind (consM (.ok law_some_18) (.ok [])) m_law_due)) (Rs.ret (.ok (.bool false))) (.ok (.nx ())) fun j_19 => (.ok (.nx ())))
def b_law_k3 (law_words_here_1 : D) (law_text_2 : D) (a_17 : Unit) : Rs (Out Unit) := (Rs.ret (b2 pEq (Rs.bind (consM (.ok law_text_2) (.ok [])) m_law_due) (Rs.bind (consM (.ok law_words_here_1) (.ok [])) m_fewest)))
def b_law_k4 (law_words_here_1 : D) (law_text_2 : D) (j_12 : (List D)) : Rs (Out Unit) := (forS (α := Unit) some (Rs.bind (.ok (.list j_12)) itemsOf) () (b_law_l2) (b_law_k3 law_words_here_1 law_text_2))
def b_law_k5 (law_words_here_1 : D) (law_text_2 : D) (law_lines_7 : D) (law_to_8 : D) (law_texts_9 : List D) : Rs (Out Unit) := (Rs.bind (b2 pAdd (b2 pAdd (slV (.ok law_lines_7) (.ok none) (Rs.bind (.ok law_to_8) asI)) (Rs.bind (slV (.ok law_lines_7) (Rs.bind (.ok law_to_8) asI) (Rs.bind (b2 pAdd (.ok law_to_8) (.ok (.int 2))) asI)) pRev)) (slV (.ok law_lines_7) (Rs.bind (b2 pAdd (.ok law_to_8) (.ok (.int 2))) asI) (.ok none))) fun law_exchanged_10 => (Rs.bind (msV pJoin (.ok (.str "\n")) (consM (.ok law_exchanged_10) (.ok []))) fun d_11 => capL (List.length law_texts_9) (ifS (α := (List D)) (Rs.andB (c2 pNe (b2 pIx (.ok law_lines_7) (.ok law_to_8)) (.ok (.str ""))) (c2 pLt (cb pLen (consM (b2 pIx (.ok law_lines_7) (.ok law_to_8)) (.ok []))) (.ok (.int 5)))) (Rs.bind (lcV some (Rs.bind (.ok (.str "abcd")) itemsOf) (fun (law_letter_14 : D) => (.ok true)) (fun (law_letter_14 : D) => b_law_c1 law_lines_7 law_to_8 law_letter_14)) fun law_four_13 => (Rs.bind (msV pJoin (.ok (.str "\n")) (consM (b2 pAdd (b2 pAdd (slV (.ok law_lines_7) (.ok none) (Rs.bind (.ok law_to_8) asI)) (.ok law_four_13)) (slV (.ok law_lines_7) (Rs.bind (b2 pAdd (.ok law_to_8) (.ok (.int 1))) asI) (.ok none))) (.ok []))) fun d_15 => capL (List.length (law_texts_9 ++ [d_11])) (Rs.bind (msV pJoin (.ok (.str "\n")) (consM (b2 pAdd (b2 pAdd (slV (.ok law_lines_7) (.ok none) (Rs.bind (.ok law_to_8) asI)) (slV (.ok law_four_13) (.ok none) (Rs.bind (.ok (.int 3)) asI))) (slV (.ok law_lines_7) (Rs.bind (b2 pAdd (.ok law_to_8) (.ok (.int 1))) asI) (.ok none))) (.ok []))) fun d_16 => capL (List.length ((law_texts_9 ++ [d_11]) ++ [d_15])) (.ok (.nx (((law_texts_9 ++ [d_11]) ++ [d_15]) ++ [d_16])))))) (.ok (.nx (law_texts_9 ++ [d_11]))) (b_law_k4 law_words_here_1 law_text_2))))
def b_law_k6 (v_law_script : D) (law_words_here_1 : D) (law_text_2 : D) (law_texts_6 : List D) : Rs (Out Unit) := (Rs.bind (msV pSplit (.ok law_text_2) (consM (.ok (.str "\n")) (.ok []))) fun law_lines_7 => (Rs.bind (Rs.bind (consM (.ok v_law_script) (consM (.ok (.int 82)) (consM (cb pLen (consM (.ok law_lines_7) (.ok []))) (.ok [])))) m_law_drawn) fun law_to_8 => (newCatS (.ok (.list law_texts_6)) (lstV (consM (msV pJoin (.ok (.str "\n")) (consM (b2 pAdd (slV (.ok law_lines_7) (.ok none) (Rs.bind (.ok law_to_8) asI)) (slV (.ok law_lines_7) (Rs.bind (b2 pAdd (.ok law_to_8) (.ok (.int 1))) asI) (.ok none))) (.ok []))) (consM (msV pJoin (.ok (.str "\n")) (consM (b2 pAdd (slV (.ok law_lines_7) (.ok none) (Rs.bind (b2 pAdd (.ok law_to_8) (.ok (.int 1))) asI)) (slV (.ok law_lines_7) (Rs.bind (.ok law_to_8) asI) (.ok none))) (.ok []))) (.ok [])))) (b_law_k5 law_words_here_1 law_text_2 law_lines_7 law_to_8))))
def b_law (v_law_script : D) : Rs (Out Unit) := (Rs.bind (Rs.bind (consM (.ok v_law_script) (consM (.ok (.int 0)) (consM (.ok (.int 6)) (.ok [])))) m_law_words) fun law_words_here_1 => (Rs.bind (Rs.bind (consM (.ok law_words_here_1) (.ok [])) m_words_text) fun law_text_2 => (Rs.bind (Rs.bind (consM (.ok v_law_script) (consM (.ok (.int 80)) (consM (b2 pAdd (cb pLen (consM (.ok law_text_2) (.ok []))) (.ok (.int 1))) (.ok [])))) m_law_drawn) fun law_at_3 => (Rs.bind (b2 pIx (.ok (.str "abd-e \nA")) (Rs.bind (consM (.ok v_law_script) (consM (.ok (.int 81)) (consM (.ok (.int 8)) (.ok [])))) m_law_drawn)) fun law_sign_4 => (Rs.bind (consM (.ok law_text_2) (consM (b2 pAdd (slV (.ok law_text_2) (.ok none) (Rs.bind (.ok law_at_3) asI)) (slV (.ok law_text_2) (Rs.bind (b2 pAdd (.ok law_at_3) (.ok (.int 1))) asI) (.ok none))) (consM (b2 pAdd (slV (.ok law_text_2) (.ok none) (Rs.bind (b2 pAdd (.ok law_at_3) (.ok (.int 1))) asI)) (slV (.ok law_text_2) (Rs.bind (.ok law_at_3) asI) (.ok none))) (consM (b2 pAdd (b2 pAdd (slV (.ok law_text_2) (.ok none) (Rs.bind (.ok law_at_3) asI)) (.ok law_sign_4)) (slV (.ok law_text_2) (Rs.bind (b2 pAdd (.ok law_at_3) (.ok (.int 1))) asI) (.ok none))) (.ok []))))) fun law_texts_5 => (newCatS (.ok (.list law_texts_5)) (lstV (consM (b2 pAdd (b2 pAdd (slV (.ok law_text_2) (.ok none) (Rs.bind (.ok law_at_3) asI)) (.ok law_sign_4)) (slV (.ok law_text_2) (Rs.bind (.ok law_at_3) asI) (.ok none))) (consM (.ok (.str "")) (consM (.ok (.str "\n")) (consM (.ok (.str "-")) (consM (.ok (.str "-\n")) (consM (.ok (.str "a\nb\nc\nd\n")) (consM (.ok (.str "a\n")) (consM (slV (.ok law_text_2) (.ok none) (Rs.bind (Rs.bind (.ok (.int 1)) pNeg) asI)) (consM (b2 pMul (.ok law_text_2) (.ok (.int 2))) (.ok []))))))))))) (b_law_k6 v_law_script law_words_here_1 law_text_2)))))))
def m_law : List D → Rs D
  | [v_law_script] => (b_law v_law_script).fin
  | _ => .stuck
theorem ok_law {U : Un} {f : Addr} {fd : FuncData} (nb : NoB U) (g : Gs U) (F : Fun U.K "law" "law" (top 32) f fd) (c_law_words : Fn U 4 "_law_words" 3 m_law_words) (c_words_text : Fn U 4 "words_text" 1 m_words_text) (c_law_drawn : Fn U 2 "_law_drawn" 3 m_law_drawn) (c_law_told : Fn U 6 "_law_told" 1 m_law_told) (c_law_due : Fn U 5 "_law_due" 1 m_law_due) (c_fewest : Fn U 4 "fewest" 1 m_fewest) : FnOk U.P U.w U.K U.mg U.base (L2N.CX U.P U.w) 7 f fd ["_law_script"] (spP U.mg 1 m_law) :=
  law_def (N := ["_law_script", "_law_words_here", "_law_text", "_law_at", "_law_sign", "_law_texts", "_law_lines", "_law_to", "_law_exchanged", "_law_four", "_law_some", "_law_letter"]) nb F ⟨rfl, rfl, rfl, by decide +kernel, rfl, by decide +kernel, by decide +kernel⟩ rfl fun X W z ds hl => match ds, hl with
    | [v_law_script], _ => ⟨_, fun _ => [.no, .no, .no, .no, .no, .no, .no, .no, .no, .no, .no, .no], b_law v_law_script, rfl, by
      show BS X W [.da v_law_script, .no, .no, .no, .no, .no, .no, .no, .no, .no, .no, .no] (defBody (top 32)) _ _
      unfold b_law
      exact (s_set z 1 (y_call z.y c_law_words (ea_cons (y_var z.y 0 rfl) (ea_cons ev_int (ea_cons ev_int ea_nil)))) fun law_words_here_1 => (s_set z 2 (y_call z.y c_words_text (ea_cons (y_var z.y 1 rfl) ea_nil)) fun law_text_2 => (s_set z 3 (y_call z.y c_law_drawn (ea_cons (y_var z.y 0 rfl) (ea_cons ev_int (ea_cons (y_op o_add (y_cb z.y (b := true) c_len (ea_cons (y_var z.y 2 rfl) ea_nil)) ev_int) ea_nil)))) fun law_at_3 => (s_set z 4 (y_ix z.y ev_str (y_call z.y c_law_drawn (ea_cons (y_var z.y 0 rfl) (ea_cons ev_int (ea_cons ev_int ea_nil))))) fun law_sign_4 => (s_newL z 5 (ea_cons (y_var z.y 2 rfl) (ea_cons (y_op o_add (y_slice (y_var z.y 2 rfl) eo_none (eo_some (y_var z.y 3 rfl))) (y_slice (y_var z.y 2 rfl) (eo_some (y_op o_add (y_var z.y 3 rfl) ev_int)) eo_none)) (ea_cons (y_op o_add (y_slice (y_var z.y 2 rfl) eo_none (eo_some (y_op o_add (y_var z.y 3 rfl) ev_int))) (y_slice (y_var z.y 2 rfl) (eo_some (y_var z.y 3 rfl)) eo_none)) (ea_cons (y_op o_add (y_op o_add (y_slice (y_var z.y 2 rfl) eo_none (eo_some (y_var z.y 3 rfl))) (y_var z.y 4 rfl)) (y_slice (y_var z.y 2 rfl) (eo_some (y_op o_add (y_var z.y 3 rfl) ev_int)) eo_none)) ea_nil)))) fun law_texts_5 => (s_frzL 5 rfl (s_newCat z 5 (y_var z.y 5 rfl) (y_lst (ea_cons (y_op o_add (y_op o_add (y_slice (y_var z.y 2 rfl) eo_none (eo_some (y_var z.y 3 rfl))) (y_var z.y 4 rfl)) (y_slice (y_var z.y 2 rfl) (eo_some (y_var z.y 3 rfl)) eo_none)) (ea_cons ev_str (ea_cons ev_str (ea_cons ev_str (ea_cons ev_str (ea_cons ev_str (ea_cons ev_str (ea_cons (y_slice (y_var z.y 2 rfl) eo_none (eo_some (ev_neg ev_int))) (ea_cons (y_op o_mul (y_var z.y 2 rfl) ev_int) ea_nil)))))))))) fun law_texts_6 => by unfold b_law_k6; exact (s_set z 6 (y_ms PySem.F.slot_str_split PySem.F.type_str_split m_split (y_var z.y 2 rfl) (ea_cons ev_str ea_nil)) fun law_lines_7 => (s_set z 7 (y_call z.y c_law_drawn (ea_cons (y_var z.y 0 rfl) (ea_cons ev_int (ea_cons (y_cb z.y (b := true) c_len (ea_cons (y_var z.y 6 rfl) ea_nil)) ea_nil)))) fun law_to_8 => (s_frzL 5 rfl (s_newCat z 5 (y_var z.y 5 rfl) (y_lst (ea_cons (y_ms PySem.F.slot_str_join PySem.F.type_str_join m_join ev_str (ea_cons (y_op o_add (y_slice (y_var z.y 6 rfl) eo_none (eo_some (y_var z.y 7 rfl))) (y_slice (y_var z.y 6 rfl) (eo_some (y_op o_add (y_var z.y 7 rfl) ev_int)) eo_none)) ea_nil)) (ea_cons (y_ms PySem.F.slot_str_join PySem.F.type_str_join m_join ev_str (ea_cons (y_op o_add (y_slice (y_var z.y 6 rfl) eo_none (eo_some (y_op o_add (y_var z.y 7 rfl) ev_int))) (y_slice (y_var z.y 6 rfl) (eo_some (y_var z.y 7 rfl)) eo_none)) ea_nil)) ea_nil))) fun law_texts_9 => by unfold b_law_k5; exact (s_set z 8 (y_op o_add (y_op o_add (y_slice (y_var z.y 6 rfl) eo_none (eo_some (y_var z.y 7 rfl))) (ev_rev (y_slice (y_var z.y 6 rfl) (eo_some (y_var z.y 7 rfl)) (eo_some (y_op o_add (y_var z.y 7 rfl) ev_int))))) (y_slice (y_var z.y 6 rfl) (eo_some (y_op o_add (y_var z.y 7 rfl) ev_int)) eo_none)) fun law_exchanged_10 => (s_app z 5 rfl (y_ms PySem.F.slot_str_join PySem.F.type_str_join m_join ev_str (ea_cons (y_var z.y 8 rfl) ea_nil)) fun d_11 => (s_if (α := (List D)) (fun j_12 => [.da v_law_script, .da law_words_here_1, .da law_text_2, .da law_at_3, .da law_sign_4, .ol j_12, .da law_lines_7, .da law_to_8, .da law_exchanged_10, .no, .no, .no]) (et_bool (ew_and (t_cmp (o_ne z.y.rm) (y_ix z.y (y_var z.y 6 rfl) (y_var z.y 7 rfl)) ev_str) (ew_and1 (t_cmp o_lt (y_cb z.y (b := true) c_len (ea_cons (y_ix z.y (y_var z.y 6 rfl) (y_var z.y 7 rfl)) ea_nil)) ev_int)))) (s_setLc z 9 [11] [("_law_letter", 11)] (fun (law_letter_14 : D) => [.da v_law_script, .da law_words_here_1, .da law_text_2, .da law_at_3, .da law_sign_4, .ol (law_texts_9 ++ [d_11]), .da law_lines_7, .da law_to_8, .da law_exchanged_10, .no, .no, .da law_letter_14]) (ei_any ev_str) (fun Y y => (k_one y 11 (by intro _; simp [wipeS]))) (fun Y y law_letter_14 => ets_nil) (fun Y y law_letter_14 => (by unfold b_law_c1; exact (y_op o_add (y_ix y (y_var y 6 rfl) (y_var y 7 rfl)) (y_var y 11 rfl)))) fun law_four_13 => (s_app z 5 rfl (y_ms PySem.F.slot_str_join PySem.F.type_str_join m_join ev_str (ea_cons (y_op o_add (y_op o_add (y_slice (y_var z.y 6 rfl) eo_none (eo_some (y_var z.y 7 rfl))) (y_var z.y 9 rfl)) (y_slice (y_var z.y 6 rfl) (eo_some (y_op o_add (y_var z.y 7 rfl) ev_int)) eo_none)) ea_nil)) fun d_15 => (s_app z 5 rfl (y_ms PySem.F.slot_str_join PySem.F.type_str_join m_join ev_str (ea_cons (y_op o_add (y_op o_add (y_slice (y_var z.y 6 rfl) eo_none (eo_some (y_var z.y 7 rfl))) (y_slice (y_var z.y 9 rfl) eo_none (eo_some ev_int))) (y_slice (y_var z.y 6 rfl) (eo_some (y_op o_add (y_var z.y 7 rfl) ev_int)) eo_none)) ea_nil)) fun d_16 => (bs_nil (sle_eq (sle_eq (sle_eq (sle_eq (sle_eq (sle_eq (sle_eq (sle_eq (sle_eq (sle_no (sle_no (sle_no sle_nil)))))))))))))))) (bs_nil (sle_eq (sle_eq (sle_eq (sle_eq (sle_eq (sle_eq (sle_eq (sle_eq (sle_eq (sle_no (sle_no (sle_no sle_nil))))))))))))) fun j_12 => by unfold b_law_k4; exact (s_frzL 5 rfl (s_for (α := Unit) z (fun a_17 => [.da v_law_script, .da law_words_here_1, .da law_text_2, .da law_at_3, .da law_sign_4, .da (.list j_12), .da law_lines_7, .da law_to_8, .da law_exchanged_10, .no, .no, .no]) (ei_any (y_var z.y 5 rfl)) (k_one z.y 10 (by intro _; simp)) (fun a_17 law_some_18 => by unfold b_law_l2; exact (s_if (α := Unit) (fun j_19 => [.da v_law_script, .da law_words_here_1, .da law_text_2, .da law_at_3, .da law_sign_4, .da (.list j_12), .da law_lines_7, .da law_to_8, .da law_exchanged_10, .no, .da law_some_18, .no]) (t_cmp (o_ne z.y.rm) (y_call z.y c_law_told (ea_cons (y_var z.y 10 rfl) ea_nil)) (y_call z.y c_law_due (ea_cons (y_var z.y 10 rfl) ea_nil))) (bs_ret ev_bl) (bs_nil (sle_eq (sle_eq (sle_eq (sle_eq (sle_eq (sle_eq (sle_eq (sle_eq (sle_eq (sle_no (sle_eq (sle_no sle_nil))))))))))))) fun j_19 => (bs_nil (sle_eq (sle_eq (sle_eq (sle_eq (sle_eq (sle_eq (sle_eq (sle_eq (sle_eq (sle_no (sle_no (sle_no sle_nil))))))))))))))) (sle_eq (sle_eq (sle_eq (sle_eq (sle_eq (sle_eq (sle_eq (sle_eq (sle_eq (sle_no (sle_no (sle_no sle_nil)))))))))))) fun a_17 => by unfold b_law_k3; exact (bs_ret (y_cmp (o_eq z.y.rm) (y_call z.y c_law_due (ea_cons (y_var z.y 2 rfl) ea_nil)) (y_call z.y c_fewest (ea_cons (y_var z.y 1 rfl) ea_nil))))))))))))))))))))⟩
end Pu

namespace Pu
open PySem PySem.Spec
open PyProof.Rows L2
/-! Plain law, part b: what is drawn from a script; words and points. -/

theorem canLay_ints : ∀ ns : List Int, PyData.canLayAll0 (ns.map .int) = true
  | [] => rfl
  | n :: ns => by rw [List.map_cons, PyData.canLayAll0, canLay_ints ns]; rfl
theorem depth_ints : ∀ ns : List Int, PyData.depthAll (ns.map .int) = 0
  | [] => rfl
  | n :: ns => by rw [List.map_cons, PyData.depthAll, depth_ints ns]; rfl
theorem shaped_ints (ns : List Int) : SeqAt.shaped (.list (ns.map .int)) = true := by
  unfold SeqAt.shaped
  rw [PyData.canLay0, PyData.depth, canLay_ints, depth_ints]; rfl
abbrev dS (ns : List Int) : D := .list (ns.map .int)
def cellZ (ns : List Int) (k : Nat) : Int := if ns = [] then 7 * k else ns.getD (k % ns.length) 0 + 6553 * ((k / ns.length : Nat) : Int)
theorem atI_nat {α : Type} (l : List α) (i : Nat) (h : i < l.length) : atI l (i : Int) = l[i]? := by
  unfold atI ixN
  rw [if_pos (by omega)]
  rw [if_pos (by omega)]
  simp
theorem pIx_l (l : List D) (i : Nat) (h : i < l.length) : pIx (.list l) (.int (i : Int)) = .ok l[i] := by
  show ixL l i = _
  unfold ixL
  rw [atI_nat l i h, List.getElem?_eq_getElem h]
theorem pIx_t (l : List D) (i : Nat) (h : i < l.length) : pIx (.tuple l) (.int (i : Int)) = .ok l[i] := by
  show ixL l i = _
  unfold ixL
  rw [atI_nat l i h, List.getElem?_eq_getElem h]
theorem e_cell (ns : List Int) (k : Nat) (hl : ns.length ≤ 63) : m_law_cell [dS ns, .int k] = .ok (.int (cellZ ns k)) := by
  show (b_law_cell (dS ns) (.int k)).fin = _
  unfold b_law_cell
  rw [lstV_ok, c2_ok, pEq_of (by rw [shaped_ints]; rfl)]
  cases ns with
  | nil =>
    show (ifS (.ok true) (Rs.ret (b2 pMul (.ok (.int 7)) (.ok (.int k)))) _ _).fin = _
    rw [ifS_t, b2_ok, pMul_l (by decide) (by decide)]
    rfl
  | cons n r =>
    show (ifS (.ok false) _ _ _).fin = _
    rw [ifS_f, Rs.seq_nx, consM_ok, cb_ok, pLen_l, Rs.nox_ok, b2_ok, pMod_i (by simp <;> omega), Rs.nox_ok, b2_ok, b2_ok, pDiv_i (by simp <;> omega) (by simp at hl ⊢ <;> omega), Rs.nox_ok, b2_ok, pMul_l (by decide) (by decide), Rs.nox_ok]
    have e : ((k : Int) % ((List.map PyData.int (n :: r)).length : Nat)) = ((k % (n :: r).length : Nat) : Int) := by rw [List.length_map]; omega
    have hlt : k % (n :: r).length < (List.map PyData.int (n :: r)).length := by rw [List.length_map]; exact Nat.mod_lt _ (by simp)
    have e2 : ((k : Int) / ((List.map PyData.int (n :: r)).length : Nat)) = ((k / (n :: r).length : Nat) : Int) := by rw [List.length_map]; omega
    rw [e, pIx_l _ _ hlt, List.getElem_map, Rs.nox_ok, b2_ok, pAdd_i, e2]
    unfold cellZ
    rw [if_neg (by simp), List.getD_eq_getElem?_getD, List.getElem?_eq_getElem (by rw [List.length_map] at hlt; exact hlt)]
    rfl
def drawnZ (ns : List Int) (k many : Nat) : Int :=
  let a := (cellZ ns k % 2147483563 * 69069 + 104723 * ((k : Int) + 1)) % 2147483563
  let b := (a * a + a / 3) % 2147483399
  (b * b + b / 7) % 2147483647 / 11 % many
theorem e_drawnZ (ns : List Int) (k many : Nat) (hl : ns.length ≤ 63) (hm : 0 < many) : m_law_drawn [dS ns, .int k, .int many] = .ok (.int (drawnZ ns k many)) := by
  show (b_law_drawn (dS ns) (.int k) (.int many)).fin = _
  unfold b_law_drawn
  rw [consM_ok, consM_ok, Rs.bind_ok, e_cell ns k hl, b2_ok, pMod_i (by decide), Rs.nox_ok, b2_ok, pMul_r (by decide) (by decide), Rs.nox_ok, b2_ok, pAdd_i, Rs.nox_ok, b2_ok, pMul_l (by decide) (by decide), Rs.nox_ok, b2_ok, pAdd_i, Rs.nox_ok, b2_ok, pMod_i (by decide), Rs.nox_ok, Rs.bind_ok]
  generalize ha : (cellZ ns k % 2147483563 * 69069 + 104723 * ((k : Int) + 1)) % 2147483563 = a
  have a0 : 0 ≤ a := by rw [← ha]; exact Int.emod_nonneg _ (by decide)
  have a1 : a < 2147483563 := by rw [← ha]; exact Int.emod_lt_of_pos _ (by decide)
  rw [b2_ok, pMul_r (by omega) (by omega), Rs.nox_ok, b2_ok, pDiv_i (by decide) (by decide), Rs.nox_ok, b2_ok, pAdd_i, Rs.nox_ok, b2_ok, pMod_i (by decide), Rs.nox_ok, Rs.bind_ok]
  generalize hb : (a * a + a / 3) % 2147483399 = b
  have b0 : 0 ≤ b := by rw [← hb]; exact Int.emod_nonneg _ (by decide)
  have b1 : b < 2147483399 := by rw [← hb]; exact Int.emod_lt_of_pos _ (by decide)
  rw [b2_ok, pMul_r (by omega) (by omega), Rs.nox_ok, b2_ok, pDiv_i (by decide) (by decide), Rs.nox_ok, b2_ok, pAdd_i, Rs.nox_ok, b2_ok, pMod_i (by decide), Rs.nox_ok, b2_ok, pDiv_i (by decide) (by decide), Rs.nox_ok, b2_ok, pMod_i (by omega), Rs.nox_ok, ret_ok, Rs.fin_ret]
  unfold drawnZ
  rw [ha]
  dsimp only
  rw [hb]
def drawnN (ns : List Int) (k many : Nat) : Nat := (drawnZ ns k many).toNat
theorem drawnN_lt (ns : List Int) (k : Nat) {many : Nat} (hm : 0 < many) : drawnN ns k many < many := by
  unfold drawnN
  have h0 : 0 ≤ drawnZ ns k many := by unfold drawnZ; exact Int.emod_nonneg _ (by omega)
  have h1 : drawnZ ns k many < many := by unfold drawnZ; exact Int.emod_lt_of_pos _ (by omega)
  omega
theorem e_drawn (ns : List Int) (k many : Nat) (hl : ns.length ≤ 63) (hm : 0 < many) : m_law_drawn [dS ns, .int k, .int many] = .ok (.int (drawnN ns k many : Nat)) := by
  rw [e_drawnZ ns k many hl hm]
  have h0 : 0 ≤ drawnZ ns k many := by unfold drawnZ; exact Int.emod_nonneg _ (by omega)
  unfold drawnN
  rw [Int.toNat_of_nonneg h0]
theorem e_drawn_z (ns : List Int) (z m : Int) (k many : Nat) (hz : z = k) (hmz : m = many) (hl : ns.length ≤ 63) (hm : 0 < many) : Rs.bind (.ok [dS ns, .int z, .int m]) m_law_drawn = .ok (.int (drawnN ns k many : Nat)) := by
  subst hz hmz
  exact e_drawn ns k many hl hm
/-! ### words, points -/
abbrev Wd := List (Fin 4)
def ltr (i : Fin 4) : Nat := 97 + i.val
def wL (w : Wd) : List Nat := w.map ltr
abbrev dW (w : Wd) : D := .str (sL (wL w))
abbrev dP (x y : Nat) : D := .tuple [.int x, .int y]
@[simp] theorem wL_length (w : Wd) : (wL w).length = w.length := List.length_map ..
theorem wL_inj {a b : Wd} : wL a = wL b ↔ a = b := by
  constructor
  · intro h
    exact (List.map_inj_right (f := ltr) (fun x y e => by
      unfold ltr at e
      exact Fin.ext (by omega))).mp h
  · intro h; rw [h]
theorem atI_abcd (i : Nat) (h : i < 4) : atI [97, 98, 99, 100] (i : Int) = some (97 + i) := by
  rw [atI_nat _ _ (by simpa using h)]
  match i, h with
  | 0, _ => rfl
  | 1, _ => rfl
  | 2, _ => rfl
  | 3, _ => rfl
theorem pIx_abcd (i : Nat) (h : i < 4) : pIx (.str "abcd") (.int (i : Int)) = .ok (.str (sL [97 + i])) := by
  rw [abcd_eq]
  exact pIx_s (by decide) (atI_abcd i h)
/-- the word that is drawn -/
def wordZ (ns : List Int) (at_ : Nat) : Wd := (List.range (drawnN ns at_ 6)).map fun k => ⟨drawnN ns (at_ + 1 + k) 4, drawnN_lt ns _ (by decide)⟩
theorem wordZ_le (ns : List Int) (at_ : Nat) : (wordZ ns at_).length ≤ 5 := by
  unfold wordZ
  rw [List.length_map]
  rw [List.length_range]
  have := drawnN_lt ns at_ (many := 6) (by decide)
  omega
theorem strsOf_map (l : List Str) : strsOf (l.map .str) = some l := by
  induction l with
  | nil => rfl
  | cons a l ih => rw [List.map_cons, strsOf, ih]; rfl
theorem foldl_glue (l : List (List Nat)) : ∀ acc : List Nat, (l.map sL).foldl (fun a p => a ++ (#[] : Array Nat) ++ p.cps) acc.toArray = (acc ++ l.flatten).toArray := by
  induction l with
  | nil => intro acc; simp
  | cons a l ih =>
    intro acc
    rw [List.map_cons, List.foldl_cons]
    have e : acc.toArray ++ (#[] : Array Nat) ++ (sL a).cps = (acc ++ a).toArray := by
      show acc.toArray ++ (#[] : Array Nat) ++ a.toArray = _
      simp
    rw [e, ih, List.flatten_cons, List.append_assoc]
theorem join_empty (l : List (List Nat)) : Txt.join "" (l.map sL) = sL l.flatten := by
  show Builtin.Str.glued "" (l.map sL) = _
  unfold Builtin.Str.glued
  cases l with
  | nil => rfl
  | cons a l =>
    have h := foldl_glue l a
    rw [List.map_cons, List.drop_succ_cons, List.drop_zero, List.headD_cons, List.flatten_cons]
    exact congrArg Str.mk h
theorem pJoin_e {l : List (List Nat)} (h : (l.map List.length).sum ≤ 16777216) : pJoin "" [.list (l.map fun a => .str (sL a))] = .ok (.str (sL l.flatten)) := by
  have e : (l.map fun a => (PyData.str (sL a) : D)) = (l.map sL).map .str := by rw [List.map_map]; rfl
  show (match strsOf (l.map fun a => (PyData.str (sL a) : D)) with | some ys => if joinOk "" ys = true then Rs.ok (PyData.str (Txt.join "" ys)) else Rs.stuck | none => Rs.stuck) = _
  rw [e, strsOf_map]
  dsimp only
  rw [if_pos, join_empty]
  unfold joinOk
  rw [decide_eq_true_eq, List.map_map]
  have e2 : (List.map ((fun x => Str.length x) ∘ sL) l) = l.map List.length := List.map_congr_left fun a _ => sL_length a
  rw [e2, show ("" : Str).length = 0 from rfl]
  omega
theorem e_word (ns : List Int) (at_ : Nat) (hl : ns.length ≤ 63) : m_law_word [dS ns, .int at_] = .ok (dW (wordZ ns at_)) := by
  show (b_law_word (dS ns) (.int at_)).fin = _
  unfold b_law_word
  rw [consM_ok, consM_ok, consM_ok, Rs.bind_ok]
  rw [show (PyData.int 6 : D) = .int ((6 : Nat) : Int) from rfl, e_drawn ns at_ 6 hl (by decide), consM_ok, Rs.bind_ok]
  rw [pRange1 (by have := drawnN_lt ns at_ (many := 6) (by decide); omega), lcV_ok,
    lcM_mapL (g := fun k => .str (sL [97 + drawnN ns (at_ + 1 + k) 4])) (fun k _ => ⟨.int (k : Int), rfl, rfl, ?_⟩), Rs.bind_ok, consM_ok, msV_ok]
  · have e : ((List.range (drawnN ns at_ 6)).map fun k => (PyData.str (sL [97 + drawnN ns (at_ + 1 + k) 4]) : D)) = ((List.range (drawnN ns at_ 6)).map fun k => [97 + drawnN ns (at_ + 1 + k) 4]).map fun a => .str (sL a) := by rw [List.map_map]; rfl
    have hf : ((List.range (drawnN ns at_ 6)).map fun k => [97 + drawnN ns (at_ + 1 + k) 4]).flatten = wL (wordZ ns at_) := by
      unfold wL wordZ
      rw [List.map_map]
      generalize List.range (drawnN ns at_ 6) = r
      induction r with
      | nil => rfl
      | cons x r ih => rw [List.map_cons, List.flatten_cons, ih, List.map_cons]; rfl
    rw [e, pJoin_e, Rs.nox_ok, ret_ok, Rs.fin_ret, hf]
    rw [List.map_map]
    have h6 := drawnN_lt ns at_ (many := 6) (by decide)
    have : ∀ r : List Nat, (r.map (List.length ∘ fun k => [97 + drawnN ns (at_ + 1 + k) 4])).sum = r.length := fun r => by
      induction r with
      | nil => rfl
      | cons x r ih => rw [List.map_cons, List.sum_cons, ih, List.length_cons]; simp; omega
    rw [this, List.length_range]; omega
  · rw [b2_ok, pAdd_i, Rs.nox_ok, b2_ok, pAdd_i, Rs.nox_ok, consM_ok, consM_ok, consM_ok, Rs.bind_ok]
    rw [show ((at_ : Int) + 1 + (k : Int)) = ((at_ + 1 + k : Nat) : Int) by omega, show (PyData.int 4 : D) = .int ((4 : Nat) : Int) from rfl, e_drawn ns _ 4 hl (by decide), b2_ok, pIx_abcd _ (drawnN_lt ns _ (by decide))]
    rfl
/-- the point that is drawn -/
def coordZ (ns : List Int) (a b c : Nat) : Nat := [0, 31, 15, 16, 7, 8, drawnN ns a 32, drawnN ns b 32].getD (drawnN ns c 8) 0
theorem coordZ_lt (ns : List Int) (a b c : Nat) : coordZ ns a b c < 32 := by
  unfold coordZ
  have h1 := drawnN_lt ns a (many := 32) (by decide)
  have h2 := drawnN_lt ns b (many := 32) (by decide)
  have h3 := drawnN_lt ns c (many := 8) (by decide)
  generalize drawnN ns c 8 = i at h3
  match i, h3 with
  | 0, _ => exact (by decide : 0 < 32)
  | 1, _ => exact (by decide : 31 < 32)
  | 2, _ => exact (by decide : 15 < 32)
  | 3, _ => exact (by decide : 16 < 32)
  | 4, _ => exact (by decide : 7 < 32)
  | 5, _ => exact (by decide : 8 < 32)
  | 6, _ => exact h1
  | 7, _ => exact h2
theorem coord_ix (ns : List Int) (a b c : Nat) : pIx (.list [.int 0, .int 31, .int 15, .int 16, .int 7, .int 8, .int (drawnN ns a 32 : Nat), .int (drawnN ns b 32 : Nat)]) (.int (drawnN ns c 8 : Nat)) = .ok (.int (coordZ ns a b c : Nat)) := by
  have h3 := drawnN_lt ns c (many := 8) (by decide)
  rw [pIx_l _ _ (by simpa using h3)]
  unfold coordZ
  generalize drawnN ns c 8 = i at h3
  match i, h3 with
  | 0, _ => rfl
  | 1, _ => rfl
  | 2, _ => rfl
  | 3, _ => rfl
  | 4, _ => rfl
  | 5, _ => rfl
  | 6, _ => rfl
  | 7, _ => rfl
def pxZ (ns : List Int) (at_ : Nat) : Nat := coordZ ns (at_ + 2) (at_ + 3) at_
def pyZ (ns : List Int) (at_ : Nat) : Nat := coordZ ns (at_ + 4) (at_ + 5) (at_ + 1)
theorem pxZ_lt (ns : List Int) (at_ : Nat) : pxZ ns at_ < 32 := coordZ_lt ..
theorem pyZ_lt (ns : List Int) (at_ : Nat) : pyZ ns at_ < 32 := coordZ_lt ..
theorem e_point (ns : List Int) (at_ : Nat) (hl : ns.length ≤ 63) : m_law_point [dS ns, .int at_] = .ok (dP (pxZ ns at_) (pyZ ns at_)) := by
  show (b_law_point (dS ns) (.int at_)).fin = _
  unfold b_law_point
  simp only [consM_ok, b2_ok, pAdd_i, Rs.nox_ok, lstV_ok]
  rw [e_drawn_z ns ((at_ : Int) + 2) 32 (at_ + 2) 32 (by omega) rfl hl (by decide), e_drawn_z ns ((at_ : Int) + 3) 32 (at_ + 3) 32 (by omega) rfl hl (by decide), e_drawn_z ns ((at_ : Int) + 4) 32 (at_ + 4) 32 (by omega) rfl hl (by decide),
    e_drawn_z ns ((at_ : Int) + 5) 32 (at_ + 5) 32 (by omega) rfl hl (by decide), e_drawn_z ns at_ 8 at_ 8 rfl rfl hl (by decide), e_drawn_z ns ((at_ : Int) + 1) 8 (at_ + 1) 8 (by omega) rfl hl (by decide)]
  simp only [consM_ok, lstV_ok, Rs.bind_ok, b2_ok]
  rw [coord_ix, coord_ix]
  rfl
/-! ### the word of a point -/
def dig (x y s : Nat) : Fin 4 := ⟨x / s % 2 + 2 * (y / s % 2), by omega⟩
def wordOf (x y n : Nat) : Wd := (List.range n).map fun i => dig x y (16 / 2 ^ i)
@[simp] theorem wordOf_length (x y n : Nat) : (wordOf x y n).length = n := by unfold wordOf; rw [List.length_map, List.length_range]
theorem wordOf_take (x y n k : Nat) : (wordOf x y n).take k = wordOf x y (min k n) := by
  unfold wordOf
  rw [← List.map_take, List.take_range]
theorem wordOf_succ (x y n : Nat) : wordOf x y (n + 1) = wordOf x y n ++ [dig x y (16 / 2 ^ n)] := by
  unfold wordOf
  rw [List.range_succ, List.map_append]; rfl
theorem wL_app (a b : Wd) : wL (a ++ b) = wL a ++ wL b := List.map_append ..
theorem side_step (n : Nat) (h : n < 5) : (32 : Nat) / 2 ^ n / 2 = 16 / 2 ^ n ∧ (32 : Nat) / 2 ^ (n + 1) = 16 / 2 ^ n ∧ 0 < 16 / 2 ^ n ∧ 16 / 2 ^ n < 17 := by
  match n, h with
  | 0, _ => decide
  | 1, _ => decide
  | 2, _ => decide
  | 3, _ => decide
  | 4, _ => decide
theorem dig_ix (x y s : Nat) (hs : 0 < s) (hs2 : s < 1000) : b2 pIx (.ok (.str "abcd")) (b2 pAdd (b2 pMod (b2 pDiv (.ok (.int x)) (.ok (.int s))) (.ok (.int 2))) (b2 pMul (.ok (.int 2)) (b2 pMod (b2 pDiv (.ok (.int y)) (.ok (.int s))) (.ok (.int 2))))) = .ok (.str (sL [ltr (dig x y s)])) := by
  rw [b2_ok, pDiv_i (by omega) (by omega), Rs.nox_ok, b2_ok, pMod_i (by decide), Rs.nox_ok, b2_ok, pDiv_i (by omega) (by omega), Rs.nox_ok, b2_ok, pMod_i (by decide), Rs.nox_ok, b2_ok, pMul_l (by decide) (by decide), Rs.nox_ok, b2_ok, pAdd_i, Rs.nox_ok, b2_ok]
  rw [show ((x : Int) / (s : Int) % 2 + 2 * ((y : Int) / (s : Int) % 2)) = ((x / s % 2 + 2 * (y / s % 2) : Nat) : Int) by simp, pIx_abcd _ (by omega)]
  rfl
/-! Plain law, part c: cells; what is a word, a point. -/

theorem forM_enc {ι α σ : Type} {b : α → D → Rs (Out α)} {hh : ι → D} (enc : σ → α) {step : σ → ι → σ} (h : ∀ s i, b (enc s) (hh i) = .ok (.nx (enc (step s i)))) : ∀ (l : List ι) (s : σ), forM b (l.map hh) (enc s) = .ok (.nx (enc (l.foldl step s)))
  | [], _ => rfl
  | i :: l, s => by rw [List.map_cons, forM_cons, h, Rs.seq_nx, forM_enc enc h l, List.foldl_cons]
theorem dig_ix2 (x y s : Nat) (hs : 0 < s) (hs2 : s < 1000) : b2 pIx (.ok (.str "abcd")) (b2 pAdd (b2 pMod (b2 pDiv (.ok (.int x)) (.ok (.int s))) (.ok (.int 2))) (b2 pMul (b2 pMod (b2 pDiv (.ok (.int y)) (.ok (.int s))) (.ok (.int 2))) (.ok (.int 2)))) = .ok (.str (sL [ltr (dig x y s)])) := by
  rw [b2_ok, pDiv_i (by omega) (by omega), Rs.nox_ok, b2_ok, pMod_i (by decide), Rs.nox_ok, b2_ok, pDiv_i (by omega) (by omega), Rs.nox_ok, b2_ok, pMod_i (by decide), Rs.nox_ok, b2_ok, pMul_r (by decide) (by decide), Rs.nox_ok, b2_ok, pAdd_i, Rs.nox_ok, b2_ok]
  rw [show ((x : Int) / (s : Int) % 2 + (y : Int) / (s : Int) % 2 * 2) = ((x / s % 2 + 2 * (y / s % 2) : Nat) : Int) by simp; omega, pIx_abcd _ (by omega)]
  rfl
theorem e_letters (x y : Nat) : m_law_letters [dP x y] = .ok (dW (wordOf x y 5)) := by
  show (b_law_letters (dP x y)).fin = _
  unfold b_law_letters
  have p0 : b2 pIx (.ok (dP x y)) (.ok (.int 0)) = .ok (.int x) := rfl
  have p1 : b2 pIx (.ok (dP x y)) (.ok (.int 1)) = .ok (.int y) := rfl
  have st : ∀ (z : Int) (s : Nat) (l : List Nat), z = s → 0 < s → s < 1000 → l.length ≤ 10 → b_law_letters_l1 (dP x y) (.str (sL l)) (.int z) = .ok (.nx (.str (sL (l ++ [ltr (dig x y s)])))) := by
    intro z s l hz h1 h2 h3
    subst hz
    unfold b_law_letters_l1
    rw [p0, p1, dig_ix2 x y s h1 h2, b2_ok, pAdd_s (by simp; omega)]
    rfl
  rw [Rs.bind_ok, consM_ok, consM_ok, consM_ok, consM_ok, consM_ok, tupV_ok, Rs.bind_ok, itemsOf_t, forS_ok]
  rw [empty_eq]
  rw [forM_cons, took_some, st 16 16 [] rfl (by decide) (by decide) (by decide), Rs.seq_nx, forM_cons, took_some, st 8 8 _ rfl (by decide) (by decide) (by simp), Rs.seq_nx, forM_cons, took_some, st 4 4 _ rfl (by decide) (by decide) (by simp), Rs.seq_nx,
    forM_cons, took_some, st 2 2 _ rfl (by decide) (by decide) (by simp), Rs.seq_nx, forM_cons, took_some, st 1 1 _ rfl (by decide) (by decide) (by simp), Rs.seq_nx, forM_nil, Rs.seq_nx]
  rfl
def corStep (t : Nat × Nat × Nat) (i : Fin 4) : Nat × Nat × Nat := (t.1 + t.2.2 / 2 * (i.val % 2), t.2.1 + t.2.2 / 2 * (i.val / 2), t.2.2 / 2)
def cor (w : Wd) : Nat × Nat × Nat := w.foldl corStep (0, 0, 32)
def encC (t : Nat × Nat × Nat) : D × D × D := (.int t.1, .int t.2.1, .int t.2.2)
abbrev dC (t : Nat × Nat × Nat) : D := .tuple [.int t.1, .int t.2.1, .int t.2.2]
def dL (i : Fin 4) : D := .str (sL [ltr i])
theorem itemsOf_w (w : Wd) (h : w.length ≤ 100) : itemsOf (dW w) = .ok (w.map dL) := by
  rw [itemsOf_s (by simp; omega)]
  unfold wL
  rw [List.map_map]; rfl
theorem idx_tab : ∀ i : Fin 4, Txt.index0 "abcd" (sL [ltr i]) = some i.val := by decide +kernel
theorem sindex (i : Fin 4) : pSindex "abcd" [dL i] = .ok (.int i.val) := by
  unfold pSindex dL
  dsimp only
  rw [idx_tab]
theorem e_law_corner (w : Wd) (h : w.length ≤ 100) : m_law_corner [dW w] = .ok (dC (cor w)) := by
  show (b_law_corner (dW w)).fin = _
  unfold b_law_corner
  rw [Rs.bind_ok, Rs.bind_ok, Rs.bind_ok, Rs.bind_ok, itemsOf_w w h, forS_ok]
  have bd : ∀ i : Fin 4, c2 pIn (.ok (dL i)) (.ok (.str "bd")) = .ok (decide (i.val % 2 = 1)) := fun i => by match i with | 0 => rfl | 1 => rfl | 2 => rfl | 3 => rfl
  have cd : ∀ i : Fin 4, c2 pIn (.ok (dL i)) (.ok (.str "cd")) = .ok (decide (i.val / 2 = 1)) := fun i => by match i with | 0 => rfl | 1 => rfl | 2 => rfl | 3 => rfl
  have sel : ∀ (c : Bool) (s : Nat), ifV (.ok c) (.ok (.int (s : Int))) (.ok (.int 0)) = .ok (.int ((s * (if c = true then 1 else 0) : Nat) : Int)) := fun c s => by cases c <;> simp
  have := forM_enc (hh := dL) (b := fun (a : D × D × D) d => took (some d) fun l5 => (Rs.bind (b2 pDiv (.ok a.2.2) (.ok (.int 2))) fun s6 => (Rs.bind (b2 pAdd (.ok a.1) (ifV (c2 pIn (.ok l5) (.ok (.str "bd"))) (.ok s6) (.ok (.int 0)))) fun r7 => (Rs.bind (b2 pAdd (.ok a.2.1) (ifV (c2 pIn (.ok l5) (.ok (.str "cd"))) (.ok s6) (.ok (.int 0)))) fun u8 => (.ok (.nx (r7, u8, s6)) : Rs (Out (D × D × D)))))))
    encC (step := corStep) (fun t i => by
      rw [took_some, bd, cd]
      show (b2 pDiv (.ok (.int t.2.2)) (.ok (.int 2))).bind _ = _
      rw [b2_ok, pDiv_i (by decide) (by decide), Rs.nox_ok, Rs.bind_ok, show ((t.2.2 : Int) / 2) = ((t.2.2 / 2 : Nat) : Int) by simp, sel, sel]
      show (b2 pAdd (.ok (.int t.1)) _).bind _ = _
      rw [b2_ok, pAdd_i, Rs.nox_ok, Rs.bind_ok]
      show (b2 pAdd (.ok (.int t.2.1)) _).bind _ = _
      rw [b2_ok, pAdd_i, Rs.nox_ok, Rs.bind_ok]
      unfold corStep encC
      have e1 : (if decide (i.val % 2 = 1) = true then 1 else 0) = i.val % 2 := by by_cases h1 : i.val % 2 = 1 <;> simp [h1] <;> omega
      have e2 : (if decide (i.val / 2 = 1) = true then 1 else 0) = i.val / 2 := by by_cases h1 : i.val / 2 = 1 <;> simp [h1] <;> omega
      rw [e1, e2]
      simp) w (0, 0, 32)
  exact (congrArg (fun m : Rs (Out (D × D × D)) => (m.seq fun a => (Rs.ret (tupV (consM (.ok a.1) (consM (.ok a.2.1) (consM (.ok a.2.2) (.ok []))))) : Rs (Out Unit))).fin) this).trans rfl

/-! Plain law, part d: what is a word, a point, a length; refusals. -/

def isWL (l : List Nat) : Bool := decide (l.length ≤ 5) && l.all fun c => decide (c ∈ [97, 98, 99, 100])
/-- a whole number between two -/
def inR (lo hi : Int) : D → Bool
  | .int i => decide (lo ≤ i) && decide (i ≤ hi)
  | _ => false
abbrev isC : D → Bool := inR 0 31
def isW : D → Bool
  | .str s => isWL s.cps.toList
  | _ => false
def isP : D → Bool
  | .tuple [a, b] => isC a && isC b
  | _ => false
/-- a thing that may be asked about -/
def okT : D → Bool
  | .str s => decide (s.cps.toList.length ≤ 1000) && s.cps.toList.all fun c => decide (c < 1114112)
  | .tuple l => l.all fun d => (tyD d).isSome
  | .dict _ => false
  | _ => true
theorem okT_ty {d : D} (h : okT d = true) : (tyD d).isSome = true := by
  cases d <;> first | rfl | cases h
theorem isi_ok {T : Ty} {d : D} (h : (tyD d).isSome = true) : isiV T (.ok d) = .ok (.bool (isTy d T)) := by
  show (pIsi T d).nox = _
  unfold pIsi
  rw [if_pos h]; rfl
/-- all, of truths that are told -/
theorem boolsOf_map {ι : Type} (f : ι → Bool) : ∀ l : List ι, boolsOf (l.map fun a => .bool (f a)) = some (l.map f)
  | [] => rfl
  | a :: l => by rw [List.map_cons, boolsOf, boolsOf_map f l]; rfl
theorem pAll_map {ι : Type} (f : ι → Bool) (l : List ι) : pAll [.list (l.map fun a => .bool (f a))] = .ok (.bool (l.all f)) := by
  show (match boolsOf (l.map fun a => (PyData.bool (f a) : D)) with | some bs => Rs.ok (PyData.bool (bs.all id)) | none => Rs.stuck) = _
  rw [boolsOf_map]
  dsimp only
  rw [List.all_map]; rfl
theorem e_is_word {d : D} (h : okT d = true) : m_is_word [d] = .ok (.bool (isW d)) := by
  show (b_is_word d).fin = _
  unfold b_is_word
  rw [isi_ok (okT_ty h)]
  cases d with
  | str s =>
    have hl : s.cps.toList.length ≤ 1000 := of_decide_eq_true ((Bool.and_eq_true _ _).mp h).1
    show (Rs.ret (andV (.ok (.bool true)) _)).fin = _
    rw [andV_t]
    generalize hs : s.cps.toList = l at hl
    have es : s = sL l := by rw [← hs, sL_of]
    subst es
    rw [consM_ok, cb_ok, pLen_s (by omega), Rs.nox_ok, b2_ok, pLe_i, Rs.nox_ok]
    show _ = Rs.ok (PyData.bool (isWL (sL l).cps.toList))
    rw [sL_list]
    unfold isWL
    by_cases h5 : l.length ≤ 5
    · rw [decide_eq_true (by omega : (l.length : Int) ≤ 5), andV_t, Rs.bind_ok, itemsOf_s (by omega), lcV_ok, abcd_eq,
        lcM_mapL (g := fun c => .bool (decide (c ∈ [97, 98, 99, 100]))) (fun c _ => ⟨.str (sL [c]), rfl, rfl, by rw [b2_ok, pIn_s]; rfl⟩), Rs.bind_ok, consM_ok, cb_ok, pAll_map, Rs.nox_ok, ret_ok, Rs.fin_ret, decide_eq_true h5, Bool.true_and]
    · rw [decide_eq_false (by omega : ¬ (l.length : Int) ≤ 5), andV_f, ret_ok, Rs.fin_ret, decide_eq_false h5, Bool.false_and]
  | none => rfl
  | bool b => rfl
  | int i => rfl
  | tuple l => rfl
  | list l => rfl
  | dict l => cases h
abbrev isLg : D → Bool := inR 0 5
/-! ### what they stand for -/
theorem isWL_iff {l : List Nat} : isWL l = true ↔ ∃ w : Wd, w.length ≤ 5 ∧ l = wL w := by
  unfold isWL
  rw [Bool.and_eq_true, decide_eq_true_eq]
  constructor
  · rintro ⟨h1, h2⟩
    have : ∃ w : Wd, l = wL w := by
      clear h1
      induction l with
      | nil => exact ⟨[], rfl⟩
      | cons c l ih =>
        rw [List.all_cons, Bool.and_eq_true, decide_eq_true_eq] at h2
        obtain ⟨w, rfl⟩ := ih h2.2
        have h3 := h2.1
        simp only [List.mem_cons, List.not_mem_nil, or_false] at h3
        rcases h3 with rfl | rfl | rfl | rfl
        · exact ⟨0 :: w, rfl⟩
        · exact ⟨1 :: w, rfl⟩
        · exact ⟨2 :: w, rfl⟩
        · exact ⟨3 :: w, rfl⟩
    obtain ⟨w, rfl⟩ := this
    exact ⟨w, by simpa using h1, rfl⟩
  · rintro ⟨w, h, rfl⟩
    refine ⟨by simpa using h, ?_⟩
    rw [List.all_eq_true]
    intro c hc
    obtain ⟨i, _, rfl⟩ := List.mem_map.mp hc
    match i with
    | 0 => rfl
    | 1 => rfl
    | 2 => rfl
    | 3 => rfl
theorem isW_iff {d : D} : isW d = true ↔ ∃ w : Wd, w.length ≤ 5 ∧ d = dW w := by
  constructor
  · intro h
    cases d with
    | str s =>
      obtain ⟨w, h1, h2⟩ := isWL_iff.mp h
      exact ⟨w, h1, by rw [← sL_of s, h2]⟩
    | _ => cases h
  · rintro ⟨w, h, rfl⟩
    exact isWL_iff.mpr ⟨w, h, rfl⟩
theorem isC_iff {d : D} : isC d = true ↔ ∃ x : Nat, x < 32 ∧ d = .int x := by
  constructor
  · intro h
    cases d with
    | int i =>
      have q : (decide (0 ≤ i) && decide (i ≤ 31)) = true := h
      rw [Bool.and_eq_true, decide_eq_true_eq, decide_eq_true_eq] at q
      exact ⟨i.toNat, by omega, by rw [Int.toNat_of_nonneg q.1]⟩
    | _ => cases h
  · rintro ⟨x, h, rfl⟩
    show (decide ((0 : Int) ≤ x) && decide ((x : Int) ≤ 31)) = true
    simp; omega
theorem isP_iff {d : D} : isP d = true ↔ ∃ x y : Nat, x < 32 ∧ y < 32 ∧ d = dP x y := by
  constructor
  · intro h
    unfold isP at h
    split at h
    · rw [Bool.and_eq_true] at h
      obtain ⟨x, hx, rfl⟩ := isC_iff.mp h.1
      obtain ⟨y, hy, rfl⟩ := isC_iff.mp h.2
      exact ⟨x, y, hx, hy, rfl⟩
    · cases h
  · rintro ⟨x, y, hx, hy, rfl⟩
    show (isC (.int x) && isC (.int y)) = true
    rw [isC_iff.mpr ⟨x, hx, rfl⟩, isC_iff.mpr ⟨y, hy, rfl⟩]; rfl
theorem wL_lt (w : Wd) : ∀ c ∈ wL w, c < 1114112 := fun c hc => by
  obtain ⟨i, _, rfl⟩ := List.mem_map.mp hc
  unfold ltr; omega
theorem okT_s {l : List Nat} (h : l.length ≤ 1000) (h2 : ∀ c ∈ l, c < 1114112) : okT (.str (sL l)) = true := by
  show (decide ((sL l).cps.toList.length ≤ 1000) && (sL l).cps.toList.all fun c => decide (c < 1114112)) = true
  rw [sL_list, Bool.and_eq_true, decide_eq_true_eq, List.all_eq_true]
  exact ⟨h, fun c hc => decide_eq_true (h2 c hc)⟩
theorem okT_w (w : Wd) (h : w.length ≤ 1000) : okT (dW w) = true := okT_s (by simpa using h) (wL_lt w)
theorem okT_p (x y : Nat) : okT (dP x y) = true := rfl
/-! ### what is compared -/
mutual
theorem eqv_same : ∀ d : D, d.canLay0 = true → PyData.eqv d d = true
  | .none, _ => by rw [PyData.eqv]
  | .bool b, _ => by rw [PyData.eqv]; simp
  | .int i, _ => by rw [PyData.eqv]; simp
  | .str x, _ => by rw [PyData.eqv]; simp
  | .list l, h => by rw [PyData.eqv]; exact eqvAll_same l (by rw [PyData.canLay0] at h; exact h)
  | .tuple l, h => by rw [PyData.eqv]; exact eqvAll_same l (by rw [PyData.canLay0] at h; exact h)
  | .dict l, h => by rw [PyData.canLay0] at h; cases h
theorem eqvAll_same : ∀ l : List D, PyData.canLayAll0 l = true → PyData.eqvAll l l = true
  | [], _ => by rw [PyData.eqvAll]
  | d :: l, h => by
    rw [PyData.canLayAll0, Bool.and_eq_true] at h
    rw [PyData.eqvAll, eqv_same d h.1, eqvAll_same l h.2]; rfl
end
theorem ne_same {d : D} (h : SeqAt.shaped d = true) : c2 pNe (.ok d) (.ok d) = .ok false := by
  rw [c2_ok, pNe_of (by rw [h]; rfl), eqv_same d (SeqAt.canLay_of_shaped h)]; rfl
theorem eq_same {d : D} (h : SeqAt.shaped d = true) : b2 pEq (.ok d) (.ok d) = .ok (.bool true) := by
  rw [b2_ok, pEq_of (by rw [h]; rfl), eqv_same d (SeqAt.canLay_of_shaped h)]; rfl
theorem lay_s {l : List Nat} (h : ∀ c ∈ l, c < 1114112) : (PyData.str (sL l)).canLay0 = true := by
  rw [PyData.canLay0]
  unfold PyData.strOk
  show (l.toArray.all fun c => decide (c < 1114112)) = true
  rw [List.all_toArray, List.all_eq_true]
  exact fun c hc => decide_eq_true (h c hc)
theorem shaped_s {l : List Nat} (h : ∀ c ∈ l, c < 1114112) : SeqAt.shaped (.str (sL l)) = true := by
  unfold SeqAt.shaped
  rw [lay_s h, PyData.depth]; rfl
theorem shaped_w (w : Wd) : SeqAt.shaped (dW w) = true := shaped_s (wL_lt w)
theorem shaped_c (t : Nat × Nat × Nat) : SeqAt.shaped (dC t) = true := rfl
theorem eqv_ss (a b : List Nat) : PyData.eqv (.str (sL a)) (.str (sL b)) = decide (a = b) := by
  rw [PyData.eqv]
  refine Bool.eq_iff_iff.mpr ?_
  rw [beq_iff_eq, decide_eq_true_eq, sL_inj]
theorem eqv_ww (a b : Wd) : PyData.eqv (dW a) (dW b) = decide (a = b) := by
  rw [eqv_ss]
  exact decide_eq_decide.mpr wL_inj
theorem eq_ww (a b : Wd) : b2 pEq (.ok (dW a)) (.ok (dW b)) = .ok (.bool (decide (a = b))) := by
  rw [b2_ok, pEq_of (by rw [shaped_w, shaped_w]; rfl), eqv_ww]; rfl

/-! Plain law: cells, holds, words of points. -/
theorem prefix_word (w : Wd) (x y : Nat) (h : w.length ≤ 5) : (wordOf x y w.length = w) ↔ wL w <+: wL (wordOf x y 5) := by
  rw [List.prefix_iff_eq_take, wL_length]
  have : (wL (wordOf x y 5)).take w.length = wL (wordOf x y w.length) := by
    unfold wL
    rw [← List.map_take, wordOf_take, Nat.min_eq_left h]
  rw [this, wL_inj]
  exact eq_comm
theorem canLay_strs : ∀ l : List Nat, (∀ c ∈ l, c < 1114112) → PyData.canLayAll0 (l.map fun c => PyData.str (sL [c])) = true
  | [], _ => rfl
  | c :: l, h => by
    rw [List.map_cons, PyData.canLayAll0, lay_s (by intro x hx; rw [List.mem_singleton] at hx; rw [hx]; exact h c List.mem_cons_self), canLay_strs l fun x hx => h x (List.mem_cons_of_mem _ hx)]; rfl
theorem depth_strs : ∀ l : List Nat, PyData.depthAll (l.map fun c => PyData.str (sL [c])) = 0
  | [] => rfl
  | c :: l => by rw [List.map_cons, PyData.depthAll, depth_strs l]; rfl
theorem shaped_b (a : Bool) : SeqAt.shaped (.bool a) = true := by
  unfold SeqAt.shaped
  rw [PyData.canLay0, PyData.depth]
  rfl
theorem starts (a b : Wd) : msV pStarts (.ok (dW a)) (.ok [dW b]) = .ok (.bool (decide (wL b <+: wL a))) := by
  rw [msV_ok]
  show (Rs.ok (PyData.bool (Txt.startswith (sL (wL a)) (sL (wL b))))).nox = _
  rw [startswith_sL]; rfl
theorem isP_w (w : Wd) : isP (dW w) = false := rfl
theorem isW_p (x y : Nat) : isW (dP x y) = false := rfl
theorem sl_w (w : Wd) (lo hi : Option Int) (h : w.length ≤ 5) : ∃ l : List Nat, slV (.ok (dW w)) (.ok lo) (.ok hi) = .ok (.str (sL l)) ∧ l.length ≤ 5 ∧ ∀ c ∈ l, c < 200 := by
  refine ⟨_, by rw [slV_ok, pSl_s (by simp; omega), Rs.nox_ok], ?_, fun c hc => ?_⟩
  · rw [List.length_take, List.length_drop, wL_length]; omega
  · have := List.mem_of_mem_drop (List.mem_of_mem_take hc)
    obtain ⟨i, _, rfl⟩ := List.mem_map.mp this
    unfold ltr; omega

/-! Plain law: parts, wholes, what is within what, what two words share. -/
theorem wL_prefix (a b : Wd) : (wL a <+: wL b) ↔ a <+: b := by
  rw [List.prefix_iff_eq_take, List.prefix_iff_eq_take, wL_length]
  have : (wL b).take a.length = wL (b.take a.length) := by unfold wL; rw [List.map_take]
  rw [this, wL_inj]
theorem starts_w (a b : Wd) : msV pStarts (.ok (dW a)) (.ok [dW b]) = .ok (.bool (decide (b <+: a))) := by
  rw [starts, decide_eq_decide.mpr (wL_prefix b a)]
theorem wL_take (w : Wd) (n : Nat) : (wL w).take n = wL (w.take n) := by unfold wL; rw [List.map_take]
theorem wL_drop (w : Wd) (n : Nat) : (wL w).drop n = wL (w.drop n) := by unfold wL; rw [List.map_drop]
theorem sl_take (w : Wd) (n : Nat) (h : w.length ≤ 1000) : slV (.ok (dW w)) (.ok none) (.ok (some (n : Int))) = .ok (dW (w.take n)) := by
  rw [slV_ok, pSl_s (by simp; omega), Rs.nox_ok, HT.sIx_none, HT.sIx_nat, List.drop_zero, Nat.sub_zero, wL_take, wL_length]
  show Rs.ok (dW (w.take (min n w.length))) = _
  rcases Nat.le_total n w.length with q | q
  · rw [Nat.min_eq_left q]
  · rw [Nat.min_eq_right q, List.take_length, List.take_of_length_le q]
theorem sl_take_z (w : Wd) (z : Int) (n : Nat) (hz : z = n) (h : w.length ≤ 1000) : slV (.ok (dW w)) (.ok none) (.ok (some z)) = .ok (dW (w.take n)) := by rw [hz, sl_take w n h]
theorem sl_last (w : Wd) (h : w.length ≤ 1000) : slV (.ok (dW w)) (.ok none) (.ok (some (-1))) = .ok (dW w.dropLast) := by
  rw [slV_ok, pSl_s (by simp; omega), Rs.nox_ok, HT.sIx_none, List.drop_zero, Nat.sub_zero]
  have e : HT.sIx (wL w).length (wL w).length (some (-1)) = w.length - 1 := by
    unfold HT.sIx
    dsimp only
    rw [if_pos (by decide), wL_length]; omega
  rw [e, wL_take, List.dropLast_eq_take]
theorem add_w (a b : Wd) (h : a.length + b.length ≤ 16777216) : pAdd (dW a) (dW b) = .ok (dW (a ++ b)) := by
  rw [pAdd_s (by simpa using h), ← wL_app]
def letters4 : List (Fin 4) := [0, 1, 2, 3]
theorem items_abcd : itemsOf (.str "abcd") = .ok (letters4.map dL) := by
  rw [abcd_eq, itemsOf_s (by decide)]; rfl
theorem dL_w (i : Fin 4) : dL i = dW [i] := rfl
def ptsW (w : Wd) : List Wd := letters4.map fun i => w ++ [i]
def dWs (l : List Wd) : D := .list (l.map fun w => dW w)
theorem lc_parts (w : Wd) (h : w.length ≤ 1000) : lcV some (Rs.bind (.ok (.str "abcd")) itemsOf) (fun (c : D) => (.ok true)) (fun (c : D) => (b2 pAdd (.ok (dW w)) (.ok c))) = .ok (dWs (ptsW w)) := by
  rw [Rs.bind_ok, items_abcd, lcV_ok, lcM_mapL (g := fun i => dW (w ++ [i])) (fun i _ => ⟨dL i, rfl, rfl, by rw [b2_ok, dL_w, add_w _ _ (by simp; omega)]; rfl⟩), Rs.bind_ok]
  unfold dWs ptsW
  rw [List.map_map]; rfl
theorem len_w (w : Wd) (h : w.length ≤ 1000) : cb pLen (.ok [dW w]) = .ok (.int w.length) := by rw [cb_ok, pLen_s (by simp; omega), wL_length]; rfl
theorem eqv_ii (i j : Int) : PyData.eqv (.int i) (.int j) = decide (i = j) := by
  rw [PyData.eqv]
  refine Bool.eq_iff_iff.mpr ?_
  rw [beq_iff_eq, decide_eq_true_eq]
theorem shaped_i (i : Int) : SeqAt.shaped (.int i) = true := by
  unfold SeqAt.shaped
  rw [PyData.canLay0, PyData.depth]; rfl
theorem ceq_ii (i j : Int) : c2 pEq (.ok (.int i)) (.ok (.int j)) = .ok (decide (i = j)) := by
  rw [c2_ok, pEq_of (by rw [shaped_i, shaped_i]; rfl), eqv_ii]; rfl
theorem ceq_ww (a b : Wd) : c2 pEq (.ok (dW a)) (.ok (dW b)) = .ok (decide (a = b)) := by
  rw [c2_ok, pEq_of (by rw [shaped_w, shaped_w]; rfl), eqv_ww]; rfl
theorem cne_ww (a b : Wd) : c2 pNe (.ok (dW a)) (.ok (dW b)) = .ok (!decide (a = b)) := by
  rw [c2_ok, pNe_of (by rw [shaped_w, shaped_w]; rfl), eqv_ww]; rfl
theorem empty_w : (PyData.str "" : D) = dW [] := by rw [empty_eq]; rfl
def wholeD (w : Wd) : D := if w = [] then .none else dW w.dropLast
/-- the longest word that both begin with -/
def comm : Wd → Wd → Wd
  | a :: as, b :: bs => if a = b then a :: comm as bs else []
  | _, _ => []
theorem comm_pre1 : ∀ a b : Wd, comm a b <+: a
  | a :: as, b :: bs => by
    unfold comm
    split
    · rw [List.cons_prefix_cons]; exact ⟨rfl, comm_pre1 as bs⟩
    · exact List.nil_prefix
  | [], [] => List.nil_prefix
  | [], _ :: _ => List.nil_prefix
  | _ :: _, [] => List.nil_prefix
theorem comm_symm : ∀ a b : Wd, comm a b = comm b a
  | a :: as, b :: bs => by
    unfold comm
    by_cases e : a = b
    · rw [if_pos e, if_pos e.symm, e, comm_symm as bs]
    · rw [if_neg e, if_neg (Ne.symm e)]
  | [], [] => rfl
  | [], _ :: _ => rfl
  | _ :: _, [] => rfl
theorem comm_pre2 (a b : Wd) : comm a b <+: b := by rw [comm_symm]; exact comm_pre1 b a
theorem comm_max : ∀ (a b c : Wd), c <+: a → c <+: b → c <+: comm a b
  | _, _, [], _, _ => List.nil_prefix
  | a :: as, b :: bs, c :: cs, h1, h2 => by
    rw [List.cons_prefix_cons] at h1 h2
    unfold comm
    rw [if_pos (h1.1.symm.trans h2.1), List.cons_prefix_cons]
    exact ⟨h1.1, comm_max as bs cs h1.2 h2.2⟩
  | [], _, c :: cs, h1, _ => by simp at h1
  | _ :: _, [], c :: cs, _, h2 => by simp at h2
theorem comm_len1 (a b : Wd) : (comm a b).length ≤ a.length := (comm_pre1 a b).length_le
theorem comm_len2 (a b : Wd) : (comm a b).length ≤ b.length := (comm_pre2 a b).length_le
theorem comm_take (a b : Wd) : a.take (comm a b).length = comm a b := (List.prefix_iff_eq_take.mp (comm_pre1 a b)).symm
theorem take_iff (a b : Wd) (n : Nat) (h1 : n ≤ a.length) (h2 : n ≤ b.length) : a.take n = b.take n ↔ n ≤ (comm a b).length := by
  constructor
  · intro h
    have p1 : a.take n <+: a := List.take_prefix _ _
    have p2 : a.take n <+: b := by rw [h]; exact List.take_prefix _ _
    have := (comm_max a b _ p1 p2).length_le
    rw [List.length_take, Nat.min_eq_left h1] at this
    exact this
  · intro h
    have e1 : a.take n = (comm a b).take n := by rw [← comm_take a b, List.take_take, Nat.min_eq_left h]
    have e2 : b.take n = (comm a b).take n := by rw [comm_symm, ← comm_take b a, List.take_take, ← comm_symm, Nat.min_eq_left h]
    rw [e1, e2]
/-- a loop that goes up to a place -/
theorem while_up {t : D → Rs Bool} {b : D → Rs (Out D)} (L : Nat) (ht : ∀ k : Nat, k ≤ L → t (.int k) = .ok (decide (k < L))) (hb : ∀ k : Nat, b (.int k) = .ok (.nx (.int ((k : Int) + 1)))) : ∀ (n k : Nat), k ≤ L → L < n + k → whileM t b n (.int k) = .ok (.nx (.int L))
  | 0, k, h1, h2 => by omega
  | n + 1, k, h1, h2 => by
    unfold whileM
    rw [ht k h1, Rs.bind_ok]
    by_cases e : k < L
    · rw [decide_eq_true e, if_pos rfl, hb, Rs.seq_nx, show ((k : Int) + 1) = ((k + 1 : Nat) : Int) by omega, while_up L ht hb n (k + 1) e (by omega)]
    · rw [decide_eq_false e, if_neg (by simp), show k = L by omega]
theorem atI_w (w : Wd) (k : Nat) (h : k < w.length) : atI (wL w) (k : Int) = some (ltr w[k]) := by
  rw [atI_nat _ _ (by simpa using h)]
  unfold wL
  rw [List.getElem?_map, List.getElem?_eq_getElem h]; rfl
theorem ix_w (w : Wd) (k : Nat) (h : k < w.length) (h2 : w.length ≤ 1000) : b2 pIx (.ok (dW w)) (.ok (.int (k : Int))) = .ok (dL w[k]) := by
  rw [b2_ok, pIx_s (by simp; omega) (atI_w w k h)]; rfl
theorem pMin_n (i j : Nat) : cb pMin (.ok [.int i, .int j]) = .ok (.int (min i j : Nat)) := by
  rw [cb_ok]
  show (Rs.ok (PyData.int (if (j : Int) < i then (j : Int) else i))).nox = _
  by_cases e : j < i
  · rw [if_pos (by omega), Nat.min_eq_right (by omega)]; rfl
  · rw [if_neg (by omega), Nat.min_eq_left (by omega)]; rfl
/-! Plain law: refusals, as the laws tell them. -/
abbrev rfD (i : Int) : D := .tuple [.str "refused", .int i]
theorem shaped_rf (i : Int) : SeqAt.shaped (rfD i) = true := by
  have h1 : (PyData.str "refused" : D).canLay0 = true := by rw [PyData.canLay0]; decide +kernel
  have h2 : (PyData.int i : D).canLay0 = true := by rw [PyData.canLay0]
  unfold SeqAt.shaped
  rw [PyData.canLay0, PyData.canLayAll0, PyData.canLayAll0, PyData.canLayAll0, PyData.depth, PyData.depthAll, PyData.depthAll, PyData.depthAll, PyData.depth, PyData.depth, h1, h2]
  rfl
theorem rfT (i : Int) : tupV (consM (.ok (.str "refused")) (consM (.ok (.int i)) (.ok []))) = .ok (rfD i) := rfl
theorem catch_of {α : Type} {g : Str → Rs D} {ns : List Str} {c : Str} {d : D} (hc : c ∈ ns) (h : g c = .ok d) : (Rs.exc c : Rs (Out α)).catch ns g = .ok (.ret d) := by
  unfold Rs.catch
  dsimp only
  rw [if_pos hc, h]
theorem catch_ok {α : Type} {g : Str → Rs D} {ns : List Str} (o : Out α) : (Rs.ok o : Rs (Out α)).catch ns g = .ok o := rfl
theorem fnV_ix {fs : List (List D → Rs D)} (i : Nat) {f : List D → Rs D} {ma : Rs (List D)} (h : fs[i]? = some f) (z : Int) (hz : z = i) : fnV fs (.ok (.int z)) ma = ma.bind f := by
  subst hz
  show (match atI fs (i : Int) with | some f => ma.bind f | none => Rs.stuck) = _
  have hi := (List.getElem?_eq_some_iff.mp h).1
  rw [atI_nat fs i hi, h]
theorem pMul_list {xs : List D} (k : Nat) (h : xs.length * k ≤ 16777216) (hk : k ≤ 1000) : pMul (.list xs) (.int (k : Int)) = .ok (.list (List.replicate k xs).flatten) := by
  rw [pMul, if_pos ⟨by omega, by omega, by rw [sizeLine_eq, Int.toNat_natCast]; exact h⟩, Int.toNat_natCast]
theorem shaped_lay {d : D} (h : d.canLay0 = true) (hd : d.depth ≤ 64) : SeqAt.shaped d = true := by
  unfold SeqAt.shaped
  rw [h, decide_eq_true hd]; rfl
theorem canLay_dWs : ∀ l : List Wd, PyData.canLayAll0 (l.map fun w => dW w) = true
  | [] => rfl
  | w :: l => by rw [List.map_cons, PyData.canLayAll0, lay_s (wL_lt w), canLay_dWs l]; rfl
theorem depth_dWs : ∀ l : List Wd, PyData.depthAll (l.map fun w => dW w) = 0
  | [] => rfl
  | w :: l => by rw [List.map_cons, PyData.depthAll, depth_dWs l]; rfl
theorem shaped_dWs (l : List Wd) : SeqAt.shaped (dWs l) = true := by
  unfold SeqAt.shaped dWs
  rw [PyData.canLay0, canLay_dWs, PyData.depth, depth_dWs]; rfl
/-- what may be compared, not too deep -/
def Lay (n : Nat) (d : D) : Prop := d.canLay0 = true ∧ d.depth ≤ n
theorem lay_all {n : Nat} : ∀ {l : List D}, (∀ d ∈ l, Lay n d) → PyData.canLayAll0 l = true ∧ PyData.depthAll l ≤ n
  | [], _ => ⟨rfl, by rw [PyData.depthAll]; omega⟩
  | d :: l, h => by
    obtain ⟨h1, h2⟩ := h d List.mem_cons_self
    obtain ⟨h3, h4⟩ := lay_all (l := l) fun x hx => h x (List.mem_cons_of_mem _ hx)
    refine ⟨by rw [PyData.canLayAll0, h1, h3]; rfl, ?_⟩
    rw [PyData.depthAll]; omega
theorem Lay.list {n : Nat} {l : List D} (h : ∀ d ∈ l, Lay n d) : Lay (n + 1) (.list l) := by
  obtain ⟨h1, h2⟩ := lay_all h
  exact ⟨by rw [PyData.canLay0]; exact h1, by rw [PyData.depth]; omega⟩
theorem Lay.tup {n : Nat} {l : List D} (h : ∀ d ∈ l, Lay n d) : Lay (n + 1) (.tuple l) := by
  obtain ⟨h1, h2⟩ := lay_all h
  exact ⟨by rw [PyData.canLay0]; exact h1, by rw [PyData.depth]; omega⟩
theorem Lay.b {n : Nat} (c : Bool) : Lay n (.bool c) := ⟨by rw [PyData.canLay0], by rw [PyData.depth]; omega⟩
theorem Lay.i {n : Nat} (c : Int) : Lay n (.int c) := ⟨by rw [PyData.canLay0], by rw [PyData.depth]; omega⟩
theorem Lay.n {n : Nat} : Lay n .none := ⟨by rw [PyData.canLay0], by rw [PyData.depth]; omega⟩
theorem Lay.w {n : Nat} (w : Wd) : Lay n (dW w) := ⟨lay_s (wL_lt w), by rw [PyData.depth]; omega⟩
theorem Lay.shaped {n : Nat} {d : D} (h : Lay n d) (hn : n ≤ 64 := by decide) : SeqAt.shaped d = true := shaped_lay h.1 (Nat.le_trans h.2 hn)
theorem Lay.rf (i : Int) : Lay 1 (rfD i) := Lay.tup fun d hd => by
  rcases (List.mem_cons.mp hd) with rfl | hd
  · exact ⟨by rw [PyData.canLay0]; decide +kernel, by rw [PyData.depth]; omega⟩
  · rw [List.mem_singleton] at hd; rw [hd]; exact Lay.i i
theorem lcM_c {γ : Type} {take : D → Option γ} {f : γ → Rs D} {d : D} {ds : List D} {c : γ} {v : D} {l : List D} (h1 : take d = some c) (h2 : f c = .ok v) (h3 : lcM take (fun _ => .ok true) f ds = .ok l) : lcM take (fun _ => .ok true) f (d :: ds) = .ok (v :: l) := by
  unfold lcM
  rw [h1, took_some, Rs.nox_ok, Rs.bind_ok, if_pos rfl, h2, Rs.nox_ok, Rs.bind_ok, h3, Rs.bind_ok]
theorem lcM_n {γ : Type} {take : D → Option γ} {f : γ → Rs D} : lcM take (fun _ => .ok true) f [] = .ok [] := rfl

/-! Plain law: ranks. -/
def rkN (w : Wd) : Nat := w.foldl (fun f i => 4 * f + i.val) 0
theorem rkN_snoc (w : Wd) (i : Fin 4) : rkN (w ++ [i]) = 4 * rkN w + i.val := by unfold rkN; rw [List.foldl_append]; rfl
theorem rk_go (w : Wd) : ∀ a : Nat, w.foldl (fun f i => 4 * f + i.val) a = a * 4 ^ w.length + rkN w := by
  unfold rkN
  induction w with
  | nil => intro a; simp
  | cons i w ih =>
    intro a
    rw [List.foldl_cons, List.foldl_cons, ih, ih (4 * 0 + i.val), List.length_cons, Nat.pow_succ, Nat.add_mul, Nat.add_mul]
    rw [Nat.mul_comm 4 a, Nat.mul_assoc, Nat.mul_comm 4 (4 ^ w.length)]
    omega
theorem rkN_cons (i : Fin 4) (w : Wd) : rkN (i :: w) = i.val * 4 ^ w.length + rkN w := by
  have := rk_go w (4 * 0 + i.val)
  unfold rkN
  rw [List.foldl_cons, this]
  simp
  rfl
theorem rkN_lt (w : Wd) : rkN w < 4 ^ w.length := by
  induction w with
  | nil => decide
  | cons i w ih =>
    rw [rkN_cons, List.length_cons, Nat.pow_succ]
    have h2 : i.val * 4 ^ w.length ≤ 3 * 4 ^ w.length := Nat.mul_le_mul_right _ (by omega)
    omega
/-- the word so long with so many ahead -/
def unr : Nat → Nat → Wd
  | 0, _ => []
  | l + 1, n => unr l (n / 4) ++ [⟨n % 4, Nat.mod_lt _ (by decide)⟩]
theorem unr_len : ∀ l n, (unr l n).length = l
  | 0, _ => rfl
  | l + 1, n => by unfold unr; rw [List.length_append, unr_len l]; rfl
theorem snoc_ind {P : Wd → Prop} (h0 : P []) (h1 : ∀ w i, P w → P (w ++ [i])) (w : Wd) : P w := by
  have : ∀ r : Wd, P r.reverse := fun r => by
    induction r with
    | nil => exact h0
    | cons i r ih => rw [List.reverse_cons]; exact h1 _ _ ih
  have q := this w.reverse
  rwa [List.reverse_reverse] at q
theorem unr_rk (w : Wd) : unr w.length (rkN w) = w := by
  refine snoc_ind (P := fun w => unr w.length (rkN w) = w) rfl (fun w i ih => ?_) w
  rw [List.length_append, rkN_snoc]
  show unr w.length ((4 * rkN w + i.val) / 4) ++ [⟨(4 * rkN w + i.val) % 4, _⟩] = _
  rw [show (4 * rkN w + i.val) / 4 = rkN w by omega, ih]
  congr 2
  exact Fin.ext (by show (4 * rkN w + i.val) % 4 = i.val; omega)
theorem rk_unr : ∀ l n, n < 4 ^ l → rkN (unr l n) = n
  | 0, n, h => by have : n = 0 := by simpa using h
                  rw [this]; rfl
  | l + 1, n, h => by
    unfold unr
    rw [rkN_snoc, rk_unr l (n / 4) (by rw [Nat.pow_succ] at h; omega)]
    show 4 * (n / 4) + n % 4 = n
    omega
theorem rk_inj {a b : Wd} (hl : a.length = b.length) (h : rkN a = rkN b) : a = b := by rw [← unr_rk a, ← unr_rk b, hl, h]
theorem lt_cons_n (a b : Nat) (l m : List Nat) : ((a :: l) < (b :: m)) ↔ a < b ∨ (a = b ∧ l < m) := List.cons_lt_cons_iff
/-- words as long are in the order of their ranks -/
theorem lt_rk : ∀ a b : Wd, a.length = b.length → (wL a < wL b ↔ rkN a < rkN b)
  | [], [], _ => by constructor <;> intro h <;> simp [wL, rkN] at h
  | i :: a, j :: b, h => by
    have hl : a.length = b.length := by simpa using h
    have ih := lt_rk a b hl
    have e1 : wL (i :: a) = ltr i :: wL a := rfl
    have e2 : wL (j :: b) = ltr j :: wL b := rfl
    rw [e1, e2, lt_cons_n, rkN_cons, rkN_cons, ih, hl]
    have b1 := rkN_lt a
    have b2 := rkN_lt b
    rw [hl] at b1
    generalize 4 ^ b.length = p at *
    unfold ltr
    constructor
    · rintro (h1 | ⟨h1, h2⟩)
      · have : i.val * p + p ≤ j.val * p := by
          have := Nat.mul_le_mul_right p (show i.val + 1 ≤ j.val by omega)
          rw [Nat.add_mul, Nat.one_mul] at this; exact this
        omega
      · have : i.val = j.val := by omega
        rw [this]; omega
    · intro h1
      rcases Nat.lt_trichotomy i.val j.val with q | q | q
      · exact .inl (by omega)
      · exact .inr ⟨by omega, by rw [q] at h1; omega⟩
      · exfalso
        have : j.val * p + p ≤ i.val * p := by
          have := Nat.mul_le_mul_right p (show j.val + 1 ≤ i.val by omega)
          rw [Nat.add_mul, Nat.one_mul] at this; exact this
        omega
  | [], _ :: _, hh => by simp at hh
  | _ :: _, [], hh => by simp at hh
theorem pLt_ww (a b : Wd) : pLt (dW a) (dW b) = .ok (.bool (decide (wL a < wL b))) := rfl
theorem rk_drop (w : Wd) : rkN w.dropLast = rkN w / 4 := by
  refine snoc_ind (P := fun w => rkN w.dropLast = rkN w / 4) rfl (fun w i _ => ?_) w
  rw [List.dropLast_concat, rkN_snoc]; omega
theorem rk_wordOf (x y n : Nat) : rkN (wordOf x y (n + 1)) = 4 * rkN (wordOf x y n) + (dig x y (16 / 2 ^ n)).val := by rw [wordOf_succ, rkN_snoc]

/-! Plain law: where cells lie. -/
def xsN (w : Wd) : Nat := w.foldl (fun a i => 2 * a + i.val % 2) 0
def ysN (w : Wd) : Nat := w.foldl (fun a i => 2 * a + i.val / 2) 0
theorem xsN_snoc (w : Wd) (i : Fin 4) : xsN (w ++ [i]) = 2 * xsN w + i.val % 2 := by unfold xsN; rw [List.foldl_append]; rfl
theorem ysN_snoc (w : Wd) (i : Fin 4) : ysN (w ++ [i]) = 2 * ysN w + i.val / 2 := by unfold ysN; rw [List.foldl_append]; rfl
def sd (n : Nat) : Nat := 2 ^ (5 - n)
theorem sd_succ {n : Nat} (h : n < 5) : sd n = 2 * sd (n + 1) := by
  unfold sd
  rw [show 5 - n = (5 - (n + 1)) + 1 by omega, Nat.pow_succ, Nat.mul_comm]
theorem sd_pos (n : Nat) : 0 < sd n := Nat.two_pow_pos _
theorem sd_16 {n : Nat} (h : n < 5) : 16 / 2 ^ n = sd (n + 1) := by
  match n, h with
  | 0, _ => rfl
  | 1, _ => rfl
  | 2, _ => rfl
  | 3, _ => rfl
  | 4, _ => rfl
theorem snoc_ex {n : Nat} {w : Wd} (h : w.length = n + 1) : ∃ (v : Wd) (i : Fin 4), v.length = n ∧ w = v ++ [i] := by
  have hne : w ≠ [] := fun e => by rw [e] at h; cases h
  refine ⟨w.dropLast, w.getLast hne, by rw [List.length_dropLast, h]; rfl, (List.dropLast_concat_getLast hne).symm⟩
theorem cor_snoc (w : Wd) (i : Fin 4) : cor (w ++ [i]) = corStep (cor w) i := by unfold cor; rw [List.foldl_append]; rfl
theorem cor_eq : ∀ (n : Nat) (w : Wd), w.length = n → n ≤ 5 → cor w = (xsN w * sd n, ysN w * sd n, sd n)
  | 0, w, h, _ => by rw [List.eq_nil_of_length_eq_zero h]; rfl
  | n + 1, w, h, hn => by
    obtain ⟨v, i, hv, rfl⟩ := snoc_ex h
    have e := sd_succ (n := n) (by omega)
    rw [cor_snoc, cor_eq n v hv (by omega), xsN_snoc, ysN_snoc]
    unfold corStep
    dsimp only
    rw [e, show 2 * sd (n + 1) / 2 = sd (n + 1) by omega]
    refine Prod.ext ?_ (Prod.ext ?_ rfl)
    · show xsN v * (2 * sd (n + 1)) + sd (n + 1) * (i.val % 2) = (2 * xsN v + i.val % 2) * sd (n + 1)
      rw [Nat.add_mul, Nat.mul_comm (sd (n + 1)) (i.val % 2), ← Nat.mul_assoc, Nat.mul_comm (xsN v) 2]
    · show ysN v * (2 * sd (n + 1)) + sd (n + 1) * (i.val / 2) = (2 * ysN v + i.val / 2) * sd (n + 1)
      rw [Nat.add_mul, Nat.mul_comm (sd (n + 1)) (i.val / 2), ← Nat.mul_assoc, Nat.mul_comm (ysN v) 2]
theorem half_div (x s : Nat) : 2 * (x / (2 * s)) + x / s % 2 = x / s := by
  rw [Nat.mul_comm 2 s, ← Nat.div_div_eq_div_mul]
  omega
theorem geo_wordOf (x y : Nat) (hx : x < 32) (hy : y < 32) : ∀ n : Nat, n ≤ 5 → xsN (wordOf x y n) = x / sd n ∧ ysN (wordOf x y n) = y / sd n
  | 0, _ => by
    have e1 : x / sd 0 = 0 := Nat.div_eq_of_lt hx
    have e2 : y / sd 0 = 0 := Nat.div_eq_of_lt hy
    rw [e1, e2]; exact ⟨rfl, rfl⟩
  | n + 1, h => by
    obtain ⟨h1, h2⟩ := geo_wordOf x y hx hy n (by omega)
    rw [wordOf_succ, xsN_snoc, ysN_snoc, h1, h2, sd_succ (n := n) (by omega), sd_16 (by omega)]
    have d1 : (dig x y (sd (n + 1))).val % 2 = x / sd (n + 1) % 2 := by show (x / sd (n + 1) % 2 + 2 * (y / sd (n + 1) % 2)) % 2 = _; omega
    have d2 : (dig x y (sd (n + 1))).val / 2 = y / sd (n + 1) % 2 := by show (x / sd (n + 1) % 2 + 2 * (y / sd (n + 1) % 2)) / 2 = _; omega
    rw [d1, d2, half_div, half_div]
    exact ⟨rfl, rfl⟩
theorem geo_inj : ∀ (n : Nat) (a b : Wd), a.length = n → b.length = n → xsN a = xsN b → ysN a = ysN b → a = b
  | 0, a, b, h1, h2, _, _ => by rw [List.eq_nil_of_length_eq_zero h1, List.eq_nil_of_length_eq_zero h2]
  | n + 1, a, b, h1, h2, hx, hy => by
    obtain ⟨u, i, hu, rfl⟩ := snoc_ex h1
    obtain ⟨v, j, hv, rfl⟩ := snoc_ex h2
    rw [xsN_snoc, xsN_snoc] at hx
    rw [ysN_snoc, ysN_snoc] at hy
    have e1 : xsN u = xsN v := by omega
    have e2 : ysN u = ysN v := by omega
    rw [geo_inj n u v hu hv e1 e2]
    have : i.val = j.val := by omega
    rw [Fin.ext this]
/-- a point lies in a cell -/
def InC (x y : Nat) (t : Nat × Nat × Nat) : Prop := t.1 ≤ x ∧ x < t.1 + t.2.2 ∧ t.2.1 ≤ y ∧ y < t.2.1 + t.2.2
instance (x y : Nat) (t : Nat × Nat × Nat) : Decidable (InC x y t) := by unfold InC; exact inferInstance
theorem div_iff {x s q : Nat} (hs : 0 < s) : x / s = q ↔ q * s ≤ x ∧ x < q * s + s := by
  constructor
  · intro h
    rw [← h]
    exact ⟨Nat.div_mul_le_self x s, by have := Nat.lt_div_mul_add (a := x) hs; omega⟩
  · rintro ⟨h1, h2⟩
    refine (Nat.div_eq_iff hs).mpr ⟨h1, ?_⟩
    omega
theorem in_iff (w : Wd) (x y : Nat) (hw : w.length ≤ 5) (hx : x < 32) (hy : y < 32) : wordOf x y w.length = w ↔ InC x y (cor w) := by
  rw [cor_eq w.length w rfl hw]
  obtain ⟨h1, h2⟩ := geo_wordOf x y hx hy w.length hw
  have hs := sd_pos w.length
  unfold InC
  dsimp only
  constructor
  · intro e
    rw [e] at h1 h2
    have a := (div_iff hs).mp h1.symm
    have b := (div_iff hs).mp h2.symm
    exact ⟨a.1, a.2, b.1, b.2⟩
  · rintro ⟨a1, a2, b1, b2⟩
    refine geo_inj w.length _ w (wordOf_length ..) rfl ?_ ?_
    · rw [h1]; exact (div_iff hs).mpr ⟨a1, a2⟩
    · rw [h2]; exact (div_iff hs).mpr ⟨b1, b2⟩
theorem xs_lt : ∀ (n : Nat) (w : Wd), w.length = n → xsN w < 2 ^ n ∧ ysN w < 2 ^ n
  | 0, w, h => by rw [List.eq_nil_of_length_eq_zero h]; decide
  | n + 1, w, h => by
    obtain ⟨v, i, hv, rfl⟩ := snoc_ex h
    obtain ⟨h1, h2⟩ := xs_lt n v hv
    rw [xsN_snoc, ysN_snoc, Nat.pow_succ]
    have := i.isLt
    omega
/-- a cell lies on the board -/
theorem cor_le (w : Wd) (hw : w.length ≤ 5) : (cor w).1 + (cor w).2.2 ≤ 32 ∧ (cor w).2.1 + (cor w).2.2 ≤ 32 ∧ 0 < (cor w).2.2 := by
  rw [cor_eq w.length w rfl hw]
  dsimp only
  obtain ⟨h1, h2⟩ := xs_lt w.length w rfl
  have e : 2 ^ w.length * sd w.length = 32 := by
    unfold sd
    rw [← Nat.pow_add, show w.length + (5 - w.length) = 5 by omega]
  have a := Nat.mul_le_mul_right (sd w.length) (show xsN w + 1 ≤ 2 ^ w.length by omega)
  have b := Nat.mul_le_mul_right (sd w.length) (show ysN w + 1 ≤ 2 ^ w.length by omega)
  rw [e, Nat.add_mul, Nat.one_mul] at a b
  exact ⟨a, b, sd_pos _⟩

/-! Plain law: tests put together; holds by words. -/
theorem andB_ok (a b : Bool) : Rs.andB (.ok a) (.ok b) = .ok (a && b) := by cases a <;> rfl
theorem orB_ok (a b : Bool) : Rs.orB (.ok a) (.ok b) = .ok (a || b) := by cases a <;> rfl
theorem andV_ok (a b : Bool) : andV (.ok (.bool a)) (.ok (.bool b)) = .ok (.bool (a && b)) := by cases a <;> rfl
theorem orV_ok (a b : Bool) : orV (.ok (.bool a)) (.ok (.bool b)) = .ok (.bool (a || b)) := by cases a <;> rfl
theorem q_notV (b : Bool) : notV (.ok (.bool b)) = .ok (.bool (!b)) := nd (notV_ok b)
theorem eqv_bb (a b : Bool) : PyData.eqv (.bool a) (.bool b) = (a == b) := by rw [PyData.eqv]
theorem cne_bb (a b : Bool) : c2 pNe (.ok (.bool a)) (.ok (.bool b)) = .ok (!(a == b)) := by
  rw [c2_ok, pNe_of (by rw [Lay.shaped (n := 0) (Lay.b a), Lay.shaped (n := 0) (Lay.b b)]; rfl), eqv_bb]; rfl
theorem cne_ii (a b : Int) : c2 pNe (.ok (.int a)) (.ok (.int b)) = .ok (!decide (a = b)) := by
  rw [c2_ok, pNe_of (by rw [shaped_i, shaped_i]; rfl), eqv_ii]; rfl
theorem beq_ii (a b : Int) : b2 pEq (.ok (.int a)) (.ok (.int b)) = .ok (.bool (decide (a = b))) := by
  rw [b2_ok, pEq_of (by rw [shaped_i, shaped_i]; rfl), eqv_ii]; rfl
theorem clt_ii (a b : Int) : c2 pLt (.ok (.int a)) (.ok (.int b)) = .ok (decide (a < b)) := rfl
theorem cgt_ii (a b : Int) : c2 pGt (.ok (.int a)) (.ok (.int b)) = .ok (decide (b < a)) := rfl
theorem cle_ii (a b : Int) : c2 pLe (.ok (.int a)) (.ok (.int b)) = .ok (decide (a ≤ b)) := rfl
theorem q_sub (i j : Int) : pSub (.int i) (.int j) = .ok (.int (i - j)) := nd (pSub_i i j)
/-- a check that goes well -/
theorem chk {β : Type} {c : Rs Bool} {k : Unit → Rs (Out β)} (h : c = .ok false) : ifS c (Rs.ret (.ok (.bool false))) (.ok (.nx ())) k = k () := by rw [h, ifS_f, Rs.seq_nx]
theorem ptsW_eq (w : Wd) : ptsW w = [w ++ [0], w ++ [1], w ++ [2], w ++ [3]] := rfl
theorem whole_snoc (w : Wd) (i : Fin 4) : wholeD (w ++ [i]) = dW w := by
  unfold wholeD
  rw [if_neg (by simp), List.dropLast_concat]
theorem side_snoc (w : Wd) (i : Fin 4) (h : w.length < 5) : (cor (w ++ [i])).2.2 * 2 = (cor w).2.2 := by
  rw [cor_eq (w ++ [i]).length _ rfl (by simp; omega), cor_eq w.length w rfl (by omega)]
  dsimp only
  rw [sd_succ h, List.length_append]; simp; omega
theorem word_in (x y : Nat) (w : Wd) (i : Fin 4) : (wordOf x y (w ++ [i]).length = w ++ [i]) ↔ (wordOf x y w.length = w ∧ dig x y (16 / 2 ^ w.length) = i) := by
  rw [List.length_append, show w.length + [i].length = w.length + 1 from rfl, wordOf_succ]
  constructor
  · intro h
    have := List.append_inj' h rfl
    exact ⟨this.1, List.singleton_inj.mp this.2⟩
  · rintro ⟨h1, h2⟩
    rw [h1, h2]
theorem sib_prefix (w : Wd) (i j : Fin 4) (h : i ≠ j) : ¬ (w ++ [i] <+: w ++ [j]) := fun hp => by
  have := hp.eq_of_length (by simp)
  exact h (List.singleton_inj.mp (List.append_inj' this rfl).2)
theorem long_prefix (a b : Wd) (h : b.length < a.length) : ¬ (a <+: b) := fun hp => by have := hp.length_le; omega

/-! Plain law: steps. -/
theorem bindK {α β : Type} {m : Rs α} {k : α → Rs β} {a : α} (h : m = .ok a) : m.bind k = k a := by rw [h]; rfl
theorem finK {m : Rs (Out Unit)} {d : D} (h : m = .ok (.ret d)) : m.fin = .ok d := by rw [h]; rfl
theorem retK {α : Type} {m : Rs D} {d : D} (h : m = .ok d) : (Rs.ret m : Rs (Out α)) = .ok (.ret d) := by rw [h]; rfl
theorem seqK {α β : Type} {m : Rs (Out α)} {k : α → Rs (Out β)} {a : α} (h : m = .ok (.nx a)) : m.seq k = k a := by rw [h]; rfl
theorem chkNe {β : Type} {m1 m2 : Rs D} {k : Unit → Rs (Out β)} {d : D} (h1 : m1 = .ok d) (h2 : m2 = .ok d) (hs : SeqAt.shaped d = true) : ifS (c2 pNe m1 m2) (Rs.ret (.ok (.bool false))) (.ok (.nx ())) k = k () := by
  rw [h1, h2]
  exact chk (ne_same hs)
theorem tNe {m1 m2 : Rs D} {d : D} (h1 : m1 = .ok d) (h2 : m2 = .ok d) (hs : SeqAt.shaped d = true) : c2 pNe m1 m2 = .ok false := by
  rw [h1, h2]
  exact ne_same hs
theorem or_ff {a b : Rs Bool} (h1 : a = .ok false) (h2 : b = .ok false) : Rs.orB a b = .ok false := by rw [h1, h2]; rfl
theorem and_f {a b : Rs Bool} (h1 : a = .ok false) : Rs.andB a b = .ok false := by rw [h1]; rfl
theorem and_tf {a b : Rs Bool} {c : Bool} (h1 : a = .ok c) (h2 : c = true → b = .ok false) : Rs.andB a b = .ok false := by
  rw [h1]
  cases c with
  | false => rfl
  | true => rw [h2 rfl]; rfl
theorem not_t {m : Rs D} (h : m = .ok (.bool true)) : Rs.notB (isB m) = .ok false := by rw [h]; rfl
theorem ifT {α β : Type} {c : Rs Bool} {a b : Rs (Out α)} {k : α → Rs (Out β)} {x : α} (h : c = .ok true) (h2 : a = .ok (.nx x)) : ifS c a b k = k x := by rw [h, ifS_t, h2, Rs.seq_nx]
theorem ifF {α β : Type} {c : Rs Bool} {a b : Rs (Out α)} {k : α → Rs (Out β)} {x : α} (h : c = .ok false) (h2 : b = .ok (.nx x)) : ifS c a b k = k x := by rw [h, ifS_f, h2, Rs.seq_nx]
theorem ifB {α β : Type} {c : Rs Bool} {a b : Rs (Out α)} {k : α → Rs (Out β)} {x : α} {p : Bool} (h : c = .ok p) (h1 : p = true → a = .ok (.nx x)) (h2 : p = false → b = .ok (.nx x)) : ifS c a b k = k x := by
  cases p with
  | true => exact ifT h (h1 rfl)
  | false => exact ifF h (h2 rfl)
section
variable {ι γ : Type} {l : List ι} {hh : ι → D} {mi : Rs (List D)}
theorem lcEv {take : D → Option γ} {t : γ → Rs Bool} {f : γ → Rs D} {p : ι → Bool} {g : ι → D} {c : ι → γ} (h0 : mi = .ok (l.map hh)) (hc : ∀ a ∈ l, take (hh a) = some (c a)) (ht : ∀ a ∈ l, t (c a) = .ok (p a)) (he : ∀ a ∈ l, p a = true → f (c a) = .ok (g a)) :
    lcV take mi t f = .ok (.list ((l.filter p).map g)) := by
  rw [h0, lcV_ok, lcM_okL (p := p) (g := g) fun a ha => ⟨c a, hc a ha, ht a ha, he a ha⟩]; rfl
theorem lcMap {f : D → Rs D} {g : ι → D} (h0 : mi = .ok (l.map hh)) (he : ∀ a ∈ l, f (hh a) = .ok (g a)) : lcV some mi (fun _ => .ok true) f = .ok (.list (l.map g)) := by
  rw [h0, lcV_ok, lcM_mapL (g := g) fun a ha => ⟨hh a, rfl, rfl, he a ha⟩]; rfl
theorem lcFil {t : D → Rs Bool} {f : D → Rs D} {p : ι → Bool} {g : ι → D} (h0 : mi = .ok (l.map hh)) (ht : ∀ a ∈ l, t (hh a) = .ok (p a)) (he : ∀ a ∈ l, p a = true → f (hh a) = .ok (g a)) : lcV some mi t f = .ok (.list ((l.filter p).map g)) :=
  lcEv (c := hh) h0 (fun _ _ => rfl) ht he
theorem lcNone {take : D → Option γ} {t : γ → Rs Bool} {f : γ → Rs D} {c : ι → γ} (h0 : mi = .ok (l.map hh)) (hc : ∀ a ∈ l, take (hh a) = some (c a)) (ht : ∀ a ∈ l, t (c a) = .ok false) : lcV take mi t f = .ok (.list []) := by
  rw [lcEv (p := fun _ => false) (g := fun _ => .none) (c := c) h0 hc ht fun _ _ z => by cases z]
  simp
theorem forAll {β : Type} {take : D → Option γ} {mb : Unit → γ → Rs (Out Unit)} {k : Unit → Rs (Out β)} {c : ι → γ} (h0 : mi = .ok (l.map hh)) (hc : ∀ a ∈ l, take (hh a) = some (c a)) (h : ∀ a ∈ l, mb () (c a) = .ok (.nx ())) : forS take mi () mb k = k () := by
  rw [h0, forS_ok, forM_all, Rs.seq_nx]
  intro d hd
  obtain ⟨a, ha, rfl⟩ := List.mem_map.mp hd
  rw [hc a ha, took_some, h a ha]
end
theorem itK {m : Rs D} {l : List D} (h : m = .ok (.list l)) : Rs.bind m itemsOf = .ok l := by rw [h]; rfl
theorem a1 {m : Rs D} {d : D} {f : List D → Rs D} (h : m = .ok d) : Rs.bind (consM m (.ok [])) f = f [d] := by rw [h]; rfl
theorem c1K {m : Rs D} {d e : D} {g : List D → Rs D} (h : m = .ok d) (h2 : g [d] = .ok e) : cb g (consM m (.ok [])) = .ok e := by
  rw [h, consM_ok, cb_ok, h2, Rs.nox_ok]
theorem b2K {m1 m2 : Rs D} {d e x : D} {g : D → D → Rs D} (h : m1 = .ok d) (h1 : m2 = .ok e) (h2 : g d e = .ok x) : b2 g m1 m2 = .ok x := by
  rw [h, h1, b2_ok, h2, Rs.nox_ok]
/-- the words of a list, as data -/
theorem dWs_map (l : List Wd) : dWs l = .list (l.map fun w => dW w) := rfl

/-! Plain law: the order of words; sorted, set. -/
abbrev wle (a b : Wd) : Bool := !decide (b < a)
theorem wL_lt_iff : ∀ a b : Wd, wL a < wL b ↔ a < b
  | [], [] => by simp [wL]
  | [], b :: bs => by simp [wL]
  | a :: as, [] => by simp [wL]
  | a :: as, b :: bs => by
    show ltr a :: wL as < ltr b :: wL bs ↔ _
    rw [List.cons_lt_cons_iff, List.cons_lt_cons_iff, wL_lt_iff as bs]
    unfold ltr
    rw [Fin.lt_def]
    constructor
    · rintro (h | ⟨h, q⟩)
      · exact .inl (by omega)
      · exact .inr ⟨Fin.ext (by omega), q⟩
    · rintro (h | ⟨h, q⟩)
      · exact .inl (by omega)
      · exact .inr ⟨by rw [h], q⟩
theorem dLe_w (a b : Wd) : dLe (dW a) (dW b) = wle a b := by
  rw [dLe_strs]
  unfold leS wle
  rw [sL_list, sL_list, decide_eq_decide.mpr (wL_lt_iff b a)]
theorem wle_iff {a b : Wd} : wle a b = true ↔ a ≤ b := by
  unfold wle
  rw [Bool.not_eq_true', decide_eq_false_iff_not]; exact Iff.rfl
theorem sortOk_dWs {l : List Wd} (h : l.length ≤ 16000000) : sortOk (l.map fun w => dW w) = true := by
  unfold sortOk
  simp only [Bool.and_eq_true, Bool.or_eq_true, List.all_eq_true, decide_eq_true_eq, List.mem_map, List.length_map]
  refine ⟨⟨⟨?_, .inr ?_⟩, ?_⟩, h⟩
  · rintro _ ⟨a, _, rfl⟩ _ ⟨b, _, rfl⟩
    simp [PySem.W.alike]
  · rintro _ ⟨a, _, rfl⟩; rfl
  · rintro _ ⟨a, _, rfl⟩
    exact ⟨shaped_w a, by rw [PyData.depth]; omega⟩
def sortW (l : List Wd) : List Wd := l.mergeSort wle
theorem sortD_dWs (l : List Wd) : sortD (l.map fun w => dW w) = (sortW l).map fun w => dW w :=
  (List.map_mergeSort (s := dLe) (r := wle) (f := fun w : Wd => dW w) fun a _ b _ => (dLe_w a b).symm).symm
theorem pSorted_w {l : List Wd} (h : l.length ≤ 16000000) : pSorted [dWs l] = .ok (dWs (sortW l)) := by
  show (if sortOk (l.map fun w => dW w) = true then Rs.ok (PyData.list (sortD (l.map fun w => dW w))) else .stuck) = _
  rw [if_pos (sortOk_dWs h), sortD_dWs]; rfl
theorem sortW_id {l : List Wd} (h : l.Pairwise (· ≤ ·)) : sortW l = l := List.mergeSort_of_pairwise (h.imp fun q => wle_iff.mpr q)
theorem sortW_pw (l : List Wd) : (sortW l).Pairwise (· ≤ ·) := (List.pairwise_mergeSort (le := wle) (fun a b c h1 h2 => wle_iff.mpr (List.le_trans (wle_iff.mp h1) (wle_iff.mp h2))) (fun a b => by rw [Bool.or_eq_true, wle_iff, wle_iff]; exact List.le_total a b) l).imp fun q => wle_iff.mp q
theorem sortW_perm (l : List Wd) : (sortW l).Perm l := List.mergeSort_perm l wle
theorem sortW_mem {l : List Wd} {w : Wd} : w ∈ sortW l ↔ w ∈ l := List.mem_mergeSort
theorem sortW_len (l : List Wd) : (sortW l).length = l.length := (sortW_perm l).length_eq
theorem app_le (w a b : Wd) : w ++ a ≤ w ++ b ↔ a ≤ b := by
  induction w with
  | nil => exact Iff.rfl
  | cons i w ih =>
    rw [List.cons_append, List.cons_append, List.cons_le_cons_iff]
    exact ⟨fun h => h.elim (fun z => absurd z (by simp)) fun z => ih.mp z.2, fun h => .inr ⟨rfl, ih.mpr h⟩⟩
theorem pts_pw (w : Wd) : (ptsW w).Pairwise (· ≤ ·) := by
  rw [ptsW_eq]
  have f : ∀ i j : Fin 4, i.val ≤ j.val → w ++ [i] ≤ w ++ [j] := fun i j h => by
    rw [app_le, List.cons_le_cons_iff]
    rcases Nat.lt_or_ge i.val j.val with q | q
    · exact .inl q
    · exact .inr ⟨Fin.ext (by omega), List.le_refl _⟩
  refine .cons (fun x hx => ?_) (.cons (fun x hx => ?_) (.cons (fun x hx => ?_) (.cons (fun x hx => by cases hx) .nil)))
  all_goals simp only [List.mem_cons, List.not_mem_nil, or_false] at hx
  · rcases hx with rfl | rfl | rfl <;> exact f _ _ (by decide)
  · rcases hx with rfl | rfl <;> exact f _ _ (by decide)
  · rcases hx with rfl; exact f _ _ (by decide)
theorem dedG_id {κ : Type} [DecidableEq κ] {xs : List κ} (h : xs.Nodup) : dedG xs = xs := by
  have go : ∀ (xs L : List κ), (L ++ xs).Nodup → xs.foldl stepG L = L ++ xs := by
    intro xs
    induction xs with
    | nil => intro L _; simp
    | cons x xs ih =>
      intro L h
      have hx : x ∉ L := fun hm => by
        have := (List.nodup_append.mp h).2.2
        exact absurd rfl (this x hm x List.mem_cons_self)
      rw [List.foldl_cons, stepG, if_neg hx, ih _ (by rw [List.append_assoc]; exact h), List.append_assoc]; rfl
  exact go xs [] h
theorem dLs_tups {xs : List (List Int)} (h : xs.Nodup) (hn : ∀ x ∈ xs, x ≠ []) (hl : xs.length < 64) (h0 : xs ≠ []) : pLSet (.list (xs.map tupI)) = .ok (.int xs.length) := by
  have e1 : strsOf? (xs.map tupI) = none := by
    cases xs with
    | nil => exact absurd rfl h0
    | cons x xs => rfl
  have e2 : setKd (xs.map tupI) = some (.t xs) := by
    unfold setKd
    rw [e1, tupsOf?_map xs hn]
    exact if_pos hl
  show (if (setKd (xs.map tupI)).isSome = true then Rs.ok (PyData.int (dedD (xs.map tupI)).length) else .stuck) = _
  rw [e2, if_pos (show (some (SetKd.t xs)).isSome = true from rfl), dedD_map eqv_tups, dedG_id h, List.length_map]
theorem dCt (t : Nat × Nat × Nat) : dC t = tupI [(t.1 : Int), (t.2.1 : Int), (t.2.2 : Int)] := rfl
theorem cor_inj {a b : Wd} (ha : a.length ≤ 5) (hl : a.length = b.length) (h : cor a = cor b) : a = b := by
  rw [cor_eq a.length a rfl ha, cor_eq b.length b rfl (by omega), ← hl] at h
  have hs := sd_pos a.length
  injection h with h1 h2
  injection h2 with h2 _
  exact geo_inj a.length a b rfl hl.symm (Nat.eq_of_mul_eq_mul_right hs h1) (Nat.eq_of_mul_eq_mul_right hs h2)
theorem shaped_l {n : Nat} {l : List D} (h : ∀ d ∈ l, Lay n d) (hn : n < 64 := by decide) : SeqAt.shaped (.list l) = true := Lay.shaped (Lay.list h) hn
theorem pMul_l4 (d : D) : pMul (.list [d]) (.int 4) = .ok (.list [d, d, d, d]) := (pMul_list (xs := [d]) 4 (by simp) (by decide)).trans rfl

/-! Plain law: six cases. -/
theorem six {P : Nat → Prop} (h0 : P 0) (h1 : P 1) (h2 : P 2) (h3 : P 3) (h4 : P 4) (h5 : P 5) : ∀ n, n ≤ 5 → P n
  | 0, _ => h0
  | 1, _ => h1
  | 2, _ => h2
  | 3, _ => h3
  | 4, _ => h4
  | 5, _ => h5

/-! Plain law: cells as sets of points, a point its word of five letters. -/
theorem mem4L (i : Fin 4) : i ∈ letters4 := by
  match i with
  | 0 => exact .head _
  | 1 => exact .tail _ (.head _)
  | 2 => exact .tail _ (.tail _ (.head _))
  | 3 => exact .tail _ (.tail _ (.tail _ (.head _)))
theorem mem_ptsW (w v : Wd) : v ∈ ptsW w ↔ ∃ i : Fin 4, v = w ++ [i] := by
  unfold ptsW
  rw [List.mem_map]
  exact ⟨fun ⟨i, _, e⟩ => ⟨i, e.symm⟩, fun ⟨i, e⟩ => ⟨i, mem4L i, e.symm⟩⟩
def exts : Nat → Wd → List Wd
  | 0, w => [w]
  | n + 1, w => letters4.flatMap fun i => exts n (w ++ [i])
theorem pre_split {w p : Wd} (h : w <+: p) (hl : w.length < p.length) : ∃ i : Fin 4, w ++ [i] <+: p := by
  obtain ⟨t, rfl⟩ := h
  cases t with
  | nil => simp at hl
  | cons i t => exact ⟨i, t, by simp⟩
theorem pre_app (w : Wd) (i : Fin 4) : w <+: w ++ [i] := List.prefix_append _ _
theorem pre_eq {w p : Wd} (h : w <+: p) (hl : p.length ≤ w.length) : w = p := h.eq_of_length_le hl
theorem pre_drop {u w : Wd} (h : u <+: w) (hn : u ≠ w) : u <+: w.dropLast := by
  obtain ⟨t, rfl⟩ := h
  rcases List.eq_nil_or_concat t with rfl | ⟨t', x, rfl⟩
  · simp at hn
  · rw [List.concat_eq_append, ← List.append_assoc, List.dropLast_concat]; exact List.prefix_append _ _
theorem drop_pre (w : Wd) : w.dropLast <+: w := List.dropLast_prefix w
theorem mem_exts : ∀ (n : Nat) (w p : Wd), p ∈ exts n w ↔ w <+: p ∧ p.length = w.length + n
  | 0, w, p => by
    rw [exts, List.mem_singleton]
    exact ⟨fun e => by rw [e]; exact ⟨List.prefix_refl _, rfl⟩, fun ⟨h, hl⟩ => (pre_eq h (by omega)).symm⟩
  | n + 1, w, p => by
    rw [exts, List.mem_flatMap]
    constructor
    · rintro ⟨i, _, h⟩
      obtain ⟨h1, h2⟩ := (mem_exts n _ p).mp h
      exact ⟨(pre_app w i).trans h1, by rw [h2]; simp; omega⟩
    · rintro ⟨h, hl⟩
      obtain ⟨i, hi⟩ := pre_split h (by omega)
      exact ⟨i, mem4L i, (mem_exts n _ p).mpr ⟨hi, by rw [hl]; simp; omega⟩⟩
theorem exts_len : ∀ (n : Nat) (w : Wd), (exts n w).length = 4 ^ n
  | 0, w => rfl
  | n + 1, w => by
    rw [exts, List.length_flatMap]
    have e : (letters4.map fun i => (exts n (w ++ [i])).length) = letters4.map fun _ => 4 ^ n := List.map_congr_left fun i _ => exts_len n _
    rw [e, Nat.pow_succ]
    show 4 ^ n + (4 ^ n + (4 ^ n + (4 ^ n + 0))) = _
    omega
def fullB (P : Wd → Bool) (n : Nat) (w : Wd) : Bool := (exts n w).all P
def Full (P : Wd → Bool) (N : Nat) (v : Wd) : Prop := ∀ p : Wd, p.length = N → v <+: p → P p = true
theorem fullB_iff (P : Wd → Bool) (n : Nat) (w : Wd) : fullB P n w = true ↔ Full P (w.length + n) w := by
  unfold fullB Full
  rw [List.all_eq_true]
  exact ⟨fun h p hl hp => h p ((mem_exts n w p).mpr ⟨hp, hl⟩), fun h p hp => by
    obtain ⟨h1, h2⟩ := (mem_exts n w p).mp hp
    exact h p h2 h1⟩
theorem Full.mono {P : Wd → Bool} {N : Nat} {u v : Wd} (h : Full P N u) (p : u <+: v) : Full P N v := fun q hl hq => h q hl (p.trans hq)
/-- the greatest cells within w all of whose points are P's, in order -/
def can (P : Wd → Bool) : Nat → Wd → List Wd
  | 0, w => if P w = true then [w] else []
  | n + 1, w => if fullB P (n + 1) w = true then [w] else letters4.flatMap fun i => can P n (w ++ [i])
theorem can_of_full {P : Wd → Bool} : ∀ (n : Nat) (w : Wd), fullB P n w = true → can P n w = [w]
  | 0, w, h => by
    have : P w = true := by
      unfold fullB at h
      rw [exts, List.all_cons, List.all_nil, Bool.and_true] at h; exact h
    rw [can, if_pos this]
  | n + 1, w, h => by rw [can, if_pos h]
theorem mem_can {P : Wd → Bool} : ∀ (n : Nat) (w v : Wd), v ∈ can P n w ↔ w <+: v ∧ v.length ≤ w.length + n ∧ Full P (w.length + n) v ∧ (v = w ∨ ¬ Full P (w.length + n) v.dropLast)
  | 0, w, v => by
    have one : P w = true ↔ Full P (w.length + 0) w := by
      rw [← fullB_iff]
      unfold fullB
      rw [exts, List.all_cons, List.all_nil, Bool.and_true]
    rw [can]
    by_cases h : P w = true
    · rw [if_pos h, List.mem_singleton]
      exact ⟨fun e => by rw [e]; exact ⟨List.prefix_refl _, by omega, one.mp h, .inl rfl⟩, fun ⟨h1, h2, _⟩ => (pre_eq h1 (by omega)).symm⟩
    · rw [if_neg h]
      refine ⟨fun z => (by cases z), fun ⟨h1, h2, h3, _⟩ => ?_⟩
      have e := pre_eq h1 (by omega)
      rw [← e] at h3
      exact absurd (one.mpr h3) h
  | n + 1, w, v => by
    rw [can]
    by_cases h : fullB P (n + 1) w = true
    · rw [if_pos h, List.mem_singleton]
      have hf := (fullB_iff P (n + 1) w).mp h
      refine ⟨fun e => by rw [e]; exact ⟨List.prefix_refl _, by omega, hf, .inl rfl⟩, fun ⟨h1, h2, h3, h4⟩ => ?_⟩
      rcases h4 with e | e
      · exact e
      · refine Classical.byContradiction fun z => e (hf.mono (pre_drop h1 (Ne.symm z)))
    · rw [if_neg h, List.mem_flatMap]
      have hf : ¬ Full P (w.length + (n + 1)) w := fun z => h ((fullB_iff P (n + 1) w).mpr z)
      constructor
      · rintro ⟨i, _, hv⟩
        obtain ⟨h1, h2, h3, h4⟩ := (mem_can n _ v).mp hv
        have el : (w ++ [i]).length + n = w.length + (n + 1) := by simp; omega
        rw [el] at h2 h3 h4
        refine ⟨(pre_app w i).trans h1, h2, h3, .inr ?_⟩
        rcases h4 with rfl | h4
        · rw [List.dropLast_concat]; exact hf
        · exact h4
      · rintro ⟨h1, h2, h3, h4⟩
        have hne : v ≠ w := fun e => hf (e ▸ h3)
        have hlt : w.length < v.length := by
          rcases Nat.lt_or_ge w.length v.length with q | q
          · exact q
          · exact absurd (pre_eq h1 q).symm hne
        obtain ⟨i, hi⟩ := pre_split h1 hlt
        refine ⟨i, mem4L i, (mem_can n _ v).mpr ?_⟩
        have el : (w ++ [i]).length + n = w.length + (n + 1) := by simp; omega
        rw [el]
        exact ⟨hi, h2, h3, .inr (h4.resolve_left hne)⟩
theorem app_lt (w a b : Wd) : w ++ a < w ++ b ↔ a < b := by
  induction w with
  | nil => exact Iff.rfl
  | cons i w ih =>
    rw [List.cons_append, List.cons_append, List.cons_lt_cons_iff]
    exact ⟨fun h => h.elim (fun z => absurd z (by simp)) fun z => ih.mp z.2, fun h => .inr ⟨rfl, ih.mpr h⟩⟩
theorem branch_lt {w a b : Wd} {i j : Fin 4} (h : i < j) (ha : w ++ [i] <+: a) (hb : w ++ [j] <+: b) : a < b := by
  obtain ⟨s, rfl⟩ := ha
  obtain ⟨t, rfl⟩ := hb
  rw [List.append_assoc, List.append_assoc, app_lt]
  exact List.cons_lt_cons_iff.mpr (.inl h)
theorem letters_lt : letters4.Pairwise (· < ·) := by
  unfold letters4
  decide
theorem can_sorted {P : Wd → Bool} : ∀ (n : Nat) (w : Wd), (can P n w).Pairwise (· < ·)
  | 0, w => by
    rw [can]; split
    · exact List.pairwise_singleton _ _
    · exact .nil
  | n + 1, w => by
    rw [can]
    split
    · exact List.pairwise_singleton _ _
    · rw [List.pairwise_flatMap]
      refine ⟨fun i _ => can_sorted n _, letters_lt.imp fun {i j} h a ha b hb => ?_⟩
      exact branch_lt h ((mem_can n _ a).mp ha).1 ((mem_can n _ b).mp hb).1
theorem lt_nodup {a : List Wd} (h : a.Pairwise (· < ·)) : a.Nodup := h.imp fun {x y} q e => by subst e; exact absurd q (List.lt_irrefl x)
theorem sorted_ext {a b : List Wd} (ha : a.Pairwise (· < ·)) (hb : b.Pairwise (· < ·)) (h : ∀ w, w ∈ a ↔ w ∈ b) : a = b :=
  List.Perm.eq_of_pairwise (le := fun x y => x < y) (fun x y _ _ h1 h2 => absurd (List.lt_trans h1 h2) (List.lt_irrefl x)) ha hb ((List.perm_ext_iff_of_nodup (lt_nodup ha) (lt_nodup hb)).mpr h)
def canon (P : Wd → Bool) : List Wd := can P 5 []
theorem mem_canon {P : Wd → Bool} {v : Wd} : v ∈ canon P ↔ v.length ≤ 5 ∧ Full P 5 v ∧ (v = [] ∨ ¬ Full P 5 v.dropLast) := by
  unfold canon
  rw [mem_can]
  simp only [List.length_nil, Nat.zero_add, List.nil_prefix, true_and]
theorem canon_lt (P : Wd → Bool) : (canon P).Pairwise (· < ·) := can_sorted 5 []
theorem canon_len {P : Wd → Bool} {v : Wd} (h : v ∈ canon P) : v.length ≤ 5 := (mem_canon.mp h).1
theorem canon_ext {P Q : Wd → Bool} (h : ∀ p : Wd, p.length = 5 → P p = Q p) : canon P = canon Q := by
  refine sorted_ext (canon_lt P) (canon_lt Q) fun w => ?_
  have f : ∀ v, Full P 5 v ↔ Full Q 5 v := fun v => ⟨fun z p hl hp => by rw [← h p hl]; exact z p hl hp, fun z p hl hp => by rw [h p hl]; exact z p hl hp⟩
  rw [mem_canon, mem_canon, f, f]
/-- whether some word of l has the point p -/
def cvB (l : List Wd) (p : Wd) : Bool := l.any fun w => decide (w <+: p)
theorem cvB_iff {l : List Wd} {p : Wd} : cvB l p = true ↔ ∃ w ∈ l, w <+: p := by
  unfold cvB
  rw [List.any_eq_true]
  exact ⟨fun ⟨w, hw, h⟩ => ⟨w, hw, of_decide_eq_true h⟩, fun ⟨w, hw, h⟩ => ⟨w, hw, decide_eq_true h⟩⟩
theorem can_has {P : Wd → Bool} {p : Wd} (hp : P p = true) : ∀ (n : Nat) (w : Wd), w <+: p → p.length = w.length + n → ∃ v ∈ can P n w, v <+: p
  | 0, w, h, hl => by
    have e := pre_eq h (by omega)
    rw [can, if_pos (by rw [e]; exact hp)]
    exact ⟨w, .head _, h⟩
  | n + 1, w, h, hl => by
    rw [can]
    split
    · exact ⟨w, .head _, h⟩
    · obtain ⟨i, hi⟩ := pre_split h (by omega)
      obtain ⟨v, hv, hvp⟩ := can_has hp n _ hi (by rw [hl]; simp; omega)
      exact ⟨v, List.mem_flatMap.mpr ⟨i, mem4L i, hv⟩, hvp⟩
theorem canon_cv {P : Wd → Bool} {p : Wd} (hl : p.length = 5) : cvB (canon P) p = P p := by
  refine Bool.eq_iff_iff.mpr ⟨fun h => ?_, fun h => ?_⟩
  · obtain ⟨w, hw, hp⟩ := cvB_iff.mp h
    exact (mem_canon.mp hw).2.1 p hl hp
  · obtain ⟨v, hv, hvp⟩ := can_has h 5 [] List.nil_prefix (by simpa using hl)
    exact cvB_iff.mpr ⟨v, hv, hvp⟩
theorem cvB_app (a b : List Wd) (p : Wd) : cvB (a ++ b) p = (cvB a p || cvB b p) := by unfold cvB; rw [List.any_append]
/-! ### how many points -/
def szW (l : List Wd) : Nat := (l.map fun w => 4 ^ (5 - w.length)).sum
theorem sum_flatMap {ι : Type} (f : ι → List Nat) : ∀ l : List ι, (l.flatMap f).sum = (l.map fun i => (f i).sum).sum
  | [] => rfl
  | i :: l => by rw [List.flatMap_cons, List.sum_append, sum_flatMap f l, List.map_cons, List.sum_cons]
theorem can_size {P : Wd → Bool} : ∀ (n : Nat) (w : Wd), ((can P n w).map fun v => 4 ^ (w.length + n - v.length)).sum = (exts n w).countP P
  | 0, w => by
    rw [can, exts, List.countP_singleton]
    split
    · simp
    · rfl
  | n + 1, w => by
    rw [can]
    by_cases h : fullB P (n + 1) w = true
    · rw [if_pos h]
      have e : (exts (n + 1) w).countP P = (exts (n + 1) w).length := List.countP_eq_length.mpr fun p hp => List.all_eq_true.mp h p hp
      rw [e, exts_len]
      simp
    · rw [if_neg h, exts, List.countP_flatMap, List.map_flatMap, sum_flatMap]
      congr 1
      refine List.map_congr_left (fun i _ => ?_)
      have ih := can_size (P := P) n (w ++ [i])
      show _ = (exts n (w ++ [i])).countP P
      rw [← ih]
      congr 1
      refine List.map_congr_left fun v _ => ?_
      congr 1
      simp
      omega
def pts5 : List Wd := exts 5 []
theorem mem_pts5 {p : Wd} : p ∈ pts5 ↔ p.length = 5 := by
  unfold pts5
  rw [mem_exts]
  simp
theorem canon_size (P : Wd → Bool) : szW (canon P) = pts5.countP P := by
  have := can_size (P := P) 5 []
  simp only [List.length_nil, Nat.zero_add] at this
  exact this
theorem countP_or_and {α : Type} (P Q : α → Bool) : ∀ l : List α, (l.countP fun x => P x || Q x) + (l.countP fun x => P x && Q x) = l.countP P + l.countP Q
  | [] => rfl
  | x :: l => by
    have ih := countP_or_and P Q l
    rw [List.countP_cons, List.countP_cons, List.countP_cons, List.countP_cons]
    cases P x <;> cases Q x <;> simp <;> omega
theorem canon_few (P : Wd → Bool) : (canon P).length ≤ 1024 := by
  have h1 := canon_size P
  have h2 : pts5.countP P ≤ pts5.length := List.countP_le_length
  have h3 : pts5.length = 1024 := exts_len 5 []
  have h4 : ∀ l : List Wd, l.length ≤ szW l := by
    intro l
    induction l with
    | nil => exact Nat.le_refl _
    | cons w l ih =>
      unfold szW at ih ⊢
      rw [List.map_cons, List.sum_cons, List.length_cons]
      have := Nat.pow_pos (n := 5 - w.length) (show 0 < 4 by decide)
      omega
  have := h4 (canon P)
  omega
/-! ### joined -/
def AC (l : List Wd) : Prop := ∀ a ∈ l, ∀ b ∈ l, a <+: b → a = b
def allin (h : Wd) (f : List Wd) : Prop := ∀ i : Fin 4, h ++ [i] ∈ f
instance (h : Wd) (f : List Wd) : Decidable (allin h f) := by unfold allin; exact inferInstance
def jstep (f : List Wd) (h : Wd) : List Wd := if (ptsW h).all (fun w => decide (w ∈ f)) = true then (f.filter fun w => !decide (w ∈ ptsW h)) ++ [h] else f
def jlev (f : List Wd) (n : Nat) : List Wd := (sortW (dedG ((f.filter fun w => decide (w.length = n)).map List.dropLast))).foldl jstep f
def jfilt (l : List Wd) : List Wd := l.filter fun w => !(List.range w.length).any fun k => decide (w.take k ∈ l)
def joinedW (l : List Wd) : List Wd := sortW ([5, 4, 3, 2, 1].foldl jlev (jfilt (sortW (dedG l))))
theorem all_in (h : Wd) (f : List Wd) : (ptsW h).all (fun w => decide (w ∈ f)) = true ↔ allin h f := by
  rw [List.all_eq_true]
  exact ⟨fun z i => of_decide_eq_true (z _ ((mem_ptsW h _).mpr ⟨i, rfl⟩)), fun z w hw => by
    obtain ⟨i, rfl⟩ := (mem_ptsW h w).mp hw
    exact decide_eq_true (z i)⟩
theorem mem_jstep {f : List Wd} {h w : Wd} : w ∈ jstep f h ↔ if allin h f then (w ∈ f ∧ w ∉ ptsW h) ∨ w = h else w ∈ f := by
  unfold jstep
  by_cases c : allin h f
  · rw [if_pos c, if_pos ((all_in h f).mpr c), List.mem_append, List.mem_filter, List.mem_singleton, Bool.not_eq_true', decide_eq_false_iff_not]
  · rw [if_neg c, if_neg fun z => c ((all_in h f).mp z)]
/-- what a step keeps -/
structure JI (l f : List Wd) : Prop where
  len : ∀ w ∈ f, w.length ≤ 5
  nd : f.Nodup
  ac : AC f
  cv : ∀ p : Wd, p.length = 5 → cvB f p = cvB l p
theorem JI.step {l f : List Wd} {h : Wd} (hl : h.length ≤ 4) (J : JI l f) : JI l (jstep f h) := by
  by_cases c : allin h f
  case neg =>
    have e : jstep f h = f := if_neg fun z => c ((all_in h f).mp z)
    rw [e]; exact J
  case pos =>
    have e : jstep f h = (f.filter fun w => !decide (w ∈ ptsW h)) ++ [h] := if_pos ((all_in h f).mpr c)
    have m : ∀ w, w ∈ jstep f h ↔ (w ∈ f ∧ w ∉ ptsW h) ∨ w = h := fun w => by rw [mem_jstep, if_pos c]
    have hnf : h ∉ f := fun z => by
      have := J.ac h z _ (c 0) (pre_app h 0)
      have := congrArg List.length this
      simp at this
    refine ⟨fun w hw => ?_, ?_, fun a ha b hb hab => ?_, fun p hp => ?_⟩
    · rcases (m w).mp hw with q | rfl
      · exact J.len w q.1
      · omega
    · rw [e]
      refine List.nodup_append.mpr ⟨List.Pairwise.filter _ J.nd, List.nodup_cons.mpr ⟨by simp, .nil⟩, fun a ha b hb => ?_⟩
      rw [List.mem_singleton] at hb
      rw [hb]
      rintro rfl
      exact hnf (List.mem_filter.mp ha).1
    · rcases (m a).mp ha with qa | rfl
      · rcases (m b).mp hb with qb | rfl
        · exact J.ac a qa.1 b qb.1 hab
        · have := J.ac a qa.1 _ (c 0) (hab.trans (pre_app b 0))
          have h1 := congrArg List.length this
          have h2 := hab.length_le
          simp at h1
          omega
      · rcases (m b).mp hb with qb | rfl
        · by_cases hlt : a.length < b.length
          · obtain ⟨i, hi⟩ := pre_split hab hlt
            have := J.ac _ (c i) b qb.1 hi
            exact absurd ((mem_ptsW a b).mpr ⟨i, this.symm⟩) qb.2
          · exact pre_eq hab (by omega)
        · rfl
    · rw [← J.cv p hp]
      refine Bool.eq_iff_iff.mpr ⟨fun z => ?_, fun z => ?_⟩
      · obtain ⟨w, hw, hwp⟩ := cvB_iff.mp z
        rcases (m w).mp hw with q | rfl
        · exact cvB_iff.mpr ⟨w, q.1, hwp⟩
        · obtain ⟨i, hi⟩ := pre_split hwp (by omega)
          exact cvB_iff.mpr ⟨_, c i, hi⟩
      · obtain ⟨w, hw, hwp⟩ := cvB_iff.mp z
        by_cases q : w ∈ ptsW h
        · obtain ⟨i, rfl⟩ := (mem_ptsW h w).mp q
          exact cvB_iff.mpr ⟨h, (m h).mpr (.inr rfl), (pre_app h i).trans hwp⟩
        · exact cvB_iff.mpr ⟨w, (m w).mpr (.inl ⟨hw, q⟩), hwp⟩
theorem JI.fold {l : List Wd} : ∀ (hs : List Wd) {f : List Wd}, (∀ h ∈ hs, h.length ≤ 4) → JI l f → JI l (hs.foldl jstep f)
  | [], _, _, J => J
  | h :: hs, _, hh, J => JI.fold hs (fun x hx => hh x (List.mem_cons_of_mem _ hx)) (J.step (hh h List.mem_cons_self))
theorem mem_fold {m : Nat} : ∀ (hs : List Wd) (f : List Wd) (w : Wd), hs.Nodup → (∀ h ∈ hs, h.length = m) → (w ∈ hs.foldl jstep f ↔ (w ∈ f ∧ ¬ ∃ h ∈ hs, w ∈ ptsW h ∧ allin h f) ∨ (w ∈ hs ∧ allin w f))
  | [], f, w, _, _ => by simp
  | h :: hs, f, w, nd, hl => by
    have ⟨n1, n2⟩ := List.nodup_cons.mp nd
    have hlh := hl h List.mem_cons_self
    have hls : ∀ x ∈ hs, x.length = m := fun x hx => hl x (List.mem_cons_of_mem _ hx)
    -- the children of another one are as they were
    have same : ∀ x ∈ hs, (allin x (jstep f h) ↔ allin x f) := fun x hx => by
      have : ∀ i : Fin 4, (x ++ [i] ∈ jstep f h ↔ x ++ [i] ∈ f) := fun i => by
        rw [mem_jstep]
        split
        · have a1 : x ++ [i] ∉ ptsW h := fun z => by
            obtain ⟨j, e⟩ := (mem_ptsW h _).mp z
            have := (List.append_inj' e rfl).1
            exact n1 (this ▸ hx)
          have a2 : x ++ [i] ≠ h := fun e => by
            have := congrArg List.length e
            have := hls x hx
            simp at *
            omega
          exact ⟨fun z => z.elim (fun q => q.1) fun q => absurd q a2, fun z => .inl ⟨z, a1⟩⟩
        · exact Iff.rfl
      exact ⟨fun z i => (this i).mp (z i), fun z i => (this i).mpr (z i)⟩
    rw [List.foldl_cons, mem_fold hs (jstep f h) w n2 hls]
    have ex : (∃ x ∈ hs, w ∈ ptsW x ∧ allin x (jstep f h)) ↔ ∃ x ∈ hs, w ∈ ptsW x ∧ allin x f := ⟨fun ⟨x, hx, q, a⟩ => ⟨x, hx, q, (same x hx).mp a⟩, fun ⟨x, hx, q, a⟩ => ⟨x, hx, q, (same x hx).mpr a⟩⟩
    have ex2 : (w ∈ hs ∧ allin w (jstep f h)) ↔ (w ∈ hs ∧ allin w f) := ⟨fun ⟨a, c⟩ => ⟨a, (same w a).mp c⟩, fun ⟨a, c⟩ => ⟨a, (same w a).mpr c⟩⟩
    rw [ex, ex2, mem_jstep]
    have hno : w = h → ¬ ∃ x ∈ hs, w ∈ ptsW x ∧ allin x f := by
      rintro rfl ⟨x, hx, q, _⟩
      obtain ⟨j, e⟩ := (mem_ptsW x w).mp q
      have := congrArg List.length e
      have := hls x hx
      simp at *
      omega
    by_cases c : allin h f
    · rw [if_pos c]
      constructor
      · rintro (⟨(⟨a, b⟩ | rfl), d⟩ | ⟨a, b⟩)
        · exact .inl ⟨a, fun ⟨x, hx, q, e⟩ => by
            rcases (List.mem_cons.mp hx) with rfl | hx
            · exact b q
            · exact d ⟨x, hx, q, e⟩⟩
        · exact .inr ⟨List.mem_cons_self, c⟩
        · exact .inr ⟨List.mem_cons_of_mem _ a, b⟩
      · rintro (⟨a, b⟩ | ⟨a, b⟩)
        · exact .inl ⟨.inl ⟨a, fun q => b ⟨h, List.mem_cons_self, q, c⟩⟩, fun ⟨x, hx, q, e⟩ => b ⟨x, List.mem_cons_of_mem _ hx, q, e⟩⟩
        · rcases List.mem_cons.mp a with e | a
          · exact .inl ⟨.inr e, hno e⟩
          · exact .inr ⟨a, b⟩
    · rw [if_neg c]
      constructor
      · rintro (⟨a, d⟩ | ⟨a, b⟩)
        · exact .inl ⟨a, fun ⟨x, hx, q, e⟩ => by
            rcases (List.mem_cons.mp hx) with rfl | hx
            · exact c e
            · exact d ⟨x, hx, q, e⟩⟩
        · exact .inr ⟨List.mem_cons_of_mem _ a, b⟩
      · rintro (⟨a, b⟩ | ⟨a, b⟩)
        · exact .inl ⟨a, fun ⟨x, hx, q, e⟩ => b ⟨x, List.mem_cons_of_mem _ hx, q, e⟩⟩
        · rcases List.mem_cons.mp a with rfl | a
          · exact absurd b c
          · exact .inr ⟨a, b⟩
def UpTo (l f : List Wd) (n : Nat) : Prop := ∀ h : Wd, n ≤ h.length → h.length ≤ 5 → Full (cvB l) 5 h → ∃ u ∈ f, u <+: h
theorem heads_mem {f : List Wd} {n : Nat} {h : Wd} : h ∈ sortW (dedG ((f.filter fun w => decide (w.length = n)).map List.dropLast)) ↔ ∃ w ∈ f, w.length = n ∧ w.dropLast = h := by
  rw [sortW_mem, dedG_mem, List.mem_map]
  constructor
  · rintro ⟨w, hw, e⟩
    obtain ⟨h1, h2⟩ := List.mem_filter.mp hw
    exact ⟨w, h1, of_decide_eq_true h2, e⟩
  · rintro ⟨w, h1, h2, e⟩
    exact ⟨w, List.mem_filter.mpr ⟨h1, decide_eq_true h2⟩, e⟩
theorem JI.lev {l f : List Wd} {n : Nat} (hn : n + 1 ≤ 5) (J : JI l f) (u : UpTo l f (n + 1)) : JI l (jlev f (n + 1)) ∧ UpTo l (jlev f (n + 1)) n := by
  have hlen : ∀ h ∈ sortW (dedG ((f.filter fun w => decide (w.length = n + 1)).map List.dropLast)), h.length = n := fun h hh => by
    obtain ⟨w, _, hw, rfl⟩ := heads_mem.mp hh
    rw [List.length_dropLast, hw]; rfl
  have hnd : (sortW (dedG ((f.filter fun w => decide (w.length = n + 1)).map List.dropLast))).Nodup := (sortW_perm _).nodup_iff.mpr (dedG_nodup _)
  refine ⟨JI.fold _ (fun h hh => by rw [hlen h hh]; omega) J, fun h h1 h2 h3 => ?_⟩
  have mf : ∀ w, w ∈ jlev f (n + 1) ↔ _ := fun w => mem_fold (m := n) _ f w hnd hlen
  have keep : ∀ x ∈ f, x.length ≤ n → x ∈ jlev f (n + 1) := fun x hx hl => (mf x).mpr (.inl ⟨hx, fun ⟨y, hy, q, _⟩ => by
    obtain ⟨i, rfl⟩ := (mem_ptsW y x).mp q
    have := hlen y hy
    simp at hl
    omega⟩)
  rcases Nat.lt_or_ge n h.length with q | q
  · obtain ⟨x, hx, hp⟩ := u h q h2 h3
    by_cases c : ∃ y ∈ sortW (dedG ((f.filter fun w => decide (w.length = n + 1)).map List.dropLast)), x ∈ ptsW y ∧ allin y f
    · obtain ⟨y, hy, hxy, ha⟩ := c
      obtain ⟨i, rfl⟩ := (mem_ptsW y x).mp hxy
      exact ⟨y, (mf y).mpr (.inr ⟨hy, ha⟩), (pre_app y i).trans hp⟩
    · exact ⟨x, (mf x).mpr (.inl ⟨hx, c⟩), hp⟩
  · have hl : h.length = n := by omega
    by_cases c : ∃ i : Fin 4, h ++ [i] ∉ f
    · obtain ⟨i, hi⟩ := c
      obtain ⟨x, hx, hp⟩ := u (h ++ [i]) (by simp; omega) (by simp; omega) (h3.mono (pre_app h i))
      have hne : x ≠ h ++ [i] := fun e => hi (e ▸ hx)
      have := pre_drop hp hne
      rw [List.dropLast_concat] at this
      exact ⟨x, keep x hx (by have := this.length_le; omega), this⟩
    · have ha : allin h f := fun i => Classical.byContradiction fun z => c ⟨i, z⟩
      exact ⟨h, (mf h).mpr (.inr ⟨heads_mem.mpr ⟨_, ha 0, by simp; omega, List.dropLast_concat⟩, ha⟩), List.prefix_refl _⟩
theorem mem_jfilt {l : List Wd} {w : Wd} : w ∈ jfilt l ↔ w ∈ l ∧ ∀ k < w.length, w.take k ∉ l := by
  unfold jfilt
  rw [List.mem_filter, Bool.not_eq_true', List.any_eq_false]
  exact ⟨fun ⟨a, b⟩ => ⟨a, fun k hk z => b k (List.mem_range.mpr hk) (decide_eq_true z)⟩, fun ⟨a, b⟩ => ⟨a, fun k hk z => b k (List.mem_range.mp hk) (of_decide_eq_true z)⟩⟩
theorem jfilt_has {l : List Wd} {p : Wd} : ∀ (n : Nat) (w : Wd), w.length ≤ n → w ∈ l → w <+: p → ∃ u ∈ jfilt l, u <+: p
  | 0, w, hn, hw, hp => ⟨w, mem_jfilt.mpr ⟨hw, fun k hk => by omega⟩, hp⟩
  | n + 1, w, hn, hw, hp => by
    by_cases c : ∃ k, k < w.length ∧ w.take k ∈ l
    · obtain ⟨k, hk, hm⟩ := c
      exact jfilt_has n (w.take k) (by rw [List.length_take]; omega) hm ((List.take_prefix _ _).trans hp)
    · exact ⟨w, mem_jfilt.mpr ⟨hw, fun k hk z => c ⟨k, hk, z⟩⟩, hp⟩
theorem jfilt_JI {l : List Wd} (hl : ∀ w ∈ l, w.length ≤ 5) : JI l (jfilt (sortW (dedG l))) := by
  have m : ∀ w, w ∈ sortW (dedG l) ↔ w ∈ l := fun w => by rw [sortW_mem, dedG_mem]
  have nd : (sortW (dedG l)).Nodup := (sortW_perm _).nodup_iff.mpr (dedG_nodup _)
  refine ⟨fun w hw => hl w ((m w).mp (mem_jfilt.mp hw).1), List.Pairwise.filter _ nd, fun a ha b hb hab => ?_, fun p hp => ?_⟩
  · by_cases hlt : a.length < b.length
    · have := (mem_jfilt.mp hb).2 a.length hlt
      rw [← List.prefix_iff_eq_take.mp hab] at this
      exact absurd (mem_jfilt.mp ha).1 this
    · exact pre_eq hab (by omega)
  · refine Bool.eq_iff_iff.mpr ⟨fun z => ?_, fun z => ?_⟩
    · obtain ⟨w, hw, hwp⟩ := cvB_iff.mp z
      exact cvB_iff.mpr ⟨w, (m w).mp (mem_jfilt.mp hw).1, hwp⟩
    · obtain ⟨w, hw, hwp⟩ := cvB_iff.mp z
      obtain ⟨u, hu, hup⟩ := jfilt_has (l := sortW (dedG l)) w.length w (Nat.le_refl _) ((m w).mpr hw) hwp
      exact cvB_iff.mpr ⟨u, hu, hup⟩
theorem joined_canon {l : List Wd} (hl : ∀ w ∈ l, w.length ≤ 5) : joinedW l = canon (cvB l) := by
  have J0 := jfilt_JI hl
  have u0 : UpTo l (jfilt (sortW (dedG l))) 5 := fun h h1 h2 h3 => by
    have : cvB l h = true := h3 h (by omega) (List.prefix_refl _)
    rw [← J0.cv h (by omega)] at this
    exact cvB_iff.mp this
  obtain ⟨J1, u1⟩ := J0.lev (n := 4) (by decide) u0
  obtain ⟨J2, u2⟩ := J1.lev (n := 3) (by decide) u1
  obtain ⟨J3, u3⟩ := J2.lev (n := 2) (by decide) u2
  obtain ⟨J4, u4⟩ := J3.lev (n := 1) (by decide) u3
  obtain ⟨J5, u5⟩ := J4.lev (n := 0) (by decide) u4
  show sortW (jlev (jlev (jlev (jlev (jlev (jfilt (sortW (dedG l))) 5) 4) 3) 2) 1) = _
  generalize jlev (jlev (jlev (jlev (jlev (jfilt (sortW (dedG l))) 5) 4) 3) 2) 1 = f at J5 u5
  have hlt : (sortW f).Pairwise (· < ·) := by
    have nd : (sortW f).Nodup := (sortW_perm f).nodup_iff.mpr J5.nd
    exact ((sortW_pw f).and nd).imp fun {a b} q => by
      by_cases z : a < b
      · exact z
      · exact absurd (List.le_antisymm q.1 z) q.2
  refine sorted_ext hlt (canon_lt _) fun w => ?_
  have fu : ∀ u ∈ f, Full (cvB l) 5 u := fun u hu p hp hup => by
    rw [← J5.cv p hp]
    exact cvB_iff.mpr ⟨u, hu, hup⟩
  rw [sortW_mem, mem_canon]
  constructor
  · intro hw
    refine ⟨J5.len w hw, fu w hw, ?_⟩
    by_cases e : w = []
    · exact .inl e
    · refine .inr fun z => ?_
      obtain ⟨u, hu, hp⟩ := u5 w.dropLast (Nat.zero_le _) (by have := J5.len w hw; rw [List.length_dropLast]; omega) z
      have := J5.ac u hu w hw (hp.trans (drop_pre w))
      have h1 := hp.length_le
      rw [this, List.length_dropLast] at h1
      have h2 := List.length_pos_iff.mpr e
      omega
  · rintro ⟨h1, h2, h3⟩
    obtain ⟨u, hu, hp⟩ := u5 w (Nat.zero_le _) h1 h2
    by_cases e : u = w
    · exact e ▸ hu
    · have hd := pre_drop hp e
      rcases h3 with rfl | h3
      · exact absurd (List.prefix_nil.mp hp) e
      · exact absurd ((fu u hu).mono hd) h3

/-! Plain law: what the sets' functions tell. -/
theorem forM_encI {ι α σ : Type} {b : α → D → Rs (Out α)} {hh : ι → D} (enc : σ → α) {step : σ → ι → σ} (I : σ → Prop) : ∀ {l : List ι}, (∀ s, ∀ i ∈ l, I s → b (enc s) (hh i) = .ok (.nx (enc (step s i))) ∧ I (step s i)) → ∀ (s : σ), I s → forM b (l.map hh) (enc s) = .ok (.nx (enc (l.foldl step s)))
  | [], _, s, _ => rfl
  | i :: l, h, s, hi => by
    obtain ⟨h1, h2⟩ := h s i List.mem_cons_self hi
    rw [List.map_cons, forM_cons, h1, Rs.seq_nx, forM_encI enc I (fun s j hj => h s j (List.mem_cons_of_mem _ hj)) _ h2, List.foldl_cons]
theorem forEnc {ι α β σ : Type} {mi : Rs (List D)} {mb : α → D → Rs (Out α)} {k : α → Rs (Out β)} {l : List ι} {hh : ι → D} (enc : σ → α) {step : σ → ι → σ} (I : σ → Prop) (h0 : mi = .ok (l.map hh)) (s : σ) (hi : I s) (h : ∀ s, ∀ i ∈ l, I s → mb (enc s) (hh i) = .ok (.nx (enc (step s i))) ∧ I (step s i)) :
    forS some mi (enc s) mb k = k (enc (l.foldl step s)) := by
  rw [h0, forS_ok]
  have := forM_encI (b := fun a d => took (some d) (mb a)) (hh := hh) enc I (fun s i hi his => ⟨by rw [took_some]; exact (h s i hi his).1, (h s i hi his).2⟩) s hi
  rw [this, Rs.seq_nx]
theorem any_dWs (v : Wd) (l : List Wd) : ((l.map fun w => dW w).any fun z => PyData.eqv z (dW v)) = decide (v ∈ l) := by
  rw [List.any_map]
  refine Bool.eq_iff_iff.mpr ?_
  rw [List.any_eq_true, decide_eq_true_eq]
  constructor
  · rintro ⟨w, hw, h⟩
    have h' : PyData.eqv (dW w) (dW v) = true := h
    rw [eqv_ww, decide_eq_true_eq] at h'
    exact h' ▸ hw
  · intro h
    refine ⟨v, h, ?_⟩
    show PyData.eqv (dW v) (dW v) = true
    rw [eqv_ww, decide_eq_true_eq]
theorem pIn_dWs (v : Wd) (l : List Wd) : pIn (dW v) (dWs l) = .ok (.bool (decide (v ∈ l))) := by
  show (if (SeqAt.shaped (dW v) && SeqAt.shaped (dWs l)) = true then Rs.ok (PyData.bool ((l.map fun w => dW w).any fun z => PyData.eqv z (dW v))) else .stuck) = _
  rw [if_pos (by rw [shaped_w, shaped_dWs]; rfl), any_dWs]
theorem pNotIn_dWs (v : Wd) (l : List Wd) : pNotIn (dW v) (dWs l) = .ok (.bool (!decide (v ∈ l))) := by
  show (if (SeqAt.shaped (dW v) && SeqAt.shaped (dWs l)) = true then Rs.ok (PyData.bool (!(l.map fun w => dW w).any fun z => PyData.eqv z (dW v))) else .stuck) = _
  rw [if_pos (by rw [shaped_w, shaped_dWs]; rfl), any_dWs]
theorem in_dWs (v : Wd) (l : List Wd) : c2 pIn (.ok (dW v)) (.ok (dWs l)) = .ok (decide (v ∈ l)) := by rw [c2_ok, pIn_dWs]; rfl
theorem notIn_dWs (v : Wd) (l : List Wd) : c2 pNotIn (.ok (dW v)) (.ok (dWs l)) = .ok (!decide (v ∈ l)) := by rw [c2_ok, pNotIn_dWs]; rfl
theorem eqv_nil (ds : List D) : PyData.eqv (.list ds) (.list []) = ds.isEmpty := by
  rw [PyData.eqv]
  cases ds with
  | nil => rw [PyData.eqvAll]; rfl
  | cons d ds => rw [PyData.eqvAll]; rfl
theorem emp_filter {ι : Type} (g : ι → D) (p : ι → Bool) (l : List ι) : ((l.filter p).map g).isEmpty = !l.any p := by
  induction l with
  | nil => rfl
  | cons a l ih =>
    rw [List.filter_cons, List.any_cons]
    cases p a with
    | true => rw [if_pos rfl]; rfl
    | false => rw [if_neg (by simp), ih, Bool.false_or]
section
variable {ι : Type} {l : List ι} {hh g : ι → D} {mi : Rs (List D)} {t : D → Rs Bool} {f : D → Rs D} {p : ι → Bool}
theorem lc_ne (h0 : mi = .ok (l.map hh)) (ht : ∀ a ∈ l, t (hh a) = .ok (p a)) (he : ∀ a ∈ l, p a = true → f (hh a) = .ok (g a)) (hg : ∀ a ∈ l, Lay 5 (g a)) : c2 pNe (lcV some mi t f) (lstV (.ok [])) = .ok (l.any p) := by
  rw [lcFil h0 ht he, lstV_ok, c2_ok, pNe_of, eqv_nil, emp_filter, Bool.not_not]; rfl
  rw [shaped_l (n := 5)]; rfl
  intro d hd
  obtain ⟨a, ha, rfl⟩ := List.mem_map.mp hd
  exact hg a (List.mem_filter.mp ha).1
theorem lc_eq (h0 : mi = .ok (l.map hh)) (ht : ∀ a ∈ l, t (hh a) = .ok (p a)) (he : ∀ a ∈ l, p a = true → f (hh a) = .ok (g a)) (hg : ∀ a ∈ l, Lay 5 (g a)) : c2 pEq (lcV some mi t f) (lstV (.ok [])) = .ok (!l.any p) := by
  rw [lcFil h0 ht he, lstV_ok, c2_ok, pEq_of, eqv_nil, emp_filter]; rfl
  rw [shaped_l (n := 5)]; rfl
  intro d hd
  obtain ⟨a, ha, rfl⟩ := List.mem_map.mp hd
  exact hg a (List.mem_filter.mp ha).1
theorem beq_nil (h0 : mi = .ok (l.map hh)) (ht : ∀ a ∈ l, t (hh a) = .ok (p a)) (he : ∀ a ∈ l, p a = true → f (hh a) = .ok (g a)) (hg : ∀ a ∈ l, Lay 5 (g a)) : b2 pEq (lcV some mi t f) (lstV (.ok [])) = .ok (.bool (!l.any p)) := by
  rw [lcFil h0 ht he, lstV_ok, b2_ok, pEq_of, eqv_nil, emp_filter]; rfl
  rw [shaped_l (n := 5)]; rfl
  intro d hd
  obtain ⟨a, ha, rfl⟩ := List.mem_map.mp hd
  exact hg a (List.mem_filter.mp ha).1
theorem bne_nil (h0 : mi = .ok (l.map hh)) (ht : ∀ a ∈ l, t (hh a) = .ok (p a)) (he : ∀ a ∈ l, p a = true → f (hh a) = .ok (g a)) (hg : ∀ a ∈ l, Lay 5 (g a)) : b2 pNe (lcV some mi t f) (lstV (.ok [])) = .ok (.bool (l.any p)) := by
  rw [lcFil h0 ht he, lstV_ok, b2_ok, pNe_of, eqv_nil, emp_filter, Bool.not_not]; rfl
  rw [shaped_l (n := 5)]; rfl
  intro d hd
  obtain ⟨a, ha, rfl⟩ := List.mem_map.mp hd
  exact hg a (List.mem_filter.mp ha).1
end
theorem ss_dWs {l : List Wd} (h : l.length < 4000) : ssV (.ok (dWs l)) = .ok (dWs (sortW (dedG l))) := by
  have e : setKd (l.map fun w => dW w) = some (.s (l.map fun w => sL (wL w))) := by
    have : (l.map fun w => dW w) = (l.map fun w => sL (wL w)).map .str := by rw [List.map_map]; rfl
    unfold setKd
    rw [this, strsOf?_map]
    dsimp only
    rw [if_pos (by rw [List.length_map]; exact h)]
  show (pSSet (dWs l)).nox = _
  show ((if (setKd (l.map fun w => dW w)).isSome = true ∧ sortOk (l.map fun w => dW w) = true then Rs.ok (PyData.list (sortD (dedD (l.map fun w => dW w)))) else .stuck) : Rs D).nox = _
  rw [if_pos ⟨by rw [e]; rfl, sortOk_dWs (by omega)⟩, dedD_map eqv_ww, sortD_dWs]; rfl
theorem it_dWs (l : List Wd) : Rs.bind (.ok (dWs l)) itemsOf = .ok (l.map fun w => dW w) := rfl
theorem rg_len (n : Nat) (h : n ≤ 8388608) : Rs.bind (consM (.ok (.int n)) (.ok [])) pRange = .ok ((List.range n).map fun (i : Nat) => PyData.int (i : Int)) := by rw [consM_ok, Rs.bind_ok, pRange1 h]
theorem rg_len1 (n : Nat) (h : n ≤ 838860) : Rs.bind (consM (b2 pAdd (.ok (.int n)) (.ok (.int 1))) (.ok [])) pRange = .ok ((List.range (n + 1)).map fun (i : Nat) => PyData.int (i : Int)) := rg_len (n + 1) (by omega)
/-- some beginning of w, up to w, or shorter, is among l -/
theorem rg_any (w : Wd) (l : List Wd) (hw : w.length ≤ 1000) (n : Nat) : ∀ a ∈ List.range n, (fun (s : D) => c2 pIn (slV (.ok (dW w)) (.ok none) (Rs.bind (.ok s) asI)) (.ok (dWs l))) (.int (a : Int)) = .ok (decide (w.take a ∈ l)) := fun a _ => by
  dsimp only
  rw [Rs.bind_ok, asI_int, sl_take w a hw, in_dWs]
theorem jl1_ok {f : List Wd} {h : Wd} (hh : h.length ≤ 100) (hf : f.length ≤ 100000) : b_joined_l1 (dWs f) (dW h) = .ok (.nx (dWs (jstep f h))) := by
  unfold b_joined_l1
  refine (bindK (lc_parts h (by omega))).trans ?_
  have e : (isB (cb pAll (consM (lcV some (Rs.bind (.ok (dWs (ptsW h))) itemsOf) (fun (word_13 : D) => (.ok true)) (fun (word_13 : D) => (b2 pIn (.ok word_13) (.ok (dWs f))))) (.ok [])))) = .ok ((ptsW h).all fun w => decide (w ∈ f)) := by
    rw [lcMap (g := fun w => .bool (decide (w ∈ f))) (it_dWs _) fun w _ => by rw [b2_ok, pIn_dWs]; rfl]
    rw [consM_ok, cb_ok, pAll_map]; rfl
  by_cases c : (ptsW h).all (fun w => decide (w ∈ f)) = true
  · rw [c] at e
    refine (ifT (x := dWs (jstep f h)) e ?_).trans rfl
    have e2 := lcFil (f := fun d => .ok d) (g := fun w => dW w) (t := fun (w : D) => c2 pNotIn (.ok w) (.ok (dWs (ptsW h)))) (p := fun w => !decide (w ∈ ptsW h)) (it_dWs f) (fun w _ => notIn_dWs w (ptsW h)) (fun _ _ _ => rfl)
    refine (bindK (b2K e2 rfl (x := dWs (jstep f h)) ?_)).trans rfl
    unfold jstep
    rw [if_pos c, dWs_map, List.map_append, pAdd, if_pos]; rfl
    have := List.length_filter_le (fun w => !decide (w ∈ ptsW h)) f
    rw [sizeLine_eq, List.length_map]
    show _ + 1 ≤ _
    omega
  · rw [Bool.eq_false_iff.mpr c] at e
    refine (ifF (x := dWs (jstep f h)) e ?_).trans rfl
    unfold jstep
    rw [if_neg c]
theorem jstep_len (f : List Wd) (h : Wd) : (jstep f h).length ≤ f.length := by
  unfold jstep
  split
  · rename_i c
    have h0 := (all_in h f).mp c 0
    have : (f.filter fun w => !decide (w ∈ ptsW h)).length < f.length := List.length_filter_lt_length_iff_exists.mpr ⟨_, h0, by simp [(mem_ptsW h _).mpr ⟨0, rfl⟩]⟩
    rw [List.length_append]
    show _ + 1 ≤ _
    omega
  · exact Nat.le_refl _
theorem jstep_le {f : List Wd} {h : Wd} (hh : h.length ≤ 5) (hf : ∀ w ∈ f, w.length ≤ 5) : ∀ w ∈ jstep f h, w.length ≤ 5 := fun w hw => by
  rw [mem_jstep] at hw
  split at hw
  · rcases hw with q | rfl
    · exact hf w q.1
    · exact hh
  · exact hf w hw
theorem jfold_len : ∀ (hs f : List Wd), (hs.foldl jstep f).length ≤ f.length
  | [], f => Nat.le_refl _
  | h :: hs, f => Nat.le_trans (jfold_len hs (jstep f h)) (jstep_len f h)
theorem jfold_le : ∀ (hs f : List Wd), (∀ h ∈ hs, h.length ≤ 5) → (∀ w ∈ f, w.length ≤ 5) → ∀ w ∈ hs.foldl jstep f, w.length ≤ 5
  | [], f, _, h => h
  | h :: hs, f, h1, h2 => jfold_le hs (jstep f h) (fun x hx => h1 x (List.mem_cons_of_mem _ hx)) (jstep_le (h1 h List.mem_cons_self) h2)
theorem neg1 : (Rs.bind (Rs.bind (.ok (.int 1 : D)) pNeg) asI) = .ok (some (-1)) := rfl
def JK (f : List Wd) : Prop := f.length < 4000 ∧ ∀ w ∈ f, w.length ≤ 5
theorem jl2_ok {f : List Wd} {n : Nat} (hf : JK f) : b_joined_l2 (dWs f) (.int (n : Int)) = .ok (.nx (dWs (jlev f n))) ∧ JK (jlev f n) := by
  have hd : ∀ h ∈ sortW (dedG ((f.filter fun w => decide (w.length = n)).map List.dropLast)), h.length ≤ 5 := fun h hh => by
    obtain ⟨w, hw, _, rfl⟩ := heads_mem.mp hh
    have := hf.2 w hw
    rw [List.length_dropLast]; omega
  refine ⟨?_, Nat.lt_of_le_of_lt (jfold_len _ _) hf.1, jfold_le _ _ hd hf.2⟩
  unfold b_joined_l2
  have e := lcFil (t := fun (w : D) => c2 pEq (cb pLen (consM (.ok w) (.ok []))) (.ok (.int (n : Int)))) (f := fun (w : D) => slV (.ok w) (.ok none) (Rs.bind (Rs.bind (.ok (.int 1 : D)) pNeg) asI)) (g := fun w => dW w.dropLast) (p := fun w => decide (w.length = n)) (it_dWs f) (fun w hw => by
    have := hf.2 w hw
    rw [consM_ok, len_w w (by omega), ceq_ii]
    exact congrArg Rs.ok (decide_eq_decide.mpr (by omega))) (fun w hw _ => by
    rw [neg1]
    exact sl_last w (by have := hf.2 w hw; omega))
  have e2 : PyData.list ((f.filter fun w => decide (w.length = n)).map fun w => dW w.dropLast) = dWs ((f.filter fun w => decide (w.length = n)).map List.dropLast) := by
    rw [dWs_map, List.map_map]; rfl
  rw [e, e2, ss_dWs (by
    have := List.length_filter_le (fun w => decide (w.length = n)) f
    rw [List.length_map]
    have := hf.1
    omega)]
  refine (forEnc dWs (step := jstep) (fun f => f.length < 4000) (it_dWs _) f hf.1 fun s i hi hs => ⟨jl1_ok (by have := hd i hi; omega) (by omega), Nat.lt_of_le_of_lt (jstep_len _ _) hs⟩).trans rfl
theorem e_joined {l : List Wd} (hn : l.length < 4000) (hl : ∀ w ∈ l, w.length ≤ 5) : m_joined [dWs l] = .ok (dWs (canon (cvB l))) := by
  rw [← joined_canon hl]
  show (b_joined (dWs l)).fin = _
  refine finK ?_
  unfold b_joined
  refine (bindK (ss_dWs hn)).trans ?_
  have lg : (sortW (dedG l)).length < 4000 := by
    rw [sortW_len]
    exact Nat.lt_of_le_of_lt (by have := foldG_len l ([] : List Wd); rw [List.length_nil, Nat.zero_add] at this; exact this) hn
  have ll : ∀ w ∈ sortW (dedG l), w.length ≤ 5 := fun w hw => hl w ((dedG_mem l w).mp (sortW_mem.mp hw))
  unfold joinedW
  generalize sortW (dedG l) = s at lg ll
  have e := lcFil (f := fun d => .ok d) (t := fun (word_3 : D) => (c2 pEq (lcV some (Rs.bind (consM (cb pLen (consM (.ok word_3) (.ok []))) (.ok [])) pRange) (fun (size_4 : D) => (c2 pIn (slV (.ok word_3) (.ok none) (Rs.bind (.ok size_4) asI)) (.ok (dWs s)))) (fun (size_4 : D) => (.ok size_4))) (lstV (.ok [])))) (g := fun w => dW w) (p := fun w => !(List.range w.length).any fun k => decide (w.take k ∈ s)) (it_dWs s) (fun w hw => by
    have := ll w hw
    rw [consM_ok, len_w w (by omega)]
    exact lc_eq (g := fun (i : Nat) => .int (i : Int)) (rg_len w.length (by omega)) (rg_any w s (by omega) _) (fun _ _ _ => rfl) (fun _ _ => Lay.i _)) (fun _ _ _ => rfl)
  refine (bindK e).trans ?_
  have J : JK (jfilt s) := ⟨Nat.lt_of_le_of_lt (List.length_filter_le _ _) lg, fun w hw => ll w (List.mem_filter.mp hw).1⟩
  have K : ∀ (ns : List Nat) (f : List Wd), JK f → JK (ns.foldl jlev f) := fun ns => by
    induction ns with
    | nil => exact fun f h => h
    | cons n ns ih => exact fun f h => ih _ (jl2_ok (n := n) h).2
  refine (forEnc (l := [5, 4, 3, 2, 1]) (hh := fun (i : Nat) => .int (i : Int)) dWs (step := jlev) JK rfl (jfilt s) J fun f i _ hf => jl2_ok hf).trans ?_
  have := (K [5, 4, 3, 2, 1] (jfilt s) J).1
  rw [consM_ok, cb_ok, pSorted_w (by omega)]; rfl

/-! Plain law: what the sets' functions tell, the rest of it. -/
def isWs : D → Bool
  | .list l => decide (l.length ≤ 1024) && l.all isW
  | _ => false
def okWs : D → Prop
  | .list l => ∀ d ∈ l, okT d = true
  | d => (tyD d).isSome = true
theorem okWs_ty {d : D} (h : okWs d) : (tyD d).isSome = true := by
  cases d with
  | list l => rfl
  | _ => exact h
theorem e_are_words {d : D} (h : okWs d) : m_are_words [d] = .ok (.bool (isWs d)) := by
  show (b_are_words d).fin = _
  unfold b_are_words
  rw [isi_ok (okWs_ty h)]
  cases d with
  | list l =>
    show (Rs.ret (andV (.ok (.bool true)) _)).fin = _
    rw [andV_t, consM_ok, cb_ok]
    show (Rs.ret (andV (b2 pLe (Rs.ok (PyData.int l.length)).nox _) _)).fin = _
    rw [Rs.nox_ok, b2_ok, pLe_i, Rs.nox_ok]
    show _ = Rs.ok (PyData.bool (decide (l.length ≤ 1024) && l.all isW))
    by_cases c : l.length ≤ 1024
    · rw [decide_eq_true (by omega : (l.length : Int) ≤ 1024), andV_t, lcMap (l := l) (hh := id) (g := fun d => .bool (isW d)) (by rw [List.map_id]; rfl) fun d hd => by rw [id_eq, consM_ok, Rs.bind_ok, e_is_word (h d hd)]]
      rw [consM_ok, cb_ok, pAll_map, Rs.nox_ok, ret_ok, Rs.fin_ret, decide_eq_true c, Bool.true_and]
    · rw [decide_eq_false (by omega : ¬ (l.length : Int) ≤ 1024), andV_f, ret_ok, Rs.fin_ret, decide_eq_false c, Bool.false_and]
  | none => rfl
  | bool b => rfl
  | int i => rfl
  | tuple l => rfl
  | str l => rfl
  | dict l => cases h
theorem e_need_words {d : D} (h : okWs d) : m_need_words [d] = if isWs d = true then .ok .none else .exc "NoWord" := by
  show (b_need_words d).fin = _
  unfold b_need_words
  rw [consM_ok, Rs.bind_ok, e_are_words h]
  cases isWs d <;> rfl
/-- what may be handed in as words -/
def WL (l : List Wd) : Prop := l.length ≤ 1024 ∧ ∀ w ∈ l, w.length ≤ 5
theorem okWs_w {l : List Wd} (h : WL l) : okWs (dWs l) := fun d hd => by
  obtain ⟨w, hw, rfl⟩ := List.mem_map.mp hd
  exact okT_w w (by have := h.2 w hw; omega)
theorem isWs_w {l : List Wd} (h : WL l) : isWs (dWs l) = true := by
  show (decide ((l.map fun w => dW w).length ≤ 1024) && (l.map fun w => dW w).all isW) = true
  rw [List.length_map, decide_eq_true h.1, Bool.true_and, List.all_eq_true]
  intro d hd
  obtain ⟨w, hw, rfl⟩ := List.mem_map.mp hd
  exact isW_iff.mpr ⟨w, h.2 w hw, rfl⟩
theorem WL.canon (P : Wd → Bool) : WL (canon P) := ⟨canon_few P, fun _ h => canon_len h⟩
theorem need_ok {l : List Wd} (h : WL l) : Rs.bind (consM (.ok (dWs l)) (.ok [])) m_need_words = .ok .none := by
  rw [consM_ok, Rs.bind_ok, e_need_words (okWs_w h), if_pos (isWs_w h)]
theorem need_no {d : D} (h : okWs d) (e : isWs d = false) : Rs.bind (consM (.ok d) (.ok [])) m_need_words = .exc "NoWord" := by
  rw [consM_ok, Rs.bind_ok, e_need_words h, if_neg (by rw [e]; simp)]
theorem joinW {l : List Wd} (h : WL l) : Rs.bind (consM (.ok (dWs l)) (.ok [])) m_joined = .ok (dWs (canon (cvB l))) := by
  rw [consM_ok, Rs.bind_ok, e_joined (by have := h.1; omega) h.2]
theorem e_fewest {l : List Wd} (h : WL l) : m_fewest [dWs l] = .ok (dWs (canon (cvB l))) := by
  show (b_fewest (dWs l)).fin = _
  refine finK ?_
  unfold b_fewest
  exact (bindK (need_ok h)).trans (retK (joinW h))
theorem e_fewest_no {d : D} (h : okWs d) (e : isWs d = false) : m_fewest [d] = .exc "NoWord" := by
  show (b_fewest d).fin = _
  unfold b_fewest
  rw [need_no h e]; rfl
theorem fewW {l : List Wd} (h : WL l) : Rs.bind (consM (.ok (dWs l)) (.ok [])) m_fewest = .ok (dWs (canon (cvB l))) := by
  rw [consM_ok, Rs.bind_ok, e_fewest h]
theorem eqv_dWs (a b : List Wd) : PyData.eqv (dWs a) (dWs b) = decide (a = b) := by
  unfold dWs
  rw [PyData.eqv]
  induction a generalizing b with
  | nil =>
    cases b with
    | nil => rw [List.map_nil, PyData.eqvAll]; simp
    | cons w b => rw [List.map_nil, List.map_cons, PyData.eqvAll]; simp
  | cons v a ih =>
    cases b with
    | nil => rw [List.map_nil, List.map_cons, PyData.eqvAll]; simp
    | cons w b =>
      rw [List.map_cons, List.map_cons, PyData.eqvAll, ih, eqv_ww]
      refine Bool.eq_iff_iff.mpr ?_
      simp
theorem beq_dWs (a b : List Wd) : b2 pEq (.ok (dWs a)) (.ok (dWs b)) = .ok (.bool (decide (a = b))) := by
  rw [b2_ok, pEq_of (by rw [shaped_dWs, shaped_dWs]; rfl), eqv_dWs]; rfl
theorem ceq_dWs (a b : List Wd) : c2 pEq (.ok (dWs a)) (.ok (dWs b)) = .ok (decide (a = b)) := by
  rw [c2_ok, pEq_of (by rw [shaped_dWs, shaped_dWs]; rfl), eqv_dWs]; rfl
theorem cne_dWs (a b : List Wd) : c2 pNe (.ok (dWs a)) (.ok (dWs b)) = .ok (!decide (a = b)) := by
  rw [c2_ok, pNe_of (by rw [shaped_dWs, shaped_dWs]; rfl), eqv_dWs]; rfl
theorem intsOf_map : ∀ l : List Int, intsOf (l.map .int) = some l
  | [] => rfl
  | i :: l => by rw [List.map_cons, intsOf, intsOf_map l]; rfl
theorem pSum_map {ι : Type} (f : ι → Nat) (l : List ι) : pSum [.list (l.map fun a => .int (f a : Int))] = .ok (.int ((l.map f).sum : Nat)) := by
  have e : (l.map fun a => (PyData.int (f a : Int) : D)) = (l.map fun a => (f a : Int)).map .int := by rw [List.map_map]; rfl
  show (match intsOf (l.map fun a => (PyData.int (f a : Int) : D)) with | some bs => Rs.ok (PyData.int bs.sum) | none => Rs.stuck) = _
  rw [e, intsOf_map]
  refine congrArg (fun i => Rs.ok (PyData.int i)) ?_
  induction l with
  | nil => rfl
  | cons a l ih => rw [List.map_cons, List.sum_cons, List.map_cons, List.sum_cons, ih (by rw [List.map_map]; rfl)]; simp
theorem side_sq {w : Wd} (h : w.length ≤ 5) : (cor w).2.2 * (cor w).2.2 = 4 ^ (5 - w.length) := by
  rw [cor_eq w.length w rfl h]
  show sd w.length * sd w.length = _
  unfold sd
  rw [← Nat.mul_pow]
theorem ix_side (w : Wd) : b2 pIx (.ok (dC (cor w))) (.ok (.int 2)) = .ok (.int ((cor w).2.2 : Nat)) := by
  have := pIx_t [.int ((cor w).1 : Int), .int ((cor w).2.1 : Int), .int ((cor w).2.2 : Int)] 2 (show 2 < 3 by decide)
  rw [b2_ok]
  exact (congrArg Rs.nox this).trans rfl
theorem sq_side {w : Wd} (h : w.length ≤ 5) : b2 pMul (.ok (.int ((cor w).2.2 : Nat))) (.ok (.int ((cor w).2.2 : Nat))) = .ok (.int ((4 ^ (5 - w.length) : Nat) : Int)) := by
  have hb : (cor w).2.2 ≤ 32 := by have := (cor_le w h).1; omega
  rw [b2_ok, pMul_r (by omega) (by omega), Rs.nox_ok, ← side_sq h]; rfl
theorem add_dWs {a b : List Wd} (h : a.length + b.length ≤ 16777216) : b2 pAdd (.ok (dWs a)) (.ok (dWs b)) = .ok (dWs (a ++ b)) := by
  rw [b2_ok, dWs_map, dWs_map, pAdd, if_pos (by rw [List.length_map, List.length_map, sizeLine_eq]; exact h), ← List.map_append]; rfl
/-! ### one without the other -/
theorem len_sum {ι : Type} (f : ι → Nat) : ∀ l : List ι, (∀ a ∈ l, 0 < f a) → l.length ≤ (l.map f).sum
  | [], _ => Nat.le_refl _
  | a :: l, h => by
    have h1 := len_sum f l fun x hx => h x (List.mem_cons_of_mem _ hx)
    have h2 := h a List.mem_cons_self
    rw [List.map_cons, List.sum_cons, List.length_cons]; omega
theorem can_len (P : Wd → Bool) (n : Nat) (w : Wd) : (can P n w).length ≤ 4 ^ n := by
  have h1 := can_size (P := P) n w
  have h2 : (exts n w).countP P ≤ (exts n w).length := List.countP_le_length
  rw [exts_len] at h2
  have h3 := len_sum (fun v : Wd => 4 ^ (w.length + n - v.length)) (can P n w) fun _ _ => Nat.pow_pos (by decide)
  omega
theorem foldl_apps {ι α : Type} (F : ι → List α) : ∀ (l : List ι) (acc : List α), l.foldl (fun acc i => acc ++ F i) acc = acc ++ l.flatMap F
  | [], acc => by simp
  | i :: l, acc => by rw [List.foldl_cons, foldl_apps F l, List.flatMap_cons, List.append_assoc]
theorem full_not {o : List Wd} {n : Nat} {w : Wd} (hp : ∀ k < w.length + 1, w.take k ∉ o) (hl : ∀ v ∈ o, v.length ≤ w.length + n) : fullB (fun p => !cvB o p) n w = !o.any fun v => decide (w <+: v) := by
  refine Bool.eq_iff_iff.mpr ?_
  rw [fullB_iff, Bool.not_eq_true', List.any_eq_false]
  constructor
  · intro h v hv hw
    obtain ⟨p, hp1⟩ : ∃ p, p ∈ exts (w.length + n - v.length) v := by
      have := exts_len (w.length + n - v.length) v
      cases e : exts (w.length + n - v.length) v with
      | nil => rw [e] at this; have := Nat.pow_pos (n := w.length + n - v.length) (show 0 < 4 by decide); simp at *; omega
      | cons p _ => exact ⟨p, List.mem_cons_self⟩
    obtain ⟨h1, h2⟩ := (mem_exts _ v p).mp hp1
    have := h p (by have := hl v hv; omega) ((of_decide_eq_true hw).trans h1)
    rw [Bool.not_eq_true', ← Bool.not_eq_true] at this
    exact this (cvB_iff.mpr ⟨v, hv, h1⟩)
  · intro h p hlen hwp
    rw [Bool.not_eq_true', ← Bool.not_eq_true]
    intro z
    obtain ⟨v, hv, hvp⟩ := cvB_iff.mp z
    rcases Nat.le_total v.length w.length with q | q
    · have : v <+: w := List.prefix_of_prefix_length_le hvp hwp q
      exact hp v.length (by omega) (by rw [← List.prefix_iff_eq_take.mp this]; exact hv)
    · exact h v hv (decide_eq_true (List.prefix_of_prefix_length_le hwp hvp q))
theorem can_nil {P : Wd → Bool} : ∀ (n : Nat) (w : Wd), (∀ p : Wd, w <+: p → p.length = w.length + n → P p = false) → can P n w = [] := fun n w h => by
  have h1 := can_size (P := P) n w
  have h2 : (exts n w).countP P = 0 := List.countP_eq_zero.mpr fun p hp => by
    obtain ⟨q1, q2⟩ := (mem_exts n w p).mp hp
    rw [h p q1 q2]; simp
  have h3 := len_sum (fun v : Wd => 4 ^ (w.length + n - v.length)) (can P n w) fun _ _ => Nat.pow_pos (by decide)
  exact List.eq_nil_of_length_eq_zero (by omega)
theorem ext_dWs {β : Type} {l : List Wd} {n : Nat} {kk : List D → Rs (Out β)} (h : n + l.length ≤ 16000000) : extS (.ok (dWs l)) n kk = kk (l.map fun w => dW w) := by
  show (if n + (l.map fun w => dW w).length ≤ 16000000 then kk (l.map fun w => dW w) else .stuck) = _
  rw [if_pos (by rw [List.length_map]; exact h)]
theorem pre_any (w : Wd) (o : List Wd) : ((List.range (w.length + 1)).any fun k => decide (w.take k ∈ o)) = true ↔ ∃ v ∈ o, v <+: w := by
  rw [List.any_eq_true]
  constructor
  · rintro ⟨k, _, h⟩
    exact ⟨_, of_decide_eq_true h, List.take_prefix _ _⟩
  · rintro ⟨v, hv, h⟩
    have := h.length_le
    exact ⟨v.length, List.mem_range.mpr (by omega), decide_eq_true (by rw [← List.prefix_iff_eq_take.mp h]; exact hv)⟩
theorem it_abcd : Rs.bind (.ok (.str "abcd")) itemsOf = .ok (letters4.map dL) := items_abcd
theorem flat_le (F : Wd → List Wd) : ∀ l : List Wd, (∀ w ∈ l, (F w).length ≤ 4 ^ (5 - w.length)) → (l.flatMap F).length ≤ szW l
  | [], _ => Nat.le_refl _
  | w :: l, h => by
    have h1 := flat_le F l fun x hx => h x (List.mem_cons_of_mem _ hx)
    have h2 := h w List.mem_cons_self
    unfold szW at h1 ⊢
    rw [List.flatMap_cons, List.length_append, List.map_cons, List.sum_cons]; omega
theorem canon_1024 (P : Wd → Bool) : szW (canon P) ≤ 1024 := by
  rw [canon_size]
  have h2 : pts5.countP P ≤ pts5.length := List.countP_le_length
  have h3 : pts5.length = 1024 := exts_len 5 []
  omega
/-! Plain law: lists of words that are drawn. -/
theorem drw {ns : List Int} {ma mm : Rs D} {z m : Int} (k many : Nat) (h1 : ma = .ok (.int z)) (h2 : mm = .ok (.int m)) (hz : z = k) (hm : m = many) (hl : ns.length ≤ 63) (h0 : 0 < many) : Rs.bind (consM (.ok (dS ns)) (consM ma (consM mm (.ok [])))) m_law_drawn = .ok (.int (drawnN ns k many : Nat)) := by
  subst hz hm
  rw [h1, h2, consM_ok, consM_ok, consM_ok, Rs.bind_ok, e_drawn ns k many hl h0]
theorem q_mul7 (j : Int) : pMul (.int 7) (.int j) = .ok (.int (7 * j)) := pMul_l (by decide) (by decide)
theorem wrd {ns : List Int} {ma : Rs D} {z : Int} (k : Nat) (h1 : ma = .ok (.int z)) (hz : z = k) (hl : ns.length ≤ 63) : Rs.bind (consM (.ok (dS ns)) (consM ma (.ok []))) m_law_word = .ok (dW (wordZ ns k)) := by
  subst hz
  rw [h1, consM_ok, consM_ok, Rs.bind_ok, e_word ns k hl]
theorem rg_n {m : Rs D} {n : Nat} (h : m = .ok (.int (n : Nat))) (hn : n ≤ 8388608) : Rs.bind (consM m (.ok [])) pRange = .ok ((List.range n).map fun (i : Nat) => PyData.int (i : Int)) := by rw [h, consM_ok, Rs.bind_ok, pRange1 hn]
theorem map_dWs {ι : Type} (f : ι → Wd) (l : List ι) : (PyData.list (l.map fun a => dW (f a)) : D) = dWs (l.map f) := by
  unfold dWs
  rw [List.map_map]; rfl
theorem ix_0 (w : Wd) (l : List Wd) : b2 pIx (.ok (dWs (w :: l))) (.ok (.int 0)) = .ok (dW w) := by
  have := pIx_l ((w :: l).map fun w => dW w) 0 (by rw [List.length_map]; simp)
  rw [b2_ok]
  exact (congrArg Rs.nox this).trans rfl
theorem sl_from {l : List Wd} (n : Nat) : slV (.ok (dWs l)) (.ok (some (n : Int))) (.ok none) = .ok (dWs (l.drop n)) := by
  rw [slV_ok]
  show (Rs.ok (PyData.list (cutD (l.map fun w => dW w) (some (n : Int)) none))).nox = _
  unfold cutD
  rw [HT.sIx_none, HT.sIx_nat, Rs.nox_ok, List.length_map]
  rcases Nat.le_total n l.length with q | q
  · rw [Nat.min_eq_left q, List.take_of_length_le (by simp), ← List.map_drop]; rfl
  · rw [Nat.min_eq_right q, List.drop_of_length_le q, List.drop_of_length_le (by simp), List.take_nil]; rfl
theorem sl_upto {l : List Wd} (n : Nat) : slV (.ok (dWs l)) (.ok none) (.ok (some (n : Int))) = .ok (dWs (l.take n)) := by
  rw [slV_ok]
  show (Rs.ok (PyData.list (cutD (l.map fun w => dW w) none (some (n : Int))))).nox = _
  unfold cutD
  rw [HT.sIx_none, HT.sIx_nat, Rs.nox_ok, List.length_map, List.drop_zero, Nat.sub_zero]
  rcases Nat.le_total n l.length with q | q
  · rw [Nat.min_eq_left q, ← List.map_take]; rfl
  · rw [Nat.min_eq_right q, List.take_of_length_le q, List.take_of_length_le (by simp)]; rfl
theorem asI_k (n : Nat) (z : Int) (h : z = n) : Rs.bind (.ok (.int z : D)) asI = .ok (some (n : Int)) := by rw [h]; rfl
theorem c2K {m1 m2 : Rs D} {d e : D} {x : Bool} {g : D → D → Rs D} (h : m1 = .ok d) (h1 : m2 = .ok e) (h2 : c2 g (.ok d) (.ok e) = .ok x) : c2 g m1 m2 = .ok x := by rw [h, h1, h2]
theorem andK {a b : Rs Bool} {x y : Bool} (h : a = .ok x) (h2 : b = .ok y) : Rs.andB a b = .ok (x && y) := by rw [h, h2, andB_ok]
theorem orK {a b : Rs Bool} {x y : Bool} (h : a = .ok x) (h2 : b = .ok y) : Rs.orB a b = .ok (x || y) := by rw [h, h2, orB_ok]
theorem lenK {m : Rs D} {w : Wd} (h : m = .ok (dW w)) (hw : w.length ≤ 1000) : cb pLen (consM m (.ok [])) = .ok (.int w.length) := by rw [h, consM_ok, len_w w hw]
theorem clt_n (a b : Nat) (z : Int) (h : z = b) : c2 pLt (.ok (.int (a : Int))) (.ok (.int z)) = .ok (decide (a < b)) := by
  rw [h, clt_ii]; exact congrArg Rs.ok (decide_eq_decide.mpr (by omega))
theorem ceq_n (a b : Nat) (z : Int) (h : z = b) : c2 pEq (.ok (.int (a : Int))) (.ok (.int z)) = .ok (decide (a = b)) := by
  rw [h, ceq_ii]; exact congrArg Rs.ok (decide_eq_decide.mpr (by omega))
theorem cgt_n (a b : Nat) (z : Int) (h : z = b) : c2 pGt (.ok (.int (a : Int))) (.ok (.int z)) = .ok (decide (b < a)) := by
  rw [h, cgt_ii]; exact congrArg Rs.ok (decide_eq_decide.mpr (by omega))
def wordsZ (ns : List Int) (at_ many : Nat) : List Wd := match (List.range (drawnN ns at_ (many + 1))).map fun k => wordZ ns (at_ + 7 * k + 1) with
  | [] => []
  | w :: l => if (decide (w.length < 5) && decide (drawnN ns (at_ + 60) 2 = 0)) = true then l ++ ptsW w else w :: l
theorem wordsZ_ok (ns : List Int) (at_ many : Nat) : (wordsZ ns at_ many).length ≤ many + 3 ∧ ∀ w ∈ wordsZ ns at_ many, w.length ≤ 5 := by
  unfold wordsZ
  have h1 := drawnN_lt ns at_ (many := many + 1) (by omega)
  have h2 : ((List.range (drawnN ns at_ (many + 1))).map fun k => wordZ ns (at_ + 7 * k + 1)).length ≤ many := by rw [List.length_map, List.length_range]; omega
  have h3 : ∀ w ∈ (List.range (drawnN ns at_ (many + 1))).map fun k => wordZ ns (at_ + 7 * k + 1), w.length ≤ 5 := fun w hw => by
    obtain ⟨k, _, rfl⟩ := List.mem_map.mp hw
    exact wordZ_le _ _
  generalize (List.range (drawnN ns at_ (many + 1))).map (fun k => wordZ ns (at_ + 7 * k + 1)) = l at h2 h3
  cases l with
  | nil => exact ⟨Nat.zero_le _, fun w hw => by cases hw⟩
  | cons w l =>
    dsimp only
    rw [List.length_cons] at h2
    split
    · rename_i c
      have c1 := of_decide_eq_true ((Bool.and_eq_true _ _).mp c).1
      refine ⟨by rw [List.length_append, ptsW_eq]; show l.length + 4 ≤ _; omega, fun v hv => ?_⟩
      rcases List.mem_append.mp hv with q | q
      · exact h3 v (List.mem_cons_of_mem _ q)
      · obtain ⟨i, rfl⟩ := (mem_ptsW w v).mp q
        rw [List.length_append]; show w.length + 1 ≤ 5; omega
    · exact ⟨by rw [List.length_cons]; omega, h3⟩
theorem e_words (ns : List Int) (at_ many : Nat) (hl : ns.length ≤ 63) (hm : many ≤ 100) : m_law_words [dS ns, .int at_, .int many] = .ok (dWs (wordsZ ns at_ many)) := by
  show (b_law_words (dS ns) (.int at_) (.int many)).fin = _
  refine finK ?_
  unfold b_law_words wordsZ
  have h1 := drawnN_lt ns at_ (many := many + 1) (by omega)
  have h3 : ∀ w ∈ (List.range (drawnN ns at_ (many + 1))).map fun k => wordZ ns (at_ + 7 * k + 1), w.length ≤ 5 := fun w hw => by
    obtain ⟨k, _, rfl⟩ := List.mem_map.mp hw
    exact wordZ_le _ _
  have h2 : ((List.range (drawnN ns at_ (many + 1))).map fun k => wordZ ns (at_ + 7 * k + 1)).length ≤ many := by rw [List.length_map, List.length_range]; omega
  refine (bindK ((lcMap (l := List.range (drawnN ns at_ (many + 1))) (hh := fun (i : Nat) => .int (i : Int)) (g := fun k => dW (wordZ ns (at_ + 7 * k + 1))) (rg_n (drw at_ (many + 1) rfl rfl rfl (by omega) hl (by omega)) (by omega)) fun k _ => wrd (z := (at_ : Int) + 7 * (k : Int) + 1) (at_ + 7 * k + 1) (by simp only [q_b2, q_mul7, q_add, q_nox]) (by omega) hl).trans (congrArg Rs.ok (map_dWs _ _)))).trans ?_
  generalize (List.range (drawnN ns at_ (many + 1))).map (fun k => wordZ ns (at_ + 7 * k + 1)) = l at h3 h2 ⊢
  cases l with
  | nil => exact (ifF (and_f (cne_dWs [] [])) rfl).trans rfl
  | cons w l =>
    rw [List.length_cons] at h2
    have hw := h3 w List.mem_cons_self
    have e0 : c2 pNe (.ok (dWs (w :: l))) (lstV (.ok [])) = .ok true := (cne_dWs (w :: l) []).trans (by rw [decide_eq_false (by simp)]; rfl)
    have e : ∀ m, m = .ok (.int (drawnN ns (at_ + 60) 2 : Nat)) → Rs.andB (c2 pNe (.ok (dWs (w :: l))) (lstV (.ok []))) (Rs.andB (c2 pLt (cb pLen (consM (b2 pIx (.ok (dWs (w :: l))) (.ok (.int 0))) (.ok []))) (.ok (.int 5))) (c2 pEq m (.ok (.int 0)))) = .ok (decide (w.length < 5) && decide (drawnN ns (at_ + 60) 2 = 0)) := fun m hm => by
      rw [andK e0 (andK (c2K (lenK (ix_0 w l) (by omega)) rfl (clt_n w.length 5 5 rfl)) (c2K hm rfl (ceq_n (drawnN ns (at_ + 60) 2) 0 0 rfl))), Bool.true_and]
    refine (ifB (p := (decide (w.length < 5) && decide (drawnN ns (at_ + 60) 2 = 0))) (x := if (decide (w.length < 5) && decide (drawnN ns (at_ + 60) 2 = 0)) = true then dWs (l ++ ptsW w) else dWs (w :: l)) (e _ (drw (at_ + 60) 2 rfl rfl (by omega) rfl hl (by decide))) (fun c => ?_) fun c => ?_).trans ?_
    · rw [if_pos c]
      have c1 := of_decide_eq_true ((Bool.and_eq_true _ _).mp c).1
      have s := sl_from (l := w :: l) 1
      refine (bindK (b2K (d := dWs l) (e := dWs (ptsW w)) (x := dWs (l ++ ptsW w)) s ?_ ?_)).trans rfl
      · rw [it_abcd, lcMap (g := fun i : Fin 4 => dW (w ++ [i])) rfl fun i _ => by rw [ix_0, dL_w, b2_ok, add_w w [i] (by simp; omega)]; rfl]
        rw [map_dWs]; rfl
      · have := add_dWs (a := l) (b := ptsW w) (by rw [ptsW_eq]; show _ + 4 ≤ _; omega)
        rw [b2_ok] at this
        cases q : pAdd (dWs l) (dWs (ptsW w)) with
        | ok d => rw [q] at this; exact this
        | exc c => rw [q] at this; cases this
        | stuck => rw [q] at this; cases this
    · rw [if_neg (by rw [c]; simp)]
    · dsimp only
      split <;> rfl
theorem forK {α β γ : Type} {take : D → Option γ} {mi : Rs (List D)} {a0 : α} {mb : α → γ → Rs (Out α)} {k : α → Rs (Out β)} {ds : List D} (h : mi = .ok ds) : forS take mi a0 mb k = (forM (fun a d => took (take d) (mb a)) ds a0).seq k := by rw [h, forS_ok]
def fewZ (ns : List Int) (at_ many : Nat) : List Wd :=
  (List.range (drawnN ns (at_ + 1) (many + 1))).map fun k =>
    (if 0 < drawnN ns (at_ + 2 + 7 * k + 1) 4 then (⟨drawnN ns at_ 4, drawnN_lt ns _ (by decide)⟩ : Fin 4) else ⟨drawnN ns (at_ + 2 + 7 * k + 1) 4, drawnN_lt ns _ (by decide)⟩) ::
    (List.range ([1, 2, 2, 3, 3, 4].getD (drawnN ns (at_ + 2 + 7 * k) 6) 0)).map fun j => (⟨drawnN ns (at_ + 2 + 7 * k + 2 + j) 4, drawnN_lt ns _ (by decide)⟩ : Fin 4)
theorem tab6 : ∀ n : Nat, n < 6 → [1, 2, 2, 3, 3, 4].getD n 0 ≤ 4 ∧ 1 ≤ [1, 2, 2, 3, 3, 4].getD n 0 := by decide
theorem fewZ_ok (ns : List Int) (at_ many : Nat) : (fewZ ns at_ many).length ≤ many ∧ ∀ w ∈ fewZ ns at_ many, 2 ≤ w.length ∧ w.length ≤ 5 := by
  unfold fewZ
  have h1 := drawnN_lt ns (at_ + 1) (many := many + 1) (by omega)
  refine ⟨by rw [List.length_map, List.length_range]; omega, fun w hw => ?_⟩
  obtain ⟨k, _, rfl⟩ := List.mem_map.mp hw
  have := tab6 _ (drawnN_lt ns (at_ + 2 + 7 * k) (many := 6) (by decide))
  rw [List.length_cons, List.length_map, List.length_range]
  omega
theorem letD (i : Nat) (h : i < 4) : b2 pIx (.ok (.str "abcd")) (.ok (.int (i : Int))) = .ok (dW [⟨i, h⟩]) := by rw [b2_ok, pIx_abcd i h]; rfl
theorem join_w (l : List (Fin 4)) (h : l.length ≤ 1000) : msV pJoin (.ok (.str "")) (consM (.ok (.list (l.map fun i => dW [i]))) (.ok [])) = .ok (dW l) := by
  have e : (l.map fun i => (dW [i] : D)) = (l.map fun i => [ltr i]).map fun a => .str (sL a) := by rw [List.map_map]; rfl
  have hf : ∀ r : List (Fin 4), (r.map fun i => [ltr i]).flatten = wL r := fun r => by
    induction r with
    | nil => rfl
    | cons x r ih => rw [List.map_cons, List.flatten_cons, ih]; rfl
  have hs : ∀ r : List (Fin 4), ((r.map fun i => [ltr i]).map List.length).sum = r.length := fun r => by
    induction r with
    | nil => rfl
    | cons x r ih => rw [List.map_cons, List.map_cons, List.sum_cons, ih, List.length_cons]; simp; omega
  rw [consM_ok, msV_ok, e, pJoin_e (by rw [hs]; omega), hf]; rfl
/-! Plain law: sets by their points. -/
def HasP (m : Rs D) (P : Wd → Bool) : Prop := ∃ l, m = .ok (dWs l) ∧ WL l ∧ ∀ p : Wd, p.length = 5 → cvB l p = P p
def Can (m : Rs D) (P : Wd → Bool) : Prop := m = .ok (dWs (canon P))
theorem Can.has {m : Rs D} {P : Wd → Bool} (h : Can m P) : HasP m P := ⟨canon P, h, WL.canon P, fun _ hp => canon_cv hp⟩
theorem Can.ext {m : Rs D} {P Q : Wd → Bool} (h : Can m P) (e : ∀ p : Wd, p.length = 5 → P p = Q p) : Can m Q := h.trans (by rw [canon_ext e])
theorem HasP.of {m : Rs D} {l : List Wd} (h : m = .ok (dWs l)) (w : WL l) : HasP m (cvB l) := ⟨l, h, w, fun _ _ => rfl⟩
theorem HasP.ext {m : Rs D} {P Q : Wd → Bool} (h : HasP m P) (e : ∀ p : Wd, p.length = 5 → P p = Q p) : HasP m Q := by
  obtain ⟨l, h1, h2, h3⟩ := h
  exact ⟨l, h1, h2, fun p hp => (h3 p hp).trans (e p hp)⟩
section
variable {ma mb : Rs D} {P Q : Wd → Bool}
theorem p_few (h : HasP ma P) : Can (Rs.bind (consM ma (.ok [])) m_fewest) P := by
  obtain ⟨a, rfl, w, e⟩ := h
  unfold Can
  rw [fewW w, canon_ext e]
theorem p_join (h : HasP ma P) : Can (Rs.bind (consM ma (.ok [])) m_joined) P := by
  obtain ⟨a, rfl, w, e⟩ := h
  unfold Can
  rw [joinW w, canon_ext e]
theorem Can.ne (h : Can ma P) (h2 : Can mb Q) (e : ∀ p : Wd, p.length = 5 → P p = Q p) : c2 pNe ma mb = .ok false := by
  have h' : Can ma Q := h.ext e
  exact tNe h' h2 (shaped_dWs _)
theorem Can.eq (h : Can ma P) (h2 : Can mb Q) (e : ∀ p : Wd, p.length = 5 → P p = Q p) : b2 pEq ma mb = .ok (.bool true) := by
  have h' : Can ma Q := h.ext e
  rw [h', h2, beq_dWs, decide_eq_true rfl]
end
theorem p_all : HasP (lstV (consM (.ok (.str "")) (.ok []))) (fun _ => true) :=
  ⟨[[]], by rw [empty_w]; rfl, ⟨by decide, fun w hw => by rw [List.mem_singleton] at hw; rw [hw]; decide⟩, fun p _ => cvB_iff.mpr ⟨[], List.mem_singleton.mpr rfl, List.nil_prefix⟩⟩
theorem p_none : HasP (lstV (.ok [])) (fun _ => false) := ⟨[], rfl, ⟨by decide, fun w hw => by cases hw⟩, fun _ _ => rfl⟩
theorem canon_none : canon (fun _ => false) = [] := can_nil 5 [] fun _ _ _ => rfl
theorem Can.nil {m : Rs D} {P : Wd → Bool} (h : Can m P) (e : ∀ p : Wd, p.length = 5 → P p = false) : m = .ok (dWs []) := by
  have h' : Can m fun _ => false := h.ext e
  unfold Can at h'
  rw [h', canon_none]
theorem pts5_len : pts5.length = 1024 := exts_len 5 []

/-! Plain law: the law's own cutting of a set. -/
theorem forM_encL {ι α σ : Type} {b : α → D → Rs (Out α)} {hh : ι → D} (enc : σ → α) {step : σ → ι → σ} (I : σ → List ι → Prop) (h : ∀ s i ds, I s (i :: ds) → b (enc s) (hh i) = .ok (.nx (enc (step s i))) ∧ I (step s i) ds) : ∀ (l : List ι) (s : σ), I s l → forM b (l.map hh) (enc s) = .ok (.nx (enc (l.foldl step s)))
  | [], s, _ => rfl
  | i :: l, s, hi => by
    obtain ⟨h1, h2⟩ := h s i l hi
    rw [List.map_cons, forM_cons, h1, Rs.seq_nx, forM_encL enc I h l _ h2, List.foldl_cons]
theorem ext5 (v : Wd) (n : Nat) : ∃ p : Wd, v <+: p ∧ p.length = v.length + n := by
  have := exts_len n v
  cases e : exts n v with
  | nil => rw [e, List.length_nil] at this; have := Nat.pow_pos (n := n) (show 0 < 4 by decide); omega
  | cons p _ => exact ⟨p, (mem_exts n v p).mp (e ▸ List.mem_cons_self)⟩
def anyB (o : List Wd) (w : Wd) : Bool := o.any fun v => decide (w <+: v) || decide (v <+: w)
theorem any_iff {o : List Wd} {w : Wd} (ho : ∀ v ∈ o, v.length ≤ 5) (hw : w.length ≤ 5) : anyB o w = true ↔ ∃ p : Wd, p.length = 5 ∧ w <+: p ∧ cvB o p = true := by
  unfold anyB
  rw [List.any_eq_true]
  constructor
  · rintro ⟨v, hv, h⟩
    rcases (Bool.or_eq_true _ _).mp h with q | q
    · obtain ⟨p, h1, h2⟩ := ext5 v (5 - v.length)
      have := ho v hv
      exact ⟨p, by omega, (of_decide_eq_true q).trans h1, cvB_iff.mpr ⟨v, hv, h1⟩⟩
    · obtain ⟨p, h1, h2⟩ := ext5 w (5 - w.length)
      exact ⟨p, by omega, h1, cvB_iff.mpr ⟨v, hv, (of_decide_eq_true q).trans h1⟩⟩
  · rintro ⟨p, h1, h2, h3⟩
    obtain ⟨v, hv, hp⟩ := cvB_iff.mp h3
    refine ⟨v, hv, (Bool.or_eq_true _ _).mpr ?_⟩
    rcases Nat.le_total v.length w.length with q | q
    · exact .inr (decide_eq_true (List.prefix_of_prefix_length_le hp h2 q))
    · exact .inl (decide_eq_true (List.prefix_of_prefix_length_le h2 hp q))
theorem full_succ (P : Wd → Bool) (n : Nat) (w : Wd) : fullB P (n + 1) w = letters4.all fun i => fullB P n (w ++ [i]) := by
  unfold fullB
  rw [exts, List.all_flatMap]
theorem full_zero (P : Wd → Bool) (w : Wd) : fullB P 0 w = P w := by
  unfold fullB
  rw [exts, List.all_cons, List.all_nil, Bool.and_true]
theorem full_pre {o : List Wd} {n : Nat} {w : Wd} (h : ((List.range (w.length + 1)).any fun k => decide (w.take k ∈ o)) = true) : fullB (cvB o) n w = true := by
  rw [fullB_iff]
  intro p _ hp
  obtain ⟨v, hv, hvw⟩ := (pre_any w o).mp h
  exact cvB_iff.mpr ⟨v, hv, hvw.trans hp⟩
/-- nothing of w has any, if no beginning of it does, and nothing within it -/
theorem no_cv {o : List Wd} {w : Wd} (h : ¬ ((List.range (w.length + 1)).any fun k => decide (w.take k ∈ o)) = true) (h2 : ¬ (o.any fun v => decide (w <+: v)) = true) (p : Wd) (hp : w <+: p) : cvB o p = false := by
  refine Bool.eq_false_iff.mpr fun z => ?_
  obtain ⟨v, hv, hvp⟩ := cvB_iff.mp z
  rcases Nat.le_total v.length w.length with q | q
  · exact h ((pre_any w o).mpr ⟨v, hv, List.prefix_of_prefix_length_le hvp hp q⟩)
  · exact h2 (List.any_eq_true.mpr ⟨v, hv, decide_eq_true (List.prefix_of_prefix_length_le hp hvp q)⟩)
theorem not_full {P : Wd → Bool} {n : Nat} {w : Wd} (h : ∀ p, w <+: p → P p = false) : fullB P n w = false := by
  refine Bool.eq_false_iff.mpr fun z => ?_
  obtain ⟨p, h1, h2⟩ := ext5 w n
  have := (fullB_iff P n w).mp z p h2 h1
  rw [h p h1] at this
  cases this
theorem has_core {o : List Wd} {w : Wd} {rc : List D → Rs D} {r : Bool} (hw : w.length ≤ 5) (h1 : ((List.range (w.length + 1)).any fun k => decide (w.take k ∈ o)) = true → r = true) (h2 : ¬ ((List.range (w.length + 1)).any fun k => decide (w.take k ∈ o)) = true → ¬ (o.any fun v => decide (w <+: v)) = true → r = false)
    (h3 : ¬ ((List.range (w.length + 1)).any fun k => decide (w.take k ∈ o)) = true → (o.any fun v => decide (w <+: v)) = true → ∃ q : Fin 4 → Bool, (∀ i, rc [dWs o, dW (w ++ [i])] = .ok (.bool (q i))) ∧ r = letters4.all q) : (b_law_has rc (dWs o) (dW w)).fin = .ok (.bool r) := by
  refine finK ?_
  unfold b_law_has
  have e1 : c2 pNe (lcV some (Rs.bind (consM (b2 pAdd (cb pLen (consM (.ok (dW w)) (.ok []))) (.ok (.int 1))) (.ok [])) pRange) (fun (size_1 : D) => (c2 pIn (slV (.ok (dW w)) (.ok none) (Rs.bind (.ok size_1) asI)) (.ok (dWs o)))) (fun (size_1 : D) => (.ok size_1))) (lstV (.ok [])) = .ok ((List.range (w.length + 1)).any fun k => decide (w.take k ∈ o)) := by
    rw [consM_ok, len_w w (by omega)]
    exact lc_ne (g := fun (i : Nat) => .int (i : Int)) (rg_len1 w.length (by omega)) (rg_any w o (by omega) _) (fun _ _ _ => rfl) (fun _ _ => Lay.i _)
  by_cases c : ((List.range (w.length + 1)).any fun k => decide (w.take k ∈ o)) = true
  · rw [e1, c, ifS_t, ret_ok, Rs.seq_ret, h1 c]
  · refine (ifF (e1.trans (by rw [Bool.eq_false_iff.mpr c])) rfl).trans ?_
    have e2 := lc_eq (g := fun w => dW w) (t := fun (other_3 : D) => (isB (msV pStarts (.ok other_3) (consM (.ok (dW w)) (.ok []))))) (f := fun d => .ok d) (p := fun v => decide (w <+: v)) (it_dWs o) (fun v _ => by rw [consM_ok, starts_w]; rfl) (fun _ _ _ => rfl) (fun _ _ => Lay.w _)
    by_cases c2 : o.any (fun v => decide (w <+: v)) = true
    · rw [c2] at e2
      refine (ifF e2 rfl).trans (retK ?_)
      obtain ⟨q, q1, q2⟩ := h3 c c2
      have e3 := beq_nil (l := letters4) (hh := dL) (g := dL) (t := fun (law_letter_5 : D) => (Rs.notB (isB (Rs.bind (consM (.ok (dWs o)) (consM (b2 pAdd (.ok (dW w)) (.ok law_letter_5)) (.ok []))) rc)))) (f := fun d => .ok d) (p := fun i => !q i) it_abcd (fun i _ => by
        rw [dL_w, b2_ok, add_w w [i] (by simp; omega), Rs.nox_ok, consM_ok, consM_ok, Rs.bind_ok, q1 i]; rfl) (fun _ _ _ => rfl) (fun i _ => (Lay.w [i] : Lay 5 (dW [i])))
      refine e3.trans ?_
      rw [q2]
      exact congrArg (fun b => Rs.ok (PyData.bool b)) (by rw [List.not_any_eq_all_not]; simp only [Bool.not_not])
    · rw [Bool.eq_false_iff.mpr c2, Bool.not_false] at e2
      rw [e2, ifS_t, ret_ok, Rs.seq_ret, h2 c c2]
theorem e_hasn {o : List Wd} (ho : ∀ v ∈ o, v.length ≤ 5) : ∀ (n j : Nat) (w : Wd), w.length + n = 5 → mr_law_has (n + 1 + j) [dWs o, dW w] = .ok (.bool (fullB (cvB o) n w)) := by
  intro n
  induction n with
  | zero =>
    intro j w hw
    rw [show 0 + 1 + j = j + 1 by omega]
    refine has_core (rc := mr_law_has j) (by omega) full_pre (fun c c2 => not_full (no_cv c c2)) fun c c2 => ?_
    obtain ⟨v, hv, h⟩ := List.any_eq_true.mp c2
    have h1 := of_decide_eq_true h
    have h2 := pre_eq h1 (by have := ho v hv; omega)
    exact absurd ((pre_any w o).mpr ⟨w, h2 ▸ hv, List.prefix_refl _⟩) c
  | succ n ih =>
    intro j w hw
    rw [show n + 1 + 1 + j = (n + 1 + j) + 1 by omega]
    exact has_core (rc := mr_law_has (n + 1 + j)) (by omega) full_pre (fun c c2 => not_full (no_cv c c2)) fun c c2 => ⟨fun i => fullB (cvB o) n (w ++ [i]), fun i => ih j _ (by simp; omega), full_succ _ _ _⟩
theorem e_has {o : List Wd} {w : Wd} (ho : ∀ v ∈ o, v.length ≤ 5) (hw : w.length ≤ 5) : m_law_has [dWs o, dW w] = .ok (.bool (fullB (cvB o) (5 - w.length) w)) := by
  have := e_hasn ho (5 - w.length) (1 + w.length) w (by omega)
  rw [show 5 - w.length + 1 + (1 + w.length) = 7 by omega] at this
  exact this
/-! ### the fewest, level by level -/
def lvS (o : List Wd) (n : Nat) (s : List Wd × List Wd) (h : Wd) : List Wd × List Wd := if fullB (cvB o) n h = true then (s.1 ++ [h], s.2) else if (o.any fun v => decide (h <+: v)) = true then (s.1, s.2 ++ ptsW h) else s
def encS (s : List Wd × List Wd) : List D × D := (s.1.map fun w => dW w, dWs s.2)
theorem lv_body {o : List Wd} {n : Nat} {h : Wd} {s : List Wd × List Wd} (ho : ∀ v ∈ o, v.length ≤ 5) (hh : h.length + n = 5) (l1 : s.1.length ≤ 1000000) (l2 : s.2.length ≤ 1000000) : b_law_fewest_l2 (dWs o) (encS s) (dW h) = .ok (.nx (encS (lvS o n s h))) := by
  unfold b_law_fewest_l2 encS
  have hs : (isB (Rs.bind (consM (.ok (dWs o)) (consM (.ok (dW h)) (.ok []))) m_law_has)) = .ok (fullB (cvB o) n h) := by
    rw [consM_ok, consM_ok, Rs.bind_ok, e_has ho (by omega), show 5 - h.length = n by omega]; rfl
  have e2 := lc_ne (g := fun w => dW w) (t := fun (other_3 : D) => (isB (msV pStarts (.ok other_3) (consM (.ok (dW h)) (.ok []))))) (f := fun d => .ok d) (p := fun v => decide (h <+: v)) (it_dWs o) (fun v _ => by rw [consM_ok, starts_w]; rfl) (fun _ _ _ => rfl) (fun _ _ => Lay.w _)
  dsimp only
  by_cases c : fullB (cvB o) n h = true
  · rw [c] at hs
    refine (ifT (x := ((s.1 ++ [h]).map fun w => dW w, dWs s.2)) hs ?_).trans ?_
    · rw [Rs.bind_ok, capL_ok (by rw [List.length_map]; omega), List.map_append]; rfl
    · unfold lvS
      rw [if_pos c]
  · rw [Bool.eq_false_iff.mpr c] at hs
    refine (ifF (x := ((s.1).map fun w => dW w, dWs (lvS o n s h).2)) hs ?_).trans ?_
    · unfold lvS
      rw [if_neg c]
      by_cases c2 : (o.any fun v => decide (h <+: v)) = true
      · rw [c2] at e2
        refine (ifT (x := dWs (s.2 ++ ptsW h)) e2 ?_).trans ?_
        · rw [lc_parts h (by omega), add_dWs (by rw [ptsW_eq]; show _ + 4 ≤ _; omega)]; rfl
        · rw [if_pos c2]
      · rw [Bool.eq_false_iff.mpr c2] at e2
        refine (ifF (x := dWs s.2) e2 rfl).trans ?_
        rw [if_neg c2]
    · unfold lvS
      rw [if_neg c]
      split <;> rfl
def lvF (o : List Wd) (n : Nat) (hs : List Wd) : List Wd := hs.filter (fullB (cvB o) n)
def lvM (o : List Wd) (n : Nat) (hs : List Wd) : List Wd := hs.flatMap fun h => if fullB (cvB o) n h = true then [] else if (o.any fun v => decide (h <+: v)) = true then ptsW h else []
theorem lv_fold (o : List Wd) (n : Nat) : ∀ (hs : List Wd) (s : List Wd × List Wd), hs.foldl (lvS o n) s = (s.1 ++ lvF o n hs, s.2 ++ lvM o n hs)
  | [], s => by simp [lvF, lvM]
  | h :: hs, s => by
    rw [List.foldl_cons, lv_fold o n hs]
    unfold lvS lvF lvM
    rw [List.filter_cons, List.flatMap_cons]
    by_cases c : fullB (cvB o) n h = true
    · simp only [if_pos c]; simp
    · by_cases c2 : (o.any fun v => decide (h <+: v)) = true
      · simp only [if_neg c, if_pos c2]; simp
      · simp only [if_neg c, if_neg c2]; simp
theorem lvM_len (o : List Wd) (n : Nat) : ∀ hs : List Wd, (lvM o n hs).length ≤ 4 * hs.length
  | [] => Nat.le_refl _
  | h :: hs => by
    have ih := lvM_len o n hs
    unfold lvM at ih ⊢
    rw [List.flatMap_cons, List.length_append, List.length_cons]
    have : (if fullB (cvB o) n h = true then [] else if (o.any fun v => decide (h <+: v)) = true then ptsW h else []).length ≤ 4 := by
      split
      · exact Nat.zero_le _
      · split
        · exact Nat.le_refl 4
        · exact Nat.zero_le _
    omega
theorem lvM_mem {o : List Wd} {n : Nat} {hs : List Wd} {k : Nat} (h : ∀ w ∈ hs, w.length = k) : ∀ w ∈ lvM o n hs, w.length = k + 1 := fun w hw => by
  obtain ⟨v, hv, hw⟩ := List.mem_flatMap.mp hw
  split at hw
  · cases hw
  · split at hw
    · obtain ⟨i, rfl⟩ := (mem_ptsW v w).mp hw
      rw [List.length_append, h v hv]; rfl
    · cases hw
theorem lvM_zero {o : List Wd} (ho : ∀ v ∈ o, v.length ≤ 5) {hs : List Wd} (h : ∀ w ∈ hs, w.length = 5) : lvM o 0 hs = [] := by
  unfold lvM
  rw [List.flatMap_eq_nil_iff]
  intro w hw
  split
  · rfl
  · rename_i c
    split
    · rename_i c2
      obtain ⟨v, hv, q⟩ := List.any_eq_true.mp c2
      have h1 := of_decide_eq_true q
      have h2 := pre_eq h1 (by have := ho v hv; have := h w hw; omega)
      exact absurd (full_pre ((pre_any w o).mpr ⟨w, h2 ▸ hv, List.prefix_refl _⟩)) c
    · rfl
theorem can_nocv {o : List Wd} {n : Nat} {w : Wd} (c : ¬ fullB (cvB o) n w = true) (c2 : ¬ (o.any fun v => decide (w <+: v)) = true) : can (cvB o) n w = [] :=
  can_nil n w fun p hp _ => no_cv (fun z => c (full_pre z)) c2 p hp
theorem lv_perm (o : List Wd) (n : Nat) : ∀ hs : List Wd, (lvF o (n + 1) hs ++ (lvM o (n + 1) hs).flatMap (can (cvB o) n)).Perm (hs.flatMap (can (cvB o) (n + 1)))
  | [] => .refl _
  | h :: hs => by
    have ih := lv_perm o n hs
    unfold lvF lvM at ih ⊢
    rw [List.filter_cons, List.flatMap_cons, List.flatMap_cons, List.flatMap_append]
    by_cases c : fullB (cvB o) (n + 1) h = true
    · rw [if_pos c, if_pos c, can_of_full _ _ c]
      exact ih.cons h
    · rw [if_neg c, if_neg c]
      by_cases c2 : (o.any fun v => decide (h <+: v)) = true
      · rw [if_pos c2]
        have e : can (cvB o) (n + 1) h = (ptsW h).flatMap (can (cvB o) n) := by
          rw [can, if_neg c]
          unfold ptsW
          rw [List.flatMap_map]
        rw [e, ← List.append_assoc]
        refine (List.perm_append_comm.append_right _).trans ?_
        rw [List.append_assoc]
        exact ih.append_left _
      · rw [if_neg c2, can_nocv c c2]
        exact ih
theorem lv_perm0 {o : List Wd} : ∀ hs : List Wd, (lvF o 0 hs) = (hs.flatMap (can (cvB o) 0))
  | [] => rfl
  | h :: hs => by
    have ih := lv_perm0 (o := o) hs
    unfold lvF at ih ⊢
    rw [List.filter_cons, List.flatMap_cons, can, ← ih, full_zero]
    split <;> rfl
theorem lv_while {o : List Wd} (ho : ∀ v ∈ o, v.length ≤ 5) : ∀ (n k j : Nat) (f hs : List Wd), k + n = 5 → (∀ w ∈ hs, w.length = k) → hs.length ≤ 4 ^ k → f.length ≤ 2000 * k → ∃ f' : List Wd, whileM b_law_fewest_l1 (b_law_fewest_l3 (dWs o)) (n + 2 + j) (encS (f, hs)) = .ok (.nx (encS (f', []))) ∧ f'.Perm (f ++ hs.flatMap (can (cvB o) n)) := by
  intro n
  have t1 : ∀ f hs : List Wd, b_law_fewest_l1 (encS (f, hs)) = .ok (!decide (hs = [])) := fun f hs => cne_dWs hs []
  have body : ∀ (k n : Nat) (f hs : List Wd), k + n = 5 → (∀ w ∈ hs, w.length = k) → hs.length ≤ 4 ^ k → f.length ≤ 2000 * k → b_law_fewest_l3 (dWs o) (encS (f, hs)) = .ok (.nx (encS (f ++ lvF o n hs, lvM o n hs))) := fun k n f hs hk hl h4 hf => by
    have h1024 : 4 ^ k ≤ 4 ^ 5 := Nat.pow_le_pow_right (by decide) (by omega)
    rw [show (4 : Nat) ^ 5 = 1024 from rfl] at h1024
    unfold b_law_fewest_l3
    rw [lstV_ok, Rs.bind_ok]
    refine (forK (ds := hs.map fun w => dW w) rfl).trans ?_
    have := forM_encL (b := fun a d => took (some d) (b_law_fewest_l2 (dWs o) a)) (hh := fun w => dW w) encS (step := lvS o n) (fun s ds => (∀ w ∈ ds, w.length = k) ∧ s.1.length + ds.length ≤ 20000 ∧ s.2.length + 4 * ds.length ≤ 20000) (fun s i ds hi => by
      obtain ⟨a, b, c⟩ := hi
      rw [List.length_cons] at b c
      have hi := a i List.mem_cons_self
      refine ⟨by rw [took_some]; exact lv_body ho (by omega) (by omega) (by omega), fun w hw => a w (List.mem_cons_of_mem _ hw), ?_⟩
      unfold lvS
      split
      · rw [List.length_append]; exact ⟨by show _ + 1 + _ ≤ _; omega, by show s.2.length + _ ≤ _; omega⟩
      · split
        · refine ⟨by show s.1.length + _ ≤ _; omega, ?_⟩
          rw [List.length_append, ptsW_eq]; show _ + 4 + _ ≤ _; omega
        · omega) hs (f, []) ⟨hl, by show f.length + _ ≤ _; omega, by show 0 + _ ≤ _; omega⟩
    rw [lv_fold] at this
    exact (seqK this).trans rfl
  induction n with
  | zero =>
    intro k j f hs hk hl h4 hf
    rw [show 0 + 2 + j = (j + 1) + 1 by omega]
    unfold whileM
    rw [t1, Rs.bind_ok]
    by_cases e : hs = []
    · subst e
      rw [decide_eq_true rfl, if_neg (by simp)]
      exact ⟨f, rfl, by rw [List.flatMap_nil, List.append_nil]⟩
    · rw [decide_eq_false e, Bool.not_false, if_pos rfl, body k 0 f hs hk hl h4 hf, Rs.seq_nx, lvM_zero ho (by intro w hw; have := hl w hw; omega)]
      unfold whileM
      rw [t1, decide_eq_true rfl, Rs.bind_ok, if_neg (by simp)]
      exact ⟨_, rfl, by rw [lv_perm0]⟩
  | succ n ih =>
    intro k j f hs hk hl h4 hf
    rw [show n + 1 + 2 + j = (n + 2 + j) + 1 by omega]
    unfold whileM
    rw [t1, Rs.bind_ok]
    by_cases e : hs = []
    · subst e
      rw [decide_eq_true rfl, if_neg (by simp)]
      exact ⟨f, rfl, by rw [List.flatMap_nil, List.append_nil]⟩
    · rw [decide_eq_false e, Bool.not_false, if_pos rfl, body k (n + 1) f hs hk hl h4 hf, Rs.seq_nx]
      have h1024 : 4 ^ k ≤ 4 ^ 5 := Nat.pow_le_pow_right (by decide) (by omega)
      rw [show (4 : Nat) ^ 5 = 1024 from rfl] at h1024
      have hM := lvM_len o (n + 1) hs
      have hF : (lvF o (n + 1) hs).length ≤ hs.length := List.length_filter_le _ _
      obtain ⟨f', h1, h2⟩ := ih (k + 1) j (f ++ lvF o (n + 1) hs) (lvM o (n + 1) hs) (by omega) (lvM_mem hl) (by rw [Nat.pow_succ]; omega) (by rw [List.length_append]; omega)
      refine ⟨f', h1, h2.trans ?_⟩
      rw [List.append_assoc]
      exact (lv_perm o n hs).append_left f
theorem perm_canon {f : List Wd} {P : Wd → Bool} (h : f.Perm (canon P)) : sortW f = canon P := by
  have nd : (sortW f).Nodup := ((sortW_perm f).trans h).nodup_iff.mpr (lt_nodup (canon_lt P))
  refine sorted_ext (((sortW_pw f).and nd).imp fun {a b} q => ?_) (canon_lt P) fun w => ?_
  · by_cases z : a < b
    · exact z
    · exact absurd (List.le_antisymm q.1 z) q.2
  · rw [sortW_mem, h.mem_iff]
theorem e_lfew {o : List Wd} (ho : ∀ v ∈ o, v.length ≤ 5) : m_law_fewest [dWs o] = .ok (dWs (canon (cvB o))) := by
  show (b_law_fewest (dWs o)).fin = _
  refine finK ?_
  unfold b_law_fewest
  obtain ⟨f', h1, h2⟩ := lv_while ho 5 0 4993 [] [[]] rfl (fun w hw => by rw [List.mem_singleton] at hw; rw [hw]; rfl) (by decide) (by decide)
  have h3 : f'.Perm (canon (cvB o)) := by
    rw [List.nil_append, List.flatMap_cons, List.flatMap_nil, List.append_nil] at h2
    exact h2
  rw [Rs.bind_ok]
  refine (bindK (a := dWs [[]]) (by rw [empty_w]; rfl)).trans ?_
  unfold whileS
  refine (seqK h1).trans (retK ?_)
  show cb pSorted (consM (.ok (dWs f')) (.ok [])) = _
  rw [consM_ok, cb_ok, pSorted_w (by rw [h3.length_eq]; have := canon_few (cvB o); omega), perm_canon h3]; rfl
/-- refusals told -/
def tellW (m : Rs D) : Rs D := match m with
  | .exc _ => .ok (rfD 0)
  | m => m
theorem jlev_len (f : List Wd) (n : Nat) : (jlev f n).length ≤ f.length := jfold_len _ _
theorem canon_le {l : List Wd} (hl : ∀ w ∈ l, w.length ≤ 5) : (canon (cvB l)).length ≤ l.length := by
  rw [← joined_canon hl]
  unfold joinedW
  rw [sortW_len]
  have h : ∀ (ns : List Nat) (f : List Wd), (ns.foldl jlev f).length ≤ f.length := fun ns => by
    induction ns with
    | nil => exact fun f => Nat.le_refl _
    | cons n ns ih => exact fun f => Nat.le_trans (ih _) (jlev_len f n)
  refine Nat.le_trans (h _ _) (Nat.le_trans (List.length_filter_le _ _) ?_)
  rw [sortW_len]
  have := foldG_len l ([] : List Wd)
  rw [List.length_nil, Nat.zero_add] at this
  exact this
theorem cv_canon {P : Wd → Bool} : canon (cvB (canon P)) = canon P := canon_ext fun _ hp => canon_cv hp
theorem sum_sq {l : List Wd} (hl : ∀ w ∈ l, w.length ≤ 5) {f : D → Rs D} (hf : ∀ w ∈ l, f (dW w) = .ok (.int ((4 ^ (5 - w.length) : Nat) : Int))) : cb pSum (consM (lcV some (Rs.bind (.ok (dWs l)) itemsOf) (fun _ => .ok true) f) (.ok [])) = .ok (.int (szW l : Nat)) := by
  rw [lcMap (g := fun w => .int ((4 ^ (5 - w.length) : Nat) : Int)) (it_dWs l) hf, consM_ok, cb_ok, pSum_map]; rfl
theorem lwfew {m : Rs D} {o : List Wd} (h : m = .ok (dWs o)) (ho : ∀ v ∈ o, v.length ≤ 5) : Rs.bind (consM m (.ok [])) m_law_fewest = .ok (dWs (canon (cvB o))) := by rw [h, consM_ok, Rs.bind_ok, e_lfew ho]

/-! Plain law: boxes. -/
structure Bx where
  x0 : Nat
  y0 : Nat
  x1 : Nat
  y1 : Nat
def Bx.ok (b : Bx) : Prop := b.x0 ≤ b.x1 ∧ b.x1 < 32 ∧ b.y0 ≤ b.y1 ∧ b.y1 < 32
abbrev dB (b : Bx) : D := .tuple [.int b.x0, .int b.y0, .int b.x1, .int b.y1]
theorem ixB0 (b : Bx) : b2 pIx (.ok (dB b)) (.ok (.int 0)) = .ok (.int (b.x0 : Int)) := rfl
theorem ixB1 (b : Bx) : b2 pIx (.ok (dB b)) (.ok (.int 1)) = .ok (.int (b.y0 : Int)) := rfl
theorem ixB2 (b : Bx) : b2 pIx (.ok (dB b)) (.ok (.int 2)) = .ok (.int (b.x1 : Int)) := rfl
theorem ixB3 (b : Bx) : b2 pIx (.ok (dB b)) (.ok (.int 3)) = .ok (.int (b.y1 : Int)) := rfl
def inB (b : Bx) (p : Wd) : Bool := decide (b.x0 ≤ xsN p ∧ xsN p ≤ b.x1 ∧ b.y0 ≤ ysN p ∧ ysN p ≤ b.y1)
theorem inB_iff {b : Bx} {p : Wd} : inB b p = true ↔ b.x0 ≤ xsN p ∧ xsN p ≤ b.x1 ∧ b.y0 ≤ ysN p ∧ ysN p ≤ b.y1 := by
  unfold inB
  rw [decide_eq_true_eq]
/-- some of a cell is in it, all of it is -/
def nearP (b : Bx) (w : Wd) : Prop := (cor w).1 ≤ b.x1 ∧ b.x0 < (cor w).1 + (cor w).2.2 ∧ (cor w).2.1 ≤ b.y1 ∧ b.y0 < (cor w).2.1 + (cor w).2.2
def insP (b : Bx) (w : Wd) : Prop := b.x0 ≤ (cor w).1 ∧ (cor w).1 + (cor w).2.2 ≤ b.x1 + 1 ∧ b.y0 ≤ (cor w).2.1 ∧ (cor w).2.1 + (cor w).2.2 ≤ b.y1 + 1
instance (b : Bx) (w : Wd) : Decidable (nearP b w) := by unfold nearP; exact inferInstance
instance (b : Bx) (w : Wd) : Decidable (insP b w) := by unfold insP; exact inferInstance
theorem wordOf_len (x y n : Nat) : (wordOf x y n).length = n := by unfold wordOf; rw [List.length_map, List.length_range]
theorem xs_pt {x y : Nat} (hx : x < 32) (hy : y < 32) : xsN (wordOf x y 5) = x ∧ ysN (wordOf x y 5) = y := by
  obtain ⟨h1, h2⟩ := geo_wordOf x y hx hy 5 (Nat.le_refl 5)
  rw [h1, h2]
  exact ⟨Nat.div_one x, Nat.div_one y⟩
theorem pt_xs {p : Wd} (hp : p.length = 5) : wordOf (xsN p) (ysN p) 5 = p := by
  obtain ⟨h1, h2⟩ := xs_lt 5 p hp
  obtain ⟨h3, h4⟩ := xs_pt (x := xsN p) (y := ysN p) h1 h2
  exact geo_inj 5 _ _ (wordOf_len _ _ _) hp h3 h4
theorem pre_in {w p : Wd} (hw : w.length ≤ 5) (hp : p.length = 5) : w <+: p ↔ InC (xsN p) (ysN p) (cor w) := by
  obtain ⟨h1, h2⟩ := xs_lt 5 p hp
  rw [← in_iff w (xsN p) (ysN p) hw h1 h2, List.prefix_iff_eq_take]
  have e : p.take w.length = wordOf (xsN p) (ysN p) w.length := by
    have := wordOf_take (xsN p) (ysN p) 5 w.length
    rw [pt_xs hp, Nat.min_eq_left hw] at this
    exact this
  rw [e]
  exact eq_comm
/-- the points of a cell, by their places -/
theorem pt_in {w : Wd} {x y : Nat} (hw : w.length ≤ 5) (h : InC x y (cor w)) : x < 32 ∧ y < 32 ∧ w <+: wordOf x y 5 := by
  obtain ⟨c1, c2, c3⟩ := cor_le w hw
  obtain ⟨i1, i2, i3, i4⟩ := h
  have hx : x < 32 := by omega
  have hy : y < 32 := by omega
  obtain ⟨e1, e2⟩ := xs_pt hx hy
  refine ⟨hx, hy, (pre_in hw (wordOf_len _ _ _)).mpr ?_⟩
  rw [e1, e2]
  exact ⟨i1, i2, i3, i4⟩
theorem near_iff {b : Bx} (hb : b.ok) {w : Wd} (hw : w.length ≤ 5) : nearP b w ↔ ∃ p : Wd, p.length = 5 ∧ w <+: p ∧ inB b p = true := by
  obtain ⟨b1, b2, b3, b4⟩ := hb
  obtain ⟨c1, c2, c3⟩ := cor_le w hw
  constructor
  · rintro ⟨h1, h2, h3, h4⟩
    have hi : InC (max (cor w).1 b.x0) (max (cor w).2.1 b.y0) (cor w) := by unfold InC; omega
    obtain ⟨q1, q2, q3⟩ := pt_in hw hi
    obtain ⟨e1, e2⟩ := xs_pt q1 q2
    refine ⟨_, wordOf_len _ _ _, q3, inB_iff.mpr ?_⟩
    rw [e1, e2]
    omega
  · rintro ⟨p, hp, hwp, hin⟩
    obtain ⟨i1, i2, i3, i4⟩ := (pre_in hw hp).mp hwp
    obtain ⟨j1, j2, j3, j4⟩ := inB_iff.mp hin
    unfold nearP
    omega
theorem ins_iff {b : Bx} {w : Wd} (hw : w.length ≤ 5) : insP b w ↔ Full (inB b) 5 w := by
  obtain ⟨c1, c2, c3⟩ := cor_le w hw
  constructor
  · rintro ⟨h1, h2, h3, h4⟩ p hp hwp
    obtain ⟨i1, i2, i3, i4⟩ := (pre_in hw hp).mp hwp
    exact inB_iff.mpr (by omega)
  · intro h
    have ha : InC (cor w).1 (cor w).2.1 (cor w) := by unfold InC; omega
    have hz : InC ((cor w).1 + (cor w).2.2 - 1) ((cor w).2.1 + (cor w).2.2 - 1) (cor w) := by unfold InC; omega
    obtain ⟨q1, q2, q3⟩ := pt_in hw ha
    obtain ⟨r1, r2, r3⟩ := pt_in hw hz
    have k1 := inB_iff.mp (h _ (wordOf_len _ _ _) q3)
    have k2 := inB_iff.mp (h _ (wordOf_len _ _ _) r3)
    rw [(xs_pt q1 q2).1, (xs_pt q1 q2).2] at k1
    rw [(xs_pt r1 r2).1, (xs_pt r1 r2).2] at k2
    unfold insP
    omega
theorem ple_nn (a b : Nat) : b2 pLe (.ok (.int (a : Int))) (.ok (.int (b : Int))) = .ok (.bool (decide (a ≤ b))) := by
  rw [b2_ok, pLe_i, Rs.nox_ok]
  exact congrArg (fun b => Rs.ok (PyData.bool b)) (decide_eq_decide.mpr (by omega))
theorem last_n (a s : Nat) (h : 0 < s) : b2 pSub (b2 pAdd (.ok (.int (a : Int))) (.ok (.int (s : Int)))) (.ok (.int 1)) = .ok (.int ((a + s - 1 : Nat) : Int)) := by
  rw [b2_ok, pAdd_i, Rs.nox_ok, b2_ok, pSub_i, Rs.nox_ok]
  exact congrArg (fun i => Rs.ok (PyData.int i)) (by omega)
theorem ins_full {b : Bx} {n : Nat} {w : Wd} (h : w.length + n = 5) : decide (insP b w) = fullB (inB b) n w := by
  refine Bool.eq_iff_iff.mpr ?_
  rw [decide_eq_true_eq, fullB_iff, h]
  exact ins_iff (by omega)
theorem canon_le_pw (P : Wd → Bool) : (canon P).Pairwise (· ≤ ·) := (canon_lt P).imp fun h => List.le_of_lt h
/-! ### what is a box -/
def le4 : D → D → D → D → Bool
  | .int a, .int b, .int c, .int d => decide (a ≤ c) && decide (b ≤ d)
  | _, _, _, _ => false
def isBox : D → Bool
  | .tuple [a, b, c, d] => (isC a && isC b && isC c && isC d) && le4 a b c d
  | _ => false
def okBx : D → Prop
  | .tuple l => ∀ d ∈ l, (tyD d).isSome = true
  | d => (tyD d).isSome = true
theorem okBx_ty {d : D} (h : okBx d) : (tyD d).isSome = true := by
  cases d with
  | tuple l => rfl
  | _ => exact h
theorem isBox_b {b : Bx} (h : b.ok) : isBox (dB b) = true := by
  obtain ⟨h1, h2, h3, h4⟩ := h
  show (((decide ((0 : Int) ≤ b.x0) && decide ((b.x0 : Int) ≤ 31)) && (decide ((0 : Int) ≤ b.y0) && decide ((b.y0 : Int) ≤ 31)) && (decide ((0 : Int) ≤ b.x1) && decide ((b.x1 : Int) ≤ 31)) && (decide ((0 : Int) ≤ b.y1) && decide ((b.y1 : Int) ≤ 31))) && (decide ((b.x0 : Int) ≤ b.x1) && decide ((b.y0 : Int) ≤ b.y1))) = true
  simp only [decide_eq_true_eq, Bool.and_eq_true]
  omega
theorem okBx_b (b : Bx) : okBx (dB b) := fun d hd => by
  simp only [List.mem_cons, List.not_mem_nil, or_false] at hd
  rcases hd with rfl | rfl | rfl | rfl <;> rfl
theorem isC_int {d : D} (h : isC d = true) : ∃ i : Int, d = .int i := by
  obtain ⟨x, _, e⟩ := isC_iff.mp h
  exact ⟨x, e⟩
def boxW (w : Wd) : Bx := ⟨(cor w).1, (cor w).2.1, (cor w).1 + (cor w).2.2 - 1, (cor w).2.1 + (cor w).2.2 - 1⟩
theorem boxW_ok {w : Wd} (h : w.length ≤ 5) : (boxW w).ok := by
  obtain ⟨c1, c2, c3⟩ := cor_le w h
  unfold boxW Bx.ok
  dsimp only
  omega
theorem inB_boxW {w p : Wd} (h : w.length ≤ 5) (hp : p.length = 5) : inB (boxW w) p = cvB [w] p := by
  obtain ⟨c1, c2, c3⟩ := cor_le w h
  refine Bool.eq_iff_iff.mpr ?_
  rw [inB_iff, cvB_iff]
  have e : (∃ v ∈ [w], v <+: p) ↔ w <+: p := ⟨fun ⟨v, hv, q⟩ => by rw [List.mem_singleton] at hv; exact hv ▸ q, fun q => ⟨w, List.mem_singleton.mpr rfl, q⟩⟩
  rw [e, pre_in h hp]
  unfold boxW InC
  dsimp only
  omega
theorem canon_one {w : Wd} (h : w.length ≤ 5) : canon (cvB [w]) = [w] := by
  have cv : ∀ p : Wd, cvB [w] p = true ↔ w <+: p := fun p => by
    rw [cvB_iff]
    exact ⟨fun ⟨v, hv, q⟩ => by rw [List.mem_singleton] at hv; exact hv ▸ q, fun q => ⟨w, List.mem_singleton.mpr rfl, q⟩⟩
  have up : ∀ v : Wd, v.length < w.length → v <+: w → ¬ Full (cvB [w]) 5 v := fun v hv hvw hf => by
    obtain ⟨i, hi⟩ := pre_split hvw hv
    obtain ⟨j, hj⟩ : ∃ j : Fin 4, j ≠ i := by
      by_cases q : i = 0
      · exact ⟨1, by rw [q]; decide⟩
      · exact ⟨0, fun e => q e.symm⟩
    obtain ⟨p, p1, p2⟩ := ext5 (v ++ [j]) (5 - (v.length + 1))
    rw [List.length_append] at p2
    have hp : p.length = 5 := by rw [p2]; show v.length + 1 + _ = 5; omega
    have := (cv p).mp (hf p hp ((pre_app v j).trans p1))
    have e := List.prefix_of_prefix_length_le p1 (hi.trans this) (by simp)
    exact sib_prefix v j i hj e
  refine sorted_ext (canon_lt _) (List.pairwise_singleton _ _) fun v => ?_
  rw [mem_canon, List.mem_singleton]
  constructor
  · rintro ⟨h1, h2, h3⟩
    obtain ⟨p, p1, p2⟩ := ext5 v (5 - v.length)
    have hwp := (cv p).mp (h2 p (by omega) p1)
    by_cases q : v.length < w.length
    · exact absurd h2 (up v q (List.prefix_of_prefix_length_le p1 hwp (by omega)))
    · have hwv : w <+: v := List.prefix_of_prefix_length_le hwp p1 (by omega)
      by_cases e : w = v
      · exact e.symm
      · have hd := pre_drop hwv e
        rcases h3 with rfl | h3
        · exact absurd (List.prefix_nil.mp hwv) e
        · exact absurd (fun p hp hdp => (cv p).mpr (hd.trans hdp)) h3
  · rintro rfl
    refine ⟨h, fun p _ hp => (cv p).mpr hp, ?_⟩
    by_cases e : v = []
    · exact .inl e
    · refine .inr (up _ ?_ (drop_pre v))
      have := List.length_pos_iff.mpr e
      rw [List.length_dropLast]; omega
theorem canon_boxW {w : Wd} (h : w.length ≤ 5) : canon (inB (boxW w)) = [w] := by
  rw [canon_ext fun p hp => inB_boxW h hp, canon_one h]
/-! ### all cells so long that have some of a box -/
def outW (b : Bx) (l : Nat) : List Wd := (exts l []).filter fun w => decide (nearP b w)
theorem mem_outW {b : Bx} {l : Nat} {w : Wd} : w ∈ outW b l ↔ w.length = l ∧ nearP b w := by
  unfold outW
  rw [List.mem_filter, mem_exts, decide_eq_true_eq]
  simp
theorem exts_lt : ∀ (n : Nat) (w : Wd), (exts n w).Pairwise (· < ·)
  | 0, w => List.pairwise_singleton _ _
  | n + 1, w => by
    rw [exts, List.pairwise_flatMap]
    refine ⟨fun i _ => exts_lt n _, letters_lt.imp fun {i j} h a ha b hb => ?_⟩
    exact branch_lt h ((mem_exts n _ a).mp ha).1 ((mem_exts n _ b).mp hb).1
theorem outW_lt (b : Bx) (l : Nat) : (outW b l).Pairwise (· < ·) := List.Pairwise.filter _ (exts_lt l [])
theorem outW_len (b : Bx) (l : Nat) : (outW b l).length ≤ 4 ^ l := by
  have := List.length_filter_le (fun w => decide (nearP b w)) (exts l [])
  rw [exts_len] at this
  exact this
theorem div_n (a s : Nat) (h : 0 < s) (h2 : s ≤ 32) : b2 pDiv (.ok (.int (a : Int))) (.ok (.int (s : Int))) = .ok (.int ((a / s : Nat) : Int)) := by
  rw [b2_ok, pDiv_i (by omega) (by omega), Rs.nox_ok]; rfl
theorem geo_at {a c l : Nat} (hl : l ≤ 5) (ha : a * sd l < 32) (hc : c * sd l < 32) : xsN (wordOf (a * sd l) (c * sd l) l) = a ∧ ysN (wordOf (a * sd l) (c * sd l) l) = c := by
  obtain ⟨h1, h2⟩ := geo_wordOf _ _ ha hc l hl
  rw [h1, h2]
  exact ⟨Nat.mul_div_cancel _ (sd_pos l), Nat.mul_div_cancel _ (sd_pos l)⟩
theorem sd_le (l : Nat) : sd l ≤ 32 := by
  unfold sd
  exact Nat.pow_le_pow_right (n := 2) (by decide) (show 5 - l ≤ 5 by omega)
theorem out_sort {b : Bx} (hb : b.ok) {l : Nat} (hl : l ≤ 5) : sortW (((List.range (b.x1 / sd l + 1 - b.x0 / sd l)).flatMap fun i => (List.range (b.y1 / sd l + 1 - b.y0 / sd l)).map fun j => wordOf ((b.x0 / sd l + i) * sd l) ((b.y0 / sd l + j) * sd l) l)) = outW b l := by
  obtain ⟨b1, b2, b3, b4⟩ := hb
  have s0 := sd_pos l
  have hx : ∀ a : Nat, a ≤ b.x1 / sd l → a * sd l < 32 := fun a ha => by
    have := Nat.mul_le_mul_right (sd l) ha
    have := Nat.div_mul_le_self b.x1 (sd l)
    omega
  have hy : ∀ a : Nat, a ≤ b.y1 / sd l → a * sd l < 32 := fun a ha => by
    have := Nat.mul_le_mul_right (sd l) ha
    have := Nat.div_mul_le_self b.y1 (sd l)
    omega
  have nd : (((List.range (b.x1 / sd l + 1 - b.x0 / sd l)).flatMap fun i => (List.range (b.y1 / sd l + 1 - b.y0 / sd l)).map fun j => wordOf ((b.x0 / sd l + i) * sd l) ((b.y0 / sd l + j) * sd l) l)).Nodup := by
    unfold List.Nodup
    rw [List.pairwise_flatMap]
    constructor
    · intro i hi
      have hi := List.mem_range.mp hi
      rw [List.pairwise_map]
      refine List.Pairwise.imp_of_mem ?_ List.nodup_range
      intro j k hj hk hjk e
      have hj := List.mem_range.mp hj
      have hk := List.mem_range.mp hk
      have h1 := (geo_at hl (hx (b.x0 / sd l + i) (by omega)) (hy (b.y0 / sd l + j) (by omega))).2
      have h2 := (geo_at hl (hx (b.x0 / sd l + i) (by omega)) (hy (b.y0 / sd l + k) (by omega))).2
      rw [e, h2] at h1
      exact hjk (by omega)
    · refine List.Pairwise.imp_of_mem ?_ List.nodup_range
      intro i k hi hk hik v hv w hw e
      have hi := List.mem_range.mp hi
      have hk := List.mem_range.mp hk
      obtain ⟨j, hj, rfl⟩ := List.mem_map.mp hv
      obtain ⟨m, hm, rfl⟩ := List.mem_map.mp hw
      have hj := List.mem_range.mp hj
      have hm := List.mem_range.mp hm
      have h1 := (geo_at hl (hx (b.x0 / sd l + i) (by omega)) (hy (b.y0 / sd l + j) (by omega))).1
      have h2 := (geo_at hl (hx (b.x0 / sd l + k) (by omega)) (hy (b.y0 / sd l + m) (by omega))).1
      rw [e, h2] at h1
      exact hik (by omega)
  generalize hL : ((List.range (b.x1 / sd l + 1 - b.x0 / sd l)).flatMap fun i => (List.range (b.y1 / sd l + 1 - b.y0 / sd l)).map fun j => wordOf ((b.x0 / sd l + i) * sd l) ((b.y0 / sd l + j) * sd l) l) = L at nd
  have nds : (sortW L).Nodup := (sortW_perm L).nodup_iff.mpr nd
  refine sorted_ext (((sortW_pw L).and nds).imp fun {a b} q => ?_) (outW_lt b l) fun w => ?_
  · by_cases z : a < b
    · exact z
    · exact absurd (List.le_antisymm q.1 z) q.2
  · rw [sortW_mem, mem_outW, ← hL]
    have near : ∀ w : Wd, w.length = l → (nearP b w ↔ b.x0 / sd l ≤ xsN w ∧ xsN w ≤ b.x1 / sd l ∧ b.y0 / sd l ≤ ysN w ∧ ysN w ≤ b.y1 / sd l) := fun w hw => by
      have e := cor_eq l w hw hl
      unfold nearP
      rw [e]
      dsimp only
      have k1 : ∀ x a : Nat, (a * sd l ≤ x ↔ a ≤ x / sd l) := fun x a => (Nat.le_div_iff_mul_le s0).symm
      have k2 : ∀ x a : Nat, (x < a * sd l + sd l ↔ x / sd l ≤ a) := fun x a => by
        rw [← Nat.lt_succ_iff, Nat.div_lt_iff_lt_mul s0, Nat.succ_mul]
      rw [k1, k1, k2, k2]
      omega
    constructor
    · intro hw
      obtain ⟨i, hi, hw⟩ := List.mem_flatMap.mp hw
      obtain ⟨j, hj, rfl⟩ := List.mem_map.mp hw
      have hi := List.mem_range.mp hi
      have hj := List.mem_range.mp hj
      obtain ⟨g1, g2⟩ := geo_at hl (hx (b.x0 / sd l + i) (by omega)) (hy (b.y0 / sd l + j) (by omega))
      refine ⟨wordOf_len _ _ _, (near _ (wordOf_len _ _ _)).mpr ?_⟩
      rw [g1, g2]
      omega
    · rintro ⟨h1, h2⟩
      obtain ⟨n1, n2, n3, n4⟩ := (near w h1).mp h2
      refine List.mem_flatMap.mpr ⟨xsN w - b.x0 / sd l, List.mem_range.mpr (by omega), List.mem_map.mpr ⟨ysN w - b.y0 / sd l, List.mem_range.mpr (by omega), ?_⟩⟩
      rw [Nat.add_sub_cancel' n1, Nat.add_sub_cancel' n3]
      obtain ⟨g1, g2⟩ := geo_at hl (hx _ n2) (hy _ n4)
      exact geo_inj l _ _ (wordOf_len _ _ _) h1 g1 g2
/-! Plain law: boxes that are drawn, and their points. -/
theorem pMax_n (i j : Nat) : cb pMax (.ok [.int i, .int j]) = .ok (.int (max i j : Nat)) := by
  rw [cb_ok]
  show (Rs.ok (PyData.int (if (j : Int) > i then (j : Int) else i))).nox = _
  by_cases e : i < j
  · rw [if_pos (by omega), Nat.max_eq_right (by omega)]; rfl
  · rw [if_neg (by omega), Nat.max_eq_left (by omega)]; rfl
theorem pnt {ns : List Int} {ma : Rs D} {z : Int} (k : Nat) (h1 : ma = .ok (.int z)) (hz : z = k) (hl : ns.length ≤ 63) : Rs.bind (consM (.ok (dS ns)) (consM ma (.ok []))) m_law_point = .ok (dP (pxZ ns k) (pyZ ns k)) := by
  subst hz
  rw [h1, consM_ok, consM_ok, Rs.bind_ok, e_point ns k hl]
theorem ixP0 (x y : Nat) : b2 pIx (.ok (dP x y)) (.ok (.int 0)) = .ok (.int (x : Int)) := rfl
theorem ixP1 (x y : Nat) : b2 pIx (.ok (dP x y)) (.ok (.int 1)) = .ok (.int (y : Int)) := rfl
def boxZ (ns : List Int) (at_ : Nat) : Bx := ⟨min (pxZ ns at_) (pxZ ns (at_ + 6)), min (pyZ ns at_) (pyZ ns (at_ + 6)), max (pxZ ns at_) (pxZ ns (at_ + 6)), max (pyZ ns at_) (pyZ ns (at_ + 6))⟩
theorem boxZ_ok (ns : List Int) (at_ : Nat) : (boxZ ns at_).ok := by
  have h1 := pxZ_lt ns at_
  have h2 := pxZ_lt ns (at_ + 6)
  have h3 := pyZ_lt ns at_
  have h4 := pyZ_lt ns (at_ + 6)
  unfold boxZ Bx.ok
  dsimp only
  omega
theorem e_law_box (ns : List Int) (at_ : Nat) (hl : ns.length ≤ 63) : m_law_box [dS ns, .int at_] = .ok (dB (boxZ ns at_)) := by
  show (b_law_box (dS ns) (.int at_)).fin = _
  refine finK ?_
  unfold b_law_box
  refine (bindK (pnt at_ rfl rfl hl)).trans ((bindK (pnt (at_ + 6) rfl (by omega) hl)).trans ?_)
  rw [ixP0, ixP1, ixP0, ixP1, consM_ok, consM_ok, consM_ok, consM_ok, pMin_n, pMin_n, pMax_n, pMax_n]; rfl
def inN (b : Bx) (w : Wd) : Nat := if nearP b w then (if insP b w then 2 else 1) else 0
theorem cgt_nn (a b : Nat) : c2 pGt (.ok (.int (a : Int))) (.ok (.int (b : Int))) = .ok (decide (b < a)) := cgt_n a b b rfl
theorem clt_nn (a b : Nat) : c2 pLt (.ok (.int (a : Int))) (.ok (.int (b : Int))) = .ok (decide (a < b)) := clt_n a b b rfl
theorem e_law_in (b : Bx) {w : Wd} (hw : w.length ≤ 5) : m_law_in [dW w, dB b] = .ok (.int (inN b w : Nat)) := by
  show (b_law_in (dW w) (dB b)).fin = _
  refine finK ?_
  unfold b_law_in
  obtain ⟨c1, c2, c3⟩ := cor_le w hw
  rw [consM_ok, Rs.bind_ok, e_law_corner w (by omega), upS3_ok]
  dsimp only
  rw [ixB0, ixB1, ixB2, ixB3, last_n _ _ c3, last_n _ _ c3, cgt_nn, cgt_nn, clt_nn, clt_nn, orB_ok, orB_ok, orB_ok, ple_nn, ple_nn, ple_nn, ple_nn, andV_ok, andV_ok, andV_ok]
  have e1 : (decide (b.x1 < (cor w).1) || (decide ((cor w).1 + (cor w).2.2 - 1 < b.x0) || (decide (b.y1 < (cor w).2.1) || decide ((cor w).2.1 + (cor w).2.2 - 1 < b.y0)))) = !decide (nearP b w) := by
    rw [← Bool.decide_or, ← Bool.decide_or, ← Bool.decide_or, ← decide_not]
    exact decide_eq_decide.mpr (by unfold nearP; omega)
  have e2 : (decide (b.x0 ≤ (cor w).1) && (decide ((cor w).1 + (cor w).2.2 - 1 ≤ b.x1) && (decide (b.y0 ≤ (cor w).2.1) && decide ((cor w).2.1 + (cor w).2.2 - 1 ≤ b.y1)))) = decide (insP b w) := by
    rw [← Bool.decide_and, ← Bool.decide_and, ← Bool.decide_and]
    exact decide_eq_decide.mpr (by unfold insP; omega)
  rw [e1, e2]
  unfold inN
  by_cases q : nearP b w
  · rw [decide_eq_true q, Bool.not_true, ifS_f, Rs.seq_nx, Rs.bind_ok, isB_ok, if_pos q]
    by_cases r : insP b w
    · rw [decide_eq_true r, ifV_t, ret_ok, if_pos r]; rfl
    · rw [decide_eq_false r, ifV_f, ret_ok, if_neg r]; rfl
  · rw [decide_eq_false q, Bool.not_false, ifS_t, ret_ok, Rs.seq_ret, if_neg q]; rfl
theorem near_pt {b : Bx} {p : Wd} (hp : p.length = 5) : nearP b p ↔ inB b p = true := by
  rw [inB_iff]
  have e := cor_eq 5 p hp (by decide)
  rw [show sd 5 = 1 from rfl] at e
  unfold nearP
  rw [e]
  dsimp only
  omega
theorem sum_const (n m : Nat) : ((List.range n).map fun _ => m).sum = n * m := by
  rw [List.map_const', List.sum_replicate_nat, List.length_range]
theorem area {b : Bx} (hb : b.ok) : pts5.countP (inB b) = (b.x1 + 1 - b.x0) * (b.y1 + 1 - b.y0) := by
  have h := congrArg List.length (out_sort hb (l := 5) (by decide))
  rw [sortW_len, show sd 5 = 1 from rfl, List.length_flatMap] at h
  simp only [Nat.div_one, List.length_map, List.length_range] at h
  rw [sum_const] at h
  rw [h, List.countP_eq_length_filter]
  unfold outW pts5
  congr 1
  refine List.filter_congr (fun p hp => ?_)
  have hp5 : p.length = 5 := mem_pts5.mp hp
  refine Bool.eq_iff_iff.mpr ?_
  rw [decide_eq_true_eq]
  exact (near_pt hp5).symm
theorem set_sorted {l : List Wd} (h : l.Pairwise (· < ·)) (hn : l.length < 4000) : ssV (.ok (dWs l)) = .ok (dWs l) := by
  rw [ss_dWs hn, dedG_id (lt_nodup h), sortW_id (h.imp fun q => List.le_of_lt q)]
/-- the cells of a box, and those so long that have some of it -/
theorem outW_meets {b : Bx} (hb : b.ok) {l : Nat} (hl : l ≤ 5) {w : Wd} (hw : w.length ≤ 5) (hf : nearP b w) : ∃ v ∈ outW b l, v <+: w ∨ w <+: v := by
  obtain ⟨p, p1, p2, p3⟩ := (near_iff hb hw).mp hf
  refine ⟨p.take l, mem_outW.mpr ⟨by rw [List.length_take]; omega, (near_iff hb (by rw [List.length_take]; omega)).mpr ⟨p, p1, List.take_prefix _ _, p3⟩⟩, ?_⟩
  have hpl : (p.take l).length = l := by rw [List.length_take]; omega
  rcases Nat.le_total l w.length with q | q
  · exact .inl (List.prefix_of_prefix_length_le (List.take_prefix _ _) p2 (by omega))
  · exact .inr (List.prefix_of_prefix_length_le p2 (List.take_prefix _ _) (by omega))
theorem canon_near {b : Bx} (hb : b.ok) {w : Wd} (hw : w ∈ canon (inB b)) : nearP b w := by
  obtain ⟨h1, h2, _⟩ := mem_canon.mp hw
  obtain ⟨p, p1, p2⟩ := ext5 w (5 - w.length)
  exact (near_iff hb h1).mpr ⟨p, by omega, p1, h2 p (by omega) p1⟩

/-! Plain law: points, and rows of a number and a point, in order. -/
abbrev Pt := Nat × Nat
abbrev dPt (p : Pt) : D := dP p.1 p.2
def ltP (a b : Pt) : Prop := a.1 < b.1 ∨ (a.1 = b.1 ∧ a.2 < b.2)
instance (a b : Pt) : Decidable (ltP a b) := by unfold ltP; exact inferInstance
def leP (a b : Pt) : Bool := !decide (ltP b a)
theorem leP_iff {a b : Pt} : leP a b = true ↔ ¬ ltP b a := by
  unfold leP
  rw [Bool.not_eq_true', decide_eq_false_iff_not]
theorem leP_tr (a b c : Pt) (h1 : leP a b = true) (h2 : leP b c = true) : leP a c = true := by
  rw [leP_iff] at *
  unfold ltP at *
  omega
theorem leP_tot (a b : Pt) : (leP a b || leP b a) = true := by
  rw [Bool.or_eq_true, leP_iff, leP_iff]
  unfold ltP
  omega
theorem leP_anti {a b : Pt} (h1 : leP a b = true) (h2 : leP b a = true) : a = b := by
  rw [leP_iff] at *
  unfold ltP at *
  exact Prod.ext (by omega) (by omega)
theorem eqv_pp (a b : Pt) : PyData.eqv (dPt a) (dPt b) = decide (a = b) := by
  have := eqv_tups [(a.1 : Int), (a.2 : Int)] [(b.1 : Int), (b.2 : Int)]
  refine this.trans (decide_eq_decide.mpr ?_)
  constructor
  · intro h
    injection h with h1 h
    injection h with h2 h
    exact Prod.ext (by omega) (by omega)
  · rintro rfl; rfl
theorem dLe_p (a b : Pt) : dLe (dPt a) (dPt b) = leP a b := by
  unfold dLe leP
  rw [PySem.W.dataLt_ii]
  exact congrArg (!·) (decide_eq_decide.mpr (by unfold ltP; omega))
def sortP (l : List Pt) : List Pt := l.mergeSort leP
theorem sortD_p (l : List Pt) : sortD (l.map dPt) = (sortP l).map dPt := (List.map_mergeSort (s := dLe) (r := leP) (f := dPt) fun a _ b _ => (dLe_p a b).symm).symm
theorem sortP_perm (l : List Pt) : (sortP l).Perm l := List.mergeSort_perm l leP
theorem sortP_mem {l : List Pt} {p : Pt} : p ∈ sortP l ↔ p ∈ l := List.mem_mergeSort
theorem sortP_pw (l : List Pt) : (sortP l).Pairwise fun a b => leP a b = true := List.pairwise_mergeSort leP_tr leP_tot l
theorem sortP_len (l : List Pt) : (sortP l).length = l.length := (sortP_perm l).length_eq
/-- a list in order is told by what it has, and how often -/
theorem eqP {a b : List Pt} (ha : a.Pairwise fun x y => leP x y = true) (hb : b.Pairwise fun x y => leP x y = true) (h : a.Perm b) : a = b :=
  List.Perm.eq_of_pairwise (le := fun x y => leP x y = true) (fun _ _ _ _ h1 h2 => leP_anti h1 h2) ha hb h
theorem sortP_eq {a b : List Pt} (h : a.Perm b) : sortP a = sortP b := eqP (sortP_pw a) (sortP_pw b) ((sortP_perm a).trans (h.trans (sortP_perm b).symm))
theorem nd_perm {α : Type} [DecidableEq α] {a b : List α} (ha : a.Nodup) (hb : b.Nodup) (h : ∀ x, x ∈ a ↔ x ∈ b) : a.Perm b := (List.perm_ext_iff_of_nodup ha hb).mpr h
theorem sortP_filter (f : Pt → Bool) (a : List Pt) : (sortP a).filter f = sortP (a.filter f) :=
  eqP ((sortP_pw a).filter f) (sortP_pw _) (((sortP_perm a).filter f).trans (sortP_perm _).symm)
theorem lay_p (p : Pt) : Lay 1 (dPt p) := Lay.tup fun d hd => by
  simp only [List.mem_cons, List.not_mem_nil, or_false] at hd
  rcases hd with rfl | rfl <;> exact Lay.i _
theorem sortOk_p {l : List Pt} (h : l.length ≤ 16000000) : sortOk (l.map dPt) = true := by
  unfold sortOk
  simp only [Bool.and_eq_true, Bool.or_eq_true, List.all_eq_true, decide_eq_true_eq, List.mem_map, List.length_map]
  refine ⟨⟨⟨?_, .inl ?_⟩, ?_⟩, h⟩
  · rintro _ ⟨a, _, rfl⟩ _ ⟨b, _, rfl⟩
    simp [PySem.W.alike, PySem.W.alikeAll]
  · rintro _ ⟨a, _, rfl⟩; rfl
  · rintro _ ⟨a, _, rfl⟩
    exact ⟨Lay.shaped (lay_p a), Nat.le_trans (lay_p a).2 (by decide)⟩
theorem pSorted_p {l : List Pt} (h : l.length ≤ 16000000) : pSorted [.list (l.map dPt)] = .ok (.list ((sortP l).map dPt)) := by
  show (if sortOk (l.map dPt) = true then Rs.ok (PyData.list (sortD (l.map dPt))) else .stuck) = _
  rw [if_pos (sortOk_p h), sortD_p]
theorem setKd_p : ∀ {l : List Pt}, l.length < 64 → (setKd (l.map dPt)).isSome = true
  | [], _ => rfl
  | p :: l, h => by
    have e : (p :: l).map dPt = ((p :: l).map fun q : Pt => [(q.1 : Int), (q.2 : Int)]).map tupI := by rw [List.map_map]; rfl
    have e1 : strsOf? (((p :: l).map fun q : Pt => [(q.1 : Int), (q.2 : Int)]).map tupI) = none := rfl
    have e2 : setKd (((p :: l).map fun q : Pt => [(q.1 : Int), (q.2 : Int)]).map tupI) = some (.t ((p :: l).map fun q : Pt => [(q.1 : Int), (q.2 : Int)])) := by
      unfold setKd
      rw [e1, tupsOf?_map _ fun x hx => by
        obtain ⟨q, _, rfl⟩ := List.mem_map.mp hx
        simp]
      exact if_pos (by rw [List.length_map]; exact h)
    rw [e, e2]; rfl
theorem ss_p {l : List Pt} (h : l.length < 64) : ssV (.ok (.list (l.map dPt))) = .ok (.list ((sortP (dedG l)).map dPt)) := by
  show (pSSet (.list (l.map dPt))).nox = _
  show ((if (setKd (l.map dPt)).isSome = true ∧ sortOk (l.map dPt) = true then Rs.ok (PyData.list (sortD (dedD (l.map dPt)))) else .stuck) : Rs D).nox = _
  rw [if_pos ⟨setKd_p h, sortOk_p (by omega)⟩, dedD_map eqv_pp, sortD_p]; rfl
theorem shaped_ps (l : List Pt) : SeqAt.shaped (.list (l.map dPt)) = true := shaped_l (n := 1) fun d hd => by
  obtain ⟨p, _, rfl⟩ := List.mem_map.mp hd
  exact lay_p p
/-! ### rows -/
abbrev Rw := Int × Pt
abbrev dR (r : Rw) : D := .tuple [.int r.1, dPt r.2]
def ltR (a b : Rw) : Prop := a.1 < b.1 ∨ (a.1 = b.1 ∧ ltP a.2 b.2)
instance (a b : Rw) : Decidable (ltR a b) := by unfold ltR; exact inferInstance
def leR (a b : Rw) : Bool := !decide (ltR b a)
theorem leR_iff {a b : Rw} : leR a b = true ↔ ¬ ltR b a := by
  unfold leR
  rw [Bool.not_eq_true', decide_eq_false_iff_not]
theorem leR_tr (a b c : Rw) (h1 : leR a b = true) (h2 : leR b c = true) : leR a c = true := by
  rw [leR_iff] at *
  unfold ltR ltP at *
  omega
theorem leR_tot (a b : Rw) : (leR a b || leR b a) = true := by
  rw [Bool.or_eq_true, leR_iff, leR_iff]
  unfold ltR ltP
  omega
theorem leR_anti {a b : Rw} (h1 : leR a b = true) (h2 : leR b a = true) : a = b := by
  rw [leR_iff] at *
  unfold ltR ltP at *
  exact Prod.ext (by omega) (Prod.ext (by omega) (by omega))
theorem dataLt_r (a b : Rw) : PySem.W.dataLt (dR a) (dR b) = decide (ltR a b) := by
  rw [PySem.W.dataLt_pair (by simp [PySem.W.alike]) (by simp [PySem.W.alike, PySem.W.alikeAll]), eqv_ii, eqv_pp, PySem.W.dataLt_int, PySem.W.dataLt_ii]
  by_cases h1 : a.1 = b.1
  · rw [decide_eq_true h1, if_pos rfl]
    by_cases h2 : a.2 = b.2
    · rw [decide_eq_true h2, if_pos rfl]
      refine (decide_eq_false ?_).symm
      unfold ltR ltP
      rw [h2]; omega
    · rw [decide_eq_false h2, if_neg (by simp)]
      exact decide_eq_decide.mpr (by unfold ltR ltP; omega)
  · rw [decide_eq_false h1, if_neg (by simp)]
    exact decide_eq_decide.mpr (by unfold ltR; omega)
theorem dLe_r (a b : Rw) : dLe (dR a) (dR b) = leR a b := by
  unfold dLe leR
  rw [dataLt_r]
def sortR (l : List Rw) : List Rw := l.mergeSort leR
theorem sortD_r (l : List Rw) : sortD (l.map dR) = (sortR l).map dR := (List.map_mergeSort (s := dLe) (r := leR) (f := dR) fun a _ b _ => (dLe_r a b).symm).symm
theorem sortR_perm (l : List Rw) : (sortR l).Perm l := List.mergeSort_perm l leR
theorem sortR_mem {l : List Rw} {p : Rw} : p ∈ sortR l ↔ p ∈ l := List.mem_mergeSort
theorem sortR_pw (l : List Rw) : (sortR l).Pairwise fun a b => leR a b = true := List.pairwise_mergeSort leR_tr leR_tot l
theorem sortR_len (l : List Rw) : (sortR l).length = l.length := (sortR_perm l).length_eq
theorem eqR {a b : List Rw} (ha : a.Pairwise fun x y => leR x y = true) (hb : b.Pairwise fun x y => leR x y = true) (h : a.Perm b) : a = b :=
  List.Perm.eq_of_pairwise (le := fun x y => leR x y = true) (fun _ _ _ _ h1 h2 => leR_anti h1 h2) ha hb h
theorem lay_r (r : Rw) : Lay 2 (dR r) := Lay.tup fun d hd => by
  simp only [List.mem_cons, List.not_mem_nil, or_false] at hd
  rcases hd with rfl | rfl
  · exact Lay.i _
  · exact lay_p _
theorem sortOk_r {l : List Rw} (h : l.length ≤ 16000000) : sortOk (l.map dR) = true := by
  unfold sortOk
  simp only [Bool.and_eq_true, Bool.or_eq_true, List.all_eq_true, decide_eq_true_eq, List.mem_map, List.length_map]
  refine ⟨⟨⟨?_, .inl ?_⟩, ?_⟩, h⟩
  · rintro _ ⟨a, _, rfl⟩ _ ⟨b, _, rfl⟩
    simp [PySem.W.alike, PySem.W.alikeAll]
  · rintro _ ⟨a, _, rfl⟩; rfl
  · rintro _ ⟨a, _, rfl⟩
    exact ⟨Lay.shaped (lay_r a), Nat.le_trans (lay_r a).2 (by decide)⟩
theorem pSorted_r {l : List Rw} (h : l.length ≤ 16000000) : pSorted [.list (l.map dR)] = .ok (.list ((sortR l).map dR)) := by
  show (if sortOk (l.map dR) = true then Rs.ok (PyData.list (sortD (l.map dR))) else .stuck) = _
  rw [if_pos (sortOk_r h), sortD_r]
def minR (a : Rw) (l : List Rw) : Rw := l.foldl (fun a y => if ltR y a then y else a) a
theorem minR_mem : ∀ (l : List Rw) (a : Rw), minR a l ∈ a :: l
  | [], a => List.mem_singleton.mpr rfl
  | y :: l, a => by
    unfold minR
    rw [List.foldl_cons]
    have := minR_mem l (if ltR y a then y else a)
    unfold minR at this
    rcases List.mem_cons.mp this with e | e
    · rw [e]
      split
      · exact List.mem_cons_of_mem _ List.mem_cons_self
      · exact List.mem_cons_self
    · exact List.mem_cons_of_mem _ (List.mem_cons_of_mem _ e)
theorem minR_le : ∀ (l : List Rw) (a : Rw), ∀ b ∈ a :: l, leR (minR a l) b = true
  | [], a, b, hb => by
    rw [List.mem_singleton] at hb
    rw [hb, leR_iff]
    unfold minR ltR ltP
    simp
  | y :: l, a, b, hb => by
    unfold minR
    rw [List.foldl_cons]
    have ih := minR_le l (if ltR y a then y else a)
    unfold minR at ih
    have top := ih _ List.mem_cons_self
    rcases (List.mem_cons.mp hb) with rfl | hb
    · refine leR_tr _ _ _ top ?_
      rw [leR_iff]
      split
      · rename_i c
        unfold ltR ltP at *
        omega
      · unfold ltR ltP; omega
    · rcases (List.mem_cons.mp hb) with rfl | hb
      · refine leR_tr _ _ _ top ?_
        rw [leR_iff]
        split
        · unfold ltR ltP; omega
        · rename_i c
          exact c
      · exact ih b (List.mem_cons_of_mem _ hb)
theorem minD_r (a : Rw) (l : List Rw) : PySem.W.minD (dR a) (l.map dR) = dR (minR a l) := by
  unfold PySem.W.minD minR
  induction l generalizing a with
  | nil => rfl
  | cons y l ih =>
    rw [List.map_cons, List.foldl_cons, List.foldl_cons, ← ih, dataLt_r]
    by_cases c : ltR y a
    · rw [decide_eq_true c, if_pos rfl, if_pos c]
    · rw [decide_eq_false c, if_neg (by simp), if_neg c]
theorem pMinL_r (a : Rw) (l : List Rw) : pMinL [.list ((a :: l).map dR)] = .ok (dR (minR a l)) := by
  show (if mmOk ((a :: l).map dR) = true then Rs.ok (PySem.W.minD (dR a) (l.map dR)) else .stuck) = _
  rw [if_pos, minD_r]
  unfold mmOk
  simp only [Bool.and_eq_true, List.all_eq_true, decide_eq_true_eq, List.mem_map]
  refine ⟨⟨?_, ?_⟩, ?_⟩
  · rintro _ ⟨a, _, rfl⟩ _ ⟨b, _, rfl⟩
    simp [PySem.W.alike, PySem.W.alikeAll]
  · rintro _ ⟨a, _, rfl⟩
    exact ⟨⟨Lay.shaped (lay_r a), rfl⟩, Nat.le_trans (lay_r a).2 (by decide)⟩
  · rintro _ ⟨a, _, rfl⟩; rfl
/-- the head of rows in order is the least of them -/
theorem sortR_head (a : Rw) (l : List Rw) : ∃ t, sortR (a :: l) = minR a l :: t := by
  cases e : sortR (a :: l) with
  | nil =>
    have := sortR_len (a :: l)
    rw [e] at this
    cases this
  | cons h t =>
    have pw := sortR_pw (a :: l)
    rw [e] at pw
    have mm : minR a l ∈ h :: t := by rw [← e, sortR_mem]; exact minR_mem l a
    have hm : h ∈ a :: l := by rw [← sortR_mem, e]; exact List.mem_cons_self
    have h1 : leR h (minR a l) = true := by
      rcases List.mem_cons.mp mm with q | q
      · rw [q, leR_iff]; unfold ltR ltP; omega
      · exact (List.pairwise_cons.mp pw).1 _ q
    have h2 := minR_le l a h hm
    exact ⟨t, by rw [leR_anti h1 h2]⟩
theorem minI_mem : ∀ (l : List Int) (a : Int), l.foldl min a ∈ a :: l
  | [], a => List.mem_singleton.mpr rfl
  | y :: l, a => by
    rw [List.foldl_cons]
    rcases List.mem_cons.mp (minI_mem l (min a y)) with e | e
    · rw [e]
      rcases Int.le_total a y with q | q
      · rw [Int.min_eq_left q]; exact List.mem_cons_self
      · rw [Int.min_eq_right q]; exact List.mem_cons_of_mem _ List.mem_cons_self
    · exact List.mem_cons_of_mem _ (List.mem_cons_of_mem _ e)
theorem minI_le : ∀ (l : List Int) (a : Int), ∀ b ∈ a :: l, l.foldl min a ≤ b
  | [], a, b, hb => by rw [List.mem_singleton] at hb; rw [hb]; exact Int.le_refl _
  | y :: l, a, b, hb => by
    rw [List.foldl_cons]
    have ih := minI_le l (min a y)
    have top := ih _ List.mem_cons_self
    rcases (List.mem_cons.mp hb) with rfl | hb
    · omega
    · rcases (List.mem_cons.mp hb) with rfl | hb
      · omega
      · exact ih b (List.mem_cons_of_mem _ hb)
theorem pMinL_i (a : Int) (l : List Int) : pMinL [.list ((a :: l).map .int)] = .ok (.int (l.foldl min a)) := by
  show (if mmOk ((a :: l).map .int) = true then Rs.ok (PySem.W.minD (.int a) (l.map .int)) else .stuck) = _
  rw [if_pos, PySem.W.minD_ints]
  unfold mmOk
  simp only [Bool.and_eq_true, List.all_eq_true, decide_eq_true_eq, List.mem_map]
  refine ⟨⟨?_, ?_⟩, ?_⟩
  · rintro _ ⟨a, _, rfl⟩ _ ⟨b, _, rfl⟩
    simp [PySem.W.alike]
  · rintro _ ⟨a, _, rfl⟩
    exact ⟨⟨shaped_i a, rfl⟩, by rw [PyData.depth]; omega⟩
  · rintro _ ⟨a, _, rfl⟩; rfl

/-! Plain law: how far, how much is shared, what is near. -/
def ad (a b : Nat) : Nat := (a - b) + (b - a)
def apN (p q : Pt) (r : Bool) : Nat := max (if r = true then min (ad p.1 q.1) (32 - ad p.1 q.1) else ad p.1 q.1) (ad p.2 q.2)
def pOk (p : Pt) : Prop := p.1 < 32 ∧ p.2 < 32
theorem apN_comm (p q : Pt) (r : Bool) : apN p q r = apN q p r := by
  unfold apN
  rw [show ad p.1 q.1 = ad q.1 p.1 by unfold ad; omega, show ad p.2 q.2 = ad q.2 p.2 by unfold ad; omega]
theorem abs_n (a b : Nat) : cb pAbs (consM (b2 pSub (.ok (.int (a : Int))) (.ok (.int (b : Int)))) (.ok [])) = .ok (.int (ad a b : Nat)) := by
  rw [b2_ok, pSub_i, Rs.nox_ok, consM_ok, cb_ok]
  show (Rs.ok (PyData.int (if (a : Int) - b < 0 then -((a : Int) - b) else (a : Int) - b))).nox = _
  rw [Rs.nox_ok]
  refine congrArg (fun i => Rs.ok (PyData.int i)) ?_
  unfold ad
  split <;> omega
theorem sub32 (a : Nat) (h : a ≤ 32) : b2 pSub (.ok (.int 32)) (.ok (.int (a : Int))) = .ok (.int ((32 - a : Nat) : Int)) := by
  rw [b2_ok, pSub_i, Rs.nox_ok]
  exact congrArg (fun i => Rs.ok (PyData.int i)) (by omega)
theorem ad_lt {a b : Nat} (ha : a < 32) (hb : b < 32) : ad a b < 32 := by unfold ad; omega
def w5 (p : Pt) : Wd := wordOf p.1 p.2 5
theorem w5_len (p : Pt) : (w5 p).length = 5 := wordOf_len _ _ _
def shN (p q : Pt) : Nat := (comm (w5 p) (w5 q)).length
theorem shN_comm (p q : Pt) : shN p q = shN q p := by unfold shN; rw [comm_symm]
theorem shN_le (p q : Pt) : shN p q ≤ 5 := by
  have := comm_len1 (w5 p) (w5 q)
  rw [w5_len] at this
  exact this
/-! ### points next to one -/
def nxX (p : Pt) (r : Bool) (dx : Int) : Int := if r = true then ((p.1 : Int) + dx) % 32 else (p.1 : Int) + dx
def nxS (p : Pt) (r : Bool) (s : List Pt) (c : Int × Int) : List Pt :=
  if 0 ≤ nxX p r c.1 ∧ nxX p r c.1 < 32 ∧ 0 ≤ (p.2 : Int) + c.2 ∧ (p.2 : Int) + c.2 < 32 ∧ ¬ (nxX p r c.1 = p.1 ∧ (p.2 : Int) + c.2 = p.2) then stepG s ((nxX p r c.1).toNat, ((p.2 : Int) + c.2).toNat) else s
def encN (s : List Pt) : List (List Key × D) := s.map fun q => ([.inl (q.1 : Int), .inl (q.2 : Int)], .bool true)
theorem put_n (s : List Pt) (q : Pt) : putD (encN s) [.inl (q.1 : Int), .inl (q.2 : Int)] (.bool true) = encN (stepG s q) := by
  have e : ((encN s).any fun x => decide (x.1 = [.inl (q.1 : Int), .inl (q.2 : Int)])) = decide (q ∈ s) := by
    unfold encN
    rw [List.any_map]
    refine Bool.eq_iff_iff.mpr ?_
    rw [List.any_eq_true, decide_eq_true_eq]
    constructor
    · rintro ⟨z, hz, h⟩
      have h := of_decide_eq_true h
      injection h with h1 h
      injection h with h2 h
      injection h1 with h1
      injection h2 with h2
      rw [show q = z from Prod.ext (by omega) (by omega)]
      exact hz
    · intro h
      exact ⟨q, h, decide_eq_true rfl⟩
  unfold putD stepG
  rw [e]
  by_cases c : q ∈ s
  · rw [decide_eq_true c, if_pos rfl, if_pos c]
    unfold encN
    rw [List.map_map]
    refine List.map_congr_left fun z _ => ?_
    show (if _ then _ else _) = _
    split
    · rfl
    · rfl
  · rw [decide_eq_false c, if_neg (by simp), if_neg c]
    unfold encN
    rw [List.map_append]; rfl
def nxC : List (Int × Int) := [(-1, -1), (-1, 0), (-1, 1), (0, -1), (0, 0), (0, 1), (1, -1), (1, 0), (1, 1)]
def nxL (p : Pt) (r : Bool) : List Pt := nxC.foldl (nxS p r) []
theorem nxS_len (p : Pt) (r : Bool) (s : List Pt) (c : Int × Int) : (nxS p r s c).length ≤ s.length + 1 := by
  unfold nxS
  split
  · exact stepG_len _ _
  · omega
theorem nx_fold_mem {p : Pt} {r : Bool} {q : Pt} : ∀ (l : List (Int × Int)) (s : List Pt), q ∈ l.foldl (nxS p r) s ↔ q ∈ s ∨ ∃ c ∈ l, (0 ≤ nxX p r c.1 ∧ nxX p r c.1 < 32 ∧ 0 ≤ (p.2 : Int) + c.2 ∧ (p.2 : Int) + c.2 < 32 ∧ ¬ (nxX p r c.1 = p.1 ∧ (p.2 : Int) + c.2 = p.2)) ∧ (q.1 : Int) = nxX p r c.1 ∧ (q.2 : Int) = (p.2 : Int) + c.2
  | [], s => by simp
  | c :: l, s => by
    rw [List.foldl_cons, nx_fold_mem l]
    have e : q ∈ nxS p r s c ↔ q ∈ s ∨ ((0 ≤ nxX p r c.1 ∧ nxX p r c.1 < 32 ∧ 0 ≤ (p.2 : Int) + c.2 ∧ (p.2 : Int) + c.2 < 32 ∧ ¬ (nxX p r c.1 = p.1 ∧ (p.2 : Int) + c.2 = p.2)) ∧ (q.1 : Int) = nxX p r c.1 ∧ (q.2 : Int) = (p.2 : Int) + c.2) := by
      unfold nxS
      split
      · rename_i h
        rw [stepG_mem]
        refine ⟨fun z => z.imp id fun z => ⟨h, ?_, ?_⟩, fun z => z.imp id fun z => Prod.ext ?_ ?_⟩
        · rw [z]; show ((nxX p r c.1).toNat : Int) = _; omega
        · rw [z]; show ((((p.2 : Int) + c.2).toNat : Nat) : Int) = _; omega
        · show q.1 = (nxX p r c.1).toNat; omega
        · show q.2 = ((p.2 : Int) + c.2).toNat; omega
      · rename_i h
        exact ⟨.inl, fun z => z.elim id fun z => absurd z.1 h⟩
    rw [e]
    constructor
    · rintro ((h | h) | ⟨x, hx, h⟩)
      · exact .inl h
      · exact .inr ⟨c, List.mem_cons_self, h⟩
      · exact .inr ⟨x, List.mem_cons_of_mem _ hx, h⟩
    · rintro (h | ⟨x, hx, h⟩)
      · exact .inl (.inl h)
      · rcases List.mem_cons.mp hx with rfl | hx
        · exact .inl (.inr h)
        · exact .inr ⟨x, hx, h⟩
theorem mem_nxC {a b : Int} : (a, b) ∈ nxC ↔ -1 ≤ a ∧ a ≤ 1 ∧ -1 ≤ b ∧ b ≤ 1 := by
  unfold nxC
  simp only [List.mem_cons, List.not_mem_nil, or_false, Prod.mk.injEq]
  omega
theorem mem_nxL {p q : Pt} {r : Bool} (hp : pOk p) : q ∈ nxL p r ↔ pOk q ∧ apN p q r = 1 := by
  unfold nxL
  rw [nx_fold_mem]
  obtain ⟨p1, p2⟩ := hp
  constructor
  · rintro (h | ⟨⟨a, b⟩, hc, ⟨h1, h2, h3, h4, h5⟩, h6, h7⟩)
    · cases h
    · obtain ⟨k1, k2, k3, k4⟩ := mem_nxC.mp hc
      dsimp only at *
      unfold pOk apN
      unfold nxX at *
      refine ⟨by omega, ?_⟩
      cases r with
      | true =>
        rw [if_pos rfl] at *
        unfold ad
        omega
      | false =>
        rw [if_neg (by simp)] at *
        unfold ad
        omega
  · rintro ⟨⟨q1, q2⟩, h⟩
    right
    unfold apN at h
    unfold nxX
    cases r with
    | true =>
      rw [if_pos rfl] at h
      unfold ad at h
      by_cases c : q.1 = 31 ∧ p.1 = 0
      · exact ⟨(-1, (q.2 : Int) - p.2), mem_nxC.mpr (by omega), by dsimp only; rw [if_pos rfl]; omega, by dsimp only; rw [if_pos rfl]; omega, by dsimp only; omega⟩
      · by_cases c2 : q.1 = 0 ∧ p.1 = 31
        · exact ⟨(1, (q.2 : Int) - p.2), mem_nxC.mpr (by omega), by dsimp only; rw [if_pos rfl]; omega, by dsimp only; rw [if_pos rfl]; omega, by dsimp only; omega⟩
        · exact ⟨((q.1 : Int) - p.1, (q.2 : Int) - p.2), mem_nxC.mpr (by omega), by dsimp only; rw [if_pos rfl]; omega, by dsimp only; rw [if_pos rfl]; omega, by dsimp only; omega⟩
    | false =>
      rw [if_neg (by simp)] at h
      unfold ad at h
      exact ⟨((q.1 : Int) - p.1, (q.2 : Int) - p.2), mem_nxC.mpr (by omega), by dsimp only; rw [if_neg (by simp)]; omega, by dsimp only; rw [if_neg (by simp)]; omega, by dsimp only; omega⟩
theorem nxL_nodup (p : Pt) (r : Bool) : (nxL p r).Nodup := by
  have g : ∀ (l : List (Int × Int)) (s : List Pt), s.Nodup → (l.foldl (nxS p r) s).Nodup := fun l => by
    induction l with
    | nil => exact fun s h => h
    | cons c l ih =>
      intro s h
      refine ih _ ?_
      unfold nxS
      split
      · exact stepG_nodup _ h
      · exact h
  exact g nxC [] .nil
theorem nxL_ne {p : Pt} {r : Bool} (hp : pOk p) : nxL p r ≠ [] := by
  have p2 := hp.2
  have e : ∃ q : Pt, q ∈ nxL p r := by
    by_cases c : p.2 = 31
    · refine ⟨(p.1, p.2 - 1), (mem_nxL hp).mpr ⟨⟨hp.1, by dsimp only; omega⟩, ?_⟩⟩
      unfold apN ad
      dsimp only
      cases r <;> simp <;> omega
    · refine ⟨(p.1, p.2 + 1), (mem_nxL hp).mpr ⟨⟨hp.1, by dsimp only; omega⟩, ?_⟩⟩
      unfold apN ad
      dsimp only
      cases r <;> simp
  obtain ⟨q, hq⟩ := e
  intro z
  rw [z] at hq
  cases hq

/-! Plain law: texts of words. -/
def lineW (w : Wd) : List Nat := if w = [] then [45] else wL w
def textW (l : List Wd) : List Nat := (l.map fun w => lineW w ++ [10]).flatten
def glueL : List (List Nat) → List Nat
  | [] => []
  | [a] => a
  | a :: b :: t => a ++ 10 :: glueL (b :: t)
theorem nl_eq : ("\n" : Str) = ⟨#[10]⟩ := by decide +kernel
theorem join_glue : ∀ l : List (List Nat), Str.join ⟨#[10]⟩ (l.map sL) = sL (glueL l)
  | [] => rfl
  | [a] => rfl
  | a :: b :: t => by
    have ih := join_glue (b :: t)
    show sL a ++ (⟨#[10]⟩ : Str) ++ Str.join ⟨#[10]⟩ ((b :: t).map sL) = _
    rw [ih, sL_one, sL_app, sL_app, List.append_assoc]; rfl
theorem cut_one {c : Nat} : ∀ {x y r s : List Nat}, c ∉ x → c ∉ y → x ++ c :: r = y ++ c :: s → x = y ∧ r = s
  | [], [], r, s, _, _, h => ⟨rfl, (List.cons.inj h).2⟩
  | [], b :: y, r, s, _, h2, h => absurd (List.cons.inj h).1 fun e => h2 (e ▸ List.mem_cons_self)
  | a :: x, [], r, s, h1, _, h => absurd (List.cons.inj h).1 fun e => h1 (e ▸ List.mem_cons_self)
  | a :: x, b :: y, r, s, h1, h2, h => by
    obtain ⟨e1, e2⟩ := List.cons.inj h
    obtain ⟨i1, i2⟩ := cut_one (fun z => h1 (List.mem_cons_of_mem _ z)) (fun z => h2 (List.mem_cons_of_mem _ z)) e2
    exact ⟨by rw [e1, i1], i2⟩
theorem glue_inj : ∀ {a b : List (List Nat)}, a ≠ [] → b ≠ [] → (∀ p ∈ a, 10 ∉ p) → (∀ p ∈ b, 10 ∉ p) → glueL a = glueL b → a = b
  | [], _, h, _, _, _, _ => absurd rfl h
  | _ :: _, [], _, h, _, _, _ => absurd rfl h
  | [x], [y], _, _, _, _, e => by rw [show x = y from e]
  | [x], y :: z :: t, _, _, h1, _, e => absurd (show (10 : Nat) ∈ x by rw [show x = y ++ 10 :: glueL (z :: t) from e]; simp) (h1 x List.mem_cons_self)
  | y :: z :: t, [x], _, _, _, h2, e => absurd (show (10 : Nat) ∈ x by rw [← show y ++ 10 :: glueL (z :: t) = x from e]; simp) (h2 x List.mem_cons_self)
  | x :: x' :: s, y :: y' :: t, _, _, h1, h2, e => by
    obtain ⟨e1, e2⟩ := cut_one (h1 x List.mem_cons_self) (h2 y List.mem_cons_self) (show x ++ 10 :: glueL (x' :: s) = y ++ 10 :: glueL (y' :: t) from e)
    have := glue_inj (by simp) (by simp) (fun p hp => h1 p (List.mem_cons_of_mem _ hp)) (fun p hp => h2 p (List.mem_cons_of_mem _ hp)) e2
    rw [e1, this]
/-- what split tells -/
theorem split_parts (x : List Nat) : ∃ S : List (List Nat), Txt.split (sL x) ⟨#[10]⟩ = S.map sL ∧ S ≠ [] ∧ (∀ p ∈ S, 10 ∉ p) ∧ glueL S = x := by
  have e : Txt.split (sL x) ⟨#[10]⟩ = ((Txt.split (sL x) ⟨#[10]⟩).map fun s => s.cps.toList).map sL := by
    rw [List.map_map]
    refine (List.map_id _).symm.trans (List.map_congr_left fun s _ => (sL_of s).symm)
  refine ⟨(Txt.split (sL x) ⟨#[10]⟩).map fun s => s.cps.toList, e, fun h => ?_, fun p hp => ?_, ?_⟩
  · have := PyProof.Rows.split_pos (sL x) ⟨#[10]⟩
    have l := congrArg List.length h
    rw [List.length_map, List.length_nil] at l
    omega
  · obtain ⟨s, hs, rfl⟩ := List.mem_map.mp hp
    exact StrLaws.split_free (sL x) 10 s hs
  · have j := StrLaws.join_split (sL x) ⟨#[10]⟩
    rw [e, join_glue] at j
    exact sL_inj.mp j
theorem split_of {x : List Nat} {P : List (List Nat)} (h : P ≠ []) (hf : ∀ p ∈ P, 10 ∉ p) (e : glueL P = x) : Txt.split (sL x) ⟨#[10]⟩ = P.map sL := by
  obtain ⟨S, h1, h2, h3, h4⟩ := split_parts x
  rw [h1, glue_inj h2 h h3 hf (h4.trans e.symm)]
theorem glue_lines : ∀ L : List (List Nat), glueL (L ++ [[]]) = (L.map fun a => a ++ [10]).flatten
  | [] => rfl
  | [a] => by show a ++ 10 :: [] = _; simp
  | a :: b :: t => by
    have ih := glue_lines (b :: t)
    show a ++ 10 :: glueL ((b :: t) ++ [[]]) = _
    rw [ih]
    show _ = (a ++ [10]) ++ ((b :: t).map fun a => a ++ [10]).flatten
    rw [List.append_assoc]; rfl
theorem line_free (w : Wd) : 10 ∉ lineW w := by
  unfold lineW
  split
  · decide
  · intro h
    unfold wL ltr at h
    obtain ⟨i, _, e⟩ := List.mem_map.mp h
    omega
theorem text_split (l : List Wd) : Txt.split (sL (textW l)) ⟨#[10]⟩ = (l.map lineW ++ [[]]).map sL := by
  refine split_of (by simp) (fun p hp => ?_) ?_
  · rcases List.mem_append.mp hp with h9 | h9
    · obtain ⟨w, _, rfl⟩ := List.mem_map.mp h9
      exact line_free w
    · rw [List.mem_singleton] at h9
      rw [h9]; simp
  · rw [glue_lines]
    unfold textW
    rw [List.map_map]; rfl
theorem line_len {w : Wd} (h : w.length ≤ 5) : (lineW w).length ≤ 5 := by
  unfold lineW
  split
  · decide
  · rw [wL_length]; exact h
theorem text_len {l : List Wd} (h : ∀ w ∈ l, w.length ≤ 5) : (textW l).length ≤ 6 * l.length := by
  unfold textW
  induction l with
  | nil => exact Nat.le_refl _
  | cons w l ih =>
    have q0 : (w :: l).length = l.length + 1 := rfl
    rw [List.map_cons, List.flatten_cons, List.length_append, List.length_append]
    have h1 := line_len (h w List.mem_cons_self)
    have h2 := ih fun x hx => h x (List.mem_cons_of_mem _ hx)
    show (lineW w).length + 1 + _ ≤ _
    omega
theorem dsh : (PyData.str "-" : D) = .str (sL [45]) := by rw [show ("-" : Str) = sL [45] by decide +kernel]
theorem ine_ss (a b : List Nat) (h : (∀ c ∈ a, c < 1114112) ∧ ∀ c ∈ b, c < 1114112) : c2 pNe (.ok (.str (sL a))) (.ok (.str (sL b))) = .ok (!decide (a = b)) := by
  rw [c2_ok, pNe_of (by rw [shaped_s h.1, shaped_s h.2]; rfl), eqv_ss]; rfl
theorem lineV (w : Wd) : ifV (c2 pNe (.ok (dW w)) (.ok (.str ""))) (.ok (dW w)) (.ok (.str "-")) = .ok (.str (sL (lineW w))) := by
  rw [empty_w, cne_ww, dsh]
  unfold lineW
  by_cases h : w = []
  · rw [if_pos h, decide_eq_true h]; rfl
  · rw [if_neg h, decide_eq_false h]; rfl
theorem sum_lines {l : List Wd} (h : ∀ w ∈ l, w.length ≤ 5) : ((l.map fun w => lineW w ++ [10]).map List.length).sum ≤ 6 * l.length := by
  have := text_len h
  unfold textW at this
  rwa [List.length_flatten] at this
theorem e_words_text {l : List Wd} (h : WL l) : m_words_text [dWs l] = .ok (.str (sL (textW (canon (cvB l))))) := by
  show (b_words_text (dWs l)).fin = _
  refine finK ?_
  unfold b_words_text
  refine (bindK (need_ok h)).trans (retK ?_)
  rw [joinW h]
  have cl := canon_few (cvB l)
  have e := lcMap (mi := Rs.bind (.ok (dWs (canon (cvB l)))) itemsOf) (l := canon (cvB l)) (hh := fun w => dW w) (f := fun (word_1 : D) => (b2 pAdd (ifV (c2 pNe (.ok word_1) (.ok (.str ""))) (.ok word_1) (.ok (.str "-"))) (.ok (.str "\n")))) (g := fun w => .str (sL (lineW w ++ [10]))) rfl (fun w hw => by
    have := line_len (canon_len hw)
    rw [lineV, nl_eq, sL_one, b2_ok, pAdd_s (by show _ + 1 ≤ _; omega)]; rfl)
  rw [e, consM_ok, msV_ok]
  have j := pJoin_e (l := (canon (cvB l)).map fun w => lineW w ++ [10]) (by have := sum_lines (l := canon (cvB l)) fun w hw => canon_len hw; omega)
  rw [List.map_map] at j
  exact (congrArg Rs.nox j).trans rfl
theorem e_words_text_no {d : D} (h : okWs d) (e : isWs d = false) : m_words_text [d] = .exc "NoWord" := by
  show (b_words_text d).fin = _
  unfold b_words_text
  rw [need_no h e]; rfl
/-- the lines of a text, as words where they are -/
def unL (p : List Nat) : D := if p = [45] then dW [] else .str (sL p)
theorem unL_line (w : Wd) : unL (lineW w) = dW w := by
  unfold unL lineW
  by_cases h : w = []
  · rw [if_pos h, if_pos rfl, h]
  · rw [if_neg h, if_neg]
    intro q
    match w, h with
    | [i], _ =>
      have : ltr i = 45 := (List.cons.inj q).1
      unfold ltr at this
      omega
    | i :: j :: t, _ => cases (List.cons.inj q).2
theorem lines_of {x : List Nat} {S : List (List Nat)} (hx : x.length ≤ 100000) (hc : ∀ p ∈ S, ∀ c ∈ p, c < 1114112) (e : Txt.split (sL x) ⟨#[10]⟩ = S.map sL) : lcV some (Rs.bind (slV (msV pSplit (.ok (.str (sL x))) (consM (.ok (.str "\n")) (.ok []))) (.ok none) (Rs.bind (Rs.bind (.ok (.int 1)) pNeg) asI)) itemsOf) (fun (line_2 : D) => (.ok true)) (fun (line_2 : D) => (ifV (c2 pNe (.ok line_2) (.ok (.str "-"))) (.ok line_2) (.ok (.str "")))) = .ok (.list (S.dropLast.map unL)) := by
  have sp : msV pSplit (.ok (.str (sL x))) (consM (.ok (.str "\n")) (.ok [])) = .ok (.list (S.map fun p => .str (sL p))) := by
    rw [nl_eq, consM_ok, msV_ok]
    show (if (!(⟨#[10]⟩ : Str).length == 0 && decide ((sL x).length + 2 ≤ sizeLine)) = true then Rs.ok (PyData.list ((Txt.split (sL x) ⟨#[10]⟩).map .str)) else .stuck : Rs D).nox = _
    rw [if_pos (by rw [sL_length, sizeLine_eq, decide_eq_true (by omega)]; rfl), e, List.map_map]; rfl
  have dl : slV (.ok (.list (S.map fun p => PyData.str (sL p)))) (.ok none) (Rs.bind (Rs.bind (.ok (.int 1)) pNeg) asI) = .ok (.list (S.dropLast.map fun p => .str (sL p))) := by
    rw [neg1, slV_ok]
    show (Rs.ok (PyData.list (cutD (S.map fun p => PyData.str (sL p)) none (some (-1))))).nox = _
    unfold cutD
    rw [HT.sIx_none, List.length_map, List.drop_zero, Nat.sub_zero]
    have : HT.sIx S.length S.length (some (-1)) = S.length - 1 := by
      unfold HT.sIx
      show (if (-1 : Int) < 0 then (-1 + (S.length : Int)).toNat else min (-1 : Int).toNat S.length) = _
      rw [if_pos (by decide)]
      omega
    rw [this, List.dropLast_eq_take, ← List.map_take]; rfl
  rw [sp, dl]
  refine lcMap (l := S.dropLast) (hh := fun p => .str (sL p)) (g := unL) rfl fun p hp => ?_
  rw [dsh, ine_ss p [45] ⟨hc p ((List.dropLast_sublist S).subset hp), by decide⟩]
  unfold unL
  by_cases h : p = [45]
  · rw [decide_eq_true h, if_pos h]; exact congrArg Rs.ok empty_w
  · rw [decide_eq_false h, if_neg h]; rfl
theorem text_eq_iff {a b : List Wd} : textW a = textW b ↔ a = b := by
  constructor
  · intro h
    have e := text_split a
    rw [h, text_split b] at e
    have e2 : b.map lineW ++ [[]] = a.map lineW ++ [[]] := (List.map_inj_right fun x y q => sL_inj.mp q).mp e
    have e3 := List.append_cancel_right e2
    have inj : ∀ x y : Wd, lineW x = lineW y → x = y := fun x y q => by
      have := unL_line x
      rw [q, unL_line y] at this
      injection this with this
      exact (wL_inj.mp (sL_inj.mp this)).symm
    exact ((List.map_inj_right fun x y q => inj x y q).mp e3).symm
  · rintro rfl; rfl
theorem e_read_ok {l : List Wd} (h : WL l) (hc : canon (cvB l) = l) : m_read_words [.str (sL (textW l))] = .ok (dWs l) := by
  show (b_read_words (.str (sL (textW l)))).fin = _
  refine finK ?_
  unfold b_read_words
  have tl := text_len h.2
  have h1 := h.1
  have e := lines_of (x := textW l) (S := l.map lineW ++ [[]]) (by omega) (fun p hp c hc => by
    rcases List.mem_append.mp hp with q9 | q9
    · obtain ⟨w, _, rfl⟩ := List.mem_map.mp q9
      unfold lineW at hc
      split at hc
      · simp at hc; omega
      · exact wL_lt w c hc
    · rw [List.mem_singleton] at q9
      rw [q9] at hc; cases hc) (text_split l)
  rw [List.dropLast_concat, List.map_map, show l.map (unL ∘ lineW) = l.map fun w => dW w from List.map_congr_left fun w _ => unL_line w] at e
  refine (bindK (a := dWs l) e).trans ?_
  refine (ifF (x := ()) (or_ff (not_t ?_) (tNe (d := .str (sL (textW l))) ?_ rfl (shaped_s fun c hc => ?_))) rfl).trans rfl
  · rw [consM_ok, Rs.bind_ok, e_are_words (okWs_w h), isWs_w h]
  · rw [consM_ok, Rs.bind_ok, e_words_text h, hc]
  · unfold textW at hc
    obtain ⟨a, ha, hca⟩ := List.mem_flatten.mp hc
    obtain ⟨w, _, rfl⟩ := List.mem_map.mp ha
    rcases List.mem_append.mp hca with q | q
    · unfold lineW at q
      split at q
      · simp at q; omega
      · exact wL_lt w c q
    · simp at q; omega

/-! Plain law: what is read of any text. -/
def Ch (x : List Nat) : Prop := ∀ c ∈ x, c < 1114112
theorem Ch.app {a b : List Nat} (h : Ch a) (h2 : Ch b) : Ch (a ++ b) := fun c hc => (List.mem_append.mp hc).elim (h c) (h2 c)
theorem ch_line (w : Wd) : Ch (lineW w) := fun c hc => by
  unfold lineW at hc
  split at hc
  · simp at hc; omega
  · exact wL_lt w c hc
theorem ch_text (l : List Wd) : Ch (textW l) := fun c hc => by
  unfold textW at hc
  obtain ⟨a, ha, hca⟩ := List.mem_flatten.mp hc
  obtain ⟨w, _, rfl⟩ := List.mem_map.mp ha
  rcases List.mem_append.mp hca with q | q
  · exact ch_line w c q
  · simp at q; omega
theorem line_ne (w : Wd) : lineW w ≠ [] := by
  unfold lineW
  split
  · intro h; cases h
  · rename_i h
    intro q
    cases w with
    | nil => exact h rfl
    | cons a t => cases q
theorem line_inj {a b : Wd} (q : lineW a = lineW b) : a = b := by
  have := unL_line a
  rw [q, unL_line b] at this
  injection this with this
  exact (wL_inj.mp (sL_inj.mp this)).symm
/-- what writes a list of words -/
def goodT (x : List Nat) : Prop := ∃ l : List Wd, WL l ∧ canon (cvB l) = l ∧ textW l = x
theorem glue_text (l : List Wd) : glueL (l.map lineW ++ [[]]) = textW l := by
  rw [glue_lines]
  unfold textW
  rw [List.map_map]; rfl
theorem lines_free (l : List Wd) : ∀ p ∈ l.map lineW ++ [[]], 10 ∉ p := fun p hp => by
  rcases List.mem_append.mp hp with h9 | h9
  · obtain ⟨w, _, rfl⟩ := List.mem_map.mp h9
    exact line_free w
  · rw [List.mem_singleton] at h9
    rw [h9]; simp
theorem good_iff {S : List (List Nat)} (h : S ≠ []) (hf : ∀ p ∈ S, 10 ∉ p) : goodT (glueL S) ↔ ∃ l, WL l ∧ canon (cvB l) = l ∧ S = l.map lineW ++ [[]] := by
  constructor
  · rintro ⟨l, h1, h2, h3⟩
    refine ⟨l, h1, h2, ?_⟩
    rw [← glue_text] at h3
    exact (glue_inj (by simp) h (lines_free l) hf h3).symm
  · rintro ⟨l, h1, h2, rfl⟩
    exact ⟨l, h1, h2, (glue_text l).symm⟩
theorem glue_mem : ∀ {S : List (List Nat)} {p : List Nat} {c : Nat}, p ∈ S → c ∈ p → c ∈ glueL S
  | [], _, _, h, _ => by cases h
  | [a], p, c, h, h2 => by rw [List.mem_singleton] at h; subst h; exact h2
  | a :: b :: t, p, c, h, h2 => by
    show c ∈ a ++ 10 :: glueL (b :: t)
    rcases List.mem_cons.mp h with h | h
    · subst h; exact List.mem_append_left _ h2
    · exact List.mem_append_right _ (List.mem_cons_of_mem _ (glue_mem h h2))
theorem glue_ch : ∀ {S : List (List Nat)}, (∀ p ∈ S, Ch p) → Ch (glueL S)
  | [], _ => fun c hc => by cases hc
  | [a], h => h a List.mem_cons_self
  | a :: b :: t, h => by
    show Ch (a ++ 10 :: glueL (b :: t))
    refine (h a List.mem_cons_self).app fun c hc => ?_
    rcases (List.mem_cons.mp hc) with rfl | hc
    · omega
    · exact glue_ch (fun p hp => h p (List.mem_cons_of_mem _ hp)) c hc
theorem glue_len : ∀ {S : List (List Nat)} {k : Nat}, (∀ p ∈ S, p.length ≤ k) → (glueL S).length ≤ (k + 1) * S.length
  | [], _, _ => Nat.zero_le _
  | [a], k, h => by have := h a List.mem_cons_self; show a.length ≤ (k + 1) * 1; omega
  | a :: b :: t, k, h => by
    have ih := glue_len (S := b :: t) (k := k) fun p hp => h p (List.mem_cons_of_mem _ hp)
    have h1 := h a List.mem_cons_self
    show (a ++ 10 :: glueL (b :: t)).length ≤ _
    rw [List.length_append, List.length_cons]
    rw [show (a :: b :: t).length = (b :: t).length + 1 from rfl, Nat.mul_succ]
    omega
theorem glue_part : ∀ {S : List (List Nat)} {p : List Nat}, p ∈ S → p.length ≤ (glueL S).length
  | [], _, h => by cases h
  | [a], p, h => by rw [List.mem_singleton] at h; subst h; exact Nat.le_refl _
  | a :: b :: t, p, h => by
    show _ ≤ (a ++ 10 :: glueL (b :: t)).length
    rw [List.length_append, List.length_cons]
    rcases List.mem_cons.mp h with h | h
    · subst h; omega
    · have := glue_part h; omega
theorem glue_many : ∀ {S : List (List Nat)}, S.length ≤ (glueL S).length + 1
  | [] => Nat.zero_le _
  | [a] => by show 1 ≤ _; omega
  | a :: b :: t => by
    have := glue_many (S := b :: t)
    show (b :: t).length + 1 ≤ (a ++ 10 :: glueL (b :: t)).length + 1
    rw [List.length_append, show (10 :: glueL (b :: t)).length = (glueL (b :: t)).length + 1 from rfl]
    omega
/-- a list of texts -/
def dLn (S : List (List Nat)) : D := .list (S.map fun p => .str (sL p))
theorem eqv_dLn (a b : List (List Nat)) : PyData.eqv (dLn a) (dLn b) = decide (a = b) := by
  unfold dLn
  rw [PyData.eqv]
  induction a generalizing b with
  | nil =>
    cases b with
    | nil => rw [List.map_nil, PyData.eqvAll]; simp
    | cons w b => rw [List.map_nil, List.map_cons, PyData.eqvAll]; simp
  | cons v a ih =>
    cases b with
    | nil => rw [List.map_nil, List.map_cons, PyData.eqvAll]; simp
    | cons w b =>
      rw [List.map_cons, List.map_cons, PyData.eqvAll, ih, eqv_ss]
      refine Bool.eq_iff_iff.mpr ?_
      simp
theorem canLay_dLn : ∀ {l : List (List Nat)}, (∀ p ∈ l, Ch p) → PyData.canLayAll0 (l.map fun p => PyData.str (sL p)) = true
  | [], _ => rfl
  | w :: l, h => by rw [List.map_cons, PyData.canLayAll0, lay_s (h w List.mem_cons_self), canLay_dLn (l := l) fun p hp => h p (List.mem_cons_of_mem _ hp)]; rfl
theorem depth_dLn : ∀ l : List (List Nat), PyData.depthAll (l.map fun p => PyData.str (sL p)) = 0
  | [] => rfl
  | w :: l => by rw [List.map_cons, PyData.depthAll, depth_dLn l]; rfl
theorem shaped_dLn {l : List (List Nat)} (h : ∀ p ∈ l, Ch p) : SeqAt.shaped (dLn l) = true := by
  unfold SeqAt.shaped dLn
  rw [PyData.canLay0, canLay_dLn h, PyData.depth, depth_dLn]; rfl
theorem isWs_to {f : List D} (h : isWs (.list f) = true) : ∃ l : List Wd, WL l ∧ PyData.list f = dWs l := by
  have h' : (decide (f.length ≤ 1024) && f.all isW) = true := h
  rw [Bool.and_eq_true, List.all_eq_true] at h'
  have key : ∀ g : List D, (∀ d ∈ g, isW d = true) → ∃ l : List Wd, (∀ w ∈ l, w.length ≤ 5) ∧ g = l.map fun w => dW w := fun g => by
    induction g with
    | nil => exact fun _ => ⟨[], (fun _ h => nomatch h), rfl⟩
    | cons d g ih =>
      intro hg
      obtain ⟨w, h1, rfl⟩ := isW_iff.mp (hg d List.mem_cons_self)
      obtain ⟨l, h2, rfl⟩ := ih fun x hx => hg x (List.mem_cons_of_mem _ hx)
      exact ⟨w :: l, fun v hv => (List.mem_cons.mp hv).elim (fun e => e ▸ h1) (h2 v), rfl⟩
  obtain ⟨l, h2, rfl⟩ := key f h'.2
  exact ⟨l, ⟨by have := of_decide_eq_true h'.1; rwa [List.length_map] at this, h2⟩, rfl⟩
theorem okT_unL {p : List Nat} (h : Ch p) (hl : p.length ≤ 1000) : okT (unL p) = true := by
  unfold unL
  split
  · exact okT_w [] (by decide)
  · exact okT_s hl h
/-- what split tells of a text -/
theorem split_all (x : List Nat) : ∃ (A : List (List Nat)) (z : List Nat), Txt.split (sL x) ⟨#[10]⟩ = (A ++ [z]).map sL ∧ (∀ p ∈ A ++ [z], 10 ∉ p) ∧ glueL (A ++ [z]) = x := by
  obtain ⟨S, h1, h2, h3, h4⟩ := split_parts x
  refine ⟨S.dropLast, S.getLast h2, ?_, ?_, ?_⟩ <;> rw [List.dropLast_concat_getLast h2] <;> assumption
theorem e_read_no {x : List Nat} (hl : x.length ≤ 1000) (hc : Ch x) (h : ¬ goodT x) : m_read_words [.str (sL x)] = .exc "NoText" := by
  show (b_read_words (.str (sL x))).fin = _
  unfold b_read_words
  obtain ⟨A, z, h1, h2, h3⟩ := split_all x
  have hS : ∀ p ∈ A ++ [z], Ch p ∧ p.length ≤ 1000 := fun p hp => ⟨fun c hcp => hc c (h3 ▸ glue_mem hp hcp), by have := glue_part hp; rw [h3] at this; omega⟩
  have e := lines_of (x := x) (S := A ++ [z]) (by omega) (fun p hp => (hS p hp).1) h1
  rw [List.dropLast_concat] at e
  have hA : A.length ≤ 1000 := by have := glue_many (S := A ++ [z]); rw [h3, List.length_append] at this; simp at this; omega
  have ok : okWs (.list (A.map unL)) := fun d hd => by
    obtain ⟨p, hp, rfl⟩ := List.mem_map.mp hd
    have := hS p (List.mem_append_left _ hp)
    exact okT_unL this.1 this.2
  have fin : ∀ {c : Rs Bool}, c = .ok true → (ifS c (Rs.exc "NoText" : Rs (Out Unit)) (.ok (.nx ())) fun j => Rs.ret (.ok (.list (A.map unL)))) = (.exc "NoText" : Rs (Out Unit)) := fun {c} h => by rw [h]; rfl
  have st : (b_read_words (.str (sL x))) = (.exc "NoText" : Rs (Out Unit)) := by
    unfold b_read_words
    refine (bindK (a := PyData.list (A.map unL)) e).trans (fin ?_)
    rw [consM_ok, Rs.bind_ok, e_are_words ok]
    cases hw : isWs (.list (A.map unL)) with
    | false => rfl
    | true =>
      obtain ⟨l, wl, e2⟩ := isWs_to hw
      rw [e2, Rs.bind_ok, e_words_text wl]
      have ne : textW (canon (cvB l)) ≠ x := fun q => h ⟨_, WL.canon _, cv_canon, q⟩
      show Rs.orB (.ok false) (c2 pNe (.ok (.str (sL (textW (canon (cvB l)))))) (.ok (.str (sL x)))) = .ok true
      rw [ine_ss _ _ ⟨ch_text _, hc⟩, decide_eq_false ne]; rfl
  have : (b_read_words (.str (sL x))).fin = .exc "NoText" := by rw [st]; rfl
  unfold b_read_words at this
  exact this

end Pu

/-! Plain law k61. -/
namespace Pu
open PySem PySem.Spec
open PyProof.Rows L2
theorem told_yes {l : List Wd} (h : WL l) (hc : canon (cvB l) = l) : m_law_told [.str (sL (textW l))] = .ok (dWs l) := by
  show (b_law_told (.str (sL (textW l)))).fin = _
  unfold b_law_told
  rw [a1 (f := m_read_words) rfl, e_read_ok h hc]; rfl
theorem told_x1 : b_law_told_x1 "NoText" = .ok (.ret .none) := by kernel_rfl
theorem told_no {x : List Nat} (hl : x.length ≤ 1000) (hc : Ch x) (h : ¬ goodT x) : m_law_told [.str (sL x)] = .ok .none := by
  show (b_law_told (.str (sL x))).fin = _
  unfold b_law_told
  rw [a1 (f := m_read_words) rfl, e_read_no hl hc h]
  show (((Rs.exc "NoText" : Rs (Out Unit)).catchE exNs b_law_told_x1).seq _).fin = _
  have q : (Rs.exc "NoText" : Rs (Out Unit)).catchE exNs b_law_told_x1 = .ok (.ret .none) := by
    unfold Rs.catchE
    dsimp only
    rw [if_pos (by decide +kernel), told_x1]
  rw [q]; rfl
theorem split_ln {x : List Nat} (hx : x.length ≤ 100000) {S : List (List Nat)} (e : Txt.split (sL x) ⟨#[10]⟩ = S.map sL) : msV pSplit (.ok (.str (sL x))) (consM (.ok (.str "\n")) (.ok [])) = .ok (dLn S) := by
  rw [nl_eq, consM_ok, msV_ok]
  show (if (!(⟨#[10]⟩ : Str).length == 0 && decide ((sL x).length + 2 ≤ sizeLine)) = true then Rs.ok (PyData.list ((Txt.split (sL x) ⟨#[10]⟩).map .str)) else .stuck : Rs D).nox = _
  rw [if_pos (by rw [sL_length, sizeLine_eq, decide_eq_true (by omega)]; rfl), e, List.map_map]; rfl
theorem sIx_m1 (n : Nat) : HT.sIx n n (some (-1)) = n - 1 := by
  unfold HT.sIx
  show (if (-1 : Int) < 0 then (-1 + (n : Int)).toNat else min (-1 : Int).toNat n) = _
  rw [if_pos (by decide)]
  omega
theorem slice_m1 (A : List (List Nat)) (z : List Nat) : slV (.ok (dLn (A ++ [z]))) (.ok none) (Rs.bind (Rs.bind (.ok (.int 1)) pNeg) asI) = .ok (dLn A) := by
  rw [neg1, slV_ok]
  show (Rs.ok (PyData.list (cutD ((A ++ [z]).map fun p => PyData.str (sL p)) none (some (-1))))).nox = _
  unfold cutD
  rw [HT.sIx_none, List.length_map, List.drop_zero, Nat.sub_zero, sIx_m1, ← List.map_take, List.length_append, List.length_singleton, Nat.add_sub_cancel, List.take_append_of_le_length (Nat.le_refl _), List.take_length]; rfl
theorem last_m1 (A : List (List Nat)) (z : List Nat) : b2 pIx (.ok (dLn (A ++ [z]))) (Rs.bind (.ok (.int 1)) pNeg) = .ok (.str (sL z)) := by
  show (pIx (.list ((A ++ [z]).map fun p => PyData.str (sL p))) (.int (-1))).nox = _
  have : atI ((A ++ [z]).map fun p => PyData.str (sL p)) (-1) = some (.str (sL z)) := by
    unfold atI ixN
    rw [if_neg (by decide), List.length_map, List.length_append, List.length_singleton, if_pos (by omega)]
    show ((A ++ [z]).map fun p => PyData.str (sL p))[(-1 + ((A.length + 1 : Nat) : Int)).toNat]? = _
    rw [show (-1 + ((A.length + 1 : Nat) : Int)).toNat = A.length by omega, List.getElem?_map, List.getElem?_append_right (Nat.le_refl _), Nat.sub_self]; rfl
  show (match atI ((A ++ [z]).map fun p => PyData.str (sL p)) (-1) with | some d => Rs.ok d | none => Rs.stuck).nox = _
  rw [this]; rfl
theorem emp_s : (PyData.str "" : D) = .str (sL []) := by rw [show ("" : Str) = sL [] by decide +kernel]
theorem ch_nil : Ch [] := fun c hc => nomatch hc
theorem has_emp {A : List (List Nat)} (h : ∀ p ∈ A, Ch p) : c2 pIn (.ok (.str "")) (.ok (dLn A)) = .ok (decide ([] ∈ A)) := by
  rw [emp_s, c2_ok]
  have e : pIn (.str (sL [])) (dLn A) = .ok (.bool (decide ([] ∈ A))) := by
    show (if (SeqAt.shaped (.str (sL [])) && SeqAt.shaped (dLn A)) = true then Rs.ok (PyData.bool ((A.map fun p => PyData.str (sL p)).any fun z => PyData.eqv z (.str (sL [])))) else .stuck) = _
    rw [if_pos (by rw [shaped_s ch_nil, shaped_dLn h]; rfl), List.any_map]
    refine congrArg (fun z => Rs.ok (PyData.bool z)) ?_
    rw [Bool.eq_iff_iff, decide_eq_true_eq, List.any_eq_true]
    constructor
    · rintro ⟨p, hp, q⟩
      have q' : PyData.eqv (.str (sL p)) (.str (sL [])) = true := q
      rw [eqv_ss, decide_eq_true_eq] at q'
      exact q' ▸ hp
    · exact fun hp => ⟨[], hp, by show PyData.eqv (.str (sL [])) (.str (sL [])) = true; rw [eqv_ss]; exact decide_eq_true rfl⟩
  rw [e]; rfl
/-- what must not be in a text's lines -/
def badL (A : List (List Nat)) (z : List Nat) : Bool := !decide (z = []) || (decide ([] ∈ A) || (A.map unL).any fun d => !isW d)
theorem lay_u {p : List Nat} (h : Ch p) : Lay 5 (unL p) := by
  unfold unL
  split
  · exact ⟨lay_s (wL_lt []), by show PyData.depth (.str _) ≤ 5; rw [PyData.depth]; omega⟩
  · exact ⟨lay_s h, by rw [PyData.depth]; omega⟩
theorem e_due {x : List Nat} (hl : x.length ≤ 1000) (hc : Ch x) : (∀ l, WL l → canon (cvB l) = l → textW l = x → m_law_due [.str (sL x)] = .ok (dWs l)) ∧ (¬ goodT x → m_law_due [.str (sL x)] = .ok .none) := by
  obtain ⟨A, z, h1, h2, h3⟩ := split_all x
  have hS : ∀ p ∈ A ++ [z], Ch p ∧ p.length ≤ 1000 := fun p hp => ⟨fun c hcp => hc c (h3 ▸ glue_mem hp hcp), by have := glue_part hp; rw [h3] at this; omega⟩
  have hA : ∀ p ∈ A, Ch p ∧ p.length ≤ 1000 := fun p hp => hS p (List.mem_append_left _ hp)
  have hz := hS z (by simp)
  have hn : A.length ≤ 1000 := by have := glue_many (S := A ++ [z]); rw [h3, List.length_append] at this; simp at this; omega
  have gi := good_iff (S := A ++ [z]) (by simp) h2
  rw [h3] at gi
  have run : m_law_due [.str (sL x)] = (ifS (α := Unit) (.ok (badL A z)) (Rs.ret (.ok .none)) (.ok (.nx ())) fun j_5 => (Rs.ret (ifV (c2 pEq (Rs.bind (consM (.ok (.list (A.map unL))) (.ok [])) m_fewest) (.ok (.list (A.map unL)))) (.ok (.list (A.map unL))) (.ok .none)) : Rs (Out Unit))).fin := by
    show (b_law_due (.str (sL x))).fin = _
    refine congrArg Rs.fin ?_
    unfold b_law_due
    refine (bindK (split_ln (by omega) h1)).trans ?_
    rw [slice_m1]
    refine (bindK (a := .list (A.map unL)) (lcMap (l := A) (hh := fun p => .str (sL p)) (g := unL) rfl fun p hp => ?_)).trans ?_
    · have : c2 pEq (.ok (.str (sL p))) (.ok (.str "-")) = .ok (decide (p = [45])) := by
        rw [dsh, c2_ok, pEq_of (by rw [shaped_s (hA p hp).1, shaped_s (l := [45]) (by decide)]; rfl), eqv_ss]; rfl
      rw [this]
      unfold unL
      by_cases h : p = [45]
      · rw [decide_eq_true h, if_pos h]; exact congrArg Rs.ok empty_w
      · rw [decide_eq_false h, if_neg h]; rfl
    · have cc : Rs.orB (c2 pNe (b2 pIx (.ok (dLn (A ++ [z]))) (Rs.bind (.ok (.int 1)) pNeg)) (.ok (.str ""))) (Rs.orB (c2 pIn (.ok (.str "")) (.ok (dLn A))) (c2 pNe (lcV some (Rs.bind (.ok (.list (A.map unL))) itemsOf) (fun (w : D) => (Rs.notB (isB (Rs.bind (consM (.ok w) (.ok [])) m_is_word)))) (fun (w : D) => (.ok w))) (lstV (.ok [])))) = .ok (badL A z) := by
        refine orK ?_ (orK (has_emp fun p hp => (hA p hp).1) ?_)
        · rw [last_m1, emp_s, ine_ss _ _ ⟨hz.1, ch_nil⟩]
        · refine lc_ne (l := A.map unL) (hh := id) (g := id) (by rw [List.map_id]; rfl) (fun d hd => ?_) (fun _ _ _ => rfl) fun d hd => ?_
          · obtain ⟨p, hp, rfl⟩ := List.mem_map.mp hd
            rw [a1 (f := m_is_word) rfl]
            show Rs.notB (isB (m_is_word [unL p])) = _
            rw [e_is_word (okT_unL (hA p hp).1 (hA p hp).2)]
            cases isW (unL p) <;> rfl
          · obtain ⟨p, hp, rfl⟩ := List.mem_map.mp hd
            exact lay_u (hA p hp).1
      exact congrArg (fun c => ifS (α := Unit) c (Rs.ret (.ok .none)) (.ok (.nx ())) fun j_5 => (Rs.ret (ifV (c2 pEq (Rs.bind (consM (.ok (.list (A.map unL))) (.ok [])) m_fewest) (.ok (.list (A.map unL)))) (.ok (.list (A.map unL))) (.ok .none)) : Rs (Out Unit))) cc
  -- what it means that nothing bad is in the lines
  have good : badL A z = false ↔ z = [] ∧ ∃ l : List Wd, (∀ w ∈ l, w.length ≤ 5) ∧ A = l.map lineW := by
    unfold badL
    rw [Bool.or_eq_false_iff, Bool.or_eq_false_iff, Bool.not_eq_false', decide_eq_true_eq, decide_eq_false_iff_not, List.any_eq_false]
    constructor
    · rintro ⟨g1, g2, g3⟩
      refine ⟨g1, ?_⟩
      clear run gi h1 h2 h3 hS hz hn hA
      induction A with
      | nil => exact ⟨[], (fun w hw => nomatch hw), rfl⟩
      | cons p A ih =>
        obtain ⟨l, hl5, rfl⟩ := ih (fun q => g2 (List.mem_cons_of_mem _ q)) fun d hd => g3 d (by rw [List.map_cons]; exact List.mem_cons_of_mem _ hd)
        have hw := g3 (unL p) (by rw [List.map_cons]; exact List.mem_cons_self)
        have hw' : isW (unL p) = true := by cases e : isW (unL p) with
          | true => rfl
          | false => exact absurd (by rw [e]; rfl) hw
        obtain ⟨w, hw5, e⟩ := isW_iff.mp hw'
        refine ⟨w :: l, fun v hv => (List.mem_cons.mp hv).elim (fun q => q ▸ hw5) (hl5 v), ?_⟩
        rw [List.map_cons]
        refine congrArg (· :: _) ?_
        unfold unL at e
        by_cases hp : p = [45]
        · rw [if_pos hp] at e
          injection e with e
          have : ([] : Wd) = w := wL_inj.mp (sL_inj.mp e)
          rw [← this, hp]; rfl
        · rw [if_neg hp] at e
          injection e with e
          have e' : p = wL w := sL_inj.mp e
          have hw0 : w ≠ [] := fun q => g2 (by rw [e', q]; exact List.mem_cons_self)
          unfold lineW
          rw [if_neg hw0, e']
    · rintro ⟨rfl, l, hl5, rfl⟩
      refine ⟨rfl, fun q => ?_, fun d hd => ?_⟩
      · obtain ⟨w, _, e⟩ := List.mem_map.mp q
        exact line_ne w e
      · rw [List.map_map] at hd
        obtain ⟨w, hw, rfl⟩ := List.mem_map.mp hd
        show ¬ (!isW (unL (lineW w))) = true
        rw [unL_line, isW_iff.mpr ⟨w, hl5 w hw, rfl⟩]
        decide
  have found : ∀ l : List Wd, A = l.map lineW → PyData.list (A.map unL) = dWs l := fun l e => by
    rw [e, List.map_map]
    refine congrArg PyData.list (List.map_congr_left fun w _ => unL_line w)
  constructor
  · intro l wl hcl ht
    obtain ⟨l', wl', _, e⟩ := gi.mp ⟨l, wl, hcl, ht⟩
    have e2 : l' = l := by
      rw [← text_eq_iff, ht, ← h3, e, glue_text]
    subst e2
    have e3 : A = l'.map lineW ∧ [z] = [[]] := by
      have := congrArg List.length e
      rw [List.length_append, List.length_append] at this
      exact List.append_inj e (by simpa using this)
    have hb : badL A z = false := good.mpr ⟨by injection e3.2, l', wl.2, e3.1⟩
    rw [run, hb, ifS_f, Rs.seq_nx, found l' e3.1, a1 (f := m_fewest) rfl, e_fewest wl, hcl, ceq_dWs, decide_eq_true rfl]; rfl
  · intro ng
    rw [run]
    cases hb : badL A z with
    | true => rfl
    | false =>
      obtain ⟨hz0, l, hl5, e⟩ := good.mp hb
      have wl : WL l := ⟨by have := congrArg List.length e; rw [List.length_map] at this; omega, hl5⟩
      have ne : canon (cvB l) ≠ l := fun q => ng (gi.mpr ⟨l, wl, q, by rw [e, hz0]⟩)
      rw [ifS_f, Rs.seq_nx, found l e, a1 (f := m_fewest) rfl, e_fewest wl, ceq_dWs, decide_eq_false ne]; rfl
theorem agree {x : List Nat} (hl : x.length ≤ 1000) (hc : Ch x) : b_law_l2 () (.str (sL x)) = .ok (.nx ()) := by
  have hd := e_due hl hc
  unfold b_law_l2
  by_cases g : goodT x
  · obtain ⟨l, h1, h2, h3⟩ := g
    refine chk (tNe (d := dWs l) ?_ ?_ (shaped_dWs _))
    · rw [a1 (f := m_law_told) rfl, ← h3, told_yes h1 h2]
    · rw [a1 (f := m_law_due) rfl]; exact hd.1 l h1 h2 h3
  · refine chk (tNe (d := .none) ?_ ?_ (by decide +kernel))
    · rw [a1 (f := m_law_told) rfl]; exact told_no hl hc g
    · rw [a1 (f := m_law_due) rfl]; exact hd.2 g
/-! the texts of which the law speaks -/
def TX (n : Nat) (m : Rs D) : Prop := ∃ x, m = .ok (.str (sL x)) ∧ x.length ≤ n ∧ Ch x
theorem tx_s {x : List Nat} {n : Nat} (h : x.length ≤ n) (hc : Ch x) : TX n (.ok (.str (sL x))) := ⟨x, rfl, h, hc⟩
theorem tx_sl {m : Rs D} {n : Nat} {ml mh : Rs (Option Int)} {lo hi : Option Int} (h : TX n m) (h1 : ml = .ok lo) (h2 : mh = .ok hi) (hn : n ≤ 100000) : TX n (slV m ml mh) := by
  obtain ⟨x, rfl, hx, hc⟩ := h
  rw [h1, h2]
  refine ⟨_, by rw [slV_ok, pSl_s (by omega), Rs.nox_ok], ?_, fun c h => hc c (List.mem_of_mem_drop (List.mem_of_mem_take h))⟩
  rw [List.length_take, List.length_drop]; omega
theorem tx_add {m1 m2 : Rs D} {a b : Nat} (h : TX a m1) (h2 : TX b m2) (hn : a + b ≤ 100000) : TX (a + b) (b2 pAdd m1 m2) := by
  obtain ⟨x, rfl, hx, hc⟩ := h
  obtain ⟨y, rfl, hy, hd⟩ := h2
  exact ⟨x ++ y, by rw [b2_ok, pAdd_s (by omega), Rs.nox_ok], by rw [List.length_append]; omega, hc.app hd⟩
theorem tx_mul2 {x : List Nat} {n : Nat} (h : x.length ≤ n) (hc : Ch x) (hn : n ≤ 1000) : TX (n + n) (b2 pMul (.ok (.str (sL x))) (.ok (.int 2))) := by
  refine ⟨x ++ x, ?_, by rw [List.length_append]; omega, hc.app hc⟩
  show (if 0 ≤ (2 : Int) ∧ (2 : Int) < 2 ^ 20 ∧ (sL x).length * (2 : Int).toNat ≤ 2 ^ 20 then Rs.ok (PyData.str ⟨(List.replicate (2 : Int).toNat (sL x).cps.toList).flatten.toArray⟩) else .stuck : Rs D).nox = _
  rw [if_pos ⟨by decide, by decide, by rw [sL_length, show (2 : Int).toNat = 2 from rfl]; omega⟩, show (2 : Int).toNat = 2 from rfl, sL_list]
  have : (List.replicate 2 x).flatten = x ++ x := by simp [List.replicate]
  rw [this]; rfl
theorem tx_le {m : Rs D} {a b : Nat} (h : TX a m) (hab : a ≤ b) : TX b m := by
  obtain ⟨x, e, hx, hc⟩ := h
  exact ⟨x, e, by omega, hc⟩
def TXs (m : Rs (List D)) (k : Nat) : Prop := ∃ X : List (List Nat), m = .ok (X.map fun x => .str (sL x)) ∧ X.length = k ∧ ∀ x ∈ X, x.length ≤ 1000 ∧ Ch x
theorem txs_nil : TXs (.ok []) 0 := ⟨[], rfl, rfl, fun x hx => nomatch hx⟩
theorem txs_cons {m : Rs D} {ms : Rs (List D)} {n k : Nat} (h : TX n m) (hn : n ≤ 1000) (h2 : TXs ms k) : TXs (consM m ms) (k + 1) := by
  obtain ⟨x, rfl, hx, hc⟩ := h
  obtain ⟨X, rfl, hk, hX⟩ := h2
  exact ⟨x :: X, by rw [consM_ok]; rfl, by rw [List.length_cons, hk], fun y hy => (List.mem_cons.mp hy).elim (fun e => e ▸ ⟨by omega, hc⟩) (hX y)⟩
/-- lists of lines -/
def LN (k n : Nat) (m : Rs D) : Prop := ∃ S : List (List Nat), m = .ok (dLn S) ∧ S.length ≤ n ∧ ∀ p ∈ S, p.length ≤ k ∧ Ch p
theorem ln_s {S : List (List Nat)} {k n : Nat} (h : S.length ≤ n) (hp : ∀ p ∈ S, p.length ≤ k ∧ Ch p) : LN k n (.ok (dLn S)) := ⟨S, rfl, h, hp⟩
theorem ln_sl {m : Rs D} {k n : Nat} {ml mh : Rs (Option Int)} {lo hi : Option Int} (h : LN k n m) (h1 : ml = .ok lo) (h2 : mh = .ok hi) : LN k n (slV m ml mh) := by
  obtain ⟨S, rfl, hx, hc⟩ := h
  rw [h1, h2]
  refine ⟨(S.drop (HT.sIx S.length 0 lo)).take (HT.sIx S.length S.length hi - HT.sIx S.length 0 lo), ?_, ?_, fun c h => hc c (List.mem_of_mem_drop (List.mem_of_mem_take h))⟩
  · rw [slV_ok]
    show (Rs.ok (PyData.list (cutD (S.map fun p => PyData.str (sL p)) lo hi))).nox = _
    unfold cutD dLn
    rw [List.length_map, List.map_take, List.map_drop]; rfl
  · rw [List.length_take, List.length_drop]; omega
theorem ln_add {m1 m2 : Rs D} {k a b : Nat} (h : LN k a m1) (h2 : LN k b m2) (hn : a + b ≤ 100000) : LN k (a + b) (b2 pAdd m1 m2) := by
  obtain ⟨x, rfl, hx, hc⟩ := h
  obtain ⟨y, rfl, hy, hd⟩ := h2
  refine ⟨x ++ y, ?_, by rw [List.length_append]; omega, fun p hp => (List.mem_append.mp hp).elim (hc p) (hd p)⟩
  rw [b2_ok]
  show (if (x.map fun p => PyData.str (sL p)).length + (y.map fun p => PyData.str (sL p)).length ≤ sizeLine then Rs.ok (PyData.list _) else .stuck : Rs D).nox = _
  rw [if_pos (by rw [List.length_map, List.length_map, sizeLine_eq]; omega), ← List.map_append]; rfl
theorem ln_rev {m : Rs D} {k n : Nat} (h : LN k n m) : LN k n (Rs.bind m pRev) := by
  obtain ⟨S, rfl, hx, hc⟩ := h
  refine ⟨S.reverse, ?_, by rw [List.length_reverse]; exact hx, fun p hp => hc p (List.mem_reverse.mp hp)⟩
  show Rs.ok (PyData.list (S.map fun p => PyData.str (sL p)).reverse) = _
  rw [← List.map_reverse]; rfl
theorem glue_tail : ∀ (a : List Nat) (l : List (List Nat)), glueL (a :: l) = a ++ (l.map fun p => 10 :: p).flatten
  | a, [] => by show a = a ++ []; rw [List.append_nil]
  | a, b :: t => by show a ++ 10 :: glueL (b :: t) = _; rw [glue_tail b t]; rfl
theorem foldl_gl (l : List (List Nat)) : ∀ acc : List Nat, (l.map sL).foldl (fun a p => a ++ (#[10] : Array Nat) ++ p.cps) acc.toArray = (acc ++ (l.map fun p => 10 :: p).flatten).toArray := by
  induction l with
  | nil => intro acc; simp
  | cons a l ih =>
    intro acc
    rw [List.map_cons, List.foldl_cons]
    have e : acc.toArray ++ (#[10] : Array Nat) ++ (sL a).cps = (acc ++ 10 :: a).toArray := by
      show acc.toArray ++ (#[10] : Array Nat) ++ a.toArray = _
      simp
    rw [e, ih, List.map_cons, List.flatten_cons, List.append_assoc]
theorem join_nl (l : List (List Nat)) : Txt.join ⟨#[10]⟩ (l.map sL) = sL (glueL l) := by
  show Builtin.Str.glued ⟨#[10]⟩ (l.map sL) = _
  unfold Builtin.Str.glued
  cases l with
  | nil => rfl
  | cons a l =>
    have h := foldl_gl l a
    rw [List.map_cons, List.drop_succ_cons, List.drop_zero, List.headD_cons, glue_tail]
    exact congrArg Str.mk h
theorem tx_join {m : Rs D} {k n : Nat} (h : LN k n m) (hn : (k + 1) * n ≤ 100000) : TX ((k + 1) * n) (msV pJoin (.ok (.str "\n")) (consM m (.ok []))) := by
  obtain ⟨S, rfl, hx, hc⟩ := h
  have gl := glue_len (S := S) (k := k) fun p hp => (hc p hp).1
  have gl2 : (k + 1) * S.length ≤ (k + 1) * n := Nat.mul_le_mul_left _ hx
  refine ⟨glueL S, ?_, by omega, glue_ch fun p hp => (hc p hp).2⟩
  have e : (S.map fun a => (PyData.str (sL a) : D)) = (S.map sL).map .str := by rw [List.map_map]; rfl
  rw [nl_eq, consM_ok, msV_ok]
  show (match strsOf (S.map fun a => (PyData.str (sL a) : D)) with | some ys => if joinOk ⟨#[10]⟩ ys = true then Rs.ok (PyData.str (Txt.join ⟨#[10]⟩ ys)) else Rs.stuck | none => Rs.stuck).nox = _
  rw [e, strsOf_map]
  dsimp only
  rw [if_pos, join_nl]; rfl
  unfold joinOk
  rw [decide_eq_true_eq, List.map_map]
  have e2 : (List.map ((fun x => Str.length x) ∘ sL) S) = S.map List.length := List.map_congr_left fun a _ => sL_length a
  have sm : ∀ T : List (List Nat), (∀ p ∈ T, p.length ≤ k) → (T.map List.length).sum ≤ k * T.length := fun T => by
    induction T with
    | nil => exact fun _ => Nat.zero_le _
    | cons a T ih =>
      intro h
      have h1 := h a List.mem_cons_self
      have h2 := ih fun p hp => h p (List.mem_cons_of_mem _ hp)
      rw [List.map_cons, List.sum_cons, List.length_cons, Nat.mul_succ]; omega
  have s1 := sm S fun p hp => (hc p hp).1
  rw [e2, show (⟨#[10]⟩ : Str).length = 1 from rfl, List.length_map]
  have : (k + 1) * S.length = k * S.length + S.length := Nat.succ_mul _ _
  omega
theorem asI_1 (a : Nat) : Rs.bind (b2 pAdd (.ok (.int (a : Int))) (.ok (.int 1))) asI = .ok (some ((a : Int) + 1)) := rfl
theorem asI_2 (a : Nat) : Rs.bind (b2 pAdd (.ok (.int (a : Int))) (.ok (.int 2))) asI = .ok (some ((a : Int) + 2)) := rfl
theorem asI_n (a : Nat) : Rs.bind (.ok (.int (a : Int))) asI = .ok (some (a : Int)) := rfl
theorem texts_all {words text : D} {X : List (List Nat)} (hX : ∀ x ∈ X, x.length ≤ 1000 ∧ Ch x) (h : b_law_k3 words text () = .ok (.ret (.bool true))) : b_law_k4 words text (X.map fun x => .str (sL x)) = .ok (.ret (.bool true)) := by
  unfold b_law_k4
  refine (forAll (l := X) (hh := fun x => .str (sL x)) (c := fun x => .str (sL x)) rfl (fun _ _ => rfl) fun x hx => agree (hX x hx).1 (hX x hx).2).trans h
theorem k5_ok {words text : D} {S X : List (List Nat)} (hS : ∀ p ∈ S, p.length ≤ 5 ∧ Ch p) (sS : S.length ≤ 20) {j : Nat} (hj : j < S.length) (hX : ∀ x ∈ X, x.length ≤ 1000 ∧ Ch x) (sX : X.length ≤ 100) (h : b_law_k3 words text () = .ok (.ret (.bool true))) :
    b_law_k5 words text (dLn S) (.int (j : Int)) (X.map fun x => .str (sL x)) = .ok (.ret (.bool true)) := by
  unfold b_law_k5
  have lS : LN 5 20 (.ok (dLn S)) := ln_s sS hS
  have lS6 : LN 6 20 (.ok (dLn S)) := ln_s sS fun p hp => ⟨by have := (hS p hp).1; omega, (hS p hp).2⟩
  have e2 := asI_2 j
  have e1 := asI_1 j
  have e0 := asI_n j
  obtain ⟨T, eT, sT, hT⟩ := ln_add (ln_add (ln_sl lS (lo := none) rfl e0) (ln_rev (ln_sl lS e0 e2)) (by decide)) (ln_sl lS (hi := none) e2 rfl) (by decide)
  refine (bindK eT).trans ?_
  obtain ⟨x, ex, sx, hx⟩ := tx_join (ln_s sT hT) (by decide)
  refine (bindK ex).trans ?_
  rw [capL_ok (by rw [List.length_map]; omega)]
  have ix : b2 pIx (.ok (dLn S)) (.ok (.int (j : Int))) = .ok (.str (sL S[j])) := by
    have := pIx_l (S.map fun p => PyData.str (sL p)) j (by rw [List.length_map]; exact hj)
    rw [List.getElem_map] at this
    exact congrArg Rs.nox this
  have hp := hS S[j] (List.getElem_mem hj)
  have k4 : ∀ Y : List (List Nat), (∀ y ∈ Y, y.length ≤ 1000 ∧ Ch y) → b_law_k4 words text ((X.map fun x => PyData.str (sL x)) ++ Y.map fun x => .str (sL x)) = .ok (.ret (.bool true)) := fun Y hY => by
    rw [← List.map_append]
    exact texts_all (fun y hy => (List.mem_append.mp hy).elim (hX y) (hY y)) h
  have cond : Rs.andB (c2 pNe (b2 pIx (.ok (dLn S)) (.ok (.int (j : Int)))) (.ok (.str ""))) (c2 pLt (cb pLen (consM (b2 pIx (.ok (dLn S)) (.ok (.int (j : Int)))) (.ok []))) (.ok (.int 5))) = .ok (!decide (S[j] = []) && decide (S[j].length < 5)) := by
    rw [ix]
    refine andK ?_ ?_
    · rw [emp_s, ine_ss _ _ ⟨hp.2, ch_nil⟩]
    · rw [c1K rfl (pLen_s (by omega)), clt_n _ 5 5 rfl]
  have lp : ∀ (a : D) (Y : List D), (List.length (X.map (fun x => PyData.str (sL x)) ++ Y)) = X.length + Y.length := fun _ Y => by rw [List.length_append, List.length_map]
  have two : ∀ y ∈ [x], y.length ≤ 1000 ∧ Ch y := fun y hy => by rw [List.mem_singleton] at hy; rw [hy]; exact ⟨by omega, hx⟩
  cases hb : (!decide (S[j] = []) && decide (S[j].length < 5)) with
  | false =>
    refine (ifF (x := (X.map fun x => PyData.str (sL x)) ++ [.str (sL x)]) (cond.trans (congrArg Rs.ok hb)) rfl).trans ?_
    exact k4 [x] two
  | true =>
    rw [Bool.and_eq_true, decide_eq_true_eq] at hb
    have four : lcV some (Rs.bind (.ok (.str "abcd")) itemsOf) (fun (c : D) => (.ok true)) (fun (c : D) => b_law_c1 (dLn S) (.int (j : Int)) c) = .ok (dLn (letters4.map fun i => S[j] ++ [ltr i])) := by
      have e := lcMap (l := letters4) (hh := dL) (f := fun c => b_law_c1 (dLn S) (.int (j : Int)) c) (g := fun i => .str (sL (S[j] ++ [ltr i]))) it_abcd (fun i _ => by
        unfold b_law_c1
        rw [ix]
        unfold dL
        rw [b2_ok, pAdd_s (by show _ + 1 ≤ _; omega)]; rfl)
      rw [e]
      unfold dLn
      rw [List.map_map]; rfl
    have lF : LN 6 4 (.ok (dLn (letters4.map fun i => S[j] ++ [ltr i]))) := ln_s (by rw [List.length_map]; decide) fun p hp' => by
      obtain ⟨i, _, rfl⟩ := List.mem_map.mp hp'
      exact ⟨by rw [List.length_append]; show _ + 1 ≤ _; omega, hp.2.app fun c hc => by rw [List.mem_singleton] at hc; unfold ltr at hc; omega⟩
    obtain ⟨T2, eT2, sT2, hT2⟩ := ln_add (ln_add (ln_sl lS6 (lo := none) rfl e0) lF (by decide)) (ln_sl lS6 (hi := none) e1 rfl) (by decide)
    obtain ⟨y, ey, sy, hy⟩ := tx_join (ln_s sT2 hT2) (by decide)
    obtain ⟨T3, eT3, sT3, hT3⟩ := ln_add (ln_add (ln_sl lS6 (lo := none) rfl e0) (ln_sl (mh := Rs.bind (.ok (.int 3)) asI) lF (lo := none) (hi := some 3) rfl rfl) (by decide)) (ln_sl lS6 (hi := none) e1 rfl) (by decide)
    obtain ⟨u, eu, su, hu⟩ := tx_join (ln_s sT3 hT3) (by decide)
    refine (ifT (x := (((X.map fun x => PyData.str (sL x)) ++ [.str (sL x)]) ++ [.str (sL y)]) ++ [.str (sL u)]) (cond.trans (congrArg Rs.ok (by rw [Bool.and_eq_true, decide_eq_true_eq]; exact hb))) ?_).trans ?_
    · refine (bindK four).trans ?_
      rw [eT2]
      refine (bindK ey).trans ?_
      rw [capL_ok (by rw [List.length_append, List.length_map, List.length_singleton]; omega), eT3]
      refine (bindK eu).trans ?_
      rw [capL_ok (by rw [List.length_append, List.length_append, List.length_map, List.length_singleton, List.length_singleton]; omega)]
    · rw [List.append_assoc, List.append_assoc]
      refine k4 [x, y, u] fun v hv => ?_
      simp only [List.mem_cons, List.not_mem_nil, or_false] at hv
      rcases hv with rfl | rfl | rfl
      · exact ⟨by omega, hx⟩
      · exact ⟨by omega, hy⟩
      · exact ⟨by omega, hu⟩
theorem drawn_at {ns : List Int} (hl : ns.length ≤ 63) (k many : Nat) {m : Rs D} (h : m = .ok (.int (many : Int))) (h0 : 0 < many) : Rs.bind (consM (.ok (dS ns)) (consM (.ok (.int (k : Int))) (consM m (.ok [])))) m_law_drawn = .ok (.int (drawnN ns k many : Nat)) := drw k many rfl h rfl rfl hl h0
theorem news {m1 : Rs D} {ms : Rs (List D)} {X Y : List (List Nat)} {kk : List D → Rs (Out Unit)} (h1 : m1 = .ok (.list (X.map fun x => .str (sL x)))) (h2 : ms = .ok (Y.map fun x => .str (sL x))) (hz : X.length + Y.length ≤ 1000) : newCatS m1 (lstV ms) kk = kk ((X ++ Y).map fun x => .str (sL x)) := by
  rw [h1, h2, lstV_ok]
  show (if (X.map fun x => PyData.str (sL x)).length + (Y.map fun x => PyData.str (sL x)).length ≤ sizeLine then kk _ else .stuck) = _
  rw [if_pos (by rw [List.length_map, List.length_map, sizeLine_eq]; omega), ← List.map_append]
theorem k6_ok {ns : List Int} (hl : ns.length ≤ 63) {words : D} {T : List Wd} (hT : ∀ w ∈ T, w.length ≤ 5) (sT : T.length ≤ 9) {X : List (List Nat)} (hX : ∀ x ∈ X, x.length ≤ 1000 ∧ Ch x) (sX : X.length ≤ 50) (h : b_law_k3 words (.str (sL (textW T))) () = .ok (.ret (.bool true))) :
    b_law_k6 (dS ns) words (.str (sL (textW T))) (X.map fun x => .str (sL x)) = .ok (.ret (.bool true)) := by
  unfold b_law_k6
  have tl := text_len hT
  have hS : ∀ p ∈ T.map lineW ++ [[]], p.length ≤ 5 ∧ Ch p := fun p hp => by
    rcases (List.mem_append.mp hp) with q | q
    · obtain ⟨w, hw, rfl⟩ := List.mem_map.mp q
      exact ⟨line_len (hT w hw), ch_line w⟩
    · rw [List.mem_singleton] at q
      rw [q]; exact ⟨by decide, ch_nil⟩
  have sS : (T.map lineW ++ [[]]).length = T.length + 1 := by rw [List.length_append, List.length_map]; rfl
  refine (bindK (split_ln (by omega) (text_split T))).trans ?_
  generalize hSS : T.map lineW ++ [[]] = S at hS sS
  have ln : cb pLen (consM (.ok (dLn S)) (.ok [])) = .ok (.int (S.length : Nat)) := c1K rfl (by show Rs.ok (PyData.int ((S.map fun p => PyData.str (sL p)).length : Nat)) = _; rw [List.length_map])
  refine (bindK (drawn_at hl 82 S.length ln (by omega))).trans ?_
  have hj := drawnN_lt ns 82 (many := S.length) (by omega)
  generalize drawnN ns 82 S.length = j at hj
  have lS : LN 5 10 (.ok (dLn S)) := ln_s (by omega) hS
  have e1 := asI_1 j
  have e0 := asI_n j
  obtain ⟨Y, eY, sY, hY⟩ := txs_cons (tx_join (ln_add (ln_sl lS (lo := none) rfl e0) (ln_sl lS (hi := none) e1 rfl) (by decide)) (by decide)) (by decide) (txs_cons (tx_join (ln_add (ln_sl lS (lo := none) rfl e1) (ln_sl lS (hi := none) e0 rfl) (by decide)) (by decide)) (by decide) txs_nil)
  refine (news rfl eY (by omega)).trans ?_
  exact k5_ok hS (by omega) hj (fun x hx => (List.mem_append.mp hx).elim (hX x) (hY x)) (by rw [List.length_append]; omega) h
theorem tx_lit {s : Str} {x : List Nat} {n : Nat} (h : s = sL x) (hx : x.length ≤ n) (hc : ∀ c ∈ x, c < 1114112) : TX n (.ok (.str s)) := ⟨x, by rw [h], hx, hc⟩
theorem law_true (ns : List Int) (hl : ns.length ≤ 63) : m_law [.list (ns.map .int)] = .ok (.bool true) := by
  show (b_law (dS ns)).fin = _
  refine finK ?_
  unfold b_law
  have wo := wordsZ_ok ns 0 6
  refine (bindK (a := dWs (wordsZ ns 0 6)) (by simp only [q_cons, q_bind]; exact e_words ns 0 6 hl (by decide))).trans ?_
  generalize wordsZ ns 0 6 = l at wo
  have hw : WL l := ⟨by omega, wo.2⟩
  have lA : (canon (cvB l)).length ≤ 9 := Nat.le_trans (canon_le hw.2) wo.1
  have w5 : ∀ w ∈ canon (cvB l), w.length ≤ 5 := fun w h => canon_len h
  refine (bindK (a := .str (sL (textW (canon (cvB l))))) (by rw [a1 (f := m_words_text) rfl]; exact e_words_text hw)).trans ?_
  have fw : Rs.bind (consM (.ok (dWs l)) (.ok [])) m_fewest = .ok (dWs (canon (cvB l))) := fewW hw
  have cc : canon (cvB (canon (cvB l))) = canon (cvB l) := cv_canon
  generalize canon (cvB l) = T at lA w5 fw cc
  have tl := text_len w5
  have wT : WL T := ⟨by omega, w5⟩
  have fin : b_law_k3 (dWs l) (.str (sL (textW T))) () = .ok (.ret (.bool true)) := by
    unfold b_law_k3
    refine retK ?_
    rw [fw, a1 (f := m_law_due) rfl, (e_due (x := textW T) (by omega) (ch_text T)).1 T wT cc rfl]
    exact eq_same (shaped_dWs _)
  have ct := ch_text T
  have k6 := fun X hX sX => k6_ok (words := dWs l) hl w5 lA (X := X) hX sX fin
  generalize textW T = x at tl ct k6
  have x54 : x.length ≤ 54 := by omega
  have ln : b2 pAdd (cb pLen (consM (.ok (.str (sL x))) (.ok []))) (.ok (.int 1)) = .ok (.int ((x.length + 1 : Nat) : Int)) := by
    rw [c1K rfl (pLen_s (by omega))]; rfl
  refine (bindK (drawn_at hl 80 (x.length + 1) ln (by omega))).trans ?_
  generalize drawnN ns 80 (x.length + 1) = a
  have hs := drawnN_lt ns 81 (many := 8) (by decide)
  have sg : b2 pIx (.ok (.str "abd-e \nA")) (Rs.bind (consM (.ok (dS ns)) (consM (.ok (.int 81)) (consM (.ok (.int 8)) (.ok [])))) m_law_drawn) = .ok (.str (sL [[97, 98, 100, 45, 101, 32, 10, 65].getD (drawnN ns 81 8) 0])) := by
    rw [show Rs.bind (consM (.ok (dS ns)) (consM (.ok (.int 81)) (consM (.ok (.int 8)) (.ok [])))) m_law_drawn = .ok (.int (drawnN ns 81 8 : Nat)) from drawn_at hl 81 8 rfl (by decide)]
    generalize drawnN ns 81 8 = i at hs
    rw [show ("abd-e \nA" : Str) = sL [97, 98, 100, 45, 101, 32, 10, 65] by decide +kernel, b2_ok]
    rw [pIx_s (a := [97, 98, 100, 45, 101, 32, 10, 65]) (c := [97, 98, 100, 45, 101, 32, 10, 65].getD i 0) (by decide) ?_]; rfl
    rw [atI_nat _ _ (by simpa using hs), List.getElem?_eq_getElem (by simpa using hs), List.getD_eq_getElem?_getD, List.getElem?_eq_getElem (by simpa using hs)]; rfl
  refine (bindK sg).trans ?_
  have ss : TX 1 (.ok (.str (sL [[97, 98, 100, 45, 101, 32, 10, 65].getD (drawnN ns 81 8) 0]))) := tx_s (Nat.le_refl 1) fun c hc => by
    rw [List.mem_singleton] at hc
    subst hc
    generalize drawnN ns 81 8 = i at hs
    have : ∀ i < 8, [97, 98, 100, 45, 101, 32, 10, 65].getD i 0 < 1114112 := by decide
    exact this i hs
  generalize sL [[97, 98, 100, 45, 101, 32, 10, 65].getD (drawnN ns 81 8) 0] = sgn at ss
  have tx : TX 54 (.ok (.str (sL x))) := tx_s x54 ct
  have e1 := asI_1 a
  have e0 := asI_n a
  have up0 := tx_sl tx (lo := none) rfl e0 (by decide)
  have up1 := tx_sl tx (lo := none) rfl e1 (by decide)
  have fr0 := tx_sl tx (hi := none) e0 rfl (by decide)
  have fr1 := tx_sl tx (hi := none) e1 rfl (by decide)
  obtain ⟨X1, eX1, sX1, hX1⟩ := txs_cons tx (by decide) (txs_cons (tx_add up0 fr1 (by decide)) (by decide) (txs_cons (tx_add up1 fr0 (by decide)) (by decide) (txs_cons (tx_add (tx_add up0 ss (by decide)) fr1 (by decide)) (by decide) txs_nil)))
  refine (bindK eX1).trans ?_
  obtain ⟨X2, eX2, sX2, hX2⟩ := txs_cons (tx_add (tx_add up0 ss (by decide)) fr0 (by decide)) (by decide) (txs_cons (n := 0) (tx_lit (s := "") (x := []) (by decide +kernel) (by decide) (by decide)) (by decide) (txs_cons (n := 1) (tx_lit (s := "\n") (x := [10]) (by decide +kernel) (by decide) (by decide)) (by decide)
    (txs_cons (n := 1) (tx_lit (s := "-") (x := [45]) (by decide +kernel) (by decide) (by decide)) (by decide) (txs_cons (n := 2) (tx_lit (s := "-\n") (x := [45, 10]) (by decide +kernel) (by decide) (by decide)) (by decide) (txs_cons (n := 8) (tx_lit (s := "a\nb\nc\nd\n") (x := [97, 10, 98, 10, 99, 10, 100, 10]) (by decide +kernel) (by decide) (by decide)) (by decide)
      (txs_cons (n := 2) (tx_lit (s := "a\n") (x := [97, 10]) (by decide +kernel) (by decide) (by decide)) (by decide) (txs_cons (tx_sl tx (lo := none) rfl neg1 (by decide)) (by decide) (txs_cons (tx_mul2 x54 ct (by decide)) (by decide) txs_nil))))))))
  refine (news rfl eX2 (by omega)).trans ?_
  exact k6 _ (fun y hy => (List.mem_append.mp hy).elim (hX1 y) (hX2 y)) (by rw [List.length_append]; omega)
end Pu

namespace Pu
open PySem PySem.Spec
open PyProof.Rows L2
theorem all_mk {l : PySem.W.OpenLaw} {w : World} {K : PySem.W.Frag} {h : Heap} {mg : Str → Option Value} {fa f8 f11 f12 f13 f14 f16 f17 f19 f20 f21 f27 f30 f31 f32 C_WordError C_NoWord C_NoLength C_NoText : Addr} (X : K.In h) (G : h.Ns mainGlobals mg) (hfa : mg "law" = some (.ref fa))
    {od8 an8 od11 an11 od12 an12 od13 an13 od14 an14 od16 an16 od17 an17 od19 an19 od20 an20 od21 an21 od27 an27 od30 an30 od31 an31 od32 an32 : Option Addr} {sl8 sl11 sl12 sl13 sl14 sl16 sl17 sl19 sl20 sl21 sl27 sl30 sl31 sl32 : Array (Option Value)} {oc8 kV8 dc8 pm8 cd8 ct8 oc11 kV11 dc11 pm11 cd11 ct11 oc12 kV12 dc12 pm12 cd12 ct12 oc13 kV13 dc13 pm13 cd13 ct13 oc14 kV14 dc14 pm14 cd14 ct14 oc16 kV16 dc16 pm16 cd16 ct16 oc17 kV17 dc17 pm17 cd17 ct17 oc19 kV19 dc19 pm19 cd19 ct19 oc20 kV20 dc20 pm20 cd20 ct20 oc21 kV21 dc21 pm21 cd21 ct21 oc27 kV27 dc27 pm27 cd27 ct27 oc30 kV30 dc30 pm30 cd30 ct30 oc31 kV31 dc31 pm31 cd31 ct31 oc32 kV32 dc32 pm32 cd32 ct32 : Value}
    (a8 : PySem.W.nsIn K mainGlobals "is_word" = some (some (.ref f8))) (l8 : K.lookup f8 = some ⟨oc8, od8, .func (PySem.W.fnOf "is_word" "is_word" (defArgs (top 8)) (defBody (top 8)) (defScope (top 8)) .none kV8 dc8 pm8 an8 cd8 ct8), sl8⟩) (c8 : PySem.W.codeIn K cd8 "is_word" = true) (k8 : PySem.W.keepIn K (.ref f8) = true)
    (a11 : PySem.W.nsIn K mainGlobals "are_words" = some (some (.ref f11))) (l11 : K.lookup f11 = some ⟨oc11, od11, .func (PySem.W.fnOf "are_words" "are_words" (defArgs (top 11)) (defBody (top 11)) (defScope (top 11)) .none kV11 dc11 pm11 an11 cd11 ct11), sl11⟩) (c11 : PySem.W.codeIn K cd11 "are_words" = true) (k11 : PySem.W.keepIn K (.ref f11) = true)
    (a12 : PySem.W.nsIn K mainGlobals "need_words" = some (some (.ref f12))) (l12 : K.lookup f12 = some ⟨oc12, od12, .func (PySem.W.fnOf "need_words" "need_words" (defArgs (top 12)) (defBody (top 12)) (defScope (top 12)) .none kV12 dc12 pm12 an12 cd12 ct12), sl12⟩) (c12 : PySem.W.codeIn K cd12 "need_words" = true) (k12 : PySem.W.keepIn K (.ref f12) = true)
    (a13 : PySem.W.nsIn K mainGlobals "joined" = some (some (.ref f13))) (l13 : K.lookup f13 = some ⟨oc13, od13, .func (PySem.W.fnOf "joined" "joined" (defArgs (top 13)) (defBody (top 13)) (defScope (top 13)) .none kV13 dc13 pm13 an13 cd13 ct13), sl13⟩) (c13 : PySem.W.codeIn K cd13 "joined" = true) (k13 : PySem.W.keepIn K (.ref f13) = true)
    (a14 : PySem.W.nsIn K mainGlobals "fewest" = some (some (.ref f14))) (l14 : K.lookup f14 = some ⟨oc14, od14, .func (PySem.W.fnOf "fewest" "fewest" (defArgs (top 14)) (defBody (top 14)) (defScope (top 14)) .none kV14 dc14 pm14 an14 cd14 ct14), sl14⟩) (c14 : PySem.W.codeIn K cd14 "fewest" = true) (k14 : PySem.W.keepIn K (.ref f14) = true)
    (a16 : PySem.W.nsIn K mainGlobals "words_text" = some (some (.ref f16))) (l16 : K.lookup f16 = some ⟨oc16, od16, .func (PySem.W.fnOf "words_text" "words_text" (defArgs (top 16)) (defBody (top 16)) (defScope (top 16)) .none kV16 dc16 pm16 an16 cd16 ct16), sl16⟩) (c16 : PySem.W.codeIn K cd16 "words_text" = true) (k16 : PySem.W.keepIn K (.ref f16) = true)
    (a17 : PySem.W.nsIn K mainGlobals "read_words" = some (some (.ref f17))) (l17 : K.lookup f17 = some ⟨oc17, od17, .func (PySem.W.fnOf "read_words" "read_words" (defArgs (top 17)) (defBody (top 17)) (defScope (top 17)) .none kV17 dc17 pm17 an17 cd17 ct17), sl17⟩) (c17 : PySem.W.codeIn K cd17 "read_words" = true) (k17 : PySem.W.keepIn K (.ref f17) = true)
    (a19 : PySem.W.nsIn K mainGlobals "_law_cell" = some (some (.ref f19))) (l19 : K.lookup f19 = some ⟨oc19, od19, .func (PySem.W.fnOf "_law_cell" "_law_cell" (defArgs (top 19)) (defBody (top 19)) (defScope (top 19)) .none kV19 dc19 pm19 an19 cd19 ct19), sl19⟩) (c19 : PySem.W.codeIn K cd19 "_law_cell" = true) (k19 : PySem.W.keepIn K (.ref f19) = true)
    (a20 : PySem.W.nsIn K mainGlobals "_law_drawn" = some (some (.ref f20))) (l20 : K.lookup f20 = some ⟨oc20, od20, .func (PySem.W.fnOf "_law_drawn" "_law_drawn" (defArgs (top 20)) (defBody (top 20)) (defScope (top 20)) .none kV20 dc20 pm20 an20 cd20 ct20), sl20⟩) (c20 : PySem.W.codeIn K cd20 "_law_drawn" = true) (k20 : PySem.W.keepIn K (.ref f20) = true)
    (a21 : PySem.W.nsIn K mainGlobals "_law_word" = some (some (.ref f21))) (l21 : K.lookup f21 = some ⟨oc21, od21, .func (PySem.W.fnOf "_law_word" "_law_word" (defArgs (top 21)) (defBody (top 21)) (defScope (top 21)) .none kV21 dc21 pm21 an21 cd21 ct21), sl21⟩) (c21 : PySem.W.codeIn K cd21 "_law_word" = true) (k21 : PySem.W.keepIn K (.ref f21) = true)
    (a27 : PySem.W.nsIn K mainGlobals "_law_words" = some (some (.ref f27))) (l27 : K.lookup f27 = some ⟨oc27, od27, .func (PySem.W.fnOf "_law_words" "_law_words" (defArgs (top 27)) (defBody (top 27)) (defScope (top 27)) .none kV27 dc27 pm27 an27 cd27 ct27), sl27⟩) (c27 : PySem.W.codeIn K cd27 "_law_words" = true) (k27 : PySem.W.keepIn K (.ref f27) = true)
    (a30 : PySem.W.nsIn K mainGlobals "_law_told" = some (some (.ref f30))) (l30 : K.lookup f30 = some ⟨oc30, od30, .func (PySem.W.fnOf "_law_told" "_law_told" (defArgs (top 30)) (defBody (top 30)) (defScope (top 30)) .none kV30 dc30 pm30 an30 cd30 ct30), sl30⟩) (c30 : PySem.W.codeIn K cd30 "_law_told" = true) (k30 : PySem.W.keepIn K (.ref f30) = true)
    (a31 : PySem.W.nsIn K mainGlobals "_law_due" = some (some (.ref f31))) (l31 : K.lookup f31 = some ⟨oc31, od31, .func (PySem.W.fnOf "_law_due" "_law_due" (defArgs (top 31)) (defBody (top 31)) (defScope (top 31)) .none kV31 dc31 pm31 an31 cd31 ct31), sl31⟩) (c31 : PySem.W.codeIn K cd31 "_law_due" = true) (k31 : PySem.W.keepIn K (.ref f31) = true)
    (a32 : PySem.W.nsIn K mainGlobals "law" = some (some (.ref f32))) (l32 : K.lookup f32 = some ⟨oc32, od32, .func (PySem.W.fnOf "law" "law" (defArgs (top 32)) (defBody (top 32)) (defScope (top 32)) .none kV32 dc32 pm32 an32 cd32 ct32), sl32⟩) (c32 : PySem.W.codeIn K cd32 "law" = true) (k32 : PySem.W.keepIn K (.ref f32) = true)
    {t_LETTERS t_LONG t_MOST : Tok}
    (v_LETTERS : PySem.W.nsIn K mainGlobals "LETTERS" = some (some (.str "abcd" t_LETTERS)))
    (v_LONG : PySem.W.nsIn K mainGlobals "LONG" = some (some (.int 5 t_LONG)))
    (v_MOST : PySem.W.nsIn K mainGlobals "MOST" = some (some (.int 1024 t_MOST)))
    (x_WordError : PySem.W.nsIn K mainGlobals "WordError" = some (some (.ref C_WordError)))
    (x_NoWord : PySem.W.nsIn K mainGlobals "NoWord" = some (some (.ref C_NoWord)))
    (x_NoLength : PySem.W.nsIn K mainGlobals "NoLength" = some (some (.ref C_NoLength)))
    (x_NoText : PySem.W.nsIn K mainGlobals "NoText" = some (some (.ref C_NoText)))
    (xt : exTab K C_WordError [("NoWord", C_NoWord), ("NoLength", C_NoLength), ("NoText", C_NoText)] = true) (nbt : (bNames.all fun x => PySem.W.nsIn K mainGlobals x == some none) = true) (nl : noLst K = true)
    (law : ∀ ns : List Int, ns.length ≤ 63 → m_law [.list (ns.map .int)] = .ok (.bool true)) :
    ∃ fd : FuncData, (∀ (s : Shared) (v : Value), BindsTo s fd ⟨[v], []⟩ [("_law_script", v)]) ∧ ∀ base : Heap, K.In base → base.Ns mainGlobals mg → FnOk l.prog w K mg base (L2N.CX l.prog w) 7 fa fd ["_law_script"] (spL K) := by
  have e := hfa.symm.trans (PySem.W.mg_of X G a32)
  cases e
  refine ⟨PySem.W.fnOf "law" "law" (defArgs (top 32)) (defBody (top 32)) (defScope (top 32)) .none kV32 dc32 pm32 an32 cd32 ct32, fun s v => .of_eq rfl, fun base _ _ => ?_⟩
  have nb : NoB ⟨l.prog, w, K, mg, base⟩ := nob_of X G nbt
  have g : Gs ⟨l.prog, w, K, mg, base⟩ := ⟨gc_str (PySem.W.mg_of X G v_LETTERS), gc_int (PySem.W.mg_of X G v_LONG), gc_int (PySem.W.mg_of X G v_MOST)⟩
  have T : ExT K mg exNs := exT_of (ns := [("NoWord", C_NoWord), ("NoLength", C_NoLength), ("NoText", C_NoText)]) (PySem.W.mg_of X G x_WordError) (fun p hp => by simp only [List.mem_cons, List.not_mem_nil, or_false] at hp; rcases hp with rfl | rfl | rfl <;> first | exact PySem.W.mg_of X G x_NoWord | exact PySem.W.mg_of X G x_NoLength | exact PySem.W.mg_of X G x_NoText) xt
  have c_is_word := ok_is_word (U := ⟨l.prog, w, K, mg, base⟩) nb g (fun_mk (st := top 8) l8 c8 k8) (PySem.W.mg_of X G a8)
  have c_are_words := ok_are_words (U := ⟨l.prog, w, K, mg, base⟩) nb g (fun_mk (st := top 11) l11 c11 k11) (PySem.W.mg_of X G a11) c_is_word
  have c_need_words := ok_need_words (U := ⟨l.prog, w, K, mg, base⟩) nb g (fun_mk (st := top 12) l12 c12 k12) (PySem.W.mg_of X G a12) c_are_words T
  have c_joined := ok_joined (U := ⟨l.prog, w, K, mg, base⟩) nb g (fun_mk (st := top 13) l13 c13 k13) (PySem.W.mg_of X G a13)
  have c_fewest := ok_fewest (U := ⟨l.prog, w, K, mg, base⟩) nb g (fun_mk (st := top 14) l14 c14 k14) (PySem.W.mg_of X G a14) c_need_words c_joined
  have c_words_text := ok_words_text (U := ⟨l.prog, w, K, mg, base⟩) nb g (fun_mk (st := top 16) l16 c16 k16) (PySem.W.mg_of X G a16) c_need_words c_joined
  have c_read_words := ok_read_words (U := ⟨l.prog, w, K, mg, base⟩) nb g (fun_mk (st := top 17) l17 c17 k17) (PySem.W.mg_of X G a17) c_words_text c_are_words T
  have c_law_cell := ok_law_cell (U := ⟨l.prog, w, K, mg, base⟩) nb g (fun_mk (st := top 19) l19 c19 k19) (PySem.W.mg_of X G a19)
  have c_law_drawn := ok_law_drawn (U := ⟨l.prog, w, K, mg, base⟩) nb g (fun_mk (st := top 20) l20 c20 k20) (PySem.W.mg_of X G a20) c_law_cell
  have c_law_word := ok_law_word (U := ⟨l.prog, w, K, mg, base⟩) nb g (fun_mk (st := top 21) l21 c21 k21) (PySem.W.mg_of X G a21) c_law_drawn
  have c_law_words := ok_law_words (U := ⟨l.prog, w, K, mg, base⟩) nb g (fun_mk (st := top 27) l27 c27 k27) (PySem.W.mg_of X G a27) c_law_drawn c_law_word
  have c_law_told := ok_law_told (U := ⟨l.prog, w, K, mg, base⟩) nb g (fun_mk (st := top 30) l30 c30 k30) (PySem.W.mg_of X G a30) c_read_words T
  have c_law_due := ok_law_due (U := ⟨l.prog, w, K, mg, base⟩) nb g (fun_mk (st := top 31) l31 c31 k31) (PySem.W.mg_of X G a31) c_is_word c_fewest
  exact law_ok (ok_law (U := ⟨l.prog, w, K, mg, base⟩) nb g (fun_mk (st := top 32) l32 c32 k32) c_law_words c_words_text c_law_drawn c_law_told c_law_due c_fewest) rfl nl law
end Pu
open PySem PySem.W
open PyProof.Rows
set_option maxHeartbeats 0 in
theorem PySem.Challenge.cw_cellwords_k61_whole_read_holds : PySem.Challenge.rw_cellwords_k61_whole_read.Holds := by
  w_on; o_law
  k_head; (case hw => w_witness2)
  k_fill
  refine Pu.walkL (l := PySem.Challenge.rw_cellwords_k61_whole_read) (k := 7) (x := "_law_script") rfl rfl ⟨rfl, by decide, by decide⟩ (fun w h Y => PySem.W.kIn_of Y) ?F
  case F =>
    intro w mg fa h KX G hmg
    refine' Pu.all_mk KX G hmg ?a8 ?l8 ?c8 ?k8 ?a11 ?l11 ?c11 ?k11 ?a12 ?l12 ?c12 ?k12 ?a13 ?l13 ?c13 ?k13 ?a14 ?l14 ?c14 ?k14 ?a16 ?l16 ?c16 ?k16 ?a17 ?l17 ?c17 ?k17 ?a19 ?l19 ?c19 ?k19 ?a20 ?l20 ?c20 ?k20 ?a21 ?l21 ?c21 ?k21 ?a27 ?l27 ?c27 ?k27 ?a30 ?l30 ?c30 ?k30 ?a31 ?l31 ?c31 ?k31 ?a32 ?l32 ?c32 ?k32 ?v_LETTERS ?v_LONG ?v_MOST ?x_WordError ?x_NoWord ?x_NoLength ?x_NoText ?xt ?nbt ?nl ?law
    (case a8 => k_is)
    (case l8 => k_is)
    (case c8 => k_is)
    (case k8 => k_is)
    (case a11 => k_is)
    (case l11 => k_is)
    (case c11 => k_is)
    (case k11 => k_is)
    (case a12 => k_is)
    (case l12 => k_is)
    (case c12 => k_is)
    (case k12 => k_is)
    (case a13 => k_is)
    (case l13 => k_is)
    (case c13 => k_is)
    (case k13 => k_is)
    (case a14 => k_is)
    (case l14 => k_is)
    (case c14 => k_is)
    (case k14 => k_is)
    (case a16 => k_is)
    (case l16 => k_is)
    (case c16 => k_is)
    (case k16 => k_is)
    (case a17 => k_is)
    (case l17 => k_is)
    (case c17 => k_is)
    (case k17 => k_is)
    (case a19 => k_is)
    (case l19 => k_is)
    (case c19 => k_is)
    (case k19 => k_is)
    (case a20 => k_is)
    (case l20 => k_is)
    (case c20 => k_is)
    (case k20 => k_is)
    (case a21 => k_is)
    (case l21 => k_is)
    (case c21 => k_is)
    (case k21 => k_is)
    (case a27 => k_is)
    (case l27 => k_is)
    (case c27 => k_is)
    (case k27 => k_is)
    (case a30 => k_is)
    (case l30 => k_is)
    (case c30 => k_is)
    (case k30 => k_is)
    (case a31 => k_is)
    (case l31 => k_is)
    (case c31 => k_is)
    (case k31 => k_is)
    (case a32 => k_is)
    (case l32 => k_is)
    (case c32 => k_is)
    (case k32 => k_is)
    (case v_LETTERS => k_is)
    (case v_LONG => k_is)
    (case v_MOST => k_is)
    (case x_WordError => k_is)
    (case x_NoWord => k_is)
    (case x_NoLength => k_is)
    (case x_NoText => k_is)
    (case xt => kernel_rfl)
    (case nbt => kernel_rfl)
    (case nl => kernel_rfl)
    (case law => exact Pu.law_true)
