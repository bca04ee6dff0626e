import PyProof.Rows.All
import Wide.All
import OpenK.AllK
import Wide.FinOn
import HandS.ForMost
import HandS.Deep
import HandS.SortInts
import HandS.IsInst
import KE.DataCmp
import KE.SortData
import KE.KStrBytes
import HandS.HeadEnd
import HandS.HeadHook1
import HandS.HeadHook2
import HandS.Head0
import HandS.Head1
import HandS.Head2
import HandS.Defaults
import PySem.Challenge.RW_giftskept_k50_whole_trace_is_the_only_on
set_option Elab.async false
set_option linter.all false
set_option maxRecDepth 100000
set_option maxHeartbeats 4000000
/-! Ev1: plain data, what a value stands for, views of the heap, the small syntax and its meaning. -/
namespace Ev
open PySem PySem.Spec PyProof.Rows L2

/-! ### data -/
inductive D where
  | non | bl (b : Bool) | int (i : Int) | str (x : Str)
  | tup (ds : List D) | lst (ds : List D)
  | dK (ks : List Key) (vs : List D) | dT (ks : List (List Key)) (vs : List D)
  | ref (a : Addr)

mutual
/-- no list, no dict within -/
def D.imm : D → Bool
  | .non => true | .bl _ => true | .int _ => true | .str _ => true | .ref _ => true
  | .tup ds => D.imms ds
  | .lst _ => false | .dK _ _ => false | .dT _ _ => false
def D.imms : List D → Bool
  | [] => true
  | d :: ds => D.imm d && D.imms ds
end

mutual
inductive Rep (K : PySem.W.Frag) (H : Hp) : V → D → Prop
  | non : Rep K H .non .non
  | bl (b : Bool) : Rep K H (.bl b) (.bl b)
  | int (i : Int) : Rep K H (.int i) (.int i)
  | str (x : Str) : Rep K H (.str x) (.str x)
  | ref (a : Addr) : Rep K H (.ref a) (.ref a)
  | tup {a : Addr} {vs : List V} {ds : List D} : H a = some (.tup vs) → RepAll K H vs ds → Rep K H (.ref a) (.tup ds)
  | lst {a : Addr} {vs : List V} {ds : List D} : H a = some (.lst vs) → RepAll K H vs ds → Rep K H (.ref a) (.lst ds)
  | dK {a : Addr} {ks : List Key} {vs : List V} {ds : List D} : ks.length = vs.length → Rd H a (.dK (ks.zip vs)) → RepAll K H vs ds → Rep K H (.ref a) (.dK ks ds)
  | dT {a : Addr} {ks : List (List Key)} {vs : List V} {ds : List D} : ks.length = vs.length → Rd H a (.dT (ks.zip vs)) → RepAll K H vs ds → Rep K H (.ref a) (.dT ks ds)
inductive RepAll (K : PySem.W.Frag) (H : Hp) : List V → List D → Prop
  | nil : RepAll K H [] []
  | cons {v : V} {vs : List V} {d : D} {ds : List D} : Rep K H v d → RepAll K H vs ds → RepAll K H (v :: vs) (d :: ds)
end

/-- what may be read stays so -/
structure RLe (H H' : Hp) : Prop where
  rd : ∀ a u, Rd H a u → Rd H' a u
  ls : ∀ a xs, H a = some (.lst xs) → H' a = some (.lst xs)
  tp : ∀ a xs, H a = some (.tup xs) → H' a = some (.tup xs)
theorem RLe.of {H H' : Hp} (e : Same H H') : RLe H H' := ⟨fun a u h => by
  rcases h with h | ⟨o, h⟩
  · exact .inl (e _ _ h)
  · exact .inr ⟨o, e _ _ h⟩, fun a xs h => e _ _ h, fun a xs h => e _ _ h⟩
theorem RLe.refl {H : Hp} : RLe H H := RLe.of fun _ _ h => h
mutual
theorem Rep.mono {K : PySem.W.Frag} {H H' : Hp} (e : RLe H H') : ∀ {v : V} {d : D}, Rep K H v d → Rep K H' v d
  | _, _, .non => .non
  | _, _, .bl b => .bl b
  | _, _, .int i => .int i
  | _, _, .str x => .str x
  | _, _, .ref a => .ref a
  | _, _, .tup h r => .tup (e.tp _ _ h) (RepAll.mono e r)
  | _, _, .lst h r => .lst (e.ls _ _ h) (RepAll.mono e r)
  | _, _, .dK l h r => .dK l (e.rd _ _ h) (RepAll.mono e r)
  | _, _, .dT l h r => .dT l (e.rd _ _ h) (RepAll.mono e r)
theorem RepAll.mono {K : PySem.W.Frag} {H H' : Hp} (e : RLe H H') : ∀ {vs : List V} {ds : List D}, RepAll K H vs ds → RepAll K H' vs ds
  | _, _, .nil => .nil
  | _, _, .cons h r => .cons (Rep.mono e h) (RepAll.mono e r)
end

section
variable {K : PySem.W.Frag} {H H' : Hp} {vs ws : List V} {ds es : List D}
theorem RepAll.length : ∀ {vs : List V} {ds : List D}, RepAll K H vs ds → vs.length = ds.length
  | _, _, .nil => rfl
  | _, _, .cons _ r => by rw [List.length_cons, List.length_cons, RepAll.length r]
theorem RepAll.get : ∀ {vs : List V} {ds : List D} {i : Nat} {d : D}, RepAll K H vs ds → ds[i]? = some d → ∃ v, vs[i]? = some v ∧ Rep K H v d
  | _, _, _, _, .nil, e => by simp at e
  | _, _, 0, _, .cons h _, e => by
    simp only [List.getElem?_cons_zero, Option.some.injEq] at e
    subst e
    exact ⟨_, rfl, h⟩
  | _, _, i + 1, d, .cons _ r, e => by
    obtain ⟨v, h1, h2⟩ := RepAll.get (i := i) (d := d) r (by simpa using e)
    exact ⟨v, by simpa using h1, h2⟩
theorem RepAll.get' : ∀ {vs : List V} {ds : List D} {i : Nat} {v : V}, RepAll K H vs ds → vs[i]? = some v → ∃ d, ds[i]? = some d ∧ Rep K H v d
  | _, _, _, _, .nil, e => by simp at e
  | _, _, 0, _, .cons h _, e => by
    simp only [List.getElem?_cons_zero, Option.some.injEq] at e
    subst e
    exact ⟨_, rfl, h⟩
  | _, _, i + 1, v, .cons _ r, e => by
    obtain ⟨d, h1, h2⟩ := RepAll.get' (i := i) (v := v) r (by simpa using e)
    exact ⟨d, by simpa using h1, h2⟩
theorem RepAll.append : ∀ {vs ws : List V} {ds es : List D}, RepAll K H vs ds → RepAll K H ws es → RepAll K H (vs ++ ws) (ds ++ es)
  | _, _, _, _, .nil, s => s
  | _, _, _, _, .cons h r, s => .cons h (RepAll.append r s)
theorem RepAll.take : ∀ {vs : List V} {ds : List D} (n : Nat), RepAll K H vs ds → RepAll K H (vs.take n) (ds.take n)
  | _, _, 0, _ => .nil
  | _, _, _ + 1, .nil => .nil
  | _, _, n + 1, .cons h r => .cons h (RepAll.take n r)
theorem RepAll.drop : ∀ {vs : List V} {ds : List D} (n : Nat), RepAll K H vs ds → RepAll K H (vs.drop n) (ds.drop n)
  | _, _, 0, r => r
  | _, _, _ + 1, .nil => .nil
  | _, _, n + 1, .cons _ r => RepAll.drop n r
theorem RepAll.set {v : V} {d : D} (h : Rep K H v d) : ∀ {vs : List V} {ds : List D} (i : Nat), RepAll K H vs ds → RepAll K H (vs.set i v) (ds.set i d)
  | _, _, _, .nil => .nil
  | _, _, 0, .cons _ r => .cons h r
  | _, _, i + 1, .cons q r => .cons q (RepAll.set h i r)
theorem RepAll.of_get : ∀ {vs : List V} {ds : List D}, vs.length = ds.length → (∀ (i : Nat) v d, vs[i]? = some v → ds[i]? = some d → Rep K H v d) → RepAll K H vs ds
  | [], [], _, _ => .nil
  | [], _ :: _, h, _ => by simp at h
  | _ :: _, [], h, _ => by simp at h
  | v :: vs, d :: ds, h, f => .cons (f 0 v d rfl rfl) (RepAll.of_get (by simpa using h) fun i v' d' h1 h2 => f (i + 1) v' d' (by simpa using h1) (by simpa using h2))
theorem Rep.val_int {v : V} {i : Int} (h : Rep K H v (.int i)) : v = .int i := by cases h; rfl
theorem Rep.val_str {v : V} {i : Str} (h : Rep K H v (.str i)) : v = .str i := by cases h; rfl
theorem Rep.val_bl {v : V} {i : Bool} (h : Rep K H v (.bl i)) : v = .bl i := by cases h; rfl
theorem Rep.val_non {v : V} (h : Rep K H v .non) : v = .non := by cases h; rfl
theorem RepAll.ints : ∀ {vs : List V} {ns : List Int}, RepAll K H vs (ns.map D.int) → vs = ns.map V.int
  | _, [], .nil => rfl
  | _, n :: ns, .cons h r => by rw [h.val_int, RepAll.ints r]; rfl
theorem RepAll.strs : ∀ {vs : List V} {ns : List Str}, RepAll K H vs (ns.map D.str) → vs = ns.map V.str
  | _, [], .nil => rfl
  | _, n :: ns, .cons h r => by rw [h.val_str, RepAll.strs r]; rfl
theorem RepAll.of_ints : ∀ (ns : List Int), RepAll K H (ns.map V.int) (ns.map D.int)
  | [] => .nil
  | n :: ns => .cons (.int n) (RepAll.of_ints ns)
theorem RepAll.of_strs : ∀ (ns : List Str), RepAll K H (ns.map V.str) (ns.map D.str)
  | [] => .nil
  | n :: ns => .cons (.str n) (RepAll.of_strs ns)
theorem RepAll.one {v : V} {d : D} (h : Rep K H v d) : RepAll K H [v] [d] := .cons h .nil
theorem RepAll.inv1 {vs : List V} {d : D} (h : RepAll K H vs [d]) : ∃ v, vs = [v] ∧ Rep K H v d := by
  cases h with
  | cons h r => cases r; exact ⟨_, rfl, h⟩
theorem RepAll.inv2 {vs : List V} {d e : D} (h : RepAll K H vs [d, e]) : ∃ v w, vs = [v, w] ∧ Rep K H v d ∧ Rep K H w e := by
  cases h with
  | cons h r => obtain ⟨w, rfl, hw⟩ := r.inv1; exact ⟨_, _, rfl, h, hw⟩
theorem RepAll.inv3 {vs : List V} {d e f : D} (h : RepAll K H vs [d, e, f]) : ∃ v w x, vs = [v, w, x] ∧ Rep K H v d ∧ Rep K H w e ∧ Rep K H x f := by
  cases h with
  | cons h r => obtain ⟨w, x, rfl, hw, hx⟩ := r.inv2; exact ⟨_, _, _, rfl, h, hw, hx⟩
end

/-! ### a view: some addresses hidden -/
open Classical in
noncomputable def hide (O : Addr → Prop) (H : Hp) : Hp := fun a => if O a then none else H a
theorem hide_eq {O : Addr → Prop} {H : Hp} {a : Addr} (h : ¬ O a) : hide O H a = H a := by unfold hide; rw [if_neg h]
theorem hide_some {O : Addr → Prop} {H : Hp} {a : Addr} {o : HO} : hide O H a = some o ↔ ¬ O a ∧ H a = some o := by
  unfold hide
  by_cases h : O a
  · rw [if_pos h]; exact ⟨(fun z => by cases z), fun z => absurd h z.1⟩
  · rw [if_neg h]; exact ⟨fun z => ⟨h, z⟩, fun z => z.2⟩
theorem same_hide {O O' : Addr → Prop} {H H' : Hp} (h : ∀ a o, ¬ O a → H a = some o → ¬ O' a ∧ H' a = some o) : Same (hide O H) (hide O' H') := fun a o e => by
  obtain ⟨h1, h2⟩ := hide_some.mp e
  exact hide_some.mpr (h a o h1 h2)
theorem hide_same {O : Addr → Prop} {H : Hp} : Same (hide O H) H := fun a o e => (hide_some.mp e).2
theorem Rd.unhide {O : Addr → Prop} {H : Hp} {a : Addr} {u : HO} (h : Rd (hide O H) a u) : Rd H a u := (RLe.of hide_same).rd _ _ h

mutual
/-- what is immutable does not lean on what is no tuple -/
theorem Rep.hide {K : PySem.W.Frag} {O : Addr → Prop} {H : Hp} (hn : ∀ a xs, O a → H a ≠ some (.tup xs)) : ∀ {v : V} {d : D}, D.imm d = true → Rep K H v d → Rep K (hide O H) v d
  | _, _, _, .non => .non
  | _, _, _, .bl b => .bl b
  | _, _, _, .int i => .int i
  | _, _, _, .str x => .str x
  | _, _, _, .ref a => .ref a
  | _, _, hi, .tup (a := a) (vs := vs) h r => by
    have ha : ¬ O a := fun z => hn a vs z h
    exact .tup (hide_some.mpr ⟨ha, h⟩) (RepAll.hide hn (by simpa [D.imm] using hi) r)
  | _, _, hi, .lst _ _ => by simp [D.imm] at hi
  | _, _, hi, .dK _ _ _ => by simp [D.imm] at hi
  | _, _, hi, .dT _ _ _ => by simp [D.imm] at hi
theorem RepAll.hide {K : PySem.W.Frag} {O : Addr → Prop} {H : Hp} (hn : ∀ a xs, O a → H a ≠ some (.tup xs)) : ∀ {vs : List V} {ds : List D}, D.imms ds = true → RepAll K H vs ds → RepAll K (hide O H) vs ds
  | _, _, _, .nil => .nil
  | _, _, hi, .cons h r => by
    simp only [D.imms, Bool.and_eq_true] at hi
    exact .cons (Rep.hide hn hi.1 h) (RepAll.hide hn hi.2 r)
end

/-- the content of an object that is ours alone -/
def OwnC (K : PySem.W.Frag) (G H : Hp) (a : Addr) : D → Prop
  | .lst ds => ∃ vs, H a = some (.lst vs) ∧ RepAll K G vs ds
  | .dK ks ds => ∃ vs, ks.length = vs.length ∧ H a = some (.dK (ks.zip vs)) ∧ RepAll K G vs ds
  | .dT ks ds => ∃ vs, ks.length = vs.length ∧ H a = some (.dT (ks.zip vs)) ∧ RepAll K G vs ds
  | _ => False
theorem OwnC.mono {K : PySem.W.Frag} {G G' H H' : Hp} {a : Addr} {d : D} (e : RLe G G') (ea : ∀ o, H a = some o → H' a = some o) (h : OwnC K G H a d) : OwnC K G' H' a d := by
  cases d with
  | lst ds => obtain ⟨vs, h1, h2⟩ := h; exact ⟨vs, ea _ h1, h2.mono e⟩
  | dK ks ds => obtain ⟨vs, h0, h1, h2⟩ := h; exact ⟨vs, h0, ea _ h1, h2.mono e⟩
  | dT ks ds => obtain ⟨vs, h0, h1, h2⟩ := h; exact ⟨vs, h0, ea _ h1, h2.mono e⟩
  | _ => exact h
/-- seen as data -/
theorem OwnC.rep {K : PySem.W.Frag} {G H : Hp} {a : Addr} {d : D} (e : RLe G H) (h : OwnC K G H a d) : Rep K H (.ref a) d := by
  cases d with
  | lst ds => obtain ⟨vs, h1, h2⟩ := h; exact .lst h1 (h2.mono e)
  | dK ks ds => obtain ⟨vs, h0, h1, h2⟩ := h; exact .dK h0 (.inl h1) (h2.mono e)
  | dT ks ds => obtain ⟨vs, h0, h1, h2⟩ := h; exact .dT h0 (.inl h1) (h2.mono e)
  | _ => exact h.elim
theorem OwnC.some {K : PySem.W.Frag} {G H : Hp} {a : Addr} {d : D} (h : OwnC K G H a d) : ∃ o, H a = some o ∧ ∀ xs, o ≠ .tup xs ∧ ∀ ob, o ≠ .frz ob (.tup xs) := by
  cases d with
  | lst ds => obtain ⟨vs, h1, h2⟩ := h; exact ⟨_, h1, fun xs => ⟨(fun z => by cases z), fun _ z => by cases z⟩⟩
  | dK ks ds => obtain ⟨vs, h0, h1, h2⟩ := h; exact ⟨_, h1, fun xs => ⟨(fun z => by cases z), fun _ z => by cases z⟩⟩
  | dT ks ds => obtain ⟨vs, h0, h1, h2⟩ := h; exact ⟨_, h1, fun xs => ⟨(fun z => by cases z), fun _ z => by cases z⟩⟩
  | _ => exact h.elim
/-- the content's own items -/
def D.immC : D → Bool
  | .lst ds => D.imms ds
  | .dK _ ds => D.imms ds
  | .dT _ ds => D.imms ds
  | _ => false
theorem OwnC.hide {K : PySem.W.Frag} {O : Addr → Prop} {G H : Hp} {a : Addr} {d : D} (hn : ∀ a xs, O a → G a ≠ Option.some (HO.tup xs)) (hi : d.immC = true) (h : OwnC K G H a d) : OwnC K (hide O G) H a d := by
  cases d with
  | lst ds => obtain ⟨vs, h1, h2⟩ := h; exact ⟨vs, h1, h2.hide hn hi⟩
  | dK ks ds => obtain ⟨vs, h0, h1, h2⟩ := h; exact ⟨vs, h0, h1, h2.hide hn hi⟩
  | dT ks ds => obtain ⟨vs, h0, h1, h2⟩ := h; exact ⟨vs, h0, h1, h2.hide hn hi⟩
  | _ => exact h.elim

/-- a result: data that others may hold too, or a new object of our own -/
inductive R where
  | val (d : D) | own (d : D)
def R.d : R → D
  | .val d => d
  | .own d => d
def R.imm : R → Bool
  | .val d => d.imm
  | .own d => d.immC

/-! ### the world beside: what a def may change that is no object of its own -/
structure Cfg (W : Type) where
  P : Program
  w : World
  K : PySem.W.Frag
  mg : Str → Option Value
  base : Heap
  F : Addr → Prop
  WR : Hp → W → Prop
  loc : ∀ H H' m, (∀ a, F a → H' a = H a) → WR H m → WR H' m
  dom : ∀ H m a, WR H m → F a → H a ≠ none

def Ext (F : Addr → Prop) (H H' : Hp) : Prop := ∀ a o, H a = some o → ¬ F a → H' a = some o
theorem Ext.refl {F : Addr → Prop} {H : Hp} : Ext F H H := fun _ _ h _ => h
theorem Ext.trans {F : Addr → Prop} {H H1 H2 : Hp} (a : Ext F H H1) (b : Ext F H1 H2) : Ext F H H2 := fun c o h n => b c o (a c o h n) n
theorem Ext.of {F : Addr → Prop} {H H' : Hp} (e : Same H H') : Ext F H H' := fun a o h _ => e a o h
theorem Ext.hide {F O : Addr → Prop} {H H' : Hp} (e : Ext F H H') (hF : ∀ a, F a → O a) : Same (hide O H) (hide O H') :=
  same_hide fun a o h1 h2 => ⟨h1, e a o h2 fun z => h1 (hF a z)⟩

section
variable {W : Type} (C : Cfg W)
/-- what is hidden stands, the world is hidden -/
structure Vw (O : Addr → Prop) (H : Hp) (m : W) : Prop where
  sub : ∀ a, C.F a → O a
  dom : ∀ a, O a → H a ≠ none
  wr : C.WR H m
def RRep (O : Addr → Prop) (H H' : Hp) (v : V) : R → Prop
  | .val d => Rep C.K (hide O H') v d
  | .own d => ∃ a, v = .ref a ∧ H a = none ∧ OwnC C.K (hide (fun b => O b ∨ b = a) H') H' a d
structure Post (O : Addr → Prop) (H H' : Hp) (v : V) (r : R) (m : W) : Prop where
  ext : Ext C.F H H'
  wr : C.WR H' m
  rep : RRep C O H H' v r
/-- values and heap to the meaning's result -/
def RSem (sem : List D → W → Option (R × W)) (vs : List V) (H : Hp) (Q : VK) : Prop :=
  ∃ O ds m r m', Vw C O H m ∧ RepAll C.K (hide O H) vs ds ∧ sem ds m = some (r, m') ∧ ∀ v H', Post C O H H' v r m' → Q v H'
end
section
variable {W : Type} {C : Cfg W} {O : Addr → Prop} {H H' H2 : Hp} {m m' : W} {v : V} {r : R}
theorem Vw.ext (h : Vw C O H m) (e : Ext C.F H H') (w : C.WR H' m') : Vw C O H' m' :=
  ⟨h.sub, fun a ha => by
    by_cases hf : C.F a
    · exact C.dom H' m' a w hf
    · cases q : H a with
      | none => exact absurd q (h.dom a ha)
      | some o => rw [e a o q hf]; exact (fun z => by cases z), w⟩
/-- the result as data -/
theorem RRep.rep (hv : Vw C O H m) (h : RRep C O H H' v r) : Rep C.K (hide O H') v r.d := by
  cases r with
  | val d => exact h
  | own d =>
    obtain ⟨a, rfl, hn, h⟩ := h
    have ha : ¬ O a := fun z => hv.dom a z hn
    have hG : Same (hide (fun b => O b ∨ b = a) H') (hide O H') := same_hide fun b o h1 h2 => ⟨fun z => h1 (.inl z), h2⟩
    have h2 : OwnC C.K (hide (fun b => O b ∨ b = a) H') (hide O H') a d := h.mono RLe.refl fun o q => hide_some.mpr ⟨ha, q⟩
    exact h2.rep (RLe.of hG)
theorem Post.step (h : Post C O H H' v r m') (hv : Vw C O H m) : Vw C O H' m' := hv.ext h.ext h.wr
/-- a result that came from further on -/
theorem Post.back {m2 : W} (e : Ext C.F H H') (h : Post C O H' H2 v r m2) (hv : Vw C O H' m) (hn : ∀ a, H' a = none → H a = none) : Post C O H H2 v r m2 := by
  refine ⟨e.trans h.ext, h.wr, ?_⟩
  have q := h.rep
  cases r with
  | val d => exact q
  | own d => obtain ⟨a, e1, e2, e3⟩ := q; exact ⟨a, e1, hn a e2, e3⟩
theorem Ext.none (e : Ext C.F H H') (w : C.WR H' m) {a : Addr} (h : H' a = none) : H a = none := by
  cases q : H a with
  | none => rfl
  | some o =>
    by_cases hf : C.F a
    · exact absurd h (C.dom H' m a w hf)
    · rw [e a o q hf] at h; cases h
end
end Ev

set_option Elab.async false
set_option linter.all false
set_option maxRecDepth 100000
set_option maxHeartbeats 4000000
namespace Ev
open PySem PySem.Spec PyProof.Rows L2

/-! ### rules as things -/
/-- an expression's form by its operands, and its meaning -/
structure Rl (W : Type) where
  form : Scope → Expr → Option (List Expr)
  sem : List D → W → Option (R × W)
structure CmpR where
  op : CmpOp
  sem : D → D → Option Bool
/-- what is walked -/
structure ItR where
  form : Scope → Expr → Option (List Expr)
  sem : List D → Option (List D)
inductive Tg where
  | nm (i : Nat) | tp (js : List Nat)

/-! ### expressions -/
mutual
inductive Xp (W : Type) where
  | var (i : Nat)
  | con (d : D)
  | app (r : Rl W) (xs : Xs W)
  | cmp (c : CmpR) (a b : Xp W)
  | and (xs : Xs W)
  | or (xs : Xs W)
  | not (x : Xp W)
  | ife (c a b : Xp W)
  | comp (own : List (Str × Nat)) (it : ItR) (ix : Xs W) (tg : Tg) (cs : Xs W) (elt : Xp W)
inductive Xs (W : Type) where
  | nil
  | cons (x : Xp W) (xs : Xs W)
end

/-! ### slots -/
inductive SV where
  | non | val (d : D) | own (d : D)
def look (use : List Nat) (sl : List SV) (i : Nat) : Option D :=
  match sl[i]? with
  | some (.val d) => some d
  | some (.own d) => if use.contains i then some d else none
  | _ => none
def wipeS (sl : List SV) : List Nat → List SV
  | [] => sl
  | v :: vs => (wipeS sl vs).set v .non
def setTs : List Nat → List D → List SV → Option (List SV)
  | [], [], sl => some sl
  | j :: js, d :: ds, sl => setTs js ds (sl.set j (.val d))
  | _, _, _ => none
def setTg (tg : Tg) (sl : List SV) (d : D) : Option (List SV) :=
  match tg, d with
  | .nm i, d => some (sl.set i (.val d))
  | .tp js, .tup ds => setTs js ds sl
  | _, _ => none
def Tg.slots : Tg → List Nat
  | .nm i => [i]
  | .tp js => js

/-! ### meaning -/
def compL {W : Type} (body : D → W → Option (Option D × W)) : List D → W → Option (List D × W)
  | [], m => some ([], m)
  | d :: ds, m =>
    match body d m with
    | some (some y, m1) => (match compL body ds m1 with | some (ys, m2) => some (y :: ys, m2) | none => none)
    | some (none, m1) => compL body ds m1
    | none => none
mutual
def ev {W : Type} (use : List Nat) : Xp W → List SV → W → Option (R × W)
  | .var i, sl, m => match look use sl i with | some d => some (.val d, m) | none => none
  | .con d, _, m => some (.val d, m)
  | .app r xs, sl, m => match evs use xs sl m with | some (ds, m1) => r.sem ds m1 | none => none
  | .cmp c a b, sl, m => match ev use a sl m with
    | some (ra, m1) => (match ev use b sl m1 with
      | some (rb, m2) => (match c.sem ra.d rb.d with | some k => some (.val (.bl k), m2) | none => none)
      | none => none)
    | none => none
  | .and xs, sl, m => match evAnd use xs sl m with | some (b, m1) => some (.val (.bl b), m1) | none => none
  | .or xs, sl, m => match evOr use xs sl m with | some (b, m1) => some (.val (.bl b), m1) | none => none
  | .not x, sl, m => match ev use x sl m with | some (.val (.bl b), m1) => some (.val (.bl (!b)), m1) | _ => none
  | .ife c a b, sl, m => match ev use c sl m with
    | some (.val (.bl true), m1) => ev use a sl m1
    | some (.val (.bl false), m1) => ev use b sl m1
    | _ => none
  | .comp own it ix tg cs elt, sl, m => match evs use ix sl m with
    | some (ds, m1) => (match it.sem ds with
      | some items => if items.length ≤ 16777216 then
          (match compL (fun d m => match setTg tg (wipeS sl (own.map (·.2))) d with
            | some sl1 => (match evAnd use cs sl1 m with
              | some (true, m2) => (match ev use elt sl1 m2 with | some (r, m3) => some (some r.d, m3) | none => none)
              | some (false, m2) => some (none, m2)
              | none => none)
            | none => none) items m1 with
          | some (ys, m2) => some (.own (.lst ys), m2)
          | none => none)
        else none
      | none => none)
    | none => none
def evs {W : Type} (use : List Nat) : Xs W → List SV → W → Option (List D × W)
  | .nil, _, m => some ([], m)
  | .cons x xs, sl, m => match ev use x sl m with
    | some (r, m1) => (match evs use xs sl m1 with | some (ds, m2) => some (r.d :: ds, m2) | none => none)
    | none => none
def evAnd {W : Type} (use : List Nat) : Xs W → List SV → W → Option (Bool × W)
  | .nil, _, m => some (true, m)
  | .cons x xs, sl, m => match ev use x sl m with
    | some (.val (.bl true), m1) => evAnd use xs sl m1
    | some (.val (.bl false), m1) => some (false, m1)
    | _ => none
def evOr {W : Type} (use : List Nat) : Xs W → List SV → W → Option (Bool × W)
  | .nil, _, m => some (false, m)
  | .cons x xs, sl, m => match ev use x sl m with
    | some (.val (.bl false), m1) => evOr use xs sl m1
    | some (.val (.bl true), m1) => some (true, m1)
    | _ => none
end

/-! ### the look: does the text's tree stand for it -/
def vis (sc : Scope) (x : Str) : Bool := match sc.names.lookup x with | some .local => true | some .cell => true | some .free => true | _ => false
def stor (sc : Scope) (top : Bool) (x : Str) : Bool := match sc.names.lookup x with | some .local => true | some .cell => top | _ => false
def glb (sc : Scope) (x : Str) : Bool := match sc.names.lookup x with | some .globalImplicit => true | _ => false
def at? (N : List Str) (i : Nat) (x : Str) : Bool := match N[i]? with | some y => decide (y = x) | none => false
/-- neither starred nor of a boolean form -/
def plain : Expr → Bool
  | .UnaryOp .Not _ _ => false
  | .BoolOp _ _ _ => false
  | .IfExp _ _ _ _ => false
  | .Compare _ _ _ _ => false
  | .Starred _ _ => false
  | .ListComp _ _ _ _ => false
  | .SetComp _ _ _ _ => false
  | .DictComp _ _ _ _ _ => false
  | _ => true
def chkCon : Const → D → Bool
  | .int i, .int j => decide (i = j)
  | .str x, .str y => decide (x = y)
  | .bool b, .bl c => b == c
  | .none, .non => true
  | _, _ => false
def chkNms (N : List Str) (sc : Scope) (top : Bool) : List Expr → List Nat → Bool
  | [], [] => true
  | .Name x _ :: es, j :: js => at? N j x && stor sc top x && chkNms N sc top es js
  | _, _ => false
def chkTg (N : List Str) (sc : Scope) (top : Bool) : Expr → Tg → Bool
  | .Name x _, .nm i => at? N i x && stor sc top x
  | .Tuple es _ _, .tp js => chkNms N sc top es js
  | _, _ => false
mutual
def chk {W : Type} (N : List Str) (sc : Scope) : Expr → Xp W → Bool
  | e, .var i => match e with | .Name x _ => at? N i x && vis sc x && !(x == ("__debug__" : Str)) && !(x == ("__classdict__" : Str)) | _ => false
  | e, .con d => match e with | .Constant c _ _ => chkCon c d | _ => false
  | e, .app r xs => plain e && (match r.form sc e with | some es => chks N sc es xs | none => false)
  | e, .cmp c a b => match e with | .Compare l [op] [r] _ => decide (op = c.op) && !behindInMarks op r && chk N sc l a && chk N sc r b | _ => false
  | e, .and xs => match e with | .BoolOp .And es _ => (match es with | [] => false | _ :: _ => chks N sc es xs) | _ => false
  | e, .or xs => match e with | .BoolOp .Or es _ => (match es with | [] => false | _ :: _ => chks N sc es xs) | _ => false
  | e, .not x => match e with | .UnaryOp .Not a _ => chk N sc a x | _ => false
  | e, .ife c a b => match e with | .IfExp c' a' b' _ => chk N sc c' c && chk N sc a' a && chk N sc b' b | _ => false
  | e, .comp own it ix tg cs elt => match e with
    | .ListComp el [⟨tge, iter, ifs, 0⟩] scope _ =>
      blkC N sc scope own && (match it.form sc iter with | some es => chks N sc es ix | none => false) && chkTg N (relS scope sc) false tge tg && (tg.slots.all fun i => (own.map (·.2)).contains i) &&
        decide (ifs.length ≤ 1) && chks N (relS scope sc) ifs cs && chk N (relS scope sc) el elt
    | _ => false
def chks {W : Type} (N : List Str) (sc : Scope) : List Expr → Xs W → Bool
  | [], .nil => true
  | e :: es, .cons x xs => chk N sc e x && chks N sc es xs
  | _, _ => false
end

/-! ### what the rules must keep -/
def tArgs : List TE → TA
  | [] => tNil
  | t :: ts => tCons t (tArgs ts)
def MonoE (t : TE) : Prop := ∀ σ H (Q Q' : VK), (∀ v H, Q v H → Q' v H) → t σ H Q → t σ H Q'
inductive PEs (X : Cx) : List Expr → List TE → Prop
  | nil : PEs X [] []
  | cons {e : Expr} {es : List Expr} {t : TE} {ts : List TE} : PE X e t → MonoE t → PEs X es ts → PEs X (e :: es) (t :: ts)
theorem PEs.mono {X : Cx} : ∀ {es : List Expr} {ts : List TE}, PEs X es ts → ∀ {σ : L2.St} {H : Hp} {Q Q' : List V → Hp → Prop}, tArgs ts σ H Q → (∀ vs H, Q vs H → Q' vs H) → tArgs ts σ H Q'
  | [], _, .nil, _, _, _, _, q, f => f _ _ q
  | _ :: _, _, .cons (t := t) _ hm r, σ, H, _, _, q, f => hm σ H _ _ (fun _ _ q => r.mono q fun _ _ q => f _ _ q) q
def notStar : Expr → Bool
  | .Starred _ _ => false
  | _ => true

structure CtxOk {W : Type} (C : Cfg W) (lvl : Nat) (N : List Str) (sc : Scope) (top : Bool) (X : Cx) : Prop where
  prog : X.prog = C.P
  w : X.w = C.w
  K : X.K = C.K
  mg : X.mg = C.mg
  base : X.base = C.base
  hN : X.N = N
  nd : N.Nodup
  kind : sc.kind = .function
  hsc : X.env.scope = sc
  calm : X.calm = true
  room : Room lvl X.A
  xe : X.xe = fun _ _ => False
  fn : top = true → ∀ x, X.fn x = true

section
variable {W : Type} (C : Cfg W) (lvl : Nat)
def RuleOk0 (r : Rl W) : Prop := ∀ (X : Cx) (N : List Str) (sc : Scope) (top : Bool), CtxOk C lvl N sc top X → ∀ (e : Expr) (es : List Expr) (ts : List TE), r.form sc e = some es → PEs X es ts → es.all notStar = true →
  PE X e (fun σ H Q => tArgs ts σ H (fun vs H1 => RSem C r.sem vs H1 Q))
/-- a comparison by values -/
def rCmp (K : PySem.W.Frag) (sem : D → D → Option Bool) : R2 := fun x y H Q => ∃ d e k, Rep K H x d ∧ Rep K H y e ∧ sem d e = some k ∧ Q (.bl k) H
def CmpOk (c : CmpR) : Prop := ∀ (X : Cx) (N : List Str) (sc : Scope) (top : Bool), CtxOk C lvl N sc top X → OpR X (compareOp c.op) (rCmp C.K c.sem)
/-- the walk yields these items whatever happens outside of what it leans on -/
def ItW (K : PySem.W.Frag) (O : Addr → Prop) (Hb : Hp) (J : It) (items : List D) : Prop :=
  ∀ (O' : Addr → Prop) H, (∀ a, O' a → O a ∨ Hb a = none) → (∀ a o, Hb a = some o → ¬ O a → H a = some o) → (∀ i, i < items.length → J.go i H) ∧ J.stop items.length H ∧
    ∀ i x H', i < items.length → J.yld i H x H' → Same H H' ∧ ∃ d, items[i]? = some d ∧ Rep K (hide O' H') x d
def ItOk (r : ItR) : Prop := ∀ (X : Cx) (N : List Str) (sc : Scope) (top : Bool), CtxOk C lvl N sc top X → ∀ (tg e : Expr) (es : List Expr) (ts : List TE), r.form sc e = some es → PEs X es ts → es.all notStar = true →
  PI X tg e (fun σ H Rk => tArgs ts σ H fun vs H1 => ∃ O ds items, (∀ a, O a → H1 a ≠ none) ∧ RepAll C.K (hide O H1) vs ds ∧ r.sem ds = some items ∧ ∀ J H2, Same H1 H2 → ItW C.K O H2 J items → Rk J H2) ∧ ∀ x, foldedSetIterable e X.env x = pure x
/-- the slots as they are seen in G -/
def VOk (K : PySem.W.Frag) (G : Hp) (σ : L2.St) (use : List Nat) (sl : List SV) : Prop :=
  σ.length = sl.length ∧ ∀ i d, look use sl i = some d → ∃ v, σ[i]? = some (some v) ∧ Rep K G v d
def tE (use : List Nat) (x : Xp W) : TE := fun σ H Q => ∃ O sl m r m', Vw C O H m ∧ VOk C.K (hide O H) σ use sl ∧ ev use x sl m = some (r, m') ∧ ∀ v H', Post C O H H' v r m' → Q v H'
def tT (use : List Nat) (x : Xp W) : TT := fun σ H Q => ∃ O sl m b m', Vw C O H m ∧ VOk C.K (hide O H) σ use sl ∧ ev use x sl m = some (.val (.bl b), m') ∧ ∀ H', Ext C.F H H' → C.WR H' m' → Q b H'
theorem tE_mono (use : List Nat) (x : Xp W) : MonoE (tE C use x) := fun σ H Q Q' f q => by
  obtain ⟨O, sl, m, r, m', h1, h2, h3, k⟩ := q
  exact ⟨O, sl, m, r, m', h1, h2, h3, fun v H' p => f _ _ (k v H' p)⟩
def tEs (use : List Nat) : Xs W → List TE
  | .nil => []
  | .cons x xs => tE C use x :: tEs use xs
/-- the same by the operands' own readings: each operand's meaning is known ahead -/
def RuleOk (r : Rl W) : Prop := ∀ (X : Cx) (N : List Str) (sc : Scope) (top : Bool), CtxOk C lvl N sc top X → ∀ (e : Expr) (es : List Expr) (use : List Nat) (xs : Xs W), r.form sc e = some es → PEs X es (tEs C use xs) → es.all notStar = true → PE X e (tE C use (.app r xs))
mutual
def Xp.ok : Xp W → Prop
  | .var _ => True
  | .con _ => True
  | .app r xs => RuleOk C lvl r ∧ Xs.ok xs
  | .cmp c a b => CmpOk C lvl c ∧ Xp.ok a ∧ Xp.ok b
  | .and xs => Xs.ok xs
  | .or xs => Xs.ok xs
  | .not x => Xp.ok x
  | .ife c a b => Xp.ok c ∧ Xp.ok a ∧ Xp.ok b
  | .comp _ it ix _ cs elt => ItOk C lvl it ∧ Xs.ok ix ∧ Xs.ok cs ∧ Xp.ok elt
def Xs.ok : Xs W → Prop
  | .nil => True
  | .cons x xs => Xp.ok x ∧ Xs.ok xs
end

def tAnd' (use : List Nat) (xs : Xs W) : TT := fun σ H Q => ∃ O sl m b m', Vw C O H m ∧ VOk C.K (hide O H) σ use sl ∧ evAnd use xs sl m = some (b, m') ∧ ∀ H', Ext C.F H H' → C.WR H' m' → Q b H'
def tOr' (use : List Nat) (xs : Xs W) : TT := fun σ H Q => ∃ O sl m b m', Vw C O H m ∧ VOk C.K (hide O H) σ use sl ∧ evOr use xs sl m = some (b, m') ∧ ∀ H', Ext C.F H H' → C.WR H' m' → Q b H'
end

/-! ### small facts -/
theorem _root_.L2.PE.mono {X : Cx} {e : Expr} {t t' : TE} (h : PE X e t) (f : ∀ σ H Q, t' σ H Q → t σ H Q) : PE X e t' := ⟨fun pins s σ H Q I q => h.run pins s σ H Q I (f σ H Q q)⟩
theorem _root_.L2.PT.mono {X : Cx} {e : Expr} {t t' : TT} (h : PT X e t) (f : ∀ σ H Q, t' σ H Q → t σ H Q) : PT X e t' := ⟨fun pins s σ H Q I q => h.run pins s σ H Q I (f σ H Q q)⟩
theorem _root_.L2.PW.mono {X : Cx} {e : Expr} {t t' : TT} (h : PW X e t) (f : ∀ σ H Q, t' σ H Q → t σ H Q) : PW X e t' := ⟨fun wh pins s σ H Q I q => h.run wh pins s σ H Q I (f σ H Q q)⟩
theorem _root_.L2.PTs.mono {X : Cx} {e : List Expr} {t t' : TT} (h : PTs X e t) (f : ∀ σ H Q, t' σ H Q → t σ H Q) : PTs X e t' := ⟨fun pins s σ H Q I q => h.run pins s σ H Q I (f σ H Q q)⟩
theorem _root_.L2.PS.mono {X : Cx} {e : Stmt} {t t' : TS} (h : PS X e t) (f : ∀ D σ H, t' D σ H → t D σ H) : PS X e t' := ⟨fun pins s σ H D I q => h.run pins s σ H D I (f D σ H q)⟩
theorem _root_.L2.PSs.mono {X : Cx} {e : List Stmt} {t t' : TS} (h : PSs X e t) (f : ∀ D σ H, t' D σ H → t D σ H) : PSs X e t' := ⟨fun pins s σ H D I q => h.run pins s σ H D I (f D σ H q)⟩

theorem starEach_of {e : Expr} {es : List Expr} {env : Env} (h : notStar e = true) : starEach (e :: es) env = (false, eval e env) :: starEach es env := by
  cases e <;> first | rfl | (simp [notStar] at h)
theorem PEs.pa {X : Cx} : ∀ {es : List Expr} {ts : List TE}, PEs X es ts → es.all notStar = true → PA X es (tArgs ts)
  | [], _, .nil, _ => pa_nil
  | e :: es, _, .cons h _ r, hs => by
    simp only [List.all_cons, Bool.and_eq_true] at hs
    exact pa_cons h (r.pa hs.2) (starEach_of hs.1)
theorem VOk.mono {K : PySem.W.Frag} {G G' : Hp} {σ : L2.St} {use : List Nat} {sl : List SV} (e : RLe G G') (h : VOk K G σ use sl) : VOk K G' σ use sl :=
  ⟨h.1, fun i d q => by obtain ⟨v, e1, e2⟩ := h.2 i d q; exact ⟨v, e1, e2.mono e⟩⟩
theorem notStar_of_plain {e : Expr} (h : plain e = true) : notStar e = true := by
  cases e <;> first | rfl | (simp [plain] at h)
theorem isTrue_plain' {e : Expr} (h : plain e = true) (env : Env) : ∀ whole, isTrue e env whole = (do let v ← whole; standAt e.pos; holding [v] (truthy v)) := by
  intro whole
  cases e with
  | UnaryOp op a p => cases op <;> first | rfl | (simp [plain] at h)
  | _ => first | rfl | (simp [plain] at h)

section
variable {W : Type} {C : Cfg W} {lvl : Nat} {use : List Nat} {σ : L2.St} {H : Hp} {O : Addr → Prop} {sl : List SV} {m m' : W}
theorem VOk.ext {H' : Hp} (h : VOk C.K (hide O H) σ use sl) (hv : Vw C O H m) (e : Ext C.F H H') : VOk C.K (hide O H') σ use sl := h.mono (RLe.of (e.hide hv.sub))
theorem Post.refl {d : D} {v : V} (hv : Vw C O H m) (h : Rep C.K (hide O H) v d) : Post C O H H v (.val d) m := ⟨Ext.refl, hv.wr, h⟩
/-- operands one after another -/
theorem args_ev (xs : Xs W) : ∀ {H : Hp} {m : W} {ds : List D} {m' : W} {Qa : List V → Hp → Prop}, Vw C O H m → VOk C.K (hide O H) σ use sl → evs use xs sl m = some (ds, m') →
    (∀ vs H', Ext C.F H H' → C.WR H' m' → RepAll C.K (hide O H') vs ds → Qa vs H') → tArgs (tEs C use xs) σ H Qa := by
  match xs with
  | .nil =>
    intro H m ds m' Qa hv ho he k
    simp only [evs, Option.some.injEq, Prod.mk.injEq] at he
    obtain ⟨rfl, rfl⟩ := he
    exact k [] H Ext.refl hv.wr .nil
  | .cons x xs =>
    intro H m ds m' Qa hv ho he k
    unfold evs at he
    split at he
    · rename_i r m1 h1
      split at he
      · rename_i ds' m2 h2
        simp only [Option.some.injEq, Prod.mk.injEq] at he
        obtain ⟨rfl, rfl⟩ := he
        refine ⟨O, sl, m, r, m1, hv, ho, h1, fun v H1 p1 => ?_⟩
        refine args_ev xs (p1.step hv) (ho.ext hv p1.ext) h2 fun vs H2 e2 w2 r2 => ?_
        exact k (v :: vs) H2 (p1.ext.trans e2) w2 (.cons ((p1.rep.rep hv).mono (RLe.of (e2.hide hv.sub))) r2)
      · cases he
    · cases he
end
end Ev

set_option Elab.async false
set_option linter.all false
set_option maxRecDepth 100000
set_option maxHeartbeats 4000000
namespace Ev
open PySem PySem.Spec PyProof.Rows L2

theorem at_of {N : List Str} {i : Nat} {x : Str} (h : at? N i x = true) : N[i]? = some x := by
  unfold at? at h
  split at h
  · rename_i y e
    rw [e, of_decide_eq_true h]
  · cases h
theorem vis_of {sc : Scope} {x : Str} (h : vis sc x = true) : Vis sc x := by
  unfold vis at h
  unfold Vis
  split at h <;> first | (rename_i e; rw [e]; simp) | cases h
theorem glb_of {sc : Scope} {x : Str} (h : glb sc x = true) : sc.names.lookup x = some .globalImplicit := by
  unfold glb at h
  split at h
  · assumption
  · cases h
theorem stor_loc {sc : Scope} {top : Bool} {x : Str} (h : stor sc top x = true) : L2.Loc sc x := by
  unfold stor at h
  unfold L2.Loc
  split at h <;> first | (rename_i e; rw [e]; simp) | cases h
theorem stor_fn {sc : Scope} {top : Bool} {x : Str} (h : stor sc top x = true) : top = true ∨ sc.names.lookup x = some .local := by
  unfold stor at h
  split at h
  · rename_i e; exact .inr e
  · exact .inl h
  · cases h

/-! ### targets -/
def gNms : List Nat → TGs
  | [] => gNil
  | j :: js => gCons (gName j) (gNms js)
def gTg (K : PySem.W.Frag) : Tg → TG
  | .nm i => gName i
  | .tp js => gTup K js.length (gNms js)
section
variable {W : Type} {C : Cfg W} {lvl : Nat} {N : List Str} {sc : Scope} {top : Bool} {X : Cx}
theorem CtxOk.gl (h : CtxOk C lvl N sc top X) {x : Str} (g : glb sc x = true) : Gl X x := by
  unfold Gl
  show X.env.scope.names.lookup x = _
  rw [h.hsc]
  exact glb_of g
theorem pg_nm (h : CtxOk C lvl N sc top X) {x : Str} {p : Pos} {i : Nat} (ha : at? N i x = true) (hs : stor sc top x = true) : PG X (.Name x p) (gName i) := by
  refine pg_name (by rw [h.hN]; exact h.nd) (by rw [h.hN]; exact at_of ha) (by rw [h.hsc]; exact stor_loc hs) ?_
  rcases stor_fn hs with z | z
  · exact .inl (h.fn z x)
  · exact .inr (by rw [h.hsc]; exact z)
theorem pgs_nms (h : CtxOk C lvl N sc top X) : ∀ {es : List Expr} {js : List Nat}, chkNms N sc top es js = true → PGs X es (gNms js) ∧ (assignEach es X.env).length = js.length ∧ (assignEach es X.env).findIdx? (·.1) = none
  | [], [], _ => ⟨pgs_nil, rfl, rfl⟩
  | .Name x p :: es, j :: js, hc => by
    simp only [chkNms, Bool.and_eq_true] at hc
    obtain ⟨h1, h2, h3⟩ := pgs_nms h hc.2
    refine ⟨pgs_cons (pg_nm h hc.1.1 hc.1.2) h1 rfl, ?_, ?_⟩
    · show (assignEach es X.env).length + 1 = js.length + 1
      rw [h2]
    · show ((false, _) :: assignEach es X.env).findIdx? _ = none
      rw [List.findIdx?_cons]
      simp [h3]
  | [], _ :: _, hc => by simp [chkNms] at hc
  | e :: es, [], hc => by cases e <;> simp [chkNms] at hc
  | .BoolOp .. :: _, _ :: _, hc => by simp [chkNms] at hc
  | .NamedExpr .. :: _, _ :: _, hc => by simp [chkNms] at hc
  | .BinOp .. :: _, _ :: _, hc => by simp [chkNms] at hc
  | .UnaryOp .. :: _, _ :: _, hc => by simp [chkNms] at hc
  | .Lambda .. :: _, _ :: _, hc => by simp [chkNms] at hc
  | .IfExp .. :: _, _ :: _, hc => by simp [chkNms] at hc
  | .Dict .. :: _, _ :: _, hc => by simp [chkNms] at hc
  | .Set .. :: _, _ :: _, hc => by simp [chkNms] at hc
  | .ListComp .. :: _, _ :: _, hc => by simp [chkNms] at hc
  | .SetComp .. :: _, _ :: _, hc => by simp [chkNms] at hc
  | .DictComp .. :: _, _ :: _, hc => by simp [chkNms] at hc
  | .GeneratorExp .. :: _, _ :: _, hc => by simp [chkNms] at hc
  | .Await .. :: _, _ :: _, hc => by simp [chkNms] at hc
  | .Yield .. :: _, _ :: _, hc => by simp [chkNms] at hc
  | .YieldFrom .. :: _, _ :: _, hc => by simp [chkNms] at hc
  | .Compare .. :: _, _ :: _, hc => by simp [chkNms] at hc
  | .Call .. :: _, _ :: _, hc => by simp [chkNms] at hc
  | .FormattedValue .. :: _, _ :: _, hc => by simp [chkNms] at hc
  | .JoinedStr .. :: _, _ :: _, hc => by simp [chkNms] at hc
  | .Constant .. :: _, _ :: _, hc => by simp [chkNms] at hc
  | .Attribute .. :: _, _ :: _, hc => by simp [chkNms] at hc
  | .Subscript .. :: _, _ :: _, hc => by simp [chkNms] at hc
  | .Starred .. :: _, _ :: _, hc => by simp [chkNms] at hc
  | .List .. :: _, _ :: _, hc => by simp [chkNms] at hc
  | .Tuple .. :: _, _ :: _, hc => by simp [chkNms] at hc
  | .Slice .. :: _, _ :: _, hc => by simp [chkNms] at hc
theorem chkTg_cases {tge : Expr} {tg : Tg} (hc : chkTg N sc top tge tg = true) : (∃ x p i, tge = .Name x p ∧ tg = .nm i ∧ at? N i x = true ∧ stor sc top x = true) ∨ ∃ es k p js, tge = .Tuple es k p ∧ tg = .tp js ∧ chkNms N sc top es js = true := by
  cases tg with
  | nm i =>
    cases tge <;> first
      | (simp [chkTg] at hc; done)
      | (rename_i x p
         simp only [chkTg, Bool.and_eq_true] at hc
         exact .inl ⟨x, p, i, rfl, rfl, hc.1, hc.2⟩)
  | tp js =>
    cases tge <;> first
      | (simp [chkTg] at hc; done)
      | (rename_i es k p
         simp only [chkTg] at hc
         exact .inr ⟨es, k, p, js, rfl, rfl, hc⟩)
theorem pg_tg (h : CtxOk C lvl N sc top X) {tge : Expr} {tg : Tg} (hc : chkTg N sc top tge tg = true) : PG X tge (gTg X.K tg) := by
  rcases chkTg_cases hc with ⟨x, p, i, rfl, rfl, h1, h2⟩ | ⟨es, k, p, js, rfl, rfl, h1⟩
  · exact pg_nm h h1 h2
  · obtain ⟨h1, h2, h3⟩ := pgs_nms h h1
    exact pg_tup h.calm h1 h2 h3
end
/-- a target's store, whatever is kept -/
theorem gNms_ok {K : PySem.W.Frag} {G H : Hp} {Q : L2.St → Hp → Prop} (P : L2.St → List SV → Prop) (S : Nat → Prop) (step : ∀ σ sl j v d, S j → P σ sl → Rep K G v d → P (σ.set j (some v)) (sl.set j (.val d))) :
    ∀ (js : List Nat) {σ : L2.St} {sl sl1 : List SV} {vs : List V} {ds : List D}, (∀ j ∈ js, S j) → P σ sl → RepAll K G vs ds → setTs js ds sl = some sl1 → (∀ σ1, P σ1 sl1 → Q σ1 H) → gNms js vs σ H Q
  | [], σ, sl, sl1, vs, ds, _, p, r, e, k => by
    cases ds with
    | nil =>
      cases r
      simp only [setTs, Option.some.injEq] at e
      subst e
      exact ⟨rfl, k σ p⟩
    | cons d ds => simp [setTs] at e
  | j :: js, σ, sl, sl1, vs, ds, hS, p, r, e, k => by
    cases ds with
    | nil => simp [setTs] at e
    | cons d ds =>
      cases r with
      | cons h r =>
        simp only [setTs] at e
        exact ⟨_, _, rfl, gNms_ok P S step js (fun j hj => hS j (List.mem_cons_of_mem _ hj)) (step σ sl j _ d (hS j List.mem_cons_self) p h) r e k⟩
theorem setTs_len : ∀ {js : List Nat} {ds : List D} {sl sl1 : List SV}, setTs js ds sl = some sl1 → ds.length = js.length
  | [], [], _, _, _ => rfl
  | [], _ :: _, _, _, e => by simp [setTs] at e
  | _ :: _, [], _, _, e => by simp [setTs] at e
  | j :: js, d :: ds, sl, sl1, e => by
    simp only [setTs] at e
    simp [setTs_len e]
theorem gTg_ok {K : PySem.W.Frag} {G H : Hp} {Q : L2.St → Hp → Prop} (P : L2.St → List SV → Prop) {tg : Tg} (step : ∀ σ sl j v d, j ∈ tg.slots → P σ sl → Rep K G v d → P (σ.set j (some v)) (sl.set j (.val d)))
    {σ : L2.St} {sl sl1 : List SV} {v : V} {d : D} (p : P σ sl) (r : Rep K G v d) (le : RLe G H) (e : setTg tg sl d = some sl1) (k : ∀ σ1, P σ1 sl1 → Q σ1 H) : gTg K tg v σ H Q := by
  cases tg with
  | nm i =>
    simp only [setTg, Option.some.injEq] at e
    subst e
    exact k _ (step σ sl i v d (by simp [Tg.slots]) p r)
  | tp js =>
    cases r with
    | tup h r =>
      simp only [setTg] at e
      refine ⟨_, _, rfl, SqT.of (le.tp _ _ h), ?_, gNms_ok P (fun j => j ∈ js) (fun σ sl j v d hj p r => step σ sl j v d hj p r) js (fun _ h => h) p r e k⟩
      rw [r.length]
      exact setTs_len e
    | _ => simp [setTg] at e

/-! ### what a comprehension's block sees -/
theorem CtxOk.blk {W : Type} {C : Cfg W} {lvl : Nat} {N : List Str} {sc : Scope} {top : Bool} {X : Cx} (h : CtxOk C lvl N sc top X) (s : Shared) (H : Hp) (scope : Scope) (Ca : Addr) (cl : List (Str × Addr)) (fp : List Addr) (hk : scope.kind = .function) :
    CtxOk C lvl N (relS scope sc) false (X.blk s H scope (compEnvC scope cl Ca X.env) fp) :=
  ⟨h.prog, h.w, h.K, h.mg, h.base, h.hN, h.nd, hk, by
    show relabel scope X.env = _
    rw [← h.hsc]
    rfl, h.calm, h.room, rfl, fun z => by cases z⟩
theorem wipe_length' (σ : L2.St) : ∀ vs : List Nat, (wipe σ vs).length = σ.length := wipe_length σ
theorem wipeS_length (sl : List SV) : ∀ vs : List Nat, (wipeS sl vs).length = sl.length
  | [] => rfl
  | v :: vs => by unfold wipeS; rw [List.length_set, wipeS_length sl vs]
theorem wipeS_in {sl : List SV} {i : Nat} : ∀ {vs : List Nat}, i ∈ vs → ∀ d, look [] (wipeS sl vs) i = some d → False
  | [], h, _, _ => by simp at h
  | v :: vs, h, d, e => by
    unfold wipeS look at e
    by_cases hi : v = i
    · subst hi
      by_cases hl : v < (wipeS sl vs).length
      · rw [List.getElem?_set_self hl] at e; cases e
      · rw [List.getElem?_eq_none (by simpa using hl)] at e; cases e
    · rw [List.getElem?_set_ne hi] at e
      exact wipeS_in ((List.mem_cons.mp h).resolve_left (fun z => hi z.symm)) d e
theorem wipeS_get {sl : List SV} {i : Nat} {x : SV} (hx : x ≠ .non) : ∀ {vs : List Nat}, (wipeS sl vs)[i]? = some x → sl[i]? = some x ∧ i ∉ vs
  | [], h => ⟨h, by simp⟩
  | v :: vs, h => by
    unfold wipeS at h
    by_cases hi : v = i
    · subst hi
      by_cases hv : v < (wipeS sl vs).length
      · rw [List.getElem?_set_self hv] at h
        exact absurd (Option.some.inj h).symm hx
      · rw [List.getElem?_eq_none (by simpa using hv)] at h; cases h
    · rw [List.getElem?_set_ne hi] at h
      obtain ⟨h1, h2⟩ := wipeS_get hx h
      exact ⟨h1, by simp only [List.mem_cons, not_or]; exact ⟨fun e => hi e.symm, h2⟩⟩
theorem look_some {use : List Nat} {sl : List SV} {i : Nat} {d : D} (h : look use sl i = some d) : sl[i]? = some (.val d) ∨ (sl[i]? = some (.own d) ∧ use.contains i = true) := by
  unfold look at h
  split at h
  · rename_i d' e; cases h; exact .inl e
  · rename_i d' e
    split at h
    · rename_i hu; cases h; exact .inr ⟨e, hu⟩
    · cases h
  · cases h
theorem look_wipe {use : List Nat} {sl : List SV} {vs : List Nat} {i : Nat} {d : D} (h : look use (wipeS sl vs) i = some d) : look use sl i = some d ∧ i ∉ vs := by
  rcases look_some h with e | ⟨e, u⟩
  · obtain ⟨e1, e2⟩ := wipeS_get (by simp) e
    exact ⟨by unfold look; rw [e1], e2⟩
  · obtain ⟨e1, e2⟩ := wipeS_get (by simp) e
    exact ⟨by unfold look; rw [e1, u]; rfl, e2⟩
theorem VOk.wipe {K : PySem.W.Frag} {G : Hp} {σ : L2.St} {use : List Nat} {sl : List SV} (h : VOk K G σ use sl) (vs : List Nat) : VOk K G (wipe σ vs) use (wipeS sl vs) := by
  refine ⟨by rw [wipe_length, wipeS_length]; exact h.1, fun i d e => ?_⟩
  obtain ⟨e1, e2⟩ := look_wipe e
  obtain ⟨v, h1, h2⟩ := h.2 i d e1
  exact ⟨v, by rw [wipe_out e2]; exact h1, h2⟩
theorem VOk.set {K : PySem.W.Frag} {G : Hp} {σ : L2.St} {use : List Nat} {sl : List SV} (h : VOk K G σ use sl) {j : Nat} {v : V} {d : D} (r : Rep K G v d) : VOk K G (σ.set j (some v)) use (sl.set j (.val d)) := by
  refine ⟨by rw [List.length_set, List.length_set]; exact h.1, fun i e q => ?_⟩
  by_cases hi : j = i
  · subst hi
    by_cases hl : j < sl.length
    · unfold look at q
      rw [List.getElem?_set_self hl] at q
      cases q
      exact ⟨v, List.getElem?_set_self (by rw [h.1]; exact hl), r⟩
    · unfold look at q
      rw [List.getElem?_eq_none (by simpa using hl)] at q
      cases q
  · have q' : look use sl i = some e := by
      unfold look at q ⊢
      rw [List.getElem?_set_ne hi] at q
      exact q
    obtain ⟨w, h1, h2⟩ := h.2 i e q'
    exact ⟨w, by rw [List.getElem?_set_ne hi]; exact h1, h2⟩
theorem wipe_set {σ : L2.St} {j : Nat} {x : Option V} : ∀ {vs : List Nat}, j ∈ vs → wipe (σ.set j x) vs = wipe σ vs
  | [], h => by simp at h
  | v :: vs, h => by
    unfold wipe
    by_cases hj : j ∈ vs
    · rw [wipe_set hj]
    · have e : j = v := (List.mem_cons.mp h).resolve_right hj
      subst e
      have : wipe (σ.set j x) vs = (wipe σ vs).set j x := by
        clear h
        induction vs with
        | nil => rfl
        | cons u us ih =>
          unfold wipe
          rw [ih (fun z => hj (List.mem_cons_of_mem _ z))]
          exact List.set_comm _ _ (fun e => hj (by rw [e]; exact List.mem_cons_self))
      rw [this, List.set_set]
end Ev

set_option Elab.async false
set_option linter.all false
set_option maxRecDepth 100000
set_option maxHeartbeats 4000000
namespace Ev
open PySem PySem.Spec PyProof.Rows L2

section
variable {W : Type} {C : Cfg W} {lvl : Nat} {use : List Nat} {N : List Str} {sc : Scope}

/-- the world stays where all that stood stands -/
theorem Cfg.stay {H H' : Hp} {m : W} (w : C.WR H m) (e : Same H H') : C.WR H' m :=
  C.loc H H' m (fun a ha => by
    cases q : H a with
    | none => exact absurd q (C.dom H m a w ha)
    | some o => rw [e a o q]) w
theorem Vw.same {O : Addr → Prop} {H H' : Hp} {m : W} (h : Vw C O H m) (e : Same H H') : Vw C O H' m := h.ext (Ext.of e) (Cfg.stay h.wr e)

theorem pe_con {X : Cx} {c : Const} {d : D} {k : Nat} {p : Pos} (h : chkCon c d = true) : PE X (.Constant c k p) (tE C use (.con d)) := by
  have fin : ∀ {v : V}, (∀ K H, Rep K H v d) → PE X (.Constant c k p) (tC v) → PE X (.Constant c k p) (tE C use (.con d)) := fun {v} hv hp => hp.mono fun σ H Q q => by
    obtain ⟨O, sl, m, r, m', hw, ho, he, k⟩ := q
    simp only [ev, Option.some.injEq, Prod.mk.injEq] at he
    obtain ⟨rfl, rfl⟩ := he
    exact k v H (Post.refl hw (hv _ _))
  cases c <;> cases d <;> first
    | (simp [chkCon] at h; done)
    | (simp only [chkCon] at h; have e := of_decide_eq_true h; subst e; first | exact fin (fun _ _ => .int _) pe_int | exact fin (fun _ _ => .str _) pe_str)
    | (simp only [chkCon] at h; have e := eq_of_beq h; subst e; exact fin (fun _ _ => .bl _) pe_bl)
    | exact fin (fun _ _ => .non) pe_non

theorem pe_varE {lvl : Nat} {i : Nat} {N : List Str} {sc : Scope} {top : Bool} {X : Cx} {e : Expr} (hX : CtxOk C lvl N sc top X) (hc : chk N sc e (Xp.var (W := W) i) = true) : PE X e (tE C use (.var i)) := by
  cases e with
  | Name y p =>
    simp only [chk, Bool.and_eq_true, Bool.not_eq_true'] at hc
    obtain ⟨⟨⟨h1, h2⟩, h3⟩, h4⟩ := hc
    refine (pe_var (i := i) (by rw [hX.hN]; exact at_of h1) (by rw [hX.hsc]; exact vis_of h2) h3 h4).mono fun σ H Q q => ?_
    obtain ⟨O, sl, m, r, m', hw, ho, he, k⟩ := q
    unfold ev at he
    split at he
    · rename_i d hd
      simp only [Option.some.injEq, Prod.mk.injEq] at he
      obtain ⟨rfl, rfl⟩ := he
      obtain ⟨v, h1, h2⟩ := ho.2 i d hd
      exact ⟨v, h1, k v H (Post.refl hw h2)⟩
    · cases he
  | _ => simp [chk] at hc
theorem pt_ife {X : Cx} {c a b : Expr} {p : Pos} {tc ta tb : TT} (hc : PT X c tc) (ha : PT X a ta) (hb : PT X b tb) : PT X (.IfExp c a b p) (fun σ H Q => tc σ H fun k H1 => if k = true then ta σ H1 Q else tb σ H1 Q) := by
  refine ⟨fun pins s σ H Q I q => ?_⟩
  show wpAny _ _ (do if ← isTrue c X.env (eval c X.env) then isTrue a X.env (eval a X.env) else isTrue b X.env (eval b X.env)) _ _ s
  refine wpAny_bind (thn (hc.run pins s σ H _ I q) fun k s1 ⟨H1, I1, q1⟩ => ?_)
  cases k with
  | true => exact ha.run pins s1 σ H1 Q I1 q1
  | false => exact hb.run pins s1 σ H1 Q I1 q1

/-- a comprehension's turns -/
theorem comp_turns {own : List (Str × Nat)} {tg : Tg} {cs : Xs W} {elt : Xp W} {σ : L2.St} {H2 : Hp} {O : Addr → Prop} {sl : List SV} {items ys : List D} {m1 m2 : W} {J : It} {Q : VK}
    (hv : Vw C O H2 m1) (ho : VOk C.K (hide O H2) σ use sl) (hlen : items.length ≤ 16777216) (hs : ∀ i ∈ tg.slots, i ∈ own.map (·.2))
    (hc : compL (fun d m => match setTg tg (wipeS sl (own.map (·.2))) d with
            | some sl1 => (match evAnd use cs sl1 m with
              | some (true, m2) => (match ev use elt sl1 m2 with | some (r, m3) => some (some r.d, m3) | none => none)
              | some (false, m2) => some (none, m2)
              | none => none)
            | none => none) items m1 = some (ys, m2))
    (hw : ItW C.K O H2 J items) {Dn : Addr} (hD : H2 Dn = none) (k : ∀ H', Post C O H2 H' (.ref Dn) (.own (.lst ys)) m2 → Q (.ref Dn) H') :
    ∃ Wt : Nat → Nat → Hp → Prop, (∃ n, Wt 0 n (upd H2 Dn (.lst []))) ∧ ∀ i n H, Wt i n H →
      (J.stop i H ∧ Q (.ref Dn) H) ∨ (J.go i H ∧ ∃ Nx : Hp → Prop, (∀ H', Nx H' → ∃ n', n' < n ∧ Wt (i + 1) n' H') ∧ ∀ x H', J.yld i H x H' → gTg C.K tg x (wipe σ (own.map (·.2))) H' fun σ2 H2 => wipe σ2 (own.map (·.2)) = wipe σ (own.map (·.2)) ∧ tAnd' C use cs σ2 H2 fun b H3 =>
        if b = true then tE C use elt σ2 H3 fun y H4 => ∃ acc, H4 Dn = some (.lst acc) ∧ acc.length < sizeLine ∧ Nx (upd H4 Dn (.lst (acc ++ [y]))) else Nx H3) := by
  generalize hbody : (fun d m => match setTg tg (wipeS sl (own.map (·.2))) d with
            | some sl1 => (match evAnd use cs sl1 m with
              | some (true, m2) => (match ev use elt sl1 m2 with | some (r, m3) => some (some r.d, m3) | none => none)
              | some (false, m2) => some (none, m2)
              | none => none)
            | none => (none : Option (Option D × W))) = body at hc
  have hOD : ¬ O Dn := fun z => hv.dom Dn z hD
  have hFD : ¬ C.F Dn := fun z => hOD (hv.sub _ z)
  let O' : Addr → Prop := fun a => O a ∨ a = Dn
  have hO'F : ∀ a, C.F a → O' a := fun a z => .inl (hv.sub a z)
  let Wt : Nat → Nat → Hp → Prop := fun i n H => n = items.length - i ∧ i ≤ items.length ∧ ∃ (acc : List D) (vs : List V) (mi : W) (ys' : List D), H Dn = some (.lst vs) ∧ RepAll C.K (hide O' H) vs acc ∧ vs.length ≤ i ∧
    (∀ a o, H2 a = some o → ¬ C.F a → H a = some o) ∧ C.WR H mi ∧ compL body (items.drop i) mi = some (ys', m2) ∧ ys = acc ++ ys'
  have vw : ∀ {H : Hp} {mi : W}, (∀ a o, H2 a = some o → ¬ C.F a → H a = some o) → C.WR H mi → H Dn ≠ none → Vw C O' H mi := fun {H mi} e w hd => ⟨hO'F, fun a ha => by
    rcases ha with ha | rfl
    · exact (hv.ext e w).dom a ha
    · exact hd, w⟩
  refine ⟨Wt, ⟨items.length, rfl, Nat.zero_le _, [], [], m1, ys, upd_same, .nil, Nat.le_refl _, fun a o e n => ?_, ?_, hc, rfl⟩, ?_⟩
  · rw [upd_ne (ne_of_none e hD)]; exact e
  · exact C.loc H2 _ m1 (fun a ha => upd_ne (fun z => hFD (z ▸ ha))) hv.wr
  rintro i n H ⟨rfl, hi, acc, vs, mi, ys', hDn, hra, hvl, hex, hwr, hrest, hys⟩
  have hHD : H Dn ≠ none := by rw [hDn]; exact fun z => by cases z
  obtain ⟨w1, w2, w3⟩ := hw O' H (fun a ha => ha.elim .inl fun z => .inr (z ▸ hD)) (fun a o e n => hex a o e fun z => n (hv.sub a z))
  by_cases hlt : i < items.length
  · refine .inr ⟨w1 i hlt, Wt (i + 1) (items.length - (i + 1)), fun H' h => ⟨_, by omega, h⟩, fun x H' hy => ?_⟩
    obtain ⟨hsm, d, hd, hrx⟩ := w3 i x H' hlt hy
    have hdrop : items.drop i = d :: items.drop (i + 1) := by
      have e := List.drop_eq_getElem_cons hlt
      rw [e]
      have : items[i] = d := by
        have := List.getElem?_eq_getElem hlt
        rw [this] at hd
        exact Option.some.inj hd
      rw [this]
    rw [hdrop] at hrest
    have hwr' : C.WR H' mi := Cfg.stay hwr hsm
    have hex' : ∀ a o, H2 a = some o → ¬ C.F a → H' a = some o := fun a o e n => hsm a o (hex a o e n)
    have hDn' : H' Dn = some (.lst vs) := hsm _ _ hDn
    have hv' : Vw C O' H' mi := vw hex' hwr' (by rw [hDn']; exact fun z => by cases z)
    have hso : Same (hide O H2) (hide O' H') := same_hide fun a o h1 h2 => ⟨(fun z => z.elim h1 fun e => ne_of_none h2 hD e), hex' a o h2 fun z => h1 (hv.sub a z)⟩
    have ho' : VOk C.K (hide O' H') (wipe σ (own.map (·.2))) use (wipeS sl (own.map (·.2))) := (ho.mono (RLe.of hso)).wipe _
    have hra' : RepAll C.K (hide O' H') vs acc := hra.mono (RLe.of (same_hide fun a o h1 h2 => ⟨h1, hsm a o h2⟩))
    -- what the body does
    unfold compL at hrest
    cases hb : body d mi with
    | none => rw [hb] at hrest; cases hrest
    | some p =>
      obtain ⟨ob, m3⟩ := p
      rw [hb] at hrest
      rw [← hbody] at hb
      simp only at hb
      split at hb
      · rename_i sl1 hst
        refine gTg_ok (G := hide O' H') (fun σ' sl' => VOk C.K (hide O' H') σ' use sl' ∧ wipe σ' (own.map (·.2)) = wipe σ (own.map (·.2))) (fun σ' sl' j v d hj p r => ⟨p.1.set r, by rw [wipe_set (hs j hj)]; exact p.2⟩)
          ⟨ho', by
            have ww : ∀ (l : List Nat) (τ : L2.St), wipe (wipe τ l) l = wipe τ l := by
              intro l τ
              apply List.ext_getElem?
              intro q
              by_cases hq : q ∈ l
              · have aux : ∀ (τ : L2.St) (l : List Nat), q ∈ l → (wipe τ l)[q]? = if q < τ.length then some none else none := by
                  intro τ l
                  induction l with
                  | nil => intro h; simp at h
                  | cons u us ih =>
                    intro h
                    unfold wipe
                    by_cases hu : u = q
                    · subst hu
                      by_cases hl : u < τ.length
                      · rw [List.getElem?_set_self (by rw [wipe_length]; exact hl), if_pos hl]
                      · rw [List.getElem?_eq_none (by rw [List.length_set, wipe_length]; omega), if_neg hl]
                    · rw [List.getElem?_set_ne hu]
                      exact ih ((List.mem_cons.mp h).resolve_left fun z => hu z.symm)
                rw [aux _ _ hq, aux _ _ hq, wipe_length]
              · rw [wipe_out hq]
            exact ww _ _⟩ hrx (RLe.of hide_same) hst fun σ1 hp => ?_
        obtain ⟨ho1, hwp⟩ := hp
        refine ⟨hwp, ?_⟩
        split at hb
        · rename_i m4 hand
          split at hb
          · rename_i r m5 helt
            simp only [Option.some.injEq, Prod.mk.injEq] at hb
            obtain ⟨rfl, rfl⟩ := hb
            refine ⟨O', sl1, mi, true, m4, hv', ho1, hand, fun H3 e3 wr3 => ?_⟩
            refine iteT ?_
            have hv3 : Vw C O' H3 m4 := hv'.ext e3 wr3
            refine ⟨O', sl1, m4, r, m5, hv3, ho1.ext hv' e3, helt, fun y H4 p4 => ?_⟩
            have hDn4 : H4 Dn = some (.lst vs) := p4.ext _ _ (e3 _ _ hDn' hFD) hFD
            refine ⟨vs, hDn4, ?_, ?_⟩
            · have : sizeLine = 16777216 := by decide
              omega
            · simp only at hrest
              split at hrest
              · rename_i ys2 m6 hr2
                simp only [Option.some.injEq, Prod.mk.injEq] at hrest
                obtain ⟨rfl, rfl⟩ := hrest
                refine ⟨rfl, hlt, acc ++ [r.d], vs ++ [y], m5, ys2, upd_same, ?_, ?_, ?_, ?_, hr2, ?_⟩
                · have g4 : Same (hide O' H4) (hide O' (upd H4 Dn (.lst (vs ++ [y])))) := same_hide fun a o h1 h2 => ⟨h1, by rw [upd_ne (fun z => h1 (.inr z))]; exact h2⟩
                  have g34 : Same (hide O' H') (hide O' H4) := (e3.trans p4.ext).hide hO'F
                  exact (hra'.mono (RLe.of (g34.trans g4))).append (.one ((p4.rep.rep hv3).mono (RLe.of g4)))
                · rw [List.length_append, List.length_singleton]; omega
                · intro a o e nf
                  rw [upd_ne (ne_of_none e hD)]
                  exact p4.ext a o (e3 a o (hex' a o e nf) nf) nf
                · exact C.loc H4 _ _ (fun a ha => upd_ne (fun z => hFD (z ▸ ha))) p4.wr
                · rw [hys, List.append_assoc]; rfl
              · cases hrest
          · cases hb
        · rename_i m4 hand
          simp only [Option.some.injEq, Prod.mk.injEq] at hb
          obtain ⟨rfl, rfl⟩ := hb
          refine ⟨O', sl1, mi, false, _, hv', ho1, hand, fun H3 e3 wr3 => ?_⟩
          refine iteF ?_
          refine ⟨rfl, hlt, acc, vs, _, ys', e3 _ _ hDn' hFD, hra'.mono (RLe.of (e3.hide hO'F)), by omega, fun a o e nf => e3 a o (hex' a o e nf) nf, wr3, hrest, hys⟩
        · cases hb
      · cases hb
  · have e : i = items.length := by omega
    subst e
    refine .inl ⟨w2, k H ⟨hex, ?_, ⟨Dn, rfl, hD, vs, hDn, ?_⟩⟩⟩
    · rw [List.drop_length] at hrest
      simp only [compL, Option.some.injEq, Prod.mk.injEq] at hrest
      rw [← hrest.2]
      exact hwr
    · rw [List.drop_length] at hrest
      simp only [compL, Option.some.injEq, Prod.mk.injEq] at hrest
      rw [hys, ← hrest.1, List.append_nil]
      exact hra

/-- a comprehension's reading -/
theorem comp_rd {own : List (Str × Nat)} {it : ItR} {ix : Xs W} {tg : Tg} {cs : Xs W} {elt : Xp W} {σ : L2.St} {H : Hp} {Q : VK} (hs : ∀ i ∈ tg.slots, i ∈ own.map (·.2)) (q : tE C use (.comp own it ix tg cs elt) σ H Q) :
    tLc (fun σ H Rk => tArgs (tEs C use ix) σ H fun vs H1 => ∃ O ds items, (∀ a, O a → H1 a ≠ none) ∧ RepAll C.K (hide O H1) vs ds ∧ it.sem ds = some items ∧ ∀ J H2, Same H1 H2 → ItW C.K O H2 J items → Rk J H2) (gTg C.K tg) (tAnd' C use cs) (tE C use elt) (own.map (·.2)) σ H Q := by
  obtain ⟨O, sl, m, r', m', hw, ho, he, k⟩ := q
  unfold ev at he
  split at he
  · rename_i ds m1 he1
    split at he
    · rename_i items he2
      split at he
      · rename_i hlen
        split at he
        · rename_i ys m2 he3
          simp only [Option.some.injEq, Prod.mk.injEq] at he
          obtain ⟨rfl, rfl⟩ := he
          refine args_ev ix hw ho he1 fun vs H1 e1 w1 r1 => ?_
          have hw1 := hw.ext e1 w1
          refine ⟨O, ds, items, hw1.dom, r1, he2, fun J H2 hsm hit Dn hDn => ?_⟩
          have hw2 := hw1.same hsm
          exact comp_turns (hw2) ((ho.ext hw e1).ext hw1 (Ext.of hsm)) hlen hs he3 hit hDn fun H' p => k _ _ (p.back (e1.trans (Ext.of hsm)) hw2 fun a ha => (e1.trans (Ext.of hsm)).none hw2.wr ha)
        · cases he
      · cases he
    · cases he
  · cases he

theorem RuleOk0.up {r : Rl W} (h : RuleOk0 C lvl r) : RuleOk C lvl r := by
  intro X N sc top hX e es use xs hes h1 h2
  refine (h X N sc top hX e es _ hes h1 h2).mono fun σ H Q q => ?_
  obtain ⟨O, sl, m, r', m', hw, ho, he, k⟩ := q
  unfold ev at he
  split at he
  · rename_i ds m1 h1
    refine args_ev xs hw ho h1 fun vs H1 e1 w1 r1 => ?_
    have hw1 := hw.ext e1 w1
    exact ⟨O, ds, m1, r', m', hw1, r1, he, fun v H' p => k v H' (p.back e1 hw1 fun a ha => e1.none w1 ha)⟩
  · cases he

mutual
theorem ev_pe : ∀ (x : Xp W) {N : List Str} {sc : Scope} {top : Bool} {X : Cx} {e : Expr}, CtxOk C lvl N sc top X → x.ok C lvl → chk N sc e x = true → PE X e (tE C use x)
  | .var i, N, sc, top, X, e, hX, hr, hc => pe_varE hX hc
  | .con d, N, sc, top, X, e, hX, hr, hc => by
    cases e with
    | Constant c k p =>
      simp only [chk] at hc
      exact pe_con hc
    | _ => simp [chk] at hc
  | .app r xs, N, sc, top, X, e, hX, hr, hc => by
    simp only [chk, Bool.and_eq_true] at hc
    obtain ⟨hp, hc⟩ := hc
    split at hc
    · rename_i es hes
      obtain ⟨h1, h2⟩ := evs_pe xs hX hr.2 hc
      exact hr.1 X N sc top hX e es use xs hes h1 h2
    · cases hc
  | .cmp c a b, N, sc, top, X, e, hX, hr, hc => by
    unfold chk at hc
    split at hc
    · rename_i l op r p
      simp only [Bool.and_eq_true, Bool.not_eq_true', decide_eq_true_eq] at hc
      obtain ⟨⟨⟨rfl, hm⟩, ha⟩, hb⟩ := hc
      refine (pe_cmpR (hr.1 X N sc top hX) (ev_pe a hX hr.2.1 ha) (ev_pe b hX hr.2.2 hb) hm).mono fun σ H Q q => ?_
      obtain ⟨O, sl, m, r', m', hw, ho, he, k⟩ := q
      unfold ev at he
      split at he
      · rename_i ra m1 h1
        split at he
        · rename_i rb m2 h2
          split at he
          · rename_i kk hk
            simp only [Option.some.injEq, Prod.mk.injEq] at he
            obtain ⟨rfl, rfl⟩ := he
            refine ⟨O, sl, m, ra, m1, hw, ho, h1, fun x H1 p1 => ?_⟩
            refine ⟨O, sl, m1, rb, m2, p1.step hw, ho.ext hw p1.ext, h2, fun y H2 p2 => ?_⟩
            refine ⟨ra.d, rb.d, kk, ?_, ?_, hk, ?_⟩
            · exact ((p1.rep.rep hw).mono (RLe.of (p2.ext.hide hw.sub))).mono (RLe.of hide_same)
            · exact (p2.rep.rep (p1.step hw)).mono (RLe.of hide_same)
            · exact k _ _ ⟨p1.ext.trans p2.ext, p2.wr, .bl kk⟩
          · cases he
        · cases he
      · cases he
    · cases hc
  | .and xs, N, sc, top, X, e, hX, hr, hc => by
    unfold chk at hc
    split at hc
    · rename_i es p
      split at hc
      · cases hc
      · rename_i e1 es1
        refine (and_pe xs (p := p) hX hr hc).mono fun σ H Q q => ?_
        obtain ⟨O, sl, m, r', m', hw, ho, he, k⟩ := q
        unfold ev at he
        split at he
        · rename_i b m1 h1
          simp only [Option.some.injEq, Prod.mk.injEq] at he
          obtain ⟨rfl, rfl⟩ := he
          exact ⟨O, sl, m, b, _, hw, ho, h1, fun H' e' w' => k _ _ ⟨e', w', .bl b⟩⟩
        · cases he
    · cases hc
  | .or xs, N, sc, top, X, e, hX, hr, hc => by
    unfold chk at hc
    split at hc
    · rename_i es p
      split at hc
      · cases hc
      · rename_i e1 es1
        refine (or_pe xs (p := p) hX hr hc).mono fun σ H Q q => ?_
        obtain ⟨O, sl, m, r', m', hw, ho, he, k⟩ := q
        unfold ev at he
        split at he
        · rename_i b m1 h1
          simp only [Option.some.injEq, Prod.mk.injEq] at he
          obtain ⟨rfl, rfl⟩ := he
          exact ⟨O, sl, m, b, _, hw, ho, h1, fun H' e' w' => k _ _ ⟨e', w', .bl b⟩⟩
        · cases he
    · cases hc
  | .not x, N, sc, top, X, e, hX, hr, hc => by
    unfold chk at hc
    split at hc
    · rename_i a p
      refine (pe_not (ev_pe x hX hr hc)).mono fun σ H Q q => ?_
      obtain ⟨O, sl, m, r', m', hw, ho, he, k⟩ := q
      unfold ev at he
      split at he
      · rename_i b m1 h1
        simp only [Option.some.injEq, Prod.mk.injEq] at he
        obtain ⟨rfl, rfl⟩ := he
        refine ⟨O, sl, m, _, _, hw, ho, h1, fun v H1 p1 => ?_⟩
        exact ⟨b, (p1.rep.rep hw).val_bl, k _ _ ⟨p1.ext, p1.wr, .bl (!b)⟩⟩
      · cases he
    · cases hc
  | .ife c a b, N, sc, top, X, e, hX, hr, hc => by
    unfold chk at hc
    split at hc
    · rename_i c' a' b' p
      simp only [Bool.and_eq_true] at hc
      refine (pe_ifExp (ev_pt c hX hr.1 hc.1.1) (ev_pe a hX hr.2.1 hc.1.2) (ev_pe b hX hr.2.2 hc.2)).mono fun σ H Q q => ?_
      obtain ⟨O, sl, m, r', m', hw, ho, he, k⟩ := q
      unfold ev at he
      split at he
      · rename_i m1 h1
        refine ⟨O, sl, m, true, m1, hw, ho, h1, fun H1 e1 w1 => ?_⟩
        refine iteT ?_
        have hw1 := hw.ext e1 w1
        exact ⟨O, sl, m1, r', m', hw1, ho.ext hw e1, he, fun v H' p => k v H' (p.back e1 hw1 fun a ha => e1.none w1 ha)⟩
      · rename_i m1 h1
        refine ⟨O, sl, m, false, m1, hw, ho, h1, fun H1 e1 w1 => ?_⟩
        refine iteF ?_
        have hw1 := hw.ext e1 w1
        exact ⟨O, sl, m1, r', m', hw1, ho.ext hw e1, he, fun v H' p => k v H' (p.back e1 hw1 fun a ha => e1.none w1 ha)⟩
      · cases he
    · cases hc
  | .comp own it ix tg cs elt, N, sc, top, X, e, hX, hr, hc => by
    unfold chk at hc
    split at hc
    · rename_i el tge iter ifs scope p
      simp only [Bool.and_eq_true, decide_eq_true_eq] at hc
      obtain ⟨⟨⟨⟨⟨⟨hb, hi⟩, ht⟩, hs⟩, hl⟩, hcs⟩, hel⟩ := hc
      split at hi
      · rename_i es hes
        obtain ⟨h1, h2⟩ := evs_pe ix hX hr.2.1 hi
        obtain ⟨hpi, hfs⟩ := hr.1 X N sc top hX tge iter es _ hes h1 h2
        refine (pe_lc (own := own) (g := gTg C.K tg) (tt := tAnd' C use cs) (te := tE C use elt) hX.calm (by rw [hX.hN]; exact hX.nd) hpi (by rw [hX.hN, hX.hsc]; exact blkOk_by hb)
          (fun s H Ca cl fp => by rw [← hX.K]; exact pg_tg (hX.blk s H scope Ca cl fp (blkOk_by hb).kind) ht) (fun s H Ca cl fp => pts_pe cs (hX.blk s H scope Ca cl fp (blkOk_by hb).kind) hr.2.2.1 hl hcs) (fun s H Ca cl fp => ev_pe elt (hX.blk s H scope Ca cl fp (blkOk_by hb).kind) hr.2.2.2 hel) hfs).mono fun σ H Q q => ?_
        exact comp_rd (fun i hi => by simpa using (List.all_eq_true.mp hs) i hi) q
      · cases hi
    · cases hc
theorem ev_pt : ∀ (x : Xp W) {N : List Str} {sc : Scope} {top : Bool} {X : Cx} {e : Expr}, CtxOk C lvl N sc top X → x.ok C lvl → chk N sc e x = true → PT X e (tT C use x)
  | .var i, N, sc, top, X, e, hX, hr, hc => by
    have hp : plain e = true := by
      cases e <;> first | rfl | (simp [chk] at hc)
    refine (pt_val (pe_varE (use := use) hX hc) (isTrue_plain' hp X.env)).mono fun σ H Q q => ?_
    obtain ⟨O, sl, m, b, m', hw, ho, he, k⟩ := q
    exact ⟨O, sl, m, _, m', hw, ho, he, fun v H' p => ⟨b, (p.rep.rep hw).val_bl, k H' p.ext p.wr⟩⟩
  | .con d, N, sc, top, X, e, hX, hr, hc => by
    have hp : plain e = true := by
      cases e <;> first | rfl | (simp [chk] at hc)
    have hpe : PE X e (tE C use (.con d)) := by
      cases e with
      | Constant c k p =>
        simp only [chk] at hc
        exact pe_con hc
      | _ => simp [chk] at hc
    refine (pt_val hpe (isTrue_plain' hp X.env)).mono fun σ H Q q => ?_
    obtain ⟨O, sl, m, b, m', hw, ho, he, k⟩ := q
    exact ⟨O, sl, m, _, m', hw, ho, he, fun v H' p => ⟨b, (p.rep.rep hw).val_bl, k H' p.ext p.wr⟩⟩
  | .app r xs, N, sc, top, X, e, hX, hr, hc => by
    have hp : plain e = true := by
      simp only [chk, Bool.and_eq_true] at hc
      exact hc.1
    have hpe : PE X e (tE C use (.app r xs)) := by
      simp only [chk, Bool.and_eq_true] at hc
      obtain ⟨hp, hc⟩ := hc
      split at hc
      · rename_i es hes
        obtain ⟨h1, h2⟩ := evs_pe xs hX hr.2 hc
        exact hr.1 X N sc top hX e es use xs hes h1 h2
      · cases hc
    refine (pt_val hpe (isTrue_plain' hp X.env)).mono fun σ H Q q => ?_
    obtain ⟨O, sl, m, b, m', hw, ho, he, k⟩ := q
    exact ⟨O, sl, m, _, m', hw, ho, he, fun v H' p => ⟨b, (p.rep.rep hw).val_bl, k H' p.ext p.wr⟩⟩
  | .cmp c a b, N, sc, top, X, e, hX, hr, hc => by
    unfold chk at hc
    split at hc
    · rename_i l op r p
      simp only [Bool.and_eq_true, Bool.not_eq_true', decide_eq_true_eq] at hc
      obtain ⟨⟨⟨rfl, hm⟩, ha⟩, hb⟩ := hc
      refine (pt_cmpR (hr.1 X N sc top hX) (ev_pe a hX hr.2.1 ha) (ev_pe b hX hr.2.2 hb) hm).mono fun σ H Q q => ?_
      obtain ⟨O, sl, m, b', m', hw, ho, he, k⟩ := q
      unfold ev at he
      split at he
      · rename_i ra m1 h1
        split at he
        · rename_i rb m2 h2
          split at he
          · rename_i kk hk
            simp only [Option.some.injEq, Prod.mk.injEq, R.val.injEq, D.bl.injEq] at he
            obtain ⟨rfl, rfl⟩ := he
            refine ⟨O, sl, m, ra, m1, hw, ho, h1, fun x H1 p1 => ?_⟩
            refine ⟨O, sl, m1, rb, m2, p1.step hw, ho.ext hw p1.ext, h2, fun y H2 p2 => ?_⟩
            refine ⟨ra.d, rb.d, kk, ?_, ?_, hk, kk, rfl, ?_⟩
            · exact ((p1.rep.rep hw).mono (RLe.of (p2.ext.hide hw.sub))).mono (RLe.of hide_same)
            · exact (p2.rep.rep (p1.step hw)).mono (RLe.of hide_same)
            · exact k _ (p1.ext.trans p2.ext) p2.wr
          · cases he
        · cases he
      · cases he
    · cases hc
  | .and xs, N, sc, top, X, e, hX, hr, hc => by
    unfold chk at hc
    split at hc
    · rename_i es p
      split at hc
      · cases hc
      · rename_i e1 es1
        refine (and_pw xs (p := p) hX hr hc).pt.mono fun σ H Q q => ?_
        obtain ⟨O, sl, m, b, m', hw, ho, he, k⟩ := q
        unfold ev at he
        split at he
        · rename_i b' m1 h1
          simp only [Option.some.injEq, Prod.mk.injEq, R.val.injEq, D.bl.injEq] at he
          obtain ⟨rfl, rfl⟩ := he
          exact ⟨O, sl, m, b', _, hw, ho, h1, k⟩
        · cases he
    · cases hc
  | .or xs, N, sc, top, X, e, hX, hr, hc => by
    unfold chk at hc
    split at hc
    · rename_i es p
      split at hc
      · cases hc
      · rename_i e1 es1
        refine (or_pw xs (p := p) hX hr hc).pt.mono fun σ H Q q => ?_
        obtain ⟨O, sl, m, b, m', hw, ho, he, k⟩ := q
        unfold ev at he
        split at he
        · rename_i b' m1 h1
          simp only [Option.some.injEq, Prod.mk.injEq, R.val.injEq, D.bl.injEq] at he
          obtain ⟨rfl, rfl⟩ := he
          exact ⟨O, sl, m, b', _, hw, ho, h1, k⟩
        · cases he
    · cases hc
  | .not x, N, sc, top, X, e, hX, hr, hc => by
    unfold chk at hc
    split at hc
    · rename_i a p
      refine (pt_not (ev_pt x hX hr hc)).mono fun σ H Q q => ?_
      obtain ⟨O, sl, m, b, m', hw, ho, he, k⟩ := q
      unfold ev at he
      split at he
      · rename_i b' m1 h1
        simp only [Option.some.injEq, Prod.mk.injEq, R.val.injEq, D.bl.injEq] at he
        obtain ⟨rfl, rfl⟩ := he
        exact ⟨O, sl, m, b', _, hw, ho, h1, fun H' e' w' => k H' e' w'⟩
      · cases he
    · cases hc
  | .ife c a b, N, sc, top, X, e, hX, hr, hc => by
    unfold chk at hc
    split at hc
    · rename_i c' a' b' p
      simp only [Bool.and_eq_true] at hc
      refine (pt_ife (ev_pt c hX hr.1 hc.1.1) (ev_pt a hX hr.2.1 hc.1.2) (ev_pt b hX hr.2.2 hc.2)).mono fun σ H Q q => ?_
      obtain ⟨O, sl, m, r', m', hw, ho, he, k⟩ := q
      unfold ev at he
      split at he
      · rename_i m1 h1
        refine ⟨O, sl, m, true, m1, hw, ho, h1, fun H1 e1 w1 => ?_⟩
        refine iteT ?_
        have hw1 := hw.ext e1 w1
        exact ⟨O, sl, m1, r', m', hw1, ho.ext hw e1, he, fun H' e' w' => k H' (e1.trans e') w'⟩
      · rename_i m1 h1
        refine ⟨O, sl, m, false, m1, hw, ho, h1, fun H1 e1 w1 => ?_⟩
        refine iteF ?_
        have hw1 := hw.ext e1 w1
        exact ⟨O, sl, m1, r', m', hw1, ho.ext hw e1, he, fun H' e' w' => k H' (e1.trans e') w'⟩
      · cases he
    · cases hc
  | .comp own it ix tg cs elt, N, sc, top, X, e, hX, hr, hc => by
    refine ⟨fun pins s σ H Q I q => ?_⟩
    obtain ⟨O, sl, m, b, m', hw, ho, he, k⟩ := q
    unfold ev at he
    repeat (split at he)
    all_goals first | (cases he; done) | (simp at he; done)
theorem evs_pe : ∀ (xs : Xs W) {N : List Str} {sc : Scope} {top : Bool} {X : Cx} {es : List Expr}, CtxOk C lvl N sc top X → xs.ok C lvl → chks N sc es xs = true → PEs X es (tEs C use xs) ∧ es.all notStar = true
  | .nil, N, sc, top, X, es, hX, hr, hc => by
    cases es with
    | nil => exact ⟨.nil, rfl⟩
    | cons e es => simp [chks] at hc
  | .cons x xs, N, sc, top, X, es, hX, hr, hc => by
    cases es with
    | nil => simp [chks] at hc
    | cons e es =>
      simp only [chks, Bool.and_eq_true] at hc
      obtain ⟨h1, h2⟩ := evs_pe xs hX hr.2 hc.2
      refine ⟨.cons (ev_pe x hX hr.1 hc.1) (tE_mono C use x) h1, ?_⟩
      rw [List.all_cons, h2, Bool.and_true]
      have hc1 := hc.1
      cases e with
      | Starred a p => cases x <;> simp [chk, plain] at hc1
      | _ => rfl
theorem pts_pe : ∀ (xs : Xs W) {N : List Str} {sc : Scope} {top : Bool} {X : Cx} {es : List Expr}, CtxOk C lvl N sc top X → xs.ok C lvl → es.length ≤ 1 → chks N sc es xs = true → PTs X es (tAnd' C use xs)
  | .nil, N, sc, top, X, es, hX, hr, hl, hc => by
    cases es with
    | nil =>
      refine pts_nil.mono fun σ H Q q => ?_
      obtain ⟨O, sl, m, b, m', hw, ho, he, k⟩ := q
      simp only [evAnd, Option.some.injEq, Prod.mk.injEq] at he
      obtain ⟨rfl, rfl⟩ := he
      exact k H Ext.refl hw.wr
    | cons e es => simp [chks] at hc
  | .cons x xs, N, sc, top, X, es, hX, hr, hl, hc => by
    cases es with
    | nil => simp [chks] at hc
    | cons e es =>
      cases es with
      | cons e2 es2 => simp at hl
      | nil =>
        simp only [chks, Bool.and_eq_true] at hc
        refine (pts_one (ev_pt x hX hr.1 hc.1)).mono fun σ H Q q => ?_
        obtain ⟨O, sl, m, b, m', hw, ho, he, k⟩ := q
        have hx : xs = .nil := by
          cases xs with
          | nil => rfl
          | cons y ys => simp [chks] at hc
        subst hx
        unfold evAnd at he
        split at he
        · rename_i m1 h1
          simp only [evAnd, Option.some.injEq, Prod.mk.injEq] at he
          obtain ⟨rfl, rfl⟩ := he
          exact ⟨O, sl, m, true, _, hw, ho, h1, k⟩
        · rename_i m1 h1
          simp only [Option.some.injEq, Prod.mk.injEq] at he
          obtain ⟨rfl, rfl⟩ := he
          exact ⟨O, sl, m, false, _, hw, ho, h1, k⟩
        · cases he
theorem and_pw : ∀ (xs : Xs W) {N : List Str} {sc : Scope} {top : Bool} {X : Cx} {e : Expr} {es : List Expr} {p : Pos}, CtxOk C lvl N sc top X → xs.ok C lvl → chks N sc (e :: es) xs = true → PW X (.BoolOp .And (e :: es) p) (tAnd' C use xs)
  | .nil, N, sc, top, X, e, es, p, hX, hr, hc => by simp [chks] at hc
  | .cons x xs, N, sc, top, X, e, es, p, hX, hr, hc => by
    simp only [chks, Bool.and_eq_true] at hc
    cases es with
    | nil =>
      have hx : xs = .nil := by
        cases xs with
        | nil => rfl
        | cons y ys => simp [chks] at hc
      subst hx
      refine (pw_and1 (ev_pt x hX hr.1 hc.1)).mono fun σ H Q q => ?_
      obtain ⟨O, sl, m, b, m', hw, ho, he, k⟩ := q
      unfold evAnd at he
      split at he
      · rename_i m1 h1
        simp only [evAnd, Option.some.injEq, Prod.mk.injEq] at he
        obtain ⟨rfl, rfl⟩ := he
        exact ⟨O, sl, m, true, _, hw, ho, h1, k⟩
      · rename_i m1 h1
        simp only [Option.some.injEq, Prod.mk.injEq] at he
        obtain ⟨rfl, rfl⟩ := he
        exact ⟨O, sl, m, false, _, hw, ho, h1, k⟩
      · cases he
    | cons e2 es2 =>
      refine (pw_and (ev_pt x hX hr.1 hc.1) (and_pw xs (p := p) hX hr.2 hc.2)).mono fun σ H Q q => ?_
      obtain ⟨O, sl, m, b, m', hw, ho, he, k⟩ := q
      unfold evAnd at he
      split at he
      · rename_i m1 h1
        refine ⟨O, sl, m, true, m1, hw, ho, h1, fun H1 e1 w1 => ?_⟩
        refine iteT ?_
        exact ⟨O, sl, m1, b, m', hw.ext e1 w1, ho.ext hw e1, he, fun H' e' w' => k H' (e1.trans e') w'⟩
      · rename_i m1 h1
        simp only [Option.some.injEq, Prod.mk.injEq] at he
        obtain ⟨rfl, rfl⟩ := he
        refine ⟨O, sl, m, false, _, hw, ho, h1, fun H1 e1 w1 => ?_⟩
        refine iteF ?_
        exact k H1 e1 w1
      · cases he
theorem or_pw : ∀ (xs : Xs W) {N : List Str} {sc : Scope} {top : Bool} {X : Cx} {e : Expr} {es : List Expr} {p : Pos}, CtxOk C lvl N sc top X → xs.ok C lvl → chks N sc (e :: es) xs = true → PW X (.BoolOp .Or (e :: es) p) (tOr' C use xs)
  | .nil, N, sc, top, X, e, es, p, hX, hr, hc => by simp [chks] at hc
  | .cons x xs, N, sc, top, X, e, es, p, hX, hr, hc => by
    simp only [chks, Bool.and_eq_true] at hc
    cases es with
    | nil =>
      have hx : xs = .nil := by
        cases xs with
        | nil => rfl
        | cons y ys => simp [chks] at hc
      subst hx
      refine (pw_or1 (ev_pt x hX hr.1 hc.1)).mono fun σ H Q q => ?_
      obtain ⟨O, sl, m, b, m', hw, ho, he, k⟩ := q
      unfold evOr at he
      split at he
      · rename_i m1 h1
        simp only [evOr, Option.some.injEq, Prod.mk.injEq] at he
        obtain ⟨rfl, rfl⟩ := he
        exact ⟨O, sl, m, false, _, hw, ho, h1, k⟩
      · rename_i m1 h1
        simp only [Option.some.injEq, Prod.mk.injEq] at he
        obtain ⟨rfl, rfl⟩ := he
        exact ⟨O, sl, m, true, _, hw, ho, h1, k⟩
      · cases he
    | cons e2 es2 =>
      refine (pw_or (ev_pt x hX hr.1 hc.1) (or_pw xs (p := p) hX hr.2 hc.2)).mono fun σ H Q q => ?_
      obtain ⟨O, sl, m, b, m', hw, ho, he, k⟩ := q
      unfold evOr at he
      split at he
      · rename_i m1 h1
        refine ⟨O, sl, m, false, m1, hw, ho, h1, fun H1 e1 w1 => ?_⟩
        refine iteF ?_
        exact ⟨O, sl, m1, b, m', hw.ext e1 w1, ho.ext hw e1, he, fun H' e' w' => k H' (e1.trans e') w'⟩
      · rename_i m1 h1
        simp only [Option.some.injEq, Prod.mk.injEq] at he
        obtain ⟨rfl, rfl⟩ := he
        refine ⟨O, sl, m, true, _, hw, ho, h1, fun H1 e1 w1 => ?_⟩
        refine iteT ?_
        exact k H1 e1 w1
      · cases he
theorem and_pe : ∀ (xs : Xs W) {N : List Str} {sc : Scope} {top : Bool} {X : Cx} {e : Expr} {es : List Expr} {p : Pos}, CtxOk C lvl N sc top X → xs.ok C lvl → chks N sc (e :: es) xs = true → PE X (.BoolOp .And (e :: es) p) (fun σ H Q => tAnd' C use xs σ H fun b H' => Q (.bl b) H')
  | .nil, N, sc, top, X, e, es, p, hX, hr, hc => by simp [chks] at hc
  | .cons x xs, N, sc, top, X, e, es, p, hX, hr, hc => by
    simp only [chks, Bool.and_eq_true] at hc
    cases es with
    | nil =>
      have hx : xs = .nil := by
        cases xs with
        | nil => rfl
        | cons y ys => simp [chks] at hc
      subst hx
      refine (L2.pe_one (ev_pe x hX hr.1 hc.1)).mono fun σ H Q q => ?_
      obtain ⟨O, sl, m, b, m', hw, ho, he, k⟩ := q
      unfold evAnd at he
      split at he
      · rename_i m1 h1
        simp only [evAnd, Option.some.injEq, Prod.mk.injEq] at he
        obtain ⟨rfl, rfl⟩ := he
        exact ⟨O, sl, m, _, _, hw, ho, h1, fun v H' pp => by rw [(pp.rep.rep hw).val_bl]; exact k H' pp.ext pp.wr⟩
      · rename_i m1 h1
        simp only [Option.some.injEq, Prod.mk.injEq] at he
        obtain ⟨rfl, rfl⟩ := he
        exact ⟨O, sl, m, _, _, hw, ho, h1, fun v H' pp => by rw [(pp.rep.rep hw).val_bl]; exact k H' pp.ext pp.wr⟩
      · cases he
    | cons e2 es2 =>
      refine (pe_and (ev_pe x hX hr.1 hc.1) (and_pe xs (p := p) hX hr.2 hc.2)).mono fun σ H Q q => ?_
      obtain ⟨O, sl, m, b, m', hw, ho, he, k⟩ := q
      unfold evAnd at he
      split at he
      · rename_i m1 h1
        refine ⟨O, sl, m, _, m1, hw, ho, h1, fun v H1 pp => ⟨true, (pp.rep.rep hw).val_bl, ?_⟩⟩
        refine iteT ?_
        exact ⟨O, sl, m1, b, m', pp.step hw, ho.ext hw pp.ext, he, fun H' e' w' => k H' (pp.ext.trans e') w'⟩
      · rename_i m1 h1
        simp only [Option.some.injEq, Prod.mk.injEq] at he
        obtain ⟨rfl, rfl⟩ := he
        refine ⟨O, sl, m, _, _, hw, ho, h1, fun v H1 pp => ⟨false, (pp.rep.rep hw).val_bl, ?_⟩⟩
        refine iteF ?_
        exact k H1 pp.ext pp.wr
      · cases he
theorem or_pe : ∀ (xs : Xs W) {N : List Str} {sc : Scope} {top : Bool} {X : Cx} {e : Expr} {es : List Expr} {p : Pos}, CtxOk C lvl N sc top X → xs.ok C lvl → chks N sc (e :: es) xs = true → PE X (.BoolOp .Or (e :: es) p) (fun σ H Q => tOr' C use xs σ H fun b H' => Q (.bl b) H')
  | .nil, N, sc, top, X, e, es, p, hX, hr, hc => by simp [chks] at hc
  | .cons x xs, N, sc, top, X, e, es, p, hX, hr, hc => by
    simp only [chks, Bool.and_eq_true] at hc
    cases es with
    | nil =>
      have hx : xs = .nil := by
        cases xs with
        | nil => rfl
        | cons y ys => simp [chks] at hc
      subst hx
      refine (L2.pe_one (ev_pe x hX hr.1 hc.1)).mono fun σ H Q q => ?_
      obtain ⟨O, sl, m, b, m', hw, ho, he, k⟩ := q
      unfold evOr at he
      split at he
      · rename_i m1 h1
        simp only [evOr, Option.some.injEq, Prod.mk.injEq] at he
        obtain ⟨rfl, rfl⟩ := he
        exact ⟨O, sl, m, _, _, hw, ho, h1, fun v H' pp => by rw [(pp.rep.rep hw).val_bl]; exact k H' pp.ext pp.wr⟩
      · rename_i m1 h1
        simp only [Option.some.injEq, Prod.mk.injEq] at he
        obtain ⟨rfl, rfl⟩ := he
        exact ⟨O, sl, m, _, _, hw, ho, h1, fun v H' pp => by rw [(pp.rep.rep hw).val_bl]; exact k H' pp.ext pp.wr⟩
      · cases he
    | cons e2 es2 =>
      refine (pe_or (ev_pe x hX hr.1 hc.1) (or_pe xs (p := p) hX hr.2 hc.2)).mono fun σ H Q q => ?_
      obtain ⟨O, sl, m, b, m', hw, ho, he, k⟩ := q
      unfold evOr at he
      split at he
      · rename_i m1 h1
        refine ⟨O, sl, m, _, m1, hw, ho, h1, fun v H1 pp => ⟨false, (pp.rep.rep hw).val_bl, ?_⟩⟩
        refine iteF ?_
        exact ⟨O, sl, m1, b, m', pp.step hw, ho.ext hw pp.ext, he, fun H' e' w' => k H' (pp.ext.trans e') w'⟩
      · rename_i m1 h1
        simp only [Option.some.injEq, Prod.mk.injEq] at he
        obtain ⟨rfl, rfl⟩ := he
        refine ⟨O, sl, m, _, _, hw, ho, h1, fun v H1 pp => ⟨true, (pp.rep.rep hw).val_bl, ?_⟩⟩
        refine iteT ?_
        exact k H1 pp.ext pp.wr
      · cases he
end
end
end Ev

set_option Elab.async false
set_option linter.all false
set_option maxRecDepth 100000
set_option maxHeartbeats 4000000
namespace Ev
open PySem PySem.Spec PyProof.Rows L2

/-! ### statements -/
/-- a statement that changes an object of our own: the slot's name, the operands; the content and the operands to the new content -/
structure MutR where
  form : Scope → Stmt → Option (Str × List Expr)
  sem : D → List D → Option D
/-- a statement that changes the world beside: the operands' forms; the operands and the world to the new world -/
structure WldR (W : Type) where
  form : Scope → Stmt → Option (List Expr)
  sem : List D → W → Option W
mutual
inductive Sm (W : Type) where
  | set (use : List Nat) (keep : Bool) (i : Nat) (e : Xp W)
  | asg (use : List Nat) (tg : Tg) (e : Xp W)
  | mut (r : MutR) (use : List Nat) (i : Nat) (xs : Xs W)
  | wst (r : WldR W) (use : List Nat) (xs : Xs W)
  | expr (use : List Nat) (e : Xp W)
  | ret (use : List Nat) (e : Xp W)
  | retv (i : Nat)
  | retN
  | iff (use : List Nat) (c : Xp W) (a b : Sms W)
  | forI (use : List Nat) (it : ItR) (xs : Xs W) (tg : Tg) (body : Sms W)
  | whl (use : List Nat) (c : Xp W) (body : Sms W)
  | brk | cnt | pas | never
inductive Sms (W : Type) where
  | nil
  | cons (s : Sm W) (ss : Sms W)
end
inductive Out (W : Type) where
  | nx (sl : List SV) (m : W)
  | rt (r : R) (m : W)
  | bk (sl : List SV) (m : W)
  | ct (sl : List SV) (m : W)
def frz1 (sl : List SV) (u : Nat) : List SV := match sl[u]? with | some (.own d) => sl.set u (.val d) | _ => sl
def freeze : List Nat → List SV → List SV
  | [], sl => sl
  | u :: us, sl => freeze us (frz1 sl u)
def commit (use : List Nat) (imm : Bool) (sl : List SV) : List SV := match use with | [] => sl | _ :: _ => bif imm then sl else freeze use sl
def R.sv : R → SV
  | .val d => .val d
  | .own d => .own d
def R.kp (b : Bool) (r : R) : R := bif b then r else .val r.d
def forL {W : Type} (tg : Tg) (body : List SV → W → Option (Out W)) : List D → List SV → W → Option (Out W)
  | [], sl, m => some (.nx sl m)
  | d :: ds, sl, m => match setTg tg sl d with
    | none => none
    | some sl1 => match body sl1 m with
      | some (.nx sl2 m2) => forL tg body ds sl2 m2
      | some (.ct sl2 m2) => forL tg body ds sl2 m2
      | some (.bk sl2 m2) => some (.nx sl2 m2)
      | some (.rt r m2) => some (.rt r m2)
      | none => none
def whlL {W : Type} (cond : List SV → W → Option (Bool × W)) (body : List SV → W → Option (Out W)) : Nat → List SV → W → Option (Out W)
  | 0, _, _ => none
  | n + 1, sl, m => match cond sl m with
    | some (true, m1) => (match body sl m1 with
      | some (.nx sl2 m2) => whlL cond body n sl2 m2
      | some (.ct sl2 m2) => whlL cond body n sl2 m2
      | some (.bk sl2 m2) => some (.nx sl2 m2)
      | some (.rt r m2) => some (.rt r m2)
      | none => none)
    | some (false, m1) => some (.nx sl m1)
    | none => none
def whlFuel : Nat := 1000000000000
def evB {W : Type} (use : List Nat) (c : Xp W) (sl : List SV) (m : W) : Option (Bool × W) := match ev use c sl m with | some (.val (.bl b), m1) => some (b, m1) | _ => none
mutual
def evS {W : Type} : Sm W → List SV → W → Option (Out W)
  | .set use keep i e, sl, m => match ev use e sl m with | some (r, m1) => some (.nx ((commit use (r.kp keep).imm sl).set i (r.kp keep).sv) m1) | none => none
  | .asg use tg e, sl, m => match ev use e sl m with
    | some (r, m1) => (match setTg tg (commit use r.d.imm sl) r.d with | some sl1 => some (.nx sl1 m1) | none => none)
    | none => none
  | .mut r use i xs, sl, m => match evs use xs sl m with
    | some (ds, m1) => (match (commit use (D.imms ds) sl)[i]? with
      | some (.own d) => (match r.sem d ds with | some d' => some (.nx ((commit use (D.imms ds) sl).set i (.own d')) m1) | none => none)
      | _ => none)
    | none => none
  | .wst r use xs, sl, m => match evs use xs sl m with
    | some (ds, m1) => (match r.sem ds m1 with | some m2 => some (.nx sl m2) | none => none)
    | none => none
  | .expr use e, sl, m => match ev use e sl m with | some (_, m1) => some (.nx sl m1) | none => none
  | .ret use e, sl, m => match ev use e sl m with | some (r, m1) => some (.rt r m1) | none => none
  | .retv i, sl, m => match sl[i]? with | some (.own d) => some (.rt (.own d) m) | some (.val d) => some (.rt (.val d) m) | _ => none
  | .retN, _, m => some (.rt (.val .non) m)
  | .iff use c a b, sl, m => match evB use c sl m with
    | some (true, m1) => evSs a sl m1
    | some (false, m1) => evSs b sl m1
    | none => none
  | .forI use it xs tg body, sl, m => match evs use xs sl m with
    | some (ds, m1) => (match it.sem ds with | some items => forL tg (evSs body) items (commit use (D.imms ds) sl) m1 | none => none)
    | none => none
  | .whl use c body, sl, m => whlL (evB use c) (evSs body) whlFuel sl m
  | .brk, sl, m => some (.bk sl m)
  | .cnt, sl, m => some (.ct sl m)
  | .pas, sl, m => some (.nx sl m)
  | .never, _, _ => none
def evSs {W : Type} : Sms W → List SV → W → Option (Out W)
  | .nil, sl, m => some (.nx sl m)
  | .cons s ss, sl, m => match evS s sl m with
    | some (.nx sl1 m1) => evSs ss sl1 m1
    | o => o
end

/-! ### the look -/
def noComp : Expr → Bool
  | .ListComp _ _ _ _ => false
  | .SetComp _ _ _ _ => false
  | .DictComp _ _ _ _ _ => false
  | _ => true
def notTuple : Expr → Bool
  | .Tuple _ _ _ => false
  | _ => true
def swOk (sc : Scope) (y : Str) (py : Pos) : Expr → Bool
  | .ListComp _ _ scope p => (match sc.names.lookup y with | some .local => true | _ => false) && (py.line == p.line) && !(scope.names.any fun (n, k) => n == y && (k == .local || k == .cell))
  | _ => false
mutual
def chkS {W : Type} (N : List Str) (sc : Scope) : Stmt → Sm W → Bool
  | st, .set use keep i e => match st with | .Assign [.Name y py] x _ => at? N i y && stor sc true y && chk N sc x e && (noComp x || swOk sc y py x) | _ => false
  | st, .asg use tg e => match st with | .Assign [t] x _ => chkTg N sc true t tg && chk N sc x e && noComp x && notTuple x | _ => false
  | st, .mut r use i xs => match r.form sc st with | some (y, es) => at? N i y && vis sc y && !(y == ("__debug__" : Str)) && !(y == ("__classdict__" : Str)) && chks N sc es xs | none => false
  | st, .wst r use xs => match r.form sc st with | some es => chks N sc es xs | none => false
  | st, .expr use e => match st with | .Expr x _ => chk N sc x e && noComp x | _ => false
  | st, .ret use e => match st with | .Return (some x) _ => chk N sc x e | _ => false
  | st, .retv i => match st with | .Return (some (.Name x _)) _ => at? N i x && vis sc x && !(x == ("__debug__" : Str)) && !(x == ("__classdict__" : Str)) | _ => false
  | st, .retN => match st with | .Return none _ => true | _ => false
  | st, .iff use c a b => match st with | .If c' a' b' _ => chk N sc c' c && chkSs N sc a' a && chkSs N sc b' b | _ => false
  | st, .forI use it xs tg body => match st with | .For t iter body' [] _ => (match it.form sc iter with | some es => chks N sc es xs | none => false) && chkTg N sc true t tg && chkSs N sc body' body | _ => false
  | st, .whl use c body => match st with | .While c' body' [] _ => chk N sc c' c && chkSs N sc body' body | _ => false
  | st, .brk => match st with | .Break _ => true | _ => false
  | st, .cnt => match st with | .Continue _ => true | _ => false
  | st, .pas => match st with | .Pass _ => true | _ => false
  | _, .never => true
def chkSs {W : Type} (N : List Str) (sc : Scope) : List Stmt → Sms W → Bool
  | [], .nil => true
  | s :: ss, .cons x xs => chkS N sc s x && chkSs N sc ss xs
  | _, _ => false
end

section
variable {W : Type} (C : Cfg W) (lvl : Nat)
def MutOk (r : MutR) : Prop := ∀ (X : Cx) (N : List Str) (sc : Scope) (top : Bool), CtxOk C lvl N sc top X → ∀ (st : Stmt) (y : Str) (es : List Expr) (ts : List TE) (i : Nat), r.form sc st = some (y, es) → (∀ p, PE X (.Name y p) (tVar i)) → PEs X es ts → es.all notStar = true →
  PS X st (fun D σ H => ∃ a G0 d ds d', r.sem d ds = some d' ∧ σ[i]? = some (some (.ref a)) ∧ OwnC C.K G0 H a d ∧ tArgs ts σ H fun vs H1 => ∃ G, OwnC C.K G H1 a d ∧ RLe G H1 ∧ RepAll C.K G vs ds ∧ ∀ o, OwnC C.K G (upd H1 a o) a d' → D.nx σ (upd H1 a o))
def WldOk (r : WldR W) : Prop := ∀ (X : Cx) (N : List Str) (sc : Scope) (top : Bool), CtxOk C lvl N sc top X → ∀ (st : Stmt) (es : List Expr) (ts : List TE), r.form sc st = some es → PEs X es ts → es.all notStar = true →
  PS X st (fun D σ H => tArgs ts σ H fun vs H1 => ∃ O ds m m', Vw C O H1 m ∧ RepAll C.K (hide O H1) vs ds ∧ r.sem ds m = some m' ∧ ∀ H2, Ext C.F H1 H2 → C.WR H2 m' → D.nx σ H2)
mutual
def Sm.ok : Sm W → Prop
  | .set _ _ _ e => e.ok C lvl
  | .asg _ _ e => e.ok C lvl
  | .mut r _ _ xs => MutOk C lvl r ∧ xs.ok C lvl
  | .wst r _ xs => WldOk C lvl r ∧ xs.ok C lvl
  | .expr _ e => e.ok C lvl
  | .ret _ e => e.ok C lvl
  | .iff _ c a b => c.ok C lvl ∧ Sms.ok a ∧ Sms.ok b
  | .forI _ it xs _ body => ItOk C lvl it ∧ xs.ok C lvl ∧ Sms.ok body
  | .whl _ c body => c.ok C lvl ∧ Sms.ok body
  | _ => True
def Sms.ok : Sms W → Prop
  | .nil => True
  | .cons s ss => Sm.ok s ∧ Sms.ok ss
end

/-! ### slots and heap -/
def OA (O0 : Addr → Prop) (sl : List SV) (ad : Nat → Addr) : Addr → Prop := fun a => O0 a ∨ ∃ i d, sl[i]? = some (SV.own d) ∧ ad i = a
def OU (O0 : Addr → Prop) (use : List Nat) (sl : List SV) (ad : Nat → Addr) : Addr → Prop := fun a => O0 a ∨ ∃ i d, sl[i]? = some (SV.own d) ∧ use.contains i = false ∧ ad i = a
structure SlOk (O0 : Addr → Prop) (H0 H : Hp) (σ : L2.St) (sl : List SV) (ad : Nat → Addr) : Prop where
  o1 : ∀ (i : Nat) (d : D), sl[i]? = some (SV.own d) → σ[i]? = some (some (.ref (ad i))) ∧ H0 (ad i) = none ∧ OwnC C.K (hide (OA O0 sl ad) H) H (ad i) d
  o2 : ∀ (i j : Nat) (d e : D), sl[i]? = some (SV.own d) → sl[j]? = some (SV.own e) → ad i = ad j → i = j
  v1 : ∀ (i : Nat) (d : D), sl[i]? = some (SV.val d) → ∃ v, σ[i]? = some (some v) ∧ Rep C.K (hide (OA O0 sl ad) H) v d
structure StOk (O0 : Addr → Prop) (H0 H : Hp) (σ : L2.St) (sl : List SV) (m : W) : Prop where
  len : σ.length = sl.length
  sub0 : ∀ a, C.F a → O0 a
  dom0 : ∀ a, O0 a → H0 a ≠ none
  ext : Ext C.F H0 H
  wr : C.WR H m
  own : ∃ ad, SlOk C O0 H0 H σ sl ad
def OutOk (O0 : Addr → Prop) (H0 : Hp) (D : Ends) : Out W → Prop
  | .nx sl m => ∀ σ H, StOk C O0 H0 H σ sl m → D.nx σ H
  | .rt r m => ∀ v H, Post C O0 H0 H v r m → D.rt v H
  | .bk sl m => ∀ σ H, StOk C O0 H0 H σ sl m → D.bk σ H
  | .ct sl m => ∀ σ H, StOk C O0 H0 H σ sl m → D.ct σ H
def tS (s : Sm W) : TS := fun D σ H => ∃ O0 H0 sl m out, StOk C O0 H0 H σ sl m ∧ evS s sl m = some out ∧ OutOk C O0 H0 D out
def tSs (s : Sms W) : TS := fun D σ H => ∃ O0 H0 sl m out, StOk C O0 H0 H σ sl m ∧ evSs s sl m = some out ∧ OutOk C O0 H0 D out
end

section
variable {W : Type} {C : Cfg W} {O0 : Addr → Prop} {H0 H H' : Hp} {σ : L2.St} {sl : List SV} {m m' : W} {ad : Nat → Addr} {use : List Nat}
theorem StOk.dom (h : StOk C O0 H0 H σ sl m) : ∀ a, O0 a → H a ≠ none := fun a ha => by
  by_cases hf : C.F a
  · exact C.dom H m a h.wr hf
  · cases q : H0 a with
    | none => exact absurd q (h.dom0 a ha)
    | some o => rw [h.ext a o q hf]; exact fun z => by cases z
theorem SlOk.notO (h : SlOk C O0 H0 H σ sl ad) (d0 : ∀ a, O0 a → H0 a ≠ none) {i : Nat} {d : D} (e : sl[i]? = some (SV.own d)) : ¬ O0 (ad i) := fun z => d0 _ z (h.o1 i d e).2.1
theorem SlOk.notF (h : SlOk C O0 H0 H σ sl ad) (d0 : ∀ a, O0 a → H0 a ≠ none) (s0 : ∀ a, C.F a → O0 a) {i : Nat} {d : D} (e : sl[i]? = some (SV.own d)) : ¬ C.F (ad i) := fun z => h.notO d0 e (s0 _ z)
/-- as an expression sees it -/
theorem StOk.view (h : StOk C O0 H0 H σ sl m) (s : SlOk C O0 H0 H σ sl ad) (use : List Nat) : Vw C (OU O0 use sl ad) H m ∧ VOk C.K (hide (OU O0 use sl ad) H) σ use sl := by
  have hle : Same (hide (OA O0 sl ad) H) (hide (OU O0 use sl ad) H) := same_hide fun a o h1 h2 => ⟨fun z => h1 (z.elim .inl fun ⟨i, d, e1, _, e3⟩ => .inr ⟨i, d, e1, e3⟩), h2⟩
  refine ⟨⟨fun a z => .inl (h.sub0 a z), fun a ha => ?_, h.wr⟩, h.len, fun i d e => ?_⟩
  · rcases ha with ha | ⟨i, d, e1, _, rfl⟩
    · exact h.dom a ha
    · obtain ⟨o, e, _⟩ := (s.o1 i d e1).2.2.some
      rw [e]; exact fun z => by cases z
  · rcases look_some e with e | ⟨e, u⟩
    · obtain ⟨v, h1, h2⟩ := s.v1 i d e
      exact ⟨v, h1, h2.mono (RLe.of hle)⟩
    · obtain ⟨h1, h2, h3⟩ := s.o1 i d e
      refine ⟨_, h1, ?_⟩
      have hn : ¬ OU O0 use sl ad (ad i) := fun z => by
        rcases z with z | ⟨j, d', e1, e2, e3⟩
        · exact s.notO h.dom0 e z
        · have := s.o2 j i d' d e1 e e3
          subst this
          rw [u] at e2; cases e2
      have h4 : OwnC C.K (hide (OA O0 sl ad) H) (hide (OU O0 use sl ad) H) (ad i) d := h3.mono RLe.refl fun o q => hide_some.mpr ⟨hn, q⟩
      exact h4.rep (RLe.of hle)
/-- the heap has grown, the slots are as they were -/
theorem SlOk.ext (s : SlOk C O0 H0 H σ sl ad) (d0 : ∀ a, O0 a → H0 a ≠ none) (s0 : ∀ a, C.F a → O0 a) (e : Ext C.F H H') : SlOk C O0 H0 H' σ sl ad := by
  have g : Same (hide (OA O0 sl ad) H) (hide (OA O0 sl ad) H') := e.hide fun a z => .inl (s0 a z)
  refine ⟨fun i d q => ?_, s.o2, fun i d q => ?_⟩
  · obtain ⟨h1, h2, h3⟩ := s.o1 i d q
    exact ⟨h1, h2, h3.mono (RLe.of g) fun o q' => e _ o q' (s.notF d0 s0 q)⟩
  · obtain ⟨v, h1, h2⟩ := s.v1 i d q
    exact ⟨v, h1, h2.mono (RLe.of g)⟩
theorem SlOk.stok (h : StOk C O0 H0 H σ sl m) (e : Ext C.F H H') (w : C.WR H' m') {sl' : List SV} {σ' : L2.St} {ad' : Nat → Addr} (hl : σ'.length = sl'.length) (s : SlOk C O0 H0 H' σ' sl' ad') : StOk C O0 H0 H' σ' sl' m' :=
  ⟨hl, h.sub0, h.dom0, h.ext.trans e, w, ad', s⟩

/-! freezing -/
theorem frz1_length (sl : List SV) (u : Nat) : (frz1 sl u).length = sl.length := by
  unfold frz1; split <;> simp
theorem freeze_length : ∀ (use : List Nat) (sl : List SV), (freeze use sl).length = sl.length
  | [], _ => rfl
  | u :: us, sl => by unfold freeze; rw [freeze_length us, frz1_length]
theorem commit_length (use : List Nat) (b : Bool) (sl : List SV) : (commit use b sl).length = sl.length := by
  unfold commit
  split
  · rfl
  · cases b
    · exact freeze_length _ _
    · rfl
theorem frz1_own {sl : List SV} {u i : Nat} {d : D} : (frz1 sl u)[i]? = some (SV.own d) ↔ sl[i]? = some (SV.own d) ∧ i ≠ u := by
  unfold frz1
  split
  · rename_i d' e
    by_cases hi : u = i
    · subst hi
      have hl : u < sl.length := by
        by_cases h : u < sl.length
        · exact h
        · rw [List.getElem?_eq_none (by omega)] at e; cases e
      rw [List.getElem?_set_self hl]
      simp
    · rw [List.getElem?_set_ne hi]
      exact ⟨fun h => ⟨h, fun z => hi z.symm⟩, fun h => h.1⟩
  · rename_i hno
    refine ⟨fun h => ⟨h, fun z => ?_⟩, fun h => h.1⟩
    subst z
    exact hno d h
theorem frz1_val {sl : List SV} {u i : Nat} {d : D} : (frz1 sl u)[i]? = some (SV.val d) ↔ sl[i]? = some (SV.val d) ∨ (i = u ∧ sl[i]? = some (SV.own d)) := by
  unfold frz1
  split
  · rename_i d' e
    by_cases hi : u = i
    · subst hi
      have hl : u < sl.length := by
        by_cases h : u < sl.length
        · exact h
        · rw [List.getElem?_eq_none (by omega)] at e; cases e
      rw [List.getElem?_set_self hl, e]
      simp
    · rw [List.getElem?_set_ne hi]
      exact ⟨.inl, fun h => h.elim id fun z => absurd z.1.symm hi⟩
  · rename_i hno
    refine ⟨.inl, fun h => h.elim id fun z => ?_⟩
    obtain ⟨rfl, z⟩ := z
    exact absurd z (hno d)
theorem freeze_own {i : Nat} {d : D} : ∀ {use : List Nat} {sl : List SV}, (freeze use sl)[i]? = some (SV.own d) ↔ sl[i]? = some (SV.own d) ∧ use.contains i = false
  | [], sl => by simp [freeze]
  | u :: us, sl => by
    unfold freeze
    rw [freeze_own, frz1_own, List.contains_cons]
    simp only [Bool.or_eq_false_iff, beq_eq_false_iff_ne]
    exact ⟨fun h => ⟨h.1.1, h.1.2, h.2⟩, fun h => ⟨⟨h.1, h.2.1⟩, h.2.2⟩⟩
theorem SlOk.frz1 (s : SlOk C O0 H0 H σ sl ad) (d0 : ∀ a, O0 a → H0 a ≠ none) (u : Nat) : SlOk C O0 H0 H σ (frz1 sl u) ad := by
  have g : Same (hide (OA O0 sl ad) H) (hide (OA O0 (Ev.frz1 sl u) ad) H) := same_hide fun a o h1 h2 => ⟨fun z => h1 (z.elim .inl fun ⟨i, d, e1, e2⟩ => .inr ⟨i, d, (frz1_own.mp e1).1, e2⟩), h2⟩
  refine ⟨fun i d q => ?_, fun i j d e q1 q2 => s.o2 i j d e (frz1_own.mp q1).1 (frz1_own.mp q2).1, fun i d q => ?_⟩
  · obtain ⟨h1, h2, h3⟩ := s.o1 i d (frz1_own.mp q).1
    exact ⟨h1, h2, h3.mono (RLe.of g) fun o q' => q'⟩
  · rcases frz1_val.mp q with q | ⟨hiu, qo⟩
    · obtain ⟨v, h1, h2⟩ := s.v1 i d q
      exact ⟨v, h1, h2.mono (RLe.of g)⟩
    · subst hiu
      obtain ⟨h1, h2, h3⟩ := s.o1 i d qo
      refine ⟨_, h1, ?_⟩
      have hn : ¬ OA O0 (Ev.frz1 sl i) ad (ad i) := fun z => by
        rcases z with z | ⟨j, d', e1, e2⟩
        · exact s.notO d0 qo z
        · obtain ⟨e3, e4⟩ := frz1_own.mp e1
          exact e4 (s.o2 j i d' d e3 qo e2)
      have h4 : OwnC C.K (hide (OA O0 sl ad) H) (hide (OA O0 (Ev.frz1 sl i) ad) H) (ad i) d := h3.mono RLe.refl fun o q => hide_some.mpr ⟨hn, q⟩
      exact h4.rep (RLe.of g)
theorem SlOk.freeze (d0 : ∀ a, O0 a → H0 a ≠ none) : ∀ (use : List Nat) {sl : List SV}, SlOk C O0 H0 H σ sl ad → SlOk C O0 H0 H σ (freeze use sl) ad
  | [], _, s => s
  | u :: us, _, s => SlOk.freeze d0 us (s.frz1 d0 u)
theorem SlOk.commit (d0 : ∀ a, O0 a → H0 a ≠ none) (s : SlOk C O0 H0 H σ sl ad) (use : List Nat) (b : Bool) : SlOk C O0 H0 H σ (commit use b sl) ad := by
  unfold Ev.commit
  split
  · exact s
  · cases b
    · exact s.freeze d0 _
    · exact s
theorem commit_own {b : Bool} {i : Nat} {d : D} (h : (commit use b sl)[i]? = some (SV.own d)) : sl[i]? = some (SV.own d) ∧ (b = true ∨ use.contains i = false) := by
  unfold commit at h
  split at h
  · exact ⟨h, .inr rfl⟩
  · cases b
    · obtain ⟨h1, h2⟩ := freeze_own.mp h
      exact ⟨h1, .inr h2⟩
    · exact ⟨h, .inl rfl⟩
/-- what is hidden behind a commit: no more than what was ours, and what came is still seen -/
theorem commit_hide (h : StOk C O0 H0 H σ sl m) (s : SlOk C O0 H0 H σ sl ad) (e : Ext C.F H H') {b : Bool} {E : Addr → Prop} {vs : List V} {ds : List D} (hi : b = true → D.imms ds = true)
    (r : RepAll C.K (hide (fun a => OU O0 use sl ad a ∨ E a) H') vs ds) : RepAll C.K (hide (fun a => OA O0 (commit use b sl) ad a ∨ E a) H') vs ds := by
  cases b with
  | false =>
    refine r.mono (RLe.of (same_hide fun a o h1 h2 => ⟨fun z => h1 ?_, h2⟩))
    rcases z with (z | ⟨i, d, e1, e2⟩) | z
    · exact .inl (.inl z)
    · obtain ⟨e3, e4⟩ := commit_own e1
      exact .inl (.inr ⟨i, d, e3, e4.resolve_left (by simp), e2⟩)
    · exact .inr z
  | true =>
    let P : Addr → Prop := fun a => ∃ i d, sl[i]? = some (SV.own d) ∧ ad i = a
    have hn : ∀ a xs, P a → (hide (fun a => OU O0 use sl ad a ∨ E a) H') a ≠ some (.tup xs) := fun a xs ⟨i, d, e1, e2⟩ q => by
      subst e2
      have q' := (hide_some.mp q).2
      obtain ⟨o, h1, h2⟩ := (s.o1 i d e1).2.2.some
      have h3 := e _ _ h1 (s.notF h.dom0 h.sub0 e1)
      rw [h3] at q'
      exact (h2 xs).1 (Option.some.inj q')
    refine (r.hide hn (hi rfl)).mono (RLe.of (same_hide fun a o h1 h2 => ⟨fun z => ?_, (hide_some.mp h2).2⟩))
    have h2' := (hide_some.mp h2).1
    rcases z with (z | ⟨i, d, e1, e2⟩) | z
    · exact h2' (.inl (.inl z))
    · exact h1 ⟨i, d, (commit_own e1).1, e2⟩
    · exact h2' (.inr z)
theorem hide_or_false {O : Addr → Prop} {H : Hp} : Same (hide O H) (hide (fun a => O a ∨ False) H) := same_hide fun a o h1 h2 => ⟨fun z => z.elim h1 id, h2⟩
theorem hide_or_false' {O : Addr → Prop} {H : Hp} : Same (hide (fun a => O a ∨ False) H) (hide O H) := same_hide fun a o h1 h2 => ⟨fun z => h1 (.inl z), h2⟩
theorem commit_all (h : StOk C O0 H0 H σ sl m) (s : SlOk C O0 H0 H σ sl ad) (e : Ext C.F H H') {b : Bool} {vs : List V} {ds : List D} (hi : b = true → D.imms ds = true)
    (r : RepAll C.K (hide (OU O0 use sl ad) H') vs ds) : RepAll C.K (hide (OA O0 (commit use b sl) ad) H') vs ds :=
  (commit_hide (E := fun _ => False) h s e hi (r.mono (RLe.of hide_or_false))).mono (RLe.of hide_or_false')
theorem imms_one {d : D} (h : d.imm = true) : D.imms [d] = true := by simp [D.imms, h]
theorem commit_rep (h : StOk C O0 H0 H σ sl m) (s : SlOk C O0 H0 H σ sl ad) (e : Ext C.F H H') {b : Bool} {v : V} {d : D} (hi : b = true → d.imm = true)
    (r : Rep C.K (hide (OU O0 use sl ad) H') v d) : Rep C.K (hide (OA O0 (commit use b sl) ad) H') v d := by
  have q := commit_all (use := use) h s e (b := b) (fun z => imms_one (hi z)) (.one r)
  cases q with
  | cons q _ => exact q

/-- a plain value into a slot -/
theorem SlOk.setV (s : SlOk C O0 H0 H σ sl ad) (hl : σ.length = sl.length) {i : Nat} {v : V} {d : D} (r : Rep C.K (hide (OA O0 sl ad) H) v d) : SlOk C O0 H0 H (σ.set i (some v)) (sl.set i (SV.val d)) ad := by
  have g : Same (hide (OA O0 sl ad) H) (hide (OA O0 (sl.set i (SV.val d)) ad) H) := same_hide fun a o h1 h2 => ⟨fun z => h1 (z.elim .inl fun ⟨j, e, e1, e2⟩ => .inr ⟨j, e, ?_, e2⟩), h2⟩
  · have own : ∀ {j : Nat} {e : D}, (sl.set i (SV.val d))[j]? = some (SV.own e) → j ≠ i ∧ sl[j]? = some (SV.own e) := fun {j e} q => by
      by_cases hj : i = j
      · subst hj
        by_cases hl : i < sl.length
        · rw [List.getElem?_set_self hl] at q; cases q
        · rw [List.getElem?_eq_none (by simpa using hl)] at q; cases q
      · rw [List.getElem?_set_ne hj] at q
        exact ⟨fun z => hj z.symm, q⟩
    refine ⟨fun j e q => ?_, fun j k e f q1 q2 => s.o2 j k e f (own q1).2 (own q2).2, fun j e q => ?_⟩
    · obtain ⟨hj, q⟩ := own q
      obtain ⟨h1, h2, h3⟩ := s.o1 j e q
      exact ⟨by rw [List.getElem?_set_ne (Ne.symm hj)]; exact h1, h2, h3.mono (RLe.of g) fun o q' => q'⟩
    · by_cases hj : i = j
      · subst hj
        by_cases hl' : i < sl.length
        · rw [List.getElem?_set_self hl'] at q
          cases q
          exact ⟨v, List.getElem?_set_self (by rw [hl]; exact hl'), r.mono (RLe.of g)⟩
        · rw [List.getElem?_eq_none (by simpa using hl')] at q; cases q
      · rw [List.getElem?_set_ne hj] at q
        obtain ⟨w, h1, h2⟩ := s.v1 j e q
        exact ⟨w, by rw [List.getElem?_set_ne hj]; exact h1, h2.mono (RLe.of g)⟩
  · by_cases hj : i = j
    · subst hj
      by_cases hl : i < sl.length
      · rw [List.getElem?_set_self hl] at e1; cases e1
      · rw [List.getElem?_eq_none (by simpa using hl)] at e1; cases e1
    · rw [List.getElem?_set_ne hj] at e1; exact e1
/-- a new object of ours into a slot -/
theorem SlOk.setO (s : SlOk C O0 H0 H σ sl ad) (d0 : ∀ a, O0 a → H0 a ≠ none) (s0 : ∀ a, C.F a → O0 a) (hl : σ.length = sl.length) (e : Ext C.F H H') {i : Nat} {a : Addr} {d : D} (hn : H a = none) (hn0 : H0 a = none)
    (r : OwnC C.K (hide (fun b => OA O0 sl ad b ∨ b = a) H') H' a d) : SlOk C O0 H0 H' (σ.set i (some (.ref a))) (sl.set i (SV.own d)) (fun j => if j = i then a else ad j) := by
  have own : ∀ {j : Nat} {f : D}, (sl.set i (SV.own d))[j]? = some (SV.own f) → (j = i ∧ f = d ∧ i < sl.length) ∨ (j ≠ i ∧ sl[j]? = some (SV.own f)) := fun {j f} q => by
    by_cases hj : i = j
    · subst hj
      by_cases hl : i < sl.length
      · rw [List.getElem?_set_self hl] at q; cases q; exact .inl ⟨rfl, rfl, hl⟩
      · rw [List.getElem?_eq_none (by simpa using hl)] at q; cases q
    · rw [List.getElem?_set_ne hj] at q
      exact .inr ⟨fun z => hj z.symm, q⟩
  have hsub : ∀ b, OA O0 (sl.set i (SV.own d)) (fun j => if j = i then a else ad j) b → OA O0 sl ad b ∨ b = a := fun b z => by
    rcases z with z | ⟨j, f, e1, e2⟩
    · exact .inl (.inl z)
    · rcases own e1 with ⟨rfl, _, _⟩ | ⟨hj, e1⟩
      · simp only [if_true] at e2
        exact .inr e2.symm
      · simp only [if_neg hj] at e2
        exact .inl (.inr ⟨j, f, e1, e2⟩)
  have g : Same (hide (OA O0 sl ad) H) (hide (OA O0 (sl.set i (SV.own d)) (fun j => if j = i then a else ad j)) H') := same_hide fun b o h1 h2 =>
    ⟨fun z => (hsub b z).elim h1 fun z => ne_of_none h2 hn z, e b o h2 fun z => h1 (.inl (s0 b z))⟩
  refine ⟨fun j f q => ?_, fun j k f f' q1 q2 hq => ?_, fun j f q => ?_⟩
  · rcases own q with ⟨rfl, rfl, hj⟩ | ⟨hj, q⟩
    · simp only [if_true]
      exact ⟨List.getElem?_set_self (by rw [hl]; exact hj), hn0, r.mono (RLe.of (same_hide fun b o h1 h2 => ⟨fun z => h1 (hsub b z), h2⟩)) fun o q' => q'⟩
    · simp only [if_neg hj]
      obtain ⟨h1, h2, h3⟩ := s.o1 j f q
      exact ⟨by rw [List.getElem?_set_ne (Ne.symm hj)]; exact h1, h2, h3.mono (RLe.of g) fun o q' => e _ o q' (s.notF d0 s0 q)⟩
  · rcases own q1 with ⟨ej, _, _⟩ | ⟨hj, p1⟩
    · rcases own q2 with ⟨ek, _, _⟩ | ⟨hk, p2⟩
      · rw [ej, ek]
      · simp only [if_pos ej, if_neg hk] at hq
        obtain ⟨o, h1, _⟩ := (s.o1 k f' p2).2.2.some
        rw [← hq, hn] at h1; cases h1
    · rcases own q2 with ⟨ek, _, _⟩ | ⟨hk, p2⟩
      · simp only [if_pos ek, if_neg hj] at hq
        obtain ⟨o, h1, _⟩ := (s.o1 j f p1).2.2.some
        rw [hq, hn] at h1; cases h1
      · simp only [if_neg hj, if_neg hk] at hq
        exact s.o2 j k f f' p1 p2 hq
  · by_cases hj : i = j
    · subst hj
      by_cases hl : i < sl.length
      · rw [List.getElem?_set_self hl] at q; cases q
      · rw [List.getElem?_eq_none (by simpa using hl)] at q; cases q
    · rw [List.getElem?_set_ne hj] at q
      obtain ⟨w, h1, h2⟩ := s.v1 j f q
      exact ⟨w, by rw [List.getElem?_set_ne hj]; exact h1, h2.mono (RLe.of g)⟩
/-- the content of an own slot is another -/
theorem SlOk.upd (s : SlOk C O0 H0 H σ sl ad) (d0 : ∀ a, O0 a → H0 a ≠ none) {i : Nat} {d d' : D} {o : HO} (hi : sl[i]? = some (SV.own d)) (r : OwnC C.K (hide (OA O0 sl ad) H) (upd H (ad i) o) (ad i) d') :
    SlOk C O0 H0 (L2.upd H (ad i) o) σ (sl.set i (SV.own d')) ad := by
  have hil : i < sl.length := by
    by_cases h : i < sl.length
    · exact h
    · rw [List.getElem?_eq_none (by omega)] at hi; cases hi
  have own : ∀ {j : Nat}, (∃ f, (sl.set i (SV.own d'))[j]? = some (SV.own f)) ↔ ∃ f, sl[j]? = some (SV.own f) := fun {j} => by
    by_cases hj : i = j
    · subst hj
      rw [List.getElem?_set_self hil, hi]
      exact ⟨fun _ => ⟨d, rfl⟩, fun _ => ⟨d', rfl⟩⟩
    · rw [List.getElem?_set_ne hj]
  have hOA : ∀ b, OA O0 (sl.set i (SV.own d')) ad b ↔ OA O0 sl ad b := fun b => by
    constructor
    · rintro (z | ⟨j, f, e1, e2⟩)
      · exact .inl z
      · obtain ⟨f', e⟩ := own.mp ⟨f, e1⟩
        exact .inr ⟨j, f', e, e2⟩
    · rintro (z | ⟨j, f, e1, e2⟩)
      · exact .inl z
      · obtain ⟨f', e⟩ := own.mpr ⟨f, e1⟩
        exact .inr ⟨j, f', e, e2⟩
  have g : Same (hide (OA O0 sl ad) H) (hide (OA O0 (sl.set i (SV.own d')) ad) (L2.upd H (ad i) o)) := same_hide fun b u h1 h2 =>
    ⟨fun z => h1 ((hOA b).mp z), by rw [upd_ne (fun z => h1 (.inr ⟨i, d, hi, z.symm⟩))]; exact h2⟩
  refine ⟨fun j f q => ?_, fun j k f f' q1 q2 => ?_, fun j f q => ?_⟩
  · by_cases hj : i = j
    · subst hj
      rw [List.getElem?_set_self hil] at q
      cases q
      obtain ⟨h1, h2, _⟩ := s.o1 i d hi
      exact ⟨h1, h2, r.mono (RLe.of g) fun _ q => q⟩
    · rw [List.getElem?_set_ne hj] at q
      obtain ⟨h1, h2, h3⟩ := s.o1 j f q
      exact ⟨h1, h2, h3.mono (RLe.of g) fun u q' => by rw [upd_ne (fun z => hj (s.o2 i j d f hi q z.symm))]; exact q'⟩
  · obtain ⟨g1, e1⟩ := own.mp ⟨f, q1⟩
    obtain ⟨g2, e2⟩ := own.mp ⟨f', q2⟩
    exact s.o2 j k g1 g2 e1 e2
  · by_cases hj : i = j
    · subst hj
      rw [List.getElem?_set_self hil] at q; cases q
    · rw [List.getElem?_set_ne hj] at q
      obtain ⟨w, h1, h2⟩ := s.v1 j f q
      exact ⟨w, h1, h2.mono (RLe.of g)⟩
theorem StOk.none0 (h : StOk C O0 H0 H σ sl m) {a : Addr} (e : H a = none) : H0 a = none := h.ext.none h.wr e
/-- what a def hands back -/
theorem Post.of_view (h : StOk C O0 H0 H σ sl m) {r : R} {v : V} (p : Post C (OU O0 use sl ad) H H' v r m') : Post C O0 H0 H' v r m' := by
  refine ⟨h.ext.trans p.ext, p.wr, ?_⟩
  have q := p.rep
  cases r with
  | val d => exact Rep.mono (RLe.of (same_hide fun a o h1 h2 => ⟨fun z => h1 (.inl z), h2⟩)) q
  | own d =>
    obtain ⟨a, e1, e2, e3⟩ := q
    exact ⟨a, e1, h.none0 e2, e3.mono (RLe.of (same_hide fun b o h1 h2 => ⟨fun z => h1 (z.elim (fun z => .inl (.inl z)) .inr), h2⟩)) fun _ q => q⟩
end
end Ev

set_option Elab.async false
set_option linter.all false
set_option maxRecDepth 100000
set_option maxHeartbeats 4000000
namespace Ev
open PySem PySem.Spec PyProof.Rows L2

section
variable {W : Type} {C : Cfg W} {lvl : Nat} {O0 : Addr → Prop} {H0 H H' : Hp} {σ : L2.St} {sl : List SV} {m m' : W} {ad : Nat → Addr} {use : List Nat}

theorem imm_of_val {d : D} : (R.val d).imm = d.imm := rfl
/-- a result goes into a slot -/
theorem StOk.set_res (h : StOk C O0 H0 H σ sl m) (s : SlOk C O0 H0 H σ sl ad) {r : R} {v : V} {i : Nat} (p : Post C (OU O0 use sl ad) H H' v r m') : StOk C O0 H0 H' (σ.set i (some v)) ((commit use r.imm sl).set i r.sv) m' := by
  have hl : σ.length = (commit use r.imm sl).length := by rw [commit_length]; exact h.len
  have s1 : SlOk C O0 H0 H σ (commit use r.imm sl) ad := s.commit h.dom0 use r.imm
  have q := p.rep
  cases r with
  | val d =>
    have s2 := s1.ext h.dom0 h.sub0 p.ext
    exact SlOk.stok h p.ext p.wr (by simp [hl]) (s2.setV hl (commit_rep h s p.ext (fun z => z) q))
  | own d =>
    obtain ⟨a, rfl, hn, hc⟩ := q
    refine SlOk.stok h p.ext p.wr (by simp [hl]) (s1.setO h.dom0 h.sub0 hl p.ext hn (h.none0 hn) ?_)
    cases d with
    | lst ds =>
      obtain ⟨vs, h1, h2⟩ := hc
      exact ⟨vs, h1, commit_hide h s p.ext (fun z => z) h2⟩
    | dK ks ds =>
      obtain ⟨vs, h0, h1, h2⟩ := hc
      exact ⟨vs, h0, h1, commit_hide h s p.ext (fun z => z) h2⟩
    | dT ks ds =>
      obtain ⟨vs, h0, h1, h2⟩ := hc
      exact ⟨vs, h0, h1, commit_hide h s p.ext (fun z => z) h2⟩
    | _ => exact hc.elim
theorem Post.kp {O : Addr → Prop} {r : R} {v : V} (b : Bool) (hv : Vw C O H m) (p : Post C O H H' v r m') : Post C O H H' v (r.kp b) m' := by
  cases b with
  | true => exact p
  | false => exact ⟨p.ext, p.wr, p.rep.rep hv⟩
theorem set_rd {keep : Bool} {i : Nat} {e : Xp W} {D : Ends} (q : tS C (.set use keep i e) D σ H) : tE C use e σ H fun v H1 => D.nx (σ.set i (some v)) H1 := by
  obtain ⟨O0, H0, sl, m, out, st, he, k⟩ := q
  unfold evS at he
  split at he
  · rename_i r m1 h1
    simp only [Option.some.injEq] at he
    subst he
    obtain ⟨ad, s⟩ := st.own
    obtain ⟨vw, vo⟩ := st.view s use
    exact ⟨_, sl, m, r, m1, vw, vo, h1, fun v H1 p => k _ _ (st.set_res s (p.kp keep vw))⟩
  · cases he
theorem OA_setV {j : Nat} {d : D} {a : Addr} (h : OA O0 (sl.set j (SV.val d)) ad a) : OA O0 sl ad a := by
  rcases h with h | ⟨i, e, e1, e2⟩
  · exact .inl h
  · by_cases hj : j = i
    · subst hj
      by_cases hl : j < sl.length
      · rw [List.getElem?_set_self hl] at e1; cases e1
      · rw [List.getElem?_eq_none (by simpa using hl)] at e1; cases e1
    · rw [List.getElem?_set_ne hj] at e1
      exact .inr ⟨i, e, e1, e2⟩
/-- a target takes a value -/
theorem StOk.tg (h : StOk C O0 H0 H σ sl m) (s : SlOk C O0 H0 H σ sl ad) {tg : Tg} {v : V} {d : D} {sl1 : List SV} {Q : L2.St → Hp → Prop} (r : Rep C.K (hide (OA O0 sl ad) H) v d) (e : setTg tg sl d = some sl1)
    (k : ∀ σ1, StOk C O0 H0 H σ1 sl1 m → Q σ1 H) : gTg C.K tg v σ H Q := by
  refine gTg_ok (G := hide (OA O0 sl ad) H) (fun σ' sl' => σ'.length = sl'.length ∧ SlOk C O0 H0 H σ' sl' ad ∧ Same (hide (OA O0 sl ad) H) (hide (OA O0 sl' ad) H)) (fun σ' sl' j w f _ p r => ?_)
    ⟨h.len, s, fun _ _ z => z⟩ r (RLe.of hide_same) e fun σ1 p => k σ1 (SlOk.stok h Ext.refl h.wr p.1 p.2.1)
  obtain ⟨p1, p2, p3⟩ := p
  exact ⟨by simp [p1], p2.setV p1 (r.mono (RLe.of p3)), p3.trans (same_hide fun a o h1 h2 => ⟨fun z => h1 (OA_setV z), h2⟩)⟩
/-- the state at a loop's start, what is ours hidden from the loop's entry -/
theorem StOk.rebase (h : StOk C O0 H0 H σ sl m) (s : SlOk C O0 H0 H σ sl ad) : StOk C O0 (hide (fun a => ∃ i d, sl[i]? = some (SV.own d) ∧ ad i = a) H) H σ sl m ∧ SlOk C O0 (hide (fun a => ∃ i d, sl[i]? = some (SV.own d) ∧ ad i = a) H) H σ sl ad := by
  have s' : SlOk C O0 (hide (fun a => ∃ i d, sl[i]? = some (SV.own d) ∧ ad i = a) H) H σ sl ad := ⟨fun i d e => by
    obtain ⟨h1, h2, h3⟩ := s.o1 i d e
    refine ⟨h1, ?_, h3⟩
    cases q : hide (fun a => ∃ i d, sl[i]? = some (SV.own d) ∧ ad i = a) H (ad i) with
    | none => rfl
    | some o => exact absurd ⟨i, d, e, rfl⟩ (hide_some.mp q).1, s.o2, s.v1⟩
  refine ⟨⟨h.len, h.sub0, fun a ha => ?_, fun a o e n => (hide_some.mp e).2, h.wr, ad, s'⟩, s'⟩
  have hn : ¬ ∃ i d, sl[i]? = some (SV.own d) ∧ ad i = a := fun ⟨i, d, e1, e2⟩ => s.notO h.dom0 e1 (e2 ▸ ha)
  rw [hide_eq hn]
  exact h.dom a ha
theorem StOk.unbase {sl2 : List SV} {σ2 : L2.St} {H2 : Hp} {m2 : W} (h : StOk C O0 H0 H σ sl m) (s : SlOk C O0 H0 H σ sl ad) (h2 : StOk C O0 (hide (fun a => ∃ i d, sl[i]? = some (SV.own d) ∧ ad i = a) H) H2 σ2 sl2 m2) : StOk C O0 H0 H2 σ2 sl2 m2 := by
  have no : ∀ {a o}, H0 a = some o → ¬ ∃ i d, sl[i]? = some (SV.own d) ∧ ad i = a := fun {a o} e ⟨i, d, e1, e2⟩ => by
    have := (s.o1 i d e1).2.1
    rw [e2, e] at this; cases this
  obtain ⟨ad2, s2⟩ := h2.own
  refine ⟨h2.len, h.sub0, h.dom0, fun a o e n => h2.ext a o (hide_some.mpr ⟨no e, h.ext a o e n⟩) n, h2.wr, ad2, fun i d e => ?_, s2.o2, s2.v1⟩
  obtain ⟨q1, q2, q3⟩ := s2.o1 i d e
  refine ⟨q1, ?_, q3⟩
  cases q : H0 (ad2 i) with
  | none => rfl
  | some o =>
    have := h.ext _ _ q (s2.notF h2.dom0 h2.sub0 e)
    rw [hide_some.mpr ⟨no q, this⟩] at q2; cases q2
theorem Post.unbase {H2 : Hp} {m2 : W} {v : V} {r : R} (h : StOk C O0 H0 H σ sl m) (s : SlOk C O0 H0 H σ sl ad) (p : Post C O0 (hide (fun a => ∃ i d, sl[i]? = some (SV.own d) ∧ ad i = a) H) H2 v r m2) : Post C O0 H0 H2 v r m2 := by
  have no : ∀ {a o}, H0 a = some o → ¬ ∃ i d, sl[i]? = some (SV.own d) ∧ ad i = a := fun {a o} e ⟨i, d, e1, e2⟩ => by
    have := (s.o1 i d e1).2.1
    rw [e2, e] at this; cases this
  refine ⟨fun a o e n => p.ext a o (hide_some.mpr ⟨no e, h.ext a o e n⟩) n, p.wr, ?_⟩
  have q := p.rep
  cases r with
  | val d => exact q
  | own d =>
    obtain ⟨a, e1, e2, e3⟩ := q
    refine ⟨a, e1, ?_, e3⟩
    cases q : H0 a with
    | none => rfl
    | some o =>
      by_cases hf : C.F a
      · have := (h.rebase s).1.dom0 a (h.sub0 a hf)
        exact absurd e2 this
      · have := h.ext _ _ q hf
        rw [hide_some.mpr ⟨no q, this⟩] at e2; cases e2
theorem OutOk.unbase {D : Ends} {out : Out W} (h : StOk C O0 H0 H σ sl m) (s : SlOk C O0 H0 H σ sl ad) (k : OutOk C O0 H0 D out) : OutOk C O0 (hide (fun a => ∃ i d, sl[i]? = some (SV.own d) ∧ ad i = a) H) D out := by
  cases out with
  | nx sl' m' => exact fun σ' H' q => k σ' H' (h.unbase s q)
  | rt r m' => exact fun v H' q => k v H' (Post.unbase h s q)
  | bk sl' m' => exact fun σ' H' q => k σ' H' (h.unbase s q)
  | ct sl' m' => exact fun σ' H' q => k σ' H' (h.unbase s q)
/-- a for's turns -/
theorem for_turns {tg : Tg} {body : Sms W} {items : List D} {out : Out W} {D : Ends} {J : It} (h : StOk C O0 H0 H σ sl m) (s : SlOk C O0 H0 H σ sl ad)
    (he : forL tg (evSs body) items sl m = some out) (k : OutOk C O0 H0 D out) (hw : ItW C.K (OA O0 sl ad) H J items) :
    ∃ Wt : Nat → Nat → L2.St → Hp → Prop, (∃ n, Wt 0 n σ H) ∧ ∀ i n σ H, Wt i n σ H →
      (J.stop i H ∧ D.nx σ H) ∨ (J.go i H ∧ ∃ Nx : L2.St → Hp → Prop, (∀ σ' H', Nx σ' H' → ∃ n', n' < n ∧ Wt (i + 1) n' σ' H') ∧ ∀ x H', J.yld i H x H' → gTg C.K tg x σ H' fun σ2 H2 => tSs C body { D with nx := Nx, ct := Nx, bk := D.nx } σ2 H2) := by
  obtain ⟨h0, s0⟩ := h.rebase s
  have k' := OutOk.unbase h s k
  generalize hH1 : hide (fun a => ∃ i d, sl[i]? = some (SV.own d) ∧ ad i = a) H = H1 at h0 s0 k'
  let Wt : Nat → Nat → L2.St → Hp → Prop := fun i n σ' H' => n = items.length - i ∧ i ≤ items.length ∧ ∃ sl' m', StOk C O0 H1 H' σ' sl' m' ∧ forL tg (evSs body) (items.drop i) sl' m' = some out
  refine ⟨Wt, ⟨items.length, rfl, Nat.zero_le _, sl, m, h0, he⟩, ?_⟩
  rintro i n σ' H' ⟨rfl, hi, sl', m', st, hr⟩
  obtain ⟨ad', s'⟩ := st.own
  have hOA : ∀ a, OA O0 sl' ad' a → OA O0 sl ad a ∨ H a = none := fun a z => by
    rcases z with z | ⟨j, d, e1, e2⟩
    · exact .inl (.inl z)
    · have := (s'.o1 j d e1).2.1
      rw [e2] at this
      by_cases hx : ∃ i d, sl[i]? = some (SV.own d) ∧ ad i = a
      · exact .inl (.inr hx)
      · rw [← hH1, hide_eq hx] at this
        exact .inr this
  have hK : ∀ a o, H a = some o → ¬ OA O0 sl ad a → H' a = some o := fun a o e n => by
    refine st.ext a o ?_ fun z => n (.inl (h.sub0 a z))
    rw [← hH1]
    exact hide_some.mpr ⟨fun z => n (.inr z), e⟩
  obtain ⟨w1, w2, w3⟩ := hw (OA O0 sl' ad') H' hOA hK
  by_cases hlt : i < items.length
  · refine .inr ⟨w1 i hlt, Wt (i + 1) (items.length - (i + 1)), fun σ2 H2 q => ⟨_, by omega, q⟩, fun x H2 hy => ?_⟩
    obtain ⟨hsm, d, hd, hrx⟩ := w3 i x H2 hlt hy
    have hdrop : items.drop i = d :: items.drop (i + 1) := by
      rw [List.drop_eq_getElem_cons hlt]
      have e := List.getElem?_eq_getElem hlt
      rw [e] at hd
      rw [Option.some.inj hd]
    rw [hdrop] at hr
    unfold forL at hr
    have st2 : StOk C O0 H1 H2 σ' sl' m' := SlOk.stok st (Ext.of hsm) (Cfg.stay st.wr hsm) st.len (s'.ext st.dom0 st.sub0 (Ext.of hsm))
    have s2 : SlOk C O0 H1 H2 σ' sl' ad' := s'.ext st.dom0 st.sub0 (Ext.of hsm)
    split at hr
    · cases hr
    · rename_i sl1 hst
      refine st2.tg s2 hrx hst fun σ1 st3 => ?_
      split at hr
      · rename_i sl2 m2 hb
        exact ⟨O0, H1, sl1, m', _, st3, hb, fun σ4 H4 q => ⟨rfl, hlt, sl2, m2, q, hr⟩⟩
      · rename_i sl2 m2 hb
        exact ⟨O0, H1, sl1, m', _, st3, hb, fun σ4 H4 q => ⟨rfl, hlt, sl2, m2, q, hr⟩⟩
      · rename_i sl2 m2 hb
        simp only [Option.some.injEq] at hr
        subst hr
        exact ⟨O0, H1, sl1, m', _, st3, hb, k'⟩
      · rename_i r m2 hb
        simp only [Option.some.injEq] at hr
        subst hr
        exact ⟨O0, H1, sl1, m', _, st3, hb, k'⟩
      · cases hr
  · have e : i = items.length := by omega
    subst e
    rw [List.drop_length] at hr
    simp only [forL, Option.some.injEq] at hr
    subst hr
    exact .inl ⟨w2, k' _ _ st⟩
/-- a while's turns -/
theorem whl_turns {c : Xp W} {body : Sms W} {out : Out W} {D : Ends} {fuel : Nat} (h : StOk C O0 H0 H σ sl m) (he : whlL (evB use c) (evSs body) fuel sl m = some out) (k : OutOk C O0 H0 D out) :
    tWhile (tT C use c) (tSs C body) D σ H := by
  refine ⟨fun n σ' H' => ∃ sl' m', StOk C O0 H0 H' σ' sl' m' ∧ whlL (evB use c) (evSs body) n sl' m' = some out, ⟨fuel, sl, m, h, he⟩, ?_⟩
  rintro n σ' H' ⟨sl', m', st, hr⟩
  cases n with
  | zero => simp [whlL] at hr
  | succ n =>
    unfold whlL at hr
    obtain ⟨ad', s'⟩ := st.own
    obtain ⟨vw, vo⟩ := st.view s' use
    have fin : ∀ {b m1}, evB use c sl' m' = some (b, m1) → ev use c sl' m' = some (.val (.bl b), m1) := fun {b m1} e => by
      unfold evB at e
      split at e
      · rename_i b' m2 e2
        simp only [Option.some.injEq, Prod.mk.injEq] at e
        obtain ⟨rfl, rfl⟩ := e
        exact e2
      · cases e
    have st1 : ∀ {H1 m1}, Ext C.F H' H1 → C.WR H1 m1 → StOk C O0 H0 H1 σ' sl' m1 := fun {H1 m1} e w => SlOk.stok st e w st.len (s'.ext st.dom0 st.sub0 e)
    split at hr
    · rename_i m1 hb
      refine ⟨_, sl', m', true, m1, vw, vo, fin hb, fun H1 e1 w1 => ?_⟩
      refine iteT ?_
      refine ⟨fun σ2 H2 => ∃ sl2 m2, StOk C O0 H0 H2 σ2 sl2 m2 ∧ whlL (evB use c) (evSs body) n sl2 m2 = some out, fun σ2 H2 q => ⟨n, Nat.lt_succ_self n, q⟩, ?_⟩
      split at hr
      · rename_i sl2 m2 h2
        exact ⟨O0, H0, sl', m1, _, st1 e1 w1, h2, fun σ4 H4 q => ⟨sl2, m2, q, hr⟩⟩
      · rename_i sl2 m2 h2
        exact ⟨O0, H0, sl', m1, _, st1 e1 w1, h2, fun σ4 H4 q => ⟨sl2, m2, q, hr⟩⟩
      · rename_i sl2 m2 h2
        simp only [Option.some.injEq] at hr
        subst hr
        exact ⟨O0, H0, sl', m1, _, st1 e1 w1, h2, k⟩
      · rename_i r m2 h2
        simp only [Option.some.injEq] at hr
        subst hr
        exact ⟨O0, H0, sl', m1, _, st1 e1 w1, h2, k⟩
      · cases hr
    · rename_i m1 hb
      refine ⟨_, sl', m', false, m1, vw, vo, fin hb, fun H1 e1 w1 => ?_⟩
      refine iteF ?_
      simp only [Option.some.injEq] at hr
      subst hr
      exact k _ _ (st1 e1 w1)
    · cases hr
theorem swaps_no {e : Expr} {t : Option Expr} {l : Nat} {env : Env} (h : noComp e = true) : swapsWith e t l env = pure false := by
  cases e <;> first | rfl | (simp [noComp] at h)
theorem swapped_no {e t : Expr} {env : Env} (h : notTuple e = true) : swappedStores [t] e env = pure none := by
  cases t <;> cases e <;> first | rfl | (simp [notTuple] at h)

mutual
theorem evS_ps : ∀ (s : Sm W) {N : List Str} {sc : Scope} {X : Cx} {st : Stmt}, CtxOk C lvl N sc true X → s.ok C lvl → chkS N sc st s = true → PS X st (tS C s)
  | .set use keep i e, N, sc, X, st, hX, hr, hc => by
    unfold chkS at hc
    split at hc
    · rename_i y py x p
      simp only [Bool.and_eq_true, Bool.or_eq_true] at hc
      obtain ⟨⟨⟨h1, h2⟩, h3⟩, h4⟩ := hc
      have hN : X.N.Nodup := by rw [hX.hN]; exact hX.nd
      have hi : X.N[i]? = some y := by rw [hX.hN]; exact at_of h1
      rcases h4 with h4 | h4
      · exact (ps_set hN hi (by rw [hX.hsc]; exact stor_loc h2) (ev_pe e hX hr h3) (swaps_no h4) (.inl (hX.fn rfl y))).mono fun D σ H q => set_rd q
      · cases x with
        | ListComp el gens scope p' =>
          cases e with
          | comp own it ix tg cs elt =>
            unfold chk at h3
            split at h3
            · rename_i el' tge iter ifs scope' p'' heq
              injection heq with e1 e2 e3 e4
              subst e1 e2 e3 e4
              simp only [Bool.and_eq_true, decide_eq_true_eq] at h3
              obtain ⟨⟨⟨⟨⟨⟨hb, hi'⟩, ht⟩, hs⟩, hl⟩, hcs⟩, hel⟩ := h3
              split at hi'
              · rename_i es hes
                simp only [swOk, Bool.and_eq_true, Bool.not_eq_true'] at h4
                obtain ⟨⟨h5, h6⟩, h7⟩ := h4
                have hloc : sc.names.lookup y = some .local := by
                  split at h5
                  · assumption
                  · cases h5
                obtain ⟨g1, g2⟩ := evs_pe (use := use) ix hX hr.2.1 hi'
                obtain ⟨hpi, hfs⟩ := hr.1 X N sc true hX tge iter es _ hes g1 g2
                refine (ps_setLc (own := own) (g := gTg C.K tg) (tt := tAnd' C use cs) (te := tE C use elt) hX.calm hN hi (by rw [hX.hsc]; exact hloc) (sw_true (by rw [hX.hsc]; exact hX.kind) (by rw [hX.hsc]; exact hloc) h6 h7) hpi (by rw [hX.hN, hX.hsc]; exact blkOk_by hb)
                  (fun s H Ca cl fp => by rw [← hX.K]; exact pg_tg (hX.blk s H scope Ca cl fp (blkOk_by hb).kind) ht) (fun s H Ca cl fp => pts_pe cs (hX.blk s H scope Ca cl fp (blkOk_by hb).kind) hr.2.2.1 hl hcs) (fun s H Ca cl fp => ev_pe elt (hX.blk s H scope Ca cl fp (blkOk_by hb).kind) hr.2.2.2 hel) hfs).mono fun D σ H q => ?_
                exact comp_rd (fun i hi => by simpa using (List.all_eq_true.mp hs) i hi) (set_rd q)
              · cases hi'
            · cases h3
          | _ => simp [chk, plain] at h3
        | _ => simp [swOk] at h4
    · cases hc
  | .asg use tg e, N, sc, X, st, hX, hr, hc => by
    unfold chkS at hc
    split at hc
    · rename_i t x p
      simp only [Bool.and_eq_true] at hc
      obtain ⟨⟨⟨h1, h2⟩, h3⟩, h4⟩ := hc
      refine (ps_asg (ev_pe e (use := use) hX hr h2) (pg_tg hX h1) (swaps_no h3) (swapped_no h4) ?_).mono fun D σ H q => ?_
      · rcases chkTg_cases h1 with ⟨x, p, i, rfl, rfl, _⟩ | ⟨es, k, p, js, rfl, rfl, _⟩ <;> rfl
      · obtain ⟨O0, H0, sl, m, out, st, he, k⟩ := q
        unfold evS at he
        split at he
        · rename_i r m1 h1
          split at he
          · rename_i sl1 hst
            simp only [Option.some.injEq] at he
            subst he
            obtain ⟨ad, s⟩ := st.own
            obtain ⟨vw, vo⟩ := st.view s use
            refine ⟨_, sl, m, r, m1, vw, vo, h1, fun v H1 p => ?_⟩
            have s1 : SlOk C O0 H0 H1 σ (commit use r.d.imm sl) ad := (s.commit st.dom0 use r.d.imm).ext st.dom0 st.sub0 p.ext
            have st1 : StOk C O0 H0 H1 σ (commit use r.d.imm sl) m1 := SlOk.stok st p.ext p.wr (by rw [commit_length]; exact st.len) s1
            rw [hX.K]
            exact st1.tg s1 (commit_rep st s p.ext (fun z => z) (p.rep.rep vw)) hst fun σ1 q => k _ _ q
          · cases he
        · cases he
    · cases hc
  | .mut r use i xs, N, sc, X, st, hX, hr, hc => by
    unfold chkS at hc
    split at hc
    · rename_i y es hf
      simp only [Bool.and_eq_true, Bool.not_eq_true'] at hc
      obtain ⟨⟨⟨⟨h1, h2⟩, h3⟩, h4⟩, h5⟩ := hc
      obtain ⟨g1, g2⟩ := evs_pe (use := use) xs hX hr.2 h5
      refine (hr.1 X N sc true hX st y es _ i hf (fun p => pe_var (by rw [hX.hN]; exact at_of h1) (by rw [hX.hsc]; exact vis_of h2) h3 h4) g1 g2).mono fun D σ H q => ?_
      obtain ⟨O0, H0, sl, m, out, st, he, k⟩ := q
      unfold evS at he
      split at he
      · rename_i ds m1 h1
        obtain ⟨ad, s⟩ := st.own
        obtain ⟨vw, vo⟩ := st.view s use
        split at he
        · rename_i d hd
          split at he
          · rename_i d' hd'
            simp only [Option.some.injEq] at he
            subst he
            obtain ⟨p1, p2, p3⟩ := s.o1 i d (commit_own hd).1
            refine ⟨ad i, _, d, ds, d', hd', p1, p3, ?_⟩
            refine args_ev xs vw vo h1 fun vs H1 e1 w1 r1 => ?_
            have s1 : SlOk C O0 H0 H1 σ (commit use (Ev.D.imms ds) sl) ad := (s.commit st.dom0 use (Ev.D.imms ds)).ext st.dom0 st.sub0 e1
            obtain ⟨q1, q2, q3⟩ := s1.o1 i d hd
            refine ⟨_, q3, RLe.of hide_same, commit_all st s e1 (fun z => z) r1, fun o ho => k _ _ ?_⟩
            refine ⟨by simp [commit_length, st.len], st.sub0, st.dom0, fun a u e n => ?_, ?_, ad, s1.upd st.dom0 hd ho⟩
            · rw [upd_ne (fun z => by rw [z, q2] at e; cases e)]
              exact e1 a u (st.ext a u e n) n
            · exact C.loc H1 _ _ (fun a ha => upd_ne fun z => s1.notF st.dom0 st.sub0 hd (z ▸ ha)) w1
          · cases he
        · cases he
      · cases he
    · cases hc
  | .wst r use xs, N, sc, X, st, hX, hr, hc => by
    unfold chkS at hc
    split at hc
    · rename_i es hf
      obtain ⟨g1, g2⟩ := evs_pe (use := use) xs hX hr.2 hc
      refine (hr.1 X N sc true hX st es _ hf g1 g2).mono fun D σ H q => ?_
      obtain ⟨O0, H0, sl, m, out, st, he, k⟩ := q
      unfold evS at he
      split at he
      · rename_i ds m1 h1
        obtain ⟨ad, s⟩ := st.own
        obtain ⟨vw, vo⟩ := st.view s use
        split at he
        · rename_i m2 h2
          simp only [Option.some.injEq] at he
          subst he
          refine args_ev xs vw vo h1 fun vs H1 e1 w1 r1 => ?_
          have st1 := SlOk.stok st e1 w1 st.len (s.ext st.dom0 st.sub0 e1)
          have s1 := s.ext st.dom0 st.sub0 e1
          refine ⟨_, ds, m1, m2, vw.ext e1 w1, r1, h2, fun H2 e2 w2 => k _ _ ?_⟩
          exact SlOk.stok st1 e2 w2 st.len (s1.ext st.dom0 st.sub0 e2)
        · cases he
      · cases he
    · cases hc
  | .expr use e, N, sc, X, st, hX, hr, hc => by
    unfold chkS at hc
    split at hc
    · rename_i x p
      simp only [Bool.and_eq_true] at hc
      refine (ps_expr (ev_pe e (use := use) hX hr hc.1) (swaps_no hc.2)).mono fun D σ H q => ?_
      obtain ⟨O0, H0, sl, m, out, st, he, k⟩ := q
      unfold evS at he
      split at he
      · rename_i r m1 h1
        simp only [Option.some.injEq] at he
        subst he
        obtain ⟨ad, s⟩ := st.own
        obtain ⟨vw, vo⟩ := st.view s use
        exact ⟨_, sl, m, r, m1, vw, vo, h1, fun v H1 p => k _ _ (SlOk.stok st p.ext p.wr st.len (s.ext st.dom0 st.sub0 p.ext))⟩
      · cases he
    · cases hc
  | .ret use e, N, sc, X, st, hX, hr, hc => by
    unfold chkS at hc
    split at hc
    · rename_i x p
      refine (ps_ret (ev_pe e (use := use) hX hr hc)).mono fun D σ H q => ?_
      obtain ⟨O0, H0, sl, m, out, st, he, k⟩ := q
      unfold evS at he
      split at he
      · rename_i r m1 h1
        simp only [Option.some.injEq] at he
        subst he
        obtain ⟨ad, s⟩ := st.own
        obtain ⟨vw, vo⟩ := st.view s use
        exact ⟨_, sl, m, r, m1, vw, vo, h1, fun v H1 p => k _ _ (Post.of_view st p)⟩
      · cases he
    · cases hc
  | .retv i, N, sc, X, st, hX, hr, hc => by
    unfold chkS at hc
    split at hc
    · rename_i y py p
      simp only [Bool.and_eq_true, Bool.not_eq_true'] at hc
      obtain ⟨⟨⟨h1, h2⟩, h3⟩, h4⟩ := hc
      refine (ps_ret (pe_var (i := i) (by rw [hX.hN]; exact at_of h1) (by rw [hX.hsc]; exact vis_of h2) h3 h4)).mono fun D σ H q => ?_
      obtain ⟨O0, H0, sl, m, out, st, he, k⟩ := q
      unfold evS at he
      obtain ⟨ad, s⟩ := st.own
      split at he
      · rename_i d hd
        simp only [Option.some.injEq] at he
        subst he
        obtain ⟨q1, q2, q3⟩ := s.o1 i d hd
        exact ⟨_, q1, k _ _ ⟨st.ext, st.wr, ad i, rfl, q2, q3.mono (RLe.of (same_hide fun a o h1 h2 => ⟨fun z => h1 (z.elim .inl fun z => .inr ⟨i, d, hd, z.symm⟩), h2⟩)) fun _ q => q⟩⟩
      · rename_i d hd
        simp only [Option.some.injEq] at he
        subst he
        obtain ⟨v, q1, q2⟩ := s.v1 i d hd
        exact ⟨v, q1, k _ _ ⟨st.ext, st.wr, Rep.mono (RLe.of (same_hide fun a o h1 h2 => ⟨fun z => h1 (.inl z), h2⟩)) q2⟩⟩
      · cases he
    · cases hc
  | .retN, N, sc, X, st, hX, hr, hc => by
    unfold chkS at hc
    split at hc
    · refine ps_retN.mono fun D σ H q => ?_
      obtain ⟨O0, H0, sl, m, out, st, he, k⟩ := q
      simp only [evS, Option.some.injEq] at he
      subst he
      exact k _ _ ⟨st.ext, st.wr, .non⟩
    · cases hc
  | .iff use c a b, N, sc, X, st, hX, hr, hc => by
    unfold chkS at hc
    split at hc
    · rename_i c' a' b' p
      simp only [Bool.and_eq_true] at hc
      refine (ps_if (ev_pt c (use := use) hX hr.1 hc.1.1) (evSs_pss a hX hr.2.1 hc.1.2) (evSs_pss b hX hr.2.2 hc.2)).mono fun D σ H q => ?_
      obtain ⟨O0, H0, sl, m, out, st, he, k⟩ := q
      unfold evS at he
      obtain ⟨ad, s⟩ := st.own
      obtain ⟨vw, vo⟩ := st.view s use
      have fin : ∀ {b m1}, evB use c sl m = some (b, m1) → ev use c sl m = some (.val (.bl b), m1) := fun {b m1} e => by
        unfold evB at e
        split at e
        · rename_i b' m2 e2
          simp only [Option.some.injEq, Prod.mk.injEq] at e
          obtain ⟨rfl, rfl⟩ := e
          exact e2
        · cases e
      have st1 : ∀ {H1 m1}, Ext C.F H H1 → C.WR H1 m1 → StOk C O0 H0 H1 σ sl m1 := fun {H1 m1} e w => SlOk.stok st e w st.len (s.ext st.dom0 st.sub0 e)
      split at he
      · rename_i m1 hb
        exact ⟨_, sl, m, true, m1, vw, vo, fin hb, fun H1 e1 w1 => iteT ⟨O0, H0, sl, m1, out, st1 e1 w1, he, k⟩⟩
      · rename_i m1 hb
        exact ⟨_, sl, m, false, m1, vw, vo, fin hb, fun H1 e1 w1 => iteF ⟨O0, H0, sl, m1, out, st1 e1 w1, he, k⟩⟩
      · cases he
    · cases hc
  | .forI use it xs tg body, N, sc, X, st, hX, hr, hc => by
    unfold chkS at hc
    split at hc
    · rename_i t iter body' p
      simp only [Bool.and_eq_true] at hc
      obtain ⟨⟨h1, h2⟩, h3⟩ := hc
      split at h1
      · rename_i es hes
        obtain ⟨g1, g2⟩ := evs_pe (use := use) xs hX hr.2.1 h1
        obtain ⟨hpi, hfs⟩ := hr.1 X N sc true hX t iter es _ hes g1 g2
        refine (ps_for (by rw [hX.xe]; exact PassesOwn.never) hX.calm hpi (pg_tg hX h2) (evSs_pss body hX hr.2.2 h3) hfs).mono fun D σ H q => ?_
        obtain ⟨O0, H0, sl, m, out, st, he, k⟩ := q
        unfold evS at he
        split at he
        · rename_i ds m1 he1
          split at he
          · rename_i items he2
            obtain ⟨ad, s⟩ := st.own
            obtain ⟨vw, vo⟩ := st.view s use
            refine args_ev xs vw vo he1 fun vs H1 e1 w1 r1 => ?_
            have s1 : SlOk C O0 H0 H1 σ (commit use (Ev.D.imms ds) sl) ad := (s.commit st.dom0 use (Ev.D.imms ds)).ext st.dom0 st.sub0 e1
            have st1 : StOk C O0 H0 H1 σ (commit use (Ev.D.imms ds) sl) m1 := SlOk.stok st e1 w1 (by rw [commit_length]; exact st.len) s1
            refine ⟨OA O0 (commit use (Ev.D.imms ds) sl) ad, ds, items, fun a z => ?_, commit_all st s e1 (fun z => z) r1, he2, fun J H2 hsm hit => ?_⟩
            · rcases z with z | ⟨i, d, e1, e2⟩
              · exact st1.dom a z
              · obtain ⟨o, e, _⟩ := (s1.o1 i d e1).2.2.some
                rw [← e2, e]; exact fun z => by cases z
            · have s2 := s1.ext st.dom0 st.sub0 (Ext.of (F := C.F) hsm)
              have st2 := SlOk.stok st1 (Ext.of hsm) (Cfg.stay st1.wr hsm) st1.len s2
              rw [hX.K]
              exact for_turns st2 s2 he k hit
          · cases he
        · cases he
      · cases h1
    · cases hc
  | .whl use c body, N, sc, X, st, hX, hr, hc => by
    unfold chkS at hc
    split at hc
    · rename_i c' body' p
      simp only [Bool.and_eq_true] at hc
      refine (ps_while (by rw [hX.xe]; exact PassesOwn.never) (ev_pt c (use := use) hX hr.1 hc.1) (evSs_pss body hX hr.2 hc.2)).mono fun D σ H q => ?_
      obtain ⟨O0, H0, sl, m, out, st, he, k⟩ := q
      unfold evS at he
      exact whl_turns st he k
    · cases hc
  | .brk, N, sc, X, st, hX, hr, hc => by
    unfold chkS at hc
    split at hc
    · refine ps_break.mono fun D σ H q => ?_
      obtain ⟨O0, H0, sl, m, out, st, he, k⟩ := q
      simp only [evS, Option.some.injEq] at he
      subst he
      exact k _ _ st
    · cases hc
  | .cnt, N, sc, X, st, hX, hr, hc => by
    unfold chkS at hc
    split at hc
    · refine ps_continue.mono fun D σ H q => ?_
      obtain ⟨O0, H0, sl, m, out, st, he, k⟩ := q
      simp only [evS, Option.some.injEq] at he
      subst he
      exact k _ _ st
    · cases hc
  | .pas, N, sc, X, st, hX, hr, hc => by
    unfold chkS at hc
    split at hc
    · refine ps_pass.mono fun D σ H q => ?_
      obtain ⟨O0, H0, sl, m, out, st, he, k⟩ := q
      simp only [evS, Option.some.injEq] at he
      subst he
      exact k _ _ st
    · cases hc
  | .never, N, sc, X, st, hX, hr, hc => by
    refine ps_never.mono fun D σ H q => ?_
    obtain ⟨O0, H0, sl, m, out, st, he, k⟩ := q
    simp [evS] at he
theorem evSs_pss : ∀ (s : Sms W) {N : List Str} {sc : Scope} {X : Cx} {st : List Stmt}, CtxOk C lvl N sc true X → s.ok C lvl → chkSs N sc st s = true → PSs X st (tSs C s)
  | .nil, N, sc, X, st, hX, hr, hc => by
    cases st with
    | nil =>
      refine pss_nil.mono fun D σ H q => ?_
      obtain ⟨O0, H0, sl, m, out, st, he, k⟩ := q
      simp only [evSs, Option.some.injEq] at he
      subst he
      exact k _ _ st
    | cons s ss => simp [chkSs] at hc
  | .cons x xs, N, sc, X, st, hX, hr, hc => by
    cases st with
    | nil => simp [chkSs] at hc
    | cons s ss =>
      simp only [chkSs, Bool.and_eq_true] at hc
      refine (pss_cons (evS_ps x hX hr.1 hc.1) (evSs_pss xs hX hr.2 hc.2)).mono fun D σ H q => ?_
      obtain ⟨O0, H0, sl, m, out, st, he, k⟩ := q
      unfold evSs at he
      cases ho : evS x sl m with
      | none => rw [ho] at he; cases he
      | some o =>
        rw [ho] at he
        refine ⟨O0, H0, sl, m, o, st, ho, ?_⟩
        cases o with
        | nx sl1 m1 => exact fun σ1 H1 q => ⟨O0, H0, sl1, m1, out, q, he, k⟩
        | rt r m1 => simp only [Option.some.injEq] at he; subst he; exact k
        | bk sl1 m1 => simp only [Option.some.injEq] at he; subst he; exact k
        | ct sl1 m1 => simp only [Option.some.injEq] at he; subst he; exact k
end
end
end Ev

set_option Elab.async false
set_option linter.all false
set_option maxRecDepth 100000
set_option maxHeartbeats 4000000
namespace Ev
open PySem PySem.Spec PyProof.Rows L2

/-! ### a def as a function of data -/
/-- np parameters, n slots -/
def evF {W : Type} (np n : Nat) (body : Sms W) (ds : List D) (m : W) : Option (R × W) :=
  if ds.length = np then
    match evSs body (ds.map SV.val ++ List.replicate (n - np) SV.non) m with
    | some (.rt r m1) => some (r, m1)
    | some (.nx _ m1) => some (.val .non, m1)
    | _ => none
  else none
section
variable {W : Type} {C : Cfg W} {lvl : Nat}
theorem start_ok {O : Addr → Prop} {H : Hp} {N : List Str} {vs : List V} {ds : List D} {m : W} (hv : Vw C O H m) (hr : RepAll C.K (hide O H) vs ds) (hl : vs.length ≤ N.length) :
    StOk C O H H (L2.start N vs) (ds.map SV.val ++ List.replicate (N.length - ds.length) SV.non) m := by
  have hlen := hr.length
  have ix : ∀ {i : Nat} {x : SV}, x ≠ .non → (ds.map SV.val ++ List.replicate (N.length - ds.length) SV.non)[i]? = some x → ∃ d, ds[i]? = some d ∧ x = .val d := fun {i x} hx e => by
    by_cases hi : i < ds.length
    · rw [List.getElem?_append_left (by simpa using hi), List.getElem?_map] at e
      obtain ⟨d, e1, e2⟩ := Option.map_eq_some_iff.mp e
      exact ⟨d, e1, e2.symm⟩
    · rw [List.getElem?_append_right (by simp; omega), List.getElem?_replicate] at e
      split at e
      · exact absurd (Option.some.inj e).symm hx
      · cases e
  refine ⟨by simp [L2.start]; omega, hv.sub, hv.dom, Ext.refl, hv.wr, fun _ => 0, fun i d e => ?_, fun i j d e e1 _ _ => ?_, fun i d e => ?_⟩
  · obtain ⟨_, _, e2⟩ := ix (by simp) e
    cases e2
  · obtain ⟨_, _, e2⟩ := ix (by simp) e1
    cases e2
  · obtain ⟨d', e1, e2⟩ := ix (by simp) e
    cases e2
    obtain ⟨v, h1, h2⟩ := hr.get e1
    refine ⟨v, ?_, h2.mono (RLe.of (same_hide fun a o h1 h2 => ⟨fun z => h1 (z.elim id fun ⟨j, e, q1, _⟩ => ?_), h2⟩))⟩
    · unfold L2.start
      have hi : i < vs.length := by
        by_cases z : i < vs.length
        · exact z
        · rw [List.getElem?_eq_none (by omega)] at h1; cases h1
      rw [List.getElem?_append_left (by simpa using hi), List.getElem?_map, h1]
      rfl
    · obtain ⟨_, _, q2⟩ := ix (by simp) q1
      cases q2
/-- THE RULE for a def -/
theorem fn_ok {x qual : Str} {st : Stmt} {f : Addr} {fd : FuncData} {N ps : List Str} {body : Sms W} (F : Fun C.K x qual st f fd) (S : FnScope N ps (defScope st)) (hp : ps.length ≤ N.length) (hok : body.ok C lvl) (hc : chkSs N (defScope st) (defBody st) body = true) :
    FnOk C.P C.w C.K C.mg C.base CX0 (lvl + 1) f fd ps (fun vs H Q _ => RSem C (evF ps.length N.length body) vs H Q) := by
  refine F.ok S (fun vs H Q E h => ?_) (fun cdv A outer s H vs Q E hr h => ?_)
  · obtain ⟨O, ds, m, r, m', hv, hra, hs, _⟩ := h
    unfold evF at hs
    split at hs
    · rename_i e
      rw [hra.length, e]
    · cases hs
  · obtain ⟨O, ds, m, r, m', hv, hra, hs, k⟩ := h
    unfold evF at hs
    split at hs
    · rename_i hd
      have hX : CtxOk C lvl N (defScope st) true (cxOf CX0 C.P C.w C.K C.mg C.base N qual (defScope st) f cdv A outer s H E).nox :=
        ⟨rfl, rfl, rfl, rfl, rfl, rfl, S.nd, S.kind, rfl, rfl, hr, rfl, fun _ _ => rfl⟩
      refine ⟨_, evSs_pss body hX hok hc, ?_⟩
      have st0 := start_ok hv hra (N := N) (by rw [hra.length, hd]; exact hp)
      rw [hd] at st0
      split at hs
      · rename_i r1 m1 he
        simp only [Option.some.injEq, Prod.mk.injEq] at hs
        obtain ⟨rfl, rfl⟩ := hs
        exact ⟨O, H, _, m, _, st0, he, fun v H' p => k v H' p⟩
      · rename_i sl1 m1 he
        simp only [Option.some.injEq, Prod.mk.injEq] at hs
        obtain ⟨rfl, rfl⟩ := hs
        exact ⟨O, H, _, m, _, st0, he, fun σ' H' q => k .non H' ⟨q.ext, q.wr, .non⟩⟩
      · cases hs
    · cases hs
end

/-! ### the call of a def -/
def callR {W : Type} (name : Str) (sem : List D → W → Option (R × W)) : Rl W where
  form := fun sc e => match e with
    | .Call (.Name x _) args [] _ => if (decide (x = name) && glb sc x && !(x == ("__debug__" : Str))) = true then some args else none
    | _ => none
  sem := sem
structure Callee {W : Type} (C : Cfg W) (lvl : Nat) (name : Str) (sem : List D → W → Option (R × W)) : Prop where
  ex : ∃ f fd ps j, j ≤ lvl ∧ FnOk C.P C.w C.K C.mg C.base CX0 j f fd ps (fun vs H Q _ => RSem C sem vs H Q) ∧ C.mg name = some (.ref f) ∧ PySem.W.keepIn C.K (.ref f) = true ∧ Binds C.K fd ps []
theorem Callee.mono {W : Type} {C : Cfg W} {j lvl : Nat} {name : Str} {sem : List D → W → Option (R × W)} (c : Callee C j name sem) (h : j ≤ lvl) : Callee C lvl name sem := by
  obtain ⟨f, fd, ps, i, hi, r⟩ := c.ex
  exact ⟨f, fd, ps, i, Nat.le_trans hi h, r⟩
theorem star_any {env : Env} {pos : Pos} : ∀ {es : List Expr}, es.all notStar = true → (backTo pos (starEach es env)).any (·.1) = false
  | [], _ => rfl
  | e :: es, h => by
    simp only [List.all_cons, Bool.and_eq_true] at h
    rw [starEach_of h.1]
    show (false || (backTo pos (starEach es env)).any (·.1)) = false
    rw [star_any h.2]
    rfl
theorem star_all {env : Env} {pos : Pos} : ∀ {es : List Expr}, es.all notStar = true → (backTo pos (starEach es env)).all (fun x => !x.1) = true
  | [], _ => rfl
  | e :: es, h => by
    simp only [List.all_cons, Bool.and_eq_true] at h
    rw [starEach_of h.1]
    show (true && (backTo pos (starEach es env)).all (fun x => !x.1)) = true
    rw [star_all h.2]
    rfl
section
variable {W : Type} {C : Cfg W} {lvl : Nat}
theorem call_rule {name : Str} {sem : List D → W → Option (R × W)} (c : Callee C lvl name sem) : RuleOk0 C lvl (callR name sem) := by
  intro X N sc top hX e es ts hf hpe hst
  obtain ⟨f, fd, ps, j, hj, F, hm, hk, hb⟩ := c.ex
  simp only [callR] at hf
  split at hf
  · rename_i x p args pos
    split at hf
    · rename_i hc
      simp only [Bool.and_eq_true, decide_eq_true_eq, Bool.not_eq_true'] at hc
      obtain ⟨⟨rfl, hg⟩, hd⟩ := hc
      simp only [Option.some.injEq] at hf
      subst hf
      have F' : FnOk X.prog X.w X.K X.mg X.base CX0 lvl f fd ps (fun vs H Q _ => RSem C sem vs H Q) := by
        rw [hX.prog, hX.w, hX.K, hX.mg, hX.base]; exact F.mono hj
      have hm' : X.mg x = some (.ref f) := by rw [hX.mg]; exact hm
      have hk' : PySem.W.keepIn X.K (.ref f) = true := by rw [hX.K]; exact hk
      have hb' : Binds X.K fd ps [] := by rw [hX.K]; exact hb
      cases hpe with
      | nil =>
        refine (pe_call0 F' hX.room (hX.gl hg) hm' hk' hb' .nil (E := E0) pass0 hd).mono fun σ H Q q => ?_
        exact q
      | @cons e0 es0 t0 ts0 h0 hm0 hr =>
        simp only [List.all_cons, Bool.and_eq_true] at hst
        refine (pe_call F' hX.room (hX.gl hg) hm' hk' hb' .nil (E := E0) pass0 (pa_cons h0 (hr.pa hst.2) (starEach_of hst.1)) hd (starEach_of hst.1) (star_any hst.2)).mono fun σ H Q q => ?_
        show tCons t0 (tArgs ts0) σ H fun vs H1 => RSem C sem (vs ++ []) H1 Q
        simp only [List.append_nil]
        exact q
    · cases hf
  · cases hf
end

/-! ### results of pure operations -/
/-- by values, whatever is hidden; the world is not looked at -/
def PureV {W : Type} (C : Cfg W) (r : List V → Hp → VK → Prop) (sem : List D → Option R) : Prop :=
  ∀ (O : Addr → Prop) H vs ds res Q, (∀ a, O a → H a ≠ none) → RepAll C.K (hide O H) vs ds → sem ds = some res → (∀ v H', Same H H' → RRep C O H H' v res → Q v H') → r vs H Q
def lift {W : Type} (sem : List D → Option R) : List D → W → Option (R × W) := fun ds m => match sem ds with | some r => some (r, m) | none => none
section
variable {W : Type} {C : Cfg W} {lvl : Nat}
theorem PureV.rsem {r : List V → Hp → VK → Prop} {sem : List D → Option R} (h : PureV C r sem) {vs : List V} {H : Hp} {Q : VK} (q : RSem C (lift sem) vs H Q) : r vs H Q := by
  obtain ⟨O, ds, m, res, m', hv, hra, hs, k⟩ := q
  unfold lift at hs
  split at hs
  · rename_i r' hs'
    simp only [Option.some.injEq, Prod.mk.injEq] at hs
    obtain ⟨rfl, rfl⟩ := hs
    exact h O H vs ds r' Q hv.dom hra hs' fun v H' e rr => k v H' ⟨Ext.of e, Cfg.stay hv.wr e, rr⟩
  · cases hs
/-- a new list of ours -/
theorem new_lst {O : Addr → Prop} {H : Hp} {p : Addr} {vs : List V} {ds : List D} (hn : H p = none) (r : RepAll C.K (hide O H) vs ds) : Same H (upd H p (.lst vs)) ∧ RRep C O H (upd H p (.lst vs)) (.ref p) (.own (.lst ds)) := by
  have s : Same H (upd H p (.lst vs)) := fun a o e => by rw [upd_ne (ne_of_none e hn)]; exact e
  exact ⟨s, p, rfl, hn, vs, upd_same, r.mono (RLe.of (same_hide fun a o h1 h2 => ⟨fun z => z.elim h1 (ne_of_none h2 hn), s a o h2⟩))⟩
theorem new_tup {O : Addr → Prop} {H : Hp} {p : Addr} {vs : List V} {ds : List D} (hO : ∀ a, O a → H a ≠ none) (hn : H p = none) (r : RepAll C.K (hide O H) vs ds) : Same H (upd H p (.tup vs)) ∧ RRep C O H (upd H p (.tup vs)) (.ref p) (.val (.tup ds)) := by
  have s : Same H (upd H p (.tup vs)) := fun a o e => by rw [upd_ne (ne_of_none e hn)]; exact e
  have hp : ¬ O p := fun z => hO p z hn
  exact ⟨s, .tup (hide_some.mpr ⟨hp, upd_same⟩) (r.mono (RLe.of (same_hide fun a o h1 h2 => ⟨h1, s a o h2⟩)))⟩
/-- data out of data, no heap -/
theorem same_val {O : Addr → Prop} {H : Hp} {v : V} {d : D} (r : Rep C.K (hide O H) v d) : Same H H ∧ RRep C O H H v (.val d) := ⟨fun _ _ e => e, r⟩

/-! ### builtin functions and types by name -/
def bltR {W : Type} (name : Str) (sem : List D → Option R) : Rl W where
  form := fun sc e => match e with
    | .Call (.Name x _) (a :: as) [] _ => if (decide (x = name) && glb sc x) = true then some (a :: as) else none
    | _ => none
  sem := lift sem
theorem blt_rule {name : Str} {sem : List D → Option R} {id : String} {r : Cx → List V → Hp → VK → Prop} (hc : ∀ X N sc top, CtxOk C lvl N sc top X → CallR X (.builtin id) (r X) ∧ PureV C (r X) sem) (hv : bootBuiltins name = some (.builtin id)) (hm : C.mg name = none)
    (hn : name ≠ "__name__" := by decide) (hd : (name == ("__debug__" : Str)) = false := by decide) : RuleOk0 C lvl (bltR name sem) := by
  intro X N sc top hX e es ts hf hpe hst
  simp only [bltR] at hf
  split at hf
  · rename_i x p a as pos
    split at hf
    · rename_i hcc
      simp only [Bool.and_eq_true, decide_eq_true_eq] at hcc
      obtain ⟨rfl, hg⟩ := hcc
      simp only [Option.some.injEq] at hf
      subst hf
      obtain ⟨h1, h2⟩ := hc X N sc top hX
      cases hpe with
      | @cons e0 es0 t0 ts0 h0 hm0 hr =>
        simp only [List.all_cons, Bool.and_eq_true] at hst
        refine (pe_callB h1 (hX.gl hg) (by rw [hX.mg]; exact hm) hv (pa_cons h0 (hr.pa hst.2) (starEach_of hst.1)) hn hd (starEach_of hst.1) (star_any hst.2)).mono fun σ H Q q => ?_
        exact (PEs.cons h0 hm0 hr).mono q fun vs H1 q => h2.rsem q
    · cases hf
  · cases hf
end
end Ev

set_option Elab.async false
set_option linter.all false
set_option maxRecDepth 100000
set_option maxHeartbeats 4000000
namespace Ev
open PySem PySem.Spec PyProof.Rows L2

/-! ### data as the library's data -/
mutual
def D.py : D → Option PyData
  | .non => some .none
  | .bl b => some (.bool b)
  | .int i => some (.int i)
  | .str x => some (.str x)
  | .tup ds => match D.pys ds with | some ps => some (.tuple ps) | none => none
  | .lst ds => match D.pys ds with | some ps => some (.list ps) | none => none
  | .dK _ _ => none
  | .dT _ _ => none
  | .ref _ => none
def D.pys : List D → Option (List PyData)
  | [] => some []
  | d :: ds => match D.py d with
    | some p => (match D.pys ds with | some ps => some (p :: ps) | none => none)
    | none => none
end
mutual
theorem Rep.dp {K : PySem.W.Frag} {H : Hp} : ∀ {v : V} {d : D} {p : PyData}, Rep K H v d → D.py d = some p → Dp K H v p
  | _, _, p, .non, e => by simp only [D.py, Option.some.injEq] at e; subst e; exact .non
  | _, _, p, .bl b, e => by simp only [D.py, Option.some.injEq] at e; subst e; exact .bl b
  | _, _, p, .int i, e => by simp only [D.py, Option.some.injEq] at e; subst e; exact .int i
  | _, _, p, .str x, e => by simp only [D.py, Option.some.injEq] at e; subst e; exact .str x
  | _, _, p, .ref a, e => by simp [D.py] at e
  | _, _, p, .tup (ds := ds) h r, e => by
    unfold D.py at e
    split at e
    · rename_i ps hp
      simp only [Option.some.injEq] at e; subst e
      exact .tup (SqT.of h) (RepAll.dp r hp)
    · cases e
  | _, _, p, .lst (ds := ds) h r, e => by
    unfold D.py at e
    split at e
    · rename_i ps hp
      simp only [Option.some.injEq] at e; subst e
      exact .lst (SqL.of h) (RepAll.dp r hp)
    · cases e
  | _, _, p, .dK _ _ _, e => by simp [D.py] at e
  | _, _, p, .dT _ _ _, e => by simp [D.py] at e
theorem RepAll.dp {K : PySem.W.Frag} {H : Hp} : ∀ {vs : List V} {ds : List D} {ps : List PyData}, RepAll K H vs ds → D.pys ds = some ps → DpAll K H vs ps
  | _, _, ps, .nil, e => by simp only [D.pys, Option.some.injEq] at e; subst e; exact .nil
  | _, _, ps, .cons h r, e => by
    unfold D.pys at e
    split at e
    · rename_i p hp
      split at e
      · rename_i ps' hps
        simp only [Option.some.injEq] at e; subst e
        exact .cons (Rep.dp h hp) (RepAll.dp r hps)
      · cases e
    · cases e
end

/-! ### comparisons -/
def eqS (a b : D) : Option Bool := match a, b with
  | .int i, .int j => some (decide (i = j))
  | .str x, .str y => some (decide (x = y))
  | .bl x, .bl y => some (decide (x = y))
  | a, b => match a.py, b.py with
    | some p, some q => if (SeqAt.shaped p && SeqAt.shaped q) = true then some (PyData.eqv p q) else none
    | _, _ => none
def neS (a b : D) : Option Bool := (eqS a b).map not
theorem eqS_dp {K : PySem.W.Frag} {H : Hp} {x y : V} {a b : D} {k : Bool} (ra : Rep K H x a) (rb : Rep K H y b) (h : eqS a b = some k) : (scal x y = true ∧ decide (x = y) = k) ∨ ∃ d e, Dp K H x d ∧ Dp K H y e ∧ SeqAt.shaped d = true ∧ SeqAt.shaped e = true ∧ PyData.eqv d e = k := by
  unfold eqS at h
  split at h
  · rename_i i j
    simp only [Option.some.injEq] at h
    cases ra; cases rb
    exact .inl ⟨rfl, by rw [← h]; simp⟩
  · rename_i i j
    simp only [Option.some.injEq] at h
    cases ra; cases rb
    exact .inl ⟨rfl, by rw [← h]; simp⟩
  · rename_i i j
    simp only [Option.some.injEq] at h
    cases ra; cases rb
    exact .inl ⟨rfl, by rw [← h]; simp⟩
  · split at h
    · rename_i p q hp hq
      split at h
      · rename_i hs
        simp only [Bool.and_eq_true] at hs
        simp only [Option.some.injEq] at h
        exact .inr ⟨p, q, ra.dp hp, rb.dp hq, hs.1, hs.2, h⟩
      · cases h
    · cases h
def nnP : PyData → Bool
  | .none => false
  | _ => true
def cmpS (f : Int → Int → Bool) (g : Bool → Bool) (sw : Bool) (a b : D) : Option Bool := match a, b with
  | .int i, .int j => some (f i j)
  | a, b => match a.py, b.py with
    | some p, some q => if (PySem.W.alike p q && nnP p && decide (p.depth ≤ 60)) = true then some (g (bif sw then PySem.W.dataLt q p else PySem.W.dataLt p q)) else none
    | _, _ => none
def ltS : D → D → Option Bool := cmpS (fun i j => decide (i < j)) id false
def gtS : D → D → Option Bool := cmpS (fun i j => decide (j < i)) id true
def leS : D → D → Option Bool := cmpS (fun i j => decide (i ≤ j)) not true
def geS : D → D → Option Bool := cmpS (fun i j => decide (j ≤ i)) not false
/-- a key of a dict -/
def D.key : D → Option Key
  | .int i => some (.inl i)
  | .str x => some (.inr x)
  | _ => none
def D.keys : List D → Option (List Key)
  | [] => some []
  | d :: ds => match d.key with
    | some k => (match D.keys ds with | some ks => some (k :: ks) | none => none)
    | none => none
def dget {κ : Type} [DecidableEq κ] (ks : List κ) (vs : List D) (k : κ) : Option D := ((ks.zip vs).find? fun p => decide (p.1 = k)).map (·.2)
def dput {κ : Type} [DecidableEq κ] (ks : List κ) (vs : List D) (k : κ) (v : D) : List κ × List D :=
  let r := if ((ks.zip vs).any fun p => decide (p.1 = k)) = true then (ks.zip vs).map (fun p => if p.1 = k then (p.1, v) else p) else ks.zip vs ++ [(k, v)]
  (r.map (·.1), r.map (·.2))
/-- what a dict holds at a key -/
def dlook (d k : D) : Option (Option D) := match d, k with
  | .dK ks vs, k => (k.key).map fun k => dget ks vs k
  | .dT ks vs, .tup ds => (D.keys ds).map fun k => dget ks vs k
  | _, _ => none
def inS (x c : D) : Option Bool := match c with
  | .lst ds => (match x.py, D.pys ds with
    | some p, some ps => if (SeqAt.shaped p && SeqAt.shaped (.list ps)) = true then some (ps.any fun z => PyData.eqv z p) else none
    | _, _ => none)
  | .tup ds => (match x.py, D.pys ds with
    | some p, some ps => if (SeqAt.shaped p && SeqAt.shaped (.list ps)) = true then some (ps.any fun z => PyData.eqv z p) else none
    | _, _ => none)
  | .str z => (match x with | .str y => some (!(Builtin.Str.occurrences z y 0 z.length 1).isEmpty) | _ => none)
  | .dK ks vs => (dlook (.dK ks vs) x).map Option.isSome
  | .dT ks vs => (dlook (.dT ks vs) x).map Option.isSome
  | _ => none
def ninS (x c : D) : Option Bool := (inS x c).map not
def isnS (x c : D) : Option Bool := match c, x with
  | .non, .non => some true
  | .non, _ => some false
  | _, _ => none
def isnnS (x c : D) : Option Bool := (isnS x c).map not

section
variable {W : Type} {C : Cfg W} {lvl : Nat} {X : Cx} {N : List Str} {sc : Scope} {top : Bool}
theorem CtxOk.u64 (h : CtxOk C lvl N sc top X) : X.A.units + 64 < cLine := h.room.units
theorem cmp_eq : CmpOk C lvl ⟨.Eq, eqS⟩ := fun X N sc top hX pins s σ H x y v u Q I rx ry h => by
  obtain ⟨d, e, k, rd, re, hs, q⟩ := h
  rcases eqS_dp rd re hs with ⟨h1, h2⟩ | ⟨p, r, h1, h2, h3, h4, h5⟩
  · exact op_eq pins s σ H x y v u Q I rx ry ⟨h1, by rw [h2]; exact q⟩
  rw [← hX.K] at h1 h2
  exact op_eqD hX.u64 pins s σ H x y v u Q I rx ry ⟨p, r, h1, h2, h3, h4, by rw [h5]; exact q⟩
theorem cmp_ne : CmpOk C lvl ⟨.NotEq, neS⟩ := fun X N sc top hX pins s σ H x y v u Q I rx ry h => by
  obtain ⟨d, e, k, rd, re, hs, q⟩ := h
  have hs' : (eqS d e).map not = some k := hs
  obtain ⟨k', hs1, hs2⟩ := Option.map_eq_some_iff.mp hs'
  rcases eqS_dp rd re hs1 with ⟨h1, h2⟩ | ⟨p, r, h1, h2, h3, h4, h5⟩
  · exact op_ne pins s σ H x y v u Q I rx ry ⟨h1, by rw [h2, hs2]; exact q⟩
  rw [← hX.K] at h1 h2
  exact op_neD hX.u64 pins s σ H x y v u Q I rx ry ⟨p, r, h1, h2, h3, h4, by rw [h5, hs2]; exact q⟩
theorem cmp_ord {op : CmpOp} {f : Int → Int → Bool} {g : Bool → Bool} {sw : Bool} (hi : ∀ X : Cx, OpR X (compareOp op) (rI0 fun i j => .bl (f i j)))
    (hd : ∀ {prog : Program} {w : World} {A : Around} {E : Value → Shared → Prop} {s : Shared} {a b : Value} {da db : PyData} {as bs : List Addr} {Q : Value → Shared → Prop}, Reads s.heap a da as → Reads s.heap b db bs → PySem.W.alike da db = true → da ≠ .none → A.units + min da.depth db.depth < cLine →
      Q (.bool (g (bif sw then PySem.W.dataLt db da else PySem.W.dataLt da db))) s → wpAny (model prog w) A (compareOp op a b) Q E s) : CmpOk C lvl ⟨op, cmpS f g sw⟩ := fun X N sc top hX pins s σ H x y v u Q I rx ry h => by
  obtain ⟨d, e, k, rd, re, hs, q⟩ := h
  have hs' : cmpS f g sw d e = some k := hs
  unfold cmpS at hs'
  split at hs'
  · rename_i i j
    simp only [Option.some.injEq] at hs'
    subst hs'
    exact hi X pins s σ H x y v u Q I rx ry ⟨i, j, rd.val_int, re.val_int, q⟩
  · split at hs'
    · rename_i p r hp hr
      split at hs'
      · rename_i hc
        rw [Bool.and_eq_true, Bool.and_eq_true] at hc
        obtain ⟨⟨h1, h2⟩, h3⟩ := hc
        have h3 := of_decide_eq_true h3
        have hs' := Option.some.inj hs'
        subst hs'
        have g1 := rd.dp hp
        have g2 := re.dp hr
        rw [← hX.K] at g1 g2
        obtain ⟨as, r1⟩ := Dp.reads I p x v g1 rx
        obtain ⟨bs, r2⟩ := Dp.reads I r y u g2 ry
        refine hd r1 r2 h1 (fun z => by subst z; cases h2) ?_ ⟨.bl _, H, I, rfl, q⟩
        have := hX.u64
        have h4 : min p.depth r.depth ≤ p.depth := Nat.min_le_left _ _
        omega
      · cases hs'
    · cases hs'
theorem cmp_lt : CmpOk C lvl ⟨.Lt, ltS⟩ := cmp_ord (fun _ => op_lt) fun ra rb h hn hu hq => PySem.W.lt_data ra rb h hn hu hq
theorem cmp_gt : CmpOk C lvl ⟨.Gt, gtS⟩ := cmp_ord (fun _ => op_gt) fun ra rb h hn hu hq => PySem.W.gt_data ra rb h hn hu hq
theorem cmp_le : CmpOk C lvl ⟨.LtE, leS⟩ := cmp_ord (fun _ => op_le) fun ra rb h hn hu hq => PySem.W.le_data ra rb h hn hu hq
theorem cmp_ge : CmpOk C lvl ⟨.GtE, geS⟩ := cmp_ord (fun _ => op_ge) fun ra rb h hn hu hq => PySem.W.ge_data ra rb h hn hu hq

theorem key_v {K : PySem.W.Frag} {H : Hp} {v : V} {d : D} {k : Key} (r : Rep K H v d) (e : d.key = some k) : v = kV k := by
  cases r <;> simp only [D.key, Option.some.injEq] at e <;> first | (subst e; rfl) | cases e
theorem keys_v {K : PySem.W.Frag} {H : Hp} : ∀ {vs : List V} {ds : List D} {ks : List Key}, RepAll K H vs ds → D.keys ds = some ks → vs = ks.map kV
  | _, _, ks, .nil, e => by simp only [D.keys, Option.some.injEq] at e; subst e; rfl
  | _, _, ks, .cons h r, e => by
    unfold D.keys at e
    split at e
    · rename_i k hk
      split at e
      · rename_i ks' hks
        simp only [Option.some.injEq] at e; subst e
        rw [key_v h hk, keys_v r hks]; rfl
      · cases e
    · cases e
theorem valV_zip {κ : Type} [DecidableEq κ] {K : PySem.W.Frag} {H : Hp} (k : κ) : ∀ {ks : List κ} {vs : List V} {ds : List D}, RepAll K H vs ds → ks.length = vs.length →
    (dget ks ds k = none → valV (ks.zip vs) k = none) ∧ ∀ d, dget ks ds k = some d → ∃ v, valV (ks.zip vs) k = some v ∧ Rep K H v d
  | [], _, _, _, _ => ⟨fun _ => rfl, fun d e => by simp [dget] at e⟩
  | q :: ks, _, _, .nil, h => by simp at h
  | q :: ks, _, _, .cons (v := v) (vs := vs) (d := d) (ds := ds) h r, hl => by
    have ih := valV_zip k r (ks := ks) (by simpa using hl)
    by_cases e : q = k
    · have e1 : dget (q :: ks) (d :: ds) k = some d := by simp [dget, List.find?_cons, e]
      have e2 : valV ((q :: ks).zip (v :: vs)) k = some v := by rw [List.zip_cons_cons]; exact valV_pos (p := (q, v)) e
      rw [e1, e2]
      exact ⟨(fun z => by cases z), fun d' z => by cases z; exact ⟨v, rfl, h⟩⟩
    · have e1 : dget (q :: ks) (d :: ds) k = dget ks ds k := by simp [dget, List.find?_cons, e]
      have e2 : valV ((q :: ks).zip (v :: vs)) k = valV (ks.zip vs) k := by rw [List.zip_cons_cons]; exact valV_neg (p := (q, v)) e
      rw [e1, e2]
      exact ih
/-- a look into a dict -/
theorem dlook_get {K : PySem.W.Frag} {H : Hp} {x y : V} {d k : D} {o : Option D} (rd : Rep K H x d) (rk : Rep K H y k) (h : dlook d k = some o) :
    ∃ a ov, x = .ref a ∧ DGet H a y ov ∧ (o = none → ov = none) ∧ ∀ e, o = some e → ∃ v, ov = some v ∧ Rep K H v e := by
  unfold dlook at h
  split at h
  · rename_i ks vs
    obtain ⟨kk, h1, h2⟩ := Option.map_eq_some_iff.mp h
    cases rd with
    | @dK a _ vv _ hl hr ra =>
      obtain ⟨g1, g2⟩ := valV_zip kk ra hl
      exact ⟨a, _, rfl, .inl ⟨_, kk, hr, key_v rk h1, rfl⟩, fun z => g1 (by rw [h2]; exact z), fun e z => g2 e (by rw [h2]; exact z)⟩
  · rename_i ks vs ds
    obtain ⟨kk, h1, h2⟩ := Option.map_eq_some_iff.mp h
    cases rd with
    | @dT a _ vv _ hl hr ra =>
      cases rk with
      | @tup b ws _ hb rb =>
        obtain ⟨g1, g2⟩ := valV_zip kk ra hl
        exact ⟨a, _, rfl, .inr ⟨_, kk, b, hr, rfl, by rw [hb, keys_v rb h1], rfl⟩, fun z => g1 (by rw [h2]; exact z), fun e z => g2 e (by rw [h2]; exact z)⟩
  · cases h
theorem dlook_some {K : PySem.W.Frag} {H : Hp} {x y : V} {d k : D} {b : Bool} (rd : Rep K H x d) (rk : Rep K H y k) (h : (dlook d k).map Option.isSome = some b) : ∃ a ov, x = .ref a ∧ DGet H a y ov ∧ ov.isSome = b := by
  obtain ⟨o, h1, h2⟩ := Option.map_eq_some_iff.mp h
  obtain ⟨a, ov, e, g, g1, g2⟩ := dlook_get rd rk h1
  refine ⟨a, ov, e, g, ?_⟩
  rw [← h2]
  cases o with
  | none => rw [g1 rfl]; rfl
  | some z => obtain ⟨v, e, _⟩ := g2 z rfl; rw [e]; rfl
theorem in_core {X : Cx} (hX : CtxOk C lvl N sc top X) {pins : List (Addr × Obj)} {s : Shared} {σ : L2.St} {H : Hp} {x y : V} {v u : Value} {Q : VK} {d e : D} {k : Bool} (I : Inv X pins σ H s) (rx : RelV x v) (ry : RelV y u) (rd : Rep C.K H x d) (re : Rep C.K H y e) (hs : inS d e = some k) :
    (Q (.bl k) H → wpAny (model X.prog X.w) X.A (compareOp .In v u) (EP X pins σ Q) X.xe s) ∧ (Q (.bl (!k)) H → wpAny (model X.prog X.w) X.A (compareOp .NotIn v u) (EP X pins σ Q) X.xe s) := by
  have hu := hX.u64
  have hu1 : X.A.units + 1 < cLine := by omega
  unfold inS at hs
  split at hs
  · rename_i ds
    split at hs
    · rename_i p ps hp hps
      split at hs
      · rename_i hc
        simp only [Bool.and_eq_true] at hc
        simp only [Option.some.injEq] at hs
        subst hs
        have g1 := rd.dp hp
        have g2 : Dp C.K H y (.list ps) := re.dp (by simp [D.py, hps])
        rw [← hX.K] at g1 g2
        have hu2 : X.A.units + 65 < cLine := by have := hX.room.units; have h3 := hX.room.un; omega
        exact ⟨fun q => op_inD hu2 pins s σ H x y v u Q I rx ry ⟨p, ps, g1, g2, hc.1, hc.2, q⟩, fun q => op_notInD hu2 pins s σ H x y v u Q I rx ry ⟨p, ps, g1, g2, hc.1, hc.2, q⟩⟩
      · cases hs
    · cases hs
  · rename_i ds
    split at hs
    · rename_i p ps hp hps
      split at hs
      · rename_i hc
        simp only [Bool.and_eq_true] at hc
        simp only [Option.some.injEq] at hs
        subst hs
        have g1 := rd.dp hp
        have g2 : Dp C.K H y (.tuple ps) := re.dp (by simp [D.py, hps])
        rw [← hX.K] at g1 g2
        have hu2 : X.A.units + 65 < cLine := by have := hX.room.units; have h3 := hX.room.un; omega
        obtain ⟨as, r1⟩ := Dp.reads I p x v g1 rx
        obtain ⟨bs, r2⟩ := Dp.reads I (.tuple ps) y u g2 ry
        exact ⟨fun q => SeqAt.in_tuple_reads r2 r1 (SeqAt.canLay_of_shaped hc.2) (SeqAt.canLay_of_shaped hc.1) (room_in_shaped hc.1 hu2) ⟨.bl _, H, I, rfl, q⟩,
          fun q => SeqAt.notIn_tuple_reads r2 r1 (SeqAt.canLay_of_shaped hc.2) (SeqAt.canLay_of_shaped hc.1) (room_in_shaped hc.1 hu2) ⟨.bl _, H, I, rfl, q⟩⟩
      · cases hs
    · cases hs
  · split at hs
    · rename_i z y'
      simp only [Option.some.injEq] at hs
      subst hs
      exact ⟨fun q => op_in_str pins s σ H x y v u Q I rx ry ⟨_, _, rd.val_str, re.val_str, q⟩, fun q => L2.op_notIn_str pins s σ H x y v u Q I rx ry ⟨_, _, rd.val_str, re.val_str, q⟩⟩
    · cases hs
  · obtain ⟨a, ov, rfl, g, h1⟩ := dlook_some re rd hs
    subst h1
    obtain rfl : u = Value.ref a := ry
    exact ⟨fun q => d_in hu1 I g rx fun s3 I3 => ⟨.bl ov.isSome, H, I3, rfl, q⟩, fun q => d_notIn hu1 I g rx fun s3 I3 => ⟨.bl (!ov.isSome), H, I3, rfl, q⟩⟩
  · obtain ⟨a, ov, rfl, g, h1⟩ := dlook_some re rd hs
    subst h1
    obtain rfl : u = Value.ref a := ry
    exact ⟨fun q => d_in hu1 I g rx fun s3 I3 => ⟨.bl ov.isSome, H, I3, rfl, q⟩, fun q => d_notIn hu1 I g rx fun s3 I3 => ⟨.bl (!ov.isSome), H, I3, rfl, q⟩⟩
  · cases hs
theorem cmp_in : CmpOk C lvl ⟨.In, inS⟩ := fun X N sc top hX pins s σ H x y v u Q I rx ry h => by
  obtain ⟨d, e, k, rd, re, hs, q⟩ := h
  exact (in_core hX I rx ry rd re hs).1 q
theorem cmp_nin : CmpOk C lvl ⟨.NotIn, ninS⟩ := fun X N sc top hX pins s σ H x y v u Q I rx ry h => by
  obtain ⟨d, e, k, rd, re, hs, q⟩ := h
  obtain ⟨k', h1, h2⟩ := Option.map_eq_some_iff.mp (show (inS d e).map not = some k from hs)
  exact (in_core hX I rx ry rd re h1).2 (by rw [h2]; exact q)
theorem isn_v {K : PySem.W.Frag} {H : Hp} {x y : V} {d e : D} {k : Bool} (rd : Rep K H x d) (re : Rep K H y e) (hs : isnS d e = some k) : y = .non ∧ decide (x = .non) = k := by
  unfold isnS at hs
  split at hs
  · simp only [Option.some.injEq] at hs
    subst hs
    exact ⟨re.val_non, by rw [rd.val_non]; rfl⟩
  · rename_i hn
    simp only [Option.some.injEq] at hs
    subst hs
    refine ⟨re.val_non, ?_⟩
    cases rd <;> first | (exact absurd rfl hn) | rfl | simp
  · cases hs
theorem cmp_is : CmpOk C lvl ⟨.Is, isnS⟩ := fun X N sc top hX pins s σ H x y v u Q I rx ry h => by
  obtain ⟨d, e, k, rd, re, hs, q⟩ := h
  obtain ⟨h1, h2⟩ := isn_v rd re hs
  exact op_isN pins s σ H x y v u Q I rx ry ⟨h1, by rw [h2]; exact q⟩
theorem cmp_isn : CmpOk C lvl ⟨.IsNot, isnnS⟩ := fun X N sc top hX pins s σ H x y v u Q I rx ry h => by
  obtain ⟨d, e, k, rd, re, hs, q⟩ := h
  obtain ⟨k', g1, g2⟩ := Option.map_eq_some_iff.mp (show (isnS d e).map not = some k from hs)
  obtain ⟨h1, h2⟩ := isn_v rd re g1
  exact op_notN pins s σ H x y v u Q I rx ry ⟨h1, by rw [h2, g2]; exact q⟩
end
end Ev

set_option Elab.async false
set_option linter.all false
set_option maxRecDepth 100000
set_option maxHeartbeats 4000000
namespace Ev
open PySem PySem.Spec PyProof.Rows L2

/-! ### displays -/
def tupR {W : Type} : Rl W where
  form := fun _ e => match e with | .Tuple es _ _ => if es.length ≤ 1000 then some es else none | _ => none
  sem := lift fun ds => some (.val (.tup ds))
def lstR {W : Type} : Rl W where
  form := fun _ e => match e with | .List es _ => if es.length ≤ 1000 then some es else none | _ => none
  sem := lift fun ds => some (.own (.lst ds))
def dictKR {W : Type} : Rl W where
  form := fun _ e => match e with | .Dict [] [] _ => some [] | _ => none
  sem := lift fun ds => some (.own (.dK [] []))
def dictTR {W : Type} : Rl W where
  form := fun _ e => match e with | .Dict [] [] _ => some [] | _ => none
  sem := lift fun ds => some (.own (.dT [] []))
theorem PEs.len {X : Cx} : ∀ {es : List Expr} {ts : List TE}, PEs X es ts → ∀ {σ : L2.St} {H : Hp} {Q : List V → Hp → Prop}, tArgs ts σ H Q → tArgs ts σ H fun vs H' => vs.length = es.length ∧ Q vs H'
  | [], _, .nil, _, _, _, q => ⟨rfl, q⟩
  | _ :: _, _, .cons (t := t) _ hm r, σ, H, _, q => hm σ H _ _ (fun v H1 q => r.mono (r.len q) fun vs H2 q => ⟨by simp [q.1], q.2⟩) q
section
variable {W : Type} {C : Cfg W} {lvl : Nat}
theorem le_line {n : Nat} (h : n ≤ 16777216) : n ≤ sizeLine := by rw [sizeLine_eq]; exact h
theorem lift_some {sem : List D → Option R} {ds : List D} {m m' : W} {r : R} (h : lift sem ds m = some (r, m')) : sem ds = some r ∧ m' = m := by
  unfold lift at h
  split at h
  · rename_i r' e
    simp only [Option.some.injEq, Prod.mk.injEq] at h
    obtain ⟨rfl, rfl⟩ := h
    exact ⟨e, rfl⟩
  · cases h
theorem ok_tup : RuleOk0 C lvl tupR := by
  intro X N sc top hX e es ts hf hpe hst
  simp only [tupR] at hf
  split at hf
  · split at hf
    · rename_i hl
      simp only [Option.some.injEq] at hf
      subst hf
      refine (pe_tup (hpe.pa hst)).mono fun σ H Q q => ?_
      refine hpe.mono (hpe.len q) fun vs H1 ⟨hlen, q⟩ => ?_
      obtain ⟨O, ds, m, r, m', hv, hr, hs, k⟩ := q
      obtain ⟨hs1, em⟩ := lift_some (sem := fun ds => some (.val (.tup ds))) hs
      subst em
      clear hs
      have hs := hs1
      simp only [Option.some.injEq] at hs
      subst hs
      refine ⟨le_line (by omega), fun p hp => ?_⟩
      obtain ⟨s, rr⟩ := new_tup (C := C) hv.dom hp hr
      exact k _ _ ⟨Ext.of s, Cfg.stay hv.wr s, rr⟩
    · cases hf
  · cases hf
theorem ok_lst : RuleOk0 C lvl lstR := by
  intro X N sc top hX e es ts hf hpe hst
  simp only [lstR] at hf
  split at hf
  · split at hf
    · rename_i hl
      simp only [Option.some.injEq] at hf
      subst hf
      refine (pe_lst (hpe.pa hst)).mono fun σ H Q q => ?_
      refine hpe.mono (hpe.len q) fun vs H1 ⟨hlen, q⟩ => ?_
      obtain ⟨O, ds, m, r, m', hv, hr, hs, k⟩ := q
      obtain ⟨hs1, em⟩ := lift_some (sem := fun ds => some (.own (.lst ds))) hs
      subst em
      clear hs
      have hs := hs1
      simp only [Option.some.injEq] at hs
      subst hs
      refine ⟨le_line (by omega), fun p hp => ?_⟩
      obtain ⟨s, rr⟩ := new_lst (C := C) hp hr
      exact k _ _ ⟨Ext.of s, Cfg.stay hv.wr s, rr⟩
    · cases hf
  · cases hf
theorem same_new {H : Hp} {p : Addr} {o : HO} (hn : H p = none) : Same H (upd H p o) := fun a u e => by rw [upd_ne (ne_of_none e hn)]; exact e
theorem ok_dictK : RuleOk0 C lvl dictKR := by
  intro X N sc top hX e es ts hf hpe hst
  simp only [dictKR] at hf
  split at hf
  · simp only [Option.some.injEq] at hf
    subst hf
    cases hpe
    refine pe_dnewK.mono fun σ H Q q => ?_
    obtain ⟨O, ds, m, r, m', hv, hr, hs, k⟩ := q
    obtain ⟨hs1, em⟩ := lift_some (sem := fun _ => some (.own (.dK [] []))) (ds := ds) hs
    subst em
    clear hs
    have hs := hs1
    simp only [Option.some.injEq] at hs
    subst hs
    intro p hp
    exact k _ _ ⟨Ext.of (same_new hp), Cfg.stay hv.wr (same_new hp), p, rfl, hp, [], rfl, upd_same, .nil⟩
  · cases hf
theorem ok_dictT : RuleOk0 C lvl dictTR := by
  intro X N sc top hX e es ts hf hpe hst
  simp only [dictTR] at hf
  split at hf
  · simp only [Option.some.injEq] at hf
    subst hf
    cases hpe
    refine pe_dnewT.mono fun σ H Q q => ?_
    obtain ⟨O, ds, m, r, m', hv, hr, hs, k⟩ := q
    obtain ⟨hs1, em⟩ := lift_some (sem := fun _ => some (.own (.dT [] []))) (ds := ds) hs
    subst em
    clear hs
    have hs := hs1
    simp only [Option.some.injEq] at hs
    subst hs
    intro p hp
    exact k _ _ ⟨Ext.of (same_new hp), Cfg.stay hv.wr (same_new hp), p, rfl, hp, [], rfl, upd_same, .nil⟩
  · cases hf

/-! ### operators -/
def binR {W : Type} (op : Operator) (sem : List D → Option R) : Rl W where
  form := fun _ e => match e with | .BinOp a op' b _ => if op' = op then some [a, b] else none | _ => none
  sem := lift sem
def unR {W : Type} (op : UnaryOp) (sem : List D → Option R) : Rl W where
  form := fun _ e => match e with | .UnaryOp op' a _ => if op' = op then some [a] else none | _ => none
  sem := lift sem
theorem bin_rule {op : Operator} {sem : List D → Option R} {r : Cx → R2} (hc : ∀ X N sc top, CtxOk C lvl N sc top X → OpR X (binaryOp op) (r X) ∧ ∀ (O : Addr → Prop) H x y ds res Q, (∀ a, O a → H a ≠ none) → RepAll C.K (hide O H) [x, y] ds → sem ds = some res → (∀ v H', Same H H' → RRep C O H H' v res → Q v H') → r X x y H Q) : RuleOk0 C lvl (binR op sem) := by
  intro X N sc top hX e es ts hf hpe hst
  simp only [binR] at hf
  split at hf
  · rename_i a op' b p
    split at hf
    · rename_i ho
      subst ho
      simp only [Option.some.injEq] at hf
      subst hf
      obtain ⟨h1, h2⟩ := hc X N sc top hX
      cases hpe with
      | @cons e0 es0 t0 ts0 h0 hm0 hr =>
        cases hr with
        | @cons e1 es1 t1 ts1 g0 hm1 hr =>
          cases hr
          refine (pe_op h1 h0 g0).mono fun σ H Q q => ?_
          refine hm0 σ H _ _ (fun x H1 q => hm1 σ H1 _ _ (fun y H2 q => ?_) q) q
          obtain ⟨O, ds, m, res, m', hv, hra, hs, k⟩ := q
          obtain ⟨hs1, em⟩ := lift_some (sem := sem) hs
          subst em
          clear hs
          have hs := hs1
          exact h2 O H2 x y ds res Q hv.dom hra hs fun v H' e rr => k v H' ⟨Ext.of e, Cfg.stay hv.wr e, rr⟩
    · cases hf
  · cases hf
theorem un_rule {op : UnaryOp} {sem : List D → Option R} {r : Cx → V → Hp → VK → Prop} (hc : ∀ X N sc top, CtxOk C lvl N sc top X → UnR X (unaryOp op) (r X) ∧ ∀ (O : Addr → Prop) H x ds res Q, (∀ a, O a → H a ≠ none) → RepAll C.K (hide O H) [x] ds → sem ds = some res → (∀ v H', Same H H' → RRep C O H H' v res → Q v H') → r X x H Q) : RuleOk0 C lvl (unR op sem) := by
  intro X N sc top hX e es ts hf hpe hst
  simp only [unR] at hf
  split at hf
  · rename_i op' a p
    split at hf
    · rename_i ho
      subst ho
      simp only [Option.some.injEq] at hf
      subst hf
      obtain ⟨h1, h2⟩ := hc X N sc top hX
      cases hpe with
      | @cons e0 es0 t0 ts0 h0 hm0 hr =>
        cases hr
        refine (pe_un h1 h0).mono fun σ H Q q => ?_
        refine hm0 σ H _ _ (fun x H1 q => ?_) q
        obtain ⟨O, ds, m, res, m', hv, hra, hs, k⟩ := q
        obtain ⟨hs1, em⟩ := lift_some (sem := sem) hs
        subst em
        clear hs
        have hs := hs1
        exact h2 O H1 x ds res Q hv.dom hra hs fun v H' e rr => k v H' ⟨Ext.of e, Cfg.stay hv.wr e, rr⟩
    · cases hf
  · cases hf
def negS : List D → Option R
  | [.int i] => some (.val (.int (-i)))
  | _ => none
theorem ok_neg : RuleOk0 C lvl (unR .USub negS) := un_rule (r := fun X => rU fun i => .int (-i)) fun X N sc top hX => ⟨un_neg, fun O H x ds res Q hO hr hs k => by
  unfold negS at hs
  split at hs
  · simp only [Option.some.injEq] at hs
    subst hs
    obtain ⟨v, e, r⟩ := hr.inv1
    cases e
    exact ⟨_, r.val_int, k _ _ (fun _ _ e => e) (.int _)⟩
  · cases hs⟩
def addS : List D → Option R
  | [.int i, .int j] => some (.val (.int (i + j)))
  | [.str a, .str b] => if a.length + b.length ≤ 16777216 then some (.val (.str (a ++ b))) else none
  | [.lst a, .lst b] => if a.length + b.length ≤ 16777216 then some (.own (.lst (a ++ b))) else none
  | [.tup (x :: a), .tup b] => if a.length + 1 + b.length ≤ 16777216 then some (.val (.tup (x :: a ++ b))) else none
  | _ => none
theorem op_or {X : Cx} {f : Value → Value → Sem Value} {r r' : R2} (h : OpR X f r) (h' : OpR X f r') : OpR X f (fun x y H Q => r x y H Q ∨ r' x y H Q) := h.or h'
theorem ok_add : RuleOk0 C lvl (binR .Add addS) := bin_rule (r := fun X x y H Q => ((rI0 fun i j => .int (i + j)) x y H Q ∨ (∃ i j, x = .str i ∧ y = .str j ∧ i.length + j.length ≤ sizeLine ∧ Q (.str (i ++ j)) H)) ∨ (rCat x y H Q ∨ rCatT X.K x y H Q)) fun X N sc top hX =>
  ⟨(op_add.or op_add_str).or (op_cat.or op_catT), fun O H x y ds res Q hO hr hs k => by
  unfold addS at hs
  split at hs
  · simp only [Option.some.injEq] at hs
    subst hs
    obtain ⟨v, w, e, r1, r2⟩ := hr.inv2
    cases e
    exact .inl (.inl ⟨_, _, r1.val_int, r2.val_int, k _ _ (fun _ _ e => e) (.int _)⟩)
  · split at hs
    · rename_i hl
      simp only [Option.some.injEq] at hs
      subst hs
      obtain ⟨v, w, e, r1, r2⟩ := hr.inv2
      cases e
      exact .inl (.inr ⟨_, _, r1.val_str, r2.val_str, le_line hl, k _ _ (fun _ _ e => e) (.str _)⟩)
    · cases hs
  · split at hs
    · rename_i hl
      simp only [Option.some.injEq] at hs
      subst hs
      obtain ⟨v, w, e, r1, r2⟩ := hr.inv2
      cases e
      cases r1 with
      | lst h1 q1 =>
        cases r2 with
        | lst h2 q2 =>
          refine .inr (.inl ⟨_, _, _, _, rfl, rfl, (hide_some.mp h1).2, (hide_some.mp h2).2, le_line (by rw [q1.length, q2.length]; exact hl), fun p hp => ?_⟩)
          obtain ⟨s, rr⟩ := new_lst (C := C) hp (q1.append q2)
          exact k _ _ s rr
    · cases hs
  · split at hs
    · rename_i hl
      simp only [Option.some.injEq] at hs
      subst hs
      obtain ⟨v, w, e, r1, r2⟩ := hr.inv2
      cases e
      cases r1 with
      | tup h1 q1 =>
        cases r2 with
        | tup h2 q2 =>
          refine .inr (.inr ⟨_, _, _, _, rfl, rfl, SqT.of (hide_some.mp h1).2, SqT.of (hide_some.mp h2).2, (fun z => by subst z; cases q1), le_line (by rw [q1.length, q2.length]; simpa using hl), fun z => ?_, fun z p hp => ?_⟩)
          · subst z
            cases q2
            refine k _ _ (fun _ _ e => e) ?_
            show Rep _ _ _ _
            rw [List.append_nil]
            exact .tup h1 q1
          · obtain ⟨s, rr⟩ := new_tup (C := C) hO hp (q1.append q2)
            exact k _ _ s rr
    · cases hs
  · cases hs⟩
def subS : List D → Option R
  | [.int i, .int j] => some (.val (.int (i - j)))
  | _ => none
theorem ok_sub : RuleOk0 C lvl (binR .Sub subS) := bin_rule (r := fun X => rI0 fun i j => .int (i - j)) fun X N sc top hX => ⟨op_sub, fun O H x y ds res Q hO hr hs k => by
  unfold subS at hs
  split at hs
  · simp only [Option.some.injEq] at hs
    subst hs
    obtain ⟨v, w, e, r1, r2⟩ := hr.inv2
    cases e
    exact ⟨_, _, r1.val_int, r2.val_int, k _ _ (fun _ _ e => e) (.int _)⟩
  · cases hs⟩
def modS : List D → Option R
  | [.int i, .int j] => if 0 < j then some (.val (.int (i % j))) else none
  | _ => none
theorem ok_mod : RuleOk0 C lvl (binR .Mod modS) := bin_rule (r := fun X => rI (fun _ j => 0 < j) fun i j => .int (i % j)) fun X N sc top hX => ⟨op_mod, fun O H x y ds res Q hO hr hs k => by
  unfold modS at hs
  split at hs
  · split at hs
    · rename_i hj
      simp only [Option.some.injEq] at hs
      subst hs
      obtain ⟨v, w, e, r1, r2⟩ := hr.inv2
      cases e
      exact ⟨_, _, r1.val_int, r2.val_int, hj, k _ _ (fun _ _ e => e) (.int _)⟩
    · cases hs
  · cases hs⟩
def fdivS : List D → Option R
  | [.int i, .int j] => if 0 < j ∧ j < 1073741824 then some (.val (.int (i / j))) else none
  | _ => none
theorem ok_fdiv : RuleOk0 C lvl (binR .FloorDiv fdivS) := bin_rule (r := fun X => rI CDiv fun i j => .int (i / j)) fun X N sc top hX => ⟨op_fdiv, fun O H x y ds res Q hO hr hs k => by
  unfold fdivS at hs
  split at hs
  · split at hs
    · rename_i hj
      simp only [Option.some.injEq] at hs
      subst hs
      obtain ⟨v, w, e, r1, r2⟩ := hr.inv2
      cases e
      exact ⟨_, _, r1.val_int, r2.val_int, hj, k _ _ (fun _ _ e => e) (.int _)⟩
    · cases hs
  · cases hs⟩
/-- a text times a number -/
theorem op_mul_str {X : Cx} : OpR X (binaryOp .Mult) (fun x y H Q => ∃ z n, x = .str z ∧ y = .int n ∧ MulOk z n ∧ Q (.str (Txt.mul z n)) H) := by
  intro pins s σ H x y v u Q I rx ry h
  obtain ⟨z, n, rfl, rfl, hm, q⟩ := h
  obtain ⟨t, rfl⟩ := rx
  obtain ⟨t', rfl⟩ := ry
  exact PySem.SB.mul hm fun t' k => ⟨.str _, H, I.tok _, ⟨_, rfl⟩, q⟩
theorem mulOk_small {z : Str} {n : Int} (h1 : z.length ≤ 1000) (h2 : n ≤ 1000) (h3 : -1000 ≤ n) : MulOk z n := PyProof.Rows.mulOk_of 1000 1000 h1 h2 (by omega) (by decide) (by decide)
def mulS : List D → Option R
  | [.int i, .int j] => if (decide (-(2 ^ 64) < i) && decide (i < 2 ^ 64) || decide (-(2 ^ 64) < j) && decide (j < 2 ^ 64)) = true then some (.val (.int (i * j))) else none
  | [.str z, .int n] => if z.length ≤ 1000 ∧ n ≤ 1000 ∧ -1000 ≤ n then some (.val (.str (Txt.mul z n))) else none
  | [.lst ds, .int n] => if ds.length ≤ 4000 ∧ n ≤ 4000 ∧ 0 ≤ n then some (.own (.lst (List.replicate n.toNat ds).flatten)) else none
  | _ => none
theorem RepAll.rep {K : PySem.W.Frag} {H : Hp} {vs : List V} {ds : List D} (r : RepAll K H vs ds) : ∀ n : Nat, RepAll K H (List.replicate n vs).flatten (List.replicate n ds).flatten
  | 0 => .nil
  | n + 1 => by
    rw [List.replicate_succ, List.replicate_succ, List.flatten_cons, List.flatten_cons]
    exact r.append (r.rep n)
theorem ok_mul : RuleOk0 C lvl (binR .Mult mulS) := bin_rule (r := fun X x y H Q => ((rI CMul fun i j => .int (i * j)) x y H Q ∨ (∃ z n, x = .str z ∧ y = .int n ∧ MulOk z n ∧ Q (.str (Txt.mul z n)) H)) ∨ rRep x y H Q) fun X N sc top hX =>
  ⟨(op_mul.or op_mul_str).or op_rep, fun O H x y ds res Q hO hr hs k => by
  unfold mulS at hs
  split at hs
  · split at hs
    · rename_i hc
      simp only [Option.some.injEq] at hs
      subst hs
      obtain ⟨v, w, e, r1, r2⟩ := hr.inv2
      cases e
      simp only [Bool.or_eq_true, Bool.and_eq_true, decide_eq_true_eq] at hc
      exact .inl (.inl ⟨_, _, r1.val_int, r2.val_int, hc, k _ _ (fun _ _ e => e) (.int _)⟩)
    · cases hs
  · split at hs
    · rename_i hl
      simp only [Option.some.injEq] at hs
      subst hs
      obtain ⟨v, w, e, r1, r2⟩ := hr.inv2
      cases e
      exact .inl (.inr ⟨_, _, r1.val_str, r2.val_int, mulOk_small hl.1 hl.2.1 hl.2.2, k _ _ (fun _ _ e => e) (.str _)⟩)
    · cases hs
  · split at hs
    · rename_i n hl
      simp only [Option.some.injEq] at hs
      subst hs
      obtain ⟨v, w, e, r1, r2⟩ := hr.inv2
      cases e
      cases r1 with
      | lst h1 q1 =>
        refine .inr ⟨_, _, _, rfl, r2.val_int, (hide_some.mp h1).2, by omega, by omega, le_line ?_, fun p hp => ?_⟩
        · rw [q1.length]
          exact Nat.le_trans (Nat.mul_le_mul hl.1 (by omega : n.toNat ≤ 4000)) (by decide)
        · obtain ⟨s, rr⟩ := new_lst (C := C) hp (q1.rep n.toNat)
          exact k _ _ s rr
    · cases hs
  · cases hs⟩

/-! ### subscripts -/
def ixE : Expr → Bool
  | .Slice _ _ _ _ => false
  | _ => true
theorem ixE_plain {b : Expr} (h : ixE b = true) : PlainIx b := by
  intro o i
  cases b <;> first | rfl | (simp [ixE] at h)
def ixS : List D → Option R
  | [.lst ds, .int i] => (atI ds i).map .val
  | [.tup ds, .int i] => (atI ds i).map .val
  | [.str z, .int i] => if z.length ≤ 16777216 then (atI z.cps.toList i).map fun c => .val (.str ⟨#[c]⟩) else none
  | [d, k] => match dlook d k with | some (some e) => some (.val e) | _ => none
  | _ => none
def ixR {W : Type} : Rl W where
  form := fun _ e => match e with | .Subscript a b _ => if ixE b = true then some [a, b] else none | _ => none
  sem := lift ixS
theorem _root_.L2.DGet.unhide {O : Addr → Prop} {H : Hp} {a : Addr} {y : V} {r : Option V} (g : DGet (hide O H) a y r) : DGet H a y r := by
  rcases g with ⟨kvs, kk, q1, q2, q3⟩ | ⟨kvs, kk, b', q1, q2, q3, q4⟩
  · exact .inl ⟨kvs, kk, (RLe.of hide_same).rd _ _ q1, q2, q3⟩
  · exact .inr ⟨kvs, kk, b', (RLe.of hide_same).rd _ _ q1, q2, (hide_some.mp q3).2, q4⟩
def rIxD : R2 := fun x y H Q => ∃ a v, x = .ref a ∧ DGet H a y (some v) ∧ Q v H
theorem ix_dict {X : Cx} (hu : X.A.units + 1 < cLine) : IxR X rIxD := by
  intro value slice pins s σ H x y v u Q I rx ry h hs
  obtain ⟨a, z, rfl, g, q⟩ := h
  obtain rfl : v = Value.ref a := rx
  have hT := dict_typeIs I g
  unfold subscriptTail
  refine wpAny_bind ?_
  rw [getitemInPython_of_ne hT.not_modules]
  refine wpAny_bind (wpAny_specialOf hT PySem.F.slot_dict_getitem.lookup ?_)
  have fin : wpAny (model X.prog X.w) X.A (subscripted slice false (.ref a) u) (fun r s₃ => wpAny (model X.prog X.w) X.A (letTemporaryGo value (.ref a) r >>= fun _ => pure r) (EP X pins σ Q) X.xe s₃) X.xe s := by
    rw [hs]
    exact wpAny_operating (wpAny_mono (d_getItem hu I g ry fun w' s' I' rw' => (⟨z, H, I', rw', q⟩ : EP X pins σ Q w' s')) (fun r s₃ h₃ => wpAny_bind (wpAny_letTemporaryGo (wpAny_pure h₃))) fun _ _ x => x)
  first
    | exact wpAny_pure (wpAny_bind fin)
    | exact wpAny_bind (wpAny_pure (wpAny_bind fin))
    | exact wpAny_bind fin
theorem atI_rep {K : PySem.W.Frag} {H : Hp} {vs : List V} {ds : List D} {i : Int} {d : D} (r : RepAll K H vs ds) (h : atI ds i = some d) : ∃ v, atI vs i = some v ∧ Rep K H v d := by
  unfold atI at h ⊢
  rw [r.length]
  obtain ⟨j, h1, h2⟩ := Option.bind_eq_some_iff.mp h
  obtain ⟨v, h3, h4⟩ := r.get h2
  exact ⟨v, by rw [h1]; exact h3, h4⟩
theorem ok_ix : RuleOk0 C lvl ixR := by
  intro X N sc top hX e es ts hf hpe hst
  simp only [ixR] at hf
  split at hf
  · rename_i a b p
    split at hf
    · rename_i hb
      simp only [Option.some.injEq] at hf
      subst hf
      cases hpe with
      | @cons e0 es0 t0 ts0 h0 hm0 hr =>
        cases hr with
        | @cons e1 es1 t1 ts1 g0 hm1 hr =>
          cases hr
          have hu := hX.u64
          refine (pe_ix (ix_seq.or (ix_dict (by omega))) h0 g0 (ixE_plain hb)).mono fun σ H Q q => ?_
          refine hm0 σ H _ _ (fun x H1 q => hm1 σ H1 _ _ (fun y H2 q => ?_) q) q
          obtain ⟨O, ds, m, res, m', hv, hra, hs, k⟩ := q
          obtain ⟨hs1, em⟩ := lift_some (sem := ixS) hs
          subst em
          clear hs
          have hs := hs1
          have k' : ∀ v d, res = .val d → Rep C.K (hide O H2) v d → Q v H2 := fun v d e r => k v H2 (by rw [e]; exact Post.refl hv r)
          unfold ixS at hs
          split at hs
          · obtain ⟨d, h1, h2⟩ := Option.map_eq_some_iff.mp hs
            obtain ⟨v, w, e, r1, r2⟩ := hra.inv2
            cases e
            cases r1 with
            | lst hl ra =>
              obtain ⟨v', h3, h4⟩ := atI_rep ra h1
              exact .inl (.inl ⟨_, _, _, _, rfl, r2.val_int, SqL.of (hide_some.mp hl).2, h3, k' _ _ h2.symm h4⟩)
          · obtain ⟨d, h1, h2⟩ := Option.map_eq_some_iff.mp hs
            obtain ⟨v, w, e, r1, r2⟩ := hra.inv2
            cases e
            cases r1 with
            | tup hl ra =>
              obtain ⟨v', h3, h4⟩ := atI_rep ra h1
              exact .inl (.inr (.inl ⟨_, _, _, _, rfl, r2.val_int, SqT.of (hide_some.mp hl).2, h3, k' _ _ h2.symm h4⟩))
          · split at hs
            · rename_i hl
              obtain ⟨c, h1, h2⟩ := Option.map_eq_some_iff.mp hs
              obtain ⟨v, w, e, r1, r2⟩ := hra.inv2
              cases e
              exact .inl (.inr (.inr ⟨_, _, c, r1.val_str, r2.val_int, le_line hl, h1, k' _ _ h2.symm (.str _)⟩))
            · cases hs
          · split at hs
            · rename_i e' hd
              simp only [Option.some.injEq] at hs
              obtain ⟨v, w, e, r1, r2⟩ := hra.inv2
              cases e
              obtain ⟨a, ov, rfl, g, _, g3⟩ := dlook_get r1 r2 hd
              obtain ⟨z, ez, hz⟩ := g3 e' rfl
              subst ez
              exact .inr ⟨a, z, rfl, g.unhide, k' _ _ hs.symm hz⟩
            · cases hs
          · cases hs
    · cases hf
  · cases hf
end
end Ev

set_option Elab.async false
set_option linter.all false
set_option maxRecDepth 100000
set_option maxHeartbeats 4000000
namespace Ev
open PySem PySem.Spec PyProof.Rows L2

/-! ### slices -/
def cutD (xs : List D) (lo hi : Option Int) : List D := (xs.drop (HT.sIx xs.length 0 lo)).take (HT.sIx xs.length xs.length hi - HT.sIx xs.length 0 lo)
def slS (lo hi : Option Int) : D → Option R
  | .lst ds => some (.own (.lst (cutD ds lo hi)))
  | .str z => if z.length ≤ 16777216 then some (.val (.str (cutS z lo hi))) else none
  | .tup ds => if (decide (HT.sIx ds.length 0 lo = 0) && decide (HT.sIx ds.length ds.length hi = ds.length)) = true then none else some (.val (.tup (cutD ds lo hi)))
  | _ => none
/-- the parts that are written -/
def partS (l h : Bool) : List D → Option R
  | d :: ps => match l, h, ps with
    | true, true, [.int i, .int j] => slS (some i) (some j) d
    | true, false, [.int i] => slS (some i) none d
    | false, true, [.int j] => slS none (some j) d
    | false, false, [] => slS none none d
    | _, _, _ => none
  | [] => none
def slR {W : Type} (l h : Bool) : Rl W where
  form := fun _ e => match e with
    | .Subscript a (.Slice lo hi none _) _ => if (lo.isSome == l && hi.isSome == h) = true then some (a :: (lo.toList ++ hi.toList)) else none
    | _ => none
  sem := lift (partS l h)
section
variable {W : Type} {C : Cfg W} {lvl : Nat}
theorem RepAll.cut {K : PySem.W.Frag} {H : Hp} {vs : List V} {ds : List D} (r : RepAll K H vs ds) (lo hi : Option Int) : RepAll K H (cutV vs lo hi) (cutD ds lo hi) := by
  unfold cutV cutD
  rw [r.length]
  exact (r.drop _).take _
theorem sl_rd {X : Cx} (hK : X.K = C.K) {O : Addr → Prop} {H : Hp} {v : V} {d : D} {lo hi : Option Int} {res : R} {m : W} {Q : VK} (hv : Vw C O H m) (r : Rep C.K (hide O H) v d) (h : slS lo hi d = some res) (k : ∀ v H', Post C O H H' v res m → Q v H') :
    (rSlL X.K v lo hi H Q ∨ rSlS v lo hi H Q) ∨ rSlT X.K v lo hi H Q := by
  unfold slS at h
  split at h
  · simp only [Option.some.injEq] at h
    subst h
    cases r with
    | lst h1 ra =>
      refine .inl (.inl ⟨_, _, rfl, SqL.of (hide_some.mp h1).2, fun p hp => ?_⟩)
      obtain ⟨s, rr⟩ := new_lst (C := C) hp (ra.cut lo hi)
      exact k _ _ ⟨Ext.of s, Cfg.stay hv.wr s, rr⟩
  · split at h
    · rename_i hl
      simp only [Option.some.injEq] at h
      subst h
      exact .inl (.inr ⟨_, r.val_str, le_line hl, k _ _ (Post.refl hv (.str _))⟩)
    · cases h
  · split at h
    · cases h
    · rename_i hn
      simp only [Option.some.injEq] at h
      subst h
      cases r with
      | tup h1 ra =>
        refine .inr ⟨_, _, rfl, SqT.of (hide_some.mp h1).2, fun z => hn ?_, fun p hp => ?_⟩
        · rw [ra.length] at z
          simp [z.1, z.2]
        · obtain ⟨s, rr⟩ := new_tup (C := C) hv.dom hp (ra.cut lo hi)
          exact k _ _ ⟨Ext.of s, Cfg.stay hv.wr s, rr⟩
  · cases h
theorem part_ft {d : D} {ds : List D} {res : R} (h : partS false true (d :: ds) = some res) : ∃ j, ds = [.int j] ∧ slS none (some j) d = some res := by
  simp only [partS] at h
  split at h <;> first | (cases h; done) | (rename_i q; simp at q; done) | (rename_i q1 q2; simp at q1 q2; done) | exact ⟨_, rfl, h⟩ | simp_all
theorem part_tf {d : D} {ds : List D} {res : R} (h : partS true false (d :: ds) = some res) : ∃ j, ds = [.int j] ∧ slS (some j) none d = some res := by
  simp only [partS] at h
  split at h <;> first | (cases h; done) | (rename_i q; simp at q; done) | (rename_i q1 q2; simp at q1 q2; done) | exact ⟨_, rfl, h⟩ | simp_all
theorem part_tt {d : D} {ds : List D} {res : R} (h : partS true true (d :: ds) = some res) : ∃ i j, ds = [.int i, .int j] ∧ slS (some i) (some j) d = some res := by
  simp only [partS] at h
  split at h <;> first | (cases h; done) | (rename_i q; simp at q; done) | (rename_i q1 q2; simp at q1 q2; done) | exact ⟨_, _, rfl, h⟩ | simp_all
/-- a[i:j], the parts any values until the end -/
theorem pe_slice2 {X : Cx} {e lo hi : Expr} {p2 pos : Pos} {te tl th : TE} {r : V → Option Int → Option Int → Hp → VK → Prop} (hr : SlR X r) (he : PE X e te) (hl : PE X lo tl) (hu : PE X hi th) :
    PE X (.Subscript e (.Slice (some lo) (some hi) none p2) pos) (fun σ H Q => te σ H fun x H1 => tl σ H1 fun y H2 => th σ H2 fun z H3 => ∃ i j, y = .int i ∧ z = .int j ∧ r x (some i) (some j) H3 Q) := by
  refine ⟨fun pins s σ H Q I h => ?_⟩
  refine Subscript_ (thn (he.run pins s σ H _ I h) fun v s1 ⟨x, H1, I1, r1, q1⟩ => ?_)
  refine wpAny_Slice ?_
  rw [evalPart_some]
  refine thn (hl.run pins s1 σ H1 _ I1 q1) fun vl s2 ⟨y, H2, I2, pl, q2⟩ => ?_
  rw [evalPart_some]
  refine thn (hu.run pins s2 σ H2 _ I2 q2) fun vu s3 ⟨z, H3, I3, pu, q3⟩ => ?_
  obtain ⟨i, j, rfl, rfl, q3⟩ := q3
  obtain ⟨t, rfl⟩ := pl
  obtain ⟨t', rfl⟩ := pu
  rw [evalPart_none]
  refine wpAny_pure ?_
  have I4 : Inv X pins σ H3 { s3 with heap := s3.heap.push { cls := .type "slice", data := .fields #[.int i t, .int j t', .none] } } := I3.kept (t' := s3.toks) fun b ob q => Heap.get?_push_of_some _ q
  obtain ⟨T, id, hT, ht, hg⟩ := hr pins { s3 with heap := s3.heap.push { cls := .type "slice", data := .fields #[.int i t, .int j t', .none] } } σ H3 x v (.int i t) (.int j t') (some i) (some j) s3.heap.objs.size Q I4 r1 (Heap.IsSliceOf.new ..) (.int i t) (.int j t') q3
  show wpAny (model X.prog X.w) X.A (subscriptTail e (.Slice (some lo) (some hi) none p2) v (.ref s3.heap.objs.size)) (EP X pins σ Q) X.xe { s3 with heap := s3.heap.push { cls := .type "slice", data := .fields #[.int i t, .int j t', .none] } }
  exact tail_any (ops := [.ref s3.heap.objs.size, v]) ht hT hg (by with_unfolding_all rfl)
theorem ok_sl (l h : Bool) : RuleOk0 C lvl (slR l h) := by
  intro X N sc top hX e es ts hf hpe hst
  simp only [slR] at hf
  split at hf
  · rename_i a lo hi p1 p2
    split at hf
    · rename_i hb
      simp only [Bool.and_eq_true, beq_iff_eq] at hb
      obtain ⟨hb1, hb2⟩ := hb
      simp only [Option.some.injEq] at hf
      subst hf
      have core : ∀ {tl th : TO} {t0 : TE} {te : List TE}, PE X a t0 → MonoE t0 → PO X lo tl → PO X hi th → ts = t0 :: te →
          (∀ σ H x Q, tArgs te σ H (fun vs H1 => RSem C (lift (partS l h)) (x :: vs) H1 Q) → tl σ H fun i H1 => th σ H1 fun j H2 => (rSlL X.K x i j H2 Q ∨ rSlS x i j H2 Q) ∨ rSlT X.K x i j H2 Q) →
          PE X (.Subscript a (.Slice lo hi none p1) p2) (fun σ H Q => tArgs ts σ H (fun vs H1 => RSem C (lift (partS l h)) vs H1 Q)) := fun {tl th t0 te} h0 hm h1 h2 et g => by
        subst et
        refine (pe_slice ((sl_list.or sl_str).or sl_tup) h0 h1 h2).mono fun σ H Q q => ?_
        exact hm σ H _ _ (fun x H1 q => g σ H1 x Q q) q
      have gen : ∀ {vs : List V} {x : V} {H : Hp} {Q : VK}, RSem C (lift (partS l h)) (x :: vs) H Q → ∃ O d ds m res, Vw C O H m ∧ Rep C.K (hide O H) x d ∧ RepAll C.K (hide O H) vs ds ∧ partS l h (d :: ds) = some res ∧ ∀ v H', Post C O H H' v res m → Q v H' := fun {vs x H Q} q => by
        obtain ⟨O, ds, m, res, m', hv, hra, hs, k⟩ := q
        obtain ⟨hs1, em⟩ := lift_some (sem := partS l h) hs
        subst em
        cases hra with
        | cons r0 rr => exact ⟨O, _, _, m', res, hv, r0, rr, hs1, k⟩
      cases hpe with
      | @cons e0 es0 t0 ts0 h0 hm0 hr =>
        cases lo with
        | none =>
          cases hi with
          | none =>
            simp only [Option.isSome_none] at hb1 hb2
            subst hb1 hb2
            cases hr
            refine core h0 hm0 po_none po_none rfl fun σ H x Q q => ?_
            obtain ⟨O, d, ds, m, res, hv, r0, rr, hs, k⟩ := gen q
            cases rr
            exact sl_rd hX.K hv r0 hs k
          | some ej =>
            simp only [Option.isSome_none, Option.isSome_some] at hb1 hb2
            subst hb1 hb2
            cases hr with
            | @cons e1 es1 t1 ts1 g0 hm1 hr =>
              cases hr
              refine core h0 hm0 po_none (po_some g0) rfl fun σ H x Q q => ?_
              refine hm1 σ H _ _ (fun y H1 q => ?_) q
              obtain ⟨O, d, ds, m, res, hv, r0, rr, hs, k⟩ := gen q
              obtain ⟨j, rfl, hs⟩ := part_ft hs
              obtain ⟨w, e, r1⟩ := rr.inv1
              cases e
              exact ⟨j, r1.val_int, sl_rd hX.K hv r0 hs k⟩
        | some ei =>
          cases hi with
          | none =>
            simp only [Option.isSome_none, Option.isSome_some] at hb1 hb2
            subst hb1 hb2
            cases hr with
            | @cons e1 es1 t1 ts1 g0 hm1 hr =>
              cases hr
              refine core h0 hm0 (po_some g0) po_none rfl fun σ H x Q q => ?_
              refine hm1 σ H _ _ (fun y H1 q => ?_) q
              obtain ⟨O, d, ds, m, res, hv, r0, rr, hs, k⟩ := gen q
              obtain ⟨j, rfl, hs⟩ := part_tf hs
              obtain ⟨w, e, r1⟩ := rr.inv1
              cases e
              exact ⟨j, r1.val_int, sl_rd hX.K hv r0 hs k⟩
          | some ej =>
            simp only [Option.isSome_some] at hb1 hb2
            subst hb1 hb2
            cases hr with
            | @cons e1 es1 t1 ts1 g0 hm1 hr =>
              cases hr with
              | @cons e2 es2 t2 ts2 g1 hm2 hr =>
                cases hr
                refine (pe_slice2 ((sl_list.or sl_str).or sl_tup) h0 g0 g1).mono fun σ H Q q => ?_
                refine hm0 σ H _ _ (fun x H1 q => hm1 σ H1 _ _ (fun y H2 q => hm2 σ H2 _ _ (fun z H3 q => ?_) q) q) q
                obtain ⟨O, d, ds, m, res, hv, r0, rr, hs, k⟩ := gen q
                obtain ⟨i, j, rfl, hs⟩ := part_tt hs
                obtain ⟨w, w2, e, r1, r2⟩ := rr.inv2
                cases e
                exact ⟨i, j, r1.val_int, r2.val_int, sl_rd hX.K hv r0 hs k⟩
    · cases hf
  · cases hf
end
end Ev

set_option Elab.async false
set_option linter.all false
set_option maxRecDepth 100000
set_option maxHeartbeats 4000000
namespace Ev
open PySem PySem.Spec PyProof.Rows L2

section
variable {W : Type} {C : Cfg W} {lvl : Nat}
/-! ### builtin types by name -/
theorem ty_rule {name : Str} {sem : List D → Option R} {T : String} {r : Cx → List V → Hp → VK → Prop} (hc : ∀ X N sc top, CtxOk C lvl N sc top X → CallR X (.type T) (r X) ∧ PureV C (r X) sem) (hv : bootBuiltins name = some (.type T)) (hm : C.mg name = none)
    (hn : name ≠ "__name__" := by decide) (hd : (name == ("__debug__" : Str)) = false := by decide) : RuleOk0 C lvl (bltR name sem) := by
  intro X N sc top hX e es ts hf hpe hst
  simp only [bltR] at hf
  split at hf
  · rename_i x p a as pos
    split at hf
    · rename_i hcc
      simp only [Bool.and_eq_true, decide_eq_true_eq] at hcc
      obtain ⟨rfl, hg⟩ := hcc
      simp only [Option.some.injEq] at hf
      subst hf
      obtain ⟨h1, h2⟩ := hc X N sc top hX
      cases hpe with
      | @cons e0 es0 t0 ts0 h0 hm0 hr =>
        simp only [List.all_cons, Bool.and_eq_true] at hst
        refine (pe_callTy h1 (hX.gl hg) (by rw [hX.mg]; exact hm) hv (pa_cons h0 (hr.pa hst.2) (starEach_of hst.1)) hn hd (starEach_of hst.1) (star_any hst.2)).mono fun σ H Q q => ?_
        exact (PEs.cons h0 hm0 hr).mono q fun vs H1 q => h2.rsem q
    · cases hf
  · cases hf

/-! ### len, sum, min, max, int, str, list, tuple -/
def lenS : List D → Option R
  | [.lst ds] => some (.val (.int ds.length))
  | [.tup ds] => some (.val (.int ds.length))
  | [.str z] => if z.length ≤ 16777216 then some (.val (.int z.length)) else none
  | _ => none
theorem ok_len (hm : C.mg "len" = none) : RuleOk0 C lvl (bltR "len" lenS) := blt_rule (id := "len") (r := fun X xs H Q => ∃ x n, xs = [x] ∧ LenV X.K x H n ∧ Q (.int n) H) (fun X N sc top hX => ⟨call_len, fun O H vs ds res Q hO hr hs k => by
  unfold lenS at hs
  split at hs
  · simp only [Option.some.injEq] at hs
    subst hs
    obtain ⟨v, rfl, r⟩ := hr.inv1
    cases r with
    | lst h ra => exact ⟨_, _, rfl, .inl ⟨_, SqL.of (hide_some.mp h).2, rfl⟩, by rw [ra.length]; exact k _ _ (fun _ _ e => e) (.int _)⟩
  · simp only [Option.some.injEq] at hs
    subst hs
    obtain ⟨v, rfl, r⟩ := hr.inv1
    cases r with
    | tup h ra => exact ⟨_, _, rfl, .inr ⟨_, SqT.of (hide_some.mp h).2, rfl⟩, by rw [ra.length]; exact k _ _ (fun _ _ e => e) (.int _)⟩
  · split at hs
    · rename_i hl
      simp only [Option.some.injEq] at hs
      subst hs
      obtain ⟨v, rfl, r⟩ := hr.inv1
      rw [r.val_str]
      exact ⟨_, _, rfl, ⟨le_line hl, rfl⟩, k _ _ (fun _ _ e => e) (.int _)⟩
    · cases hs
  · cases hs⟩) PySem.boot_len hm
/-- the ints of a list -/
def D.ints : List D → Option (List Int)
  | [] => some []
  | .int i :: ds => match D.ints ds with | some ns => some (i :: ns) | none => none
  | _ => none
theorem ints_eq : ∀ {ds : List D} {ns : List Int}, D.ints ds = some ns → ds = ns.map D.int
  | [], ns, h => by simp only [D.ints, Option.some.injEq] at h; subst h; rfl
  | d :: ds, ns, h => by
    cases d with
    | int i =>
      simp only [D.ints] at h
      split at h
      · rename_i ms hm
        simp only [Option.some.injEq] at h
        subst h
        rw [ints_eq hm]; rfl
      · cases h
    | _ => simp [D.ints] at h
theorem ints_map : ∀ ns : List Int, D.ints (ns.map D.int) = some ns
  | [] => rfl
  | n :: ns => by rw [List.map_cons, D.ints, ints_map ns]
def sumS : List D → Option R
  | [.lst ds] => match D.ints ds with | some ns => some (.val (.int ns.sum)) | none => none
  | _ => none
theorem ok_sum (hm : C.mg "sum" = none) : RuleOk0 C lvl (bltR "sum" sumS) := blt_rule (id := "sum") (r := fun X => rSum X.K) (fun X N sc top hX => ⟨cr_sum hX.calm, fun O H vs ds res Q hO hr hs k => by
  unfold sumS at hs
  split at hs
  · split at hs
    · rename_i ns hn
      simp only [Option.some.injEq] at hs
      subst hs
      obtain ⟨v, rfl, r⟩ := hr.inv1
      rw [ints_eq hn] at r
      cases r with
      | lst h ra =>
        rw [ra.ints] at h
        exact ⟨_, ns, rfl, SqL.of (hide_some.mp h).2, k _ _ (fun _ _ e => e) (.int _)⟩
    · cases hs
  · cases hs⟩) (by decide +kernel) hm
def minS : List D → Option R
  | [.lst ds] => match D.ints ds with | some ns => (ns.min?).map fun m => .val (.int m) | none => none
  | [.int i, .int j] => some (.val (.int (if j < i then j else i)))
  | _ => none
def maxS : List D → Option R
  | [.lst ds] => match D.ints ds with | some ns => (ns.max?).map fun m => .val (.int m) | none => none
  | [.int i, .int j] => some (.val (.int (if j > i then j else i)))
  | _ => none
theorem min_uniq {ns : List Int} {m m' : Int} (h : ns.min? = some m) (h1 : m' ∈ ns) (h2 : ∀ y, y ∈ ns → m' ≤ y) : m' = m := by
  obtain ⟨g1, g2⟩ := List.min?_eq_some_iff.mp h
  have a1 := h2 m g1
  have a2 := g2 m' h1
  omega
theorem max_uniq {ns : List Int} {m m' : Int} (h : ns.max? = some m) (h1 : m' ∈ ns) (h2 : ∀ y, y ∈ ns → y ≤ m') : m' = m := by
  obtain ⟨g1, g2⟩ := List.max?_eq_some_iff.mp h
  have a1 := h2 m g1
  have a2 := g2 m' h1
  omega
theorem ok_min (hm : C.mg "min" = none) : RuleOk0 C lvl (bltR "min" minS) := blt_rule (id := "min") (r := fun X vs H Q => rMin X.K vs H Q ∨ ∃ i j, vs = [.int i, .int j] ∧ Q (.int (if j < i then j else i)) H) (fun X N sc top hX => ⟨CallR.or (cr_min hX.calm) (call_min2 hX.calm), fun O H vs ds res Q hO hr hs k => by
  unfold minS at hs
  split at hs
  · split at hs
    · rename_i ns hn
      obtain ⟨m, h1, h2⟩ := Option.map_eq_some_iff.mp hs
      subst h2
      obtain ⟨v, rfl, r⟩ := hr.inv1
      rw [ints_eq hn] at r
      cases r with
      | lst h ra =>
        rw [ra.ints] at h
        refine .inl ⟨_, ns, rfl, SqL.of (hide_some.mp h).2, ?_, fun m' q1 q2 => ?_⟩
        · cases ns with
          | nil => simp at h1
          | cons a b => simp
        · rw [min_uniq h1 q1 q2]
          exact k _ _ (fun _ _ e => e) (.int _)
    · cases hs
  · simp only [Option.some.injEq] at hs
    subst hs
    obtain ⟨v, w, rfl, r1, r2⟩ := hr.inv2
    rw [r1.val_int, r2.val_int]
    exact .inr ⟨_, _, rfl, k _ _ (fun _ _ e => e) (.int _)⟩
  · cases hs⟩) (by decide +kernel) hm
theorem ok_max (hm : C.mg "max" = none) : RuleOk0 C lvl (bltR "max" maxS) := blt_rule (id := "max") (r := fun X vs H Q => rMax X.K vs H Q ∨ ∃ i j, vs = [.int i, .int j] ∧ Q (.int (if j > i then j else i)) H) (fun X N sc top hX => ⟨CallR.or (cr_max hX.calm) (call_max2 hX.calm), fun O H vs ds res Q hO hr hs k => by
  unfold maxS at hs
  split at hs
  · split at hs
    · rename_i ns hn
      obtain ⟨m, h1, h2⟩ := Option.map_eq_some_iff.mp hs
      subst h2
      obtain ⟨v, rfl, r⟩ := hr.inv1
      rw [ints_eq hn] at r
      cases r with
      | lst h ra =>
        rw [ra.ints] at h
        refine .inl ⟨_, ns, rfl, SqL.of (hide_some.mp h).2, ?_, fun m' q1 q2 => ?_⟩
        · cases ns with
          | nil => simp at h1
          | cons a b => simp
        · rw [max_uniq h1 q1 q2]
          exact k _ _ (fun _ _ e => e) (.int _)
    · cases hs
  · simp only [Option.some.injEq] at hs
    subst hs
    obtain ⟨v, w, rfl, r1, r2⟩ := hr.inv2
    rw [r1.val_int, r2.val_int]
    exact .inr ⟨_, _, rfl, k _ _ (fun _ _ e => e) (.int _)⟩
  · cases hs⟩) (by decide +kernel) hm
def intS : List D → Option R
  | [.int i] => some (.val (.int i))
  | [.bl b] => some (.val (.int (if b then 1 else 0)))
  | _ => none
theorem ok_int (hm : C.mg "int" = none) : RuleOk0 C lvl (bltR "int" intS) := ty_rule (T := "int") (r := fun X xs H Q => (∃ i, xs = [.int i] ∧ Q (.int i) H) ∨ ∃ k, xs = [.bl k] ∧ Q (.int (if k then 1 else 0)) H) (fun X N sc top hX => ⟨call_int1, fun O H vs ds res Q hO hr hs k => by
  unfold intS at hs
  split at hs
  · simp only [Option.some.injEq] at hs
    subst hs
    obtain ⟨v, rfl, r⟩ := hr.inv1
    rw [r.val_int]
    exact .inl ⟨_, rfl, k _ _ (fun _ _ e => e) (.int _)⟩
  · simp only [Option.some.injEq] at hs
    subst hs
    obtain ⟨v, rfl, r⟩ := hr.inv1
    rw [r.val_bl]
    exact .inr ⟨_, rfl, k _ _ (fun _ _ e => e) (.int _)⟩
  · cases hs⟩) (by decide +kernel) hm
def strS : List D → Option R
  | [.int i] => if i.natAbs.log2 < 1920 then some (.val (.str (toString i : String))) else none
  | _ => none
theorem ok_str (hm : C.mg "str" = none) : RuleOk0 C lvl (bltR "str" strS) := ty_rule (T := "str") (r := fun X xs H Q => ∃ i, xs = [.int i] ∧ i.natAbs.log2 < 1920 ∧ Q (.str (toString i : String)) H) (fun X N sc top hX => ⟨call_str_int, fun O H vs ds res Q hO hr hs k => by
  unfold strS at hs
  split at hs
  · split at hs
    · rename_i hl
      simp only [Option.some.injEq] at hs
      subst hs
      obtain ⟨v, rfl, r⟩ := hr.inv1
      rw [r.val_int]
      exact ⟨_, rfl, hl, k _ _ (fun _ _ e => e) (.str _)⟩
    · cases hs
  · cases hs⟩) (by decide +kernel) hm
def listS : List D → Option R
  | [.lst ds] => some (.own (.lst ds))
  | [.tup ds] => some (.own (.lst ds))
  | _ => none
theorem ok_list (hm : C.mg "list" = none) : RuleOk0 C lvl (bltR "list" listS) := ty_rule (T := "list") (r := fun X xs H Q => ∃ p ys, xs = [.ref p] ∧ (SqL X.K H p ys ∨ SqT X.K H p ys) ∧ ∀ l, H l = none → Q (.ref l) (upd H l (.lst ys))) (fun X N sc top hX => ⟨call_list_of, fun O H vs ds res Q hO hr hs k => by
  unfold listS at hs
  split at hs
  · simp only [Option.some.injEq] at hs
    subst hs
    obtain ⟨v, rfl, r⟩ := hr.inv1
    cases r with
    | lst h ra =>
      refine ⟨_, _, rfl, .inl (SqL.of (hide_some.mp h).2), fun p hp => ?_⟩
      obtain ⟨s, rr⟩ := new_lst (C := C) hp ra
      exact k _ _ s rr
  · simp only [Option.some.injEq] at hs
    subst hs
    obtain ⟨v, rfl, r⟩ := hr.inv1
    cases r with
    | tup h ra =>
      refine ⟨_, _, rfl, .inr (SqT.of (hide_some.mp h).2), fun p hp => ?_⟩
      obtain ⟨s, rr⟩ := new_lst (C := C) hp ra
      exact k _ _ s rr
  · cases hs⟩) (by decide +kernel) hm
def tupleS : List D → Option R
  | [.lst ds] => some (.val (.tup ds))
  | [.tup ds] => some (.val (.tup ds))
  | _ => none
theorem ok_tuple (hm : C.mg "tuple" = none) : RuleOk0 C lvl (bltR "tuple" tupleS) := ty_rule (T := "tuple") (r := fun X xs H Q => ∃ p ys, xs = [.ref p] ∧ ((SqL X.K H p ys ∧ ∀ l, H l = none → Q (.ref l) (upd H l (.tup ys))) ∨ (SqT X.K H p ys ∧ Q (.ref p) H))) (fun X N sc top hX => ⟨call_tuple_of, fun O H vs ds res Q hO hr hs k => by
  unfold tupleS at hs
  split at hs
  · simp only [Option.some.injEq] at hs
    subst hs
    obtain ⟨v, rfl, r⟩ := hr.inv1
    cases r with
    | lst h ra =>
      refine ⟨_, _, rfl, .inl ⟨SqL.of (hide_some.mp h).2, fun p hp => ?_⟩⟩
      obtain ⟨s, rr⟩ := new_tup (C := C) hO hp ra
      exact k _ _ s rr
  · simp only [Option.some.injEq] at hs
    subst hs
    obtain ⟨v, rfl, r⟩ := hr.inv1
    cases r with
    | tup h ra => exact ⟨_, _, rfl, .inr ⟨SqT.of (hide_some.mp h).2, k _ _ (fun _ _ e => e) (.tup h ra)⟩⟩
  · cases hs⟩) (by decide +kernel) hm

/-! ### sorted, of data that can be compared -/
def pyD (d : D) : PyData := d.py.getD .none
def sortLe : D → D → Bool := PySem.W.dataLe false pyD
def sortable (ps : List PyData) : Bool := (ps.all fun p => ps.all fun q => PySem.W.alike p q) && ((ps.all fun p => match p with | .tuple (_ :: _) => true | _ => false) || (ps.all fun p => match p with | .none => false | .tuple _ => false | _ => true)) && (ps.all fun p => decide (p.depth ≤ 60))
def sortedS : List D → Option R
  | [.lst ds] => match D.pys ds with
    | some ps => if (sortable ps && decide (ds.length ≤ 16777216)) = true then some (.own (.lst (ds.mergeSort sortLe))) else none
    | none => none
  | _ => none
theorem pys_map : ∀ {ds : List D} {ps : List PyData}, D.pys ds = some ps → ds.map pyD = ps
  | [], ps, h => by simp only [D.pys, Option.some.injEq] at h; subst h; rfl
  | d :: ds, ps, h => by
    unfold D.pys at h
    split at h
    · rename_i p hp
      split at h
      · rename_i ps' hps
        simp only [Option.some.injEq] at h
        subst h
        rw [List.map_cons, pys_map hps]
        unfold pyD
        rw [hp]; rfl
      · cases h
    · cases h
def rSortedD (K : PySem.W.Frag) : List V → Hp → VK → Prop := fun vs H Q => ∃ (a : Addr) (xs : List V) (ds : List D) (ps : List PyData) (G : Hp), vs = [.ref a] ∧ SqL K H a xs ∧ RLe G H ∧ RepAll K G xs ds ∧ D.pys ds = some ps ∧ sortable ps = true ∧ ds.length ≤ 16777216 ∧
  ∀ ys p, RepAll K G ys (ds.mergeSort sortLe) → H p = none → Q (.ref p) (upd H p (.lst ys))
theorem each_of {X : Cx} {pins : List (Addr × Obj)} {σ : L2.St} {H G : Hp} {s : Shared} (I : Inv X pins σ H s) (e : RLe G H) : ∀ {xs : List V} {ds : List D} {us : List Value} {ps : List PyData}, Vals xs us → RepAll X.K G xs ds → D.pys ds = some ps →
    PySem.W.EachIs (fun u d => ∃ x, RelV x u ∧ Rep X.K G x d) us ds ∧ PySem.W.EachIs (fun u d => ∃ as, Reads s.heap u (pyD d) as) us ds
  | _, _, _, _, .nil, .nil, _ => ⟨.nil, .nil⟩
  | _, _, _, ps, .cons r t, .cons h rr, hp => by
    unfold D.pys at hp
    split at hp
    · rename_i p hp1
      split at hp
      · rename_i ps' hps
        obtain ⟨h1, h2⟩ := each_of I e t rr hps
        obtain ⟨as, ha⟩ := Dp.reads I p _ _ ((h.mono e).dp hp1) r
        refine ⟨.cons ⟨_, r, h⟩ h1, .cons ⟨as, ?_⟩ h2⟩
        unfold pyD
        rw [hp1]
        exact ha
      · cases hp
    · cases hp
theorem vals_each {K : PySem.W.Frag} {G : Hp} : ∀ {us : List Value} {ds : List D}, PySem.W.EachIs (fun u d => ∃ x, RelV x u ∧ Rep K G x d) us ds → ∃ ys, Vals ys us ∧ RepAll K G ys ds
  | _, _, .nil => ⟨[], .nil, .nil⟩
  | _, _, .cons ⟨x, r, h⟩ t => by
    obtain ⟨ys, h1, h2⟩ := vals_each t
    exact ⟨x :: ys, .cons r h1, .cons h h2⟩
theorem cr_sortedD {N : List Str} {sc : Scope} {top : Bool} {X : Cx} (hX : CtxOk C lvl N sc top X) : CallR X (.builtin "sorted") (rSortedD X.K) := by
  intro pins s σ H vs us Q I r h
  obtain ⟨a, xs, ds, ps, G, rfl, hs, he, hr, hp, hso, hlen, q⟩ := h
  obtain ⟨its, rv, hl, hz⟩ := I.list hs
  rw [Vals.ref1 r]
  obtain ⟨e1, e2⟩ := each_of I he rv hr hp
  have hm := pys_map hp
  unfold sortable at hso
  rw [Bool.and_eq_true, Bool.and_eq_true] at hso
  obtain ⟨⟨h1, h2⟩, h3⟩ := hso
  rw [List.all_eq_true] at h1 h3
  refine PySem.W.sorted_data (enc := pyD) hl.isList e1 e2 (fun d hd d' hd' => ?_) ?_ (le_line hlen) (fun d hd => ?_) fun out hol heach => ?_
  · rw [hm] at hd hd'
    exact (List.all_eq_true.mp (h1 d hd)) d' hd'
  · rw [hm]
    rw [Bool.or_eq_true] at h2
    rcases h2 with h2 | h2
    · refine .inl fun d hd => ?_
      have := (List.all_eq_true.mp h2) d hd
      split at this
      · exact ⟨_, _, rfl⟩
      · cases this
    · refine .inr fun d hd => ?_
      have := (List.all_eq_true.mp h2) d hd
      constructor
      · rintro rfl; simp at this
      · rintro xs rfl; simp at this
  · have h4 := of_decide_eq_true (h3 (pyD d) (by rw [← hm]; exact List.mem_map.mpr ⟨d, hd, rfl⟩))
    have := hX.u64
    omega
  · obtain ⟨ys, h5, h6⟩ := vals_each heach
    obtain ⟨ep, he'⟩ := PyProof.Rows.sortedAll_at s.heap its out.toArray
    have hys : ys.length ≤ sizeLine := by rw [h6.length, List.length_mergeSort]; exact le_line hlen
    exact ⟨.ref _, upd H (s.heap.objs.size + 1) (.lst ys), I.laid (t' := s.toks) (fun _ _ => PyProof.Rows.sortedAll_old) (Nat.le_succ _) ⟨hys, out, ep, h5, he'⟩, rfl, q ys _ h6 (I.hok.fresh (Nat.le_succ _))⟩
theorem ok_sorted (hm : C.mg "sorted" = none) : RuleOk0 C lvl (bltR "sorted" sortedS) := blt_rule (id := "sorted") (r := fun X => rSortedD X.K) (fun X N sc top hX => ⟨cr_sortedD hX, fun O H vs ds res Q hO hr hs k => by
  unfold sortedS at hs
  split at hs
  · split at hs
    · rename_i ps hp
      split at hs
      · rename_i hc
        simp only [Bool.and_eq_true, decide_eq_true_eq] at hc
        simp only [Option.some.injEq] at hs
        subst hs
        obtain ⟨v, rfl, r⟩ := hr.inv1
        cases r with
        | lst h ra =>
          refine ⟨_, _, _, ps, hide O H, rfl, SqL.of (hide_some.mp h).2, RLe.of hide_same, by rw [hX.K]; exact ra, hp, hc.1, hc.2, fun ys p hy hp => ?_⟩
          rw [hX.K] at hy
          obtain ⟨s, rr⟩ := new_lst (C := C) hp hy
          exact k _ _ s rr
      · cases hs
    · cases hs
  · cases hs⟩) (by decide +kernel) hm

/-! ### isinstance with a builtin type -/
def isTy (T : String) (d : D) : Option Bool := match d with
  | .bl _ => some (T == "bool" || T == "int")
  | .int _ => some (T == "int")
  | .str _ => some (T == "str")
  | .lst _ => some (T == "list")
  | .tup _ => some (T == "tuple")
  | .non => some false
  | _ => none
def tyN (T : String) : Bool := T == "bool" || T == "int" || T == "str" || T == "list" || T == "tuple"
def isiR {W : Type} (T : String) : Rl W where
  form := fun sc e => match e with
    | .Call (.Name f _) [a, .Name x _] [] _ => if (decide (f = ("isinstance" : Str)) && decide (x = (T : Str)) && glb sc f && glb sc x && tyN T) = true then some [a] else none
    | _ => none
  sem := lift fun ds => match ds with | [d] => (isTy T d).map fun b => .val (.bl b) | _ => none
theorem ok_isi {T : String} (hm : C.mg "isinstance" = none) (hT : C.mg (T : Str) = none) : RuleOk0 C lvl (isiR T) := by
  intro X N sc top hX e es ts hf hpe hst
  simp only [isiR] at hf
  split at hf
  · rename_i f p1 a x p2 pos
    split at hf
    · rename_i hc
      simp only [Bool.and_eq_true, decide_eq_true_eq] at hc
      obtain ⟨⟨⟨⟨rfl, rfl⟩, hg1⟩, hg2⟩, hn⟩ := hc
      simp only [Option.some.injEq] at hf
      subst hf
      have ty : bootBuiltins (T : Str) = some (.type T) ∧ (T : Str) ≠ "__name__" ∧ ((T : Str) == ("__debug__" : Str)) = false := by
        unfold tyN at hn
        simp only [Bool.or_eq_true, beq_iff_eq] at hn
        rcases hn with (((rfl | rfl) | rfl) | rfl) | rfl <;> exact ⟨by decide +kernel, by decide, by decide⟩
      have pT : PE X (.Name (T : Str) p2) (tC (.ty T)) := pe_bltn (hX.gl hg2) (by rw [hX.mg]; exact hT) ty.1 rfl ty.2.1 ty.2.2
      simp only [List.all_cons, List.all_nil, Bool.and_true] at hst
      cases hpe with
      | @cons e0 es0 t0 ts0 h0 hm0 hr =>
        cases hr
        refine (pe_callB call_isi (hX.gl hg1) (by rw [hX.mg]; exact hm) (by decide +kernel) (pa_cons h0 (pa_cons pT pa_nil rfl) (starEach_of hst)) (by decide) (by decide) (starEach_of hst) rfl).mono fun σ H Q q => ?_
        refine hm0 σ H _ _ (fun v H1 q => ?_) q
        obtain ⟨O, ds, m, res, m', hv, hra, hs, k⟩ := q
        obtain ⟨hs1, em⟩ := lift_some (sem := fun ds => match ds with | [d] => (isTy T d).map fun b => .val (.bl b) | _ => none) hs
        subst em
        cases hra with
        | cons r0 rr =>
          cases rr
          obtain ⟨b, h1, h2⟩ := Option.map_eq_some_iff.mp hs1
          subst h2
          have fin : Q (.bl b) H1 := k _ _ (Post.refl hv (.bl b))
          unfold tyN at hn
          simp only [Bool.or_eq_true, beq_iff_eq] at hn
          have mk : ∀ {t : String}, TyOf X.K H1 v (.type t) → kitB t T = some b → rIsi X.K [v, .ty T] H1 Q := fun {t} h e => ⟨v, .ty T, .type t, .type T, b, rfl, .ty T, .base h, kit_ty e, fin⟩
          unfold isTy at h1
          split at h1 <;> (try (cases h1; done)) <;> simp only [Option.some.injEq] at h1 <;> subst h1
          · cases r0
            refine mk (t := "bool") (.bl _) ?_
            rcases hn with (((rfl | rfl) | rfl) | rfl) | rfl <;> decide +kernel
          · cases r0
            refine mk (t := "int") (.int _) ?_
            rcases hn with (((rfl | rfl) | rfl) | rfl) | rfl <;> decide +kernel
          · cases r0
            refine mk (t := "str") (.str _) ?_
            rcases hn with (((rfl | rfl) | rfl) | rfl) | rfl <;> decide +kernel
          · cases r0 with
            | lst h ra =>
              refine mk (t := "list") (.lst (hide_some.mp h).2) ?_
              rcases hn with (((rfl | rfl) | rfl) | rfl) | rfl <;> decide +kernel
          · cases r0 with
            | tup h ra =>
              refine mk (t := "tuple") (.tup (hide_some.mp h).2) ?_
              rcases hn with (((rfl | rfl) | rfl) | rfl) | rfl <;> decide +kernel
          · cases r0
            refine mk (t := "NoneType") .non ?_
            rcases hn with (((rfl | rfl) | rfl) | rfl) | rfl <;> decide +kernel
    · cases hf
  · cases hf
end
end Ev

set_option Elab.async false
set_option linter.all false
set_option maxRecDepth 100000
set_option maxHeartbeats 4000000
namespace Ev
open PySem PySem.Spec PyProof.Rows L2

def nbase : Expr → Bool
  | .Call (.Name _ _) [] [] _ => false
  | _ => true
theorem nbase_ok {o : Expr} {attr : Str} {env : Env} {whole : Sem Value} (h : nbase o = true) : attributeBase o attr env whole = whole := by
  unfold attributeBase
  split
  · simp [nbase] at h
  · rfl
section
variable {W : Type} {C : Cfg W} {lvl : Nat}

/-! ### methods of texts -/
def methR {W : Type} (name : Str) (sem : List D → Option R) : Rl W where
  form := fun _ e => match e with
    | .Call (.Attribute o x apos) (a :: as) [] pos => if (decide (x = name) && nbase o && (apos.endLine == pos.line) && decide ((a :: as).length < 20)) = true then some (o :: a :: as) else none
    | _ => none
  sem := lift sem
theorem few_ok {env : Env} {pos : Pos} {es : List Expr} (h : es.all notStar = true) (hl : es.length < 20) : ((backTo pos (starEach es env)).all (fun x => !x.1) && (backToKw pos (keywordEach [] env)).all (fun x => x.1.isSome)
      && decide (es.length + ([] : List Keyword).length + (if ([] : List Keyword).isEmpty then 0 else 1) < 30)) = true := by
  rw [star_all h]
  simp [keywordEach, backToKw]
  omega
theorem meth_rule {name : Str} {sem : List D → Option R} {id : String} {r : V → List V → Hp → VK → Prop} (pa : PlainAttrs "str") (slot : Slot "str" name id) (hty : typeOf (.builtin id) = pure (.type "method_descriptor")) (hm : ∀ X : Cx, MtR X id r)
    (hs : ∀ ds res, sem ds = some res → ∃ z es, ds = .str z :: es)
    (hc : ∀ (O : Addr → Prop) H x vs ds res Q, (∀ a, O a → H a ≠ none) → RepAll C.K (hide O H) (x :: vs) ds → sem ds = some res → (∀ v H', Same H H' → RRep C O H H' v res → Q v H') → r x vs H Q) : RuleOk C lvl (methR name sem) := by
  intro X N sc top hX e es use xs hf hpe hst
  simp only [methR] at hf
  split at hf
  · rename_i o x apos a as pos
    split at hf
    · rename_i hcc
      simp only [Bool.and_eq_true, decide_eq_true_eq] at hcc
      obtain ⟨⟨⟨rfl, hb⟩, hl⟩, hn⟩ := hcc
      simp only [Option.some.injEq] at hf
      subst hf
      cases xs with
      | nil => cases hpe
      | cons x0 xs0 =>
        cases hpe with
        | @cons e0 es0 t0 ts0 h0 hm0 hr =>
          simp only [List.all_cons, Bool.and_eq_true] at hst
          have hst2 : (a :: as).all notStar = true := by simp [hst.2]
          refine (pe_bm pa slot hty (hm X) h0 (hr.pa hst2) (nbase_ok hb) (few_ok hst2 hn) hl (starEach_of hst.2.1) (star_any (by simpa using hst.2.2))).mono fun σ H Q q => ?_
          obtain ⟨O, sl, m, r', m', hw, ho, he, k⟩ := q
          unfold ev at he
          split at he
          · rename_i ds m1 h1
            unfold evs at h1
            split at h1
            · rename_i r0 m0 hx
              split at h1
              · rename_i ds0 m2 hxs
                simp only [Option.some.injEq, Prod.mk.injEq] at h1
                obtain ⟨rfl, rfl⟩ := h1
                obtain ⟨he1, em⟩ := lift_some (sem := sem) he
                subst em
                obtain ⟨z, es', hz⟩ := hs _ _ he1
                injection hz with hz1 hz2
                refine ⟨O, sl, m, r0, m0, hw, ho, hx, fun v H1 p1 => ?_⟩
                have r1 := p1.rep.rep hw
                refine ⟨?_, ?_⟩
                · rw [hz1] at r1
                  rw [r1.val_str]
                  rfl
                · refine args_ev xs0 (p1.step hw) (ho.ext hw p1.ext) hxs fun vs H2 e2 w2 r2 => ?_
                  have hw2 := (p1.step hw).ext e2 w2
                  refine hc O H2 v vs _ r' Q hw2.dom (.cons (r1.mono (RLe.of (e2.hide hw.sub))) r2) he1 fun w H3 s3 rr => ?_
                  exact k w H3 (Post.back (p1.ext.trans e2) ⟨Ext.of s3, Cfg.stay hw2.wr s3, rr⟩ hw2 fun a ha => (p1.ext.trans e2).none hw2.wr ha)
              · cases h1
            · cases h1
          · cases he
    · cases hf
  · cases hf
def findS : List D → Option R
  | [.str a, .str b] => some (.val (.int (Txt.find a b)))
  | _ => none
theorem ok_find : RuleOk C lvl (methR "find" findS) := meth_rule (id := "str.find") PySem.F.plainAttrs_str PySem.F.slot_str_find PySem.F.type_str_find (fun X => mt_find) (fun ds res h => by
  unfold findS at h
  split at h
  · exact ⟨_, _, rfl⟩
  · cases h) fun O H x vs ds res Q hO hr hs k => by
  unfold findS at hs
  split at hs
  · simp only [Option.some.injEq] at hs
    subst hs
    obtain ⟨v, w, e, r1, r2⟩ := hr.inv2
    cases e
    exact ⟨_, _, r1.val_str, by rw [r2.val_str], k _ _ (fun _ _ e => e) (.int _)⟩
  · cases hs

/-! ### what is walked -/
def notSet : Expr → Bool
  | .Set _ _ _ => false
  | _ => true
theorem folded_no {e : Expr} {env : Env} (h : notSet e = true) : ∀ x, foldedSetIterable e env x = pure x := by
  intro x
  cases e <;> first | rfl | (simp [notSet] at h)
def itList : ItR where
  form := fun _ e => if notSet e = true then some [e] else none
  sem := fun ds => match ds with | [.lst xs] => some xs | _ => none
def itTup : ItR where
  form := fun _ e => if notSet e = true then some [e] else none
  sem := fun ds => match ds with | [.tup xs] => some xs | _ => none
def upTo (lo : Int) (n : Nat) : List D := (List.range n).map fun (i : Nat) => D.int (lo + i)
def itRng1 : ItR where
  form := fun sc e => match e with | .Call (.Name x _) [a] [] _ => if (decide (x = ("range" : Str)) && glb sc x) = true then some [a] else none | _ => none
  sem := fun ds => match ds with | [.int j] => if -1000000000 ≤ j ∧ j ≤ 1000000000 then some (upTo 0 j.toNat) else none | _ => none
def itRng2 : ItR where
  form := fun sc e => match e with | .Call (.Name x _) [a, b] [] _ => if (decide (x = ("range" : Str)) && glb sc x) = true then some [a, b] else none | _ => none
  sem := fun ds => match ds with | [.int i, .int j] => if -1000000000 ≤ i ∧ i ≤ 1000000000 ∧ -1000000000 ≤ j ∧ j ≤ 1000000000 then some (upTo i (j - i).toNat) else none | _ => none
theorem upTo_get {lo : Int} {n i : Nat} (h : i < n) : (upTo lo n)[i]? = some (.int (lo + i)) := by
  unfold upTo
  rw [List.getElem?_map, List.getElem?_range h]
  rfl
theorem upTo_length {lo : Int} {n : Nat} : (upTo lo n).length = n := by simp [upTo]
theorem itw_range {K : PySem.W.Frag} {O : Addr → Prop} {H : Hp} {lo : Int} {n : Nat} : ItW K O H (Itr lo n) (upTo lo n) := by
  intro O' H' h1 h2
  rw [upTo_length]
  refine ⟨fun i hi => hi, Nat.le_refl _, fun i x H2 hi hy => ?_⟩
  obtain ⟨rfl, rfl⟩ := hy
  exact ⟨fun _ _ e => e, _, upTo_get hi, .int _⟩
theorem hide_to {O O' : Addr → Prop} {Hb H H' : Hp} (h1 : ∀ a, O' a → O a ∨ Hb a = none) (h2 : ∀ a o, Hb a = some o → ¬ O a → H a = some o) (s : Same H H') : Same (hide O Hb) (hide O' H') := same_hide fun a o q1 q2 => ⟨fun z => (h1 a z).elim q1 fun z => (by rw [z] at q2; cases q2), s a o (h2 a o q2 q1)⟩
theorem itw_list {K : PySem.W.Frag} {O : Addr → Prop} {H : Hp} {a : Addr} {vs : List V} {ds : List D} (h : hide O H a = some (.lst vs)) (r : RepAll K (hide O H) vs ds) : ItW K O H (Itl K a) ds := by
  intro O' H' h1 h2
  obtain ⟨hn, ha⟩ := hide_some.mp h
  have hq : SqL K H' a vs := SqL.of (h2 a _ ha hn)
  have hl := r.length
  refine ⟨fun i hi => ⟨vs, vs[i]'(by omega), hq, by simp [show i < vs.length by omega]⟩, ⟨vs, hq, by omega⟩, fun i x H2 hi hy => ?_⟩
  obtain ⟨rfl, hx⟩ := hy
  obtain ⟨d, e1, e2⟩ := r.get' (hx vs hq)
  exact ⟨fun _ _ e => e, d, e1, e2.mono (RLe.of (hide_to h1 h2 fun _ _ e => e))⟩
theorem itw_tup {K : PySem.W.Frag} {O : Addr → Prop} {H : Hp} {a : Addr} {vs : List V} {ds : List D} (h : hide O H a = some (.tup vs)) (r : RepAll K (hide O H) vs ds) : ItW K O H (Itt K a) ds := by
  intro O' H' h1 h2
  obtain ⟨hn, ha⟩ := hide_some.mp h
  have hq : SqT K H' a vs := SqT.of (h2 a _ ha hn)
  have hl := r.length
  refine ⟨fun i hi => ⟨vs, vs[i]'(by omega), hq, by simp [show i < vs.length by omega]⟩, ⟨vs, hq, by omega⟩, fun i x H2 hi hy => ?_⟩
  obtain ⟨rfl, hx⟩ := hy
  obtain ⟨d, e1, e2⟩ := r.get' (hx vs hq)
  exact ⟨fun _ _ e => e, d, e1, e2.mono (RLe.of (hide_to h1 h2 fun _ _ e => e))⟩
theorem _root_.L2.PI.mono {X : Cx} {tg e : Expr} {w w' : TI} (h : PI X tg e w) (f : ∀ σ H R, w' σ H R → w σ H R) : PI X tg e w' := ⟨fun pins s σ H R I q => h.run pins s σ H R I (f σ H R q)⟩
theorem ok_itList : ItOk C lvl itList := by
  intro X N sc top hX tg e es ts hf hpe hst
  simp only [itList] at hf
  split at hf
  · rename_i hn
    simp only [Option.some.injEq] at hf
    subst hf
    refine ⟨?_, folded_no hn⟩
    cases hpe with
    | @cons e0 es0 t0 ts0 h0 hm0 hr =>
      cases hr
      refine (pi_list h0).mono fun σ H Rk q => ?_
      refine hm0 σ H _ _ (fun x H1 q => ?_) q
      obtain ⟨O, ds, items, hO, hra, hs, k⟩ := q
      cases hra with
      | cons r0 rr =>
        cases rr
        simp only [itList] at hs
        split at hs
        · rename_i xs heq
          injection heq with heq _
          subst heq
          simp only [Option.some.injEq] at hs
          subst hs
          cases r0 with
          | lst h ra =>
            refine ⟨_, rfl, ⟨_, SqL.of (hide_some.mp h).2⟩, k _ H1 (fun _ _ e => e) ?_⟩
            rw [hX.K]
            exact itw_list h ra
        · cases hs
  · cases hf
theorem ok_itTup : ItOk C lvl itTup := by
  intro X N sc top hX tg e es ts hf hpe hst
  simp only [itTup] at hf
  split at hf
  · rename_i hn
    simp only [Option.some.injEq] at hf
    subst hf
    refine ⟨?_, folded_no hn⟩
    cases hpe with
    | @cons e0 es0 t0 ts0 h0 hm0 hr =>
      cases hr
      refine (pi_tup h0).mono fun σ H Rk q => ?_
      refine hm0 σ H _ _ (fun x H1 q => ?_) q
      obtain ⟨O, ds, items, hO, hra, hs, k⟩ := q
      cases hra with
      | cons r0 rr =>
        cases rr
        simp only [itTup] at hs
        split at hs
        · rename_i xs heq
          injection heq with heq _
          subst heq
          simp only [Option.some.injEq] at hs
          subst hs
          cases r0 with
          | tup h ra =>
            refine ⟨_, rfl, ⟨_, SqT.of (hide_some.mp h).2⟩, k _ H1 (fun _ _ e => e) ?_⟩
            rw [hX.K]
            exact itw_tup h ra
        · cases hs
  · cases hf
theorem ok_itRng1 (hm : C.mg "range" = none) : ItOk C lvl itRng1 := by
  intro X N sc top hX tg e es ts hf hpe hst
  simp only [itRng1] at hf
  split at hf
  · rename_i x p a pos
    split at hf
    · rename_i hcc
      simp only [Bool.and_eq_true, decide_eq_true_eq] at hcc
      obtain ⟨rfl, hg⟩ := hcc
      simp only [Option.some.injEq] at hf
      subst hf
      refine ⟨?_, folded_no rfl⟩
      cases hpe with
      | @cons e0 es0 t0 ts0 h0 hm0 hr =>
        cases hr
        simp only [List.all_cons, List.all_nil, Bool.and_true] at hst
        refine (pi_range1 (hX.gl hg) (by rw [hX.mg]; exact hm) (pa_cons h0 pa_nil (starEach_of hst)) (starEach_of hst)).mono fun σ H Rk q => ?_
        refine hm0 σ H _ _ (fun x H1 q => ?_) q
        obtain ⟨O, ds, items, hO, hra, hs, k⟩ := q
        cases hra with
        | cons r0 rr =>
          cases rr
          simp only [itRng1] at hs
          split at hs
          · rename_i j heq
            injection heq with heq _
            subst heq
            split at hs
            · rename_i hb
              simp only [Option.some.injEq] at hs
              subst hs
              rw [r0.val_int]
              exact ⟨j, rfl, by omega, by omega, k _ H1 (fun _ _ e => e) itw_range⟩
            · cases hs
          · cases hs
    · cases hf
  · cases hf
theorem ok_itRng2 (hm : C.mg "range" = none) : ItOk C lvl itRng2 := by
  intro X N sc top hX tg e es ts hf hpe hst
  simp only [itRng2] at hf
  split at hf
  · rename_i x p a b pos
    split at hf
    · rename_i hcc
      simp only [Bool.and_eq_true, decide_eq_true_eq] at hcc
      obtain ⟨rfl, hg⟩ := hcc
      simp only [Option.some.injEq] at hf
      subst hf
      refine ⟨?_, folded_no rfl⟩
      cases hpe with
      | @cons e0 es0 t0 ts0 h0 hm0 hr =>
        cases hr with
        | @cons e1 es1 t1 ts1 g0 hm1 hr =>
          cases hr
          simp only [List.all_cons, List.all_nil, Bool.and_true, Bool.and_eq_true] at hst
          refine (pi_range2 (hX.gl hg) (by rw [hX.mg]; exact hm) (pa_cons h0 (pa_cons g0 pa_nil (starEach_of hst.2)) (starEach_of hst.1)) (by rw [starEach_of hst.1, starEach_of hst.2]; rfl) (starEach_of hst.2)).mono fun σ H Rk q => ?_
          refine hm0 σ H _ _ (fun x H1 q => hm1 σ H1 _ _ (fun y H2 q => ?_) q) q
          obtain ⟨O, ds, items, hO, hra, hs, k⟩ := q
          cases hra with
          | cons r0 rr =>
            cases rr with
            | cons r1 rr =>
              cases rr
              simp only [itRng2] at hs
              split at hs
              · rename_i i j heq
                injection heq with heq heq2
                injection heq2 with heq2 _
                subst heq heq2
                split at hs
                · rename_i hb
                  simp only [Option.some.injEq] at hs
                  subst hs
                  rw [r0.val_int, r1.val_int]
                  exact ⟨i, j, rfl, ⟨by omega, by omega, by omega, by omega⟩, k _ H2 (fun _ _ e => e) itw_range⟩
                · cases hs
              · cases hs
    · cases hf
  · cases hf

/-! ### what changes an object of ours -/
def mAppend : MutR where
  form := fun _ st => match st with
    | .Expr (.Call (.Attribute (.Name y _) x apos) [e] [] pos) _ => if (decide (x = ("append" : Str)) && (apos.endLine == pos.line)) = true then some (y, [e]) else none
    | _ => none
  sem := fun d ds => match d, ds with | .lst xs, [e] => if xs.length < 16777216 then some (.lst (xs ++ [e])) else none | _, _ => none
theorem own_lst {K : PySem.W.Frag} {G H : Hp} {a : Addr} {ds : List Ev.D} (h : OwnC K G H a (D.lst ds)) : ∃ vs : List V, H a = some (HO.lst vs) ∧ RepAll K G vs ds := h
theorem ok_append : MutOk C lvl mAppend := by
  intro X N sc top hX st y es ts i hf hy hpe hst
  simp only [mAppend] at hf
  split at hf
  · rename_i y' p x apos e pos p2
    split at hf
    · rename_i hcc
      simp only [Bool.and_eq_true, decide_eq_true_eq] at hcc
      obtain ⟨rfl, hl⟩ := hcc
      simp only [Option.some.injEq, Prod.mk.injEq] at hf
      obtain ⟨rfl, rfl⟩ := hf
      cases hpe with
      | @cons e0 es0 t0 ts0 h0 hm0 hr =>
        cases hr
        refine (ps_expr (pe_bm PySem.F.plainAttrs_list PySem.F.slot_list_append PySem.F.type_list_append mt_append (hy p) (pa_cons h0 pa_nil (starEach_of (by simpa using hst))) rfl (few_ok hst (by simp)) hl (starEach_of (by simpa using hst)) rfl)).mono fun D σ H q => ?_
        obtain ⟨a, G0, d, ds, d', hs, hσ, hc0, q⟩ := q
        simp only [mAppend] at hs
        split at hs
        · rename_i xs e'
          split at hs
          · rename_i hlen
            simp only [Option.some.injEq] at hs
            subst hs
            refine ⟨_, hσ, ?_, ?_⟩
            · obtain ⟨vs, h1, _⟩ := own_lst hc0
              exact .inl ⟨rfl, vs, SqL.of h1⟩
            · refine hm0 σ H _ _ (fun v H1 q => ?_) q
              obtain ⟨G, hc, hle, hra, k⟩ := q
              obtain ⟨vs, h1, h2⟩ := own_lst hc
              have e := h2.length
              refine ⟨a, vs, v, rfl, rfl, h1, ?_, k _ ⟨vs ++ [v], upd_same, h2.append hra⟩⟩
              have : sizeLine = 16777216 := by decide
              omega
          · cases hs
        · cases hs
    · cases hf
  · cases hf
/-- x[i] = e: of a list, of a dict; the operands: e, i -/
def mSet : MutR where
  form := fun _ st => match st with
    | .Assign [.Subscript (.Name y _) i _] v _ => if (ixE i && noComp v) = true then some (y, [v, i]) else none
    | _ => none
  sem := fun d ds => match d, ds with
    | .lst xs, [v, .int k] => (ixN xs.length k).map fun j => .lst (xs.set j v)
    | .dK ks vs, [v, k] => (match k.key with | some kk => if (ks.length < 16777216 ∧ ks.length = vs.length) then some (.dK (dput ks vs kk v).1 (dput ks vs kk v).2) else none | none => none)
    | .dT ks vs, [v, .tup k] => (match D.keys k with | some kk => if (ks.length < 16777216 ∧ ks.length = vs.length) then some (.dT (dput ks vs kk v).1 (dput ks vs kk v).2) else none | none => none)
    | _, _ => none
theorem zip_maps {α β : Type} (l : List (α × β)) : (l.map (·.1)).zip (l.map (·.2)) = l := by
  induction l with
  | nil => rfl
  | cons p l ih => simp [ih]
theorem putK_dput {κ : Type} [DecidableEq κ] {K : PySem.W.Frag} {G : Hp} {ks : List κ} {ws : List V} {vs : List Ev.D} (r : RepAll K G ws vs) (hl : ks.length = ws.length) (k : κ) {w : V} {v : Ev.D} (rv : Rep K G w v) :
    ∃ ws', (dput ks vs k v).1.length = ws'.length ∧ putK (ks.zip ws) k w = (dput ks vs k v).1.zip ws' ∧ RepAll K G ws' (dput ks vs k v).2 := by
  have hlen := r.length
  have any_eq : ((ks.zip ws).any fun p => decide (p.1 = k)) = ((ks.zip vs).any fun p => decide (p.1 = k)) := by
    clear rv
    induction ks generalizing ws vs with
    | nil => rfl
    | cons q ks ih =>
      cases r with
      | nil => simp at hl
      | cons h r => simp only [List.zip_cons_cons, List.any_cons, ih r (by simpa using hl) r.length]
  have keys1 : ((putK (ks.zip ws) k w).map (·.1)) = (dput ks vs k v).1 := by
    unfold putK dput
    rw [any_eq]
    by_cases h : ((ks.zip vs).any fun p => decide (p.1 = k)) = true
    · simp only [h, if_true, List.map_map]
      have e1 : ((fun x : κ × V => x.1) ∘ fun kv : κ × V => if kv.1 = k then (kv.1, w) else kv) = fun x => x.1 := by
        funext x; simp only [Function.comp]; split <;> rfl
      have e2 : ((fun x : κ × Ev.D => x.1) ∘ fun kv : κ × Ev.D => if kv.1 = k then (kv.1, v) else kv) = fun x => x.1 := by
        funext x; simp only [Function.comp]; split <;> rfl
      rw [e1, e2, List.map_fst_zip (by omega), List.map_fst_zip (by omega)]
    · simp only [h, if_false, List.map_append, List.map_cons, List.map_nil]
      simp only [Bool.false_eq_true, if_false, List.map_append, List.map_cons, List.map_nil]
      rw [List.map_fst_zip (by omega), List.map_fst_zip (by omega)]
  refine ⟨(putK (ks.zip ws) k w).map (·.2), ?_, ?_, ?_⟩
  · rw [← keys1, List.length_map, List.length_map]
  · rw [← keys1, zip_maps]
  · unfold putK dput
    rw [any_eq]
    by_cases h : ((ks.zip vs).any fun p => decide (p.1 = k)) = true
    · simp only [h, if_true]
      clear any_eq keys1 h
      induction ks generalizing ws vs with
      | nil => exact .nil
      | cons q ks ih =>
        cases r with
        | nil => simp at hl
        | cons h r =>
          simp only [List.zip_cons_cons, List.map_cons]
          refine .cons ?_ (ih r (by simpa using hl) r.length)
          by_cases e : q = k
          · simp only [e, if_true]; exact rv
          · simp only [e, if_false]; exact h
    · simp only [h, if_false, Bool.false_eq_true, List.map_append, List.map_cons, List.map_nil]
      rw [List.map_snd_zip (by omega), List.map_snd_zip (by omega)]
      exact r.append (.one rv)
theorem _root_.L2.PS.or {X : Cx} {st : Stmt} {t t' : TS} (h : PS X st t) (h' : PS X st t') : PS X st (fun D σ H => t D σ H ∨ t' D σ H) := ⟨fun pins s σ H D I q => q.elim (h.run pins s σ H D I) (h'.run pins s σ H D I)⟩
theorem sub_assign {o i : Expr} {pos : Pos} {env : Env} (h : ixE i = true) : ∀ v, assign (.Subscript o i pos) env v = (do
      let ov ← holding [v] (eval o env)
      let iv ← holding [v, ov] (eval i env)
      standAt pos
      holding [v, ov, iv] (setItem ov iv v)
      release [v, ov, iv] []) := by
  intro v
  cases i <;> first | rfl | (simp [ixE] at h)
theorem ok_mSet : MutOk C lvl mSet := by
  intro X N sc top hX st y es ts i hf hy hpe hst
  have hu := hX.u64
  simp only [mSet] at hf
  split at hf
  · rename_i y' p ix p2 v p3
    split at hf
    · rename_i hcc
      simp only [Bool.and_eq_true] at hcc
      simp only [Option.some.injEq, Prod.mk.injEq] at hf
      obtain ⟨rfl, rfl⟩ := hf
      cases hpe with
      | @cons e0 es0 t0 ts0 h0 hm0 hr =>
        cases hr with
        | @cons e1 es1 t1 ts1 g0 hm1 hr =>
          cases hr
          have one := ps_asg (pos := p3) h0 (pg_sub (pos := p2) (hy p) g0 set_list (sub_assign hcc.1)) (by rw [show swapsWithSole [_] v p3.line X.env = swapsWith v (some _) p3.line X.env from rfl]; exact swaps_no hcc.2) (by cases v <;> rfl)
          have two := ps_dput (pos := p3) (pos' := p2) (by omega) (hy p) g0 h0 (by exact swaps_no hcc.2)
          refine (one.or two).mono fun D σ H q => ?_
          obtain ⟨a, G0, d, ds, d', hs, hσ, hc0, q⟩ := q
          simp only [mSet] at hs
          split at hs
          · rename_i xs w k
            obtain ⟨j, hj, hd⟩ := Option.map_eq_some_iff.mp hs
            subst hd
            refine .inl (hm0 σ H _ _ (fun v H1 q => ⟨_, hσ, hm1 σ H1 _ _ (fun kv H2 q => ?_) q⟩) q)
            obtain ⟨G, hc, hle, hra, kk⟩ := q
            obtain ⟨vs, h1, h2⟩ := own_lst hc
            obtain ⟨v1, v2, e, r1, r2⟩ := hra.inv2
            cases e
            refine ⟨a, vs, k, j, rfl, r2.val_int, h1, by rw [h2.length]; exact hj, kk _ ⟨vs.set j v, upd_same, h2.set r1 j⟩⟩
          · rename_i ks vs w k
            split at hs
            · rename_i kk hkk
              split at hs
              · rename_i hlen
                simp only [Option.some.injEq] at hs
                subst hs
                refine .inr (hm0 σ H _ _ (fun v H1 q => ⟨_, hσ, hm1 σ H1 _ _ (fun kv H2 q => ?_) q⟩) q)
                obtain ⟨G, hc, hle, hra, kk2⟩ := q
                obtain ⟨ws, h0', h1, h2⟩ : ∃ ws : List V, ks.length = ws.length ∧ H2 a = some (.dK (ks.zip ws)) ∧ RepAll C.K G ws vs := hc
                obtain ⟨v1, v2, e, r1, r2⟩ := hra.inv2
                cases e
                obtain ⟨ws', g1, g2, g3⟩ := putK_dput h2 h0' kk r1
                have hz : (ks.zip ws).length < sizeLine := by
                  have : sizeLine = 16777216 := by decide
                  rw [List.length_zip]; omega
                refine ⟨a, _, rfl, .inl ⟨_, kk, h1, key_v r2 hkk, hz, rfl⟩, kk2 _ ⟨ws', g1, ?_, g3⟩⟩
                rw [upd_same, g2]
              · cases hs
            · cases hs
          · rename_i ks vs w k
            split at hs
            · rename_i kk hkk
              split at hs
              · rename_i hlen
                simp only [Option.some.injEq] at hs
                subst hs
                refine .inr (hm0 σ H _ _ (fun v H1 q => ⟨_, hσ, hm1 σ H1 _ _ (fun kv H2 q => ?_) q⟩) q)
                obtain ⟨G, hc, hle, hra, kk2⟩ := q
                obtain ⟨ws, h0', h1, h2⟩ : ∃ ws : List V, ks.length = ws.length ∧ H2 a = some (.dT (ks.zip ws)) ∧ RepAll C.K G ws vs := hc
                obtain ⟨v1, v2, e, r1, r2⟩ := hra.inv2
                cases e
                cases r2 with
                | tup hb rb =>
                  obtain ⟨ws', g1, g2, g3⟩ := putK_dput h2 h0' kk r1
                  have hz : (ks.zip ws).length < sizeLine := by
                    have : sizeLine = 16777216 := by decide
                    rw [List.length_zip]; omega
                  refine ⟨a, _, rfl, .inr ⟨_, kk, _, h1, rfl, by rw [hle.tp _ _ hb, keys_v rb hkk], hz, rfl⟩, kk2 _ ⟨ws', g1, ?_, g3⟩⟩
                  rw [upd_same, g2]
              · cases hs
            · cases hs
          · cases hs
    · cases hf
  · cases hf
end
end Ev

set_option Elab.async false
set_option linter.all false
set_option maxRecDepth 100000
set_option maxHeartbeats 4000000
namespace Ev
open PySem PySem.Spec PyProof.Rows L2

/-! ### the bag of drawn numbers as a world -/
structure Bag where
  cells : List Int
  left : List Int
  turn : Int
structure BagAt (ab ac al : Addr) (H : Hp) (m : Bag) : Prop where
  b : H ab = some (.lst [.ref ac, .ref al, .int m.turn])
  c : H ac = some (.lst (m.cells.map V.int))
  l : H al = some (.lst (m.left.map V.int))
  n1 : ab ≠ ac
  n2 : ab ≠ al
  n3 : ac ≠ al
def bagC (P : Program) (w : World) (K : PySem.W.Frag) (mg : Str → Option Value) (base : Heap) (ab ac al : Addr) : Cfg Bag where
  P := P
  w := w
  K := K
  mg := mg
  base := base
  F := fun a => a = ab ∨ a = ac ∨ a = al
  WR := BagAt ab ac al
  loc := fun H H' m h q => ⟨by rw [h _ (.inl rfl)]; exact q.b, by rw [h _ (.inr (.inl rfl))]; exact q.c, by rw [h _ (.inr (.inr rfl))]; exact q.l, q.n1, q.n2, q.n3⟩
  dom := fun H m a q h => by
    rcases h with rfl | rfl | rfl
    · rw [q.b]; exact fun z => by cases z
    · rw [q.c]; exact fun z => by cases z
    · rw [q.l]; exact fun z => by cases z
/-- a read at an index, of the bag or of plain data -/
def bixS (ab ac al : Addr) : List D → Bag → Option (R × Bag)
  | [.ref a, .int k], m =>
    if a = ab then (if k = 0 then some (.val (.ref ac), m) else if k = 1 then some (.val (.ref al), m) else if k = 2 then some (.val (.int m.turn), m) else none)
    else if a = ac then (match atI m.cells k with | some i => some (.val (.int i), m) | none => none)
    else if a = al then (match atI m.left k with | some i => some (.val (.int i), m) | none => none)
    else none
  | _, _ => none
def bixR (ab ac al : Addr) : Rl Bag where
  form := fun sc e => (ixR (W := Bag)).form sc e
  sem := bixS ab ac al
def blenR (ac : Addr) : Rl Bag where
  form := fun sc e => (bltR (W := Bag) "len" lenS).form sc e
  sem := fun ds m => match ds with | [.ref a] => if a = ac then some (.val (.int m.cells.length), m) else none | _ => none
/-- x[i] = e: the operands e, x, i -/
def bsetR (ab ac al : Addr) : WldR Bag where
  form := fun _ st => match st with
    | .Assign [.Subscript (.Name y p) i _] v _ => if (ixE i && noComp v) = true then some [v, .Name y p, i] else none
    | _ => none
  sem := fun ds m => match ds with
    | [.int v, .ref a, .int k] => if a = ab then (if k = 2 then some { m with turn := v } else none) else if a = al then (ixN m.left.length k).map fun j => { m with left := m.left.set j v } else none
    | _ => none
section
variable {P : Program} {w : World} {K : PySem.W.Frag} {mg : Str → Option Value} {base : Heap} {ab ac al : Addr} {lvl : Nat}
theorem atI_map (xs : List Int) (k : Int) : atI (xs.map V.int) k = (atI xs k).map V.int := by
  unfold atI
  simp only [List.length_map]
  cases ixN xs.length k with
  | none => rfl
  | some j => simp [List.getElem?_map]
theorem ok_bix : RuleOk0 (bagC P w K mg base ab ac al) lvl (bixR ab ac al) := by
  intro X N sc top hX e es ts hf hpe hst
  simp only [bixR, ixR] at hf
  split at hf
  · rename_i a b p
    split at hf
    · rename_i hb
      simp only [Option.some.injEq] at hf
      subst hf
      cases hpe with
      | @cons e0 es0 t0 ts0 h0 hm0 hr =>
        cases hr with
        | @cons e1 es1 t1 ts1 g0 hm1 hr =>
          cases hr
          refine (pe_ix ix_list h0 g0 (ixE_plain hb)).mono fun σ H Q q => ?_
          refine hm0 σ H _ _ (fun x H1 q => hm1 σ H1 _ _ (fun y H2 q => ?_) q) q
          obtain ⟨O, ds, m, res, m', hv, hra, hs, k⟩ := q
          have wr : BagAt ab ac al H2 m := hv.wr
          simp only [bixR] at hs
          unfold bixS at hs
          split at hs
          · rename_i a' k'
            obtain ⟨v, w, e, r1, r2⟩ := hra.inv2
            cases e
            have e2 := r2.val_int
            subst e2
            cases r1
            have fin : ∀ {v d}, Rep K (hide O H2) v d → res = .val d → m' = m → Q v H2 := fun {v d} r e e' => k v H2 (by rw [e, e']; exact Post.refl hv r)
            split at hs
            · rename_i ea
              subst ea
              split at hs
              · rename_i ek
                subst ek
                simp only [Option.some.injEq, Prod.mk.injEq] at hs
                exact ⟨_, _, _, _, rfl, rfl, SqL.of wr.b, rfl, fin (.ref _) hs.1.symm hs.2.symm⟩
              · split at hs
                · rename_i ek
                  subst ek
                  simp only [Option.some.injEq, Prod.mk.injEq] at hs
                  exact ⟨_, _, _, _, rfl, rfl, SqL.of wr.b, rfl, fin (.ref _) hs.1.symm hs.2.symm⟩
                · split at hs
                  · rename_i ek
                    subst ek
                    simp only [Option.some.injEq, Prod.mk.injEq] at hs
                    exact ⟨_, _, _, _, rfl, rfl, SqL.of wr.b, rfl, fin (.int _) hs.1.symm hs.2.symm⟩
                  · cases hs
            · split at hs
              · rename_i ea
                subst ea
                split at hs
                · rename_i i hi
                  simp only [Option.some.injEq, Prod.mk.injEq] at hs
                  exact ⟨_, _, _, _, rfl, rfl, SqL.of wr.c, by rw [atI_map, hi]; rfl, fin (.int _) hs.1.symm hs.2.symm⟩
                · cases hs
              · split at hs
                · rename_i ea
                  subst ea
                  split at hs
                  · rename_i i hi
                    simp only [Option.some.injEq, Prod.mk.injEq] at hs
                    exact ⟨_, _, _, _, rfl, rfl, SqL.of wr.l, by rw [atI_map, hi]; rfl, fin (.int _) hs.1.symm hs.2.symm⟩
                  · cases hs
                · cases hs
          · cases hs
    · cases hf
  · cases hf
theorem ok_blen (hm : mg "len" = none) : RuleOk0 (bagC P w K mg base ab ac al) lvl (blenR ac) := by
  intro X N sc top hX e es ts hf hpe hst
  simp only [blenR, bltR] at hf
  split at hf
  · rename_i x p a as pos
    split at hf
    · rename_i hcc
      simp only [Bool.and_eq_true, decide_eq_true_eq] at hcc
      obtain ⟨rfl, hg⟩ := hcc
      simp only [Option.some.injEq] at hf
      subst hf
      cases hpe with
      | @cons e0 es0 t0 ts0 h0 hm0 hr =>
        simp only [List.all_cons, Bool.and_eq_true] at hst
        refine (pe_callB call_len (hX.gl hg) (by rw [hX.mg]; exact hm) PySem.boot_len (pa_cons h0 (hr.pa hst.2) (starEach_of hst.1)) (by decide) (by decide) (starEach_of hst.1) (star_any hst.2)).mono fun σ H Q q => ?_
        refine (PEs.cons h0 hm0 hr).mono q fun vs H1 q => ?_
        obtain ⟨O, ds, m, res, m', hv, hra, hs, k⟩ := q
        have wr : BagAt ab ac al H1 m := hv.wr
        simp only [blenR] at hs
        split at hs
        · rename_i a'
          split at hs
          · rename_i ea
            subst ea
            simp only [Option.some.injEq, Prod.mk.injEq] at hs
            obtain ⟨rfl, rfl⟩ := hs
            obtain ⟨v, rfl, r⟩ := hra.inv1
            cases r
            refine ⟨_, _, rfl, .inl ⟨_, SqL.of wr.c, rfl⟩, ?_⟩
            rw [List.length_map]
            exact k _ _ (Post.refl hv (.int _))
          · cases hs
        · cases hs
    · cases hf
  · cases hf
theorem map_set_int (l : List Int) (j : Nat) (v : Int) : (l.map V.int).set j (.int v) = (l.set j v).map V.int := by rw [List.map_set]
theorem ok_bset : WldOk (bagC P w K mg base ab ac al) lvl (bsetR ab ac al) := by
  intro X N sc top hX st es ts hf hpe hst
  simp only [bsetR] at hf
  split at hf
  · rename_i y p i p2 v p3
    split at hf
    · rename_i hcc
      simp only [Bool.and_eq_true] at hcc
      simp only [Option.some.injEq] at hf
      subst hf
      cases hpe with
      | @cons e0 es0 t0 ts0 h0 hm0 hr =>
        cases hr with
        | @cons e1 es1 t1 ts1 g0 hm1 hr =>
          cases hr with
          | @cons e2 es2 t2 ts2 f0 hm2 hr =>
            cases hr
            refine (ps_asg (pos := p3) h0 (pg_sub (pos := p2) g0 f0 set_list (sub_assign hcc.1)) (by rw [show swapsWithSole [_] v p3.line X.env = swapsWith v (some _) p3.line X.env from rfl]; exact swaps_no hcc.2) (by cases v <;> rfl)).mono fun D σ H q => ?_
            refine hm0 σ H _ _ (fun x H1 q => hm1 σ H1 _ _ (fun y H2 q => hm2 σ H2 _ _ (fun z H3 q => ?_) q) q) q
            obtain ⟨O, ds, m, m', hv, hra, hs, k⟩ := q
            have wr : BagAt ab ac al H3 m := hv.wr
            simp only [bsetR] at hs
            split at hs
            · rename_i v' a' k'
              obtain ⟨v1, w1, x1, e, r1, r2, r3⟩ := hra.inv3
              cases e
              have e1 := r1.val_int
              have e3 := r3.val_int
              subst e1
              subst e3
              cases r2
              split at hs
              · rename_i ea
                subst ea
                split at hs
                · rename_i ek
                  subst ek
                  simp only [Option.some.injEq] at hs
                  subst hs
                  refine ⟨_, _, _, 2, rfl, rfl, wr.b, rfl, k _ (fun b o e hb => ?_) ⟨upd_same, ?_, ?_, wr.n1, wr.n2, wr.n3⟩⟩
                  · rw [upd_ne fun z => hb (.inl z)]; exact e
                  · rw [upd_ne (Ne.symm wr.n1)]; exact wr.c
                  · rw [upd_ne (Ne.symm wr.n2)]; exact wr.l
                · cases hs
              · split at hs
                · rename_i ea
                  subst ea
                  obtain ⟨j, hj, hd⟩ := Option.map_eq_some_iff.mp hs
                  subst hd
                  refine ⟨_, _, _, j, rfl, rfl, wr.l, by rw [List.length_map]; exact hj, k _ (fun b o e hb => ?_) ⟨?_, ?_, ?_, wr.n1, wr.n2, wr.n3⟩⟩
                  · rw [upd_ne fun z => hb (.inr (.inr z))]; exact e
                  · rw [upd_ne wr.n2]; exact wr.b
                  · rw [upd_ne wr.n3]; exact wr.c
                  · rw [upd_same, map_set_int]
                · cases hs
            · cases hs
    · cases hf
  · cases hf
end
end Ev

set_option Elab.async false
set_option linter.all false
set_option maxRecDepth 100000
set_option maxHeartbeats 4000000
namespace Ev
open PySem PySem.Spec PyProof.Rows L2
/-! ### small evaluations -/
theorem ixn {α : Type} (xs : List α) (k : Nat) : atI xs (k : Int) = xs[k]? := by
  unfold atI ixN
  by_cases h : k < xs.length
  · simp [h]
  · have h' : ¬ ((k : Int) < xs.length) := by omega
    simp [h, h']
    try omega
theorem ix0 {α : Type} (x : α) (xs : List α) : atI (x :: xs) 0 = some x := ixn (x :: xs) 0
theorem ix1 {α : Type} (x y : α) (xs : List α) : atI (x :: y :: xs) 1 = some y := ixn (x :: y :: xs) 1
theorem ix2 {α : Type} (x y z : α) (xs : List α) : atI (x :: y :: z :: xs) 2 = some z := ixn (x :: y :: z :: xs) 2
theorem ixl {α : Type} (xs : List α) : atI xs (-1) = xs.getLast? := by
  unfold atI ixN
  rw [List.getLast?_eq_getElem?]
  cases xs with
  | nil => rfl
  | cons x xs =>
    have e : ((-1 : Int) + ((x :: xs).length : Int)).toNat = (x :: xs).length - 1 := by rw [List.length_cons]; omega
    have h1 : ¬ (0 ≤ (-1 : Int)) := by omega
    have h2 : -((x :: xs).length : Int) ≤ -1 := by rw [List.length_cons]; omega
    rw [if_neg h1, if_pos h2, e]
    rfl
theorem ixS_tup (ds : List D) (i : Int) : ixS [.tup ds, .int i] = (atI ds i).map .val := rfl
theorem ixS_lst (ds : List D) (i : Int) : ixS [.lst ds, .int i] = (atI ds i).map .val := rfl
end Ev
namespace Ev
open PySem PySem.Spec PyProof.Rows L2
/-- a loop's rule over plain data -/
theorem forL_rule {W α : Type} {tg : Tg} {body : List SV → W → Option (Out W)} (f : α → D) (I : List α → List SV → W → Prop) (QB : List SV → W → Prop) (QR : R → W → Prop)
    (h : ∀ a as sl m, I (a :: as) sl m → ∃ sl1, setTg tg sl (f a) = some sl1 ∧ ∃ o, body sl1 m = some o ∧ (match o with | .nx sl2 m2 => I as sl2 m2 | .ct sl2 m2 => I as sl2 m2 | .bk sl2 m2 => QB sl2 m2 | .rt r m2 => QR r m2)) :
    ∀ as sl m, I as sl m → ∃ o, forL tg body (as.map f) sl m = some o ∧ (match o with | .nx sl2 m2 => I [] sl2 m2 ∨ QB sl2 m2 | .rt r m2 => QR r m2 | _ => False)
  | [], sl, m, q => ⟨_, rfl, .inl q⟩
  | a :: as, sl, m, q => by
    obtain ⟨sl1, h1, o, h2, h3⟩ := h a as sl m q
    simp only [List.map_cons, forL, h1, h2]
    cases o with
    | nx sl2 m2 => exact forL_rule f I QB QR h as sl2 m2 h3
    | ct sl2 m2 => exact forL_rule f I QB QR h as sl2 m2 h3
    | bk sl2 m2 => exact ⟨_, rfl, .inr h3⟩
    | rt r m2 => exact ⟨_, rfl, h3⟩
theorem compL_rule {W α : Type} {body : D → W → Option (Option D × W)} (f : α → D) (I : List α → List D → W → Prop)
    (h : ∀ a as ys m, I (a :: as) ys m → (∃ y m2, body (f a) m = some (some y, m2) ∧ I as (ys ++ [y]) m2) ∨ (∃ m2, body (f a) m = some (none, m2) ∧ I as ys m2)) :
    ∀ as ys m, I as ys m → ∃ zs m', compL body (as.map f) m = some (zs, m') ∧ I [] (ys ++ zs) m'
  | [], ys, m, q => ⟨[], m, rfl, by simpa using q⟩
  | a :: as, ys, m, q => by
    rcases h a as ys m q with ⟨y, m2, h1, h2⟩ | ⟨m2, h1, h2⟩
    · obtain ⟨zs, m', h3, h4⟩ := compL_rule f I h as _ m2 h2
      refine ⟨y :: zs, m', ?_, by simpa using h4⟩
      simp only [List.map_cons, compL, h1, h3]
    · obtain ⟨zs, m', h3, h4⟩ := compL_rule f I h as _ m2 h2
      exact ⟨zs, m', by simp only [List.map_cons, compL, h1, h3], h4⟩
theorem compL_filter {W α : Type} {body : D → W → Option (Option D × W)} {m : W} (f : α → D) (p : α → Bool) (g : α → D) : ∀ (as : List α), (∀ a ∈ as, body (f a) m = some (if p a then some (g a) else none, m)) →
    compL body (as.map f) m = some ((as.filter p).map g, m)
  | [], _ => rfl
  | a :: as, h => by
    have h1 := h a List.mem_cons_self
    have h2 := compL_filter (body := body) (m := m) f p g as fun b hb => h b (List.mem_cons_of_mem _ hb)
    cases hp : p a
    · simp only [hp, Bool.false_eq_true, if_false] at h1
      simp only [List.map_cons, compL, h1, h2, List.filter_cons, hp, Bool.false_eq_true, if_false]
    · simp only [hp, if_true] at h1
      simp only [List.map_cons, compL, h1, h2, List.filter_cons, hp, if_true]
theorem compL_map {W α : Type} {body : D → W → Option (Option D × W)} {m : W} (f : α → D) (g : α → D) : ∀ (as : List α), (∀ a ∈ as, body (f a) m = some (some (g a), m)) →
    compL body (as.map f) m = some (as.map g, m)
  | [], _ => rfl
  | a :: as, h => by
    have h1 := h a List.mem_cons_self
    have h2 := compL_map (body := body) (m := m) f g as fun b hb => h b (List.mem_cons_of_mem _ hb)
    simp only [List.map_cons, compL, h1, h2]
end Ev
namespace Ev
open PySem PySem.Spec PyProof.Rows L2
theorem upTo_eq (lo : Int) (n : Nat) : upTo lo n = (List.range' 0 n).map fun (i : Nat) => D.int (lo + i) := by rw [← List.range_eq_range']; rfl
theorem forL_range {W : Type} {tg : Tg} {body : List SV → W → Option (Out W)} (I : Nat → List SV → W → Prop) (QB : List SV → W → Prop) (QR : R → W → Prop) (n : Nat) (lo : Int)
    (h : ∀ i sl m, i < n → I i sl m → ∃ sl1, setTg tg sl (.int (lo + i)) = some sl1 ∧ ∃ o, body sl1 m = some o ∧ (match o with | .nx sl2 m2 => I (i + 1) sl2 m2 | .ct sl2 m2 => I (i + 1) sl2 m2 | .bk sl2 m2 => QB sl2 m2 | .rt r m2 => QR r m2))
    (sl : List SV) (m : W) (h0 : I 0 sl m) : ∃ o, forL tg body (upTo lo n) sl m = some o ∧ (match o with | .nx sl2 m2 => I n sl2 m2 ∨ QB sl2 m2 | .rt r m2 => QR r m2 | _ => False) := by
  rw [upTo_eq]
  obtain ⟨o, h1, h2⟩ := forL_rule (tg := tg) (body := body) (fun (i : Nat) => D.int (lo + i)) (fun as sl m => ∃ i, i ≤ n ∧ as = List.range' i (n - i) ∧ I i sl m) QB QR (fun a as sl m q => by
    obtain ⟨i, hi, e, q⟩ := q
    cases hk : n - i with
    | zero => rw [hk] at e; simp at e
    | succ k =>
      rw [hk, List.range'_succ] at e
      injection e with e1 e2
      subst e1
      obtain ⟨sl1, h1, o, h2, h3⟩ := h a sl m (by omega) q
      refine ⟨sl1, h1, o, h2, ?_⟩
      have e3 : n - (a + 1) = k := by omega
      cases o with
      | nx sl2 m2 => exact ⟨a + 1, by omega, by rw [e3]; exact e2, h3⟩
      | ct sl2 m2 => exact ⟨a + 1, by omega, by rw [e3]; exact e2, h3⟩
      | bk sl2 m2 => exact h3
      | rt r m2 => exact h3) (List.range' 0 n) sl m ⟨0, Nat.zero_le _, by simp, h0⟩
  refine ⟨o, h1, ?_⟩
  cases o with
  | nx sl2 m2 =>
    rcases h2 with ⟨i, hi, e, q⟩ | h2
    · have : n - i = 0 := by
        cases hk : n - i with
        | zero => rfl
        | succ k => rw [hk] at e; simp [List.range'_succ] at e
      have : i = n := by omega
      subst this
      exact .inl q
    · exact .inr h2
  | rt r m2 => exact h2
  | bk _ _ => exact h2
  | ct _ _ => exact h2
end Ev

set_option Elab.async false
set_option linter.all false
set_option maxRecDepth 100000
set_option maxHeartbeats 4000000
namespace Ev
open PySem PySem.Spec PyProof.Rows L2
/-! ### plain data without truth values -/
mutual
def D.nb : D → Bool
  | .non => true | .int _ => true | .str x => PyData.strOk x
  | .tup ds => D.nbs ds | .lst ds => D.nbs ds
  | _ => false
def D.nbs : List D → Bool
  | [] => true
  | d :: ds => D.nb d && D.nbs ds
end
mutual
def D.dep : D → Nat
  | .tup ds => D.deps ds + 1 | .lst ds => D.deps ds + 1
  | _ => 0
def D.deps : List D → Nat
  | [] => 0
  | d :: ds => max (D.dep d) (D.deps ds)
end
mutual
theorem nb_py : ∀ {d : D}, d.nb = true → ∃ p, d.py = some p ∧ p.canLay0 = true ∧ p.depth = d.dep
  | .non, _ => ⟨_, rfl, rfl, rfl⟩
  | .int i, _ => ⟨_, rfl, rfl, rfl⟩
  | .str x, h => ⟨_, rfl, by simpa [PyData.canLay0, D.nb] using h, rfl⟩
  | .tup ds, h => by
    obtain ⟨ps, h1, h2, h3⟩ := nbs_pys (ds := ds) (by simpa [D.nb] using h)
    exact ⟨.tuple ps, by simp [D.py, h1], by simpa [PyData.canLay0] using h2, by simp [PyData.depth, D.dep, h3]⟩
  | .lst ds, h => by
    obtain ⟨ps, h1, h2, h3⟩ := nbs_pys (ds := ds) (by simpa [D.nb] using h)
    exact ⟨.list ps, by simp [D.py, h1], by simpa [PyData.canLay0] using h2, by simp [PyData.depth, D.dep, h3]⟩
  | .bl _, h => by simp [D.nb] at h
  | .dK _ _, h => by simp [D.nb] at h
  | .dT _ _, h => by simp [D.nb] at h
  | .ref _, h => by simp [D.nb] at h
theorem nbs_pys : ∀ {ds : List D}, D.nbs ds = true → ∃ ps, D.pys ds = some ps ∧ PyData.canLayAll0 ps = true ∧ PyData.depthAll ps = D.deps ds
  | [], _ => ⟨[], rfl, rfl, rfl⟩
  | d :: ds, h => by
    simp only [D.nbs, Bool.and_eq_true] at h
    obtain ⟨p, h1, h2, h3⟩ := nb_py (d := d) h.1
    obtain ⟨ps, h4, h5, h6⟩ := nbs_pys (ds := ds) h.2
    exact ⟨p :: ps, by simp [D.pys, h1, h4], by simp [PyData.canLayAll0, h2, h5], by simp [PyData.depthAll, D.deps, h3, h6]⟩
end
mutual
theorem eqv_nb : ∀ {d e : D} {p q : PyData}, d.py = some p → e.py = some q → d.nb = true → e.nb = true → (PyData.eqv p q = true ↔ d = e)
  | .non, e, p, q, hp, hq, _, he => by
    simp only [D.py, Option.some.injEq] at hp; subst hp
    cases e <;> simp [D.nb] at he <;> simp only [D.py, Option.some.injEq] at hq <;> (try (split at hq <;> simp only [Option.some.injEq, reduceCtorEq] at hq)) <;> subst hq <;> simp [PyData.eqv]
  | .int i, e, p, q, hp, hq, _, he => by
    simp only [D.py, Option.some.injEq] at hp; subst hp
    cases e <;> simp [D.nb] at he <;> simp only [D.py, Option.some.injEq] at hq <;> (try (split at hq <;> simp only [Option.some.injEq, reduceCtorEq] at hq)) <;> subst hq <;> simp [PyData.eqv]
  | .str x, e, p, q, hp, hq, _, he => by
    simp only [D.py, Option.some.injEq] at hp; subst hp
    cases e <;> simp [D.nb] at he <;> simp only [D.py, Option.some.injEq] at hq <;> (try (split at hq <;> simp only [Option.some.injEq, reduceCtorEq] at hq)) <;> subst hq <;> simp [PyData.eqv]
  | .tup ds, e, p, q, hp, hq, hd, he => by
    simp only [D.py] at hp
    split at hp
    · rename_i ps hps
      simp only [Option.some.injEq] at hp; subst hp
      cases e with
      | tup es =>
        simp only [D.py] at hq
        split at hq
        · rename_i qs hqs
          simp only [Option.some.injEq] at hq; subst hq
          have ih := eqv_nbs hps hqs (by simpa [D.nb] using hd) (by simpa [D.nb] using he)
          simp only [PyData.eqv, D.tup.injEq]
          exact ih
        · cases hq
      | _ => simp [D.nb] at he <;> simp only [D.py, Option.some.injEq] at hq <;> (try (split at hq <;> simp only [Option.some.injEq, reduceCtorEq] at hq)) <;> subst hq <;> simp [PyData.eqv]
    · cases hp
  | .lst ds, e, p, q, hp, hq, hd, he => by
    simp only [D.py] at hp
    split at hp
    · rename_i ps hps
      simp only [Option.some.injEq] at hp; subst hp
      cases e with
      | lst es =>
        simp only [D.py] at hq
        split at hq
        · rename_i qs hqs
          simp only [Option.some.injEq] at hq; subst hq
          have ih := eqv_nbs hps hqs (by simpa [D.nb] using hd) (by simpa [D.nb] using he)
          simp only [PyData.eqv, D.lst.injEq]
          exact ih
        · cases hq
      | _ => simp [D.nb] at he <;> simp only [D.py, Option.some.injEq] at hq <;> (try (split at hq <;> simp only [Option.some.injEq, reduceCtorEq] at hq)) <;> subst hq <;> simp [PyData.eqv]
    · cases hp
  | .bl _, _, _, _, _, _, h, _ => by simp [D.nb] at h
  | .dK _ _, _, _, _, _, _, h, _ => by simp [D.nb] at h
  | .dT _ _, _, _, _, _, _, h, _ => by simp [D.nb] at h
  | .ref _, _, _, _, _, _, h, _ => by simp [D.nb] at h
theorem eqv_nbs : ∀ {ds es : List D} {ps qs : List PyData}, D.pys ds = some ps → D.pys es = some qs → D.nbs ds = true → D.nbs es = true → (PyData.eqvAll ps qs = true ↔ ds = es)
  | [], es, ps, qs, hp, hq, _, _ => by
    simp only [D.pys, Option.some.injEq] at hp; subst hp
    cases es with
    | nil => simp only [D.pys, Option.some.injEq] at hq; subst hq; simp [PyData.eqvAll]
    | cons e es =>
      simp only [D.pys] at hq
      split at hq
      · split at hq
        · simp only [Option.some.injEq] at hq; subst hq; simp [PyData.eqvAll]
        · cases hq
      · cases hq
  | d :: ds, es, ps, qs, hp, hq, hd, he => by
    simp only [D.pys] at hp
    split at hp
    · rename_i p h1
      split at hp
      · rename_i ps' h2
        simp only [Option.some.injEq] at hp; subst hp
        cases es with
        | nil => simp only [D.pys, Option.some.injEq] at hq; subst hq; simp [PyData.eqvAll]
        | cons e es =>
          simp only [D.pys] at hq
          split at hq
          · rename_i q h3
            split at hq
            · rename_i qs' h4
              simp only [Option.some.injEq] at hq; subst hq
              simp only [D.nbs, Bool.and_eq_true] at hd he
              have a := eqv_nb h1 h3 hd.1 he.1
              have b := eqv_nbs h2 h4 hd.2 he.2
              simp only [PyData.eqvAll, Bool.and_eq_true, List.cons.injEq]
              rw [a, b]
            · cases hq
          · cases hq
      · cases hp
    · cases hp
end
/-- == of plain data -/
theorem eqS_nb {a b : D} (ha : a.nb = true) (hb : b.nb = true) (da : a.dep ≤ 64) (db : b.dep ≤ 64) : ∃ k, eqS a b = some k ∧ (k = true ↔ a = b) := by
  obtain ⟨p, h1, h2, h3⟩ := nb_py ha
  obtain ⟨q, h4, h5, h6⟩ := nb_py hb
  have hs : (SeqAt.shaped p && SeqAt.shaped q) = true := by
    simp only [SeqAt.shaped, h2, h5, Bool.true_and, Bool.and_eq_true, decide_eq_true_eq]
    omega
  have he := eqv_nb h1 h4 ha hb
  unfold eqS
  split
  · exact ⟨_, rfl, by simp⟩
  · exact ⟨_, rfl, by simp⟩
  · exact ⟨_, rfl, by simp⟩
  · rw [h1, h4]
    simp only [hs, if_true]
    exact ⟨_, rfl, he⟩
open Classical in
theorem eqS_dec {a b : D} (ha : a.nb = true) (hb : b.nb = true) (da : a.dep ≤ 64) (db : b.dep ≤ 64) : eqS a b = some (decide (a = b)) := by
  obtain ⟨k, h1, h2⟩ := eqS_nb ha hb da db
  rw [h1]
  congr 1
  by_cases h : a = b
  · rw [decide_eq_true h]; exact h2.mpr h
  · rw [decide_eq_false h]
    cases k with
    | true => exact absurd (h2.mp rfl) h
    | false => rfl
theorem nbs_mem : ∀ {ds : List D}, D.nbs ds = true ↔ ∀ d ∈ ds, d.nb = true
  | [] => by simp [D.nbs]
  | d :: ds => by simp [D.nbs, nbs_mem (ds := ds)]
theorem deps_le {n : Nat} : ∀ {ds : List D}, D.deps ds ≤ n ↔ ∀ d ∈ ds, d.dep ≤ n
  | [] => by simp [D.deps]
  | d :: ds => by
    simp only [D.deps, List.mem_cons, forall_eq_or_imp, ← deps_le (ds := ds)]
    omega
theorem any_eqv {x : D} {p : PyData} (hx : x.py = some p) (nx : x.nb = true) : ∀ {ds : List D} {ps : List PyData}, D.pys ds = some ps → D.nbs ds = true → ((ps.any fun z => PyData.eqv z p) = true ↔ x ∈ ds)
  | [], ps, h, _ => by simp only [D.pys, Option.some.injEq] at h; subst h; simp
  | d :: ds, ps, h, hn => by
    simp only [D.pys] at h
    split at h
    · rename_i q h1
      split at h
      · rename_i qs h2
        simp only [Option.some.injEq] at h; subst h
        simp only [D.nbs, Bool.and_eq_true] at hn
        have a := eqv_nb h1 hx hn.1 nx
        have b := any_eqv hx nx h2 hn.2
        simp only [List.any_cons, Bool.or_eq_true, List.mem_cons]
        rw [a, b]
        exact ⟨fun z => z.elim (fun z => .inl z.symm) .inr, fun z => z.elim (fun z => .inl z.symm) .inr⟩
      · cases h
    · cases h
open Classical in
/-- x in a list of plain data -/
theorem inS_lst {x : D} {ds : List D} (hx : x.nb = true) (hd : D.nbs ds = true) (dx : x.dep ≤ 64) (dd : D.deps ds ≤ 63) : inS x (.lst ds) = some (decide (x ∈ ds)) := by
  obtain ⟨p, h1, h2, h3⟩ := nb_py hx
  obtain ⟨ps, h4, h5, h6⟩ := nbs_pys hd
  have hs : (SeqAt.shaped p && SeqAt.shaped (.list ps)) = true := by
    have e1 : PyData.canLay0 (.list ps) = true := by simpa [PyData.canLay0] using h5
    have e2 : (PyData.list ps).depth = PyData.depthAll ps + 1 := by simp [PyData.depth]
    simp only [SeqAt.shaped, h2, e1, e2, Bool.true_and, Bool.and_eq_true, decide_eq_true_eq]
    omega
  simp only [inS, h1, h4, hs, if_true, Option.some.injEq]
  have := any_eqv h1 hx h4 hd
  by_cases h : x ∈ ds
  · rw [decide_eq_true h]; exact this.mpr h
  · rw [decide_eq_false h]
    cases hk : ps.any fun z => PyData.eqv z p with
    | true => exact absurd (this.mp hk) h
    | false => rfl
end Ev

set_option Elab.async false
set_option linter.all false
set_option maxRecDepth 100000
set_option maxHeartbeats 4000000
namespace Ev
open PySem PySem.Spec PyProof.Rows L2
theorem sortLe_int (i j : Int) : sortLe (.int i) (.int j) = decide (i ≤ j) := by
  show (!PySem.W.dataLt (.int j) (.int i)) = _
  rw [PySem.W.dataLt_int]
  by_cases h : i ≤ j
  · have : ¬ j < i := by omega
    simp [h]
  · have : j < i := by omega
    simp [h, this]
theorem pys_ints : ∀ ns : List Int, D.pys (ns.map D.int) = some (ns.map PyData.int)
  | [] => rfl
  | n :: ns => by simp only [List.map_cons, D.pys, D.py, pys_ints ns]
/-- sorted numbers -/
theorem sorted_ints (ns : List Int) (h : ns.length ≤ 16777216) : ∃ ms : List Int, sortedS [.lst (ns.map .int)] = some (.own (.lst (ms.map .int))) ∧ ms.length = ns.length ∧ (∀ x, x ∈ ms ↔ x ∈ ns) ∧ ms.Pairwise (· ≤ ·) := by
  refine ⟨ns.mergeSort fun a b => decide (a ≤ b), ?_, List.length_mergeSort ns, fun x => List.mem_mergeSort, ?_⟩
  · have hs : sortable (ns.map PyData.int) = true := by
      unfold sortable
      simp only [Bool.and_eq_true, Bool.or_eq_true, List.all_eq_true]
      refine ⟨⟨fun p hp q hq => ?_, .inr fun p hp => ?_⟩, fun p hp => ?_⟩
      · obtain ⟨a, _, rfl⟩ := List.mem_map.mp hp
        obtain ⟨b, _, rfl⟩ := List.mem_map.mp hq
        rfl
      · obtain ⟨a, _, rfl⟩ := List.mem_map.mp hp
        rfl
      · obtain ⟨a, _, rfl⟩ := List.mem_map.mp hp
        rfl
    simp only [sortedS, pys_ints, hs, Bool.true_and, List.length_map, decide_eq_true h, if_true]
    congr 3
    exact (List.map_mergeSort (f := D.int) (s := sortLe) fun a _ b _ => (sortLe_int a b).symm).symm
  · have := List.pairwise_mergeSort (le := fun (a b : Int) => decide (a ≤ b)) (fun a b c => by simp; omega) (fun a b => by simp; omega) ns
    exact this.imp fun h => of_decide_eq_true h
/-- a comprehension by an invariant -/
theorem ev_comp {W α : Type} {use : List Nat} {own : List (Str × Nat)} {it : ItR} {ix : Xs W} {tg : Tg} {cs : Xs W} {elt : Xp W} {sl : List SV} {m m1 : W} {ds : List D} {as : List α} (f : α → D) (I : List α → List D → W → Prop)
    (h1 : evs use ix sl m = some (ds, m1)) (h2 : it.sem ds = some (as.map f)) (h3 : as.length ≤ 16777216) (h0 : I as [] m1)
    (h : ∀ a as ys m, I (a :: as) ys m → ∃ sl1, setTg tg (wipeS sl (own.map (·.2))) (f a) = some sl1 ∧
      ((∃ m2 r m3, evAnd use cs sl1 m = some (true, m2) ∧ ev use elt sl1 m2 = some (r, m3) ∧ I as (ys ++ [r.d]) m3) ∨ (∃ m2, evAnd use cs sl1 m = some (false, m2) ∧ I as ys m2))) :
    ∃ ys m', ev use (.comp own it ix tg cs elt) sl m = some (.own (.lst ys), m') ∧ I [] ys m' := by
  obtain ⟨ys, m', e1, e2⟩ := compL_rule (body := fun d m => match setTg tg (wipeS sl (own.map (·.2))) d with
            | some sl1 => (match evAnd use cs sl1 m with
              | some (true, m2) => (match ev use elt sl1 m2 with | some (r, m3) => some (some r.d, m3) | none => none)
              | some (false, m2) => some (none, m2)
              | none => none)
            | none => none) f I (fun a as ys m q => by
    obtain ⟨sl1, e1, q⟩ := h a as ys m q
    rcases q with ⟨m2, r, m3, e2, e3, q⟩ | ⟨m2, e2, q⟩
    · exact .inl ⟨r.d, m3, by simp only [e1, e2, e3], q⟩
    · exact .inr ⟨m2, by simp only [e1, e2], q⟩) as [] m1 h0
  refine ⟨ys, m', ?_, e2⟩
  unfold ev
  simp only [h1, h2, List.length_map, h3, if_true]
  erw [e1]
theorem upTo_range (lo : Int) (n : Nat) : upTo lo n = (List.range n).map fun (i : Nat) => D.int (lo + i) := rfl
end Ev
namespace Ev
open PySem PySem.Spec PyProof.Rows L2
/-- a comprehension that leaves the world alone -/
theorem ev_comp_pure {W α : Type} {use : List Nat} {own : List (Str × Nat)} {it : ItR} {ix : Xs W} {tg : Tg} {cs : Xs W} {elt : Xp W} {sl : List SV} {m : W} {ds : List D} {as : List α} (f g : α → D) (p : α → Bool)
    (h1 : evs use ix sl m = some (ds, m)) (h2 : it.sem ds = some (as.map f)) (h3 : as.length ≤ 16777216)
    (h : ∀ a ∈ as, ∃ sl1, setTg tg (wipeS sl (own.map (·.2))) (f a) = some sl1 ∧ evAnd use cs sl1 m = some (p a, m) ∧ (p a = true → ∃ r, ev use elt sl1 m = some (r, m) ∧ r.d = g a)) :
    ev use (.comp own it ix tg cs elt) sl m = some (.own (.lst ((as.filter p).map g)), m) := by
  have e1 := compL_filter (body := fun d m => match setTg tg (wipeS sl (own.map (·.2))) d with
            | some sl1 => (match evAnd use cs sl1 m with
              | some (true, m2) => (match ev use elt sl1 m2 with | some (r, m3) => some (some r.d, m3) | none => none)
              | some (false, m2) => some (none, m2)
              | none => none)
            | none => none) (m := m) f p g as (fun a ha => by
    obtain ⟨sl1, e1, e2, e3⟩ := h a ha
    cases hp : p a with
    | false => simp only [e1, e2, hp]; rfl
    | true =>
      obtain ⟨r, e4, e5⟩ := e3 hp
      simp only [e1, e2, hp, e4, e5]; rfl)
  unfold ev
  simp only [h1, h2, List.length_map, h3, if_true]
  erw [e1]
end Ev

set_option Elab.async false
set_option linter.all false
set_option maxRecDepth 100000
set_option maxHeartbeats 4000000
namespace K50
open PySem PySem.Spec PyProof.Rows L2 Ev
def topS (i : Nat) : Stmt := PySem.Challenge.pw_giftskept_k50_whole_trace_is_the_only_on.main.body.getD i (.Pass ⟨0, 0, 0, 0⟩)
structure BA where
  ab : Addr
  ac : Addr
  al : Addr
def cfg (P : Program) (w : World) (K : PySem.W.Frag) (mg : Str → Option Value) (base : Heap) (A : BA) : Cfg Bag := bagC P w K mg base A.ab A.ac A.al
abbrev s_has_duplicates : Stmt := topS 1
def n_has_duplicates : List Str := ["rows", "seen", "row"]
theorem sc_has_duplicates : FnScope n_has_duplicates ["rows"] (defScope s_has_duplicates) := ⟨rfl, rfl, rfl, by decide +kernel, rfl, by decide +kernel, by decide +kernel⟩
def l_has_duplicates_1 : Sms Bag :=
  (.cons (.iff [1] (.cmp ⟨.In, inS⟩ (.var 2) (.var 1)) (
    (.cons (.ret [] (.con (.bl true))) <| .nil)) (
 .nil)) <|
  (.cons (.mut mSet [] 1 (.cons (.con (.bl true)) (.cons (.var 2) .nil))) <| .nil))
def b_has_duplicates : Sms Bag :=
  (.cons (.set [] true 1 (.app dictTR .nil)) <|
  (.cons (.forI [] itList (.cons (.var 0) .nil) (.nm 2) (l_has_duplicates_1)) <|
  (.cons (.ret [] (.con (.bl false))) <| .nil)))
def f_has_duplicates : List D → Bag → Option (R × Bag) := evF 1 3 (b_has_duplicates)
theorem c_has_duplicates : chkSs n_has_duplicates (defScope s_has_duplicates) (defBody s_has_duplicates) (b_has_duplicates) = true := by kernel_rfl
theorem ok_has_duplicates (A : BA) {P : Program} {w : World} {K : PySem.W.Frag} {mg : Str → Option Value} {base : Heap} {f : Addr} {fd : FuncData} (F : Fun K "has_duplicates" "has_duplicates" s_has_duplicates f fd) : FnOk P w K mg base CX0 1 f fd ["rows"] (fun vs H Q _ => RSem (cfg P w K mg base A) f_has_duplicates vs H Q) := by
  have o : (b_has_duplicates).ok (cfg P w K mg base A) 0 := by
    simp only [b_has_duplicates, l_has_duplicates_1, Sms.ok, Sm.ok, Xp.ok, Xs.ok, and_true, true_and]
    (repeat' apply And.intro) <;> first | exact (ok_dictT).up | exact ok_itList | exact cmp_in | exact ok_mSet
  exact fn_ok F sc_has_duplicates (by decide) o (c_has_duplicates)
abbrev s_place_in : Stmt := topS 3
def n_place_in : List Str := ["rows", "name", "index"]
theorem sc_place_in : FnScope n_place_in ["rows", "name"] (defScope s_place_in) := ⟨rfl, rfl, rfl, by decide +kernel, rfl, by decide +kernel, by decide +kernel⟩
def l_place_in_1 : Sms Bag :=
  (.cons (.iff [] (.cmp ⟨.Eq, eqS⟩ (.app ixR (.cons (.app ixR (.cons (.var 0) (.cons (.var 2) .nil))) (.cons (.con (.int 0)) .nil))) (.var 1)) (
    (.cons (.ret [] (.var 2)) <| .nil)) (
 .nil)) <| .nil)
def b_place_in : Sms Bag :=
  (.cons (.forI [] itRng1 (.cons (.app (bltR "len" lenS) (.cons (.var 0) .nil)) .nil) (.nm 2) (l_place_in_1)) <|
  (.cons (.ret [] (.con .non)) <| .nil))
def f_place_in : List D → Bag → Option (R × Bag) := evF 2 3 (b_place_in)
theorem c_place_in : chkSs n_place_in (defScope s_place_in) (defBody s_place_in) (b_place_in) = true := by kernel_rfl
theorem ok_place_in (A : BA) {P : Program} {w : World} {K : PySem.W.Frag} {mg : Str → Option Value} {base : Heap} {f : Addr} {fd : FuncData} (F : Fun K "place_in" "place_in" s_place_in f fd) (h_range : mg "range" = none) (h_len : mg "len" = none) : FnOk P w K mg base CX0 1 f fd ["rows", "name"] (fun vs H Q _ => RSem (cfg P w K mg base A) f_place_in vs H Q) := by
  have o : (b_place_in).ok (cfg P w K mg base A) 0 := by
    simp only [b_place_in, l_place_in_1, Sms.ok, Sm.ok, Xp.ok, Xs.ok, and_true, true_and]
    (repeat' apply And.intro) <;> first | exact (ok_itRng1 h_range) | exact (ok_len h_len).up | exact cmp_eq | exact (ok_ix).up
  exact fn_ok F sc_place_in (by decide) o (c_place_in)
abbrev s_cells_of : Stmt := topS 4
def n_cells_of : List Str := ["gifts", "uses", "rows", "cells", "row", "gift", "use"]
theorem sc_cells_of : FnScope n_cells_of ["gifts", "uses", "rows"] (defScope s_cells_of) := ⟨rfl, rfl, rfl, by decide +kernel, rfl, by decide +kernel, by decide +kernel⟩
def l_cells_of_1 : Sms Bag :=
  (.cons (.set [] false 5 (.app (callR "place_in" f_place_in) (.cons (.var 0) (.cons (.app ixR (.cons (.var 4) (.cons (.con (.int 0)) .nil))) .nil)))) <|
  (.cons (.set [] false 6 (.app (callR "place_in" f_place_in) (.cons (.var 1) (.cons (.app ixR (.cons (.var 4) (.cons (.con (.int 1)) .nil))) .nil)))) <|
  (.cons (.iff [] (.or (.cons (.cmp ⟨.Is, isnS⟩ (.var 5) (.con .non)) (.cons (.cmp ⟨.Is, isnS⟩ (.var 6) (.con .non)) (.cons (.cmp ⟨.Lt, ltS⟩ (.app ixR (.cons (.var 4) (.cons (.con (.int 2)) .nil))) (.con (.int 1))) .nil)))) (
    (.cons (.ret [] (.con .non)) <| .nil)) (
 .nil)) <|
  (.cons (.mut mAppend [] 3 (.cons (.app tupR (.cons (.var 5) (.cons (.var 6) (.cons (.app ixR (.cons (.var 4) (.cons (.con (.int 2)) .nil))) .nil)))) .nil)) <| .nil))))
def b_cells_of : Sms Bag :=
  (.cons (.set [] true 3 (.app lstR .nil)) <|
  (.cons (.forI [] itList (.cons (.var 2) .nil) (.nm 4) (l_cells_of_1)) <|
  (.cons (.retv 3) <| .nil)))
def f_cells_of : List D → Bag → Option (R × Bag) := evF 3 7 (b_cells_of)
theorem c_cells_of : chkSs n_cells_of (defScope s_cells_of) (defBody s_cells_of) (b_cells_of) = true := by kernel_rfl
theorem ok_cells_of (A : BA) {P : Program} {w : World} {K : PySem.W.Frag} {mg : Str → Option Value} {base : Heap} {f : Addr} {fd : FuncData} (F : Fun K "cells_of" "cells_of" s_cells_of f fd) (k_place_in : Callee (cfg P w K mg base A) 1 "place_in" f_place_in) : FnOk P w K mg base CX0 2 f fd ["gifts", "uses", "rows"] (fun vs H Q _ => RSem (cfg P w K mg base A) f_cells_of vs H Q) := by
  have o : (b_cells_of).ok (cfg P w K mg base A) 1 := by
    simp only [b_cells_of, l_cells_of_1, Sms.ok, Sm.ok, Xp.ok, Xs.ok, and_true, true_and]
    (repeat' apply And.intro) <;> first | exact (ok_lst).up | exact ok_itList | exact (ok_ix).up | exact cmp_lt | exact cmp_is | exact ok_append | exact (ok_tup).up | exact (call_rule (k_place_in.mono (by decide))).up
  exact fn_ok F sc_cells_of (by decide) o (c_cells_of)
abbrev s_each_pair_once : Stmt := topS 5
def n_each_pair_once : List Str := ["cells", "cell"]
theorem sc_each_pair_once : FnScope n_each_pair_once ["cells"] (defScope s_each_pair_once) := ⟨rfl, rfl, rfl, by decide +kernel, rfl, by decide +kernel, by decide +kernel⟩
def b_each_pair_once : Sms Bag :=
  (.cons (.ret [] (.not (.app (callR "has_duplicates" f_has_duplicates) (.cons (.comp [("cell", 1)] itList (.cons (.var 0) .nil) (.nm 1) .nil (.app tupR (.cons (.app ixR (.cons (.var 1) (.cons (.con (.int 0)) .nil))) (.cons (.app ixR (.cons (.var 1) (.cons (.con (.int 1)) .nil))) .nil)))) .nil)))) <| .nil)
def f_each_pair_once : List D → Bag → Option (R × Bag) := evF 1 2 (b_each_pair_once)
theorem c_each_pair_once : chkSs n_each_pair_once (defScope s_each_pair_once) (defBody s_each_pair_once) (b_each_pair_once) = true := by kernel_rfl
theorem ok_each_pair_once (A : BA) {P : Program} {w : World} {K : PySem.W.Frag} {mg : Str → Option Value} {base : Heap} {f : Addr} {fd : FuncData} (F : Fun K "each_pair_once" "each_pair_once" s_each_pair_once f fd) (k_has_duplicates : Callee (cfg P w K mg base A) 1 "has_duplicates" f_has_duplicates) : FnOk P w K mg base CX0 2 f fd ["cells"] (fun vs H Q _ => RSem (cfg P w K mg base A) f_each_pair_once vs H Q) := by
  have o : (b_each_pair_once).ok (cfg P w K mg base A) 1 := by
    simp only [b_each_pair_once, Sms.ok, Sm.ok, Xp.ok, Xs.ok, and_true, true_and]
    (repeat' apply And.intro) <;> first | exact ok_itList | exact (ok_tup).up | exact (ok_ix).up | exact (call_rule (k_has_duplicates.mono (by decide))).up
  exact fn_ok F sc_each_pair_once (by decide) o (c_each_pair_once)
abbrev s_in_order : Stmt := topS 6
def n_in_order : List Str := ["cells", "at"]
theorem sc_in_order : FnScope n_in_order ["cells"] (defScope s_in_order) := ⟨rfl, rfl, rfl, by decide +kernel, rfl, by decide +kernel, by decide +kernel⟩
def l_in_order_1 : Sms Bag :=
  (.cons (.iff [] (.cmp ⟨.Gt, gtS⟩ (.app tupR (.cons (.app ixR (.cons (.app ixR (.cons (.var 0) (.cons (.var 1) .nil))) (.cons (.con (.int 0)) .nil))) (.cons (.app ixR (.cons (.app ixR (.cons (.var 0) (.cons (.var 1) .nil))) (.cons (.con (.int 1)) .nil))) .nil))) (.app tupR (.cons (.app ixR (.cons (.app ixR (.cons (.var 0) (.cons (.app (binR .Add addS) (.cons (.var 1) (.cons (.con (.int 1)) .nil))) .nil))) (.cons (.con (.int 0)) .nil))) (.cons (.app ixR (.cons (.app ixR (.cons (.var 0) (.cons (.app (binR .Add addS) (.cons (.var 1) (.cons (.con (.int 1)) .nil))) .nil))) (.cons (.con (.int 1)) .nil))) .nil)))) (
    (.cons (.ret [] (.con (.bl false))) <| .nil)) (
 .nil)) <| .nil)
def b_in_order : Sms Bag :=
  (.cons (.forI [] itRng1 (.cons (.app (binR .Sub subS) (.cons (.app (bltR "len" lenS) (.cons (.var 0) .nil)) (.cons (.con (.int 1)) .nil))) .nil) (.nm 1) (l_in_order_1)) <|
  (.cons (.ret [] (.con (.bl true))) <| .nil))
def f_in_order : List D → Bag → Option (R × Bag) := evF 1 2 (b_in_order)
theorem c_in_order : chkSs n_in_order (defScope s_in_order) (defBody s_in_order) (b_in_order) = true := by kernel_rfl
theorem ok_in_order (A : BA) {P : Program} {w : World} {K : PySem.W.Frag} {mg : Str → Option Value} {base : Heap} {f : Addr} {fd : FuncData} (F : Fun K "in_order" "in_order" s_in_order f fd) (h_range : mg "range" = none) (h_len : mg "len" = none) : FnOk P w K mg base CX0 1 f fd ["cells"] (fun vs H Q _ => RSem (cfg P w K mg base A) f_in_order vs H Q) := by
  have o : (b_in_order).ok (cfg P w K mg base A) 0 := by
    simp only [b_in_order, l_in_order_1, Sms.ok, Sm.ok, Xp.ok, Xs.ok, and_true, true_and]
    (repeat' apply And.intro) <;> first | exact (ok_itRng1 h_range) | exact (ok_sub).up | exact (ok_len h_len).up | exact cmp_gt | exact (ok_tup).up | exact (ok_ix).up | exact (ok_add).up
  exact fn_ok F sc_in_order (by decide) o (c_in_order)
abbrev s_uses_filled : Stmt := topS 7
def n_uses_filled : List Str := ["uses", "cells", "place", "cell"]
theorem sc_uses_filled : FnScope n_uses_filled ["uses", "cells"] (defScope s_uses_filled) := ⟨rfl, rfl, rfl, by decide +kernel, rfl, by decide +kernel, by decide +kernel⟩
def l_uses_filled_1 : Sms Bag :=
  (.cons (.iff [] (.cmp ⟨.NotEq, neS⟩ (.app (bltR "sum" sumS) (.cons (.comp [("cell", 3)] itList (.cons (.var 1) .nil) (.nm 3) (.cons (.cmp ⟨.Eq, eqS⟩ (.app ixR (.cons (.var 3) (.cons (.con (.int 1)) .nil))) (.var 2)) .nil) (.app ixR (.cons (.var 3) (.cons (.con (.int 2)) .nil)))) .nil)) (.app ixR (.cons (.app ixR (.cons (.var 0) (.cons (.var 2) .nil))) (.cons (.con (.int 2)) .nil)))) (
    (.cons (.ret [] (.con (.bl false))) <| .nil)) (
 .nil)) <| .nil)
def b_uses_filled : Sms Bag :=
  (.cons (.forI [] itRng1 (.cons (.app (bltR "len" lenS) (.cons (.var 0) .nil)) .nil) (.nm 2) (l_uses_filled_1)) <|
  (.cons (.ret [] (.con (.bl true))) <| .nil))
def f_uses_filled : List D → Bag → Option (R × Bag) := evF 2 4 (b_uses_filled)
theorem c_uses_filled : chkSs n_uses_filled (defScope s_uses_filled) (defBody s_uses_filled) (b_uses_filled) = true := by kernel_rfl
theorem ok_uses_filled (A : BA) {P : Program} {w : World} {K : PySem.W.Frag} {mg : Str → Option Value} {base : Heap} {f : Addr} {fd : FuncData} (F : Fun K "uses_filled" "uses_filled" s_uses_filled f fd) (h_range : mg "range" = none) (h_len : mg "len" = none) (h_sum : mg "sum" = none) : FnOk P w K mg base CX0 1 f fd ["uses", "cells"] (fun vs H Q _ => RSem (cfg P w K mg base A) f_uses_filled vs H Q) := by
  have o : (b_uses_filled).ok (cfg P w K mg base A) 0 := by
    simp only [b_uses_filled, l_uses_filled_1, Sms.ok, Sm.ok, Xp.ok, Xs.ok, and_true, true_and]
    (repeat' apply And.intro) <;> first | exact (ok_itRng1 h_range) | exact (ok_len h_len).up | exact cmp_ne | exact (ok_sum h_sum).up | exact ok_itList | exact cmp_eq | exact (ok_ix).up
  exact fn_ok F sc_uses_filled (by decide) o (c_uses_filled)
abbrev s_given_by : Stmt := topS 8
def n_given_by : List Str := ["cells", "place", "cell"]
theorem sc_given_by : FnScope n_given_by ["cells", "place"] (defScope s_given_by) := ⟨rfl, rfl, rfl, by decide +kernel, rfl, by decide +kernel, by decide +kernel⟩
def b_given_by : Sms Bag :=
  (.cons (.ret [] (.app (bltR "sum" sumS) (.cons (.comp [("cell", 2)] itList (.cons (.var 0) .nil) (.nm 2) (.cons (.cmp ⟨.Eq, eqS⟩ (.app ixR (.cons (.var 2) (.cons (.con (.int 0)) .nil))) (.var 1)) .nil) (.app ixR (.cons (.var 2) (.cons (.con (.int 2)) .nil)))) .nil))) <| .nil)
def f_given_by : List D → Bag → Option (R × Bag) := evF 2 3 (b_given_by)
theorem c_given_by : chkSs n_given_by (defScope s_given_by) (defBody s_given_by) (b_given_by) = true := by kernel_rfl
theorem ok_given_by (A : BA) {P : Program} {w : World} {K : PySem.W.Frag} {mg : Str → Option Value} {base : Heap} {f : Addr} {fd : FuncData} (F : Fun K "given_by" "given_by" s_given_by f fd) (h_sum : mg "sum" = none) : FnOk P w K mg base CX0 1 f fd ["cells", "place"] (fun vs H Q _ => RSem (cfg P w K mg base A) f_given_by vs H Q) := by
  have o : (b_given_by).ok (cfg P w K mg base A) 0 := by
    simp only [b_given_by, Sms.ok, Sm.ok, Xp.ok, Xs.ok, and_true, true_and]
    (repeat' apply And.intro) <;> first | exact (ok_sum h_sum).up | exact ok_itList | exact cmp_eq | exact (ok_ix).up
  exact fn_ok F sc_given_by (by decide) o (c_given_by)
abbrev s_gifts_kept : Stmt := topS 9
def n_gifts_kept : List Str := ["gifts", "cells", "place"]
theorem sc_gifts_kept : FnScope n_gifts_kept ["gifts", "cells"] (defScope s_gifts_kept) := ⟨rfl, rfl, rfl, by decide +kernel, rfl, by decide +kernel, by decide +kernel⟩
def l_gifts_kept_1 : Sms Bag :=
  (.cons (.iff [] (.cmp ⟨.Gt, gtS⟩ (.app (callR "given_by" f_given_by) (.cons (.var 1) (.cons (.var 2) .nil))) (.app ixR (.cons (.app ixR (.cons (.var 0) (.cons (.var 2) .nil))) (.cons (.con (.int 2)) .nil)))) (
    (.cons (.ret [] (.con (.bl false))) <| .nil)) (
 .nil)) <| .nil)
def b_gifts_kept : Sms Bag :=
  (.cons (.forI [] itRng1 (.cons (.app (bltR "len" lenS) (.cons (.var 0) .nil)) .nil) (.nm 2) (l_gifts_kept_1)) <|
  (.cons (.ret [] (.con (.bl true))) <| .nil))
def f_gifts_kept : List D → Bag → Option (R × Bag) := evF 2 3 (b_gifts_kept)
theorem c_gifts_kept : chkSs n_gifts_kept (defScope s_gifts_kept) (defBody s_gifts_kept) (b_gifts_kept) = true := by kernel_rfl
theorem ok_gifts_kept (A : BA) {P : Program} {w : World} {K : PySem.W.Frag} {mg : Str → Option Value} {base : Heap} {f : Addr} {fd : FuncData} (F : Fun K "gifts_kept" "gifts_kept" s_gifts_kept f fd) (h_range : mg "range" = none) (h_len : mg "len" = none) (k_given_by : Callee (cfg P w K mg base A) 1 "given_by" f_given_by) : FnOk P w K mg base CX0 2 f fd ["gifts", "cells"] (fun vs H Q _ => RSem (cfg P w K mg base A) f_gifts_kept vs H Q) := by
  have o : (b_gifts_kept).ok (cfg P w K mg base A) 1 := by
    simp only [b_gifts_kept, l_gifts_kept_1, Sms.ok, Sm.ok, Xp.ok, Xs.ok, and_true, true_and]
    (repeat' apply And.intro) <;> first | exact (ok_itRng1 h_range) | exact (ok_len h_len).up | exact cmp_gt | exact (ok_ix).up | exact (call_rule (k_given_by.mono (by decide))).up
  exact fn_ok F sc_gifts_kept (by decide) o (c_gifts_kept)
abbrev s_days_kept : Stmt := topS 10
def n_days_kept : List Str := ["gifts", "uses", "cells", "cell"]
theorem sc_days_kept : FnScope n_days_kept ["gifts", "uses", "cells"] (defScope s_days_kept) := ⟨rfl, rfl, rfl, by decide +kernel, rfl, by decide +kernel, by decide +kernel⟩
def l_days_kept_1 : Sms Bag :=
  (.cons (.iff [] (.cmp ⟨.Lt, ltS⟩ (.app ixR (.cons (.app ixR (.cons (.var 1) (.cons (.app ixR (.cons (.var 3) (.cons (.con (.int 1)) .nil))) .nil))) (.cons (.con (.int 1)) .nil))) (.app ixR (.cons (.app ixR (.cons (.var 0) (.cons (.app ixR (.cons (.var 3) (.cons (.con (.int 0)) .nil))) .nil))) (.cons (.con (.int 1)) .nil)))) (
    (.cons (.ret [] (.con (.bl false))) <| .nil)) (
 .nil)) <| .nil)
def b_days_kept : Sms Bag :=
  (.cons (.forI [] itList (.cons (.var 2) .nil) (.nm 3) (l_days_kept_1)) <|
  (.cons (.ret [] (.con (.bl true))) <| .nil))
def f_days_kept : List D → Bag → Option (R × Bag) := evF 3 4 (b_days_kept)
theorem c_days_kept : chkSs n_days_kept (defScope s_days_kept) (defBody s_days_kept) (b_days_kept) = true := by kernel_rfl
theorem ok_days_kept (A : BA) {P : Program} {w : World} {K : PySem.W.Frag} {mg : Str → Option Value} {base : Heap} {f : Addr} {fd : FuncData} (F : Fun K "days_kept" "days_kept" s_days_kept f fd) : FnOk P w K mg base CX0 1 f fd ["gifts", "uses", "cells"] (fun vs H Q _ => RSem (cfg P w K mg base A) f_days_kept vs H Q) := by
  have o : (b_days_kept).ok (cfg P w K mg base A) 0 := by
    simp only [b_days_kept, l_days_kept_1, Sms.ok, Sm.ok, Xp.ok, Xs.ok, and_true, true_and]
    (repeat' apply And.intro) <;> first | exact ok_itList | exact cmp_lt | exact (ok_ix).up
  exact fn_ok F sc_days_kept (by decide) o (c_days_kept)
abbrev s_nothing_crosses : Stmt := topS 11
def n_nothing_crosses : List Str := ["gifts", "cells", "latest", "all_spent", "place", "uses", "cell"]
theorem sc_nothing_crosses : FnScope n_nothing_crosses ["gifts", "cells"] (defScope s_nothing_crosses) := ⟨rfl, rfl, rfl, by decide +kernel, rfl, by decide +kernel, by decide +kernel⟩
def l_nothing_crosses_1 : Sms Bag :=
  (.cons (.set [] false 5 (.comp [("cell", 6)] itList (.cons (.var 1) .nil) (.nm 6) (.cons (.cmp ⟨.Eq, eqS⟩ (.app ixR (.cons (.var 6) (.cons (.con (.int 0)) .nil))) (.var 4)) .nil) (.app ixR (.cons (.var 6) (.cons (.con (.int 1)) .nil))))) <|
  (.cons (.iff [] (.cmp ⟨.Gt, gtS⟩ (.app (bltR "len" lenS) (.cons (.var 5) .nil)) (.con (.int 0))) (
    (.cons (.iff [] (.or (.cons (.not (.var 3)) (.cons (.cmp ⟨.Lt, ltS⟩ (.app (bltR "min" minS) (.cons (.var 5) .nil)) (.var 2)) .nil))) (
      (.cons (.ret [] (.con (.bl false))) <| .nil)) (
 .nil)) <|
    (.cons (.set [] false 2 (.app (bltR "max" maxS) (.cons (.var 5) .nil))) <| .nil))) (
 .nil)) <|
  (.cons (.iff [] (.cmp ⟨.Lt, ltS⟩ (.app (callR "given_by" f_given_by) (.cons (.var 1) (.cons (.var 4) .nil))) (.app ixR (.cons (.app ixR (.cons (.var 0) (.cons (.var 4) .nil))) (.cons (.con (.int 2)) .nil)))) (
    (.cons (.set [] false 3 (.con (.bl false))) <| .nil)) (
 .nil)) <| .nil)))
def b_nothing_crosses : Sms Bag :=
  (.cons (.set [] false 2 (.con (.int 0))) <|
  (.cons (.set [] false 3 (.con (.bl true))) <|
  (.cons (.forI [] itRng1 (.cons (.app (bltR "len" lenS) (.cons (.var 0) .nil)) .nil) (.nm 4) (l_nothing_crosses_1)) <|
  (.cons (.ret [] (.con (.bl true))) <| .nil))))
def f_nothing_crosses : List D → Bag → Option (R × Bag) := evF 2 7 (b_nothing_crosses)
theorem c_nothing_crosses : chkSs n_nothing_crosses (defScope s_nothing_crosses) (defBody s_nothing_crosses) (b_nothing_crosses) = true := by kernel_rfl
theorem ok_nothing_crosses (A : BA) {P : Program} {w : World} {K : PySem.W.Frag} {mg : Str → Option Value} {base : Heap} {f : Addr} {fd : FuncData} (F : Fun K "nothing_crosses" "nothing_crosses" s_nothing_crosses f fd) (h_range : mg "range" = none) (h_len : mg "len" = none) (h_min : mg "min" = none) (h_max : mg "max" = none) (k_given_by : Callee (cfg P w K mg base A) 1 "given_by" f_given_by) : FnOk P w K mg base CX0 2 f fd ["gifts", "cells"] (fun vs H Q _ => RSem (cfg P w K mg base A) f_nothing_crosses vs H Q) := by
  have o : (b_nothing_crosses).ok (cfg P w K mg base A) 1 := by
    simp only [b_nothing_crosses, l_nothing_crosses_1, Sms.ok, Sm.ok, Xp.ok, Xs.ok, and_true, true_and]
    (repeat' apply And.intro) <;> first | exact (ok_itRng1 h_range) | exact (ok_len h_len).up | exact ok_itList | exact cmp_eq | exact (ok_ix).up | exact cmp_gt | exact cmp_lt | exact (ok_min h_min).up | exact (ok_max h_max).up | exact (call_rule (k_given_by.mono (by decide))).up
  exact fn_ok F sc_nothing_crosses (by decide) o (c_nothing_crosses)
abbrev s_is_trace : Stmt := topS 12
def n_is_trace : List Str := ["gifts", "uses", "rows", "cells"]
theorem sc_is_trace : FnScope n_is_trace ["gifts", "uses", "rows"] (defScope s_is_trace) := ⟨rfl, rfl, rfl, by decide +kernel, rfl, by decide +kernel, by decide +kernel⟩
def b_is_trace : Sms Bag :=
  (.cons (.set [] false 3 (.app (callR "cells_of" f_cells_of) (.cons (.var 0) (.cons (.var 1) (.cons (.var 2) .nil))))) <|
  (.cons (.iff [] (.cmp ⟨.Is, isnS⟩ (.var 3) (.con .non)) (
    (.cons (.ret [] (.con (.bl false))) <| .nil)) (
 .nil)) <|
  (.cons (.iff [] (.or (.cons (.not (.app (callR "each_pair_once" f_each_pair_once) (.cons (.var 3) .nil))) (.cons (.not (.app (callR "in_order" f_in_order) (.cons (.var 3) .nil))) .nil))) (
    (.cons (.ret [] (.con (.bl false))) <| .nil)) (
 .nil)) <|
  (.cons (.iff [] (.or (.cons (.not (.app (callR "uses_filled" f_uses_filled) (.cons (.var 1) (.cons (.var 3) .nil)))) (.cons (.not (.app (callR "gifts_kept" f_gifts_kept) (.cons (.var 0) (.cons (.var 3) .nil)))) .nil))) (
    (.cons (.ret [] (.con (.bl false))) <| .nil)) (
 .nil)) <|
  (.cons (.ret [] (.and (.cons (.app (callR "days_kept" f_days_kept) (.cons (.var 0) (.cons (.var 1) (.cons (.var 3) .nil)))) (.cons (.app (callR "nothing_crosses" f_nothing_crosses) (.cons (.var 0) (.cons (.var 3) .nil))) .nil)))) <| .nil)))))
def f_is_trace : List D → Bag → Option (R × Bag) := evF 3 4 (b_is_trace)
theorem c_is_trace : chkSs n_is_trace (defScope s_is_trace) (defBody s_is_trace) (b_is_trace) = true := by kernel_rfl
theorem ok_is_trace (A : BA) {P : Program} {w : World} {K : PySem.W.Frag} {mg : Str → Option Value} {base : Heap} {f : Addr} {fd : FuncData} (F : Fun K "is_trace" "is_trace" s_is_trace f fd) (k_cells_of : Callee (cfg P w K mg base A) 2 "cells_of" f_cells_of) (k_in_order : Callee (cfg P w K mg base A) 1 "in_order" f_in_order) (k_each_pair_once : Callee (cfg P w K mg base A) 2 "each_pair_once" f_each_pair_once) (k_gifts_kept : Callee (cfg P w K mg base A) 2 "gifts_kept" f_gifts_kept) (k_uses_filled : Callee (cfg P w K mg base A) 1 "uses_filled" f_uses_filled) (k_nothing_crosses : Callee (cfg P w K mg base A) 2 "nothing_crosses" f_nothing_crosses) (k_days_kept : Callee (cfg P w K mg base A) 1 "days_kept" f_days_kept) : FnOk P w K mg base CX0 3 f fd ["gifts", "uses", "rows"] (fun vs H Q _ => RSem (cfg P w K mg base A) f_is_trace vs H Q) := by
  have o : (b_is_trace).ok (cfg P w K mg base A) 2 := by
    simp only [b_is_trace, Sms.ok, Sm.ok, Xp.ok, Xs.ok, and_true, true_and]
    (repeat' apply And.intro) <;> first | exact cmp_is | exact (call_rule (k_cells_of.mono (by decide))).up | exact (call_rule (k_in_order.mono (by decide))).up | exact (call_rule (k_each_pair_once.mono (by decide))).up | exact (call_rule (k_gifts_kept.mono (by decide))).up | exact (call_rule (k_uses_filled.mono (by decide))).up | exact (call_rule (k_nothing_crosses.mono (by decide))).up | exact (call_rule (k_days_kept.mono (by decide))).up
  exact fn_ok F sc_is_trace (by decide) o (c_is_trace)
abbrev s__law_bag : Stmt := topS 14
def n__law_bag : List Str := ["script", "cells", "cell"]
theorem sc__law_bag : FnScope n__law_bag ["script"] (defScope s__law_bag) := ⟨rfl, rfl, rfl, by decide +kernel, rfl, by decide +kernel, by decide +kernel⟩
abbrev s__law_draw : Stmt := topS 15
def n__law_draw : List Str := ["bag", "size", "turn", "at", "cell", "left", "mixed", "number"]
theorem sc__law_draw : FnScope n__law_draw ["bag", "size"] (defScope s__law_draw) := ⟨rfl, rfl, rfl, by decide +kernel, rfl, by decide +kernel, by decide +kernel⟩
def b__law_draw (A : BA) : Sms Bag :=
  (.cons (.set [] false 2 (.app (bixR A.ab A.ac A.al) (.cons (.var 0) (.cons (.con (.int 2)) .nil)))) <|
  (.cons (.wst (bsetR A.ab A.ac A.al) [] (.cons (.app (binR .Add addS) (.cons (.var 2) (.cons (.con (.int 1)) .nil))) (.cons (.var 0) (.cons (.con (.int 2)) .nil)))) <|
  (.cons (.set [] false 3 (.app (binR .Mod modS) (.cons (.app (bltR "int" intS) (.cons (.var 2) .nil)) (.cons (.app (blenR A.ac) (.cons (.app (bixR A.ab A.ac A.al) (.cons (.var 0) (.cons (.con (.int 0)) .nil))) .nil)) .nil)))) <|
  (.cons (.set [] false 4 (.app (bixR A.ab A.ac A.al) (.cons (.app (bixR A.ab A.ac A.al) (.cons (.var 0) (.cons (.con (.int 0)) .nil))) (.cons (.var 3) .nil)))) <|
  (.cons (.set [] false 5 (.app (bixR A.ab A.ac A.al) (.cons (.var 0) (.cons (.con (.int 1)) .nil)))) <|
  (.cons (.iff [] (.and (.cons (.cmp ⟨.GtE, geS⟩ (.var 4) (.con (.int 1000000000000000000))) (.cons (.cmp ⟨.Gt, gtS⟩ (.app (bixR A.ab A.ac A.al) (.cons (.var 5) (.cons (.var 3) .nil))) (.con (.int 0))) .nil))) (
    (.cons (.set [] false 7 (.app (binR .Mod modS) (.cons (.app (bltR "int" intS) (.cons (.app (bixR A.ab A.ac A.al) (.cons (.var 5) (.cons (.var 3) .nil))) .nil)) (.cons (.var 1) .nil)))) <|
    (.cons (.wst (bsetR A.ab A.ac A.al) [] (.cons (.app (binR .FloorDiv fdivS) (.cons (.app (bixR A.ab A.ac A.al) (.cons (.var 5) (.cons (.var 3) .nil))) (.cons (.var 1) .nil))) (.cons (.var 5) (.cons (.var 3) .nil)))) <|
    (.cons (.ret [] (.var 7)) <| .nil)))) (
 .nil)) <|
  (.cons (.set [] false 6 (.app (binR .Mod modS) (.cons (.app (bltR "int" intS) (.cons (.app (binR .Add addS) (.cons (.app (binR .Add addS) (.cons (.var 4) (.cons (.app (binR .Mult mulS) (.cons (.con (.int 7919)) (.cons (.var 2) .nil))) .nil))) (.cons (.con (.int 13)) .nil))) .nil)) (.cons (.con (.int 2147483647)) .nil)))) <|
  (.cons (.set [] false 6 (.app (binR .Mod modS) (.cons (.app (bltR "int" intS) (.cons (.app (binR .Mult mulS) (.cons (.var 6) (.cons (.app (binR .Add addS) (.cons (.var 6) (.cons (.con (.int 48271)) .nil))) .nil))) .nil)) (.cons (.con (.int 2147483629)) .nil)))) <|
  (.cons (.set [] false 6 (.app (binR .Mod modS) (.cons (.app (bltR "int" intS) (.cons (.app (binR .Add addS) (.cons (.app (binR .Mult mulS) (.cons (.var 6) (.cons (.app (binR .Add addS) (.cons (.var 6) (.cons (.con (.int 69621)) .nil))) .nil))) (.cons (.app (binR .Mult mulS) (.cons (.con (.int 31)) (.cons (.var 2) .nil))) .nil))) .nil)) (.cons (.con (.int 2147483647)) .nil)))) <|
  (.cons (.ret [] (.app (binR .Mod modS) (.cons (.app (bltR "int" intS) (.cons (.app (binR .FloorDiv fdivS) (.cons (.var 6) (.cons (.con (.int 9)) .nil))) .nil)) (.cons (.var 1) .nil)))) <| .nil))))))))))
def f__law_draw (A : BA) : List D → Bag → Option (R × Bag) := evF 2 8 (b__law_draw A)
theorem c__law_draw (A : BA) : chkSs n__law_draw (defScope s__law_draw) (defBody s__law_draw) (b__law_draw A) = true := by kernel_rfl
theorem ok__law_draw (A : BA) {P : Program} {w : World} {K : PySem.W.Frag} {mg : Str → Option Value} {base : Heap} {f : Addr} {fd : FuncData} (F : Fun K "_law_draw" "_law_draw" s__law_draw f fd) (h_len : mg "len" = none) (h_int : mg "int" = none) : FnOk P w K mg base CX0 1 f fd ["bag", "size"] (fun vs H Q _ => RSem (cfg P w K mg base A) (f__law_draw A) vs H Q) := by
  have o : (b__law_draw A).ok (cfg P w K mg base A) 0 := by
    simp only [b__law_draw, Sms.ok, Sm.ok, Xp.ok, Xs.ok, and_true, true_and]
    (repeat' apply And.intro) <;> first | exact (ok_bix).up | exact ok_bset | exact (ok_add).up | exact (ok_mod).up | exact (ok_blen h_len).up | exact (ok_int h_int).up | exact cmp_gt | exact cmp_ge | exact (ok_fdiv).up | exact (ok_mul).up
  exact fn_ok F sc__law_draw (by decide) o (c__law_draw A)
abbrev s__law_name : Stmt := topS 16
def n__law_name : List Str := ["bag", "taken", "letters", "size", "word", "at", "k"]
theorem sc__law_name : FnScope n__law_name ["bag", "taken"] (defScope s__law_name) := ⟨rfl, rfl, rfl, by decide +kernel, rfl, by decide +kernel, by decide +kernel⟩
def l__law_name_1 (A : BA) : Sms Bag :=
  (.cons (.iff [] (.and (.cons (.cmp ⟨.NotIn, ninS⟩ (.var 4) (.var 1)) (.cons (.cmp ⟨.NotIn, ninS⟩ (.var 4) (.app lstR (.cons (.con (.str "and")) (.cons (.con (.str "or")) (.cons (.con (.str "lacks")) (.cons (.con (.str "any")) (.cons (.con (.str "none")) .nil))))))) .nil))) (
    (.cons (.ret [] (.var 4)) <| .nil)) (
 .nil)) <|
  (.cons (.set [] false 5 (.app (binR .Mod modS) (.cons (.app (bltR "int" intS) (.cons (.var 6) .nil)) (.cons (.var 3) .nil)))) <|
  (.cons (.set [] false 4 (.app (binR .Add addS) (.cons (.app (binR .Add addS) (.cons (.app (slR false true) (.cons (.var 4) (.cons (.var 5) .nil))) (.cons (.app ixR (.cons (.var 2) (.cons (.app (binR .Mod modS) (.cons (.app (bltR "int" intS) (.cons (.app (binR .Add addS) (.cons (.app (methR "find" findS) (.cons (.var 2) (.cons (.app ixR (.cons (.var 4) (.cons (.var 5) .nil))) .nil))) (.cons (.con (.int 1)) .nil))) .nil)) (.cons (.con (.int 26)) .nil))) .nil))) .nil))) (.cons (.app (slR true false) (.cons (.var 4) (.cons (.app (binR .Add addS) (.cons (.var 5) (.cons (.con (.int 1)) .nil))) .nil))) .nil)))) <| .nil)))
def b__law_name (A : BA) : Sms Bag :=
  (.cons (.set [] false 2 (.con (.str "abcdefghijklmnopqrstuvwxyz"))) <|
  (.cons (.set [] false 3 (.app (binR .Add addS) (.cons (.con (.int 1)) (.cons (.app (callR "_law_draw" (f__law_draw A)) (.cons (.var 0) (.cons (.con (.int 8)) .nil))) .nil)))) <|
  (.cons (.set [] false 4 (.app (binR .Mult mulS) (.cons (.app ixR (.cons (.var 2) (.cons (.app (callR "_law_draw" (f__law_draw A)) (.cons (.var 0) (.cons (.con (.int 26)) .nil))) .nil))) (.cons (.var 3) .nil)))) <|
  (.cons (.set [] false 5 (.app (callR "_law_draw" (f__law_draw A)) (.cons (.var 0) (.cons (.var 3) .nil)))) <|
  (.cons (.set [] false 4 (.app (binR .Add addS) (.cons (.app (binR .Add addS) (.cons (.app (slR false true) (.cons (.var 4) (.cons (.var 5) .nil))) (.cons (.app ixR (.cons (.var 2) (.cons (.app (callR "_law_draw" (f__law_draw A)) (.cons (.var 0) (.cons (.con (.int 26)) .nil))) .nil))) .nil))) (.cons (.app (slR true false) (.cons (.var 4) (.cons (.app (binR .Add addS) (.cons (.var 5) (.cons (.con (.int 1)) .nil))) .nil))) .nil)))) <|
  (.cons (.forI [] itRng1 (.cons (.con (.int 200)) .nil) (.nm 6) (l__law_name_1 A)) <|
  (.cons (.ret [] (.var 4)) <| .nil)))))))
def f__law_name (A : BA) : List D → Bag → Option (R × Bag) := evF 2 7 (b__law_name A)
theorem c__law_name (A : BA) : chkSs n__law_name (defScope s__law_name) (defBody s__law_name) (b__law_name A) = true := by kernel_rfl
theorem ok__law_name (A : BA) {P : Program} {w : World} {K : PySem.W.Frag} {mg : Str → Option Value} {base : Heap} {f : Addr} {fd : FuncData} (F : Fun K "_law_name" "_law_name" s__law_name f fd) (h_range : mg "range" = none) (h_int : mg "int" = none) (k__law_draw : Callee (cfg P w K mg base A) 1 "_law_draw" (f__law_draw A)) : FnOk P w K mg base CX0 2 f fd ["bag", "taken"] (fun vs H Q _ => RSem (cfg P w K mg base A) (f__law_name A) vs H Q) := by
  have o : (b__law_name A).ok (cfg P w K mg base A) 1 := by
    simp only [b__law_name, l__law_name_1, Sms.ok, Sm.ok, Xp.ok, Xs.ok, and_true, true_and]
    (repeat' apply And.intro) <;> first | exact (ok_add).up | exact (ok_mul).up | exact (ok_ix).up | exact (ok_sl true false).up | exact (ok_sl false true).up | exact (ok_itRng1 h_range) | exact cmp_nin | exact (ok_lst).up | exact (ok_mod).up | exact (ok_int h_int).up | exact ok_find | exact (call_rule (k__law_draw.mono (by decide))).up
  exact fn_ok F sc__law_name (by decide) o (c__law_name A)
abbrev s__law_names : Stmt := topS 17
def n__law_names : List Str := ["bag", "count", "names", "k"]
theorem sc__law_names : FnScope n__law_names ["bag", "count"] (defScope s__law_names) := ⟨rfl, rfl, rfl, by decide +kernel, rfl, by decide +kernel, by decide +kernel⟩
def l__law_names_1 (A : BA) : Sms Bag :=
  (.cons (.mut mAppend [2] 2 (.cons (.app (callR "_law_name" (f__law_name A)) (.cons (.var 0) (.cons (.var 2) .nil))) .nil)) <| .nil)
def b__law_names (A : BA) : Sms Bag :=
  (.cons (.set [] true 2 (.app lstR .nil)) <|
  (.cons (.forI [] itRng1 (.cons (.var 1) .nil) (.nm 3) (l__law_names_1 A)) <|
  (.cons (.retv 2) <| .nil)))
def f__law_names (A : BA) : List D → Bag → Option (R × Bag) := evF 2 4 (b__law_names A)
theorem c__law_names (A : BA) : chkSs n__law_names (defScope s__law_names) (defBody s__law_names) (b__law_names A) = true := by kernel_rfl
theorem ok__law_names (A : BA) {P : Program} {w : World} {K : PySem.W.Frag} {mg : Str → Option Value} {base : Heap} {f : Addr} {fd : FuncData} (F : Fun K "_law_names" "_law_names" s__law_names f fd) (h_range : mg "range" = none) (k__law_name : Callee (cfg P w K mg base A) 2 "_law_name" (f__law_name A)) : FnOk P w K mg base CX0 3 f fd ["bag", "count"] (fun vs H Q _ => RSem (cfg P w K mg base A) (f__law_names A) vs H Q) := by
  have o : (b__law_names A).ok (cfg P w K mg base A) 2 := by
    simp only [b__law_names, l__law_names_1, Sms.ok, Sm.ok, Xp.ok, Xs.ok, and_true, true_and]
    (repeat' apply And.intro) <;> first | exact (ok_lst).up | exact (ok_itRng1 h_range) | exact ok_append | exact (call_rule (k__law_name.mono (by decide))).up
  exact fn_ok F sc__law_names (by decide) o (c__law_names A)
abbrev s__law_come : Stmt := topS 18
def n__law_come : List Str := ["gifts", "day", "gift"]
theorem sc__law_come : FnScope n__law_come ["gifts", "day"] (defScope s__law_come) := ⟨rfl, rfl, rfl, by decide +kernel, rfl, by decide +kernel, by decide +kernel⟩
def b__law_come : Sms Bag :=
  (.cons (.ret [] (.app (bltR "sum" sumS) (.cons (.comp [("gift", 2)] itList (.cons (.var 0) .nil) (.nm 2) (.cons (.cmp ⟨.LtE, leS⟩ (.app ixR (.cons (.var 2) (.cons (.con (.int 1)) .nil))) (.var 1)) .nil) (.app ixR (.cons (.var 2) (.cons (.con (.int 2)) .nil)))) .nil))) <| .nil)
def f__law_come : List D → Bag → Option (R × Bag) := evF 2 3 (b__law_come)
theorem c__law_come : chkSs n__law_come (defScope s__law_come) (defBody s__law_come) (b__law_come) = true := by kernel_rfl
theorem ok__law_come (A : BA) {P : Program} {w : World} {K : PySem.W.Frag} {mg : Str → Option Value} {base : Heap} {f : Addr} {fd : FuncData} (F : Fun K "_law_come" "_law_come" s__law_come f fd) (h_sum : mg "sum" = none) : FnOk P w K mg base CX0 1 f fd ["gifts", "day"] (fun vs H Q _ => RSem (cfg P w K mg base A) f__law_come vs H Q) := by
  have o : (b__law_come).ok (cfg P w K mg base A) 0 := by
    simp only [b__law_come, Sms.ok, Sm.ok, Xp.ok, Xs.ok, and_true, true_and]
    (repeat' apply And.intro) <;> first | exact (ok_sum h_sum).up | exact ok_itList | exact cmp_le | exact (ok_ix).up
  exact fn_ok F sc__law_come (by decide) o (c__law_come)
abbrev s__law_outrun : Stmt := topS 19
def n__law_outrun : List Str := ["gifts", "uses", "wanted", "k"]
theorem sc__law_outrun : FnScope n__law_outrun ["gifts", "uses"] (defScope s__law_outrun) := ⟨rfl, rfl, rfl, by decide +kernel, rfl, by decide +kernel, by decide +kernel⟩
def l__law_outrun_1 : Sms Bag :=
  (.cons (.set [] false 2 (.app (binR .Add addS) (.cons (.var 2) (.cons (.app ixR (.cons (.app ixR (.cons (.var 1) (.cons (.var 3) .nil))) (.cons (.con (.int 2)) .nil))) .nil)))) <|
  (.cons (.iff [] (.cmp ⟨.Gt, gtS⟩ (.var 2) (.app (callR "_law_come" f__law_come) (.cons (.var 0) (.cons (.app ixR (.cons (.app ixR (.cons (.var 1) (.cons (.var 3) .nil))) (.cons (.con (.int 1)) .nil))) .nil)))) (
    (.cons (.ret [] (.var 3)) <| .nil)) (
 .nil)) <| .nil))
def b__law_outrun : Sms Bag :=
  (.cons (.set [] false 2 (.con (.int 0))) <|
  (.cons (.forI [] itRng1 (.cons (.app (bltR "len" lenS) (.cons (.var 1) .nil)) .nil) (.nm 3) (l__law_outrun_1)) <|
  (.cons (.ret [] (.con .non)) <| .nil)))
def f__law_outrun : List D → Bag → Option (R × Bag) := evF 2 4 (b__law_outrun)
theorem c__law_outrun : chkSs n__law_outrun (defScope s__law_outrun) (defBody s__law_outrun) (b__law_outrun) = true := by kernel_rfl
theorem ok__law_outrun (A : BA) {P : Program} {w : World} {K : PySem.W.Frag} {mg : Str → Option Value} {base : Heap} {f : Addr} {fd : FuncData} (F : Fun K "_law_outrun" "_law_outrun" s__law_outrun f fd) (h_range : mg "range" = none) (h_len : mg "len" = none) (k__law_come : Callee (cfg P w K mg base A) 1 "_law_come" f__law_come) : FnOk P w K mg base CX0 2 f fd ["gifts", "uses"] (fun vs H Q _ => RSem (cfg P w K mg base A) f__law_outrun vs H Q) := by
  have o : (b__law_outrun).ok (cfg P w K mg base A) 1 := by
    simp only [b__law_outrun, l__law_outrun_1, Sms.ok, Sm.ok, Xp.ok, Xs.ok, and_true, true_and]
    (repeat' apply And.intro) <;> first | exact (ok_itRng1 h_range) | exact (ok_len h_len).up | exact (ok_add).up | exact (ok_ix).up | exact cmp_gt | exact (call_rule (k__law_come.mono (by decide))).up
  exact fn_ok F sc__law_outrun (by decide) o (c__law_outrun)
abbrev s__law_gift_rows : Stmt := topS 20
def n__law_gift_rows : List Str := ["bag", "count", "top", "great", "wide", "ids", "k", "days", "number", "turn"]
theorem sc__law_gift_rows : FnScope n__law_gift_rows ["bag", "count", "top", "great"] (defScope s__law_gift_rows) := ⟨rfl, rfl, rfl, by decide +kernel, rfl, by decide +kernel, by decide +kernel⟩
def e__law_gift_rows_1 (A : BA) : Xp Bag := (.comp [("k", 6)] itRng1 (.cons (.var 1) .nil) (.nm 6) .nil (.app (callR "_law_draw" (f__law_draw A)) (.cons (.var 0) (.cons (.var 2) .nil))))
def e__law_gift_rows_2 (A : BA) : Xp Bag := (.comp [("k", 6)] itRng1 (.cons (.var 1) .nil) (.nm 6) .nil (.app tupR (.cons (.app ixR (.cons (.var 5) (.cons (.var 6) .nil))) (.cons (.app ixR (.cons (.var 7) (.cons (.var 6) .nil))) (.cons (.app (binR .Add addS) (.cons (.con (.int 1)) (.cons (.app (callR "_law_draw" (f__law_draw A)) (.cons (.var 0) (.cons (.var 3) .nil))) .nil))) .nil)))))
def l__law_gift_rows_1 (A : BA) : Sms Bag :=
  (.cons (.iff [5] (.cmp ⟨.NotIn, ninS⟩ (.var 8) (.var 5)) (
    (.cons .brk <| .nil)) (
 .nil)) <|
  (.cons (.set [] false 8 (.app (binR .Add addS) (.cons (.app (binR .Mod modS) (.cons (.app (bltR "int" intS) (.cons (.var 8) .nil)) (.cons (.con (.int 999999)) .nil))) (.cons (.con (.int 1)) .nil)))) <| .nil))
def l__law_gift_rows_2 (A : BA) : Sms Bag :=
  (.cons (.set [] false 8 (.app (binR .Add addS) (.cons (.con (.int 1)) (.cons (.app (callR "_law_draw" (f__law_draw A)) (.cons (.var 0) (.cons (.con (.int 60)) .nil))) .nil)))) <|
  (.cons (.iff [] (.cmp ⟨.Eq, eqS⟩ (.var 4) (.con (.int 1))) (
    (.cons (.set [] false 8 (.app (binR .Add addS) (.cons (.con (.int 1)) (.cons (.app (callR "_law_draw" (f__law_draw A)) (.cons (.var 0) (.cons (.con (.int 999999)) .nil))) .nil)))) <| .nil)) (
 .nil)) <|
  (.cons (.forI [] itRng1 (.cons (.con (.int 41)) .nil) (.nm 9) (l__law_gift_rows_1 A)) <|
  (.cons (.mut mAppend [] 5 (.cons (.var 8) .nil)) <| .nil))))
def b__law_gift_rows (A : BA) : Sms Bag :=
  (.cons (.set [] false 4 (.app (callR "_law_draw" (f__law_draw A)) (.cons (.var 0) (.cons (.con (.int 2)) .nil)))) <|
  (.cons (.set [] true 5 (.app lstR .nil)) <|
  (.cons (.forI [] itRng1 (.cons (.var 1) .nil) (.nm 6) (l__law_gift_rows_2 A)) <|
  (.cons (.set [] false 7 (.app (bltR "sorted" sortedS) (.cons (e__law_gift_rows_1 A) .nil))) <|
  (.cons (.ret [5] (e__law_gift_rows_2 A)) <| .nil)))))
def f__law_gift_rows (A : BA) : List D → Bag → Option (R × Bag) := evF 4 10 (b__law_gift_rows A)
theorem c__law_gift_rows (A : BA) : chkSs n__law_gift_rows (defScope s__law_gift_rows) (defBody s__law_gift_rows) (b__law_gift_rows A) = true := by kernel_rfl
theorem ok__law_gift_rows (A : BA) {P : Program} {w : World} {K : PySem.W.Frag} {mg : Str → Option Value} {base : Heap} {f : Addr} {fd : FuncData} (F : Fun K "_law_gift_rows" "_law_gift_rows" s__law_gift_rows f fd) (h_range : mg "range" = none) (h_int : mg "int" = none) (h_sorted : mg "sorted" = none) (k__law_draw : Callee (cfg P w K mg base A) 1 "_law_draw" (f__law_draw A)) : FnOk P w K mg base CX0 2 f fd ["bag", "count", "top", "great"] (fun vs H Q _ => RSem (cfg P w K mg base A) (f__law_gift_rows A) vs H Q) := by
  have o : (b__law_gift_rows A).ok (cfg P w K mg base A) 1 := by
    simp only [b__law_gift_rows, l__law_gift_rows_1, l__law_gift_rows_2, e__law_gift_rows_1, e__law_gift_rows_2, Sms.ok, Sm.ok, Xp.ok, Xs.ok, and_true, true_and]
    (repeat' apply And.intro) <;> first | exact (ok_lst).up | exact (ok_itRng1 h_range) | exact (ok_add).up | exact cmp_eq | exact cmp_nin | exact (ok_mod).up | exact (ok_int h_int).up | exact ok_append | exact (ok_sorted h_sorted).up | exact (ok_tup).up | exact (ok_ix).up | exact (call_rule (k__law_draw.mono (by decide))).up
  exact fn_ok F sc__law_gift_rows (by decide) o (c__law_gift_rows A)
abbrev s__law_use_key : Stmt := topS 21
def n__law_use_key : List Str := ["bag", "names", "keys", "number", "kind", "key"]
theorem sc__law_use_key : FnScope n__law_use_key ["bag", "names", "keys"] (defScope s__law_use_key) := ⟨rfl, rfl, rfl, by decide +kernel, rfl, by decide +kernel, by decide +kernel⟩
def b__law_use_key (A : BA) : Sms Bag :=
  (.cons (.set [] false 3 (.app ixR (.cons (.app lstR (.cons (.con (.int 0)) (.cons (.con (.int 1)) (.cons (.con (.int 2)) (.cons (.app (binR .Sub subS) (.cons (.con (.int 0)) (.cons (.con (.int 1)) .nil))) (.cons (.con (.int 1000000)) .nil)))))) (.cons (.app (callR "_law_draw" (f__law_draw A)) (.cons (.var 0) (.cons (.con (.int 5)) .nil))) .nil)))) <|
  (.cons (.set [] false 4 (.app (callR "_law_draw" (f__law_draw A)) (.cons (.var 0) (.cons (.con (.int 6)) .nil)))) <|
  (.cons (.set [] false 5 (.var 3)) <|
  (.cons (.iff [] (.cmp ⟨.Eq, eqS⟩ (.var 4) (.con (.int 1))) (
    (.cons (.set [] false 5 (.app (bltR "str" strS) (.cons (.var 3) .nil))) <| .nil)) (
 .nil)) <|
  (.cons (.iff [] (.cmp ⟨.Eq, eqS⟩ (.var 4) (.con (.int 2))) (
    (.cons (.set [] false 5 (.app tupR (.cons (.var 3) .nil))) <| .nil)) (
 .nil)) <|
  (.cons (.iff [] (.cmp ⟨.Eq, eqS⟩ (.var 4) (.con (.int 3))) (
    (.cons (.set [] false 5 (.app tupR (.cons (.var 3) (.cons (.app tupR (.cons (.con (.str "gift")) (.cons (.app ixR (.cons (.var 1) (.cons (.con (.int 0)) .nil))) (.cons (.app ixR (.cons (.var 1) (.cons (.con (.int 1)) .nil))) (.cons (.app ixR (.cons (.var 1) (.cons (.con (.int 2)) .nil))) .nil))))) .nil)))) <| .nil)) (
 .nil)) <|
  (.cons (.iff [] (.cmp ⟨.Eq, eqS⟩ (.var 4) (.con (.int 4))) (
    (.cons (.set [] false 5 (.app ixR (.cons (.var 1) (.cons (.app (callR "_law_draw" (f__law_draw A)) (.cons (.var 0) (.cons (.app (bltR "len" lenS) (.cons (.var 1) .nil)) .nil))) .nil)))) <| .nil)) (
 .nil)) <|
  (.cons (.iff [] (.cmp ⟨.Eq, eqS⟩ (.var 4) (.con (.int 5))) (
    (.cons (.set [] false 5 (.app tupR (.cons (.app (bltR "str" strS) (.cons (.var 3) .nil)) (.cons (.var 3) .nil)))) <| .nil)) (
 .nil)) <|
  (.cons (.iff [] (.cmp ⟨.In, inS⟩ (.var 5) (.var 2)) (
    (.cons (.set [] false 5 (.app (binR .Add addS) (.cons (.con (.int 2000000)) (.cons (.app (bltR "len" lenS) (.cons (.var 2) .nil)) .nil)))) <| .nil)) (
 .nil)) <|
  (.cons (.ret [] (.var 5)) <| .nil))))))))))
def f__law_use_key (A : BA) : List D → Bag → Option (R × Bag) := evF 3 6 (b__law_use_key A)
theorem c__law_use_key (A : BA) : chkSs n__law_use_key (defScope s__law_use_key) (defBody s__law_use_key) (b__law_use_key A) = true := by kernel_rfl
theorem ok__law_use_key (A : BA) {P : Program} {w : World} {K : PySem.W.Frag} {mg : Str → Option Value} {base : Heap} {f : Addr} {fd : FuncData} (F : Fun K "_law_use_key" "_law_use_key" s__law_use_key f fd) (h_str : mg "str" = none) (h_len : mg "len" = none) (k__law_draw : Callee (cfg P w K mg base A) 1 "_law_draw" (f__law_draw A)) : FnOk P w K mg base CX0 2 f fd ["bag", "names", "keys"] (fun vs H Q _ => RSem (cfg P w K mg base A) (f__law_use_key A) vs H Q) := by
  have o : (b__law_use_key A).ok (cfg P w K mg base A) 1 := by
    simp only [b__law_use_key, Sms.ok, Sm.ok, Xp.ok, Xs.ok, and_true, true_and]
    (repeat' apply And.intro) <;> first | exact (ok_ix).up | exact (ok_lst).up | exact (ok_sub).up | exact cmp_eq | exact (ok_str h_str).up | exact (ok_tup).up | exact (ok_len h_len).up | exact cmp_in | exact (ok_add).up | exact (call_rule (k__law_draw.mono (by decide))).up
  exact fn_ok F sc__law_use_key (by decide) o (c__law_use_key A)
abbrev s__law_use_days : Stmt := topS 22
def n__law_use_days : List Str := ["bag", "gifts", "count", "top", "days", "k", "day"]
theorem sc__law_use_days : FnScope n__law_use_days ["bag", "gifts", "count", "top"] (defScope s__law_use_days) := ⟨rfl, rfl, rfl, by decide +kernel, rfl, by decide +kernel, by decide +kernel⟩
def l__law_use_days_1 (A : BA) : Sms Bag :=
  (.cons (.set [] false 6 (.app (callR "_law_draw" (f__law_draw A)) (.cons (.var 0) (.cons (.var 3) .nil)))) <|
  (.cons (.iff [] (.and (.cons (.cmp ⟨.Gt, gtS⟩ (.app (bltR "len" lenS) (.cons (.var 1) .nil)) (.con (.int 0))) (.cons (.cmp ⟨.Gt, gtS⟩ (.app (callR "_law_draw" (f__law_draw A)) (.cons (.var 0) (.cons (.con (.int 4)) .nil))) (.con (.int 0))) .nil))) (
    (.cons (.set [] false 6 (.app (binR .Sub subS) (.cons (.app (binR .Add addS) (.cons (.app ixR (.cons (.app ixR (.cons (.var 1) (.cons (.app (callR "_law_draw" (f__law_draw A)) (.cons (.var 0) (.cons (.app (bltR "len" lenS) (.cons (.var 1) .nil)) .nil))) .nil))) (.cons (.con (.int 1)) .nil))) (.cons (.app (callR "_law_draw" (f__law_draw A)) (.cons (.var 0) (.cons (.con (.int 3)) .nil))) .nil))) (.cons (.con (.int 1)) .nil)))) <| .nil)) (
 .nil)) <|
  (.cons (.mut mAppend [] 4 (.cons (.app (bltR "max" maxS) (.cons (.con (.int 0)) (.cons (.app (bltR "min" minS) (.cons (.con (.int 9999)) (.cons (.var 6) .nil))) .nil))) .nil)) <| .nil)))
def b__law_use_days (A : BA) : Sms Bag :=
  (.cons (.set [] true 4 (.app lstR .nil)) <|
  (.cons (.forI [] itRng1 (.cons (.var 2) .nil) (.nm 5) (l__law_use_days_1 A)) <|
  (.cons (.ret [4] (.app (bltR "sorted" sortedS) (.cons (.var 4) .nil))) <| .nil)))
def f__law_use_days (A : BA) : List D → Bag → Option (R × Bag) := evF 4 7 (b__law_use_days A)
theorem c__law_use_days (A : BA) : chkSs n__law_use_days (defScope s__law_use_days) (defBody s__law_use_days) (b__law_use_days A) = true := by kernel_rfl
theorem ok__law_use_days (A : BA) {P : Program} {w : World} {K : PySem.W.Frag} {mg : Str → Option Value} {base : Heap} {f : Addr} {fd : FuncData} (F : Fun K "_law_use_days" "_law_use_days" s__law_use_days f fd) (h_range : mg "range" = none) (h_len : mg "len" = none) (h_max : mg "max" = none) (h_min : mg "min" = none) (h_sorted : mg "sorted" = none) (k__law_draw : Callee (cfg P w K mg base A) 1 "_law_draw" (f__law_draw A)) : FnOk P w K mg base CX0 2 f fd ["bag", "gifts", "count", "top"] (fun vs H Q _ => RSem (cfg P w K mg base A) (f__law_use_days A) vs H Q) := by
  have o : (b__law_use_days A).ok (cfg P w K mg base A) 1 := by
    simp only [b__law_use_days, l__law_use_days_1, Sms.ok, Sm.ok, Xp.ok, Xs.ok, and_true, true_and]
    (repeat' apply And.intro) <;> first | exact (ok_lst).up | exact (ok_itRng1 h_range) | exact cmp_gt | exact (ok_len h_len).up | exact (ok_sub).up | exact (ok_add).up | exact (ok_ix).up | exact ok_append | exact (ok_max h_max).up | exact (ok_min h_min).up | exact (ok_sorted h_sorted).up | exact (call_rule (k__law_draw.mono (by decide))).up
  exact fn_ok F sc__law_use_days (by decide) o (c__law_use_days A)
abbrev s__law_use_rows : Stmt := topS 23
def n__law_use_rows : List Str := ["bag", "gifts", "days", "great", "free", "names", "uses", "wanted", "day", "cents", "left", "use"]
theorem sc__law_use_rows : FnScope n__law_use_rows ["bag", "gifts", "days", "great", "free"] (defScope s__law_use_rows) := ⟨rfl, rfl, rfl, by decide +kernel, rfl, by decide +kernel, by decide +kernel⟩
def l__law_use_rows_1 (A : BA) : Sms Bag :=
  (.cons (.set [] false 9 (.app (binR .Add addS) (.cons (.con (.int 1)) (.cons (.app (callR "_law_draw" (f__law_draw A)) (.cons (.var 0) (.cons (.var 3) .nil))) .nil)))) <|
  (.cons (.iff [] (.not (.var 4)) (
    (.cons (.set [] false 10 (.app (bltR "min" minS) (.cons (.con (.int 1000000000)) (.cons (.app (binR .Sub subS) (.cons (.app (callR "_law_come" f__law_come) (.cons (.var 1) (.cons (.var 8) .nil))) (.cons (.var 7) .nil))) .nil)))) <|
    (.cons (.set [] false 9 (.app (bltR "min" minS) (.cons (.var 9) (.cons (.var 10) .nil)))) <|
    (.cons (.iff [] (.cmp ⟨.Eq, eqS⟩ (.app (callR "_law_draw" (f__law_draw A)) (.cons (.var 0) (.cons (.con (.int 5)) .nil))) (.con (.int 0))) (
      (.cons (.set [] false 9 (.var 10)) <| .nil)) (
 .nil)) <| .nil)))) (
 .nil)) <|
  (.cons (.iff [] (.cmp ⟨.Gt, gtS⟩ (.var 9) (.con (.int 0))) (
    (.cons (.mut mAppend [6] 6 (.cons (.app tupR (.cons (.app (callR "_law_use_key" (f__law_use_key A)) (.cons (.var 0) (.cons (.var 5) (.cons (.comp [("use", 11)] itList (.cons (.var 6) .nil) (.nm 11) .nil (.app ixR (.cons (.var 11) (.cons (.con (.int 0)) .nil)))) .nil)))) (.cons (.var 8) (.cons (.var 9) .nil)))) .nil)) <|
    (.cons (.set [] false 7 (.app (binR .Add addS) (.cons (.var 7) (.cons (.var 9) .nil)))) <| .nil))) (
 .nil)) <| .nil)))
def b__law_use_rows (A : BA) : Sms Bag :=
  (.cons (.set [] false 5 (.app (callR "_law_names" (f__law_names A)) (.cons (.var 0) (.cons (.con (.int 6)) .nil)))) <|
  (.cons (.set [] true 6 (.app lstR .nil)) <|
  (.cons (.set [] false 7 (.con (.int 0))) <|
  (.cons (.forI [] itList (.cons (.var 2) .nil) (.nm 8) (l__law_use_rows_1 A)) <|
  (.cons (.retv 6) <| .nil)))))
def f__law_use_rows (A : BA) : List D → Bag → Option (R × Bag) := evF 5 12 (b__law_use_rows A)
theorem c__law_use_rows (A : BA) : chkSs n__law_use_rows (defScope s__law_use_rows) (defBody s__law_use_rows) (b__law_use_rows A) = true := by kernel_rfl
theorem ok__law_use_rows (A : BA) {P : Program} {w : World} {K : PySem.W.Frag} {mg : Str → Option Value} {base : Heap} {f : Addr} {fd : FuncData} (F : Fun K "_law_use_rows" "_law_use_rows" s__law_use_rows f fd) (h_min : mg "min" = none) (k__law_names : Callee (cfg P w K mg base A) 3 "_law_names" (f__law_names A)) (k__law_draw : Callee (cfg P w K mg base A) 1 "_law_draw" (f__law_draw A)) (k__law_come : Callee (cfg P w K mg base A) 1 "_law_come" f__law_come) (k__law_use_key : Callee (cfg P w K mg base A) 2 "_law_use_key" (f__law_use_key A)) : FnOk P w K mg base CX0 4 f fd ["bag", "gifts", "days", "great", "free"] (fun vs H Q _ => RSem (cfg P w K mg base A) (f__law_use_rows A) vs H Q) := by
  have o : (b__law_use_rows A).ok (cfg P w K mg base A) 3 := by
    simp only [b__law_use_rows, l__law_use_rows_1, Sms.ok, Sm.ok, Xp.ok, Xs.ok, and_true, true_and]
    (repeat' apply And.intro) <;> first | exact (ok_lst).up | exact ok_itList | exact (ok_add).up | exact (ok_min h_min).up | exact (ok_sub).up | exact cmp_eq | exact cmp_gt | exact ok_append | exact (ok_tup).up | exact (ok_ix).up | exact (call_rule (k__law_names.mono (by decide))).up | exact (call_rule (k__law_draw.mono (by decide))).up | exact (call_rule (k__law_come.mono (by decide))).up | exact (call_rule (k__law_use_key.mono (by decide))).up
  exact fn_ok F sc__law_use_rows (by decide) o (c__law_use_rows A)
abbrev s__law_table : Stmt := topS 24
def n__law_table : List Str := ["gifts", "uses", "table", "ahead", "gift", "row", "before", "use"]
theorem sc__law_table : FnScope n__law_table ["gifts", "uses"] (defScope s__law_table) := ⟨rfl, rfl, rfl, by decide +kernel, rfl, by decide +kernel, by decide +kernel⟩
def l__law_table_1 : Sms Bag :=
  (.cons (.mut mAppend [] 5 (.cons (.app (bltR "max" maxS) (.cons (.con (.int 0)) (.cons (.app (binR .Sub subS) (.cons (.app (bltR "min" minS) (.cons (.app (binR .Add addS) (.cons (.var 3) (.cons (.app ixR (.cons (.var 4) (.cons (.con (.int 2)) .nil))) .nil))) (.cons (.app (binR .Add addS) (.cons (.var 6) (.cons (.app ixR (.cons (.var 7) (.cons (.con (.int 2)) .nil))) .nil))) .nil))) (.cons (.app (bltR "max" maxS) (.cons (.var 3) (.cons (.var 6) .nil))) .nil))) .nil))) .nil)) <|
  (.cons (.set [] false 6 (.app (binR .Add addS) (.cons (.var 6) (.cons (.app ixR (.cons (.var 7) (.cons (.con (.int 2)) .nil))) .nil)))) <| .nil))
def l__law_table_2 : Sms Bag :=
  (.cons (.set [] true 5 (.app lstR .nil)) <|
  (.cons (.set [] false 6 (.con (.int 0))) <|
  (.cons (.forI [] itList (.cons (.var 1) .nil) (.nm 7) (l__law_table_1)) <|
  (.cons (.mut mAppend [5] 2 (.cons (.var 5) .nil)) <|
  (.cons (.set [] false 3 (.app (binR .Add addS) (.cons (.var 3) (.cons (.app ixR (.cons (.var 4) (.cons (.con (.int 2)) .nil))) .nil)))) <| .nil)))))
def b__law_table : Sms Bag :=
  (.cons (.set [] true 2 (.app lstR .nil)) <|
  (.cons (.set [] false 3 (.con (.int 0))) <|
  (.cons (.forI [] itList (.cons (.var 0) .nil) (.nm 4) (l__law_table_2)) <|
  (.cons (.retv 2) <| .nil))))
def f__law_table : List D → Bag → Option (R × Bag) := evF 2 8 (b__law_table)
theorem c__law_table : chkSs n__law_table (defScope s__law_table) (defBody s__law_table) (b__law_table) = true := by kernel_rfl
theorem ok__law_table (A : BA) {P : Program} {w : World} {K : PySem.W.Frag} {mg : Str → Option Value} {base : Heap} {f : Addr} {fd : FuncData} (F : Fun K "_law_table" "_law_table" s__law_table f fd) (h_max : mg "max" = none) (h_min : mg "min" = none) : FnOk P w K mg base CX0 1 f fd ["gifts", "uses"] (fun vs H Q _ => RSem (cfg P w K mg base A) f__law_table vs H Q) := by
  have o : (b__law_table).ok (cfg P w K mg base A) 0 := by
    simp only [b__law_table, l__law_table_1, l__law_table_2, Sms.ok, Sm.ok, Xp.ok, Xs.ok, and_true, true_and]
    (repeat' apply And.intro) <;> first | exact (ok_lst).up | exact ok_itList | exact ok_append | exact (ok_max h_max).up | exact (ok_sub).up | exact (ok_min h_min).up | exact (ok_add).up | exact (ok_ix).up
  exact fn_ok F sc__law_table (by decide) o (c__law_table)
abbrev s__law_triples : Stmt := topS 25
def n__law_triples : List Str := ["gifts", "uses", "table", "rows", "i", "j"]
theorem sc__law_triples : FnScope n__law_triples ["gifts", "uses", "table"] (defScope s__law_triples) := ⟨rfl, rfl, rfl, by decide +kernel, rfl, by decide +kernel, by decide +kernel⟩
def l__law_triples_1 : Sms Bag :=
  (.cons (.iff [] (.cmp ⟨.Gt, gtS⟩ (.app ixR (.cons (.app ixR (.cons (.var 2) (.cons (.var 4) .nil))) (.cons (.var 5) .nil))) (.con (.int 0))) (
    (.cons (.mut mAppend [] 3 (.cons (.app tupR (.cons (.app ixR (.cons (.app ixR (.cons (.var 0) (.cons (.var 4) .nil))) (.cons (.con (.int 0)) .nil))) (.cons (.app ixR (.cons (.app ixR (.cons (.var 1) (.cons (.var 5) .nil))) (.cons (.con (.int 0)) .nil))) (.cons (.app ixR (.cons (.app ixR (.cons (.var 2) (.cons (.var 4) .nil))) (.cons (.var 5) .nil))) .nil)))) .nil)) <| .nil)) (
 .nil)) <| .nil)
def l__law_triples_2 : Sms Bag :=
  (.cons (.forI [] itRng1 (.cons (.app (bltR "len" lenS) (.cons (.var 1) .nil)) .nil) (.nm 5) (l__law_triples_1)) <| .nil)
def b__law_triples : Sms Bag :=
  (.cons (.set [] true 3 (.app lstR .nil)) <|
  (.cons (.forI [] itRng1 (.cons (.app (bltR "len" lenS) (.cons (.var 0) .nil)) .nil) (.nm 4) (l__law_triples_2)) <|
  (.cons (.retv 3) <| .nil)))
def f__law_triples : List D → Bag → Option (R × Bag) := evF 3 6 (b__law_triples)
theorem c__law_triples : chkSs n__law_triples (defScope s__law_triples) (defBody s__law_triples) (b__law_triples) = true := by kernel_rfl
theorem ok__law_triples (A : BA) {P : Program} {w : World} {K : PySem.W.Frag} {mg : Str → Option Value} {base : Heap} {f : Addr} {fd : FuncData} (F : Fun K "_law_triples" "_law_triples" s__law_triples f fd) (h_range : mg "range" = none) (h_len : mg "len" = none) : FnOk P w K mg base CX0 1 f fd ["gifts", "uses", "table"] (fun vs H Q _ => RSem (cfg P w K mg base A) f__law_triples vs H Q) := by
  have o : (b__law_triples).ok (cfg P w K mg base A) 0 := by
    simp only [b__law_triples, l__law_triples_1, l__law_triples_2, Sms.ok, Sm.ok, Xp.ok, Xs.ok, and_true, true_and]
    (repeat' apply And.intro) <;> first | exact (ok_lst).up | exact (ok_itRng1 h_range) | exact (ok_len h_len).up | exact cmp_gt | exact (ok_ix).up | exact ok_append | exact (ok_tup).up
  exact fn_ok F sc__law_triples (by decide) o (c__law_triples)
abbrev s__law_rows : Stmt := topS 26
def n__law_rows : List Str := ["gifts", "uses"]
theorem sc__law_rows : FnScope n__law_rows ["gifts", "uses"] (defScope s__law_rows) := ⟨rfl, rfl, rfl, by decide +kernel, rfl, by decide +kernel, by decide +kernel⟩
def b__law_rows : Sms Bag :=
  (.cons (.ret [] (.app (callR "_law_triples" f__law_triples) (.cons (.var 0) (.cons (.var 1) (.cons (.app (callR "_law_table" f__law_table) (.cons (.var 0) (.cons (.var 1) .nil))) .nil))))) <| .nil)
def f__law_rows : List D → Bag → Option (R × Bag) := evF 2 2 (b__law_rows)
theorem c__law_rows : chkSs n__law_rows (defScope s__law_rows) (defBody s__law_rows) (b__law_rows) = true := by kernel_rfl
theorem ok__law_rows (A : BA) {P : Program} {w : World} {K : PySem.W.Frag} {mg : Str → Option Value} {base : Heap} {f : Addr} {fd : FuncData} (F : Fun K "_law_rows" "_law_rows" s__law_rows f fd) (k__law_triples : Callee (cfg P w K mg base A) 1 "_law_triples" f__law_triples) (k__law_table : Callee (cfg P w K mg base A) 1 "_law_table" f__law_table) : FnOk P w K mg base CX0 2 f fd ["gifts", "uses"] (fun vs H Q _ => RSem (cfg P w K mg base A) f__law_rows vs H Q) := by
  have o : (b__law_rows).ok (cfg P w K mg base A) 1 := by
    simp only [b__law_rows, Sms.ok, Sm.ok, Xp.ok, Xs.ok, and_true, true_and]
    (repeat' apply And.intro) <;> first | exact (call_rule (k__law_triples.mono (by decide))).up | exact (call_rule (k__law_table.mono (by decide))).up
  exact fn_ok F sc__law_rows (by decide) o (c__law_rows)
end K50

set_option Elab.async false
set_option linter.all false
set_option maxRecDepth 100000
set_option maxHeartbeats 4000000
namespace K50
open PySem PySem.Spec PyProof.Rows L2 Ev
def gD (g : Int × Int × Int) : D := .tup [.int g.1, .int g.2.1, .int g.2.2]
def uD (u : D × Int × Int) : D := .tup [u.1, .int u.2.1, .int u.2.2]
def rowF (ahead c : Int) : Int → List (D × Int × Int) → List Int
  | _, [] => []
  | before, u :: us => max 0 (min (ahead + c) (before + u.2.2) - max ahead before) :: rowF ahead c (before + u.2.2) us
theorem if_min (i j : Int) : (if j < i then j else i) = min i j := by omega
theorem if_max (i j : Int) : (if j > i then j else i) = max i j := by omega
theorem row_step (ahead : Int) (g : Int × Int × Int) (a0 a1 a2 : SV) (m : Bag) (u : D × Int × Int) (row : List Int) (before : Int) (h1 : row.length < 16777216) :
    evSs l__law_table_1 [a0, a1, a2, .val (.int ahead), .val (gD g), .own (.lst (row.map .int)), .val (.int before), .val (uD u)] m =
      some (.nx [a0, a1, a2, .val (.int ahead), .val (gD g), .own (.lst ((row ++ [max 0 (min (ahead + g.2.2) (before + u.2.2) - max ahead before)]).map .int)), .val (.int (before + u.2.2)), .val (uD u)] m) := by
  simp [evSs, evS, evs, evAnd, evOr, ev, evB, look, commit, R.d, R.kp, R.imm, R.sv, D.imm, D.imms, D.immC, setTg, setTs, bltR, binR, unR, ixR, tupR, lstR, dictTR, callR, slR, isiR, methR, lift, addS, subS, minS, maxS, modS, fdivS, mulS, negS, intS, wipeS, itList, itTup, itRng1, itRng2, mAppend, freeze, frz1, isnS, isnnS, l__law_table_1, gD, uD, ixS_tup, ix2, h1]
  omega
theorem row_loop (ahead : Int) (g : Int × Int × Int) (a0 a1 a2 : SV) (m : Bag) (us : List (D × Int × Int)) (hl : us.length < 16777216) (x7 : SV) :
    ∃ y6 y7, forL (.nm 7) (evSs l__law_table_1) (us.map uD) [a0, a1, a2, .val (.int ahead), .val (gD g), .own (.lst []), .val (.int 0), x7] m
      = some (.nx [a0, a1, a2, .val (.int ahead), .val (gD g), .own (.lst ((rowF ahead g.2.2 0 us).map .int)), y6, y7] m) := by
  obtain ⟨o, h1, h2⟩ := forL_rule (body := evSs l__law_table_1) (tg := .nm 7) uD (fun vs sl m' => m' = m ∧ ∃ row before y7, row.length + vs.length < 16777216 ∧ row ++ rowF ahead g.2.2 before vs = rowF ahead g.2.2 0 us ∧ sl = [a0, a1, a2, .val (.int ahead), .val (gD g), .own (.lst (row.map .int)), .val (.int before), y7]) (fun _ _ => False) (fun _ _ => False)
    (fun u vs sl m' q => by
      obtain ⟨rfl, row, before, y7, q1, q2, rfl⟩ := q
      simp only [List.length_cons] at q1
      refine ⟨_, rfl, _, row_step ahead g a0 a1 a2 m' u row before (by omega), rfl, _, _, _, ?_, ?_, rfl⟩
      · simp; omega
      · rw [← q2, rowF]; simp) us _ m ⟨rfl, [], 0, x7, by simpa using hl, rfl, rfl⟩
  cases o with
  | nx sl m' =>
    obtain ⟨rfl, row, before, y7, _, q2, rfl⟩ := h2.resolve_right id
    rw [rowF, List.append_nil] at q2
    subst q2
    exact ⟨_, _, h1⟩
  | _ => exact h2.elim
end K50

set_option Elab.async false
set_option linter.all false
set_option maxRecDepth 100000
set_option maxHeartbeats 4000000
namespace K50
open PySem PySem.Spec PyProof.Rows L2 Ev
/-! ### the program's own defs as plain functions -/
def sqD (c : Bool) (ds : List D) : D := bif c then .lst ds else .tup ds
theorem lenS_sq (c : Bool) (ds : List D) : lenS [sqD c ds] = some (.val (.int ds.length)) := by cases c <;> rfl
theorem ixS_sq (c : Bool) (ds : List D) (i : Int) : ixS [sqD c ds, .int i] = (atI ds i).map .val := by cases c <;> rfl
def rD (r : Int × D × Int) : D := .tup [.int r.1, r.2.1, .int r.2.2]
def cD (c : Nat × Nat × Int) : D := .tup [.int c.1, .int c.2.1, .int c.2.2]
def KeyOk (d : D) : Prop := d.nb = true ∧ d.dep ≤ 8
def KeyR (d : D) : Prop := d.nb = true ∧ d.dep ≤ 9
theorem KeyOk.r {d : D} (h : KeyOk d) : KeyR d := ⟨h.1, Nat.le_succ_of_le h.2⟩
theorem keyInt (i : Int) : KeyOk (.int i) := ⟨rfl, by simp [D.dep]⟩
def optD : Option Nat → D
  | some i => .int i
  | none => .non
theorem rt_inj {r : R} {m : Bag} {o : Out Bag} (h : some (Out.rt r m) = some o) : o = .rt r m := (Option.some.inj h).symm
theorem place_ok (c : Bool) (L : List (D × List D)) (x : D) (hk : ∀ p ∈ L, KeyOk p.1) (hx : KeyR x) (hlen : L.length ≤ 1000000) (m : Bag) : ∃ o : Option Nat, f_place_in [sqD c (L.map fun p => D.tup (p.1 :: p.2)), x] m = some (.val (optD o), m) ∧
    (∀ i, o = some i → (L.map (·.1))[i]? = some x) ∧ (o = none → x ∉ L.map (·.1)) := by
  have hl : ((L.length : Int) ≤ 1000000000) := by omega
  obtain ⟨o, h1, h2⟩ := forL_range (body := evSs l_place_in_1) (tg := .nm 2) (fun i sl m' => m' = m ∧ (∃ y2, sl = [.val (sqD c (L.map fun p => D.tup (p.1 :: p.2))), .val x, y2]) ∧ ∀ p ∈ L.take i, p.1 ≠ x) (fun _ _ => False)
    (fun r m' => m' = m ∧ ∃ i : Nat, r = .val (.int i) ∧ (L.map (·.1))[i]? = some x) L.length 0
    (fun i sl m' hi q => by
      obtain ⟨rfl, ⟨y2, rfl⟩, q⟩ := q
      obtain ⟨p, hp⟩ : ∃ p, L[i]? = some p := ⟨L[i], List.getElem?_eq_getElem hi⟩
      obtain ⟨k, e1, e2⟩ := eqS_nb (hk p (List.mem_of_getElem? hp)).1 hx.1 (Nat.le_trans (hk p (List.mem_of_getElem? hp)).2 (by decide)) (Nat.le_trans hx.2 (by decide))
      refine ⟨_, rfl, ?_⟩
      cases k with
      | true =>
        refine ⟨.rt (.val (.int i)) m', ?_, rfl, i, rfl, by rw [List.getElem?_map, hp]; simp [e2.mp rfl]⟩
        simp [evSs, evS, evs, evAnd, evOr, ev, evB, look, commit, R.d, R.kp, R.imm, R.sv, D.imm, D.imms, D.immC, setTg, setTs, bltR, binR, unR, ixR, tupR, lstR, dictTR, callR, slR, isiR, methR, lift, addS, subS, minS, maxS, modS, fdivS, mulS, negS, intS, wipeS, itList, itTup, itRng1, itRng2, mAppend, freeze, frz1, isnS, isnnS, l_place_in_1, ixS_sq, ixS_tup, ixn, ix0, List.getElem?_map, hp, e1]
      | false =>
        refine ⟨.nx [.val (sqD c (L.map fun p => D.tup (p.1 :: p.2))), .val x, .val (.int i)] m', ?_, rfl, ⟨_, rfl⟩, ?_⟩
        · simp [evSs, evS, evs, evAnd, evOr, ev, evB, look, commit, R.d, R.kp, R.imm, R.sv, D.imm, D.imms, D.immC, setTg, setTs, bltR, binR, unR, ixR, tupR, lstR, dictTR, callR, slR, isiR, methR, lift, addS, subS, minS, maxS, modS, fdivS, mulS, negS, intS, wipeS, itList, itTup, itRng1, itRng2, mAppend, freeze, frz1, isnS, isnnS, l_place_in_1, ixS_sq, ixS_tup, ixn, ix0, List.getElem?_map, hp, e1]
        · intro p' hp'
          rw [List.take_add_one, hp] at hp'
          rcases List.mem_append.mp hp' with z | z
          · exact q p' z
          · simp at z
            subst z
            intro e
            exact absurd (e2.mpr e) (by simp)) [.val (sqD c (L.map fun p => D.tup (p.1 :: p.2))), .val x, .non] m ⟨rfl, ⟨_, rfl⟩, by simp⟩
  cases o with
  | rt r m' =>
    obtain ⟨rfl, i, rfl, h3⟩ := h2
    refine ⟨some i, ?_, (fun j e => by cases e; exact h3), (fun e => by cases e)⟩
    simp [f_place_in, b_place_in, evF, evSs, evS, evs, evAnd, evOr, ev, evB, look, commit, R.d, R.kp, R.imm, R.sv, D.imm, D.imms, D.immC, setTg, setTs, bltR, binR, unR, ixR, tupR, lstR, dictTR, callR, slR, isiR, methR, lift, addS, subS, minS, maxS, modS, fdivS, mulS, negS, intS, wipeS, itList, itTup, itRng1, itRng2, mAppend, freeze, frz1, isnS, isnnS, lenS_sq, hl, h1, optD]
  | nx sl m' =>
    obtain ⟨rfl, ⟨y2, rfl⟩, h3⟩ := h2.resolve_right id
    refine ⟨none, ?_, (fun j e => by cases e), (fun _ z => ?_)⟩
    · simp [f_place_in, b_place_in, evF, evSs, evS, evs, evAnd, evOr, ev, evB, look, commit, R.d, R.kp, R.imm, R.sv, D.imm, D.imms, D.immC, setTg, setTs, bltR, binR, unR, ixR, tupR, lstR, dictTR, callR, slR, isiR, methR, lift, addS, subS, minS, maxS, modS, fdivS, mulS, negS, intS, wipeS, itList, itTup, itRng1, itRng2, mAppend, freeze, frz1, isnS, isnnS, lenS_sq, hl, h1, optD]
    · obtain ⟨p, hp, e⟩ := List.mem_map.mp z
      exact h3 p (by simpa using hp) e
  | bk _ _ => exact h2.elim
  | ct _ _ => exact h2.elim
theorem placeG (c : Bool) (gs : List (Int × Int × Int)) (hl : gs.length ≤ 1000000) (i : Int) (m : Bag) : ∃ o : Option Nat, f_place_in [sqD c (gs.map gD), .int i] m = some (.val (optD o), m) ∧
    (∀ k, o = some k → ∃ g, gs[k]? = some g ∧ g.1 = i) ∧ (o = none → ∀ g ∈ gs, g.1 ≠ i) := by
  obtain ⟨o, h1, h2, h3⟩ := place_ok c (gs.map fun g => (D.int g.1, [D.int g.2.1, D.int g.2.2])) (.int i) (fun p hp => by
    obtain ⟨g, _, rfl⟩ := List.mem_map.mp hp
    exact keyInt _) (keyInt _).r (by simpa using hl) m
  rw [List.map_map] at h1
  refine ⟨o, h1, fun k e => ?_, fun e g hg z => h3 e ?_⟩
  · have := h2 k e
    rw [List.map_map, List.getElem?_map] at this
    obtain ⟨g, e1, e2⟩ := Option.map_eq_some_iff.mp this
    exact ⟨g, e1, by simpa using e2⟩
  · rw [List.map_map]
    exact List.mem_map.mpr ⟨g, hg, by simp [z]⟩
theorem placeU (c : Bool) (us : List (D × Int × Int)) (hk : ∀ u ∈ us, KeyOk u.1) (hl : us.length ≤ 1000000) (x : D) (hx : KeyR x) (m : Bag) : ∃ o : Option Nat, f_place_in [sqD c (us.map uD), x] m = some (.val (optD o), m) ∧
    (∀ k, o = some k → ∃ u, us[k]? = some u ∧ u.1 = x) ∧ (o = none → ∀ u ∈ us, u.1 ≠ x) := by
  obtain ⟨o, h1, h2, h3⟩ := place_ok c (us.map fun u => (u.1, [D.int u.2.1, D.int u.2.2])) x (fun p hp => by
    obtain ⟨u, hu, rfl⟩ := List.mem_map.mp hp
    exact hk u hu) hx (by simpa using hl) m
  rw [List.map_map] at h1
  refine ⟨o, h1, fun k e => ?_, fun e u hu z => h3 e ?_⟩
  · have := h2 k e
    rw [List.map_map, List.getElem?_map] at this
    obtain ⟨u, e1, e2⟩ := Option.map_eq_some_iff.mp this
    exact ⟨u, e1, by simpa using e2⟩
  · rw [List.map_map]
    exact List.mem_map.mpr ⟨u, hu, by simp [z]⟩
/-- a cell stands for a row -/
def CellOf (gs : List (Int × Int × Int)) (us : List (D × Int × Int)) (r : Int × D × Int) (c : Nat × Nat × Int) : Prop :=
  (∃ g, gs[c.1]? = some g ∧ g.1 = r.1) ∧ (∃ u, us[c.2.1]? = some u ∧ u.1 = r.2.1) ∧ c.2.2 = r.2.2 ∧ 1 ≤ c.2.2
inductive CellsOf (gs : List (Int × Int × Int)) (us : List (D × Int × Int)) : List (Int × D × Int) → List (Nat × Nat × Int) → Prop
  | nil : CellsOf gs us [] []
  | snoc {rs cs r c} : CellsOf gs us rs cs → CellOf gs us r c → CellsOf gs us (rs ++ [r]) (cs ++ [c])
theorem cells_ok (c1 c2 : Bool) (gs : List (Int × Int × Int)) (us : List (D × Int × Int)) (rs : List (Int × D × Int)) (hg : gs.length ≤ 1000000) (hu : us.length ≤ 1000000) (hr : rs.length ≤ 1000000) (hk : ∀ u ∈ us, KeyOk u.1) (hx : ∀ r ∈ rs, KeyR r.2.1) (m : Bag) :
    (∃ cs, f_cells_of [sqD c1 (gs.map gD), sqD c2 (us.map uD), .lst (rs.map rD)] m = some (.own (.lst (cs.map cD)), m) ∧ CellsOf gs us rs cs) ∨
    (f_cells_of [sqD c1 (gs.map gD), sqD c2 (us.map uD), .lst (rs.map rD)] m = some (.val .non, m) ∧ ∃ r ∈ rs, ∀ c, ¬ CellOf gs us r c) := by
  obtain ⟨o, h1, h2⟩ := forL_rule (body := evSs l_cells_of_1) (tg := .nm 4) rD (fun as sl m' => m' = m ∧ ∃ done cs y4 y5 y6, done ++ as = rs ∧ CellsOf gs us done cs ∧ cs.length = done.length ∧ sl = [.val (sqD c1 (gs.map gD)), .val (sqD c2 (us.map uD)), .val (.lst (rs.map rD)), .own (.lst (cs.map cD)), y4, y5, y6]) (fun _ _ => False)
    (fun r m' => m' = m ∧ r = .val .non ∧ ∃ r ∈ rs, ∀ c, ¬ CellOf gs us r c)
    (fun a as sl m' q => by
      obtain ⟨rfl, done, cs, y4, y5, y6, q1, q2, q3, rfl⟩ := q
      have ha : a ∈ rs := by rw [← q1]; simp
      have hlen : cs.length < 16777216 := by
        have : done.length + (as.length + 1) = rs.length := by rw [← q1]; simp
        omega
      obtain ⟨o1, p1, p2, p3⟩ := placeG c1 gs hg a.1 m'
      obtain ⟨o2, p4, p5, p6⟩ := placeU c2 us hk hu a.2.1 (hx a ha) m'
      refine ⟨_, rfl, ?_⟩
      cases o1 with
      | none =>
        refine ⟨.rt (.val .non) m', ?_, rfl, rfl, a, ha, fun c z => ?_⟩
        · simp [evSs, evS, evs, evAnd, evOr, ev, evB, look, commit, R.d, R.kp, R.imm, R.sv, D.imm, D.imms, D.immC, setTg, setTs, bltR, binR, unR, ixR, tupR, lstR, dictTR, callR, slR, isiR, methR, lift, addS, subS, minS, maxS, modS, fdivS, mulS, negS, intS, wipeS, itList, itTup, itRng1, itRng2, mAppend, freeze, frz1, isnS, isnnS, l_cells_of_1, rD, ixS_tup, ix0, ix1, p1, p4, optD]
        · obtain ⟨⟨g, e1, e2⟩, _⟩ := z
          exact p3 rfl g (List.mem_of_getElem? e1) e2
      | some i =>
        cases o2 with
        | none =>
          refine ⟨.rt (.val .non) m', ?_, rfl, rfl, a, ha, fun c z => ?_⟩
          · simp [evSs, evS, evs, evAnd, evOr, ev, evB, look, commit, R.d, R.kp, R.imm, R.sv, D.imm, D.imms, D.immC, setTg, setTs, bltR, binR, unR, ixR, tupR, lstR, dictTR, callR, slR, isiR, methR, lift, addS, subS, minS, maxS, modS, fdivS, mulS, negS, intS, wipeS, itList, itTup, itRng1, itRng2, mAppend, freeze, frz1, isnS, isnnS, l_cells_of_1, rD, ixS_tup, ix0, ix1, p1, p4, optD]
          · obtain ⟨_, ⟨u, e1, e2⟩, _⟩ := z
            exact p6 rfl u (List.mem_of_getElem? e1) e2
        | some j =>
          by_cases hc : a.2.2 < 1
          · refine ⟨.rt (.val .non) m', ?_, rfl, rfl, a, ha, fun c z => ?_⟩
            · simp [evSs, evS, evs, evAnd, evOr, ev, evB, look, commit, R.d, R.kp, R.imm, R.sv, D.imm, D.imms, D.immC, setTg, setTs, bltR, binR, unR, ixR, tupR, lstR, dictTR, callR, slR, isiR, methR, lift, addS, subS, minS, maxS, modS, fdivS, mulS, negS, intS, wipeS, itList, itTup, itRng1, itRng2, mAppend, freeze, frz1, isnS, isnnS, l_cells_of_1, rD, ixS_tup, ix0, ix1, ix2, p1, p4, optD, ltS, cmpS, hc]
            · obtain ⟨_, _, e1, e2⟩ := z
              omega
          · refine ⟨.nx [.val (sqD c1 (gs.map gD)), .val (sqD c2 (us.map uD)), .val (.lst (rs.map rD)), .own (.lst ((cs ++ [(i, j, a.2.2)]).map cD)), .val (rD a), .val (.int i), .val (.int j)] m', ?_, rfl, done ++ [a], cs ++ [(i, j, a.2.2)], _, _, _, by simpa using q1, .snoc q2 ⟨p2 i rfl, p5 j rfl, rfl, by show 1 ≤ a.2.2; omega⟩, by simp [q3], rfl⟩
            simp [evSs, evS, evs, evAnd, evOr, ev, evB, look, commit, R.d, R.kp, R.imm, R.sv, D.imm, D.imms, D.immC, setTg, setTs, bltR, binR, unR, ixR, tupR, lstR, dictTR, callR, slR, isiR, methR, lift, addS, subS, minS, maxS, modS, fdivS, mulS, negS, intS, wipeS, itList, itTup, itRng1, itRng2, mAppend, freeze, frz1, isnS, isnnS, l_cells_of_1, rD, ixS_tup, ix0, ix1, ix2, p1, p4, optD, ltS, cmpS, hc, hlen, cD]) rs [.val (sqD c1 (gs.map gD)), .val (sqD c2 (us.map uD)), .val (.lst (rs.map rD)), .own (.lst []), .non, .non, .non] m ⟨rfl, [], [], _, _, _, rfl, .nil, rfl, rfl⟩
  cases o with
  | rt r m' =>
    obtain ⟨rfl, rfl, h3⟩ := h2
    exact .inr ⟨by simp [f_cells_of, b_cells_of, evF, evSs, evS, evs, evAnd, evOr, ev, evB, look, commit, R.d, R.kp, R.imm, R.sv, D.imm, D.imms, D.immC, setTg, setTs, bltR, binR, unR, ixR, tupR, lstR, dictTR, callR, slR, isiR, methR, lift, addS, subS, minS, maxS, modS, fdivS, mulS, negS, intS, wipeS, itList, itTup, itRng1, itRng2, mAppend, freeze, frz1, isnS, isnnS, h1], h3⟩
  | nx sl m' =>
    obtain ⟨rfl, done, cs, y4, y5, y6, q1, q2, q3, rfl⟩ := h2.resolve_right id
    rw [List.append_nil] at q1
    subst q1
    exact .inl ⟨cs, by simp [f_cells_of, b_cells_of, evF, evSs, evS, evs, evAnd, evOr, ev, evB, look, commit, R.d, R.kp, R.imm, R.sv, D.imm, D.imms, D.immC, setTg, setTs, bltR, binR, unR, ixR, tupR, lstR, dictTR, callR, slR, isiR, methR, lift, addS, subS, minS, maxS, modS, fdivS, mulS, negS, intS, wipeS, itList, itTup, itRng1, itRng2, mAppend, freeze, frz1, isnS, isnnS, h1], q2⟩
  | bk _ _ => exact h2.elim
  | ct _ _ => exact h2.elim
end K50

set_option Elab.async false
set_option linter.all false
set_option maxRecDepth 100000
set_option maxHeartbeats 4000000
namespace K50
/-! ### the staircase: any two lists of cells that keep the trace's rules are the same -/
abbrev Cell := Nat × Nat × Int
def sumI (cs : List (Nat × Nat × Int)) (p : Nat) : Int := ((cs.filter fun c => decide (c.1 = p)).map (·.2.2)).sum
def sumJ (cs : List (Nat × Nat × Int)) (p : Nat) : Int := ((cs.filter fun c => decide (c.2.1 = p)).map (·.2.2)).sum
theorem sumI_cons (c : Cell) (cs : List Cell) (p : Nat) : sumI (c :: cs) p = (if c.1 = p then c.2.2 else 0) + sumI cs p := by
  unfold sumI
  by_cases h : c.1 = p <;> simp [h]
theorem sumJ_cons (c : Cell) (cs : List Cell) (p : Nat) : sumJ (c :: cs) p = (if c.2.1 = p then c.2.2 else 0) + sumJ cs p := by
  unfold sumJ
  by_cases h : c.2.1 = p <;> simp [h]
theorem sumI_app (cs ds : List Cell) (p : Nat) : sumI (cs ++ ds) p = sumI cs p + sumI ds p := by
  unfold sumI; simp
theorem sumJ_app (cs ds : List Cell) (p : Nat) : sumJ (cs ++ ds) p = sumJ cs p + sumJ ds p := by
  unfold sumJ; simp
theorem sumI_nn : ∀ {cs : List Cell} (p : Nat), (∀ c ∈ cs, 1 ≤ c.2.2) → 0 ≤ sumI cs p
  | [], _, _ => by simp [sumI]
  | c :: cs, p, h => by
    rw [sumI_cons]
    have := sumI_nn p fun c hc => h c (List.mem_cons_of_mem _ hc)
    have := h c List.mem_cons_self
    split <;> omega
theorem sumJ_nn : ∀ {cs : List Cell} (p : Nat), (∀ c ∈ cs, 1 ≤ c.2.2) → 0 ≤ sumJ cs p
  | [], _, _ => by simp [sumJ]
  | c :: cs, p, h => by
    rw [sumJ_cons]
    have := sumJ_nn p fun c hc => h c (List.mem_cons_of_mem _ hc)
    have := h c List.mem_cons_self
    split <;> omega
theorem sumI_zero : ∀ {cs : List Cell} {p : Nat}, (∀ c ∈ cs, c.1 ≠ p) → sumI cs p = 0
  | [], _, _ => rfl
  | c :: cs, p, h => by
    rw [sumI_cons, if_neg (h c List.mem_cons_self), sumI_zero fun c hc => h c (List.mem_cons_of_mem _ hc)]
    rfl
theorem sumJ_zero : ∀ {cs : List Cell} {p : Nat}, (∀ c ∈ cs, c.2.1 ≠ p) → sumJ cs p = 0
  | [], _, _ => rfl
  | c :: cs, p, h => by
    rw [sumJ_cons, if_neg (h c List.mem_cons_self), sumJ_zero fun c hc => h c (List.mem_cons_of_mem _ hc)]
    rfl
theorem no_I : ∀ {cs : List Cell} {p : Nat}, (∀ c ∈ cs, 1 ≤ c.2.2) → sumI cs p ≤ 0 → ∀ c ∈ cs, c.1 ≠ p
  | [], _, _, _, c, hc => by cases hc
  | d :: cs, p, h, e, c, hc => by
    rw [sumI_cons] at e
    have h1 := sumI_nn p fun c hc => h c (List.mem_cons_of_mem _ hc)
    have h2 := h d List.mem_cons_self
    by_cases hd : d.1 = p
    · rw [if_pos hd] at e; omega
    · rcases List.mem_cons.mp hc with rfl | hc
      · exact hd
      · rw [if_neg hd] at e
        exact no_I (fun c hc => h c (List.mem_cons_of_mem _ hc)) (by omega) c hc
theorem no_J : ∀ {cs : List Cell} {p : Nat}, (∀ c ∈ cs, 1 ≤ c.2.2) → sumJ cs p ≤ 0 → ∀ c ∈ cs, c.2.1 ≠ p
  | [], _, _, _, c, hc => by cases hc
  | d :: cs, p, h, e, c, hc => by
    rw [sumJ_cons] at e
    have h1 := sumJ_nn p fun c hc => h c (List.mem_cons_of_mem _ hc)
    have h2 := h d List.mem_cons_self
    by_cases hd : d.2.1 = p
    · rw [if_pos hd] at e; omega
    · rcases List.mem_cons.mp hc with rfl | hc
      · exact hd
      · rw [if_neg hd] at e
        exact no_J (fun c hc => h c (List.mem_cons_of_mem _ hc)) (by omega) c hc
theorem some_J {cs : List Cell} {p : Nat} (h : sumJ cs p ≠ 0) : ∃ c ∈ cs, c.2.1 = p := by
  by_cases q : ∃ c ∈ cs, c.2.1 = p
  · exact q
  · exact absurd (sumJ_zero fun c hc e => q ⟨c, hc, e⟩) h
theorem some_I {cs : List Cell} {p : Nat} (h : sumI cs p ≠ 0) : ∃ c ∈ cs, c.1 = p := by
  by_cases q : ∃ c ∈ cs, c.1 = p
  · exact q
  · exact absurd (sumI_zero fun c hc e => q ⟨c, hc, e⟩) h
def stp (a b : Cell) : Prop := (a.1 < b.1 ∨ a.1 = b.1 ∧ a.2.1 < b.2.1) ∧ a.2.1 ≤ b.2.1
structure Q (i : Nat) (G : List Int) (j : Nat) (U : List Int) (cs : List Cell) : Prop where
  rng : ∀ c ∈ cs, i ≤ c.1 ∧ c.1 < i + G.length ∧ j ≤ c.2.1 ∧ c.2.1 < j + U.length ∧ 1 ≤ c.2.2
  srt : cs.Pairwise stp
  fil : ∀ k u, U[k]? = some u → sumJ cs (j + k) = u
  kpt : ∀ k g, G[k]? = some g → sumI cs (i + k) ≤ g
  ful : ∀ c ∈ cs, ∀ k g, G[k]? = some g → i + k < c.1 → sumI cs (i + k) = g
theorem Q.base {i j : Nat} {G : List Int} {cs : List Cell} (h : Q i G j [] cs) : cs = [] := by
  cases cs with
  | nil => rfl
  | cons c cs =>
    have := h.rng c List.mem_cons_self
    simp at this
    omega
theorem Q.empty {i j : Nat} {u : Int} {U : List Int} {cs : List Cell} (hu : 0 < u) (h : Q i [] j (u :: U) cs) : False := by
  cases cs with
  | nil =>
    have := h.fil 0 u rfl
    simp [sumJ] at this
    omega
  | cons c cs =>
    have := h.rng c List.mem_cons_self
    simp at this
    omega
/-- the first cell is given, and what is left keeps the rules of what is left -/
theorem Q.step {i j : Nat} {g u : Int} {G U : List Int} {cs : List Cell} (hg : 0 < g) (hu : 0 < u) (h : Q i (g :: G) j (u :: U) cs) :
    ∃ rest, (g < u ∧ cs = (i, j, g) :: rest ∧ Q (i + 1) G j ((u - g) :: U) rest) ∨ (g = u ∧ cs = (i, j, g) :: rest ∧ Q (i + 1) G (j + 1) U rest) ∨ (u < g ∧ cs = (i, j, u) :: rest ∧ Q i ((g - u) :: G) (j + 1) U rest) := by
  have f0 : sumJ cs j = u := h.fil 0 u rfl
  have k0 : sumI cs i ≤ g := h.kpt 0 g rfl
  cases cs with
  | nil => simp [sumJ] at f0; omega
  | cons c0 rest =>
    have hp : ∀ c ∈ rest, 1 ≤ c.2.2 := fun c hc => (h.rng c (List.mem_cons_of_mem _ hc)).2.2.2.2
    obtain ⟨r1, r2, r3, r4, r5⟩ := h.rng c0 List.mem_cons_self
    obtain ⟨s1, s2⟩ := List.pairwise_cons.mp h.srt
    have hj : c0.2.1 = j := by
      obtain ⟨c, hc, e⟩ := some_J (cs := c0 :: rest) (p := j) (by omega)
      rcases List.mem_cons.mp hc with rfl | hc
      · exact e
      · have := (s1 c hc).2
        omega
    have hi : c0.1 = i := by
      rcases Nat.lt_or_ge i c0.1 with z | z
      · have h1 := h.ful c0 List.mem_cons_self 0 g rfl (by omega)
        obtain ⟨c, hc, e⟩ := some_I (cs := c0 :: rest) (p := i) (by simp at h1; omega)
        rcases List.mem_cons.mp hc with rfl | hc
        · exact e
        · have := (s1 c hc).1
          omega
      · omega
    obtain ⟨a, b, c⟩ := c0
    simp only at hi hj r5
    subst hi
    subst hj
    rw [sumJ_cons, if_pos rfl] at f0
    rw [sumI_cons, if_pos rfl] at k0
    simp only at f0 k0
    have nI := sumI_nn a hp
    have nJ := sumJ_nn b hp
    have cases2 : c < u → c = g := fun hlt => by
      obtain ⟨c1, hc1, e1⟩ := some_J (cs := rest) (p := b) (by omega)
      have p1 := (s1 c1 hc1).1
      simp only at p1
      have hgt : a < c1.1 := by omega
      have h1 := h.ful c1 (List.mem_cons_of_mem _ hc1) 0 g rfl (by simpa using hgt)
      rw [Nat.add_zero, sumI_cons, if_pos rfl] at h1
      simp only at h1
      have z : sumI rest a = 0 := sumI_zero fun c2 hc2 e2 => by
        have p2 := (s1 c2 hc2).1
        simp only at p2
        have hne : c1 ≠ c2 := fun z => by subst z; omega
        obtain ⟨n1, hn1, e3⟩ := List.mem_iff_getElem.mp hc1
        obtain ⟨n2, hn2, e4⟩ := List.mem_iff_getElem.mp hc2
        rcases Nat.lt_trichotomy n1 n2 with z | z | z
        · have := (List.pairwise_iff_getElem.mp s2) n1 n2 hn1 hn2 z
          rw [e3, e4] at this
          have := this.1
          omega
        · subst z; exact hne (e3.symm.trans e4)
        · have := (List.pairwise_iff_getElem.mp s2) n2 n1 hn2 hn1 z
          rw [e3, e4] at this
          have := this.2
          omega
      omega
    have kk : ∀ k g', (g :: G)[k + 1]? = some g' → sumI ((a, b, c) :: rest) (a + (k + 1)) = sumI rest (a + 1 + k) := fun k g' _ => by
      rw [sumI_cons, if_neg (by show ¬ a = a + (k + 1); omega), show a + (k + 1) = a + 1 + k by omega]
      omega
    have jj : ∀ k, sumJ ((a, b, c) :: rest) (b + (k + 1)) = sumJ rest (b + 1 + k) := fun k => by
      rw [sumJ_cons, if_neg (by show ¬ b = b + (k + 1); omega), show b + (k + 1) = b + 1 + k by omega]
      omega
    -- the pieces of what is left
    have restI : c = g → (∀ x ∈ rest, a + 1 ≤ x.1) := fun e x hx => by
      have h1 := no_I hp (by omega : sumI rest a ≤ 0) x hx
      have h2 := (h.rng x (List.mem_cons_of_mem _ hx)).1
      omega
    have restJ : c = u → (∀ x ∈ rest, b + 1 ≤ x.2.1) := fun e x hx => by
      have h1 := no_J hp (by omega : sumJ rest b ≤ 0) x hx
      have h2 := (h.rng x (List.mem_cons_of_mem _ hx)).2.2.1
      omega
    have kptG : ∀ k g', G[k]? = some g' → sumI rest (a + 1 + k) ≤ g' := fun k g' e => by
      have := h.kpt (k + 1) g' (by simpa using e)
      rw [kk k g' (by simpa using e)] at this
      exact this
    have fulG : ∀ x ∈ rest, ∀ k g', G[k]? = some g' → a + 1 + k < x.1 → sumI rest (a + 1 + k) = g' := fun x hx k g' e hlt => by
      have := h.ful x (List.mem_cons_of_mem _ hx) (k + 1) g' (by simpa using e) (by omega)
      rw [kk k g' (by simpa using e)] at this
      exact this
    have filU : ∀ k u', U[k]? = some u' → sumJ rest (b + 1 + k) = u' := fun k u' e => by
      have := h.fil (k + 1) u' (by simpa using e)
      rw [jj k] at this
      exact this
    have hr := fun x hx => h.rng x (List.mem_cons_of_mem _ hx)
    simp only [List.length_cons] at hr
    refine ⟨rest, ?_⟩
    rcases Int.lt_trichotomy g u with z | z | z
    · have ec : c = g := cases2 (by omega)
      subst ec
      refine .inl ⟨z, rfl, fun x hx => ?_, s2, fun k u' e => ?_, kptG, fulG⟩
      · have := hr x hx
        have := restI rfl x hx
        simp only [List.length_cons]
        omega
      · cases k with
        | zero =>
          simp at e
          simp only [Nat.add_zero]
          omega
        | succ k =>
          have := filU k u' (by simpa using e)
          rw [show b + (k + 1) = b + 1 + k by omega]
          exact this
    · have ec : c = g := by
        rcases Int.lt_or_le c u with y | y
        · exact cases2 y
        · omega
      subst ec
      refine .inr (.inl ⟨z, rfl, fun x hx => ?_, s2, filU, kptG, fulG⟩)
      have := hr x hx
      have := restI rfl x hx
      have := restJ (by omega) x hx
      omega
    · have ec : c = u := by
        rcases Int.lt_or_le c u with y | y
        · have := cases2 y; omega
        · omega
      subst ec
      refine .inr (.inr ⟨z, rfl, fun x hx => ?_, s2, filU, fun k g' e => ?_, fun x hx k g' e hlt => ?_⟩)
      · have := hr x hx
        have := restJ rfl x hx
        simp only [List.length_cons]
        omega
      · cases k with
        | zero =>
          simp at e
          simp only [Nat.add_zero]
          omega
        | succ k =>
          have := kptG k g' (by simpa using e)
          rw [show a + (k + 1) = a + 1 + k by omega]
          exact this
      · cases k with
        | zero =>
          simp at e
          simp only [Nat.add_zero]
          have := h.ful x (List.mem_cons_of_mem _ hx) 0 g rfl (by simpa using hlt)
          rw [Nat.add_zero, sumI_cons, if_pos rfl] at this
          simp only at this
          omega
        | succ k =>
          have := fulG x hx k g' (by simpa using e) (by omega)
          rw [show a + (k + 1) = a + 1 + k by omega]
          exact this
theorem Q.uniq : ∀ (n i j : Nat) (G U : List Int) (cs ds : List Cell), G.length + U.length ≤ n → (∀ g ∈ G, 0 < g) → (∀ u ∈ U, 0 < u) → Q i G j U cs → Q i G j U ds → cs = ds ∧ U.sum ≤ G.sum
  | n, i, j, G, [], cs, ds, hn, hG, hU, h1, h2 => by
    refine ⟨by rw [h1.base, h2.base], ?_⟩
    clear h1 h2 hn
    induction G with
    | nil => simp
    | cons g G ih =>
      have := ih fun g hg => hG g (List.mem_cons_of_mem _ hg)
      have := hG g List.mem_cons_self
      simp at *
      omega
  | n, i, j, [], u :: U, cs, ds, hn, hG, hU, h1, h2 => (h1.empty (hU u List.mem_cons_self)).elim
  | 0, i, j, g :: G, u :: U, cs, ds, hn, hG, hU, h1, h2 => by simp at hn
  | n + 1, i, j, g :: G, u :: U, cs, ds, hn, hG, hU, h1, h2 => by
    have hg := hG g List.mem_cons_self
    have hu := hU u List.mem_cons_self
    have hG' : ∀ x ∈ G, 0 < x := fun x hx => hG x (List.mem_cons_of_mem _ hx)
    have hU' : ∀ x ∈ U, 0 < x := fun x hx => hU x (List.mem_cons_of_mem _ hx)
    simp only [List.length_cons] at hn
    obtain ⟨r1, p1⟩ := h1.step hg hu
    obtain ⟨r2, p2⟩ := h2.step hg hu
    rcases p1 with ⟨a1, rfl, q1⟩ | ⟨a1, rfl, q1⟩ | ⟨a1, rfl, q1⟩
    · rcases p2 with ⟨a2, rfl, q2⟩ | ⟨a2, rfl, q2⟩ | ⟨a2, rfl, q2⟩
      · obtain ⟨e, s⟩ := Q.uniq n _ _ _ _ r1 r2 (by simp only [List.length_cons]; omega) hG' (by intro x hx; rcases List.mem_cons.mp hx with rfl | hx; omega; exact hU' x hx) q1 q2
        refine ⟨by rw [e], ?_⟩
        simp only [List.sum_cons] at s ⊢
        omega
      · omega
      · omega
    · rcases p2 with ⟨a2, rfl, q2⟩ | ⟨a2, rfl, q2⟩ | ⟨a2, rfl, q2⟩
      · omega
      · obtain ⟨e, s⟩ := Q.uniq n _ _ _ _ r1 r2 (by omega) hG' hU' q1 q2
        refine ⟨by rw [e], ?_⟩
        simp only [List.sum_cons] at s ⊢
        omega
      · omega
    · rcases p2 with ⟨a2, rfl, q2⟩ | ⟨a2, rfl, q2⟩ | ⟨a2, rfl, q2⟩
      · omega
      · omega
      · obtain ⟨e, s⟩ := Q.uniq n _ _ _ _ r1 r2 (by simp only [List.length_cons]; omega) (by intro x hx; rcases List.mem_cons.mp hx with rfl | hx; omega; exact hG' x hx) hU' q1 q2
        refine ⟨by rw [e], ?_⟩
        simp only [List.sum_cons] at s ⊢
        omega
end K50

set_option Elab.async false
set_option linter.all false
set_option maxRecDepth 100000
set_option maxHeartbeats 4000000
namespace K50
/-! ### the table's own cells keep the rules -/
def pre (G : List Int) (k : Nat) : Int := (G.take k).sum
theorem pre_succ {G : List Int} {k : Nat} {g : Int} (h : G[k]? = some g) : pre G (k + 1) = pre G k + g := by
  unfold pre
  rw [List.take_add_one, h]
  simp
theorem pre_zero (G : List Int) : pre G 0 = 0 := rfl
theorem pre_over {G : List Int} {k : Nat} (h : G.length ≤ k) : pre G k = G.sum := by
  unfold pre
  rw [List.take_of_length_le h]
theorem pre_mono {G : List Int} (hG : ∀ g ∈ G, 0 < g) {k : Nat} : ∀ {l : Nat}, k ≤ l → pre G k ≤ pre G l
  | 0, h => by
    have : k = 0 := by omega
    subst this; exact Int.le_refl _
  | l + 1, h => by
    by_cases e : k = l + 1
    · subst e; exact Int.le_refl _
    · have ih := pre_mono hG (k := k) (l := l) (by omega)
      cases hx : G[l]? with
      | none =>
        have : G.length ≤ l := by
          rw [List.getElem?_eq_none_iff] at hx; exact hx
        have e1 := pre_over this
        have e2 := pre_over (show G.length ≤ l + 1 by omega)
        omega
      | some g =>
        rw [pre_succ hx]
        have := hG g (List.mem_of_getElem? hx)
        omega
def lap (G U : List Int) (i j : Nat) : Int := max 0 (min (pre G (i + 1)) (pre U (j + 1)) - max (pre G i) (pre U j))
def cellsRow (i : Nat) (t : Nat → Nat → Int) (k : Nat) : List (Nat × Nat × Int) := (List.range k).filterMap fun j => if t i j > 0 then some (i, j, t i j) else none
def cellsT (k : Nat) (t : Nat → Nat → Int) (n : Nat) : List (Nat × Nat × Int) := (List.range n).flatMap fun i => cellsRow i t k
theorem cellsRow_succ (i : Nat) (t : Nat → Nat → Int) (k : Nat) : cellsRow i t (k + 1) = cellsRow i t k ++ (if t i k > 0 then [(i, k, t i k)] else []) := by
  unfold cellsRow
  rw [List.range_succ, List.filterMap_append]
  congr 1
  by_cases h : t i k > 0 <;> simp [h]
theorem cellsT_succ (k : Nat) (t : Nat → Nat → Int) (n : Nat) : cellsT k t (n + 1) = cellsT k t n ++ cellsRow n t k := by
  unfold cellsT
  rw [List.range_succ, List.flatMap_append]
  simp
theorem mem_row {i k : Nat} {t : Nat → Nat → Int} {c : Cell} : c ∈ cellsRow i t k ↔ c.1 = i ∧ c.2.1 < k ∧ c.2.2 = t i c.2.1 ∧ 0 < t i c.2.1 := by
  unfold cellsRow
  rw [List.mem_filterMap]
  constructor
  · rintro ⟨j, hj, e⟩
    split at e
    · rename_i h
      cases e
      exact ⟨rfl, List.mem_range.mp hj, rfl, h⟩
    · cases e
  · rintro ⟨h1, h2, h3, h4⟩
    obtain ⟨a, b, x⟩ := c
    simp only at h1 h2 h3 h4
    subst h1
    subst h3
    exact ⟨b, List.mem_range.mpr h2, by rw [if_pos h4]⟩
theorem mem_T {n k : Nat} {t : Nat → Nat → Int} {c : Cell} : c ∈ cellsT k t n ↔ c.1 < n ∧ c.2.1 < k ∧ c.2.2 = t c.1 c.2.1 ∧ 0 < t c.1 c.2.1 := by
  unfold cellsT
  rw [List.mem_flatMap]
  constructor
  · rintro ⟨i, hi, h⟩
    obtain ⟨rfl, h⟩ := mem_row.mp h
    exact ⟨List.mem_range.mp hi, h⟩
  · rintro ⟨h1, h2⟩
    exact ⟨c.1, List.mem_range.mpr h1, mem_row.mpr ⟨rfl, h2⟩⟩
theorem row_J {i : Nat} {t : Nat → Nat → Int} (h : ∀ j, 0 ≤ t i j) (p : Nat) : ∀ k, sumJ (cellsRow i t k) p = if p < k then t i p else 0
  | 0 => by simp [cellsRow, sumJ]
  | k + 1 => by
    rw [cellsRow_succ, sumJ_app, row_J h p k]
    have := h k
    by_cases hp : p = k
    · subst hp
      by_cases hq : t i p > 0
      · simp [hq, sumJ]
      · have : t i p = 0 := by omega
        simp [this, sumJ]
    · have z : sumJ (if t i k > 0 then [(i, k, t i k)] else []) p = 0 := sumJ_zero fun c hc => by
        split at hc
        · simp at hc; subst hc; exact fun e => hp e.symm
        · cases hc
      rw [z]
      by_cases hlt : p < k
      · rw [if_pos hlt, if_pos (by omega)]; omega
      · rw [if_neg hlt, if_neg (by omega)]; omega
def rowSum (t : Nat → Nat → Int) (i : Nat) : Nat → Int
  | 0 => 0
  | k + 1 => rowSum t i k + t i k
theorem row_I {i : Nat} {t : Nat → Nat → Int} (h : ∀ j, 0 ≤ t i j) : ∀ k, sumI (cellsRow i t k) i = rowSum t i k
  | 0 => rfl
  | k + 1 => by
    rw [cellsRow_succ, sumI_app, row_I h k, rowSum]
    have := h k
    by_cases hq : t i k > 0
    · rw [if_pos hq, sumI_cons]
      simp [sumI]
    · rw [if_neg hq]
      simp [sumI]; omega
theorem row_I' {i p : Nat} {t : Nat → Nat → Int} {k : Nat} (h : i ≠ p) : sumI (cellsRow i t k) p = 0 := sumI_zero fun c hc e => h ((mem_row.mp hc).1.symm.trans e)
theorem T_I {t : Nat → Nat → Int} (h : ∀ i j, 0 ≤ t i j) {k p : Nat} : ∀ {n}, p < n → sumI (cellsT k t n) p = rowSum t p k
  | 0, hp => by omega
  | n + 1, hp => by
    rw [cellsT_succ, sumI_app]
    by_cases e : p = n
    · subst e
      rw [row_I (h p), sumI_zero fun c hc => by have := (mem_T.mp hc).1; omega]
      omega
    · rw [T_I h (by omega), row_I' (fun z => e z.symm)]
      omega
def clamp (lo hi x : Int) : Int := min (max x lo) hi
theorem T_J {G U : List Int} (hG : ∀ g ∈ G, 0 < g) (hU : ∀ u ∈ U, 0 < u) {k p : Nat} (hp : p < k) : ∀ n, sumJ (cellsT k (lap G U) n) p = clamp (pre U p) (pre U (p + 1)) (pre G n) - clamp (pre U p) (pre U (p + 1)) 0
  | 0 => by
    rw [pre_zero]
    simp [cellsT, sumJ]
  | n + 1 => by
    rw [cellsT_succ, sumJ_app, T_J hG hU hp n, row_J (fun j => by unfold lap; omega) p k, if_pos hp]
    have h1 := pre_mono hG (Nat.le_succ n)
    have h2 := pre_mono hU (Nat.le_succ p)
    unfold lap clamp
    simp only [Nat.succ_eq_add_one] at h1 h2
    omega
theorem rowSum_lap {G U : List Int} (hG : ∀ g ∈ G, 0 < g) (hU : ∀ u ∈ U, 0 < u) (i : Nat) : ∀ k, rowSum (lap G U) i k = clamp (pre G i) (pre G (i + 1)) (pre U k) - clamp (pre G i) (pre G (i + 1)) 0
  | 0 => by
    rw [pre_zero, rowSum]
    omega
  | k + 1 => by
    rw [rowSum, rowSum_lap hG hU i k]
    have h1 := pre_mono hU (Nat.le_succ k)
    have h2 := pre_mono hG (Nat.le_succ i)
    unfold lap clamp
    simp only [Nat.succ_eq_add_one] at h1 h2
    omega
theorem getlt {α : Type} {l : List α} {k : Nat} {a : α} (h : l[k]? = some a) : k < l.length := by
  rcases Nat.lt_or_ge k l.length with z | z
  · exact z
  · rw [List.getElem?_eq_none z] at h; cases h
theorem pre_nn {G : List Int} (hG : ∀ g ∈ G, 0 < g) (k : Nat) : 0 ≤ pre G k := by
  have := pre_mono hG (Nat.zero_le k)
  rw [pre_zero] at this
  exact this
theorem pre_lt {G : List Int} (hG : ∀ g ∈ G, 0 < g) {k l : Nat} (h : pre G k < pre G l) : k < l := by
  rcases Nat.lt_or_ge k l with z | z
  · exact z
  · have := pre_mono hG z; omega
theorem row_srt (G U : List Int) (i : Nat) : ∀ k, (cellsRow i (lap G U) k).Pairwise stp
  | 0 => by simp [cellsRow]
  | k + 1 => by
    rw [cellsRow_succ, List.pairwise_append]
    refine ⟨row_srt G U i k, ?_, fun a ha b hb => ?_⟩
    · split <;> simp
    · split at hb
      · simp at hb
        subst hb
        obtain ⟨h1, h2, _⟩ := mem_row.mp ha
        exact ⟨.inr ⟨h1, h2⟩, Nat.le_of_lt h2⟩
      · cases hb
theorem T_srt {G U : List Int} (hG : ∀ g ∈ G, 0 < g) (hU : ∀ u ∈ U, 0 < u) (k : Nat) : ∀ n, (cellsT k (lap G U) n).Pairwise stp
  | 0 => by simp [cellsT]
  | n + 1 => by
    rw [cellsT_succ, List.pairwise_append]
    refine ⟨T_srt hG hU k n, row_srt G U n k, fun a ha b hb => ?_⟩
    obtain ⟨a1, a2, a3, a4⟩ := mem_T.mp ha
    obtain ⟨b1, b2, b3, b4⟩ := mem_row.mp hb
    refine ⟨.inl (by omega), ?_⟩
    unfold lap at a4 b4
    have h1 := pre_mono hG (show a.1 + 1 ≤ n by omega)
    have : a.2.1 < b.2.1 + 1 := pre_lt hU (by omega)
    omega
theorem T_Q {G U : List Int} (hG : ∀ g ∈ G, 0 < g) (hU : ∀ u ∈ U, 0 < u) (hs : U.sum ≤ G.sum) : Q 0 G 0 U (cellsT U.length (lap G U) G.length) := by
  have nn : ∀ i j, 0 ≤ lap G U i j := fun i j => by unfold lap; omega
  refine ⟨fun c hc => ?_, T_srt hG hU _ _, fun k u e => ?_, fun k g e => ?_, fun c hc k g e hlt => ?_⟩
  · obtain ⟨h1, h2, h3, h4⟩ := mem_T.mp hc
    rw [Nat.zero_add, Nat.zero_add, h3]
    exact ⟨Nat.zero_le _, h1, Nat.zero_le _, h2, by omega⟩
  · have hk := getlt e
    rw [Nat.zero_add, T_J hG hU hk, pre_over (Nat.le_refl G.length)]
    have h1 := pre_succ e
    have h2 := pre_mono hU (show k + 1 ≤ U.length by omega)
    rw [pre_over (Nat.le_refl U.length)] at h2
    have h3 := pre_nn hU k
    have h4 := hU u (List.mem_of_getElem? e)
    unfold clamp
    omega
  · have hk := getlt e
    rw [Nat.zero_add, T_I nn hk, rowSum_lap hG hU]
    have h1 := pre_succ e
    have h3 := pre_nn hG k
    have h4 := hG g (List.mem_of_getElem? e)
    unfold clamp
    omega
  · have hk := getlt e
    rw [Nat.zero_add] at hlt ⊢
    rw [T_I nn hk, rowSum_lap hG hU]
    obtain ⟨c1, c2, c3, c4⟩ := mem_T.mp hc
    have h1 := pre_succ e
    have h3 := pre_nn hG k
    have h4 := hG g (List.mem_of_getElem? e)
    have h5 := pre_mono hG (show k + 1 ≤ c.1 by omega)
    have h6 := pre_mono hU (show c.2.1 + 1 ≤ U.length by omega)
    unfold lap at c4
    unfold clamp
    omega
end K50

set_option Elab.async false
set_option linter.all false
set_option maxRecDepth 100000
set_option maxHeartbeats 4000000
namespace K50
def jsOf (cs : List (Nat × Nat × Int)) (i : Nat) : List Int := (cs.filter fun c => decide (c.1 = i)).map fun c => (c.2.1 : Int)
def crossF (cs : List (Nat × Nat × Int)) : List (Int × Int × Int) → Nat → Int → Bool → Bool
  | [], _, _, _ => true
  | g :: gs, i, latest, spent =>
    match (jsOf cs i).min?, (jsOf cs i).max? with
    | some lo, some hi => if !spent || decide (lo < latest) then false else crossF cs gs (i + 1) hi (spent && !decide (sumI cs i < g.2.2))
    | _, _ => crossF cs gs (i + 1) latest (spent && !decide (sumI cs i < g.2.2))
theorem mem_js {cs : List Cell} {i : Nat} {x : Int} : x ∈ jsOf cs i ↔ ∃ c ∈ cs, c.1 = i ∧ (c.2.1 : Int) = x := by
  unfold jsOf
  rw [List.mem_map]
  constructor
  · rintro ⟨c, hc, e⟩
    obtain ⟨h1, h2⟩ := List.mem_filter.mp hc
    exact ⟨c, h1, of_decide_eq_true h2, e⟩
  · rintro ⟨c, h1, h2, e⟩
    exact ⟨c, List.mem_filter.mpr ⟨h1, decide_eq_true h2⟩, e⟩
structure Cr (cs : List Cell) (n i : Nat) (latest : Int) (spent : Bool) (gs : List (Int × Int × Int)) : Prop where
  a : ∀ c ∈ cs, i ≤ c.1 → c.1 < n → latest ≤ c.2.1 ∧ spent = true
  b : ∀ c ∈ cs, ∀ d ∈ cs, i ≤ c.1 → c.1 < d.1 → d.1 < n → c.2.1 ≤ d.2.1
  c : ∀ d ∈ cs, d.1 < n → ∀ k g, gs[k]? = some g → i + k < d.1 → ¬ sumI cs (i + k) < g.2.2
theorem cross_iff (cs : List Cell) (n : Nat) : ∀ (gs : List (Int × Int × Int)) (i : Nat) (latest : Int) (spent : Bool), i + gs.length = n → (crossF cs gs i latest spent = true ↔ Cr cs n i latest spent gs)
  | [], i, latest, spent, h => by
    simp only [List.length_nil, Nat.add_zero] at h
    subst h
    refine ⟨fun _ => ⟨fun c _ h1 h2 => by omega, fun c _ d _ h1 h2 h3 => by omega, fun d _ h1 k g e => by simp at e⟩, fun _ => rfl⟩
  | g :: gs, i, latest, spent, h => by
    simp only [List.length_cons] at h
    unfold crossF
    cases hmin : (jsOf cs i).min? with
    | none =>
      have hnil : jsOf cs i = [] := List.min?_eq_none_iff.mp hmin
      have no : ∀ c ∈ cs, c.1 ≠ i := fun c hc e => by
        have : (c.2.1 : Int) ∈ jsOf cs i := mem_js.mpr ⟨c, hc, e, rfl⟩
        rw [hnil] at this; cases this
      simp only
      rw [cross_iff cs n gs (i + 1) latest _ (by omega)]
      constructor
      · intro q
        refine ⟨fun c hc h1 h2 => ?_, fun c hc d hd h1 h2 h3 => q.b c hc d hd (by have := no c hc; omega) h2 h3, fun d hd h1 k g' e hlt => ?_⟩
        · obtain ⟨q1, q2⟩ := q.a c hc (by have := no c hc; omega) h2
          simp only [Bool.and_eq_true] at q2
          exact ⟨q1, q2.1⟩
        · cases k with
          | zero =>
            simp at e
            subst e
            have := (q.a d hd (by omega) h1).2
            simp only [Bool.and_eq_true, Bool.not_eq_true', decide_eq_false_iff_not] at this
            exact this.2
          | succ k =>
            have := q.c d hd h1 k g' (by simpa using e) (by omega)
            rw [show i + (k + 1) = i + 1 + k by omega]
            exact this
      · intro q
        refine ⟨fun c hc h1 h2 => ?_, fun c hc d hd h1 h2 h3 => q.b c hc d hd (by omega) h2 h3, fun d hd h1 k g' e hlt => ?_⟩
        · obtain ⟨q1, q2⟩ := q.a c hc (by omega) h2
          have q3 := q.c c hc h2 0 g rfl (by omega)
          refine ⟨q1, ?_⟩
          simp only [Nat.add_zero] at q3
          simp [q2, q3]
        · have := q.c d hd h1 (k + 1) g' (by simpa using e) (by omega)
          rw [show i + 1 + k = i + (k + 1) by omega]
          exact this
    | some lo =>
      have hne : jsOf cs i ≠ [] := fun z => by rw [z] at hmin; cases hmin
      obtain ⟨hi, hmax⟩ : ∃ y, (jsOf cs i).max? = some y := by
        cases h2 : (jsOf cs i).max? with
        | some y => exact ⟨y, rfl⟩
        | none => exact absurd (List.max?_eq_none_iff.mp h2) hne
      rw [hmax]
      obtain ⟨m1, m2⟩ := List.min?_eq_some_iff.mp hmin
      obtain ⟨m3, m4⟩ := List.max?_eq_some_iff.mp hmax
      obtain ⟨cl, hcl, el, el2⟩ := mem_js.mp m1
      obtain ⟨ch, hch, eh, eh2⟩ := mem_js.mp m3
      have lo_le : ∀ c ∈ cs, c.1 = i → lo ≤ c.2.1 := fun c hc e => m2 _ (mem_js.mpr ⟨c, hc, e, rfl⟩)
      have le_hi : ∀ c ∈ cs, c.1 = i → (c.2.1 : Int) ≤ hi := fun c hc e => m4 _ (mem_js.mpr ⟨c, hc, e, rfl⟩)
      simp only
      by_cases hb : (!spent || decide (lo < latest)) = true
      · rw [if_pos hb]
        refine ⟨(fun z => by cases z), fun q => ?_⟩
        obtain ⟨q1, q2⟩ := q.a cl hcl (by omega) (by omega)
        rw [q2] at hb
        simp only [Bool.not_true, Bool.false_or, decide_eq_true_eq] at hb
        omega
      · rw [if_neg hb]
        have hs : spent = true := by cases spent <;> simp at hb ⊢
        subst hs
        simp only [Bool.not_true, Bool.false_or, decide_eq_true_eq] at hb
        rw [cross_iff cs n gs (i + 1) hi _ (by omega)]
        constructor
        · intro q
          refine ⟨fun c hc h1 h2 => ⟨?_, rfl⟩, fun c hc d hd h1 h2 h3 => ?_, fun d hd h1 k g' e hlt => ?_⟩
          · by_cases e : c.1 = i
            · have := lo_le c hc e; omega
            · have := (q.a c hc (by omega) h2).1
              have := lo_le ch hch eh
              omega
          · by_cases e : c.1 = i
            · have h4 := (q.a d hd (by omega) h3).1
              have := le_hi c hc e
              omega
            · exact q.b c hc d hd (by omega) h2 h3
          · cases k with
            | zero =>
              simp at e
              subst e
              have := (q.a d hd (by omega) h1).2
              simpa using this
            | succ k =>
              have := q.c d hd h1 k g' (by simpa using e) (by omega)
              rw [show i + (k + 1) = i + 1 + k by omega]
              exact this
        · intro q
          refine ⟨fun c hc h1 h2 => ?_, fun c hc d hd h1 h2 h3 => q.b c hc d hd (by omega) h2 h3, fun d hd h1 k g' e hlt => ?_⟩
          · have q1 := q.b ch hch c hc (by omega) (by omega) h2
            have q3 := q.c c hc h2 0 g rfl (by omega)
            simp only [Nat.add_zero] at q3
            refine ⟨by omega, by simp [q3]⟩
          · have := q.c d hd h1 (k + 1) g' (by simpa using e) (by omega)
            rw [show i + 1 + k = i + (k + 1) by omega]
            exact this
/-! ### the trace's rules and the staircase -/
variable {α : Type}
def lexLe (a b : Nat × Nat × Int) : Prop := a.1 < b.1 ∨ (a.1 = b.1 ∧ a.2.1 ≤ b.2.1)
def DaysOk (gs : List (Int × Int × Int)) (us : List (α × Int × Int)) (c : Nat × Nat × Int) : Prop := ∀ g u, gs[c.1]? = some g → us[c.2.1]? = some u → g.2.1 ≤ u.2.1
def TraceOk (gs : List (Int × Int × Int)) (us : List (α × Int × Int)) (cs : List (Nat × Nat × Int)) : Prop :=
  (cs.map fun c => (c.1, c.2.1)).Nodup ∧ (∀ k x y, cs[k]? = some x → cs[k + 1]? = some y → lexLe x y) ∧ (∀ j u, us[j]? = some u → sumJ cs j = u.2.2) ∧ (∀ i g, gs[i]? = some g → sumI cs i ≤ g.2.2) ∧ (∀ c ∈ cs, DaysOk gs us c) ∧ crossF cs gs 0 0 true = true
def comeF (gs : List (Int × Int × Int)) (d : Int) : Int := ((gs.filter fun g => decide (g.2.1 ≤ d)).map (·.2.2)).sum
def sumU (us : List (α × Int × Int)) (k : Nat) : Int := pre (us.map (·.2.2)) k
def sumG (gs : List (Int × Int × Int)) (k : Nat) : Int := pre (gs.map (·.2.2)) k
def NoOutrun (gs : List (Int × Int × Int)) (us : List (α × Int × Int)) : Prop := ∀ k u, us[k]? = some u → sumU us (k + 1) ≤ comeF gs u.2.1
def lapF (gs : List (Int × Int × Int)) (us : List (α × Int × Int)) (i j : Nat) : Int := lap (gs.map (·.2.2)) (us.map (·.2.2)) i j
structure GsOk (gs : List (Int × Int × Int)) : Prop where
  ids : (gs.map (·.1)).Nodup
  days : gs.Pairwise fun a b => a.2.1 ≤ b.2.1
  pos : ∀ g ∈ gs, 0 < g.2.2
structure UsOk (us : List (α × Int × Int)) : Prop where
  keys : (us.map (·.1)).Nodup
  days : us.Pairwise fun a b => a.2.1 ≤ b.2.1
  pos : ∀ u ∈ us, 0 < u.2.2
def stair (gs : List (Int × Int × Int)) (us : List (α × Int × Int)) : List Cell := cellsT us.length (lapF gs us) gs.length
theorem pos_map {l : List (α × Int × Int)} (h : ∀ g ∈ l, 0 < g.2.2) : ∀ x ∈ l.map (·.2.2), 0 < x := fun x hx => by
  obtain ⟨g, hg, rfl⟩ := List.mem_map.mp hx
  exact h g hg
theorem lex_all : ∀ {cs : List Cell} {c : Cell}, (∀ k x y, (c :: cs)[k]? = some x → (c :: cs)[k + 1]? = some y → lexLe x y) → ∀ d ∈ cs, lexLe c d
  | [], _, _, d, hd => by cases hd
  | e :: cs, c, h, d, hd => by
    have h1 := h 0 c e rfl rfl
    rcases List.mem_cons.mp hd with rfl | hd
    · exact h1
    · have h2 := lex_all (c := e) (fun k x y hx hy => h (k + 1) x y (by simpa using hx) (by simpa using hy)) d hd
      unfold lexLe at *
      omega
theorem lex_pair : ∀ {cs : List Cell}, (cs.map fun c => (c.1, c.2.1)).Nodup → (∀ k x y, cs[k]? = some x → cs[k + 1]? = some y → lexLe x y) → cs.Pairwise fun a b => a.1 < b.1 ∨ a.1 = b.1 ∧ a.2.1 < b.2.1
  | [], _, _ => .nil
  | c :: cs, h1, h2 => by
    rw [List.map_cons, List.nodup_cons] at h1
    refine List.pairwise_cons.mpr ⟨fun d hd => ?_, lex_pair h1.2 fun k x y hx hy => h2 (k + 1) x y (by simpa using hx) (by simpa using hy)⟩
    have h3 := lex_all h2 d hd
    have h4 : ¬ (c.1 = d.1 ∧ c.2.1 = d.2.1) := fun z => h1.1 (List.mem_map.mpr ⟨d, hd, by rw [z.1, z.2]⟩)
    unfold lexLe at h3
    omega
/-- how much has come by a day: the gifts up to a place -/
theorem come_pre : ∀ {gs : List (Int × Int × Int)}, (gs.Pairwise fun a b => a.2.1 ≤ b.2.1) → ∀ d, ∃ t, t ≤ gs.length ∧ comeF gs d = sumG gs t ∧ (∀ k g, gs[k]? = some g → (k < t ↔ g.2.1 ≤ d))
  | [], _, d => ⟨0, Nat.le_refl _, rfl, fun k g e => by simp at e⟩
  | g :: gs, h, d => by
    obtain ⟨h1, h2⟩ := List.pairwise_cons.mp h
    by_cases hd : g.2.1 ≤ d
    · obtain ⟨t, t1, t2, t3⟩ := come_pre h2 d
      refine ⟨t + 1, by simpa using t1, ?_, fun k x e => ?_⟩
      · unfold comeF at t2 ⊢
        rw [List.filter_cons, if_pos (decide_eq_true hd), List.map_cons, List.sum_cons, t2]
        simp [sumG, pre]
      · cases k with
        | zero => simp at e; subst e; simp [hd]
        | succ k => have := t3 k x (by simpa using e); omega
    · refine ⟨0, Nat.zero_le _, ?_, fun k x e => ?_⟩
      · have : ∀ x ∈ g :: gs, ¬ x.2.1 ≤ d := fun x hx => by
          rcases List.mem_cons.mp hx with rfl | hx
          · exact hd
          · have := h1 x hx; omega
        unfold comeF
        rw [List.filter_eq_nil_iff.mpr fun x hx => by simp; have := this x hx; omega]
        rfl
      · have hx := List.mem_of_getElem? e
        constructor
        · intro z; omega
        · intro z
          rcases List.mem_cons.mp hx with rfl | hx
          · exact absurd z hd
          · have := h1 x hx; omega
theorem TraceOk.q {gs : List (Int × Int × Int)} {us : List (α × Int × Int)} {cs : List Cell} (hin : ∀ c ∈ cs, c.1 < gs.length ∧ c.2.1 < us.length ∧ 1 ≤ c.2.2) (h : TraceOk gs us cs) : Q 0 (gs.map (·.2.2)) 0 (us.map (·.2.2)) cs := by
  obtain ⟨t1, t2, t3, t4, t5, t6⟩ := h
  have cr := (cross_iff cs gs.length gs 0 0 true (by simp)).mp t6
  have lp := lex_pair t1 t2
  refine ⟨fun c hc => ?_, ?_, fun k u e => ?_, fun k g e => ?_, fun c hc k g e hlt => ?_⟩
  · have := hin c hc
    simp only [List.length_map]
    omega
  · refine lp.imp_of_mem fun {a b} ha hb hab => ⟨hab, ?_⟩
    rcases hab with z | z
    · exact cr.b a ha b hb (Nat.zero_le _) z (hin b hb).1
    · exact Nat.le_of_lt z.2
  · rw [List.getElem?_map] at e
    obtain ⟨x, e1, e2⟩ := Option.map_eq_some_iff.mp e
    rw [Nat.zero_add, t3 k x e1, e2]
  · rw [List.getElem?_map] at e
    obtain ⟨x, e1, e2⟩ := Option.map_eq_some_iff.mp e
    have := t4 k x e1
    rw [Nat.zero_add]
    omega
  · rw [List.getElem?_map] at e
    obtain ⟨x, e1, e2⟩ := Option.map_eq_some_iff.mp e
    have h1 := t4 k x e1
    have h2 := cr.c c hc (hin c hc).1 k x e1 hlt
    rw [Nat.zero_add] at h2 ⊢
    omega
theorem outrun_total {gs : List (Int × Int × Int)} {us : List (α × Int × Int)} (hg : GsOk gs) (hu : UsOk us) (h : NoOutrun gs us) : (us.map (·.2.2)).sum ≤ (gs.map (·.2.2)).sum := by
  cases hx : us[us.length - 1]? with
  | none =>
    have : us.length ≤ us.length - 1 := List.getElem?_eq_none_iff.mp hx
    have : us = [] := List.length_eq_zero_iff.mp (by omega)
    subst this
    have := pre_nn (pos_map hg.pos) gs.length
    rw [pre_over (by simp)] at this
    simpa using this
  | some u =>
    have h1 := h _ u hx
    have h2 := getlt hx
    obtain ⟨t, t1, t2, t3⟩ := come_pre hg.days u.2.1
    have h3 : sumU us (us.length - 1 + 1) = (us.map (·.2.2)).sum := by
      unfold sumU
      exact pre_over (by simp; omega)
    have h4 := pre_mono (pos_map hg.pos) t1
    rw [pre_over (k := gs.length) (by simp)] at h4
    unfold sumG at t2
    omega
theorem stair_trace {gs : List (Int × Int × Int)} {us : List (α × Int × Int)} (hg : GsOk gs) (hu : UsOk us) (h : NoOutrun gs us) : TraceOk gs us (stair gs us) := by
  have hs := outrun_total hg hu h
  have pG := pos_map hg.pos
  have pU := pos_map hu.pos
  have q := T_Q pG pU hs
  simp only [List.length_map] at q
  have q : Q 0 (gs.map (·.2.2)) 0 (us.map (·.2.2)) (stair gs us) := q
  refine ⟨?_, fun k x y hx hy => ?_, fun j u e => ?_, fun i g e => ?_, fun c hc g u eg eu => ?_, ?_⟩
  · refine List.Pairwise.map _ (fun a b (hab : stp a b) e => ?_) q.srt
    simp only [Prod.mk.injEq] at e
    have := hab.1
    omega
  · have := (List.pairwise_iff_getElem.mp q.srt) k (k + 1) (getlt hx) (getlt hy) (Nat.lt_succ_self k)
    rw [List.getElem?_eq_getElem (getlt hx)] at hx
    rw [List.getElem?_eq_getElem (getlt hy)] at hy
    rw [Option.some.inj hx, Option.some.inj hy] at this
    have := this.1
    unfold lexLe
    omega
  · have := q.fil j u.2.2 (by rw [List.getElem?_map, e]; rfl)
    rw [Nat.zero_add] at this
    exact this
  · have := q.kpt i g.2.2 (by rw [List.getElem?_map, e]; rfl)
    rw [Nat.zero_add] at this
    exact this
  · obtain ⟨c1, c2, c3, c4⟩ := mem_T.mp hc
    rcases Int.lt_or_le u.2.1 g.2.1 with z | z
    · have h1 := h _ u eu
      obtain ⟨t, t1, t2, t3⟩ := come_pre hg.days u.2.1
      have h2 := t3 _ g eg
      have h3 := pre_mono pG (show t ≤ c.1 by omega)
      unfold lapF lap at c4
      unfold sumG at t2
      unfold sumU at h1
      omega
    · exact z
  · refine (cross_iff _ gs.length gs 0 0 true (by simp)).mpr ⟨fun c hc _ _ => ⟨by omega, rfl⟩, fun c hc d hd _ h1 h2 => ?_, fun d hd h1 k g e hlt => ?_⟩
    · obtain ⟨n1, hn1, e1⟩ := List.mem_iff_getElem.mp hc
      obtain ⟨n2, hn2, e2⟩ := List.mem_iff_getElem.mp hd
      rcases Nat.lt_trichotomy n1 n2 with z | z | z
      · have := (List.pairwise_iff_getElem.mp q.srt) n1 n2 hn1 hn2 z
        rw [e1, e2] at this
        exact this.2
      · subst z; rw [e1] at e2; subst e2; omega
      · have := (List.pairwise_iff_getElem.mp q.srt) n2 n1 hn2 hn1 z
        rw [e1, e2] at this
        have := this.1
        omega
    · have := q.ful d hd k g.2.2 (by rw [List.getElem?_map, e]; rfl) hlt
      omega
theorem trace_stair {gs : List (Int × Int × Int)} {us : List (α × Int × Int)} {cs : List Cell} (hg : GsOk gs) (hu : UsOk us) (hin : ∀ c ∈ cs, c.1 < gs.length ∧ c.2.1 < us.length ∧ 1 ≤ c.2.2) (h : TraceOk gs us cs) : NoOutrun gs us ∧ cs = stair gs us := by
  have pG := pos_map hg.pos
  have pU := pos_map hu.pos
  have q := h.q hin
  have hs := (Q.uniq _ _ _ _ _ _ _ (Nat.le_refl _) pG pU q q).2
  have q2 := T_Q pG pU hs
  simp only [List.length_map] at q2
  have e : cs = stair gs us := (Q.uniq _ _ _ _ _ _ _ (Nat.le_refl _) pG pU q q2).1
  refine ⟨fun k u hk => ?_, e⟩
  rcases Int.lt_or_le (comeF gs u.2.1) (sumU us (k + 1)) with z | z
  · obtain ⟨t, t1, t2, t3⟩ := come_pre hg.days u.2.1
    rw [t2] at z
    have z2 : pre (gs.map (·.2.2)) t < pre (us.map (·.2.2)) (k + 1) := z
    have hk' := getlt hk
    have h1 := pre_mono pU (show k + 1 ≤ us.length by omega)
    rw [pre_over (k := us.length) (by simp)] at h1
    have htn : t < gs.length := by
      rcases Nat.lt_or_ge t gs.length with y | y
      · exact y
      · rw [pre_over (by simpa using y)] at z2; omega
    -- the first use that ends behind what has come
    have find : ∀ n, pre (gs.map (·.2.2)) t < pre (us.map (·.2.2)) n → ∃ j, j < n ∧ pre (us.map (·.2.2)) j ≤ pre (gs.map (·.2.2)) t ∧ pre (gs.map (·.2.2)) t < pre (us.map (·.2.2)) (j + 1) := by
      intro n
      induction n with
      | zero =>
        intro hn
        have := pre_nn pG t
        rw [pre_zero] at hn
        omega
      | succ n ih =>
        intro hn
        rcases Int.lt_or_le (pre (gs.map (·.2.2)) t) (pre (us.map (·.2.2)) n) with y | y
        · obtain ⟨j, j1, j2⟩ := ih y
          exact ⟨j, by omega, j2⟩
        · exact ⟨n, Nat.lt_succ_self n, y, hn⟩
    obtain ⟨j, j1, j2, j3⟩ := find _ z2
    obtain ⟨g, hg'⟩ : ∃ g, gs[t]? = some g := ⟨gs[t], List.getElem?_eq_getElem htn⟩
    obtain ⟨v, hv⟩ : ∃ v, us[j]? = some v := ⟨us[j]'(by omega), List.getElem?_eq_getElem (by omega)⟩
    have hpos : 0 < lapF gs us t j := by
      have e1 : pre (gs.map (·.2.2)) (t + 1) = pre (gs.map (·.2.2)) t + g.2.2 := pre_succ (by rw [List.getElem?_map, hg']; rfl)
      have := hg.pos g (List.mem_of_getElem? hg')
      unfold lapF lap
      omega
    have hmem : (t, j, lapF gs us t j) ∈ cs := by
      rw [e]
      exact mem_T.mpr ⟨htn, by show j < us.length; omega, rfl, hpos⟩
    have hd := h.2.2.2.2.1 _ hmem g v hg' hv
    have h4 := t3 t g hg'
    have h5 : v.2.1 ≤ u.2.1 := by
      rcases Nat.lt_or_ge j k with y | y
      · have := (List.pairwise_iff_getElem.mp hu.days) j k (by omega) hk' y
        rw [List.getElem?_eq_getElem (by omega)] at hv
        rw [List.getElem?_eq_getElem hk'] at hk
        rw [Option.some.inj hv, Option.some.inj hk] at this
        exact this
      · have : j = k := by omega
        subst this
        rw [hk] at hv
        rw [Option.some.inj hv]
        omega
    omega
  · exact z
end K50

set_option Elab.async false
set_option linter.all false
set_option maxRecDepth 100000
set_option maxHeartbeats 4000000
namespace K50
open PySem PySem.Spec PyProof.Rows L2 Ev
def pD (p : Nat × Nat) : D := .tup [.int p.1, .int p.2]
def pK (p : Nat × Nat) : List Key := [.inl (p.1 : Int), .inl (p.2 : Int)]
theorem pK_inj {p q : Nat × Nat} (h : pK p = pK q) : p = q := by
  simp only [pK, List.cons.injEq, Sum.inl.injEq, and_true] at h
  exact Prod.ext (by omega) (by omega)
theorem dget_some {κ : Type} [DecidableEq κ] (k : κ) : ∀ (ks : List κ) (vs : List D), ks.length = vs.length → ((dget ks vs k).isSome = true ↔ k ∈ ks)
  | [], _, _ => by simp [dget]
  | q :: ks, [], h => by simp at h
  | q :: ks, v :: vs, h => by
    have ih := dget_some k ks vs (by simpa using h)
    by_cases e : q = k
    · subst e; simp [dget, List.find?_cons]
    · have e' : ¬ k = q := fun z => e z.symm
      have : dget (q :: ks) (v :: vs) k = dget ks vs k := by simp [dget, List.find?_cons, e]
      rw [this, ih]
      simp [e']
theorem dput_new {κ : Type} [DecidableEq κ] (k : κ) (v : D) (ks : List κ) (vs : List D) (hl : ks.length = vs.length) (h : k ∉ ks) : dput ks vs k v = (ks ++ [k], vs ++ [v]) := by
  have : ((ks.zip vs).any fun p => decide (p.1 = k)) = false := by
    rw [List.any_eq_false]
    intro p hp
    simp only [decide_eq_true_eq]
    intro e
    exact h (e ▸ (List.of_mem_zip hp).1)
  unfold dput
  rw [this]
  simp only [Bool.false_eq_true, if_false, List.map_append, List.map_cons, List.map_nil]
  rw [List.map_fst_zip (by omega), List.map_snd_zip (by omega)]
theorem dup_ok (ps : List (Nat × Nat)) (hl : ps.length ≤ 1000000) (m : Bag) : ∃ b : Bool, f_has_duplicates [.lst (ps.map pD)] m = some (.val (.bl b), m) ∧ (b = false ↔ ps.Nodup) := by
  obtain ⟨o, h1, h2⟩ := forL_rule (body := evSs l_has_duplicates_1) (tg := .nm 2) pD (fun as sl m' => m' = m ∧ ∃ done vs y2, done ++ as = ps ∧ done.Nodup ∧ vs.length = done.length ∧ sl = [.val (.lst (ps.map pD)), .own (.dT (done.map pK) vs), y2]) (fun _ _ => False)
    (fun r m' => m' = m ∧ r = .val (.bl true) ∧ ¬ ps.Nodup)
    (fun a as sl m' q => by
      obtain ⟨rfl, done, vs, y2, q1, q2, q3, rfl⟩ := q
      have hlen : done.length < 16777216 := by
        have : done.length + (as.length + 1) = ps.length := by rw [← q1]; simp
        omega
      have hlen2 : (done.map pK).length = vs.length := by simp [q3]
      have hmem : pK a ∈ done.map pK ↔ a ∈ done := ⟨fun z => by
        obtain ⟨p, hp, e⟩ := List.mem_map.mp z
        rw [← pK_inj e]; exact hp, fun z => List.mem_map.mpr ⟨a, z, rfl⟩⟩
      refine ⟨_, rfl, ?_⟩
      by_cases ha : a ∈ done
      · have hs : (dget (done.map pK) vs [.inl (a.1 : Int), .inl (a.2 : Int)]).isSome = true := (dget_some (pK a) _ _ hlen2).mpr (hmem.mpr ha)
        refine ⟨.rt (.val (.bl true)) m', ?_, rfl, rfl, fun z => ?_⟩
        · simp [evSs, evS, evs, evAnd, evOr, ev, evB, look, commit, R.d, R.kp, R.imm, R.sv, D.imm, D.imms, D.immC, setTg, setTs, bltR, binR, unR, ixR, tupR, lstR, dictTR, callR, slR, isiR, methR, lift, addS, subS, minS, maxS, modS, fdivS, mulS, negS, intS, wipeS, itList, itTup, itRng1, itRng2, mAppend, freeze, frz1, isnS, isnnS, l_has_duplicates_1, inS, dlook, pD, D.keys, D.key, hs]
        · rw [← q1] at z
          exact (List.nodup_append.mp z).2.2 a ha a List.mem_cons_self rfl
      · have hs : (dget (done.map pK) vs [.inl (a.1 : Int), .inl (a.2 : Int)]).isSome = false := by
          cases hb : (dget (done.map pK) vs [.inl (a.1 : Int), .inl (a.2 : Int)]).isSome with
          | false => rfl
          | true => exact absurd (hmem.mp ((dget_some (pK a) _ _ hlen2).mp hb)) ha
        have hp := dput_new (pK a) (.bl true) (done.map pK) vs hlen2 (fun z => ha (hmem.mp z))
        simp only [pK] at hp
        refine ⟨.nx [.val (.lst (ps.map pD)), .own (.dT ((done ++ [a]).map pK) (vs ++ [.bl true])), .val (pD a)] m', ?_, rfl, done ++ [a], _, _, by simpa using q1, ?_, by simp [q3], rfl⟩
        · simp [evSs, evS, evs, evAnd, evOr, ev, evB, look, commit, R.d, R.kp, R.imm, R.sv, D.imm, D.imms, D.immC, setTg, setTs, bltR, binR, unR, ixR, tupR, lstR, dictTR, callR, slR, isiR, methR, lift, addS, subS, minS, maxS, modS, fdivS, mulS, negS, intS, wipeS, itList, itTup, itRng1, itRng2, mAppend, freeze, frz1, isnS, isnnS, l_has_duplicates_1, inS, dlook, pD, D.keys, D.key, hs, mSet, hlen, q3, hp, pK]
        · rw [List.nodup_append]
          exact ⟨q2, by simp, fun b hb c hc e => by simp at hc; exact ha (hc ▸ e ▸ hb)⟩) ps [.val (.lst (ps.map pD)), .own (.dT [] []), .non] m ⟨rfl, [], [], _, rfl, by simp, rfl, rfl⟩
  cases o with
  | rt r m' =>
    obtain ⟨rfl, rfl, h3⟩ := h2
    exact ⟨true, by simp [f_has_duplicates, b_has_duplicates, evF, evSs, evS, evs, evAnd, evOr, ev, evB, look, commit, R.d, R.kp, R.imm, R.sv, D.imm, D.imms, D.immC, setTg, setTs, bltR, binR, unR, ixR, tupR, lstR, dictTR, callR, slR, isiR, methR, lift, addS, subS, minS, maxS, modS, fdivS, mulS, negS, intS, wipeS, itList, itTup, itRng1, itRng2, mAppend, freeze, frz1, isnS, isnnS, h1], by simp [h3]⟩
  | nx sl m' =>
    obtain ⟨rfl, done, vs, y2, q1, q2, q3, rfl⟩ := h2.resolve_right id
    rw [List.append_nil] at q1
    subst q1
    exact ⟨false, by simp [f_has_duplicates, b_has_duplicates, evF, evSs, evS, evs, evAnd, evOr, ev, evB, look, commit, R.d, R.kp, R.imm, R.sv, D.imm, D.imms, D.immC, setTg, setTs, bltR, binR, unR, ixR, tupR, lstR, dictTR, callR, slR, isiR, methR, lift, addS, subS, minS, maxS, modS, fdivS, mulS, negS, intS, wipeS, itList, itTup, itRng1, itRng2, mAppend, freeze, frz1, isnS, isnnS, h1], by simp [q2]⟩
  | bk _ _ => exact h2.elim
  | ct _ _ => exact h2.elim
theorem once_ok (cs : List (Nat × Nat × Int)) (hl : cs.length ≤ 1000000) (m : Bag) : ∃ b : Bool, f_each_pair_once [.lst (cs.map cD)] m = some (.val (.bl b), m) ∧ (b = true ↔ (cs.map fun c => (c.1, c.2.1)).Nodup) := by
  obtain ⟨b, h1, h2⟩ := dup_ok (cs.map fun c => (c.1, c.2.1)) (by simpa using hl) m
  rw [List.map_map] at h1
  have hl' : cs.length ≤ 16777216 := by omega
  refine ⟨!b, ?_, by rw [← h2]; simp⟩
  have hc : ∀ (body : D → Bag → Option (Option D × Bag)), (∀ c ∈ cs, body (cD c) m = some (some (pD (c.1, c.2.1)), m)) → compL body (cs.map cD) m = some (cs.map (fun c => pD (c.1, c.2.1)), m) := fun body h => compL_map cD _ cs h
  simp only [f_each_pair_once, b_each_pair_once, evF]
  simp [evSs, evS, evs, evAnd, evOr, ev, evB, look, commit, R.d, R.kp, R.imm, R.sv, D.imm, D.imms, D.immC, setTg, setTs, bltR, binR, unR, ixR, tupR, lstR, dictTR, callR, slR, isiR, methR, lift, addS, subS, minS, maxS, modS, fdivS, mulS, negS, intS, wipeS, itList, itTup, itRng1, itRng2, mAppend, freeze, frz1, isnS, isnnS, hl']
  rw [hc _ (fun c hc => by simp [cD, pD, ixS_tup, ix0, ix1])]
  simp only [Function.comp_def] at h1
  simp [h1]
theorem ints_of {α : Type} (f : α → Int) : ∀ (l : List α), D.ints (l.map fun a => D.int (f a)) = some (l.map f)
  | [] => rfl
  | a :: l => by simp only [List.map_cons, D.ints, ints_of f l]
theorem by_ok (cs : List (Nat × Nat × Int)) (hl : cs.length ≤ 1000000) (p : Nat) (m : Bag) : f_given_by [.lst (cs.map cD), .int p] m = some (.val (.int (sumI cs p)), m) := by
  have hl' : cs.length ≤ 16777216 := by omega
  have hc : ∀ (body : D → Bag → Option (Option D × Bag)), (∀ c ∈ cs, body (cD c) m = some (if decide (c.1 = p) then some (D.int c.2.2) else none, m)) → compL body (cs.map cD) m = some ((cs.filter fun c => decide (c.1 = p)).map (fun c => D.int c.2.2), m) := fun body h => compL_filter cD _ _ cs h
  simp only [f_given_by, b_given_by, evF]
  simp [evSs, evS, evs, evAnd, evOr, ev, evB, look, commit, R.d, R.kp, R.imm, R.sv, D.imm, D.imms, D.immC, setTg, setTs, bltR, binR, unR, ixR, tupR, lstR, dictTR, callR, slR, isiR, methR, lift, addS, subS, minS, maxS, modS, fdivS, mulS, negS, intS, wipeS, itList, itTup, itRng1, itRng2, mAppend, freeze, frz1, isnS, isnnS, hl']
  rw [hc _ (fun c hc => by
    by_cases e : c.1 = p
    · simp [cD, ixS_tup, ix0, ix2, eqS, e]
    · have e' : ¬ ((c.1 : Int) = (p : Int)) := by omega
      simp [cD, ixS_tup, ix0, ix2, eqS, e, e'])]
  simp [sumS, ints_of, sumI]
end K50

set_option Elab.async false
set_option linter.all false
set_option maxRecDepth 100000
set_option maxHeartbeats 4000000
namespace K50
open PySem PySem.Spec PyProof.Rows L2 Ev
theorem lt_pair (a b c d : Int) : PySem.W.dataLt (.tuple [.int a, .int b]) (.tuple [.int c, .int d]) = decide (a < c ∨ a = c ∧ b < d) := by
  rw [PySem.W.dataLt_tuple]
  by_cases h : a = c
  · subst h
    rw [PySem.W.dataLt_all_yes (by rfl) (by simp [PyData.eqv])]
    by_cases h2 : b = d
    · subst h2
      rw [PySem.W.dataLt_all_yes (by rfl) (by simp [PyData.eqv])]
      have : PyProof.Rows.lexLt PyProof.Rows.itemOrd (PySem.W.keyToksAll []) (PySem.W.keyToksAll []) = false := by
        simp only [PySem.W.keyToksAll]
        exact (PyProof.Rows.lex_self (O := PyProof.Rows.itemOrd) _ _ _).trans rfl
      rw [this]
      simp
    · rw [PySem.W.dataLt_all_no (by rfl) (by simp [PyData.eqv, h2]), PySem.W.dataLt_int]
      simp
  · rw [PySem.W.dataLt_all_no (by rfl) (by simp [PyData.eqv, h]), PySem.W.dataLt_int]
    simp [h]
theorem gtS_pair (a b c d : Int) : gtS (.tup [.int a, .int b]) (.tup [.int c, .int d]) = some (decide (c < a ∨ c = a ∧ d < b)) := by
  simp only [gtS, cmpS, D.py, D.pys]
  have h1 : PySem.W.alike (.tuple [.int a, .int b]) (.tuple [.int c, .int d]) = true := by simp [PySem.W.alike, PySem.W.alikeAll]
  have h2 : (PyData.tuple [.int a, .int b]).depth ≤ 60 := by simp [PyData.depth, PyData.depthAll]
  rw [h1]
  simp only [nnP, Bool.true_and, decide_eq_true h2, if_true, id, cond_true, lt_pair]
theorem order_ok (cs : List (Nat × Nat × Int)) (hl : cs.length ≤ 1000000) (m : Bag) : ∃ b : Bool, f_in_order [.lst (cs.map cD)] m = some (.val (.bl b), m) ∧ (b = true ↔ ∀ k x y, cs[k]? = some x → cs[k + 1]? = some y → lexLe x y) := by
  have hl1 : ((cs.length : Int) - 1 ≤ 1000000000) := by omega
  have hl2 : (-1000000000 ≤ (cs.length : Int) - 1) := by omega
  obtain ⟨o, h1, h2⟩ := forL_range (body := evSs l_in_order_1) (tg := .nm 1) (fun i sl m' => m' = m ∧ (∃ y1, sl = [.val (.lst (cs.map cD)), y1]) ∧ ∀ k x y, k < i → cs[k]? = some x → cs[k + 1]? = some y → lexLe x y) (fun _ _ => False)
    (fun r m' => m' = m ∧ r = .val (.bl false) ∧ ¬ ∀ k x y, cs[k]? = some x → cs[k + 1]? = some y → lexLe x y) (cs.length - 1) 0
    (fun i sl m' hi q => by
      obtain ⟨rfl, ⟨y1, rfl⟩, q⟩ := q
      have i1 : i < cs.length := by omega
      have i2 : i + 1 < cs.length := by omega
      obtain ⟨x, hx⟩ : ∃ p, cs[i]? = some p := ⟨cs[i], List.getElem?_eq_getElem i1⟩
      obtain ⟨y, hy⟩ : ∃ p, cs[i + 1]? = some p := ⟨cs[i + 1], List.getElem?_eq_getElem i2⟩
      have e0 : atI (cs.map cD) (i : Int) = some (cD x) := by rw [ixn, List.getElem?_map, hx]; rfl
      have e1 : atI (cs.map cD) ((i : Int) + 1) = some (cD y) := by
        have : ((i : Int) + 1) = ((i + 1 : Nat) : Int) := by omega
        rw [this, ixn, List.getElem?_map, hy]; rfl
      refine ⟨_, rfl, ?_⟩
      by_cases hc : (y.1 : Int) < x.1 ∨ (y.1 : Int) = x.1 ∧ (y.2.1 : Int) < x.2.1
      · have hg := gtS_pair x.1 x.2.1 y.1 y.2.1
        rw [decide_eq_true hc] at hg
        refine ⟨.rt (.val (.bl false)) m', ?_, rfl, rfl, fun z => ?_⟩
        · simp [evSs, evS, evs, evAnd, evOr, ev, evB, look, commit, R.d, R.kp, R.imm, R.sv, D.imm, D.imms, D.immC, setTg, setTs, bltR, binR, unR, ixR, tupR, lstR, dictTR, callR, slR, isiR, methR, lift, addS, subS, minS, maxS, modS, fdivS, mulS, negS, intS, wipeS, itList, itTup, itRng1, itRng2, mAppend, freeze, frz1, isnS, isnnS, l_in_order_1, ixS_lst, ixS_tup, e0, e1, cD, ix0, ix1, hg]
        · have := z i x y hx hy
          unfold lexLe at this
          omega
      · have hg := gtS_pair x.1 x.2.1 y.1 y.2.1
        rw [decide_eq_false hc] at hg
        refine ⟨.nx [.val (.lst (cs.map cD)), .val (.int (0 + (i : Int)))] m', ?_, rfl, ⟨_, rfl⟩, fun k x' y' hk hx' hy' => ?_⟩
        · simp [evSs, evS, evs, evAnd, evOr, ev, evB, look, commit, R.d, R.kp, R.imm, R.sv, D.imm, D.imms, D.immC, setTg, setTs, bltR, binR, unR, ixR, tupR, lstR, dictTR, callR, slR, isiR, methR, lift, addS, subS, minS, maxS, modS, fdivS, mulS, negS, intS, wipeS, itList, itTup, itRng1, itRng2, mAppend, freeze, frz1, isnS, isnnS, l_in_order_1, ixS_lst, ixS_tup, e0, e1, cD, ix0, ix1, hg]
        · rcases Nat.lt_or_ge k i with z | z
          · exact q k x' y' z hx' hy'
          · have : k = i := by omega
            subst this
            rw [hx] at hx'
            rw [hy] at hy'
            cases hx'; cases hy'
            unfold lexLe
            omega) [.val (.lst (cs.map cD)), .non] m ⟨rfl, ⟨_, rfl⟩, fun k _ _ hk => by omega⟩
  cases o with
  | rt r m' =>
    obtain ⟨rfl, rfl, h3⟩ := h2
    exact ⟨false, by simp [f_in_order, b_in_order, evF, evSs, evS, evs, evAnd, evOr, ev, evB, look, commit, R.d, R.kp, R.imm, R.sv, D.imm, D.imms, D.immC, setTg, setTs, bltR, binR, unR, ixR, tupR, lstR, dictTR, callR, slR, isiR, methR, lift, addS, subS, minS, maxS, modS, fdivS, mulS, negS, intS, wipeS, itList, itTup, itRng1, itRng2, mAppend, freeze, frz1, isnS, isnnS, lenS, hl1, hl2, h1], (fun z => by cases z), fun z => absurd z h3⟩
  | nx sl m' =>
    obtain ⟨rfl, ⟨y1, rfl⟩, h3⟩ := h2.resolve_right id
    refine ⟨true, by simp [f_in_order, b_in_order, evF, evSs, evS, evs, evAnd, evOr, ev, evB, look, commit, R.d, R.kp, R.imm, R.sv, D.imm, D.imms, D.immC, setTg, setTs, bltR, binR, unR, ixR, tupR, lstR, dictTR, callR, slR, isiR, methR, lift, addS, subS, minS, maxS, modS, fdivS, mulS, negS, intS, wipeS, itList, itTup, itRng1, itRng2, mAppend, freeze, frz1, isnS, isnnS, lenS, hl1, hl2, h1], by
      simp only [true_iff]
      intro k x y hx hy
      refine h3 k x y ?_ hx hy
      have : k + 1 < cs.length := by
        rcases Nat.lt_or_ge (k + 1) cs.length with z | z
        · exact z
        · rw [List.getElem?_eq_none z] at hy; cases hy
      omega⟩
  | bk _ _ => exact h2.elim
  | ct _ _ => exact h2.elim
end K50

set_option Elab.async false
set_option linter.all false
set_option maxRecDepth 100000
set_option maxHeartbeats 4000000
namespace K50
open PySem PySem.Spec PyProof.Rows L2 Ev
theorem compF {W : Type} {body : D → W → Option (Option D × W)} {m : W} {cs : List (Nat × Nat × Int)} (p : Nat × Nat × Int → Bool) (g : Nat × Nat × Int → D) (h : ∀ c ∈ cs, body (cD c) m = some (if p c then some (g c) else none, m)) :
    compL body (cs.map cD) m = some ((cs.filter p).map g, m) := compL_filter cD p g cs h
theorem filled_ok (c2 : Bool) (us : List (D × Int × Int)) (cs : List (Nat × Nat × Int)) (hu : us.length ≤ 1000000) (hl : cs.length ≤ 1000000) (m : Bag) : ∃ b : Bool, f_uses_filled [sqD c2 (us.map uD), .lst (cs.map cD)] m = some (.val (.bl b), m) ∧
    (b = true ↔ ∀ j u, us[j]? = some u → sumJ cs j = u.2.2) := by
  have hl' : cs.length ≤ 16777216 := by omega
  have hl1 : ((us.length : Int) ≤ 1000000000) := by omega
  obtain ⟨o, h1, h2⟩ := forL_range (body := evSs l_uses_filled_1) (tg := .nm 2) (fun i sl m' => m' = m ∧ (∃ y2 y3, sl = [.val (sqD c2 (us.map uD)), .val (.lst (cs.map cD)), y2, y3]) ∧ ∀ j u, j < i → us[j]? = some u → sumJ cs j = u.2.2) (fun _ _ => False)
    (fun r m' => m' = m ∧ r = .val (.bl false) ∧ ¬ ∀ j u, us[j]? = some u → sumJ cs j = u.2.2) us.length 0
    (fun i sl m' hi q => by
      obtain ⟨rfl, ⟨y2, y3, rfl⟩, q⟩ := q
      obtain ⟨u, hx⟩ : ∃ p, us[i]? = some p := ⟨us[i], List.getElem?_eq_getElem hi⟩
      have e0 : atI (us.map uD) (i : Int) = some (uD u) := by rw [ixn, List.getElem?_map, hx]; rfl
      have hb : ∀ body : D → Bag → Option (Option D × Bag), (∀ c ∈ cs, body (cD c) m' = some (if decide (c.2.1 = i) then some (D.int c.2.2) else none, m')) → compL body (cs.map cD) m' = some ((cs.filter fun c => decide (c.2.1 = i)).map (fun c => D.int c.2.2), m') := fun body h => compF _ _ h
      have hi2 : D.ints ((cs.filter fun c => decide (c.2.1 = i)).map (fun c => D.int c.2.2)) = some ((cs.filter fun c => decide (c.2.1 = i)).map (·.2.2)) := ints_of _ _
      have key : ∀ c ∈ cs, (eqS (D.int c.2.1) (.int i)) = some (decide (c.2.1 = i)) := fun c _ => by
        by_cases e : c.2.1 = i
        · simp [eqS, e]
        · have e' : ¬ ((c.2.1 : Int) = (i : Int)) := by omega
          simp [eqS, e, e']
      refine ⟨_, rfl, ?_⟩
      by_cases hc : sumJ cs i = u.2.2
      · have hn : neS (.int (sumJ cs i)) (.int u.2.2) = some false := by simp [neS, eqS, hc]
        simp only [sumJ] at hn
        refine ⟨.nx [.val (sqD c2 (us.map uD)), .val (.lst (cs.map cD)), .val (.int (0 + (i : Int))), y3] m', ?_, rfl, ⟨_, _, rfl⟩, fun k u' hk hu' => ?_⟩
        · simp [evSs, evS, evs, evAnd, evOr, ev, evB, look, commit, R.d, R.kp, R.imm, R.sv, D.imm, D.imms, D.immC, setTg, setTs, bltR, binR, unR, ixR, tupR, lstR, dictTR, callR, slR, isiR, methR, lift, addS, subS, minS, maxS, modS, fdivS, mulS, negS, intS, wipeS, itList, itTup, itRng1, itRng2, mAppend, freeze, frz1, isnS, isnnS, l_uses_filled_1, ixS_sq, ixS_tup, e0, hl']
          rw [hb _ (fun c hc => by simp [cD, ixS_tup, ix1, ix2, key c hc]; by_cases e : c.2.1 = i <;> simp [e])]
          simp [sumS, hi2, uD, ix2, ixS_tup, hn]
        · rcases Nat.lt_or_ge k i with z | z
          · exact q k u' z hu'
          · have : k = i := by omega
            subst this
            rw [hx] at hu'
            cases hu'
            exact hc
      · have hn : neS (.int (sumJ cs i)) (.int u.2.2) = some true := by simp [neS, eqS, hc]
        simp only [sumJ] at hn
        refine ⟨.rt (.val (.bl false)) m', ?_, rfl, rfl, fun z => hc (z i u hx)⟩
        simp [evSs, evS, evs, evAnd, evOr, ev, evB, look, commit, R.d, R.kp, R.imm, R.sv, D.imm, D.imms, D.immC, setTg, setTs, bltR, binR, unR, ixR, tupR, lstR, dictTR, callR, slR, isiR, methR, lift, addS, subS, minS, maxS, modS, fdivS, mulS, negS, intS, wipeS, itList, itTup, itRng1, itRng2, mAppend, freeze, frz1, isnS, isnnS, l_uses_filled_1, ixS_sq, ixS_tup, e0, hl']
        rw [hb _ (fun c hc => by simp [cD, ixS_tup, ix1, ix2, key c hc]; by_cases e : c.2.1 = i <;> simp [e])]
        simp [sumS, hi2, uD, ix2, ixS_tup, hn]) [.val (sqD c2 (us.map uD)), .val (.lst (cs.map cD)), .non, .non] m ⟨rfl, ⟨_, _, rfl⟩, fun k _ hk => by omega⟩
  cases o with
  | rt r m' =>
    obtain ⟨rfl, rfl, h3⟩ := h2
    exact ⟨false, by simp [f_uses_filled, b_uses_filled, evF, evSs, evS, evs, evAnd, evOr, ev, evB, look, commit, R.d, R.kp, R.imm, R.sv, D.imm, D.imms, D.immC, setTg, setTs, bltR, binR, unR, ixR, tupR, lstR, dictTR, callR, slR, isiR, methR, lift, addS, subS, minS, maxS, modS, fdivS, mulS, negS, intS, wipeS, itList, itTup, itRng1, itRng2, mAppend, freeze, frz1, isnS, isnnS, lenS_sq, hl1, h1], (fun z => by cases z), fun z => absurd z h3⟩
  | nx sl m' =>
    obtain ⟨rfl, ⟨y1, y2, rfl⟩, h3⟩ := h2.resolve_right id
    refine ⟨true, by simp [f_uses_filled, b_uses_filled, evF, evSs, evS, evs, evAnd, evOr, ev, evB, look, commit, R.d, R.kp, R.imm, R.sv, D.imm, D.imms, D.immC, setTg, setTs, bltR, binR, unR, ixR, tupR, lstR, dictTR, callR, slR, isiR, methR, lift, addS, subS, minS, maxS, modS, fdivS, mulS, negS, intS, wipeS, itList, itTup, itRng1, itRng2, mAppend, freeze, frz1, isnS, isnnS, lenS_sq, hl1, h1], fun _ j u hj => h3 j u ?_ hj, fun _ => rfl⟩
    rcases Nat.lt_or_ge j us.length with z | z
    · exact z
    · rw [List.getElem?_eq_none z] at hj; cases hj
  | bk _ _ => exact h2.elim
  | ct _ _ => exact h2.elim
theorem kept_ok (c1 : Bool) (gs : List (Int × Int × Int)) (cs : List (Nat × Nat × Int)) (hu : gs.length ≤ 1000000) (hl : cs.length ≤ 1000000) (m : Bag) : ∃ b : Bool, f_gifts_kept [sqD c1 (gs.map gD), .lst (cs.map cD)] m = some (.val (.bl b), m) ∧
    (b = true ↔ ∀ j u, gs[j]? = some u → sumI cs j ≤ u.2.2) := by
  have hl1 : ((gs.length : Int) ≤ 1000000000) := by omega
  obtain ⟨o, h1, h2⟩ := forL_range (body := evSs l_gifts_kept_1) (tg := .nm 2) (fun i sl m' => m' = m ∧ (∃ y2, sl = [.val (sqD c1 (gs.map gD)), .val (.lst (cs.map cD)), y2]) ∧ ∀ j u, j < i → gs[j]? = some u → sumI cs j ≤ u.2.2) (fun _ _ => False)
    (fun r m' => m' = m ∧ r = .val (.bl false) ∧ ¬ ∀ j u, gs[j]? = some u → sumI cs j ≤ u.2.2) gs.length 0
    (fun i sl m' hi q => by
      obtain ⟨rfl, ⟨y2, rfl⟩, q⟩ := q
      obtain ⟨u, hx⟩ : ∃ p, gs[i]? = some p := ⟨gs[i], List.getElem?_eq_getElem hi⟩
      have e0 : atI (gs.map gD) (i : Int) = some (gD u) := by rw [ixn, List.getElem?_map, hx]; rfl
      have hb := by_ok cs hl i m'
      refine ⟨_, rfl, ?_⟩
      by_cases hc : sumI cs i ≤ u.2.2
      · have hn : gtS (.int (sumI cs i)) (.int u.2.2) = some false := by simp [gtS, cmpS]; omega
        refine ⟨.nx [.val (sqD c1 (gs.map gD)), .val (.lst (cs.map cD)), .val (.int (0 + (i : Int)))] m', ?_, rfl, ⟨_, rfl⟩, fun k u' hk hu' => ?_⟩
        · simp [evSs, evS, evs, evAnd, evOr, ev, evB, look, commit, R.d, R.kp, R.imm, R.sv, D.imm, D.imms, D.immC, setTg, setTs, bltR, binR, unR, ixR, tupR, lstR, dictTR, callR, slR, isiR, methR, lift, addS, subS, minS, maxS, modS, fdivS, mulS, negS, intS, wipeS, itList, itTup, itRng1, itRng2, mAppend, freeze, frz1, isnS, isnnS, l_gifts_kept_1, ixS_sq, ixS_tup, e0, hb, gD, ix2, hn]
        · rcases Nat.lt_or_ge k i with z | z
          · exact q k u' z hu'
          · have : k = i := by omega
            subst this
            rw [hx] at hu'
            cases hu'
            exact hc
      · have hn : gtS (.int (sumI cs i)) (.int u.2.2) = some true := by simp [gtS, cmpS]; omega
        refine ⟨.rt (.val (.bl false)) m', ?_, rfl, rfl, fun z => hc (z i u hx)⟩
        simp [evSs, evS, evs, evAnd, evOr, ev, evB, look, commit, R.d, R.kp, R.imm, R.sv, D.imm, D.imms, D.immC, setTg, setTs, bltR, binR, unR, ixR, tupR, lstR, dictTR, callR, slR, isiR, methR, lift, addS, subS, minS, maxS, modS, fdivS, mulS, negS, intS, wipeS, itList, itTup, itRng1, itRng2, mAppend, freeze, frz1, isnS, isnnS, l_gifts_kept_1, ixS_sq, ixS_tup, e0, hb, gD, ix2, hn]) [.val (sqD c1 (gs.map gD)), .val (.lst (cs.map cD)), .non] m ⟨rfl, ⟨_, rfl⟩, fun k _ hk => by omega⟩
  cases o with
  | rt r m' =>
    obtain ⟨rfl, rfl, h3⟩ := h2
    exact ⟨false, by simp [f_gifts_kept, b_gifts_kept, evF, evSs, evS, evs, evAnd, evOr, ev, evB, look, commit, R.d, R.kp, R.imm, R.sv, D.imm, D.imms, D.immC, setTg, setTs, bltR, binR, unR, ixR, tupR, lstR, dictTR, callR, slR, isiR, methR, lift, addS, subS, minS, maxS, modS, fdivS, mulS, negS, intS, wipeS, itList, itTup, itRng1, itRng2, mAppend, freeze, frz1, isnS, isnnS, lenS_sq, hl1, h1], (fun z => by cases z), fun z => absurd z h3⟩
  | nx sl m' =>
    obtain ⟨rfl, ⟨y1, rfl⟩, h3⟩ := h2.resolve_right id
    refine ⟨true, by simp [f_gifts_kept, b_gifts_kept, evF, evSs, evS, evs, evAnd, evOr, ev, evB, look, commit, R.d, R.kp, R.imm, R.sv, D.imm, D.imms, D.immC, setTg, setTs, bltR, binR, unR, ixR, tupR, lstR, dictTR, callR, slR, isiR, methR, lift, addS, subS, minS, maxS, modS, fdivS, mulS, negS, intS, wipeS, itList, itTup, itRng1, itRng2, mAppend, freeze, frz1, isnS, isnnS, lenS_sq, hl1, h1], fun _ j u hj => h3 j u ?_ hj, fun _ => rfl⟩
    rcases Nat.lt_or_ge j gs.length with z | z
    · exact z
    · rw [List.getElem?_eq_none z] at hj; cases hj
  | bk _ _ => exact h2.elim
  | ct _ _ => exact h2.elim
theorem days_ok (c1 c2 : Bool) (gs : List (Int × Int × Int)) (us : List (D × Int × Int)) (cs : List (Nat × Nat × Int)) (hi : ∀ c ∈ cs, c.1 < gs.length ∧ c.2.1 < us.length) (m : Bag) : ∃ b : Bool, f_days_kept [sqD c1 (gs.map gD), sqD c2 (us.map uD), .lst (cs.map cD)] m = some (.val (.bl b), m) ∧
    (b = true ↔ ∀ c ∈ cs, DaysOk gs us c) := by
  obtain ⟨o, h1, h2⟩ := forL_rule (body := evSs l_days_kept_1) (tg := .nm 3) cD (fun as sl m' => m' = m ∧ (∃ y3, sl = [.val (sqD c1 (gs.map gD)), .val (sqD c2 (us.map uD)), .val (.lst (cs.map cD)), y3]) ∧ ∃ done, done ++ as = cs ∧ ∀ c ∈ done, DaysOk gs us c) (fun _ _ => False)
    (fun r m' => m' = m ∧ r = .val (.bl false) ∧ ¬ ∀ c ∈ cs, DaysOk gs us c)
    (fun a as sl m' q => by
      obtain ⟨rfl, ⟨y3, rfl⟩, done, q1, q2⟩ := q
      have ha : a ∈ cs := by rw [← q1]; simp
      obtain ⟨i1, i2⟩ := hi a ha
      obtain ⟨g, hg⟩ : ∃ p, gs[a.1]? = some p := ⟨gs[a.1], List.getElem?_eq_getElem i1⟩
      obtain ⟨u, hu⟩ : ∃ p, us[a.2.1]? = some p := ⟨us[a.2.1], List.getElem?_eq_getElem i2⟩
      have e0 : atI (gs.map gD) (a.1 : Int) = some (gD g) := by rw [ixn, List.getElem?_map, hg]; rfl
      have e1 : atI (us.map uD) (a.2.1 : Int) = some (uD u) := by rw [ixn, List.getElem?_map, hu]; rfl
      refine ⟨_, rfl, ?_⟩
      by_cases hc : u.2.1 < g.2.1
      · refine ⟨.rt (.val (.bl false)) m', ?_, rfl, rfl, fun z => ?_⟩
        · simp [evSs, evS, evs, evAnd, evOr, ev, evB, look, commit, R.d, R.kp, R.imm, R.sv, D.imm, D.imms, D.immC, setTg, setTs, bltR, binR, unR, ixR, tupR, lstR, dictTR, callR, slR, isiR, methR, lift, addS, subS, minS, maxS, modS, fdivS, mulS, negS, intS, wipeS, itList, itTup, itRng1, itRng2, mAppend, freeze, frz1, isnS, isnnS, l_days_kept_1, cD, ixS_sq, ixS_tup, ix0, ix1, e0, e1, gD, uD, ltS, cmpS, hc]
        · have := z a ha g u hg hu
          omega
      · refine ⟨.nx [.val (sqD c1 (gs.map gD)), .val (sqD c2 (us.map uD)), .val (.lst (cs.map cD)), .val (cD a)] m', ?_, rfl, ⟨_, rfl⟩, done ++ [a], by simpa using q1, fun c hc' => ?_⟩
        · simp [evSs, evS, evs, evAnd, evOr, ev, evB, look, commit, R.d, R.kp, R.imm, R.sv, D.imm, D.imms, D.immC, setTg, setTs, bltR, binR, unR, ixR, tupR, lstR, dictTR, callR, slR, isiR, methR, lift, addS, subS, minS, maxS, modS, fdivS, mulS, negS, intS, wipeS, itList, itTup, itRng1, itRng2, mAppend, freeze, frz1, isnS, isnnS, l_days_kept_1, cD, ixS_sq, ixS_tup, ix0, ix1, e0, e1, gD, uD, ltS, cmpS, hc]
        · rcases List.mem_append.mp hc' with z | z
          · exact q2 c z
          · simp at z
            subst z
            intro g' u' hg' hu'
            rw [hg] at hg'
            rw [hu] at hu'
            cases hg'; cases hu'
            omega) cs [.val (sqD c1 (gs.map gD)), .val (sqD c2 (us.map uD)), .val (.lst (cs.map cD)), .non] m ⟨rfl, ⟨_, rfl⟩, [], rfl, by simp⟩
  cases o with
  | rt r m' =>
    obtain ⟨rfl, rfl, h3⟩ := h2
    exact ⟨false, by simp [f_days_kept, b_days_kept, evF, evSs, evS, evs, evAnd, evOr, ev, evB, look, commit, R.d, R.kp, R.imm, R.sv, D.imm, D.imms, D.immC, setTg, setTs, bltR, binR, unR, ixR, tupR, lstR, dictTR, callR, slR, isiR, methR, lift, addS, subS, minS, maxS, modS, fdivS, mulS, negS, intS, wipeS, itList, itTup, itRng1, itRng2, mAppend, freeze, frz1, isnS, isnnS, h1], (fun z => by cases z), fun z => absurd z h3⟩
  | nx sl m' =>
    obtain ⟨rfl, ⟨y1, rfl⟩, done, q1, q2⟩ := h2.resolve_right id
    rw [List.append_nil] at q1
    subst q1
    exact ⟨true, by simp [f_days_kept, b_days_kept, evF, evSs, evS, evs, evAnd, evOr, ev, evB, look, commit, R.d, R.kp, R.imm, R.sv, D.imm, D.imms, D.immC, setTg, setTs, bltR, binR, unR, ixR, tupR, lstR, dictTR, callR, slR, isiR, methR, lift, addS, subS, minS, maxS, modS, fdivS, mulS, negS, intS, wipeS, itList, itTup, itRng1, itRng2, mAppend, freeze, frz1, isnS, isnnS, h1], fun _ => q2, fun _ => rfl⟩
  | bk _ _ => exact h2.elim
  | ct _ _ => exact h2.elim
end K50

set_option Elab.async false
set_option linter.all false
set_option maxRecDepth 100000
set_option maxHeartbeats 4000000
namespace K50
open PySem PySem.Spec PyProof.Rows L2 Ev
theorem min_none {l : List Int} (h : l.min? = none) : l = [] := List.min?_eq_none_iff.mp h
theorem max_some {l : List Int} {x : Int} (h : l.min? = some x) : ∃ y, l.max? = some y := by
  cases h2 : l.max? with
  | some y => exact ⟨y, rfl⟩
  | none => rw [List.max?_eq_none_iff] at h2; subst h2; cases h
theorem crosses_ok (c1 : Bool) (gs : List (Int × Int × Int)) (cs : List (Nat × Nat × Int)) (hu : gs.length ≤ 1000000) (hl : cs.length ≤ 1000000) (m : Bag) :
    f_nothing_crosses [sqD c1 (gs.map gD), .lst (cs.map cD)] m = some (.val (.bl (crossF cs gs 0 0 true)), m) := by
  obtain ⟨T, hT⟩ : ∃ T, crossF cs gs 0 0 true = T := ⟨_, rfl⟩
  rw [hT]
  have hl' : cs.length ≤ 16777216 := by omega
  have hl1 : ((gs.length : Int) ≤ 1000000000) := by omega
  obtain ⟨o, h1, h2⟩ := forL_range (body := evSs l_nothing_crosses_1) (tg := .nm 4) (fun i sl m' => m' = m ∧ ∃ latest spent y4 y5 y6, sl = [.val (sqD c1 (gs.map gD)), .val (.lst (cs.map cD)), .val (.int latest), .val (.bl spent), y4, y5, y6] ∧ crossF cs (gs.drop i) i latest spent = T) (fun _ _ => False)
    (fun r m' => m' = m ∧ r = .val (.bl false) ∧ T = false) gs.length 0
    (fun i sl m' hi q => by
      obtain ⟨rfl, latest, spent, y4, y5, y6, rfl, q⟩ := q
      obtain ⟨u, hx⟩ : ∃ p, gs[i]? = some p := ⟨gs[i], List.getElem?_eq_getElem hi⟩
      have hd : gs.drop i = u :: gs.drop (i + 1) := by
        rw [List.drop_eq_getElem_cons hi]
        congr 1
        have := List.getElem?_eq_getElem hi
        rw [this] at hx
        exact Option.some.inj hx
      rw [hd] at q
      unfold crossF at q
      have e0 : atI (gs.map gD) (i : Int) = some (gD u) := by rw [ixn, List.getElem?_map, hx]; rfl
      have hby := by_ok cs hl i m'
      have hb : ∀ body : D → Bag → Option (Option D × Bag), (∀ c ∈ cs, body (cD c) m' = some (if decide (c.1 = i) then some (D.int c.2.1) else none, m')) → compL body (cs.map cD) m' = some ((cs.filter fun c => decide (c.1 = i)).map (fun c => D.int c.2.1), m') := fun body h => compF _ _ h
      have hi2 : D.ints ((cs.filter fun c => decide (c.1 = i)).map (fun c => D.int c.2.1)) = some (jsOf cs i) := ints_of _ _
      have hlen : (cs.filter fun c => decide (c.1 = i)).length = (jsOf cs i).length := by simp [jsOf]
      have key : ∀ c ∈ cs, (eqS (D.int c.1) (.int i)) = some (decide (c.1 = i)) := fun c _ => by
        by_cases e : c.1 = i
        · simp [eqS, e]
        · have e' : ¬ ((c.1 : Int) = (i : Int)) := by omega
          simp [eqS, e, e']
      have step : ∀ (c : D), (∀ c ∈ cs, ∃ z, (match eqS (D.int c.1) (.int i) with | some k => some (R.val (.bl k), m') | none => none) = some (z, m')) := fun _ c hc => ⟨_, by rw [key c hc]⟩
      have hlt : ltS (.int (sumI cs i)) (.int u.2.2) = some (decide (sumI cs i < u.2.2)) := rfl
      refine ⟨_, rfl, ?_⟩
      cases hmin : (jsOf cs i).min? with
      | none =>
        have hnil := min_none hmin
        have hgt : gtS (.int ((jsOf cs i).length : Int)) (.int 0) = some false := by simp [gtS, cmpS, hnil]
        rw [hmin] at q
        simp only at q
        cases hs : decide (sumI cs i < u.2.2) with
        | true =>
          rw [hs] at q hlt
          refine ⟨.nx [.val (sqD c1 (gs.map gD)), .val (.lst (cs.map cD)), .val (.int latest), .val (.bl false), .val (.int (0 + (i : Int))), .val (.lst ((cs.filter fun c => decide (c.1 = i)).map (fun c => D.int c.2.1))), y6] m', ?_, rfl, _, _, _, _, _, rfl, by simpa using q⟩
          simp [evSs, evS, evs, evAnd, evOr, ev, evB, look, commit, R.d, R.kp, R.imm, R.sv, D.imm, D.imms, D.immC, setTg, setTs, bltR, binR, unR, ixR, tupR, lstR, dictTR, callR, slR, isiR, methR, lift, addS, subS, minS, maxS, modS, fdivS, mulS, negS, intS, wipeS, itList, itTup, itRng1, itRng2, mAppend, freeze, frz1, isnS, isnnS, l_nothing_crosses_1, hl']
          rw [hb _ (fun c hc => by simp [cD, ixS_tup, ix0, ix1, key c hc]; by_cases e : c.1 = i <;> simp [e])]
          simp [lenS, hlen, hgt, hby, ixS_sq, ixS_tup, e0, gD, ix2, hlt]
        | false =>
          rw [hs] at q hlt
          refine ⟨.nx [.val (sqD c1 (gs.map gD)), .val (.lst (cs.map cD)), .val (.int latest), .val (.bl spent), .val (.int (0 + (i : Int))), .val (.lst ((cs.filter fun c => decide (c.1 = i)).map (fun c => D.int c.2.1))), y6] m', ?_, rfl, _, _, _, _, _, rfl, by simpa using q⟩
          simp [evSs, evS, evs, evAnd, evOr, ev, evB, look, commit, R.d, R.kp, R.imm, R.sv, D.imm, D.imms, D.immC, setTg, setTs, bltR, binR, unR, ixR, tupR, lstR, dictTR, callR, slR, isiR, methR, lift, addS, subS, minS, maxS, modS, fdivS, mulS, negS, intS, wipeS, itList, itTup, itRng1, itRng2, mAppend, freeze, frz1, isnS, isnnS, l_nothing_crosses_1, hl']
          rw [hb _ (fun c hc => by simp [cD, ixS_tup, ix0, ix1, key c hc]; by_cases e : c.1 = i <;> simp [e])]
          simp [lenS, hlen, hgt, hby, ixS_sq, ixS_tup, e0, gD, ix2, hlt]
      | some lo =>
        obtain ⟨hiv, hmax⟩ := max_some hmin
        have hpos : 0 < (jsOf cs i).length := by
          rcases Nat.eq_zero_or_pos (jsOf cs i).length with z | z
          · rw [List.length_eq_zero_iff] at z; rw [z] at hmin; cases hmin
          · exact z
        have hgt : gtS (.int ((jsOf cs i).length : Int)) (.int 0) = some true := by simp [gtS, cmpS]; omega
        have hl2 : ltS (.int lo) (.int latest) = some (decide (lo < latest)) := rfl
        rw [hmin, hmax] at q
        simp only at q
        cases spent with
        | false =>
          refine ⟨.rt (.val (.bl false)) m', ?_, rfl, rfl, by simpa using q.symm⟩
          simp [evSs, evS, evs, evAnd, evOr, ev, evB, look, commit, R.d, R.kp, R.imm, R.sv, D.imm, D.imms, D.immC, setTg, setTs, bltR, binR, unR, ixR, tupR, lstR, dictTR, callR, slR, isiR, methR, lift, addS, subS, minS, maxS, modS, fdivS, mulS, negS, intS, wipeS, itList, itTup, itRng1, itRng2, mAppend, freeze, frz1, isnS, isnnS, l_nothing_crosses_1, hl']
          rw [hb _ (fun c hc => by simp [cD, ixS_tup, ix0, ix1, key c hc]; by_cases e : c.1 = i <;> simp [e])]
          simp [lenS, hlen, hgt, hby, ixS_sq, ixS_tup, e0, gD, ix2, hlt]
        | true =>
          cases hb2 : decide (lo < latest) with
          | true =>
            rw [hb2] at q hl2
            refine ⟨.rt (.val (.bl false)) m', ?_, rfl, rfl, by simpa using q.symm⟩
            simp [evSs, evS, evs, evAnd, evOr, ev, evB, look, commit, R.d, R.kp, R.imm, R.sv, D.imm, D.imms, D.immC, setTg, setTs, bltR, binR, unR, ixR, tupR, lstR, dictTR, callR, slR, isiR, methR, lift, addS, subS, minS, maxS, modS, fdivS, mulS, negS, intS, wipeS, itList, itTup, itRng1, itRng2, mAppend, freeze, frz1, isnS, isnnS, l_nothing_crosses_1, hl']
            rw [hb _ (fun c hc => by simp [cD, ixS_tup, ix0, ix1, key c hc]; by_cases e : c.1 = i <;> simp [e])]
            simp [lenS, hlen, hgt, hby, ixS_sq, ixS_tup, e0, gD, ix2, hlt, hi2, hmin, hl2]
          | false =>
            rw [hb2] at q hl2
            cases hs : decide (sumI cs i < u.2.2) with
            | true =>
              rw [hs] at q hlt
              refine ⟨.nx [.val (sqD c1 (gs.map gD)), .val (.lst (cs.map cD)), .val (.int hiv), .val (.bl false), .val (.int (0 + (i : Int))), .val (.lst ((cs.filter fun c => decide (c.1 = i)).map (fun c => D.int c.2.1))), y6] m', ?_, rfl, _, _, _, _, _, rfl, by simpa using q⟩
              simp [evSs, evS, evs, evAnd, evOr, ev, evB, look, commit, R.d, R.kp, R.imm, R.sv, D.imm, D.imms, D.immC, setTg, setTs, bltR, binR, unR, ixR, tupR, lstR, dictTR, callR, slR, isiR, methR, lift, addS, subS, minS, maxS, modS, fdivS, mulS, negS, intS, wipeS, itList, itTup, itRng1, itRng2, mAppend, freeze, frz1, isnS, isnnS, l_nothing_crosses_1, hl']
              rw [hb _ (fun c hc => by simp [cD, ixS_tup, ix0, ix1, key c hc]; by_cases e : c.1 = i <;> simp [e])]
              simp [lenS, hlen, hgt, hby, ixS_sq, ixS_tup, e0, gD, ix2, hlt, hi2, hmin, hl2, hmax]
            | false =>
              rw [hs] at q hlt
              refine ⟨.nx [.val (sqD c1 (gs.map gD)), .val (.lst (cs.map cD)), .val (.int hiv), .val (.bl true), .val (.int (0 + (i : Int))), .val (.lst ((cs.filter fun c => decide (c.1 = i)).map (fun c => D.int c.2.1))), y6] m', ?_, rfl, _, _, _, _, _, rfl, by simpa using q⟩
              simp [evSs, evS, evs, evAnd, evOr, ev, evB, look, commit, R.d, R.kp, R.imm, R.sv, D.imm, D.imms, D.immC, setTg, setTs, bltR, binR, unR, ixR, tupR, lstR, dictTR, callR, slR, isiR, methR, lift, addS, subS, minS, maxS, modS, fdivS, mulS, negS, intS, wipeS, itList, itTup, itRng1, itRng2, mAppend, freeze, frz1, isnS, isnnS, l_nothing_crosses_1, hl']
              rw [hb _ (fun c hc => by simp [cD, ixS_tup, ix0, ix1, key c hc]; by_cases e : c.1 = i <;> simp [e])]
              simp [lenS, hlen, hgt, hby, ixS_sq, ixS_tup, e0, gD, ix2, hlt, hi2, hmin, hl2, hmax]) [.val (sqD c1 (gs.map gD)), .val (.lst (cs.map cD)), .val (.int 0), .val (.bl true), .non, .non, .non] m ⟨rfl, _, _, _, _, _, rfl, hT⟩
  cases o with
  | rt r m' =>
    obtain ⟨rfl, rfl, h3⟩ := h2
    rw [h3]
    simp [f_nothing_crosses, b_nothing_crosses, evF, evSs, evS, evs, evAnd, evOr, ev, evB, look, commit, R.d, R.kp, R.imm, R.sv, D.imm, D.imms, D.immC, setTg, setTs, bltR, binR, unR, ixR, tupR, lstR, dictTR, callR, slR, isiR, methR, lift, addS, subS, minS, maxS, modS, fdivS, mulS, negS, intS, wipeS, itList, itTup, itRng1, itRng2, mAppend, freeze, frz1, isnS, isnnS, lenS_sq, hl1, h1]
  | nx sl m' =>
    obtain ⟨rfl, latest, spent, y4, y5, y6, rfl, q⟩ := h2.resolve_right id
    have : crossF cs (gs.drop gs.length) gs.length latest spent = true := by rw [List.drop_length]; rfl
    rw [this] at q
    rw [← q]
    simp [f_nothing_crosses, b_nothing_crosses, evF, evSs, evS, evs, evAnd, evOr, ev, evB, look, commit, R.d, R.kp, R.imm, R.sv, D.imm, D.imms, D.immC, setTg, setTs, bltR, binR, unR, ixR, tupR, lstR, dictTR, callR, slR, isiR, methR, lift, addS, subS, minS, maxS, modS, fdivS, mulS, negS, intS, wipeS, itList, itTup, itRng1, itRng2, mAppend, freeze, frz1, isnS, isnnS, lenS_sq, hl1, h1]
  | bk _ _ => exact h2.elim
  | ct _ _ => exact h2.elim
theorem cells_len {gs : List (Int × Int × Int)} {us : List (D × Int × Int)} {rs : List (Int × D × Int)} {cs : List (Nat × Nat × Int)} (h : CellsOf gs us rs cs) : cs.length = rs.length ∧ ∀ c ∈ cs, c.1 < gs.length ∧ c.2.1 < us.length := by
  induction h with
  | nil => simp
  | snoc h hc ih =>
    refine ⟨by simp [ih.1], fun c hm => ?_⟩
    rcases List.mem_append.mp hm with z | z
    · exact ih.2 c z
    · simp at z
      subst z
      obtain ⟨⟨g, e1, _⟩, ⟨u, e2, _⟩, _⟩ := hc
      constructor
      · rcases Nat.lt_or_ge c.1 gs.length with z | z
        · exact z
        · rw [List.getElem?_eq_none z] at e1; cases e1
      · rcases Nat.lt_or_ge c.2.1 us.length with z | z
        · exact z
        · rw [List.getElem?_eq_none z] at e2; cases e2
theorem trace_ok (c1 c2 : Bool) (gs : List (Int × Int × Int)) (us : List (D × Int × Int)) (rs : List (Int × D × Int)) (hg : gs.length ≤ 1000000) (hu : us.length ≤ 1000000) (hr : rs.length ≤ 1000000) (hk : ∀ u ∈ us, KeyOk u.1) (hx : ∀ r ∈ rs, KeyR r.2.1) (m : Bag) :
    ∃ b : Bool, f_is_trace [sqD c1 (gs.map gD), sqD c2 (us.map uD), .lst (rs.map rD)] m = some (.val (.bl b), m) ∧ ((∃ cs, CellsOf gs us rs cs ∧ (b = true ↔ TraceOk gs us cs)) ∨ (b = false ∧ ∃ r ∈ rs, ∀ c, ¬ CellOf gs us r c)) := by
  rcases cells_ok c1 c2 gs us rs hg hu hr hk hx m with ⟨cs, h1, h2⟩ | ⟨h1, h2⟩
  · obtain ⟨hlen, hin⟩ := cells_len h2
    have hl : cs.length ≤ 1000000 := by omega
    obtain ⟨b1, e1, f1⟩ := once_ok cs hl m
    obtain ⟨b2, e2, f2⟩ := order_ok cs hl m
    obtain ⟨b3, e3, f3⟩ := filled_ok c2 us cs hu hl m
    obtain ⟨b4, e4, f4⟩ := kept_ok c1 gs cs hg hl m
    obtain ⟨b5, e5, f5⟩ := days_ok c1 c2 gs us cs hin m
    have e6 := crosses_ok c1 gs cs hg hl m
    refine ⟨b1 && (b2 && (b3 && (b4 && (b5 && crossF cs gs 0 0 true)))), ?_, .inl ⟨cs, h2, ?_⟩⟩
    · generalize crossF cs gs 0 0 true = b6 at e6
      cases b1
      · simp [f_is_trace, b_is_trace, evF, evSs, evS, evs, evAnd, evOr, ev, evB, look, commit, R.d, R.kp, R.imm, R.sv, D.imm, D.imms, D.immC, setTg, setTs, bltR, binR, unR, ixR, tupR, lstR, dictTR, callR, slR, isiR, methR, lift, addS, subS, minS, maxS, modS, fdivS, mulS, negS, intS, wipeS, itList, itTup, itRng1, itRng2, mAppend, freeze, frz1, isnS, isnnS, h1, e1]
      cases b2
      · simp [f_is_trace, b_is_trace, evF, evSs, evS, evs, evAnd, evOr, ev, evB, look, commit, R.d, R.kp, R.imm, R.sv, D.imm, D.imms, D.immC, setTg, setTs, bltR, binR, unR, ixR, tupR, lstR, dictTR, callR, slR, isiR, methR, lift, addS, subS, minS, maxS, modS, fdivS, mulS, negS, intS, wipeS, itList, itTup, itRng1, itRng2, mAppend, freeze, frz1, isnS, isnnS, h1, e1, e2]
      cases b3
      · simp [f_is_trace, b_is_trace, evF, evSs, evS, evs, evAnd, evOr, ev, evB, look, commit, R.d, R.kp, R.imm, R.sv, D.imm, D.imms, D.immC, setTg, setTs, bltR, binR, unR, ixR, tupR, lstR, dictTR, callR, slR, isiR, methR, lift, addS, subS, minS, maxS, modS, fdivS, mulS, negS, intS, wipeS, itList, itTup, itRng1, itRng2, mAppend, freeze, frz1, isnS, isnnS, h1, e1, e2, e3]
      cases b4
      · simp [f_is_trace, b_is_trace, evF, evSs, evS, evs, evAnd, evOr, ev, evB, look, commit, R.d, R.kp, R.imm, R.sv, D.imm, D.imms, D.immC, setTg, setTs, bltR, binR, unR, ixR, tupR, lstR, dictTR, callR, slR, isiR, methR, lift, addS, subS, minS, maxS, modS, fdivS, mulS, negS, intS, wipeS, itList, itTup, itRng1, itRng2, mAppend, freeze, frz1, isnS, isnnS, h1, e1, e2, e3, e4]
      cases b5
      · simp [f_is_trace, b_is_trace, evF, evSs, evS, evs, evAnd, evOr, ev, evB, look, commit, R.d, R.kp, R.imm, R.sv, D.imm, D.imms, D.immC, setTg, setTs, bltR, binR, unR, ixR, tupR, lstR, dictTR, callR, slR, isiR, methR, lift, addS, subS, minS, maxS, modS, fdivS, mulS, negS, intS, wipeS, itList, itTup, itRng1, itRng2, mAppend, freeze, frz1, isnS, isnnS, h1, e1, e2, e3, e4, e5]
      cases b6 <;> simp [f_is_trace, b_is_trace, evF, evSs, evS, evs, evAnd, evOr, ev, evB, look, commit, R.d, R.kp, R.imm, R.sv, D.imm, D.imms, D.immC, setTg, setTs, bltR, binR, unR, ixR, tupR, lstR, dictTR, callR, slR, isiR, methR, lift, addS, subS, minS, maxS, modS, fdivS, mulS, negS, intS, wipeS, itList, itTup, itRng1, itRng2, mAppend, freeze, frz1, isnS, isnnS, h1, e1, e2, e3, e4, e5, e6]
    · simp only [Bool.and_eq_true, f1, f2, f3, f4, f5, TraceOk]
  · exact ⟨false, by simp [f_is_trace, b_is_trace, evF, evSs, evS, evs, evAnd, evOr, ev, evB, look, commit, R.d, R.kp, R.imm, R.sv, D.imm, D.imms, D.immC, setTg, setTs, bltR, binR, unR, ixR, tupR, lstR, dictTR, callR, slR, isiR, methR, lift, addS, subS, minS, maxS, modS, fdivS, mulS, negS, intS, wipeS, itList, itTup, itRng1, itRng2, mAppend, freeze, frz1, isnS, isnnS, h1], .inr ⟨rfl, h2⟩⟩
end K50

set_option Elab.async false
set_option linter.all false
set_option maxRecDepth 100000
set_option maxHeartbeats 4000000
namespace K50
open PySem PySem.Spec PyProof.Rows L2 Ev
theorem come_ok (gs : List (Int × Int × Int)) (hl : gs.length ≤ 1000000) (d : Int) (m : Bag) : f__law_come [.lst (gs.map gD), .int d] m = some (.val (.int (comeF gs d)), m) := by
  have hl' : gs.length ≤ 16777216 := by omega
  have hc : ∀ (body : D → Bag → Option (Option D × Bag)), (∀ g ∈ gs, body (gD g) m = some (if decide (g.2.1 ≤ d) then some (D.int g.2.2) else none, m)) → compL body (gs.map gD) m = some ((gs.filter fun g => decide (g.2.1 ≤ d)).map (fun g => D.int g.2.2), m) := fun body h => compL_filter gD _ _ gs h
  simp only [f__law_come, b__law_come, evF]
  simp [evSs, evS, evs, evAnd, evOr, ev, evB, look, commit, R.d, R.kp, R.imm, R.sv, D.imm, D.imms, D.immC, setTg, setTs, bltR, binR, unR, ixR, tupR, lstR, dictTR, callR, slR, isiR, methR, lift, addS, subS, minS, maxS, modS, fdivS, mulS, negS, intS, wipeS, itList, itTup, itRng1, itRng2, mAppend, freeze, frz1, isnS, isnnS, hl']
  rw [hc _ (fun g hg => by
    by_cases e : g.2.1 ≤ d
    · simp [gD, ixS_tup, ix1, ix2, leS, cmpS, e]
    · simp [gD, ixS_tup, ix1, ix2, leS, cmpS, e])]
  simp [sumS, ints_of, comeF]
theorem sumU_succ {us : List (D × Int × Int)} {k : Nat} {u : D × Int × Int} (h : us[k]? = some u) : sumU us (k + 1) = sumU us k + u.2.2 := by
  unfold sumU
  exact pre_succ (by rw [List.getElem?_map, h]; rfl)
theorem sumG_succ {gs : List (Int × Int × Int)} {k : Nat} {u : Int × Int × Int} (h : gs[k]? = some u) : sumG gs (k + 1) = sumG gs k + u.2.2 := by
  unfold sumG
  exact pre_succ (by rw [List.getElem?_map, h]; rfl)
theorem outrun_ok (gs : List (Int × Int × Int)) (us : List (D × Int × Int)) (hg : gs.length ≤ 1000000) (hu : us.length ≤ 1000000) (m : Bag) : ∃ o : Option Nat, f__law_outrun [.lst (gs.map gD), .lst (us.map uD)] m = some (.val (optD o), m) ∧ (o = none ↔ NoOutrun gs us) := by
  have hl1 : ((us.length : Int) ≤ 1000000000) := by omega
  obtain ⟨o, h1, h2⟩ := forL_range (body := evSs l__law_outrun_1) (tg := .nm 3) (fun i sl m' => m' = m ∧ (∃ y3, sl = [.val (.lst (gs.map gD)), .val (.lst (us.map uD)), .val (.int (sumU us i)), y3]) ∧ ∀ k u, k < i → us[k]? = some u → sumU us (k + 1) ≤ comeF gs u.2.1) (fun _ _ => False)
    (fun r m' => m' = m ∧ ∃ i : Nat, r = .val (.int i) ∧ ¬ NoOutrun gs us) us.length 0
    (fun i sl m' hi q => by
      obtain ⟨rfl, ⟨y3, rfl⟩, q⟩ := q
      obtain ⟨u, hx⟩ : ∃ p, us[i]? = some p := ⟨us[i], List.getElem?_eq_getElem hi⟩
      have e0 : atI (us.map uD) (i : Int) = some (uD u) := by rw [ixn, List.getElem?_map, hx]; rfl
      have hb := come_ok gs hg u.2.1 m'
      have hs := sumU_succ hx
      refine ⟨_, rfl, ?_⟩
      by_cases hc : sumU us (i + 1) ≤ comeF gs u.2.1
      · have hn : gtS (.int (sumU us i + u.2.2)) (.int (comeF gs u.2.1)) = some false := by rw [← hs]; simp [gtS, cmpS]; omega
        refine ⟨.nx [.val (.lst (gs.map gD)), .val (.lst (us.map uD)), .val (.int (sumU us (i + 1))), .val (.int (0 + (i : Int)))] m', ?_, rfl, ⟨_, rfl⟩, fun k u' hk hu' => ?_⟩
        · rw [hs]
          simp [evSs, evS, evs, evAnd, evOr, ev, evB, look, commit, R.d, R.kp, R.imm, R.sv, D.imm, D.imms, D.immC, setTg, setTs, bltR, binR, unR, ixR, tupR, lstR, dictTR, callR, slR, isiR, methR, lift, addS, subS, minS, maxS, modS, fdivS, mulS, negS, intS, wipeS, itList, itTup, itRng1, itRng2, mAppend, freeze, frz1, isnS, isnnS, l__law_outrun_1, ixS_lst, ixS_tup, e0, uD, ix1, ix2, hb, hn]
        · rcases Nat.lt_or_ge k i with z | z
          · exact q k u' z hu'
          · have : k = i := by omega
            subst this
            rw [hx] at hu'
            cases hu'
            exact hc
      · have hn : gtS (.int (sumU us i + u.2.2)) (.int (comeF gs u.2.1)) = some true := by rw [← hs]; simp [gtS, cmpS]; omega
        refine ⟨.rt (.val (.int i)) m', ?_, rfl, i, rfl, fun z => hc (z i u hx)⟩
        simp [evSs, evS, evs, evAnd, evOr, ev, evB, look, commit, R.d, R.kp, R.imm, R.sv, D.imm, D.imms, D.immC, setTg, setTs, bltR, binR, unR, ixR, tupR, lstR, dictTR, callR, slR, isiR, methR, lift, addS, subS, minS, maxS, modS, fdivS, mulS, negS, intS, wipeS, itList, itTup, itRng1, itRng2, mAppend, freeze, frz1, isnS, isnnS, l__law_outrun_1, ixS_lst, ixS_tup, e0, uD, ix1, ix2, hb, hn]) [.val (.lst (gs.map gD)), .val (.lst (us.map uD)), .val (.int 0), .non] m ⟨rfl, ⟨_, by simp [sumU, pre]; rfl⟩, fun k _ hk => by omega⟩
  cases o with
  | rt r m' =>
    obtain ⟨rfl, i, rfl, h3⟩ := h2
    exact ⟨some i, by simp [f__law_outrun, b__law_outrun, evF, evSs, evS, evs, evAnd, evOr, ev, evB, look, commit, R.d, R.kp, R.imm, R.sv, D.imm, D.imms, D.immC, setTg, setTs, bltR, binR, unR, ixR, tupR, lstR, dictTR, callR, slR, isiR, methR, lift, addS, subS, minS, maxS, modS, fdivS, mulS, negS, intS, wipeS, itList, itTup, itRng1, itRng2, mAppend, freeze, frz1, isnS, isnnS, lenS, hl1, h1, optD], (fun z => by cases z), fun z => absurd z h3⟩
  | nx sl m' =>
    obtain ⟨rfl, ⟨y1, rfl⟩, h3⟩ := h2.resolve_right id
    refine ⟨none, by simp [f__law_outrun, b__law_outrun, evF, evSs, evS, evs, evAnd, evOr, ev, evB, look, commit, R.d, R.kp, R.imm, R.sv, D.imm, D.imms, D.immC, setTg, setTs, bltR, binR, unR, ixR, tupR, lstR, dictTR, callR, slR, isiR, methR, lift, addS, subS, minS, maxS, modS, fdivS, mulS, negS, intS, wipeS, itList, itTup, itRng1, itRng2, mAppend, freeze, frz1, isnS, isnnS, lenS, hl1, h1, optD], fun _ j u hj => h3 j u ?_ hj, fun _ => rfl⟩
    rcases Nat.lt_or_ge j us.length with z | z
    · exact z
    · rw [List.getElem?_eq_none z] at hj; cases hj
  | bk _ _ => exact h2.elim
  | ct _ _ => exact h2.elim
/-! the table -/
def tabL (n k : Nat) (t : Nat → Nat → Int) : List (List Int) := (List.range n).map fun i => (List.range k).map fun j => t i j
def tabD (n k : Nat) (t : Nat → Nat → Int) : List D := (tabL n k t).map fun r => .lst (r.map .int)
theorem rowF_eq (a c : Int) : ∀ (us : List (D × Int × Int)) (b : Int), rowF a c b us = (List.range us.length).map fun j => max 0 (min (a + c) (b + sumU us (j + 1)) - max a (b + sumU us j))
  | [], b => rfl
  | u :: us, b => by
    rw [rowF, rowF_eq a c us (b + u.2.2), List.length_cons, List.range_succ_eq_map, List.map_cons, List.map_map]
    have h0 : sumU (u :: us) 0 = 0 := rfl
    have h1 : ∀ j, sumU (u :: us) (j + 1) = u.2.2 + sumU us j := fun j => by simp [sumU, pre]
    congr 1
    · rw [h1, h0]
      have : sumU us 0 = 0 := rfl
      rw [this]
      congr 2 <;> omega
    · refine List.map_congr_left fun j _ => ?_
      simp only [Function.comp, Nat.succ_eq_add_one]
      rw [h1, h1]
      congr 2 <;> omega
theorem table_step (gs : List (Int × Int × Int)) (us : List (D × Int × Int)) (hu : us.length ≤ 1000000) (a0 : SV) (tab : List D) (ht : tab.length ≤ 1000000) (ahead : Int) (g : Int × Int × Int) (y5 y6 y7 : SV) (m : Bag) : ∃ z6 z7,
    evSs l__law_table_2 [a0, .val (.lst (us.map uD)), .own (.lst tab), .val (.int ahead), .val (gD g), y5, y6, y7] m =
      some (.nx [a0, .val (.lst (us.map uD)), .own (.lst (tab ++ [.lst ((rowF ahead g.2.2 0 us).map .int)])), .val (.int (ahead + g.2.2)), .val (gD g), .val (.lst ((rowF ahead g.2.2 0 us).map .int)), z6, z7] m) := by
  obtain ⟨z6, z7, h⟩ := row_loop ahead g a0 (.val (.lst (us.map uD))) (.own (.lst tab)) m us (by omega) y7
  have ht' : tab.length < 16777216 := by omega
  refine ⟨z6, z7, ?_⟩
  simp only [gD] at h
  simp [evSs, evS, evs, evAnd, evOr, ev, evB, look, commit, R.d, R.kp, R.imm, R.sv, D.imm, D.imms, D.immC, setTg, setTs, bltR, binR, unR, ixR, tupR, lstR, dictTR, callR, slR, isiR, methR, lift, addS, subS, minS, maxS, modS, fdivS, mulS, negS, intS, wipeS, itList, itTup, itRng1, itRng2, mAppend, freeze, frz1, isnS, isnnS, l__law_table_2, h, ht', gD, ixS_tup, ix2]
theorem rowF_lap (gs : List (Int × Int × Int)) (us : List (D × Int × Int)) {i : Nat} {g : Int × Int × Int} (h : gs[i]? = some g) : rowF (sumG gs i) g.2.2 0 us = (List.range us.length).map fun j => lapF gs us i j := by
  rw [rowF_eq]
  refine List.map_congr_left fun j _ => ?_
  have : lapF gs us i j = max 0 (min (sumG gs (i + 1)) (sumU us (j + 1)) - max (sumG gs i) (sumU us j)) := rfl
  rw [this, sumG_succ h]
  simp
theorem tabD_succ (i k : Nat) (t : Nat → Nat → Int) : tabD (i + 1) k t = tabD i k t ++ [.lst (((List.range k).map fun j => t i j).map .int)] := by
  simp [tabD, tabL, List.range_succ]
theorem table_ok (gs : List (Int × Int × Int)) (us : List (D × Int × Int)) (hg : gs.length ≤ 1000000) (hu : us.length ≤ 1000000) (m : Bag) : f__law_table [.lst (gs.map gD), .lst (us.map uD)] m = some (.own (.lst (tabD gs.length us.length (lapF gs us))), m) := by
  obtain ⟨o, h1, h2⟩ := forL_rule (body := evSs l__law_table_2) (tg := .nm 4) gD (fun as sl m' => m' = m ∧ ∃ i y4 y5 y6 y7, as = gs.drop i ∧ i ≤ gs.length ∧ sl = [.val (.lst (gs.map gD)), .val (.lst (us.map uD)), .own (.lst (tabD i us.length (lapF gs us))), .val (.int (sumG gs i)), y4, y5, y6, y7]) (fun _ _ => False) (fun _ _ => False)
    (fun a as sl m' q => by
      obtain ⟨rfl, i, y4, y5, y6, y7, q1, q2, rfl⟩ := q
      have hi : i < gs.length := by
        rcases Nat.lt_or_ge i gs.length with z | z
        · exact z
        · rw [List.drop_of_length_le z] at q1; cases q1
      rw [List.drop_eq_getElem_cons hi] at q1
      injection q1 with e1 e2
      have hx : gs[i]? = some a := by rw [e1]; exact List.getElem?_eq_getElem hi
      obtain ⟨z6, z7, h⟩ := table_step gs us hu (.val (.lst (gs.map gD))) (tabD i us.length (lapF gs us)) (by simp [tabD, tabL]; omega) (sumG gs i) a y5 y6 y7 m'
      rw [rowF_lap gs us hx, ← sumG_succ hx, ← tabD_succ] at h
      exact ⟨_, rfl, _, h, rfl, i + 1, _, _, _, _, e2, by omega, rfl⟩) gs [.val (.lst (gs.map gD)), .val (.lst (us.map uD)), .own (.lst []), .val (.int 0), .non, .non, .non, .non] m ⟨rfl, 0, _, _, _, _, rfl, Nat.zero_le _, rfl⟩
  cases o with
  | nx sl m' =>
    obtain ⟨rfl, i, y4, y5, y6, y7, q1, q2, rfl⟩ := h2.resolve_right id
    have : i = gs.length := by
      have := congrArg List.length q1
      rw [List.length_drop, List.length_nil] at this
      omega
    subst this
    simp [f__law_table, b__law_table, evF, evSs, evS, evs, evAnd, evOr, ev, evB, look, commit, R.d, R.kp, R.imm, R.sv, D.imm, D.imms, D.immC, setTg, setTs, bltR, binR, unR, ixR, tupR, lstR, dictTR, callR, slR, isiR, methR, lift, addS, subS, minS, maxS, modS, fdivS, mulS, negS, intS, wipeS, itList, itTup, itRng1, itRng2, mAppend, freeze, frz1, isnS, isnnS, h1]
  | _ => exact h2.elim
/-! the rows of a table -/
theorem cellsRow_len (i : Nat) (t : Nat → Nat → Int) (k : Nat) : (cellsRow i t k).length ≤ k := by
  have := List.length_filterMap_le (fun j => if t i j > 0 then some (i, j, t i j) else none) (List.range k)
  rw [List.length_range] at this
  exact this
theorem cellsT_len (k : Nat) (t : Nat → Nat → Int) : ∀ n, (cellsT k t n).length ≤ n * k
  | 0 => by simp [cellsT]
  | n + 1 => by
    rw [cellsT_succ, List.length_append, Nat.succ_mul]
    have := cellsT_len k t n
    have := cellsRow_len n t k
    omega
def rowL (k : Nat) (f : Nat → Int) : List D := ((List.range k).map f).map .int
theorem tab_at {n k : Nat} {t : Nat → Nat → Int} {i : Nat} (h : i < n) : atI (tabD n k t) (i : Int) = some (.lst (rowL k (t i))) := by
  rw [ixn]
  simp [tabD, tabL, h, rowL]
theorem row_at {k : Nat} {f : Nat → Int} {j : Nat} (h : j < k) : atI (rowL k f) (j : Int) = some (.int (f j)) := by
  rw [ixn]
  simp [h, rowL]
theorem triples_ok (gs : List (Int × Int × Int)) (us : List (D × Int × Int)) (hg : gs.length ≤ 1000) (hu : us.length ≤ 1000) (t : Nat → Nat → Int) (m : Bag) :
    ∃ rs, f__law_triples [.lst (gs.map gD), .lst (us.map uD), .lst (tabD gs.length us.length t)] m = some (.own (.lst (rs.map rD)), m) ∧ CellsOf gs us rs (cellsT us.length t gs.length) := by
  have hl1 : ((gs.length : Int) ≤ 1000000000) := by omega
  have hl2 : ((us.length : Int) ≤ 1000000000) := by omega
  have inner : ∀ (i : Nat) (rs : List (Int × D × Int)) (y5 : SV), i < gs.length → CellsOf gs us rs (cellsT us.length t i) →
      ∃ rs' z5, forL (.nm 5) (evSs l__law_triples_1) (Ev.upTo 0 us.length) [.val (.lst (gs.map gD)), .val (.lst (us.map uD)), .val (.lst (tabD gs.length us.length t)), .own (.lst (rs.map rD)), .val (.int i), y5] m = some (.nx [.val (.lst (gs.map gD)), .val (.lst (us.map uD)), .val (.lst (tabD gs.length us.length t)), .own (.lst (rs'.map rD)), .val (.int i), z5] m) ∧ CellsOf gs us rs' (cellsT us.length t (i + 1)) := by
    intro i rs y5 hi hrs
    obtain ⟨o, h1, h2⟩ := forL_range (body := evSs l__law_triples_1) (tg := .nm 5) (fun j sl m' => m' = m ∧ ∃ rs' z5, sl = [.val (.lst (gs.map gD)), .val (.lst (us.map uD)), .val (.lst (tabD gs.length us.length t)), .own (.lst (rs'.map rD)), .val (.int i), z5] ∧ CellsOf gs us rs' (cellsT us.length t i ++ cellsRow i t j)) (fun _ _ => False) (fun _ _ => False) us.length 0
      (fun j sl m' hj q => by
        obtain ⟨rfl, rs', z5, rfl, q⟩ := q
        obtain ⟨g, hx⟩ : ∃ p, gs[i]? = some p := ⟨gs[i], List.getElem?_eq_getElem hi⟩
        obtain ⟨u, hy⟩ : ∃ p, us[j]? = some p := ⟨us[j], List.getElem?_eq_getElem hj⟩
        have e0 : atI (gs.map gD) (i : Int) = some (gD g) := by rw [ixn, List.getElem?_map, hx]; rfl
        have e1 : atI (us.map uD) (j : Int) = some (uD u) := by rw [ixn, List.getElem?_map, hy]; rfl
        have e2 := tab_at (k := us.length) (t := t) hi
        have e3 := row_at (f := t i) hj
        have hlen : rs'.length < 16777216 := by
          have h1 := (cells_len q).1
          have h2 := cellsT_len us.length t i
          have h3 := cellsRow_len i t j
          have h4 : i * us.length ≤ 1000 * 1000 := Nat.mul_le_mul (by omega) hu
          rw [List.length_append] at h1
          omega
        refine ⟨_, rfl, ?_⟩
        by_cases hc : t i j > 0
        · have hn : gtS (.int (t i j)) (.int 0) = some true := by simp [gtS, cmpS]; omega
          refine ⟨.nx [.val (.lst (gs.map gD)), .val (.lst (us.map uD)), .val (.lst (tabD gs.length us.length t)), .own (.lst ((rs' ++ [(g.1, u.1, t i j)]).map rD)), .val (.int i), .val (.int (0 + (j : Int)))] m', ?_, rfl, _, _, rfl, ?_⟩
          · simp [evSs, evS, evs, evAnd, evOr, ev, evB, look, commit, R.d, R.kp, R.imm, R.sv, D.imm, D.imms, D.immC, setTg, setTs, bltR, binR, unR, ixR, tupR, lstR, dictTR, callR, slR, isiR, methR, lift, addS, subS, minS, maxS, modS, fdivS, mulS, negS, intS, wipeS, itList, itTup, itRng1, itRng2, mAppend, freeze, frz1, isnS, isnnS, l__law_triples_1, ixS_lst, ixS_tup, e0, e1, e2, e3, hn, uD, gD, ix0, hlen, rD]
          · rw [cellsRow_succ, if_pos hc, ← List.append_assoc]
            exact .snoc q ⟨⟨g, hx, rfl⟩, ⟨u, hy, rfl⟩, rfl, by show 1 ≤ t i j; omega⟩
        · have hn : gtS (.int (t i j)) (.int 0) = some false := by simp [gtS, cmpS]; omega
          refine ⟨.nx [.val (.lst (gs.map gD)), .val (.lst (us.map uD)), .val (.lst (tabD gs.length us.length t)), .own (.lst (rs'.map rD)), .val (.int i), .val (.int (0 + (j : Int)))] m', ?_, rfl, _, _, rfl, ?_⟩
          · simp [evSs, evS, evs, evAnd, evOr, ev, evB, look, commit, R.d, R.kp, R.imm, R.sv, D.imm, D.imms, D.immC, setTg, setTs, bltR, binR, unR, ixR, tupR, lstR, dictTR, callR, slR, isiR, methR, lift, addS, subS, minS, maxS, modS, fdivS, mulS, negS, intS, wipeS, itList, itTup, itRng1, itRng2, mAppend, freeze, frz1, isnS, isnnS, l__law_triples_1, ixS_lst, ixS_tup, e0, e1, e2, e3, hn]
          · rw [cellsRow_succ, if_neg hc, List.append_nil]
            exact q) [.val (.lst (gs.map gD)), .val (.lst (us.map uD)), .val (.lst (tabD gs.length us.length t)), .own (.lst (rs.map rD)), .val (.int i), y5] m ⟨rfl, _, _, rfl, by simpa [cellsRow] using hrs⟩
    cases o with
    | nx sl m' =>
      obtain ⟨rfl, rs', z5, rfl, q⟩ := h2.resolve_right id
      exact ⟨rs', z5, h1, by rw [cellsT_succ]; exact q⟩
    | _ => exact h2.elim
  obtain ⟨o, h1, h2⟩ := forL_range (body := evSs l__law_triples_2) (tg := .nm 4) (fun i sl m' => m' = m ∧ ∃ rs' z4 z5, sl = [.val (.lst (gs.map gD)), .val (.lst (us.map uD)), .val (.lst (tabD gs.length us.length t)), .own (.lst (rs'.map rD)), z4, z5] ∧ CellsOf gs us rs' (cellsT us.length t i)) (fun _ _ => False) (fun _ _ => False) gs.length 0
    (fun i sl m' hi q => by
      obtain ⟨rfl, rs', z4, z5, rfl, q⟩ := q
      obtain ⟨rs2, w5, h3, h4⟩ := inner i rs' z5 hi q
      refine ⟨_, rfl, .nx [.val (.lst (gs.map gD)), .val (.lst (us.map uD)), .val (.lst (tabD gs.length us.length t)), .own (.lst (rs2.map rD)), .val (.int i), w5] m', ?_, rfl, _, _, _, rfl, h4⟩
      simp [evSs, evS, evs, evAnd, evOr, ev, evB, look, commit, R.d, R.kp, R.imm, R.sv, D.imm, D.imms, D.immC, setTg, setTs, bltR, binR, unR, ixR, tupR, lstR, dictTR, callR, slR, isiR, methR, lift, addS, subS, minS, maxS, modS, fdivS, mulS, negS, intS, wipeS, itList, itTup, itRng1, itRng2, mAppend, freeze, frz1, isnS, isnnS, l__law_triples_2, lenS, hl2, h3]) [.val (.lst (gs.map gD)), .val (.lst (us.map uD)), .val (.lst (tabD gs.length us.length t)), .own (.lst []), .non, .non] m ⟨rfl, [], _, _, rfl, by simpa [cellsT] using CellsOf.nil⟩
  cases o with
  | nx sl m' =>
    obtain ⟨rfl, rs', z4, z5, rfl, q⟩ := h2.resolve_right id
    exact ⟨rs', by simp [f__law_triples, b__law_triples, evF, evSs, evS, evs, evAnd, evOr, ev, evB, look, commit, R.d, R.kp, R.imm, R.sv, D.imm, D.imms, D.immC, setTg, setTs, bltR, binR, unR, ixR, tupR, lstR, dictTR, callR, slR, isiR, methR, lift, addS, subS, minS, maxS, modS, fdivS, mulS, negS, intS, wipeS, itList, itTup, itRng1, itRng2, mAppend, freeze, frz1, isnS, isnnS, lenS, hl1, h1], q⟩
  | _ => exact h2.elim
theorem rows_ok (gs : List (Int × Int × Int)) (us : List (D × Int × Int)) (hg : gs.length ≤ 1000) (hu : us.length ≤ 1000) (m : Bag) :
    ∃ rs, f__law_rows [.lst (gs.map gD), .lst (us.map uD)] m = some (.own (.lst (rs.map rD)), m) ∧ CellsOf gs us rs (stair gs us) := by
  obtain ⟨rs, h1, h2⟩ := triples_ok gs us hg hu (lapF gs us) m
  have h3 := table_ok gs us (by omega) (by omega) m
  exact ⟨rs, by simp [f__law_rows, b__law_rows, evF, evSs, evS, evs, evAnd, evOr, ev, evB, look, commit, R.d, R.kp, R.imm, R.sv, D.imm, D.imms, D.immC, setTg, setTs, bltR, binR, unR, ixR, tupR, lstR, dictTR, callR, slR, isiR, methR, lift, addS, subS, minS, maxS, modS, fdivS, mulS, negS, intS, wipeS, itList, itTup, itRng1, itRng2, mAppend, freeze, frz1, isnS, isnnS, h3, h1], h2⟩
end K50

set_option Elab.async false
set_option linter.all false
set_option maxRecDepth 100000
set_option maxHeartbeats 4000000
namespace K50
open PySem PySem.Spec PyProof.Rows L2 Ev
abbrev s__law_asked : Stmt := topS 28
def n__law_asked : List Str := ["gifts", "uses", "paper", "due", "given", "told"]
theorem sc__law_asked : FnScope n__law_asked ["gifts", "uses", "paper"] (defScope s__law_asked) := ⟨rfl, rfl, rfl, by decide +kernel, rfl, by decide +kernel, by decide +kernel⟩
def b__law_asked : Sms Bag :=
  (.cons (.set [] false 3 (.con (.bl false))) <|
  (.cons (.iff [] (.cmp ⟨.Is, isnS⟩ (.app (callR "_law_outrun" f__law_outrun) (.cons (.var 0) (.cons (.var 1) .nil))) (.con .non)) (
    (.cons (.set [] false 3 (.cmp ⟨.Eq, eqS⟩ (.var 2) (.app (callR "_law_rows" f__law_rows) (.cons (.var 0) (.cons (.var 1) .nil))))) <| .nil)) (
 .nil)) <|
  (.cons (.set [] false 4 (.app lstR (.cons (.app (bltR "list" listS) (.cons (.var 0) .nil)) (.cons (.app (bltR "list" listS) (.cons (.var 1) .nil)) (.cons (.app (bltR "list" listS) (.cons (.var 2) .nil)) .nil))))) <|
  (.cons (.set [] false 5 (.app (callR "is_trace" f_is_trace) (.cons (.app ixR (.cons (.var 4) (.cons (.con (.int 0)) .nil))) (.cons (.app ixR (.cons (.var 4) (.cons (.con (.int 1)) .nil))) (.cons (.app ixR (.cons (.var 4) (.cons (.con (.int 2)) .nil))) .nil))))) <|
  (.cons (.ret [] (.and (.cons (.app (isiR "bool") (.cons (.var 5) .nil)) (.cons (.cmp ⟨.Eq, eqS⟩ (.var 5) (.var 3)) (.cons (.cmp ⟨.Eq, eqS⟩ (.var 4) (.app lstR (.cons (.var 0) (.cons (.var 1) (.cons (.var 2) .nil))))) .nil))))) <| .nil)))))
def f__law_asked : List D → Bag → Option (R × Bag) := evF 3 6 (b__law_asked)
theorem c__law_asked : chkSs n__law_asked (defScope s__law_asked) (defBody s__law_asked) (b__law_asked) = true := by kernel_rfl
theorem ok__law_asked (A : BA) {P : Program} {w : World} {K : PySem.W.Frag} {mg : Str → Option Value} {base : Heap} {f : Addr} {fd : FuncData} (F : Fun K "_law_asked" "_law_asked" s__law_asked f fd) (h_list : mg "list" = none) (h_isinstance : mg "isinstance" = none) (h_bool : mg "bool" = none) (k__law_outrun : Callee (cfg P w K mg base A) 2 "_law_outrun" f__law_outrun) (k__law_rows : Callee (cfg P w K mg base A) 2 "_law_rows" f__law_rows) (k_is_trace : Callee (cfg P w K mg base A) 3 "is_trace" f_is_trace) : FnOk P w K mg base CX0 4 f fd ["gifts", "uses", "paper"] (fun vs H Q _ => RSem (cfg P w K mg base A) f__law_asked vs H Q) := by
  have o : (b__law_asked).ok (cfg P w K mg base A) 3 := by
    simp only [b__law_asked, Sms.ok, Sm.ok, Xp.ok, Xs.ok, and_true, true_and]
    (repeat' apply And.intro) <;> first | exact cmp_is | exact cmp_eq | exact (ok_lst).up | exact (ok_list h_list).up | exact (ok_ix).up | exact (ok_isi h_isinstance h_bool).up | exact (call_rule (k__law_outrun.mono (by decide))).up | exact (call_rule (k__law_rows.mono (by decide))).up | exact (call_rule (k_is_trace.mono (by decide))).up
  exact fn_ok F sc__law_asked (by decide) o (c__law_asked)
end K50

set_option Elab.async false
set_option linter.all false
set_option maxRecDepth 100000
set_option maxHeartbeats 4000000
namespace K50
open PySem PySem.Spec PyProof.Rows L2 Ev
theorem CellsOf.get {gs : List (Int × Int × Int)} {us : List (D × Int × Int)} {rs : List (Int × D × Int)} {cs : List (Nat × Nat × Int)} (h : CellsOf gs us rs cs) : ∀ (k : Nat) r c, rs[k]? = some r → cs[k]? = some c → CellOf gs us r c := by
  induction h with
  | nil => intro k r c e; simp at e
  | @snoc rs cs r c h hc ih =>
    intro k r' c' e1 e2
    have hl := (cells_len h).1
    rcases Nat.lt_or_ge k rs.length with z | z
    · rw [List.getElem?_append_left z] at e1
      rw [List.getElem?_append_left (by omega)] at e2
      exact ih k r' c' e1 e2
    · rw [List.getElem?_append_right z] at e1
      rw [List.getElem?_append_right (by omega)] at e2
      cases hk : k - rs.length with
      | zero =>
        rw [hk] at e1
        rw [show k - cs.length = 0 by omega] at e2
        simp at e1 e2
        subst e1; subst e2
        exact hc
      | succ n => rw [hk] at e1; simp at e1
theorem CellOf.row {gs : List (Int × Int × Int)} {us : List (D × Int × Int)} {r r' : Int × D × Int} {c : Nat × Nat × Int} (h : CellOf gs us r c) (h' : CellOf gs us r' c) : r = r' := by
  obtain ⟨⟨g, a1, a2⟩, ⟨u, a3, a4⟩, a5, _⟩ := h
  obtain ⟨⟨g', b1, b2⟩, ⟨u', b3, b4⟩, b5, _⟩ := h'
  rw [a1] at b1; cases b1
  rw [a3] at b3; cases b3
  exact Prod.ext (by rw [← a2, ← b2]) (Prod.ext (by rw [← a4, ← b4]) (by rw [← a5, ← b5]))
theorem nodup_at {α β : Type} {f : α → β} {l : List α} (h : (l.map f).Nodup) {i j : Nat} {a b : α} (ha : l[i]? = some a) (hb : l[j]? = some b) (e : f a = f b) : i = j := by
  have h1 := getlt ha
  have h2 := getlt hb
  rcases Nat.lt_trichotomy i j with z | z | z
  · have := (List.pairwise_iff_getElem.mp h) i j (by simpa using h1) (by simpa using h2) z
    rw [List.getElem?_eq_getElem h1] at ha
    rw [List.getElem?_eq_getElem h2] at hb
    simp only [List.getElem_map, Option.some.inj ha, Option.some.inj hb] at this
    exact absurd e this
  · exact z
  · have := (List.pairwise_iff_getElem.mp h) j i (by simpa using h2) (by simpa using h1) z
    rw [List.getElem?_eq_getElem h1] at ha
    rw [List.getElem?_eq_getElem h2] at hb
    simp only [List.getElem_map, Option.some.inj ha, Option.some.inj hb] at this
    exact absurd e.symm this
theorem CellOf.cell {gs : List (Int × Int × Int)} {us : List (D × Int × Int)} (hg : GsOk gs) (hu : UsOk us) {r : Int × D × Int} {c c' : Nat × Nat × Int} (h : CellOf gs us r c) (h' : CellOf gs us r c') : c = c' := by
  obtain ⟨⟨g, a1, a2⟩, ⟨u, a3, a4⟩, a5, _⟩ := h
  obtain ⟨⟨g', b1, b2⟩, ⟨u', b3, b4⟩, b5, _⟩ := h'
  exact Prod.ext (nodup_at hg.ids a1 b1 (by rw [a2, b2])) (Prod.ext (nodup_at hu.keys a3 b3 (by rw [a4, b4])) (by rw [a5, b5]))
theorem CellsOf.rows {gs : List (Int × Int × Int)} {us : List (D × Int × Int)} {rs rs' : List (Int × D × Int)} {cs : List (Nat × Nat × Int)} (h : CellsOf gs us rs cs) (h' : CellsOf gs us rs' cs) : rs = rs' := by
  have l1 := (cells_len h).1
  have l2 := (cells_len h').1
  refine List.ext_getElem (by omega) fun k h1 h2 => ?_
  exact CellOf.row (h.get k _ (cs[k]'(by omega)) (List.getElem?_eq_getElem h1) (List.getElem?_eq_getElem _)) (h'.get k _ _ (List.getElem?_eq_getElem h2) (List.getElem?_eq_getElem _))
theorem CellsOf.cells {gs : List (Int × Int × Int)} {us : List (D × Int × Int)} (hg : GsOk gs) (hu : UsOk us) {rs : List (Int × D × Int)} {cs cs' : List (Nat × Nat × Int)} (h : CellsOf gs us rs cs) (h' : CellsOf gs us rs cs') : cs = cs' := by
  have l1 := (cells_len h).1
  have l2 := (cells_len h').1
  refine List.ext_getElem (by omega) fun k h1 h2 => ?_
  exact CellOf.cell hg hu (h.get k (rs[k]'(by omega)) _ (List.getElem?_eq_getElem _) (List.getElem?_eq_getElem h1)) (h'.get k _ _ (List.getElem?_eq_getElem _) (List.getElem?_eq_getElem h2))
theorem rD_inj {rs rs' : List (Int × D × Int)} (h : rs.map rD = rs'.map rD) : rs = rs' := by
  induction rs generalizing rs' with
  | nil => cases rs' with
    | nil => rfl
    | cons _ _ => simp at h
  | cons r rs ih => cases rs' with
    | nil => simp at h
    | cons r' rs' =>
      simp only [List.map_cons, List.cons.injEq] at h
      obtain ⟨h1, h2⟩ := h
      simp only [rD, D.tup.injEq, List.cons.injEq, D.int.injEq, and_true] at h1
      rw [ih h2, show r = r' from Prod.ext h1.1 (Prod.ext h1.2.1 h1.2.2)]
theorem nb_rows {rs : List (Int × D × Int)} (h : ∀ r ∈ rs, KeyR r.2.1) : (D.lst (rs.map rD)).nb = true ∧ (D.lst (rs.map rD)).dep ≤ 11 := by
  constructor
  · rw [D.nb, nbs_mem]
    intro d hd
    obtain ⟨r, hr, rfl⟩ := List.mem_map.mp hd
    simp [rD, D.nb, D.nbs, (h r hr).1]
  · rw [D.dep]
    have : D.deps (rs.map rD) ≤ 10 := deps_le.mpr fun d hd => by
      obtain ⟨r, hr, rfl⟩ := List.mem_map.mp hd
      have := (h r hr).2
      simp only [rD, D.dep, D.deps]
      omega
    omega
theorem nb_uses {us : List (D × Int × Int)} (h : ∀ u ∈ us, KeyOk u.1) : (D.lst (us.map uD)).nb = true ∧ (D.lst (us.map uD)).dep ≤ 10 := by
  constructor
  · rw [D.nb, nbs_mem]
    intro d hd
    obtain ⟨r, hr, rfl⟩ := List.mem_map.mp hd
    simp [uD, D.nb, D.nbs, (h r hr).1]
  · rw [D.dep]
    have : D.deps (us.map uD) ≤ 9 := deps_le.mpr fun d hd => by
      obtain ⟨r, hr, rfl⟩ := List.mem_map.mp hd
      have := (h r hr).2
      simp only [uD, D.dep, D.deps]
      omega
    omega
theorem nb_gifts (gs : List (Int × Int × Int)) : (D.lst (gs.map gD)).nb = true ∧ (D.lst (gs.map gD)).dep ≤ 10 := by
  constructor
  · rw [D.nb, nbs_mem]
    intro d hd
    obtain ⟨r, hr, rfl⟩ := List.mem_map.mp hd
    simp [gD, D.nb, D.nbs]
  · rw [D.dep]
    have : D.deps (gs.map gD) ≤ 9 := deps_le.mpr fun d hd => by
      obtain ⟨r, hr, rfl⟩ := List.mem_map.mp hd
      simp [gD, D.dep, D.deps]
    omega
/-- the program's answer is the law's -/
theorem trace_iff (c1 c2 : Bool) {gs : List (Int × Int × Int)} {us : List (D × Int × Int)} {rs lr : List (Int × D × Int)} (hg : GsOk gs) (hu : UsOk us) (lg : gs.length ≤ 1000) (lu : us.length ≤ 1000) (lr' : rs.length ≤ 1000000) (hk : ∀ u ∈ us, KeyOk u.1) (hx : ∀ r ∈ rs, KeyR r.2.1)
    (hlr : CellsOf gs us lr (stair gs us)) (m : Bag) : ∃ b : Bool, f_is_trace [sqD c1 (gs.map gD), sqD c2 (us.map uD), .lst (rs.map rD)] m = some (.val (.bl b), m) ∧ (b = true ↔ NoOutrun gs us ∧ rs = lr) := by
  obtain ⟨b, h1, h2⟩ := trace_ok c1 c2 gs us rs (by omega) (by omega) lr' hk hx m
  refine ⟨b, h1, ?_⟩
  rcases h2 with ⟨cs, h3, h4⟩ | ⟨rfl, r, hr, hn⟩
  · rw [h4]
    have hin : ∀ c ∈ cs, c.1 < gs.length ∧ c.2.1 < us.length ∧ 1 ≤ c.2.2 := fun c hc => by
      obtain ⟨i1, i2⟩ := (cells_len h3).2 c hc
      refine ⟨i1, i2, ?_⟩
      obtain ⟨n, hn, e⟩ := List.mem_iff_getElem.mp hc
      have hl := (cells_len h3).1
      have := h3.get n (rs[n]'(by omega)) c (List.getElem?_eq_getElem _) (by rw [List.getElem?_eq_getElem hn, e])
      exact this.2.2.2
    constructor
    · intro t
      obtain ⟨n, e⟩ := trace_stair hg hu hin t
      subst e
      exact ⟨n, h3.rows hlr⟩
    · rintro ⟨n, rfl⟩
      rw [h3.cells hg hu hlr]
      exact stair_trace hg hu n
  · refine ⟨(fun z => by cases z), fun ⟨_, e⟩ => ?_⟩
    subst e
    obtain ⟨n, hn', e⟩ := List.mem_iff_getElem.mp hr
    have hl := (cells_len hlr).1
    exact absurd (hlr.get n r ((stair gs us)[n]'(by omega)) (by rw [List.getElem?_eq_getElem hn', e]) (List.getElem?_eq_getElem _)) (hn _)
theorem eqS_self {d : D} (h : d.nb = true ∧ d.dep ≤ 64) : eqS d d = some true := by
  obtain ⟨k, h1, h2⟩ := eqS_nb h.1 h.1 h.2 h.2
  rw [h1, h2.mpr rfl]
theorem asked_ok {gs : List (Int × Int × Int)} {us : List (D × Int × Int)} {rs : List (Int × D × Int)} (hg : GsOk gs) (hu : UsOk us) (lg : gs.length ≤ 1000) (lu : us.length ≤ 1000) (lr' : rs.length ≤ 1000000) (hk : ∀ u ∈ us, KeyOk u.1) (hx : ∀ r ∈ rs, KeyR r.2.1) (m : Bag) :
    f__law_asked [.lst (gs.map gD), .lst (us.map uD), .lst (rs.map rD)] m = some (.val (.bl true), m) := by
  obtain ⟨o, h1, h2⟩ := outrun_ok gs us (by omega) (by omega) m
  obtain ⟨lr, h3, h4⟩ := rows_ok gs us lg lu m
  have hkl : ∀ r ∈ lr, KeyOk r.2.1 := fun r hr => by
    obtain ⟨n, hn', e⟩ := List.mem_iff_getElem.mp hr
    have hl := (cells_len h4).1
    obtain ⟨_, ⟨u, e1, e2⟩, _⟩ := h4.get n r ((stair gs us)[n]'(by omega)) (by rw [List.getElem?_eq_getElem hn', e]) (List.getElem?_eq_getElem _)
    rw [← e2]
    exact hk u (List.mem_of_getElem? e1)
  obtain ⟨b, h5, h6⟩ := trace_iff true true hg hu lg lu lr' hk hx h4 m
  simp only [sqD, cond_true] at h5
  have n1 := nb_gifts gs
  have n2 := nb_uses hk
  have n3 := nb_rows hx
  have n4 := nb_rows fun r hr => (hkl r hr).r
  obtain ⟨k, e1, e2⟩ := eqS_nb n3.1 n4.1 (by omega) (by omega)
  have e2' : k = true ↔ rs = lr := ⟨fun z => rD_inj (by simpa using e2.mp z), fun z => e2.mpr (by rw [z])⟩
  have e3 : eqS (.lst [.lst (gs.map gD), .lst (us.map uD), .lst (rs.map rD)]) (.lst [.lst (gs.map gD), .lst (us.map uD), .lst (rs.map rD)]) = some true := eqS_self ⟨by
    rw [D.nb, nbs_mem]
    intro d hd
    simp only [List.mem_cons, List.not_mem_nil, or_false] at hd
    rcases hd with rfl | rfl | rfl
    · exact n1.1
    · exact n2.1
    · exact n3.1, by
    rw [D.dep]
    have : D.deps [.lst (gs.map gD), .lst (us.map uD), .lst (rs.map rD)] ≤ 11 := deps_le.mpr fun d hd => by
      simp only [List.mem_cons, List.not_mem_nil, or_false] at hd
      rcases hd with rfl | rfl | rfl
      · exact Nat.le_succ_of_le n1.2
      · exact Nat.le_succ_of_le n2.2
      · exact n3.2
    omega⟩
  cases o with
  | none =>
    have hno := h2.mp rfl
    have hbk : b = k := by
      cases b <;> cases k <;> simp_all
    subst hbk
    have e4 : eqS (.bl b) (.bl b) = some true := by simp [eqS]
    simp [f__law_asked, b__law_asked, evF, evSs, evS, evs, evAnd, evOr, ev, evB, look, commit, R.d, R.kp, R.imm, R.sv, D.imm, D.imms, D.immC, setTg, setTs, bltR, binR, unR, ixR, tupR, lstR, dictTR, callR, slR, isiR, methR, lift, addS, subS, minS, maxS, modS, fdivS, mulS, negS, intS, wipeS, itList, itTup, itRng1, itRng2, mAppend, freeze, frz1, isnS, isnnS, h1, h3, optD, e1, listS, ix0, ix1, ix2, ixS_lst, h5, isTy, e4, e3]
  | some i =>
    have hno : ¬ NoOutrun gs us := fun z => by have := h2.mpr z; cases this
    have hb : b = false := by
      cases b with
      | false => rfl
      | true => exact absurd (h6.mp rfl).1 hno
    subst hb
    have e4 : eqS (.bl false) (.bl false) = some true := by simp [eqS]
    simp [f__law_asked, b__law_asked, evF, evSs, evS, evs, evAnd, evOr, ev, evB, look, commit, R.d, R.kp, R.imm, R.sv, D.imm, D.imms, D.immC, setTg, setTs, bltR, binR, unR, ixR, tupR, lstR, dictTR, callR, slR, isiR, methR, lift, addS, subS, minS, maxS, modS, fdivS, mulS, negS, intS, wipeS, itList, itTup, itRng1, itRng2, mAppend, freeze, frz1, isnS, isnnS, h1, optD, listS, ix0, ix1, ix2, ixS_lst, h5, isTy, e4, e3]
end K50

set_option Elab.async false
set_option linter.all false
set_option maxRecDepth 100000
set_option maxHeartbeats 4000000
namespace K50
open PySem PySem.Spec PyProof.Rows L2 Ev
structure AOk (A : BA) : Prop where
  n1 : A.ab ≠ A.ac
  n2 : A.ab ≠ A.al
  n3 : A.ac ≠ A.al
structure BOk (m : Bag) : Prop where
  pos : 0 < m.cells.length
  len : m.left.length = m.cells.length
theorem mul_small {i j : Int} (h1 : -(2 ^ 64) < i) (h2 : i < 2 ^ 64) : mulS [.int i, .int j] = some (.val (.int (i * j))) := by
  simp only [mulS, decide_eq_true h1, decide_eq_true h2, Bool.and_true, Bool.true_or, if_true]
theorem mod_pos {i j : Int} (h : 0 < j) : modS [.int i, .int j] = some (.val (.int (i % j))) := by
  simp only [modS, if_pos h]
theorem ixN_in {n : Nat} {i : Int} (h0 : 0 ≤ i) (h1 : i < n) : ixN n i = some i.toNat := by
  unfold ixN
  rw [if_pos h0, if_pos h1]
theorem atI_in {α : Type} {l : List α} {i : Int} (h0 : 0 ≤ i) (h1 : i < l.length) : ∃ x, atI l i = some x ∧ l[i.toNat]? = some x := by
  have h2 : i.toNat < l.length := by omega
  refine ⟨l[i.toNat], ?_, List.getElem?_eq_getElem h2⟩
  unfold atI
  rw [ixN_in h0 h1]
  exact List.getElem?_eq_getElem h2
def mixF (cell turn : Int) : Int :=
  let a := (cell + 7919 * turn + 13) % 2147483647
  let b := (a * (a + 48271)) % 2147483629
  (b * (b + 69621) + 31 * turn) % 2147483647 / 9
theorem draw_ok {A : BA} (hA : AOk A) {m : Bag} (hm : BOk m) {size : Int} (h1 : 1 ≤ size) (h2 : size < 1073741824) : ∃ r m', f__law_draw A [.ref A.ab, .int size] m = some (.val (.int r), m') ∧ 0 ≤ r ∧ r < size ∧ BOk m' := by
  have n1 := hA.n1
  have n2 := hA.n2
  have n3 := hA.n3
  have n1' := hA.n1.symm
  have n2' := hA.n2.symm
  have n3' := hA.n3.symm
  have hp := hm.pos
  have hpc : (0 : Int) < (m.cells.length : Int) := by omega
  have a0 := Int.emod_nonneg m.turn (show (m.cells.length : Int) ≠ 0 by omega)
  have a1 := Int.emod_lt_of_pos m.turn hpc
  obtain ⟨cell, c1, c2⟩ := atI_in a0 a1
  obtain ⟨lf, d1, d2⟩ := atI_in (l := m.left) a0 (by rw [hm.len]; exact a1)
  have e1 : ixN m.left.length (m.turn % (m.cells.length : Int)) = some (m.turn % (m.cells.length : Int)).toNat := ixN_in a0 (by rw [hm.len]; exact a1)
  have md1 : modS [.int m.turn, .int (m.cells.length : Int)] = some (.val (.int (m.turn % (m.cells.length : Int)))) := mod_pos hpc
  have md2 : ∀ x, modS [.int x, .int size] = some (.val (.int (x % size))) := fun x => mod_pos (by omega)
  have b2147 : ∀ x : Int, modS [.int x, .int 2147483647] = some (.val (.int (x % 2147483647))) := fun x => mod_pos (by omega)
  have b2148 : ∀ x : Int, modS [.int x, .int 2147483629] = some (.val (.int (x % 2147483629))) := fun x => mod_pos (by omega)
  have ml : ∀ (x j : Int), mulS [.int (x % 2147483647), .int j] = some (.val (.int (x % 2147483647 * j))) := fun x j => mul_small (by omega) (by omega)
  have ml2 : ∀ (x j : Int), mulS [.int (x % 2147483629), .int j] = some (.val (.int (x % 2147483629 * j))) := fun x j => mul_small (by omega) (by omega)
  have ml3 : ∀ (j : Int), mulS [.int 7919, .int j] = some (.val (.int (7919 * j))) := fun j => mul_small (by decide) (by decide)
  have ml4 : ∀ (j : Int), mulS [.int 31, .int j] = some (.val (.int (31 * j))) := fun j => mul_small (by decide) (by decide)
  have fd1 : fdivS [.int lf, .int size] = some (.val (.int (lf / size))) := by
    simp only [fdivS]; rw [if_pos ⟨by omega, h2⟩]
  have rng : ∀ x : Int, 0 ≤ x % size ∧ x % size < size := fun x => ⟨Int.emod_nonneg x (by omega), Int.emod_lt_of_pos x (by omega)⟩
  have g1 : geS (.int cell) (.int 1000000000000000000) = some (decide (1000000000000000000 ≤ cell)) := rfl
  have g2 : gtS (.int lf) (.int 0) = some (decide (0 < lf)) := rfl
  by_cases hb : 1000000000000000000 ≤ cell ∧ 0 < lf
  · rw [decide_eq_true hb.1] at g1
    rw [decide_eq_true hb.2] at g2
    refine ⟨lf % size, { m with turn := m.turn + 1, left := m.left.set (m.turn % (m.cells.length : Int)).toNat (lf / size) }, ?_, (rng lf).1, (rng lf).2, hp, by simp [hm.len]⟩
    simp [f__law_draw, b__law_draw, evF, evSs, evS, evs, evAnd, ev, evB, look, commit, R.d, R.kp, R.imm, R.sv, bixR, bixS, blenR, bsetR, bltR, binR, lift, addS, intS, n1, n2, n3, n1', n2', n3', md1, c1, d1, e1, g1, g2, md2, fd1]
  · refine ⟨mixF cell m.turn % size, { m with turn := m.turn + 1 }, ?_, (rng _).1, (rng _).2, hp, hm.len⟩
    · by_cases hc : 1000000000000000000 ≤ cell
      · have hl : ¬ 0 < lf := fun z => hb ⟨hc, z⟩
        rw [decide_eq_true hc] at g1
        rw [decide_eq_false hl] at g2
        simp [f__law_draw, b__law_draw, evF, evSs, evS, evs, evAnd, ev, evB, look, commit, R.d, R.kp, R.imm, R.sv, bixR, bixS, blenR, bsetR, bltR, binR, lift, addS, intS, n1, n2, n3, n1', n2', n3', md1, c1, d1, e1, g1, g2, md2, fd1, b2147, b2148, ml, ml2, ml3, ml4, fdivS, mixF]
      · rw [decide_eq_false hc] at g1
        simp [f__law_draw, b__law_draw, evF, evSs, evS, evs, evAnd, ev, evB, look, commit, R.d, R.kp, R.imm, R.sv, bixR, bixS, blenR, bsetR, bltR, binR, lift, addS, intS, n1, n2, n3, n1', n2', n3', md1, c1, d1, e1, g1, g2, md2, fd1, b2147, b2148, ml, ml2, ml3, ml4, fdivS, mixF]
end K50

set_option Elab.async false
set_option linter.all false
set_option maxRecDepth 100000
set_option maxHeartbeats 4000000
namespace K50
open PySem PySem.Spec PyProof.Rows L2 Ev
/-! ### words -/
def WOk (z : Str) (n : Nat) : Prop := z.cps.toList.length = n ∧ ∀ c ∈ z.cps.toList, c < 1114112
theorem WOk.len {z : Str} {n : Nat} (h : WOk z n) : z.length = n := by
  have := h.1
  rw [Array.length_toList] at this
  exact this
theorem WOk.ok {z : Str} {n : Nat} (h : WOk z n) : PyData.strOk z = true := by
  unfold PyData.strOk
  rw [← Array.all_toList, List.all_eq_true]
  intro c hc
  exact decide_eq_true (h.2 c hc)
theorem WOk.app {a b : Str} {n k : Nat} (ha : WOk a n) (hb : WOk b k) : WOk (a ++ b) (n + k) := by
  have e : (a ++ b).cps.toList = a.cps.toList ++ b.cps.toList := by
    show (a.cps ++ b.cps).toList = _
    exact Array.toList_append
  refine ⟨by rw [e, List.length_append, ha.1, hb.1], fun c hc => ?_⟩
  rw [e] at hc
  exact (List.mem_append.mp hc).elim (ha.2 c) (hb.2 c)
theorem WOk.cutL {z : Str} {n k : Nat} (h : WOk z n) (hk : k ≤ n) : WOk (cutS z none (some (k : Int))) k := by
  have e : (cutS z none (some (k : Int))).cps.toList = z.cps.toList.take k := by
    simp only [cutS, HT.sIx_none, HT.sIx_nat, h.len, List.drop_zero, Nat.sub_zero, List.toList_toArray, Nat.min_eq_left hk]
  refine ⟨by rw [e, List.length_take, h.1]; omega, fun c hc => h.2 c ?_⟩
  rw [e] at hc
  exact List.mem_of_mem_take hc
theorem WOk.cutR {z : Str} {n k : Nat} (h : WOk z n) (hk : k ≤ n) : WOk (cutS z (some (k : Int)) none) (n - k) := by
  have e : (cutS z (some (k : Int)) none).cps.toList = z.cps.toList.drop k := by
    simp only [cutS, HT.sIx_none, HT.sIx_nat, h.len, List.toList_toArray, Nat.min_eq_left hk]
    exact List.take_of_length_le (by rw [List.length_drop, h.1]; exact Nat.le_refl _)
  refine ⟨by rw [e, List.length_drop, h.1], fun c hc => h.2 c ?_⟩
  rw [e] at hc
  exact List.mem_of_mem_drop hc
theorem WOk.one {c : Nat} (h : c < 1114112) : WOk ⟨#[c]⟩ 1 := ⟨rfl, fun x hx => by simp at hx; omega⟩
theorem foldl_rep (a : Array Nat) : ∀ (k : Nat) (b : Array Nat), ((List.replicate k a).foldl (· ++ ·) b).toList = b.toList ++ (List.replicate k a.toList).flatten
  | 0, b => by simp
  | k + 1, b => by
    rw [List.replicate_succ, List.foldl_cons, foldl_rep a k (b ++ a), List.replicate_succ, List.flatten_cons, Array.toList_append, List.append_assoc]
theorem WOk.mul {c : Nat} (h : c < 1114112) {n : Int} (hn : 1 ≤ n) : WOk (Txt.mul ⟨#[c]⟩ n) n.toNat := by
  have e : (Txt.mul ⟨#[c]⟩ n).cps.toList = List.replicate n.toNat c := by
    unfold Txt.mul
    rw [if_neg (by omega)]
    by_cases h1 : n = 1
    · subst h1; rfl
    · have : (n == 1 || Str.length ⟨#[c]⟩ == 0) = false := by
        simp only [Bool.or_eq_false_iff, beq_eq_false_iff_ne]
        exact ⟨h1, by simp [Str.length]⟩
      rw [this]
      simp only [Bool.false_eq_true, if_false]
      rw [foldl_rep]
      generalize n.toNat = k
      induction k with
      | zero => rfl
      | succ k ih =>
        simp only [List.replicate_succ, List.flatten_cons] at ih ⊢
        simp at ih ⊢
  refine ⟨by rw [e, List.length_replicate], fun x hx => ?_⟩
  rw [e] at hx
  rw [(List.mem_replicate.mp hx).2]
  exact h
abbrev letters : Str := ("abcdefghijklmnopqrstuvwxyz" : Str)
theorem letters_ok : WOk letters 26 := ⟨by decide +kernel, by decide +kernel⟩
theorem letter_at {i : Int} (h0 : 0 ≤ i) (h1 : i < 26) : ∃ c, c < 1114112 ∧ ixS [.str letters, .int i] = some (.val (.str ⟨#[c]⟩)) := by
  obtain ⟨c, h2, h3⟩ := atI_in (l := letters.cps.toList) h0 (by rw [letters_ok.1]; exact h1)
  refine ⟨c, letters_ok.2 c (List.mem_of_getElem? h3), ?_⟩
  show (if letters.length ≤ 16777216 then (atI letters.cps.toList i).map fun c => R.val (.str ⟨#[c]⟩) else none) = _
  rw [if_pos (by rw [letters_ok.len]; decide), h2]
  rfl
theorem word_at {z : Str} {n : Nat} (h : WOk z n) (hn : n ≤ 16) {i : Int} (h0 : 0 ≤ i) (h1 : i < n) : ∃ c, c < 1114112 ∧ ixS [.str z, .int i] = some (.val (.str ⟨#[c]⟩)) := by
  obtain ⟨c, h2, h3⟩ := atI_in (l := z.cps.toList) h0 (by rw [h.1]; exact h1)
  refine ⟨c, h.2 c (List.mem_of_getElem? h3), ?_⟩
  show (if z.length ≤ 16777216 then (atI z.cps.toList i).map fun c => R.val (.str ⟨#[c]⟩) else none) = _
  rw [if_pos (by rw [h.len]; omega), h2]
  rfl
theorem cutL_ok {z : Str} {n : Nat} (h : WOk z n) (hn : n ≤ 16) {i : Int} (h0 : 0 ≤ i) (h1 : i < n) : ∃ a, WOk a i.toNat ∧ partS false true [.str z, .int i] = some (.val (.str a)) := by
  have e : i = (i.toNat : Int) := by omega
  refine ⟨_, h.cutL (k := i.toNat) (by omega), ?_⟩
  show (if z.length ≤ 16777216 then some (R.val (.str (cutS z none (some i)))) else none) = _
  rw [if_pos (by rw [h.len]; omega), ← e]
theorem cutR_ok {z : Str} {n : Nat} (h : WOk z n) (hn : n ≤ 16) {i : Int} (h0 : 0 ≤ i) (h1 : i < n) : ∃ a, WOk a (n - (i.toNat + 1)) ∧ partS true false [.str z, .int (i + 1)] = some (.val (.str a)) := by
  have e : i + 1 = ((i.toNat + 1 : Nat) : Int) := by omega
  refine ⟨_, h.cutR (k := i.toNat + 1) (by omega), ?_⟩
  show (if z.length ≤ 16777216 then some (R.val (.str (cutS z (some (i + 1)) none))) else none) = _
  rw [if_pos (by rw [h.len]; omega), ← e]
theorem app_ok {a b : Str} {n k : Nat} (ha : WOk a n) (hb : WOk b k) (h : n + k ≤ 16) : addS [.str a, .str b] = some (.val (.str (a ++ b))) := by
  show (if a.length + b.length ≤ 16777216 then some (R.val (.str (a ++ b))) else none) = _
  rw [if_pos (by rw [ha.len, hb.len]; omega)]
theorem nin_words {w : Str} {n : Nat} (h : WOk w n) {ts : List Str} (ht : ∀ t ∈ ts, PyData.strOk t = true) : ∃ b, ninS (.str w) (.lst (ts.map D.str)) = some b := by
  have h1 := inS_lst (x := .str w) (ds := ts.map D.str) (by simpa [D.nb] using h.ok) (nbs_mem.mpr fun d hd => by
    obtain ⟨t, h1, rfl⟩ := List.mem_map.mp hd
    simpa [D.nb] using ht t h1) (by simp [D.dep]) (deps_le.mpr fun d hd => by
    obtain ⟨t, h1, rfl⟩ := List.mem_map.mp hd
    simp [D.dep])
  exact ⟨_, by simp only [ninS, h1]; rfl⟩
theorem name_ok {A : BA} (hA : AOk A) {m : Bag} (hm : BOk m) {ts : List Str} (ht : ∀ t ∈ ts, PyData.strOk t = true) : ∃ w m', f__law_name A [.ref A.ab, .lst (ts.map D.str)] m = some (.val (.str w), m') ∧ PyData.strOk w = true ∧ BOk m' := by
  obtain ⟨r1, m1, d1, a1, a2, b1⟩ := draw_ok hA hm (size := 8) (by decide) (by decide)
  obtain ⟨r2, m2, d2, a3, a4, b2⟩ := draw_ok hA b1 (size := 26) (by decide) (by decide)
  obtain ⟨r3, m3, d3, a5, a6, b3⟩ := draw_ok hA b2 (size := 1 + r1) (by omega) (by omega)
  obtain ⟨r4, m4, d4, a7, a8, b4⟩ := draw_ok hA b3 (size := 26) (by decide) (by decide)
  obtain ⟨c1, g1, g2⟩ := letter_at a3 a4
  obtain ⟨c2, g3, g4⟩ := letter_at a7 a8
  have w1 := WOk.mul g1 (n := 1 + r1) (by omega)
  have e1 : mulS [.str ⟨#[c1]⟩, .int (1 + r1)] = some (.val (.str (Txt.mul ⟨#[c1]⟩ (1 + r1)))) := by
    show (if Str.length ⟨#[c1]⟩ ≤ 1000 ∧ (1 + r1) ≤ 1000 ∧ -1000 ≤ (1 + r1) then some (R.val (.str (Txt.mul ⟨#[c1]⟩ (1 + r1)))) else none) = _
    rw [if_pos ⟨by simp [Str.length], by omega, by omega⟩]
  obtain ⟨p, p1, p2⟩ := cutL_ok w1 (by omega) (i := r3) a5 (by omega)
  obtain ⟨q, q1, q2⟩ := cutR_ok w1 (by omega) (i := r3) a5 (by omega)
  have e2 := app_ok p1 (WOk.one g3) (by omega)
  have w2 := p1.app (WOk.one g3)
  have e3 := app_ok w2 q1 (by omega)
  have w3 := w2.app q1
  rw [show r3.toNat + 1 + ((1 + r1).toNat - (r3.toNat + 1)) = (1 + r1).toNat by omega] at w3
  obtain ⟨o, h1, h2⟩ := forL_range (body := evSs (l__law_name_1 A)) (tg := .nm 6) (fun i sl m' => m' = m4 ∧ ∃ w y5 y6, WOk w (1 + r1).toNat ∧ sl = [.val (.ref A.ab), .val (.lst (ts.map D.str)), .val (.str letters), .val (.int (1 + r1)), .val (.str w), y5, y6]) (fun _ _ => False)
    (fun r m' => m' = m4 ∧ ∃ w, WOk w (1 + r1).toNat ∧ r = .val (.str w)) 200 0
    (fun i sl m' hi q => by
      obtain ⟨rfl, w, y5, y6, hw, rfl⟩ := q
      obtain ⟨k1, n1⟩ := nin_words hw ht
      obtain ⟨k2, n2⟩ := nin_words hw (ts := ["and", "or", "lacks", "any", "none"]) (by decide +kernel)
      simp only [List.map_cons, List.map_nil] at n2
      have hpos : (0 : Int) < 1 + r1 := by omega
      have md : modS [.int (i : Int), .int (1 + r1)] = some (.val (.int ((i : Int) % (1 + r1)))) := mod_pos hpos
      have m0 := Int.emod_nonneg (i : Int) (show (1 + r1) ≠ 0 by omega)
      have m1 := Int.emod_lt_of_pos (i : Int) hpos
      obtain ⟨cw, cw1, cw2⟩ := word_at hw (by omega) m0 (by omega)
      obtain ⟨p, p1, p2⟩ := cutL_ok hw (by omega) m0 (by omega)
      obtain ⟨q, q1, q2⟩ := cutR_ok hw (by omega) m0 (by omega)
      have mf : modS [.int (Txt.find letters ⟨#[cw]⟩ + 1), .int 26] = some (.val (.int ((Txt.find letters ⟨#[cw]⟩ + 1) % 26))) := mod_pos (by decide)
      obtain ⟨c3, g5, g6⟩ := letter_at (i := (Txt.find letters ⟨#[cw]⟩ + 1) % 26) (by omega) (by omega)
      have e4 := app_ok p1 (WOk.one g5) (by omega)
      have w4 := p1.app (WOk.one g5)
      have e5 := app_ok w4 q1 (by omega)
      have w5 := w4.app q1
      rw [show ((i : Int) % (1 + r1)).toNat + 1 + ((1 + r1).toNat - (((i : Int) % (1 + r1)).toNat + 1)) = (1 + r1).toNat by omega] at w5
      have ea3 : addS [.int ((i : Int) % (1 + r1)), .int 1] = some (.val (.int ((i : Int) % (1 + r1) + 1))) := rfl
      have ea4 : addS [.int (Txt.find letters ⟨#[cw]⟩), .int 1] = some (.val (.int (Txt.find letters ⟨#[cw]⟩ + 1))) := rfl
      refine ⟨_, rfl, ?_⟩
      cases k1 with
      | true =>
        cases k2 with
        | true =>
          refine ⟨.rt (.val (.str w)) m', ?_, rfl, w, hw, rfl⟩
          simp [evSs, evS, evs, evAnd, evOr, ev, evB, look, commit, R.d, R.kp, R.imm, R.sv, D.imm, D.imms, D.immC, setTg, setTs, bltR, binR, unR, ixR, tupR, lstR, dictTR, callR, slR, isiR, methR, lift, addS, subS, minS, maxS, modS, fdivS, mulS, negS, intS, wipeS, itList, itTup, itRng1, itRng2, mAppend, freeze, frz1, isnS, isnnS, l__law_name_1, n1, n2]
        | false =>
          refine ⟨.nx [.val (.ref A.ab), .val (.lst (ts.map D.str)), .val (.str letters), .val (.int (1 + r1)), .val (.str _), .val (.int ((i : Int) % (1 + r1))), .val (.int (0 + (i : Int)))] m', ?_, rfl, _, _, _, w5, rfl⟩
          simp [evSs, evS, evs, evAnd, ev, evB, look, commit, R.d, R.kp, R.imm, R.sv, bltR, binR, ixR, lstR, slR, methR, lift, intS, findS, l__law_name_1, n1, n2, md, cw2, p2, q2, mf, g6, e4, e5, ea3, ea4]
      | false =>
        refine ⟨.nx [.val (.ref A.ab), .val (.lst (ts.map D.str)), .val (.str letters), .val (.int (1 + r1)), .val (.str _), .val (.int ((i : Int) % (1 + r1))), .val (.int (0 + (i : Int)))] m', ?_, rfl, _, _, _, w5, rfl⟩
        simp [evSs, evS, evs, evAnd, ev, evB, look, commit, R.d, R.kp, R.imm, R.sv, bltR, binR, ixR, lstR, slR, methR, lift, intS, findS, l__law_name_1, n1, n2, md, cw2, p2, q2, mf, g6, e4, e5, ea3, ea4]) [.val (.ref A.ab), .val (.lst (ts.map D.str)), .val (.str letters), .val (.int (1 + r1)), .val (.str _), .val (.int r3), .non] m4 ⟨rfl, _, _, _, w3, rfl⟩
  have ea : addS [.int 1, .int r1] = some (.val (.int (1 + r1))) := rfl
  have ea2 : addS [.int r3, .int 1] = some (.val (.int (r3 + 1))) := rfl
  cases o with
  | rt r m' =>
    obtain ⟨rfl, w, hw, rfl⟩ := h2
    refine ⟨w, m', ?_, hw.ok, b4⟩
    simp [f__law_name, b__law_name, evF, evSs, evS, evs, ev, evB, look, commit, R.d, R.kp, R.imm, R.sv, bltR, binR, ixR, slR, callR, lift, itRng1, d1, d2, d3, d4, ea, ea2, g2, e1, p2, g4, e2, q2, e3, h1]
  | nx sl m' =>
    obtain ⟨rfl, w, y5, y6, hw, rfl⟩ := h2.resolve_right id
    refine ⟨w, m', ?_, hw.ok, b4⟩
    simp [f__law_name, b__law_name, evF, evSs, evS, evs, ev, evB, look, commit, R.d, R.kp, R.imm, R.sv, bltR, binR, ixR, slR, callR, lift, itRng1, d1, d2, d3, d4, ea, ea2, g2, e1, p2, g4, e2, q2, e3, h1]
  | bk _ _ => exact h2.elim
  | ct _ _ => exact h2.elim
end K50

set_option Elab.async false
set_option linter.all false
set_option maxRecDepth 100000
set_option maxHeartbeats 4000000
namespace K50
open PySem PySem.Spec PyProof.Rows L2 Ev
theorem names_ok {A : BA} (hA : AOk A) {m : Bag} (hm : BOk m) (n : Nat) (hn : n ≤ 1000) : ∃ (ts : List Str) (m' : Bag), f__law_names A [.ref A.ab, .int (n : Int)] m = some (.own (.lst (ts.map D.str)), m') ∧ ts.length = n ∧ (∀ t ∈ ts, PyData.strOk t = true) ∧ BOk m' := by
  have hn' : ((n : Int) ≤ 1000000000) := by omega
  obtain ⟨o, h1, h2⟩ := forL_range (body := evSs (l__law_names_1 A)) (tg := .nm 3) (fun i sl m' => BOk m' ∧ ∃ (ts : List Str) (y3 : SV), ts.length = i ∧ (∀ t ∈ ts, PyData.strOk t = true) ∧ sl = [.val (.ref A.ab), .val (.int n), .own (.lst (ts.map D.str)), y3]) (fun _ _ => False) (fun _ _ => False) n 0
    (fun i sl m' hi q => by
      obtain ⟨hb, ts, y3, q1, q2, rfl⟩ := q
      obtain ⟨w, m2, e1, e2, e3⟩ := name_ok hA hb q2
      have hlen : ts.length < 16777216 := by omega
      refine ⟨_, rfl, .nx [.val (.ref A.ab), .val (.int n), .own (.lst ((ts ++ [w]).map D.str)), .val (.int (0 + (i : Int)))] m2, ?_, e3, ts ++ [w], _, by simp [q1], ?_, rfl⟩
      · simp [evSs, evS, evs, evAnd, evOr, ev, evB, look, commit, R.d, R.kp, R.imm, R.sv, D.imm, D.imms, D.immC, setTg, setTs, bltR, binR, unR, ixR, tupR, lstR, dictTR, callR, slR, isiR, methR, lift, addS, subS, minS, maxS, modS, fdivS, mulS, negS, intS, wipeS, itList, itTup, itRng1, itRng2, mAppend, freeze, frz1, isnS, isnnS, l__law_names_1, e1, hlen]
      · intro t ht
        rcases List.mem_append.mp ht with z | z
        · exact q2 t z
        · simp at z; subst z; exact e2) [.val (.ref A.ab), .val (.int n), .own (.lst []), .non] m ⟨hm, [], _, rfl, by simp, rfl⟩
  cases o with
  | nx sl m' =>
    obtain ⟨hb, ts, y3, q1, q2, rfl⟩ := h2.resolve_right id
    exact ⟨ts, m', by simp [f__law_names, b__law_names, evF, evSs, evS, evs, evAnd, evOr, ev, evB, look, commit, R.d, R.kp, R.imm, R.sv, D.imm, D.imms, D.immC, setTg, setTs, bltR, binR, unR, ixR, tupR, lstR, dictTR, callR, slR, isiR, methR, lift, addS, subS, minS, maxS, modS, fdivS, mulS, negS, intS, wipeS, itList, itTup, itRng1, itRng2, mAppend, freeze, frz1, isnS, isnnS, hn', h1], q1, q2, hb⟩
  | _ => exact h2.elim
/-! numbers that are not taken -/
theorem pigeon : ∀ (n : Nat) (f : Nat → Int) (l : List Int), (∀ i j, i < n → j < n → f i = f j → i = j) → (∀ k, k < n → f k ∈ l) → n ≤ l.length
  | 0, _, _, _, _ => Nat.zero_le _
  | n + 1, f, l, hi, hm => by
    have h1 := hm n (Nat.lt_succ_self n)
    have h2 := pigeon n f (l.erase (f n)) (fun i j h1 h2 => hi i j (by omega) (by omega)) fun k hk =>
      (List.mem_erase_of_ne (fun e => by have := hi k n (by omega) (by omega) e; omega)).mpr (hm k (by omega))
    rw [List.length_erase_of_mem h1] at h2
    have := List.length_pos_of_mem h1
    omega
theorem nin_ints (x : Int) (l : List Int) : ∃ b, ninS (.int x) (.lst (l.map .int)) = some b ∧ (b = true ↔ x ∉ l) := by
  have h1 := inS_lst (x := .int x) (ds := l.map D.int) rfl (nbs_mem.mpr fun d hd => by
    obtain ⟨t, h1, rfl⟩ := List.mem_map.mp hd
    rfl) (by simp [D.dep]) (deps_le.mpr fun d hd => by
    obtain ⟨t, h1, rfl⟩ := List.mem_map.mp hd
    simp [D.dep])
  refine ⟨_, by simp only [ninS, h1]; rfl, ?_⟩
  rw [Bool.not_eq_true', decide_eq_false_iff_not, List.mem_map]
  constructor
  · intro h hx; exact h ⟨x, hx, rfl⟩
  · rintro h ⟨y, hy, e⟩; cases e; exact h hy
def stepN (n : Int) (k : Nat) : Int := (n - 1 + k) % 999999 + 1
theorem free_number {A : BA} (ids : List Int) (hl : ids.length ≤ 40) (n : Int) (h0 : 1 ≤ n) (h1 : n ≤ 999999) (a1 a2 a3 a4 a6 a7 y9 : SV) (a0 : SV) (m : Bag) : ∃ n' y9', n' ∉ ids ∧
    forL (.nm 9) (evSs (l__law_gift_rows_1 A)) (Ev.upTo 0 41) [a0, a1, a2, a3, a4, .own (.lst (ids.map .int)), a6, a7, .val (.int n), y9] m = some (.nx [a0, a1, a2, a3, a4, .own (.lst (ids.map .int)), a6, a7, .val (.int n'), y9'] m) := by
  obtain ⟨o, h2, h3⟩ := forL_range (body := evSs (l__law_gift_rows_1 A)) (tg := .nm 9) (fun i sl m' => m' = m ∧ (∃ y9, sl = [a0, a1, a2, a3, a4, .own (.lst (ids.map .int)), a6, a7, .val (.int (stepN n i)), y9]) ∧ ∀ k, k < i → stepN n k ∈ ids)
    (fun sl m' => m' = m ∧ ∃ n' y9, n' ∉ ids ∧ sl = [a0, a1, a2, a3, a4, .own (.lst (ids.map .int)), a6, a7, .val (.int n'), y9]) (fun _ _ => False) 41 0
    (fun i sl m' hi q => by
      obtain ⟨rfl, ⟨y9, rfl⟩, q⟩ := q
      obtain ⟨b, e1, e2⟩ := nin_ints (stepN n i) ids
      refine ⟨_, rfl, ?_⟩
      cases b with
      | true =>
        refine ⟨.bk [a0, a1, a2, a3, a4, .own (.lst (ids.map .int)), a6, a7, .val (.int (stepN n i)), .val (.int (0 + (i : Int)))] m', ?_, rfl, _, _, e2.mp rfl, rfl⟩
        simp [evSs, evS, evs, evAnd, evOr, ev, evB, look, commit, R.d, R.kp, R.imm, R.sv, D.imm, D.imms, D.immC, setTg, setTs, bltR, binR, unR, ixR, tupR, lstR, dictTR, callR, slR, isiR, methR, lift, addS, subS, minS, maxS, modS, fdivS, mulS, negS, intS, wipeS, itList, itTup, itRng1, itRng2, mAppend, freeze, frz1, isnS, isnnS, l__law_gift_rows_1, e1]
      | false =>
        have hin : stepN n i ∈ ids := Decidable.byContradiction fun z => by have := e2.mpr z; cases this
        have es : stepN n i % 999999 + 1 = stepN n (i + 1) := by unfold stepN; omega
        have md : modS [.int (stepN n i), .int 999999] = some (.val (.int (stepN n i % 999999))) := mod_pos (by decide)
        have ad : addS [.int (stepN n i % 999999), .int 1] = some (.val (.int (stepN n (i + 1)))) := by rw [← es]; rfl
        refine ⟨.nx [a0, a1, a2, a3, a4, .own (.lst (ids.map .int)), a6, a7, .val (.int (stepN n (i + 1))), .val (.int (0 + (i : Int)))] m', ?_, rfl, ⟨_, rfl⟩, fun k hk => ?_⟩
        · simp [evSs, evS, evs, ev, evB, look, commit, R.d, R.kp, R.imm, R.sv, bltR, binR, lift, intS, l__law_gift_rows_1, e1, md, ad]
        · rcases Nat.lt_or_ge k i with z | z
          · exact q k z
          · have : k = i := by omega
            subst this; exact hin) [a0, a1, a2, a3, a4, .own (.lst (ids.map .int)), a6, a7, .val (.int n), y9] m ⟨rfl, ⟨_, by
              have : stepN n 0 = n := by unfold stepN; omega
              rw [this]⟩, fun k hk => by omega⟩
  cases o with
  | nx sl m' =>
    rcases h3 with ⟨rfl, _, q⟩ | ⟨rfl, n', y9', q1, rfl⟩
    · have := pigeon 41 (stepN n) ids (fun i j hi hj e => by unfold stepN at e; omega) q
      omega
    · exact ⟨n', y9', q1, h2⟩
  | _ => exact h3.elim
theorem gift_rows_ok {A : BA} (hA : AOk A) {m : Bag} (hm : BOk m) (n : Nat) (hn : n ≤ 40) {top great : Int} (t1 : 1 ≤ top) (t2 : top < 1073741824) (g1 : 1 ≤ great) (g2 : great < 1073741824) :
    ∃ (gs : List (Int × Int × Int)) (m' : Bag), f__law_gift_rows A [.ref A.ab, .int (n : Int), .int top, .int great] m = some (.own (.lst (gs.map gD)), m') ∧ GsOk gs ∧ gs.length = n ∧ BOk m' := by
  have hn' : ((n : Int) ≤ 1000000000) := by omega
  obtain ⟨wide, m0, d0, w1, w2, b0⟩ := draw_ok hA hm (size := 2) (by decide) (by decide)
  obtain ⟨o, h1, h2⟩ := forL_range (body := evSs (l__law_gift_rows_2 A)) (tg := .nm 6) (fun i sl m' => BOk m' ∧ ∃ (ids : List Int) (y6 y8 y9 : SV), ids.length = i ∧ ids.Nodup ∧ sl = [.val (.ref A.ab), .val (.int n), .val (.int top), .val (.int great), .val (.int wide), .own (.lst (ids.map .int)), y6, .non, y8, y9]) (fun _ _ => False) (fun _ _ => False) n 0
    (fun i sl m' hi q => by
      obtain ⟨hb, ids, y6, y8, y9, q1, q2, rfl⟩ := q
      obtain ⟨r1, m1, d1, a1, a2, b1⟩ := draw_ok hA hb (size := 60) (by decide) (by decide)
      obtain ⟨r2, m2, d2, a3, a4, b2⟩ := draw_ok hA b1 (size := 999999) (by decide) (by decide)
      have hlen : ids.length < 16777216 := by omega
      have ad1 : addS [.int 1, .int r1] = some (.val (.int (1 + r1))) := rfl
      have ad2 : addS [.int 1, .int r2] = some (.val (.int (1 + r2))) := rfl
      have fin : ∀ (n' : Int), n' ∉ ids → (ids ++ [n']).Nodup := fun n' hn' => by
        rw [List.nodup_append]
        exact ⟨q2, by simp, fun a ha b hb e => by simp at hb; exact hn' (hb ▸ e ▸ ha)⟩
      by_cases hw : wide = 1
      · have ew : eqS (.int wide) (.int 1) = some true := by simp [eqS, hw]
        obtain ⟨n', y9', f1, f2⟩ := free_number (A := A) ids (by omega) (1 + r2) (by omega) (by omega) (.val (.int n)) (.val (.int top)) (.val (.int great)) (.val (.int wide)) (.val (.int (0 + (i : Int)))) .non y9 (.val (.ref A.ab)) m2
        refine ⟨_, rfl, .nx [.val (.ref A.ab), .val (.int n), .val (.int top), .val (.int great), .val (.int wide), .own (.lst ((ids ++ [n']).map .int)), .val (.int (0 + (i : Int))), .non, .val (.int n'), y9'] m2, ?_, b2, _, _, _, _, by simp [q1], fin n' f1, rfl⟩
        simp only [Int.zero_add] at f2
        simp [evSs, evS, evs, ev, evB, look, commit, R.d, R.kp, R.imm, R.sv, bltR, binR, callR, lift, itRng1, mAppend, l__law_gift_rows_2, d1, d2, ad1, ad2, ew, f2, hlen]
      · have ew : eqS (.int wide) (.int 1) = some false := by simp [eqS, hw]
        obtain ⟨n', y9', f1, f2⟩ := free_number (A := A) ids (by omega) (1 + r1) (by omega) (by omega) (.val (.int n)) (.val (.int top)) (.val (.int great)) (.val (.int wide)) (.val (.int (0 + (i : Int)))) .non y9 (.val (.ref A.ab)) m1
        refine ⟨_, rfl, .nx [.val (.ref A.ab), .val (.int n), .val (.int top), .val (.int great), .val (.int wide), .own (.lst ((ids ++ [n']).map .int)), .val (.int (0 + (i : Int))), .non, .val (.int n'), y9'] m1, ?_, b1, _, _, _, _, by simp [q1], fin n' f1, rfl⟩
        simp only [Int.zero_add] at f2
        simp [evSs, evS, evs, ev, evB, look, commit, R.d, R.kp, R.imm, R.sv, bltR, binR, callR, lift, itRng1, mAppend, l__law_gift_rows_2, d1, ad1, ew, f2, hlen]) [.val (.ref A.ab), .val (.int n), .val (.int top), .val (.int great), .val (.int wide), .own (.lst []), .non, .non, .non, .non] m0 ⟨b0, [], _, _, _, rfl, by simp, rfl⟩
  cases o with
  | nx sl m1 =>
    obtain ⟨hb, ids, y6, y8, y9, q1, q2, rfl⟩ := h2.resolve_right id
    obtain ⟨ys, m2, e1, ns, e2, e3, e4⟩ := ev_comp (use := []) (own := [("k", 6)]) (it := itRng1) (ix := .cons (.var 1) .nil) (tg := .nm 6) (cs := .nil) (elt := .app (callR "_law_draw" (f__law_draw A)) (.cons (.var 0) (.cons (.var 2) .nil)))
      (sl := [.val (.ref A.ab), .val (.int n), .val (.int top), .val (.int great), .val (.int wide), .own (.lst (ids.map .int)), y6, .non, y8, y9]) (m := m1) (m1 := m1) (ds := [.int n]) (as := List.range n) (fun (i : Nat) => D.int (0 + (i : Int)))
      (fun as ys m' => ∃ ns : List Int, ys = ns.map .int ∧ ns.length + as.length = n ∧ BOk m') (by simp [evSs, evS, evs, evAnd, evOr, ev, evB, look, commit, R.d, R.kp, R.imm, R.sv, D.imm, D.imms, D.immC, setTg, setTs, bltR, binR, unR, ixR, tupR, lstR, dictTR, callR, slR, isiR, methR, lift, addS, subS, minS, maxS, modS, fdivS, mulS, negS, intS, wipeS, itList, itTup, itRng1, itRng2, mAppend, freeze, frz1, isnS, isnnS]) (by simp [itRng1, hn', upTo_range]) (by simp; omega) ⟨[], rfl, by simp, hb⟩
      (fun a as ys m' q => by
        obtain ⟨ns, rfl, q2, q3⟩ := q
        obtain ⟨r, m3, d3, _, _, b3⟩ := draw_ok hA q3 t1 t2
        refine ⟨_, rfl, .inl ⟨m', .val (.int r), m3, rfl, ?_, ns ++ [r], by simp [R.d], by simp at q2 ⊢; omega, b3⟩⟩
        simp [evSs, evS, evs, evAnd, evOr, ev, evB, look, commit, R.d, R.kp, R.imm, R.sv, D.imm, D.imms, D.immC, setTg, setTs, bltR, binR, unR, ixR, tupR, lstR, dictTR, callR, slR, isiR, methR, lift, addS, subS, minS, maxS, modS, fdivS, mulS, negS, intS, wipeS, itList, itTup, itRng1, itRng2, mAppend, freeze, frz1, isnS, isnnS, d3])
    subst e2
    obtain ⟨days, s1, s2, s3, s4⟩ := sorted_ints ns (by simp at e3; omega)
    have hlen : days.length = n := by simp at e3; omega
    obtain ⟨zs, m3, e5, gs, e6, e7, e8, e9, e10, e11⟩ := ev_comp (use := [5]) (own := [("k", 6)]) (it := itRng1) (ix := .cons (.var 1) .nil) (tg := .nm 6) (cs := .nil)
      (elt := .app tupR (.cons (.app ixR (.cons (.var 5) (.cons (.var 6) .nil))) (.cons (.app ixR (.cons (.var 7) (.cons (.var 6) .nil))) (.cons (.app (binR .Add addS) (.cons (.con (.int 1)) (.cons (.app (callR "_law_draw" (f__law_draw A)) (.cons (.var 0) (.cons (.var 3) .nil))) .nil))) .nil))))
      (sl := [.val (.ref A.ab), .val (.int n), .val (.int top), .val (.int great), .val (.int wide), .own (.lst (ids.map .int)), y6, .val (.lst (days.map .int)), y8, y9]) (m := m2) (m1 := m2) (ds := [.int n]) (as := List.range n) (fun (i : Nat) => D.int (0 + (i : Int)))
      (fun as ys m' => ∃ gs : List (Int × Int × Int), ys = gs.map gD ∧ as = (List.range n).drop gs.length ∧ gs.map (·.1) = ids.take gs.length ∧ gs.map (·.2.1) = days.take gs.length ∧ (∀ g ∈ gs, 0 < g.2.2) ∧ BOk m') (by simp [evSs, evS, evs, evAnd, evOr, ev, evB, look, commit, R.d, R.kp, R.imm, R.sv, D.imm, D.imms, D.immC, setTg, setTs, bltR, binR, unR, ixR, tupR, lstR, dictTR, callR, slR, isiR, methR, lift, addS, subS, minS, maxS, modS, fdivS, mulS, negS, intS, wipeS, itList, itTup, itRng1, itRng2, mAppend, freeze, frz1, isnS, isnnS]) (by simp [itRng1, hn', upTo_range]) (by simp; omega) ⟨[], rfl, by simp, by simp, by simp, by simp, e4⟩
      (fun a as ys m' q => by
        obtain ⟨gs, rfl, q2, q3, q4, q5, q6⟩ := q
        obtain ⟨r, m3, d3, r0, _, b3⟩ := draw_ok hA q6 g1 g2
        have hk : gs.length < n := by
          rcases Nat.lt_or_ge gs.length n with z | z
          · exact z
          · rw [List.drop_of_length_le (by simpa using z)] at q2; cases q2
        rw [List.drop_eq_getElem_cons (by simpa using hk)] at q2
        injection q2 with qa qb
        simp only [List.getElem_range] at qa
        obtain ⟨x, hx⟩ : ∃ x, ids[gs.length]? = some x := ⟨_, List.getElem?_eq_getElem (by omega)⟩
        obtain ⟨d, hd⟩ : ∃ x, days[gs.length]? = some x := ⟨_, List.getElem?_eq_getElem (by omega)⟩
        have x1 : atI (ids.map D.int) (a : Int) = some (.int x) := by rw [qa, ixn, List.getElem?_map, hx]; rfl
        have x2 : atI (days.map D.int) (a : Int) = some (.int d) := by rw [qa, ixn, List.getElem?_map, hd]; rfl
        refine ⟨_, rfl, .inl ⟨m', .val (gD (x, d, 1 + r)), m3, rfl, ?_, gs ++ [(x, d, 1 + r)], by simp [R.d], by simpa using qb, ?_, ?_, ?_, b3⟩⟩
        · simp [evSs, evS, evs, evAnd, evOr, ev, evB, look, commit, R.d, R.kp, R.imm, R.sv, D.imm, D.imms, D.immC, setTg, setTs, bltR, binR, unR, ixR, tupR, lstR, dictTR, callR, slR, isiR, methR, lift, addS, subS, minS, maxS, modS, fdivS, mulS, negS, intS, wipeS, itList, itTup, itRng1, itRng2, mAppend, freeze, frz1, isnS, isnnS, ixS_lst, x1, x2, d3, gD]
        · rw [List.length_append, List.length_singleton, List.take_add_one, hx, ← q3]; simp
        · rw [List.length_append, List.length_singleton, List.take_add_one, hd, ← q4]; simp
        · intro g hg
          rcases List.mem_append.mp hg with z | z
          · exact q5 g z
          · simp at z; subst z; show 0 < 1 + r; omega)
    subst e6
    have hgl : gs.length = n := by
      have h1 := congrArg List.length e7
      have h2 := congrArg List.length e8
      simp at h1 h2
      omega
    refine ⟨gs, m3, ?_, ⟨?_, ?_, e10⟩, hgl, e11⟩
    · have e1' : ev [] (e__law_gift_rows_1 A) [.val (.ref A.ab), .val (.int n), .val (.int top), .val (.int great), .val (.int wide), .own (.lst (ids.map .int)), y6, .non, y8, y9] m1 = _ := e1
      have e5' : ev [5] (e__law_gift_rows_2 A) [.val (.ref A.ab), .val (.int n), .val (.int top), .val (.int great), .val (.int wide), .own (.lst (ids.map .int)), y6, .val (.lst (days.map .int)), y8, y9] m2 = _ := e5
      simp [f__law_gift_rows, b__law_gift_rows, evF, evSs, evS, evs, evAnd, evOr, ev, evB, look, commit, R.d, R.kp, R.imm, R.sv, D.imm, D.imms, D.immC, setTg, setTs, bltR, binR, unR, ixR, tupR, lstR, dictTR, callR, slR, isiR, methR, lift, addS, subS, minS, maxS, modS, fdivS, mulS, negS, intS, wipeS, itList, itTup, itRng1, itRng2, mAppend, freeze, frz1, isnS, isnnS, d0, hn', h1, e1', s1, e5']
    · rw [e8]
      exact q2.sublist (List.take_sublist _ _)
    · have : (gs.map (·.2.1)).Pairwise (· ≤ ·) := by rw [e9]; exact s4.sublist (List.take_sublist _ _)
      exact List.pairwise_map.mp this
  | _ => exact h2.elim
end K50

set_option Elab.async false
set_option linter.all false
set_option maxRecDepth 100000
set_option maxHeartbeats 4000000
namespace K50
open PySem PySem.Spec PyProof.Rows L2 Ev
theorem num_ok (i : Int) : PyData.strOk (PySem.Str.ofString (toString i)) = true := by
  unfold PyData.strOk
  rw [← Array.all_toList, List.all_eq_true]
  intro c hc
  have := PySem.W.KSb.asc_num i c hc
  exact decide_eq_true (by omega)
theorem str_ok {n : Int} (h0 : -1 ≤ n) (h1 : n ≤ 1000000) : strS [.int n] = some (.val (.str (PySem.Str.ofString (toString n)))) := by
  show (if n.natAbs.log2 < 1920 then some (R.val (.str (toString n : String))) else none) = _
  have : n.natAbs.log2 < 1920 := by
    by_cases h : n.natAbs = 0
    · rw [h]; decide
    · have h2 : n.natAbs < 2 ^ 20 := by
        have : n.natAbs ≤ 1000000 := by omega
        omega
      have := (Nat.log2_lt h).mpr h2
      omega
  rw [if_pos this]
def KeysOk (ks : List D) : Prop := ∀ k ∈ ks, KeyOk k ∧ ∀ i, k = .int i → -1 ≤ i ∧ i < 2000000 + (ks.length : Int)
theorem in_keys {ks : List D} (h : KeysOk ks) {k : D} (hk : KeyOk k) : ∃ b, inS k (.lst ks) = some b ∧ (b = true ↔ k ∈ ks) := by
  have h1 := inS_lst (x := k) (ds := ks) hk.1 (nbs_mem.mpr fun d hd => (h d hd).1.1) (Nat.le_trans hk.2 (by decide)) (deps_le.mpr fun d hd => Nat.le_trans (h d hd).1.2 (by decide))
  exact ⟨_, h1, by simp only [decide_eq_true_eq]⟩
theorem use_key_ok {A : BA} (hA : AOk A) {m : Bag} (hm : BOk m) {ts : List Str} (ht : ∀ t ∈ ts, PyData.strOk t = true) (hl : 3 ≤ ts.length) (hl2 : ts.length ≤ 1000) {ks : List D} (hks : KeysOk ks) (hkl : ks.length ≤ 1000) :
    ∃ key m', f__law_use_key A [.ref A.ab, .lst (ts.map D.str), .lst ks] m = some (.val key, m') ∧ KeyOk key ∧ key.imm = true ∧ key ∉ ks ∧ (∀ i, key = .int i → -1 ≤ i ∧ i < 2000000 + (ks.length : Int) + 1) ∧ BOk m' := by
  obtain ⟨r1, m1, d1, a1, a2, b1⟩ := draw_ok hA hm (size := 5) (by decide) (by decide)
  obtain ⟨r2, m2, d2, a3, a4, b2⟩ := draw_ok hA b1 (size := 6) (by decide) (by decide)
  obtain ⟨n, hn, n0, n1⟩ : ∃ n, atI [D.int 0, .int 1, .int 2, .int (-1), .int 1000000] r1 = some (.int n) ∧ -1 ≤ n ∧ n ≤ 1000000 := by
    have : r1 = 0 ∨ r1 = 1 ∨ r1 = 2 ∨ r1 = 3 ∨ r1 = 4 := by omega
    rcases this with rfl | rfl | rfl | rfl | rfl <;> exact ⟨_, rfl, by decide, by decide⟩
  have sb : subS [.int 0, .int 1] = some (.val (.int (-1))) := rfl
  obtain ⟨sn, st, so⟩ : ∃ s, strS [.int n] = some (.val (.str s)) ∧ PyData.strOk s = true := ⟨_, str_ok n0 n1, num_ok n⟩
  have ad : addS [.int 2000000, .int (ks.length : Int)] = some (.val (.int (2000000 + (ks.length : Int)))) := rfl
  have newk : KeyOk (.int (2000000 + (ks.length : Int))) ∧ (D.int (2000000 + (ks.length : Int))).imm = true ∧ D.int (2000000 + (ks.length : Int)) ∉ ks ∧ (∀ i, D.int (2000000 + (ks.length : Int)) = .int i → -1 ≤ i ∧ i < 2000000 + (ks.length : Int) + 1) := by
    refine ⟨keyInt _, rfl, fun z => ?_, fun i e => by cases e; omega⟩
    have := (hks _ z).2 _ rfl
    omega
  obtain ⟨t0, x0⟩ : ∃ x, ts[0]? = some x := ⟨_, List.getElem?_eq_getElem (by omega)⟩
  obtain ⟨t1, x1⟩ : ∃ x, ts[1]? = some x := ⟨_, List.getElem?_eq_getElem (by omega)⟩
  obtain ⟨t2, x2⟩ : ∃ x, ts[2]? = some x := ⟨_, List.getElem?_eq_getElem (by omega)⟩
  have y0 : atI (ts.map D.str) 0 = some (.str t0) := by have := ixn (ts.map D.str) 0; rw [List.getElem?_map, x0] at this; exact this
  have y1 : atI (ts.map D.str) 1 = some (.str t1) := by have := ixn (ts.map D.str) 1; rw [List.getElem?_map, x1] at this; exact this
  have y2 : atI (ts.map D.str) 2 = some (.str t2) := by have := ixn (ts.map D.str) 2; rw [List.getElem?_map, x2] at this; exact this
  have z0 := ht t0 (List.mem_of_getElem? x0)
  have z1 := ht t1 (List.mem_of_getElem? x1)
  have z2 := ht t2 (List.mem_of_getElem? x2)
  have zg : PyData.strOk ("gift" : Str) = true := by decide +kernel
  obtain ⟨r4, m4, d4, a7, a8, b4⟩ := draw_ok hA b2 (size := (ts.length : Int)) (by omega) (by omega)
  obtain ⟨t4, x4, x5⟩ := atI_in (l := ts) a7 a8
  have y4 : atI (ts.map D.str) r4 = some (.str t4) := by
    have e : r4 = (r4.toNat : Int) := by omega
    rw [e, ixn, List.getElem?_map, x5]; rfl
  have z4 := ht t4 (List.mem_of_getElem? x5)
  have : r2 = 0 ∨ r2 = 1 ∨ r2 = 2 ∨ r2 = 3 ∨ r2 = 4 ∨ r2 = 5 := by omega
  rcases this with rfl | rfl | rfl | rfl | rfl | rfl
  · have hk : KeyOk (.int n) := ⟨rfl, by simp [D.dep]⟩
    obtain ⟨b, hb1, hb2⟩ := in_keys hks hk
    cases b with
    | true =>
      refine ⟨_, m2, ?_, newk.1, newk.2.1, newk.2.2.1, newk.2.2.2, b2⟩
      simp [f__law_use_key, b__law_use_key, evF, evSs, evS, evs, ev, evB, look, commit, R.d, R.kp, R.imm, R.sv, bltR, binR, ixR, lstR, tupR, callR, lift, lenS, d1, d2, sb, hn, eqS, st, ad, ixS_lst, y0, y1, y2, d4, y4, hb1]
    | false =>
      refine ⟨(.int n), m2, ?_, hk, rfl, (fun z => by have := hb2.mpr z; cases this), (fun i e => by cases e; omega), b2⟩
      simp [f__law_use_key, b__law_use_key, evF, evSs, evS, evs, ev, evB, look, commit, R.d, R.kp, R.imm, R.sv, bltR, binR, ixR, lstR, tupR, callR, lift, lenS, d1, d2, sb, hn, eqS, st, ad, ixS_lst, y0, y1, y2, d4, y4, hb1]
  · have hk : KeyOk (.str sn) := ⟨so, by simp [D.dep]⟩
    obtain ⟨b, hb1, hb2⟩ := in_keys hks hk
    cases b with
    | true =>
      refine ⟨_, m2, ?_, newk.1, newk.2.1, newk.2.2.1, newk.2.2.2, b2⟩
      simp [f__law_use_key, b__law_use_key, evF, evSs, evS, evs, ev, evB, look, commit, R.d, R.kp, R.imm, R.sv, bltR, binR, ixR, lstR, tupR, callR, lift, lenS, d1, d2, sb, hn, eqS, st, ad, ixS_lst, y0, y1, y2, d4, y4, hb1]
    | false =>
      refine ⟨(.str sn), m2, ?_, hk, rfl, (fun z => by have := hb2.mpr z; cases this), (fun i e => by cases e), b2⟩
      simp [f__law_use_key, b__law_use_key, evF, evSs, evS, evs, ev, evB, look, commit, R.d, R.kp, R.imm, R.sv, bltR, binR, ixR, lstR, tupR, callR, lift, lenS, d1, d2, sb, hn, eqS, st, ad, ixS_lst, y0, y1, y2, d4, y4, hb1]
  · have hk : KeyOk (.tup [.int n]) := ⟨by simp [D.nb, D.nbs], by simp [D.dep, D.deps]⟩
    obtain ⟨b, hb1, hb2⟩ := in_keys hks hk
    cases b with
    | true =>
      refine ⟨_, m2, ?_, newk.1, newk.2.1, newk.2.2.1, newk.2.2.2, b2⟩
      simp [f__law_use_key, b__law_use_key, evF, evSs, evS, evs, ev, evB, look, commit, R.d, R.kp, R.imm, R.sv, bltR, binR, ixR, lstR, tupR, callR, lift, lenS, d1, d2, sb, hn, eqS, st, ad, ixS_lst, y0, y1, y2, d4, y4, hb1]
    | false =>
      refine ⟨(.tup [.int n]), m2, ?_, hk, rfl, (fun z => by have := hb2.mpr z; cases this), (fun i e => by cases e), b2⟩
      simp [f__law_use_key, b__law_use_key, evF, evSs, evS, evs, ev, evB, look, commit, R.d, R.kp, R.imm, R.sv, bltR, binR, ixR, lstR, tupR, callR, lift, lenS, d1, d2, sb, hn, eqS, st, ad, ixS_lst, y0, y1, y2, d4, y4, hb1]
  · have hk : KeyOk (.tup [.int n, .tup [.str ("gift" : Str), .str t0, .str t1, .str t2]]) := ⟨by simp [D.nb, D.nbs, z0, z1, z2, zg], by simp [D.dep, D.deps]⟩
    obtain ⟨b, hb1, hb2⟩ := in_keys hks hk
    cases b with
    | true =>
      refine ⟨_, m2, ?_, newk.1, newk.2.1, newk.2.2.1, newk.2.2.2, b2⟩
      simp [f__law_use_key, b__law_use_key, evF, evSs, evS, evs, ev, evB, look, commit, R.d, R.kp, R.imm, R.sv, bltR, binR, ixR, lstR, tupR, callR, lift, lenS, d1, d2, sb, hn, eqS, st, ad, ixS_lst, y0, y1, y2, d4, y4, hb1]
    | false =>
      refine ⟨(.tup [.int n, .tup [.str ("gift" : Str), .str t0, .str t1, .str t2]]), m2, ?_, hk, rfl, (fun z => by have := hb2.mpr z; cases this), (fun i e => by cases e), b2⟩
      simp [f__law_use_key, b__law_use_key, evF, evSs, evS, evs, ev, evB, look, commit, R.d, R.kp, R.imm, R.sv, bltR, binR, ixR, lstR, tupR, callR, lift, lenS, d1, d2, sb, hn, eqS, st, ad, ixS_lst, y0, y1, y2, d4, y4, hb1]
  · have hk : KeyOk (.str t4) := ⟨z4, by simp [D.dep]⟩
    obtain ⟨b, hb1, hb2⟩ := in_keys hks hk
    cases b with
    | true =>
      refine ⟨_, m4, ?_, newk.1, newk.2.1, newk.2.2.1, newk.2.2.2, b4⟩
      simp [f__law_use_key, b__law_use_key, evF, evSs, evS, evs, ev, evB, look, commit, R.d, R.kp, R.imm, R.sv, bltR, binR, ixR, lstR, tupR, callR, lift, lenS, d1, d2, sb, hn, eqS, st, ad, ixS_lst, y0, y1, y2, d4, y4, hb1]
    | false =>
      refine ⟨(.str t4), m4, ?_, hk, rfl, (fun z => by have := hb2.mpr z; cases this), (fun i e => by cases e), b4⟩
      simp [f__law_use_key, b__law_use_key, evF, evSs, evS, evs, ev, evB, look, commit, R.d, R.kp, R.imm, R.sv, bltR, binR, ixR, lstR, tupR, callR, lift, lenS, d1, d2, sb, hn, eqS, st, ad, ixS_lst, y0, y1, y2, d4, y4, hb1]
  · have hk : KeyOk (.tup [.str sn, .int n]) := ⟨by simp [D.nb, D.nbs, so], by simp [D.dep, D.deps]⟩
    obtain ⟨b, hb1, hb2⟩ := in_keys hks hk
    cases b with
    | true =>
      refine ⟨_, m2, ?_, newk.1, newk.2.1, newk.2.2.1, newk.2.2.2, b2⟩
      simp [f__law_use_key, b__law_use_key, evF, evSs, evS, evs, ev, evB, look, commit, R.d, R.kp, R.imm, R.sv, bltR, binR, ixR, lstR, tupR, callR, lift, lenS, d1, d2, sb, hn, eqS, st, ad, ixS_lst, y0, y1, y2, d4, y4, hb1]
    | false =>
      refine ⟨(.tup [.str sn, .int n]), m2, ?_, hk, rfl, (fun z => by have := hb2.mpr z; cases this), (fun i e => by cases e), b2⟩
      simp [f__law_use_key, b__law_use_key, evF, evSs, evS, evs, ev, evB, look, commit, R.d, R.kp, R.imm, R.sv, bltR, binR, ixR, lstR, tupR, callR, lift, lenS, d1, d2, sb, hn, eqS, st, ad, ixS_lst, y0, y1, y2, d4, y4, hb1]
end K50

set_option Elab.async false
set_option linter.all false
set_option maxRecDepth 100000
set_option maxHeartbeats 4000000
namespace K50
open PySem PySem.Spec PyProof.Rows L2 Ev
theorem minS_ok (i j : Int) : minS [.int i, .int j] = some (.val (.int (min i j))) := by rw [← if_min]; rfl
theorem maxS_ok (i j : Int) : maxS [.int i, .int j] = some (.val (.int (max i j))) := by rw [← if_max]; rfl
theorem use_days_ok {A : BA} (hA : AOk A) {m : Bag} (hm : BOk m) (gs : List (Int × Int × Int)) (hg : gs.length ≤ 1000) (n : Nat) (hn : n ≤ 40) {top : Int} (t1 : 1 ≤ top) (t2 : top < 1073741824) :
    ∃ (ds : List Int) (m' : Bag), f__law_use_days A [.ref A.ab, .lst (gs.map gD), .int (n : Int), .int top] m = some (.own (.lst (ds.map .int)), m') ∧ ds.Pairwise (· ≤ ·) ∧ ds.length = n ∧ BOk m' := by
  have hn' : ((n : Int) ≤ 1000000000) := by omega
  obtain ⟨o, h1, h2⟩ := forL_range (body := evSs (l__law_use_days_1 A)) (tg := .nm 5) (fun i sl m' => BOk m' ∧ ∃ (ds : List Int) (y5 y6 : SV), ds.length = i ∧ sl = [.val (.ref A.ab), .val (.lst (gs.map gD)), .val (.int n), .val (.int top), .own (.lst (ds.map .int)), y5, y6]) (fun _ _ => False) (fun _ _ => False) n 0
    (fun i sl m' hi q => by
      obtain ⟨hb, ds, y5, y6, q1, rfl⟩ := q
      obtain ⟨r1, m1, d1, a1, a2, b1⟩ := draw_ok hA hb t1 t2
      have hlen : ds.length < 16777216 := by omega
      cases hgs : gs with
      | nil =>
        subst hgs
        have e0 : gtS (.int 0) (.int 0) = some false := rfl
        refine ⟨_, rfl, .nx [.val (.ref A.ab), .val (.lst (([] : List (Int × Int × Int)).map gD)), .val (.int n), .val (.int top), .own (.lst ((ds ++ [max 0 (min 9999 r1)]).map .int)), .val (.int (0 + (i : Int))), .val (.int r1)] m1, ?_, b1, _, _, _, by simp [q1], rfl⟩
        simp [evSs, evS, evs, evAnd, ev, evB, look, commit, R.d, R.kp, R.imm, R.sv, bltR, binR, ixR, callR, lift, lenS, mAppend, l__law_use_days_1, d1, e0, minS_ok, maxS_ok, hlen]
      | cons g0 gs0 =>
        have hpos : 0 < gs.length := by rw [hgs]; simp
        rw [← hgs]
        clear hgs
        have e0 : gtS (.int (gs.length : Int)) (.int 0) = some true := by simp [gtS, cmpS]; omega
        obtain ⟨r2, m2, d2, a3, a4, b2⟩ := draw_ok hA b1 (size := 4) (by decide) (by decide)
        have e1 : gtS (.int r2) (.int 0) = some (decide (0 < r2)) := rfl
        by_cases hr : 0 < r2
        · rw [decide_eq_true hr] at e1
          obtain ⟨r3, m3, d3, a5, a6, b3⟩ := draw_ok hA b2 (size := (gs.length : Int)) (by omega) (by omega)
          obtain ⟨r4, m4, d4, a7, a8, b4⟩ := draw_ok hA b3 (size := 3) (by decide) (by decide)
          obtain ⟨g, x1, x2⟩ := atI_in (l := gs) a5 a6
          have y1 : atI (gs.map gD) r3 = some (gD g) := by
            have e : r3 = (r3.toNat : Int) := by omega
            rw [e, ixn, List.getElem?_map, x2]; rfl
          refine ⟨_, rfl, .nx [.val (.ref A.ab), .val (.lst (gs.map gD)), .val (.int n), .val (.int top), .own (.lst ((ds ++ [max 0 (min 9999 (g.2.1 + r4 - 1))]).map .int)), .val (.int (0 + (i : Int))), .val (.int (g.2.1 + r4 - 1))] m4, ?_, b4, _, _, _, by simp [q1], rfl⟩
          simp [evSs, evS, evs, evAnd, ev, evB, look, commit, R.d, R.kp, R.imm, R.sv, bltR, binR, ixR, callR, lift, lenS, addS, subS, mAppend, l__law_use_days_1, d1, e0, d2, e1, d3, ixS_lst, y1, gD, ixS_tup, ix1, d4, minS_ok, maxS_ok, hlen]
        · rw [decide_eq_false hr] at e1
          refine ⟨_, rfl, .nx [.val (.ref A.ab), .val (.lst (gs.map gD)), .val (.int n), .val (.int top), .own (.lst ((ds ++ [max 0 (min 9999 r1)]).map .int)), .val (.int (0 + (i : Int))), .val (.int r1)] m2, ?_, b2, _, _, _, by simp [q1], rfl⟩
          simp [evSs, evS, evs, evAnd, ev, evB, look, commit, R.d, R.kp, R.imm, R.sv, bltR, binR, ixR, callR, lift, lenS, mAppend, l__law_use_days_1, d1, e0, d2, e1, minS_ok, maxS_ok, hlen]) [.val (.ref A.ab), .val (.lst (gs.map gD)), .val (.int n), .val (.int top), .own (.lst []), .non, .non] m ⟨hm, [], _, _, rfl, rfl⟩
  cases o with
  | nx sl m' =>
    obtain ⟨hb, ds, y5, y6, q1, rfl⟩ := h2.resolve_right id
    obtain ⟨es, s1, s2, s3, s4⟩ := sorted_ints ds (by omega)
    exact ⟨es, m', by simp [f__law_use_days, b__law_use_days, evF, evSs, evS, evs, evAnd, evOr, ev, evB, look, commit, R.d, R.kp, R.imm, R.sv, D.imm, D.imms, D.immC, setTg, setTs, bltR, binR, unR, ixR, tupR, lstR, dictTR, callR, slR, isiR, methR, lift, addS, subS, minS, maxS, modS, fdivS, mulS, negS, intS, wipeS, itList, itTup, itRng1, itRng2, mAppend, freeze, frz1, isnS, isnnS, hn', h1, s1], s4, by omega, hb⟩
  | _ => exact h2.elim
structure UK (us : List (D × Int × Int)) : Prop where
  ok : UsOk us
  key : ∀ u ∈ us, KeyOk u.1
  int : ∀ u ∈ us, ∀ i, u.1 = .int i → -1 ≤ i ∧ i ≤ 3000000
theorem sumU_app (us : List (D × Int × Int)) (u : D × Int × Int) {k : Nat} (h : k ≤ us.length) : sumU (us ++ [u]) k = sumU us k := by
  unfold sumU pre
  rw [List.map_append, List.take_append_of_le_length (by simpa using h)]
theorem use_rows_ok {A : BA} (hA : AOk A) {m : Bag} (hm : BOk m) (gs : List (Int × Int × Int)) (hg : gs.length ≤ 1000) (ds : List Int) (hd : ds.Pairwise (· ≤ ·)) (hdl : ds.length ≤ 40) {great : Int} (t1 : 1 ≤ great) (t2 : great < 1073741824) (fr : Bool) :
    ∃ (us : List (D × Int × Int)) (m' : Bag), f__law_use_rows A [.ref A.ab, .lst (gs.map gD), .lst (ds.map .int), .int great, .bl fr] m = some (.own (.lst (us.map uD)), m') ∧ UK us ∧ us.length ≤ ds.length ∧ (fr = false → NoOutrun gs us) ∧ BOk m' := by
  obtain ⟨ts, m0, n1, n2, n3, b0⟩ := names_ok hA hm 6 (by decide)
  obtain ⟨o, h1, h2⟩ := forL_rule (body := evSs (l__law_use_rows_1 A)) (tg := .nm 8) D.int (fun as sl m' => BOk m' ∧ ∃ (us : List (D × Int × Int)) (done : List Int) (y8 y9 y10 y11 : SV), done ++ as = ds ∧ (us.map (·.2.1)).Sublist done ∧ (us.map (·.1)).Nodup ∧ KeysOk (us.map (·.1)) ∧ (∀ u ∈ us, 0 < u.2.2) ∧ (fr = false → NoOutrun gs us) ∧
      sl = [.val (.ref A.ab), .val (.lst (gs.map gD)), .val (.lst (ds.map .int)), .val (.int great), .val (.bl fr), .val (.lst (ts.map D.str)), .own (.lst (us.map uD)), .val (.int (sumU us us.length)), y8, y9, y10, y11]) (fun _ _ => False) (fun _ _ => False)
    (fun a as sl m' q => by
      obtain ⟨hb, us, done, y8, y9, y10, y11, q1, q2, q3, q4, q5, q6, rfl⟩ := q
      have hul : us.length ≤ 40 := by
        have h1 := q2.length_le
        have h2 := congrArg List.length q1
        simp at h1 h2
        omega
      have hlen : us.length < 16777216 := by omega
      have hlen' : us.length ≤ 16777216 := by omega
      have hcome : ∀ m, f__law_come [.lst (gs.map gD), .int a] m = some (.val (.int (comeF gs a)), m) := fun m => come_ok gs (by omega) a m
      -- the end of a turn, with so many cents
      have fin0 : ∀ (c : Int) (m1 : Bag) (z9 z10 : SV), BOk m1 → ¬ 0 < c → (BOk m1 ∧ ∃ (us' : List (D × Int × Int)) (done' : List Int) (w8 w9 w10 w11 : SV), done' ++ as = ds ∧ (us'.map (·.2.1)).Sublist done' ∧ (us'.map (·.1)).Nodup ∧ KeysOk (us'.map (·.1)) ∧ (∀ u ∈ us', 0 < u.2.2) ∧ (fr = false → NoOutrun gs us') ∧
          [.val (.ref A.ab), .val (.lst (gs.map gD)), .val (.lst (ds.map .int)), .val (.int great), .val (.bl fr), .val (.lst (ts.map D.str)), .own (.lst (us.map uD)), .val (.int (sumU us us.length)), .val (.int a), z9, z10, y11] = [.val (.ref A.ab), .val (.lst (gs.map gD)), .val (.lst (ds.map .int)), .val (.int great), .val (.bl fr), .val (.lst (ts.map D.str)), .own (.lst (us'.map uD)), SV.val (.int (sumU us' us'.length)), w8, w9, w10, w11]) := fun c m1 z9 z10 hb1 _ =>
        ⟨hb1, us, done ++ [a], _, _, _, _, by simpa using q1, q2.trans (List.sublist_append_left _ _), q3, q4, q5, q6, rfl⟩
      have hks : ∀ m1, BOk m1 → ∃ key m2, f__law_use_key A [.ref A.ab, .lst (ts.map D.str), .lst (us.map (·.1))] m1 = some (.val key, m2) ∧ KeyOk key ∧ key.imm = true ∧ key ∉ us.map (·.1) ∧ (∀ i, key = .int i → -1 ≤ i ∧ i < 2000000 + ((us.map (·.1)).length : Int) + 1) ∧ BOk m2 := fun m1 hb1 => use_key_ok hA hb1 n3 (by omega) (by omega) q4 (by simp; omega)
      have fin1 : ∀ (c : Int) (key : D) (m2 : Bag) (z10 z11 : SV), BOk m2 → 0 < c → (fr = false → sumU us us.length + c ≤ comeF gs a) → KeyOk key → key ∉ us.map (·.1) → (∀ i, key = .int i → -1 ≤ i ∧ i < 2000000 + ((us.map (·.1)).length : Int) + 1) → (BOk m2 ∧ ∃ (us' : List (D × Int × Int)) (done' : List Int) (w8 w9 w10 w11 : SV), done' ++ as = ds ∧ (us'.map (·.2.1)).Sublist done' ∧ (us'.map (·.1)).Nodup ∧ KeysOk (us'.map (·.1)) ∧ (∀ u ∈ us', 0 < u.2.2) ∧ (fr = false → NoOutrun gs us') ∧
          [.val (.ref A.ab), .val (.lst (gs.map gD)), .val (.lst (ds.map .int)), .val (.int great), .val (.bl fr), .val (.lst (ts.map D.str)), .own (.lst ((us ++ [(key, a, c)]).map uD)), .val (.int (sumU us us.length + c)), .val (.int a), .val (.int c), z10, z11] = [.val (.ref A.ab), .val (.lst (gs.map gD)), .val (.lst (ds.map .int)), .val (.int great), .val (.bl fr), .val (.lst (ts.map D.str)), .own (.lst (us'.map uD)), SV.val (.int (sumU us' us'.length)), w8, w9, w10, w11]) := fun c key m2 z10 z11 hb2 hc hno hk hnk hlt => by
        have hs : sumU (us ++ [(key, a, c)]) (us.length + 1) = sumU us us.length + c := by
          rw [sumU_succ (us := us ++ [(key, a, c)]) (k := us.length) (u := (key, a, c)) (by simp), sumU_app us _ (Nat.le_refl _)]
        refine ⟨hb2, us ++ [(key, a, c)], done ++ [a], .val (.int a), .val (.int c), z10, z11, by simpa using q1, ?_, ?_, ?_, ?_, ?_, ?_⟩
        · rw [List.map_append]; exact q2.append (List.Sublist.refl _)
        · rw [List.map_append, List.nodup_append]
          exact ⟨q3, by simp, fun x hx y hy e => by simp at hy; exact hnk (hy ▸ e ▸ hx)⟩
        · intro k hk'
          rw [List.map_append] at hk'
          rcases List.mem_append.mp hk' with z | z
          · obtain ⟨w1, w2⟩ := q4 k z
            refine ⟨w1, fun i e => ?_⟩
            have := w2 i e
            simp at this ⊢
            omega
          · simp at z; subst z
            refine ⟨hk, fun i e => ?_⟩
            have := hlt i e
            simp at this ⊢
            omega
        · intro u hu
          rcases List.mem_append.mp hu with z | z
          · exact q5 u z
          · simp at z; subst z; exact hc
        · intro hf k u hk'
          rcases Nat.lt_or_ge k us.length with z | z
          · rw [List.getElem?_append_left z] at hk'
            rw [sumU_app us _ (by omega)]
            exact q6 hf k u hk'
          · have hk2 := getlt hk'
            simp at hk2
            have : k = us.length := by omega
            subst this
            simp at hk'
            subst hk'
            rw [hs]
            exact hno hf
        · rw [List.length_append, List.length_singleton, hs]
      have hcomp : ∀ (m1 : Bag) (body : D → Bag → Option (Option D × Bag)), (∀ u ∈ us, body (uD u) m1 = some (some u.1, m1)) → compL body (us.map uD) m1 = some (us.map (·.1), m1) := fun m1 body h => compL_map uD _ us h
      obtain ⟨r1, m1, d1, a1, a2, b1⟩ := draw_ok hA hb t1 t2
      refine ⟨_, rfl, ?_⟩
      cases fr with
      | true =>
        have hc : 0 < 1 + r1 := by omega
        have e0 : gtS (.int (1 + r1)) (.int 0) = some true := by simp [gtS, cmpS]; omega
        obtain ⟨key, m2, k1, k2, k3, k4, k5, b2⟩ := hks m1 b1
        have q := fin1 (1 + r1) key m2 y10 y11 b2 hc (fun z => by cases z) k2 k4 k5
        refine ⟨.nx [.val (.ref A.ab), .val (.lst (gs.map gD)), .val (.lst (ds.map .int)), .val (.int great), .val (.bl true), .val (.lst (ts.map D.str)), .own (.lst ((us ++ [(key, a, 1 + r1)]).map uD)), .val (.int (sumU us us.length + (1 + r1))), .val (.int a), .val (.int (1 + r1)), y10, y11] m2, ?_, q⟩
        simp [evSs, evS, evs, evAnd, ev, evB, look, commit, R.d, R.kp, R.imm, R.sv, bltR, binR, ixR, tupR, callR, lift, addS, itList, setTg, wipeS, mAppend, freeze, frz1, l__law_use_rows_1, d1, e0, hlen, hlen']
        rw [hcomp m1 _ (fun u _ => by simp [uD, ixS_tup, ix0])]
        simp [k1, D.imms, D.imm, k3, hlen, uD]
      | false =>
        obtain ⟨r2, m2, d2, a3, a4, b2⟩ := draw_ok hA b1 (size := 5) (by decide) (by decide)
        obtain ⟨left, hleft⟩ : ∃ l, l = min 1000000000 (comeF gs a - sumU us us.length) := ⟨_, rfl⟩
        have el : minS [.int 1000000000, .int (comeF gs a - sumU us us.length)] = some (.val (.int left)) := by rw [minS_ok, hleft]
        have ec : minS [.int (1 + r1), .int left] = some (.val (.int (min (1 + r1) left))) := minS_ok _ _
        by_cases hr : r2 = 0
        · have e2 : eqS (.int r2) (.int 0) = some true := by simp [eqS, hr]
          by_cases hc : 0 < left
          · have e0 : gtS (.int left) (.int 0) = some true := by simp [gtS, cmpS]; omega
            obtain ⟨key, m3, k1, k2, k3, k4, k5, b3⟩ := hks m2 b2
            have q := fin1 left key m3 (.val (.int left)) y11 b3 hc (fun _ => by omega) k2 k4 k5
            refine ⟨.nx [.val (.ref A.ab), .val (.lst (gs.map gD)), .val (.lst (ds.map .int)), .val (.int great), .val (.bl false), .val (.lst (ts.map D.str)), .own (.lst ((us ++ [(key, a, left)]).map uD)), .val (.int (sumU us us.length + left)), .val (.int a), .val (.int left), .val (.int left), y11] m3, ?_, q⟩
            simp [evSs, evS, evs, evAnd, ev, evB, look, commit, R.d, R.kp, R.imm, R.sv, bltR, binR, ixR, tupR, callR, lift, addS, subS, itList, setTg, wipeS, mAppend, freeze, frz1, l__law_use_rows_1, d1, hcome, el, ec, d2, e2, e0, hlen, hlen']
            rw [hcomp m2 _ (fun u _ => by simp [uD, ixS_tup, ix0])]
            simp [k1, D.imms, D.imm, k3, hlen, uD]
          · have e0 : gtS (.int left) (.int 0) = some false := by simp [gtS, cmpS]; omega
            refine ⟨.nx [.val (.ref A.ab), .val (.lst (gs.map gD)), .val (.lst (ds.map .int)), .val (.int great), .val (.bl false), .val (.lst (ts.map D.str)), .own (.lst (us.map uD)), .val (.int (sumU us us.length)), .val (.int a), .val (.int left), .val (.int left), y11] m2, ?_, fin0 left m2 (.val (.int left)) (.val (.int left)) b2 hc⟩
            simp [evSs, evS, evs, evAnd, ev, evB, look, commit, R.d, R.kp, R.imm, R.sv, bltR, binR, ixR, tupR, callR, lift, addS, subS, itList, setTg, wipeS, mAppend, freeze, frz1, l__law_use_rows_1, d1, hcome, el, ec, d2, e2, e0, hlen, hlen']
        · have e2 : eqS (.int r2) (.int 0) = some false := by simp [eqS, hr]
          by_cases hc : 0 < min (1 + r1) left
          · have e0 : gtS (.int (min (1 + r1) left)) (.int 0) = some true := by simp only [gtS, cmpS, decide_eq_true hc]
            obtain ⟨key, m3, k1, k2, k3, k4, k5, b3⟩ := hks m2 b2
            have q := fin1 (min (1 + r1) left) key m3 (.val (.int left)) y11 b3 hc (fun _ => by omega) k2 k4 k5
            refine ⟨.nx [.val (.ref A.ab), .val (.lst (gs.map gD)), .val (.lst (ds.map .int)), .val (.int great), .val (.bl false), .val (.lst (ts.map D.str)), .own (.lst ((us ++ [(key, a, min (1 + r1) left)]).map uD)), .val (.int (sumU us us.length + min (1 + r1) left)), .val (.int a), .val (.int (min (1 + r1) left)), .val (.int left), y11] m3, ?_, q⟩
            simp [evSs, evS, evs, evAnd, ev, evB, look, commit, R.d, R.kp, R.imm, R.sv, bltR, binR, ixR, tupR, callR, lift, addS, subS, itList, setTg, wipeS, mAppend, freeze, frz1, l__law_use_rows_1, d1, hcome, el, ec, d2, e2, e0, hlen, hlen']
            rw [hcomp m2 _ (fun u _ => by simp [uD, ixS_tup, ix0])]
            simp [k1, D.imms, D.imm, k3, hlen, uD]
          · have e0 : gtS (.int (min (1 + r1) left)) (.int 0) = some false := by simp only [gtS, cmpS, decide_eq_false hc]
            refine ⟨.nx [.val (.ref A.ab), .val (.lst (gs.map gD)), .val (.lst (ds.map .int)), .val (.int great), .val (.bl false), .val (.lst (ts.map D.str)), .own (.lst (us.map uD)), .val (.int (sumU us us.length)), .val (.int a), .val (.int (min (1 + r1) left)), .val (.int left), y11] m2, ?_, fin0 (min (1 + r1) left) m2 (.val (.int (min (1 + r1) left))) (.val (.int left)) b2 hc⟩
            simp [evSs, evS, evs, evAnd, ev, evB, look, commit, R.d, R.kp, R.imm, R.sv, bltR, binR, ixR, tupR, callR, lift, addS, subS, itList, setTg, wipeS, mAppend, freeze, frz1, l__law_use_rows_1, d1, hcome, el, ec, d2, e2, e0, hlen, hlen']) ds
      [.val (.ref A.ab), .val (.lst (gs.map gD)), .val (.lst (ds.map .int)), .val (.int great), .val (.bl fr), .val (.lst (ts.map D.str)), .own (.lst []), .val (.int 0), .non, .non, .non, .non] m0 ⟨b0, [], [], _, _, _, _, rfl, List.Sublist.refl _, by simp, (fun k hk => by simp at hk), by simp, (fun _ k u hk => by simp at hk), rfl⟩
  cases o with
  | nx sl m' =>
    obtain ⟨hb, us, done, y8, y9, y10, y11, q1, q2, q3, q4, q5, q6, rfl⟩ := h2.resolve_right id
    rw [List.append_nil] at q1
    subst q1
    refine ⟨us, m', ?_, ⟨⟨q3, ?_, q5⟩, (fun u hu => (q4 u.1 (List.mem_map.mpr ⟨u, hu, rfl⟩)).1), fun u hu i e => by
      have h1 := (q4 u.1 (List.mem_map.mpr ⟨u, hu, rfl⟩)).2 i e
      have h2 := q2.length_le
      simp at h1 h2
      omega⟩, by have := q2.length_le; simpa using this, q6, hb⟩
    · have n1' : f__law_names A [.ref A.ab, .int 6] m = some (.own (.lst (ts.map D.str)), m0) := n1
      simp [f__law_use_rows, b__law_use_rows, evF, evSs, evS, evs, evAnd, evOr, ev, evB, look, commit, R.d, R.kp, R.imm, R.sv, D.imm, D.imms, D.immC, setTg, setTs, bltR, binR, unR, ixR, tupR, lstR, dictTR, callR, slR, isiR, methR, lift, addS, subS, minS, maxS, modS, fdivS, mulS, negS, intS, wipeS, itList, itTup, itRng1, itRng2, mAppend, freeze, frz1, isnS, isnnS, n1', h1]
    · exact List.pairwise_map.mp (hd.sublist q2)
  | _ => exact h2.elim
end K50

set_option Elab.async false
set_option linter.all false
set_option maxRecDepth 100000
set_option maxHeartbeats 4000000
namespace K50
open PySem PySem.Spec PyProof.Rows L2 Ev
abbrev s__law_changed : Stmt := topS 27
def n__law_changed : List Str := ["gifts", "uses", "changes", "table", "change", "row"]
theorem sc__law_changed : FnScope n__law_changed ["gifts", "uses", "changes"] (defScope s__law_changed) := ⟨rfl, rfl, rfl, by decide +kernel, rfl, by decide +kernel, by decide +kernel⟩
/-- rows of whole numbers, changed place by place -/
def applyL : List D → List D → Option (List D)
  | [], rows => some rows
  | .tup [.int i, .int j, .int x] :: cs, rows => match ixN rows.length i with
    | some a => (match rows[a]? with
      | some (.lst r) => (match ixN r.length j with
        | some b => (match r[b]? with
          | some (.int v) => applyL cs (rows.set a (.lst (r.set b (.int (v + x)))))
          | _ => none)
        | none => none)
      | _ => none)
    | none => none
  | _ :: _, _ => none
/-- rows as the law makes them -/
def TypedC (ds : List D) : Prop := ∃ (gs : List (Int × Int × Int)) (us : List (D × Int × Int)) (chs : List D), ds = [.lst (gs.map gD), .lst (us.map uD), .lst chs] ∧ gs.length ≤ 1000000 ∧ us.length ≤ 1000000
def f0__law_changed : List D → Bag → Option (R × Bag)
  | [g, u, .lst chs], m => match f__law_table [g, u] m with
    | some (.own (.lst rows), m1) => (match applyL chs rows with
      | some rows' => f__law_triples [g, u, .lst rows'] m1
      | none => none)
    | _ => none
  | _, _ => none
open Classical in
noncomputable def f__law_changed (ds : List D) (m : Bag) : Option (R × Bag) := if TypedC ds then f0__law_changed ds m else none
noncomputable section
abbrev s__law_other_key : Stmt := topS 29
def n__law_other_key : List Str := ["key", "keys", "other"]
theorem sc__law_other_key : FnScope n__law_other_key ["key", "keys"] (defScope s__law_other_key) := ⟨rfl, rfl, rfl, by decide +kernel, rfl, by decide +kernel, by decide +kernel⟩
def b__law_other_key : Sms Bag :=
  (.cons (.set [] false 2 (.app tupR (.cons (.var 0) .nil))) <|
  (.cons (.iff [] (.app (isiR "int") (.cons (.var 0) .nil)) (
    (.cons (.set [] false 2 (.app (bltR "str" strS) (.cons (.var 0) .nil))) <| .nil)) (
 .nil)) <|
  (.cons (.iff [] (.cmp ⟨.In, inS⟩ (.var 2) (.var 1)) (
    (.cons (.ret [] (.con (.int 3000000))) <| .nil)) (
 .nil)) <|
  (.cons (.ret [] (.var 2)) <| .nil))))
def f__law_other_key : List D → Bag → Option (R × Bag) := evF 2 3 (b__law_other_key)
theorem c__law_other_key : chkSs n__law_other_key (defScope s__law_other_key) (defBody s__law_other_key) (b__law_other_key) = true := by kernel_rfl
theorem ok__law_other_key (A : BA) {P : Program} {w : World} {K : PySem.W.Frag} {mg : Str → Option Value} {base : Heap} {f : Addr} {fd : FuncData} (F : Fun K "_law_other_key" "_law_other_key" s__law_other_key f fd) (h_isinstance : mg "isinstance" = none) (h_int : mg "int" = none) (h_str : mg "str" = none) : FnOk P w K mg base CX0 1 f fd ["key", "keys"] (fun vs H Q _ => RSem (cfg P w K mg base A) f__law_other_key vs H Q) := by
  have o : (b__law_other_key).ok (cfg P w K mg base A) 0 := by
    simp only [b__law_other_key, Sms.ok, Sm.ok, Xp.ok, Xs.ok, and_true, true_and]
    (repeat' apply And.intro) <;> first | exact (ok_tup).up | exact (ok_isi h_isinstance h_int).up | exact (ok_str h_str).up | exact cmp_in
  exact fn_ok F sc__law_other_key (by decide) o (c__law_other_key)
abbrev s__law_other_id : Stmt := topS 30
def n__law_other_id : List Str := ["bag", "ids", "number", "turn"]
theorem sc__law_other_id : FnScope n__law_other_id ["bag", "ids"] (defScope s__law_other_id) := ⟨rfl, rfl, rfl, by decide +kernel, rfl, by decide +kernel, by decide +kernel⟩
def l__law_other_id_1 (A : BA) : Sms Bag :=
  (.cons (.iff [] (.cmp ⟨.NotIn, ninS⟩ (.var 2) (.var 1)) (
    (.cons .brk <| .nil)) (
 .nil)) <|
  (.cons (.set [] false 2 (.app (binR .Add addS) (.cons (.var 2) (.cons (.con (.int 1)) .nil)))) <| .nil))
def b__law_other_id (A : BA) : Sms Bag :=
  (.cons (.set [] false 2 (.app (binR .Add addS) (.cons (.con (.int 1)) (.cons (.app (callR "_law_draw" (f__law_draw A)) (.cons (.var 0) (.cons (.con (.int 60)) .nil))) .nil)))) <|
  (.cons (.forI [] itRng1 (.cons (.app (bltR "len" lenS) (.cons (.var 1) .nil)) .nil) (.nm 3) (l__law_other_id_1 A)) <|
  (.cons (.ret [] (.var 2)) <| .nil)))
def f__law_other_id (A : BA) : List D → Bag → Option (R × Bag) := evF 2 4 (b__law_other_id A)
theorem c__law_other_id (A : BA) : chkSs n__law_other_id (defScope s__law_other_id) (defBody s__law_other_id) (b__law_other_id A) = true := by kernel_rfl
theorem ok__law_other_id (A : BA) {P : Program} {w : World} {K : PySem.W.Frag} {mg : Str → Option Value} {base : Heap} {f : Addr} {fd : FuncData} (F : Fun K "_law_other_id" "_law_other_id" s__law_other_id f fd) (h_range : mg "range" = none) (h_len : mg "len" = none) (k__law_draw : Callee (cfg P w K mg base A) 1 "_law_draw" (f__law_draw A)) : FnOk P w K mg base CX0 2 f fd ["bag", "ids"] (fun vs H Q _ => RSem (cfg P w K mg base A) (f__law_other_id A) vs H Q) := by
  have o : (b__law_other_id A).ok (cfg P w K mg base A) 1 := by
    simp only [b__law_other_id, l__law_other_id_1, Sms.ok, Sm.ok, Xp.ok, Xs.ok, and_true, true_and]
    (repeat' apply And.intro) <;> first | exact (ok_add).up | exact (ok_itRng1 h_range) | exact (ok_len h_len).up | exact cmp_nin | exact (call_rule (k__law_draw.mono (by decide))).up
  exact fn_ok F sc__law_other_id (by decide) o (c__law_other_id A)
abbrev s__law_split : Stmt := topS 31
def n__law_split : List Str := ["rows", "k", "row"]
theorem sc__law_split : FnScope n__law_split ["rows"] (defScope s__law_split) := ⟨rfl, rfl, rfl, by decide +kernel, rfl, by decide +kernel, by decide +kernel⟩
def l__law_split_1 : Sms Bag :=
  (.cons (.iff [] (.cmp ⟨.Gt, gtS⟩ (.app ixR (.cons (.app ixR (.cons (.var 0) (.cons (.var 1) .nil))) (.cons (.con (.int 2)) .nil))) (.con (.int 1))) (
    (.cons (.set [] false 2 (.app ixR (.cons (.var 0) (.cons (.var 1) .nil)))) <|
    (.cons (.ret [] (.app (binR .Add addS) (.cons (.app (binR .Add addS) (.cons (.app (slR false true) (.cons (.var 0) (.cons (.var 1) .nil))) (.cons (.app lstR (.cons (.app tupR (.cons (.app ixR (.cons (.var 2) (.cons (.con (.int 0)) .nil))) (.cons (.app ixR (.cons (.var 2) (.cons (.con (.int 1)) .nil))) (.cons (.con (.int 1)) .nil)))) (.cons (.app tupR (.cons (.app ixR (.cons (.var 2) (.cons (.con (.int 0)) .nil))) (.cons (.app ixR (.cons (.var 2) (.cons (.con (.int 1)) .nil))) (.cons (.app (binR .Sub subS) (.cons (.app ixR (.cons (.var 2) (.cons (.con (.int 2)) .nil))) (.cons (.con (.int 1)) .nil))) .nil)))) .nil))) .nil))) (.cons (.app (slR true false) (.cons (.var 0) (.cons (.app (binR .Add addS) (.cons (.var 1) (.cons (.con (.int 1)) .nil))) .nil))) .nil)))) <| .nil))) (
 .nil)) <| .nil)
def b__law_split : Sms Bag :=
  (.cons (.forI [] itRng1 (.cons (.app (bltR "len" lenS) (.cons (.var 0) .nil)) .nil) (.nm 1) (l__law_split_1)) <|
  (.cons (.ret [] (.app (binR .Add addS) (.cons (.var 0) (.cons (.app (slR true false) (.cons (.var 0) (.cons (.app (unR .USub negS) (.cons (.con (.int 1)) .nil)) .nil))) .nil)))) <| .nil))
def f__law_split : List D → Bag → Option (R × Bag) := evF 1 3 (b__law_split)
theorem c__law_split : chkSs n__law_split (defScope s__law_split) (defBody s__law_split) (b__law_split) = true := by kernel_rfl
theorem ok__law_split (A : BA) {P : Program} {w : World} {K : PySem.W.Frag} {mg : Str → Option Value} {base : Heap} {f : Addr} {fd : FuncData} (F : Fun K "_law_split" "_law_split" s__law_split f fd) (h_range : mg "range" = none) (h_len : mg "len" = none) : FnOk P w K mg base CX0 1 f fd ["rows"] (fun vs H Q _ => RSem (cfg P w K mg base A) f__law_split vs H Q) := by
  have o : (b__law_split).ok (cfg P w K mg base A) 0 := by
    simp only [b__law_split, l__law_split_1, Sms.ok, Sm.ok, Xp.ok, Xs.ok, and_true, true_and]
    (repeat' apply And.intro) <;> first | exact (ok_itRng1 h_range) | exact (ok_len h_len).up | exact cmp_gt | exact (ok_ix).up | exact (ok_add).up | exact (ok_sl true false).up | exact (ok_lst).up | exact (ok_tup).up | exact (ok_sub).up | exact (ok_sl false true).up | exact (ok_neg).up
  exact fn_ok F sc__law_split (by decide) o (c__law_split)
abbrev s__law_with_nought : Stmt := topS 32
def n__law_with_nought : List Str := ["gifts", "uses", "i", "j", "table", "rows", "k", "m"]
theorem sc__law_with_nought : FnScope n__law_with_nought ["gifts", "uses", "i", "j"] (defScope s__law_with_nought) := ⟨rfl, rfl, rfl, by decide +kernel, rfl, by decide +kernel, by decide +kernel⟩
def l__law_with_nought_1 : Sms Bag :=
  (.cons (.iff [] (.or (.cons (.cmp ⟨.Gt, gtS⟩ (.app ixR (.cons (.app ixR (.cons (.var 4) (.cons (.var 6) .nil))) (.cons (.var 7) .nil))) (.con (.int 0))) (.cons (.and (.cons (.cmp ⟨.Eq, eqS⟩ (.var 6) (.var 2)) (.cons (.cmp ⟨.Eq, eqS⟩ (.var 7) (.var 3)) .nil))) .nil))) (
    (.cons (.mut mAppend [] 5 (.cons (.app tupR (.cons (.app ixR (.cons (.app ixR (.cons (.var 0) (.cons (.var 6) .nil))) (.cons (.con (.int 0)) .nil))) (.cons (.app ixR (.cons (.app ixR (.cons (.var 1) (.cons (.var 7) .nil))) (.cons (.con (.int 0)) .nil))) (.cons (.app ixR (.cons (.app ixR (.cons (.var 4) (.cons (.var 6) .nil))) (.cons (.var 7) .nil))) .nil)))) .nil)) <| .nil)) (
 .nil)) <| .nil)
def l__law_with_nought_2 : Sms Bag :=
  (.cons (.forI [] itRng1 (.cons (.app (bltR "len" lenS) (.cons (.var 1) .nil)) .nil) (.nm 7) (l__law_with_nought_1)) <| .nil)
def b__law_with_nought : Sms Bag :=
  (.cons (.set [] false 4 (.app (callR "_law_table" f__law_table) (.cons (.var 0) (.cons (.var 1) .nil)))) <|
  (.cons (.set [] true 5 (.app lstR .nil)) <|
  (.cons (.forI [] itRng1 (.cons (.app (bltR "len" lenS) (.cons (.var 0) .nil)) .nil) (.nm 6) (l__law_with_nought_2)) <|
  (.cons (.retv 5) <| .nil))))
def f__law_with_nought : List D → Bag → Option (R × Bag) := evF 4 8 (b__law_with_nought)
theorem c__law_with_nought : chkSs n__law_with_nought (defScope s__law_with_nought) (defBody s__law_with_nought) (b__law_with_nought) = true := by kernel_rfl
theorem ok__law_with_nought (A : BA) {P : Program} {w : World} {K : PySem.W.Frag} {mg : Str → Option Value} {base : Heap} {f : Addr} {fd : FuncData} (F : Fun K "_law_with_nought" "_law_with_nought" s__law_with_nought f fd) (h_range : mg "range" = none) (h_len : mg "len" = none) (k__law_table : Callee (cfg P w K mg base A) 1 "_law_table" f__law_table) : FnOk P w K mg base CX0 2 f fd ["gifts", "uses", "i", "j"] (fun vs H Q _ => RSem (cfg P w K mg base A) f__law_with_nought vs H Q) := by
  have o : (b__law_with_nought).ok (cfg P w K mg base A) 1 := by
    simp only [b__law_with_nought, l__law_with_nought_1, l__law_with_nought_2, Sms.ok, Sm.ok, Xp.ok, Xs.ok, and_true, true_and]
    (repeat' apply And.intro) <;> first | exact (ok_lst).up | exact (ok_itRng1 h_range) | exact (ok_len h_len).up | exact cmp_eq | exact cmp_gt | exact (ok_ix).up | exact ok_append | exact (ok_tup).up | exact (call_rule (k__law_table.mono (by decide))).up
  exact fn_ok F sc__law_with_nought (by decide) o (c__law_with_nought)
abbrev s__law_row_papers : Stmt := topS 33
def n__law_row_papers : List Str := ["bag", "gifts", "uses", "rows", "at", "row", "last", "ids", "keys", "papers", "turn", "gift", "use"]
theorem sc__law_row_papers : FnScope n__law_row_papers ["bag", "gifts", "uses", "rows"] (defScope s__law_row_papers) := ⟨rfl, rfl, rfl, by decide +kernel, rfl, by decide +kernel, by decide +kernel⟩
def e__law_row_papers_1 (A : BA) : Xp Bag := (.comp [("gift", 11)] itList (.cons (.var 1) .nil) (.nm 11) .nil (.app ixR (.cons (.var 11) (.cons (.con (.int 0)) .nil))))
def e__law_row_papers_2 (A : BA) : Xp Bag := (.comp [("use", 12)] itList (.cons (.var 2) .nil) (.nm 12) .nil (.app ixR (.cons (.var 12) (.cons (.con (.int 0)) .nil))))
def b__law_row_papers (A : BA) : Sms Bag :=
  (.cons (.set [] false 4 (.app (callR "_law_draw" (f__law_draw A)) (.cons (.var 0) (.cons (.app (bltR "len" lenS) (.cons (.var 3) .nil)) .nil)))) <|
  (.cons (.set [] false 5 (.app ixR (.cons (.var 3) (.cons (.var 4) .nil)))) <|
  (.cons (.set [] false 6 (.app ixR (.cons (.var 3) (.cons (.app (unR .USub negS) (.cons (.con (.int 1)) .nil)) .nil)))) <|
  (.cons (.set [] false 7 (e__law_row_papers_1 A)) <|
  (.cons (.set [] false 8 (e__law_row_papers_2 A)) <|
  (.cons (.set [] true 9 (.app lstR (.cons (.app (callR "_law_split" f__law_split) (.cons (.var 3) .nil)) (.cons (.app (binR .Add addS) (.cons (.app (slR false true) (.cons (.var 3) (.cons (.var 4) .nil))) (.cons (.app (slR true false) (.cons (.var 3) (.cons (.app (binR .Add addS) (.cons (.var 4) (.cons (.con (.int 1)) .nil))) .nil))) .nil))) (.cons (.app lstR .nil) (.cons (.app (binR .Add addS) (.cons (.app (slR false true) (.cons (.var 3) (.cons (.app (unR .USub negS) (.cons (.con (.int 1)) .nil)) .nil))) (.cons (.app lstR (.cons (.app tupR (.cons (.app ixR (.cons (.var 6) (.cons (.con (.int 0)) .nil))) (.cons (.app ixR (.cons (.var 6) (.cons (.con (.int 1)) .nil))) (.cons (.app (binR .Add addS) (.cons (.app ixR (.cons (.var 6) (.cons (.con (.int 2)) .nil))) (.cons (.con (.int 1)) .nil))) .nil)))) .nil)) .nil))) .nil)))))) <|
  (.cons (.iff [] (.cmp ⟨.Gt, gtS⟩ (.app (bltR "len" lenS) (.cons (.var 3) .nil)) (.con (.int 1))) (
    (.cons (.set [] false 10 (.app (callR "_law_draw" (f__law_draw A)) (.cons (.var 0) (.cons (.app (binR .Sub subS) (.cons (.app (bltR "len" lenS) (.cons (.var 3) .nil)) (.cons (.con (.int 1)) .nil))) .nil)))) <|
    (.cons (.mut mAppend [] 9 (.cons (.app (binR .Add addS) (.cons (.app (binR .Add addS) (.cons (.app (slR false true) (.cons (.var 3) (.cons (.var 10) .nil))) (.cons (.app lstR (.cons (.app ixR (.cons (.var 3) (.cons (.app (binR .Add addS) (.cons (.var 10) (.cons (.con (.int 1)) .nil))) .nil))) (.cons (.app ixR (.cons (.var 3) (.cons (.var 10) .nil))) .nil))) .nil))) (.cons (.app (slR true false) (.cons (.var 3) (.cons (.app (binR .Add addS) (.cons (.var 10) (.cons (.con (.int 2)) .nil))) .nil))) .nil))) .nil)) <| .nil))) (
 .nil)) <|
  (.cons (.iff [] (.cmp ⟨.Gt, gtS⟩ (.app ixR (.cons (.var 6) (.cons (.con (.int 2)) .nil))) (.con (.int 1))) (
    (.cons (.mut mAppend [] 9 (.cons (.app (binR .Add addS) (.cons (.app (slR false true) (.cons (.var 3) (.cons (.app (unR .USub negS) (.cons (.con (.int 1)) .nil)) .nil))) (.cons (.app lstR (.cons (.app tupR (.cons (.app ixR (.cons (.var 6) (.cons (.con (.int 0)) .nil))) (.cons (.app ixR (.cons (.var 6) (.cons (.con (.int 1)) .nil))) (.cons (.app (binR .Sub subS) (.cons (.app ixR (.cons (.var 6) (.cons (.con (.int 2)) .nil))) (.cons (.con (.int 1)) .nil))) .nil)))) .nil)) .nil))) .nil)) <| .nil)) (
 .nil)) <|
  (.cons (.mut mAppend [] 9 (.cons (.app (binR .Add addS) (.cons (.app (binR .Add addS) (.cons (.app (slR false true) (.cons (.var 3) (.cons (.var 4) .nil))) (.cons (.app lstR (.cons (.app tupR (.cons (.app (callR "_law_other_id" (f__law_other_id A)) (.cons (.var 0) (.cons (.var 7) .nil))) (.cons (.app ixR (.cons (.var 5) (.cons (.con (.int 1)) .nil))) (.cons (.app ixR (.cons (.var 5) (.cons (.con (.int 2)) .nil))) .nil)))) .nil)) .nil))) (.cons (.app (slR true false) (.cons (.var 3) (.cons (.app (binR .Add addS) (.cons (.var 4) (.cons (.con (.int 1)) .nil))) .nil))) .nil))) .nil)) <|
  (.cons (.mut mAppend [] 9 (.cons (.app (binR .Add addS) (.cons (.app (binR .Add addS) (.cons (.app (slR false true) (.cons (.var 3) (.cons (.var 4) .nil))) (.cons (.app lstR (.cons (.app tupR (.cons (.app ixR (.cons (.var 5) (.cons (.con (.int 0)) .nil))) (.cons (.app (callR "_law_other_key" f__law_other_key) (.cons (.app ixR (.cons (.var 5) (.cons (.con (.int 1)) .nil))) (.cons (.var 8) .nil))) (.cons (.app ixR (.cons (.var 5) (.cons (.con (.int 2)) .nil))) .nil)))) .nil)) .nil))) (.cons (.app (slR true false) (.cons (.var 3) (.cons (.app (binR .Add addS) (.cons (.var 4) (.cons (.con (.int 1)) .nil))) .nil))) .nil))) .nil)) <|
  (.cons (.mut mAppend [] 9 (.cons (.app (callR "_law_with_nought" f__law_with_nought) (.cons (.var 1) (.cons (.var 2) (.cons (.app (callR "_law_draw" (f__law_draw A)) (.cons (.var 0) (.cons (.app (bltR "len" lenS) (.cons (.var 1) .nil)) .nil))) (.cons (.app (callR "_law_draw" (f__law_draw A)) (.cons (.var 0) (.cons (.app (bltR "len" lenS) (.cons (.var 2) .nil)) .nil))) .nil))))) .nil)) <|
  (.cons (.retv 9) <| .nil))))))))))))
def f__law_row_papers (A : BA) : List D → Bag → Option (R × Bag) := evF 4 13 (b__law_row_papers A)
theorem c__law_row_papers (A : BA) : chkSs n__law_row_papers (defScope s__law_row_papers) (defBody s__law_row_papers) (b__law_row_papers A) = true := by kernel_rfl
theorem ok__law_row_papers (A : BA) {P : Program} {w : World} {K : PySem.W.Frag} {mg : Str → Option Value} {base : Heap} {f : Addr} {fd : FuncData} (F : Fun K "_law_row_papers" "_law_row_papers" s__law_row_papers f fd) (h_len : mg "len" = none) (k__law_draw : Callee (cfg P w K mg base A) 1 "_law_draw" (f__law_draw A)) (k__law_split : Callee (cfg P w K mg base A) 1 "_law_split" f__law_split) (k__law_other_id : Callee (cfg P w K mg base A) 2 "_law_other_id" (f__law_other_id A)) (k__law_other_key : Callee (cfg P w K mg base A) 1 "_law_other_key" f__law_other_key) (k__law_with_nought : Callee (cfg P w K mg base A) 2 "_law_with_nought" f__law_with_nought) : FnOk P w K mg base CX0 3 f fd ["bag", "gifts", "uses", "rows"] (fun vs H Q _ => RSem (cfg P w K mg base A) (f__law_row_papers A) vs H Q) := by
  have o : (b__law_row_papers A).ok (cfg P w K mg base A) 2 := by
    simp only [b__law_row_papers, e__law_row_papers_1, e__law_row_papers_2, Sms.ok, Sm.ok, Xp.ok, Xs.ok, and_true, true_and]
    (repeat' apply And.intro) <;> first | exact (ok_len h_len).up | exact (ok_ix).up | exact (ok_neg).up | exact ok_itList | exact (ok_lst).up | exact (ok_add).up | exact (ok_tup).up | exact (ok_sl false true).up | exact (ok_sl true false).up | exact cmp_gt | exact (ok_sub).up | exact ok_append | exact (call_rule (k__law_draw.mono (by decide))).up | exact (call_rule (k__law_split.mono (by decide))).up | exact (call_rule (k__law_other_id.mono (by decide))).up | exact (call_rule (k__law_other_key.mono (by decide))).up | exact (call_rule (k__law_with_nought.mono (by decide))).up
  exact fn_ok F sc__law_row_papers (by decide) o (c__law_row_papers A)
abbrev s__law_cells : Stmt := topS 34
def n__law_cells : List Str := ["gifts", "uses", "table", "cells", "i", "j"]
theorem sc__law_cells : FnScope n__law_cells ["gifts", "uses"] (defScope s__law_cells) := ⟨rfl, rfl, rfl, by decide +kernel, rfl, by decide +kernel, by decide +kernel⟩
def l__law_cells_1 : Sms Bag :=
  (.cons (.iff [] (.cmp ⟨.Gt, gtS⟩ (.app ixR (.cons (.app ixR (.cons (.var 2) (.cons (.var 4) .nil))) (.cons (.var 5) .nil))) (.con (.int 0))) (
    (.cons (.mut mAppend [] 3 (.cons (.app tupR (.cons (.var 4) (.cons (.var 5) .nil))) .nil)) <| .nil)) (
 .nil)) <| .nil)
def l__law_cells_2 : Sms Bag :=
  (.cons (.forI [] itRng1 (.cons (.app (bltR "len" lenS) (.cons (.var 1) .nil)) .nil) (.nm 5) (l__law_cells_1)) <| .nil)
def b__law_cells : Sms Bag :=
  (.cons (.set [] false 2 (.app (callR "_law_table" f__law_table) (.cons (.var 0) (.cons (.var 1) .nil)))) <|
  (.cons (.set [] true 3 (.app lstR .nil)) <|
  (.cons (.forI [] itRng1 (.cons (.app (bltR "len" lenS) (.cons (.var 0) .nil)) .nil) (.nm 4) (l__law_cells_2)) <|
  (.cons (.retv 3) <| .nil))))
def f__law_cells : List D → Bag → Option (R × Bag) := evF 2 6 (b__law_cells)
theorem c__law_cells : chkSs n__law_cells (defScope s__law_cells) (defBody s__law_cells) (b__law_cells) = true := by kernel_rfl
theorem ok__law_cells (A : BA) {P : Program} {w : World} {K : PySem.W.Frag} {mg : Str → Option Value} {base : Heap} {f : Addr} {fd : FuncData} (F : Fun K "_law_cells" "_law_cells" s__law_cells f fd) (h_range : mg "range" = none) (h_len : mg "len" = none) (k__law_table : Callee (cfg P w K mg base A) 1 "_law_table" f__law_table) : FnOk P w K mg base CX0 2 f fd ["gifts", "uses"] (fun vs H Q _ => RSem (cfg P w K mg base A) f__law_cells vs H Q) := by
  have o : (b__law_cells).ok (cfg P w K mg base A) 1 := by
    simp only [b__law_cells, l__law_cells_1, l__law_cells_2, Sms.ok, Sm.ok, Xp.ok, Xs.ok, and_true, true_and]
    (repeat' apply And.intro) <;> first | exact (ok_lst).up | exact (ok_itRng1 h_range) | exact (ok_len h_len).up | exact cmp_gt | exact (ok_ix).up | exact ok_append | exact (ok_tup).up | exact (call_rule (k__law_table.mono (by decide))).up
  exact fn_ok F sc__law_cells (by decide) o (c__law_cells)
abbrev s__law_crossed : Stmt := topS 35
def n__law_crossed : List Str := ["gifts", "uses", "cells", "found", "k", "pair", "low", "high", "m", "late"]
theorem sc__law_crossed : FnScope n__law_crossed ["gifts", "uses", "cells"] (defScope s__law_crossed) := ⟨rfl, rfl, rfl, by decide +kernel, rfl, by decide +kernel, by decide +kernel⟩
def l__law_crossed_1 : Sms Bag :=
  (.cons (.iff [] (.and (.cons (.cmp ⟨.Lt, ltS⟩ (.app ixR (.cons (.app ixR (.cons (.var 2) (.cons (.var 4) .nil))) (.cons (.con (.int 0)) .nil))) (.app ixR (.cons (.app ixR (.cons (.var 2) (.cons (.var 8) .nil))) (.cons (.con (.int 0)) .nil)))) (.cons (.cmp ⟨.Lt, ltS⟩ (.app ixR (.cons (.app ixR (.cons (.var 2) (.cons (.var 4) .nil))) (.cons (.con (.int 1)) .nil))) (.app ixR (.cons (.app ixR (.cons (.var 2) (.cons (.var 8) .nil))) (.cons (.con (.int 1)) .nil)))) .nil))) (
    (.cons (.set [] false 9 (.app (bltR "int" intS) (.cons (.cmp ⟨.Gt, gtS⟩ (.app ixR (.cons (.app ixR (.cons (.var 0) (.cons (.app ixR (.cons (.app ixR (.cons (.var 2) (.cons (.var 8) .nil))) (.cons (.con (.int 0)) .nil))) .nil))) (.cons (.con (.int 1)) .nil))) (.app ixR (.cons (.app ixR (.cons (.var 1) (.cons (.app ixR (.cons (.app ixR (.cons (.var 2) (.cons (.var 4) .nil))) (.cons (.con (.int 1)) .nil))) .nil))) (.cons (.con (.int 1)) .nil)))) .nil))) <|
    (.cons (.mut mAppend [] 3 (.cons (.app tupR (.cons (.var 9) (.cons (.app ixR (.cons (.var 2) (.cons (.var 4) .nil))) (.cons (.app ixR (.cons (.var 2) (.cons (.var 8) .nil))) .nil)))) .nil)) <| .nil))) (
 .nil)) <| .nil)
def l__law_crossed_2 : Sms Bag :=
  (.cons (.forI [] itRng2 (.cons (.app (binR .Add addS) (.cons (.var 4) (.cons (.con (.int 1)) .nil))) (.cons (.app (bltR "len" lenS) (.cons (.var 2) .nil)) .nil)) (.nm 8) (l__law_crossed_1)) <| .nil)
def b__law_crossed : Sms Bag :=
  (.cons (.set [] true 3 (.app lstR .nil)) <|
  (.cons (.forI [] itRng1 (.cons (.app (bltR "len" lenS) (.cons (.var 2) .nil)) .nil) (.nm 4) (l__law_crossed_2)) <|
  (.cons (.iff [3] (.cmp ⟨.Eq, eqS⟩ (.app (bltR "len" lenS) (.cons (.var 3) .nil)) (.con (.int 0))) (
    (.cons (.ret [] (.app lstR .nil)) <| .nil)) (
 .nil)) <|
  (.cons (.set [3] false 5 (.app ixR (.cons (.app (bltR "sorted" sortedS) (.cons (.var 3) .nil)) (.cons (.con (.int 0)) .nil)))) <|
  (.cons (.set [] false 6 (.app ixR (.cons (.var 5) (.cons (.con (.int 1)) .nil)))) <|
  (.cons (.set [] false 7 (.app ixR (.cons (.var 5) (.cons (.con (.int 2)) .nil)))) <|
  (.cons (.ret [] (.app lstR (.cons (.app tupR (.cons (.app ixR (.cons (.var 6) (.cons (.con (.int 0)) .nil))) (.cons (.app ixR (.cons (.var 6) (.cons (.con (.int 1)) .nil))) (.cons (.app (binR .Sub subS) (.cons (.con (.int 0)) (.cons (.con (.int 1)) .nil))) .nil)))) (.cons (.app tupR (.cons (.app ixR (.cons (.var 7) (.cons (.con (.int 0)) .nil))) (.cons (.app ixR (.cons (.var 7) (.cons (.con (.int 1)) .nil))) (.cons (.app (binR .Sub subS) (.cons (.con (.int 0)) (.cons (.con (.int 1)) .nil))) .nil)))) (.cons (.app tupR (.cons (.app ixR (.cons (.var 6) (.cons (.con (.int 0)) .nil))) (.cons (.app ixR (.cons (.var 7) (.cons (.con (.int 1)) .nil))) (.cons (.con (.int 1)) .nil)))) (.cons (.app tupR (.cons (.app ixR (.cons (.var 7) (.cons (.con (.int 0)) .nil))) (.cons (.app ixR (.cons (.var 6) (.cons (.con (.int 1)) .nil))) (.cons (.con (.int 1)) .nil)))) .nil)))))) <| .nil)))))))
def f__law_crossed : List D → Bag → Option (R × Bag) := evF 3 10 (b__law_crossed)
theorem c__law_crossed : chkSs n__law_crossed (defScope s__law_crossed) (defBody s__law_crossed) (b__law_crossed) = true := by kernel_rfl
theorem ok__law_crossed (A : BA) {P : Program} {w : World} {K : PySem.W.Frag} {mg : Str → Option Value} {base : Heap} {f : Addr} {fd : FuncData} (F : Fun K "_law_crossed" "_law_crossed" s__law_crossed f fd) (h_range : mg "range" = none) (h_len : mg "len" = none) (h_int : mg "int" = none) (h_sorted : mg "sorted" = none) : FnOk P w K mg base CX0 1 f fd ["gifts", "uses", "cells"] (fun vs H Q _ => RSem (cfg P w K mg base A) f__law_crossed vs H Q) := by
  have o : (b__law_crossed).ok (cfg P w K mg base A) 0 := by
    simp only [b__law_crossed, l__law_crossed_1, l__law_crossed_2, Sms.ok, Sm.ok, Xp.ok, Xs.ok, and_true, true_and]
    (repeat' apply And.intro) <;> first | exact (ok_lst).up | exact (ok_itRng1 h_range) | exact (ok_len h_len).up | exact (ok_itRng2 h_range) | exact (ok_add).up | exact cmp_lt | exact (ok_ix).up | exact (ok_int h_int).up | exact cmp_gt | exact ok_append | exact (ok_tup).up | exact cmp_eq | exact (ok_sorted h_sorted).up | exact (ok_sub).up
  exact fn_ok F sc__law_crossed (by decide) o (c__law_crossed)
abbrev s__law_sum_papers : Stmt := topS 36
def n__law_sum_papers : List Str := ["gifts", "uses", "cells", "i", "j", "papers", "first", "cell"]
theorem sc__law_sum_papers : FnScope n__law_sum_papers ["gifts", "uses"] (defScope s__law_sum_papers) := ⟨rfl, rfl, rfl, by decide +kernel, rfl, by decide +kernel, by decide +kernel⟩
def e__law_sum_papers_1 : Xp Bag := (.comp [("cell", 7)] itList (.cons (.var 2) .nil) (.nm 7) (.cons (.cmp ⟨.Eq, eqS⟩ (.app ixR (.cons (.var 7) (.cons (.con (.int 0)) .nil))) (.var 3)) .nil) (.app ixR (.cons (.var 7) (.cons (.con (.int 1)) .nil))))
def b__law_sum_papers : Sms Bag :=
  (.cons (.set [] false 2 (.app (callR "_law_cells" f__law_cells) (.cons (.var 0) (.cons (.var 1) .nil)))) <|
  (.cons (.set [] false 3 (.app ixR (.cons (.app ixR (.cons (.var 2) (.cons (.app (unR .USub negS) (.cons (.con (.int 1)) .nil)) .nil))) (.cons (.con (.int 0)) .nil)))) <|
  (.cons (.set [] false 4 (.app ixR (.cons (.app ixR (.cons (.var 2) (.cons (.app (unR .USub negS) (.cons (.con (.int 1)) .nil)) .nil))) (.cons (.con (.int 1)) .nil)))) <|
  (.cons (.set [] true 5 (.app lstR (.cons (.app (callR "_law_changed" f__law_changed) (.cons (.var 0) (.cons (.var 1) (.cons (.app (callR "_law_crossed" f__law_crossed) (.cons (.var 0) (.cons (.var 1) (.cons (.var 2) .nil)))) .nil)))) .nil))) <|
  (.cons (.iff [] (.cmp ⟨.Lt, ltS⟩ (.app (binR .Add addS) (.cons (.var 3) (.cons (.con (.int 1)) .nil))) (.app (bltR "len" lenS) (.cons (.var 0) .nil))) (
    (.cons (.mut mAppend [] 5 (.cons (.app (callR "_law_changed" f__law_changed) (.cons (.var 0) (.cons (.var 1) (.cons (.app lstR (.cons (.app tupR (.cons (.var 3) (.cons (.var 4) (.cons (.app (binR .Sub subS) (.cons (.con (.int 0)) (.cons (.con (.int 1)) .nil))) .nil)))) (.cons (.app tupR (.cons (.app (binR .Add addS) (.cons (.var 3) (.cons (.con (.int 1)) .nil))) (.cons (.var 4) (.cons (.con (.int 1)) .nil)))) .nil))) .nil)))) .nil)) <| .nil)) (
 .nil)) <|
  (.cons (.iff [] (.cmp ⟨.Gt, gtS⟩ (.var 3) (.con (.int 0))) (
    (.cons (.set [] false 6 (.app (bltR "min" minS) (.cons (e__law_sum_papers_1) .nil))) <|
    (.cons (.mut mAppend [] 5 (.cons (.app (callR "_law_changed" f__law_changed) (.cons (.var 0) (.cons (.var 1) (.cons (.app lstR (.cons (.app tupR (.cons (.app (binR .Sub subS) (.cons (.var 3) (.cons (.con (.int 1)) .nil))) (.cons (.var 6) (.cons (.con (.int 1)) .nil)))) (.cons (.app tupR (.cons (.var 3) (.cons (.var 6) (.cons (.app (binR .Sub subS) (.cons (.con (.int 0)) (.cons (.con (.int 1)) .nil))) .nil)))) .nil))) .nil)))) .nil)) <| .nil))) (
 .nil)) <|
  (.cons (.retv 5) <| .nil)))))))
def f__law_sum_papers : List D → Bag → Option (R × Bag) := evF 2 8 (b__law_sum_papers)
theorem c__law_sum_papers : chkSs n__law_sum_papers (defScope s__law_sum_papers) (defBody s__law_sum_papers) (b__law_sum_papers) = true := by kernel_rfl
theorem ok__law_sum_papers (A : BA) {P : Program} {w : World} {K : PySem.W.Frag} {mg : Str → Option Value} {base : Heap} {f : Addr} {fd : FuncData} (F : Fun K "_law_sum_papers" "_law_sum_papers" s__law_sum_papers f fd) (h_len : mg "len" = none) (h_min : mg "min" = none) (k__law_cells : Callee (cfg P w K mg base A) 2 "_law_cells" f__law_cells) (k__law_changed : Callee (cfg P w K mg base A) 2 "_law_changed" f__law_changed) (k__law_crossed : Callee (cfg P w K mg base A) 1 "_law_crossed" f__law_crossed) : FnOk P w K mg base CX0 3 f fd ["gifts", "uses"] (fun vs H Q _ => RSem (cfg P w K mg base A) f__law_sum_papers vs H Q) := by
  have o : (b__law_sum_papers).ok (cfg P w K mg base A) 2 := by
    simp only [b__law_sum_papers, e__law_sum_papers_1, Sms.ok, Sm.ok, Xp.ok, Xs.ok, and_true, true_and]
    (repeat' apply And.intro) <;> first | exact (ok_ix).up | exact (ok_neg).up | exact (ok_lst).up | exact cmp_lt | exact (ok_add).up | exact (ok_len h_len).up | exact ok_append | exact (ok_tup).up | exact (ok_sub).up | exact cmp_gt | exact (ok_min h_min).up | exact ok_itList | exact cmp_eq | exact (call_rule (k__law_cells.mono (by decide))).up | exact (call_rule (k__law_changed.mono (by decide))).up | exact (call_rule (k__law_crossed.mono (by decide))).up
  exact fn_ok F sc__law_sum_papers (by decide) o (c__law_sum_papers)
abbrev s__law_beside : Stmt := topS 37
def n__law_beside : List Str := ["bag", "gifts", "uses", "rows", "cells", "cell", "day", "later", "i", "last", "fewer", "gift"]
theorem sc__law_beside : FnScope n__law_beside ["bag", "gifts", "uses", "rows"] (defScope s__law_beside) := ⟨rfl, rfl, rfl, by decide +kernel, rfl, by decide +kernel, by decide +kernel⟩
def e__law_beside_1 (A : BA) : Xp Bag := (.comp [("gift", 11)] itList (.cons (.app (slR true false) (.cons (.var 1) (.cons (.app ixR (.cons (.var 5) (.cons (.con (.int 0)) .nil))) .nil))) .nil) (.nm 11) .nil (.app tupR (.cons (.app ixR (.cons (.var 11) (.cons (.con (.int 0)) .nil))) (.cons (.app (bltR "max" maxS) (.cons (.var 6) (.cons (.app ixR (.cons (.var 11) (.cons (.con (.int 1)) .nil))) .nil))) (.cons (.app ixR (.cons (.var 11) (.cons (.con (.int 2)) .nil))) .nil)))))
def b__law_beside (A : BA) : Sms Bag :=
  (.cons (.set [] false 4 (.app (callR "_law_cells" f__law_cells) (.cons (.var 1) (.cons (.var 2) .nil)))) <|
  (.cons (.set [] false 5 (.app ixR (.cons (.var 4) (.cons (.app (callR "_law_draw" (f__law_draw A)) (.cons (.var 0) (.cons (.app (bltR "len" lenS) (.cons (.var 4) .nil)) .nil))) .nil)))) <|
  (.cons (.set [] false 6 (.app (bltR "min" minS) (.cons (.con (.int 9999)) (.cons (.app (binR .Add addS) (.cons (.app ixR (.cons (.app ixR (.cons (.var 2) (.cons (.app ixR (.cons (.var 5) (.cons (.con (.int 1)) .nil))) .nil))) (.cons (.con (.int 1)) .nil))) (.cons (.con (.int 1)) .nil))) .nil)))) <|
  (.cons (.set [] false 7 (.app (binR .Add addS) (.cons (.app (slR false true) (.cons (.var 1) (.cons (.app ixR (.cons (.var 5) (.cons (.con (.int 0)) .nil))) .nil))) (.cons (e__law_beside_1 A) .nil)))) <|
  (.cons (.iff [] (.not (.app (callR "_law_asked" f__law_asked) (.cons (.var 7) (.cons (.var 2) (.cons (.var 3) .nil))))) (
    (.cons (.ret [] (.con (.bl false))) <| .nil)) (
 .nil)) <|
  (.cons (.set [] false 8 (.app ixR (.cons (.app ixR (.cons (.var 4) (.cons (.app (unR .USub negS) (.cons (.con (.int 1)) .nil)) .nil))) (.cons (.con (.int 0)) .nil)))) <|
  (.cons (.set [] false 9 (.app ixR (.cons (.var 1) (.cons (.var 8) .nil)))) <|
  (.cons (.set [] false 10 (.app (binR .Add addS) (.cons (.app (binR .Add addS) (.cons (.app (slR false true) (.cons (.var 1) (.cons (.var 8) .nil))) (.cons (.app lstR (.cons (.app tupR (.cons (.app ixR (.cons (.var 9) (.cons (.con (.int 0)) .nil))) (.cons (.app ixR (.cons (.var 9) (.cons (.con (.int 1)) .nil))) (.cons (.app (binR .Sub subS) (.cons (.app ixR (.cons (.var 9) (.cons (.con (.int 2)) .nil))) (.cons (.con (.int 1)) .nil))) .nil)))) .nil)) .nil))) (.cons (.app (slR true false) (.cons (.var 1) (.cons (.app (binR .Add addS) (.cons (.var 8) (.cons (.con (.int 1)) .nil))) .nil))) .nil)))) <|
  (.cons (.ret [] (.or (.cons (.cmp ⟨.Lt, ltS⟩ (.app ixR (.cons (.var 9) (.cons (.con (.int 2)) .nil))) (.con (.int 2))) (.cons (.app (callR "_law_asked" f__law_asked) (.cons (.var 10) (.cons (.var 2) (.cons (.var 3) .nil)))) .nil)))) <| .nil)))))))))
def f__law_beside (A : BA) : List D → Bag → Option (R × Bag) := evF 4 12 (b__law_beside A)
theorem c__law_beside (A : BA) : chkSs n__law_beside (defScope s__law_beside) (defBody s__law_beside) (b__law_beside A) = true := by kernel_rfl
theorem ok__law_beside (A : BA) {P : Program} {w : World} {K : PySem.W.Frag} {mg : Str → Option Value} {base : Heap} {f : Addr} {fd : FuncData} (F : Fun K "_law_beside" "_law_beside" s__law_beside f fd) (h_len : mg "len" = none) (h_min : mg "min" = none) (h_max : mg "max" = none) (k__law_cells : Callee (cfg P w K mg base A) 2 "_law_cells" f__law_cells) (k__law_draw : Callee (cfg P w K mg base A) 1 "_law_draw" (f__law_draw A)) (k__law_asked : Callee (cfg P w K mg base A) 4 "_law_asked" f__law_asked) : FnOk P w K mg base CX0 5 f fd ["bag", "gifts", "uses", "rows"] (fun vs H Q _ => RSem (cfg P w K mg base A) (f__law_beside A) vs H Q) := by
  have o : (b__law_beside A).ok (cfg P w K mg base A) 4 := by
    simp only [b__law_beside, e__law_beside_1, Sms.ok, Sm.ok, Xp.ok, Xs.ok, and_true, true_and]
    (repeat' apply And.intro) <;> first | exact (ok_ix).up | exact (ok_len h_len).up | exact (ok_min h_min).up | exact (ok_add).up | exact ok_itList | exact (ok_sl true false).up | exact (ok_tup).up | exact (ok_max h_max).up | exact (ok_sl false true).up | exact (ok_neg).up | exact (ok_lst).up | exact (ok_sub).up | exact cmp_lt | exact (call_rule (k__law_cells.mono (by decide))).up | exact (call_rule (k__law_draw.mono (by decide))).up | exact (call_rule (k__law_asked.mono (by decide))).up
  exact fn_ok F sc__law_beside (by decide) o (c__law_beside A)
abbrev s__law_first : Stmt := topS 38
def n__law_first : List Str := ["bag", "gifts", "uses", "rows", "index", "last", "more", "turn", "use", "gift"]
theorem sc__law_first : FnScope n__law_first ["bag", "gifts", "uses"] (defScope s__law_first) := ⟨rfl, rfl, rfl, by decide +kernel, rfl, by decide +kernel, by decide +kernel⟩
def e__law_first_1 (A : BA) : Xp Bag := (.comp [("gift", 9)] itList (.cons (.var 1) .nil) (.nm 9) .nil (.app ixR (.cons (.var 9) (.cons (.con (.int 2)) .nil))))
def e__law_first_2 (A : BA) : Xp Bag := (.comp [("use", 8)] itList (.cons (.var 2) .nil) (.nm 8) .nil (.app ixR (.cons (.var 8) (.cons (.con (.int 2)) .nil))))
def b__law_first (A : BA) : Sms Bag :=
  (.cons (.set [] false 3 (.app (callR "_law_rows" f__law_rows) (.cons (.var 1) (.cons (.var 2) .nil)))) <|
  (.cons (.set [] false 4 (.app (callR "_law_outrun" f__law_outrun) (.cons (.var 1) (.cons (.var 2) .nil)))) <|
  (.cons (.iff [] (.or (.cons (.cmp ⟨.Gt, gtS⟩ (.app (bltR "len" lenS) (.cons (.var 1) .nil)) (.con (.int 6))) (.cons (.cmp ⟨.Gt, gtS⟩ (.app (bltR "len" lenS) (.cons (.var 2) .nil)) (.con (.int 6))) .nil))) (
    (.cons (.iff [] (.and (.cons (.cmp ⟨.Gt, gtS⟩ (.app (bltR "len" lenS) (.cons (.var 3) .nil)) (.con (.int 1))) (.cons (.cmp ⟨.Eq, eqS⟩ (.app (callR "_law_draw" (f__law_draw A)) (.cons (.var 0) (.cons (.con (.int 2)) .nil))) (.con (.int 1))) .nil))) (
      (.cons (.set [] false 7 (.app (callR "_law_draw" (f__law_draw A)) (.cons (.var 0) (.cons (.app (binR .Sub subS) (.cons (.app (bltR "len" lenS) (.cons (.var 3) .nil)) (.cons (.con (.int 1)) .nil))) .nil)))) <|
      (.cons (.set [] false 3 (.app (binR .Add addS) (.cons (.app (binR .Add addS) (.cons (.app (slR false true) (.cons (.var 3) (.cons (.var 7) .nil))) (.cons (.app lstR (.cons (.app ixR (.cons (.var 3) (.cons (.app (binR .Add addS) (.cons (.var 7) (.cons (.con (.int 1)) .nil))) .nil))) (.cons (.app ixR (.cons (.var 3) (.cons (.var 7) .nil))) .nil))) .nil))) (.cons (.app (slR true false) (.cons (.var 3) (.cons (.app (binR .Add addS) (.cons (.var 7) (.cons (.con (.int 2)) .nil))) .nil))) .nil)))) <| .nil))) (
 .nil)) <|
    (.cons (.ret [] (.app (callR "_law_asked" f__law_asked) (.cons (.var 1) (.cons (.var 2) (.cons (.var 3) .nil))))) <| .nil))) (
 .nil)) <|
  (.cons (.iff [] (.or (.cons (.not (.app (callR "_law_asked" f__law_asked) (.cons (.var 1) (.cons (.var 2) (.cons (.var 3) .nil))))) (.cons (.not (.app (callR "_law_asked" f__law_asked) (.cons (.var 1) (.cons (.var 2) (.cons (.app lstR .nil) .nil))))) .nil))) (
    (.cons (.ret [] (.con (.bl false))) <| .nil)) (
 .nil)) <|
  (.cons (.iff [] (.or (.cons (.cmp ⟨.Is, isnS⟩ (.var 4) (.con .non)) (.cons (.cmp ⟨.Eq, eqS⟩ (.app (bltR "len" lenS) (.cons (.var 1) .nil)) (.con (.int 0))) .nil))) (
    (.cons (.ret [] (.con (.bl true))) <| .nil)) (
 .nil)) <|
  (.cons (.set [] false 5 (.app ixR (.cons (.var 1) (.cons (.app (unR .USub negS) (.cons (.con (.int 1)) .nil)) .nil)))) <|
  (.cons (.set [] false 6 (.app (bltR "max" maxS) (.cons (.con (.int 0)) (.cons (.app (binR .Sub subS) (.cons (.app (bltR "sum" sumS) (.cons (e__law_first_2 A) .nil)) (.cons (.app (bltR "sum" sumS) (.cons (e__law_first_1 A) .nil)) .nil))) .nil)))) <|
  (.cons (.ret [] (.app (callR "_law_asked" f__law_asked) (.cons (.var 1) (.cons (.var 2) (.cons (.app (callR "_law_rows" f__law_rows) (.cons (.app (binR .Add addS) (.cons (.app (slR false true) (.cons (.var 1) (.cons (.app (unR .USub negS) (.cons (.con (.int 1)) .nil)) .nil))) (.cons (.app lstR (.cons (.app tupR (.cons (.app ixR (.cons (.var 5) (.cons (.con (.int 0)) .nil))) (.cons (.app ixR (.cons (.var 5) (.cons (.con (.int 1)) .nil))) (.cons (.app (binR .Add addS) (.cons (.app ixR (.cons (.var 5) (.cons (.con (.int 2)) .nil))) (.cons (.var 6) .nil))) .nil)))) .nil)) .nil))) (.cons (.var 2) .nil))) .nil))))) <| .nil))))))))
def f__law_first (A : BA) : List D → Bag → Option (R × Bag) := evF 3 10 (b__law_first A)
theorem c__law_first (A : BA) : chkSs n__law_first (defScope s__law_first) (defBody s__law_first) (b__law_first A) = true := by kernel_rfl
theorem ok__law_first (A : BA) {P : Program} {w : World} {K : PySem.W.Frag} {mg : Str → Option Value} {base : Heap} {f : Addr} {fd : FuncData} (F : Fun K "_law_first" "_law_first" s__law_first f fd) (h_len : mg "len" = none) (h_max : mg "max" = none) (h_sum : mg "sum" = none) (k__law_rows : Callee (cfg P w K mg base A) 2 "_law_rows" f__law_rows) (k__law_outrun : Callee (cfg P w K mg base A) 2 "_law_outrun" f__law_outrun) (k__law_draw : Callee (cfg P w K mg base A) 1 "_law_draw" (f__law_draw A)) (k__law_asked : Callee (cfg P w K mg base A) 4 "_law_asked" f__law_asked) : FnOk P w K mg base CX0 5 f fd ["bag", "gifts", "uses"] (fun vs H Q _ => RSem (cfg P w K mg base A) (f__law_first A) vs H Q) := by
  have o : (b__law_first A).ok (cfg P w K mg base A) 4 := by
    simp only [b__law_first, e__law_first_1, e__law_first_2, Sms.ok, Sm.ok, Xp.ok, Xs.ok, and_true, true_and]
    (repeat' apply And.intro) <;> first | exact cmp_gt | exact (ok_len h_len).up | exact cmp_eq | exact (ok_sub).up | exact (ok_add).up | exact (ok_sl true false).up | exact (ok_lst).up | exact (ok_ix).up | exact (ok_sl false true).up | exact cmp_is | exact (ok_neg).up | exact (ok_max h_max).up | exact (ok_sum h_sum).up | exact ok_itList | exact (ok_tup).up | exact (call_rule (k__law_rows.mono (by decide))).up | exact (call_rule (k__law_outrun.mono (by decide))).up | exact (call_rule (k__law_draw.mono (by decide))).up | exact (call_rule (k__law_asked.mono (by decide))).up
  exact fn_ok F sc__law_first (by decide) o (c__law_first A)
abbrev s__law_second : Stmt := topS 39
def n__law_second : List Str := ["bag", "gifts", "uses", "rows", "paper", "told"]
theorem sc__law_second : FnScope n__law_second ["bag", "gifts", "uses"] (defScope s__law_second) := ⟨rfl, rfl, rfl, by decide +kernel, rfl, by decide +kernel, by decide +kernel⟩
def l__law_second_1 (A : BA) : Sms Bag :=
  (.cons (.iff [] (.not (.app (callR "_law_asked" f__law_asked) (.cons (.var 1) (.cons (.var 2) (.cons (.var 4) .nil))))) (
    (.cons (.ret [] (.con (.bl false))) <| .nil)) (
 .nil)) <| .nil)
def b__law_second (A : BA) : Sms Bag :=
  (.cons (.set [] false 3 (.app (callR "_law_rows" f__law_rows) (.cons (.var 1) (.cons (.var 2) .nil)))) <|
  (.cons (.iff [] (.not (.app (callR "_law_asked" f__law_asked) (.cons (.var 1) (.cons (.var 2) (.cons (.var 3) .nil))))) (
    (.cons (.ret [] (.con (.bl false))) <| .nil)) (
 .nil)) <|
  (.cons (.forI [] itList (.cons (.app (binR .Add addS) (.cons (.app (callR "_law_row_papers" (f__law_row_papers A)) (.cons (.var 0) (.cons (.var 1) (.cons (.var 2) (.cons (.var 3) .nil))))) (.cons (.app (callR "_law_sum_papers" f__law_sum_papers) (.cons (.var 1) (.cons (.var 2) .nil))) .nil))) .nil) (.nm 4) (l__law_second_1 A)) <|
  (.cons (.set [] false 5 (.app (callR "is_trace" f_is_trace) (.cons (.app (bltR "tuple" tupleS) (.cons (.var 1) .nil)) (.cons (.app (bltR "tuple" tupleS) (.cons (.var 2) .nil)) (.cons (.app (bltR "list" listS) (.cons (.var 3) .nil)) .nil))))) <|
  (.cons (.ret [] (.and (.cons (.app (isiR "bool") (.cons (.var 5) .nil)) (.cons (.var 5) (.cons (.app (callR "_law_beside" (f__law_beside A)) (.cons (.var 0) (.cons (.var 1) (.cons (.var 2) (.cons (.var 3) .nil))))) .nil))))) <| .nil)))))
def f__law_second (A : BA) : List D → Bag → Option (R × Bag) := evF 3 6 (b__law_second A)
theorem c__law_second (A : BA) : chkSs n__law_second (defScope s__law_second) (defBody s__law_second) (b__law_second A) = true := by kernel_rfl
theorem ok__law_second (A : BA) {P : Program} {w : World} {K : PySem.W.Frag} {mg : Str → Option Value} {base : Heap} {f : Addr} {fd : FuncData} (F : Fun K "_law_second" "_law_second" s__law_second f fd) (h_list : mg "list" = none) (h_tuple : mg "tuple" = none) (h_isinstance : mg "isinstance" = none) (h_bool : mg "bool" = none) (k__law_rows : Callee (cfg P w K mg base A) 2 "_law_rows" f__law_rows) (k__law_asked : Callee (cfg P w K mg base A) 4 "_law_asked" f__law_asked) (k__law_sum_papers : Callee (cfg P w K mg base A) 3 "_law_sum_papers" f__law_sum_papers) (k__law_row_papers : Callee (cfg P w K mg base A) 3 "_law_row_papers" (f__law_row_papers A)) (k_is_trace : Callee (cfg P w K mg base A) 3 "is_trace" f_is_trace) (k__law_beside : Callee (cfg P w K mg base A) 5 "_law_beside" (f__law_beside A)) : FnOk P w K mg base CX0 6 f fd ["bag", "gifts", "uses"] (fun vs H Q _ => RSem (cfg P w K mg base A) (f__law_second A) vs H Q) := by
  have o : (b__law_second A).ok (cfg P w K mg base A) 5 := by
    simp only [b__law_second, l__law_second_1, Sms.ok, Sm.ok, Xp.ok, Xs.ok, and_true, true_and]
    (repeat' apply And.intro) <;> first | exact ok_itList | exact (ok_add).up | exact (ok_list h_list).up | exact (ok_tuple h_tuple).up | exact (ok_isi h_isinstance h_bool).up | exact (call_rule (k__law_rows.mono (by decide))).up | exact (call_rule (k__law_asked.mono (by decide))).up | exact (call_rule (k__law_sum_papers.mono (by decide))).up | exact (call_rule (k__law_row_papers.mono (by decide))).up | exact (call_rule (k_is_trace.mono (by decide))).up | exact (call_rule (k__law_beside.mono (by decide))).up
  exact fn_ok F sc__law_second (by decide) o (c__law_second A)
abbrev s_law : Stmt := topS 40
def n_law : List Str := ["script", "bag", "many", "top", "great", "gifts", "days", "uses"]
theorem sc_law : FnScope n_law ["script"] (defScope s_law) := ⟨rfl, rfl, rfl, by decide +kernel, rfl, by decide +kernel, by decide +kernel⟩
def b_law (A : BA) : Sms Bag :=
  (.cons (.set [] false 2 (.con (.int 7))) <|
  (.cons (.iff [] (.cmp ⟨.Eq, eqS⟩ (.app (callR "_law_draw" (f__law_draw A)) (.cons (.var 1) (.cons (.con (.int 16)) .nil))) (.con (.int 0))) (
    (.cons (.set [] false 2 (.con (.int 41))) <| .nil)) (
 .nil)) <|
  (.cons (.set [] false 3 (.con (.int 13))) <|
  (.cons (.iff [] (.cmp ⟨.Eq, eqS⟩ (.app (callR "_law_draw" (f__law_draw A)) (.cons (.var 1) (.cons (.con (.int 3)) .nil))) (.con (.int 0))) (
    (.cons (.set [] false 3 (.con (.int 10000))) <| .nil)) (
 .nil)) <|
  (.cons (.set [] false 4 (.con (.int 7))) <|
  (.cons (.iff [] (.cmp ⟨.Eq, eqS⟩ (.app (callR "_law_draw" (f__law_draw A)) (.cons (.var 1) (.cons (.con (.int 6)) .nil))) (.con (.int 0))) (
    (.cons (.set [] false 4 (.con (.int 1000000000))) <| .nil)) (
 .nil)) <|
  (.cons (.set [] false 5 (.app (callR "_law_gift_rows" (f__law_gift_rows A)) (.cons (.var 1) (.cons (.app (callR "_law_draw" (f__law_draw A)) (.cons (.var 1) (.cons (.var 2) .nil))) (.cons (.var 3) (.cons (.var 4) .nil)))))) <|
  (.cons (.set [] false 6 (.app (callR "_law_use_days" (f__law_use_days A)) (.cons (.var 1) (.cons (.var 5) (.cons (.app (callR "_law_draw" (f__law_draw A)) (.cons (.var 1) (.cons (.var 2) .nil))) (.cons (.var 3) .nil)))))) <|
  (.cons (.set [] false 7 (.app (callR "_law_use_rows" (f__law_use_rows A)) (.cons (.var 1) (.cons (.var 5) (.cons (.var 6) (.cons (.var 4) (.cons (.cmp ⟨.Eq, eqS⟩ (.app (callR "_law_draw" (f__law_draw A)) (.cons (.var 1) (.cons (.con (.int 2)) .nil))) (.con (.int 0))) .nil))))))) <|
  (.cons (.iff [] (.not (.app (callR "_law_first" (f__law_first A)) (.cons (.var 1) (.cons (.var 5) (.cons (.var 7) .nil))))) (
    (.cons (.ret [] (.con (.bl false))) <| .nil)) (
 .nil)) <|
  (.cons (.set [] false 5 (.app (callR "_law_gift_rows" (f__law_gift_rows A)) (.cons (.var 1) (.cons (.app (binR .Add addS) (.cons (.con (.int 1)) (.cons (.app (callR "_law_draw" (f__law_draw A)) (.cons (.var 1) (.cons (.con (.int 5)) .nil))) .nil))) (.cons (.var 3) (.cons (.var 4) .nil)))))) <|
  (.cons (.set [] false 6 (.app (callR "_law_use_days" (f__law_use_days A)) (.cons (.var 1) (.cons (.var 5) (.cons (.app (binR .Add addS) (.cons (.con (.int 1)) (.cons (.app (callR "_law_draw" (f__law_draw A)) (.cons (.var 1) (.cons (.con (.int 5)) .nil))) .nil))) (.cons (.var 3) .nil)))))) <|
  (.cons (.set [] false 7 (.app (callR "_law_use_rows" (f__law_use_rows A)) (.cons (.var 1) (.cons (.var 5) (.cons (.var 6) (.cons (.var 4) (.cons (.con (.bl false)) .nil))))))) <|
  (.cons (.iff [] (.cmp ⟨.Eq, eqS⟩ (.app (bltR "len" lenS) (.cons (.var 7) .nil)) (.con (.int 0))) (
    (.cons (.set [] false 7 (.app lstR (.cons (.app tupR (.cons (.app (callR "_law_use_key" (f__law_use_key A)) (.cons (.var 1) (.cons (.app lstR (.cons (.con (.str "x")) (.cons (.con (.str "y")) (.cons (.con (.str "z")) .nil)))) (.cons (.app lstR .nil) .nil)))) (.cons (.app ixR (.cons (.app ixR (.cons (.var 5) (.cons (.app (unR .USub negS) (.cons (.con (.int 1)) .nil)) .nil))) (.cons (.con (.int 1)) .nil))) (.cons (.con (.int 1)) .nil)))) .nil))) <| .nil)) (
 .nil)) <|
  (.cons (.ret [] (.app (callR "_law_second" (f__law_second A)) (.cons (.var 1) (.cons (.var 5) (.cons (.var 7) .nil))))) <| .nil)))))))))))))))
theorem c_law (A : BA) : chkSs n_law (defScope s_law) (defBody s_law).tail (b_law A) = true := by kernel_rfl
theorem o_law (A : BA) {P : Program} {w : World} {K : PySem.W.Frag} {mg : Str → Option Value} {base : Heap} (h_len : mg "len" = none) (k__law_draw : Callee (cfg P w K mg base A) 1 "_law_draw" (f__law_draw A)) (k__law_gift_rows : Callee (cfg P w K mg base A) 2 "_law_gift_rows" (f__law_gift_rows A)) (k__law_use_days : Callee (cfg P w K mg base A) 2 "_law_use_days" (f__law_use_days A)) (k__law_use_rows : Callee (cfg P w K mg base A) 4 "_law_use_rows" (f__law_use_rows A)) (k__law_first : Callee (cfg P w K mg base A) 5 "_law_first" (f__law_first A)) (k__law_use_key : Callee (cfg P w K mg base A) 2 "_law_use_key" (f__law_use_key A)) (k__law_second : Callee (cfg P w K mg base A) 6 "_law_second" (f__law_second A)) : (b_law A).ok (cfg P w K mg base A) 6 := by
    simp only [b_law, Sms.ok, Sm.ok, Xp.ok, Xs.ok, and_true, true_and]
    (repeat' apply And.intro) <;> first | exact cmp_eq | exact (ok_add).up | exact (ok_len h_len).up | exact (ok_lst).up | exact (ok_tup).up | exact (ok_ix).up | exact (ok_neg).up | exact (call_rule (k__law_draw.mono (by decide))).up | exact (call_rule (k__law_gift_rows.mono (by decide))).up | exact (call_rule (k__law_use_days.mono (by decide))).up | exact (call_rule (k__law_use_rows.mono (by decide))).up | exact (call_rule (k__law_first.mono (by decide))).up | exact (call_rule (k__law_use_key.mono (by decide))).up | exact (call_rule (k__law_second.mono (by decide))).up
end
end K50

set_option Elab.async false
set_option linter.all false
set_option maxRecDepth 100000
set_option maxHeartbeats 4000000
namespace K50
open PySem PySem.Spec PyProof.Rows L2 Ev
abbrev Row := Int × D × Int
def PaperOk (N : Nat) (d : D) : Prop := ∃ rs : List Row, d = .lst (rs.map rD) ∧ rs.length ≤ N ∧ ∀ r ∈ rs, KeyR r.2.1
theorem cut_rows (rs : List Row) (lo hi : Option Int) : ∃ rs' : List Row, Ev.cutD (rs.map rD) lo hi = rs'.map rD ∧ rs'.length ≤ rs.length ∧ ∀ r ∈ rs', r ∈ rs := by
  refine ⟨(rs.drop (HT.sIx rs.length 0 lo)).take (HT.sIx rs.length rs.length hi - HT.sIx rs.length 0 lo), ?_, ?_, fun r hr => List.mem_of_mem_drop (List.mem_of_mem_take hr)⟩
  · unfold Ev.cutD
    rw [List.length_map, List.map_take, List.map_drop]
  · rw [List.length_take, List.length_drop]; omega
theorem addL {a b : List D} (h : a.length + b.length ≤ 16777216) : addS [.lst a, .lst b] = some (.own (.lst (a ++ b))) := if_pos h
theorem other_key_ok {us : List (D × Int × Int)} (hu : UK us) (hl : us.length ≤ 1000) {key : D} (hk : KeyOk key) (hi : ∀ i, key = .int i → -1 ≤ i ∧ i ≤ 3000000) (m : Bag) : ∃ k', f__law_other_key [key, .lst (us.map (·.1))] m = some (.val k', m) ∧ KeyR k' := by
  have hin : ∀ {k : D}, KeyR k → ∃ b, inS k (.lst (us.map (·.1))) = some b := fun {k} h => by
    have h1 := inS_lst (x := k) (ds := us.map (·.1)) h.1 (nbs_mem.mpr fun d hd => by
      obtain ⟨u, hu', rfl⟩ := List.mem_map.mp hd
      exact (hu.key u hu').1) (Nat.le_trans h.2 (by decide)) (deps_le.mpr fun d hd => by
      obtain ⟨u, hu', rfl⟩ := List.mem_map.mp hd
      exact Nat.le_trans (hu.key u hu').2 (by decide))
    exact ⟨_, h1⟩
  have big : KeyR (.int 3000000) := (keyInt _).r
  have tupk : KeyR (.tup [key]) := ⟨by simp [D.nb, D.nbs, hk.1], by have := hk.2; simp only [D.dep, D.deps]; omega⟩
  by_cases hint : ∃ i, key = .int i
  · obtain ⟨i, rfl⟩ := hint
    obtain ⟨i0, i1⟩ := hi i rfl
    have hlog : i.natAbs.log2 < 1920 := by
      by_cases h : i.natAbs = 0
      · rw [h]; decide
      · have h2 : i.natAbs < 2 ^ 22 := by
          have : i.natAbs ≤ 3000000 := by omega
          omega
        have := (Nat.log2_lt h).mpr h2
        omega
    obtain ⟨sn, st, so⟩ : ∃ s, strS [.int i] = some (.val (.str s)) ∧ PyData.strOk s = true := ⟨_, if_pos hlog, num_ok i⟩
    have hk' : KeyR (.str sn) := ⟨so, by simp [D.dep]⟩
    obtain ⟨b, hb⟩ := hin hk'
    cases b with
    | true => exact ⟨_, by simp [f__law_other_key, b__law_other_key, evF, evSs, evS, evs, evAnd, evOr, ev, evB, look, commit, R.d, R.kp, R.imm, R.sv, D.imm, D.imms, D.immC, setTg, setTs, bltR, binR, unR, ixR, tupR, lstR, dictTR, callR, slR, isiR, methR, lift, addS, subS, minS, maxS, modS, fdivS, mulS, negS, intS, wipeS, itList, itTup, itRng1, itRng2, mAppend, freeze, frz1, isnS, isnnS, isTy, st, hb], big⟩
    | false => exact ⟨_, by simp [f__law_other_key, b__law_other_key, evF, evSs, evS, evs, evAnd, evOr, ev, evB, look, commit, R.d, R.kp, R.imm, R.sv, D.imm, D.imms, D.immC, setTg, setTs, bltR, binR, unR, ixR, tupR, lstR, dictTR, callR, slR, isiR, methR, lift, addS, subS, minS, maxS, modS, fdivS, mulS, negS, intS, wipeS, itList, itTup, itRng1, itRng2, mAppend, freeze, frz1, isnS, isnnS, isTy, st, hb], hk'⟩
  · obtain ⟨b, hb⟩ := hin tupk
    have hty : isTy "int" key = some false := by
      have h1 := hk.1
      cases key <;> first | rfl | (exact absurd ⟨_, rfl⟩ hint) | (simp [D.nb] at h1)
    cases b with
    | true => exact ⟨_, by simp [f__law_other_key, b__law_other_key, evF, evSs, evS, evs, evAnd, evOr, ev, evB, look, commit, R.d, R.kp, R.imm, R.sv, D.imm, D.imms, D.immC, setTg, setTs, bltR, binR, unR, ixR, tupR, lstR, dictTR, callR, slR, isiR, methR, lift, addS, subS, minS, maxS, modS, fdivS, mulS, negS, intS, wipeS, itList, itTup, itRng1, itRng2, mAppend, freeze, frz1, isnS, isnnS, hty, hb], big⟩
    | false => exact ⟨_, by simp [f__law_other_key, b__law_other_key, evF, evSs, evS, evs, evAnd, evOr, ev, evB, look, commit, R.d, R.kp, R.imm, R.sv, D.imm, D.imms, D.immC, setTg, setTs, bltR, binR, unR, ixR, tupR, lstR, dictTR, callR, slR, isiR, methR, lift, addS, subS, minS, maxS, modS, fdivS, mulS, negS, intS, wipeS, itList, itTup, itRng1, itRng2, mAppend, freeze, frz1, isnS, isnnS, hty, hb], tupk⟩
theorem other_id_ok {A : BA} (hA : AOk A) {m : Bag} (hm : BOk m) (ids : List Int) (hl : ids.length ≤ 1000) : ∃ (n : Int) (m' : Bag), f__law_other_id A [.ref A.ab, .lst (ids.map .int)] m = some (.val (.int n), m') ∧ BOk m' := by
  obtain ⟨r1, m1, d1, a1, a2, b1⟩ := draw_ok hA hm (size := 60) (by decide) (by decide)
  have hl' : ((ids.length : Int) ≤ 1000000000) := by omega
  have ad1 : addS [.int 1, .int r1] = some (.val (.int (1 + r1))) := rfl
  obtain ⟨o, h1, h2⟩ := forL_range (body := evSs (l__law_other_id_1 A)) (tg := .nm 3) (fun i sl m' => m' = m1 ∧ ∃ (n : Int) (y3 : SV), sl = [.val (.ref A.ab), .val (.lst (ids.map .int)), .val (.int n), y3])
    (fun sl m' => m' = m1 ∧ ∃ (n : Int) (y3 : SV), sl = [.val (.ref A.ab), .val (.lst (ids.map .int)), .val (.int n), y3]) (fun _ _ => False) ids.length 0
    (fun i sl m' hi q => by
      obtain ⟨rfl, n, y3, rfl⟩ := q
      obtain ⟨b, e1, e2⟩ := nin_ints n ids
      have ad : addS [.int n, .int 1] = some (.val (.int (n + 1))) := rfl
      refine ⟨_, rfl, ?_⟩
      cases b with
      | true => exact ⟨.bk [.val (.ref A.ab), .val (.lst (ids.map .int)), .val (.int n), .val (.int (0 + (i : Int)))] m', by simp [evSs, evS, evs, evAnd, evOr, ev, evB, look, commit, R.d, R.kp, R.imm, R.sv, D.imm, D.imms, D.immC, setTg, setTs, bltR, binR, unR, ixR, tupR, lstR, dictTR, callR, slR, isiR, methR, lift, addS, subS, minS, maxS, modS, fdivS, mulS, negS, intS, wipeS, itList, itTup, itRng1, itRng2, mAppend, freeze, frz1, isnS, isnnS, l__law_other_id_1, e1], rfl, _, _, rfl⟩
      | false => exact ⟨.nx [.val (.ref A.ab), .val (.lst (ids.map .int)), .val (.int (n + 1)), .val (.int (0 + (i : Int)))] m', by simp [evSs, evS, evs, evAnd, evOr, ev, evB, look, commit, R.d, R.kp, R.imm, R.sv, D.imm, D.imms, D.immC, setTg, setTs, bltR, binR, unR, ixR, tupR, lstR, dictTR, callR, slR, isiR, methR, lift, addS, subS, minS, maxS, modS, fdivS, mulS, negS, intS, wipeS, itList, itTup, itRng1, itRng2, mAppend, freeze, frz1, isnS, isnnS, l__law_other_id_1, e1], rfl, _, _, rfl⟩) [.val (.ref A.ab), .val (.lst (ids.map .int)), .val (.int (1 + r1)), .non] m1 ⟨rfl, _, _, rfl⟩
  cases o with
  | nx sl m' =>
    have h3 : m' = m1 ∧ ∃ (n : Int) (y3 : SV), sl = [.val (.ref A.ab), .val (.lst (ids.map .int)), .val (.int n), y3] := h2.elim id id
    obtain ⟨rfl, n, y3, rfl⟩ := h3
    exact ⟨n, m', by simp [f__law_other_id, b__law_other_id, evF, evSs, evS, evs, evAnd, evOr, ev, evB, look, commit, R.d, R.kp, R.imm, R.sv, D.imm, D.imms, D.immC, setTg, setTs, bltR, binR, unR, ixR, tupR, lstR, dictTR, callR, slR, isiR, methR, lift, addS, subS, minS, maxS, modS, fdivS, mulS, negS, intS, wipeS, itList, itTup, itRng1, itRng2, mAppend, freeze, frz1, isnS, isnnS, d1, lenS, hl', h1], b1⟩
  | _ => exact h2.elim
theorem split_ok (rs : List Row) (hl : rs.length ≤ 10000) (hx : ∀ r ∈ rs, KeyR r.2.1) (m : Bag) : ∃ p, f__law_split [.lst (rs.map rD)] m = some (.own p, m) ∧ PaperOk 20002 p := by
  have hl' : ((rs.length : Int) ≤ 1000000000) := by omega
  obtain ⟨o, h1, h2⟩ := forL_range (body := evSs l__law_split_1) (tg := .nm 1) (fun i sl m' => m' = m ∧ ∃ (y1 y2 : SV), sl = [.val (.lst (rs.map rD)), y1, y2]) (fun _ _ => False)
    (fun r m' => m' = m ∧ ∃ p, r = .own p ∧ PaperOk 20002 p) rs.length 0
    (fun i sl m' hi q => by
      obtain ⟨rfl, y1, y2, rfl⟩ := q
      obtain ⟨r, hr⟩ : ∃ p, rs[i]? = some p := ⟨rs[i], List.getElem?_eq_getElem hi⟩
      have e0 : atI (rs.map rD) (i : Int) = some (rD r) := by rw [ixn, List.getElem?_map, hr]; rfl
      have hrm := hx r (List.mem_of_getElem? hr)
      refine ⟨_, rfl, ?_⟩
      by_cases hc : 1 < r.2.2
      · have hn : gtS (.int r.2.2) (.int 1) = some true := by simp [gtS, cmpS, hc]
        obtain ⟨a, c1, c2, c3⟩ := cut_rows rs none (some (i : Int))
        obtain ⟨b, c4, c5, c6⟩ := cut_rows rs (some ((i : Int) + 1)) none
        have ad1 : ∀ x y : D, addS [.lst (a.map rD), .lst [x, y]] = some (.own (.lst (a.map rD ++ [x, y]))) := fun x y => addL (by simp; omega)
        have ad2 : ∀ x y : D, addS [.lst (a.map rD ++ [x, y]), .lst (b.map rD)] = some (.own (.lst (a.map rD ++ [x, y] ++ b.map rD))) := fun x y => addL (by simp; omega)
        have ad3 : addS [.int (i : Int), .int 1] = some (.val (.int ((i : Int) + 1))) := rfl
        refine ⟨.rt (.own (.lst ((a ++ [(r.1, r.2.1, 1), (r.1, r.2.1, r.2.2 - 1)] ++ b).map rD))) m', ?_, rfl, _, rfl, _, rfl, ?_, ?_⟩
        · simp [evSs, evS, evs, ev, evB, look, commit, R.d, R.kp, R.imm, R.sv, bltR, binR, ixR, lstR, tupR, slR, lift, partS, slS, subS, l__law_split_1, ixS_lst, e0, rD, ixS_tup, ix0, ix1, ix2, hn, c1, c4, ad1, ad2, ad3]
        · simp; omega
        · intro x hx'
          rcases List.mem_append.mp hx' with z | z
          · rcases List.mem_append.mp z with z | z
            · exact hx x (c3 x z)
            · simp at z
              rcases z with rfl | rfl <;> exact hrm
          · exact hx x (c6 x z)
      · have hn : gtS (.int r.2.2) (.int 1) = some false := by simp [gtS, cmpS]; omega
        refine ⟨.nx [.val (.lst (rs.map rD)), .val (.int (0 + (i : Int))), y2] m', ?_, rfl, _, _, rfl⟩
        simp [evSs, evS, evs, evAnd, evOr, ev, evB, look, commit, R.d, R.kp, R.imm, R.sv, D.imm, D.imms, D.immC, setTg, setTs, bltR, binR, unR, ixR, tupR, lstR, dictTR, callR, slR, isiR, methR, lift, addS, subS, minS, maxS, modS, fdivS, mulS, negS, intS, wipeS, itList, itTup, itRng1, itRng2, mAppend, freeze, frz1, isnS, isnnS, l__law_split_1, ixS_lst, e0, rD, ixS_tup, ix2, hn]) [.val (.lst (rs.map rD)), .non, .non] m ⟨rfl, _, _, rfl⟩
  cases o with
  | rt r m' =>
    obtain ⟨rfl, p, rfl, hp⟩ := h2
    exact ⟨p, by simp [f__law_split, b__law_split, evF, evSs, evS, evs, evAnd, evOr, ev, evB, look, commit, R.d, R.kp, R.imm, R.sv, D.imm, D.imms, D.immC, setTg, setTs, bltR, binR, unR, ixR, tupR, lstR, dictTR, callR, slR, isiR, methR, lift, addS, subS, minS, maxS, modS, fdivS, mulS, negS, intS, wipeS, itList, itTup, itRng1, itRng2, mAppend, freeze, frz1, isnS, isnnS, lenS, hl', h1], hp⟩
  | nx sl m' =>
    obtain ⟨rfl, y1, y2, rfl⟩ := h2.resolve_right id
    obtain ⟨a, c1, c2, c3⟩ := cut_rows rs (some (-1)) none
    have ad1 : addS [.lst (rs.map rD), .lst (a.map rD)] = some (.own (.lst (rs.map rD ++ a.map rD))) := addL (by simp; omega)
    refine ⟨.lst ((rs ++ a).map rD), ?_, _, rfl, by simp; omega, fun x hx' => (List.mem_append.mp hx').elim (hx x) fun z => hx x (c3 x z)⟩
    simp [f__law_split, b__law_split, evF, evSs, evS, evs, ev, evB, look, commit, R.d, R.kp, R.imm, R.sv, bltR, binR, unR, negS, slR, lift, itRng1, lenS, hl', h1, partS, slS, c1, ad1]
  | bk _ _ => exact h2.elim
  | ct _ _ => exact h2.elim
theorem nought_ok (gs : List (Int × Int × Int)) {us : List (D × Int × Int)} (hu : UK us) (hg : gs.length ≤ 100) (hul : us.length ≤ 100) (i0 j0 : Int) (m : Bag) :
    ∃ p, f__law_with_nought [.lst (gs.map gD), .lst (us.map uD), .int i0, .int j0] m = some (.own p, m) ∧ PaperOk 20002 p := by
  have hl1 : ((gs.length : Int) ≤ 1000000000) := by omega
  have hl2 : ((us.length : Int) ≤ 1000000000) := by omega
  have htab := table_ok gs us (by omega) (by omega) m
  have inner : ∀ (i : Nat) (rs : List Row) (y7 : SV), i < gs.length → (∀ r ∈ rs, KeyR r.2.1) → rs.length ≤ i * us.length →
      ∃ (rs' : List Row) (z7 : SV), forL (.nm 7) (evSs l__law_with_nought_1) (Ev.upTo 0 us.length) [.val (.lst (gs.map gD)), .val (.lst (us.map uD)), .val (.int i0), .val (.int j0), .val (.lst (tabD gs.length us.length (lapF gs us))), .own (.lst (rs.map rD)), .val (.int i), y7] m = some (.nx [.val (.lst (gs.map gD)), .val (.lst (us.map uD)), .val (.int i0), .val (.int j0), .val (.lst (tabD gs.length us.length (lapF gs us))), .own (.lst (rs'.map rD)), .val (.int i), z7] m) ∧ (∀ r ∈ rs', KeyR r.2.1) ∧ rs'.length ≤ (i + 1) * us.length := by
    intro i rs y7 hi hrs hln
    obtain ⟨o, h1, h2⟩ := forL_range (body := evSs l__law_with_nought_1) (tg := .nm 7) (fun j sl m' => m' = m ∧ ∃ (rs' : List Row) (z7 : SV), sl = [.val (.lst (gs.map gD)), .val (.lst (us.map uD)), .val (.int i0), .val (.int j0), .val (.lst (tabD gs.length us.length (lapF gs us))), .own (.lst (rs'.map rD)), .val (.int i), z7] ∧ (∀ r ∈ rs', KeyR r.2.1) ∧ rs'.length ≤ i * us.length + j) (fun _ _ => False) (fun _ _ => False) us.length 0
      (fun j sl m' hj q => by
        obtain ⟨rfl, rs', z7, rfl, q1, q2⟩ := q
        obtain ⟨g, hx⟩ : ∃ p, gs[i]? = some p := ⟨gs[i], List.getElem?_eq_getElem hi⟩
        obtain ⟨u, hy⟩ : ∃ p, us[j]? = some p := ⟨us[j], List.getElem?_eq_getElem hj⟩
        have e0 : atI (gs.map gD) (i : Int) = some (gD g) := by rw [ixn, List.getElem?_map, hx]; rfl
        have e1 : atI (us.map uD) (j : Int) = some (uD u) := by rw [ixn, List.getElem?_map, hy]; rfl
        have e2 := tab_at (k := us.length) (t := lapF gs us) hi
        have e3 := row_at (f := lapF gs us i) hj
        have hlen : rs'.length < 16777216 := by
          have h4 : i * us.length ≤ 100 * 100 := Nat.mul_le_mul (by omega) hul
          omega
        have hkey := (hu.key u (List.mem_of_getElem? hy)).r
        have yes : [SV.val (.lst (gs.map gD)), .val (.lst (us.map uD)), .val (.int i0), .val (.int j0), .val (.lst (tabD gs.length us.length (lapF gs us))), .own (.lst ((rs' ++ [(g.1, u.1, lapF gs us i j)]).map rD)), .val (.int i), .val (.int (0 + (j : Int)))] = [SV.val (.lst (gs.map gD)), .val (.lst (us.map uD)), .val (.int i0), .val (.int j0), .val (.lst (tabD gs.length us.length (lapF gs us))), .own (.lst ((rs' ++ [(g.1, u.1, lapF gs us i j)]).map rD)), .val (.int i), .val (.int (0 + (j : Int)))] := rfl
        have fin : (∀ r ∈ rs' ++ [(g.1, u.1, lapF gs us i j)], KeyR r.2.1) ∧ (rs' ++ [(g.1, u.1, lapF gs us i j)]).length ≤ i * us.length + (j + 1) := by
          refine ⟨fun r hr => ?_, by simp; omega⟩
          rcases List.mem_append.mp hr with z | z
          · exact q1 r z
          · simp at z; subst z; exact hkey
        refine ⟨_, rfl, ?_⟩
        by_cases hc : lapF gs us i j > 0
        · have hn : gtS (.int (lapF gs us i j)) (.int 0) = some true := by simp [gtS, cmpS]; omega
          refine ⟨.nx [.val (.lst (gs.map gD)), .val (.lst (us.map uD)), .val (.int i0), .val (.int j0), .val (.lst (tabD gs.length us.length (lapF gs us))), .own (.lst ((rs' ++ [(g.1, u.1, lapF gs us i j)]).map rD)), .val (.int i), .val (.int (0 + (j : Int)))] m', ?_, rfl, _, _, rfl, fin.1, fin.2⟩
          simp [evSs, evS, evs, evAnd, evOr, ev, evB, look, commit, R.d, R.kp, R.imm, R.sv, D.imm, D.imms, D.immC, setTg, setTs, bltR, binR, unR, ixR, tupR, lstR, dictTR, callR, slR, isiR, methR, lift, addS, subS, minS, maxS, modS, fdivS, mulS, negS, intS, wipeS, itList, itTup, itRng1, itRng2, mAppend, freeze, frz1, isnS, isnnS, l__law_with_nought_1, ixS_lst, ixS_tup, e0, e1, e2, e3, hn, uD, gD, ix0, hlen, rD]
        · have hn : gtS (.int (lapF gs us i j)) (.int 0) = some false := by simp [gtS, cmpS]; omega
          by_cases h5 : (i : Int) = i0
          · by_cases h6 : (j : Int) = j0
            · have e5 : eqS (.int (i : Int)) (.int i0) = some true := by simp [eqS, h5]
              have e6 : eqS (.int (j : Int)) (.int j0) = some true := by simp [eqS, h6]
              refine ⟨.nx [.val (.lst (gs.map gD)), .val (.lst (us.map uD)), .val (.int i0), .val (.int j0), .val (.lst (tabD gs.length us.length (lapF gs us))), .own (.lst ((rs' ++ [(g.1, u.1, lapF gs us i j)]).map rD)), .val (.int i), .val (.int (0 + (j : Int)))] m', ?_, rfl, _, _, rfl, fin.1, fin.2⟩
              simp [evSs, evS, evs, evAnd, evOr, ev, evB, look, commit, R.d, R.kp, R.imm, R.sv, D.imm, D.imms, D.immC, setTg, setTs, bltR, binR, unR, ixR, tupR, lstR, dictTR, callR, slR, isiR, methR, lift, addS, subS, minS, maxS, modS, fdivS, mulS, negS, intS, wipeS, itList, itTup, itRng1, itRng2, mAppend, freeze, frz1, isnS, isnnS, l__law_with_nought_1, ixS_lst, ixS_tup, e0, e1, e2, e3, hn, uD, gD, ix0, hlen, rD, e5, e6]
            · have e5 : eqS (.int (i : Int)) (.int i0) = some true := by simp [eqS, h5]
              have e6 : eqS (.int (j : Int)) (.int j0) = some false := by simp [eqS, h6]
              refine ⟨.nx [.val (.lst (gs.map gD)), .val (.lst (us.map uD)), .val (.int i0), .val (.int j0), .val (.lst (tabD gs.length us.length (lapF gs us))), .own (.lst (rs'.map rD)), .val (.int i), .val (.int (0 + (j : Int)))] m', ?_, rfl, _, _, rfl, q1, by omega⟩
              simp [evSs, evS, evs, evAnd, evOr, ev, evB, look, commit, R.d, R.kp, R.imm, R.sv, D.imm, D.imms, D.immC, setTg, setTs, bltR, binR, unR, ixR, tupR, lstR, dictTR, callR, slR, isiR, methR, lift, addS, subS, minS, maxS, modS, fdivS, mulS, negS, intS, wipeS, itList, itTup, itRng1, itRng2, mAppend, freeze, frz1, isnS, isnnS, l__law_with_nought_1, ixS_lst, ixS_tup, e0, e1, e2, e3, hn, e5, e6]
          · have e5 : eqS (.int (i : Int)) (.int i0) = some false := by simp [eqS, h5]
            refine ⟨.nx [.val (.lst (gs.map gD)), .val (.lst (us.map uD)), .val (.int i0), .val (.int j0), .val (.lst (tabD gs.length us.length (lapF gs us))), .own (.lst (rs'.map rD)), .val (.int i), .val (.int (0 + (j : Int)))] m', ?_, rfl, _, _, rfl, q1, by omega⟩
            simp [evSs, evS, evs, evAnd, evOr, ev, evB, look, commit, R.d, R.kp, R.imm, R.sv, D.imm, D.imms, D.immC, setTg, setTs, bltR, binR, unR, ixR, tupR, lstR, dictTR, callR, slR, isiR, methR, lift, addS, subS, minS, maxS, modS, fdivS, mulS, negS, intS, wipeS, itList, itTup, itRng1, itRng2, mAppend, freeze, frz1, isnS, isnnS, l__law_with_nought_1, ixS_lst, ixS_tup, e0, e1, e2, e3, hn, e5]) [.val (.lst (gs.map gD)), .val (.lst (us.map uD)), .val (.int i0), .val (.int j0), .val (.lst (tabD gs.length us.length (lapF gs us))), .own (.lst (rs.map rD)), .val (.int i), y7] m ⟨rfl, _, _, rfl, hrs, by omega⟩
    cases o with
    | nx sl m' =>
      obtain ⟨rfl, rs', z5, rfl, q1, q2⟩ := h2.resolve_right id
      exact ⟨rs', z5, h1, q1, by rw [Nat.succ_mul]; exact q2⟩
    | _ => exact h2.elim
  obtain ⟨o, h1, h2⟩ := forL_range (body := evSs l__law_with_nought_2) (tg := .nm 6) (fun i sl m' => m' = m ∧ ∃ (rs' : List Row) (z6 z7 : SV), sl = [.val (.lst (gs.map gD)), .val (.lst (us.map uD)), .val (.int i0), .val (.int j0), .val (.lst (tabD gs.length us.length (lapF gs us))), .own (.lst (rs'.map rD)), z6, z7] ∧ (∀ r ∈ rs', KeyR r.2.1) ∧ rs'.length ≤ i * us.length) (fun _ _ => False) (fun _ _ => False) gs.length 0
    (fun i sl m' hi q => by
      obtain ⟨rfl, rs', z6, z7, rfl, q1, q2⟩ := q
      obtain ⟨rs2, w7, h3, h4, h5⟩ := inner i rs' z7 hi q1 q2
      refine ⟨_, rfl, .nx [.val (.lst (gs.map gD)), .val (.lst (us.map uD)), .val (.int i0), .val (.int j0), .val (.lst (tabD gs.length us.length (lapF gs us))), .own (.lst (rs2.map rD)), .val (.int i), w7] m', ?_, rfl, _, _, _, rfl, h4, h5⟩
      simp [evSs, evS, evs, evAnd, evOr, ev, evB, look, commit, R.d, R.kp, R.imm, R.sv, D.imm, D.imms, D.immC, setTg, setTs, bltR, binR, unR, ixR, tupR, lstR, dictTR, callR, slR, isiR, methR, lift, addS, subS, minS, maxS, modS, fdivS, mulS, negS, intS, wipeS, itList, itTup, itRng1, itRng2, mAppend, freeze, frz1, isnS, isnnS, l__law_with_nought_2, lenS, hl2, h3]) [.val (.lst (gs.map gD)), .val (.lst (us.map uD)), .val (.int i0), .val (.int j0), .val (.lst (tabD gs.length us.length (lapF gs us))), .own (.lst []), .non, .non] m ⟨rfl, [], _, _, rfl, by simp, by simp⟩
  cases o with
  | nx sl m' =>
    obtain ⟨rfl, rs', z6, z7, rfl, q1, q2⟩ := h2.resolve_right id
    have h4 : gs.length * us.length ≤ 100 * 100 := Nat.mul_le_mul hg hul
    exact ⟨_, by simp [f__law_with_nought, b__law_with_nought, evF, evSs, evS, evs, evAnd, evOr, ev, evB, look, commit, R.d, R.kp, R.imm, R.sv, D.imm, D.imms, D.immC, setTg, setTs, bltR, binR, unR, ixR, tupR, lstR, dictTR, callR, slR, isiR, methR, lift, addS, subS, minS, maxS, modS, fdivS, mulS, negS, intS, wipeS, itList, itTup, itRng1, itRng2, mAppend, freeze, frz1, isnS, isnnS, lenS, hl1, htab, h1], rs', rfl, by omega, q1⟩
  | _ => exact h2.elim
end K50

set_option Elab.async false
set_option linter.all false
set_option maxRecDepth 100000
set_option maxHeartbeats 4000000
namespace K50
open PySem PySem.Spec PyProof.Rows L2 Ev
def c2D (c : Nat × Nat × Int) : D := .tup [.int c.1, .int c.2.1]
theorem lcells_ok (gs : List (Int × Int × Int)) (us : List (D × Int × Int)) (hg : gs.length ≤ 1000) (hu : us.length ≤ 1000) (m : Bag) :
    f__law_cells [.lst (gs.map gD), .lst (us.map uD)] m = some (.own (.lst ((stair gs us).map c2D)), m) := by
  have hl1 : ((gs.length : Int) ≤ 1000000000) := by omega
  have hl2 : ((us.length : Int) ≤ 1000000000) := by omega
  have htab := table_ok gs us (by omega) (by omega) m
  obtain ⟨t, ht⟩ : ∃ t, t = lapF gs us := ⟨_, rfl⟩
  have hst : stair gs us = cellsT us.length t gs.length := by rw [ht]; rfl
  rw [hst]
  rw [← ht] at htab
  have inner : ∀ (i : Nat) (y5 : SV), i < gs.length →
      ∃ z5, forL (.nm 5) (evSs l__law_cells_1) (Ev.upTo 0 us.length) [.val (.lst (gs.map gD)), .val (.lst (us.map uD)), .val (.lst (tabD gs.length us.length t)), .own (.lst ((cellsT us.length t i).map c2D)), .val (.int i), y5] m = some (.nx [.val (.lst (gs.map gD)), .val (.lst (us.map uD)), .val (.lst (tabD gs.length us.length t)), .own (.lst ((cellsT us.length t (i + 1)).map c2D)), .val (.int i), z5] m) := by
    intro i y5 hi
    obtain ⟨o, h1, h2⟩ := forL_range (body := evSs l__law_cells_1) (tg := .nm 5) (fun j sl m' => m' = m ∧ ∃ z5, sl = [.val (.lst (gs.map gD)), .val (.lst (us.map uD)), .val (.lst (tabD gs.length us.length t)), .own (.lst ((cellsT us.length t i ++ cellsRow i t j).map c2D)), .val (.int i), z5]) (fun _ _ => False) (fun _ _ => False) us.length 0
      (fun j sl m' hj q => by
        obtain ⟨rfl, z5, rfl⟩ := q
        have e2 := tab_at (k := us.length) (t := t) hi
        have e3 := row_at (f := t i) hj
        have hlen : (cellsT us.length t i).length + (cellsRow i t j).length < 16777216 := by
          have h2 := cellsT_len us.length t i
          have h3 := cellsRow_len i t j
          have h4 : i * us.length ≤ 1000 * 1000 := Nat.mul_le_mul (by omega) hu
          omega
        refine ⟨_, rfl, ?_⟩
        by_cases hc : t i j > 0
        · have hn : gtS (.int (t i j)) (.int 0) = some true := by simp [gtS, cmpS]; omega
          refine ⟨.nx [.val (.lst (gs.map gD)), .val (.lst (us.map uD)), .val (.lst (tabD gs.length us.length t)), .own (.lst ((cellsT us.length t i ++ cellsRow i t (j + 1)).map c2D)), .val (.int i), .val (.int (0 + (j : Int)))] m', ?_, rfl, _, rfl⟩
          rw [cellsRow_succ, if_pos hc]
          simp [evSs, evS, evs, evAnd, evOr, ev, evB, look, commit, R.d, R.kp, R.imm, R.sv, D.imm, D.imms, D.immC, setTg, setTs, bltR, binR, unR, ixR, tupR, lstR, dictTR, callR, slR, isiR, methR, lift, addS, subS, minS, maxS, modS, fdivS, mulS, negS, intS, wipeS, itList, itTup, itRng1, itRng2, mAppend, freeze, frz1, isnS, isnnS, l__law_cells_1, ixS_lst, e2, e3, hn, hlen, c2D]
        · have hn : gtS (.int (t i j)) (.int 0) = some false := by simp [gtS, cmpS]; omega
          refine ⟨.nx [.val (.lst (gs.map gD)), .val (.lst (us.map uD)), .val (.lst (tabD gs.length us.length t)), .own (.lst ((cellsT us.length t i ++ cellsRow i t (j + 1)).map c2D)), .val (.int i), .val (.int (0 + (j : Int)))] m', ?_, rfl, _, rfl⟩
          rw [cellsRow_succ, if_neg hc, List.append_nil]
          simp [evSs, evS, evs, evAnd, evOr, ev, evB, look, commit, R.d, R.kp, R.imm, R.sv, D.imm, D.imms, D.immC, setTg, setTs, bltR, binR, unR, ixR, tupR, lstR, dictTR, callR, slR, isiR, methR, lift, addS, subS, minS, maxS, modS, fdivS, mulS, negS, intS, wipeS, itList, itTup, itRng1, itRng2, mAppend, freeze, frz1, isnS, isnnS, l__law_cells_1, ixS_lst, e2, e3, hn]) [.val (.lst (gs.map gD)), .val (.lst (us.map uD)), .val (.lst (tabD gs.length us.length t)), .own (.lst ((cellsT us.length t i).map c2D)), .val (.int i), y5] m ⟨rfl, y5, by simp [cellsRow]⟩
    cases o with
    | nx sl m' =>
      obtain ⟨rfl, z5, rfl⟩ := h2.resolve_right id
      exact ⟨z5, by rw [cellsT_succ]; exact h1⟩
    | _ => exact h2.elim
  obtain ⟨o, h1, h2⟩ := forL_range (body := evSs l__law_cells_2) (tg := .nm 4) (fun i sl m' => m' = m ∧ ∃ z4 z5, sl = [.val (.lst (gs.map gD)), .val (.lst (us.map uD)), .val (.lst (tabD gs.length us.length t)), .own (.lst ((cellsT us.length t i).map c2D)), z4, z5]) (fun _ _ => False) (fun _ _ => False) gs.length 0
    (fun i sl m' hi q => by
      obtain ⟨rfl, z4, z5, rfl⟩ := q
      obtain ⟨w5, h3⟩ := inner i z5 hi
      refine ⟨_, rfl, .nx [.val (.lst (gs.map gD)), .val (.lst (us.map uD)), .val (.lst (tabD gs.length us.length t)), .own (.lst ((cellsT us.length t (i + 1)).map c2D)), .val (.int i), w5] m', ?_, rfl, _, _, rfl⟩
      simp [evSs, evS, evs, evAnd, evOr, ev, evB, look, commit, R.d, R.kp, R.imm, R.sv, D.imm, D.imms, D.immC, setTg, setTs, bltR, binR, unR, ixR, tupR, lstR, dictTR, callR, slR, isiR, methR, lift, addS, subS, minS, maxS, modS, fdivS, mulS, negS, intS, wipeS, itList, itTup, itRng1, itRng2, mAppend, freeze, frz1, isnS, isnnS, l__law_cells_2, lenS, hl2, h3]) [.val (.lst (gs.map gD)), .val (.lst (us.map uD)), .val (.lst (tabD gs.length us.length t)), .own (.lst []), .non, .non] m ⟨rfl, _, _, rfl⟩
  cases o with
  | nx sl m' =>
    obtain ⟨rfl, z4, z5, rfl⟩ := h2.resolve_right id
    simp [f__law_cells, b__law_cells, evF, evSs, evS, evs, evAnd, evOr, ev, evB, look, commit, R.d, R.kp, R.imm, R.sv, D.imm, D.imms, D.immC, setTg, setTs, bltR, binR, unR, ixR, tupR, lstR, dictTR, callR, slR, isiR, methR, lift, addS, subS, minS, maxS, modS, fdivS, mulS, negS, intS, wipeS, itList, itTup, itRng1, itRng2, mAppend, freeze, frz1, isnS, isnnS, lenS, hl1, htab, h1]
  | _ => exact h2.elim
/-! changes of a table -/
def chD (c : Nat × Nat × Int) : D := .tup [.int c.1, .int c.2.1, .int c.2.2]
theorem tab_set {n k : Nat} (t : Nat → Nat → Int) {a b : Nat} (ha : a < n) (hb : b < k) (v : Int) :
    (tabD n k t).set a (.lst ((rowL k (t a)).set b (.int v))) = tabD n k (fun i j => if i = a ∧ j = b then v else t i j) := by
  refine List.ext_getElem? fun i => ?_
  rw [List.getElem?_set]
  have hlen : (tabD n k t).length = n := by simp [tabD, tabL]
  by_cases hi : a = i
  · subst hi
    rw [if_pos rfl, if_pos (by omega)]
    have : (tabD n k (fun i j => if i = a ∧ j = b then v else t i j))[a]? = some (.lst (rowL k (fun j => if j = b then v else t a j))) := by
      simp [tabD, tabL, ha, rowL]
    rw [this]
    congr 2
    refine List.ext_getElem? fun j => ?_
    rw [List.getElem?_set]
    have hl2 : (rowL k (t a)).length = k := by simp [rowL]
    by_cases hj : b = j
    · subst hj
      rw [if_pos rfl, if_pos (by omega)]
      simp [rowL, hb]
    · rw [if_neg hj]
      simp only [rowL, List.getElem?_map]
      by_cases hk : j < k
      · simp [hk, Ne.symm hj]
      · simp [hk]
  · rw [if_neg hi]
    by_cases hn : i < n
    · simp [tabD, tabL, hn, Ne.symm hi]
    · simp [tabD, tabL, hn]
theorem apply_ok {n k : Nat} : ∀ (cs : List (Nat × Nat × Int)) (t : Nat → Nat → Int), (∀ c ∈ cs, c.1 < n ∧ c.2.1 < k) → ∃ t', applyL (cs.map chD) (tabD n k t) = some (tabD n k t')
  | [], t, _ => ⟨t, rfl⟩
  | c :: cs, t, h => by
    obtain ⟨h1, h2⟩ := h c List.mem_cons_self
    obtain ⟨t', ih⟩ := apply_ok cs (fun i j => if i = c.1 ∧ j = c.2.1 then t c.1 c.2.1 + c.2.2 else t i j) fun d hd => h d (List.mem_cons_of_mem _ hd)
    refine ⟨t', ?_⟩
    have e1 : ixN (tabD n k t).length (c.1 : Int) = some c.1 := by
      have : (tabD n k t).length = n := by simp [tabD, tabL]
      rw [this, ixN_in (by omega) (by omega)]; simp
    have e2 : (tabD n k t)[c.1]? = some (.lst (rowL k (t c.1))) := by simp [tabD, tabL, h1, rowL]
    have e3 : ixN (rowL k (t c.1)).length (c.2.1 : Int) = some c.2.1 := by
      have : (rowL k (t c.1)).length = k := by simp [rowL]
      rw [this, ixN_in (by omega) (by omega)]; simp
    have e4 : (rowL k (t c.1))[c.2.1]? = some (.int (t c.1 c.2.1)) := by simp [rowL, h2]
    simp only [List.map_cons, chD, applyL, e1, e2, e3, e4]
    rw [tab_set t h1 h2]
    exact ih
theorem cells_key {gs : List (Int × Int × Int)} {us : List (D × Int × Int)} {rs : List Row} {cs : List Cell} (hu : UK us) (h : CellsOf gs us rs cs) : ∀ r ∈ rs, KeyR r.2.1 := fun r hr => by
  obtain ⟨n, hn', e⟩ := List.mem_iff_getElem.mp hr
  have hl := (cells_len h).1
  obtain ⟨_, ⟨u, e1, e2⟩, _⟩ := h.get n r (cs[n]'(by omega)) (by rw [List.getElem?_eq_getElem hn', e]) (List.getElem?_eq_getElem _)
  rw [← e2]
  exact (hu.key u (List.mem_of_getElem? e1)).r
theorem changed_ok (gs : List (Int × Int × Int)) {us : List (D × Int × Int)} (hu : UK us) (hg : gs.length ≤ 100) (hul : us.length ≤ 100) (chs : List (Nat × Nat × Int)) (hc : ∀ c ∈ chs, c.1 < gs.length ∧ c.2.1 < us.length) (m : Bag) :
    ∃ p, f__law_changed [.lst (gs.map gD), .lst (us.map uD), .lst (chs.map chD)] m = some (.own p, m) ∧ PaperOk 20002 p := by
  obtain ⟨t', h1⟩ := apply_ok chs (lapF gs us) hc
  obtain ⟨rs, h2, h3⟩ := triples_ok gs us (by omega) (by omega) t' m
  have h4 := table_ok gs us (by omega) (by omega) m
  have ht : TypedC [.lst (gs.map gD), .lst (us.map uD), .lst (chs.map chD)] := ⟨gs, us, _, rfl, by omega, by omega⟩
  refine ⟨_, by simp only [f__law_changed, if_pos ht, f0__law_changed, h4, h1, h2], rs, rfl, ?_, cells_key hu h3⟩
  have := (cells_len h3).1
  have := cellsT_len us.length t' gs.length
  have h5 : gs.length * us.length ≤ 100 * 100 := Nat.mul_le_mul hg hul
  omega
end K50

set_option Elab.async false
set_option linter.all false
set_option maxRecDepth 100000
set_option maxHeartbeats 4000000
namespace K50
open PySem PySem.Spec PyProof.Rows L2 Ev
theorem filt {α : Type} (l : List α) : l.filter (fun _ => true) = l := by simp
theorem row_papers_ok {A : BA} (hA : AOk A) {m : Bag} (hm : BOk m) (gs : List (Int × Int × Int)) {us : List (D × Int × Int)} (hu : UK us) (hg : gs.length ≤ 100) (hul : us.length ≤ 100) (g0 : 0 < gs.length) (u0 : 0 < us.length)
    (rs : List Row) (r0 : 0 < rs.length) (rl : rs.length ≤ 10000) (hx : ∀ r ∈ rs, KeyOk r.2.1 ∧ ∀ i, r.2.1 = .int i → -1 ≤ i ∧ i ≤ 3000000) :
    ∃ (ps : List D) (m' : Bag), f__law_row_papers A [.ref A.ab, .lst (gs.map gD), .lst (us.map uD), .lst (rs.map rD)] m = some (.own (.lst ps), m') ∧ (∀ p ∈ ps, PaperOk 20002 p) ∧ ps.length ≤ 20 ∧ BOk m' := by
  have hxr : ∀ r ∈ rs, KeyR r.2.1 := fun r hr => (hx r hr).1.r
  obtain ⟨r1, m1, d1, a1, a2, b1⟩ := draw_ok hA hm (size := (rs.length : Int)) (by omega) (by omega)
  obtain ⟨row, x1, x2⟩ := atI_in (l := rs) a1 a2
  have y1 : atI (rs.map rD) r1 = some (rD row) := by
    have e : r1 = (r1.toNat : Int) := by omega
    rw [e, ixn, List.getElem?_map, x2]; rfl
  obtain ⟨last, hlast⟩ : ∃ l, rs.getLast? = some l := by
    cases h : rs.getLast? with
    | some l => exact ⟨l, rfl⟩
    | none => rw [List.getLast?_eq_none_iff] at h; subst h; simp at r0
  have y2 : atI (rs.map rD) (-1) = some (rD last) := by rw [ixl, List.getLast?_map, hlast]; rfl
  have krow := hx row (List.mem_of_getElem? x2)
  have klast := hxr last (List.mem_of_getLast? hlast)
  have ids : ∀ (sl : List SV) (m : Bag), sl[1]? = some (.val (.lst (gs.map gD))) → 11 < sl.length → ev [] (e__law_row_papers_1 A) sl m = some (.own (.lst (gs.map fun g => .int g.1)), m) := fun sl m hs hl => by
    have := ev_comp_pure (use := []) (own := [("gift", 11)]) (it := itList) (ix := .cons (.var 1) .nil) (tg := .nm 11) (cs := .nil) (elt := .app ixR (.cons (.var 11) (.cons (.con (.int 0)) .nil))) (sl := sl) (m := m) (ds := [.lst (gs.map gD)]) (as := gs) gD (fun g => D.int g.1) (fun _ => true) (by simp [evSs, evS, evs, evAnd, evOr, ev, evB, look, commit, R.d, R.kp, R.imm, R.sv, D.imm, D.imms, D.immC, setTg, setTs, bltR, binR, unR, ixR, tupR, lstR, dictTR, callR, slR, isiR, methR, lift, addS, subS, minS, maxS, modS, fdivS, mulS, negS, intS, wipeS, itList, itTup, itRng1, itRng2, mAppend, freeze, frz1, isnS, isnnS, hs]) rfl (by omega) (fun g _ => ⟨_, rfl, rfl, fun _ => ⟨.val (.int g.1), by simp [evSs, evS, evs, evAnd, evOr, ev, evB, look, commit, R.d, R.kp, R.imm, R.sv, D.imm, D.imms, D.immC, setTg, setTs, bltR, binR, unR, ixR, tupR, lstR, dictTR, callR, slR, isiR, methR, lift, addS, subS, minS, maxS, modS, fdivS, mulS, negS, intS, wipeS, itList, itTup, itRng1, itRng2, mAppend, freeze, frz1, isnS, isnnS, hl, ixS_tup, gD, ix0], rfl⟩⟩)
    rw [filt] at this
    exact this
  have kys : ∀ (sl : List SV) (m : Bag), sl[2]? = some (.val (.lst (us.map uD))) → 12 < sl.length → ev [] (e__law_row_papers_2 A) sl m = some (.own (.lst (us.map (·.1))), m) := fun sl m hs hl => by
    have := ev_comp_pure (use := []) (own := [("use", 12)]) (it := itList) (ix := .cons (.var 2) .nil) (tg := .nm 12) (cs := .nil) (elt := .app ixR (.cons (.var 12) (.cons (.con (.int 0)) .nil))) (sl := sl) (m := m) (ds := [.lst (us.map uD)]) (as := us) uD (fun u => u.1) (fun _ => true) (by simp [evSs, evS, evs, evAnd, evOr, ev, evB, look, commit, R.d, R.kp, R.imm, R.sv, D.imm, D.imms, D.immC, setTg, setTs, bltR, binR, unR, ixR, tupR, lstR, dictTR, callR, slR, isiR, methR, lift, addS, subS, minS, maxS, modS, fdivS, mulS, negS, intS, wipeS, itList, itTup, itRng1, itRng2, mAppend, freeze, frz1, isnS, isnnS, hs]) rfl (by omega) (fun g _ => ⟨_, rfl, rfl, fun _ => ⟨.val g.1, by simp [evSs, evS, evs, evAnd, evOr, ev, evB, look, commit, R.d, R.kp, R.imm, R.sv, D.imm, D.imms, D.immC, setTg, setTs, bltR, binR, unR, ixR, tupR, lstR, dictTR, callR, slR, isiR, methR, lift, addS, subS, minS, maxS, modS, fdivS, mulS, negS, intS, wipeS, itList, itTup, itRng1, itRng2, mAppend, freeze, frz1, isnS, isnnS, hl, ixS_tup, uD, ix0], rfl⟩⟩)
    rw [filt] at this
    exact this
  obtain ⟨p0, s1, sp⟩ := split_ok rs rl hxr m1
  obtain ⟨A1, c1, l1, k1⟩ := cut_rows rs none (some r1)
  obtain ⟨B1, c2, l2, k2⟩ := cut_rows rs (some (r1 + 1)) none
  obtain ⟨C1, c3, l3, k3⟩ := cut_rows rs none (some (-1))
  have adAB : addS [.lst (A1.map rD), .lst (B1.map rD)] = some (.own (.lst (A1.map rD ++ B1.map rD))) := addL (by simp; omega)
  have adC : ∀ x : D, addS [.lst (C1.map rD), .lst [x]] = some (.own (.lst (C1.map rD ++ [x]))) := fun x => addL (by simp; omega)
  have adA : ∀ x : D, addS [.lst (A1.map rD), .lst [x]] = some (.own (.lst (A1.map rD ++ [x]))) := fun x => addL (by simp; omega)
  have adA2 : ∀ x : D, addS [.lst (A1.map rD ++ [x]), .lst (B1.map rD)] = some (.own (.lst (A1.map rD ++ [x] ++ B1.map rD))) := fun x => addL (by simp; omega)
  have eat : ∀ i j : Int, addS [.int i, .int j] = some (.val (.int (i + j))) := fun _ _ => rfl
  have gl1 : gtS (.int (rs.length : Int)) (.int 1) = some (decide (1 < (rs.length : Int))) := rfl
  have gl2 : gtS (.int last.2.2) (.int 1) = some (decide (1 < last.2.2)) := rfl
  have pap : ∀ (q : List Row), q.length ≤ 20002 → (∀ r ∈ q, KeyR r.2.1) → PaperOk 20002 (.lst (q.map rD)) := fun q h1 h2 => ⟨q, rfl, h1, h2⟩
  have kA : ∀ r ∈ A1, KeyR r.2.1 := fun r hr => hxr r (k1 r hr)
  have kB : ∀ r ∈ B1, KeyR r.2.1 := fun r hr => hxr r (k2 r hr)
  have kC : ∀ r ∈ C1, KeyR r.2.1 := fun r hr => hxr r (k3 r hr)
  have pAB : PaperOk 20002 (.lst (A1.map rD ++ B1.map rD)) := by
    rw [← List.map_append]
    exact pap _ (by simp; omega) fun r hr => (List.mem_append.mp hr).elim (kA r) (kB r)
  have pNil : PaperOk 20002 (.lst []) := pap [] (by simp) (by simp)
  have pC : ∀ x : Row, KeyR x.2.1 → PaperOk 20002 (.lst (C1.map rD ++ [rD x])) := fun x hx' => by
    have : C1.map rD ++ [rD x] = (C1 ++ [x]).map rD := by simp
    rw [this]
    exact pap _ (by simp; omega) fun r hr => (List.mem_append.mp hr).elim (kC r) fun z => by simp at z; subst z; exact hx'
  have pA : ∀ x : Row, KeyR x.2.1 → PaperOk 20002 (.lst (A1.map rD ++ [rD x] ++ B1.map rD)) := fun x hx' => by
    have : A1.map rD ++ [rD x] ++ B1.map rD = (A1 ++ [x] ++ B1).map rD := by simp
    rw [this]
    exact pap _ (by simp; omega) fun r hr => by
      rcases List.mem_append.mp hr with z | z
      · rcases List.mem_append.mp z with z | z
        · exact kA r z
        · simp at z; subst z; exact hx'
      · exact kB r z
  -- what comes behind the two ifs, from any state of the bag
  have tail : ∀ m, BOk m → ∃ (n : Int) (m3 m4 m5 : Bag) (r4 r5 : Int) (p : D) (k' : D), f__law_other_id A [.ref A.ab, .lst (gs.map fun g => .int g.1)] m = some (.val (.int n), m3) ∧ f__law_other_key [row.2.1, .lst (us.map (·.1))] m3 = some (.val k', m3) ∧ KeyR k' ∧
      f__law_draw A [.ref A.ab, .int (gs.length : Int)] m3 = some (.val (.int r4), m4) ∧ f__law_draw A [.ref A.ab, .int (us.length : Int)] m4 = some (.val (.int r5), m5) ∧ f__law_with_nought [.lst (gs.map gD), .lst (us.map uD), .int r4, .int r5] m5 = some (.own p, m5) ∧ PaperOk 20002 p ∧ BOk m5 := fun m hb => by
    obtain ⟨n, m3, e1, b3⟩ := other_id_ok hA hb (gs.map (·.1)) (by simp; omega)
    rw [List.map_map] at e1
    obtain ⟨k', e2, e3⟩ := other_key_ok hu (by omega) krow.1 krow.2 m3
    obtain ⟨r4, m4, e4, _, _, b4⟩ := draw_ok hA b3 (size := (gs.length : Int)) (by omega) (by omega)
    obtain ⟨r5, m5, e5, _, _, b5⟩ := draw_ok hA b4 (size := (us.length : Int)) (by omega) (by omega)
    obtain ⟨p, e6, e7⟩ := nought_ok gs hu hg hul r4 r5 m5
    exact ⟨n, m3, m4, m5, r4, r5, p, k', e1, e2, e3, e4, e5, e6, e7, b5⟩
  have base : ∀ p ∈ [p0, .lst (A1.map rD ++ B1.map rD), .lst [], .lst (C1.map rD ++ [rD (last.1, last.2.1, last.2.2 + 1)])], PaperOk 20002 p := fun p hp => by
    simp only [List.mem_cons, List.not_mem_nil, or_false] at hp
    rcases hp with rfl | rfl | rfl | rfl
    · exact sp
    · exact pAB
    · exact pNil
    · exact pC _ klast
  by_cases h1 : 1 < (rs.length : Int)
  · rw [decide_eq_true h1] at gl1
    obtain ⟨r2, m2, d2, a3, a4, b2⟩ := draw_ok hA b1 (size := (rs.length : Int) - 1) (by omega) (by omega)
    obtain ⟨t0, t1, t2⟩ := atI_in (l := rs) a3 (by omega)
    obtain ⟨v0, v1, v2⟩ := atI_in (l := rs) (i := r2 + 1) (by omega) (by omega)
    have y3 : atI (rs.map rD) r2 = some (rD t0) := by
      have e : r2 = (r2.toNat : Int) := by omega
      rw [e, ixn, List.getElem?_map, t2]; rfl
    have y4 : atI (rs.map rD) (r2 + 1) = some (rD v0) := by
      have e : r2 + 1 = ((r2 + 1).toNat : Int) := by omega
      rw [e, ixn, List.getElem?_map, v2]; rfl
    obtain ⟨A2, c4, l4, k4⟩ := cut_rows rs none (some r2)
    obtain ⟨B2, c5, l5, k5⟩ := cut_rows rs (some (r2 + 2)) none
    have adD : ∀ x y : D, addS [.lst (A2.map rD), .lst [x, y]] = some (.own (.lst (A2.map rD ++ [x, y]))) := fun x y => addL (by simp; omega)
    have adD2 : ∀ x y : D, addS [.lst (A2.map rD ++ [x, y]), .lst (B2.map rD)] = some (.own (.lst (A2.map rD ++ [x, y] ++ B2.map rD))) := fun x y => addL (by simp; omega)
    have pD2 : PaperOk 20002 (.lst (A2.map rD ++ [rD v0, rD t0] ++ B2.map rD)) := by
      have : A2.map rD ++ [rD v0, rD t0] ++ B2.map rD = (A2 ++ [v0, t0] ++ B2).map rD := by simp
      rw [this]
      exact pap _ (by simp; omega) fun r hr => by
        rcases List.mem_append.mp hr with z | z
        · rcases List.mem_append.mp z with z | z
          · exact hxr r (k4 r z)
          · simp at z
            rcases z with rfl | rfl
            · exact hxr _ (List.mem_of_getElem? v2)
            · exact hxr _ (List.mem_of_getElem? t2)
        · exact hxr r (k5 r z)
    obtain ⟨n, m3, m4, m5, r4, r5, p, k', e1, e2, e3, e4, e5, e6, e7, b5⟩ := tail m2 b2
    by_cases h2 : 1 < last.2.2
    · rw [decide_eq_true h2] at gl2
      refine ⟨[p0, .lst (A1.map rD ++ B1.map rD), .lst [], .lst (C1.map rD ++ [rD (last.1, last.2.1, last.2.2 + 1)])] ++ [.lst (A2.map rD ++ [rD v0, rD t0] ++ B2.map rD), .lst (C1.map rD ++ [rD (last.1, last.2.1, last.2.2 - 1)]), .lst (A1.map rD ++ [rD (n, row.2.1, row.2.2)] ++ B1.map rD), .lst (A1.map rD ++ [rD (row.1, k', row.2.2)] ++ B1.map rD), p], m5, ?_, ?_, by simp, b5⟩
      · simp [f__law_row_papers, b__law_row_papers, evF, evSs, evS, evs, evAnd, ev, evB, look, commit, R.d, R.kp, R.imm, R.sv, bltR, binR, unR, ixR, lstR, tupR, slR, callR, lift, lenS, partS, slS, mAppend, negS, subS, d1, ixS_lst, y1, y2, ids, kys, s1, c1, c2, c3, adAB, adC, eat, rD, ixS_tup, ix0, ix1, ix2, gl1, gl2, d2, c4, c5, adD, adD2, y3, y4, adA, adA2, e1, e2, e4, e5, e6]
      · intro q hq
        rcases List.mem_append.mp hq with z | z
        · exact base q z
        · simp only [List.mem_cons, List.not_mem_nil, or_false] at z
          rcases z with rfl | rfl | rfl | rfl | rfl
          · exact pD2
          · exact pC _ klast
          · exact pA _ krow.1.r
          · exact pA _ e3
          · exact e7
    · rw [decide_eq_false h2] at gl2
      refine ⟨[p0, .lst (A1.map rD ++ B1.map rD), .lst [], .lst (C1.map rD ++ [rD (last.1, last.2.1, last.2.2 + 1)])] ++ [.lst (A2.map rD ++ [rD v0, rD t0] ++ B2.map rD), .lst (A1.map rD ++ [rD (n, row.2.1, row.2.2)] ++ B1.map rD), .lst (A1.map rD ++ [rD (row.1, k', row.2.2)] ++ B1.map rD), p], m5, ?_, ?_, by simp, b5⟩
      · simp [f__law_row_papers, b__law_row_papers, evF, evSs, evS, evs, evAnd, ev, evB, look, commit, R.d, R.kp, R.imm, R.sv, bltR, binR, unR, ixR, lstR, tupR, slR, callR, lift, lenS, partS, slS, mAppend, negS, subS, d1, ixS_lst, y1, y2, ids, kys, s1, c1, c2, c3, adAB, adC, eat, rD, ixS_tup, ix0, ix1, ix2, gl1, gl2, d2, c4, c5, adD, adD2, y3, y4, adA, adA2, e1, e2, e4, e5, e6]
      · intro q hq
        rcases List.mem_append.mp hq with z | z
        · exact base q z
        · simp only [List.mem_cons, List.not_mem_nil, or_false] at z
          rcases z with rfl | rfl | rfl | rfl
          · exact pD2
          · exact pA _ krow.1.r
          · exact pA _ e3
          · exact e7
  · rw [decide_eq_false h1] at gl1
    obtain ⟨n, m3, m4, m5, r4, r5, p, k', e1, e2, e3, e4, e5, e6, e7, b5⟩ := tail m1 b1
    by_cases h2 : 1 < last.2.2
    · rw [decide_eq_true h2] at gl2
      refine ⟨[p0, .lst (A1.map rD ++ B1.map rD), .lst [], .lst (C1.map rD ++ [rD (last.1, last.2.1, last.2.2 + 1)])] ++ [.lst (C1.map rD ++ [rD (last.1, last.2.1, last.2.2 - 1)]), .lst (A1.map rD ++ [rD (n, row.2.1, row.2.2)] ++ B1.map rD), .lst (A1.map rD ++ [rD (row.1, k', row.2.2)] ++ B1.map rD), p], m5, ?_, ?_, by simp, b5⟩
      · simp [f__law_row_papers, b__law_row_papers, evF, evSs, evS, evs, evAnd, ev, evB, look, commit, R.d, R.kp, R.imm, R.sv, bltR, binR, unR, ixR, lstR, tupR, slR, callR, lift, lenS, partS, slS, mAppend, negS, subS, d1, ixS_lst, y1, y2, ids, kys, s1, c1, c2, c3, adAB, adC, eat, rD, ixS_tup, ix0, ix1, ix2, gl1, gl2, adA, adA2, e1, e2, e4, e5, e6]
      · intro q hq
        rcases List.mem_append.mp hq with z | z
        · exact base q z
        · simp only [List.mem_cons, List.not_mem_nil, or_false] at z
          rcases z with rfl | rfl | rfl | rfl
          · exact pC _ klast
          · exact pA _ krow.1.r
          · exact pA _ e3
          · exact e7
    · rw [decide_eq_false h2] at gl2
      refine ⟨[p0, .lst (A1.map rD ++ B1.map rD), .lst [], .lst (C1.map rD ++ [rD (last.1, last.2.1, last.2.2 + 1)])] ++ [.lst (A1.map rD ++ [rD (n, row.2.1, row.2.2)] ++ B1.map rD), .lst (A1.map rD ++ [rD (row.1, k', row.2.2)] ++ B1.map rD), p], m5, ?_, ?_, by simp, b5⟩
      · simp [f__law_row_papers, b__law_row_papers, evF, evSs, evS, evs, evAnd, ev, evB, look, commit, R.d, R.kp, R.imm, R.sv, bltR, binR, unR, ixR, lstR, tupR, slR, callR, lift, lenS, partS, slS, mAppend, negS, subS, d1, ixS_lst, y1, y2, ids, kys, s1, c1, c2, c3, adAB, adC, eat, rD, ixS_tup, ix0, ix1, ix2, gl1, gl2, adA, adA2, e1, e2, e4, e5, e6]
      · intro q hq
        rcases List.mem_append.mp hq with z | z
        · exact base q z
        · simp only [List.mem_cons, List.not_mem_nil, or_false] at z
          rcases z with rfl | rfl | rfl
          · exact pA _ krow.1.r
          · exact pA _ e3
          · exact e7
end K50

set_option Elab.async false
set_option linter.all false
set_option maxRecDepth 100000
set_option maxHeartbeats 4000000
namespace K50
open PySem PySem.Spec PyProof.Rows L2 Ev
def fD (l : Int × Cell × Cell) : D := .tup [.int l.1, c2D l.2.1, c2D l.2.2]
def fP (l : Int × Cell × Cell) : PyData := .tuple [.int l.1, .tuple [.int l.2.1.1, .int l.2.1.2.1], .tuple [.int l.2.2.1, .int l.2.2.2.1]]
theorem pys_f : ∀ fs : List (Int × Cell × Cell), D.pys (fs.map fD) = some (fs.map fP)
  | [] => rfl
  | l :: fs => by simp only [List.map_cons, D.pys, fD, c2D, D.py, pys_f fs]; rfl
theorem sorted_f (fs : List (Int × Cell × Cell)) (h : fs.length ≤ 16777216) (h0 : 0 < fs.length) : ∃ l zs, Ev.sortedS [.lst (fs.map fD)] = some (.own (.lst (fD l :: zs))) ∧ l ∈ fs := by
  have hs : sortable (fs.map fP) = true := by
    unfold sortable
    simp only [Bool.and_eq_true, Bool.or_eq_true, List.all_eq_true]
    refine ⟨⟨fun p hp q hq => ?_, .inl fun p hp => ?_⟩, fun p hp => ?_⟩
    · obtain ⟨a, _, rfl⟩ := List.mem_map.mp hp
      obtain ⟨b, _, rfl⟩ := List.mem_map.mp hq
      rfl
    · obtain ⟨a, _, rfl⟩ := List.mem_map.mp hp
      rfl
    · obtain ⟨a, _, rfl⟩ := List.mem_map.mp hp
      simp [fP, PyData.depth, PyData.depthAll]
  cases hz : (fs.map fD).mergeSort sortLe with
  | nil =>
    have := congrArg List.length hz
    rw [List.length_mergeSort] at this
    simp at this
    subst this
    simp at h0
  | cons z zs =>
    have hm : z ∈ fs.map fD := by
      rw [← List.mem_mergeSort (le := sortLe), hz]; exact List.mem_cons_self
    obtain ⟨l, hl, rfl⟩ := List.mem_map.mp hm
    refine ⟨l, zs, ?_, hl⟩
    simp only [Ev.sortedS, pys_f, hs, Bool.true_and, List.length_map, decide_eq_true h, if_true, hz]
theorem evSs_for1 {use : List Nat} {it : ItR} {xs : Xs Bag} {tg : Tg} {body : Sms Bag} {sl sl' : List SV} {m m1 m' : Bag} {ds items : List D} (h1 : evs use xs sl m = some (ds, m1)) (h2 : it.sem ds = some items) (h3 : forL tg (evSs body) items (commit use (D.imms ds) sl) m1 = some (.nx sl' m')) : evSs (.cons (.forI use it xs tg body) .nil) sl m = some (.nx sl' m') := by
  simp only [evSs, evS, h1, h2, h3]
theorem crossed_ok (gs : List (Int × Int × Int)) (us : List (D × Int × Int)) (cs : List Cell) (hc : ∀ c ∈ cs, c.1 < gs.length ∧ c.2.1 < us.length) (hl : cs.length ≤ 1000) (m : Bag) :
    ∃ chs : List Cell, f__law_crossed [.lst (gs.map gD), .lst (us.map uD), .lst (cs.map c2D)] m = some (.own (.lst (chs.map chD)), m) ∧ ∀ c ∈ chs, c.1 < gs.length ∧ c.2.1 < us.length := by
  have hl1 : ((cs.length : Int) ≤ 1000000000) := by omega
  have inner : ∀ (i : Nat) (fs : List (Int × Cell × Cell)) (y5 y6 y7 y8 y9 : SV), i < cs.length → (∀ f ∈ fs, f.2.1 ∈ cs ∧ f.2.2 ∈ cs) → fs.length ≤ i * cs.length →
      ∃ (fs' : List (Int × Cell × Cell)) (z8 z9 : SV), forL (.nm 8) (evSs l__law_crossed_1) (Ev.upTo ((i : Int) + 1) (cs.length - (i + 1))) [.val (.lst (gs.map gD)), .val (.lst (us.map uD)), .val (.lst (cs.map c2D)), .own (.lst (fs.map fD)), .val (.int i), y5, y6, y7, y8, y9] m = some (.nx [.val (.lst (gs.map gD)), .val (.lst (us.map uD)), .val (.lst (cs.map c2D)), .own (.lst (fs'.map fD)), .val (.int i), y5, y6, y7, z8, z9] m) ∧ (∀ f ∈ fs', f.2.1 ∈ cs ∧ f.2.2 ∈ cs) ∧ fs'.length ≤ (i + 1) * cs.length := by
    intro i fs y5 y6 y7 y8 y9 hi hfs hfl
    obtain ⟨o, h1, h2⟩ := forL_range (body := evSs l__law_crossed_1) (tg := .nm 8) (fun j sl m' => m' = m ∧ ∃ (fs' : List (Int × Cell × Cell)) (z8 z9 : SV), sl = [.val (.lst (gs.map gD)), .val (.lst (us.map uD)), .val (.lst (cs.map c2D)), .own (.lst (fs'.map fD)), .val (.int i), y5, y6, y7, z8, z9] ∧ (∀ f ∈ fs', f.2.1 ∈ cs ∧ f.2.2 ∈ cs) ∧ fs'.length ≤ i * cs.length + j) (fun _ _ => False) (fun _ _ => False) (cs.length - (i + 1)) ((i : Int) + 1)
      (fun j sl m' hj q => by
        obtain ⟨rfl, fs', z8, z9, rfl, q1, q2⟩ := q
        obtain ⟨x, hx⟩ : ∃ p, cs[i]? = some p := ⟨cs[i], List.getElem?_eq_getElem hi⟩
        have hj2 : i + 1 + j < cs.length := by omega
        obtain ⟨y, hy⟩ : ∃ p, cs[i + 1 + j]? = some p := ⟨cs[i + 1 + j], List.getElem?_eq_getElem hj2⟩
        have e0 : atI (cs.map c2D) (i : Int) = some (c2D x) := by rw [ixn, List.getElem?_map, hx]; rfl
        have e1 : atI (cs.map c2D) ((i : Int) + 1 + (j : Int)) = some (c2D y) := by
          have : (i : Int) + 1 + (j : Int) = ((i + 1 + j : Nat) : Int) := by omega
          rw [this, ixn, List.getElem?_map, hy]; rfl
        have mx := List.mem_of_getElem? hx
        have my := List.mem_of_getElem? hy
        obtain ⟨g, hg⟩ : ∃ p, gs[y.1]? = some p := ⟨_, List.getElem?_eq_getElem (hc y my).1⟩
        obtain ⟨u, hu⟩ : ∃ p, us[x.2.1]? = some p := ⟨_, List.getElem?_eq_getElem (hc x mx).2⟩
        have e2 : atI (gs.map gD) (y.1 : Int) = some (gD g) := by rw [ixn, List.getElem?_map, hg]; rfl
        have e3 : atI (us.map uD) (x.2.1 : Int) = some (uD u) := by rw [ixn, List.getElem?_map, hu]; rfl
        have hlen : fs'.length < 16777216 := by
          have h4 : i * cs.length ≤ 1000 * 1000 := Nat.mul_le_mul (by omega) hl
          omega
        obtain ⟨k1, n1⟩ : ∃ b, ltS (.int (x.1 : Int)) (.int (y.1 : Int)) = some b := ⟨_, rfl⟩
        obtain ⟨k2, n2⟩ : ∃ b, ltS (.int (x.2.1 : Int)) (.int (y.2.1 : Int)) = some b := ⟨_, rfl⟩
        obtain ⟨k3, n3⟩ : ∃ b, gtS (.int g.2.1) (.int u.2.1) = some b := ⟨_, rfl⟩
        refine ⟨_, rfl, ?_⟩
        cases k1 with
        | false =>
          refine ⟨.nx [.val (.lst (gs.map gD)), .val (.lst (us.map uD)), .val (.lst (cs.map c2D)), .own (.lst (fs'.map fD)), .val (.int i), y5, y6, y7, .val (.int ((i : Int) + 1 + (j : Int))), z9] m', ?_, rfl, _, _, _, rfl, q1, by omega⟩
          simp [evSs, evS, evs, evAnd, evOr, ev, evB, look, commit, R.d, R.kp, R.imm, R.sv, D.imm, D.imms, D.immC, setTg, setTs, bltR, binR, unR, ixR, tupR, lstR, dictTR, callR, slR, isiR, methR, lift, addS, subS, minS, maxS, modS, fdivS, mulS, negS, intS, wipeS, itList, itTup, itRng1, itRng2, mAppend, freeze, frz1, isnS, isnnS, l__law_crossed_1, ixS_lst, ixS_tup, e0, e1, c2D, ix0, ix1, n1]
        | true =>
          cases k2 with
          | false =>
            refine ⟨.nx [.val (.lst (gs.map gD)), .val (.lst (us.map uD)), .val (.lst (cs.map c2D)), .own (.lst (fs'.map fD)), .val (.int i), y5, y6, y7, .val (.int ((i : Int) + 1 + (j : Int))), z9] m', ?_, rfl, _, _, _, rfl, q1, by omega⟩
            simp [evSs, evS, evs, evAnd, evOr, ev, evB, look, commit, R.d, R.kp, R.imm, R.sv, D.imm, D.imms, D.immC, setTg, setTs, bltR, binR, unR, ixR, tupR, lstR, dictTR, callR, slR, isiR, methR, lift, addS, subS, minS, maxS, modS, fdivS, mulS, negS, intS, wipeS, itList, itTup, itRng1, itRng2, mAppend, freeze, frz1, isnS, isnnS, l__law_crossed_1, ixS_lst, ixS_tup, e0, e1, c2D, ix0, ix1, n1, n2]
          | true =>
            refine ⟨.nx [.val (.lst (gs.map gD)), .val (.lst (us.map uD)), .val (.lst (cs.map c2D)), .own (.lst ((fs' ++ [((if k3 then 1 else 0 : Int), x, y)]).map fD)), .val (.int i), y5, y6, y7, .val (.int ((i : Int) + 1 + (j : Int))), .val (.int (if k3 then 1 else 0))] m', ?_, rfl, _, _, _, rfl, fun f hf => ?_, by simp; omega⟩
            · simp [evSs, evS, evs, evAnd, evOr, ev, evB, look, commit, R.d, R.kp, R.imm, R.sv, D.imm, D.imms, D.immC, setTg, setTs, bltR, binR, unR, ixR, tupR, lstR, dictTR, callR, slR, isiR, methR, lift, addS, subS, minS, maxS, modS, fdivS, mulS, negS, intS, wipeS, itList, itTup, itRng1, itRng2, mAppend, freeze, frz1, isnS, isnnS, l__law_crossed_1, ixS_lst, ixS_tup, e0, e1, c2D, ix0, ix1, n1, n2, e2, e3, gD, uD, n3, hlen, fD]
            · rcases List.mem_append.mp hf with z | z
              · exact q1 f z
              · simp at z; subst z; exact ⟨mx, my⟩) [.val (.lst (gs.map gD)), .val (.lst (us.map uD)), .val (.lst (cs.map c2D)), .own (.lst (fs.map fD)), .val (.int i), y5, y6, y7, y8, y9] m ⟨rfl, _, _, _, rfl, hfs, by omega⟩
    cases o with
    | nx sl m' =>
      obtain ⟨rfl, fs', z8, z9, rfl, q1, q2⟩ := h2.resolve_right id
      exact ⟨fs', z8, z9, h1, q1, by rw [Nat.succ_mul]; omega⟩
    | _ => exact h2.elim
  obtain ⟨o, h1, h2⟩ := forL_range (body := evSs l__law_crossed_2) (tg := .nm 4) (fun i sl m' => m' = m ∧ ∃ (fs : List (Int × Cell × Cell)) (y4 y5 y6 y7 y8 y9 : SV), sl = [.val (.lst (gs.map gD)), .val (.lst (us.map uD)), .val (.lst (cs.map c2D)), .own (.lst (fs.map fD)), y4, y5, y6, y7, y8, y9] ∧ (∀ f ∈ fs, f.2.1 ∈ cs ∧ f.2.2 ∈ cs) ∧ fs.length ≤ i * cs.length) (fun _ _ => False) (fun _ _ => False) cs.length 0
    (fun i sl m' hi q => by
      obtain ⟨rfl, fs, y4, y5, y6, y7, y8, y9, rfl, q1, q2⟩ := q
      obtain ⟨fs', z8, z9, h3, h4, h5⟩ := inner i fs y5 y6 y7 y8 y9 hi q1 q2
      have b1 : -1000000000 ≤ (i : Int) + 1 ∧ (i : Int) + 1 ≤ 1000000000 := by omega
      have en : ((cs.length : Int) - ((i : Int) + 1)).toNat = cs.length - (i + 1) := by omega
      have hr : itRng2.sem [.int ((i : Int) + 1), .int (cs.length : Int)] = some (Ev.upTo ((i : Int) + 1) (cs.length - (i + 1))) := by
        simp only [itRng2]
        rw [if_pos ⟨by omega, by omega, by omega, by omega⟩, en]
      refine ⟨_, rfl, .nx [.val (.lst (gs.map gD)), .val (.lst (us.map uD)), .val (.lst (cs.map c2D)), .own (.lst (fs'.map fD)), .val (.int i), y5, y6, y7, z8, z9] m', ?_, rfl, _, _, _, _, _, _, _, rfl, h4, h5⟩
      rw [Int.zero_add]
      exact evSs_for1 (ds := [.int ((i : Int) + 1), .int (cs.length : Int)]) (m1 := m') (by simp [evs, ev, look, R.d, bltR, binR, lift, addS, lenS]) hr h3) [.val (.lst (gs.map gD)), .val (.lst (us.map uD)), .val (.lst (cs.map c2D)), .own (.lst []), .non, .non, .non, .non, .non, .non] m ⟨rfl, [], _, _, _, _, _, _, rfl, by simp, by simp⟩
  cases o with
  | nx sl m' =>
    obtain ⟨rfl, fs, y4, y5, y6, y7, y8, y9, rfl, q1, q2⟩ := h2.resolve_right id
    have h4 : cs.length * cs.length ≤ 1000 * 1000 := Nat.mul_le_mul hl hl
    by_cases h0 : fs.length = 0
    · have hnil : fs = [] := List.length_eq_zero_iff.mp h0
      subst hnil
      refine ⟨[], ?_, by simp⟩
      simp [f__law_crossed, b__law_crossed, evF, evSs, evS, evs, evAnd, evOr, ev, evB, look, commit, R.d, R.kp, R.imm, R.sv, D.imm, D.imms, D.immC, setTg, setTs, bltR, binR, unR, ixR, tupR, lstR, dictTR, callR, slR, isiR, methR, lift, addS, subS, minS, maxS, modS, fdivS, mulS, negS, intS, wipeS, itList, itTup, itRng1, itRng2, mAppend, freeze, frz1, isnS, isnnS, lenS, hl1, h1, eqS]
    · obtain ⟨l, zs, s1, s2⟩ := sorted_f fs (by omega) (by omega)
      obtain ⟨w1, w2⟩ := q1 l s2
      have e0 : eqS (.int (fs.length : Int)) (.int 0) = some false := by
        have hne : ¬ ((fs.length : Int) = 0) := by omega
        simp only [eqS, decide_eq_false hne]
      refine ⟨[(l.2.1.1, l.2.1.2.1, -1), (l.2.2.1, l.2.2.2.1, -1), (l.2.1.1, l.2.2.2.1, 1), (l.2.2.1, l.2.1.2.1, 1)], ?_, fun c hcm => ?_⟩
      · simp [f__law_crossed, b__law_crossed, evF, evSs, evS, evs, evAnd, evOr, ev, evB, look, commit, R.d, R.kp, R.imm, R.sv, D.imm, D.imms, D.immC, setTg, setTs, bltR, binR, unR, ixR, tupR, lstR, dictTR, callR, slR, isiR, methR, lift, addS, subS, minS, maxS, modS, fdivS, mulS, negS, intS, wipeS, itList, itTup, itRng1, itRng2, mAppend, freeze, frz1, isnS, isnnS, lenS, hl1, h1, e0, s1, ixS_lst, ixS_tup, ix0, ix1, ix2, fD, c2D, chD]
      · have a1 := hc _ w1
        have a2 := hc _ w2
        simp only [List.mem_cons, List.not_mem_nil, or_false] at hcm
        rcases hcm with rfl | rfl | rfl | rfl
        · exact a1
        · exact a2
        · exact ⟨a1.1, a2.2⟩
        · exact ⟨a2.1, a1.2⟩
  | _ => exact h2.elim
end K50

set_option Elab.async false
set_option linter.all false
set_option maxRecDepth 100000
set_option maxHeartbeats 4000000
namespace K50
open PySem PySem.Spec PyProof.Rows L2 Ev
theorem stair_in (gs : List (Int × Int × Int)) (us : List (D × Int × Int)) : ∀ c ∈ stair gs us, c.1 < gs.length ∧ c.2.1 < us.length := fun c hc => by
  obtain ⟨h1, h2, _⟩ := mem_T.mp hc
  exact ⟨h1, h2⟩
theorem sum_papers_ok (gs : List (Int × Int × Int)) {us : List (D × Int × Int)} (hu : UK us) (hg : gs.length ≤ 30) (hul : us.length ≤ 30) (h0 : stair gs us ≠ []) (m : Bag) :
    ∃ (ps : List D), f__law_sum_papers [.lst (gs.map gD), .lst (us.map uD)] m = some (.own (.lst ps), m) ∧ (∀ p ∈ ps, PaperOk 20002 p) ∧ ps.length ≤ 20 := by
  have hc := lcells_ok gs us (by omega) (by omega) m
  obtain ⟨cs, hcs⟩ : ∃ cs, cs = stair gs us := ⟨_, rfl⟩
  have hin := stair_in gs us
  rw [← hcs] at hc hin h0
  have hlen : cs.length ≤ 1000 := by
    rw [hcs]
    have := cellsT_len us.length (lapF gs us) gs.length
    have h5 : gs.length * us.length ≤ 30 * 30 := Nat.mul_le_mul hg hul
    unfold stair
    omega
  obtain ⟨last, hl⟩ : ∃ l, cs.getLast? = some l := by
    cases h : cs.getLast? with
    | some l => exact ⟨l, rfl⟩
    | none => rw [List.getLast?_eq_none_iff] at h; exact absurd h h0
  have ml := List.mem_of_getLast? hl
  obtain ⟨i1, i2⟩ := hin last ml
  have y2 : atI (cs.map c2D) (-1) = some (c2D last) := by rw [ixl, List.getLast?_map, hl]; rfl
  obtain ⟨chs, e1, e2⟩ := crossed_ok gs us cs hin hlen m
  obtain ⟨p1, e3, e4⟩ := changed_ok gs hu (by omega) (by omega) chs e2 m
  have sb : subS [.int 0, .int 1] = some (.val (.int (-1))) := rfl
  have key : ∀ (sl : List SV) (m : Bag), sl[2]? = some (.val (.lst (cs.map c2D))) → sl[3]? = some (.val (.int (last.1 : Int))) → 7 < sl.length → ev [] e__law_sum_papers_1 sl m = some (.own (.lst ((cs.filter fun c => decide (c.1 = last.1)).map fun c => .int c.2.1)), m) := fun sl m hs hs3 hl7 => by
    refine ev_comp_pure (use := []) (own := [("cell", 7)]) (it := itList) (ix := .cons (.var 2) .nil) (tg := .nm 7) (cs := .cons (.cmp ⟨.Eq, eqS⟩ (.app ixR (.cons (.var 7) (.cons (.con (.int 0)) .nil))) (.var 3)) .nil) (elt := .app ixR (.cons (.var 7) (.cons (.con (.int 1)) .nil))) (sl := sl) (m := m) (ds := [.lst (cs.map c2D)]) (as := cs) c2D (fun c => D.int c.2.1) (fun c => decide (c.1 = last.1)) (by simp [evSs, evS, evs, evAnd, evOr, ev, evB, look, commit, R.d, R.kp, R.imm, R.sv, D.imm, D.imms, D.immC, setTg, setTs, bltR, binR, unR, ixR, tupR, lstR, dictTR, callR, slR, isiR, methR, lift, addS, subS, minS, maxS, modS, fdivS, mulS, negS, intS, wipeS, itList, itTup, itRng1, itRng2, mAppend, freeze, frz1, isnS, isnnS, hs]) rfl (by omega) (fun c _ => ⟨_, rfl, ?_, fun _ => ⟨.val (.int c.2.1), ?_, rfl⟩⟩)
    · have e : eqS (.int (c.1 : Int)) (.int (last.1 : Int)) = some (decide (c.1 = last.1)) := by
        by_cases e : c.1 = last.1
        · simp [eqS, e]
        · have e' : ¬ ((c.1 : Int) = (last.1 : Int)) := by omega
          simp [eqS, e, e']
      by_cases hd : c.1 = last.1
      · rw [decide_eq_true hd] at e ⊢
        simp [evSs, evS, evs, evAnd, evOr, ev, evB, look, commit, R.d, R.kp, R.imm, R.sv, D.imm, D.imms, D.immC, setTg, setTs, bltR, binR, unR, ixR, tupR, lstR, dictTR, callR, slR, isiR, methR, lift, addS, subS, minS, maxS, modS, fdivS, mulS, negS, intS, wipeS, itList, itTup, itRng1, itRng2, mAppend, freeze, frz1, isnS, isnnS, hl7, ixS_tup, c2D, ix0, hs3, e]
      · rw [decide_eq_false hd] at e ⊢
        simp [evSs, evS, evs, evAnd, evOr, ev, evB, look, commit, R.d, R.kp, R.imm, R.sv, D.imm, D.imms, D.immC, setTg, setTs, bltR, binR, unR, ixR, tupR, lstR, dictTR, callR, slR, isiR, methR, lift, addS, subS, minS, maxS, modS, fdivS, mulS, negS, intS, wipeS, itList, itTup, itRng1, itRng2, mAppend, freeze, frz1, isnS, isnnS, hl7, ixS_tup, c2D, ix0, hs3, e]
    · simp [evSs, evS, evs, evAnd, evOr, ev, evB, look, commit, R.d, R.kp, R.imm, R.sv, D.imm, D.imms, D.immC, setTg, setTs, bltR, binR, unR, ixR, tupR, lstR, dictTR, callR, slR, isiR, methR, lift, addS, subS, minS, maxS, modS, fdivS, mulS, negS, intS, wipeS, itList, itTup, itRng1, itRng2, mAppend, freeze, frz1, isnS, isnnS, hl7, ixS_tup, c2D, ix1]
  have hne : (jsOf cs last.1).min? ≠ none := fun z => by
    have : jsOf cs last.1 = [] := List.min?_eq_none_iff.mp z
    have h2 : (last.2.1 : Int) ∈ jsOf cs last.1 := mem_js.mpr ⟨last, ml, rfl, rfl⟩
    rw [this] at h2; cases h2
  obtain ⟨lo, hlo⟩ : ∃ lo, (jsOf cs last.1).min? = some lo := by
    cases h : (jsOf cs last.1).min? with
    | some l => exact ⟨l, rfl⟩
    | none => exact absurd h hne
  obtain ⟨cf, f1, f2, f3⟩ := mem_js.mp (List.min?_eq_some_iff.mp hlo).1
  subst f3
  have hmin : minS [.lst ((cs.filter fun c => decide (c.1 = last.1)).map fun c => .int c.2.1)] = some (.val (.int (cf.2.1 : Int))) := by
    have hi2 : D.ints ((cs.filter fun c => decide (c.1 = last.1)).map (fun c => D.int c.2.1)) = some (jsOf cs last.1) := ints_of _ _
    simp only [minS, hi2, hlo]
    rfl
  have jf := (hin cf f1).2
  have g1 : ltS (.int ((last.1 : Int) + 1)) (.int (gs.length : Int)) = some (decide ((last.1 : Int) + 1 < (gs.length : Int))) := rfl
  have g2 : gtS (.int (last.1 : Int)) (.int 0) = some (decide (0 < (last.1 : Int))) := rfl
  have ad : addS [.int (last.1 : Int), .int 1] = some (.val (.int ((last.1 : Int) + 1))) := rfl
  have sb2 : subS [.int (last.1 : Int), .int 1] = some (.val (.int ((last.1 : Int) - 1))) := rfl
  have P2 : (last.1 : Int) + 1 < (gs.length : Int) → ∃ p, f__law_changed [.lst (gs.map gD), .lst (us.map uD), .lst [.tup [.int (last.1 : Int), .int (last.2.1 : Int), .int (-1)], .tup [.int ((last.1 : Int) + 1), .int (last.2.1 : Int), .int 1]]] m = some (.own p, m) ∧ PaperOk 20002 p := fun h =>
    changed_ok gs hu (by omega) (by omega) [(last.1, last.2.1, -1), (last.1 + 1, last.2.1, 1)] (fun c hcm => by
      simp only [List.mem_cons, List.not_mem_nil, or_false] at hcm
      rcases hcm with rfl | rfl
      · exact ⟨i1, i2⟩
      · exact ⟨by show last.1 + 1 < _; omega, i2⟩) m
  have P3 : 0 < (last.1 : Int) → ∃ p, f__law_changed [.lst (gs.map gD), .lst (us.map uD), .lst [.tup [.int ((last.1 : Int) - 1), .int (cf.2.1 : Int), .int 1], .tup [.int (last.1 : Int), .int (cf.2.1 : Int), .int (-1)]]] m = some (.own p, m) ∧ PaperOk 20002 p := fun h => by
    have := changed_ok gs hu (by omega) (by omega) [(last.1 - 1, cf.2.1, 1), (last.1, cf.2.1, -1)] (fun c hcm => by
      simp only [List.mem_cons, List.not_mem_nil, or_false] at hcm
      rcases hcm with rfl | rfl
      · exact ⟨by show last.1 - 1 < _; omega, jf⟩
      · exact ⟨i1, jf⟩) m
    have e : ((last.1 - 1 : Nat) : Int) = (last.1 : Int) - 1 := by omega
    simp only [List.map_cons, List.map_nil, chD, e] at this
    exact this
  by_cases h1 : (last.1 : Int) + 1 < (gs.length : Int)
  · rw [decide_eq_true h1] at g1
    obtain ⟨p2, e5, e6⟩ := P2 h1
    by_cases h2 : 0 < (last.1 : Int)
    · rw [decide_eq_true h2] at g2
      obtain ⟨p3, e7, e8⟩ := P3 h2
      refine ⟨[p1, p2, p3], ?_, fun p hp => ?_, by simp⟩
      · simp [f__law_sum_papers, b__law_sum_papers, evF, evSs, evS, evs, ev, evB, look, commit, R.d, R.kp, R.imm, R.sv, bltR, binR, unR, ixR, lstR, tupR, callR, lift, lenS, negS, mAppend, hc, y2, c2D, ixS_lst, ixS_tup, ix0, ix1, e1, e3, ad, g1, g2, sb, e5, key, hmin, sb2, e7]
      · simp only [List.mem_cons, List.not_mem_nil, or_false] at hp
        rcases hp with rfl | rfl | rfl
        · exact e4
        · exact e6
        · exact e8
    · rw [decide_eq_false h2] at g2
      refine ⟨[p1, p2], ?_, fun p hp => ?_, by simp⟩
      · simp [f__law_sum_papers, b__law_sum_papers, evF, evSs, evS, evs, ev, evB, look, commit, R.d, R.kp, R.imm, R.sv, bltR, binR, unR, ixR, lstR, tupR, callR, lift, lenS, negS, mAppend, hc, y2, c2D, ixS_lst, ixS_tup, ix0, ix1, e1, e3, ad, g1, g2, sb, e5]
      · simp only [List.mem_cons, List.not_mem_nil, or_false] at hp
        rcases hp with rfl | rfl
        · exact e4
        · exact e6
  · rw [decide_eq_false h1] at g1
    by_cases h2 : 0 < (last.1 : Int)
    · rw [decide_eq_true h2] at g2
      obtain ⟨p3, e7, e8⟩ := P3 h2
      refine ⟨[p1, p3], ?_, fun p hp => ?_, by simp⟩
      · simp [f__law_sum_papers, b__law_sum_papers, evF, evSs, evS, evs, ev, evB, look, commit, R.d, R.kp, R.imm, R.sv, bltR, binR, unR, ixR, lstR, tupR, callR, lift, lenS, negS, mAppend, hc, y2, c2D, ixS_lst, ixS_tup, ix0, ix1, e1, e3, ad, g1, g2, sb, key, hmin, sb2, e7]
      · simp only [List.mem_cons, List.not_mem_nil, or_false] at hp
        rcases hp with rfl | rfl
        · exact e4
        · exact e8
    · rw [decide_eq_false h2] at g2
      refine ⟨[p1], ?_, fun p hp => ?_, by simp⟩
      · simp [f__law_sum_papers, b__law_sum_papers, evF, evSs, evS, evs, ev, evB, look, commit, R.d, R.kp, R.imm, R.sv, bltR, binR, unR, ixR, lstR, tupR, callR, lift, lenS, negS, mAppend, hc, y2, c2D, ixS_lst, ixS_tup, ix0, ix1, e1, e3, ad, g1, g2, sb]
      · simp only [List.mem_cons, List.not_mem_nil, or_false] at hp
        subst hp
        exact e4
end K50

set_option Elab.async false
set_option linter.all false
set_option maxRecDepth 100000
set_option maxHeartbeats 4000000
namespace K50
open PySem PySem.Spec PyProof.Rows L2 Ev
/-! the table with its rows apart: a second promise of _law_table -/
structure TabAt (H0 H : Hp) (t : Addr) (ras : List Addr) (rows : List (List Int)) : Prop where
  t0 : H0 t = none
  tab : H t = some (.lst (ras.map V.ref))
  len : ras.length = rows.length
  row : ∀ (i : Nat) a r, ras[i]? = some a → rows[i]? = some r → H a = some (.lst (r.map V.int))
  new : ∀ a ∈ ras, H0 a = none
  nd : ras.Nodup
  ne : t ∉ ras
def spTable (C : Cfg Bag) : Sp := fun vs H Q _ => ∃ (O : Addr → Prop) (gs : List (Int × Int × Int)) (us : List (D × Int × Int)) (m : Bag), Vw C O H m ∧ RepAll C.K (hide O H) vs [.lst (gs.map gD), .lst (us.map uD)] ∧ gs.length ≤ 1000000 ∧ us.length ≤ 1000000 ∧
  ∀ t ras H', Ext C.F H H' → C.WR H' m → TabAt H H' t ras (tabL gs.length us.length (lapF gs us)) → Q (.ref t) H'
theorem tabL_succ (i k : Nat) (t : Nat → Nat → Int) : tabL (i + 1) k t = tabL i k t ++ [(List.range k).map fun j => t i j] := by
  simp [tabL, List.range_succ]
theorem tabL_len (n k : Nat) (t : Nat → Nat → Int) : (tabL n k t).length = n := by simp [tabL]
theorem small_line {n : Nat} (h : n ≤ 1000000) : n < sizeLine := by rw [sizeLine_eq]; omega
theorem RLe.tr {H H' H2 : Hp} (a : RLe H H') (b : RLe H' H2) : RLe H H2 := ⟨fun c u h => b.rd _ _ (a.rd _ _ h), fun c u h => b.ls _ _ (a.ls _ _ h), fun c u h => b.tp _ _ (a.tp _ _ h)⟩
/-- one more row -/
theorem TabAt.snoc {H0 H H' : Hp} {t b : Addr} {ras : List Addr} {rows : List (List Int)} {r : List Int} (h : TabAt H0 H t ras rows) (hs : ∀ a o, a ∈ ras → H a = some o → H' a = some o) (ht : H' t = some (.lst (ras.map V.ref ++ [.ref b])))
    (hb : H b = none) (hb0 : H0 b = none) (hr : H' b = some (.lst (r.map V.int))) : TabAt H0 H' t (ras ++ [b]) (rows ++ [r]) := by
  have nb : b ∉ ras := fun z => by
    obtain ⟨i, hi, e⟩ := List.mem_iff_getElem.mp z
    have := h.row i b (rows[i]'(by rw [← h.len]; exact hi)) (by rw [List.getElem?_eq_getElem hi, e]) (List.getElem?_eq_getElem _)
    rw [hb] at this; cases this
  have nt : b ≠ t := fun z => by rw [z, h.tab] at hb; cases hb
  refine ⟨h.t0, by rw [ht]; simp, by simp [h.len], fun i a q e1 e2 => ?_, fun a ha => ?_, ?_, ?_⟩
  · rcases Nat.lt_or_ge i ras.length with z | z
    · rw [List.getElem?_append_left z] at e1
      rw [List.getElem?_append_left (by rw [← h.len]; exact z)] at e2
      exact hs _ _ (List.mem_of_getElem? e1) (h.row i a q e1 e2)
    · rw [List.getElem?_append_right z] at e1
      rw [List.getElem?_append_right (by rw [← h.len]; exact z), ← h.len] at e2
      cases hk : i - ras.length with
      | zero =>
        rw [hk] at e1 e2
        simp at e1 e2
        subst e1; subst e2
        exact hr
      | succ n => rw [hk] at e1; simp at e1
  · rcases List.mem_append.mp ha with z | z
    · exact h.new a z
    · simp at z; subst z; exact hb0
  · exact List.nodup_append.mpr ⟨h.nd, by simp, fun a ha c hc e => by simp at hc; subst hc; subst e; exact nb ha⟩
  · simp only [List.mem_append, List.mem_singleton, not_or]
    exact ⟨h.ne, fun e => nt e.symm⟩
theorem ok_table2 (A : BA) {P : Program} {w : World} {K : PySem.W.Frag} {mg : Str → Option Value} {base : Heap} {f : Addr} {fd : FuncData} (F : Fun K "_law_table" "_law_table" s__law_table f fd) (h_max : mg "max" = none) (h_min : mg "min" = none) :
    FnOk P w K mg base CX0 1 f fd ["gifts", "uses"] (spTable (cfg P w K mg base A)) := by
  refine F.ok sc__law_table (fun vs H Q E h => ?_) (fun cdv A' outer s H vs Q E hr h => ?_)
  · obtain ⟨O, gs, us, m, _, hra, _⟩ := h
    rw [hra.length]; rfl
  · obtain ⟨O, gs, us, m, hv, hra, lg, lu, k⟩ := h
    obtain ⟨C, hC⟩ : ∃ C, C = cfg P w K mg base A := ⟨_, rfl⟩
    have hX : CtxOk (cfg P w K mg base A) 0 n__law_table (defScope s__law_table) true (cxOf CX0 P w K mg base n__law_table "_law_table" (defScope s__law_table) f cdv A' outer s H E).nox :=
      ⟨rfl, rfl, rfl, rfl, rfl, rfl, sc__law_table.nd, sc__law_table.kind, rfl, rfl, hr, rfl, fun _ _ => rfl⟩
    have o1 : (Sm.set [] true 5 (.app lstR .nil) : Sm Bag).ok (cfg P w K mg base A) 0 := by
      simp only [Sms.ok, Sm.ok, Xp.ok, Xs.ok, and_true, true_and]
      exact (ok_lst).up
    have o2 : (Sm.set [] false 6 (.con (.int 0)) : Sm Bag).ok (cfg P w K mg base A) 0 := trivial
    have o3 : (Sm.forI [] itList (.cons (.var 1) .nil) (.nm 7) l__law_table_1 : Sm Bag).ok (cfg P w K mg base A) 0 := by
      simp only [l__law_table_1, Sms.ok, Sm.ok, Xp.ok, Xs.ok, and_true, true_and]
      (repeat' apply And.intro) <;> first | exact ok_itList | exact ok_append | exact (ok_max h_max).up | exact (ok_sub).up | exact (ok_min h_min).up | exact (ok_add).up | exact (ok_ix).up
    refine ⟨_, pss_cons (ps_set (i := 2) sc__law_table.nd rfl (.inl rfl) (pe_lst pa_nil)) (pss_cons (ps_set (i := 3) sc__law_table.nd rfl (.inl rfl) pe_int)
      (pss_cons (ps_for PassesOwn.never rfl (pi_list (pv 0)) (pg_name (i := 4) sc__law_table.nd rfl (.inl rfl))
        (pss_cons (evS_ps _ hX o1 (by kernel_rfl)) (pss_cons (evS_ps _ hX o2 (by kernel_rfl)) (pss_cons (evS_ps _ hX o3 (by kernel_rfl))
          (pss_cons (ps_expr (pe_bm PySem.F.plainAttrs_list PySem.F.slot_list_append PySem.F.type_list_append mt_append (pv 2) (pa_cons (pv 5) pa_nil)))
            (pss_one (ps_set (i := 3) sc__law_table.nd rfl (.inl rfl) (pe_op op_add (pv 3) (pe_ix ix_tup (pv 4) pe_int (fun _ _ => rfl)))))))))) (pss_one (ps_ret (pv 2))))), ?_⟩
    obtain ⟨v0, v1, rfl, r0, r1⟩ := hra.inv2
    rw [← hC] at hv hX k r0 r1 ⊢
    cases r0 with
    | @lst a0 w0 _ h0 q0 =>
    have nO : ¬ O a0 := (hide_some.mp h0).1
    have e0 : H a0 = some (.lst w0) := (hide_some.mp h0).2
    have nF : ∀ {a}, ¬ O a → ¬ C.F a := fun n z => n (hv.sub _ z)
    have lw : w0.length = gs.length := by rw [q0.length, List.length_map]
    refine ⟨Nat.zero_le _, fun t nt => ?_⟩
    have ntO : ¬ O t := fun z => hv.dom t z nt
    have sm1 : Same H (upd H t (.lst [])) := same_new nt
    refine ⟨.ref a0, rfl, a0, rfl, ⟨w0, SqL.of (by rw [upd_ne (ne_of_none e0 nt)]; exact e0)⟩, for_list (xs := w0) (fun i σ H2 => σ.length = 8 ∧ σ[0]? = some (some (.ref a0)) ∧ σ[2]? = some (some (.ref t)) ∧ σ[3]? = some (some (.int (sumG gs i))) ∧ Ext C.F H H2 ∧ C.WR H2 m ∧ ∃ ras, TabAt H H2 t ras (tabL i us.length (lapF gs us)) ∧ ∃ u1, σ[1]? = some (some u1) ∧ Rep C.K (hide (fun a => O a ∨ a = t ∨ a ∈ ras) H2) u1 (.lst (us.map uD)))
      ⟨rfl, rfl, rfl, rfl, Ext.of sm1, Cfg.stay hv.wr sm1, [], ⟨nt, upd_same, rfl, fun i a r z => by simp at z, fun a z => by simp at z, List.nodup_nil, by simp⟩, v1, rfl, r1.mono (RLe.of (same_hide fun a o h1 h2 => ⟨fun z => by
        rcases z with z | z | z
        · exact h1 z
        · rw [z, nt] at h2; cases h2
        · simp at z, sm1 _ _ h2⟩))⟩ (fun i σ H2 _ q => SqL.of (q.2.2.2.2.1 _ _ e0 (nF nO))) (fun i x σ H2 hx q => ?_) (fun σ H2 q => ?_)⟩
    · obtain ⟨l8, s0, s2, s3, ex, wr, ras, T, u1, s1, ru⟩ := q
      obtain ⟨d, hd, rx⟩ := q0.get' hx
      rw [List.getElem?_map] at hd
      obtain ⟨g, hg, rfl⟩ := Option.map_eq_some_iff.mp hd
      have hi : i < gs.length := getlt hg
      obtain ⟨z6, z7, hrow⟩ := row_loop (sumG gs i) g (.val (.ref a0)) (.val (.lst (us.map uD))) (.val (.ref t)) m us (by omega) .non
      have ras_some : ∀ a ∈ ras, ∃ o, H2 a = some o := fun a ha => by
        obtain ⟨j, hj, e⟩ := List.mem_iff_getElem.mp ha
        exact ⟨_, T.row j a ((tabL i us.length (lapF gs us))[j]'(by rw [← T.len]; exact hj)) (by rw [List.getElem?_eq_getElem hj, e]) (List.getElem?_eq_getElem _)⟩
      let O' : Addr → Prop := fun a => O a ∨ a = t ∨ a ∈ ras
      have hG : Same (hide O H) (hide O' H2) := same_hide fun a o h1 h2 => by
        refine ⟨fun z => ?_, ex _ _ h2 (nF h1)⟩
        rcases z with z | z | z
        · exact h1 z
        · rw [z, nt] at h2; cases h2
        · rw [T.new a z] at h2; cases h2
      have st0 : StOk C O' H2 H2 (σ.set 4 (some x)) [.val (.ref a0), .val (.lst (us.map uD)), .val (.ref t), .val (.int (sumG gs i)), .val (gD g), .non, .non, .non] m := by
        have hle : RLe (hide O' H2) (hide (OA O' [.val (.ref a0), .val (.lst (us.map uD)), .val (.ref t), .val (.int (sumG gs i)), .val (gD g), .non, .non, .non] fun _ => t) H2) := RLe.of (same_hide fun a o h1 h2 => ⟨fun z => z.elim h1 fun ⟨j, e, e1, _⟩ => by
          have := List.mem_of_getElem? e1
          simp at this, h2⟩)
        refine ⟨by simp [l8], fun a z => .inl (hv.sub a z), fun a z => ?_, Ext.refl, wr, fun _ => t, fun j d e => ?_, fun j j2 d d2 e => ?_, fun j d e => ?_⟩
        · rcases z with z | z | z
          · by_cases hf : C.F a
            · exact C.dom H2 m a wr hf
            · cases hq : H a with
              | none => exact absurd hq (hv.dom a z)
              | some o => rw [ex a o hq hf]; exact fun z => by cases z
          · rw [z, T.tab]; exact fun z => by cases z
          · obtain ⟨o, e⟩ := ras_some a z
            rw [e]; exact fun z => by cases z
        · have := List.mem_of_getElem? e
          simp at this
        · have := List.mem_of_getElem? e
          simp at this
        · match j, e with
          | 0, e => cases e; exact ⟨_, by rw [List.getElem?_set_ne (by decide)]; exact s0, .ref a0⟩
          | 1, e => cases e; exact ⟨_, by rw [List.getElem?_set_ne (by decide)]; exact s1, ru.mono hle⟩
          | 2, e => cases e; exact ⟨_, by rw [List.getElem?_set_ne (by decide)]; exact s2, .ref t⟩
          | 3, e => cases e; exact ⟨_, by rw [List.getElem?_set_ne (by decide)]; exact s3, .int _⟩
          | 4, e => cases e; exact ⟨x, List.getElem?_set_self (by omega), rx.mono (RLe.tr (RLe.of hG) hle)⟩
          | 5, e => cases e
          | 6, e => cases e
          | 7, e => cases e
          | j + 8, e => simp at e
      refine ⟨O', H2, _, m, .nx [.val (.ref a0), .val (.lst (us.map uD)), .val (.ref t), .val (.int (sumG gs i)), .val (gD g), .own (.lst []), .non, .non] m, st0, by simp [evSs, evS, evs, evAnd, evOr, ev, evB, look, commit, R.d, R.kp, R.imm, R.sv, D.imm, D.imms, D.immC, setTg, setTs, bltR, binR, unR, ixR, tupR, lstR, dictTR, callR, slR, isiR, methR, lift, addS, subS, minS, maxS, modS, fdivS, mulS, negS, intS, wipeS, itList, itTup, itRng1, itRng2, mAppend, freeze, frz1, isnS, isnnS], fun σ1 H3 st1 => ?_⟩
      refine ⟨O', H2, _, m, .nx [.val (.ref a0), .val (.lst (us.map uD)), .val (.ref t), .val (.int (sumG gs i)), .val (gD g), .own (.lst []), .val (.int 0), .non] m, st1, by simp [evSs, evS, evs, evAnd, evOr, ev, evB, look, commit, R.d, R.kp, R.imm, R.sv, D.imm, D.imms, D.immC, setTg, setTs, bltR, binR, unR, ixR, tupR, lstR, dictTR, callR, slR, isiR, methR, lift, addS, subS, minS, maxS, modS, fdivS, mulS, negS, intS, wipeS, itList, itTup, itRng1, itRng2, mAppend, freeze, frz1, isnS, isnnS], fun σ2 H4 st2 => ?_⟩
      refine ⟨O', H2, _, m, .nx [.val (.ref a0), .val (.lst (us.map uD)), .val (.ref t), .val (.int (sumG gs i)), .val (gD g), .own (.lst ((rowF (sumG gs i) g.2.2 0 us).map .int)), z6, z7] m, st2, by simp [evSs, evS, evs, evAnd, evOr, ev, evB, look, commit, R.d, R.kp, R.imm, R.sv, D.imm, D.imms, D.immC, setTg, setTs, bltR, binR, unR, ixR, tupR, lstR, dictTR, callR, slR, isiR, methR, lift, addS, subS, minS, maxS, modS, fdivS, mulS, negS, intS, wipeS, itList, itTup, itRng1, itRng2, mAppend, freeze, frz1, isnS, isnnS, hrow], fun σ3 H5 st3 => ?_⟩
      obtain ⟨ad, sl3⟩ := st3.own
      obtain ⟨x0, f0, p0⟩ := sl3.v1 0 _ rfl
      obtain ⟨x1, f1, p1⟩ := sl3.v1 1 _ rfl
      obtain ⟨x2, f2, p2⟩ := sl3.v1 2 _ rfl
      obtain ⟨x3, f3, p3⟩ := sl3.v1 3 _ rfl
      obtain ⟨x4, f4, p4⟩ := sl3.v1 4 _ rfl
      obtain ⟨f5, nb, ws, hb, pb⟩ := sl3.o1 5 _ rfl
      cases p0
      cases p2
      cases p3
      have ews := pb.ints
      subst ews
      cases p4 with
      | @tup ga gv _ hgt hgr =>
      obtain ⟨w1, w2, w3, rfl, _, _, rw3⟩ := hgr.inv3
      have ew := rw3.val_int
      subst ew
      have tH2 := T.tab
      have tF : ¬ C.F t := nF ntO
      have ht5 : H5 t = some (.lst (ras.map V.ref)) := st3.ext _ _ tH2 tF
      have hga := (hide_some.mp hgt)
      have gat : ga ≠ t := fun z => hga.1 (.inl (.inr (.inl z)))
      have nbt : ad 5 ≠ t := fun z => by rw [z, tH2] at nb; cases nb
      have nb0 : H (ad 5) = none := by
        cases hq : H (ad 5) with
        | none => rfl
        | some o => exact absurd nb (by rw [ex _ _ hq (fun z => by have := C.dom H2 m _ wr z; exact this nb)]; exact fun z => by cases z)
      refine ⟨.ref t, f2, .inl ⟨rfl, _, SqL.of ht5⟩, .ref (ad 5), f5, t, _, _, rfl, rfl, ht5, ?_, ?_⟩
      · rw [List.length_map, T.len, tabL_len]; exact small_line (by omega)
      · refine ⟨.int (sumG gs i), f3, .ref ga, f4, ga, _, 2, .int g.2.2, rfl, rfl, SqT.of (by rw [upd_ne gat]; exact hga.2), ix2 _ _ _ _, _, _, rfl, rfl, ?_⟩
        have e6 : ∀ a o, H5 a = some o → a ≠ t → (upd H5 t (.lst (ras.map V.ref ++ [V.ref (ad 5)]))) a = some o := fun a o h1 h2 => by rw [upd_ne h2]; exact h1
        refine ⟨by simp [st3.len], by rw [List.getElem?_set_ne (by decide)]; exact f0,
          by rw [List.getElem?_set_ne (by decide)]; exact f2, by rw [List.getElem?_set_self (by rw [st3.len]; simp), sumG_succ hg], fun a o h1 h2 => ?_, C.loc H5 _ m (fun a hf => upd_ne fun z => tF (z ▸ hf)) st3.wr, ras ++ [ad 5], ?_, x1, by rw [List.getElem?_set_ne (by decide)]; exact f1, p1.mono (RLe.of (same_hide fun a o h1 h2 => ⟨fun z => ?_, e6 _ _ h2 fun z => h1 (.inl (.inr (.inl z)))⟩))⟩
        · exact e6 _ _ (st3.ext _ _ (ex _ _ h1 h2) h2) (ne_of_none h1 nt)
        · rw [tabL_succ, ← rowF_lap gs us hg]
          exact T.snoc (fun a o h0 h1 => e6 _ _ (st3.ext _ _ h1 fun hf => hv.dom a (hv.sub a hf) (T.new a h0)) fun z => T.ne (z ▸ h0)) upd_same nb nb0 (by rw [upd_ne nbt]; exact hb)
        · rcases z with z | z | z
          · exact h1 (.inl (.inl z))
          · exact h1 (.inl (.inr (.inl z)))
          · rcases List.mem_append.mp z with z | z
            · exact h1 (.inl (.inr (.inr z)))
            · simp at z; exact h1 (.inr ⟨5, _, rfl, z.symm⟩)
    · obtain ⟨l8, s0, s2, s3, ex, wr, ras, T, u1, s1, ru⟩ := q
      rw [lw] at T
      exact ⟨.ref t, s2, k t ras H2 ex wr T⟩
end K50

set_option Elab.async false
set_option linter.all false
set_option maxRecDepth 100000
set_option maxHeartbeats 4000000
namespace K50
open PySem PySem.Spec PyProof.Rows L2 Ev
/-! _law_changed: the rows are written in place -/
def rowsD (rows : List (List Int)) : List D := rows.map fun r => .lst (r.map .int)
theorem tabD_rows (n k : Nat) (t : Nat → Nat → Int) : tabD n k t = rowsD (tabL n k t) := rfl
theorem TabAt.set {H0 H : Hp} {t : Addr} {ras : List Addr} {rows : List (List Int)} (h : TabAt H0 H t ras rows) {i : Nat} {a : Addr} (ha : ras[i]? = some a) (r : List Int) : TabAt H0 (upd H a (.lst (r.map V.int))) t ras (rows.set i r) := by
  have hi : i < ras.length := by
    rcases Nat.lt_or_ge i ras.length with z | z
    · exact z
    · rw [List.getElem?_eq_none z] at ha; cases ha
  have ma := List.mem_of_getElem? ha
  have nt : t ≠ a := fun z => h.ne (z ▸ ma)
  refine ⟨h.t0, by rw [upd_ne nt]; exact h.tab, by rw [List.length_set]; exact h.len, fun j b q e1 e2 => ?_, h.new, h.nd, h.ne⟩
  by_cases hj : i = j
  · subst hj
    rw [ha] at e1
    cases e1
    rw [List.getElem?_set_self (by rw [← h.len]; exact hi)] at e2
    cases e2
    exact upd_same
  · rw [List.getElem?_set_ne hj] at e2
    have nb : b ≠ a := fun z => by
      subst z
      have hj' : j < ras.length := by
        rcases Nat.lt_or_ge j ras.length with z | z
        · exact z
        · rw [List.getElem?_eq_none z] at e1; cases e1
      rw [List.getElem?_eq_getElem hi] at ha
      rw [List.getElem?_eq_getElem hj'] at e1
      exact hj ((List.getElem_inj h.nd).mp ((Option.some.inj ha).trans (Option.some.inj e1).symm))
    rw [upd_ne nb]
    exact h.row j b q e1 e2
theorem TabAt.some {H0 H : Hp} {t : Addr} {ras : List Addr} {rows : List (List Int)} (h : TabAt H0 H t ras rows) {i : Nat} {r : List Int} (e : rows[i]? = Option.some r) : ∃ a, ras[i]? = Option.some a ∧ H a = Option.some (.lst (r.map V.int)) := by
  have hi : i < rows.length := getlt e
  have hi2 : i < ras.length := by rw [h.len]; exact hi
  exact ⟨ras[i], List.getElem?_eq_getElem hi2, h.row i _ r (List.getElem?_eq_getElem hi2) e⟩
/-- one change -/
theorem apply_step {c : D} {cs rows' : List D} {rows : List (List Int)} (h : applyL (c :: cs) (rowsD rows) = some rows') : ∃ (i j x : Int) (a b : Nat) (r : List Int) (v : Int), c = .tup [.int i, .int j, .int x] ∧ ixN rows.length i = some a ∧ rows[a]? = some r ∧ ixN r.length j = some b ∧ r[b]? = some v ∧
    applyL cs (rowsD (rows.set a (r.set b (v + x)))) = some rows' := by
  unfold applyL at h
  split at h
  · rename_i e
    cases e
  · rename_i i j x cs' e
    injection e with e1 e2
    subst e1; subst e2
    split at h
    · rename_i a ha
      rw [show (rowsD rows).length = rows.length by simp [rowsD]] at ha
      split at h
      · rename_i r hr
        simp only [rowsD, List.getElem?_map] at hr
        obtain ⟨r0, hr0, e⟩ := Option.map_eq_some_iff.mp hr
        cases e
        split at h
        · rename_i b hb
          rw [List.length_map] at hb
          split at h
          · rename_i v hv
            rw [List.getElem?_map] at hv
            obtain ⟨v0, hv0, e⟩ := Option.map_eq_some_iff.mp hv
            cases e
            refine ⟨i, j, x, a, b, r0, v, rfl, ha, hr0, hb, hv0, ?_⟩
            rw [← h]
            congr 1
            simp only [rowsD, List.map_set]
          · cases h
        · cases h
      · cases h
    · cases h
  · cases h
theorem ok__law_changed (A : BA) {P : Program} {w : World} {K : PySem.W.Frag} {mg : Str → Option Value} {base : Heap} {f : Addr} {fd : FuncData} (F : Fun K "_law_changed" "_law_changed" s__law_changed f fd)
    {fT fR : Addr} {dT dR : FuncData} (FT : FnOk P w K mg base CX0 1 fT dT ["gifts", "uses"] (spTable (cfg P w K mg base A))) (gT : mg "_law_table" = some (.ref fT)) (kT : PySem.W.keepIn K (.ref fT) = true) (bT : Binds K dT ["gifts", "uses"] [])
    (FR : FnOk P w K mg base CX0 1 fR dR ["gifts", "uses", "table"] (fun vs H Q _ => RSem (cfg P w K mg base A) f__law_triples vs H Q)) (gR : mg "_law_triples" = some (.ref fR)) (kR : PySem.W.keepIn K (.ref fR) = true) (bR : Binds K dR ["gifts", "uses", "table"] []) :
    FnOk P w K mg base CX0 2 f fd ["gifts", "uses", "changes"] (fun vs H Q _ => RSem (cfg P w K mg base A) f__law_changed vs H Q) := by
  refine F.ok sc__law_changed (fun vs H Q E h => ?_) (fun cdv A' outer s H vs Q E hr h => ?_)
  · obtain ⟨O, ds, m, r, m', hv, hra, he, _⟩ := h
    unfold f__law_changed at he
    split at he
    · rename_i ht
      obtain ⟨gs, us, chs, rfl, _⟩ := ht
      rw [hra.length]; rfl
    · cases he
  · obtain ⟨O, ds, m, r, m', hv, hra, he, k⟩ := h
    unfold f__law_changed at he
    split at he
    · rename_i ht
      obtain ⟨gs, us, chs, rfl, lg, lu⟩ := ht
      simp only [f0__law_changed, table_ok gs us lg lu m] at he
      rw [tabD_rows] at he
      split at he
      · rename_i rows' ha
        refine ⟨_, pss_cons (ps_set (i := 3) sc__law_changed.nd rfl (.inl rfl) (pe_call FT hr (by rfl) gT kT bT .nil pass0 (pa_cons (pv 0) (pa_cons (pv 1) pa_nil))))
          (pss_cons (ps_for PassesOwn.never rfl (pi_list (pv 2)) (pg_name (i := 4) sc__law_changed.nd rfl (.inl rfl))
            (pss_cons (ps_set (i := 5) sc__law_changed.nd rfl (.inl rfl) (pe_ix ix_list (pv 3) (pe_ix ix_tup (pv 4) pe_int (fun _ _ => rfl)) (fun _ _ => rfl)))
              (pss_one (ps_asg (pe_op op_add (pe_ix ix_list (pv 5) (pe_ix ix_tup (pv 4) pe_int (fun _ _ => rfl)) (fun _ _ => rfl)) (pe_ix ix_tup (pv 4) pe_int (fun _ _ => rfl))) (pg_sub (pv 5) (pe_ix ix_tup (pv 4) pe_int (fun _ _ => rfl)) set_list)))))
          (pss_one (ps_ret (pe_call FR hr (by rfl) gR kR bR .nil pass0 (pa_cons (pv 0) (pa_cons (pv 1) (pa_cons (pv 3) pa_nil))))))), ?_⟩
        obtain ⟨C, hC⟩ : ∃ C, C = cfg P w K mg base A := ⟨_, rfl⟩
        rw [← hC] at hv k hra ⊢
        obtain ⟨v0, v1, v2, rfl, r0, r1, r2⟩ := hra.inv3
        have r01 : RepAll C.K (hide O H) [v0, v1] [.lst (gs.map gD), .lst (us.map uD)] := .cons r0 (.cons r1 .nil)
        cases r2 with
        | @lst c cv _ hc0 hcr =>
        have nF : ∀ {a}, ¬ O a → ¬ C.F a := fun n z => n (hv.sub _ z)
        refine ⟨v0, rfl, v1, rfl, O, gs, us, m, hv, r01, lg, lu, fun t ras H1 e1 w1 T1 => ?_⟩
        have ntO : ¬ O t := fun z => hv.dom t z T1.t0
        have hc1 : ∀ H2, Ext C.F H H2 → SqL K H2 c cv := fun H2 e => SqL.of (e _ _ (hide_some.mp hc0).2 (nF (hide_some.mp hc0).1))
        refine ⟨.ref c, rfl, c, rfl, ⟨cv, hc1 _ e1⟩, for_list (xs := cv) (fun i σ H2 => ∃ y4 y5 rows, σ = [some v0, some v1, some (.ref c), some (.ref t), y4, y5] ∧ Ext C.F H H2 ∧ C.WR H2 m ∧ TabAt H H2 t ras rows ∧ applyL (chs.drop i) (rowsD rows) = some rows')
          ⟨_, _, _, rfl, e1, w1, T1, ha⟩ (fun i σ H2 _ q => by obtain ⟨_, _, _, _, e, _⟩ := q; exact hc1 _ e) (fun i x σ H2 hx q => ?_) (fun σ H2 q => ?_)⟩
        · obtain ⟨y4, y5, rows, rfl, e2, w2, T, hap⟩ := q
          obtain ⟨d, hd, rx⟩ := hcr.get' hx
          have hi : i < chs.length := getlt hd
          rw [List.getElem?_eq_getElem hi] at hd
          rw [List.drop_eq_getElem_cons hi, Option.some.inj hd] at hap
          obtain ⟨ci, cj, cx, a, b, r', v, rfl, h1, h2, h3, h4, h5⟩ := apply_step hap
          cases rx with
          | @tup ca cw _ ht0 htr =>
          obtain ⟨x1, x2, x3, rfl, p1, p2, p3⟩ := htr.inv3
          have q1 := p1.val_int; subst q1
          have q2 := p2.val_int; subst q2
          have q3 := p3.val_int; subst q3
          have hca : H2 ca = some (.tup [.int ci, .int cj, .int cx]) := e2 _ _ (hide_some.mp ht0).2 (nF (hide_some.mp ht0).1)
          obtain ⟨ra, hra1, hra2⟩ := T.some h2
          have it0 : atI (ras.map V.ref) ci = some (.ref ra) := by
            unfold atI
            rw [List.length_map, T.len, h1]
            simp [hra1]
          have it1 : atI (r'.map V.int) cj = some (.int v) := by
            unfold atI
            rw [List.length_map, h3]
            simp [h4]
          refine ⟨.ref t, rfl, .ref ca, rfl, ca, _, 0, .int ci, rfl, rfl, SqT.of hca, ix0 _ _, t, _, ci, .ref ra, rfl, rfl, SqL.of T.tab, it0, ?_⟩
          refine ⟨.ref ra, rfl, .ref ca, rfl, ca, _, 1, .int cj, rfl, rfl, SqT.of hca, ix1 _ _ _, ra, _, cj, .int v, rfl, rfl, SqL.of hra2, it1, ?_⟩
          refine ⟨.ref ca, rfl, ca, _, 2, .int cx, rfl, rfl, SqT.of hca, ix2 _ _ _ _, v, cx, rfl, rfl, ?_⟩
          refine ⟨.ref ra, rfl, .ref ca, rfl, ca, _, 1, .int cj, rfl, rfl, SqT.of hca, ix1 _ _ _, ra, _, cj, b, rfl, rfl, hra2, by rw [List.length_map]; exact h3, ?_⟩
          have mra := List.mem_of_getElem? hra1
          have raN := T.new ra mra
          have raF : ¬ C.F ra := fun z => hv.dom ra (hv.sub _ z) raN
          rw [show (r'.map V.int).set b (.int (v + cx)) = (r'.set b (v + cx)).map V.int by rw [List.map_set]]
          refine ⟨_, _, rows.set a (r'.set b (v + cx)), rfl, fun q o g1 g2 => ?_, C.loc H2 _ m (fun q hf => upd_ne fun z => raF (z ▸ hf)) w2, T.set hra1 _, h5⟩
          rw [upd_ne (ne_of_none g1 raN)]
          exact e2 _ _ g1 g2
        · obtain ⟨y4, y5, rows, rfl, e2, w2, T, hap⟩ := q
          have lc : cv.length = chs.length := hcr.length
          rw [List.drop_of_length_le (by omega)] at hap
          simp only [applyL, Option.some.injEq] at hap
          subst hap
          have g : Same (hide O H) (hide O H2) := e2.hide hv.sub
          have v2 : Vw C O H2 m := hv.ext e2 w2
          have rasO : ∀ a ∈ ras, ¬ O a := fun a h z => hv.dom a z (T.new a h)
          have rt : Rep C.K (hide O H2) (.ref t) (.lst (rowsD rows)) := by
            refine .lst (hide_some.mpr ⟨ntO, T.tab⟩) (RepAll.of_get (by simp [rowsD, T.len]) fun i v d f1 f2 => ?_)
            rw [List.getElem?_map] at f1
            obtain ⟨a, f3, rfl⟩ := Option.map_eq_some_iff.mp f1
            simp only [rowsD, List.getElem?_map] at f2
            obtain ⟨r', f4, rfl⟩ := Option.map_eq_some_iff.mp f2
            exact .lst (hide_some.mpr ⟨rasO a (List.mem_of_getElem? f3), T.row i a r' f3 f4⟩) (RepAll.of_ints r')
          refine ⟨v0, rfl, v1, rfl, .ref t, rfl, O, [.lst (gs.map gD), .lst (us.map uD), .lst (rowsD rows)], m, r, m', v2, .cons (r0.mono (RLe.of g)) (.cons (r1.mono (RLe.of g)) (.cons rt .nil)), he, fun v H' p => k v H' (p.back e2 v2 fun a z => e2.none w2 z)⟩
      · cases he
    · cases he
end K50

set_option Elab.async false
set_option linter.all false
set_option maxRecDepth 100000
set_option maxHeartbeats 4000000
namespace K50
open PySem PySem.Spec PyProof.Rows L2 Ev
/-! _law_beside in plain -/
theorem cut_hi (l : List D) {k : Nat} (h : k ≤ l.length) : Ev.cutD l none (some (k : Int)) = l.take k := by
  simp only [Ev.cutD, HT.sIx_none, HT.sIx_nat, List.drop_zero, Nat.sub_zero, Nat.min_eq_left h]
theorem cut_lo (l : List D) {k : Nat} (h : k ≤ l.length) : Ev.cutD l (some (k : Int)) none = l.drop k := by
  simp only [Ev.cutD, HT.sIx_none, HT.sIx_nat, Nat.min_eq_left h]
  exact List.take_of_length_le (by rw [List.length_drop]; exact Nat.le_refl _)
theorem part_hi (l : List D) {k : Nat} (h : k ≤ l.length) : partS false true [.lst l, .int (k : Int)] = some (.own (.lst (l.take k))) := by
  show some (R.own (.lst (Ev.cutD l none (some (k : Int))))) = _
  rw [cut_hi l h]
theorem part_lo (l : List D) {k : Nat} (h : k ≤ l.length) : partS true false [.lst l, .int (k : Int)] = some (.own (.lst (l.drop k))) := by
  show some (R.own (.lst (Ev.cutD l (some (k : Int)) none))) = _
  rw [cut_lo l h]
def laterG (gs : List (Int × Int × Int)) (k : Nat) (day : Int) : List (Int × Int × Int) := gs.take k ++ (gs.drop k).map fun g => (g.1, max day g.2.1, g.2.2)
theorem later_ok {gs : List (Int × Int × Int)} (h : GsOk gs) (k : Nat) (day : Int) : GsOk (laterG gs k day) := by
  have hsplit := List.take_append_drop k gs
  obtain ⟨h1, h2, h3⟩ := h
  rw [← hsplit] at h1 h2 h3
  rw [List.map_append] at h1
  refine ⟨by rw [laterG, List.map_append, List.map_map]; exact h1, ?_, fun g hg => ?_⟩
  · rw [laterG]
    rw [List.pairwise_append] at h2 ⊢
    refine ⟨h2.1, ?_, fun a ha b hb => ?_⟩
    · rw [List.pairwise_map]
      exact h2.2.1.imp fun {a b} z => by
        show max day a.2.1 ≤ max day b.2.1
        omega
    · obtain ⟨c, hc, rfl⟩ := List.mem_map.mp hb
      have := h2.2.2 a ha c hc
      show a.2.1 ≤ max day c.2.1
      omega
  · rcases List.mem_append.mp hg with z | z
    · exact h3 g (List.mem_append_left _ z)
    · obtain ⟨c, hc, rfl⟩ := List.mem_map.mp z
      exact h3 c (List.mem_append_right _ hc)
theorem fewer_ok {gs : List (Int × Int × Int)} (h : GsOk gs) {k : Nat} {g : Int × Int × Int} (hk : gs[k]? = some g) {c : Int} (hc : 0 < c) : GsOk (gs.take k ++ [(g.1, g.2.1, c)] ++ gs.drop (k + 1)) := by
  have hi := getlt hk
  have hs : gs = gs.take k ++ [g] ++ gs.drop (k + 1) := by
    rw [List.append_assoc, List.singleton_append]
    have : gs[k] = g := by rw [List.getElem?_eq_getElem hi] at hk; exact Option.some.inj hk
    rw [← this, ← List.drop_eq_getElem_cons hi, List.take_append_drop]
  obtain ⟨h1, h2, h3⟩ := h
  rw [hs] at h1 h2 h3
  refine ⟨by simpa using h1, ?_, fun a ha => ?_⟩
  · simp only [List.pairwise_append, List.append_assoc, List.singleton_append, List.pairwise_cons, List.mem_cons] at h2 ⊢
    refine ⟨h2.1, ⟨fun b hb => h2.2.1.1 b hb, h2.2.1.2⟩, fun a ha b hb => ?_⟩
    rcases hb with rfl | hb
    · exact h2.2.2 a ha g (.inl rfl)
    · exact h2.2.2 a ha b (.inr hb)
  · rcases List.mem_append.mp ha with z | z
    · rcases List.mem_append.mp z with z | z
      · exact h3 a (List.mem_append_left _ (List.mem_append_left _ z))
      · simp at z; subst z; exact hc
    · exact h3 a (List.mem_append_right _ z)
theorem stair_len (gs : List (Int × Int × Int)) (us : List (D × Int × Int)) (hg : gs.length ≤ 30) (hul : us.length ≤ 30) : (stair gs us).length ≤ 1000 := by
  have := cellsT_len us.length (lapF gs us) gs.length
  have h5 : gs.length * us.length ≤ 30 * 30 := Nat.mul_le_mul hg hul
  unfold stair
  omega
theorem beside_ok {A : BA} (hA : AOk A) {m : Bag} (hm : BOk m) {gs : List (Int × Int × Int)} (hgs : GsOk gs) {us : List (D × Int × Int)} (hu : UK us) (hg : gs.length ≤ 30) (hul : us.length ≤ 30) (h0 : stair gs us ≠ []) {rs : List Row} (rl : rs.length ≤ 1000000) (hx : ∀ r ∈ rs, KeyR r.2.1) :
    ∃ m', f__law_beside A [.ref A.ab, .lst (gs.map gD), .lst (us.map uD), .lst (rs.map rD)] m = some (.val (.bl true), m') ∧ BOk m' := by
  have hc := lcells_ok gs us (by omega) (by omega) m
  have hlen := stair_len gs us hg hul
  obtain ⟨cs, hcs⟩ : ∃ cs, cs = stair gs us := ⟨_, rfl⟩
  have hin := stair_in gs us
  rw [← hcs] at hc hin h0 hlen
  have h0' : 0 < cs.length := List.length_pos_iff.mpr h0
  obtain ⟨last, hl⟩ : ∃ l, cs.getLast? = some l := by
    cases h : cs.getLast? with
    | some l => exact ⟨l, rfl⟩
    | none => rw [List.getLast?_eq_none_iff] at h; exact absurd h h0
  have ml := List.mem_of_getLast? hl
  obtain ⟨i1, i2⟩ := hin last ml
  have y2 : atI (cs.map c2D) (-1) = some (c2D last) := by rw [ixl, List.getLast?_map, hl]; rfl
  obtain ⟨r1, m1, d1, a1, a2, b1⟩ := draw_ok hA hm (size := (cs.length : Int)) (by omega) (by omega)
  obtain ⟨c, x1, x2⟩ := atI_in (l := cs) a1 a2
  have y1 : atI (cs.map c2D) r1 = some (c2D c) := by
    have e : r1 = (r1.toNat : Int) := by omega
    rw [e, ixn, List.getElem?_map, x2]; rfl
  obtain ⟨j1, j2⟩ := hin c (List.mem_of_getElem? x2)
  obtain ⟨u, hu1⟩ : ∃ u, us[c.2.1]? = some u := ⟨_, List.getElem?_eq_getElem j2⟩
  have y3 : atI (us.map uD) (c.2.1 : Int) = some (uD u) := by rw [ixn, List.getElem?_map, hu1]; rfl
  obtain ⟨g, hg1⟩ : ∃ g, gs[last.1]? = some g := ⟨_, List.getElem?_eq_getElem i1⟩
  have y4 : atI (gs.map gD) (last.1 : Int) = some (gD g) := by rw [ixn, List.getElem?_map, hg1]; rfl
  obtain ⟨day, hday⟩ : ∃ day, day = min 9999 (u.2.1 + 1) := ⟨_, rfl⟩
  have mn : minS [.int 9999, .int (u.2.1 + 1)] = some (.val (.int day)) := by rw [minS_ok, hday]
  have ad : ∀ i j : Int, addS [.int i, .int j] = some (.val (.int (i + j))) := fun _ _ => rfl
  have key : ∀ (sl : List SV) (m : Bag), sl[1]? = some (.val (.lst (gs.map gD))) → sl[5]? = some (.val (c2D c)) → sl[6]? = some (.val (.int day)) → 11 < sl.length → ev [] (e__law_beside_1 A) sl m = some (.own (.lst (((gs.drop c.1).map fun g => (g.1, max day g.2.1, g.2.2)).map gD)), m) := fun sl m hs1 hs5 hs6 hl11 => by
    have sl1 : partS true false [.lst (gs.map gD), .int (c.1 : Int)] = some (.own (.lst ((gs.drop c.1).map gD))) := by
      rw [part_lo _ (by rw [List.length_map]; omega), List.map_drop]
    have := ev_comp_pure (use := []) (own := [("gift", 11)]) (it := itList) (ix := .cons (.app (slR true false) (.cons (.var 1) (.cons (.app ixR (.cons (.var 5) (.cons (.con (.int 0)) .nil))) .nil))) .nil) (tg := .nm 11) (cs := .nil)
      (elt := .app tupR (.cons (.app ixR (.cons (.var 11) (.cons (.con (.int 0)) .nil))) (.cons (.app (bltR "max" maxS) (.cons (.var 6) (.cons (.app ixR (.cons (.var 11) (.cons (.con (.int 1)) .nil))) .nil))) (.cons (.app ixR (.cons (.var 11) (.cons (.con (.int 2)) .nil))) .nil)))) (sl := sl) (m := m) (ds := [.lst ((gs.drop c.1).map gD)]) (as := gs.drop c.1) gD (fun g => gD (g.1, max day g.2.1, g.2.2)) (fun _ => true) (by simp [evs, ev, look, R.d, slR, ixR, lift, hs1, hs5, c2D, ixS_tup, ix0, sl1]) rfl (by rw [List.length_drop]; omega) (fun g _ => ⟨_, rfl, rfl, fun _ => ⟨.val (gD (g.1, max day g.2.1, g.2.2)), by
        have mx : maxS [.int day, .int g.2.1] = some (.val (.int (max day g.2.1))) := maxS_ok _ _
        simp [evs, ev, look, R.d, ixR, tupR, bltR, lift, wipeS, hl11, hs6, ixS_tup, gD, ix0, ix1, ix2, mx], rfl⟩⟩)
    rw [filt] at this
    rw [List.map_map]
    exact this
  have sl0 : partS false true [.lst (gs.map gD), .int (c.1 : Int)] = some (.own (.lst ((gs.take c.1).map gD))) := by
    rw [part_hi _ (by rw [List.length_map]; omega), List.map_take]
  have adL : addS [.lst ((gs.take c.1).map gD), .lst (((gs.drop c.1).map fun g => (g.1, max day g.2.1, g.2.2)).map gD)] = some (.own (.lst ((laterG gs c.1 day).map gD))) := by
    rw [addL (by simp; omega), laterG, List.map_append]
  have lg1 : (laterG gs c.1 day).length ≤ 1000 := by simp [laterG]; omega
  have as1 : ∀ m, f__law_asked [.lst ((laterG gs c.1 day).map gD), .lst (us.map uD), .lst (rs.map rD)] m = some (.val (.bl true), m) := fun m => asked_ok (later_ok hgs _ _) hu.ok lg1 (by omega) rl hu.key hx m
  have sl2 : partS false true [.lst (gs.map gD), .int (last.1 : Int)] = some (.own (.lst ((gs.take last.1).map gD))) := by
    rw [part_hi _ (by rw [List.length_map]; omega), List.map_take]
  have sl3 : partS true false [.lst (gs.map gD), .int ((last.1 : Int) + 1)] = some (.own (.lst ((gs.drop (last.1 + 1)).map gD))) := by
    have e : (last.1 : Int) + 1 = ((last.1 + 1 : Nat) : Int) := by omega
    rw [e, part_lo _ (by rw [List.length_map]; omega), List.map_drop]
  have sb : subS [.int g.2.2, .int 1] = some (.val (.int (g.2.2 - 1))) := rfl
  have ad1 : addS [.lst ((gs.take last.1).map gD), .lst [gD (g.1, g.2.1, g.2.2 - 1)]] = some (.own (.lst ((gs.take last.1 ++ [(g.1, g.2.1, g.2.2 - 1)]).map gD))) := by
    rw [addL (by simp; omega), List.map_append]; rfl
  have ad2 : addS [.lst ((gs.take last.1 ++ [(g.1, g.2.1, g.2.2 - 1)]).map gD), .lst ((gs.drop (last.1 + 1)).map gD)] = some (.own (.lst ((gs.take last.1 ++ [(g.1, g.2.1, g.2.2 - 1)] ++ gs.drop (last.1 + 1)).map gD))) := by
    rw [addL (by simp; omega), List.map_append (l₂ := gs.drop (last.1 + 1))]
  have gDe : D.tup [.int g.1, .int g.2.1, .int (g.2.2 - 1)] = gD (g.1, g.2.1, g.2.2 - 1) := rfl
  have lt1 : ltS (.int g.2.2) (.int 2) = some (decide (g.2.2 < 2)) := rfl
  have c0 : ixS [c2D c, .int 0] = some (.val (.int c.1)) := rfl
  have c1 : ixS [c2D c, .int 1] = some (.val (.int c.2.1)) := rfl
  have l0 : ixS [c2D last, .int 0] = some (.val (.int last.1)) := rfl
  have u1 : ixS [uD u, .int 1] = some (.val (.int u.2.1)) := rfl
  have g0' : ixS [gD g, .int 0] = some (.val (.int g.1)) := rfl
  have g1' : ixS [gD g, .int 1] = some (.val (.int g.2.1)) := rfl
  have g2' : ixS [gD g, .int 2] = some (.val (.int g.2.2)) := rfl
  have as2 : ¬ g.2.2 < 2 → ∀ m, f__law_asked [.lst ((gs.take last.1 ++ [(g.1, g.2.1, g.2.2 - 1)] ++ gs.drop (last.1 + 1)).map gD), .lst (us.map uD), .lst (rs.map rD)] m = some (.val (.bl true), m) := fun h2 m => asked_ok (fewer_ok hgs hg1 (by omega)) hu.ok (by simp; omega) (by omega) rl hu.key hx m
  obtain ⟨T1, hT1⟩ : ∃ T, T = gs.take c.1 := ⟨_, rfl⟩
  obtain ⟨T2, hT2⟩ : ∃ T, T = (gs.drop c.1).map fun g => (g.1, max day g.2.1, g.2.2) := ⟨_, rfl⟩
  obtain ⟨T6, hT6⟩ : ∃ T, T = gs.take last.1 ++ [(g.1, g.2.1, g.2.2 - 1)] ++ gs.drop (last.1 + 1) := ⟨_, rfl⟩
  obtain ⟨T5, hT5⟩ : ∃ T, T = gs.take last.1 ++ [(g.1, g.2.1, g.2.2 - 1)] := ⟨_, rfl⟩
  obtain ⟨T3, hT3⟩ : ∃ T, T = gs.take last.1 := ⟨_, rfl⟩
  obtain ⟨T4, hT4⟩ : ∃ T, T = gs.drop (last.1 + 1) := ⟨_, rfl⟩
  simp only [← hT6] at as2 ad2
  simp only [← hT5] at ad1 ad2
  simp only [← hT1, ← hT2] at sl0 adL key
  simp only [← hT3] at sl2 ad1
  simp only [← hT4] at sl3 ad2
  clear hT1 hT2 hT3 hT4 hT5 hT6
  refine ⟨m1, ?_, b1⟩
  by_cases h2 : g.2.2 < 2
  · rw [decide_eq_true h2] at lt1
    simp [f__law_beside, b__law_beside, evF, evSs, evS, evs, evOr, ev, evB, look, commit, R.d, R.kp, R.imm, R.sv, bltR, binR, unR, ixR, tupR, lstR, slR, callR, lift, lenS, negS, hc, d1, y1, y2, y3, y4, ixS_lst, c0, c1, l0, u1, g0', g1', g2', ad, mn, key, sl0, adL, as1, sl2, sl3, sb, gDe, ad1, ad2, lt1]
  · rw [decide_eq_false h2] at lt1
    have as3 := as2 h2
    simp [f__law_beside, b__law_beside, evF, evSs, evS, evs, evOr, ev, evB, look, commit, R.d, R.kp, R.imm, R.sv, bltR, binR, unR, ixR, tupR, lstR, slR, callR, lift, lenS, negS, hc, d1, y1, y2, y3, y4, ixS_lst, c0, c1, l0, u1, g0', g1', g2', ad, mn, key, sl0, adL, as1, sl2, sl3, sb, gDe, ad1, ad2, lt1, as3]
end K50

set_option Elab.async false
set_option linter.all false
set_option maxRecDepth 100000
set_option maxHeartbeats 4000000
namespace K50
open PySem PySem.Spec PyProof.Rows L2 Ev
/-! _law_first, _law_second in plain -/
theorem rows_key {gs : List (Int × Int × Int)} {us : List (D × Int × Int)} {rs : List Row} (hu : UK us) (h : CellsOf gs us rs (stair gs us)) : ∀ r ∈ rs, KeyOk r.2.1 ∧ ∀ i, r.2.1 = .int i → -1 ≤ i ∧ i ≤ 3000000 := fun r hr => by
  obtain ⟨n, hn', e⟩ := List.mem_iff_getElem.mp hr
  have hl := (cells_len h).1
  obtain ⟨_, ⟨u, e1, e2⟩, _⟩ := h.get n r ((stair gs us)[n]'(by omega)) (by rw [List.getElem?_eq_getElem hn', e]) (List.getElem?_eq_getElem _)
  rw [← e2]
  exact ⟨hu.key u (List.mem_of_getElem? e1), hu.int u (List.mem_of_getElem? e1)⟩
theorem last_ok {gs : List (Int × Int × Int)} (h : GsOk gs) {g : Int × Int × Int} (hl : gs.getLast? = some g) {c : Int} (hc : 0 < c) : GsOk (gs.dropLast ++ [(g.1, g.2.1, c)]) := by
  have hk : gs[gs.length - 1]? = some g := by rw [← List.getLast?_eq_getElem?]; exact hl
  have := fewer_ok h hk hc
  have hi := getlt hk
  rw [show gs.length - 1 + 1 = gs.length by omega, List.drop_length, List.append_nil, ← List.dropLast_eq_take] at this
  exact this
theorem cut_neg (l : List D) : Ev.cutD l none (some (-1)) = l.dropLast := by
  have h1 : HT.sIx l.length l.length (some (-1)) = l.length - 1 := by
    unfold HT.sIx
    simp
    try omega
  simp only [Ev.cutD, HT.sIx_none, h1, List.drop_zero, Nat.sub_zero, List.dropLast_eq_take]
theorem paper_of {rs : List Row} (h1 : rs.length ≤ 20002) (h2 : ∀ r ∈ rs, KeyR r.2.1) : PaperOk 20002 (.lst (rs.map rD)) := ⟨rs, rfl, h1, h2⟩
theorem asked_paper {gs : List (Int × Int × Int)} {us : List (D × Int × Int)} {p : D} (hg : GsOk gs) (hu : UK us) (lg : gs.length ≤ 1000) (lu : us.length ≤ 1000) (hp : PaperOk 20002 p) (m : Bag) : f__law_asked [.lst (gs.map gD), .lst (us.map uD), p] m = some (.val (.bl true), m) := by
  obtain ⟨rs, rfl, h1, h2⟩ := hp
  exact asked_ok hg hu.ok lg lu (by omega) hu.key h2 m
theorem first_ok {A : BA} (hA : AOk A) {m : Bag} (hm : BOk m) {gs : List (Int × Int × Int)} (hgs : GsOk gs) {us : List (D × Int × Int)} (hu : UK us) (hg : gs.length ≤ 40) (hul : us.length ≤ 40) :
    ∃ m', f__law_first A [.ref A.ab, .lst (gs.map gD), .lst (us.map uD)] m = some (.val (.bl true), m') ∧ BOk m' := by
  obtain ⟨rs, hr1, hr2⟩ := rows_ok gs us (by omega) (by omega) m
  obtain ⟨o, ho1, _⟩ := outrun_ok gs us (by omega) (by omega) m
  have hrk := rows_key hu hr2
  have hrl : rs.length ≤ 2000 := by
    have := (cells_len hr2).1
    have := cellsT_len us.length (lapF gs us) gs.length
    have h5 : gs.length * us.length ≤ 40 * 40 := Nat.mul_le_mul hg hul
    unfold stair at *
    omega
  have prs : PaperOk 20002 (.lst (rs.map rD)) := paper_of (by omega) fun r hr => (hrk r hr).1.r
  have pnil : PaperOk 20002 (.lst []) := paper_of (rs := []) (by simp) (by simp)
  have a1 := fun m => asked_paper (gs := gs) (us := us) hgs hu (by omega) (by omega) prs m
  have a2 := fun m => asked_paper (gs := gs) (us := us) hgs hu (by omega) (by omega) pnil m
  have g1 : gtS (.int (gs.length : Int)) (.int 6) = some (decide (6 < (gs.length : Int))) := rfl
  have g2 : gtS (.int (us.length : Int)) (.int 6) = some (decide (6 < (us.length : Int))) := rfl
  have g3 : gtS (.int (rs.length : Int)) (.int 1) = some (decide (1 < (rs.length : Int))) := rfl
  have sb : ∀ i j : Int, subS [.int i, .int j] = some (.val (.int (i - j))) := fun _ _ => rfl
  have ad : ∀ i j : Int, addS [.int i, .int j] = some (.val (.int (i + j))) := fun _ _ => rfl
  have big : ∀ b1 b2 : Bool, (b1 = true ∨ b2 = true) → gtS (.int (gs.length : Int)) (.int 6) = some b1 → gtS (.int (us.length : Int)) (.int 6) = some b2 → ∃ m', f__law_first A [.ref A.ab, .lst (gs.map gD), .lst (us.map uD)] m = some (.val (.bl true), m') ∧ BOk m' := fun b1 b2 hb q1 q2 => by
    by_cases h1 : 1 < (rs.length : Int)
    · rw [decide_eq_true h1] at g3
      obtain ⟨r1, m1, d1, _, _, b1'⟩ := draw_ok hA hm (size := 2) (by decide) (by decide)
      obtain ⟨k, hk⟩ : ∃ k, eqS (.int r1) (.int 1) = some k := ⟨_, rfl⟩
      cases k with
      | false =>
        refine ⟨m1, ?_, b1'⟩
        cases b1 <;> cases b2 <;> first | (simp at hb; done) | simp [f__law_first, b__law_first, evF, evSs, evS, evs, evOr, evAnd, ev, evB, look, commit, R.d, R.kp, R.imm, R.sv, bltR, callR, lift, lenS, hr1, ho1, q1, q2, g3, d1, hk, a1]
      | true =>
        obtain ⟨r2, m2, d2, a3, a4, b2'⟩ := draw_ok hA b1' (size := (rs.length : Int) - 1) (by omega) (by omega)
        obtain ⟨t0, t1, t2⟩ := atI_in (l := rs) a3 (by omega)
        obtain ⟨v0, v1, v2⟩ := atI_in (l := rs) (i := r2 + 1) (by omega) (by omega)
        have y3 : atI (rs.map rD) r2 = some (rD t0) := by
          have e : r2 = (r2.toNat : Int) := by omega
          rw [e, ixn, List.getElem?_map, t2]; rfl
        have y4 : atI (rs.map rD) (r2 + 1) = some (rD v0) := by
          have e : r2 + 1 = ((r2 + 1).toNat : Int) := by omega
          rw [e, ixn, List.getElem?_map, v2]; rfl
        obtain ⟨A2, c4, l4, k4⟩ := cut_rows rs none (some r2)
        obtain ⟨B2, c5, l5, k5⟩ := cut_rows rs (some (r2 + 2)) none
        have s4 : partS false true [.lst (rs.map rD), .int r2] = some (.own (.lst (A2.map rD))) := by rw [← c4]; rfl
        have s5 : partS true false [.lst (rs.map rD), .int (r2 + 2)] = some (.own (.lst (B2.map rD))) := by rw [← c5]; rfl
        have adD : addS [.lst (A2.map rD), .lst [rD v0, rD t0]] = some (.own (.lst (A2.map rD ++ [rD v0, rD t0]))) := addL (by simp; omega)
        have adD2 : addS [.lst (A2.map rD ++ [rD v0, rD t0]), .lst (B2.map rD)] = some (.own (.lst (A2.map rD ++ [rD v0, rD t0] ++ B2.map rD))) := addL (by simp; omega)
        have pD2 : PaperOk 20002 (.lst (A2.map rD ++ [rD v0, rD t0] ++ B2.map rD)) := by
          have : A2.map rD ++ [rD v0, rD t0] ++ B2.map rD = (A2 ++ [v0, t0] ++ B2).map rD := by simp
          rw [this]
          exact paper_of (by simp; omega) fun r hr => by
            rcases List.mem_append.mp hr with z | z
            · rcases List.mem_append.mp z with z | z
              · exact (hrk r (k4 r z)).1.r
              · simp at z
                rcases z with rfl | rfl
                · exact (hrk _ (List.mem_of_getElem? v2)).1.r
                · exact (hrk _ (List.mem_of_getElem? t2)).1.r
            · exact (hrk r (k5 r z)).1.r
        have a5 := fun m => asked_paper (gs := gs) (us := us) hgs hu (by omega) (by omega) pD2 m
        obtain ⟨L6, hL6⟩ : ∃ L, L = A2.map rD ++ [rD v0, rD t0] ++ B2.map rD := ⟨_, rfl⟩
        obtain ⟨L5, hL5⟩ : ∃ L, L = A2.map rD ++ [rD v0, rD t0] := ⟨_, rfl⟩
        simp only [← hL6] at a5 adD2
        simp only [← hL5] at adD adD2
        clear hL5 hL6
        refine ⟨m2, ?_, b2'⟩
        cases b1 <;> cases b2 <;> first | (simp at hb; done) | simp [f__law_first, b__law_first, evF, evSs, evS, evs, evOr, evAnd, ev, evB, look, commit, R.d, R.kp, R.imm, R.sv, bltR, binR, slR, ixR, lstR, callR, lift, lenS, hr1, ho1, q1, q2, g3, d1, hk, sb, d2, ad, s4, s5, ixS_lst, y3, y4, adD, adD2, a5]
    · rw [decide_eq_false h1] at g3
      refine ⟨m, ?_, hm⟩
      cases b1 <;> cases b2 <;> first | (simp at hb; done) | simp [f__law_first, b__law_first, evF, evSs, evS, evs, evOr, evAnd, ev, evB, look, commit, R.d, R.kp, R.imm, R.sv, bltR, callR, lift, lenS, hr1, ho1, q1, q2, g3, a1]
  by_cases h1 : 6 < (gs.length : Int)
  · exact big _ _ (.inl (decide_eq_true h1)) g1 g2
  by_cases h2 : 6 < (us.length : Int)
  · exact big _ _ (.inr (decide_eq_true h2)) g1 g2
  rw [decide_eq_false h1] at g1
  rw [decide_eq_false h2] at g2
  cases o with
  | none =>
    refine ⟨m, ?_, hm⟩
    have ho1' : f__law_outrun [.lst (gs.map gD), .lst (us.map uD)] m = some (.val .non, m) := ho1
    simp [f__law_first, b__law_first, evF, evSs, evS, evs, evOr, evAnd, ev, evB, look, commit, R.d, R.kp, R.imm, R.sv, bltR, lstR, callR, lift, lenS, hr1, ho1', g1, g2, a1, a2, isnS]
  | some ix =>
    have ho1' : f__law_outrun [.lst (gs.map gD), .lst (us.map uD)] m = some (.val (.int (ix : Int)), m) := ho1
    cases hgl : gs.getLast? with
    | none =>
      rw [List.getLast?_eq_none_iff] at hgl
      subst hgl
      refine ⟨m, ?_, hm⟩
      simp only [List.length_nil, List.map_nil, Int.ofNat_zero, Int.cast_ofNat_Int] at g1 ho1' hr1 a1 a2
      simp [f__law_first, b__law_first, evF, evSs, evS, evs, evOr, evAnd, ev, evB, look, commit, R.d, R.kp, R.imm, R.sv, bltR, lstR, callR, lift, lenS, hr1, ho1', g1, g2, a1, a2, isnS, eqS]
    | some last =>
      have mlast := List.mem_of_getLast? hgl
      have hpos := hgs.pos last mlast
      have gne : gs ≠ [] := fun z => by rw [z] at mlast; cases mlast
      have y2 : atI (gs.map gD) (-1) = some (gD last) := by rw [ixl, List.getLast?_map, hgl]; rfl
      have e0 : eqS (.int (gs.length : Int)) (.int 0) = some false := by
        have hne : ¬ ((gs.length : Int) = 0) := by
          have := List.length_pos_iff.mpr gne
          omega
        simp only [eqS, decide_eq_false hne]
      have k1 : ∀ (sl : List SV) (m : Bag), sl[1]? = some (.val (.lst (gs.map gD))) → 9 < sl.length → ev [] (e__law_first_1 A) sl m = some (.own (.lst (gs.map fun g => .int g.2.2)), m) := fun sl m hs hl => by
        have := ev_comp_pure (use := []) (own := [("gift", 9)]) (it := itList) (ix := .cons (.var 1) .nil) (tg := .nm 9) (cs := .nil) (elt := .app ixR (.cons (.var 9) (.cons (.con (.int 2)) .nil))) (sl := sl) (m := m) (ds := [.lst (gs.map gD)]) (as := gs) gD (fun g => D.int g.2.2) (fun _ => true) (by simp [evSs, evS, evs, evAnd, evOr, ev, evB, look, commit, R.d, R.kp, R.imm, R.sv, D.imm, D.imms, D.immC, setTg, setTs, bltR, binR, unR, ixR, tupR, lstR, dictTR, callR, slR, isiR, methR, lift, addS, subS, minS, maxS, modS, fdivS, mulS, negS, intS, wipeS, itList, itTup, itRng1, itRng2, mAppend, freeze, frz1, isnS, isnnS, hs]) rfl (by omega) (fun g _ => ⟨_, rfl, rfl, fun _ => ⟨.val (.int g.2.2), by simp [evSs, evS, evs, evAnd, evOr, ev, evB, look, commit, R.d, R.kp, R.imm, R.sv, D.imm, D.imms, D.immC, setTg, setTs, bltR, binR, unR, ixR, tupR, lstR, dictTR, callR, slR, isiR, methR, lift, addS, subS, minS, maxS, modS, fdivS, mulS, negS, intS, wipeS, itList, itTup, itRng1, itRng2, mAppend, freeze, frz1, isnS, isnnS, hl, ixS_tup, gD, ix2], rfl⟩⟩)
        rw [filt] at this
        exact this
      have k2 : ∀ (sl : List SV) (m : Bag), sl[2]? = some (.val (.lst (us.map uD))) → 8 < sl.length → ev [] (e__law_first_2 A) sl m = some (.own (.lst (us.map fun g => .int g.2.2)), m) := fun sl m hs hl => by
        have := ev_comp_pure (use := []) (own := [("use", 8)]) (it := itList) (ix := .cons (.var 2) .nil) (tg := .nm 8) (cs := .nil) (elt := .app ixR (.cons (.var 8) (.cons (.con (.int 2)) .nil))) (sl := sl) (m := m) (ds := [.lst (us.map uD)]) (as := us) uD (fun g => D.int g.2.2) (fun _ => true) (by simp [evSs, evS, evs, evAnd, evOr, ev, evB, look, commit, R.d, R.kp, R.imm, R.sv, D.imm, D.imms, D.immC, setTg, setTs, bltR, binR, unR, ixR, tupR, lstR, dictTR, callR, slR, isiR, methR, lift, addS, subS, minS, maxS, modS, fdivS, mulS, negS, intS, wipeS, itList, itTup, itRng1, itRng2, mAppend, freeze, frz1, isnS, isnnS, hs]) rfl (by omega) (fun g _ => ⟨_, rfl, rfl, fun _ => ⟨.val (.int g.2.2), by simp [evSs, evS, evs, evAnd, evOr, ev, evB, look, commit, R.d, R.kp, R.imm, R.sv, D.imm, D.imms, D.immC, setTg, setTs, bltR, binR, unR, ixR, tupR, lstR, dictTR, callR, slR, isiR, methR, lift, addS, subS, minS, maxS, modS, fdivS, mulS, negS, intS, wipeS, itList, itTup, itRng1, itRng2, mAppend, freeze, frz1, isnS, isnnS, hl, ixS_tup, uD, ix2], rfl⟩⟩)
        rw [filt] at this
        exact this
      have su : sumS [.lst (us.map fun g => .int g.2.2)] = some (.val (.int ((us.map fun g => g.2.2).sum))) := by
        simp only [sumS, ints_of]
      have sg : sumS [.lst (gs.map fun g => .int g.2.2)] = some (.val (.int ((gs.map fun g => g.2.2).sum))) := by
        simp only [sumS, ints_of]
      obtain ⟨more, hmore⟩ : ∃ more, more = max 0 ((us.map fun g => g.2.2).sum - (gs.map fun g => g.2.2).sum) := ⟨_, rfl⟩
      have mx : maxS [.int 0, .int ((us.map fun g => g.2.2).sum - (gs.map fun g => g.2.2).sum)] = some (.val (.int more)) := by rw [maxS_ok, hmore]
      have s3 : partS false true [.lst (gs.map gD), .int (-1)] = some (.own (.lst (gs.dropLast.map gD))) := by
        show some (R.own (.lst (Ev.cutD (gs.map gD) none (some (-1))))) = _
        rw [cut_neg, ← List.map_dropLast]
      have gDe : D.tup [.int last.1, .int last.2.1, .int (last.2.2 + more)] = gD (last.1, last.2.1, last.2.2 + more) := rfl
      have ad1 : addS [.lst (gs.dropLast.map gD), .lst [gD (last.1, last.2.1, last.2.2 + more)]] = some (.own (.lst ((gs.dropLast ++ [(last.1, last.2.1, last.2.2 + more)]).map gD))) := by
        rw [addL (by simp; omega), List.map_append]; rfl
      obtain ⟨rs2, hr3, hr4⟩ := rows_ok (gs.dropLast ++ [(last.1, last.2.1, last.2.2 + more)]) us (by simp; omega) (by omega) m
      have hrk2 := rows_key hu hr4
      have hrl2 : rs2.length ≤ 2000 := by
        have q1 := (cells_len hr4).1
        have q2 := cellsT_len us.length (lapF (gs.dropLast ++ [(last.1, last.2.1, last.2.2 + more)]) us) (gs.dropLast ++ [(last.1, last.2.1, last.2.2 + more)]).length
        have q3 : (gs.dropLast ++ [(last.1, last.2.1, last.2.2 + more)]).length ≤ 41 := by simp; omega
        have h5 := Nat.mul_le_mul q3 hul
        unfold stair at q1
        omega
      have a3 := fun m => asked_paper (gs := gs) (us := us) hgs hu (by omega) (by omega) (paper_of (rs := rs2) (by omega) fun r hr => (hrk2 r hr).1.r) m
      have l0 : ixS [gD last, .int 0] = some (.val (.int last.1)) := rfl
      have l1 : ixS [gD last, .int 1] = some (.val (.int last.2.1)) := rfl
      have l2 : ixS [gD last, .int 2] = some (.val (.int last.2.2)) := rfl
      obtain ⟨T2, hT2⟩ : ∃ T, T = gs.dropLast ++ [(last.1, last.2.1, last.2.2 + more)] := ⟨_, rfl⟩
      obtain ⟨T1, hT1⟩ : ∃ T, T = gs.dropLast := ⟨_, rfl⟩
      simp only [← hT2] at ad1 hr3
      simp only [← hT1] at ad1 s3
      refine ⟨m, ?_, hm⟩
      simp [f__law_first, b__law_first, evF, evSs, evS, evs, evOr, evAnd, ev, evB, look, commit, R.d, R.kp, R.imm, R.sv, bltR, binR, unR, ixR, tupR, lstR, slR, callR, lift, lenS, negS, hr1, ho1', g1, g2, a1, a2, isnS, e0, ixS_lst, y2, l0, l1, l2, k1, k2, su, sg, sb, mx, s3, ad, gDe, ad1, hr3, a3]
end K50

set_option Elab.async false
set_option linter.all false
set_option maxRecDepth 100000
set_option maxHeartbeats 4000000
namespace K50
open PySem PySem.Spec PyProof.Rows L2 Ev
theorem stair_ne {gs : List (Int × Int × Int)} {us : List (D × Int × Int)} (hg : GsOk gs) (hu : UsOk us) (h : NoOutrun gs us) (u0 : 0 < us.length) : stair gs us ≠ [] := fun z => by
  have t := stair_trace hg hu h
  have q := TraceOk.q (gs := gs) (us := us) (cs := stair gs us) (fun c hc => by
    rw [z] at hc; cases hc) t
  rw [z] at q
  cases us with
  | nil => simp at u0
  | cons u us =>
    have hp := hu.pos u List.mem_cons_self
    have hs := q.fil 0 u.2.2 (by simp)
    have h0 : sumJ ([] : List Cell) (0 + 0) = 0 := rfl
    rw [h0] at hs
    omega
theorem second_ok {A : BA} (hA : AOk A) {m : Bag} (hm : BOk m) {gs : List (Int × Int × Int)} (hgs : GsOk gs) {us : List (D × Int × Int)} (hu : UK us) (hg : gs.length ≤ 30) (hul : us.length ≤ 30) (g0 : 0 < gs.length) (u0 : 0 < us.length) (hno : NoOutrun gs us) :
    ∃ m', f__law_second A [.ref A.ab, .lst (gs.map gD), .lst (us.map uD)] m = some (.val (.bl true), m') := by
  obtain ⟨rs, hr1, hr2⟩ := rows_ok gs us (by omega) (by omega) m
  have hrk := rows_key hu hr2
  have h0 := stair_ne hgs hu.ok hno u0
  have hsl := stair_len gs us hg hul
  have hrl := (cells_len hr2).1
  have r0 : 0 < rs.length := by
    have := List.length_pos_iff.mpr h0
    omega
  have prs : PaperOk 20002 (.lst (rs.map rD)) := paper_of (by omega) fun r hr => (hrk r hr).1.r
  have a1 := fun m => asked_paper (gs := gs) (us := us) hgs hu (by omega) (by omega) prs m
  obtain ⟨ps, m1, hp1, hp2, hp3, b1⟩ := row_papers_ok hA hm gs hu (by omega) (by omega) g0 u0 rs r0 (by omega) hrk
  obtain ⟨qs, hq1, hq2, hq3⟩ := sum_papers_ok gs hu hg hul h0 m1
  have ad : addS [.lst ps, .lst qs] = some (.own (.lst (ps ++ qs))) := addL (by omega)
  have hall : ∀ p ∈ ps ++ qs, PaperOk 20002 p := fun p hp => (List.mem_append.mp hp).elim (hp2 p) (hq2 p)
  have loop : ∀ (y4 y5 : SV), ∃ z4, forL (.nm 4) (evSs (l__law_second_1 A)) (ps ++ qs) [.val (.ref A.ab), .val (.lst (gs.map gD)), .val (.lst (us.map uD)), .val (.lst (rs.map rD)), y4, y5] m1 = some (.nx [.val (.ref A.ab), .val (.lst (gs.map gD)), .val (.lst (us.map uD)), .val (.lst (rs.map rD)), z4, y5] m1) := fun y4 y5 => by
    obtain ⟨o, h1, h2⟩ := forL_rule (body := evSs (l__law_second_1 A)) (tg := .nm 4) (fun d : D => d) (fun as sl m' => m' = m1 ∧ (∀ p ∈ as, PaperOk 20002 p) ∧ ∃ z4, sl = [.val (.ref A.ab), .val (.lst (gs.map gD)), .val (.lst (us.map uD)), .val (.lst (rs.map rD)), z4, y5]) (fun _ _ => False) (fun _ _ => False)
      (fun a as sl m' q => by
        obtain ⟨rfl, q1, z4, rfl⟩ := q
        have a2 := fun m => asked_paper (gs := gs) (us := us) hgs hu (by omega) (by omega) (q1 a List.mem_cons_self) m
        refine ⟨_, rfl, .nx [.val (.ref A.ab), .val (.lst (gs.map gD)), .val (.lst (us.map uD)), .val (.lst (rs.map rD)), .val a, y5] m', ?_, rfl, fun p hp => q1 p (List.mem_cons_of_mem _ hp), _, rfl⟩
        simp [evSs, evS, evs, evAnd, evOr, ev, evB, look, commit, R.d, R.kp, R.imm, R.sv, D.imm, D.imms, D.immC, setTg, setTs, bltR, binR, unR, ixR, tupR, lstR, dictTR, callR, slR, isiR, methR, lift, addS, subS, minS, maxS, modS, fdivS, mulS, negS, intS, wipeS, itList, itTup, itRng1, itRng2, mAppend, freeze, frz1, isnS, isnnS, l__law_second_1, a2]) (ps ++ qs) _ m1 ⟨rfl, hall, y4, rfl⟩
    rw [List.map_id''] at h1
    · cases o with
      | nx sl m' =>
        obtain ⟨rfl, _, z4, rfl⟩ := h2.resolve_right id
        exact ⟨z4, h1⟩
      | _ => exact h2.elim
    · intro x; rfl
  obtain ⟨z4, hl⟩ := loop .non .non
  obtain ⟨b, t1, t2⟩ := trace_iff false false hgs hu.ok (by omega) (by omega) (rs := rs) (lr := rs) (by omega) hu.key (fun r hr => (hrk r hr).1.r) hr2 m1
  have hb : b = true := t2.mpr ⟨hno, rfl⟩
  subst hb
  simp only [sqD, cond_false] at t1
  obtain ⟨m2, e1, _⟩ := beside_ok hA b1 hgs hu hg hul h0 (rs := rs) (by omega) fun r hr => (hrk r hr).1.r
  have tg : tupleS [.lst (gs.map gD)] = some (.val (.tup (gs.map gD))) := rfl
  have tu : tupleS [.lst (us.map uD)] = some (.val (.tup (us.map uD))) := rfl
  have tl : listS [.lst (rs.map rD)] = some (.own (.lst (rs.map rD))) := rfl
  refine ⟨m2, ?_⟩
  simp [f__law_second, b__law_second, evF, evSs, evS, evs, evOr, evAnd, ev, evB, look, commit, R.d, R.kp, R.imm, R.sv, bltR, binR, isiR, isTy, callR, lift, hr1, a1, hp1, hq1, ad, itList, hl, tg, tu, tl, t1, e1]
end K50

set_option Elab.async false
set_option linter.all false
set_option maxRecDepth 100000
set_option maxHeartbeats 4000000
namespace K50
open PySem PySem.Spec PyProof.Rows L2 Ev
/-! _law_bag -/
theorem cut63 (ns : List Int) (h : ns.length ≤ 63) : cutV (ns.map V.int) none (some 63) = ns.map V.int := by
  unfold cutV
  rw [HT.sIx_none, show HT.sIx (ns.map V.int).length (ns.map V.int).length (some 63) = min 63 (ns.map V.int).length from HT.sIx_nat _ _ 63]
  simp only [List.drop_zero, Nat.sub_zero]
  exact List.take_of_length_le (by rw [List.length_map]; omega)
def spBag (K : PySem.W.Frag) : Sp := fun vs H Q _ => ∃ (a : Addr) (ns : List Int), vs = [.ref a] ∧ SqL K H a (ns.map V.int) ∧ ns.length ≤ 63 ∧
  ∀ H' b c l cells, Same H H' → H b = none → H c = none → H l = none → b ≠ c → b ≠ l → c ≠ l → cells ≠ [] → H' b = some (.lst [.ref c, .ref l, .int 0]) → H' c = some (.lst (cells.map V.int)) → H' l = some (.lst (cells.map V.int)) → Q (.ref b) H'
theorem ok__law_bag {P : Program} {w : World} {K : PySem.W.Frag} {mg : Str → Option Value} {base : Heap} {f : Addr} {fd : FuncData} (F : Fun K "_law_bag" "_law_bag" s__law_bag f fd) (h_int : mg "int" = none) (h_len : mg "len" = none) (h_list : mg "list" = none) :
    FnOk P w K mg base CX0 1 f fd ["script"] (spBag K) := by
  refine F.ok sc__law_bag (fun vs H Q E h => ?_) (fun cdv A' outer s H vs Q E hr h => ?_)
  · obtain ⟨a, ns, rfl, _⟩ := h
    rfl
  · obtain ⟨a, ns, rfl, hS, hl, q⟩ := h
    refine ⟨_, pss_cons (ps_setLc (i := 1) (own := [("cell", 2)]) (g := gName 2) (tt := tYes) rfl sc__law_bag.nd rfl rfl (sw_true rfl rfl rfl (by decide +kernel)) (pi_list (pe_slice sl_list (pv 0) po_none (po_some pe_int))) (blkOk_by (N := n__law_bag) (sc := defScope s__law_bag) (by decide +kernel))
        (fun _ _ _ _ _ => pg_name (i := 2) sc__law_bag.nd rfl (.inl rfl)) (fun _ _ _ _ _ => pts_nil) (fun _ _ _ _ _ => pe_callTy call_int1 (by rfl) h_int (by decide +kernel) (pa_cons (pv 2) pa_nil)))
      (pss_cons (ps_if (pt_cmpR op_eq (pe_callB call_len_seq (by rfl) h_len PySem.boot_len (pa_cons (pv 1) pa_nil)) pe_int (nomark _)) (pss_one (ps_set (i := 1) sc__law_bag.nd rfl (.inl rfl) (pe_lst (pa_cons pe_int pa_nil)))) pss_nil)
        (pss_one (ps_ret (pe_lst (pa_cons (pv 1) (pa_cons (pe_callTy call_list_of (by rfl) h_list (by decide +kernel) (pa_cons (pv 1) pa_nil)) (pa_cons pe_int pa_nil))))))), ?_⟩
    refine ⟨.ref a, rfl, 63, rfl, a, _, rfl, hS, fun c nc => ?_⟩
    rw [cut63 ns hl]
    have s1 : Same H (upd H c (.lst (ns.map V.int))) := same_new nc
    refine ⟨c, rfl, ⟨_, SqL.of upd_same⟩, fun D nD => ?_⟩
    have s2 : Same (upd H c (.lst (ns.map V.int))) (upd (upd H c (.lst (ns.map V.int))) D (.lst [])) := same_new nD
    have nDc : D ≠ c := fun z => by rw [z, upd_same] at nD; cases nD
    have nD0 : H D = none := by rw [upd_ne nDc] at nD; exact nD
    refine lc_list (xs := ns.map V.int) (fun i H2 => Same H H2 ∧ H2 c = some (.lst (ns.map V.int)) ∧ H2 D = some (.lst ((ns.take i).map V.int))) ⟨s1.trans s2, by rw [upd_ne nDc.symm, upd_same], upd_same⟩ (fun i H2 _ q => SqL.of q.2.1) (fun i x H2 hx q => ?_) (fun H2 q => ?_)
    · obtain ⟨q1, q2, q3⟩ := q
      rw [List.getElem?_map] at hx
      obtain ⟨n, hn, rfl⟩ := Option.map_eq_some_iff.mp hx
      refine ⟨rfl, ?_⟩
      unfold tYes
      show (if true = true then _ else _)
      rw [if_pos rfl]
      refine ⟨.int n, rfl, .inl ⟨n, rfl, _, q3, ?_, ?_⟩⟩
      · rw [List.length_map]
        exact small_line (Nat.le_trans (List.length_take_le' _ _) (by omega))
      · refine ⟨fun b o e => ?_, by rw [upd_ne nDc.symm]; exact q2, ?_⟩
        · rw [upd_ne (ne_of_none e nD0)]; exact q1 _ _ e
        · rw [upd_same, List.take_add_one, hn, List.map_append]; rfl
    · obtain ⟨q1, q2, q3⟩ := q
      rw [List.length_map, List.take_length] at q3
      refine ⟨.ref D, rfl, D, _, rfl, .inl (SqL.of q3), rfl, _, rfl, ite2 (fun e => ?_) (fun e => ?_)⟩
      · refine ⟨by decide, fun p np => ?_⟩
        have np0 : H p = none := by
          cases hq : H p with
          | none => rfl
          | some o => rw [q1 _ _ hq] at np; cases np
        have s3 : Same H2 (upd H2 p (.lst [.int 0])) := same_new np
        refine ⟨.ref p, rfl, .ref p, rfl, p, _, rfl, .inl (SqL.of upd_same), fun l nl => ?_⟩
        have nlp : l ≠ p := fun z => by rw [z, upd_same] at nl; cases nl
        have nl2 : H2 l = none := by rw [upd_ne nlp] at nl; exact nl
        have nl0 : H l = none := by
          cases hq : H l with
          | none => rfl
          | some o => rw [q1 _ _ hq] at nl2; cases nl2
        have s4 := same_new (o := .lst [.int 0]) nl
        refine ⟨by show 3 ≤ sizeLine; decide, fun b nb => ?_⟩
        have nbl : b ≠ l := fun z => by rw [z, upd_same] at nb; cases nb
        have nb1 := nb
        rw [upd_ne nbl] at nb1
        have nbp : b ≠ p := fun z => by rw [z, upd_same] at nb1; cases nb1
        rw [upd_ne nbp] at nb1
        have nb0 : H b = none := by
          cases hq : H b with
          | none => rfl
          | some o => rw [q1 _ _ hq] at nb1; cases nb1
        exact q _ b p l [0] (((q1.trans s3).trans s4).trans (same_new nb)) nb0 np0 nl0 nbp nbl nlp.symm (by simp) upd_same (by rw [upd_ne nbp.symm, upd_ne nlp.symm, upd_same]; rfl) (by rw [upd_ne nbl.symm, upd_same]; rfl)
      · refine ⟨.ref D, rfl, .ref D, rfl, D, _, rfl, .inl (SqL.of q3), fun l nl => ?_⟩
        have hns : ns ≠ [] := fun z => by subst z; exact e (by decide)
        have nlD : l ≠ D := fun z => by rw [z, q3] at nl; cases nl
        have nl0 : H l = none := by
          cases hq : H l with
          | none => rfl
          | some o => rw [q1 _ _ hq] at nl; cases nl
        have s4 := same_new (o := .lst (ns.map V.int)) nl
        refine ⟨by show 3 ≤ sizeLine; decide, fun b nb => ?_⟩
        have nbl : b ≠ l := fun z => by rw [z, upd_same] at nb; cases nb
        have nb1 := nb
        rw [upd_ne nbl] at nb1
        have nbD : b ≠ D := fun z => by rw [z, q3] at nb1; cases nb1
        have nb0 : H b = none := by
          cases hq : H b with
          | none => rfl
          | some o => rw [q1 _ _ hq] at nb1; cases nb1
        exact q _ b D l ns ((q1.trans s4).trans (same_new nb)) nb0 nD0 nl0 nbD nbl nlD.symm hns upd_same (by rw [upd_ne nbD.symm, upd_ne nlD.symm]; exact q3) (by rw [upd_ne nbl.symm, upd_same])
end K50

set_option Elab.async false
set_option linter.all false
set_option maxRecDepth 100000
set_option maxHeartbeats 4000000
namespace K50
open PySem PySem.Spec PyProof.Rows L2 Ev
theorem evSs_nx {s : Sm Bag} {ss : Sms Bag} {sl sl1 : List SV} {m m1 : Bag} (h : evS s sl m = some (.nx sl1 m1)) : evSs (.cons s ss) sl m = evSs ss sl1 m1 := by
  conv => lhs; unfold evSs; rw [h]
theorem evSs_rt {s : Sm Bag} {ss : Sms Bag} {sl : List SV} {m m1 : Bag} {r : R} (h : evS s sl m = some (.rt r m1)) : evSs (.cons s ss) sl m = some (.rt r m1) := by
  conv => lhs; unfold evSs; rw [h]
/-- the three sizes -/
theorem size_ok {A : BA} (hA : AOk A) {m : Bag} (hm : BOk m) {size : Int} (h1 : 1 ≤ size) (h2 : size < 1073741824) (i : Nat) (v0 v1 : Int) (a0 : SV) (xs ys : List SV) (hi : i = xs.length + 2) : ∃ v m', (v = v0 ∨ v = v1) ∧ BOk m' ∧
    evS (.iff [] (.cmp ⟨.Eq, eqS⟩ (.app (callR "_law_draw" (f__law_draw A)) (.cons (.var 1) (.cons (.con (.int size)) .nil))) (.con (.int 0))) (.cons (.set [] false i (.con (.int v1))) .nil) .nil) (a0 :: .val (.ref A.ab) :: (xs ++ .val (.int v0) :: ys)) m = some (.nx (a0 :: .val (.ref A.ab) :: (xs ++ .val (.int v) :: ys)) m') := by
  obtain ⟨r, m1, d1, _, _, b1⟩ := draw_ok hA hm h1 h2
  obtain ⟨k, hk⟩ : ∃ k, eqS (.int r) (.int 0) = some k := ⟨_, rfl⟩
  subst hi
  cases k with
  | true =>
    refine ⟨v1, m1, .inr rfl, b1, ?_⟩
    simp [evSs, evS, evs, ev, evB, look, commit, R.d, R.kp, R.imm, R.sv, callR, d1, hk]
  | false =>
    refine ⟨v0, m1, .inl rfl, b1, ?_⟩
    simp [evSs, evS, evs, ev, evB, look, commit, R.d, R.kp, R.imm, R.sv, callR, d1, hk]
theorem come_ge {d : Int} : ∀ {gs : List (Int × Int × Int)} {g : Int × Int × Int}, (∀ g ∈ gs, 0 < g.2.2) → g ∈ gs → g.2.1 ≤ d → g.2.2 ≤ comeF gs d
  | [], g, _, h, _ => by cases h
  | a :: gs, g, hp, h, hd => by
    have nn : ∀ {l : List (Int × Int × Int)}, (∀ g ∈ l, 0 < g.2.2) → 0 ≤ comeF l d := fun {l} hl => by
      induction l with
      | nil => exact Int.le_refl _
      | cons b l ih =>
        have h1 := ih fun g hg => hl g (List.mem_cons_of_mem _ hg)
        have h2 := hl b List.mem_cons_self
        unfold comeF at *
        rw [List.filter_cons]
        split
        · rw [List.map_cons, List.sum_cons]; omega
        · exact h1
    have hn := nn fun g hg => hp g (List.mem_cons_of_mem a hg)
    have ha := hp a List.mem_cons_self
    rcases List.mem_cons.mp h with rfl | h
    · unfold comeF at *
      rw [List.filter_cons, if_pos (decide_eq_true hd), List.map_cons, List.sum_cons]
      omega
    · have ih := come_ge (fun g hg => hp g (List.mem_cons_of_mem a hg)) h hd
      unfold comeF at *
      rw [List.filter_cons]
      split
      · rw [List.map_cons, List.sum_cons]; omega
      · exact ih
theorem law_ok {A : BA} (hA : AOk A) {m : Bag} (hm : BOk m) : ∃ m', evSs (b_law A) [.non, .val (.ref A.ab), .non, .non, .non, .non, .non, .non] m = some (.rt (.val (.bl true)) m') := by
  obtain ⟨many, m1, hmany, b1, e1⟩ := size_ok hA hm (size := 16) (by decide) (by decide) 2 7 41 .non [] [.non, .non, .non, .non, .non] rfl
  obtain ⟨top, m2, htop, b2, e2⟩ := size_ok hA b1 (size := 3) (by decide) (by decide) 3 13 10000 .non [.val (.int many)] [.non, .non, .non, .non] rfl
  obtain ⟨great, m3, hgreat, b3, e3⟩ := size_ok hA b2 (size := 6) (by decide) (by decide) 4 7 1000000000 .non [.val (.int many), .val (.int top)] [.non, .non, .non] rfl
  simp only [List.nil_append, List.cons_append] at e1 e2 e3
  unfold b_law
  rw [evSs_nx (sl1 := [.non, .val (.ref A.ab), .val (.int 7), .non, .non, .non, .non, .non]) (m1 := m) (by simp [evS, ev, commit, R.kp, R.sv, R.d, R.imm]), evSs_nx e1,
    evSs_nx (sl1 := [.non, .val (.ref A.ab), .val (.int many), .val (.int 13), .non, .non, .non, .non]) (m1 := m1) (by simp [evS, ev, commit, R.kp, R.sv, R.d, R.imm]), evSs_nx e2,
    evSs_nx (sl1 := [.non, .val (.ref A.ab), .val (.int many), .val (.int top), .val (.int 7), .non, .non, .non]) (m1 := m2) (by simp [evS, ev, commit, R.kp, R.sv, R.d, R.imm]), evSs_nx e3]
  have hm1 : 1 ≤ many ∧ many ≤ 41 := by omega
  have ht1 : 1 ≤ top ∧ top < 1073741824 := by omega
  have hg1 : 1 ≤ great ∧ great < 1073741824 := by omega
  -- the first rows
  obtain ⟨n1, m4, d4, p1, p2, b4⟩ := draw_ok hA b3 (size := many) (by omega) (by omega)
  have en1 : n1 = ((n1.toNat : Nat) : Int) := by omega
  obtain ⟨gs, m5, f1, gs1, gs2, b5⟩ := gift_rows_ok hA b4 n1.toNat (by omega) ht1.1 ht1.2 hg1.1 hg1.2
  rw [← en1] at f1
  obtain ⟨n2, m6, d6, p3, p4, b6⟩ := draw_ok hA b5 (size := many) (by omega) (by omega)
  have en2 : n2 = ((n2.toNat : Nat) : Int) := by omega
  obtain ⟨ds, m7, f2, ds1, ds2, b7⟩ := use_days_ok hA b6 gs (by omega) n2.toNat (by omega) ht1.1 ht1.2
  rw [← en2] at f2
  obtain ⟨r, m8, d8, _, _, b8⟩ := draw_ok hA b7 (size := 2) (by decide) (by decide)
  obtain ⟨fr, hfr⟩ : ∃ k, eqS (.int r) (.int 0) = some k := ⟨_, rfl⟩
  obtain ⟨us, m9, f3, us1, us2, _, b9⟩ := use_rows_ok hA b8 gs (by omega) ds ds1 (by omega) hg1.1 hg1.2 fr
  obtain ⟨m10, f4, b10⟩ := first_ok hA b9 gs1 us1 (by omega) (by omega)
  -- the second rows
  obtain ⟨n3, m11, d11, p5, p6, b11⟩ := draw_ok hA b10 (size := 5) (by decide) (by decide)
  have en3 : 1 + n3 = (((1 + n3).toNat : Nat) : Int) := by omega
  obtain ⟨gs', m12, f5, gs3, gs4, b12⟩ := gift_rows_ok hA b11 (1 + n3).toNat (by omega) ht1.1 ht1.2 hg1.1 hg1.2
  rw [← en3] at f5
  obtain ⟨n4, m13, d13, p7, p8, b13⟩ := draw_ok hA b12 (size := 5) (by decide) (by decide)
  have en4 : 1 + n4 = (((1 + n4).toNat : Nat) : Int) := by omega
  obtain ⟨ds', m14, f6, ds3, ds4, b14⟩ := use_days_ok hA b13 gs' (by omega) (1 + n4).toNat (by omega) ht1.1 ht1.2
  rw [← en4] at f6
  obtain ⟨us', m15, f7, us3, us4, us5, b15⟩ := use_rows_ok hA b14 gs' (by omega) ds' ds3 (by omega) hg1.1 hg1.2 false
  have ad : ∀ i j : Int, addS [.int i, .int j] = some (.val (.int (i + j))) := fun _ _ => rfl
  rw [evSs_nx (sl1 := [.non, .val (.ref A.ab), .val (.int many), .val (.int top), .val (.int great), .val (.lst (gs.map gD)), .non, .non]) (m1 := m5) (by simp [evS, evs, ev, look, callR, commit, R.kp, R.sv, R.d, R.imm, d4, f1]),
    evSs_nx (sl1 := [.non, .val (.ref A.ab), .val (.int many), .val (.int top), .val (.int great), .val (.lst (gs.map gD)), .val (.lst (ds.map .int)), .non]) (m1 := m7) (by simp [evS, evs, ev, look, callR, commit, R.kp, R.sv, R.d, R.imm, d6, f2]),
    evSs_nx (sl1 := [.non, .val (.ref A.ab), .val (.int many), .val (.int top), .val (.int great), .val (.lst (gs.map gD)), .val (.lst (ds.map .int)), .val (.lst (us.map uD))]) (m1 := m9) (by simp [evS, evs, ev, look, callR, commit, R.kp, R.sv, R.d, R.imm, d8, hfr, f3]),
    evSs_nx (sl1 := [.non, .val (.ref A.ab), .val (.int many), .val (.int top), .val (.int great), .val (.lst (gs.map gD)), .val (.lst (ds.map .int)), .val (.lst (us.map uD))]) (m1 := m10) (by simp [evSs, evS, evs, ev, evB, look, callR, commit, R.kp, R.sv, R.d, R.imm, f4]),
    evSs_nx (sl1 := [.non, .val (.ref A.ab), .val (.int many), .val (.int top), .val (.int great), .val (.lst (gs'.map gD)), .val (.lst (ds.map .int)), .val (.lst (us.map uD))]) (m1 := m12) (by simp [evS, evs, ev, look, callR, binR, lift, ad, commit, R.kp, R.sv, R.d, R.imm, d11, f5]),
    evSs_nx (sl1 := [.non, .val (.ref A.ab), .val (.int many), .val (.int top), .val (.int great), .val (.lst (gs'.map gD)), .val (.lst (ds'.map .int)), .val (.lst (us.map uD))]) (m1 := m14) (by simp [evS, evs, ev, look, callR, binR, lift, ad, commit, R.kp, R.sv, R.d, R.imm, d13, f6]),
    evSs_nx (sl1 := [.non, .val (.ref A.ab), .val (.int many), .val (.int top), .val (.int great), .val (.lst (gs'.map gD)), .val (.lst (ds'.map .int)), .val (.lst (us'.map uD))]) (m1 := m15) (by simp [evS, evs, ev, look, callR, commit, R.kp, R.sv, R.d, R.imm, f7])]
  by_cases h0 : us' = []
  · subst h0
    obtain ⟨g, hl⟩ : ∃ g, gs'.getLast? = some g := by
      cases h : gs'.getLast? with
      | some g => exact ⟨g, rfl⟩
      | none =>
        rw [List.getLast?_eq_none_iff] at h
        subst h
        simp at gs4
        omega
    have y2 : atI (gs'.map gD) (-1) = some (gD g) := by rw [ixl, List.getLast?_map, hl]; rfl
    have g1' : ixS [gD g, .int 1] = some (.val (.int g.2.1)) := rfl
    obtain ⟨key, m16, q1, q2, q3, q4, q5, b16⟩ := use_key_ok hA b15 (ts := ["x", "y", "z"]) (fun t ht => by
      simp only [List.mem_cons, List.not_mem_nil, or_false] at ht
      rcases ht with rfl | rfl | rfl <;> decide +kernel) (by decide) (by decide) (ks := []) (fun k hk => by cases hk) (by simp)
    have uk : UK [(key, g.2.1, 1)] := by
      refine ⟨⟨by simp, by simp, fun u hu => by simp at hu; subst hu; exact Int.one_pos⟩, fun u hu => by simp at hu; subst hu; exact q2, fun u hu i e => by
        simp at hu; subst hu
        have := q5 i e
        simp at this
        omega⟩
    have hno : NoOutrun gs' [(key, g.2.1, 1)] := fun k u hk => by
      cases k with
      | zero =>
        simp at hk
        subst hk
        have mg := List.mem_of_getLast? hl
        have pg := gs3.pos g mg
        have := come_ge (d := g.2.1) gs3.pos mg (Int.le_refl _)
        have e : sumU [(key, g.2.1, (1 : Int))] (0 + 1) = 1 := rfl
        rw [e]
        show 1 ≤ comeF gs' g.2.1
        omega
      | succ k => simp at hk
    obtain ⟨m17, f8⟩ := second_ok hA b16 gs3 uk (by omega) (by simp) (by omega) (by simp) hno
    refine ⟨m17, ?_⟩
    rw [evSs_nx (sl1 := [.non, .val (.ref A.ab), .val (.int many), .val (.int top), .val (.int great), .val (.lst (gs'.map gD)), .val (.lst (ds'.map .int)), .val (.lst ([(key, g.2.1, 1)].map uD))]) (m1 := m16)]
    · exact evSs_rt (by simp only [List.map_cons, List.map_nil] at f8; simp [evS, evs, ev, look, callR, R.d, f8])
    · have e0 : eqS (.int ((([] : List (D × Int × Int)).map uD).length : Int)) (.int 0) = some true := rfl
      simp only [List.map_cons, List.map_nil] at q1 e0 ⊢
      simp [evSs, evS, evs, ev, evB, look, callR, bltR, lstR, tupR, ixR, unR, negS, lift, lenS, commit, R.kp, R.sv, R.d, R.imm, e0, q1, ixS_lst, y2, g1', uD, eqS]
  · have u0 := List.length_pos_iff.mpr h0
    obtain ⟨m16, f8⟩ := second_ok hA b15 gs3 us3 (by omega) (by omega) (by omega) u0 (us5 rfl)
    have e0 : eqS (.int (us'.length : Int)) (.int 0) = some false := by
      have hne : ¬ ((us'.length : Int) = 0) := by omega
      simp only [eqS, decide_eq_false hne]
    refine ⟨m16, ?_⟩
    rw [evSs_nx (sl1 := [.non, .val (.ref A.ab), .val (.int many), .val (.int top), .val (.int great), .val (.lst (gs'.map gD)), .val (.lst (ds'.map .int)), .val (.lst (us'.map uD))]) (m1 := m15)]
    · exact evSs_rt (by simp [evS, evs, ev, look, callR, R.d, f8])
    · simp [evSs, evS, evs, ev, evB, look, bltR, lift, lenS, commit, R.kp, R.sv, R.d, R.imm, e0]
end K50

set_option Elab.async false
set_option linter.all false
set_option maxRecDepth 100000
set_option maxHeartbeats 4000000
namespace K50
open PySem PySem.Spec PyProof.Rows L2 Ev
/-! law: the bag by hand, the rest by the evaluator at the bag's addresses -/
theorem pss_ex {X : Cx} {ss : List Stmt} {α : Type} {t : α → TS} (h : ∀ a, PSs X ss (t a)) : PSs X ss (fun D σ H => ∃ a, t a D σ H) := ⟨fun pins s σ H D I q => by
  obtain ⟨a, q⟩ := q
  exact (h a).run pins s σ H D I q⟩
def spLaw (K : PySem.W.Frag) : Sp := fun vs H Q _ => ∃ (a : Addr) (ns : List Int), vs = [.ref a] ∧ SqL K H a (ns.map V.int) ∧ ns.length ≤ 63 ∧ ∀ H', Q (.bl true) H'
theorem ok_law {P : Program} {w : World} {K : PySem.W.Frag} {mg : Str → Option Value} {base : Heap} {f : Addr} {fd : FuncData} (F : Fun K "law" "law" s_law f fd)
    {fB : Addr} {dB : FuncData} (GB : FnOk P w K mg base CX0 1 fB dB ["script"] (spBag K)) (gB : mg "_law_bag" = some (.ref fB)) (kB : PySem.W.keepIn K (.ref fB) = true) (bB : Binds K dB ["script"] [])
    (h_len : mg "len" = none) (k1 : ∀ A, Callee (cfg P w K mg base A) 1 "_law_draw" (f__law_draw A)) (k2 : ∀ A, Callee (cfg P w K mg base A) 2 "_law_gift_rows" (f__law_gift_rows A)) (k3 : ∀ A, Callee (cfg P w K mg base A) 2 "_law_use_days" (f__law_use_days A)) (k4 : ∀ A, Callee (cfg P w K mg base A) 4 "_law_use_rows" (f__law_use_rows A)) (k5 : ∀ A, Callee (cfg P w K mg base A) 5 "_law_first" (f__law_first A)) (k6 : ∀ A, Callee (cfg P w K mg base A) 2 "_law_use_key" (f__law_use_key A)) (k7 : ∀ A, Callee (cfg P w K mg base A) 6 "_law_second" (f__law_second A)) :
    FnOk P w K mg base CX0 7 f fd ["script"] (spLaw K) := by
  refine F.ok sc_law (fun vs H Q E h => ?_) (fun cdv A' outer s H vs Q E hr h => ?_)
  · obtain ⟨a, ns, rfl, _⟩ := h
    rfl
  · obtain ⟨a, ns, rfl, hS, hl, q⟩ := h
    have hX : ∀ A, CtxOk (cfg P w K mg base A) 6 n_law (defScope s_law) true (cxOf CX0 P w K mg base n_law "law" (defScope s_law) f cdv A' outer s H E).nox := fun A =>
      ⟨rfl, rfl, rfl, rfl, rfl, rfl, sc_law.nd, sc_law.kind, rfl, rfl, hr, rfl, fun _ _ => rfl⟩
    have rest : ∀ A, PSs (cxOf CX0 P w K mg base n_law "law" (defScope s_law) f cdv A' outer s H E).nox (defBody s_law).tail (tSs (cfg P w K mg base A) (b_law A)) := fun A =>
      evSs_pss (b_law A) (hX A) (o_law A h_len (k1 A) (k2 A) (k3 A) (k4 A) (k5 A) (k6 A) (k7 A)) (c_law A)
    refine ⟨_, pss_cons (ps_set (i := 1) sc_law.nd rfl (.inl rfl) (pe_call GB (hr.mono (by decide)) (by rfl) gB kB bB .nil pass0 (pa_cons (pv 0) pa_nil))) (pss_ex rest), ?_⟩
    refine ⟨.ref a, rfl, a, ns, rfl, hS, hl, fun H1 b c l cells sm nb nc nl n1 n2 n3 hne eb ec el => ?_⟩
    obtain ⟨m', hm'⟩ := law_ok (A := ⟨b, c, l⟩) ⟨n1, n2, n3⟩ (m := ⟨cells, cells, 0⟩) ⟨List.length_pos_iff.mpr hne, rfl⟩
    refine ⟨⟨b, c, l⟩, fun x => x = b ∨ x = c ∨ x = l, H1, [.non, .val (.ref b), .non, .non, .non, .non, .non, .non], ⟨cells, cells, 0⟩, _, ⟨rfl, fun x z => z, fun x z => ?_, Ext.refl, ⟨eb, ec, el, n1, n2, n3⟩, fun _ => b, fun i d e => ?_, fun i j d e h1 => ?_, fun i d e => ?_⟩, hm', fun v H' p => ?_⟩
    · rcases z with rfl | rfl | rfl
      · rw [eb]; exact fun z => by cases z
      · rw [ec]; exact fun z => by cases z
      · rw [el]; exact fun z => by cases z
    · have := List.mem_of_getElem? e
      simp at this
    · have := List.mem_of_getElem? h1
      simp at this
    · match i, e with
      | 0, e => cases e
      | 1, e => cases e; exact ⟨_, rfl, .ref b⟩
      | 2, e => cases e
      | 3, e => cases e
      | 4, e => cases e
      | 5, e => cases e
      | 6, e => cases e
      | 7, e => cases e
      | i + 8, e => simp at e
    · have r := p.rep
      cases r
      exact q H'
end K50

set_option Elab.async false
set_option linter.all false
set_option maxRecDepth 100000
set_option maxHeartbeats 0
namespace K50
open PySem PySem.Spec PyProof.Rows L2 Ev
theorem fun_of {K : PySem.W.Frag} {x qual : Str} {st : Stmt} {f : Addr} {fd : FuncData} (F : FunD K x qual (defArgs st) (defBody st) (defScope st) [] [] f fd) : Fun K x qual st f fd := by
  obtain ⟨oc, od, dV, kV, doc, pm, an, cdv, ct, osl, rfl, lk, hcd, hD, hK⟩ := F.ex
  rcases hD with ⟨_, rfl⟩ | ⟨e, _⟩
  · exact ⟨⟨oc, od, kV, doc, pm, an, cdv, ct, osl, rfl, lk, hcd⟩, F.kp⟩
  · exact absurd rfl e
abbrev FnP (K : PySem.W.Frag) (x : Str) (st : Stmt) (f : Addr) (fd : FuncData) : Prop := FunD K x x (defArgs st) (defBody st) (defScope st) [] [] f fd
def d_has_duplicates : He.DefD := ⟨("has_duplicates", none), "has_duplicates", "has_duplicates", defArgs s_has_duplicates, defBody s_has_duplicates, defScope s_has_duplicates, [], []⟩
def d_place_in : He.DefD := ⟨("place_in", none), "place_in", "place_in", defArgs s_place_in, defBody s_place_in, defScope s_place_in, [], []⟩
def d_cells_of : He.DefD := ⟨("cells_of", none), "cells_of", "cells_of", defArgs s_cells_of, defBody s_cells_of, defScope s_cells_of, [], []⟩
def d_each_pair_once : He.DefD := ⟨("each_pair_once", none), "each_pair_once", "each_pair_once", defArgs s_each_pair_once, defBody s_each_pair_once, defScope s_each_pair_once, [], []⟩
def d_in_order : He.DefD := ⟨("in_order", none), "in_order", "in_order", defArgs s_in_order, defBody s_in_order, defScope s_in_order, [], []⟩
def d_uses_filled : He.DefD := ⟨("uses_filled", none), "uses_filled", "uses_filled", defArgs s_uses_filled, defBody s_uses_filled, defScope s_uses_filled, [], []⟩
def d_given_by : He.DefD := ⟨("given_by", none), "given_by", "given_by", defArgs s_given_by, defBody s_given_by, defScope s_given_by, [], []⟩
def d_gifts_kept : He.DefD := ⟨("gifts_kept", none), "gifts_kept", "gifts_kept", defArgs s_gifts_kept, defBody s_gifts_kept, defScope s_gifts_kept, [], []⟩
def d_days_kept : He.DefD := ⟨("days_kept", none), "days_kept", "days_kept", defArgs s_days_kept, defBody s_days_kept, defScope s_days_kept, [], []⟩
def d_nothing_crosses : He.DefD := ⟨("nothing_crosses", none), "nothing_crosses", "nothing_crosses", defArgs s_nothing_crosses, defBody s_nothing_crosses, defScope s_nothing_crosses, [], []⟩
def d_is_trace : He.DefD := ⟨("is_trace", none), "is_trace", "is_trace", defArgs s_is_trace, defBody s_is_trace, defScope s_is_trace, [], []⟩
def d__law_bag : He.DefD := ⟨("_law_bag", none), "_law_bag", "_law_bag", defArgs s__law_bag, defBody s__law_bag, defScope s__law_bag, [], []⟩
def d__law_draw : He.DefD := ⟨("_law_draw", none), "_law_draw", "_law_draw", defArgs s__law_draw, defBody s__law_draw, defScope s__law_draw, [], []⟩
def d__law_name : He.DefD := ⟨("_law_name", none), "_law_name", "_law_name", defArgs s__law_name, defBody s__law_name, defScope s__law_name, [], []⟩
def d__law_names : He.DefD := ⟨("_law_names", none), "_law_names", "_law_names", defArgs s__law_names, defBody s__law_names, defScope s__law_names, [], []⟩
def d__law_come : He.DefD := ⟨("_law_come", none), "_law_come", "_law_come", defArgs s__law_come, defBody s__law_come, defScope s__law_come, [], []⟩
def d__law_outrun : He.DefD := ⟨("_law_outrun", none), "_law_outrun", "_law_outrun", defArgs s__law_outrun, defBody s__law_outrun, defScope s__law_outrun, [], []⟩
def d__law_gift_rows : He.DefD := ⟨("_law_gift_rows", none), "_law_gift_rows", "_law_gift_rows", defArgs s__law_gift_rows, defBody s__law_gift_rows, defScope s__law_gift_rows, [], []⟩
def d__law_use_key : He.DefD := ⟨("_law_use_key", none), "_law_use_key", "_law_use_key", defArgs s__law_use_key, defBody s__law_use_key, defScope s__law_use_key, [], []⟩
def d__law_use_days : He.DefD := ⟨("_law_use_days", none), "_law_use_days", "_law_use_days", defArgs s__law_use_days, defBody s__law_use_days, defScope s__law_use_days, [], []⟩
def d__law_use_rows : He.DefD := ⟨("_law_use_rows", none), "_law_use_rows", "_law_use_rows", defArgs s__law_use_rows, defBody s__law_use_rows, defScope s__law_use_rows, [], []⟩
def d__law_table : He.DefD := ⟨("_law_table", none), "_law_table", "_law_table", defArgs s__law_table, defBody s__law_table, defScope s__law_table, [], []⟩
def d__law_triples : He.DefD := ⟨("_law_triples", none), "_law_triples", "_law_triples", defArgs s__law_triples, defBody s__law_triples, defScope s__law_triples, [], []⟩
def d__law_rows : He.DefD := ⟨("_law_rows", none), "_law_rows", "_law_rows", defArgs s__law_rows, defBody s__law_rows, defScope s__law_rows, [], []⟩
def d__law_changed : He.DefD := ⟨("_law_changed", none), "_law_changed", "_law_changed", defArgs s__law_changed, defBody s__law_changed, defScope s__law_changed, [], []⟩
def d__law_asked : He.DefD := ⟨("_law_asked", none), "_law_asked", "_law_asked", defArgs s__law_asked, defBody s__law_asked, defScope s__law_asked, [], []⟩
def d__law_other_key : He.DefD := ⟨("_law_other_key", none), "_law_other_key", "_law_other_key", defArgs s__law_other_key, defBody s__law_other_key, defScope s__law_other_key, [], []⟩
def d__law_other_id : He.DefD := ⟨("_law_other_id", none), "_law_other_id", "_law_other_id", defArgs s__law_other_id, defBody s__law_other_id, defScope s__law_other_id, [], []⟩
def d__law_split : He.DefD := ⟨("_law_split", none), "_law_split", "_law_split", defArgs s__law_split, defBody s__law_split, defScope s__law_split, [], []⟩
def d__law_with_nought : He.DefD := ⟨("_law_with_nought", none), "_law_with_nought", "_law_with_nought", defArgs s__law_with_nought, defBody s__law_with_nought, defScope s__law_with_nought, [], []⟩
def d__law_row_papers : He.DefD := ⟨("_law_row_papers", none), "_law_row_papers", "_law_row_papers", defArgs s__law_row_papers, defBody s__law_row_papers, defScope s__law_row_papers, [], []⟩
def d__law_cells : He.DefD := ⟨("_law_cells", none), "_law_cells", "_law_cells", defArgs s__law_cells, defBody s__law_cells, defScope s__law_cells, [], []⟩
def d__law_crossed : He.DefD := ⟨("_law_crossed", none), "_law_crossed", "_law_crossed", defArgs s__law_crossed, defBody s__law_crossed, defScope s__law_crossed, [], []⟩
def d__law_sum_papers : He.DefD := ⟨("_law_sum_papers", none), "_law_sum_papers", "_law_sum_papers", defArgs s__law_sum_papers, defBody s__law_sum_papers, defScope s__law_sum_papers, [], []⟩
def d__law_beside : He.DefD := ⟨("_law_beside", none), "_law_beside", "_law_beside", defArgs s__law_beside, defBody s__law_beside, defScope s__law_beside, [], []⟩
def d__law_first : He.DefD := ⟨("_law_first", none), "_law_first", "_law_first", defArgs s__law_first, defBody s__law_first, defScope s__law_first, [], []⟩
def d__law_second : He.DefD := ⟨("_law_second", none), "_law_second", "_law_second", defArgs s__law_second, defBody s__law_second, defScope s__law_second, [], []⟩
def d_law : He.DefD := ⟨("law", none), "law", "law", defArgs s_law, defBody s_law, defScope s_law, [], []⟩
def fn : List He.DefD := [d_has_duplicates, d_place_in, d_cells_of, d_each_pair_once, d_in_order, d_uses_filled, d_given_by, d_gifts_kept, d_days_kept, d_nothing_crosses, d_is_trace, d__law_bag, d__law_draw, d__law_name, d__law_names, d__law_come, d__law_outrun, d__law_gift_rows, d__law_use_key, d__law_use_days, d__law_use_rows, d__law_table, d__law_triples, d__law_rows, d__law_changed, d__law_asked, d__law_other_key, d__law_other_id, d__law_split, d__law_with_nought, d__law_row_papers, d__law_cells, d__law_crossed, d__law_sum_papers, d__law_beside, d__law_first, d__law_second, d_law]
def fa : List He.Fa := [.glo "has_duplicates", .glo "place_in", .glo "cells_of", .glo "each_pair_once", .glo "in_order", .glo "uses_filled", .glo "given_by", .glo "gifts_kept", .glo "days_kept", .glo "nothing_crosses", .glo "is_trace", .glo "_law_bag", .glo "_law_draw", .glo "_law_name", .glo "_law_names", .glo "_law_come", .glo "_law_outrun", .glo "_law_gift_rows", .glo "_law_use_key", .glo "_law_use_days", .glo "_law_use_rows", .glo "_law_table", .glo "_law_triples", .glo "_law_rows", .glo "_law_changed", .glo "_law_asked", .glo "_law_other_key", .glo "_law_other_id", .glo "_law_split", .glo "_law_with_nought", .glo "_law_row_papers", .glo "_law_cells", .glo "_law_crossed", .glo "_law_sum_papers", .glo "_law_beside", .glo "_law_first", .glo "_law_second", .glo "law", .free "range", .free "len", .free "sum", .free "min", .free "max", .free "int", .free "sorted", .free "str", .free "list", .free "isinstance", .free "bool", .free "tuple"]
def loose : List PySem.Str := ((["has_duplicates", "place_in", "cells_of", "each_pair_once", "in_order", "uses_filled", "given_by", "gifts_kept", "days_kept", "nothing_crosses", "is_trace", "_law_bag", "_law_draw", "_law_name", "_law_names", "_law_come", "_law_outrun", "_law_gift_rows", "_law_use_key", "_law_use_days", "_law_use_rows", "_law_table", "_law_triples", "_law_rows", "_law_changed", "_law_asked", "_law_other_key", "_law_other_id", "_law_split", "_law_with_nought"] : List PySem.Str) ++ (["_law_row_papers", "_law_cells", "_law_crossed", "_law_sum_papers", "_law_beside", "_law_first", "_law_second"] : List PySem.Str))
abbrev RW : PySem.W.OpenRow := PySem.W.OpenLaw.row PySem.Challenge.rw_giftskept_k50_whole_trace_is_the_only_on
abbrev hk : PySem.W.Hook := He.hookD 4 fa fn
def ob (s : PySem.W.SharedT) : He.AlD := He.obsDG 4 fa fn (HandSHeadRun.getT s)
theorem ob_eq (s : PySem.W.SharedT) : ob s = hk.obs s.abs := He.obsDG_eq (HandSHeadRun.getT_eq s)
theorem run (w : World) : HandSHeadRun.RunEq RW (PySem.W.view RW.prog [40]) hk ob 4000 loose w := by
  intro os
  kernel_rfl
theorem facts {P : Program} {w : World} {K : PySem.W.Frag} {h : Heap} {mg : Str → Option Value} {f : Addr} (X : K.In h) (G : h.Ns mainGlobals mg) (hfa : mg ("law" : Str) = some (.ref f)) (c : He.SaysD fa fn K) :
    ∃ fd : FuncData, (∀ (s : Shared) (v : Value), BindsTo s fd ⟨[v], []⟩ [("script", v)]) ∧ ∀ base : Heap, K.In base → base.Ns mainGlobals mg → FnOk P w K mg base CX0 7 f fd ["script"] (spLaw K) := by
  obtain ⟨fd_has_duplicates, D_has_duplicates⟩ := c.def_ 0 (d := d_has_duplicates) rfl
  have F_has_duplicates : Fun K "has_duplicates" "has_duplicates" s_has_duplicates _ fd_has_duplicates := fun_of D_has_duplicates
  have g_has_duplicates : mg "has_duplicates" = some (.ref _) := He.glo_ok X G (c.fact 0 (f := .glo "has_duplicates") rfl)
  have b_has_duplicates : Binds K fd_has_duplicates ["rows"] [] := FunD.bindsN D_has_duplicates fun _ _ _ _ _ _ us hl => match us, hl with | [_], _ => rfl
  obtain ⟨fd_place_in, D_place_in⟩ := c.def_ 1 (d := d_place_in) rfl
  have F_place_in : Fun K "place_in" "place_in" s_place_in _ fd_place_in := fun_of D_place_in
  have g_place_in : mg "place_in" = some (.ref _) := He.glo_ok X G (c.fact 1 (f := .glo "place_in") rfl)
  have b_place_in : Binds K fd_place_in ["rows", "name"] [] := FunD.bindsN D_place_in fun _ _ _ _ _ _ us hl => match us, hl with | [_, _], _ => rfl
  obtain ⟨fd_cells_of, D_cells_of⟩ := c.def_ 2 (d := d_cells_of) rfl
  have F_cells_of : Fun K "cells_of" "cells_of" s_cells_of _ fd_cells_of := fun_of D_cells_of
  have g_cells_of : mg "cells_of" = some (.ref _) := He.glo_ok X G (c.fact 2 (f := .glo "cells_of") rfl)
  have b_cells_of : Binds K fd_cells_of ["gifts", "uses", "rows"] [] := FunD.bindsN D_cells_of fun _ _ _ _ _ _ us hl => match us, hl with | [_, _, _], _ => rfl
  obtain ⟨fd_each_pair_once, D_each_pair_once⟩ := c.def_ 3 (d := d_each_pair_once) rfl
  have F_each_pair_once : Fun K "each_pair_once" "each_pair_once" s_each_pair_once _ fd_each_pair_once := fun_of D_each_pair_once
  have g_each_pair_once : mg "each_pair_once" = some (.ref _) := He.glo_ok X G (c.fact 3 (f := .glo "each_pair_once") rfl)
  have b_each_pair_once : Binds K fd_each_pair_once ["cells"] [] := FunD.bindsN D_each_pair_once fun _ _ _ _ _ _ us hl => match us, hl with | [_], _ => rfl
  obtain ⟨fd_in_order, D_in_order⟩ := c.def_ 4 (d := d_in_order) rfl
  have F_in_order : Fun K "in_order" "in_order" s_in_order _ fd_in_order := fun_of D_in_order
  have g_in_order : mg "in_order" = some (.ref _) := He.glo_ok X G (c.fact 4 (f := .glo "in_order") rfl)
  have b_in_order : Binds K fd_in_order ["cells"] [] := FunD.bindsN D_in_order fun _ _ _ _ _ _ us hl => match us, hl with | [_], _ => rfl
  obtain ⟨fd_uses_filled, D_uses_filled⟩ := c.def_ 5 (d := d_uses_filled) rfl
  have F_uses_filled : Fun K "uses_filled" "uses_filled" s_uses_filled _ fd_uses_filled := fun_of D_uses_filled
  have g_uses_filled : mg "uses_filled" = some (.ref _) := He.glo_ok X G (c.fact 5 (f := .glo "uses_filled") rfl)
  have b_uses_filled : Binds K fd_uses_filled ["uses", "cells"] [] := FunD.bindsN D_uses_filled fun _ _ _ _ _ _ us hl => match us, hl with | [_, _], _ => rfl
  obtain ⟨fd_given_by, D_given_by⟩ := c.def_ 6 (d := d_given_by) rfl
  have F_given_by : Fun K "given_by" "given_by" s_given_by _ fd_given_by := fun_of D_given_by
  have g_given_by : mg "given_by" = some (.ref _) := He.glo_ok X G (c.fact 6 (f := .glo "given_by") rfl)
  have b_given_by : Binds K fd_given_by ["cells", "place"] [] := FunD.bindsN D_given_by fun _ _ _ _ _ _ us hl => match us, hl with | [_, _], _ => rfl
  obtain ⟨fd_gifts_kept, D_gifts_kept⟩ := c.def_ 7 (d := d_gifts_kept) rfl
  have F_gifts_kept : Fun K "gifts_kept" "gifts_kept" s_gifts_kept _ fd_gifts_kept := fun_of D_gifts_kept
  have g_gifts_kept : mg "gifts_kept" = some (.ref _) := He.glo_ok X G (c.fact 7 (f := .glo "gifts_kept") rfl)
  have b_gifts_kept : Binds K fd_gifts_kept ["gifts", "cells"] [] := FunD.bindsN D_gifts_kept fun _ _ _ _ _ _ us hl => match us, hl with | [_, _], _ => rfl
  obtain ⟨fd_days_kept, D_days_kept⟩ := c.def_ 8 (d := d_days_kept) rfl
  have F_days_kept : Fun K "days_kept" "days_kept" s_days_kept _ fd_days_kept := fun_of D_days_kept
  have g_days_kept : mg "days_kept" = some (.ref _) := He.glo_ok X G (c.fact 8 (f := .glo "days_kept") rfl)
  have b_days_kept : Binds K fd_days_kept ["gifts", "uses", "cells"] [] := FunD.bindsN D_days_kept fun _ _ _ _ _ _ us hl => match us, hl with | [_, _, _], _ => rfl
  obtain ⟨fd_nothing_crosses, D_nothing_crosses⟩ := c.def_ 9 (d := d_nothing_crosses) rfl
  have F_nothing_crosses : Fun K "nothing_crosses" "nothing_crosses" s_nothing_crosses _ fd_nothing_crosses := fun_of D_nothing_crosses
  have g_nothing_crosses : mg "nothing_crosses" = some (.ref _) := He.glo_ok X G (c.fact 9 (f := .glo "nothing_crosses") rfl)
  have b_nothing_crosses : Binds K fd_nothing_crosses ["gifts", "cells"] [] := FunD.bindsN D_nothing_crosses fun _ _ _ _ _ _ us hl => match us, hl with | [_, _], _ => rfl
  obtain ⟨fd_is_trace, D_is_trace⟩ := c.def_ 10 (d := d_is_trace) rfl
  have F_is_trace : Fun K "is_trace" "is_trace" s_is_trace _ fd_is_trace := fun_of D_is_trace
  have g_is_trace : mg "is_trace" = some (.ref _) := He.glo_ok X G (c.fact 10 (f := .glo "is_trace") rfl)
  have b_is_trace : Binds K fd_is_trace ["gifts", "uses", "rows"] [] := FunD.bindsN D_is_trace fun _ _ _ _ _ _ us hl => match us, hl with | [_, _, _], _ => rfl
  obtain ⟨fd__law_bag, D__law_bag⟩ := c.def_ 11 (d := d__law_bag) rfl
  have F__law_bag : Fun K "_law_bag" "_law_bag" s__law_bag _ fd__law_bag := fun_of D__law_bag
  have g__law_bag : mg "_law_bag" = some (.ref _) := He.glo_ok X G (c.fact 11 (f := .glo "_law_bag") rfl)
  have b__law_bag : Binds K fd__law_bag ["script"] [] := FunD.bindsN D__law_bag fun _ _ _ _ _ _ us hl => match us, hl with | [_], _ => rfl
  obtain ⟨fd__law_draw, D__law_draw⟩ := c.def_ 12 (d := d__law_draw) rfl
  have F__law_draw : Fun K "_law_draw" "_law_draw" s__law_draw _ fd__law_draw := fun_of D__law_draw
  have g__law_draw : mg "_law_draw" = some (.ref _) := He.glo_ok X G (c.fact 12 (f := .glo "_law_draw") rfl)
  have b__law_draw : Binds K fd__law_draw ["bag", "size"] [] := FunD.bindsN D__law_draw fun _ _ _ _ _ _ us hl => match us, hl with | [_, _], _ => rfl
  obtain ⟨fd__law_name, D__law_name⟩ := c.def_ 13 (d := d__law_name) rfl
  have F__law_name : Fun K "_law_name" "_law_name" s__law_name _ fd__law_name := fun_of D__law_name
  have g__law_name : mg "_law_name" = some (.ref _) := He.glo_ok X G (c.fact 13 (f := .glo "_law_name") rfl)
  have b__law_name : Binds K fd__law_name ["bag", "taken"] [] := FunD.bindsN D__law_name fun _ _ _ _ _ _ us hl => match us, hl with | [_, _], _ => rfl
  obtain ⟨fd__law_names, D__law_names⟩ := c.def_ 14 (d := d__law_names) rfl
  have F__law_names : Fun K "_law_names" "_law_names" s__law_names _ fd__law_names := fun_of D__law_names
  have g__law_names : mg "_law_names" = some (.ref _) := He.glo_ok X G (c.fact 14 (f := .glo "_law_names") rfl)
  have b__law_names : Binds K fd__law_names ["bag", "count"] [] := FunD.bindsN D__law_names fun _ _ _ _ _ _ us hl => match us, hl with | [_, _], _ => rfl
  obtain ⟨fd__law_come, D__law_come⟩ := c.def_ 15 (d := d__law_come) rfl
  have F__law_come : Fun K "_law_come" "_law_come" s__law_come _ fd__law_come := fun_of D__law_come
  have g__law_come : mg "_law_come" = some (.ref _) := He.glo_ok X G (c.fact 15 (f := .glo "_law_come") rfl)
  have b__law_come : Binds K fd__law_come ["gifts", "day"] [] := FunD.bindsN D__law_come fun _ _ _ _ _ _ us hl => match us, hl with | [_, _], _ => rfl
  obtain ⟨fd__law_outrun, D__law_outrun⟩ := c.def_ 16 (d := d__law_outrun) rfl
  have F__law_outrun : Fun K "_law_outrun" "_law_outrun" s__law_outrun _ fd__law_outrun := fun_of D__law_outrun
  have g__law_outrun : mg "_law_outrun" = some (.ref _) := He.glo_ok X G (c.fact 16 (f := .glo "_law_outrun") rfl)
  have b__law_outrun : Binds K fd__law_outrun ["gifts", "uses"] [] := FunD.bindsN D__law_outrun fun _ _ _ _ _ _ us hl => match us, hl with | [_, _], _ => rfl
  obtain ⟨fd__law_gift_rows, D__law_gift_rows⟩ := c.def_ 17 (d := d__law_gift_rows) rfl
  have F__law_gift_rows : Fun K "_law_gift_rows" "_law_gift_rows" s__law_gift_rows _ fd__law_gift_rows := fun_of D__law_gift_rows
  have g__law_gift_rows : mg "_law_gift_rows" = some (.ref _) := He.glo_ok X G (c.fact 17 (f := .glo "_law_gift_rows") rfl)
  have b__law_gift_rows : Binds K fd__law_gift_rows ["bag", "count", "top", "great"] [] := FunD.bindsN D__law_gift_rows fun _ _ _ _ _ _ us hl => match us, hl with | [_, _, _, _], _ => rfl
  obtain ⟨fd__law_use_key, D__law_use_key⟩ := c.def_ 18 (d := d__law_use_key) rfl
  have F__law_use_key : Fun K "_law_use_key" "_law_use_key" s__law_use_key _ fd__law_use_key := fun_of D__law_use_key
  have g__law_use_key : mg "_law_use_key" = some (.ref _) := He.glo_ok X G (c.fact 18 (f := .glo "_law_use_key") rfl)
  have b__law_use_key : Binds K fd__law_use_key ["bag", "names", "keys"] [] := FunD.bindsN D__law_use_key fun _ _ _ _ _ _ us hl => match us, hl with | [_, _, _], _ => rfl
  obtain ⟨fd__law_use_days, D__law_use_days⟩ := c.def_ 19 (d := d__law_use_days) rfl
  have F__law_use_days : Fun K "_law_use_days" "_law_use_days" s__law_use_days _ fd__law_use_days := fun_of D__law_use_days
  have g__law_use_days : mg "_law_use_days" = some (.ref _) := He.glo_ok X G (c.fact 19 (f := .glo "_law_use_days") rfl)
  have b__law_use_days : Binds K fd__law_use_days ["bag", "gifts", "count", "top"] [] := FunD.bindsN D__law_use_days fun _ _ _ _ _ _ us hl => match us, hl with | [_, _, _, _], _ => rfl
  obtain ⟨fd__law_use_rows, D__law_use_rows⟩ := c.def_ 20 (d := d__law_use_rows) rfl
  have F__law_use_rows : Fun K "_law_use_rows" "_law_use_rows" s__law_use_rows _ fd__law_use_rows := fun_of D__law_use_rows
  have g__law_use_rows : mg "_law_use_rows" = some (.ref _) := He.glo_ok X G (c.fact 20 (f := .glo "_law_use_rows") rfl)
  have b__law_use_rows : Binds K fd__law_use_rows ["bag", "gifts", "days", "great", "free"] [] := FunD.bindsN D__law_use_rows fun _ _ _ _ _ _ us hl => match us, hl with | [_, _, _, _, _], _ => rfl
  obtain ⟨fd__law_table, D__law_table⟩ := c.def_ 21 (d := d__law_table) rfl
  have F__law_table : Fun K "_law_table" "_law_table" s__law_table _ fd__law_table := fun_of D__law_table
  have g__law_table : mg "_law_table" = some (.ref _) := He.glo_ok X G (c.fact 21 (f := .glo "_law_table") rfl)
  have b__law_table : Binds K fd__law_table ["gifts", "uses"] [] := FunD.bindsN D__law_table fun _ _ _ _ _ _ us hl => match us, hl with | [_, _], _ => rfl
  obtain ⟨fd__law_triples, D__law_triples⟩ := c.def_ 22 (d := d__law_triples) rfl
  have F__law_triples : Fun K "_law_triples" "_law_triples" s__law_triples _ fd__law_triples := fun_of D__law_triples
  have g__law_triples : mg "_law_triples" = some (.ref _) := He.glo_ok X G (c.fact 22 (f := .glo "_law_triples") rfl)
  have b__law_triples : Binds K fd__law_triples ["gifts", "uses", "table"] [] := FunD.bindsN D__law_triples fun _ _ _ _ _ _ us hl => match us, hl with | [_, _, _], _ => rfl
  obtain ⟨fd__law_rows, D__law_rows⟩ := c.def_ 23 (d := d__law_rows) rfl
  have F__law_rows : Fun K "_law_rows" "_law_rows" s__law_rows _ fd__law_rows := fun_of D__law_rows
  have g__law_rows : mg "_law_rows" = some (.ref _) := He.glo_ok X G (c.fact 23 (f := .glo "_law_rows") rfl)
  have b__law_rows : Binds K fd__law_rows ["gifts", "uses"] [] := FunD.bindsN D__law_rows fun _ _ _ _ _ _ us hl => match us, hl with | [_, _], _ => rfl
  obtain ⟨fd__law_changed, D__law_changed⟩ := c.def_ 24 (d := d__law_changed) rfl
  have F__law_changed : Fun K "_law_changed" "_law_changed" s__law_changed _ fd__law_changed := fun_of D__law_changed
  have g__law_changed : mg "_law_changed" = some (.ref _) := He.glo_ok X G (c.fact 24 (f := .glo "_law_changed") rfl)
  have b__law_changed : Binds K fd__law_changed ["gifts", "uses", "changes"] [] := FunD.bindsN D__law_changed fun _ _ _ _ _ _ us hl => match us, hl with | [_, _, _], _ => rfl
  obtain ⟨fd__law_asked, D__law_asked⟩ := c.def_ 25 (d := d__law_asked) rfl
  have F__law_asked : Fun K "_law_asked" "_law_asked" s__law_asked _ fd__law_asked := fun_of D__law_asked
  have g__law_asked : mg "_law_asked" = some (.ref _) := He.glo_ok X G (c.fact 25 (f := .glo "_law_asked") rfl)
  have b__law_asked : Binds K fd__law_asked ["gifts", "uses", "paper"] [] := FunD.bindsN D__law_asked fun _ _ _ _ _ _ us hl => match us, hl with | [_, _, _], _ => rfl
  obtain ⟨fd__law_other_key, D__law_other_key⟩ := c.def_ 26 (d := d__law_other_key) rfl
  have F__law_other_key : Fun K "_law_other_key" "_law_other_key" s__law_other_key _ fd__law_other_key := fun_of D__law_other_key
  have g__law_other_key : mg "_law_other_key" = some (.ref _) := He.glo_ok X G (c.fact 26 (f := .glo "_law_other_key") rfl)
  have b__law_other_key : Binds K fd__law_other_key ["key", "keys"] [] := FunD.bindsN D__law_other_key fun _ _ _ _ _ _ us hl => match us, hl with | [_, _], _ => rfl
  obtain ⟨fd__law_other_id, D__law_other_id⟩ := c.def_ 27 (d := d__law_other_id) rfl
  have F__law_other_id : Fun K "_law_other_id" "_law_other_id" s__law_other_id _ fd__law_other_id := fun_of D__law_other_id
  have g__law_other_id : mg "_law_other_id" = some (.ref _) := He.glo_ok X G (c.fact 27 (f := .glo "_law_other_id") rfl)
  have b__law_other_id : Binds K fd__law_other_id ["bag", "ids"] [] := FunD.bindsN D__law_other_id fun _ _ _ _ _ _ us hl => match us, hl with | [_, _], _ => rfl
  obtain ⟨fd__law_split, D__law_split⟩ := c.def_ 28 (d := d__law_split) rfl
  have F__law_split : Fun K "_law_split" "_law_split" s__law_split _ fd__law_split := fun_of D__law_split
  have g__law_split : mg "_law_split" = some (.ref _) := He.glo_ok X G (c.fact 28 (f := .glo "_law_split") rfl)
  have b__law_split : Binds K fd__law_split ["rows"] [] := FunD.bindsN D__law_split fun _ _ _ _ _ _ us hl => match us, hl with | [_], _ => rfl
  obtain ⟨fd__law_with_nought, D__law_with_nought⟩ := c.def_ 29 (d := d__law_with_nought) rfl
  have F__law_with_nought : Fun K "_law_with_nought" "_law_with_nought" s__law_with_nought _ fd__law_with_nought := fun_of D__law_with_nought
  have g__law_with_nought : mg "_law_with_nought" = some (.ref _) := He.glo_ok X G (c.fact 29 (f := .glo "_law_with_nought") rfl)
  have b__law_with_nought : Binds K fd__law_with_nought ["gifts", "uses", "i", "j"] [] := FunD.bindsN D__law_with_nought fun _ _ _ _ _ _ us hl => match us, hl with | [_, _, _, _], _ => rfl
  obtain ⟨fd__law_row_papers, D__law_row_papers⟩ := c.def_ 30 (d := d__law_row_papers) rfl
  have F__law_row_papers : Fun K "_law_row_papers" "_law_row_papers" s__law_row_papers _ fd__law_row_papers := fun_of D__law_row_papers
  have g__law_row_papers : mg "_law_row_papers" = some (.ref _) := He.glo_ok X G (c.fact 30 (f := .glo "_law_row_papers") rfl)
  have b__law_row_papers : Binds K fd__law_row_papers ["bag", "gifts", "uses", "rows"] [] := FunD.bindsN D__law_row_papers fun _ _ _ _ _ _ us hl => match us, hl with | [_, _, _, _], _ => rfl
  obtain ⟨fd__law_cells, D__law_cells⟩ := c.def_ 31 (d := d__law_cells) rfl
  have F__law_cells : Fun K "_law_cells" "_law_cells" s__law_cells _ fd__law_cells := fun_of D__law_cells
  have g__law_cells : mg "_law_cells" = some (.ref _) := He.glo_ok X G (c.fact 31 (f := .glo "_law_cells") rfl)
  have b__law_cells : Binds K fd__law_cells ["gifts", "uses"] [] := FunD.bindsN D__law_cells fun _ _ _ _ _ _ us hl => match us, hl with | [_, _], _ => rfl
  obtain ⟨fd__law_crossed, D__law_crossed⟩ := c.def_ 32 (d := d__law_crossed) rfl
  have F__law_crossed : Fun K "_law_crossed" "_law_crossed" s__law_crossed _ fd__law_crossed := fun_of D__law_crossed
  have g__law_crossed : mg "_law_crossed" = some (.ref _) := He.glo_ok X G (c.fact 32 (f := .glo "_law_crossed") rfl)
  have b__law_crossed : Binds K fd__law_crossed ["gifts", "uses", "cells"] [] := FunD.bindsN D__law_crossed fun _ _ _ _ _ _ us hl => match us, hl with | [_, _, _], _ => rfl
  obtain ⟨fd__law_sum_papers, D__law_sum_papers⟩ := c.def_ 33 (d := d__law_sum_papers) rfl
  have F__law_sum_papers : Fun K "_law_sum_papers" "_law_sum_papers" s__law_sum_papers _ fd__law_sum_papers := fun_of D__law_sum_papers
  have g__law_sum_papers : mg "_law_sum_papers" = some (.ref _) := He.glo_ok X G (c.fact 33 (f := .glo "_law_sum_papers") rfl)
  have b__law_sum_papers : Binds K fd__law_sum_papers ["gifts", "uses"] [] := FunD.bindsN D__law_sum_papers fun _ _ _ _ _ _ us hl => match us, hl with | [_, _], _ => rfl
  obtain ⟨fd__law_beside, D__law_beside⟩ := c.def_ 34 (d := d__law_beside) rfl
  have F__law_beside : Fun K "_law_beside" "_law_beside" s__law_beside _ fd__law_beside := fun_of D__law_beside
  have g__law_beside : mg "_law_beside" = some (.ref _) := He.glo_ok X G (c.fact 34 (f := .glo "_law_beside") rfl)
  have b__law_beside : Binds K fd__law_beside ["bag", "gifts", "uses", "rows"] [] := FunD.bindsN D__law_beside fun _ _ _ _ _ _ us hl => match us, hl with | [_, _, _, _], _ => rfl
  obtain ⟨fd__law_first, D__law_first⟩ := c.def_ 35 (d := d__law_first) rfl
  have F__law_first : Fun K "_law_first" "_law_first" s__law_first _ fd__law_first := fun_of D__law_first
  have g__law_first : mg "_law_first" = some (.ref _) := He.glo_ok X G (c.fact 35 (f := .glo "_law_first") rfl)
  have b__law_first : Binds K fd__law_first ["bag", "gifts", "uses"] [] := FunD.bindsN D__law_first fun _ _ _ _ _ _ us hl => match us, hl with | [_, _, _], _ => rfl
  obtain ⟨fd__law_second, D__law_second⟩ := c.def_ 36 (d := d__law_second) rfl
  have F__law_second : Fun K "_law_second" "_law_second" s__law_second _ fd__law_second := fun_of D__law_second
  have g__law_second : mg "_law_second" = some (.ref _) := He.glo_ok X G (c.fact 36 (f := .glo "_law_second") rfl)
  have b__law_second : Binds K fd__law_second ["bag", "gifts", "uses"] [] := FunD.bindsN D__law_second fun _ _ _ _ _ _ us hl => match us, hl with | [_, _, _], _ => rfl
  obtain ⟨fd_law, D_law⟩ := c.def_ 37 (d := d_law) rfl
  have F_law : Fun K "law" "law" s_law _ fd_law := fun_of D_law
  have g_law : mg "law" = some (.ref _) := He.glo_ok X G (c.fact 37 (f := .glo "law") rfl)
  have b_law : Binds K fd_law ["script"] [] := FunD.bindsN D_law fun _ _ _ _ _ _ us hl => match us, hl with | [_], _ => rfl
  have h_range : mg "range" = none := He.free_ok X G (c.fact 38 (f := .free "range") rfl)
  have h_len : mg "len" = none := He.free_ok X G (c.fact 39 (f := .free "len") rfl)
  have h_sum : mg "sum" = none := He.free_ok X G (c.fact 40 (f := .free "sum") rfl)
  have h_min : mg "min" = none := He.free_ok X G (c.fact 41 (f := .free "min") rfl)
  have h_max : mg "max" = none := He.free_ok X G (c.fact 42 (f := .free "max") rfl)
  have h_int : mg "int" = none := He.free_ok X G (c.fact 43 (f := .free "int") rfl)
  have h_sorted : mg "sorted" = none := He.free_ok X G (c.fact 44 (f := .free "sorted") rfl)
  have h_str : mg "str" = none := He.free_ok X G (c.fact 45 (f := .free "str") rfl)
  have h_list : mg "list" = none := He.free_ok X G (c.fact 46 (f := .free "list") rfl)
  have h_isinstance : mg "isinstance" = none := He.free_ok X G (c.fact 47 (f := .free "isinstance") rfl)
  have h_bool : mg "bool" = none := He.free_ok X G (c.fact 48 (f := .free "bool") rfl)
  have h_tuple : mg "tuple" = none := He.free_ok X G (c.fact 49 (f := .free "tuple") rfl)
  have e := hfa.symm.trans g_law
  cases e
  refine ⟨fd_law, fun s v => FunD.bindsA (ps := ["script"]) D_law (fun _ _ _ _ _ _ us hl => match us, hl with | [_], _ => rfl) s [v] rfl, fun base _ _ => ?_⟩
  have G_has_duplicates : ∀ A, FnOk P w K mg base CX0 1 _ fd_has_duplicates ["rows"] (fun vs H Q _ => RSem (cfg P w K mg base A) f_has_duplicates vs H Q) := fun A => ok_has_duplicates A F_has_duplicates
  have K_has_duplicates : ∀ A, Callee (cfg P w K mg base A) 1 "has_duplicates" f_has_duplicates := fun A => ⟨⟨_, fd_has_duplicates, ["rows"], 1, Nat.le_refl _, G_has_duplicates A, g_has_duplicates, F_has_duplicates.kp, b_has_duplicates⟩⟩
  have G_place_in : ∀ A, FnOk P w K mg base CX0 1 _ fd_place_in ["rows", "name"] (fun vs H Q _ => RSem (cfg P w K mg base A) f_place_in vs H Q) := fun A => ok_place_in A F_place_in h_range h_len
  have K_place_in : ∀ A, Callee (cfg P w K mg base A) 1 "place_in" f_place_in := fun A => ⟨⟨_, fd_place_in, ["rows", "name"], 1, Nat.le_refl _, G_place_in A, g_place_in, F_place_in.kp, b_place_in⟩⟩
  have G_in_order : ∀ A, FnOk P w K mg base CX0 1 _ fd_in_order ["cells"] (fun vs H Q _ => RSem (cfg P w K mg base A) f_in_order vs H Q) := fun A => ok_in_order A F_in_order h_range h_len
  have K_in_order : ∀ A, Callee (cfg P w K mg base A) 1 "in_order" f_in_order := fun A => ⟨⟨_, fd_in_order, ["cells"], 1, Nat.le_refl _, G_in_order A, g_in_order, F_in_order.kp, b_in_order⟩⟩
  have G_uses_filled : ∀ A, FnOk P w K mg base CX0 1 _ fd_uses_filled ["uses", "cells"] (fun vs H Q _ => RSem (cfg P w K mg base A) f_uses_filled vs H Q) := fun A => ok_uses_filled A F_uses_filled h_range h_len h_sum
  have K_uses_filled : ∀ A, Callee (cfg P w K mg base A) 1 "uses_filled" f_uses_filled := fun A => ⟨⟨_, fd_uses_filled, ["uses", "cells"], 1, Nat.le_refl _, G_uses_filled A, g_uses_filled, F_uses_filled.kp, b_uses_filled⟩⟩
  have G_given_by : ∀ A, FnOk P w K mg base CX0 1 _ fd_given_by ["cells", "place"] (fun vs H Q _ => RSem (cfg P w K mg base A) f_given_by vs H Q) := fun A => ok_given_by A F_given_by h_sum
  have K_given_by : ∀ A, Callee (cfg P w K mg base A) 1 "given_by" f_given_by := fun A => ⟨⟨_, fd_given_by, ["cells", "place"], 1, Nat.le_refl _, G_given_by A, g_given_by, F_given_by.kp, b_given_by⟩⟩
  have G_days_kept : ∀ A, FnOk P w K mg base CX0 1 _ fd_days_kept ["gifts", "uses", "cells"] (fun vs H Q _ => RSem (cfg P w K mg base A) f_days_kept vs H Q) := fun A => ok_days_kept A F_days_kept
  have K_days_kept : ∀ A, Callee (cfg P w K mg base A) 1 "days_kept" f_days_kept := fun A => ⟨⟨_, fd_days_kept, ["gifts", "uses", "cells"], 1, Nat.le_refl _, G_days_kept A, g_days_kept, F_days_kept.kp, b_days_kept⟩⟩
  have G__law_draw : ∀ A, FnOk P w K mg base CX0 1 _ fd__law_draw ["bag", "size"] (fun vs H Q _ => RSem (cfg P w K mg base A) (f__law_draw A) vs H Q) := fun A => ok__law_draw A F__law_draw h_len h_int
  have K__law_draw : ∀ A, Callee (cfg P w K mg base A) 1 "_law_draw" (f__law_draw A) := fun A => ⟨⟨_, fd__law_draw, ["bag", "size"], 1, Nat.le_refl _, G__law_draw A, g__law_draw, F__law_draw.kp, b__law_draw⟩⟩
  have G__law_come : ∀ A, FnOk P w K mg base CX0 1 _ fd__law_come ["gifts", "day"] (fun vs H Q _ => RSem (cfg P w K mg base A) f__law_come vs H Q) := fun A => ok__law_come A F__law_come h_sum
  have K__law_come : ∀ A, Callee (cfg P w K mg base A) 1 "_law_come" f__law_come := fun A => ⟨⟨_, fd__law_come, ["gifts", "day"], 1, Nat.le_refl _, G__law_come A, g__law_come, F__law_come.kp, b__law_come⟩⟩
  have G__law_table : ∀ A, FnOk P w K mg base CX0 1 _ fd__law_table ["gifts", "uses"] (fun vs H Q _ => RSem (cfg P w K mg base A) f__law_table vs H Q) := fun A => ok__law_table A F__law_table h_max h_min
  have K__law_table : ∀ A, Callee (cfg P w K mg base A) 1 "_law_table" f__law_table := fun A => ⟨⟨_, fd__law_table, ["gifts", "uses"], 1, Nat.le_refl _, G__law_table A, g__law_table, F__law_table.kp, b__law_table⟩⟩
  have G__law_triples : ∀ A, FnOk P w K mg base CX0 1 _ fd__law_triples ["gifts", "uses", "table"] (fun vs H Q _ => RSem (cfg P w K mg base A) f__law_triples vs H Q) := fun A => ok__law_triples A F__law_triples h_range h_len
  have K__law_triples : ∀ A, Callee (cfg P w K mg base A) 1 "_law_triples" f__law_triples := fun A => ⟨⟨_, fd__law_triples, ["gifts", "uses", "table"], 1, Nat.le_refl _, G__law_triples A, g__law_triples, F__law_triples.kp, b__law_triples⟩⟩
  have G__law_other_key : ∀ A, FnOk P w K mg base CX0 1 _ fd__law_other_key ["key", "keys"] (fun vs H Q _ => RSem (cfg P w K mg base A) f__law_other_key vs H Q) := fun A => ok__law_other_key A F__law_other_key h_isinstance h_int h_str
  have K__law_other_key : ∀ A, Callee (cfg P w K mg base A) 1 "_law_other_key" f__law_other_key := fun A => ⟨⟨_, fd__law_other_key, ["key", "keys"], 1, Nat.le_refl _, G__law_other_key A, g__law_other_key, F__law_other_key.kp, b__law_other_key⟩⟩
  have G__law_split : ∀ A, FnOk P w K mg base CX0 1 _ fd__law_split ["rows"] (fun vs H Q _ => RSem (cfg P w K mg base A) f__law_split vs H Q) := fun A => ok__law_split A F__law_split h_range h_len
  have K__law_split : ∀ A, Callee (cfg P w K mg base A) 1 "_law_split" f__law_split := fun A => ⟨⟨_, fd__law_split, ["rows"], 1, Nat.le_refl _, G__law_split A, g__law_split, F__law_split.kp, b__law_split⟩⟩
  have G__law_crossed : ∀ A, FnOk P w K mg base CX0 1 _ fd__law_crossed ["gifts", "uses", "cells"] (fun vs H Q _ => RSem (cfg P w K mg base A) f__law_crossed vs H Q) := fun A => ok__law_crossed A F__law_crossed h_range h_len h_int h_sorted
  have K__law_crossed : ∀ A, Callee (cfg P w K mg base A) 1 "_law_crossed" f__law_crossed := fun A => ⟨⟨_, fd__law_crossed, ["gifts", "uses", "cells"], 1, Nat.le_refl _, G__law_crossed A, g__law_crossed, F__law_crossed.kp, b__law_crossed⟩⟩
  have G_cells_of : ∀ A, FnOk P w K mg base CX0 2 _ fd_cells_of ["gifts", "uses", "rows"] (fun vs H Q _ => RSem (cfg P w K mg base A) f_cells_of vs H Q) := fun A => ok_cells_of A F_cells_of  (K_place_in A)
  have K_cells_of : ∀ A, Callee (cfg P w K mg base A) 2 "cells_of" f_cells_of := fun A => ⟨⟨_, fd_cells_of, ["gifts", "uses", "rows"], 2, Nat.le_refl _, G_cells_of A, g_cells_of, F_cells_of.kp, b_cells_of⟩⟩
  have G_each_pair_once : ∀ A, FnOk P w K mg base CX0 2 _ fd_each_pair_once ["cells"] (fun vs H Q _ => RSem (cfg P w K mg base A) f_each_pair_once vs H Q) := fun A => ok_each_pair_once A F_each_pair_once  (K_has_duplicates A)
  have K_each_pair_once : ∀ A, Callee (cfg P w K mg base A) 2 "each_pair_once" f_each_pair_once := fun A => ⟨⟨_, fd_each_pair_once, ["cells"], 2, Nat.le_refl _, G_each_pair_once A, g_each_pair_once, F_each_pair_once.kp, b_each_pair_once⟩⟩
  have G_gifts_kept : ∀ A, FnOk P w K mg base CX0 2 _ fd_gifts_kept ["gifts", "cells"] (fun vs H Q _ => RSem (cfg P w K mg base A) f_gifts_kept vs H Q) := fun A => ok_gifts_kept A F_gifts_kept h_range h_len (K_given_by A)
  have K_gifts_kept : ∀ A, Callee (cfg P w K mg base A) 2 "gifts_kept" f_gifts_kept := fun A => ⟨⟨_, fd_gifts_kept, ["gifts", "cells"], 2, Nat.le_refl _, G_gifts_kept A, g_gifts_kept, F_gifts_kept.kp, b_gifts_kept⟩⟩
  have G_nothing_crosses : ∀ A, FnOk P w K mg base CX0 2 _ fd_nothing_crosses ["gifts", "cells"] (fun vs H Q _ => RSem (cfg P w K mg base A) f_nothing_crosses vs H Q) := fun A => ok_nothing_crosses A F_nothing_crosses h_range h_len h_min h_max (K_given_by A)
  have K_nothing_crosses : ∀ A, Callee (cfg P w K mg base A) 2 "nothing_crosses" f_nothing_crosses := fun A => ⟨⟨_, fd_nothing_crosses, ["gifts", "cells"], 2, Nat.le_refl _, G_nothing_crosses A, g_nothing_crosses, F_nothing_crosses.kp, b_nothing_crosses⟩⟩
  have G__law_name : ∀ A, FnOk P w K mg base CX0 2 _ fd__law_name ["bag", "taken"] (fun vs H Q _ => RSem (cfg P w K mg base A) (f__law_name A) vs H Q) := fun A => ok__law_name A F__law_name h_range h_int (K__law_draw A)
  have K__law_name : ∀ A, Callee (cfg P w K mg base A) 2 "_law_name" (f__law_name A) := fun A => ⟨⟨_, fd__law_name, ["bag", "taken"], 2, Nat.le_refl _, G__law_name A, g__law_name, F__law_name.kp, b__law_name⟩⟩
  have G__law_outrun : ∀ A, FnOk P w K mg base CX0 2 _ fd__law_outrun ["gifts", "uses"] (fun vs H Q _ => RSem (cfg P w K mg base A) f__law_outrun vs H Q) := fun A => ok__law_outrun A F__law_outrun h_range h_len (K__law_come A)
  have K__law_outrun : ∀ A, Callee (cfg P w K mg base A) 2 "_law_outrun" f__law_outrun := fun A => ⟨⟨_, fd__law_outrun, ["gifts", "uses"], 2, Nat.le_refl _, G__law_outrun A, g__law_outrun, F__law_outrun.kp, b__law_outrun⟩⟩
  have G__law_gift_rows : ∀ A, FnOk P w K mg base CX0 2 _ fd__law_gift_rows ["bag", "count", "top", "great"] (fun vs H Q _ => RSem (cfg P w K mg base A) (f__law_gift_rows A) vs H Q) := fun A => ok__law_gift_rows A F__law_gift_rows h_range h_int h_sorted (K__law_draw A)
  have K__law_gift_rows : ∀ A, Callee (cfg P w K mg base A) 2 "_law_gift_rows" (f__law_gift_rows A) := fun A => ⟨⟨_, fd__law_gift_rows, ["bag", "count", "top", "great"], 2, Nat.le_refl _, G__law_gift_rows A, g__law_gift_rows, F__law_gift_rows.kp, b__law_gift_rows⟩⟩
  have G__law_use_key : ∀ A, FnOk P w K mg base CX0 2 _ fd__law_use_key ["bag", "names", "keys"] (fun vs H Q _ => RSem (cfg P w K mg base A) (f__law_use_key A) vs H Q) := fun A => ok__law_use_key A F__law_use_key h_str h_len (K__law_draw A)
  have K__law_use_key : ∀ A, Callee (cfg P w K mg base A) 2 "_law_use_key" (f__law_use_key A) := fun A => ⟨⟨_, fd__law_use_key, ["bag", "names", "keys"], 2, Nat.le_refl _, G__law_use_key A, g__law_use_key, F__law_use_key.kp, b__law_use_key⟩⟩
  have G__law_use_days : ∀ A, FnOk P w K mg base CX0 2 _ fd__law_use_days ["bag", "gifts", "count", "top"] (fun vs H Q _ => RSem (cfg P w K mg base A) (f__law_use_days A) vs H Q) := fun A => ok__law_use_days A F__law_use_days h_range h_len h_max h_min h_sorted (K__law_draw A)
  have K__law_use_days : ∀ A, Callee (cfg P w K mg base A) 2 "_law_use_days" (f__law_use_days A) := fun A => ⟨⟨_, fd__law_use_days, ["bag", "gifts", "count", "top"], 2, Nat.le_refl _, G__law_use_days A, g__law_use_days, F__law_use_days.kp, b__law_use_days⟩⟩
  have G__law_rows : ∀ A, FnOk P w K mg base CX0 2 _ fd__law_rows ["gifts", "uses"] (fun vs H Q _ => RSem (cfg P w K mg base A) f__law_rows vs H Q) := fun A => ok__law_rows A F__law_rows  (K__law_triples A) (K__law_table A)
  have K__law_rows : ∀ A, Callee (cfg P w K mg base A) 2 "_law_rows" f__law_rows := fun A => ⟨⟨_, fd__law_rows, ["gifts", "uses"], 2, Nat.le_refl _, G__law_rows A, g__law_rows, F__law_rows.kp, b__law_rows⟩⟩
  have G__law_other_id : ∀ A, FnOk P w K mg base CX0 2 _ fd__law_other_id ["bag", "ids"] (fun vs H Q _ => RSem (cfg P w K mg base A) (f__law_other_id A) vs H Q) := fun A => ok__law_other_id A F__law_other_id h_range h_len (K__law_draw A)
  have K__law_other_id : ∀ A, Callee (cfg P w K mg base A) 2 "_law_other_id" (f__law_other_id A) := fun A => ⟨⟨_, fd__law_other_id, ["bag", "ids"], 2, Nat.le_refl _, G__law_other_id A, g__law_other_id, F__law_other_id.kp, b__law_other_id⟩⟩
  have G__law_with_nought : ∀ A, FnOk P w K mg base CX0 2 _ fd__law_with_nought ["gifts", "uses", "i", "j"] (fun vs H Q _ => RSem (cfg P w K mg base A) f__law_with_nought vs H Q) := fun A => ok__law_with_nought A F__law_with_nought h_range h_len (K__law_table A)
  have K__law_with_nought : ∀ A, Callee (cfg P w K mg base A) 2 "_law_with_nought" f__law_with_nought := fun A => ⟨⟨_, fd__law_with_nought, ["gifts", "uses", "i", "j"], 2, Nat.le_refl _, G__law_with_nought A, g__law_with_nought, F__law_with_nought.kp, b__law_with_nought⟩⟩
  have G__law_cells : ∀ A, FnOk P w K mg base CX0 2 _ fd__law_cells ["gifts", "uses"] (fun vs H Q _ => RSem (cfg P w K mg base A) f__law_cells vs H Q) := fun A => ok__law_cells A F__law_cells h_range h_len (K__law_table A)
  have K__law_cells : ∀ A, Callee (cfg P w K mg base A) 2 "_law_cells" f__law_cells := fun A => ⟨⟨_, fd__law_cells, ["gifts", "uses"], 2, Nat.le_refl _, G__law_cells A, g__law_cells, F__law_cells.kp, b__law_cells⟩⟩
  have G__law_changed : ∀ A, FnOk P w K mg base CX0 2 _ fd__law_changed ["gifts", "uses", "changes"] (fun vs H Q _ => RSem (cfg P w K mg base A) f__law_changed vs H Q) := fun A => ok__law_changed A F__law_changed (ok_table2 A F__law_table h_max h_min) g__law_table F__law_table.kp b__law_table (G__law_triples A) g__law_triples F__law_triples.kp b__law_triples
  have K__law_changed : ∀ A, Callee (cfg P w K mg base A) 2 "_law_changed" f__law_changed := fun A => ⟨⟨_, fd__law_changed, ["gifts", "uses", "changes"], 2, Nat.le_refl _, G__law_changed A, g__law_changed, F__law_changed.kp, b__law_changed⟩⟩
  have G_is_trace : ∀ A, FnOk P w K mg base CX0 3 _ fd_is_trace ["gifts", "uses", "rows"] (fun vs H Q _ => RSem (cfg P w K mg base A) f_is_trace vs H Q) := fun A => ok_is_trace A F_is_trace  (K_cells_of A) (K_in_order A) (K_each_pair_once A) (K_gifts_kept A) (K_uses_filled A) (K_nothing_crosses A) (K_days_kept A)
  have K_is_trace : ∀ A, Callee (cfg P w K mg base A) 3 "is_trace" f_is_trace := fun A => ⟨⟨_, fd_is_trace, ["gifts", "uses", "rows"], 3, Nat.le_refl _, G_is_trace A, g_is_trace, F_is_trace.kp, b_is_trace⟩⟩
  have G__law_names : ∀ A, FnOk P w K mg base CX0 3 _ fd__law_names ["bag", "count"] (fun vs H Q _ => RSem (cfg P w K mg base A) (f__law_names A) vs H Q) := fun A => ok__law_names A F__law_names h_range (K__law_name A)
  have K__law_names : ∀ A, Callee (cfg P w K mg base A) 3 "_law_names" (f__law_names A) := fun A => ⟨⟨_, fd__law_names, ["bag", "count"], 3, Nat.le_refl _, G__law_names A, g__law_names, F__law_names.kp, b__law_names⟩⟩
  have G__law_row_papers : ∀ A, FnOk P w K mg base CX0 3 _ fd__law_row_papers ["bag", "gifts", "uses", "rows"] (fun vs H Q _ => RSem (cfg P w K mg base A) (f__law_row_papers A) vs H Q) := fun A => ok__law_row_papers A F__law_row_papers h_len (K__law_draw A) (K__law_split A) (K__law_other_id A) (K__law_other_key A) (K__law_with_nought A)
  have K__law_row_papers : ∀ A, Callee (cfg P w K mg base A) 3 "_law_row_papers" (f__law_row_papers A) := fun A => ⟨⟨_, fd__law_row_papers, ["bag", "gifts", "uses", "rows"], 3, Nat.le_refl _, G__law_row_papers A, g__law_row_papers, F__law_row_papers.kp, b__law_row_papers⟩⟩
  have G__law_sum_papers : ∀ A, FnOk P w K mg base CX0 3 _ fd__law_sum_papers ["gifts", "uses"] (fun vs H Q _ => RSem (cfg P w K mg base A) f__law_sum_papers vs H Q) := fun A => ok__law_sum_papers A F__law_sum_papers h_len h_min (K__law_cells A) (K__law_changed A) (K__law_crossed A)
  have K__law_sum_papers : ∀ A, Callee (cfg P w K mg base A) 3 "_law_sum_papers" f__law_sum_papers := fun A => ⟨⟨_, fd__law_sum_papers, ["gifts", "uses"], 3, Nat.le_refl _, G__law_sum_papers A, g__law_sum_papers, F__law_sum_papers.kp, b__law_sum_papers⟩⟩
  have G__law_use_rows : ∀ A, FnOk P w K mg base CX0 4 _ fd__law_use_rows ["bag", "gifts", "days", "great", "free"] (fun vs H Q _ => RSem (cfg P w K mg base A) (f__law_use_rows A) vs H Q) := fun A => ok__law_use_rows A F__law_use_rows h_min (K__law_names A) (K__law_draw A) (K__law_come A) (K__law_use_key A)
  have K__law_use_rows : ∀ A, Callee (cfg P w K mg base A) 4 "_law_use_rows" (f__law_use_rows A) := fun A => ⟨⟨_, fd__law_use_rows, ["bag", "gifts", "days", "great", "free"], 4, Nat.le_refl _, G__law_use_rows A, g__law_use_rows, F__law_use_rows.kp, b__law_use_rows⟩⟩
  have G__law_asked : ∀ A, FnOk P w K mg base CX0 4 _ fd__law_asked ["gifts", "uses", "paper"] (fun vs H Q _ => RSem (cfg P w K mg base A) f__law_asked vs H Q) := fun A => ok__law_asked A F__law_asked h_list h_isinstance h_bool (K__law_outrun A) (K__law_rows A) (K_is_trace A)
  have K__law_asked : ∀ A, Callee (cfg P w K mg base A) 4 "_law_asked" f__law_asked := fun A => ⟨⟨_, fd__law_asked, ["gifts", "uses", "paper"], 4, Nat.le_refl _, G__law_asked A, g__law_asked, F__law_asked.kp, b__law_asked⟩⟩
  have G__law_beside : ∀ A, FnOk P w K mg base CX0 5 _ fd__law_beside ["bag", "gifts", "uses", "rows"] (fun vs H Q _ => RSem (cfg P w K mg base A) (f__law_beside A) vs H Q) := fun A => ok__law_beside A F__law_beside h_len h_min h_max (K__law_cells A) (K__law_draw A) (K__law_asked A)
  have K__law_beside : ∀ A, Callee (cfg P w K mg base A) 5 "_law_beside" (f__law_beside A) := fun A => ⟨⟨_, fd__law_beside, ["bag", "gifts", "uses", "rows"], 5, Nat.le_refl _, G__law_beside A, g__law_beside, F__law_beside.kp, b__law_beside⟩⟩
  have G__law_first : ∀ A, FnOk P w K mg base CX0 5 _ fd__law_first ["bag", "gifts", "uses"] (fun vs H Q _ => RSem (cfg P w K mg base A) (f__law_first A) vs H Q) := fun A => ok__law_first A F__law_first h_len h_max h_sum (K__law_rows A) (K__law_outrun A) (K__law_draw A) (K__law_asked A)
  have K__law_first : ∀ A, Callee (cfg P w K mg base A) 5 "_law_first" (f__law_first A) := fun A => ⟨⟨_, fd__law_first, ["bag", "gifts", "uses"], 5, Nat.le_refl _, G__law_first A, g__law_first, F__law_first.kp, b__law_first⟩⟩
  have G__law_second : ∀ A, FnOk P w K mg base CX0 6 _ fd__law_second ["bag", "gifts", "uses"] (fun vs H Q _ => RSem (cfg P w K mg base A) (f__law_second A) vs H Q) := fun A => ok__law_second A F__law_second h_list h_tuple h_isinstance h_bool (K__law_rows A) (K__law_asked A) (K__law_sum_papers A) (K__law_row_papers A) (K_is_trace A) (K__law_beside A)
  have K__law_second : ∀ A, Callee (cfg P w K mg base A) 6 "_law_second" (f__law_second A) := fun A => ⟨⟨_, fd__law_second, ["bag", "gifts", "uses"], 6, Nat.le_refl _, G__law_second A, g__law_second, F__law_second.kp, b__law_second⟩⟩
  exact ok_law F_law (ok__law_bag F__law_bag h_int h_len h_list) g__law_bag F__law_bag.kp b__law_bag h_len K__law_draw K__law_gift_rows K__law_use_days K__law_use_rows K__law_first K__law_use_key K__law_second
end K50
open PySem PySem.W PySem.Calls PyProof.Rows
theorem PySem.Challenge.cw_giftskept_k50_whole_trace_is_the_only_on_holds : PySem.Challenge.rw_giftskept_k50_whole_trace_is_the_only_on.Holds := by
  w_on; o_law
  refine HandSHeadRun.head_any (r := OpenLaw.row PySem.Challenge.rw_giftskept_k50_whole_trace_is_the_only_on) (q := view (OpenLaw.row PySem.Challenge.rw_giftskept_k50_whole_trace_is_the_only_on).prog [40]) (H := K50.hk) (ob := K50.ob) (M := 4000) (loose := K50.loose) (d := HandSHeadRun.topDef (OpenLaw.row PySem.Challenge.rw_giftskept_k50_whole_trace_is_the_only_on).prog 40) (kwd := []) K50.ob_eq
    (by kernel_rfl) (fun s => by kernel_rfl) K50.run (by kernel_rfl) (by kernel_rfl) (by kernel_rfl) (by rfl) (by first | assumption | decide +kernel) (by decide +kernel) ⟨rfl, rfl, rfl, rfl, rfl, by decide +kernel⟩ ?hw ?hc
  case hw => w_witness2
  case hc =>
    refine L2.walk_ofE (l := PySem.Challenge.rw_giftskept_k50_whole_trace_is_the_only_on) (n := 63) (k := 7) (x := "script") (CX := L2.CX0) rfl (by decide) (by kernel_rfl) ⟨rfl, by decide, by decide⟩ ?F (fun _ _ _ _ z => z)
    intro w mg fa h Y G hmg0
    obtain ⟨K, KX, c⟩ := Y
    have hmg : mg ("law" : PySem.Str) = some (.ref fa) := by
      have e : (HandSHeadRun.topDef (OpenLaw.row PySem.Challenge.rw_giftskept_k50_whole_trace_is_the_only_on).prog 40).name = ("law" : PySem.Str) := by kernel_rfl
      rw [← e]
      exact hmg0
    obtain ⟨fd, hb, hF⟩ := K50.facts (P := (PySem.Challenge.rw_giftskept_k50_whole_trace_is_the_only_on).prog) (w := w) KX G hmg c
    exact ⟨K, fd, K50.spLaw K, KX, hb, fun H a ns hl _ hS => ⟨a, ns, rfl, hS, hl, fun _ => rfl⟩, hF⟩

