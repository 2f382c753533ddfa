import PyProof.Rows.All
import Wide.All
import OpenK.AllK
import Wide.FinOn
import PySem.Challenge.RW_xm0871_01
set_option Elab.async false
set_option genSizeOf false
set_option genInjectivity false
set_option bootstrap.genMatcherCode false
set_option maxRecDepth 100000
set_option tactic.hygienic false
set_option linter.all false
set_option compiler.extract_closed false
section
open PySem PySem.W PyProof.Rows
namespace LW.Internal
section
theorem zkg {n : Int} {k : Nat} (h : n < (k : Int)) (hk : 0 < k) : n.toNat < k := by omega
theorem cps {P : Prop} (h : ∀ G : Prop, (P → G) → G) : P := h P id
inductive Ex2 {α β : Type} (p : α → β → Prop) : Prop | mk (a : α) (b : β) : p a b → Ex2 p
inductive Ex3 {α β γ : Type} (p : α → β → γ → Prop) : Prop | mk (a : α) (b : β) (c : γ) : p a b c → Ex3 p
inductive Ex4 {α β γ δ : Type} (p : α → β → γ → δ → Prop) : Prop | mk (a : α) (b : β) (c : γ) (d : δ) : p a b c d → Ex4 p
inductive Ex5 {α β γ δ ε : Type} (p : α → β → γ → δ → ε → Prop) : Prop | mk (a : α) (b : β) (c : γ) (d : δ) (e : ε) : p a b c d e → Ex5 p
inductive Ex6 {α β γ δ ε ζ : Type} (p : α → β → γ → δ → ε → ζ → Prop) : Prop | mk (a : α) (b : β) (c : γ) (d : δ) (e : ε) (f : ζ) : p a b c d e f → Ex6 p
inductive Ex7 {α β γ δ ε ζ η : Type} (p : α → β → γ → δ → ε → ζ → η → Prop) : Prop | mk (a : α) (b : β) (c : γ) (d : δ) (e : ε) (f : ζ) (g : η) : p a b c d e f g → Ex7 p
inductive Ex8 {α β γ δ ε ζ η θ : Type} (p : α → β → γ → δ → ε → ζ → η → θ → Prop) : Prop | mk (a : α) (b : β) (c : γ) (d : δ) (e : ε) (f : ζ) (g : η) (h : θ) : p a b c d e f g h → Ex8 p
inductive Ex9 {α β γ δ ε ζ η θ ι : Type} (p : α → β → γ → δ → ε → ζ → η → θ → ι → Prop) : Prop | mk (a : α) (b : β) (c : γ) (d : δ) (e : ε) (f : ζ) (g : η) (h : θ) (i : ι) : p a b c d e f g h i → Ex9 p
inductive Ex10 {α β γ δ ε ζ η θ ι κ : Type} (p : α → β → γ → δ → ε → ζ → η → θ → ι → κ → Prop) : Prop | mk (a : α) (b : β) (c : γ) (d : δ) (e : ε) (f : ζ) (g : η) (h : θ) (i : ι) (j : κ) : p a b c d e f g h i j → Ex10 p
structure A3 (a b c : Prop) : Prop where
 h1 : a
 h2 : b
 h3 : c
structure A4 (a b c d : Prop) : Prop where
 h1 : a
 h2 : b
 h3 : c
 h4 : d
structure A5 (a b c d e : Prop) : Prop where
 h1 : a
 h2 : b
 h3 : c
 h4 : d
 h5 : e
structure A6 (a b c d e f : Prop) : Prop where
 h1 : a
 h2 : b
 h3 : c
 h4 : d
 h5 : e
 h6 : f
structure A7 (a b c d e f g : Prop) : Prop where
 h1 : a
 h2 : b
 h3 : c
 h4 : d
 h5 : e
 h6 : f
 h7 : g
structure A8 (a b c d e f g h : Prop) : Prop where
 h1 : a
 h2 : b
 h3 : c
 h4 : d
 h5 : e
 h6 : f
 h7 : g
 h8 : h
inductive Va where
 | none
 | bool (b : Bool)
 | int (i : Int)
 | str (x : Str)
 | bytes (b : List UInt8)
 | tup (vs : List Va)
 | ref (a : Addr)
mutual
noncomputable def Rv (h : Heap) : Va → Value → Prop
 | .none, v => v = .none
 | .bool b, v => v = .bool b
 | .int i, v => ∃ t, v = .int i t
 | .str x, v => ∃ t, v = .str x t
 | .bytes b, v => ∃ t, v = .bytes ⟨b⟩ t
 | .ref a, v => v = .ref a
 | .tup vs, v => Ex2 fun a items => A3 (v = .ref a) (IsTup h a items) (RvL h vs items.toList)
noncomputable def RvL (h : Heap) : List Va → List Value → Prop
 | [], l => l = []
 | x :: xs, l => Ex2 fun y ys => A3 (l = y :: ys) (Rv h x y) (RvL h xs ys)
end
noncomputable def zdn (o : Obj) : Prop := ∀ vs, o.data ≠ .fields vs
noncomputable def zoo (o : Obj) : Prop := o.cls = .type "tuple" ∧ Ex2 fun items n => o.data = .seq items n
noncomputable def Evo (h h' : Heap) : Prop := ∀ b o, h.get? b = some o → zdn o → ∃ o', A3 (h'.get? b = some o') (zdn o') ((zoo o → o'.cls = o.cls ∧ o'.data = o.data))
noncomputable def Ext (h h' : Heap) : Prop := ∀ b o, h.get? b = some o → h'.get? b = some o
theorem Evo.refl (h : Heap) : Evo h h := fun _ o e n => ⟨o, e, n, fun _ => ⟨rfl, rfl⟩⟩
theorem Evo.trans {h₁ h₂ h₃ : Heap} (x : Evo h₁ h₂) (y : Evo h₂ h₃) : Evo h₁ h₃ := fun b o e n =>
 let ⟨_, e₁, n₁, t₁⟩ := x b o e n
 let ⟨o₂, e₂, n₂, t₂⟩ := y b _ e₁ n₁
 ⟨o₂, e₂, n₂, fun c => have a := t₁ c; have b := t₂ ⟨a.1.trans c.1, a.2 ▸ c.2⟩; ⟨b.1.trans a.1, b.2.trans a.2⟩⟩
theorem Ext.evo {h h' : Heap} (k : Ext h h') : Evo h h' := fun b o e n => ⟨o, k b o e, n, fun _ => ⟨rfl, rfl⟩⟩
theorem Ext.refl (h : Heap) : Ext h h := fun _ _ e => e
theorem Ext.trans {h₁ h₂ h₃ : Heap} (x : Ext h₁ h₂) (y : Ext h₂ h₃) : Ext h₁ h₃ := fun b o e => y b o (x b o e)
theorem Ext.push (h : Heap) (o : Obj) : Ext h (h.push o) := fun _ _ e => Heap.get?_push_of_some _ e
theorem UpToSlots.evo {h h' : Heap} (k : h.UpToSlots h') : Evo h h' := fun b o e n => let ⟨_, e'⟩ := k b o e n; ⟨_, e', n, fun _ => ⟨rfl, rfl⟩⟩
theorem zel {h h' : Heap} {a : Addr} {o o' : Obj} (x : Heap.ExtBut a h h') (e : h.get? a = some o) (e' : h'.get? a = some o') (hc : ¬ zoo o) (hn : zdn o') : Evo h h' := fun b ob eb nb => by
 by_cases hb : b = a
 ·subst hb
  rw [e] at eb; cases eb
  exact ⟨o', e', hn, fun c => absurd c hc⟩
 ·exact ⟨ob, x b ob hb eb, nb, fun _ => ⟨rfl, rfl⟩⟩
theorem zgl {h h' : Heap} {a : Addr} {o : Obj} (x : Heap.ExtBut a h h') (e : h.get? a = some o) (hf : ¬ zdn o) : Evo h h' := fun b ob eb nb => by
 by_cases hb : b = a
 ·subst hb; rw [e] at eb; cases eb; exact absurd nb hf
 ·exact ⟨ob, x b ob hb eb, nb, fun _ => ⟨rfl, rfl⟩⟩
theorem zji {h h' : Heap} {a : Addr} {items : Array Value} (x : IsTup h a items) (k : Evo h h') : IsTup h' a items := by
 obtain ⟨o, ho, hc, n, hd⟩ := x
 obtain ⟨o', ho', _, t⟩ := k a o ho (fun vs e => by rw [hd] at e; cases e)
 have t' := t ⟨hc, items, n, hd⟩
 exact ⟨o', ho', t'.1.trans hc, n, t'.2.trans hd⟩
mutual
theorem Rv.evo {h h' : Heap} (k : Evo h h') : (mv : Va) → {v : Value} → Rv h mv v → Rv h' mv v
 | .none, _, e => by simpa only [Rv] using e
 | .bool _, _, e => by simpa only [Rv] using e
 | .int _, _, e => by simpa only [Rv] using e
 | .str _, _, e => by simpa only [Rv] using e
 | .bytes _, _, e => by simpa only [Rv] using e
 | .ref _, _, e => by simpa only [Rv] using e
 | .tup vs, _, e => by
  simp only [Rv] at e ⊢
  obtain ⟨a, items, e1, e2, e3⟩ := e
  exact ⟨a, items, e1, zji e2 k, RvL.evo k vs e3⟩
theorem RvL.evo {h h' : Heap} (k : Evo h h') : (mvs : List Va) → {vs : List Value} → RvL h mvs vs → RvL h' mvs vs
 | [], _, e => by simpa only [RvL] using e
 | x :: xs, _, e => by
  simp only [RvL] at e ⊢
  obtain ⟨y, ys, e1, e2, e3⟩ := e
  exact ⟨y, ys, e1, Rv.evo k x e2, RvL.evo k xs e3⟩
end
theorem RvL.nil {h : Heap} : RvL h [] [] := by simp only [RvL]
theorem RvL.cons {h : Heap} {x : Va} {xs : List Va} {y : Value} {ys : List Value} (a : Rv h x y) (b : RvL h xs ys) : RvL h (x :: xs) (y :: ys) := by
 simp only [RvL]; exact ⟨y, ys, rfl, a, b⟩
theorem RvL.inv {h : Heap} {x : Va} {xs : List Va} {l : List Value} (e : RvL h (x :: xs) l) : Ex2 fun y ys => A3 (l = y :: ys) (Rv h x y) (RvL h xs ys) := by
 simpa only [RvL] using e
theorem RvL.len {h : Heap} : ∀ {mvs : List Va} {vs : List Value}, RvL h mvs vs → vs.length = mvs.length
 | [], _, e => by simp only [RvL] at e; subst e; rfl
 | _ :: _, _, e => by
  obtain ⟨y, ys, rfl, _, e3⟩ := e.inv
  rw [List.length_cons, List.length_cons, e3.len]
theorem RvL.get {h : Heap} : ∀ {mvs : List Va} {vs : List Value} {i : Nat} {x : Va}, RvL h mvs vs → mvs[i]? = some x → ∃ y, vs[i]? = some y ∧ Rv h x y
 | [], _, _, _, _, e => by simp at e
 | _ :: _, _, 0, _, r, e => by
  obtain ⟨y, ys, rfl, e2, _⟩ := r.inv
  simp at e; subst e; exact ⟨y, rfl, e2⟩
 | _ :: _, _, i + 1, _, r, e => by
  obtain ⟨y, ys, rfl, _, e3⟩ := r.inv
  obtain ⟨z, e4, e5⟩ := e3.get (i := i) (by simpa using e)
  exact ⟨z, by simpa using e4, e5⟩
theorem RvL.append {h : Heap} : ∀ {a c : List Va} {b d : List Value}, RvL h a b → RvL h c d → RvL h (a ++ c) (b ++ d)
 | [], _, _, _, e, f => by simp only [RvL] at e; subst e; exact f
 | _ :: _, _, _, _, e, f => by
  obtain ⟨y, ys, rfl, e2, e3⟩ := e.inv
  exact RvL.cons e2 (e3.append f)
theorem RvL.set {h : Heap} : ∀ {a : List Va} {b : List Value} {i : Nat} {x : Va} {y : Value}, RvL h a b → Rv h x y → RvL h (a.set i x) (b.set i y)
 | [], _, _, _, _, e, _ => by simp only [RvL] at e; subst e; exact RvL.nil
 | _ :: _, _, 0, _, _, e, f => by
  obtain ⟨y, ys, rfl, _, e3⟩ := e.inv
  exact RvL.cons f e3
 | _ :: _, _, i + 1, _, _, e, f => by
  obtain ⟨y, ys, rfl, e2, e3⟩ := e.inv
  exact RvL.cons e2 (e3.set f)
theorem RvL.take {h : Heap} : ∀ {a : List Va} {b : List Value} (n : Nat), RvL h a b → RvL h (a.take n) (b.take n)
 | _, _, 0, _ => by simpa using RvL.nil
 | [], _, n + 1, e => by simp only [RvL] at e; subst e; exact RvL.nil
 | _ :: _, _, n + 1, e => by
  obtain ⟨y, ys, rfl, e2, e3⟩ := e.inv
  exact RvL.cons e2 (e3.take n)
theorem RvL.drop {h : Heap} : ∀ {a : List Va} {b : List Value} (n : Nat), RvL h a b → RvL h (a.drop n) (b.drop n)
 | _, _, 0, e => by simpa using e
 | [], _, n + 1, e => by simp only [RvL] at e; subst e; exact RvL.nil
 | _ :: _, _, n + 1, e => by
  obtain ⟨y, ys, rfl, e2, e3⟩ := e.inv
  exact e3.drop n
theorem RvL.eraseIdx {h : Heap} : ∀ {a : List Va} {b : List Value} (n : Nat), RvL h a b → RvL h (a.eraseIdx n) (b.eraseIdx n)
 | [], _, _, e => by simp only [RvL] at e; subst e; exact RvL.nil
 | _ :: _, _, 0, e => by
  obtain ⟨y, ys, rfl, e2, e3⟩ := e.inv
  exact e3
 | _ :: _, _, n + 1, e => by
  obtain ⟨y, ys, rfl, e2, e3⟩ := e.inv
  exact RvL.cons e2 (e3.eraseIdx n)
inductive Ob where
 | list (vs : List Va)
 | inst (g : Nat) (d : Addr)
 | dict (fs : List (Nat × Va))
 | barr (b : List UInt8)
 | frame (ns : List (Str × Option Va))
 | cell (v : Option Va)
 | lit (l : Addr) (i : Nat)
 | rit (a c : Int)
noncomputable abbrev Led := List (Addr × Ob)
noncomputable def attrNames : List Str := ["parts", "data", "at", "number", "size", "smallest", "largest", "comparator", "log_number", "next_file", "last_seq",
 "compact_pointers", "deleted", "added", "reset", "level", "check", "index", "term", "conf_octets", "runs"]
noncomputable def zae (i : Nat) : Str := attrNames.getD i "?"
structure Wd where
 prog : Program
 w : World
 K : Frag
 h₀ : Heap
 os : OsState
 fa : Nat → Addr
noncomputable def Wd.P (W : Wd) : Params := W.w.params
noncomputable abbrev Wd.M (W : Wd) : Model := model W.prog W.w
noncomputable def clsIds : List Nat := [15, 16, 17, 18, 23, 24]
noncomputable def zqu (P : Params) (h : Heap) (e : DictEntry) (f : Nat × Va) : Prop := e.hash = PyData.keyHash P (zae f.1) ∧ (∃ t, e.key = .str (zae f.1) t) ∧ Rv h f.2 e.val
noncomputable def EntriesRel (P : Params) (h : Heap) : List DictEntry → List (Nat × Va) → Prop
 | [], fs => fs = []
 | e :: es, fs => Ex2 fun g gs => A3 (fs = g :: gs) (zqu P h e g) (EntriesRel P h es gs)
theorem EntriesRel.evo {P : Params} {h h' : Heap} (k : Evo h h') : ∀ {es : List DictEntry} {fs : List (Nat × Va)}, EntriesRel P h es fs → EntriesRel P h' es fs
 | [], _, e => e
 | _ :: _, _, ⟨g, gs, e1, ⟨a, b, c⟩, e3⟩ => ⟨g, gs, e1, ⟨a, b, c.evo k⟩, EntriesRel.evo k e3⟩
noncomputable def Den (W : Wd) (h : Heap) (a : Addr) : Ob → Prop
 | .list vs => Ex2 fun items n => A3 (IsL h a items n) (vs.length ≤ sizeLine) (RvL h vs items.toList)
 | .inst g d => h.get? a = some (instObj (W.fa g) d) ∧ clsIds.contains g = true
 | .dict fs => Ex2 fun es n => A3 (h.get? a = some (dictOf es n)) (EntriesRel W.P h es fs) (fs.length ≤ 100)
 | .barr b => h.get? a = some { cls := .type "bytearray", data := .bytearray ⟨b⟩ }
 | .frame ns => ∃ m, h.Ns a m ∧ ∀ x v, (x, some v) ∈ ns → ∃ u, m x = some u ∧ Rv h v u
 | .cell v => ∃ u, h.IsCell a u ∧ ∀ x, v = some x → ∃ y, u = some y ∧ Rv h x y
 | .lit l i => h.IsListIter a l i
 | .rit x n => IsRangeIter h a x n 1
noncomputable def Ob.isFrame : Ob → Bool
 | .frame _ => true
 | _ => false
theorem Den.ext {W : Wd} {h h' : Heap} {a : Addr} {ob : Ob} (x : Den W h a ob) (k : Evo h h') (q : ∀ o, h.get? a = some o → h'.get? a = some o) : Den W h' a ob := by
 cases ob with
 | list vs => obtain ⟨items, n, ho, z, r⟩ := x; exact ⟨items, n, q _ ho, z, r.evo k⟩
 | inst g d => exact ⟨q _ x.1, x.2⟩
 | dict fs => obtain ⟨es, n, ho, a4, a5⟩ := x; exact ⟨es, n, q _ ho, a4.evo k, a5⟩
 | barr b => exact q _ x
 | frame ns =>
  obtain ⟨m, ⟨o, es, ep, ho, hd, r⟩, z⟩ := x
  exact ⟨m, ⟨o, es, ep, q _ ho, hd, r⟩, fun x v hm => let ⟨u, e1, e2⟩ := z x v hm; ⟨u, e1, e2.evo k⟩⟩
 | cell v => obtain ⟨u, ⟨o, ho, hd⟩, a3⟩ := x; exact ⟨u, ⟨o, q _ ho, hd⟩, fun x e => let ⟨y, e1, e2⟩ := a3 x e; ⟨y, e1, e2.evo k⟩⟩
 | lit l i => obtain ⟨o, ho, r⟩ := x; exact ⟨o, q o ho, r⟩
 | rit a c => exact q _ x
theorem Den.frame_slots {W : Wd} {h h' : Heap} {a : Addr} {ns : List (Str × Option Va)} (x : Den W h a (.frame ns)) (k : h.UpToSlots h') : Den W h' a (.frame ns) := by
 obtain ⟨m, hn, z⟩ := x
 exact ⟨m, k.ns hn, fun x v hm => let ⟨u, e1, e2⟩ := z x v hm; ⟨u, e1, e2.evo (UpToSlots.evo k)⟩⟩
theorem Den.there {W : Wd} {h : Heap} {a : Addr} {ob : Ob} (x : Den W h a ob) : ∃ o, h.get? a = some o := by
 cases ob with
 | list vs => obtain ⟨items, n, ho, _⟩ := x; exact ⟨_, ho⟩
 | inst C d => exact ⟨_, x.1⟩
 | dict fs => obtain ⟨es, n, ho, _⟩ := x; exact ⟨_, ho⟩
 | barr b => exact ⟨_, x⟩
 | frame ns => obtain ⟨m, ⟨o, es, ep, ho, _⟩, _⟩ := x; exact ⟨o, ho⟩
 | cell v => obtain ⟨u, ⟨o, ho, _⟩, _⟩ := x; exact ⟨_, ho⟩
 | lit => obtain ⟨o, ho, _⟩ := x; exact ⟨o, ho⟩
 | rit => exact ⟨_, x⟩
theorem Den.noTup {W : Wd} {h : Heap} {a : Addr} {ob : Ob} (x : Den W h a ob) {o : Obj} (e : h.get? a = some o) : ¬ zoo o := by
 rintro ⟨hc, its, k, hd⟩
 cases ob with
 | list vs => obtain ⟨items, n, ho, _⟩ := x; rw [show h.get? a = _ from ho] at e; cases e; exact absurd (show Value.type "list" = .type "tuple" from hc) (by decide)
 | inst C d => rw [x.1] at e; cases e; cases hd
 | dict fs => obtain ⟨es, n, ho, _⟩ := x; rw [ho] at e; cases e; cases hd
 | barr b => rw [show h.get? a = _ from x] at e; cases e; cases hd
 | frame ns => obtain ⟨m, ⟨o', es, ep, ho, hd', _⟩, _⟩ := x; rw [e] at ho; cases ho; rw [hd'] at hd; cases hd
 | cell v => obtain ⟨u, ⟨o', ho, hd'⟩, _⟩ := x; rw [e] at ho; cases ho; rw [hd'] at hd; cases hd
 | lit => obtain ⟨o', ho, a1, _⟩ := x; rw [e] at ho; cases ho; rw [a1] at hc; exact absurd hc (by decide)
 | rit => rw [show h.get? a = _ from x] at e; cases e; cases hd
noncomputable def Ob.isIter : Ob → Bool
 | .lit .. | .rit .. => true
 | _ => false
theorem Den.noFields {W : Wd} {h : Heap} {a : Addr} {ob : Ob} (x : Den W h a ob) (hi : ob.isIter = false) {o : Obj} (e : h.get? a = some o) : zdn o := by
 intro vs hd
 cases ob with
 | list vs => obtain ⟨items, n, ho, _⟩ := x; rw [show h.get? a = _ from ho] at e; cases e; cases hd
 | inst C d => rw [x.1] at e; cases e; cases hd
 | dict fs => obtain ⟨es, n, ho, _⟩ := x; rw [ho] at e; cases e; cases hd
 | barr b => rw [show h.get? a = _ from x] at e; cases e; cases hd
 | frame ns => obtain ⟨m, ⟨o', es, ep, ho, hd', _⟩, _⟩ := x; rw [e] at ho; cases ho; rw [hd'] at hd; cases hd
 | cell v => obtain ⟨u, ⟨o', ho, hd'⟩, _⟩ := x; rw [e] at ho; cases ho; rw [hd'] at hd; cases hd
 | lit => cases hi
 | rit => cases hi
structure Sat (W : Wd) (led : Led) (s : Shared) : Prop where
 keep : Ext W.h₀ s.heap
 nd : (led.map (·.1)).Nodup
 den : ∀ p ∈ led, Den W s.heap p.1 p.2
 new : ∀ p ∈ led, W.h₀.get? p.1 = none
 gens : s.gens = #[]
 os : s.os = W.os
inductive Upd : Led → Addr → Ob → Ob → Led → Prop
 | here {a : Addr} {o o' : Ob} {l : Led} : Upd ((a, o) :: l) a o o' ((a, o') :: l)
 | there {a : Addr} {o o' : Ob} {c : Addr × Ob} {l l' : Led} : Upd l a o o' l' → Upd (c :: l) a o o' (c :: l')
theorem Upd.mem {l l' : Led} {a : Addr} {o o' : Ob} (x : Upd l a o o' l') : (a, o) ∈ l := by
 induction x with
 | here => exact List.Mem.head _
 | there _ ih => exact List.Mem.tail _ ih
theorem Upd.mem' {l l' : Led} {a : Addr} {o o' : Ob} (x : Upd l a o o' l') : (a, o') ∈ l' := by
 induction x with
 | here => exact List.Mem.head _
 | there _ ih => exact List.Mem.tail _ ih
theorem Upd.keys {l l' : Led} {a : Addr} {o o' : Ob} (x : Upd l a o o' l') : l'.map (·.1) = l.map (·.1) := by
 induction x with
 | here => rfl
 | there _ ih => simp only [List.map_cons, ih]
theorem Upd.old {l l' : Led} {a : Addr} {o o' : Ob} (x : Upd l a o o' l') : ∀ p ∈ l', p ∈ l ∨ p = (a, o') := by
 induction x with
 | here => intro p hp; cases hp with
  | head => exact .inr rfl
  | tail _ h => exact .inl (List.Mem.tail _ h)
 | there _ ih => intro p hp; cases hp with
  | head => exact .inl (List.Mem.head _)
  | tail _ h => exact (ih p h).imp (List.Mem.tail _) id
theorem Upd.append {l l' : Led} {a : Addr} {o o' : Ob} (x : Upd l a o o' l') : ∀ F : Led, Upd (F ++ l) a o o' (F ++ l')
 | [] => x
 | _ :: F => .there (x.append F)
theorem zbk {l : Led} (nd : (l.map (·.1)).Nodup) {a : Addr} {o o' : Ob} (h : (a, o) ∈ l) (h' : (a, o') ∈ l) : o = o' := by
 induction l with
 | nil => cases h
 | cons c l ih =>
  rw [List.map_cons, List.nodup_cons] at nd
  cases h with
  | head => cases h' with
   | head => rfl
   | tail _ h' => exact absurd (List.mem_map_of_mem (f := (·.1)) h') nd.1
  | tail _ h => cases h' with
   | head => exact absurd (List.mem_map_of_mem (f := (·.1)) h) nd.1
   | tail _ h' => exact ih nd.2 h h'
theorem Upd.away {l l' : Led} {a : Addr} {o o' : Ob} (x : Upd l a o o' l') (nd : (l.map (·.1)).Nodup) : ∀ p ∈ l', p = (a, o') ∨ (p ∈ l ∧ p.1 ≠ a) := by
 intro p hp
 rcases x.old p hp with h | h
 ·by_cases e : p.1 = a
  ·obtain ⟨b, ob⟩ := p
   cases e
   have : ob = o' := zbk (by rw [x.keys]; exact nd) hp x.mem'
   subst this; exact .inl rfl
  ·exact .inr ⟨h, e⟩
 ·exact .inl h
variable {W : Wd} {led led' : Led} {s s' : Shared}
theorem Sat.same (S : Sat W led s) (hh : s'.heap = s.heap) (hg : s'.gens = s.gens) (ho : s'.os = s.os) : Sat W led s' :=
 ⟨hh ▸ S.keep, S.nd, hh ▸ S.den, S.new, hg.trans S.gens, ho.trans S.os⟩
theorem Sat.ext (S : Sat W led s) (k : Ext s.heap s'.heap) (hg : s'.gens = s.gens) (ho : s'.os = s.os) : Sat W led s' :=
 ⟨S.keep.trans k, S.nd, fun p hp => (S.den p hp).ext k.evo fun o e => k _ o e, S.new, hg.trans S.gens, ho.trans S.os⟩
theorem Sat.perm (S : Sat W led s) (k : led.Perm led') : Sat W led' s :=
 ⟨S.keep, (k.map (·.1)).nodup_iff.mp S.nd, fun p hp => S.den p (k.mem_iff.mpr hp), fun p hp => S.new p (k.mem_iff.mpr hp), S.gens, S.os⟩
theorem Sat.sub (S : Sat W led s) (k : led'.Sublist led) : Sat W led' s :=
 ⟨S.keep, S.nd.sublist (k.map _), fun p hp => S.den p (k.subset hp), fun p hp => S.new p (k.subset hp), S.gens, S.os⟩
theorem Sat.off {a : Addr} (S : Sat W led s) (ha : a ∉ led.map (·.1)) (h0 : W.h₀.get? a = none) (k : Heap.ExtBut a s.heap s'.heap) (ev : Evo s.heap s'.heap) (hg : s'.gens = s.gens) (ho : s'.os = s.os) : Sat W led s' :=
 ⟨fun b o e => k b o (fun z => by subst z; rw [h0] at e; cases e) (S.keep b o e), S.nd,
  fun p hp => (S.den p hp).ext ev fun o e => k _ o (fun z => ha (z ▸ List.mem_map_of_mem (f := (·.1)) hp)) e, S.new, hg.trans S.gens, ho.trans S.os⟩
theorem Sat.upd {a : Addr} {ob ob' : Ob} (S : Sat W led s) (u : Upd led a ob ob' led') (k : Heap.ExtBut a s.heap s'.heap) (ev : Evo s.heap s'.heap) (d : Den W s'.heap a ob') (hg : s'.gens = s.gens) (ho : s'.os = s.os) : Sat W led' s' := by
 have h0 : W.h₀.get? a = none := S.new _ u.mem
 refine ⟨fun b o e => k b o (fun z => by subst z; rw [h0] at e; cases e) (S.keep b o e), by rw [u.keys]; exact S.nd, fun p hp => ?_, fun p hp => ?_, hg.trans S.gens, ho.trans S.os⟩
 ·rcases u.away S.nd p hp with rfl | ⟨hm, hne⟩
  ·exact d
  ·exact (S.den p hm).ext ev fun o e => k _ o hne e
 ·rcases u.away S.nd p hp with rfl | ⟨hm, _⟩
  ·exact h0
  ·exact S.new p hm
theorem Sat.alloc {a : Addr} {ob : Ob} (S : Sat W led s) (k : Ext s.heap s'.heap) (ha : s.heap.get? a = none) (d : Den W s'.heap a ob) (hg : s'.gens = s.gens) (ho : s'.os = s.os) : Sat W ((a, ob) :: led) s' := by
 have T := S.ext k hg ho
 have h0 : W.h₀.get? a = none := by
  cases q : W.h₀.get? a with
  | none => rfl
  | some o => have := S.keep a o q; rw [ha] at this; cases this
 refine ⟨T.keep, ?_, fun p hp => ?_, fun p hp => ?_, T.gens, T.os⟩
 ·rw [List.map_cons, List.nodup_cons]
  refine ⟨fun hm => ?_, S.nd⟩
  obtain ⟨p, hp, e⟩ := List.mem_map.mp hm
  obtain ⟨o, ho⟩ := (S.den p hp).there
  have e' : p.1 = a := e
  rw [e', ha] at ho; cases ho
 ·cases hp with
  | head => exact d
  | tail _ h => exact T.den p h
 ·cases hp with
  | head => exact h0
  | tail _ h => exact S.new p h
theorem Sat.get {a : Addr} {ob : Ob} (S : Sat W led s) (h : (a, ob) ∈ led) : Den W s.heap a ob := S.den _ h
theorem zbl (h : Heap) : h.get? h.objs.size = none := by
 cases q : h.get? h.objs.size with
 | none => rfl
 | some o => exact absurd (Heap.lt_size q) (Nat.lt_irrefl _)
structure Ctx (W : Wd) (A : Around) (h : Heap) : Prop where
 handled : A.handled = none
 frames : ∃ fr, A.frames = some fr ∧ h.FunFrames W.h₀ fr
theorem zdj {h h' base : Heap} (k : Evo h h') : ∀ {l : List Env}, h.FunFrames base l → h'.FunFrames base l
 | [], _ => trivial
 | _ :: _, ⟨a, ⟨L, o, b, c, d, e⟩, r⟩ => let ⟨o', d', e', _⟩ := k L o d e; ⟨a, ⟨L, o', b, c, d', e'⟩, zdj k r⟩
theorem Ctx.evo {A : Around} {h h' : Heap} (C : Ctx W A h) (k : Evo h h') : Ctx W A h' := ⟨C.handled, let ⟨fr, a, b⟩ := C.frames; ⟨fr, a, zdj k b⟩⟩
noncomputable def Room (r : Nat) (A : Around) : Prop := A.depth + 2 * r < 900 ∧ A.units + 10 * r < 9000
theorem Room.mono {r r' : Nat} {A : Around} (h : Room r A) (l : r' ≤ r) : Room r' A := ⟨by have := h.1; exact Nat.lt_of_le_of_lt (Nat.add_le_add_left (Nat.mul_le_mul_left _ l) _) this, by have := h.2; exact Nat.lt_of_le_of_lt (Nat.add_le_add_left (Nat.mul_le_mul_left _ l) _) this⟩
end
end LW.Internal
end
section
open PySem PySem.W PyProof.Rows
open Sem (wp)
namespace LW.Internal
section
noncomputable def heldIds : List String := Builtin.Bytes.decodersThatHold ++ ["bytearray.__contains__", "bytearray.__mod__", "bytearray.__rmod__", "_struct.pack_into.held", "bytearray.find.held"]
noncomputable def cln : Code → Bool
 | .builtin id _ => !heldIds.contains id
 | _ => true
noncomputable def Cln (l : List (Code × Pos)) : Prop := ∀ q ∈ l, cln q.1 = true
noncomputable def wc {α : Type} (M : Model) (A : Around) (t : Sem α) (Q : α → Shared → Prop) (E : Value → Shared → Prop) (s : Shared) : Prop :=
 ∀ Γ p, Γ.In A → cln Γ.code = true → Cln Γ.below → wp M Γ t (fun a _ s' => Q a s') (fun e _ s' => E e s') p s
noncomputable def zb6 (M : Model) (A : Around) (c : Code) (R : Result → Shared → Prop) (s : Shared) : Prop :=
 ∀ Γ p, Γ.code = c → Γ.Below A → Cln Γ.below → wpCode M Γ R p s
section
variable {α β : Type} {M : Model} {A : Around} {E E' : Value → Shared → Prop} {s : Shared}
theorem zah {t : Sem α} {Q : α → Shared → Prop} (h : wpAny M A t Q E s) : wc M A t Q E s := fun Γ p hΓ _ _ => h Γ p hΓ
theorem zrc {c : Code} {R : Result → Shared → Prop} (h : codeAny M A c R s) : zb6 M A c R s := fun Γ p hc hΓ _ => h Γ p hc hΓ
theorem zaj {a : α} {Q : α → Shared → Prop} (h : Q a s) : wc M A (pure a) Q E s := fun _ _ _ _ _ => h
theorem wc_throw {e : Value} {Q : α → Shared → Prop} (h : E e s) : wc M A (throw e : Sem α) Q E s := fun _ _ _ _ _ => h
theorem zaa {t : Sem α} {Q Q' : α → Shared → Prop} (h : wc M A t Q E s) (hQ : ∀ a s, Q a s → Q' a s) (hE : ∀ e s, E e s → E' e s) : wc M A t Q' E' s :=
 fun Γ p hΓ a b => Sem.wp_mono M Γ t (fun a _ s => hQ a s) (fun e _ s => hE e s) p s (h Γ p hΓ a b)
theorem zab {m : Sem α} {f : α → Sem β} {Q : β → Shared → Prop} (h : wc M A m (fun a s' => wc M A (f a) Q E s') E s) : wc M A (m >>= f) Q E s := fun Γ p hΓ a b => by
 rw [Sem.wp_bind']
 exact Sem.wp_mono M Γ m (fun x p' s' h' => h' Γ p' hΓ a b) (fun _ _ _ h' => h') p s (h Γ p hΓ a b)
theorem zaf {m : Sem α} {f : α → Sem β} {Q : β → Shared → Prop} (h : wpAny M A m (fun a s' => wc M A (f a) Q E s') E s) : wc M A (m >>= f) Q E s := zab (zah h)
theorem zri {m : Sem α} {k : Value → Sem α} {Q : α → Shared → Prop} (h : wc M A m Q (fun e s' => wc M A (k e) Q E s') s) : wc M A (tryCatch m k) Q E s := fun Γ p hΓ a b => by
 rw [Sem.wp_tryCatch']
 exact Sem.wp_mono M Γ m (fun _ _ _ h' => h') (fun e p' s' h' => h' Γ p' hΓ a b) p s (h Γ p hΓ a b)
theorem zb7 {m : Sem α} {k : Value → Sem Unit} {Q : α → Shared → Prop} (h : wc M A m Q (fun e s' => wc M A (k e) (fun _ s'' => E e s'') E s') s) : wc M A (m.onRaise k) Q E s := fun Γ p hΓ a b => by
 rw [Sem.wp_onRaise]
 exact Sem.wp_mono M Γ m (fun _ _ _ h' => h') (fun e p' s' h' => h' Γ p' hΓ a b) p s (h Γ p hΓ a b)
theorem zg6 {m : Sem α} {Q : Except Value α → Shared → Prop} (h : wc M A m (fun a => Q (.ok a)) (fun e => Q (.error e)) s) : wc M A m.attempt Q E s := fun Γ p hΓ a b => by
 rw [Sem.wp_attempt]; exact h Γ p hΓ a b
theorem zam {vs : List Value} {m : Sem α} {Q : α → Shared → Prop} (h : wc M A m Q E s) : wc M A (holding vs m) Q E s := fun Γ p hΓ a b => by
 rw [Sem.wp_holding]; exact h Γ p hΓ a b
theorem zag {pos : Pos} {m : Unit → Sem β} {Q : β → Shared → Prop} (h : wc M A (m ()) Q E s) : wc M A (standAt pos >>= m) Q E s := zab (fun _ _ _ _ _ => h)
theorem zda {vs : List Value} {m : Sem Value} {Q : Value → Shared → Prop} (h : wc M A m Q E s) : wc M A (operate vs m) Q E s := fun Γ p hΓ a b => by
 rw [Sem.wp_operate]; exact h Γ p hΓ a b
theorem zbu {c : Prop} [Decidable c] {x y : Sem α} {Q : α → Shared → Prop} (hc : c) (h : wc M A x Q E s) : wc M A (if c then x else y) Q E s := by rw [if_pos hc]; exact h
theorem zat {c : Prop} [Decidable c] {x y : Sem α} {Q : α → Shared → Prop} (hc : ¬ c) (h : wc M A y Q E s) : wc M A (if c then x else y) Q E s := by rw [if_neg hc]; exact h
theorem zi0 {Γ : PySem.Ctx} {c : Code} {hd : Option Value} {p : Pos} (a : cln Γ.code = true) (b : Cln Γ.below) : Cln (Γ.enter c hd p).below := by
 intro q hq
 have hq' : q ∈ (Γ.code, p) :: Γ.below := hq
 cases hq' with
 | head => exact a
 | tail _ h => exact b q h
theorem zqw {c : Code} {h : Option Value} {Q : Flow → Shared → Prop} (hc : zb6 M (A.mark h) c (fun r s' => match r with | .ok f => Q f s' | .error e => E e s') s) (hnb : h ≠ some byPass := by intro x; cases x) :
  wc M A (run c h) Q E s := fun Γ p hΓ a b => by rw [Sem.wp_run]; exact hc _ p rfl (hΓ.enter c h p hnb) (zi0 a b)
theorem zjg {c : Code} {Q : Value → Shared → Prop} (hc : zb6 M A c (fun r s' => match r with | .ok (.ret v) => Q v s' | .ok _ => False | .error e => E e s') s) :
  wc M A (runValue c) Q E s := fun Γ p hΓ a b => by rw [Sem.wp_runValue]; exact hc _ p rfl (hΓ.enter c none p (by intro x; cases x)) (zi0 a b)
theorem ze8 {f : Value} {pos : List Value} {kw : List (Str × Value)} {Q : Value → Shared → Prop}
  (hc : zb6 M A (.call f ⟨pos, kw⟩) (fun r s' => match r with | .ok (.ret v) => Q v s' | .ok _ => False | .error e => E e s') s) : wc M A (call f pos kw) Q E s := zjg hc
theorem zcc {c : Code} {R R' : Result → Shared → Prop} (h : zb6 M A c R s) (hR : ∀ r s, R r s → R' r s) : zb6 M A c R' s :=
 fun Γ p hc hΓ b => wpCode_mono hR (h Γ p hc hΓ b)
theorem zaz {c : Code} {R : Result → Shared → Prop} (hcl : cln c = true)
  (h : wc M (A.under c) (M.den c) (fun fin s' => match fin with | .done f => R (.ok f) s' | .again c' => c'.quiet = true ∧ zb6 M A c' R s')
   (fun e s' => R (.error e) s') s) : zb6 M A c R s := fun Γ p hc hΓ b => by
 rw [wpCode_iff_wp, hc]
 refine Sem.wp_mono M Γ _ (fun fin p' s' h' => ?_) (fun _ _ _ h' => h') p s (h Γ p (hc ▸ hΓ.in) (hc ▸ hcl) b)
 cases fin with
 | done f => exact h'
 | again c' => exact ⟨h'.1, h'.2 (Γ.goto c') p' rfl (hΓ.goto c') b⟩
theorem zff {c : Code} {R : Result → Shared → Prop} (hcl : cln c = true) (hq : c.quiet = true) (I : Nat → Shared → Prop)
  (turn : ∀ n s, I n s → wc M (A.under c) (M.den c)
   (fun fin s' => match fin with
    | .done f => R (.ok f) s'
    | .again c' => (c' = c ∧ ∃ m, m < n ∧ I m s') ∨ (c'.quiet = true ∧ zb6 M A c' R s')) (fun e s' => R (.error e) s') s)
  (n : Nat) (h : I n s) : zb6 M A c R s := by
 induction n using Nat.strongRecOn generalizing s with
 | ind n ih =>
  refine zaz hcl (zaa (turn n s h) (fun fin s' hf => ?_) fun _ _ h' => h')
  cases fin with
  | done f => exact hf
  | again c' =>
   rcases hf with ⟨rfl, m, hm, hI⟩ | hf
   ·exact ⟨hq, ih m hm hI⟩
   ·exact hf
end
theorem zua {f : Code × Pos → Bool} (hf : ∀ c p, cln c = true → f (c, p) = false) {l : List (Code × Pos)} (hl : Cln l) : l.any f = false :=
 List.any_eq_false.mpr fun q hq => by rw [hf q.1 q.2 (hl q hq)]; exact Bool.false_ne_true
theorem zf0 {M : Model} {A : Around} {E : Value → Shared → Prop} {s : Shared} {self : Value} {Q : Bool → Shared → Prop} (h : Q false s) : wc M A (Builtin.Bytes.exported self) Q E s := fun Γ p hΓ a b => by
 have hl : Cln ((Γ.code, p) :: Γ.below) := fun q hq => by
  rcases List.mem_cons.mp hq with rfl | m
  ·exact a
  ·exact b q m
 refine Eq.mpr (congrArg (fun z => Q z s) (zua (fun c p hc => ?_) hl)) h
 cases c with
 | builtin id args =>
  obtain ⟨ps, kw⟩ := args
  have ne : ∀ z : String, cln (.builtin z {}) = false → ¬ id = z := fun z hz e => by
   subst e
   exact Bool.false_ne_true (hz.symm.trans hc)
  delta Builtin.Bytes.exported.match_1
  refine (dif_neg (ne _ (by decide +kernel))).trans ((dif_neg (ne _ (by decide +kernel))).trans ((dif_neg (ne _ (by decide +kernel))).trans ((dif_neg (ne _ (by decide +kernel))).trans ((dif_neg (ne _ (by decide +kernel))).trans ?_))))
  have hd : Builtin.Bytes.decodersThatHold.contains id = false := by
   cases z : Builtin.Bytes.decodersThatHold.contains id with
   | false => rfl
   | true =>
    have : heldIds.contains id = true := List.contains_iff_mem.mpr (List.mem_append_left _ (List.contains_iff_mem.mp z))
    have : cln (.builtin id ⟨ps, kw⟩) = false := congrArg (!·) this
    exact absurd hc (by rw [this]; exact Bool.false_ne_true)
  cases ps with
  | nil => rfl
  | cons v t => exact (congrArg (_ && ·) hd).trans (Bool.and_false _)
 | _ => rfl
end
end LW.Internal
end
section
open PySem PySem.W PyProof.Rows PySem.Calls PySem.Spec
open Sem (wp)
namespace LW.Internal
noncomputable abbrev asks (t : Sem Fin) : Thread := ⟨t, .builtin "claim.caller" {}, default, []⟩
theorem zl0 {p : Program} {w : World} {t : Sem Fin} {s : Shared} {R : Result → Shared → Prop} (z : s.asleep)
  (h : wc (model p w) callerA t (fun x s' => ∃ f, x = .done f ∧ R (.ok f) s' ∧ AllBare s'.gens) (fun e s' => R (.error e) s' ∧ AllBare s'.gens) s) :
  Ex4 fun n r s' s'' => A5 (schedN (denote table) p w n (.single s (asks t)) = .halted (outcomeOf r) s') (s'.heap.life = s.heap.life) (s'.heap = s''.heap) (s'.os = s''.os) (R r s'') := by
 refine cps fun G k => ?_
 obtain ⟨n, r, a, b, e1, e2, e3, e4⟩ := wp_halts_full (M := model p w) (p := default) (R := R) z
  (Sem.wp_mono (model p w) _ t (fun x q s' e => by obtain ⟨f, rfl, u, v⟩ := e; exact ⟨u, leftWithCleanup_false_of_bare v⟩) (fun e q s' g => ⟨g.1, leftWithCleanup_false_of_bare g.2⟩) default s
   (h ⟨.builtin "claim.caller" {}, none, none, [], none⟩ default caller_in (by decide +kernel) fun q hq => nomatch hq))
 have same := Shared.forget_eq e3
 exact k ⟨n, r, b, a, e1, runN_life _ _ _ e2, same.1, same.2.2.2.1, e4⟩
structure Begun (q : Program) (loose : List Str) (XP : (Str → Option Value) → Heap → Prop) (YP : World → Heap → Prop) (r : RowW) (w : World) (s₀ s : Shared) (mg mb : Str → Option Value) (args : List WData) (vals : List Value) (as : List Addr) : Prop where
 ground : Ground q loose r.records XP w s₀ mg mb s.heap
 hook : YP w s.heap
 asked : r.claim.pre args = true
 can : WData.layableAll args = true
 laid : Laid r.records w s₀ s args vals as
 low : ∀ a ∈ as, (a == sysModules) = false
noncomputable abbrev zon (r : RowW) (s₀ s : Shared) (args : List WData) (x : Result) (s' : Shared) : Prop := GoodWG r.claim (classAt s₀.heap) (ExcName.means s₀.heap) args s x s'
noncomputable abbrev WalkC (q : Program) (loose : List Str) (XP : (Str → Option Value) → Heap → Prop) (YP : World → Heap → Prop) (r : RowW) (name : Str) : Prop :=
 ∀ {w : World} {s₀ s : Shared} {mg mb : Str → Option Value} {args : List WData} {vals : List Value} {as : List Addr} {a : Addr}, Begun q loose XP YP r w s₀ s mg mb args vals as → mg name = some (.ref a) →
  wc (model r.prog w) callerA (PySem.call (.ref a) vals) (fun v => zon r s₀ s args (.ok (.ret v))) (fun e => zon r s₀ s args (.error e)) s
theorem zg2 {r : RowW} {w : World} {s : Shared} {tree : List Value → Sem Fin} {free : Addr → Prop} {gens : Prop} {kept : Heap → Prop} (z : s.asleep) (bare : s.gens = #[]) (fr : frees r = true) (wi : r.within = [])
  (cls : ∀ c, (r.records.fields? c).isSome = true → (classAt s.heap c).isSome = true) (keep : ∀ s₁ s' : Shared, (∀ b o, s.heap.get? b = some o → s₁.heap.get? b = some o) → OldK s₁.heap s'.heap → kept s'.heap)
  (walk : ∀ args vs s₁ as, r.claim.pre args = true → WData.layableAll args = true → Laid r.records w s s₁ args vs as →
   wc (model r.prog w) callerA (tree vs) (fun x s' => ∃ f, x = .done f ∧ zon r s s₁ args (.ok f) s') (fun e => zon r s s₁ args (.error e)) s₁) :
  r.claim.CallFrom (fun vs => asks (tree vs)) w free gens kept s := by
 intro args asked can ord perm
 refine cps fun G k => ?_
 obtain ⟨p, lay⟩ := Option.isSome_iff_exists.mp (layAllW_isSome (P := w.params) (ord := ord) cls args r.args s (pre_splitW asked).1)
 obtain ⟨vs, s₁⟩ := p
 obtain ⟨as, rd, fresh, stand⟩ := reads_layAllW perm _ _ _ lay can s₁.heap fun _ _ e => e
 have al := layAllW_rest _ _ _ lay
 have L : Laid r.records w s s₁ args vs as := { laid := ⟨ord, perm, lay⟩, reads := rd, within := fresh, old := stand, keeps := layAllW_keeps _ _ _ lay, gens := al.1.trans bare, os := al.2.2.1 }
 obtain ⟨n, x, s', s'', run, life, hp, os, m⟩ := zl0 (R := fun x s' => zon r s s₁ args x s') (Shared.asleep_of_life al.2.2.2 z)
  (zaa (walk args vs s₁ as asked can L) (fun _ s' e => by obtain ⟨f, rfl, m⟩ := e; exact ⟨f, rfl, m, m.2.2.2⟩) fun _ _ m => ⟨m, m.2.2.2⟩)
 have fp := frees_parts fr
 have E := (m.laid (c := r.claim) fp.1 wi (ident_freeW fp.2.1 fp.2.2.1 fp.2.2.2.1) L).1.congr hp
 refine k ⟨vs, s₁, lay, n, _, s', run, E.imp ?_ ?_, fun _ i y hy => ?_, keep s₁ s' L.keeps (hp ▸ m.2.1), congrArg _ (life.trans al.2.2.2), Shared.rest_eq (os.trans (m.2.2.1.trans L.os))⟩
 ·rintro ⟨v, rfl, a, b, c, d, e⟩
  exact ⟨v, rfl, a, b, c, fun x o h _ => d x o h, e⟩
 ·rintro ⟨e, ob, c, rfl, a, b, d, f, g⟩
  exact ⟨e, ob, c, rfl, a, b, d, f, fun x o h _ => g x o h⟩
 ·rw [bare] at hy
  simp at hy
theorem PySem.W.holds_open {r : OpenRow} {q : Program} {loose : List Str} {Xt : Shared → Bool} {XP : (Str → Option Value) → Heap → Prop} {α : Type} {Yf : Shared → α} {Ya : World → α} {YP : World → Heap → Prop} {d : DefRec} {kwd : List (Str × Expr)} {N : Nat}
  (left : LeftO r.prog q loose Xt Yf Ya N) (says : ∀ w s, Yf s = Ya w → YP w s.heap) (stays : ∀ w h h', YP w h → (∀ b o, h.get? b = some o → h'.get? b = some o) → YP w h')
  (read : ∀ s, Xt s = true → XP (s.heap.nsMap mainGlobals) s.heap) (reads : ∀ mg h h', XP mg h → (∀ b o, h.get? b = some o → h'.get? b = some o) → XP mg h')
  (isDef : defOf q r.name = some (d, kwd)) (written : r.prog.theDef r.name = some (d.params, d.body, d.scope)) (kws : kwWritten? d.params.kwonlyargs d.params.kw_defaults = some kwd)
  (recs : ∀ s, Xt s = true → RecFacts r.records s.heap) (noTab : (!r.writes || r.records.isEmpty) = true) (said : r.wellSaid = true) (ok : (chainsOk q && opensWell r.prog && (frees r.toRowW && r.within.isEmpty)) = true) (bare : r.prog.bare) (wit : r.toRowW.promised)
  (call : WalkC q loose XP YP r.toRowW r.name) : r.Holds := by
 simp only [Bool.and_eq_true, List.isEmpty_iff] at ok
 obtain ⟨⟨ch, ow⟩, fr, wi⟩ := ok
 refine ⟨said, wit, ⟨bare, ow, (congrArg (List.map _) (frees_parts fr).2.2.2.2).trans rfl⟩, wit.witness, fun w => ?_⟩
 refine cps fun G k => ?_
 obtain ⟨ran, after⟩ := left.behind (XP := fun mg h => XP mg h ∧ RecFacts r.records h) (fun s e => ⟨read s e, recs s e⟩) ch w
 refine k ⟨ran, fun s' A => ?_⟩
 refine cps fun G k => ?_
 obtain ⟨s₀, f1, f2, s, top, z, g0, ns, B, y⟩ := after s' A
 have B0 : Ground q loose [] XP w s (s.heap.nsMap mainGlobals) (s.heap.nsMap builtinsNs) s.heap := { B with X := B.X.1 }
 have B1 : Ground q loose r.records XP w s (s.heap.nsMap mainGlobals) (s.heap.nsMap builtinsNs) s.heap := B.X.2.ground B0
 have g : s.gens = #[] := Array.eq_empty_of_size_eq_zero (beq_iff_eq.mp g0)
 refine k ⟨s₀, f1, f2, s, top, fun n m => ?_, B.X.2.1, B.X.2.2.1, zg2 (r := r.toRowW) z g fr wi B1.has (fun s₁ s' k o q => ⟨namesKept_of top ns r.keeps k o.old, noTable noTab q⟩) fun args vs s₁ as asked can L => ?_⟩
 ·cases e : r.pinned <;> rw [e] at m
  ·cases m
  ·rw [List.mem_singleton.mp m]
   exact pinned_of_view ns B0 isDef written kws
 ·have D : Begun q loose XP YP r.toRowW w s s₁ (s.heap.nsMap mainGlobals) (s.heap.nsMap builtinsNs) args vs as :=
   { ground := B1.keeps reads L.keeps, hook := stays _ _ _ (says w s y) L.keeps, asked := asked, can := can, laid := L, low := L.low B1.low }
  obtain ⟨a, _, _, _, _, _, _, at_, _⟩ := D.ground.fn isDef
  refine zaf (wpAny_nsGet D.ground.T.g ?_)
  rw [at_]
  exact zab (zaa (call D at_) (fun v s' m => zaj ⟨_, rfl, m⟩) fun _ _ m => m)
end LW.Internal
end
section
open PySem PySem.W PyProof.Rows PySem.Calls
open Sem (wp)
namespace LW.Internal
section
inductive BOp | add | sub | mul | fdiv | mod | pow | band | bor | shr | shl
inductive COp | lt | le | gt | ge | eq | ne
noncomputable def BOp.op : BOp → Operator
 | .add => .Add | .sub => .Sub | .mul => .Mult | .fdiv => .FloorDiv | .mod => .Mod | .pow => .Pow | .band => .BitAnd | .bor => .BitOr | .shr => .RShift | .shl => .LShift
noncomputable def COp.op : COp → CmpOp
 | .lt => .Lt | .le => .LtE | .gt => .Gt | .ge => .GtE | .eq => .Eq | .ne => .NotEq
noncomputable def Sm (a : Int) : Prop := -(2 ^ 64) < a ∧ a < 2 ^ 64
theorem Sm.abs {a : Int} (h : Sm a) : a.natAbs < 2 ^ 64 := by obtain ⟨h1, h2⟩ := h; lia -abstractProof
noncomputable def asI (v : Va) (k : Int → Prop) : Prop := match v with
 | .int a => k a
 | _ => False
noncomputable def asB (v : Va) (k : List UInt8 → Prop) : Prop := match v with
 | .bytes a => k a
 | _ => False
theorem zjd {v : Va} {k : Int → Prop} {P : Va → Prop} (h : asI v k) (f : ∀ a, k a → P (.int a)) : P v := by
 cases v <;> first | exact h.elim | exact f _ h
theorem asB_E {v : Va} {k : List UInt8 → Prop} {P : Va → Prop} (h : asB v k) (f : ∀ a, k a → P (.bytes a)) : P v := by
 cases v <;> first | exact h.elim | exact f _ h
noncomputable def binI (o : BOp) (a b : Int) (k : Int → Prop) : Prop := match o with
 | .add => k (a + b)
 | .sub => k (a - b)
 | .mul => Sm a ∧ k (a * b)
 | .fdiv => (0 < b ∧ b < 2 ^ 64) ∧ k (a / b)
 | .mod => (0 < b ∧ b < 2 ^ 64) ∧ k (a % b)
 | .pow => (0 ≤ b ∧ b ≤ 1000000 ∧ Sm a) ∧ k (a ^ b.toNat)
 | .band => k (Builtin.bitAnd a b)
 | .bor => k (Builtin.bitOr a b)
 | .shr => 0 ≤ b ∧ k (a / 2 ^ b.toNat)
 | .shl => (0 ≤ b ∧ b ≤ 1000000 ∧ Sm a) ∧ k (a * 2 ^ b.toNat)
noncomputable def binB (o : BOp) (a : List UInt8) (w : Va) (k : List UInt8 → Prop) : Prop := match o with
 | .add => asB w fun b => a.length + b.length ≤ 16777216 ∧ k (a ++ b)
 | .mul => asI w fun n => a ≠ [] ∧ 2 ≤ n ∧ n ≤ 1000 ∧ a.length ≤ 1000 ∧ k (List.replicate n.toNat a).flatten
 | _ => False
noncomputable def binW (o : BOp) (v w : Va) (k : Va → Prop) : Prop := match v with
 | .int a => asI w fun b => binI o a b fun i => k (.int i)
 | .bytes a => binB o a w fun l => k (.bytes l)
 | _ => False
section
variable {W : Wd} {A : Around} {E : Value → Shared → Prop} {s : Shared} {h : Heap} {a b : Va} {va vb : Value} {k : Va → Prop}
inductive Reck (s : Shared) (k : Va → Prop) (v : Value) (s' : Shared) : Prop
 | mk : s'.heap = s.heap → s'.gens = s.gens → s'.os = s.os → (mv : Va) → Rv s.heap mv v → k mv → Reck s k v s'
theorem Reck.int {i : Int} {t : Tok} {n : Nat} (h : k (.int i)) : Reck s k (.int i t) { s with toks := n } := ⟨rfl, rfl, rfl, _, by simp only [Rv]; exact ⟨t, rfl⟩, h⟩
theorem Reck.bytes {l : List UInt8} {t : Tok} {n : Nat} (h : k (.bytes l)) : Reck s k (.bytes ⟨l⟩ t) { s with toks := n } := ⟨rfl, rfl, rfl, _, by simp only [Rv]; exact ⟨t, rfl⟩, h⟩
theorem Reck.bool {l : Bool} {n : Nat} (h : k (.bool l)) : Reck s k (.bool l) { s with toks := n } := ⟨rfl, rfl, rfl, _, by simp only [Rv], h⟩
theorem zcj {i : Int} (h : Rv s.heap (.int i) va) : ∃ t, va = .int i t := by simpa only [Rv] using h
theorem zdf {i : List UInt8} (h : Rv s.heap (.bytes i) va) : ∃ t, va = .bytes ⟨i⟩ t := by simpa only [Rv] using h
theorem zf6 (h : Rv s.heap .none va) : va = .none := by simpa only [Rv] using h
theorem zds {b : Bool} (h : Rv s.heap (.bool b) va) : va = .bool b := by simpa only [Rv] using h
theorem zb2 {b : Addr} (h : Rv s.heap (.ref b) va) : va = .ref b := by simpa only [Rv] using h
theorem zjt {a b : Int} (h : Sm a) : IntMulOk a b := IntMulOk.of_left (intBits_le_64 h.1 h.2)
theorem zn2 (a b : List UInt8) : ((⟨a⟩ : Array UInt8) ++ (⟨b⟩ : Array UInt8)) = ⟨a ++ b⟩ := Array.ext' (by simp)
theorem noPy {x y : Int} (h0 : 0 < y) (h : y < 2 ^ 64) : Builtin.divisionGoesByPylong x y = false := by
 refine PyProof.noPylong_of_log2 ?_
 have h1 : y.natAbs < 2 ^ 64 := Int.ofNat_lt.mp ((Int.natAbs_of_nonneg (Int.le_of_lt h0)).symm ▸ h)
 have := (Nat.log2_lt (Int.natAbs_ne_zero.mpr (Int.ne_of_gt h0))).mpr h1
 exact Nat.lt_of_lt_of_le this (by decide)
theorem zhx {P : Value → Prop} {i : Int} (h : Rv s.heap (.int i) va) (f : ∀ t, P (.int i t)) : P va := let ⟨_, e⟩ := zcj h; e ▸ f _
theorem zfg {P : Value → Prop} {i : List UInt8} (h : Rv s.heap (.bytes i) va) (f : ∀ t, P (.bytes ⟨i⟩ t)) : P va := let ⟨_, e⟩ := zdf h; e ▸ f _
theorem zqs {o : BOp} {a b : Int} {t u : Tok} (hk : binI o a b fun i => k (.int i)) : wpAny W.M A (binaryOp o.op (.int a t) (.int b u)) (Reck s k) E s := by
 cases o
 ·exact wpAny_add_int (Reck.int hk)
 ·exact PyProof.Rows.sub_int (Reck.int hk)
 ·exact PyProof.Rows.mul_int (Reck.int hk.2) (zjt hk.1)
 ·exact PyProof.Rows.floordiv_int (Int.ne_of_gt hk.1.1) (Int.fdiv_eq_ediv_of_nonneg _ (Int.le_of_lt hk.1.1) ▸ Reck.int hk.2) (.inl (noPy hk.1.1 hk.1.2))
 ·exact PyProof.Rows.mod_int' (Int.ne_of_gt hk.1.1) (Int.fmod_eq_emod_of_nonneg _ (Int.le_of_lt hk.1.1) ▸ Reck.int hk.2)
 ·exact PyProof.Rows.pow_int_small hk.1.1 hk.1.2.1 hk.1.2.2.abs (Reck.int hk.2)
 ·exact PyProof.Rows.and_int (Reck.int hk)
 ·exact PyProof.Rows.or_int (Reck.int hk)
 ·exact PyProof.Rows.rshift_int hk.1 (Int.fdiv_eq_ediv_of_nonneg _ (Int.le_of_lt (Int.pow_pos (show (0 : Int) < 2 by decide))) ▸ Reck.int hk.2)
 ·exact PyProof.Rows.lshift_int_small hk.1.1 hk.1.2.1 hk.1.2.2.abs (Reck.int hk.2)
theorem zqt {o : BOp} {a : List UInt8} {t : Tok} (hb : Rv s.heap b vb) (hk : binB o a b fun i => k (.bytes i)) : wpAny W.M A (binaryOp o.op (.bytes ⟨a⟩ t) vb) (Reck s k) E s := by
 cases o <;> first | exact hk.elim | skip
 ·exact asB_E (P := fun b => Rv s.heap b vb → wpAny W.M A (binaryOp .Add (.bytes ⟨a⟩ t) vb) (Reck s k) E s) hk (fun b hk hb => zfg (P := fun v => wpAny W.M A (binaryOp .Add (.bytes ⟨a⟩ t) v) (Reck s k) E s) hb
   fun u => KBy.add_bytes hk.1 fun t' n => (zn2 a b).symm ▸ Reck.bytes hk.2) hb
 ·exact zjd (P := fun b => Rv s.heap b vb → wpAny W.M A (binaryOp .Mult (.bytes ⟨a⟩ t) vb) (Reck s k) E s) hk (fun b hk hb => zhx (P := fun v => wpAny W.M A (binaryOp .Mult (.bytes ⟨a⟩ t) v) (Reck s k) E s) hb
   fun u => let ⟨h1, h2, h3, h4, h5⟩ := hk
    bytes_mul_K h1 h2 (by exact Int.le_trans h3 (by decide)) (Nat.le_trans (Nat.mul_le_mul h4 (show Int.toNat _ ≤ 1000 by lia -abstractProof)) (by decide)) rfl fun t' n => Reck.bytes h5) hb
theorem zt6 {o : BOp} (ha : Rv s.heap a va) (hb : Rv s.heap b vb) (hk : binW o a b k) : wpAny W.M A (binaryOp o.op va vb) (Reck s k) E s := by
 cases a <;> first | exact hk.elim | skip
 ·exact zhx (P := fun v => wpAny W.M A (binaryOp o.op v vb) (Reck s k) E s) ha fun t => zjd (P := fun b => Rv s.heap b vb → wpAny W.M A (binaryOp o.op (.int _ t) vb) (Reck s k) E s) hk
   (fun b hk hb => zhx (P := fun v => wpAny W.M A (binaryOp o.op (.int _ t) v) (Reck s k) E s) hb fun u => zqs hk) hb
 ·exact zfg (P := fun v => wpAny W.M A (binaryOp o.op v vb) (Reck s k) E s) ha fun t => zqt hb hk
end
end
section
noncomputable def flatV (f : List Va → Bool) (v : Va) : Bool := match v with
 | .tup vs => f vs
 | .ref _ => false
 | _ => true
noncomputable def flat : Nat → Va → Bool
 | 0 => flatV fun _ => false
 | n + 1 => flatV fun vs => vs.all (flat n)
noncomputable def cmpI (o : COp) (a b : Int) (k : Bool → Prop) : Prop := match o with
 | .lt => k (decide (a < b))
 | .le => k (decide (a ≤ b))
 | .gt => k (decide (b < a))
 | .ge => k (decide (b ≤ a))
 | .eq => k (decide (a = b))
 | .ne => k (!decide (a = b))
noncomputable def cmEN (o : COp) (p q : Prop) : Prop := match o with
 | .eq => p
 | .ne => q
 | _ => False
noncomputable def cmpW (o : COp) (v w : Va) (k : Bool → Prop) : Prop := match v with
 | .int a => (match w with
  | .int b => cmpI o a b k
  | .none => cmEN o (k false) False
  | _ => False)
 | .bytes a => (match w with
  | .bytes b => cmEN o (k (decide (a = b))) (k (!decide (a = b)))
  | .none => cmEN o (k false) False
  | _ => False)
 | .tup a => (match w with
  | .tup b => cmEN o ((a = b ∧ flat 7 (.tup a) = true) ∧ k true) ((a = b ∧ flat 7 (.tup a) = true) ∧ k false)
  | _ => False)
 | _ => False
theorem zhm {o : COp} {p q : Prop} {P : COp → Prop} (h : cmEN o p q) (f : p → P .eq) (g : q → P .ne) : P o := by
 cases o <;> first | exact h.elim | exact f h | exact g h
noncomputable def isB (k : Bool → Prop) : Va → Prop
 | .bool b => k b
 | _ => False
theorem zkb {α : Type} [BEq α] [LawfulBEq α] [DecidableEq α] (a b : α) : (a == b) = decide (a = b) := by rw [Bool.eq_iff_iff]; simp
theorem zoa {α : Type} [BEq α] [LawfulBEq α] [DecidableEq α] (a b : α) : (a != b) = !decide (a = b) := by rw [← zkb]; rfl
theorem barr_dec (a b : List UInt8) : ((⟨a⟩ : Array UInt8) == ⟨b⟩) = decide (a = b) := by rw [Bool.eq_iff_iff]; simp
section
variable {W : Wd} {A : Around} {E : Value → Shared → Prop} {s : Shared} {a b : Va} {va vb : Value} {k : Bool → Prop}
theorem zrg {xs : Array Value} {j : Nat} {z : Value} (h1 : j < xs.size) (e : xs.toList[j]? = some z) : xs[j] = z :=
 Option.some.inj ((Array.getElem?_eq_getElem h1).symm.trans (Array.getElem?_toList.symm.trans e))
theorem zjk {h : Heap} {vs : List Va} {xs ys : Array Value} (rx : RvL h vs xs.toList) (ry : RvL h vs ys.toList) : ((List.range (min xs.size ys.size)).all (fun _ => true) && xs.size == ys.size) = true :=
 Bool.and_eq_true_iff.mpr ⟨List.all_eq_true.mpr fun _ _ => rfl, beq_iff_eq.mpr (rx.len.trans ry.len.symm)⟩
theorem zjj {n : Nat} {vs : List Va} {xs ys : Array Value} (ih : ∀ (mv : Va) (v v' : Value), flat n mv = true → Rv s.heap mv v → Rv s.heap mv v' → SeqAt.EqAt A s v v' true) (rx : RvL s.heap vs xs.toList) (ry : RvL s.heap vs ys.toList)
  (hf : vs.all (flat n) = true) (j : Nat) (h1 : j < xs.size) (h2 : j < ys.size) : SeqAt.EqAt A s xs[j] ys[j] true :=
 have hj : j < vs.length := rx.len ▸ h1
 let ⟨_, e1, e2⟩ := rx.get (i := j) (List.getElem?_eq_getElem hj)
 let ⟨_, e1', e2'⟩ := ry.get (i := j) (List.getElem?_eq_getElem hj)
 ih _ _ _ (List.all_eq_true.mp hf _ (List.getElem_mem hj)) ((zrg h1 e1).symm ▸ e2) ((zrg h2 e1').symm ▸ e2')
theorem ziz {mv : Va} {v v' : Value} (hn : ∀ vs, mv ≠ .tup vs) (hr : ∀ a, mv ≠ .ref a) (h : Rv s.heap mv v) (h' : Rv s.heap mv v') : SeqAt.EqAt A s v v' true := by
 cases mv with
 | none => exact zf6 h ▸ zf6 h' ▸ SeqAt.EqAt.same _
 | bool b => exact zds h ▸ zds h' ▸ SeqAt.EqAt.same _
 | int i =>
  refine zhx (P := (SeqAt.EqAt A s · v' true)) h fun t => zhx (P := (SeqAt.EqAt A s _ · true)) h' fun u => ?_
  have := (MeetsSeq.EqGives.int i i t u).at A s
  rwa [beq_self_eq_true] at this
 | str x =>
  obtain ⟨t, rfl⟩ : ∃ t, v = .str x t := by simpa only [Rv] using h
  obtain ⟨u, rfl⟩ : ∃ t, v' = .str x t := by simpa only [Rv] using h'
  intro prog w E Q hq
  unfold eqBool
  refine wpAny_holding ?_
  by_cases e : ((Value.str x t == Value.str x u) = true)
  ·rw [if_pos e]; exact wpAny_bind (wpAny_rule (wpAny_pure hq))
  ·rw [if_neg e]
   refine wpAny_bind (PyProof.Rows.eq_str ?_)
   exact wpAny_truthy_bool (by rw [beq_self_eq_true]; exact hq)
 | bytes x =>
  refine zfg (P := (SeqAt.EqAt A s · v' true)) h fun t => zfg (P := (SeqAt.EqAt A s _ · true)) h' fun u => ?_
  intro prog w E Q hq
  unfold eqBool
  refine wpAny_holding ?_
  by_cases e : ((Value.bytes ⟨x⟩ t == Value.bytes ⟨x⟩ u) = true)
  ·rw [if_pos e]; exact wpAny_bind (wpAny_rule (wpAny_pure hq))
  ·rw [if_neg e]
   refine wpAny_bind (eq_bytes ?_)
   exact wpAny_truthy_bool (by rw [beq_self_eq_true]; exact hq)
 | tup vs => exact absurd rfl (hn vs)
 | ref a => exact absurd rfl (hr a)
theorem znw (s : Shared) : ∀ (n : Nat) (mv : Va) (A : Around) (v v' : Value), flat n mv = true → Rv s.heap mv v → Rv s.heap mv v' → A.units + n < cLine → SeqAt.EqAt A s v v' true := by
 intro n
 induction n with
 | zero =>
  intro mv A v v' hf h h' hu
  exact ziz (fun vs e => by subst e; cases hf) (fun vs e => by subst e; cases hf) h h'
 | succ n ih =>
  intro mv A v v' hf h h' hu
  cases mv with
  | tup vs =>
   simp only [Rv] at h h'
   obtain ⟨x, xs, rfl, hx, rx⟩ := h
   obtain ⟨y, ys, rfl, hy, ry⟩ := h'
   by_cases e : x = y
   ·subst e; exact SeqAt.EqAt.same _
   ·have key := SeqAt.RcAt.tuples (A := A) (e := fun _ => true) hx hy (by exact Nat.lt_of_le_of_lt (Nat.le_add_right _ _) hu) (zjj (A := A.in1) (fun mv v v' a b c => ih mv A.in1 v v' a b c (by show A.units + 1 + n < cLine; lia)) rx ry hf)
    exact SeqAt.EqAt.of_refs e (zjk rx ry ▸ key)
  | ref a => cases hf
  | _ => exact ziz (fun vs e => by cases e) (fun vs e => by cases e) h h'
theorem zgx : isSubtype (.type "NoneType") (.type "bytes") = pure false := by rw [isSubtype_type]; kernel_rfl
theorem zfu (b : Array UInt8) (t : Tok) : Gives (Builtin.«bytes.__eq__» ⟨[.bytes b t, .none], []⟩) (.val (Value.notImplemented)) := by
 refine .of_wp fun M A E s Q hq => ?_
 have k : ∀ Q' : Bool → Shared → Prop, Q' false s → wpAny M A (isInstance .none (.type "bytes")) Q' E s := fun Q' h => wpAny_isInstance (T := "NoneType") (b := false) rfl zgx h
 refine wpAny_bind (wpAny_of_eq (a := (.bytes b t, [.none])) rfl ?_)
 refine wpAny_bind (k _ ?_)
 exact wpAny_bind (wpAny_rule (wpAny_pure ⟨_, rfl, hq⟩))
theorem zft (b : Array UInt8) (t : Tok) : Gives (Builtin.«NoneType.__eq__» ⟨[.none, .bytes b t], []⟩) (.val (Value.notImplemented)) :=
 .of_wp fun M A E s Q h => by obtain ⟨hp, g, d, tk, os⟩ := s; wp_walk; exact ⟨_, rfl, h⟩
theorem zh4 {b : Array UInt8} {t : Tok} {Q : Value → Shared → Prop} (h : Q (.bool false) s) : wpAny W.M A (compareOp .Eq (.bytes b t) .none) Q E s := by
 show wpAny _ A (richCompare .Eq _ _) Q E s
 exact EqNone.wpAny_richCompare_eq_decline (k := false) (fun s' => typeIs_bytes s' b t) (fun _ => rfl) (by decide) (by rw [isSubtype_type]; kernel_rfl) FB.slot_bytes_eq F.slot_NoneType_eq_refl rfl
  (call_gives FB.slot_bytes_eq (typeIs_bytes s b t) FB.entry_bytes_eq (FB.args_bytes_eq_2 _ _) (zfu b t)
   ⟨rfl, call_gives F.slot_NoneType_eq_refl rfl F.entry_NoneType_eq (F.args_NoneType_eq_2 _ _) (zft b t) ⟨rfl, h⟩⟩)
theorem zpu {o : COp} {a b : Int} {t u : Tok} (hk : cmpI o a b k) : wpAny W.M A (compareOp o.op (.int a t) (.int b u)) (Reck s (isB k)) E s := by
 have fin : ∀ {q : Bool}, k q → Reck s (isB k) (.bool q) s := fun h => Reck.bool (n := s.toks) h
 cases o
 ·exact PyProof.Rows.lt_int (fin hk)
 ·exact PyProof.Rows.le_int (fin hk)
 ·exact PyProof.Rows.gt_int (fin hk)
 ·exact PyProof.Rows.ge_int (fin hk)
 ·exact PyProof.Rows.eq_int ((zkb a b).symm ▸ fin hk)
 ·exact PyProof.Rows.ne_int ((zoa a b).symm ▸ fin hk)
theorem zpt {o : COp} {vs : List Va} (hu : A.units + 100 < cLine) (ha : Rv s.heap (.tup vs) va) (hb : Rv s.heap (.tup vs) vb) (hf : flat 7 (.tup vs) = true) (hk : cmEN o (k true) (k false)) :
  wpAny W.M A (compareOp o.op va vb) (Reck s (isB k)) E s := by
 have fin : ∀ {q : Bool}, k q → Reck s (isB k) (.bool q) s := fun h => Reck.bool (n := s.toks) h
 simp only [Rv] at ha hb
 obtain ⟨x, xs, rfl, hx, rx⟩ := ha
 obtain ⟨y, ys, rfl, hy, ry⟩ := hb
 refine zhm (P := fun o => wpAny W.M A (compareOp o.op (.ref x) (.ref y)) (Reck s (isB k)) E s) hk (fun hk => ?_) fun hk => ?_
 ·have key := SeqAt.RcAt.tuples (A := A) (e := fun _ => true) hx hy (by exact Nat.lt_of_le_of_lt (Nat.le_add_right _ _) hu) (zjj (A := A.in1) (fun mv v v' a b c => znw s 6 mv A.in1 v v' a b c (by show A.units + 1 + 6 < cLine; lia)) rx ry hf)
  rw [zjk rx ry] at key
  exact key _ _ _ _ (fin hk)
 ·have key := SeqAt.RcNeAt.tuples (A := A) (e := fun _ => true) hx hy (by exact Nat.lt_of_le_of_lt (Nat.le_add_right _ _) hu) (zjj (A := A.in1) (fun mv v v' a b c => znw s 6 mv A.in1 v v' a b c (by show A.units + 1 + 6 < cLine; lia)) rx ry hf)
  rw [zjk rx ry] at key
  exact key _ _ _ _ (fin hk)
set_option tactic.hygienic true in
theorem zsm {o : COp} (hu : A.units + 100 < cLine) (ha : Rv s.heap a va) (hb : Rv s.heap b vb) (hk : cmpW o a b k) : wpAny W.M A (compareOp o.op va vb) (Reck s (isB k)) E s := by
 have fin : ∀ {q : Bool}, k q → Reck s (isB k) (.bool q) s := fun h => Reck.bool (n := s.toks) h
 let P : COp → Value → Value → Prop := fun o v w => wpAny W.M A (compareOp o.op v w) (Reck s (isB k)) E s
 show P o va vb
 cases a <;> first | exact hk.elim | skip
 ·refine zhx (P := (P o · vb)) ha fun t => ?_
  cases b <;> first | exact hk.elim | skip
  ·exact zf6 hb ▸ zhm (P := (P · _ _)) hk (fun hk => EqNone.eq_int_none (fin hk)) False.elim
  ·exact zhx (P := P o _) hb fun u => zpu hk
 ·refine zfg (P := (P o · vb)) ha fun t => ?_
  cases b <;> first | exact hk.elim | skip
  ·exact zf6 hb ▸ zhm (P := (P · _ _)) hk (fun hk => zh4 (fin hk)) False.elim
  ·exact zfg (P := P o _) hb fun u => zhm (P := (P · _ _)) hk (fun hk => PySem.W.eq_bytes (by rw [zkb]; exact fin hk)) fun hk => PySem.W.ne_bytes (by rw [zoa]; exact fin hk)
 ·cases b <;> first | exact hk.elim | skip
  rename_i vs ws
  have e : vs = ws ∧ flat 7 (.tup vs) = true := zhm (P := fun _ => vs = ws ∧ flat 7 (.tup vs) = true) hk And.left And.left
  have hk' : cmEN o (k true) (k false) := zhm (P := fun o => cmEN o (k true) (k false)) hk And.right And.right
  obtain ⟨rfl, hf⟩ := e
  exact zpt hu ha hb hf hk'
end
end
end LW.Internal
end
section
open PySem PySem.W PyProof.Rows PySem.Calls
namespace LW.Internal
inductive UOb where
 | list (vs : List Va)
 | inst (g : Nat) (fs : List (Nat × Va))
 | barr (b : List UInt8)
  | rol (vs : List Va)
noncomputable abbrev Sto := Addr → Option UOb
noncomputable def Sto.set (σ : Sto) (a : Addr) (u : UOb) : Sto := fun b => if b = a then some u else σ b
noncomputable def Sto.Le (τ σ : Sto) : Prop := ∀ a u, τ a = some u → σ a = some u
theorem Sto.Le.refl (σ : Sto) : σ.Le σ := fun _ _ e => e
theorem Sto.Le.trans {a b c : Sto} (x : a.Le b) (y : b.Le c) : a.Le c := fun i u e => y i u (x i u e)
set_option genCtorIdx false in
mutual
inductive X where
 | none | bool (b : Bool) | int (i : Int) | bytes (b : List UInt8)
 | var (i : Nat) | up (i : Nat) | gint (g : Nat)
 | bin (o : BOp) (a b : X)
 | cmp (o : COp) (a b : X)
 | isNone (a : X) | notNone (a : X)
 | not (a : X) | and (a b : X) | or (a b : X)
 | ite (c a b : X)
 | call (g : Nat) (es : Xs)
 | new (g : Nat) (es : Xs)
 | meth (o : X) (m : Nat) (es : Xs)
 | append (o e : X) | extend (o e : X) | pop (o : X) | popAt (o i : X) | insert (o i e : X)
 | attr (o : X) (i : Nat)
 | idx (o i : X)
 | sliceTo (o k : X) | slice (o a b : X)
 | list (es : Xs) | tup (es : Xs)
 | comp (e : X) (two : Bool) (it : It)
 | compIf (e : X) (two : Bool) (it : It) (c : X)
 | len (a : X) | bytesOf (a : X) | barr0 | min (a b : X) | tupOf (a : X) | listOf (a : X)
inductive Xs where
 | nil | cons (x : X) (xs : Xs)
inductive It where
 | r1 (a : X) | r2 (a b : X) | seq (a : X)
end
set_option genCtorIdx false in
inductive T where
 | one (i : Nat) | two (i j : Nat)
set_option genCtorIdx false in
mutual
inductive S where
 | assign (i : Nat) (e : X)
 | unpack (i j : Nat) (e : X)
 | setAttr (o : X) (a : Nat) (e : X)
 | setIdx (o i e : X)
 | aug (i : Nat) (o : BOp) (e : X)
 | augAttr (i : Nat) (a : Nat) (o : BOp) (e : X)
 | expr (e : X)
 | ret (e : X) | retNone
 | ite (c : X) (a b : Ss)
 | loop (c : X) (b : Ss)
 | each (t : T) (it : It) (b : Ss)
 | raise (ps : List (Option Nat))
 | tryBad (e : X)
 | dead
inductive Ss where
 | nil | cons (s : S) (ss : Ss)
end
set_option genCtorIdx false in
inductive Sq where
 | rng (a b : Int) | lst (l : Addr)
noncomputable def za2 : Sq → Sto → Nat → Option (Option Va)
 | .rng a b, _, n => if a + n < b then some (some (.int (a + n))) else some none
 | .lst l, σ, n => match σ l with
  | some (.list vs) => some vs[n]?
  | _ => none
noncomputable def zei {S : Type} (item : S → Nat → Option (Option Va)) (body : Va → S → (S → Prop) → Prop) (K : S → Prop) : Nat → Nat → S → Prop
 | 0, _, _ => False
 | f + 1, n, s => match item s n with
  | none => False
  | some none => K s
  | some (some v) => body v s (zei item body K f (n + 1))
noncomputable def zfz {S : Type} (test : S → (Bool → S → Prop) → Prop) (body : S → (S → Prop) → Prop) (K : S → Prop) : Nat → S → Prop
 | 0, _ => False
 | f + 1, s => test s fun b s' => match b with
  | true => body s' (zfz test body K f)
  | false => K s'
noncomputable def getF : List (Nat × Va) → Nat → Option Va
 | [], _ => none
 | (j, v) :: r, i => if i = j then some v else getF r i
noncomputable def setF : List (Nat × Va) → Nat → Va → List (Nat × Va)
 | [], i, v => [(i, v)]
 | (j, w) :: r, i, v => if i = j then (j, v) :: r else (j, w) :: setF r i v
noncomputable abbrev Loc := List (Option Va)
noncomputable def getV (ρ : Loc) (i : Nat) (k : Va → Prop) : Prop := match ρ[i]? with
 | some (some v) => k v
 | _ => False
noncomputable def octs : List Va → Option (List UInt8)
 | [] => some []
 | .int i :: r => if 0 ≤ i ∧ i < 256 then (octs r).map (UInt8.ofNat i.toNat :: ·) else none
 | _ :: _ => none
noncomputable abbrev BP := Sto → Prop
noncomputable abbrev QP := Va → Sto → Prop
noncomputable abbrev Orc := Nat → List Va → Sto → BP → QP → Prop
noncomputable def zap : Nat := 1000000
inductive attrW (σ : Sto) (v : Va) (i : Nat) (k : Va → Prop) : Prop
 | mk (a : Addr) (g : Nat) (fs : List (Nat × Va)) (w : Va) : v = .ref a → σ a = some (.inst g fs) → getF fs i = some w → k w → attrW σ v i k
inductive setAttrW (σ : Sto) (v : Va) (i : Nat) (w : Va) (k : Sto → Prop) : Prop
 | mk (a : Addr) (g : Nat) (fs : List (Nat × Va)) : v = .ref a → σ a = some (.inst g fs) → fs.length ≤ 50 → k (σ.set a (.inst g (setF fs i w))) → setAttrW σ v i w k
noncomputable def idxW (σ : Sto) (v w : Va) (k : Va → Prop) : Prop := ∃ n, w = .int n ∧ 0 ≤ n ∧ ((∃ a vs x, v = .ref a ∧ σ a = some (.list vs) ∧ vs[n.toNat]? = some x ∧ k x) ∨ (∃ vs x, v = .tup vs ∧ n < 1000000000 ∧ vs[n.toNat]? = some x ∧ k x) ∨
  ∃ b x, v = .bytes b ∧ b.length ≤ 16777216 ∧ b[n.toNat]? = some x ∧ k (.int x.toNat))
inductive setIdxW (σ : Sto) (v : Va) (w u : Va) (k : Sto → Prop) : Prop
 | mk (a : Addr) (vs : List Va) (n : Int) : v = .ref a → w = .int n → σ a = some (.list vs) → 0 ≤ n → n.toNat < vs.length → k (σ.set a (.list (vs.set n.toNat u))) → setIdxW σ v w u k
noncomputable def newW (σ : Sto) (u : UOb) (k : Va → Sto → Prop) : Prop := ∀ a, σ a = none → k (.ref a) (σ.set a u)
noncomputable def isList (σ : Sto) : Va → Bool
 | .ref a => (match σ a with | some (.list _) => true | _ => false)
 | _ => false
noncomputable def zhg (σ : Sto) : Va → Bool
 | .ref a => (match σ a with | some (.barr _) => true | _ => false)
 | _ => false
noncomputable def zgv (σ : Sto) (v w : Va) (k : Sto → Prop) : Prop := ∃ a, v = .ref a ∧ ((∃ vs, σ a = some (.list vs) ∧ vs.length < zap ∧ k (σ.set a (.list (vs ++ [w])))) ∨
  ∃ b n, σ a = some (.barr b) ∧ w = .int n ∧ (0 ≤ n ∧ n < 256 ∧ b.length < zap) ∧ k (σ.set a (.barr (b ++ [UInt8.ofNat n.toNat]))))
inductive extendW (σ : Sto) (v : Va) (w : Va) (k : Sto → Prop) : Prop
 | mk (a : Addr) (b c : List UInt8) : v = .ref a → w = .bytes c → σ a = some (.barr b) → b.length + c.length < zap → k (σ.set a (.barr (b ++ c))) → extendW σ v w k
inductive popW (σ : Sto) (v : Va) (k : Va → Sto → Prop) : Prop
 | mk (a : Addr) (vs : List Va) (x : Va) : v = .ref a → σ a = some (.list vs) → vs.getLast? = some x → k x (σ.set a (.list vs.dropLast)) → popW σ v k
inductive popAtW (σ : Sto) (v : Va) (w : Va) (k : Va → Sto → Prop) : Prop
 | mk (a : Addr) (vs : List Va) (n : Int) (x : Va) : v = .ref a → w = .int n → σ a = some (.list vs) → 0 ≤ n → vs[n.toNat]? = some x → k x (σ.set a (.list (vs.eraseIdx n.toNat))) → popAtW σ v w k
inductive insertW (σ : Sto) (v : Va) (w u : Va) (k : Sto → Prop) : Prop
 | mk (a : Addr) (vs : List Va) (n : Int) : v = .ref a → w = .int n → σ a = some (.list vs) → 0 ≤ n ∧ n.toNat ≤ vs.length ∧ vs.length < zap → k (σ.set a (.list (vs.insertIdx n.toNat u))) → insertW σ v w u k
noncomputable def zd3 (σ : Sto) (a : Addr) : Option (List Va) := match σ a with
 | some (.list vs) => some vs
 | some (.rol vs) => some vs
 | _ => none
noncomputable def zfv (σ : Sto) (v w : Va) (k : Va → Sto → Prop) : Prop := ∃ n, w = .int n ∧ 0 ≤ n ∧ ((∃ a vs, v = .ref a ∧ zd3 σ a = some vs ∧ newW σ (.list (vs.take n.toNat)) k) ∨ ∃ b, v = .bytes b ∧ b.length ≤ 16777216 ∧ k (.bytes (b.take n.toNat)) σ)
inductive sliceW (v w u : Va) (k : Va → Prop) : Prop
 | mk (b : List UInt8) (i j : Int) : v = .bytes b → w = .int i → u = .int j → 0 ≤ i ∧ i ≤ j ∧ j ≤ b.length ∧ b.length ≤ 16777216 → k (.bytes ((b.take j.toNat).drop i.toNat)) → sliceW v w u k
noncomputable def lenW (σ : Sto) (v : Va) (k : Va → Prop) : Prop := match v with
 | .ref a => ∃ vs, σ a = some (.list vs) ∧ k (.int vs.length)
 | .bytes b => b.length ≤ 16777216 ∧ k (.int b.length)
 | _ => False
noncomputable def zdm (σ : Sto) (v : Va) (k : Va → Prop) : Prop := match v with
 | .ref a => (∃ vs b, σ a = some (.list vs) ∧ octs vs = some b ∧ k (.bytes b)) ∨ ∃ b, σ a = some (.barr b) ∧ b.length ≤ 16777216 ∧ k (.bytes b)
 | .bytes b => k (.bytes b)
 | _ => False
noncomputable def minW (v w : Va) (k : Va → Prop) : Prop := asI v fun a => asI w fun b => k (.int (if b < a then b else a))
inductive tupOfW (σ : Sto) (v : Va) (k : Va → Prop) : Prop
 | mk (a : Addr) (vs : List Va) : v = .ref a → σ a = some (.list vs) → k (.tup vs) → tupOfW σ v k
inductive listOfW (σ : Sto) (v : Va) (k : Va → Sto → Prop) : Prop
 | mk (a : Addr) (vs : List Va) : v = .ref a → σ a = some (.list vs) → newW σ (.list vs) k → listOfW σ v k
noncomputable def notW : Va → (Va → Prop) → Prop
 | .bool b, k => k (.bool (!b))
 | _, _ => False
noncomputable def zdu : Va → Bool
 | .none => true
 | _ => false
noncomputable def andW : Va → (Prop) → (Prop) → Prop
 | .bool b, p, q => if b = true then p else q
 | _, _, _ => False
noncomputable def zfs (vs : List Va) (k : Va → Va → Prop) : Prop := match vs with
 | [] => False
 | a :: r => (match r with
  | [] => False
  | b :: r => (match r with
   | [] => k a b
   | _ :: _ => False))
noncomputable def asP (v : Va) (k : Va → Va → Prop) : Prop := match v with
 | .tup vs => zfs vs k
 | _ => False
theorem asP_E {v : Va} {k : Va → Va → Prop} {P : Va → Prop} (h : asP v k) (f : ∀ a b, k a b → P (.tup [a, b])) : P v := by
 cases v with
 | tup vs =>
  cases vs with
  | nil => exact h.elim
  | cons a r => cases r with
   | nil => exact h.elim
   | cons b r => cases r with
    | nil => exact f _ _ h
    | cons _ _ => exact h.elim
 | _ => exact h.elim
noncomputable def zem (two : Bool) (v : Va) (k : Loc → Prop) : Prop := match two with
 | false => k [some v]
 | true => asP v fun a b => k [some a, some b]
noncomputable def zg3 (ρ : Loc) (t : T) (v : Va) (k : Loc → Prop) : Prop := match t with
 | .one i => k (ρ.set i (some v))
 | .two i j => asP v fun a b => k ((ρ.set i (some a)).set j (some b))
inductive seqW (σ : Sto) (v : Va) (k : Sq → Prop) : Prop
 | mk (a : Addr) (vs : List Va) : v = .ref a → σ a = some (.list vs) → k (.lst a) → seqW σ v k
noncomputable def rngW (v w : Va) (k : Sq → Prop) : Prop := asI v fun a => asI w fun b => (-1000000000 < a ∧ a < 1000000000 ∧ -1000000000 < b ∧ b < 1000000000) ∧ k (.rng a b)
noncomputable def augI (o : BOp) (a b : Int) (k : Int → Prop) : Prop := match o with
 | .add => k (a + b)
 | .bor => k (Builtin.bitOr a b)
 | .shr => 0 ≤ b ∧ k (a / 2 ^ b.toNat)
 | _ => False
noncomputable def augW (o : BOp) (v w : Va) (k : Va → Prop) : Prop := asI v fun a => asI w fun b => augI o a b fun i => k (.int i)
noncomputable def gval : Nat → Int
 | 0 => 4294967295
 | 1 => 18446744073709551615
 | 2 => 72057594037927935
 | 3 => 12
 | 4 => 1
 | 5 => 2
 | 6 => 3
 | 7 => 4
 | 8 => 5
 | 9 => 6
 | 10 => 7
 | 11 => 10
 | _ => 0
noncomputable def mthL : List (Nat × Nat) := [(120, 201), (121, 202), (122, 203), (123, 205), (124, 209), (129, 211), (130, 212), (131, 214), (132, 218), (141, 220), (149, 222), (150, 223), (189, 225), (197, 228), (198, 229)]
noncomputable def mth (g m : Nat) : Option Nat := if m < 7 then mthL.lookup (g * 8 + m) else none
noncomputable def ini : Nat → Option Nat
 | 15 => some 200 | 16 => some 210 | 17 => some 219 | 18 => some 221 | 23 => some 224 | 24 => some 227
 | _ => none
inductive methW (σ : Sto) (v : Va) (m : Nat) (k : Nat → Prop) : Prop
 | mk (a : Addr) (g : Nat) (fs : List (Nat × Va)) (f : Nat) : v = .ref a → σ a = some (.inst g fs) → mth g m = some f → k f → methW σ v m k
mutual
noncomputable def wpX (C : Orc) (B : BP) (ρ υ : Loc) : X → Sto → QP → Prop
 | .none, σ, Q => Q .none σ
 | .bool b, σ, Q => Q (.bool b) σ
 | .int i, σ, Q => Q (.int i) σ
 | .bytes b, σ, Q => Q (.bytes b) σ
 | .var i, σ, Q => getV ρ i fun v => Q v σ
 | .up i, σ, Q => getV υ i fun v => Q v σ
 | .gint g, σ, Q => Q (.int (gval g)) σ
 | .bin o a b, σ, Q => wpX C B ρ υ a σ fun va σ => wpX C B ρ υ b σ fun vb σ => binW o va vb fun v => Q v σ
 | .cmp o a b, σ, Q => wpX C B ρ υ a σ fun va σ => wpX C B ρ υ b σ fun vb σ => cmpW o va vb fun v => Q (.bool v) σ
 | .isNone a, σ, Q => wpX C B ρ υ a σ fun v σ => Q (.bool (zdu v)) σ
 | .notNone a, σ, Q => wpX C B ρ υ a σ fun v σ => Q (.bool (!zdu v)) σ
 | .not a, σ, Q => wpX C B ρ υ a σ fun v σ => notW v fun w => Q w σ
 | .and a b, σ, Q => wpX C B ρ υ a σ fun v σ => andW v (wpX C B ρ υ b σ Q) (Q (.bool false) σ)
 | .or a b, σ, Q => wpX C B ρ υ a σ fun v σ => andW v (Q (.bool true) σ) (wpX C B ρ υ b σ Q)
 | .ite c a b, σ, Q => wpX C B ρ υ c σ fun v σ => andW v (wpX C B ρ υ a σ Q) (wpX C B ρ υ b σ Q)
 | .call g es, σ, Q => wpXs C B ρ υ es σ fun vs σ => C g vs σ B Q
 | .new g es, σ, Q => wpXs C B ρ υ es σ fun vs σ => (match ini g with
   | some f => newW σ (.inst g []) fun v σ => C f (v :: vs) σ B fun w σ => w = .none ∧ Q v σ
   | none => False)
 | .meth o m es, σ, Q => wpX C B ρ υ o σ fun v σ => methW σ v m fun f => wpXs C B ρ υ es σ fun vs σ => C f (v :: vs) σ B Q
 | .append o e, σ, Q => wpX C B ρ υ o σ fun v σ => (isList σ v = true ∨ zhg σ v = true) ∧ wpX C B ρ υ e σ fun w σ' => (isList σ v = isList σ' v) ∧ zgv σ' v w fun σ => Q .none σ
 | .extend o e, σ, Q => wpX C B ρ υ o σ fun v σ => zhg σ v = true ∧ wpX C B ρ υ e σ fun w σ => extendW σ v w fun σ => Q .none σ
 | .pop o, σ, Q => wpX C B ρ υ o σ fun v σ => popW σ v Q
 | .popAt o i, σ, Q => wpX C B ρ υ o σ fun v σ => isList σ v = true ∧ wpX C B ρ υ i σ fun w σ => popAtW σ v w Q
 | .insert o i e, σ, Q => wpX C B ρ υ o σ fun v σ => isList σ v = true ∧ wpX C B ρ υ i σ fun w σ => wpX C B ρ υ e σ fun u σ => insertW σ v w u fun σ => Q .none σ
 | .attr o i, σ, Q => wpX C B ρ υ o σ fun v σ => attrW σ v i fun w => Q w σ
 | .idx o i, σ, Q => wpX C B ρ υ o σ fun v σ => wpX C B ρ υ i σ fun w σ => idxW σ v w fun u => Q u σ
 | .sliceTo o i, σ, Q => wpX C B ρ υ o σ fun v σ => wpX C B ρ υ i σ fun w σ => zfv σ v w Q
 | .slice o i j, σ, Q => wpX C B ρ υ o σ fun v σ => wpX C B ρ υ i σ fun w σ => wpX C B ρ υ j σ fun z σ => sliceW v w z fun u => Q u σ
 | .list es, σ, Q => wpXs C B ρ υ es σ fun vs σ => newW σ (.list vs) Q
 | .tup es, σ, Q => wpXs C B ρ υ es σ fun vs σ => Q (.tup vs) σ
 | .comp e two it, σ, Q => wpIt C B ρ υ it σ fun sq σ => ∃ f, zei (S := Sto × List Va) (fun s n => za2 sq s.1 n)
   (fun v s K => zem two v fun ρ' => wpX C (fun _ => False) ρ' ρ e s.1 fun w σ => s.2.length < zap ∧ K (σ, s.2 ++ [w])) (fun s => newW s.1 (.list s.2) Q) f 0 (σ, [])
 | .compIf e two it c, σ, Q => wpIt C B ρ υ it σ fun sq σ => ∃ f, zei (S := Sto × List Va) (fun s n => za2 sq s.1 n)
   (fun v s K => zem two v fun ρ' => wpX C (fun _ => False) ρ' ρ c s.1 fun b σ => andW b (wpX C (fun _ => False) ρ' ρ e σ fun w σ => s.2.length < zap ∧ K (σ, s.2 ++ [w])) (K (σ, s.2))) (fun s => newW s.1 (.list s.2) Q) f 0 (σ, [])
 | .len a, σ, Q => wpX C B ρ υ a σ fun v σ => lenW σ v fun w => Q w σ
 | .bytesOf a, σ, Q => wpX C B ρ υ a σ fun v σ => zdm σ v fun w => Q w σ
 | .barr0, σ, Q => newW σ (.barr []) Q
 | .min a b, σ, Q => wpX C B ρ υ a σ fun v σ => wpX C B ρ υ b σ fun w σ => minW v w fun u => Q u σ
 | .tupOf a, σ, Q => wpX C B ρ υ a σ fun v σ => tupOfW σ v fun w => Q w σ
 | .listOf a, σ, Q => wpX C B ρ υ a σ fun v σ => listOfW σ v Q
noncomputable def wpXs (C : Orc) (B : BP) (ρ υ : Loc) : Xs → Sto → (List Va → Sto → Prop) → Prop
 | .nil, σ, Q => Q [] σ
 | .cons x xs, σ, Q => wpX C B ρ υ x σ fun v σ => wpXs C B ρ υ xs σ fun vs σ => Q (v :: vs) σ
noncomputable def wpIt (C : Orc) (B : BP) (ρ υ : Loc) : It → Sto → (Sq → Sto → Prop) → Prop
 | .r1 a, σ, Q => wpX C B ρ υ a σ fun v σ => rngW (.int 0) v fun sq => Q sq σ
 | .r2 a b, σ, Q => wpX C B ρ υ a σ fun v σ => wpX C B ρ υ b σ fun w σ => rngW v w fun sq => Q sq σ
 | .seq a, σ, Q => wpX C B ρ υ a σ fun v σ => seqW σ v fun sq => Q sq σ
end
noncomputable def zer (ρ : Loc) : List (Option Nat) → Prop → Prop
 | [], p => p
 | none :: r, p => zer ρ r p
 | some i :: r, p => getV ρ i fun v => match v with
  | .int n => (-(2 ^ 80) < n ∧ n < 2 ^ 80) ∧ zer ρ r p
  | _ => False
mutual
noncomputable def wpS (C : Orc) (B : BP) : S → Loc → Sto → (Loc → Sto → Prop) → QP → Prop
 | .assign i e, ρ, σ, N, _ => wpX C B ρ [] e σ fun v σ => N (ρ.set i (some v)) σ
 | .unpack i j e, ρ, σ, N, _ => wpX C B ρ [] e σ fun v σ => zg3 ρ (.two i j) v fun ρ => N ρ σ
 | .setAttr o a e, ρ, σ, N, _ => wpX C B ρ [] e σ fun v σ => wpX C B ρ [] o σ fun w σ => setAttrW σ w a v fun σ => N ρ σ
 | .setIdx o i e, ρ, σ, N, _ => wpX C B ρ [] e σ fun v σ => wpX C B ρ [] o σ fun w σ => wpX C B ρ [] i σ fun z σ => setIdxW σ w z v fun σ => N ρ σ
 | .aug i o e, ρ, σ, N, _ => getV ρ i fun v => wpX C B ρ [] e σ fun w σ => augW o v w fun u => N (ρ.set i (some u)) σ
 | .augAttr x a o e, ρ, σ, N, _ => getV ρ x fun z => attrW σ z a fun v => wpX C B ρ [] e σ fun w σ => augW o v w fun u => setAttrW σ z a u fun σ => N ρ σ
 | .expr e, ρ, σ, N, _ => wpX C B ρ [] e σ fun _ σ => N ρ σ
 | .ret e, ρ, σ, _, R => wpX C B ρ [] e σ R
 | .retNone, _, σ, _, R => R .none σ
 | .ite c a b, ρ, σ, N, R => wpX C B ρ [] c σ fun v σ => andW v (wpSs C B a ρ σ N R) (wpSs C B b ρ σ N R)
 | .loop c b, ρ, σ, N, R => ∃ f, zfz (S := Loc × Sto) (fun s k => wpX C (fun _ => False) s.1 [] c s.2 fun v σ => andW v (k true (s.1, σ)) (k false (s.1, σ)))
   (fun s k => wpSs C (fun _ => False) b s.1 s.2 (fun ρ σ => k (ρ, σ)) R) (fun s => N s.1 s.2) f (ρ, σ)
 | .each t it b, ρ, σ, N, R => wpIt C B ρ [] it σ fun sq σ => ∃ f, zei (S := Loc × Sto) (fun s n => za2 sq s.2 n)
   (fun v s k => zg3 s.1 t v fun ρ => wpSs C B b ρ s.2 (fun ρ σ => k (ρ, σ)) R) (fun s => N s.1 s.2) f 0 (ρ, σ)
 | .raise ps, ρ, σ, _, _ => zer ρ ps (B σ)
 | .tryBad e, ρ, σ, N, R => wpX C (fun σ => R (.bool true) σ) ρ [] e σ fun _ σ => N ρ σ
 | .dead, _, _, _, _ => False
noncomputable def wpSs (C : Orc) (B : BP) : Ss → Loc → Sto → (Loc → Sto → Prop) → QP → Prop
 | .nil, ρ, σ, N, _ => N ρ σ
 | .cons s ss, ρ, σ, N, R => wpS C B s ρ σ (fun ρ σ => wpSs C B ss ρ σ N R) R
end
structure Fn where
 vars : List (Str × Bool)
 np : Nat
 dflt : List Va
 body : Ss
noncomputable def Fn.bind (f : Fn) (vs : List Va) : Option Loc :=
 if vs.length = f.np then some (vs.map some ++ List.replicate (f.vars.length - f.np) none)
 else if vs.length + f.dflt.length = f.np then some ((vs ++ f.dflt).map some ++ List.replicate (f.vars.length - f.np) none)
 else none
noncomputable def CallR (tab : Nat → Option Fn) : Nat → Orc
 | 0, _, _, _, _, _ => False
 | r + 1, g, vs, σ, B, Q => match tab g with
  | none => False
  | some f => match f.bind vs with
   | none => False
   | some ρ => wpSs (CallR tab r) (fun σ => ∃ τ, Sto.Le τ σ ∧ B τ) f.body ρ σ (fun _ σ => ∃ τ, Sto.Le τ σ ∧ Q .none τ) (fun v σ => ∃ τ, Sto.Le τ σ ∧ Q v τ)
theorem zic (tab : Nat → Option Fn) : ∃ C : Nat → Orc, (∀ g vs σ B Q, C 0 g vs σ B Q = False) ∧ ∀ r g vs σ B Q, C (r + 1) g vs σ B Q = (match tab g with
  | none => False
  | some f => match f.bind vs with
   | none => False
   | some ρ => wpSs (C r) (fun σ => ∃ τ, Sto.Le τ σ ∧ B τ) f.body ρ σ (fun _ σ => ∃ τ, Sto.Le τ σ ∧ Q .none τ) (fun v σ => ∃ τ, Sto.Le τ σ ∧ Q v τ)) :=
 ⟨CallR tab, fun _ _ _ _ _ => rfl, fun _ _ _ _ _ _ => rfl⟩
noncomputable def zac (tab : Nat → Option Fn) : Nat → Orc := Classical.choose (zic tab)
noncomputable abbrev ExB (B : BP) : BP := fun σ => ∃ τ, Sto.Le τ σ ∧ B τ
noncomputable abbrev ExN (Q : QP) : Loc → Sto → Prop := fun _ σ => ∃ τ, Sto.Le τ σ ∧ Q .none τ
noncomputable abbrev ExR (Q : QP) : QP := fun v σ => ∃ τ, Sto.Le τ σ ∧ Q v τ
theorem zak {tab : Nat → Option Fn} {r g : Nat} {vs : List Va} {σ : Sto} {B : BP} {Q : QP} {f : Fn} {ρ : Loc} (hf : tab g = some f) (hb : f.bind vs = some ρ)
  (h : wpSs (zac tab r) (ExB B) f.body ρ σ (ExN Q) (ExR Q)) : zac tab (r + 1) g vs σ B Q := by
 refine ((Classical.choose_spec (zic tab)).2 r g vs σ B Q).mpr ?_
 rw [hf]
 show (match f.bind vs with | none => False | some ρ => _)
 rw [hb]
 exact h
end LW.Internal
end
section
open PySem
namespace LW.Internal
noncomputable def b6 : Ss := (.cons (.ite (.or (.cmp .lt (.var 0) (.int 0)) (.cmp .gt (.var 0) (.var 1))) (.cons (.raise [some 0, none, some 1]) .nil) .nil) (.cons (.assign 2 .barr0) (.cons (.loop (.cmp .ge (.var 0) (.int 128)) (.cons (.expr (.append (.var 2) (.bin .bor (.bin .band (.var 0) (.int 127)) (.int 128)))) (.cons (.aug 0 .shr (.int 7)) .nil))) (.cons (.expr (.append (.var 2) (.var 0))) (.cons (.ret (.bytesOf (.var 2))) .nil)))))
noncomputable def f6 : Fn := ⟨[("n", false), ("most", false), ("out", false)], 2, [], b6⟩
noncomputable def b7 : Ss := (.cons (.ite (.cmp .lt (.var 1) (.int 0)) (.cons .dead .nil) .nil) (.cons (.assign 4 (.int 0)) (.cons (.assign 5 (.int 0)) (.cons (.each (.one 6) (.r1 (.var 2)) (.cons (.ite (.cmp .ge (.var 1) (.len (.var 0))) (.cons .dead .nil) .nil) (.cons (.assign 7 (.idx (.var 0) (.var 1))) (.cons (.aug 1 .add (.int 1)) (.cons (.aug 4 .bor (.bin .shl (.bin .band (.var 7) (.int 127)) (.var 5))) (.cons (.ite (.cmp .lt (.var 7) (.int 128)) (.cons (.ite (.cmp .gt (.var 4) (.var 3)) (.cons .dead .nil) .nil) (.cons (.ret (.tup (.cons (.var 4) (.cons (.var 1) .nil)))) .nil)) .nil) (.cons (.aug 5 .add (.int 7)) .nil))))))) (.cons .dead .nil)))))
noncomputable def f7 : Fn := ⟨[("data", false), ("at", false), ("octets", false), ("most", false), ("n", false), ("shift", false), ("turn", false), ("octet", false)], 4, [], b7⟩
noncomputable def b8 : Ss := (.cons (.ite (.and (.cmp .ge (.var 0) (.int 0)) (.cmp .lt (.var 0) (.int 128))) (.cons (.ret (.bytesOf (.list (.cons (.var 0) .nil)))) .nil) .nil) (.cons (.ret (.call 6 (.cons (.var 0) (.cons (.gint 1) .nil)))) .nil))
noncomputable def f8 : Fn := ⟨[("n", false)], 1, [], b8⟩
noncomputable def b9 : Ss := (.cons (.ite (.and (.cmp .ge (.var 1) (.int 0)) (.and (.cmp .lt (.var 1) (.len (.var 0))) (.cmp .lt (.idx (.var 0) (.var 1)) (.int 128)))) (.cons (.ret (.tup (.cons (.idx (.var 0) (.var 1)) (.cons (.bin .add (.var 1) (.int 1)) .nil)))) .nil) .nil) (.cons (.ret (.call 7 (.cons (.var 0) (.cons (.var 1) (.cons (.int 10) (.cons (.gint 1) .nil)))))) .nil))
noncomputable def f9 : Fn := ⟨[("data", false), ("at", false)], 2, [], b9⟩
noncomputable def b10 : Ss := (.cons (.ite (.and (.cmp .ge (.var 0) (.int 0)) (.cmp .lt (.var 0) (.int 128))) (.cons (.ret (.bytesOf (.list (.cons (.var 0) .nil)))) .nil) .nil) (.cons (.ret (.call 6 (.cons (.var 0) (.cons (.gint 0) .nil)))) .nil))
noncomputable def f10 : Fn := ⟨[("n", false)], 1, [], b10⟩
noncomputable def b11 : Ss := (.cons (.ite (.and (.cmp .ge (.var 1) (.int 0)) (.and (.cmp .lt (.var 1) (.len (.var 0))) (.cmp .lt (.idx (.var 0) (.var 1)) (.int 128)))) (.cons (.ret (.tup (.cons (.idx (.var 0) (.var 1)) (.cons (.bin .add (.var 1) (.int 1)) .nil)))) .nil) .nil) (.cons (.ret (.call 7 (.cons (.var 0) (.cons (.var 1) (.cons (.int 5) (.cons (.gint 0) .nil)))))) .nil))
noncomputable def f11 : Fn := ⟨[("data", false), ("at", false)], 2, [], b11⟩
noncomputable def b12 : Ss := (.cons (.ite (.or (.cmp .lt (.var 0) (.int 0)) (.cmp .gt (.var 0) (.gint 0))) (.cons (.raise [some 0, none]) .nil) .nil) (.cons (.ret (.bytesOf (.list (.cons (.bin .band (.var 0) (.int 255)) (.cons (.bin .band (.bin .shr (.var 0) (.int 8)) (.int 255)) (.cons (.bin .band (.bin .shr (.var 0) (.int 16)) (.int 255)) (.cons (.bin .shr (.var 0) (.int 24)) .nil))))))) .nil))
noncomputable def f12 : Fn := ⟨[("n", false)], 1, [], b12⟩
noncomputable def b13 : Ss := (.cons (.ite (.or (.cmp .lt (.var 1) (.int 0)) (.cmp .gt (.bin .add (.var 1) (.int 4)) (.len (.var 0)))) (.cons .dead .nil) .nil) (.cons (.ret (.bin .bor (.bin .bor (.bin .bor (.idx (.var 0) (.var 1)) (.bin .shl (.idx (.var 0) (.bin .add (.var 1) (.int 1))) (.int 8))) (.bin .shl (.idx (.var 0) (.bin .add (.var 1) (.int 2))) (.int 16))) (.bin .shl (.idx (.var 0) (.bin .add (.var 1) (.int 3))) (.int 24)))) .nil))
noncomputable def f13 : Fn := ⟨[("data", false), ("at", false)], 2, [], b13⟩
noncomputable def b14 : Ss := (.cons (.unpack 2 1 (.call 11 (.cons (.var 0) (.cons (.var 1) .nil)))) (.cons (.ite (.cmp .gt (.bin .add (.var 1) (.var 2)) (.len (.var 0))) (.cons .dead .nil) .nil) (.cons (.ret (.tup (.cons (.bytesOf (.slice (.var 0) (.var 1) (.bin .add (.var 1) (.var 2)))) (.cons (.bin .add (.var 1) (.var 2)) .nil)))) .nil)))
noncomputable def f14 : Fn := ⟨[("data", false), ("at", false), ("count", false)], 2, [], b14⟩
noncomputable def b200 : Ss := (.cons (.ite (.or (.cmp .lt (.var 2) (.int 0)) (.cmp .gt (.var 2) (.len (.var 1)))) (.cons .dead .nil) .nil) (.cons (.setAttr (.var 0) 1 (.var 1)) (.cons (.setAttr (.var 0) 2 (.var 2)) .nil)))
noncomputable def f200 : Fn := ⟨[("self", false), ("data", false), ("at", false)], 3, [.int 0], b200⟩
noncomputable def b201 : Ss := (.cons (.ret (.bin .sub (.len (.attr (.var 0) 1)) (.attr (.var 0) 2))) .nil)
noncomputable def f201 : Fn := ⟨[("self", false)], 1, [], b201⟩
noncomputable def b202 : Ss := (.cons (.assign 1 (.attr (.var 0) 2)) (.cons (.ite (.and (.cmp .lt (.var 1) (.len (.attr (.var 0) 1))) (.cmp .lt (.idx (.attr (.var 0) 1) (.var 1)) (.int 128))) (.cons (.setAttr (.var 0) 2 (.bin .add (.var 1) (.int 1))) (.cons (.ret (.idx (.attr (.var 0) 1) (.var 1))) .nil)) .nil) (.cons (.unpack 2 1 (.call 9 (.cons (.attr (.var 0) 1) (.cons (.var 1) .nil)))) (.cons (.setAttr (.var 0) 2 (.var 1)) (.cons (.ret (.var 2)) .nil)))))
noncomputable def f202 : Fn := ⟨[("self", false), ("at", false), ("n", false)], 1, [], b202⟩
noncomputable def b203 : Ss := (.cons (.assign 1 (.call 13 (.cons (.attr (.var 0) 1) (.cons (.attr (.var 0) 2) .nil)))) (.cons (.augAttr 0 2 .add (.int 4)) (.cons (.ret (.var 1)) .nil)))
noncomputable def f203 : Fn := ⟨[("self", false), ("n", false)], 1, [], b203⟩
noncomputable def b205 : Ss := (.cons (.unpack 1 2 (.call 14 (.cons (.attr (.var 0) 1) (.cons (.attr (.var 0) 2) .nil)))) (.cons (.setAttr (.var 0) 2 (.var 2)) (.cons (.ret (.var 1)) .nil)))
noncomputable def f205 : Fn := ⟨[("self", false), ("b", false), ("at", false)], 1, [], b205⟩
noncomputable def b209 : Ss := (.cons (.ite (.cmp .lt (.attr (.var 0) 2) (.len (.attr (.var 0) 1))) (.cons .dead .nil) .nil) .nil)
noncomputable def f209 : Fn := ⟨[("self", false)], 1, [], b209⟩
noncomputable def b210 : Ss := (.cons (.setAttr (.var 0) 0 .barr0) .nil)
noncomputable def f210 : Fn := ⟨[("self", false)], 1, [], b210⟩
noncomputable def b211 : Ss := (.cons (.ite (.and (.cmp .ge (.var 1) (.int 0)) (.cmp .lt (.var 1) (.int 128))) (.cons (.expr (.append (.attr (.var 0) 0) (.var 1))) .nil) (.cons (.expr (.extend (.attr (.var 0) 0) (.call 8 (.cons (.var 1) .nil)))) .nil)) .nil)
noncomputable def f211 : Fn := ⟨[("self", false), ("n", false)], 2, [], b211⟩
noncomputable def b212 : Ss := (.cons (.expr (.extend (.attr (.var 0) 0) (.call 12 (.cons (.var 1) .nil)))) .nil)
noncomputable def f212 : Fn := ⟨[("self", false), ("n", false)], 2, [], b212⟩
noncomputable def b214 : Ss := (.cons (.expr (.extend (.attr (.var 0) 0) (.call 10 (.cons (.len (.var 1)) .nil)))) (.cons (.expr (.extend (.attr (.var 0) 0) (.var 1))) .nil))
noncomputable def f214 : Fn := ⟨[("self", false), ("b", false)], 2, [], b214⟩
noncomputable def b218 : Ss := (.cons (.ret (.bytesOf (.attr (.var 0) 0))) .nil)
noncomputable def f218 : Fn := ⟨[("self", false)], 1, [], b218⟩
noncomputable def b219 : Ss := (.cons (.setAttr (.var 0) 3 (.var 1)) (.cons (.setAttr (.var 0) 4 (.var 2)) (.cons (.setAttr (.var 0) 5 (.var 3)) (.cons (.setAttr (.var 0) 6 (.var 4)) .nil))))
noncomputable def f219 : Fn := ⟨[("self", false), ("number", false), ("size", false), ("smallest", false), ("largest", false)], 5, [], b219⟩
noncomputable def b220 : Ss := (.cons (.ret (.tup (.cons (.attr (.var 0) 3) (.cons (.attr (.var 0) 4) (.cons (.attr (.var 0) 5) (.cons (.attr (.var 0) 6) .nil)))))) .nil)
noncomputable def f220 : Fn := ⟨[("self", false)], 1, [], b220⟩
noncomputable def b221 : Ss := (.cons (.setAttr (.var 0) 7 .none) (.cons (.setAttr (.var 0) 8 .none) (.cons (.setAttr (.var 0) 9 .none) (.cons (.setAttr (.var 0) 10 .none) (.cons (.setAttr (.var 0) 11 (.list .nil)) (.cons (.setAttr (.var 0) 12 (.list .nil)) (.cons (.setAttr (.var 0) 13 (.list .nil)) (.cons (.setAttr (.var 0) 14 (.bool false)) .nil))))))))
noncomputable def f221 : Fn := ⟨[("self", false)], 1, [], b221⟩
noncomputable def b222 : Ss := (.cons (.assign 1 (.list .nil)) (.cons (.each (.two 2 3) (.seq (.attr (.var 0) 13)) (.cons (.expr (.append (.var 1) (.tup (.cons (.var 2) (.cons (.meth (.var 3) 5 .nil) .nil))))) .nil)) (.cons (.ret (.tup (.cons (.attr (.var 0) 7) (.cons (.attr (.var 0) 8) (.cons (.attr (.var 0) 9) (.cons (.attr (.var 0) 10) (.cons (.tupOf (.attr (.var 0) 11)) (.cons (.tupOf (.attr (.var 0) 12)) (.cons (.tupOf (.var 1)) (.cons (.attr (.var 0) 14) .nil)))))))))) .nil)))
noncomputable def f222 : Fn := ⟨[("self", false), ("added", false), ("level", false), ("meta", false)], 1, [], b222⟩
noncomputable def b223 : Ss := (.cons (.assign 1 (.new 16 .nil)) (.cons (.ite (.attr (.var 0) 14) (.cons (.expr (.meth (.var 1) 1 (.cons (.gint 11) .nil))) .nil) .nil) (.cons (.ite (.notNone (.attr (.var 0) 7)) (.cons (.expr (.meth (.var 1) 1 (.cons (.gint 4) .nil))) (.cons (.expr (.meth (.var 1) 3 (.cons (.attr (.var 0) 7) .nil))) .nil)) .nil) (.cons (.ite (.notNone (.attr (.var 0) 8)) (.cons (.expr (.meth (.var 1) 1 (.cons (.gint 5) .nil))) (.cons (.expr (.meth (.var 1) 1 (.cons (.attr (.var 0) 8) .nil))) .nil)) .nil) (.cons (.ite (.notNone (.attr (.var 0) 9)) (.cons (.expr (.meth (.var 1) 1 (.cons (.gint 6) .nil))) (.cons (.expr (.meth (.var 1) 1 (.cons (.attr (.var 0) 9) .nil))) .nil)) .nil) (.cons (.ite (.notNone (.attr (.var 0) 10)) (.cons (.expr (.meth (.var 1) 1 (.cons (.gint 7) .nil))) (.cons (.expr (.meth (.var 1) 1 (.cons (.attr (.var 0) 10) .nil))) .nil)) .nil) (.cons (.each (.two 2 3) (.seq (.attr (.var 0) 11)) (.cons (.expr (.meth (.var 1) 1 (.cons (.gint 8) .nil))) (.cons (.expr (.meth (.var 1) 1 (.cons (.var 2) .nil))) (.cons (.expr (.meth (.var 1) 3 (.cons (.var 3) .nil))) .nil)))) (.cons (.each (.two 2 4) (.seq (.attr (.var 0) 12)) (.cons (.expr (.meth (.var 1) 1 (.cons (.gint 9) .nil))) (.cons (.expr (.meth (.var 1) 1 (.cons (.var 2) .nil))) (.cons (.expr (.meth (.var 1) 1 (.cons (.var 4) .nil))) .nil)))) (.cons (.each (.two 2 5) (.seq (.attr (.var 0) 13)) (.cons (.expr (.meth (.var 1) 1 (.cons (.gint 10) .nil))) (.cons (.expr (.meth (.var 1) 1 (.cons (.var 2) .nil))) (.cons (.expr (.meth (.var 1) 1 (.cons (.attr (.var 5) 3) .nil))) (.cons (.expr (.meth (.var 1) 1 (.cons (.attr (.var 5) 4) .nil))) (.cons (.expr (.meth (.var 1) 3 (.cons (.attr (.var 5) 5) .nil))) (.cons (.expr (.meth (.var 1) 3 (.cons (.attr (.var 5) 6) .nil))) .nil))))))) (.cons (.ret (.meth (.var 1) 4 .nil)) .nil))))))))))
noncomputable def f223 : Fn := ⟨[("self", false), ("sink", false), ("level", false), ("ikey", false), ("number", false), ("meta", false)], 1, [], b223⟩
noncomputable def b19 : Ss := (.cons (.assign 1 (.meth (.var 0) 1 .nil)) (.cons (.ite (.cmp .ge (.var 1) (.gint 3)) (.cons .dead .nil) .nil) (.cons (.ret (.var 1)) .nil)))
noncomputable def f19 : Fn := ⟨[("cursor", false), ("level", false)], 1, [], b19⟩
noncomputable def b20 : Ss := (.cons (.assign 1 (.meth (.var 0) 1 .nil)) (.cons (.ite (.cmp .gt (.var 1) (.gint 2)) (.cons .dead .nil) .nil) (.cons (.ret (.var 1)) .nil)))
noncomputable def f20 : Fn := ⟨[("cursor", false), ("seq", false)], 1, [], b20⟩
noncomputable def b21 : Ss := (.cons (.assign 1 (.meth (.var 0) 3 .nil)) (.cons (.ite (.cmp .eq (.len (.var 1)) (.int 0)) (.cons .dead .nil) .nil) (.cons (.ret (.var 1)) .nil)))
noncomputable def f21 : Fn := ⟨[("cursor", false), ("ikey", false)], 1, [], b21⟩
noncomputable def b22 : Ss := (.cons (.assign 1 (.new 18 .nil)) (.cons (.assign 2 (.new 15 (.cons (.var 0) .nil))) (.cons (.loop (.cmp .gt (.meth (.var 2) 0 .nil) (.int 0)) (.cons (.assign 3 (.meth (.var 2) 1 .nil)) (.cons (.ite (.cmp .eq (.var 3) (.gint 4)) (.cons (.setAttr (.var 1) 7 (.meth (.var 2) 3 .nil)) .nil) (.cons (.ite (.cmp .eq (.var 3) (.gint 5)) (.cons (.setAttr (.var 1) 8 (.meth (.var 2) 1 .nil)) .nil) (.cons (.ite (.cmp .eq (.var 3) (.gint 6)) (.cons (.setAttr (.var 1) 9 (.meth (.var 2) 1 .nil)) .nil) (.cons (.ite (.cmp .eq (.var 3) (.gint 7)) (.cons (.setAttr (.var 1) 10 (.call 20 (.cons (.var 2) .nil))) .nil) (.cons (.ite (.cmp .eq (.var 3) (.gint 8)) (.cons (.assign 4 (.call 19 (.cons (.var 2) .nil))) (.cons (.expr (.append (.attr (.var 1) 11) (.tup (.cons (.var 4) (.cons (.call 21 (.cons (.var 2) .nil)) .nil))))) .nil)) (.cons (.ite (.cmp .eq (.var 3) (.gint 9)) (.cons (.assign 4 (.call 19 (.cons (.var 2) .nil))) (.cons (.expr (.append (.attr (.var 1) 12) (.tup (.cons (.var 4) (.cons (.meth (.var 2) 1 .nil) .nil))))) .nil)) (.cons (.ite (.cmp .eq (.var 3) (.gint 10)) (.cons (.assign 4 (.call 19 (.cons (.var 2) .nil))) (.cons (.assign 5 (.meth (.var 2) 1 .nil)) (.cons (.assign 6 (.meth (.var 2) 1 .nil)) (.cons (.assign 7 (.call 21 (.cons (.var 2) .nil))) (.cons (.assign 8 (.call 21 (.cons (.var 2) .nil))) (.cons (.expr (.append (.attr (.var 1) 13) (.tup (.cons (.var 4) (.cons (.new 17 (.cons (.var 5) (.cons (.var 6) (.cons (.var 7) (.cons (.var 8) .nil))))) .nil))))) .nil)))))) (.cons (.ite (.cmp .eq (.var 3) (.gint 11)) (.cons (.setAttr (.var 1) 14 (.bool true)) .nil) (.cons .dead .nil)) .nil)) .nil)) .nil)) .nil)) .nil)) .nil)) .nil)) .nil))) (.cons (.ret (.var 1)) .nil))))
noncomputable def f22 : Fn := ⟨[("data", false), ("edit", false), ("cursor", false), ("tag", false), ("level", false), ("number", false), ("size", false), ("smallest", false), ("largest", false)], 1, [], b22⟩
noncomputable def b224 : Ss := (.cons (.setAttr (.var 0) 15 (.var 1)) (.cons (.setAttr (.var 0) 4 (.var 2)) (.cons (.setAttr (.var 0) 16 (.var 3)) (.cons (.setAttr (.var 0) 5 (.var 4)) (.cons (.setAttr (.var 0) 6 (.var 5)) .nil)))))
noncomputable def f224 : Fn := ⟨[("self", false), ("level", false), ("size", false), ("check", false), ("smallest", false), ("largest", false)], 6, [], b224⟩
noncomputable def b225 : Ss := (.cons (.ret (.tup (.cons (.attr (.var 0) 15) (.cons (.attr (.var 0) 4) (.cons (.attr (.var 0) 16) (.cons (.attr (.var 0) 5) (.cons (.attr (.var 0) 6) .nil))))))) .nil)
noncomputable def f225 : Fn := ⟨[("self", false)], 1, [], b225⟩
noncomputable def b227 : Ss := (.cons (.setAttr (.var 0) 17 (.var 1)) (.cons (.setAttr (.var 0) 18 (.var 2)) (.cons (.setAttr (.var 0) 19 (.var 3)) (.cons (.setAttr (.var 0) 10 (.var 4)) (.cons (.setAttr (.var 0) 20 (.var 5)) .nil)))))
noncomputable def f227 : Fn := ⟨[("self", false), ("index", false), ("term", false), ("conf_octets", false), ("last_seq", false), ("runs", false)], 6, [], b227⟩
noncomputable def b228 : Ss := (.cons (.assign 1 (.list .nil)) (.cons (.each (.one 2) (.seq (.attr (.var 0) 20)) (.cons (.expr (.append (.var 1) (.meth (.var 2) 5 .nil))) .nil)) (.cons (.ret (.tup (.cons (.attr (.var 0) 17) (.cons (.attr (.var 0) 18) (.cons (.attr (.var 0) 19) (.cons (.attr (.var 0) 10) (.cons (.tupOf (.var 1)) .nil))))))) .nil)))
noncomputable def f228 : Fn := ⟨[("self", false), ("rows", false), ("run", false)], 1, [], b228⟩
noncomputable def b229 : Ss := (.cons (.assign 1 (.new 16 .nil)) (.cons (.expr (.meth (.var 1) 1 (.cons (.attr (.var 0) 17) .nil))) (.cons (.expr (.meth (.var 1) 1 (.cons (.attr (.var 0) 18) .nil))) (.cons (.expr (.meth (.var 1) 1 (.cons (.attr (.var 0) 10) .nil))) (.cons (.expr (.meth (.var 1) 3 (.cons (.attr (.var 0) 19) .nil))) (.cons (.expr (.meth (.var 1) 1 (.cons (.len (.attr (.var 0) 20)) .nil))) (.cons (.each (.one 2) (.seq (.attr (.var 0) 20)) (.cons (.expr (.meth (.var 1) 1 (.cons (.attr (.var 2) 15) .nil))) (.cons (.expr (.meth (.var 1) 1 (.cons (.attr (.var 2) 4) .nil))) (.cons (.expr (.meth (.var 1) 2 (.cons (.attr (.var 2) 16) .nil))) (.cons (.expr (.meth (.var 1) 3 (.cons (.attr (.var 2) 5) .nil))) (.cons (.expr (.meth (.var 1) 3 (.cons (.attr (.var 2) 6) .nil))) .nil)))))) (.cons (.ret (.meth (.var 1) 4 .nil)) .nil))))))))
noncomputable def f229 : Fn := ⟨[("self", false), ("sink", false), ("run", false)], 1, [], b229⟩
noncomputable def b25 : Ss := (.cons (.assign 1 (.new 15 (.cons (.var 0) .nil))) (.cons (.assign 2 (.meth (.var 1) 1 .nil)) (.cons (.assign 3 (.meth (.var 1) 1 .nil)) (.cons (.assign 4 (.meth (.var 1) 1 .nil)) (.cons (.ite (.cmp .gt (.var 4) (.gint 2)) (.cons .dead .nil) .nil) (.cons (.assign 5 (.meth (.var 1) 3 .nil)) (.cons (.assign 6 (.meth (.var 1) 1 .nil)) (.cons (.assign 7 (.list .nil)) (.cons (.loop (.cmp .lt (.len (.var 7)) (.var 6)) (.cons (.assign 8 (.meth (.var 1) 1 .nil)) (.cons (.ite (.cmp .ge (.var 8) (.gint 3)) (.cons .dead .nil) .nil) (.cons (.assign 9 (.meth (.var 1) 1 .nil)) (.cons (.assign 10 (.meth (.var 1) 2 .nil)) (.cons (.assign 11 (.meth (.var 1) 3 .nil)) (.cons (.assign 12 (.meth (.var 1) 3 .nil)) (.cons (.expr (.append (.var 7) (.new 23 (.cons (.var 8) (.cons (.var 9) (.cons (.var 10) (.cons (.var 11) (.cons (.var 12) .nil)))))))) .nil)))))))) (.cons (.expr (.meth (.var 1) 4 .nil)) (.cons (.ret (.new 24 (.cons (.var 2) (.cons (.var 3) (.cons (.var 5) (.cons (.var 4) (.cons (.var 7) .nil))))))) .nil)))))))))))
noncomputable def f25 : Fn := ⟨[("data", false), ("cursor", false), ("index", false), ("term", false), ("last_seq", false), ("conf_octets", false), ("count", false), ("runs", false), ("level", false), ("size", false), ("check", false), ("smallest", false), ("largest", false)], 1, [], b25⟩
noncomputable def b26 : Ss := (.cons (.ret (.bin .add (.idx (.var 0) (.bin .mod (.var 1) (.len (.var 0)))) (.bin .mul (.int 1009) (.bin .fdiv (.var 1) (.len (.var 0)))))) .nil)
noncomputable def f26 : Fn := ⟨[("nums", false), ("i", false)], 2, [], b26⟩
noncomputable def b27 : Ss := (.cons (.ite (.cmp .eq (.bin .mod (.var 0) (.int 11)) (.int 10)) (.cons (.ret (.int 18446744073709551615)) .nil) .nil) (.cons (.ret (.bin .add (.bin .sub (.bin .pow (.int 128) (.bin .mod (.var 0) (.int 11))) (.int 1)) (.bin .mod (.bin .fdiv (.var 0) (.int 11)) (.int 2)))) .nil))
noncomputable def f27 : Fn := ⟨[("y", false)], 1, [], b27⟩
noncomputable def b28 : Ss := (.cons (.assign 2 (.call 27 (.cons (.var 1) .nil))) (.cons (.ite (.cmp .eq (.var 2) (.var 0)) (.cons (.assign 2 (.call 27 (.cons (.bin .add (.var 1) (.int 1)) .nil))) .nil) .nil) (.cons (.ret (.var 2)) .nil)))
noncomputable def f28 : Fn := ⟨[("old", false), ("y", false), ("fresh", false)], 2, [], b28⟩
noncomputable def b29 : Ss := (.cons (.ite (.cmp .eq (.bin .mod (.var 0) (.int 2)) (.int 0)) (.cons (.ret (.bin .add (.int 18446744073709551616) (.var 0))) .nil) .nil) (.cons (.ret (.bin .sub (.int 0) (.var 0))) .nil))
noncomputable def f29 : Fn := ⟨[("y", false)], 1, [], b29⟩
noncomputable def b30 : Ss := (.cons (.ret (.sliceTo (.bin .mul (.bytesOf (.list (.cons (.bin .mod (.var 0) (.int 256)) (.cons (.int 3) (.cons (.int 255) .nil))))) (.int 44)) (.idx (.tup (.cons (.int 9) (.cons (.int 1) (.cons (.int 128) (.cons (.int 2) (.cons (.int 127) (.cons (.int 11) (.cons (.int 130) (.cons (.int 8) .nil))))))))) (.bin .mod (.bin .fdiv (.var 0) (.int 256)) (.int 8))))) .nil)
noncomputable def f30 : Fn := ⟨[("y", false)], 1, [], b30⟩
noncomputable def b31 : Ss := (.cons (.assign 1 (.int 1)) (.cons (.loop (.cmp .ge (.var 0) (.bin .pow (.int 128) (.var 1))) (.cons (.assign 1 (.bin .add (.var 1) (.int 1))) .nil)) (.cons (.ret (.bytesOf (.comp (.bin .add (.bin .mod (.bin .fdiv (.up 0) (.bin .pow (.int 128) (.var 0))) (.int 128)) (.ite (.cmp .lt (.bin .add (.var 0) (.int 1)) (.up 1)) (.int 128) (.int 0))) false (.r1 (.var 1))))) .nil)))
noncomputable def f31 : Fn := ⟨[("n", true), ("groups", true)], 1, [], b31⟩
noncomputable def b32 : Ss := (.cons (.ret (.bin .add (.call 31 (.cons (.len (.var 0)) .nil)) (.var 0))) .nil)
noncomputable def f32 : Fn := ⟨[("b", false)], 1, [], b32⟩
noncomputable def b33 : Ss := (.cons (.assign 1 (.ite (.idx (.var 0) (.int 5)) (.bytes [10]) (.bytes []))) (.cons (.ite (.notNone (.idx (.idx (.var 0) (.int 1)) (.int 0))) (.cons (.assign 1 (.bin .add (.bin .add (.var 1) (.bytes [1])) (.call 32 (.cons (.idx (.idx (.var 0) (.int 1)) (.int 0)) .nil)))) .nil) .nil) (.cons (.each (.one 2) (.r2 (.int 1) (.int 4)) (.cons (.ite (.notNone (.idx (.idx (.var 0) (.int 1)) (.var 2))) (.cons (.assign 1 (.bin .add (.bin .add (.var 1) (.bytesOf (.list (.cons (.bin .add (.var 2) (.int 1)) .nil)))) (.call 31 (.cons (.idx (.idx (.var 0) (.int 1)) (.var 2)) .nil)))) .nil) .nil) .nil)) (.cons (.each (.two 3 4) (.seq (.idx (.var 0) (.int 2))) (.cons (.assign 1 (.bin .add (.bin .add (.var 1) (.bytesOf (.list (.cons (.int 5) (.cons (.var 3) .nil))))) (.call 32 (.cons (.var 4) .nil)))) .nil)) (.cons (.each (.two 3 5) (.seq (.idx (.var 0) (.int 3))) (.cons (.assign 1 (.bin .add (.bin .add (.var 1) (.bytesOf (.list (.cons (.int 6) (.cons (.var 3) .nil))))) (.call 31 (.cons (.var 5) .nil)))) .nil)) (.cons (.each (.two 3 6) (.seq (.idx (.var 0) (.int 4))) (.cons (.assign 7 (.idx (.var 6) (.int 1))) (.cons (.assign 1 (.bin .add (.bin .add (.bin .add (.bin .add (.bin .add (.var 1) (.bytesOf (.list (.cons (.int 7) (.cons (.var 3) .nil))))) (.call 31 (.cons (.idx (.var 7) (.int 0)) .nil))) (.call 31 (.cons (.idx (.var 7) (.int 1)) .nil))) (.call 32 (.cons (.idx (.var 7) (.int 2)) .nil))) (.call 32 (.cons (.idx (.var 7) (.int 3)) .nil)))) .nil))) (.cons (.ret (.var 1)) .nil)))))))
noncomputable def f33 : Fn := ⟨[("b", false), ("out", false), ("i", false), ("level", false), ("key", false), ("number", false), ("pair", false), ("row", false)], 1, [], b33⟩
noncomputable def b34 : Ss := (.cons (.assign 1 (.tupOf (.comp (.tup (.cons (.var 0) (.cons (.tupOf (.idx (.var 1) (.int 1))) .nil))) true (.seq (.idx (.var 0) (.int 4)))))) (.cons (.ret (.tup (.cons (.idx (.idx (.var 0) (.int 1)) (.int 0)) (.cons (.idx (.idx (.var 0) (.int 1)) (.int 1)) (.cons (.idx (.idx (.var 0) (.int 1)) (.int 2)) (.cons (.idx (.idx (.var 0) (.int 1)) (.int 3)) (.cons (.tupOf (.idx (.var 0) (.int 2))) (.cons (.tupOf (.idx (.var 0) (.int 3))) (.cons (.var 1) (.cons (.idx (.var 0) (.int 5)) .nil)))))))))) .nil))
noncomputable def f34 : Fn := ⟨[("b", false), ("come", false)], 1, [], b34⟩
noncomputable def b35 : Ss := (.cons (.assign 1 (.call 34 (.cons (.var 0) .nil))) (.cons (.assign 2 (.call 33 (.cons (.var 0) .nil))) (.cons (.ret (.and (.cmp .eq (.meth (.idx (.var 0) (.int 0)) 5 .nil) (.var 1)) (.and (.cmp .eq (.meth (.idx (.var 0) (.int 0)) 6 .nil) (.var 2)) (.cmp .eq (.meth (.call 22 (.cons (.var 2) .nil)) 5 .nil) (.var 1))))) .nil)))
noncomputable def f35 : Fn := ⟨[("b", false), ("row", false), ("octets", false)], 1, [], b35⟩
noncomputable def b36 : Ss := (.cons (.setIdx (.idx (.var 0) (.int 1)) (.var 1) (.var 2)) (.cons (.ite (.cmp .eq (.var 1) (.int 0)) (.cons (.setAttr (.idx (.var 0) (.int 0)) 7 (.var 2)) .nil) (.cons (.ite (.cmp .eq (.var 1) (.int 1)) (.cons (.setAttr (.idx (.var 0) (.int 0)) 8 (.var 2)) .nil) (.cons (.ite (.cmp .eq (.var 1) (.int 2)) (.cons (.setAttr (.idx (.var 0) (.int 0)) 9 (.var 2)) .nil) (.cons (.setAttr (.idx (.var 0) (.int 0)) 10 (.var 2)) .nil)) .nil)) .nil)) .nil))
noncomputable def f36 : Fn := ⟨[("b", false), ("i", false), ("fresh", false)], 3, [], b36⟩
noncomputable def b37 : Ss := (.cons (.ite (.cmp .eq (.var 0) (.int 0)) (.cons (.assign 3 (.call 30 (.cons (.var 2) .nil))) (.cons (.ite (.cmp .eq (.var 3) (.var 1)) (.cons (.assign 3 (.call 30 (.cons (.bin .add (.var 2) (.int 1)) .nil))) .nil) .nil) (.cons (.ret (.var 3)) .nil))) .nil) (.cons (.assign 3 (.call 27 (.cons (.var 2) .nil))) (.cons (.ite (.cmp .eq (.var 0) (.int 3)) (.cons (.assign 3 (.min (.var 3) (.int 72057594037927935))) .nil) .nil) (.cons (.ite (.cmp .eq (.var 3) (.var 1)) (.cons (.assign 3 (.bin .add (.bin .fdiv (.var 3) (.int 2)) (.int 2))) .nil) .nil) (.cons (.ret (.var 3)) .nil)))))
noncomputable def f37 : Fn := ⟨[("i", false), ("old", false), ("y", false), ("fresh", false)], 3, [], b37⟩
noncomputable def b38 : Ss := (.cons (.assign 2 (.tup (.cons (.bin .mod (.var 1) (.int 12)) (.cons (.call 30 (.cons (.bin .fdiv (.var 1) (.int 5)) .nil)) .nil)))) (.cons (.expr (.append (.attr (.idx (.var 0) (.int 0)) 11) (.var 2))) (.cons (.expr (.append (.idx (.var 0) (.int 2)) (.var 2))) .nil)))
noncomputable def f38 : Fn := ⟨[("b", false), ("y", false), ("one", false)], 2, [], b38⟩
noncomputable def b39 : Ss := (.cons (.assign 2 (.tup (.cons (.bin .mod (.var 1) (.int 12)) (.cons (.call 27 (.cons (.bin .fdiv (.var 1) (.int 12)) .nil)) .nil)))) (.cons (.expr (.append (.attr (.idx (.var 0) (.int 0)) 12) (.var 2))) (.cons (.expr (.append (.idx (.var 0) (.int 3)) (.var 2))) .nil)))
noncomputable def f39 : Fn := ⟨[("b", false), ("y", false), ("one", false)], 2, [], b39⟩
noncomputable def b40 : Ss := (.cons (.assign 2 (.list (.cons (.call 27 (.cons (.bin .fdiv (.var 1) (.int 12)) .nil)) (.cons (.call 27 (.cons (.bin .fdiv (.var 1) (.int 5)) .nil)) (.cons (.call 30 (.cons (.bin .fdiv (.var 1) (.int 3)) .nil)) (.cons (.call 30 (.cons (.bin .fdiv (.var 1) (.int 7)) .nil)) .nil)))))) (.cons (.assign 3 (.new 17 (.cons (.idx (.var 2) (.int 0)) (.cons (.idx (.var 2) (.int 1)) (.cons (.idx (.var 2) (.int 2)) (.cons (.idx (.var 2) (.int 3)) .nil)))))) (.cons (.expr (.append (.attr (.idx (.var 0) (.int 0)) 13) (.tup (.cons (.bin .mod (.var 1) (.int 12)) (.cons (.var 3) .nil))))) (.cons (.expr (.append (.idx (.var 0) (.int 4)) (.tup (.cons (.bin .mod (.var 1) (.int 12)) (.cons (.list (.cons (.var 3) (.cons (.var 2) .nil))) .nil))))) .nil))))
noncomputable def f40 : Fn := ⟨[("b", false), ("y", false), ("row", false), ("meta", false)], 2, [], b40⟩
noncomputable def b41 : Ss := (.cons (.assign 2 (.compIf (.var 0) false (.r2 (.int 2) (.int 5)) (.cmp .gt (.len (.idx (.up 0) (.var 0))) (.int 0)))) (.cons (.ite (.cmp .eq (.len (.var 2)) (.int 0)) (.cons .retNone .nil) .nil) (.cons (.assign 3 (.idx (.var 2) (.bin .mod (.var 1) (.len (.var 2))))) (.cons (.assign 4 (.bin .mod (.bin .fdiv (.var 1) (.int 3)) (.len (.idx (.var 0) (.var 3))))) (.cons (.expr (.popAt (.idx (.var 0) (.var 3)) (.var 4))) (.cons (.ite (.cmp .eq (.var 3) (.int 2)) (.cons (.expr (.popAt (.attr (.idx (.var 0) (.int 0)) 11) (.var 4))) .nil) (.cons (.ite (.cmp .eq (.var 3) (.int 3)) (.cons (.expr (.popAt (.attr (.idx (.var 0) (.int 0)) 12) (.var 4))) .nil) (.cons (.expr (.popAt (.attr (.idx (.var 0) (.int 0)) 13) (.var 4))) .nil)) .nil)) .nil))))))
noncomputable def f41 : Fn := ⟨[("b", true), ("y", false), ("kinds", false), ("i", false), ("at", false)], 2, [], b41⟩
noncomputable def b42 : Ss := (.cons (.ite (.cmp .gt (.len (.idx (.var 0) (.int 2))) (.int 0)) (.cons (.assign 2 (.bin .mod (.var 1) (.len (.idx (.var 0) (.int 2))))) (.cons (.assign 3 (.tup (.cons (.bin .mod (.bin .add (.bin .add (.idx (.idx (.idx (.var 0) (.int 2)) (.var 2)) (.int 0)) (.int 1)) (.bin .mod (.bin .fdiv (.var 1) (.int 3)) (.int 11))) (.int 12)) (.cons (.call 30 (.cons (.bin .fdiv (.var 1) (.int 4)) .nil)) .nil)))) (.cons (.setIdx (.idx (.var 0) (.int 2)) (.var 2) (.var 3)) (.cons (.setIdx (.attr (.idx (.var 0) (.int 0)) 11) (.var 2) (.var 3)) .nil)))) .nil) (.cons (.ite (.cmp .gt (.len (.idx (.var 0) (.int 3))) (.int 0)) (.cons (.assign 2 (.bin .mod (.var 1) (.len (.idx (.var 0) (.int 3))))) (.cons (.assign 3 (.tup (.cons (.idx (.idx (.idx (.var 0) (.int 3)) (.var 2)) (.int 0)) (.cons (.call 28 (.cons (.idx (.idx (.idx (.var 0) (.int 3)) (.var 2)) (.int 1)) (.cons (.bin .fdiv (.var 1) (.int 2)) .nil))) .nil)))) (.cons (.setIdx (.idx (.var 0) (.int 3)) (.var 2) (.var 3)) (.cons (.setIdx (.attr (.idx (.var 0) (.int 0)) 12) (.var 2) (.var 3)) .nil)))) .nil) .nil))
noncomputable def f42 : Fn := ⟨[("b", false), ("y", false), ("at", false), ("one", false)], 2, [], b42⟩
noncomputable def b43 : Ss := (.cons (.setIdx (.idx (.var 0) (.int 1)) (.var 1) (.var 2)) (.cons (.ite (.cmp .eq (.var 1) (.int 0)) (.cons (.setAttr (.idx (.var 0) (.int 0)) 3 (.var 2)) .nil) (.cons (.ite (.cmp .eq (.var 1) (.int 1)) (.cons (.setAttr (.idx (.var 0) (.int 0)) 4 (.var 2)) .nil) (.cons (.ite (.cmp .eq (.var 1) (.int 2)) (.cons (.setAttr (.idx (.var 0) (.int 0)) 5 (.var 2)) .nil) (.cons (.setAttr (.idx (.var 0) (.int 0)) 6 (.var 2)) .nil)) .nil)) .nil)) .nil))
noncomputable def f43 : Fn := ⟨[("pair", false), ("f", false), ("fresh", false)], 3, [], b43⟩
noncomputable def b44 : Ss := (.cons (.ite (.cmp .eq (.len (.idx (.var 0) (.int 4))) (.int 0)) (.cons .retNone .nil) .nil) (.cons (.assign 2 (.idx (.idx (.idx (.var 0) (.int 4)) (.bin .mod (.bin .fdiv (.var 1) (.int 4)) (.len (.idx (.var 0) (.int 4))))) (.int 1))) (.cons (.assign 3 (.bin .mod (.var 1) (.int 4))) (.cons (.ite (.cmp .lt (.var 3) (.int 2)) (.cons (.expr (.call 43 (.cons (.var 2) (.cons (.var 3) (.cons (.call 28 (.cons (.idx (.idx (.var 2) (.int 1)) (.var 3)) (.cons (.bin .fdiv (.var 1) (.int 16)) .nil))) .nil))))) .nil) (.cons (.expr (.call 43 (.cons (.var 2) (.cons (.var 3) (.cons (.call 37 (.cons (.int 0) (.cons (.idx (.idx (.var 2) (.int 1)) (.var 3)) (.cons (.bin .fdiv (.var 1) (.int 16)) .nil)))) .nil))))) .nil)) .nil))))
noncomputable def f44 : Fn := ⟨[("b", false), ("y", false), ("pair", false), ("f", false)], 2, [], b44⟩
noncomputable def b45 : Ss := (.cons (.tryBad (.meth (.var 0) 6 .nil)) (.cons (.ret (.bool false)) .nil))
noncomputable def f45 : Fn := ⟨[("thing", false)], 1, [], b45⟩
noncomputable def b46 : Ss := (.cons (.assign 2 (.bin .add (.int 1) (.bin .mod (.var 1) (.int 3)))) (.cons (.assign 3 (.call 29 (.cons (.bin .fdiv (.var 1) (.int 3)) .nil))) (.cons (.assign 4 (.idx (.idx (.var 0) (.int 1)) (.var 2))) (.cons (.expr (.call 36 (.cons (.var 0) (.cons (.var 2) (.cons (.var 3) .nil))))) (.cons (.assign 5 (.call 45 (.cons (.idx (.var 0) (.int 0)) .nil))) (.cons (.expr (.call 36 (.cons (.var 0) (.cons (.var 2) (.cons (.var 4) .nil))))) (.cons (.expr (.append (.attr (.idx (.var 0) (.int 0)) 12) (.tup (.cons (.bin .mod (.var 1) (.int 12)) (.cons (.var 3) .nil))))) (.cons (.assign 5 (.and (.var 5) (.call 45 (.cons (.idx (.var 0) (.int 0)) .nil)))) (.cons (.expr (.pop (.attr (.idx (.var 0) (.int 0)) 12))) (.cons (.ite (.cmp .gt (.len (.idx (.var 0) (.int 4))) (.int 0)) (.cons (.assign 6 (.idx (.idx (.idx (.var 0) (.int 4)) (.bin .mod (.bin .fdiv (.var 1) (.int 12)) (.len (.idx (.var 0) (.int 4))))) (.int 1))) (.cons (.assign 7 (.bin .mod (.bin .fdiv (.var 1) (.int 6)) (.int 2))) (.cons (.assign 4 (.idx (.idx (.var 6) (.int 1)) (.var 7))) (.cons (.expr (.call 43 (.cons (.var 6) (.cons (.var 7) (.cons (.var 3) .nil))))) (.cons (.assign 5 (.and (.var 5) (.call 45 (.cons (.idx (.var 0) (.int 0)) .nil)))) (.cons (.expr (.call 43 (.cons (.var 6) (.cons (.var 7) (.cons (.var 4) .nil))))) .nil)))))) .nil) (.cons (.ret (.var 5)) .nil)))))))))))
noncomputable def f46 : Fn := ⟨[("b", false), ("y", false), ("i", false), ("far", false), ("old", false), ("good", false), ("pair", false), ("f", false)], 2, [], b46⟩
noncomputable def b47 : Ss := (.cons (.assign 1 (.call 22 (.cons (.meth (.idx (.var 0) (.int 0)) 6 .nil) .nil))) (.cons (.ite (.cmp .ne (.len (.attr (.var 1) 13)) (.len (.idx (.var 0) (.int 4)))) (.cons (.ret .none) .nil) .nil) (.cons (.assign 2 (.comp (.tup (.cons (.idx (.idx (.idx (.up 0) (.int 4)) (.var 0)) (.int 0)) (.cons (.list (.cons (.idx (.idx (.attr (.up 1) 13) (.var 0)) (.int 1)) (.cons (.listOf (.idx (.idx (.idx (.idx (.up 0) (.int 4)) (.var 0)) (.int 1)) (.int 1))) .nil))) .nil))) false (.r1 (.len (.idx (.var 0) (.int 4)))))) (.cons (.ret (.list (.cons (.var 1) (.cons (.listOf (.idx (.var 0) (.int 1))) (.cons (.listOf (.idx (.var 0) (.int 2))) (.cons (.listOf (.idx (.var 0) (.int 3))) (.cons (.var 2) (.cons (.idx (.var 0) (.int 5)) .nil)))))))) .nil))))
noncomputable def f47 : Fn := ⟨[("b", true), ("fresh", true), ("come", false)], 1, [], b47⟩
noncomputable def b48 : Ss := (.cons (.assign 3 (.idx (.var 0) (.var 1))) (.cons (.assign 4 (.call 47 (.cons (.var 3) .nil))) (.cons (.ite (.isNone (.var 4)) (.cons (.ret (.bool false)) .nil) .nil) (.cons (.expr (.call 38 (.cons (.var 3) (.cons (.var 2) .nil)))) (.cons (.expr (.call 39 (.cons (.var 4) (.cons (.bin .fdiv (.var 2) (.int 2)) .nil)))) (.cons (.expr (.call 40 (.cons (.var 3) (.cons (.bin .fdiv (.var 2) (.int 3)) .nil)))) (.cons (.expr (.call 44 (.cons (.var 4) (.cons (.var 2) .nil)))) (.cons (.expr (.call 38 (.cons (.var 4) (.cons (.bin .fdiv (.var 2) (.int 4)) .nil)))) (.cons (.ite (.or (.not (.call 35 (.cons (.var 4) .nil))) (.not (.call 35 (.cons (.var 3) .nil)))) (.cons (.ret (.bool false)) .nil) .nil) (.cons (.ite (.and (.cmp .eq (.bin .mod (.var 2) (.int 2)) (.int 0)) (.cmp .lt (.len (.var 0)) (.int 3))) (.cons (.expr (.append (.var 0) (.var 4))) .nil) (.cons (.setIdx (.var 0) (.var 1) (.var 4)) .nil)) (.cons (.ret (.bool true)) .nil)))))))))))
noncomputable def f48 : Fn := ⟨[("books", false), ("at", false), ("y", false), ("b", false), ("h", false)], 3, [], b48⟩
noncomputable def b49 : Ss := (.cons (.assign 3 (.bin .mod (.var 1) (.len (.var 0)))) (.cons (.assign 4 (.idx (.var 0) (.var 3))) (.cons (.assign 5 (.bin .mod (.var 2) (.int 9))) (.cons (.assign 6 (.bin .fdiv (.var 2) (.int 9))) (.cons (.ite (.cmp .eq (.var 5) (.int 0)) (.cons (.assign 7 (.bin .mod (.var 6) (.int 4))) (.cons (.ite (.and (.notNone (.idx (.idx (.var 4) (.int 1)) (.var 7))) (.cmp .eq (.bin .mod (.bin .fdiv (.var 6) (.int 4)) (.int 3)) (.int 2))) (.cons (.expr (.call 36 (.cons (.var 4) (.cons (.var 7) (.cons .none .nil))))) .nil) (.cons (.expr (.call 36 (.cons (.var 4) (.cons (.var 7) (.cons (.call 37 (.cons (.var 7) (.cons (.idx (.idx (.var 4) (.int 1)) (.var 7)) (.cons (.bin .fdiv (.var 6) (.int 12)) .nil)))) .nil))))) .nil)) .nil)) (.cons (.ite (.cmp .eq (.var 5) (.int 1)) (.cons (.ite (.not (.call 48 (.cons (.var 0) (.cons (.var 3) (.cons (.var 6) .nil))))) (.cons (.ret (.bool false)) .nil) .nil) .nil) (.cons (.ite (.cmp .eq (.var 5) (.int 2)) (.cons (.expr (.call 44 (.cons (.var 4) (.cons (.var 6) .nil)))) .nil) (.cons (.ite (.cmp .eq (.var 5) (.int 3)) (.cons (.expr (.call 41 (.cons (.var 4) (.cons (.var 6) .nil)))) .nil) (.cons (.ite (.cmp .eq (.var 5) (.int 4)) (.cons (.ite (.not (.call 46 (.cons (.var 4) (.cons (.var 6) .nil)))) (.cons (.ret (.bool false)) .nil) .nil) .nil) (.cons (.ite (.cmp .eq (.var 5) (.int 5)) (.cons (.setIdx (.var 4) (.int 5) (.not (.idx (.var 4) (.int 5)))) (.cons (.setAttr (.idx (.var 4) (.int 0)) 14 (.idx (.var 4) (.int 5))) .nil)) (.cons (.ite (.cmp .eq (.var 5) (.int 6)) (.cons (.expr (.call 42 (.cons (.var 4) (.cons (.var 6) .nil)))) .nil) (.cons (.ite (.cmp .eq (.var 5) (.int 7)) (.cons (.expr (.call 40 (.cons (.var 4) (.cons (.var 6) .nil)))) .nil) (.cons (.ite (.cmp .eq (.bin .mod (.var 6) (.int 2)) (.int 0)) (.cons (.expr (.call 38 (.cons (.var 4) (.cons (.bin .fdiv (.var 6) (.int 2)) .nil)))) .nil) (.cons (.expr (.call 39 (.cons (.var 4) (.cons (.bin .fdiv (.var 6) (.int 2)) .nil)))) .nil)) .nil)) .nil)) .nil)) .nil)) .nil)) .nil)) .nil)) .nil)) (.cons (.each (.one 8) (.seq (.var 0)) (.cons (.ite (.cmp .ne (.meth (.idx (.var 8) (.int 0)) 5 .nil) (.call 34 (.cons (.var 8) .nil))) (.cons (.ret (.bool false)) .nil) .nil) .nil)) (.cons (.ret (.call 35 (.cons (.idx (.var 0) (.var 3)) .nil))) .nil)))))))
noncomputable def f49 : Fn := ⟨[("books", false), ("y", false), ("z", false), ("at", false), ("b", false), ("act", false), ("q", false), ("i", false), ("one", false)], 3, [], b49⟩
noncomputable def b50 : Ss := (.cons (.assign 1 (.bin .add (.bin .add (.bin .add (.bin .add (.call 31 (.cons (.idx (.idx (.var 0) (.int 1)) (.int 0)) .nil)) (.call 31 (.cons (.idx (.idx (.var 0) (.int 1)) (.int 1)) .nil))) (.call 31 (.cons (.idx (.idx (.var 0) (.int 1)) (.int 2)) .nil))) (.call 32 (.cons (.idx (.var 0) (.int 2)) .nil))) (.call 31 (.cons (.len (.idx (.var 0) (.int 3))) .nil)))) (.cons (.each (.one 2) (.seq (.idx (.var 0) (.int 3))) (.cons (.assign 3 (.idx (.var 2) (.int 1))) (.cons (.assign 1 (.bin .add (.bin .add (.bin .add (.var 1) (.call 31 (.cons (.idx (.var 3) (.int 0)) .nil))) (.call 31 (.cons (.idx (.var 3) (.int 1)) .nil))) (.bytesOf (.comp (.bin .mod (.bin .fdiv (.idx (.up 3) (.int 2)) (.bin .pow (.int 256) (.var 0))) (.int 256)) false (.r1 (.int 4)))))) (.cons (.assign 1 (.bin .add (.bin .add (.var 1) (.call 32 (.cons (.idx (.var 3) (.int 3)) .nil))) (.call 32 (.cons (.idx (.var 3) (.int 4)) .nil)))) .nil)))) (.cons (.ret (.var 1)) .nil)))
noncomputable def f50 : Fn := ⟨[("s", false), ("out", false), ("pair", false), ("row", true)], 1, [], b50⟩
noncomputable def b51 : Ss := (.cons (.ret (.tup (.cons (.idx (.idx (.var 0) (.int 1)) (.int 0)) (.cons (.idx (.idx (.var 0) (.int 1)) (.int 1)) (.cons (.idx (.var 0) (.int 2)) (.cons (.idx (.idx (.var 0) (.int 1)) (.int 2)) (.cons (.tupOf (.comp (.tupOf (.idx (.var 0) (.int 1))) false (.seq (.idx (.var 0) (.int 3))))) .nil))))))) .nil)
noncomputable def f51 : Fn := ⟨[("s", false)], 1, [], b51⟩
noncomputable def b52 : Ss := (.cons (.assign 1 (.call 51 (.cons (.var 0) .nil))) (.cons (.assign 2 (.call 50 (.cons (.var 0) .nil))) (.cons (.ret (.and (.cmp .eq (.meth (.idx (.var 0) (.int 0)) 5 .nil) (.var 1)) (.and (.cmp .eq (.meth (.idx (.var 0) (.int 0)) 6 .nil) (.var 2)) (.cmp .eq (.meth (.call 25 (.cons (.var 2) .nil)) 5 .nil) (.var 1))))) .nil)))
noncomputable def f52 : Fn := ⟨[("s", false), ("row", false), ("octets", false)], 1, [], b52⟩
noncomputable def b53 : Ss := (.cons (.setIdx (.idx (.var 0) (.int 1)) (.var 1) (.var 2)) (.cons (.ite (.cmp .eq (.var 1) (.int 0)) (.cons (.setAttr (.idx (.var 0) (.int 0)) 17 (.var 2)) .nil) (.cons (.ite (.cmp .eq (.var 1) (.int 1)) (.cons (.setAttr (.idx (.var 0) (.int 0)) 18 (.var 2)) .nil) (.cons (.setAttr (.idx (.var 0) (.int 0)) 10 (.var 2)) .nil)) .nil)) .nil))
noncomputable def f53 : Fn := ⟨[("s", false), ("i", false), ("fresh", false)], 3, [], b53⟩
noncomputable def b54 : Ss := (.cons (.setIdx (.idx (.var 0) (.int 1)) (.var 1) (.var 2)) (.cons (.ite (.cmp .eq (.var 1) (.int 0)) (.cons (.setAttr (.idx (.var 0) (.int 0)) 15 (.var 2)) .nil) (.cons (.ite (.cmp .eq (.var 1) (.int 1)) (.cons (.setAttr (.idx (.var 0) (.int 0)) 4 (.var 2)) .nil) (.cons (.ite (.cmp .eq (.var 1) (.int 2)) (.cons (.setAttr (.idx (.var 0) (.int 0)) 16 (.var 2)) .nil) (.cons (.ite (.cmp .eq (.var 1) (.int 3)) (.cons (.setAttr (.idx (.var 0) (.int 0)) 5 (.var 2)) .nil) (.cons (.setAttr (.idx (.var 0) (.int 0)) 6 (.var 2)) .nil)) .nil)) .nil)) .nil)) .nil))
noncomputable def f54 : Fn := ⟨[("pair", false), ("f", false), ("fresh", false)], 3, [], b54⟩
noncomputable def b55 : Ss := (.cons (.assign 1 (.list (.cons (.bin .mod (.var 0) (.int 12)) (.cons (.call 27 (.cons (.bin .fdiv (.var 0) (.int 12)) .nil)) (.cons (.bin .mod (.bin .mul (.var 0) (.int 4294967)) (.int 4294967296)) (.cons (.call 30 (.cons (.bin .fdiv (.var 0) (.int 3)) .nil)) (.cons (.call 30 (.cons (.bin .fdiv (.var 0) (.int 5)) .nil)) .nil))))))) (.cons (.ret (.list (.cons (.new 23 (.cons (.idx (.var 1) (.int 0)) (.cons (.idx (.var 1) (.int 1)) (.cons (.idx (.var 1) (.int 2)) (.cons (.idx (.var 1) (.int 3)) (.cons (.idx (.var 1) (.int 4)) .nil)))))) (.cons (.var 1) .nil)))) .nil))
noncomputable def f55 : Fn := ⟨[("y", false), ("row", false)], 1, [], b55⟩
noncomputable def b56 : Ss := (.cons (.assign 2 (.call 55 (.cons (.var 1) .nil))) (.cons (.expr (.append (.attr (.idx (.var 0) (.int 0)) 20) (.idx (.var 2) (.int 0)))) (.cons (.expr (.append (.idx (.var 0) (.int 3)) (.var 2))) .nil)))
noncomputable def f56 : Fn := ⟨[("s", false), ("y", false), ("pair", false)], 2, [], b56⟩
noncomputable def b57 : Ss := (.cons (.ite (.cmp .eq (.len (.idx (.var 0) (.int 3))) (.int 0)) (.cons .retNone .nil) .nil) (.cons (.assign 2 (.idx (.idx (.var 0) (.int 3)) (.bin .mod (.bin .fdiv (.var 1) (.int 5)) (.len (.idx (.var 0) (.int 3)))))) (.cons (.assign 3 (.bin .mod (.var 1) (.int 5))) (.cons (.assign 4 (.bin .fdiv (.var 1) (.int 10))) (.cons (.assign 5 (.idx (.idx (.var 2) (.int 1)) (.var 3))) (.cons (.ite (.cmp .eq (.var 3) (.int 0)) (.cons (.expr (.call 54 (.cons (.var 2) (.cons (.var 3) (.cons (.bin .mod (.bin .add (.bin .add (.var 5) (.int 1)) (.bin .mod (.var 4) (.int 11))) (.int 12)) .nil))))) .nil) (.cons (.ite (.cmp .eq (.var 3) (.int 1)) (.cons (.expr (.call 54 (.cons (.var 2) (.cons (.var 3) (.cons (.call 28 (.cons (.var 5) (.cons (.var 4) .nil))) .nil))))) .nil) (.cons (.ite (.cmp .eq (.var 3) (.int 2)) (.cons (.expr (.call 54 (.cons (.var 2) (.cons (.var 3) (.cons (.bin .mod (.bin .add (.bin .add (.var 5) (.int 1)) (.bin .mul (.var 4) (.int 65537))) (.int 4294967296)) .nil))))) .nil) (.cons (.expr (.call 54 (.cons (.var 2) (.cons (.var 3) (.cons (.call 37 (.cons (.int 0) (.cons (.var 5) (.cons (.var 4) .nil)))) .nil))))) .nil)) .nil)) .nil)) .nil))))))
noncomputable def f57 : Fn := ⟨[("s", false), ("y", false), ("pair", false), ("f", false), ("q", false), ("old", false)], 2, [], b57⟩
noncomputable def b58 : Ss := (.cons (.assign 2 (.bin .mod (.var 1) (.int 3))) (.cons (.assign 3 (.idx (.idx (.var 0) (.int 1)) (.var 2))) (.cons (.expr (.call 53 (.cons (.var 0) (.cons (.var 2) (.cons (.call 29 (.cons (.bin .fdiv (.var 1) (.int 3)) .nil)) .nil))))) (.cons (.assign 4 (.call 45 (.cons (.idx (.var 0) (.int 0)) .nil))) (.cons (.expr (.call 53 (.cons (.var 0) (.cons (.var 2) (.cons (.var 3) .nil))))) (.cons (.ite (.cmp .gt (.len (.idx (.var 0) (.int 3))) (.int 0)) (.cons (.assign 5 (.idx (.idx (.var 0) (.int 3)) (.bin .mod (.bin .fdiv (.var 1) (.int 9)) (.len (.idx (.var 0) (.int 3)))))) (.cons (.assign 6 (.bin .mod (.bin .fdiv (.var 1) (.int 27)) (.int 3))) (.cons (.assign 3 (.idx (.idx (.var 5) (.int 1)) (.var 6))) (.cons (.expr (.call 54 (.cons (.var 5) (.cons (.var 6) (.cons (.call 29 (.cons (.bin .fdiv (.var 1) (.int 3)) .nil)) .nil))))) (.cons (.assign 4 (.and (.var 4) (.call 45 (.cons (.idx (.var 0) (.int 0)) .nil)))) (.cons (.expr (.call 54 (.cons (.var 5) (.cons (.var 6) (.cons (.var 3) .nil))))) (.cons (.assign 3 (.idx (.idx (.var 5) (.int 1)) (.int 2))) (.cons (.expr (.call 54 (.cons (.var 5) (.cons (.int 2) (.cons (.bin .add (.int 4294967296) (.var 1)) .nil))))) (.cons (.assign 4 (.and (.var 4) (.call 45 (.cons (.idx (.var 0) (.int 0)) .nil)))) (.cons (.expr (.call 54 (.cons (.var 5) (.cons (.int 2) (.cons (.var 3) .nil))))) .nil)))))))))) .nil) (.cons (.ret (.var 4)) .nil)))))))
noncomputable def f58 : Fn := ⟨[("s", false), ("y", false), ("i", false), ("old", false), ("good", false), ("pair", false), ("f", false)], 2, [], b58⟩
noncomputable def b59 : Ss := (.cons (.assign 3 (.idx (.var 0) (.var 1))) (.cons (.assign 4 (.call 25 (.cons (.meth (.idx (.var 3) (.int 0)) 6 .nil) .nil))) (.cons (.ite (.cmp .ne (.len (.attr (.var 4) 20)) (.len (.idx (.var 3) (.int 3)))) (.cons (.ret (.bool false)) .nil) .nil) (.cons (.assign 5 (.comp (.list (.cons (.idx (.attr (.up 4) 20) (.var 0)) (.cons (.listOf (.idx (.idx (.idx (.up 3) (.int 3)) (.var 0)) (.int 1))) .nil))) false (.r1 (.len (.idx (.var 3) (.int 3)))))) (.cons (.assign 6 (.list (.cons (.var 4) (.cons (.listOf (.idx (.var 3) (.int 1))) (.cons (.idx (.var 3) (.int 2)) (.cons (.var 5) .nil)))))) (.cons (.expr (.call 56 (.cons (.var 3) (.cons (.var 2) .nil)))) (.cons (.expr (.call 57 (.cons (.var 6) (.cons (.var 2) .nil)))) (.cons (.expr (.call 57 (.cons (.var 3) (.cons (.bin .fdiv (.var 2) (.int 2)) .nil)))) (.cons (.expr (.call 53 (.cons (.var 6) (.cons (.int 0) (.cons (.call 28 (.cons (.idx (.idx (.var 6) (.int 1)) (.int 0)) (.cons (.var 2) .nil))) .nil))))) (.cons (.ite (.or (.not (.call 52 (.cons (.var 6) .nil))) (.not (.call 52 (.cons (.var 3) .nil)))) (.cons (.ret (.bool false)) .nil) .nil) (.cons (.ite (.and (.cmp .eq (.bin .mod (.var 2) (.int 2)) (.int 0)) (.cmp .lt (.len (.var 0)) (.int 3))) (.cons (.expr (.append (.var 0) (.var 6))) .nil) (.cons (.setIdx (.var 0) (.var 1) (.var 6)) .nil)) (.cons (.ret (.bool true)) .nil))))))))))))
noncomputable def f59 : Fn := ⟨[("states", false), ("at", false), ("y", false), ("s", true), ("fresh", true), ("pairs", false), ("h", false)], 3, [], b59⟩
noncomputable def b60 : Ss := (.cons (.assign 3 (.bin .mod (.var 1) (.len (.var 0)))) (.cons (.assign 4 (.idx (.var 0) (.var 3))) (.cons (.assign 5 (.bin .mod (.var 2) (.int 7))) (.cons (.assign 6 (.bin .fdiv (.var 2) (.int 7))) (.cons (.ite (.cmp .eq (.var 5) (.int 0)) (.cons (.expr (.call 57 (.cons (.var 4) (.cons (.var 6) .nil)))) .nil) (.cons (.ite (.cmp .eq (.var 5) (.int 1)) (.cons (.ite (.not (.call 59 (.cons (.var 0) (.cons (.var 3) (.cons (.var 6) .nil))))) (.cons (.ret (.bool false)) .nil) .nil) .nil) (.cons (.ite (.cmp .eq (.var 5) (.int 2)) (.cons (.expr (.call 56 (.cons (.var 4) (.cons (.var 6) .nil)))) .nil) (.cons (.ite (.cmp .eq (.var 5) (.int 3)) (.cons (.ite (.not (.call 58 (.cons (.var 4) (.cons (.var 6) .nil)))) (.cons (.ret (.bool false)) .nil) .nil) .nil) (.cons (.ite (.cmp .eq (.var 5) (.int 4)) (.cons (.ite (.cmp .eq (.bin .mod (.var 6) (.int 4)) (.int 3)) (.cons (.setIdx (.var 4) (.int 2) (.call 37 (.cons (.int 0) (.cons (.idx (.var 4) (.int 2)) (.cons (.bin .fdiv (.var 6) (.int 4)) .nil))))) (.cons (.setAttr (.idx (.var 4) (.int 0)) 19 (.idx (.var 4) (.int 2))) .nil)) (.cons (.expr (.call 53 (.cons (.var 4) (.cons (.bin .mod (.var 6) (.int 4)) (.cons (.call 37 (.cons (.bin .add (.int 1) (.bin .mod (.var 6) (.int 4))) (.cons (.idx (.idx (.var 4) (.int 1)) (.bin .mod (.var 6) (.int 4))) (.cons (.bin .fdiv (.var 6) (.int 4)) .nil)))) .nil))))) .nil)) .nil) (.cons (.ite (.cmp .gt (.len (.idx (.var 4) (.int 3))) (.int 0)) (.cons (.assign 7 (.bin .mod (.var 6) (.len (.idx (.var 4) (.int 3))))) (.cons (.assign 8 (.popAt (.idx (.var 4) (.int 3)) (.var 7))) (.cons (.expr (.popAt (.attr (.idx (.var 4) (.int 0)) 20) (.var 7))) (.cons (.ite (.and (.cmp .eq (.var 5) (.int 5)) (.cmp .gt (.len (.idx (.var 4) (.int 3))) (.int 0))) (.cons (.expr (.insert (.idx (.var 4) (.int 3)) (.ite (.cmp .gt (.var 7) (.int 0)) (.int 0) (.len (.idx (.var 4) (.int 3)))) (.var 8))) (.cons (.expr (.insert (.attr (.idx (.var 4) (.int 0)) 20) (.ite (.cmp .gt (.var 7) (.int 0)) (.int 0) (.len (.attr (.idx (.var 4) (.int 0)) 20))) (.idx (.var 8) (.int 0)))) .nil)) .nil) .nil)))) .nil) .nil)) .nil)) .nil)) .nil)) .nil)) (.cons (.each (.one 9) (.seq (.var 0)) (.cons (.ite (.cmp .ne (.meth (.idx (.var 9) (.int 0)) 5 .nil) (.call 51 (.cons (.var 9) .nil))) (.cons (.ret (.bool false)) .nil) .nil) .nil)) (.cons (.ret (.call 52 (.cons (.idx (.var 0) (.var 3)) .nil))) .nil)))))))
noncomputable def f60 : Fn := ⟨[("states", false), ("y", false), ("z", false), ("at", false), ("s", false), ("act", false), ("q", false), ("i", false), ("pair", false), ("one", false)], 3, [], b60⟩
noncomputable def b61 : Ss := (.cons (.each (.one 2) (.seq (.var 0)) (.cons (.expr (.call 40 (.cons (.var 2) (.cons (.bin .add (.var 1) (.int 7)) .nil)))) (.cons (.ite (.cmp .ne (.meth (.idx (.var 2) (.int 0)) 6 .nil) (.call 33 (.cons (.var 2) .nil))) (.cons (.ret (.bool false)) .nil) .nil) (.cons (.expr (.call 44 (.cons (.var 2) (.cons (.bin .add (.var 1) (.int 17)) .nil)))) (.cons (.ite (.cmp .ne (.meth (.idx (.var 2) (.int 0)) 6 .nil) (.call 33 (.cons (.var 2) .nil))) (.cons (.ret (.bool false)) .nil) .nil) .nil))))) (.cons (.assign 2 (.idx (.var 0) (.int 0))) (.cons (.each (.one 3) (.r1 (.int 4)) (.cons (.expr (.call 36 (.cons (.var 2) (.cons (.var 3) (.cons (.call 37 (.cons (.var 3) (.cons (.idx (.idx (.var 2) (.int 1)) (.var 3)) (.cons (.bin .add (.var 1) (.bin .mul (.int 3) (.var 3))) .nil)))) .nil))))) .nil)) (.cons (.ite (.cmp .ne (.meth (.idx (.var 2) (.int 0)) 6 .nil) (.call 33 (.cons (.var 2) .nil))) (.cons (.ret (.bool false)) .nil) .nil) (.cons (.expr (.call 38 (.cons (.var 2) (.cons (.bin .add (.var 1) (.int 5)) .nil)))) (.cons (.expr (.call 39 (.cons (.var 2) (.cons (.bin .add (.var 1) (.int 29)) .nil)))) (.cons (.ite (.cmp .ne (.meth (.idx (.var 2) (.int 0)) 6 .nil) (.call 33 (.cons (.var 2) .nil))) (.cons (.ret (.bool false)) .nil) .nil) (.cons (.expr (.call 42 (.cons (.var 2) (.cons (.bin .add (.var 1) (.int 31)) .nil)))) (.cons (.setAttr (.idx (.var 2) (.int 0)) 14 (.not (.idx (.var 2) (.int 5)))) (.cons (.setIdx (.var 2) (.int 5) (.not (.idx (.var 2) (.int 5)))) (.cons (.ret (.cmp .eq (.len (.compIf (.var 0) false (.seq (.var 0)) (.not (.call 35 (.cons (.var 0) .nil))))) (.int 0))) .nil)))))))))))
noncomputable def f61 : Fn := ⟨[("books", false), ("head", false), ("b", false), ("i", false)], 2, [], b61⟩
noncomputable def b62 : Ss := (.cons (.each (.one 2) (.seq (.var 0)) (.cons (.expr (.call 56 (.cons (.var 2) (.cons (.bin .add (.var 1) (.int 7)) .nil)))) (.cons (.ite (.cmp .ne (.meth (.idx (.var 2) (.int 0)) 6 .nil) (.call 50 (.cons (.var 2) .nil))) (.cons (.ret (.bool false)) .nil) .nil) (.cons (.expr (.call 57 (.cons (.var 2) (.cons (.bin .add (.var 1) (.int 1)) .nil)))) (.cons (.ite (.cmp .ne (.meth (.idx (.var 2) (.int 0)) 6 .nil) (.call 50 (.cons (.var 2) .nil))) (.cons (.ret (.bool false)) .nil) .nil) .nil))))) (.cons (.assign 2 (.idx (.var 0) (.int 0))) (.cons (.each (.one 3) (.r1 (.int 3)) (.cons (.expr (.call 53 (.cons (.var 2) (.cons (.var 3) (.cons (.call 37 (.cons (.bin .add (.int 1) (.var 3)) (.cons (.idx (.idx (.var 2) (.int 1)) (.var 3)) (.cons (.bin .add (.var 1) (.int 4)) .nil)))) .nil))))) .nil)) (.cons (.ret (.cmp .eq (.len (.compIf (.var 0) false (.seq (.var 0)) (.not (.call 52 (.cons (.var 0) .nil))))) (.int 0))) .nil))))
noncomputable def f62 : Fn := ⟨[("states", false), ("head", false), ("s", false), ("i", false)], 2, [], b62⟩
noncomputable def b63 : Ss := (.cons (.assign 1 (.comp (.bin .mod (.var 0) (.int 999983)) false (.seq (.sliceTo (.var 0) (.int 24))))) (.cons (.ite (.cmp .eq (.len (.var 1)) (.int 0)) (.cons (.assign 1 (.list (.cons (.int 0) .nil))) .nil) .nil) (.cons (.assign 2 (.call 26 (.cons (.var 1) (.cons (.int 0) .nil)))) (.cons (.assign 3 (.list (.cons (.new 18 .nil) (.cons (.list (.cons .none (.cons .none (.cons .none (.cons .none .nil))))) (.cons (.list .nil) (.cons (.list .nil) (.cons (.list .nil) (.cons (.cmp .eq (.bin .mod (.var 2) (.int 2)) (.int 0)) .nil)))))))) (.cons (.setAttr (.idx (.var 3) (.int 0)) 14 (.idx (.var 3) (.int 5))) (.cons (.assign 4 (.call 26 (.cons (.var 1) (.cons (.int 1) .nil)))) (.cons (.each (.one 5) (.r1 (.int 4)) (.cons (.ite (.cmp .lt (.bin .mod (.bin .fdiv (.bin .fdiv (.var 2) (.int 2)) (.bin .pow (.int 3) (.var 5))) (.int 3)) (.int 2)) (.cons (.expr (.call 36 (.cons (.var 3) (.cons (.var 5) (.cons (.call 37 (.cons (.var 5) (.cons .none (.cons (.bin .fdiv (.var 4) (.bin .pow (.int 7) (.var 5))) .nil)))) .nil))))) .nil) .nil) .nil)) (.cons (.expr (.call 38 (.cons (.var 3) (.cons (.call 26 (.cons (.var 1) (.cons (.int 2) .nil))) .nil)))) (.cons (.expr (.call 39 (.cons (.var 3) (.cons (.call 26 (.cons (.var 1) (.cons (.int 3) .nil))) .nil)))) (.cons (.expr (.call 40 (.cons (.var 3) (.cons (.call 26 (.cons (.var 1) (.cons (.int 4) .nil))) .nil)))) (.cons (.assign 6 (.list (.cons (.new 18 .nil) (.cons (.list (.cons .none (.cons .none (.cons .none (.cons .none .nil))))) (.cons (.list .nil) (.cons (.list .nil) (.cons (.list .nil) (.cons (.bool false) .nil)))))))) (.cons (.ite (.or (.not (.call 35 (.cons (.var 3) .nil))) (.not (.call 35 (.cons (.var 6) .nil)))) (.cons (.ret (.bool false)) .nil) .nil) (.cons (.assign 4 (.call 26 (.cons (.var 1) (.cons (.int 5) .nil)))) (.cons (.assign 7 (.list (.cons (.call 27 (.cons (.var 4) .nil)) (.cons (.call 27 (.cons (.bin .fdiv (.var 4) (.int 3)) .nil)) (.cons (.call 37 (.cons (.int 3) (.cons .none (.cons (.bin .fdiv (.var 4) (.int 5)) .nil)))) .nil))))) (.cons (.assign 8 (.list .nil)) (.cons (.each (.one 5) (.r1 (.idx (.tup (.cons (.int 2) (.cons (.int 0) (.cons (.int 1) (.cons (.int 3) .nil))))) (.bin .mod (.bin .fdiv (.var 2) (.int 4)) (.int 4)))) (.cons (.expr (.append (.var 8) (.call 55 (.cons (.bin .add (.bin .fdiv (.call 26 (.cons (.var 1) (.cons (.int 6) .nil))) (.bin .pow (.int 3) (.var 5))) (.var 5)) .nil)))) .nil)) (.cons (.assign 9 (.call 30 (.cons (.bin .fdiv (.var 4) (.int 7)) .nil))) (.cons (.assign 10 (.list (.cons (.new 24 (.cons (.idx (.var 7) (.int 0)) (.cons (.idx (.var 7) (.int 1)) (.cons (.var 9) (.cons (.idx (.var 7) (.int 2)) (.cons (.comp (.idx (.var 0) (.int 0)) false (.seq (.var 8))) .nil)))))) (.cons (.var 7) (.cons (.var 9) (.cons (.var 8) .nil)))))) (.cons (.ite (.not (.call 52 (.cons (.var 10) .nil))) (.cons (.ret (.bool false)) .nil) .nil) (.cons (.assign 11 (.list (.cons (.var 3) (.cons (.var 6) .nil)))) (.cons (.assign 12 (.list (.cons (.var 10) .nil))) (.cons (.each (.one 13) (.r1 (.bin .add (.int 2) (.min (.int 6) (.bin .fdiv (.len (.var 1)) (.int 3))))) (.cons (.assign 4 (.call 26 (.cons (.var 1) (.cons (.bin .add (.int 7) (.bin .mul (.int 2) (.var 13))) .nil)))) (.cons (.assign 14 (.call 26 (.cons (.var 1) (.cons (.bin .add (.int 8) (.bin .mul (.int 2) (.var 13))) .nil)))) (.cons (.ite (.not (.call 49 (.cons (.var 11) (.cons (.var 4) (.cons (.var 14) .nil))))) (.cons (.ret (.bool false)) .nil) .nil) (.cons (.ite (.not (.call 60 (.cons (.var 12) (.cons (.bin .fdiv (.var 14) (.int 5)) (.cons (.bin .fdiv (.var 4) (.int 3)) .nil))))) (.cons (.ret (.bool false)) .nil) .nil) .nil))))) (.cons (.ret (.and (.call 61 (.cons (.var 11) (.cons (.var 2) .nil))) (.call 62 (.cons (.var 12) (.cons (.var 2) .nil))))) .nil)))))))))))))))))))))))
noncomputable def f63 : Fn := ⟨[("script", false), ("nums", false), ("head", false), ("first", false), ("y", false), ("i", false), ("second", false), ("numbers", false), ("pairs", false), ("conf", false), ("state", false), ("books", false), ("states", false), ("t", false), ("z", false)], 1, [], b63⟩
noncomputable def gnL : List Str := "_wall" :: "KeepError" :: "StoreError" :: "Corrupt" :: "ShortOctets" :: "BadOption" :: "write_groups" :: "read_groups" :: "put_varint" :: "read_varint" :: "put_varint32" :: "read_varint32" :: "put_fixed32" :: "read_fixed32" :: "read_lengthed" :: "Cursor" :: "Sink" :: "FileMeta" :: "VersionEdit" :: "read_level" :: "read_seq" :: "read_ikey" :: "decode_edit" :: "RunInfo" :: "Manifesto" :: "decode_manifesto" :: "_law_draw" :: "_law_wide" :: "_law_other" :: "_law_beyond" :: "_law_octs" :: "_law_var" :: "_law_text" :: "_law_edit_octets" :: "_law_edit_row" :: "_law_said" :: "_law_word" :: "_law_sound" :: "_law_point" :: "_law_delete" :: "_law_add" :: "_law_take_off" :: "_law_in_place" :: "_law_file" :: "_law_file_otherwise" :: "_law_refused" :: "_law_edit_out_of_reach" :: "_law_read_edit" :: "_law_edit_read" :: "_law_edit_deed" :: "_law_told_octets" :: "_law_told_row" :: "_law_told" :: "_law_head" :: "_law_run" :: "_law_new_run" :: "_law_run_appended" :: "_law_run_otherwise" :: "_law_told_out_of_reach" :: "_law_told_read" :: "_law_told_deed" :: "_law_edits_end" :: "_law_told_end" :: "law" :: []
noncomputable def zg0 (g : Nat) : Str := gnL[g]?.getD "?"
noncomputable def fnIds : List Nat := [6, 7, 8, 9, 10, 11, 12, 13, 14, 19, 20, 21, 22, 25, 26, 27, 28, 29, 30, 31, 32, 33, 34, 35, 36, 37, 38, 39, 40, 41, 42, 43, 44, 45, 46, 47, 48, 49, 50, 51, 52, 53, 54, 55, 56, 57, 58, 59, 60, 61, 62, 63]
noncomputable def isFn (g : Nat) : Bool := fnIds.contains g
noncomputable def tabL : List (Nat × Fn) := [(6, f6), (7, f7), (8, f8), (9, f9), (10, f10), (11, f11), (12, f12), (13, f13), (14, f14), (200, f200), (201, f201), (202, f202), (203, f203), (205, f205), (209, f209), (210, f210), (211, f211), (212, f212), (214, f214), (218, f218), (219, f219), (220, f220), (221, f221), (222, f222), (223, f223), (19, f19), (20, f20), (21, f21), (22, f22), (224, f224), (225, f225), (227, f227), (228, f228), (229, f229), (25, f25), (26, f26), (27, f27), (28, f28), (29, f29), (30, f30), (31, f31), (32, f32), (33, f33), (34, f34), (35, f35), (36, f36), (37, f37), (38, f38), (39, f39), (40, f40), (41, f41), (42, f42), (43, f43), (44, f44), (45, f45), (46, f46), (47, f47), (48, f48), (49, f49), (50, f50), (51, f51), (52, f52), (53, f53), (54, f54), (55, f55), (56, f56), (57, f57), (58, f58), (59, f59), (60, f60), (61, f61), (62, f62), (63, f63)]
noncomputable def tab (g : Nat) : Option Fn := tabL.lookup g
noncomputable abbrev Ent (r : Nat) (b : Ss) (ρ : Loc) (σ : Sto) (B : BP) (Q : QP) : Prop := wpSs (zac tab r) (ExB B) b ρ σ (ExN Q) (ExR Q)
theorem call_6 {r σ B Q} {a0 a1 : Va} (h : Ent r b6 [some a0, some a1, none] σ B Q) : zac tab (r + 1) 6 [a0, a1] σ B Q := zak (f := f6) rfl rfl h
theorem call_7 {r σ B Q} {a0 a1 a2 a3 : Va} (h : Ent r b7 [some a0, some a1, some a2, some a3, none, none, none, none] σ B Q) : zac tab (r + 1) 7 [a0, a1, a2, a3] σ B Q := zak (f := f7) rfl rfl h
theorem call_8 {r σ B Q} {a0 : Va} (h : Ent r b8 [some a0] σ B Q) : zac tab (r + 1) 8 [a0] σ B Q := zak (f := f8) rfl rfl h
theorem call_9 {r σ B Q} {a0 a1 : Va} (h : Ent r b9 [some a0, some a1] σ B Q) : zac tab (r + 1) 9 [a0, a1] σ B Q := zak (f := f9) rfl rfl h
theorem ztx {r σ B Q} {a0 : Va} (h : Ent r b10 [some a0] σ B Q) : zac tab (r + 1) 10 [a0] σ B Q := zak (f := f10) rfl rfl h
theorem ztw {r σ B Q} {a0 a1 : Va} (h : Ent r b11 [some a0, some a1] σ B Q) : zac tab (r + 1) 11 [a0, a1] σ B Q := zak (f := f11) rfl rfl h
theorem ztv {r σ B Q} {a0 : Va} (h : Ent r b12 [some a0] σ B Q) : zac tab (r + 1) 12 [a0] σ B Q := zak (f := f12) rfl rfl h
theorem ztu {r σ B Q} {a0 a1 : Va} (h : Ent r b13 [some a0, some a1] σ B Q) : zac tab (r + 1) 13 [a0, a1] σ B Q := zak (f := f13) rfl rfl h
theorem ztt {r σ B Q} {a0 a1 : Va} (h : Ent r b14 [some a0, some a1, none] σ B Q) : zac tab (r + 1) 14 [a0, a1] σ B Q := zak (f := f14) rfl rfl h
theorem call_200 {r σ B Q} {a0 a1 a2 : Va} (h : Ent r b200 [some a0, some a1, some a2] σ B Q) : zac tab (r + 1) 200 [a0, a1, a2] σ B Q := zak (f := f200) rfl rfl h
theorem zn8 {r σ B Q} {a0 a1 : Va} (h : Ent r b200 [some a0, some a1, some (.int 0)] σ B Q) : zac tab (r + 1) 200 [a0, a1] σ B Q := zak (f := f200) rfl rfl h
theorem zqk {r σ B Q} {a0 : Va} (h : Ent r b201 [some a0] σ B Q) : zac tab (r + 1) 201 [a0] σ B Q := zak (f := f201) rfl rfl h
theorem zqj {r σ B Q} {a0 : Va} (h : Ent r b202 [some a0, none, none] σ B Q) : zac tab (r + 1) 202 [a0] σ B Q := zak (f := f202) rfl rfl h
theorem zqi {r σ B Q} {a0 : Va} (h : Ent r b203 [some a0, none] σ B Q) : zac tab (r + 1) 203 [a0] σ B Q := zak (f := f203) rfl rfl h
theorem zqh {r σ B Q} {a0 : Va} (h : Ent r b205 [some a0, none, none] σ B Q) : zac tab (r + 1) 205 [a0] σ B Q := zak (f := f205) rfl rfl h
theorem zqg {r σ B Q} {a0 : Va} (h : Ent r b209 [some a0] σ B Q) : zac tab (r + 1) 209 [a0] σ B Q := zak (f := f209) rfl rfl h
theorem zqf {r σ B Q} {a0 : Va} (h : Ent r b210 [some a0] σ B Q) : zac tab (r + 1) 210 [a0] σ B Q := zak (f := f210) rfl rfl h
theorem zqe {r σ B Q} {a0 a1 : Va} (h : Ent r b211 [some a0, some a1] σ B Q) : zac tab (r + 1) 211 [a0, a1] σ B Q := zak (f := f211) rfl rfl h
theorem zqd {r σ B Q} {a0 a1 : Va} (h : Ent r b212 [some a0, some a1] σ B Q) : zac tab (r + 1) 212 [a0, a1] σ B Q := zak (f := f212) rfl rfl h
theorem zqc {r σ B Q} {a0 a1 : Va} (h : Ent r b214 [some a0, some a1] σ B Q) : zac tab (r + 1) 214 [a0, a1] σ B Q := zak (f := f214) rfl rfl h
theorem zqb {r σ B Q} {a0 : Va} (h : Ent r b218 [some a0] σ B Q) : zac tab (r + 1) 218 [a0] σ B Q := zak (f := f218) rfl rfl h
theorem zqa {r σ B Q} {a0 a1 a2 a3 a4 : Va} (h : Ent r b219 [some a0, some a1, some a2, some a3, some a4] σ B Q) : zac tab (r + 1) 219 [a0, a1, a2, a3, a4] σ B Q := zak (f := f219) rfl rfl h
theorem zp9 {r σ B Q} {a0 : Va} (h : Ent r b220 [some a0] σ B Q) : zac tab (r + 1) 220 [a0] σ B Q := zak (f := f220) rfl rfl h
theorem zp8 {r σ B Q} {a0 : Va} (h : Ent r b221 [some a0] σ B Q) : zac tab (r + 1) 221 [a0] σ B Q := zak (f := f221) rfl rfl h
theorem zp7 {r σ B Q} {a0 : Va} (h : Ent r b222 [some a0, none, none, none] σ B Q) : zac tab (r + 1) 222 [a0] σ B Q := zak (f := f222) rfl rfl h
theorem zp6 {r σ B Q} {a0 : Va} (h : Ent r b223 [some a0, none, none, none, none, none] σ B Q) : zac tab (r + 1) 223 [a0] σ B Q := zak (f := f223) rfl rfl h
theorem zts {r σ B Q} {a0 : Va} (h : Ent r b19 [some a0, none] σ B Q) : zac tab (r + 1) 19 [a0] σ B Q := zak (f := f19) rfl rfl h
theorem ztr {r σ B Q} {a0 : Va} (h : Ent r b20 [some a0, none] σ B Q) : zac tab (r + 1) 20 [a0] σ B Q := zak (f := f20) rfl rfl h
theorem ztq {r σ B Q} {a0 : Va} (h : Ent r b21 [some a0, none] σ B Q) : zac tab (r + 1) 21 [a0] σ B Q := zak (f := f21) rfl rfl h
theorem ztp {r σ B Q} {a0 : Va} (h : Ent r b22 [some a0, none, none, none, none, none, none, none, none] σ B Q) : zac tab (r + 1) 22 [a0] σ B Q := zak (f := f22) rfl rfl h
theorem zp5 {r σ B Q} {a0 a1 a2 a3 a4 a5 : Va} (h : Ent r b224 [some a0, some a1, some a2, some a3, some a4, some a5] σ B Q) : zac tab (r + 1) 224 [a0, a1, a2, a3, a4, a5] σ B Q := zak (f := f224) rfl rfl h
theorem zp4 {r σ B Q} {a0 : Va} (h : Ent r b225 [some a0] σ B Q) : zac tab (r + 1) 225 [a0] σ B Q := zak (f := f225) rfl rfl h
theorem zp3 {r σ B Q} {a0 a1 a2 a3 a4 a5 : Va} (h : Ent r b227 [some a0, some a1, some a2, some a3, some a4, some a5] σ B Q) : zac tab (r + 1) 227 [a0, a1, a2, a3, a4, a5] σ B Q := zak (f := f227) rfl rfl h
theorem zp2 {r σ B Q} {a0 : Va} (h : Ent r b228 [some a0, none, none] σ B Q) : zac tab (r + 1) 228 [a0] σ B Q := zak (f := f228) rfl rfl h
theorem zp1 {r σ B Q} {a0 : Va} (h : Ent r b229 [some a0, none, none] σ B Q) : zac tab (r + 1) 229 [a0] σ B Q := zak (f := f229) rfl rfl h
theorem zto {r σ B Q} {a0 : Va} (h : Ent r b25 [some a0, none, none, none, none, none, none, none, none, none, none, none, none] σ B Q) : zac tab (r + 1) 25 [a0] σ B Q := zak (f := f25) rfl rfl h
theorem ztn {r σ B Q} {a0 a1 : Va} (h : Ent r b26 [some a0, some a1] σ B Q) : zac tab (r + 1) 26 [a0, a1] σ B Q := zak (f := f26) rfl rfl h
theorem ztm {r σ B Q} {a0 : Va} (h : Ent r b27 [some a0] σ B Q) : zac tab (r + 1) 27 [a0] σ B Q := zak (f := f27) rfl rfl h
theorem ztl {r σ B Q} {a0 a1 : Va} (h : Ent r b28 [some a0, some a1, none] σ B Q) : zac tab (r + 1) 28 [a0, a1] σ B Q := zak (f := f28) rfl rfl h
theorem ztk {r σ B Q} {a0 : Va} (h : Ent r b29 [some a0] σ B Q) : zac tab (r + 1) 29 [a0] σ B Q := zak (f := f29) rfl rfl h
theorem ztj {r σ B Q} {a0 : Va} (h : Ent r b30 [some a0] σ B Q) : zac tab (r + 1) 30 [a0] σ B Q := zak (f := f30) rfl rfl h
theorem zti {r σ B Q} {a0 : Va} (h : Ent r b31 [some a0, none] σ B Q) : zac tab (r + 1) 31 [a0] σ B Q := zak (f := f31) rfl rfl h
theorem zth {r σ B Q} {a0 : Va} (h : Ent r b32 [some a0] σ B Q) : zac tab (r + 1) 32 [a0] σ B Q := zak (f := f32) rfl rfl h
theorem ztg {r σ B Q} {a0 : Va} (h : Ent r b33 [some a0, none, none, none, none, none, none, none] σ B Q) : zac tab (r + 1) 33 [a0] σ B Q := zak (f := f33) rfl rfl h
theorem ztf {r σ B Q} {a0 : Va} (h : Ent r b34 [some a0, none] σ B Q) : zac tab (r + 1) 34 [a0] σ B Q := zak (f := f34) rfl rfl h
theorem zte {r σ B Q} {a0 : Va} (h : Ent r b35 [some a0, none, none] σ B Q) : zac tab (r + 1) 35 [a0] σ B Q := zak (f := f35) rfl rfl h
theorem ztd {r σ B Q} {a0 a1 a2 : Va} (h : Ent r b36 [some a0, some a1, some a2] σ B Q) : zac tab (r + 1) 36 [a0, a1, a2] σ B Q := zak (f := f36) rfl rfl h
theorem zn7 {r σ B Q} {a0 a1 a2 : Va} (h : Ent r b37 [some a0, some a1, some a2, none] σ B Q) : zac tab (r + 1) 37 [a0, a1, a2] σ B Q := zak (f := f37) rfl rfl h
theorem ztc {r σ B Q} {a0 a1 : Va} (h : Ent r b38 [some a0, some a1, none] σ B Q) : zac tab (r + 1) 38 [a0, a1] σ B Q := zak (f := f38) rfl rfl h
theorem ztb {r σ B Q} {a0 a1 : Va} (h : Ent r b39 [some a0, some a1, none] σ B Q) : zac tab (r + 1) 39 [a0, a1] σ B Q := zak (f := f39) rfl rfl h
theorem zta {r σ B Q} {a0 a1 : Va} (h : Ent r b40 [some a0, some a1, none, none] σ B Q) : zac tab (r + 1) 40 [a0, a1] σ B Q := zak (f := f40) rfl rfl h
theorem zs9 {r σ B Q} {a0 a1 : Va} (h : Ent r b41 [some a0, some a1, none, none, none] σ B Q) : zac tab (r + 1) 41 [a0, a1] σ B Q := zak (f := f41) rfl rfl h
theorem zs8 {r σ B Q} {a0 a1 : Va} (h : Ent r b42 [some a0, some a1, none, none] σ B Q) : zac tab (r + 1) 42 [a0, a1] σ B Q := zak (f := f42) rfl rfl h
theorem zs7 {r σ B Q} {a0 a1 a2 : Va} (h : Ent r b43 [some a0, some a1, some a2] σ B Q) : zac tab (r + 1) 43 [a0, a1, a2] σ B Q := zak (f := f43) rfl rfl h
theorem zs6 {r σ B Q} {a0 a1 : Va} (h : Ent r b44 [some a0, some a1, none, none] σ B Q) : zac tab (r + 1) 44 [a0, a1] σ B Q := zak (f := f44) rfl rfl h
theorem zn6 {r σ B Q} {a0 : Va} (h : Ent r b45 [some a0] σ B Q) : zac tab (r + 1) 45 [a0] σ B Q := zak (f := f45) rfl rfl h
theorem zs5 {r σ B Q} {a0 a1 : Va} (h : Ent r b46 [some a0, some a1, none, none, none, none, none, none] σ B Q) : zac tab (r + 1) 46 [a0, a1] σ B Q := zak (f := f46) rfl rfl h
theorem zs4 {r σ B Q} {a0 : Va} (h : Ent r b47 [some a0, none, none] σ B Q) : zac tab (r + 1) 47 [a0] σ B Q := zak (f := f47) rfl rfl h
theorem zs3 {r σ B Q} {a0 a1 a2 : Va} (h : Ent r b48 [some a0, some a1, some a2, none, none] σ B Q) : zac tab (r + 1) 48 [a0, a1, a2] σ B Q := zak (f := f48) rfl rfl h
theorem zs2 {r σ B Q} {a0 a1 a2 : Va} (h : Ent r b49 [some a0, some a1, some a2, none, none, none, none, none, none] σ B Q) : zac tab (r + 1) 49 [a0, a1, a2] σ B Q := zak (f := f49) rfl rfl h
theorem zs1 {r σ B Q} {a0 : Va} (h : Ent r b50 [some a0, none, none, none] σ B Q) : zac tab (r + 1) 50 [a0] σ B Q := zak (f := f50) rfl rfl h
theorem zs0 {r σ B Q} {a0 : Va} (h : Ent r b51 [some a0] σ B Q) : zac tab (r + 1) 51 [a0] σ B Q := zak (f := f51) rfl rfl h
theorem zsz {r σ B Q} {a0 : Va} (h : Ent r b52 [some a0, none, none] σ B Q) : zac tab (r + 1) 52 [a0] σ B Q := zak (f := f52) rfl rfl h
theorem zsy {r σ B Q} {a0 a1 a2 : Va} (h : Ent r b53 [some a0, some a1, some a2] σ B Q) : zac tab (r + 1) 53 [a0, a1, a2] σ B Q := zak (f := f53) rfl rfl h
theorem zsx {r σ B Q} {a0 a1 a2 : Va} (h : Ent r b54 [some a0, some a1, some a2] σ B Q) : zac tab (r + 1) 54 [a0, a1, a2] σ B Q := zak (f := f54) rfl rfl h
theorem zsw {r σ B Q} {a0 : Va} (h : Ent r b55 [some a0, none] σ B Q) : zac tab (r + 1) 55 [a0] σ B Q := zak (f := f55) rfl rfl h
theorem zsv {r σ B Q} {a0 a1 : Va} (h : Ent r b56 [some a0, some a1, none] σ B Q) : zac tab (r + 1) 56 [a0, a1] σ B Q := zak (f := f56) rfl rfl h
theorem zsu {r σ B Q} {a0 a1 : Va} (h : Ent r b57 [some a0, some a1, none, none, none, none] σ B Q) : zac tab (r + 1) 57 [a0, a1] σ B Q := zak (f := f57) rfl rfl h
theorem zst {r σ B Q} {a0 a1 : Va} (h : Ent r b58 [some a0, some a1, none, none, none, none, none] σ B Q) : zac tab (r + 1) 58 [a0, a1] σ B Q := zak (f := f58) rfl rfl h
theorem zss {r σ B Q} {a0 a1 a2 : Va} (h : Ent r b59 [some a0, some a1, some a2, none, none, none, none] σ B Q) : zac tab (r + 1) 59 [a0, a1, a2] σ B Q := zak (f := f59) rfl rfl h
theorem zsr {r σ B Q} {a0 a1 a2 : Va} (h : Ent r b60 [some a0, some a1, some a2, none, none, none, none, none, none, none] σ B Q) : zac tab (r + 1) 60 [a0, a1, a2] σ B Q := zak (f := f60) rfl rfl h
theorem zsq {r σ B Q} {a0 a1 : Va} (h : Ent r b61 [some a0, some a1, none, none] σ B Q) : zac tab (r + 1) 61 [a0, a1] σ B Q := zak (f := f61) rfl rfl h
theorem zsp {r σ B Q} {a0 a1 : Va} (h : Ent r b62 [some a0, some a1, none, none] σ B Q) : zac tab (r + 1) 62 [a0, a1] σ B Q := zak (f := f62) rfl rfl h
theorem zso {r σ B Q} {a0 : Va} (h : Ent r b63 [some a0, none, none, none, none, none, none, none, none, none, none, none, none, none, none] σ B Q) : zac tab (r + 1) 63 [a0] σ B Q := zak (f := f63) rfl rfl h
end LW.Internal
end
section
open PySem PySem.W PyProof.Rows PySem.Calls
open Sem (wp)
namespace LW.Internal
section
noncomputable def Seen (h : Heap) (a : Addr) (vs : List Va) : Prop := ∃ items, A3 (h.IsList a items) (vs.length ≤ sizeLine) (RvL h vs items.toList)
theorem Seen.ext {h h' : Heap} {a : Addr} {vs : List Va} (x : Seen h a vs) (k : Ext h h') : Seen h' a vs :=
 let ⟨items, ⟨o, ho, hr⟩, z, r⟩ := x; ⟨items, ⟨o, k _ _ ho, hr⟩, z, r.evo k.evo⟩
noncomputable def Cov (W : Wd) (dd : Addr → Addr) (led : Led) (a : Addr) : UOb → Prop
 | .list vs => (a, .list vs) ∈ led
 | .inst g fs => (a, .inst g (dd a)) ∈ led ∧ (dd a, .dict fs) ∈ led
 | .barr b => (a, .barr b) ∈ led
 | .rol vs => Seen W.h₀ a vs
noncomputable def UOb.isInst : UOb → Bool
 | .inst .. => true
 | _ => false
theorem zqx {l l' : Led} {a : Addr} {o o' : Ob} (x : Upd l a o o' l') (r : Led) : Upd (l ++ r) a o o' (l' ++ r) := by
 induction x with
 | here => exact .here
 | there _ ih => exact .there ih
structure St (W : Wd) (F : Led) (σ : Sto) (s : Shared) : Prop where
 ex : Ex2 fun (led : Led) (dd : Addr → Addr) => A3 (Sat W (F ++ led) s) ((∀ a u, σ a = some u → Cov W dd led a u)) (∀ a a' u u', σ a = some u → σ a' = some u' → u.isInst = true → u'.isInst = true → dd a = dd a' → a = a')
theorem Upd.of_mem {l : Led} {a : Addr} {o : Ob} (h : (a, o) ∈ l) (o' : Ob) : ∃ l', Upd l a o o' l' := by
 induction l with
 | nil => cases h
 | cons c l ih =>
  cases h with
  | head => exact ⟨_, .here⟩
  | tail _ h => obtain ⟨l', u⟩ := ih h; exact ⟨_, .there u⟩
theorem Upd.keepMem {l l' : Led} {a : Addr} {o o' : Ob} (u : Upd l a o o' l') {p : Addr × Ob} (h : p ∈ l) (hne : p.1 ≠ a) : p ∈ l' := by
 induction u with
 | here => cases h with
  | head => exact absurd rfl hne
  | tail _ h => exact List.Mem.tail _ h
 | there _ ih => cases h with
  | head => exact List.Mem.head _
  | tail _ h => exact List.Mem.tail _ (ih h hne)
set_option tactic.hygienic true in
theorem Sto.set_eq {σ : Sto} {a b : Addr} {u v : UOb} (h : σ.set a u b = some v) : (b = a ∧ v = u) ∨ (b ≠ a ∧ σ b = some v) := by
 unfold Sto.set at h
 split at h
 ·rename_i e; exact .inl ⟨e, (Option.some.inj h).symm⟩
 ·rename_i e; exact .inr ⟨e, h⟩
section
variable {W : Wd} {F F' : Led} {σ τ : Sto} {s s' : Shared} {a : Addr}
theorem St.same (S : St W F σ s) (hh : s'.heap = s.heap) (hg : s'.gens = s.gens) (ho : s'.os = s.os) : St W F σ s' :=
 let ⟨led, dd, x, y, z⟩ := S.ex; ⟨led, dd, x.same hh hg ho, y, z⟩
theorem St.ext (S : St W F σ s) (k : Ext s.heap s'.heap) (hg : s'.gens = s.gens) (ho : s'.os = s.os) : St W F σ s' :=
 let ⟨led, dd, x, y, z⟩ := S.ex; ⟨led, dd, x.ext k hg ho, y, z⟩
theorem St.weak (S : St W F σ s) (k : Sto.Le τ σ) : St W F τ s :=
 let ⟨led, dd, x, y, z⟩ := S.ex; ⟨led, dd, x, fun a u e => y a u (k a u e), fun a a' u u' e e' => z a a' u u' (k a u e) (k a' u' e')⟩
theorem St.keep (S : St W F σ s) : Ext W.h₀ s.heap := let ⟨_, _, x, _, _⟩ := S.ex; x.keep
theorem St.gens (S : St W F σ s) : s.gens = #[] := let ⟨_, _, x, _, _⟩ := S.ex; x.gens
theorem St.os (S : St W F σ s) : s.os = W.os := let ⟨_, _, x, _, _⟩ := S.ex; x.os
theorem St.list {vs : List Va} (S : St W F σ s) (h : σ a = some (.list vs)) : Den W s.heap a (.list vs) :=
 let ⟨_, _, x, y, _⟩ := S.ex; x.get (List.mem_append_right _ (y _ _ h))
theorem St.barr {b : List UInt8} (S : St W F σ s) (h : σ a = some (.barr b)) : Den W s.heap a (.barr b) :=
 let ⟨_, _, x, y, _⟩ := S.ex; x.get (List.mem_append_right _ (y _ _ h))
theorem St.inst {g : Nat} {fs : List (Nat × Va)} (S : St W F σ s) (h : σ a = some (.inst g fs)) : ∃ d, Den W s.heap a (.inst g d) ∧ Den W s.heap d (.dict fs) :=
 let ⟨_, dd, x, y, _⟩ := S.ex; ⟨dd a, x.get (List.mem_append_right _ (y _ _ h).1), x.get (List.mem_append_right _ (y _ _ h).2)⟩
theorem St.frame {ob : Ob} (S : St W F σ s) (h : (a, ob) ∈ F) : Den W s.heap a ob :=
 let ⟨_, _, x, _, _⟩ := S.ex; x.get (List.mem_append_left _ h)
theorem St.perm (S : St W F σ s) (k : F.Perm F') : St W F' σ s :=
 let ⟨led, dd, x, y, z⟩ := S.ex; ⟨led, dd, x.perm (k.append_right led), y, z⟩
theorem St.sub (S : St W F σ s) (k : F'.Sublist F) : St W F' σ s :=
 let ⟨led, dd, x, y, z⟩ := S.ex; ⟨led, dd, x.sub (k.append_right led), y, z⟩
theorem St.push {ob : Ob} (S : St W F σ s) (k : Ext s.heap s'.heap) (ha : s.heap.get? a = none) (d : Den W s'.heap a ob) (hg : s'.gens = s.gens) (ho : s'.os = s.os) : St W ((a, ob) :: F) σ s' :=
 let ⟨led, dd, x, y, z⟩ := S.ex; ⟨led, dd, x.alloc k ha d hg ho, y, z⟩
theorem St.updF {ob ob' : Ob} (S : St W F σ s) (u : Upd F a ob ob' F') (k : Heap.ExtBut a s.heap s'.heap) (ev : Evo s.heap s'.heap) (d : Den W s'.heap a ob') (hg : s'.gens = s.gens) (ho : s'.os = s.os) : St W F' σ s' := by
 obtain ⟨led, dd, x, y, z⟩ := S.ex
 exact ⟨led, dd, x.upd (zqx u led) k ev d hg ho, y, z⟩
theorem St.free (S : St W F σ s) (ha : s.heap.get? a = none) : σ a = none := by
 obtain ⟨led, dd, x, y, z⟩ := S.ex
 cases q : σ a with
 | none => rfl
 | some u =>
  exfalso
  have c := y a u q
  have far : ∀ ob, (a, ob) ∈ led → False := fun ob hm => by
   obtain ⟨o, ho⟩ := (x.den _ (List.mem_append_right F hm)).there
   have e : s.heap.get? a = some o := ho
   rw [ha] at e; cases e
  cases u with
  | list vs => exact far _ c
  | inst g fs => exact far _ c.1
  | barr b => exact far _ c
  | rol vs =>
   obtain ⟨_, ⟨o, ho, _⟩, _⟩ := (show Seen W.h₀ a vs from c)
   have := x.keep _ _ ho
   rw [ha] at this; cases this
theorem zsl {dd : Addr → Addr} {led : Led} {u : UOb} (c : Cov W dd led a u) : (∃ ob, (a, ob) ∈ led ∧ (∀ fs, ob ≠ .dict fs)) ∨ ∃ o, W.h₀.get? a = some o := by
 cases u with
 | list vs => exact .inl ⟨_, c, fun _ e => nomatch e⟩
 | inst g fs => exact .inl ⟨_, c.1, fun _ e => nomatch e⟩
 | barr b => exact .inl ⟨_, c, fun _ e => nomatch e⟩
 | rol vs => exact .inr (let ⟨_, ⟨o, ho, _⟩, _, _⟩ := (show Seen W.h₀ a vs from c); ⟨o, ho⟩)
set_option tactic.hygienic true in
theorem St.seen {vs : List Va} (S : St W F σ s) (h : zd3 σ a = some vs) : Seen s.heap a vs := by
 unfold zd3 at h
 split at h
 ·cases h
  obtain ⟨items, n, hl, z, r⟩ := S.list (by assumption)
  exact ⟨items, hl.isList, z, r⟩
 ·rename_i vs' e
  cases h
  obtain ⟨led, dd, x, y, _⟩ := S.ex
  exact Seen.ext (show Seen W.h₀ a vs from y _ _ e) x.keep
 ·cases h
theorem St.turn {ob ob' : Ob} {u u' : UOb} (S : St W F σ s) (h : σ a = some u) (hi' : u'.isInst = false) (e : ∀ dd led, Cov W dd led a u → (a, ob) ∈ led) (e' : ∀ dd led, (a, ob') ∈ led → Cov W dd led a u')
  (k : Heap.ExtBut a s.heap s'.heap) (ev : Evo s.heap s'.heap) (d : Den W s'.heap a ob') (hg : s'.gens = s.gens) (ho : s'.os = s.os) (hd : ∀ fs, ob ≠ .dict fs) : St W F (σ.set a u') s' := by
 obtain ⟨led, dd, x, y, z⟩ := S.ex
 have hm := e _ _ (y _ _ h)
 obtain ⟨led', up⟩ := Upd.of_mem hm ob'
 have nd : (led.map (·.1)).Nodup := by
  have := x.nd; rw [List.map_append] at this; exact (List.nodup_append.mp this).2.1
 refine ⟨led', dd, x.upd (up.append F) k ev d hg ho, fun b v hb => ?_, fun b b' v v' hb hb' i i' q => ?_⟩
 ·rcases Sto.set_eq hb with ⟨rfl, rfl⟩ | ⟨hne, hb⟩
  ·exact e' _ _ up.mem'
  ·have c := y _ _ hb
   cases v with
   | list vs => exact up.keepMem c hne
   | barr w => exact up.keepMem c hne
   | rol w => exact c
   | inst g fs =>
    refine ⟨up.keepMem c.1 hne, up.keepMem c.2 fun q => ?_⟩
    have q' : dd b = a := q
    have := zbk nd hm (q' ▸ c.2)
    exact hd _ this
 ·rcases Sto.set_eq hb with ⟨rfl, rfl⟩ | ⟨_, hb⟩
  ·rw [hi'] at i; cases i
  ·rcases Sto.set_eq hb' with ⟨rfl, rfl⟩ | ⟨_, hb'⟩
   ·rw [hi'] at i'; cases i'
   ·exact z b b' v v' hb hb' i i' q
theorem St.turnList {vs vs' : List Va} (S : St W F σ s) (h : σ a = some (.list vs)) (k : Heap.ExtBut a s.heap s'.heap) (ev : Evo s.heap s'.heap) (d : Den W s'.heap a (.list vs')) (hg : s'.gens = s.gens) (ho : s'.os = s.os) : St W F (σ.set a (.list vs')) s' :=
 S.turn (ob := .list vs) (ob' := .list vs') h rfl (fun _ _ c => c) (fun _ _ c => c) k ev d hg ho fun _ e => nomatch e
theorem St.turnBarr {b b' : List UInt8} (S : St W F σ s) (h : σ a = some (.barr b)) (k : Heap.ExtBut a s.heap s'.heap) (ev : Evo s.heap s'.heap) (d : Den W s'.heap a (.barr b')) (hg : s'.gens = s.gens) (ho : s'.os = s.os) : St W F (σ.set a (.barr b')) s' :=
 S.turn (ob := .barr b) (ob' := .barr b') h rfl (fun _ _ c => c) (fun _ _ c => c) k ev d hg ho fun _ e => nomatch e
theorem St.inst' {g : Nat} {fs : List (Nat × Va)} (S : St W F σ s) (h : σ a = some (.inst g fs)) : ∃ d, A5 (Den W s.heap a (.inst g d)) (Den W s.heap d (.dict fs)) (a ≠ d) (W.h₀.get? d = none) (∀ {s' : Shared} {fs' : List (Nat × Va)}, Heap.ExtBut d s.heap s'.heap → Evo s.heap s'.heap → Den W s'.heap d (.dict fs') → s'.gens = s.gens → s'.os = s.os → St W F (σ.set a (.inst g fs')) s') := by
 obtain ⟨led, dd, x, y, z⟩ := S.ex
 have c := y _ _ h
 have nd : (led.map (·.1)).Nodup := by
  have := x.nd; rw [List.map_append] at this; exact (List.nodup_append.mp this).2.1
 have hne : a ≠ dd a := fun q => by
  have := zbk nd c.1 (q ▸ c.2 : (a, Ob.dict fs) ∈ led)
  cases this
 refine ⟨dd a, x.get (List.mem_append_right _ c.1), x.get (List.mem_append_right _ c.2), hne, x.new _ (List.mem_append_right _ c.2), fun {s'} {fs'} k ev d hg ho => ?_⟩
 obtain ⟨led', up⟩ := Upd.of_mem c.2 (.dict fs')
 refine ⟨led', dd, x.upd (up.append F) k ev d hg ho, fun b v hb => ?_, fun b b' v v' hb hb' i i' q => ?_⟩
 ·rcases Sto.set_eq hb with ⟨rfl, rfl⟩ | ⟨hba, hb⟩
  ·exact ⟨up.keepMem c.1 hne, up.mem'⟩
  ·have c' := y _ _ hb
   have ndict : ∀ ob, (b, ob) ∈ led → (∀ fs, ob ≠ .dict fs) → b ≠ dd a := fun ob hm hn q => hn _ (zbk nd hm (q ▸ c.2 : (b, Ob.dict fs) ∈ led))
   cases v with
   | list vs => exact up.keepMem c' (ndict _ c' fun _ e => nomatch e)
   | barr w => exact up.keepMem c' (ndict _ c' fun _ e => nomatch e)
   | rol w => exact c'
   | inst g' fs'' =>
    refine ⟨up.keepMem c'.1 (ndict _ c'.1 fun _ e => nomatch e), up.keepMem c'.2 fun q => ?_⟩
    exact hba (z b a _ _ hb h rfl rfl q)
 ·have old : ∀ {b v}, (σ.set a (.inst g fs')) b = some v → ∃ v', σ b = some v' ∧ v'.isInst = v.isInst := fun {b v} hb => by
   rcases Sto.set_eq hb with ⟨rfl, rfl⟩ | ⟨_, hb⟩
   ·exact ⟨_, h, rfl⟩
   ·exact ⟨_, hb, rfl⟩
  obtain ⟨w, hw, iw⟩ := old hb
  obtain ⟨w', hw', iw'⟩ := old hb'
  exact z b b' w w' hw hw' (iw.trans i) (iw'.trans i') q
theorem St.newOb {ob : Ob} {u : UOb} (S : St W F σ s) (ha : s.heap.get? a = none) (hi : u.isInst = false) (e : ∀ dd led, (a, ob) ∈ led → Cov W dd led a u) (k : Ext s.heap s'.heap) (d : Den W s'.heap a ob) (hg : s'.gens = s.gens) (ho : s'.os = s.os) : St W F (σ.set a u) s' := by
 obtain ⟨led, dd, x, y, z⟩ := S.ex
 have hf := S.free ha
 refine ⟨(a, ob) :: led, dd, (x.alloc k ha d hg ho).perm List.perm_middle.symm, fun b v hb => ?_, fun b b' v v' hb hb' i i' q => ?_⟩
 ·rcases Sto.set_eq hb with ⟨rfl, rfl⟩ | ⟨_, hb⟩
  ·exact e _ _ (List.Mem.head _)
  ·have c := y _ _ hb
   cases v with
   | list vs => exact List.Mem.tail _ c
   | barr w => exact List.Mem.tail _ c
   | rol w => exact c
   | inst g fs => exact ⟨List.Mem.tail _ c.1, List.Mem.tail _ c.2⟩
 ·rcases Sto.set_eq hb with ⟨rfl, rfl⟩ | ⟨_, hb⟩
  ·rw [hi] at i; cases i
  ·rcases Sto.set_eq hb' with ⟨rfl, rfl⟩ | ⟨_, hb'⟩
   ·rw [hi] at i'; cases i'
   ·exact z b b' v v' hb hb' i i' q
theorem St.newList {vs : List Va} (S : St W F σ s) (ha : s.heap.get? a = none) (k : Ext s.heap s'.heap) (d : Den W s'.heap a (.list vs)) (hg : s'.gens = s.gens) (ho : s'.os = s.os) : St W F (σ.set a (.list vs)) s' :=
 S.newOb ha rfl (fun _ _ c => c) k d hg ho
theorem St.newBarr {b : List UInt8} (S : St W F σ s) (ha : s.heap.get? a = none) (k : Ext s.heap s'.heap) (d : Den W s'.heap a (.barr b)) (hg : s'.gens = s.gens) (ho : s'.os = s.os) : St W F (σ.set a (.barr b)) s' :=
 S.newOb ha rfl (fun _ _ c => c) k d hg ho
theorem St.toList {vs : List Va} (S : St W ((a, .list vs) :: F) σ s) (ha : σ a = none) : St W F (σ.set a (.list vs)) s := by
 obtain ⟨led, dd, x, y, z⟩ := S.ex
 refine ⟨(a, .list vs) :: led, dd, x.perm List.perm_middle.symm, fun b v hb => ?_, fun b b' v v' hb hb' i i' q => ?_⟩
 ·rcases Sto.set_eq hb with ⟨rfl, rfl⟩ | ⟨_, hb⟩
  ·exact List.Mem.head _
  ·have c := y _ _ hb
   cases v with
   | list vs => exact List.Mem.tail _ c
   | barr w => exact List.Mem.tail _ c
   | rol w => exact c
   | inst g fs => exact ⟨List.Mem.tail _ c.1, List.Mem.tail _ c.2⟩
 ·rcases Sto.set_eq hb with ⟨rfl, rfl⟩ | ⟨_, hb⟩
  ·cases i
  ·rcases Sto.set_eq hb' with ⟨rfl, rfl⟩ | ⟨_, hb'⟩
   ·cases i'
   ·exact z b b' v v' hb hb' i i' q
theorem St.newInst {g : Nat} {d : Addr} (S : St W F σ s) (ha : s.heap.get? a = none) (hd : s.heap.get? d = none) (hne : a ≠ d) (k : Ext s.heap s'.heap) (d1 : Den W s'.heap a (.inst g d)) (d2 : Den W s'.heap d (.dict [])) (hg : s'.gens = s.gens) (ho : s'.os = s.os) : St W F (σ.set a (.inst g [])) s' := by
 obtain ⟨led, dd, x, y, z⟩ := S.ex
 have hf := S.free ha
 have fresh : ∀ {c ob}, (c, ob) ∈ F ++ led → c ≠ a ∧ c ≠ d := fun {c ob} hm => by
  obtain ⟨o, ho⟩ := (x.den _ hm).there
  have ho' : s.heap.get? c = some o := ho
  exact ⟨fun q => (by rw [q, ha] at ho'; cases ho'), fun q => (by rw [q, hd] at ho'; cases ho')⟩
 have T := x.ext k hg ho
 have h0 : ∀ {c}, s.heap.get? c = none → W.h₀.get? c = none := fun {c} q => by
  cases q' : W.h₀.get? c with
  | none => rfl
  | some o => have := x.keep c o q'; rw [q] at this; cases this
 have T2 : Sat W ((a, .inst g d) :: (d, .dict []) :: (F ++ led)) s' := by
  refine ⟨T.keep, ?_, ?_, ?_, T.gens, T.os⟩
  ·simp only [List.map_cons, List.nodup_cons, List.mem_cons, not_or]
   refine ⟨⟨hne, fun hm => ?_⟩, fun hm => ?_, T.nd⟩
   ·obtain ⟨⟨c, ob⟩, hm1, e⟩ := List.mem_map.mp hm
    exact (fresh hm1).1 e
   ·obtain ⟨⟨c, ob⟩, hm1, e⟩ := List.mem_map.mp hm
    exact (fresh hm1).2 e
  ·intro p hp
   cases hp with
   | head => exact d1
   | tail _ hp => cases hp with
    | head => exact d2
    | tail _ hp => exact T.den p hp
  ·intro p hp
   cases hp with
   | head => exact h0 ha
   | tail _ hp => cases hp with
    | head => exact h0 hd
    | tail _ hp => exact T.new p hp
 have T3 := T2.perm (led' := F ++ ((a, .inst g d) :: (d, .dict []) :: led)) (by
  refine (List.Perm.trans ?_ List.perm_middle.symm)
  exact List.Perm.cons _ List.perm_middle.symm)
 refine ⟨_, fun b => if b = a then d else dd b, T3, fun b v hb => ?_, fun b b' v v' hb hb' i i' q => ?_⟩
 ·rcases Sto.set_eq hb with ⟨rfl, rfl⟩ | ⟨hba, hb⟩
  ·refine ⟨?_, ?_⟩ <;> dsimp only <;> rw [if_pos rfl]
   ·exact List.Mem.head _
   ·exact List.Mem.tail _ (List.Mem.head _)
  ·have c := y _ _ hb
   cases v with
   | list vs => exact List.Mem.tail _ (List.Mem.tail _ c)
   | barr w => exact List.Mem.tail _ (List.Mem.tail _ c)
   | rol w => exact c
   | inst g fs =>
    refine ⟨?_, ?_⟩ <;> dsimp only <;> rw [if_neg hba]
    ·exact List.Mem.tail _ (List.Mem.tail _ c.1)
    ·exact List.Mem.tail _ (List.Mem.tail _ c.2)
 ·have old : ∀ {b v}, b ≠ a → σ b = some v → v.isInst = true → dd b ≠ d := fun {b v} hba hb i q => by
   have c := y _ _ hb
   cases v with
   | list vs => cases i
   | barr w => cases i
   | rol w => cases i
   | inst g fs => exact (fresh (List.mem_append_right F (q ▸ c.2))).2 rfl
  rcases Sto.set_eq hb with ⟨e1, e2⟩ | ⟨hba, hb1⟩ <;> rcases Sto.set_eq hb' with ⟨e3, e4⟩ | ⟨hba', hb2⟩
  ·rw [e1, e3]
  ·dsimp only at q; rw [if_pos e1, if_neg hba'] at q; exact absurd q.symm (old hba' hb2 i')
  ·dsimp only at q; rw [if_pos e3, if_neg hba] at q; exact absurd q (old hba hb1 i)
  ·dsimp only at q; rw [if_neg hba, if_neg hba'] at q; exact z b b' v v' hb1 hb2 i i' q
end
end
section
noncomputable abbrev Vars := List (Str × Bool)
noncomputable def zhu : Nat → Str
 | 0 => "left" | 1 => "varint" | 2 => "fixed32" | 3 => "lengthed" | 4 => "done" | 5 => "row" | _ => "encode"
noncomputable def zfx : Nat → Str
 | 0 => "MAX_32" | 1 => "MAX_64" | 2 => "MAX_SEQ" | 3 => "MOST_LEVELS" | 4 => "TAG_COMPARATOR" | 5 => "TAG_LOG_NUMBER" | 6 => "TAG_NEXT_FILE" | 7 => "TAG_LAST_SEQ"
 | 8 => "TAG_POINTER" | 9 => "TAG_DELETED" | 10 => "TAG_ADDED" | 11 => "TAG_RESET" | _ => "?"
noncomputable def isGlob (sc : Scope) (x : Str) : Bool := sc.names.lookup x == some .globalImplicit && !(x == "__debug__")
theorem bad {p : Prop} (h : false = true) : p := nomatch h
theorem andE {a b : Bool} {p : Prop} (h : (a && b) = true) (k : a = true → b = true → p) : p := by
 cases a with
 | true => exact k rfl h
 | false => exact bad h
noncomputable def f2 {α β : Type} (_ : α) (_ : β) : Bool := false
theorem and3 {a b c : Bool} {p : Prop} (h : (a && (b && c)) = true) (k : a = true → b = true → c = true → p) : p := andE h fun x h => andE h (k x)
theorem and4 {a b c d : Bool} {p : Prop} (h : (a && (b && (c && d))) = true) (k : a = true → b = true → c = true → d = true → p) : p := andE h fun x h => and3 h (k x)
theorem and5 {a b c d e : Bool} {p : Prop} (h : (a && (b && (c && (d && e)))) = true) (k : a = true → b = true → c = true → d = true → e = true → p) : p := andE h fun x h => and4 h (k x)
theorem and6 {a b c d e f : Bool} {p : Prop} (h : (a && (b && (c && (d && (e && f))))) = true) (k : a = true → b = true → c = true → d = true → e = true → f = true → p) : p := andE h fun x h => and5 h (k x)
theorem and7 {a b c d e f g : Bool} {p : Prop} (h : (a && (b && (c && (d && (e && (f && g)))))) = true) (k : a = true → b = true → c = true → d = true → e = true → f = true → g = true → p) : p := andE h fun x h => and6 h (k x)
theorem and8 {a b c d e f g i : Bool} {p : Prop} (h : (a && (b && (c && (d && (e && (f && (g && i))))))) = true) (k : a = true → b = true → c = true → d = true → e = true → f = true → g = true → i = true → p) : p := andE h fun x h => and7 h (k x)
theorem and9 {a b c d e f g i j : Bool} {p : Prop} (h : (a && (b && (c && (d && (e && (f && (g && (i && j)))))))) = true) (k : a = true → b = true → c = true → d = true → e = true → f = true → g = true → i = true → j = true → p) : p := andE h fun x h => and8 h (k x)
theorem b2 {α β : Type} {P : α → β → Prop} (a : α) (b : β) (h : f2 a b = true) : P a b := bad h
noncomputable def f3 {α β γ : Type} (_ : α) (_ : β) (_ : γ) : Bool := false
theorem b3 {α β γ : Type} {P : α → β → γ → Prop} (a : α) (b : β) (c : γ) (h : f3 a b c = true) : P a b c := bad h
noncomputable def f4 {α β γ δ : Type} (_ : α) (_ : β) (_ : γ) (_ : δ) : Bool := false
theorem b4 {α β γ δ : Type} {P : α → β → γ → δ → Prop} (a : α) (b : β) (c : γ) (d : δ) (h : f4 a b c d = true) : P a b c d := bad h
noncomputable def f5 {α β γ δ ε : Type} (_ : α) (_ : β) (_ : γ) (_ : δ) (_ : ε) : Bool := false
theorem b5 {α β γ δ ε : Type} {P : α → β → γ → δ → ε → Prop} (a : α) (b : β) (c : γ) (d : δ) (f : ε) (h : f5 a b c d f = true) : P a b c d f := bad h
noncomputable def exC {ρ : Type} (z : ρ) (h0 : Const → Nat → Pos → ρ) (h1 : Str → Pos → ρ) (h2 : Expr → Operator → Expr → Pos → ρ) (h3 : Expr → List CmpOp → List Expr → Pos → ρ) (h4 : UnaryOp → Expr → Pos → ρ) (h5 : BoolOp → List Expr → Pos → ρ) (h6 : Expr → Expr → Expr → Pos → ρ) (h7 : Expr → List Expr → List Keyword → Pos → ρ) (h8 : Expr → Str → Pos → ρ) (h9 : Expr → Expr → Pos → ρ) (h10 : Option Expr → Option Expr → Option Expr → Pos → ρ) (h11 : List Expr → Pos → ρ) (h12 : List Expr → Nat → Pos → ρ) (h13 : Expr → List Comprehension → Scope → Pos → ρ) (h14 : Expr → Int → Option Expr → Pos → ρ) (h15 : List Expr → Pos → ρ) (e : Expr) : ρ := match e with
 | .Constant a b c => h0 a b c
 | .Name a b => h1 a b
 | .BinOp a b c d => h2 a b c d
 | .Compare a b c d => h3 a b c d
 | .UnaryOp a b c => h4 a b c
 | .BoolOp a b c => h5 a b c
 | .IfExp a b c d => h6 a b c d
 | .Call a b c d => h7 a b c d
 | .Attribute a b c => h8 a b c
 | .Subscript a b c => h9 a b c
 | .Slice a b c d => h10 a b c d
 | .List a b => h11 a b
 | .Tuple a b c => h12 a b c
 | .ListComp a b c d => h13 a b c d
 | .FormattedValue a b c d => h14 a b c d
 | .JoinedStr a b => h15 a b
 | _ => z
theorem zd9 {P : Expr → Prop} {h0 : Const → Nat → Pos → Bool} {h1 : Str → Pos → Bool} {h2 : Expr → Operator → Expr → Pos → Bool} {h3 : Expr → List CmpOp → List Expr → Pos → Bool} {h4 : UnaryOp → Expr → Pos → Bool} {h5 : BoolOp → List Expr → Pos → Bool} {h6 : Expr → Expr → Expr → Pos → Bool} {h7 : Expr → List Expr → List Keyword → Pos → Bool} {h8 : Expr → Str → Pos → Bool} {h9 : Expr → Expr → Pos → Bool} {h10 : Option Expr → Option Expr → Option Expr → Pos → Bool} {h11 : List Expr → Pos → Bool} {h12 : List Expr → Nat → Pos → Bool} {h13 : Expr → List Comprehension → Scope → Pos → Bool} {h14 : Expr → Int → Option Expr → Pos → Bool} {h15 : List Expr → Pos → Bool} {e : Expr} (h : exC false h0 h1 h2 h3 h4 h5 h6 h7 h8 h9 h10 h11 h12 h13 h14 h15 e = true) (H0 : ∀ a b c, h0 a b c = true → P (.Constant a b c)) (H1 : ∀ a b, h1 a b = true → P (.Name a b)) (H2 : ∀ a b c d, h2 a b c d = true → P (.BinOp a b c d)) (H3 : ∀ a b c d, h3 a b c d = true → P (.Compare a b c d)) (H4 : ∀ a b c, h4 a b c = true → P (.UnaryOp a b c)) (H5 : ∀ a b c, h5 a b c = true → P (.BoolOp a b c)) (H6 : ∀ a b c d, h6 a b c d = true → P (.IfExp a b c d)) (H7 : ∀ a b c d, h7 a b c d = true → P (.Call a b c d)) (H8 : ∀ a b c, h8 a b c = true → P (.Attribute a b c)) (H9 : ∀ a b c, h9 a b c = true → P (.Subscript a b c)) (H10 : ∀ a b c d, h10 a b c d = true → P (.Slice a b c d)) (H11 : ∀ a b, h11 a b = true → P (.List a b)) (H12 : ∀ a b c, h12 a b c = true → P (.Tuple a b c)) (H13 : ∀ a b c d, h13 a b c d = true → P (.ListComp a b c d)) (H14 : ∀ a b c d, h14 a b c d = true → P (.FormattedValue a b c d)) (H15 : ∀ a b, h15 a b = true → P (.JoinedStr a b)) : P e := by
 cases e <;> first | exact bad h | exact H0 _ _ _ h | exact H1 _ _ h | exact H2 _ _ _ _ h | exact H3 _ _ _ _ h | exact H4 _ _ _ h | exact H5 _ _ _ h | exact H6 _ _ _ _ h | exact H7 _ _ _ _ h | exact H8 _ _ _ h | exact H9 _ _ _ h | exact H10 _ _ _ _ h | exact H11 _ _ h | exact H12 _ _ _ h | exact H13 _ _ _ _ h | exact H14 _ _ _ _ h | exact H15 _ _ h
noncomputable def zhr (e : Expr) (k : Const → Bool) : Bool := exC false (fun a _ _ => k a) f2 f4 f4 f3 f3 f4 f4 f3 f3 f4 f2 f3 f4 f4 f2 e
noncomputable def onNm (e : Expr) (k : Str → Pos → Bool) : Bool := exC false f3 k f4 f4 f3 f3 f4 f4 f3 f3 f4 f2 f3 f4 f4 f2 e
noncomputable def onBin (e : Expr) (k : Expr → Operator → Expr → Bool) : Bool := exC false f3 f2 (fun a b c _ => k a b c) f4 f3 f3 f4 f4 f3 f3 f4 f2 f3 f4 f4 f2 e
noncomputable def zo6 (e : Expr) (k : Expr → List CmpOp → List Expr → Bool) : Bool := exC false f3 f2 f4 (fun a b c _ => k a b c) f3 f3 f4 f4 f3 f3 f4 f2 f3 f4 f4 f2 e
noncomputable def onUn (e : Expr) (k : UnaryOp → Expr → Bool) : Bool := exC false f3 f2 f4 f4 (fun a b _ => k a b) f3 f4 f4 f3 f3 f4 f2 f3 f4 f4 f2 e
noncomputable def onBo (e : Expr) (k : BoolOp → List Expr → Pos → Bool) : Bool := exC false f3 f2 f4 f4 f3 k f4 f4 f3 f3 f4 f2 f3 f4 f4 f2 e
noncomputable def onIf (e : Expr) (k : Expr → Expr → Expr → Bool) : Bool := exC false f3 f2 f4 f4 f3 f3 (fun a b c _ => k a b c) f4 f3 f3 f4 f2 f3 f4 f4 f2 e
noncomputable def zb3 (e : Expr) (k : Expr → List Expr → List Keyword → Pos → Bool) : Bool := exC false f3 f2 f4 f4 f3 f3 f4 k f3 f3 f4 f2 f3 f4 f4 f2 e
noncomputable def zeb (e : Expr) (k : Expr → Str → Pos → Bool) : Bool := exC false f3 f2 f4 f4 f3 f3 f4 f4 k f3 f4 f2 f3 f4 f4 f2 e
noncomputable def zm5 (e : Expr) (k : Expr → Expr → Bool) : Bool := exC false f3 f2 f4 f4 f3 f3 f4 f4 f3 (fun a b _ => k a b) f4 f2 f3 f4 f4 f2 e
noncomputable def onSl (e : Expr) (k : Option Expr → Option Expr → Option Expr → Bool) : Bool := exC false f3 f2 f4 f4 f3 f3 f4 f4 f3 f3 (fun a b c _ => k a b c) f2 f3 f4 f4 f2 e
noncomputable def zq4 (e : Expr) (k : List Expr → Bool) : Bool := exC false f3 f2 f4 f4 f3 f3 f4 f4 f3 f3 f4 (fun a _ => k a) f3 f4 f4 f2 e
noncomputable def zlm (e : Expr) (k : List Expr → Bool) : Bool := exC false f3 f2 f4 f4 f3 f3 f4 f4 f3 f3 f4 f2 (fun a _ _ => k a) f4 f4 f2 e
noncomputable def zko (e : Expr) (k : Expr → List Comprehension → Scope → Pos → Bool) : Bool := exC false f3 f2 f4 f4 f3 f3 f4 f4 f3 f3 f4 f2 f3 k f4 f2 e
noncomputable def onFmt (e : Expr) (k : Expr → Int → Option Expr → Bool) : Bool := exC false f3 f2 f4 f4 f3 f3 f4 f4 f3 f3 f4 f2 f3 f4 (fun a b c _ => k a b c) f2 e
noncomputable def zq5 (e : Expr) (k : List Expr → Bool) : Bool := exC false f3 f2 f4 f4 f3 f3 f4 f4 f3 f3 f4 f2 f3 f4 f4 (fun a _ => k a) e
theorem cstE {k : Const → Bool} {P : Expr → Prop} {e} (h : zhr e k = true) (H : ∀ a b c, k a = true → P (.Constant a b c)) : P e := zd9 h H b2 b4 b4 b3 b3 b4 b4 b3 b3 b4 b2 b3 b4 b4 b2
theorem nmE {k : Str → Pos → Bool} {P : Expr → Prop} {e} (h : onNm e k = true) (H : ∀ a b, k a b = true → P (.Name a b)) : P e := zd9 h b3 H b4 b4 b3 b3 b4 b4 b3 b3 b4 b2 b3 b4 b4 b2
theorem binE {k : Expr → Operator → Expr → Bool} {P : Expr → Prop} {e} (h : onBin e k = true) (H : ∀ a b c d, k a b c = true → P (.BinOp a b c d)) : P e := zd9 h b3 b2 H b4 b3 b3 b4 b4 b3 b3 b4 b2 b3 b4 b4 b2
theorem cmpE {k : Expr → List CmpOp → List Expr → Bool} {P : Expr → Prop} {e} (h : zo6 e k = true) (H : ∀ a b c d, k a b c = true → P (.Compare a b c d)) : P e := zd9 h b3 b2 b4 H b3 b3 b4 b4 b3 b3 b4 b2 b3 b4 b4 b2
theorem unE {k : UnaryOp → Expr → Bool} {P : Expr → Prop} {e} (h : onUn e k = true) (H : ∀ a b c, k a b = true → P (.UnaryOp a b c)) : P e := zd9 h b3 b2 b4 b4 H b3 b4 b4 b3 b3 b4 b2 b3 b4 b4 b2
theorem boE {k : BoolOp → List Expr → Pos → Bool} {P : Expr → Prop} {e} (h : onBo e k = true) (H : ∀ a b c, k a b c = true → P (.BoolOp a b c)) : P e := zd9 h b3 b2 b4 b4 b3 H b4 b4 b3 b3 b4 b2 b3 b4 b4 b2
theorem ifE {k : Expr → Expr → Expr → Bool} {P : Expr → Prop} {e} (h : onIf e k = true) (H : ∀ a b c d, k a b c = true → P (.IfExp a b c d)) : P e := zd9 h b3 b2 b4 b4 b3 b3 H b4 b3 b3 b4 b2 b3 b4 b4 b2
theorem zdz {k : Expr → List Expr → List Keyword → Pos → Bool} {P : Expr → Prop} {e} (h : zb3 e k = true) (H : ∀ a b c d, k a b c d = true → P (.Call a b c d)) : P e := zd9 h b3 b2 b4 b4 b3 b3 b4 H b3 b3 b4 b2 b3 b4 b4 b2
theorem zif {k : Expr → Str → Pos → Bool} {P : Expr → Prop} {e} (h : zeb e k = true) (H : ∀ a b c, k a b c = true → P (.Attribute a b c)) : P e := zd9 h b3 b2 b4 b4 b3 b3 b4 b4 H b3 b4 b2 b3 b4 b4 b2
theorem subE {k : Expr → Expr → Bool} {P : Expr → Prop} {e} (h : zm5 e k = true) (H : ∀ a b c, k a b = true → P (.Subscript a b c)) : P e := zd9 h b3 b2 b4 b4 b3 b3 b4 b4 b3 H b4 b2 b3 b4 b4 b2
theorem slE {k : Option Expr → Option Expr → Option Expr → Bool} {P : Expr → Prop} {e} (h : onSl e k = true) (H : ∀ a b c d, k a b c = true → P (.Slice a b c d)) : P e := zd9 h b3 b2 b4 b4 b3 b3 b4 b4 b3 b3 H b2 b3 b4 b4 b2
theorem listE {k : List Expr → Bool} {P : Expr → Prop} {e} (h : zq4 e k = true) (H : ∀ a b, k a = true → P (.List a b)) : P e := zd9 h b3 b2 b4 b4 b3 b3 b4 b4 b3 b3 b4 H b3 b4 b4 b2
theorem tupE {k : List Expr → Bool} {P : Expr → Prop} {e} (h : zlm e k = true) (H : ∀ a b c, k a = true → P (.Tuple a b c)) : P e := zd9 h b3 b2 b4 b4 b3 b3 b4 b4 b3 b3 b4 b2 H b4 b4 b2
theorem zps {k : Expr → List Comprehension → Scope → Pos → Bool} {P : Expr → Prop} {e} (h : zko e k = true) (H : ∀ a b c d, k a b c d = true → P (.ListComp a b c d)) : P e := zd9 h b3 b2 b4 b4 b3 b3 b4 b4 b3 b3 b4 b2 b3 H b4 b2
theorem fmtE {k : Expr → Int → Option Expr → Bool} {P : Expr → Prop} {e} (h : onFmt e k = true) (H : ∀ a b c d, k a b c = true → P (.FormattedValue a b c d)) : P e := zd9 h b3 b2 b4 b4 b3 b3 b4 b4 b3 b3 b4 b2 b3 b4 H b2
theorem joinE {k : List Expr → Bool} {P : Expr → Prop} {e} (h : zq5 e k = true) (H : ∀ a b, k a = true → P (.JoinedStr a b)) : P e := zd9 h b3 b2 b4 b4 b3 b3 b4 b4 b3 b3 b4 b2 b3 b4 b4 H
noncomputable def zfn (e : Expr) (k : Str → Bool) : Bool := onNm e fun x _ => k x
theorem zjs {k : Str → Bool} {P : Expr → Prop} {e} (h : zfn e k = true) (H : ∀ x p, k x = true → P (.Name x p)) : P e := nmE h H
noncomputable def stC (h0 : List Expr → Expr → Pos → Bool) (h1 : Expr → Operator → Expr → Pos → Bool) (h2 : Expr → Pos → Bool) (h3 : Option Expr → Pos → Bool) (h4 : Expr → List Stmt → List Stmt → Pos → Bool) (h5 : Expr → List Stmt → List Stmt → Pos → Bool) (h6 : Expr → Expr → List Stmt → List Stmt → Pos → Bool) (h7 : Option Expr → Option Expr → Pos → Bool) (h8 : List Stmt → List ExceptHandler → List Stmt → List Stmt → Pos → Bool) (e : Stmt) : Bool := match e with
 | .Assign a b c => h0 a b c
 | .AugAssign a b c d => h1 a b c d
 | .Expr a b => h2 a b
 | .Return a b => h3 a b
 | .If a b c d => h4 a b c d
 | .While a b c d => h5 a b c d
 | .For a b c d f => h6 a b c d f
 | .Raise a b c => h7 a b c
 | .Try a b c d f => h8 a b c d f
 | _ => false
theorem zho {P : Stmt → Prop} {h0 : List Expr → Expr → Pos → Bool} {h1 : Expr → Operator → Expr → Pos → Bool} {h2 : Expr → Pos → Bool} {h3 : Option Expr → Pos → Bool} {h4 : Expr → List Stmt → List Stmt → Pos → Bool} {h5 : Expr → List Stmt → List Stmt → Pos → Bool} {h6 : Expr → Expr → List Stmt → List Stmt → Pos → Bool} {h7 : Option Expr → Option Expr → Pos → Bool} {h8 : List Stmt → List ExceptHandler → List Stmt → List Stmt → Pos → Bool} {e : Stmt} (h : stC h0 h1 h2 h3 h4 h5 h6 h7 h8 e = true) (H0 : ∀ a b c, h0 a b c = true → P (.Assign a b c)) (H1 : ∀ a b c d, h1 a b c d = true → P (.AugAssign a b c d)) (H2 : ∀ a b, h2 a b = true → P (.Expr a b)) (H3 : ∀ a b, h3 a b = true → P (.Return a b)) (H4 : ∀ a b c d, h4 a b c d = true → P (.If a b c d)) (H5 : ∀ a b c d, h5 a b c d = true → P (.While a b c d)) (H6 : ∀ a b c d f, h6 a b c d f = true → P (.For a b c d f)) (H7 : ∀ a b c, h7 a b c = true → P (.Raise a b c)) (H8 : ∀ a b c d f, h8 a b c d f = true → P (.Try a b c d f)) : P e := by
 cases e <;> first | exact bad h | exact H0 _ _ _ h | exact H1 _ _ _ _ h | exact H2 _ _ h | exact H3 _ _ h | exact H4 _ _ _ _ h | exact H5 _ _ _ _ h | exact H6 _ _ _ _ _ h | exact H7 _ _ _ h | exact H8 _ _ _ _ _ h
noncomputable def zm6 (e : Stmt) (k : List Expr → Expr → Pos → Bool) : Bool := stC k f4 f2 f2 f4 f4 f5 f3 f5 e
noncomputable def zsb (e : Stmt) (k : Expr → Operator → Expr → Bool) : Bool := stC f3 (fun a b c _ => k a b c) f2 f2 f4 f4 f5 f3 f5 e
noncomputable def onEx (e : Stmt) (k : Expr → Bool) : Bool := stC f3 f4 (fun a _ => k a) f2 f4 f4 f5 f3 f5 e
noncomputable def zo5 (e : Stmt) (k : Option Expr → Bool) : Bool := stC f3 f4 f2 (fun a _ => k a) f4 f4 f5 f3 f5 e
noncomputable def onIte (e : Stmt) (k : Expr → List Stmt → List Stmt → Bool) : Bool := stC f3 f4 f2 f2 (fun a b c _ => k a b c) f4 f5 f3 f5 e
noncomputable def zm4 (e : Stmt) (k : Expr → List Stmt → List Stmt → Bool) : Bool := stC f3 f4 f2 f2 f4 (fun a b c _ => k a b c) f5 f3 f5 e
noncomputable def onFor (e : Stmt) (k : Expr → Expr → List Stmt → List Stmt → Bool) : Bool := stC f3 f4 f2 f2 f4 f4 (fun a b c d _ => k a b c d) f3 f5 e
noncomputable def onRaise (e : Stmt) (k : Option Expr → Option Expr → Bool) : Bool := stC f3 f4 f2 f2 f4 f4 f5 (fun a b _ => k a b) f5 e
noncomputable def onTry (e : Stmt) (k : List Stmt → List ExceptHandler → List Stmt → List Stmt → Bool) : Bool := stC f3 f4 f2 f2 f4 f4 f5 f3 (fun a b c d _ => k a b c d) e
theorem asgE {k : List Expr → Expr → Pos → Bool} {P : Stmt → Prop} {e} (h : zm6 e k = true) (H : ∀ a b c, k a b c = true → P (.Assign a b c)) : P e := zho h H b4 b2 b2 b4 b4 b5 b3 b5
theorem augE {k : Expr → Operator → Expr → Bool} {P : Stmt → Prop} {e} (h : zsb e k = true) (H : ∀ a b c d, k a b c = true → P (.AugAssign a b c d)) : P e := zho h b3 H b2 b2 b4 b4 b5 b3 b5
theorem exE {k : Expr → Bool} {P : Stmt → Prop} {e} (h : onEx e k = true) (H : ∀ a b, k a = true → P (.Expr a b)) : P e := zho h b3 b4 H b2 b4 b4 b5 b3 b5
theorem retE {k : Option Expr → Bool} {P : Stmt → Prop} {e} (h : zo5 e k = true) (H : ∀ a b, k a = true → P (.Return a b)) : P e := zho h b3 b4 b2 H b4 b4 b5 b3 b5
theorem iteE {k : Expr → List Stmt → List Stmt → Bool} {P : Stmt → Prop} {e} (h : onIte e k = true) (H : ∀ a b c d, k a b c = true → P (.If a b c d)) : P e := zho h b3 b4 b2 b2 H b4 b5 b3 b5
theorem whileE {k : Expr → List Stmt → List Stmt → Bool} {P : Stmt → Prop} {e} (h : zm4 e k = true) (H : ∀ a b c d, k a b c = true → P (.While a b c d)) : P e := zho h b3 b4 b2 b2 b4 H b5 b3 b5
theorem forE {k : Expr → Expr → List Stmt → List Stmt → Bool} {P : Stmt → Prop} {e} (h : onFor e k = true) (H : ∀ a b c d f, k a b c d = true → P (.For a b c d f)) : P e := zho h b3 b4 b2 b2 b4 b4 H b3 b5
theorem raiseE {k : Option Expr → Option Expr → Bool} {P : Stmt → Prop} {e} (h : onRaise e k = true) (H : ∀ a b c, k a b = true → P (.Raise a b c)) : P e := zho h b3 b4 b2 b2 b4 b4 b5 H b5
theorem tryE {k : List Stmt → List ExceptHandler → List Stmt → List Stmt → Bool} {P : Stmt → Prop} {e} (h : onTry e k = true) (H : ∀ a b c d f, k a b c d = true → P (.Try a b c d f)) : P e := zho h b3 b4 b2 b2 b4 b4 b5 b3 H
noncomputable def zbv {α : Type} : List α → Bool | [] => true | _ :: _ => false
noncomputable def zdt {α : Type} (l : List α) (k : α → List α → Bool) : Bool := match l with | x :: q => k x q | [] => false
noncomputable def zfm {α : Type} : Option α → Bool | none => true | some _ => false
noncomputable def zcg {α : Type} (o : Option α) (k : α → Bool) : Bool := match o with | some x => k x | none => false
noncomputable def zsa (g : Comprehension) (k : Expr → Expr → List Expr → Int → Bool) : Bool := k g.1 g.2 g.3 g.4
theorem genE {k : Expr → Expr → List Expr → Int → Bool} {P : Comprehension → Prop} {g} (h : zsa g k = true) (H : ∀ a b c d, k a b c d = true → P ⟨a, b, c, d⟩) : P g := by cases g; exact H _ _ _ _ h
noncomputable def onStr (c : Const) (k : Str → Bool) : Bool := match c with | .str x => k x | _ => false
noncomputable abbrev on1 {α : Type} (l : List α) (k : α → Bool) : Bool := zdt l fun x q => zbv q && k x
noncomputable abbrev on2 {α : Type} (l : List α) (k : α → α → Bool) : Bool := zdt l fun x q => on1 q fun y => k x y
theorem nilE {α : Type} {P : List α → Prop} {l} (h : zbv l = true) (H : P []) : P l := by cases l <;> first | exact H | exact bad h
theorem zgm {α : Type} {k} {P : List α → Prop} {l} (h : zdt l k = true) (H : ∀ x q, k x q = true → P (x :: q)) : P l := by cases l <;> first | exact bad h | exact H _ _ h
theorem zln {α : Type} {P : Option α → Prop} {l} (h : zfm l = true) (H : P none) : P l := by cases l <;> first | exact H | exact bad h
theorem zjl {α : Type} {k} {P : Option α → Prop} {l} (h : zcg l k = true) (H : ∀ x, k x = true → P (some x)) : P l := by cases l <;> first | exact bad h | exact H _ h
theorem zb5 {α : Type} {k} {P : List α → Prop} {l} (h : on1 l k = true) (H : ∀ x, k x = true → P [x]) : P l := zgm h fun x q h => andE h fun h1 h => nilE (P := fun q => P (x :: q)) h1 (H x h)
theorem zk6 {α : Type} {k} {P : List α → Prop} {l} (h : on2 l k = true) (H : ∀ x y, k x y = true → P [x, y]) : P l := zgm h fun x q h => zb5 (P := fun q => P (x :: q)) h fun y h => H x y h
theorem strE {k} {P : Const → Prop} {c} (h : onStr c k = true) (H : ∀ x, k x = true → P (.str x)) : P c := by cases c <;> first | exact bad h | exact H _ h
noncomputable def za9 (sc : Scope) (x : Str) (e : Expr) : Bool := zfn e fun id => id == x && isGlob sc x
noncomputable def zgh (sc : Scope) (c : Scope) : Scope := { c with names := c.names.map fun (n, k) => if k == .free && sc.kind == .function && sc.names.lookup n == some .cell then (n, .cell) else (n, k) }
noncomputable def zen (sc : Scope) (vars : Vars) : Bool := vars.all fun (x, c) => sc.names.lookup x == some (if c then .cell else .local) && !(x == "__debug__")
noncomputable def cvOk (sc c : Scope) (vs : Vars) : Bool := zen (zgh sc c) vs && (c.names == ((".0" : Str), .local) :: (vs.map (fun p => (p.1, .local)) ++ c.names.drop (vs.length + 1)) && (c.names.drop (vs.length + 1)).all (fun p => p.2 == .globalImplicit || (p.2 == .free && sc.names.lookup p.1 == some .cell)))
noncomputable def zmc : Bool → Vars → Expr → Bool
 | false, vs, e => zfn e fun x => vs == [(x, false)]
 | true, vs, e => zlm e fun l => on2 l fun a b => zfn a fun x => zfn b fun y => !(x == y) && vs == [(x, false), (y, false)]
noncomputable abbrev z2 {α β ρ : Type} (z : ρ) (_ : α) (_ : β) : ρ := z
noncomputable abbrev z3 {α β γ ρ : Type} (z : ρ) (_ : α) (_ : β) (_ : γ) : ρ := z
noncomputable abbrev z4 {α β γ δ ρ : Type} (z : ρ) (_ : α) (_ : β) (_ : γ) (_ : δ) : ρ := z
noncomputable def nm (e : Expr) : Str := exC "" (z3 "") (fun x _ => x) (z4 "") (z4 "") (z3 "") (z3 "") (z4 "") (z4 "") (z3 "") (z3 "") (z4 "") (z2 "") (z3 "") (z4 "") (z4 "") (z2 "") e
noncomputable def two (a : Bool × Vars) : List Expr → Bool × Vars
 | [] => a
 | x :: r => (match r with
  | [] => a
  | y :: _ => (true, [(nm x, false), (nm y, false)]))
noncomputable def zcu (e : Expr) : Bool × Vars := exC (false, [(nm e, false)]) (z3 (false, [(nm e, false)])) (z2 (false, [(nm e, false)])) (z4 (false, [(nm e, false)])) (z4 (false, [(nm e, false)])) (z3 (false, [(nm e, false)])) (z3 (false, [(nm e, false)])) (z4 (false, [(nm e, false)])) (z4 (false, [(nm e, false)])) (z3 (false, [(nm e, false)])) (z3 (false, [(nm e, false)])) (z4 (false, [(nm e, false)])) (z2 (false, [(nm e, false)])) (fun l _ _ => two (false, []) l) (z4 (false, [(nm e, false)])) (z4 (false, [(nm e, false)])) (z2 (false, [(nm e, false)])) e
noncomputable def zbp (e : Expr) : Bool := !(zb3 e fun f l w _ => onNm f (fun _ _ => true) && (l.isEmpty && w.isEmpty))
mutual
noncomputable def chkX (sc : Scope) (vars uv : Vars) : X → Expr → Bool
 | .none, e => zhr e fun c => c == .none
 | .bool b, e => zhr e fun c => c == .bool b
 | .int i, e => zhr e fun c => c == .int i
 | .bytes b, e => zhr e fun c => c == .bytes b
 | .var i, e => zfn e fun x => zcg vars[i]? fun p => p.1 == x
 | .up i, e => zfn e fun x => zcg uv[i]? fun p => p == (x, true) && zen sc [(x, true)]
 | .gint g, e => za9 sc (zfx g) e && decide (g < 12)
 | .bin o a b, e => onBin e fun l op r => op == o.op && (chkX sc vars uv a l && chkX sc vars uv b r)
 | .cmp o a b, e => zo6 e fun l ops rs => ops == [o.op] && on1 rs fun r => chkX sc vars uv a l && chkX sc vars uv b r
 | .isNone a, e => zo6 e fun l ops rs => ops == [.Is] && on1 rs fun r => zhr r (fun c => c == .none && chkX sc vars uv a l)
 | .notNone a, e => zo6 e fun l ops rs => ops == [.IsNot] && on1 rs fun r => zhr r (fun c => c == .none && chkX sc vars uv a l)
 | .not a, e => onUn e fun o x => o == .Not && chkX sc vars uv a x
 | .and a b, e => onBo e fun o vs p => o == .And && zdt vs fun l vs => zdt vs fun r rest => chkX sc vars uv a l && cond (zbv rest) (chkX sc vars uv b r) (chkX sc vars uv b (.BoolOp .And (r :: rest) p))
 | .or a b, e => onBo e fun o vs p => o == .Or && zdt vs fun l vs => zdt vs fun r rest => chkX sc vars uv a l && cond (zbv rest) (chkX sc vars uv b r) (chkX sc vars uv b (.BoolOp .Or (r :: rest) p))
 | .ite c a b, e => onIf e fun t x y => chkX sc vars uv c t && (chkX sc vars uv a x && chkX sc vars uv b y)
 | .call g es, e => zb3 e fun f as w _ => zbv w && (za9 sc (zg0 g) f && (isFn g && (zde sc vars uv es as && decide (as.length ≤ 20))))
 | .new g es, e => zb3 e fun f as w _ => zbv w && (za9 sc (zg0 g) f && (clsIds.contains g && (zde sc vars uv es as && decide (as.length ≤ 20))))
 | .meth o m es, e => zb3 e fun f as w p => zeb f fun v n ap => zbv w && (ap.endLine == p.line && (n == zhu m && (zbp v && (chkX sc vars uv o v && (zde sc vars uv es as && decide (as.length ≤ 20))))))
 | .append o x, e => zb3 e fun f as w p => zeb f fun v n ap => zbv w && (ap.endLine == p.line && (n == "append" && (zbp v && (chkX sc vars uv o v && on1 as fun y => chkX sc vars uv x y))))
 | .extend o x, e => zb3 e fun f as w p => zeb f fun v n ap => zbv w && (ap.endLine == p.line && (n == "extend" && (zbp v && (chkX sc vars uv o v && on1 as fun y => chkX sc vars uv x y))))
 | .pop o, e => zb3 e fun f as w p => zeb f fun v n ap => zbv w && (ap.endLine == p.line && (n == "pop" && (zbp v && (chkX sc vars uv o v && zbv as))))
 | .popAt o x, e => zb3 e fun f as w p => zeb f fun v n ap => zbv w && (ap.endLine == p.line && (n == "pop" && (zbp v && (chkX sc vars uv o v && on1 as fun y => chkX sc vars uv x y))))
 | .insert o x z, e => zb3 e fun f as w p => zeb f fun v n ap => zbv w && (ap.endLine == p.line && (n == "insert" && (zbp v && (chkX sc vars uv o v && on2 as fun y u => chkX sc vars uv x y && chkX sc vars uv z u))))
 | .attr o i, e => zeb e fun v n _ => n == zae i && (decide (i < 21) && (zbp v && chkX sc vars uv o v))
 | .idx o i, e => zm5 e fun v w => chkX sc vars uv o v && chkX sc vars uv i w
 | .sliceTo o k, e => zm5 e fun v w => onSl w fun a b c => zfm a && (zfm c && zcg b fun z => chkX sc vars uv o v && chkX sc vars uv k z)
 | .slice o a b, e => zm5 e fun v w => onSl w fun l u c => zfm c && zcg l fun y => zcg u fun z => chkX sc vars uv o v && (chkX sc vars uv a y && chkX sc vars uv b z)
 | .list es, e => zq4 e fun as => zde sc vars uv es as && decide (as.length ≤ 20)
 | .tup es, e => zlm e fun as => zde sc vars uv es as && decide (as.length ≤ 20)
 | .comp x two it, e => zko e fun elt gs c _ => on1 gs fun g => zsa g fun tg iter ifs z => z == 0 && (zbv ifs && ((zcu tg).1 == two && (zmc two (zcu tg).2 tg && (cvOk sc c (zcu tg).2 && (c.kind == .function && (zia sc vars uv it iter && chkX (zgh sc c) (zcu tg).2 vars x elt))))))
 | .compIf x two it cnd, e => zko e fun elt gs c _ => on1 gs fun g => zsa g fun tg iter ifs z => z == 0 && on1 ifs fun q => (zcu tg).1 == two && (zmc two (zcu tg).2 tg && (cvOk sc c (zcu tg).2 && (c.kind == .function && (zia sc vars uv it iter && (chkX (zgh sc c) (zcu tg).2 vars x elt && chkX (zgh sc c) (zcu tg).2 vars cnd q)))))
 | .len a, e => zb3 e fun f as w _ => zbv w && on1 as fun x => za9 sc "len" f && chkX sc vars uv a x
 | .bytesOf a, e => zb3 e fun f as w _ => zbv w && on1 as fun x => za9 sc "bytes" f && chkX sc vars uv a x
 | .barr0, e => zb3 e fun f as w _ => zbv w && (zbv as && za9 sc "bytearray" f)
 | .min a b, e => zb3 e fun f as w _ => zbv w && on2 as fun x y => za9 sc "min" f && (chkX sc vars uv a x && chkX sc vars uv b y)
 | .tupOf a, e => zb3 e fun f as w _ => zbv w && on1 as fun x => za9 sc "tuple" f && chkX sc vars uv a x
 | .listOf a, e => zb3 e fun f as w _ => zbv w && on1 as fun x => za9 sc "list" f && chkX sc vars uv a x
noncomputable def zde (sc : Scope) (vars uv : Vars) : Xs → List Expr → Bool
 | .nil, es => zbv es
 | .cons x xs, es => zdt es fun e r => chkX sc vars uv x e && zde sc vars uv xs r
noncomputable def zia (sc : Scope) (vars uv : Vars) : It → Expr → Bool
 | .r1 a, e => zb3 e fun f as w _ => zbv w && on1 as fun x => za9 sc "range" f && chkX sc vars uv a x
 | .r2 a b, e => zb3 e fun f as w _ => zbv w && on2 as fun x y => za9 sc "range" f && (chkX sc vars uv a x && chkX sc vars uv b y)
 | .seq a, e => chkX sc vars uv a e
end
noncomputable def zb4 (vars : Vars) (i : Nat) (e : Expr) : Bool := zfn e fun x => zcg vars[i]? fun p => p.1 == x
noncomputable def zcx (e : Expr) : Bool := exC true (z3 false) (z2 false) (z4 false) (z4 false) (z3 false) (z3 false) (z4 false) (z4 false) (z3 false) (z3 false) (z4 false) (z2 false) (z3 false) (z4 true) (z4 false) (z2 false) e
noncomputable def znj (e : Expr) : Bool := zlm e fun _ => true
noncomputable def zb0 (sc : Scope) (v t : Expr) : Bool := zko v fun _ _ c vp => onNm t fun x p => sc.names.lookup x == some .local && (p.line == vp.line && !(c.names.any fun (n, k) => n == x && (k == .local || k == .cell)))
noncomputable def isXc : X → Bool
 | .comp .. | .compIf .. => true
 | _ => false
theorem xcE {P : X → Prop} {x : X} (h : isXc x = true) (H1 : ∀ e two it, P (.comp e two it)) (H2 : ∀ e two it c, P (.compIf e two it c)) : P x := by cases x <;> first | exact bad h | exact H1 _ _ _ | exact H2 _ _ _ _
noncomputable def ze2 (sc : Scope) (vars : Vars) : List (Option Nat) → List Expr → Bool
 | [], es => zbv es
 | none :: r, es => zdt es fun e q => zhr e fun c => onStr c fun x => decide (x.length ≤ 1000) && ze2 sc vars r q
 | some i :: r, es => zdt es fun e q => onFmt e fun e z o => z == -1 && (zfm o && (zb4 vars i e && ze2 sc vars r q))
noncomputable def tgOk (vars : Vars) : T → Expr → Bool
 | .one i, e => zb4 vars i e
 | .two i j, e => zlm e fun l => on2 l fun a c => zb4 vars i a && (zb4 vars j c && !(i == j))
noncomputable def onHnd (s : ExceptHandler) (k : Option Expr → Option Str → List Stmt → Bool) : Bool := match s with | .ExceptHandler a b c _ => k a b c
mutual
noncomputable def chkS (sc : Scope) (vars : Vars) : S → Stmt → Bool
 | .assign i e, s => zm6 s fun l v _ => on1 l fun t => zb4 vars i t && (chkX sc vars [] e v && cond (isXc e) (zb0 sc v t) (!zcx v))
 | .unpack i j e, s => zm6 s fun l v _ => on1 l fun t => zlm t fun l => on2 l fun t u => zb4 vars i t && (zb4 vars j u && (!zcx v && (!znj v && chkX sc vars [] e v)))
 | .setAttr o a e, s => zm6 s fun l v _ => on1 l fun t => zeb t fun w n _ => n == zae a && (decide (a < 21) && (!zcx v && (chkX sc vars [] o w && chkX sc vars [] e v)))
 | .setIdx o i e, s => zm6 s fun l v _ => on1 l fun t => zm5 t fun w k => !zcx v && (chkX sc vars [] o w && (chkX sc vars [] i k && chkX sc vars [] e v))
 | .aug i o e, s => zsb s fun t op v => zb4 vars i t && (op == o.op && chkX sc vars [] e v)
 | .augAttr i a o e, s => zsb s fun t op v => zeb t fun w n _ => zb4 vars i w && (n == zae a && (decide (a < 21) && (op == o.op && chkX sc vars [] e v)))
 | .expr e, s => onEx s fun v => !zcx v && chkX sc vars [] e v
 | .ret e, s => zo5 s fun o => zcg o fun v => chkX sc vars [] e v
 | .retNone, s => zo5 s fun o => zfm o
 | .ite c a b, s => onIte s fun t x y => chkX sc vars [] c t && (zi1 sc vars a x && zi1 sc vars b y)
 | .loop c b, s => zm4 s fun t x y => zbv y && (chkX sc vars [] c t && zi1 sc vars b x)
 | .each t it b, s => onFor s fun tg iter x y => zbv y && (tgOk vars t tg && (zia sc vars [] it iter && zi1 sc vars b x))
 | .raise ps, s => onRaise s fun a b => zfm b && zcg a fun e => zb3 e fun f as w _ => zbv w && on1 as fun j => zq5 j fun es => za9 sc "BadOption" f && (ze2 sc vars ps es && (decide (2 ≤ es.length) && decide (es.length ≤ 20)))
 | .tryBad e, s => onTry s fun a b c d => zbv c && (zbv d && on1 a fun st => onEx st fun v => on1 b fun h => onHnd h fun o n bd => zfm n && zcg o fun t => on1 bd fun st => zo5 st fun o => zcg o fun w => zhr w fun c => c == .bool true && (za9 sc "BadOption" t && (!zcx v && chkX sc vars [] e v)))
 | .dead, _ => true
noncomputable def zi1 (sc : Scope) (vars : Vars) : Ss → List Stmt → Bool
 | .nil, ss => zbv ss
 | .cons s r, ss => zdt ss fun x q => chkS sc vars s x && zi1 sc vars r q
end
section
variable {sc : Scope} {vars uv : Vars}
theorem zdy {x : X} {y : Expr} (h : chkX sc vars uv x y = true) : zde sc vars uv (.cons x .nil) [y] = true := by
 show (chkX sc vars uv x y && true) = true
 rw [h]; rfl
theorem zj3 {x z : X} {y w : Expr} (h : chkX sc vars uv x y = true) (h' : chkX sc vars uv z w = true) : zde sc vars uv (.cons x (.cons z .nil)) [y, w] = true := by
 show (chkX sc vars uv x y && (chkX sc vars uv z w && true)) = true
 rw [h, h']; rfl
theorem zdv {α : Type} {o : Option α} {k : α → Bool} (h : zcg o k = true) : ∃ x, o = some x ∧ k x = true := by
 cases o with
 | none => exact bad h
 | some x => exact ⟨x, rfl, h⟩
end
noncomputable def CV (sc c : Scope) (tg : Expr) (two : Bool) (vs : Vars) : Prop := zmc two vs tg = true ∧ cvOk sc c vs = true
noncomputable def zpw (f : Fn) (fd : FuncData) : Bool :=
 fd.globals == mainGlobals && fd.closure.isEmpty && fd.builtins == builtinsNs && fd.scope.kind == .function && !fd.scope.isGenerator && !fd.scope.isCoroutine && zen fd.scope f.vars &&
 fd.params.posonlyargs.isEmpty && fd.params.vararg.isNone && fd.params.kwonlyargs.isEmpty && fd.params.kwarg.isNone && fd.params.args.map (·.arg) == (f.vars.take f.np).map (·.1) && f.np ≤ f.vars.length &&
 (match fd.body with | .stmts b => zi1 fd.scope f.vars f.body b | _ => false) && fd.params.kw_defaults.isEmpty && (f.vars.map (·.1)).eraseDups.length == f.vars.length
end
section
structure ClsOk (K : Frag) (fa : Nat → Addr) (g : Nat) : Prop where
 hga : findIn K (.ref (fa g)) "__getattribute__" = some (some (.builtin "object.__getattribute__"))
 hk : findIn K (.ref (fa g)) "__getattr__" = some none
 hs : findIn K (.ref (fa g)) "__setattr__" = some (some (.builtin "object.__setattr__"))
 attr : ∀ i, i < 21 → findIn K (.ref (fa g)) (zae i) = some none
 over : plainOver K (fa g) = true
 dict : (clsIn K (fa g)).any (·.hasDict) = true
 makes : makesIn K (fa g) = true
 ini : ∀ f, ini g = some f → findIn K (.ref (fa g)) "__init__" = some (some (.ref (fa f))) ∧ typeIn K (.ref (fa f)) = some (.type "function")
 mth : ∀ m f, mth g m = some f → findIn K (.ref (fa g)) (zhu m) = some (some (.ref (fa f))) ∧ typeIn K (.ref (fa f)) = some (.type "function")
structure Pre (W : Wd) : Prop where
 X : W.K.In W.h₀
 T : Ex4 fun p loose mg mb => TopRead p loose mg mb W.h₀
 glob : ∀ g, (isFn g || clsIds.contains g || g == 5) = true → nsIn W.K mainGlobals (zg0 g) = some (some (.ref (W.fa g)))
 gint : ∀ g, g < 12 → ∃ t, nsIn W.K mainGlobals (zfx g) = some (some (.int (gval g) t))
 blt : ∀ x : Str, x = "len" ∨ x = "bytes" ∨ x = "bytearray" ∨ x = "min" ∨ x = "tuple" ∨ x = "list" ∨ x = "range" → nsIn W.K mainGlobals x = some none
 fn : ∀ g f, tab g = some f → Ex4 fun oc od osl fd => A4 (W.K.lookup (W.fa g) = some ⟨oc, od, .func fd, osl⟩) (zpw f fd = true) (codeIn W.K fd.code fd.qualname = true) ((f.dflt = [] ∧ fd.defaults = .none ∨ Ex3 fun a i t => A4 (fd.defaults = .ref a) (IsTup W.h₀ a #[.int i t]) (f.dflt = [.int i]) (f.np ≠ 0)))
 nolimit : W.h₀.NoLimit
 cls : ∀ g, clsIds.contains g = true → ClsOk W.K W.fa g
 bad : Ex4 fun B newId initId bm => ExcBaseFacts B newId initId bm ∧ excIn W.K (W.fa 5) bm newId = true
structure EnvOk (sc : Scope) (env : Env) : Prop where
 scope : env.scope = sc
 kind : sc.kind = .function
 glob : env.globals = mainGlobals
 blt : env.builtins = builtinsNs
structure RdF (env : Env) (vars : Vars) (ρ : Loc) (uv : Vars) (υ : Loc) (F : Led) : Prop where
 loc : ∀ (i : Nat) (x : Str) (v : Va), vars[i]? = some (x, false) → ρ[i]? = some (some v) → ∃ ns, (env.locals, .frame ns) ∈ F ∧ (x, some v) ∈ ns
 cel : ∀ (i : Nat) (x : Str) (v : Va), vars[i]? = some (x, true) → ρ[i]? = some (some v) → ∃ a, env.cells.lookup x = some a ∧ (a, .cell (some v)) ∈ F
 up : ∀ (i : Nat) (x : Str) (v : Va), uv[i]? = some (x, true) → υ[i]? = some (some v) → env.kindOf x = some .cell → ∃ a, env.cells.lookup x = some a ∧ (a, .cell (some v)) ∈ F
noncomputable def zub (r : Nat) (A : Around) : Prop := A.depth + 1 + 2 * r < 900 ∧ A.units + 6 + 10 * r < 9000
structure Here (W : Wd) (A : Around) (sc : Scope) (env : Env) (vars : Vars) (ρ : Loc) (uv : Vars) (υ : Loc) (F : Led) (r : Nat) : Prop where
 pre : Pre W
 eok : EnvOk sc env
 vok : zen sc vars = true
 rd : RdF env vars ρ uv υ F
 room : zub r A
 apart : ∀ fr, A.frames = some fr → ∀ e ∈ fr, ∀ L, e.frame = some L → ∃ ns, (L, Ob.frame ns) ∈ F
 lo : ∃ L, env.frame = some L ∧ ∃ ns, (L, Ob.frame ns) ∈ F
 top : Ex2 fun e fr => A.frames = some (e :: fr) ∧ e.frame = env.frame
 nd : (vars.map (·.1)).Nodup
 cok : ∀ x, sc.names.lookup x = some .cell → ∃ a, env.cells.lookup x = some a
noncomputable def zl2 (W : Wd) (lo : Option Addr) (v : Value) (h : Heap) : Prop := Ex2 fun ex a0 => A3 (v = .ref ex) (W.h₀.get? ex = none) (((Ex2 fun oe vs => A5 (h.get? ex = some oe) (oe.cls = .ref (W.fa 5)) (oe.data = .fields vs) (vs[0]? = some a0) (vs[1]? = some .none)) ∨
  ∃ fl, (fl = .none ∨ ∃ L, lo = some L ∧ fl = rawInt L) ∧ h.TracedAtW W.h₀ ex (.ref (W.fa 5)) a0 fl))
inductive VP (W : Wd) (F : Led) (s₀ : Shared) (Q : QP) (v : Value) (s' : Shared) : Prop
 | mk (mv : Va) (σ' : Sto) : Rv s'.heap mv v → St W F σ' s' → Evo s₀.heap s'.heap → Q mv σ' → VP W F s₀ Q v s'
inductive VPs (W : Wd) (F : Led) (s₀ : Shared) (n : Nat) (Q : List Va → Sto → Prop) (v : List Value) (s' : Shared) : Prop
 | mk (mv : List Va) (σ' : Sto) : RvL s'.heap mv v → St W F σ' s' → Evo s₀.heap s'.heap → Q mv σ' → mv.length = n → VPs W F s₀ n Q v s'
inductive TP (W : Wd) (F : Led) (s₀ : Shared) (Q : QP) (b : Bool) (s' : Shared) : Prop
 | mk (σ' : Sto) : St W F σ' s' → Evo s₀.heap s'.heap → Q (.bool b) σ' → TP W F s₀ Q b s'
inductive EP (W : Wd) (F : Led) (lo : Option Addr) (s₀ : Shared) (B : BP) (v : Value) (s' : Shared) : Prop
 | mk (σ' : Sto) : zl2 W lo v s'.heap → St W F σ' s' → Evo s₀.heap s'.heap → B σ' → EP W F lo s₀ B v s'
section
variable {W : Wd} {F : Led} {A : Around} {σ : Sto} {s s₀ s₁ s₂ : Shared} {Q : QP} {B : BP} {lo : Option Addr} {v : Value} {b : Bool}
theorem VP.from (x : VP W F s₁ Q v s₂) (k : Evo s₀.heap s₁.heap) : VP W F s₀ Q v s₂ := let ⟨mv, σ', a, b, c, d⟩ := x; ⟨mv, σ', a, b, k.trans c, d⟩
theorem TP.from (x : TP W F s₁ Q b s₂) (k : Evo s₀.heap s₁.heap) : TP W F s₀ Q b s₂ := let ⟨σ', b, c, d⟩ := x; ⟨σ', b, k.trans c, d⟩
theorem EP.from (x : EP W F lo s₁ B v s₂) (k : Evo s₀.heap s₁.heap) : EP W F lo s₀ B v s₂ := let ⟨σ', a, b, c, d⟩ := x; ⟨σ', a, b, k.trans c, d⟩
theorem VP.of_reck {s' : Shared} (S : St W F σ s) (k : Evo s₀.heap s.heap) (h : Reck s (fun v => Q v σ) v s') : VP W F s₀ Q v s' := by
 obtain ⟨a, b, c, mv, r, q⟩ := h
 exact ⟨mv, σ, a ▸ r, S.same a b c, a ▸ k, q⟩
theorem VP.now {mv : Va} (S : St W F σ s) (r : Rv s.heap mv v) (q : Q mv σ) : VP W F s Q v s := ⟨mv, σ, r, S, Evo.refl _, q⟩
theorem VP.tok {mv : Va} {n : Nat} (S : St W F σ s) (r : Rv s.heap mv v) (q : Q mv σ) : VP W F s Q v { s with toks := n } := ⟨mv, σ, r, S.same rfl rfl rfl, Evo.refl _, q⟩
end
section
variable (W : Wd) (C : Orc) (A : Around) (env : Env) (ρ υ : Loc) (F : Led)
noncomputable def SX (x : X) (e : Expr) : Prop := ∀ σ s B Q, Ctx W A s.heap → St W F σ s → wpX C B ρ υ x σ Q → wc W.M A (eval e env) (VP W F s Q) (EP W F env.frame s B) s
noncomputable def SB (x : X) (e : Expr) : Prop := ∀ σ s B Q, (∀ v σ, Q v σ → ∃ b, v = .bool b) → Ctx W A s.heap → St W F σ s → wpX C B ρ υ x σ Q → wc W.M A (isTrue e env (eval e env)) (TP W F s Q) (EP W F env.frame s B) s
end
section
variable {W : Wd} {C : Orc} {A : Around} {sc : Scope} {env : Env} {vars uv : Vars} {ρ υ : Loc} {F : Led} {r : Nat}
noncomputable def isNot (o : UnaryOp) : Bool := match o with
 | .Not => true
 | _ => false
noncomputable def zjp (e : Expr) : Bool := exC false (z3 false) (z2 false) (z4 false) (z4 true) (fun o _ _ => isNot o) (z3 true) (z4 true) (z4 false) (z3 false) (z3 false) (z4 false) (z2 false) (z3 false) (z4 false) (z4 false) (z2 false) e
set_option tactic.hygienic true in
theorem ziu {e : Expr} (h : zjp e = false) (env : Env) (t : Sem Value) : isTrue e env t = (do let v ← t; standAt e.pos; holding [v] (truthy v)) := by
 cases e <;> first | rfl | cases h | skip
 rename_i op x p
 cases op <;> first | rfl | cases h
theorem SB.of_plain {x : X} {e : Expr} (h : SX W C A env ρ υ F x e) (ho : zjp e = false) : SB W C A env ρ υ F x e := fun σ s B Q hb c st q => by
 rw [ziu ho]
 refine zab (zaa (h σ s B Q c st q) (fun v s' ⟨mv, σ', a, b, k, d⟩ => ?_) fun _ _ z => z)
 obtain ⟨t, rfl⟩ := hb _ _ d
 have e := zds a
 subst e
 exact zag (zam (zah (wpAny_truthy_bool ⟨σ', b, k, d⟩)))
theorem zrq {c : Nat} {p : Pos} : SX W C A env ρ υ F .none (.Constant .none c p) := fun σ s B Q _ S q => zaj (VP.now S (by simp only [Rv]) q)
theorem zrw {b : Bool} {c : Nat} {p : Pos} : SX W C A env ρ υ F (.bool b) (.Constant (.bool b) c p) := fun σ s B Q _ S q => zaj (VP.now S (by simp only [Rv]) q)
theorem sx_int {i : Int} {c : Nat} {p : Pos} : SX W C A env ρ υ F (.int i) (.Constant (.int i) c p) := fun σ s B Q _ S q => zah (wpAny_Constant_int (VP.tok S (by simp only [Rv]; exact ⟨_, rfl⟩) q))
theorem zo0 {b : List UInt8} {c : Nat} {p : Pos} : SX W C A env ρ υ F (.bytes b) (.Constant (.bytes b) c p) := fun σ s B Q _ S q Γ p hΓ _ _ =>
 (VP.tok (n := s.toks + 1) S (by simp only [Rv]; exact ⟨_, rfl⟩) q : VP W F s Q (.bytes b.toArray s.toks) { s with toks := s.toks + 1 })
theorem zdd {ρ : Loc} {i : Nat} {k : Va → Prop} (h : getV ρ i k) : ∃ v, ρ[i]? = some (some v) ∧ k v := by
 unfold getV at h
 split at h
 ·exact ⟨_, by assumption, h⟩
 ·exact h.elim
theorem zbm {vars : Vars} {i : Nat} {x : Str} {c : Bool} (h : zen sc vars = true) (e : vars[i]? = some (x, c)) : sc.names.lookup x = some (if c then .cell else .local) ∧ (x == ("__debug__" : Str)) = false := by
 have := List.all_eq_true.mp h (x, c) (List.mem_of_getElem? e)
 simp only [Bool.and_eq_true, beq_iff_eq, Bool.not_eq_true'] at this
 exact this
theorem zqy {i : Nat} {x : Str} {c : Bool} {p : Pos} (H : Here W A sc env vars ρ uv υ F r) (hv : vars[i]? = some (x, c)) : SX W C A env ρ υ F (.var i) (.Name x p) := fun σ s B Q _ S q => by
 obtain ⟨v, hρ, hq⟩ := zdd (show getV ρ i (fun v => Q v σ) from q)
 obtain ⟨hk, hd⟩ := zbm H.vok hv
 rw [← H.eok.scope] at hk
 cases c with
 | false =>
  obtain ⟨ns, hm, hx⟩ := H.rd.loc i x v hv hρ
  obtain ⟨m, hn, z⟩ := S.frame hm
  obtain ⟨u, e1, e2⟩ := z x v hx
  exact zah (wpAny_Name (wpAny_loadName_local (H.eok.scope ▸ H.eok.kind) hk hn e1 (VP.now S e2 hq)) hd)
 | true =>
  obtain ⟨a, ha, hm⟩ := H.rd.cel i x v hv hρ
  obtain ⟨u, ho, z⟩ := S.frame hm
  obtain ⟨y, rfl, e2⟩ := z v rfl
  exact zah (wpAny_Name (wpAny_loadName_cell (H.eok.scope ▸ H.eok.kind) hk ha ho (VP.now S e2 hq)) hd)
theorem sx_up {i : Nat} {x : Str} {p : Pos} (H : Here W A sc env vars ρ uv υ F r) (hv : uv[i]? = some (x, true)) (hk : zen sc [(x, true)] = true) : SX W C A env ρ υ F (.up i) (.Name x p) := fun σ s B Q _ S q => by
 obtain ⟨v, hρ, hq⟩ := zdd (show getV υ i (fun v => Q v σ) from q)
 obtain ⟨hk, hd⟩ := zbm (i := 0) hk rfl
 rw [← H.eok.scope] at hk
 obtain ⟨a, ha, hm⟩ := H.rd.up i x v hv hρ hk
 obtain ⟨u, ho, z⟩ := S.frame hm
 obtain ⟨y, rfl, e2⟩ := z v rfl
 exact zah (wpAny_Name (wpAny_loadName_cell (H.eok.scope ▸ H.eok.kind) hk ha ho (VP.now S e2 hq)) hd)
theorem zcw {x : Str} {f : Expr} (h : za9 sc x f = true) : ∃ p, A3 (f = .Name x p) (sc.names.lookup x = some .globalImplicit) ((x == ("__debug__" : Str)) = false) := by
 refine zjs (P := fun f => ∃ p, A3 (f = .Name x p) _ _) h fun id p h => andE h fun h0 h => andE h fun h1 h2 => ?_
 obtain rfl := beq_iff_eq.mp h0
 exact ⟨p, rfl, beq_iff_eq.mp h1, by simpa using h2⟩
theorem zgd {x : Str} {f : Expr} {v : Value} {s : Shared} {σ : Sto} {Q : Value → Shared → Prop} {E : Value → Shared → Prop} (H : Here W A sc env vars ρ uv υ F r) (S : St W F σ s) (hf : za9 sc x f = true)
  (e : nsIn W.K mainGlobals x = some (some v)) (h : Q v s) : wpAny W.M A (eval f env) Q E s := by
 obtain ⟨p, rfl, h1, h2⟩ := zcw hf
 obtain ⟨pr, loose, mg, mb, T⟩ := H.pre.T
 rw [← H.eok.scope] at h1
 exact Name_function_global (H.eok.scope ▸ H.eok.kind) h1 (loadGlobal_global (env := env) (by rw [H.eok.glob]; exact T.g.keeps S.keep) (mg_of H.pre.X T.g e) h) h2
theorem zc5 {x : Str} {f : Expr} {v : Value} {s : Shared} {σ : Sto} {Q : Value → Shared → Prop} {E : Value → Shared → Prop} (H : Here W A sc env vars ρ uv υ F r) (S : St W F σ s) (hf : za9 sc x f = true)
  (e : nsIn W.K mainGlobals x = some none) (hv : bootBuiltins x = some v) (hn : x ≠ "__name__") (h : Q v s) : wpAny W.M A (eval f env) Q E s := by
 obtain ⟨p, rfl, h1, h2⟩ := zcw hf
 obtain ⟨pr, loose, mg, mb, T⟩ := H.pre.T
 rw [← H.eok.scope] at h1
 exact Name_function_global (H.eok.scope ▸ H.eok.kind) h1 (loadGlobal_builtin (env := env) (by rw [H.eok.glob]; exact T.g.keeps S.keep) (mg_none_of H.pre.X T.g e) (by rw [H.eok.blt]; exact T.b.keeps S.keep) ((T.builtins x hn).trans hv) h) h2
theorem zrt {g : Nat} {f : Expr} (H : Here W A sc env vars ρ uv υ F r) (hf : za9 sc (zfx g) f = true) (hg : g < 12) : SX W C A env ρ υ F (.gint g) f := fun σ s B Q _ S q => by
 obtain ⟨t, e⟩ := H.pre.gint g hg
 exact zah (zgd H S hf e (VP.now S (by simp only [Rv]; exact ⟨t, rfl⟩) q))
theorem sx_bin {o : BOp} {a b : X} {l rr : Expr} {p : Pos} (ha : SX W C A env ρ υ F a l) (hb : SX W C A env ρ υ F b rr) : SX W C A env ρ υ F (.bin o a b) (.BinOp l o.op rr p) := fun σ s B Q c S q => by
 show wc _ _ (do let a ← eval l env; let b ← holding [a] (eval rr env); standAt p; operate [a, b] (binaryOp o.op a b)) _ _ _
 refine zab (zaa (ha σ s B _ c S q) (fun va s1 ⟨ma, σ1, r1, S1, k1, q1⟩ => ?_) fun _ _ z => z)
 refine zab (zam (zaa (hb σ1 s1 B _ (c.evo k1) S1 q1) (fun vb s2 ⟨mb, σ2, r2, S2, k2, q2⟩ => ?_) fun _ _ z => z.from k1))
 exact zag (zda (zah (wpAny_mono (zt6 (r1.evo k2) r2 q2) (fun v s3 h => VP.of_reck S2 (k1.trans k2) h) fun _ _ z => z)))
theorem Here.units (H : Here W A sc env vars ρ uv υ F r) : A.units + 100 < cLine := by
 have := H.room.2
 show A.units + 100 < 9900
 exact Nat.add_lt_add_right (Nat.lt_of_lt_of_le (Nat.lt_of_le_of_lt (Nat.le_add_right _ _) (Nat.lt_of_le_of_lt (Nat.le_add_right _ _) this)) (by decide)) 100
theorem zjc {op : CmpOp} (h : (op == .In || op == .NotIn) = false) (e : Expr) : behindInMarks op e = false := by
 cases e <;> first | rfl | skip
 show (_ && (op == .In || op == .NotIn) && _) = false
 rw [h, Bool.and_false]; rfl
theorem zhc {o : COp} {e : Expr} {t : Sem Value} : markedBehindIn o.op e t = t := markedBehindIn_of_false (zjc (by cases o <;> rfl) e)
theorem zir {op : CmpOp} {e : Expr} {t : Sem Value} (h : op = .Is ∨ op = .IsNot) : markedBehindIn op e t = t := markedBehindIn_of_false (zjc (by rcases h with rfl | rfl <;> rfl) e)
theorem zk0 {o : COp} {a b : X} {l rr : Expr} (ha : SX W C A env ρ υ F a l) (hb : SX W C A env ρ υ F b rr) (hu : A.units + 100 < cLine) {σ : Sto} {s : Shared} {B : BP} {k : Bool → Sto → Prop} (c : Ctx W A s.heap) (S : St W F σ s)
  (q : wpX C B ρ υ a σ fun va σ => wpX C B ρ υ b σ fun vb σ => cmpW o va vb fun v => k v σ) {p : Pos} :
  wc W.M A (do let a ← eval l env; let b ← holding [a] (eval rr env); standAt p; operate [a, b] (compareOp o.op a b)) (VP W F s fun v σ => isB (fun b => k b σ) v) (EP W F env.frame s B) s := by
 refine zab (zaa (ha σ s B _ c S q) (fun va s1 ⟨ma, σ1, r1, S1, k1, q1⟩ => ?_) fun _ _ z => z)
 refine zab (zam (zaa (hb σ1 s1 B _ (c.evo k1) S1 q1) (fun vb s2 ⟨mb, σ2, r2, S2, k2, q2⟩ => ?_) fun _ _ z => z.from k1))
 exact zag (zda (zah (wpAny_mono (zsm hu (r1.evo k2) r2 q2) (fun v s3 h => VP.of_reck S2 (k1.trans k2) h) fun _ _ z => z)))
theorem zkx {k : Bool → Prop} {v : Va} (h : isB k v) : ∃ b, v = .bool b ∧ k b := by cases v <;> first | exact h.elim | exact ⟨_, rfl, h⟩
theorem zpn {o : COp} {l rr : Expr} {p : Pos} : eval (.Compare l [o.op] [rr] p) env = (do let a ← eval l env; let b ← holding [a] (eval rr env); standAt p; operate [a, b] (compareOp o.op a b)) := by
 show (eval l env >>= fun a => compareChain p a [o.op] (markedEach [o.op] [rr] (evalEach [rr] env))) = _
 rw [show markedEach [o.op] [rr] (evalEach [rr] env) = [eval rr env] from congrArg (fun t => [t]) zhc]
 rfl
theorem zow {o : COp} {l rr : Expr} {p : Pos} {t : Sem Value} : isTrue (.Compare l [o.op] [rr] p) env t = (do let v ← (do let a ← eval l env; let b ← holding [a] (eval rr env); standAt p; operate [a, b] (compareOp o.op a b)); holding [v] (truthy v)) := by
 show (eval l env >>= fun a => testChain p a [o.op] (markedEach [o.op] [rr] (evalEach [rr] env))) = _
 rw [show markedEach [o.op] [rr] (evalEach [rr] env) = [eval rr env] from congrArg (fun t => [t]) zhc]
 show (eval l env >>= fun a => holding [a] (eval rr env) >>= fun b => standAt p >>= fun _ => operate [a, b] (compareOp o.op a b) >>= fun c => holding [c] (truthy c)) = _
 simp only [bind_assoc]
theorem sx_cmp {o : COp} {a b : X} {l rr : Expr} {p : Pos} (hu : A.units + 100 < cLine) (ha : SX W C A env ρ υ F a l) (hb : SX W C A env ρ υ F b rr) : SX W C A env ρ υ F (.cmp o a b) (.Compare l [o.op] [rr] p) := fun σ s B Q c S q => by
 rw [zpn]
 refine zaa (zk0 (k := fun b σ => Q (.bool b) σ) ha hb hu c S q) (fun v s' ⟨mv, σ', a1, a2, a3, a4⟩ => ?_) fun _ _ z => z
 obtain ⟨t, rfl, h⟩ := zkx a4
 exact ⟨_, σ', a1, a2, a3, h⟩
theorem sb_cmp {o : COp} {a b : X} {l rr : Expr} {p : Pos} (hu : A.units + 100 < cLine) (ha : SX W C A env ρ υ F a l) (hb : SX W C A env ρ υ F b rr) : SB W C A env ρ υ F (.cmp o a b) (.Compare l [o.op] [rr] p) := fun σ s B Q _ c S q => by
 rw [zow]
 refine zab (zaa (zk0 (k := fun b σ => Q (.bool b) σ) ha hb hu c S q) (fun v s' ⟨mv, σ', a1, a2, a3, a4⟩ => ?_) fun _ _ z => z)
 obtain ⟨t, rfl, h⟩ := zkx a4
 have e := zds a1
 subst e
 exact zam (zah (wpAny_truthy_bool ⟨σ', a2, a3, h⟩))
theorem sx_not {a : X} {e : Expr} {p : Pos} (ha : SX W C A env ρ υ F a e) : SX W C A env ρ υ F (.not a) (.UnaryOp .Not e p) := fun σ s B Q c S q => by
 show wc _ _ (do let v ← eval e env; standAt p; holding [v] (unaryOp .Not v)) _ _ _
 refine zab (zaa (ha σ s B _ c S q) (fun va s1 ⟨ma, σ1, r1, S1, k1, q1⟩ => ?_) fun _ _ z => z)
 cases ma <;> first | exact q1.elim | skip
 have e := zds r1
 subst e
 refine zag (zam (zah ?_))
 unfold unaryOp
 refine wpAny_holding ?_
 exact wpAny_bind (wpAny_truthy_bool (wpAny_pure ⟨_, σ1, by simp only [Rv], S1, k1, q1⟩))
theorem sb_not {a : X} {e : Expr} {p : Pos} (ha : SB W C A env ρ υ F a e) : SB W C A env ρ υ F (.not a) (.UnaryOp .Not e p) := fun σ s B Q hb c S q => by
 show wc _ _ (do return !(← isTrue e env (eval e env))) _ _ _
 refine zab (zaa (ha σ s B (fun v σ => notW v fun w => Q w σ) (fun v σ h => ?_) c S q) (fun b s1 ⟨σ1, S1, k1, q1⟩ => zaj ⟨σ1, S1, k1, q1⟩) fun _ _ z => z)
 cases v <;> first | exact h.elim | exact ⟨_, rfl⟩
set_option tactic.hygienic true in
theorem zbt {v : Va} {p q : Prop} (h : andW v p q) : ∃ b, A3 (v = .bool b) ((b = true → p)) ((b = false → q)) := by
 cases v <;> first | exact h.elim | skip
 rename_i b
 cases b
 ·exact ⟨_, rfl, (nomatch ·), fun _ => by simpa [andW] using h⟩
 ·exact ⟨_, rfl, fun _ => by simpa [andW] using h, (nomatch ·)⟩
theorem zgt (p : Pos) (op : BoolOp) (x y : Sem Value) (rest : List (Sem Value)) : boolOp p op (x :: y :: rest) = (do
  let v ← x
  standAt p
  let t ← holding [v] (truthy v)
  match op, t with
  | .And, false | .Or, true => pure v
  | _, _ => boolOp p op (y :: rest)) := by
 cases op <;> rfl
theorem zqz {a b : X} {l rr : Expr} {rest : List Expr} {p : Pos} (ha : SX W C A env ρ υ F a l) (hb : ∀ σ s B Q, Ctx W A s.heap → St W F σ s → wpX C B ρ υ b σ Q → wc W.M A (boolOp p .And (evalEach (rr :: rest) env)) (VP W F s Q) (EP W F env.frame s B) s) :
  SX W C A env ρ υ F (.and a b) (.BoolOp .And (l :: rr :: rest) p) := fun σ s B Q c S q => by
 show wc _ _ (boolOp p .And (eval l env :: eval rr env :: evalEach rest env)) _ _ _
 rw [zgt]
 refine zab (zaa (ha σ s B _ c S q) (fun va s1 ⟨ma, σ1, r1, S1, k1, q1⟩ => ?_) fun _ _ z => z)
 obtain ⟨t, rfl, h1, h2⟩ := zbt q1
 have e := zds r1
 subst e
 refine zag (zab (zam (zah (wpAny_truthy_bool ?_))))
 cases t with
 | false => exact zaj ⟨_, σ1, r1, S1, k1, h2 rfl⟩
 | true => exact zaa (hb σ1 s1 B Q (c.evo k1) S1 (h1 rfl)) (fun _ _ z => z.from k1) fun _ _ z => z.from k1
theorem sx_or {a b : X} {l rr : Expr} {rest : List Expr} {p : Pos} (ha : SX W C A env ρ υ F a l) (hb : ∀ σ s B Q, Ctx W A s.heap → St W F σ s → wpX C B ρ υ b σ Q → wc W.M A (boolOp p .Or (evalEach (rr :: rest) env)) (VP W F s Q) (EP W F env.frame s B) s) :
  SX W C A env ρ υ F (.or a b) (.BoolOp .Or (l :: rr :: rest) p) := fun σ s B Q c S q => by
 show wc _ _ (boolOp p .Or (eval l env :: eval rr env :: evalEach rest env)) _ _ _
 rw [zgt]
 refine zab (zaa (ha σ s B _ c S q) (fun va s1 ⟨ma, σ1, r1, S1, k1, q1⟩ => ?_) fun _ _ z => z)
 obtain ⟨t, rfl, h1, h2⟩ := zbt q1
 have e := zds r1
 subst e
 refine zag (zab (zam (zah (wpAny_truthy_bool ?_))))
 cases t with
 | true => exact zaj ⟨_, σ1, r1, S1, k1, h1 rfl⟩
 | false => exact zaa (hb σ1 s1 B Q (c.evo k1) S1 (h2 rfl)) (fun _ _ z => z.from k1) fun _ _ z => z.from k1
theorem zq3 {a b : X} {l rr : Expr} {rest : List Expr} {p : Pos} (ha : SB W C A env ρ υ F a l) (hb : ∀ σ s B Q, (∀ v σ, Q v σ → ∃ b, v = .bool b) → Ctx W A s.heap → St W F σ s → wpX C B ρ υ b σ Q → wc W.M A (allTrue .And (rr :: rest) env) (TP W F s Q) (EP W F env.frame s B) s) :
  SB W C A env ρ υ F (.and a b) (.BoolOp .And (l :: rr :: rest) p) := fun σ s B Q hq c S q => by
 show wc _ _ (do match BoolOp.And, ← isTrue l env (eval l env) with
  | .And, false => pure false
  | .Or, true => pure true
  | _, _ => allTrue .And (rr :: rest) env) _ _ _
 refine zab (zaa (ha σ s B _ (fun v σ h => let ⟨b, e, _, _⟩ := zbt h; ⟨b, e⟩) c S q) (fun t s1 ⟨σ1, S1, k1, q1⟩ => ?_) fun _ _ z => z)
 cases t with
 | false => exact zaj ⟨σ1, S1, k1, q1⟩
 | true => exact zaa (hb σ1 s1 B Q hq (c.evo k1) S1 q1) (fun _ _ z => z.from k1) fun _ _ z => z.from k1
theorem sb_or {a b : X} {l rr : Expr} {rest : List Expr} {p : Pos} (ha : SB W C A env ρ υ F a l) (hb : ∀ σ s B Q, (∀ v σ, Q v σ → ∃ b, v = .bool b) → Ctx W A s.heap → St W F σ s → wpX C B ρ υ b σ Q → wc W.M A (allTrue .Or (rr :: rest) env) (TP W F s Q) (EP W F env.frame s B) s) :
  SB W C A env ρ υ F (.or a b) (.BoolOp .Or (l :: rr :: rest) p) := fun σ s B Q hq c S q => by
 show wc _ _ (do match BoolOp.Or, ← isTrue l env (eval l env) with
  | .And, false => pure false
  | .Or, true => pure true
  | _, _ => allTrue .Or (rr :: rest) env) _ _ _
 refine zab (zaa (ha σ s B _ (fun v σ h => let ⟨b, e, _, _⟩ := zbt h; ⟨b, e⟩) c S q) (fun t s1 ⟨σ1, S1, k1, q1⟩ => ?_) fun _ _ z => z)
 cases t with
 | true => exact zaj ⟨σ1, S1, k1, q1⟩
 | false => exact zaa (hb σ1 s1 B Q hq (c.evo k1) S1 q1) (fun _ _ z => z.from k1) fun _ _ z => z.from k1
theorem zfr {op : BoolOp} {x : X} {e : Expr} (h : SB W C A env ρ υ F x e) : ∀ σ s B Q, (∀ v σ, Q v σ → ∃ b, v = .bool b) → Ctx W A s.heap → St W F σ s → wpX C B ρ υ x σ Q → wc W.M A (allTrue op [e] env) (TP W F s Q) (EP W F env.frame s B) s := fun σ s B Q hq c S q => by
 show wc _ _ (do match op, ← isTrue e env (eval e env) with
  | .And, false => pure false
  | .Or, true => pure true
  | _, _ => allTrue op [] env) _ _ _
 refine zab (zaa (h σ s B Q hq c S q) (fun t s1 z => ?_) fun _ _ z => z)
 cases op <;> cases t <;> exact zaj z
theorem sx_ite {c a b : X} {t x y : Expr} {p : Pos} (hc : SB W C A env ρ υ F c t) (ha : SX W C A env ρ υ F a x) (hb : SX W C A env ρ υ F b y) : SX W C A env ρ υ F (.ite c a b) (.IfExp t x y p) := fun σ s B Q cx S q => by
 show wc _ _ (do if ← isTrue t env (eval t env) then eval x env else eval y env) _ _ _
 refine zab (zaa (hc σ s B _ (fun v σ h => let ⟨b, e, _, _⟩ := zbt h; ⟨b, e⟩) cx S q) (fun t s1 ⟨σ1, S1, k1, q1⟩ => ?_) fun _ _ z => z)
 cases t with
 | true => exact zaa (ha σ1 s1 B Q (cx.evo k1) S1 q1) (fun _ _ z => z.from k1) fun _ _ z => z.from k1
 | false => exact zaa (hb σ1 s1 B Q (cx.evo k1) S1 q1) (fun _ _ z => z.from k1) fun _ _ z => z.from k1
theorem sb_ite {c a b : X} {t x y : Expr} {p : Pos} (hc : SB W C A env ρ υ F c t) (ha : SB W C A env ρ υ F a x) (hb : SB W C A env ρ υ F b y) : SB W C A env ρ υ F (.ite c a b) (.IfExp t x y p) := fun σ s B Q hq cx S q => by
 show wc _ _ (do if ← isTrue t env (eval t env) then isTrue x env (eval x env) else isTrue y env (eval y env)) _ _ _
 refine zab (zaa (hc σ s B _ (fun v σ h => let ⟨b, e, _, _⟩ := zbt h; ⟨b, e⟩) cx S q) (fun t s1 ⟨σ1, S1, k1, q1⟩ => ?_) fun _ _ z => z)
 cases t with
 | true => exact zaa (ha σ1 s1 B Q hq (cx.evo k1) S1 q1) (fun _ _ z => z.from k1) fun _ _ z => z.from k1
 | false => exact zaa (hb σ1 s1 B Q hq (cx.evo k1) S1 q1) (fun _ _ z => z.from k1) fun _ _ z => z.from k1
end
end
section
theorem zfq {i j : Nat} (hi : i < 21) (h : zae j = zae i) : j = i := by
 by_cases hj : j < 21
 ·have key : ((List.range 21).all fun i => (List.range 21).all fun j => !(zae j == zae i) || j == i) = true := by decide +kernel
  have := List.all_eq_true.mp (List.all_eq_true.mp key i (List.mem_range.mpr hi)) j (List.mem_range.mpr hj)
  rw [h] at this
  simpa using this
 ·exfalso
  have e : zae j = ("?" : Str) := by
   unfold zae
   rw [List.getD_eq_getElem?_getD, List.getElem?_eq_none (Nat.not_lt.mp hj)]; rfl
  rw [e] at h
  have key : ((List.range 21).all fun i => !(("?" : Str) == zae i)) = true := by decide +kernel
  have := List.all_eq_true.mp key i (List.mem_range.mpr hi)
  rw [h] at this
  simp at this
theorem zg4 {i m : Nat} : zae i ≠ zhu m := by
 have key : (((("?" : Str) :: attrNames) : List Str).all fun a => (List.range 7).all fun m => !(a == zhu m)) = true := by decide +kernel
 have hm : ∃ m', m' < 7 ∧ zhu m = zhu m' := by
  by_cases h : m < 7
  ·exact ⟨m, h, rfl⟩
  ·refine ⟨6, by decide, ?_⟩
   match m, h with
   | 0, h | 1, h | 2, h | 3, h | 4, h | 5, h | 6, h => exact absurd (by decide) h
   | _ + 7, _ => rfl
 obtain ⟨m', h', e⟩ := hm
 rw [e]
 intro q
 have hi : zae i ∈ (("?" : Str) :: attrNames : List Str) := by
  unfold zae
  rw [List.getD_eq_getElem?_getD]
  cases z : attrNames[i]? with
  | none => exact List.mem_cons_self
  | some a => exact List.mem_cons_of_mem _ (List.mem_of_getElem? z)
 have := List.all_eq_true.mp (List.all_eq_true.mp key _ hi) m' (List.mem_range.mpr h')
 rw [q] at this
 simp at this
theorem zoi {i : Nat} (hi : i < 21) : copiedNames.contains (zae i) = false := by
 have key : ((List.range 21).all fun i => !copiedNames.contains (zae i)) = true := by decide +kernel
 have := List.all_eq_true.mp key i (List.mem_range.mpr hi)
 simpa using this
theorem zkm {P : Params} {h : Heap} : ∀ {es : List DictEntry} {fs : List (Nat × Va)} {i : Nat} {v : Va}, EntriesRel P h es fs → i < 21 → getF fs i = some v → ∃ e, es.find? (·.key.isStr (zae i)) = some e ∧ Rv h v e.val
 | [], _, _, _, r, _, e => by subst r; cases e
 | d :: es, _, i, v, ⟨g, gs, e1, ⟨a, ⟨t, b⟩, c⟩, e3⟩, hi, e => by
  subst e1
  obtain ⟨j, w⟩ := g
  simp only [getF] at e
  by_cases q : i = j
  ·rw [if_pos q] at e
   cases e
   refine ⟨d, ?_, c⟩
   rw [List.find?_cons, b]
   simp [Value.isStr, q]
  ·rw [if_neg q] at e
   obtain ⟨x, h1, h2⟩ := zkm e3 hi e
   refine ⟨x, ?_, h2⟩
   have : (zae j == zae i) = false := beq_eq_false_iff_ne.mpr fun z => q (zfq hi z).symm
   rw [List.find?_cons, b, show (Value.str (zae (j, w).1) t).isStr (zae i) = (zae j == zae i) from rfl, this]
   exact h1
theorem zkl {P : Params} {h : Heap} {n : Str} (hn : ∀ j, zae j ≠ n) : ∀ {es : List DictEntry} {fs : List (Nat × Va)}, EntriesRel P h es fs → es.find? (·.key.isStr n) = none ∧ es.any (·.refKey) = false
 | [], _, _ => ⟨rfl, rfl⟩
 | d :: es, _, ⟨g, gs, e1, ⟨a, ⟨t, b⟩, c⟩, e3⟩ => by
  obtain ⟨h1, h2⟩ := zkl hn e3
  have : (zae g.1 == n) = false := beq_eq_false_iff_ne.mpr (hn _)
  refine ⟨?_, ?_⟩
  ·rw [List.find?_cons, b, show (Value.str (zae g.1) t).isStr n = (zae g.1 == n) from rfl, this]
   exact h1
  ·rw [List.any_cons, h2, Bool.or_false]
   unfold DictEntry.refKey
   rw [b]
theorem zin {P : Params} {h : Heap} : ∀ {es : List DictEntry} {fs : List (Nat × Va)}, EntriesRel P h es fs → es.any (·.refKey) = false
 | [], _, _ => rfl
 | d :: es, _, ⟨g, gs, e1, ⟨a, ⟨t, b⟩, c⟩, e3⟩ => by
  rw [List.any_cons, zin e3, Bool.or_false]
  unfold DictEntry.refKey
  rw [b]
theorem zjw {W : Wd} {h : Heap} {a d : Addr} {g : Nat} {fs : List (Nat × Va)} (x : Den W h a (.inst g d)) (y : Den W h d (.dict fs)) : Ex2 fun es n => A3 (h.get? d = some (dictOf es n)) (EntriesRel W.P h es fs) (InstAt h a (instObj (W.fa g) d) (W.fa g) (some (dictOf es n))) := by
 obtain ⟨es, n, hd, r, _⟩ := y
 exact ⟨es, n, hd, r, ⟨x.1, rfl, rfl, hd⟩⟩
theorem znm {h : Heap} {mv : Va} {v : Value} (r : Rv h mv v) : handedIn v = true := by
 cases mv with
 | none => have e : v = .none := by simpa only [Rv] using r
           subst e; rfl
 | bool b => have e : v = .bool b := by simpa only [Rv] using r
             subst e; rfl
 | int i => have e : ∃ t, v = .int i t := by simpa only [Rv] using r
            obtain ⟨t, rfl⟩ := e; rfl
 | str i => have e : ∃ t, v = .str i t := by simpa only [Rv] using r
            obtain ⟨t, rfl⟩ := e; rfl
 | bytes i => have e : ∃ t, v = .bytes ⟨i⟩ t := by simpa only [Rv] using r
              obtain ⟨t, rfl⟩ := e; rfl
 | tup vs => have e : Ex2 fun a items => A3 (v = .ref a) (IsTup h a items) (RvL h vs items.toList) := by simpa only [Rv] using r
             obtain ⟨a, items, rfl, _⟩ := e; rfl
 | ref a => have e : v = .ref a := by simpa only [Rv] using r
            subst e; rfl
section
variable {W : Wd} {A : Around} {E : Value → Shared → Prop} {F : Led} {σ : Sto} {s : Shared} {a : Addr} {g : Nat} {fs : List (Nat × Va)} {i : Nat} {v : Va}
theorem clsOf (S : St W F σ s) (h : σ a = some (.inst g fs)) : clsIds.contains g = true := by obtain ⟨d, x, _⟩ := S.inst h; exact x.2
theorem zgk {expr : Bool} {Q : Value → Shared → Prop} (X : W.K.In W.h₀) (hc : ∀ g, clsIds.contains g = true → ClsOk W.K W.fa g) (S : St W F σ s) (h : σ a = some (.inst g fs)) (hi : i < 21) (hf : getF fs i = some v)
  (q : ∀ y, Rv s.heap v y → Q y { s with toks := s.toks + 1 }) : wpAny W.M A (getAttr (.ref a) (zae i) expr) Q E s := by
 obtain ⟨d, x, y⟩ := S.inst h
 have cok := hc g x.2
 obtain ⟨es, n, hd, r, I⟩ := zjw x y
 obtain ⟨e, h1, h2⟩ := zkm r hi hf
 obtain ⟨cd, hcd, hdict⟩ := any_some cok.dict
 refine get_value (v := e.val) (X.keeps S.keep) I cok.hga ?_ (znm h2) (q _ h2)
 unfold findObj
 rw [hcd, Option.bind_some, cok.attr i hi, Option.bind_some]
 simp only [Option.bind_some]
 have : PySem.W.ownOf cd (some (dictOf es n)) (zae i) = some (some e.val) := by
  unfold PySem.W.ownOf
  rw [hdict, if_pos rfl]
  unfold lookIn
  dsimp only
  rw [h1]
 rw [this]
 rfl
theorem zh0 {pl : Sem Bool} {m f : Nat} {Q : Value × List Value → Shared → Prop} (X : W.K.In W.h₀) (hc : ∀ g, clsIds.contains g = true → ClsOk W.K W.fa g) (S : St W F σ s) (h : σ a = some (.inst g fs)) (hm : mth g m = some f)
  (q : Q (.ref (W.fa f), [.ref a]) s) : wpAny W.M A (getMethod (.ref a) (zhu m) pl) Q E s := by
 obtain ⟨d, x, y⟩ := S.inst h
 have cok := hc g x.2
 obtain ⟨es, n, hd, r, I⟩ := zjw x y
 obtain ⟨h1, h2⟩ := cok.mth m f hm
 obtain ⟨z1, z2⟩ := zkl (fun j => zg4 (i := j) (m := m)) r
 refine method_fn (X.keeps S.keep) I cok.hga cok.hk h1 h2 ?_ q
 unfold shadowIn lookIn
 dsimp only
 rw [z1]
 dsimp only
 rw [z2]
 rfl
theorem zm2 {P : Params} {h : Heap} {i : Nat} {w : Va} {y : Value} {t : Tok} (hy : Rv h w y) : ∀ {es : List DictEntry} {fs : List (Nat × Va)}, EntriesRel P h es fs → i < 21 →
  EntriesRel P h (match es.findIdx? (·.key.isStr (zae i)) with | some k => es.modify k (fun e => { e with val := y }) | none => es ++ [⟨PyData.keyHash P (zae i), .str (zae i) t, y⟩]) (setF fs i w)
 | [], _, r, _ => by subst r; exact ⟨_, _, rfl, ⟨rfl, ⟨t, rfl⟩, hy⟩, rfl⟩
 | d :: es, _, ⟨g, gs, e1, ⟨a, ⟨u, b⟩, c⟩, e3⟩, hi => by
  subst e1
  obtain ⟨j, z⟩ := g
  rw [List.findIdx?_cons, b, show (Value.str (zae (j, z).1) u).isStr (zae i) = (zae j == zae i) from rfl]
  by_cases q : i = j
  ·subst q
   rw [beq_self_eq_true, if_pos rfl]
   simp only [setF, if_pos]
   exact ⟨(i, w), gs, rfl, ⟨a, ⟨u, b⟩, hy⟩, e3⟩
  ·have : (zae j == zae i) = false := beq_eq_false_iff_ne.mpr fun z => q (zfq hi z).symm
   rw [this, if_neg Bool.false_ne_true]
   simp only [setF, if_neg q]
   have ih := zm2 (t := t) hy e3 hi
   cases z : es.findIdx? (·.key.isStr (zae i)) with
   | none => rw [z] at ih; exact ⟨_, _, rfl, ⟨a, ⟨u, b⟩, c⟩, ih⟩
   | some k => rw [z] at ih; exact ⟨_, _, rfl, ⟨a, ⟨u, b⟩, c⟩, ih⟩
theorem zhq {i : Nat} {w : Va} : ∀ {fs : List (Nat × Va)}, (setF fs i w).length ≤ fs.length + 1
 | [] => by simp [setF]
 | (j, z) :: r => by
  simp only [setF]
  split
  ·simp
  ·have := zhq (i := i) (w := w) (fs := r); simp; exact this
theorem zr7 (es : List DictEntry) (n : Nat) (name : Str) (hash : Int) (key v : Value) : ∃ n', Obj.putName name hash key v (dictOf es n) = dictOf (match es.findIdx? (·.key.isStr name) with | some k => es.modify k (fun e => { e with val := v }) | none => es ++ [⟨hash, key, v⟩]) n' := by
 rw [Obj.putName_eq]
 simp only [Obj.putNameByArray, List.findIdx?_toArray]
 cases es.findIdx? (·.key.isStr name) with
 | none => exact ⟨n + 1, by simp⟩
 | some k => exact ⟨n, by simp⟩
theorem zm1 {P : Params} {h : Heap} : ∀ {es : List DictEntry} {fs : List (Nat × Va)}, EntriesRel P h es fs → es.length = fs.length
 | [], _, r => by subst r; rfl
 | d :: es, _, ⟨g, gs, e1, _, e3⟩ => by subst e1; simp [zm1 e3]
theorem zf3 {w : Va} {y : Value} {Q : Unit → Shared → Prop} (X : W.K.In W.h₀) (hc : ∀ g, clsIds.contains g = true → ClsOk W.K W.fa g) (S : St W F σ s) (h : σ a = some (.inst g fs)) (hi : i < 21) (hl : fs.length ≤ 50) (hy : Rv s.heap w y)
  (q : ∀ s', St W F (σ.set a (.inst g (setF fs i w))) s' → Evo s.heap s'.heap → Q () s') : wpAny W.M A (setAttr (.ref a) (zae i) y) Q E s := by
 obtain ⟨d, x, yd, hne, h0, turn⟩ := S.inst' h
 have cok := hc g x.2
 obtain ⟨es, n, hd, r, I⟩ := zjw x yd
 obtain ⟨cd, hcd, hdict⟩ := any_some cok.dict
 have X' := X.keeps S.keep
 refine set_plain X' I cok.hs ?_
 refine osa_open (r := none) (s := { s with toks := s.toks + 1 }) X' I cok.over (by unfold takerIn; rw [cok.attr i hi]; rfl) fun b => ?_
 refine wpAny_bind (wpAny_pure (wpAny_bind (wpAny_bind (wpAny_loadPart x.1 (wpAny_bind (Looks.here (s := { s with toks := s.toks + 1 }) (looks_clsIn X' hcd) ?_))))))
 rw [hdict]
 refine wpAny_pure (a := some d) (wpAny_bind (wpAny_pure (wpAny_bind ?_)))
 unfold nsSet
 refine wpAny_bind (wpAny_bind (wpAny_askSetting (wpAny_pure (wpAny_bind (wpAny_mkText (wpAny_bind (wpAny_loadPart hd ?_)))))))
 dsimp only
 have c : (!es.toArray.any (·.key.isStr (zae i)) && es.toArray.any (·.refKey)) = false := by
  rw [← Array.any_toList, ← Array.any_toList, List.toList_toArray, zin r, Bool.and_false]
 rw [aRefKeyMayBeTheName_at, c]
 obtain ⟨n', hput⟩ := zr7 es n (zae i) (PyData.keyHash W.w.params (zae i)) (.str (zae i) (s.toks + 1)) y
 have hr := zm2 (P := W.w.params) (t := s.toks + 1) hy r hi
 generalize hes : (match es.findIdx? (·.key.isStr (zae i)) with | some k => es.modify k (fun e => { e with val := y }) | none => es ++ [DictEntry.mk (PyData.keyHash W.w.params (zae i)) (.str (zae i) (s.toks + 1)) y]) = es' at hput hr
 have hlen : es'.length ≤ 51 := by
  have := zm1 hr
  have l2 := zhq (i := i) (w := w) (fs := fs)
  exact Nat.le_trans (Nat.le_of_eq this) (Nat.le_trans l2 (Nat.lt_of_le_of_lt hl (by decide)))
 have hd' : (s.heap.update d (Obj.putName (zae i) (PyData.keyHash W.w.params (zae i)) (.str (zae i) (s.toks + 1)) y)).get? d = some (dictOf es' n') := by
  have := Heap.get?_update_self (Obj.putName (zae i) (PyData.keyHash W.w.params (zae i)) (.str (zae i) (s.toks + 1)) y) hd (by rw [hput]; rfl)
  rw [this, hput]
 refine wpAny_updatePart hd ?_
 refine wpAny_bind (wpAny_lookBehind hd' (pastItsLine_dict (by rw [List.size_toArray, sizeLine_eq]; exact Nat.le_trans hlen (by decide))) ?_)
 have kb : Heap.ExtBut d s.heap (s.heap.update d (Obj.putName (zae i) (PyData.keyHash W.w.params (zae i)) (.str (zae i) (s.toks + 1)) y)) := fun b o hb e => (Heap.get?_update_other _ _ (Ne.symm hb)).trans e
 have ev : Evo s.heap (s.heap.update d (Obj.putName (zae i) (PyData.keyHash W.w.params (zae i)) (.str (zae i) (s.toks + 1)) y)) := zel kb hd hd' (yd.noTup hd) (fun vs e => by cases e)
 refine wpAny_pure ?_
 have T := @turn { s with heap := s.heap.update d (Obj.putName (zae i) (PyData.keyHash W.w.params (zae i)) (.str (zae i) (s.toks + 1)) y), toks := s.toks + 1 + 1 } (setF fs i w) kb ev ?_ rfl rfl
 ·exact q _ T ev
 exact ⟨es', n', hd', hr.evo ev, by have l2 := zhq (i := i) (w := w) (fs := fs); exact Nat.le_trans l2 (Nat.lt_of_le_of_lt hl (by decide))⟩
end
end
section
section
variable {W : Wd} {A : Around} {E : Value → Shared → Prop} {F : Led} {σ : Sto} {s : Shared} {a : Addr} {vs vs' : List Va} {v w : Va} {y : Value}
theorem St.mapSeq {items : Array Value} {n : Nat} {t : Nat} (S : St W F σ s) (h : σ a = some (.list vs)) (hl : IsL s.heap a items n) (f : Array Value → Array Value) (hf : RvL s.heap vs' (f items).toList) (hz : vs'.length ≤ sizeLine) :
  St W F (σ.set a (.list vs')) { s with heap := s.heap.update a (Obj.mapSeq f), toks := t } ∧ Evo s.heap (s.heap.update a (Obj.mapSeq f)) := by
 have D := S.list h
 have k : Heap.ExtBut a s.heap (s.heap.update a (Obj.mapSeq f)) := fun b o hb e => (Heap.get?_update_other _ _ (Ne.symm hb)).trans e
 have hl' := hl.update f
 have ev : Evo s.heap (s.heap.update a (Obj.mapSeq f)) := zel k hl hl' (D.noTup hl) (fun vs e => by cases e)
 exact ⟨S.turnList h k ev ⟨_, _, hl', hz, hf.evo ev⟩ rfl rfl, ev⟩
theorem zc2 {items : Array Value} (r : RvL s.heap vs items.toList) : items.size = vs.length := by rw [← r.len, Array.length_toList]
theorem zka {Q : Value → Shared → Prop} (S : St W F σ s) (h : σ a = some (.list vs)) (hz : vs.length < zap) (hy : Rv s.heap w y)
  (q : ∀ s', St W F (σ.set a (.list (vs ++ [w]))) s' → Evo s.heap s'.heap → Q .none s') : wpAny W.M A (call (.builtin "list.append") [.ref a, y]) Q E s := by
 obtain ⟨items, n, hl, _, r⟩ := S.list h
 have hsz := zc2 r
 have hm : zap ≤ sizeLine := by decide
 refine call_meets PySem.F.slot_list_append ⟨_, hl, rfl⟩ PySem.F.entry_list_append (PySem.F.args_list_append_2 _ _) (list_append a items n y (by exact Nat.le_trans (Nat.le_of_eq hsz) h2)) ⟨hl, ?_⟩
 obtain ⟨S', ev⟩ := S.mapSeq (t := s.toks) (vs' := vs ++ [w]) h hl (fun xs => xs.push y) (by rw [Array.toList_push]; exact r.append (RvL.cons hy RvL.nil)) (by rw [List.length_append, List.length_singleton]; exact Nat.lt_of_lt_of_le hz (by decide))
 exact q _ S' ev
theorem zf5 {items : Array Value} {i : Nat} (r : RvL s.heap vs items.toList) (e : vs[i]? = some v) : ∃ y, items[i]? = some y ∧ Rv s.heap v y := by
 obtain ⟨y, h1, h2⟩ := r.get e
 exact ⟨y, by rwa [Array.getElem?_toList] at h1, h2⟩
theorem zpz {Q : Value → Shared → Prop} (S : St W F σ s) (h : σ a = some (.list vs)) (e : vs.getLast? = some v)
  (q : ∀ y s', Rv s'.heap v y → St W F (σ.set a (.list vs.dropLast)) s' → Evo s.heap s'.heap → Q y s') : wpAny W.M A (call (.builtin "list.pop") [.ref a]) Q E s := by
 obtain ⟨items, n, hl, hzz, r⟩ := S.list h
 have hsz := zc2 r
 rw [List.getLast?_eq_getElem?] at e
 obtain ⟨y, h1, h2⟩ := zf5 r e
 refine call_meets PySem.F.slot_list_pop ⟨_, hl, rfl⟩ PySem.F.entry_list_pop (PySem.F.args_list_pop_1 _) (MeetsSeq.list_pop_last a items n y (by rw [hsz]; exact h1) (by exact Nat.le_trans (Nat.le_of_eq hsz) hzz)) ⟨hl, ?_⟩
 obtain ⟨S', ev⟩ := S.mapSeq (t := s.toks) (vs' := vs.dropLast) h hl (fun xs => xs.eraseIdxIfInBounds (items.size - 1)) (by
  rw [Array.toList_eraseIdxIfInBounds, hsz, ← List.eraseIdx_length_sub_one]
  exact r.eraseIdx _) (by rw [List.length_dropLast]; exact Nat.le_trans (Nat.sub_le _ _) hzz)
 exact q _ _ (h2.evo ev) S' ev
theorem zj0 {i : Int} {n : Nat} (h0 : 0 ≤ i) (h : i.toNat < n) (hz : n ≤ sizeLine) : Builtin.List.listFitsIndex i = true ∧ seqIndex? i n = some i.toNat ∧ i < 2 ^ 63 := by
 have hs : sizeLine = 16777216 := by decide
 refine ⟨?_, ?_, by lia -abstractProof⟩
 ·unfold Builtin.List.listFitsIndex; simp; lia -abstractProof
 ·unfold seqIndex?
  have h1 : ¬ i < 0 := by exact Int.not_lt.mpr h0
  simp only [h1, if_false]
  simp; lia -abstractProof
theorem zlw {i : Int} {t : Tok} {Q : Value → Shared → Prop} (S : St W F σ s) (h : σ a = some (.list vs)) (h0 : 0 ≤ i) (e : vs[i.toNat]? = some v)
  (q : ∀ y s', Rv s'.heap v y → St W F (σ.set a (.list (vs.eraseIdx i.toNat))) s' → Evo s.heap s'.heap → Q y s') : wpAny W.M A (call (.builtin "list.pop") [.ref a, .int i t]) Q E s := by
 obtain ⟨items, n, hl, hzz, r⟩ := S.list h
 have hsz := zc2 r
 obtain ⟨y, h1, h2⟩ := zf5 r e
 have hlt : i.toNat < items.size := (Array.getElem?_eq_some_iff.mp h1).1
 obtain ⟨f1, f2, _⟩ := zj0 h0 hlt (by exact Nat.le_trans (Nat.le_of_eq hsz) hzz)
 refine call_meets PySem.F.slot_list_pop ⟨_, hl, rfl⟩ PySem.F.entry_list_pop (PySem.F.args_list_pop_2 _ _) (MeetsSeq.list_pop_at a items n i t i.toNat y f1 f2 h1 (by exact Nat.le_trans (Nat.le_of_eq hsz) hzz)) ⟨hl, ?_⟩
 obtain ⟨S', ev⟩ := S.mapSeq (t := s.toks) (vs' := vs.eraseIdx i.toNat) h hl (fun xs => xs.eraseIdxIfInBounds i.toNat) (by
  rw [Array.toList_eraseIdxIfInBounds]; exact r.eraseIdx _) (Nat.le_trans (List.length_eraseIdx_le _ _) hzz)
 exact q _ _ (h2.evo ev) S' ev
theorem zfo {α : Type} {x : α} : ∀ (n : Nat) (l : List α), n ≤ l.length → l.insertIdx n x = l.take n ++ x :: l.drop n
 | 0, l, _ => by simp
 | n + 1, [], h => by simp at h
 | n + 1, y :: l, h => by
  rw [List.insertIdx_succ_cons, zfo n l (by simpa using h)]
  simp
theorem RvL.insertIdx {h : Heap} {a : List Va} {b : List Value} {x : Va} {y : Value} (n : Nat) (r : RvL h a b) (ry : Rv h x y) (hn : n ≤ a.length) : RvL h (a.insertIdx n x) (b.take n ++ y :: b.drop n) := by
 have e : a.insertIdx n x = a.take n ++ x :: a.drop n := by
  exact zfo n a hn
 rw [e]
 exact (r.take n).append (RvL.cons ry (r.drop n))
theorem zj9 {i : Int} {t : Tok} {Q : Value → Shared → Prop} (S : St W F σ s) (h : σ a = some (.list vs)) (h0 : 0 ≤ i) (hi : i.toNat ≤ vs.length) (hz : vs.length < zap) (hy : Rv s.heap w y)
  (q : ∀ s', St W F (σ.set a (.list (vs.insertIdx i.toNat w))) s' → Evo s.heap s'.heap → Q .none s') : wpAny W.M A (call (.builtin "list.insert") [.ref a, .int i t, y]) Q E s := by
 obtain ⟨items, n, hl, hzz, r⟩ := S.list h
 have hsz := zc2 r
 have hs : sizeLine = 16777216 := by decide
 have hm : zap = 1000000 := rfl
 refine call_meets PySem.F.slot_list_insert ⟨_, hl, rfl⟩ PySem.F.entry_list_insert (PySem.F.args_list_insert_3 _ _ _) (AutoSeq1.list_insert_list_int_val_1 a items n i t y (by unfold Builtin.List.listFitsIndex; simp; lia -abstractProof) (by exact Nat.le_trans (Nat.le_of_eq hsz) hzz)) ⟨hl, ?_⟩
 obtain ⟨S', ev⟩ := S.mapSeq (t := s.toks) (vs' := vs.insertIdx i.toNat w) h hl (fun xs => have k := if i < 0 then (i + (xs.size : Int)).toNat else min i.toNat xs.size; (xs.extract 0 k).push y ++ xs.extract k) (by
  have hk : (if i < 0 then (i + (items.size : Int)).toNat else min i.toNat items.size) = i.toNat := by rw [if_neg (by exact Int.not_lt.mpr h0)]; lia -abstractProof
  show RvL _ _ (((items.extract 0 (if i < 0 then (i + (items.size : Int)).toNat else min i.toNat items.size)).push y ++ items.extract (if i < 0 then (i + (items.size : Int)).toNat else min i.toNat items.size)).toList)
  rw [hk]
  have e : ((items.extract 0 i.toNat).push y ++ items.extract i.toNat).toList = items.toList.take i.toNat ++ y :: items.toList.drop i.toNat := by
   simp [List.take_of_length_le]
  rw [e]
  exact r.insertIdx _ hy hi) (by rw [List.length_insertIdx_of_le_length hi]; exact Nat.lt_of_lt_of_le hz (by decide))
 exact q _ S' ev
theorem zil (l : Addr) (items : Array Value) (n : Nat) (k : Int) (u : Tok) (y : Value) (h0 : 0 ≤ k) (hj : k.toNat < items.size) (hfit : Builtin.List.listFitsIndex k = true) (prog : Program) (w : World) (A : Around) (E : Value → Shared → Prop) (Q : Value → Shared → Prop) (s : Shared)
  (hl : s.heap.get? l = some { cls := .type "list", dict := none, data := .seq items n, slots := #[] }) (h : Q Value.none { s with heap := s.heap.update l (Obj.mapSeq fun xs => xs.setIfInBounds k.toNat y) }) :
  wpAny (model prog w) A.in1 (Builtin.«list.__setitem__» ⟨[.ref l, .int k u, y], []⟩) (fun fin s' => ∃ v, fin = .done (.ret v) ∧ Q v s') E s := by
  show wpAny _ _ (Builtin.List.listSubscript? (.int k u) >>= _) _ _ s
  refine wpAny_bind (wpAny_listSubscript_int hfit ?_)
  clear hfit
  obtain ⟨j, rfl⟩ := Int.eq_ofNat_of_zero_le h0
  show wpAny _ _ ((seqItemAt l j >>= fun r => pure (r.map (j, ·))) >>= _) _ _ s
  refine wpAny_bind (wpAny_bind (wpAny_seqItemAt hl rfl (wpAny_pure ?_)))
  rw [show items[j]? = some items[j] from Array.getElem?_eq_getElem hj]
  show wpAny _ _ (setSeqItemAt l j y >>= _) _ _ s
  refine wpAny_bind (wpAny_setSeqItemAt hl rfl ?_)
  exact wpAny_pure ⟨_, rfl, h⟩
theorem zo4 {i : Int} {t : Tok} {Q : Unit → Shared → Prop} (S : St W F σ s) (h : σ a = some (.list vs)) (h0 : 0 ≤ i) (hi : i.toNat < vs.length) (hy : Rv s.heap w y)
  (q : ∀ s', St W F (σ.set a (.list (vs.set i.toNat w))) s' → Evo s.heap s'.heap → Q () s') : wpAny W.M A (setItem (.ref a) (.int i t) y) Q E s := by
 obtain ⟨items, n, hl, hzz, r⟩ := S.list h
 have hsz := zc2 r
 unfold setItem
 refine wpAny_holding (wpAny_bind (wpAny_sequenceKey hl.isList.typeIs (by decide) ?_))
 refine wpAny_bind (wpAny_callSpecial?_slot (name := Str.ofString "__setitem__") hl.isList.typeIs slot_list_setitem
  (wpAny_call_entry slot_list_setitem hl.isList.typeIs entry_list_setitem (zil a items n i t y h0 (by exact Nat.lt_of_lt_of_le hi (Nat.le_of_eq hsz.symm)) (zj0 h0 (show i.toNat < items.size by exact Nat.lt_of_lt_of_le hi (Nat.le_of_eq hsz.symm)) (by exact Nat.le_trans (Nat.le_of_eq hsz) hzz)).1 _ _ _ _ _ _ hl ?_) (args_list_setitem _ _ _)))
 obtain ⟨S', ev⟩ := S.mapSeq (t := s.toks) (vs' := vs.set i.toNat w) h hl (fun xs => xs.setIfInBounds i.toNat y) (by
  rw [Array.toList_setIfInBounds]; exact r.set hy) (by rw [List.length_set]; exact hzz)
 exact wpAny_pure (q _ S' ev)
theorem zjr {items : Array Value} {n : Nat} (hl : IsL s.heap a items n) : s.heap.NoDictAt (.ref a) := ⟨_, hl, rfl⟩
theorem zdh {name : Str} {id : String} {pl : Sem Bool} {Q : Value × List Value → Shared → Prop} (slot : Slot "list" name id) (hty : typeOf (.builtin id) = pure (.type "method_descriptor")) (S : St W F σ s) (h : σ a = some (.list vs))
  (q : Q (.builtin id, [.ref a]) s) : wpAny W.M A (getMethod (.ref a) name pl) Q E s := by
 obtain ⟨items, n, hl, _⟩ := S.list h
 exact getMethod_list_of slot hty hl.isList (zjr hl) q
theorem zni {i : Int} {t : Tok} {Q : Value → Shared → Prop} (S : St W F σ s) (h : σ a = some (.list vs)) (h0 : 0 ≤ i) (e : vs[i.toNat]? = some v) (q : ∀ y, Rv s.heap v y → Q y s) :
  wpAny W.M A (getItem (.ref a) (.int i t)) Q E s := by
 obtain ⟨items, n, hl, hzz, r⟩ := S.list h
 have hsz := zc2 r
 obtain ⟨y, h1, h2⟩ := zf5 r e
 have hlt : i.toNat < items.size := (Array.getElem?_eq_some_iff.mp h1).1
 exact wpAny_getItem_list hl.isList h0 (zj0 h0 hlt (by exact Nat.le_trans (Nat.le_of_eq hsz) hzz)).2.2 h1 (q y h2)
theorem zpg {vs : List Va} {i : Int} {t : Tok} {x : Value} {Q : Value → Shared → Prop} (hx : Rv s.heap (.tup vs) x) (h0 : 0 ≤ i) (hz : i < 1000000000) (e : vs[i.toNat]? = some v) (q : ∀ y, Rv s.heap v y → Q y s) :
  wpAny W.M A (getItem x (.int i t)) Q E s := by
 simp only [Rv] at hx
 obtain ⟨b, items, rfl, ht, r⟩ := hx
 have hsz := zc2 r
 obtain ⟨y, h1, h2⟩ := zf5 r e
 have hlt : i.toNat < items.size := (Array.getElem?_eq_some_iff.mp h1).1
 have f2 : seqIndex? i items.size = some i.toNat := by
  unfold seqIndex?
  have h1 : ¬ i < 0 := by exact Int.not_lt.mpr h0
  simp only [h1, if_false]
  simp; lia -abstractProof
 exact PyProof.Rows.getItem_tuple ht (by exact Int.le_trans (by decide) h0) (by exact Int.lt_of_lt_of_le hz (by decide)) f2 h1 (q y h2)
theorem zp0 {Q : Value → Shared → Prop} (S : St W F σ s) (h : σ a = some (.list vs)) (q : ∀ t n, Q (.int vs.length t) { s with toks := n }) : wpAny W.M A (call (.builtin "len") [.ref a]) Q E s := by
 obtain ⟨items, n, hl, hzz, r⟩ := S.list h
 have hsz := zc2 r
 have hs : sizeLine = 16777216 := by decide
 refine Calls.call_len_list hl.isList (by lia -abstractProof) ?_
 rw [hsz]; exact q _ _
theorem zpy {Q : Value → Shared → Prop} (S : St W F σ s) (h : σ a = some (.list vs)) (q : ∀ y s', Rv s'.heap (.tup vs) y → St W F σ s' → Evo s.heap s'.heap → Q y s') : wpAny W.M A (call (.type "tuple") [.ref a]) Q E s := by
 obtain ⟨items, n, hl, hzz, r⟩ := S.list h
 have hsz := zc2 r
 refine call_tuple_list hl.isList (fun h' k => ?_) (by exact Nat.le_trans (Nat.le_of_eq hsz) hzz)
 have k2 : Ext s.heap (h'.push { cls := .type "tuple", data := .seq items }) := fun b o e => Heap.get?_push_of_some _ (k b o e)
 refine q _ _ ?_ (S.ext k2 rfl rfl) k2.evo
 simp only [Rv]
 exact ⟨_, items, rfl, ⟨_, Heap.get?_push_size _ rfl, rfl, _, rfl⟩, r.evo k2.evo⟩
theorem zn4 {Q : Value → Shared → Prop} (S : St W F σ s) (h : σ a = some (.list vs)) (q : ∀ b s', σ b = none → St W F (σ.set b (.list vs)) s' → Evo s.heap s'.heap → Q (.ref b) s') : wpAny W.M A (call (.type "list") [.ref a]) Q E s := by
 obtain ⟨items, n, hl, hzz, r⟩ := S.list h
 have hsz := zc2 r
 refine call_list_seq a (.inl rfl) hl rfl rfl (fun h' c k e => ?_) (by exact Nat.le_trans (Nat.le_of_eq hsz) hzz)
 have k2 : Ext s.heap h' := k
 exact q _ _ (S.free (zbl _)) (S.newList (zbl _) k2 ⟨items, _, e, hzz, r.evo k2.evo⟩ rfl rfl) k2.evo
theorem zpd {ys : List Value} {Q : Value → Shared → Prop} (S : St W F σ s) (r : RvL s.heap vs ys) (hz : vs.length ≤ sizeLine) (q : ∀ b s', σ b = none → St W F (σ.set b (.list vs)) s' → Evo s.heap s'.heap → Q (.ref b) s') : wpAny W.M A (newList ys) Q E s := by
 refine wpAny_newList ?_ (by rw [r.len]; exact hz)
 have k : Ext s.heap (s.heap.push { cls := .type "list", data := .seq ys.toArray }) := Ext.push _ _
 exact q _ _ (S.free (zbl _)) (S.newList (zbl _) k ⟨ys.toArray, _, Heap.get?_push_size _ rfl, hz, by rw [List.toList_toArray]; exact r.evo k.evo⟩ rfl rfl) k.evo
theorem zsf {ys : List Value} {Q : Value → Shared → Prop} (S : St W F σ s) (r : RvL s.heap vs ys) (hz : vs.length ≤ sizeLine) (q : ∀ y s', Rv s'.heap (.tup vs) y → St W F σ s' → Evo s.heap s'.heap → Q y s') : wpAny W.M A (newTuple ys) Q E s := by
 refine wpAny_newTuple ?_ (by rw [r.len]; exact hz)
 have k : Ext s.heap (s.heap.push { cls := .type "tuple", data := .seq ys.toArray }) := Ext.push _ _
 refine q _ _ ?_ (S.ext k rfl rfl) k.evo
 simp only [Rv]
 exact ⟨_, ys.toArray, rfl, ⟨_, Heap.get?_push_size _ rfl, rfl, _, rfl⟩, by rw [List.toList_toArray]; exact r.evo k.evo⟩
end
end
section
namespace BF
theorem by_bytes : typeLookup (.type "bytes") "__bytes__" = pure (some (.builtin "bytes.__bytes__")) := by rw [typeLookup_type, builtinLookup_eq_fast]; kernel_rfl
theorem ba_bytes : typeLookup (.type "bytearray") "__bytes__" = pure none := by rw [typeLookup_type, builtinLookup_eq_fast]; kernel_rfl
theorem ba_index : typeLookup (.type "bytearray") "__index__" = pure none := by rw [typeLookup_type, builtinLookup_eq_fast]; kernel_rfl
theorem ba_buffer : typeLookup (.type "bytearray") "__buffer__" = pure (some (.builtin "bytearray.__buffer__")) := by rw [typeLookup_type, builtinLookup_eq_fast]; kernel_rfl
theorem by_buffer : typeLookup (.type "bytes") "__buffer__" = pure (some (.builtin "bytes.__buffer__")) := by rw [typeLookup_type, builtinLookup_eq_fast]; kernel_rfl
theorem ba_release : typeLookup (.type "bytearray") "__release_buffer__" = pure (some (.builtin "bytearray.__release_buffer__")) := by rw [typeLookup_type, builtinLookup_eq_fast]; kernel_rfl
theorem by_release : typeLookup (.type "bytes") "__release_buffer__" = pure none := by rw [typeLookup_type, builtinLookup_eq_fast]; kernel_rfl
end BF
section
variable {prog : Program} {w : World} {A : Around} {E : Value → Shared → Prop} {s : Shared}
theorem ze4 {x : Value} {Q : Value → Shared → Prop}
  (h : ∀ A', wpAny (model prog w) A' (Builtin.«bytes.__new__» ⟨[.type "bytes", x], []⟩) (fun fin s' => ∃ v, fin = .done (.ret v) ∧ (s'.TypeIs v "bytes" ∧ Q v s')) (fun _ _ => False) s) :
  wpAny (model prog w) A (call (.type "bytes") [x]) Q E s := by
 refine callType_codes (Q₁ := fun obj s₁ => s₁.TypeIs obj "bytes" ∧ Q obj s₁) PySem.F.bm_called (PySem.F.bm_typeCall _) PySem.F.entry_object_init ?_ fun obj s₁ h₁ => ?_
 ·refine codeAny_of_tree ?_
  show wpAny _ A.in1.in1 (do checkBuiltinCall "bytes.__new__" ⟨[.type "bytes", x], []⟩; again (.builtin "bytes.__new__" ⟨[.type "bytes", x], []⟩)) _ _ s
  refine wpAny_bind (wpAny_of_eq (PySem.F.bm_newCall _) (wpAny_pure ⟨plainId_quiet PySem.F.bm_plain _, codeAny_builtin PySem.F.bm_entry ?_⟩))
  refine wpAny_mono (h _) (fun fin s' z => ?_) fun _ _ z => z.elim
  obtain ⟨v, rfl, z⟩ := z
  exact z
 ·exact ⟨h₁.1, PySem.F.args_object_init_2 obj _, object_init_meets PySem.F.bm_called.init.lookup PySem.F.bm_called.made (by decide) prog w A.in1 _ s₁ ⟨h₁.1, rfl, h₁.2⟩⟩
theorem zgp {b : Array UInt8} {t : Tok} {Q : Value → Shared → Prop} (h : Q (.bytes b t) s) : wpAny (model prog w) A (call (.type "bytes") [.bytes b t]) Q E s := by
 refine ze4 fun A' => ?_
 unfold Builtin.«bytes.__new__»
 refine wpAny_bind (wpAny_of_eq (a := true) rfl ?_)
 refine bm_if_false rfl ?_
 refine wpAny_bind (wpAny_of_eq PySem.F.bm_sub ?_)
 refine bm_if_false rfl ?_
 refine wpAny_bind (wpAny_of_eq (PySem.F.bm_bind _) ?_)
 refine wpAny_bind (wpAny_of_eq (a := ()) rfl ?_)
 refine wpAny_bind (wpAny_of_eq (a := ()) rfl ?_)
 refine bm_if_false rfl ?_
 refine wpAny_bind (wpAny_specialOf (PySem.W.typeIs_bytes _ _ _) BF.by_bytes ?_)
 refine wpAny_bind (wpAny_rule ?_)
 refine wpAny_bind (wpAny_typeOf (PySem.W.typeIs_bytes _ _ _) ?_)
 refine bm_if_true rfl ?_
 exact wpAny_pure ⟨_, rfl, PySem.W.typeIs_bytes _ _ _, h⟩
theorem zkk {v : Value} {T : String} {name : String} {id : String} {Q : Bool → Shared → Prop} (hT : s.TypeIs v T) (hl : typeLookup (.type T) (name : PySem.Str) = pure (some (.builtin id))) (h1 : id.endsWith ("." ++ name) = true) (h2 : (id.dropRight (name.length + 1)) = T)
  (h3 : isSubtype (.type T) (.type T) = pure true) (q : Q true s) : wpAny (model prog w) A (Builtin.Bytes.slotIsOwn v name) Q E s := by
 unfold Builtin.Bytes.slotIsOwn
 refine wpAny_bind (wpAny_specialOf hT hl ?_)
 dsimp only
 rw [h1, h2]
 exact wpAny_isInstance hT h3 q
theorem own_buffer {v : Value} {Q : Bool → Shared → Prop} (hT : s.TypeIs v "bytearray") (q : Q true s) : wpAny (model prog w) A (Builtin.Bytes.slotIsOwn v "__buffer__") Q E s :=
 zkk hT BF.ba_buffer (by decide +kernel) (by decide +kernel) PySem.F.isi_self_bytearray q
theorem zgb {v : Value} {Q : Bool → Shared → Prop} (hT : s.TypeIs v "bytearray") (q : Q false s) : wpAny (model prog w) A (Builtin.Bytes.ownRelease v) Q E s := by
 unfold Builtin.Bytes.ownRelease
 exact wpAny_bind (zkk hT BF.ba_release (by decide +kernel) (by decide +kernel) PySem.F.isi_self_bytearray (wpAny_pure q))
theorem zfl {a : Addr} {b : Array UInt8} {Q : Array UInt8 → Shared → Prop} (ha : s.heap.get? a = some { cls := .type "bytearray", data := .bytearray b }) (q : Q b s) : wpAny (model prog w) A (Builtin.Bytes.payload (.ref a)) Q E s := by
 unfold Builtin.Bytes.payload Builtin.Bytes.payload?
 exact wpAny_bind (wpAny_bind (wpAny_load ha (wpAny_pure (wpAny_pure q))))
theorem zgr {a : Addr} {b : Array UInt8} {Q : Value → Shared → Prop} (ha : s.heap.get? a = some { cls := .type "bytearray", data := .bytearray b }) (hz : b.size ≤ sizeLine) (h : ∀ t n, Q (.bytes b t) { s with toks := n }) : wpAny (model prog w) A (call (.type "bytes") [.ref a]) Q E s := by
 have hT : s.TypeIs (.ref a) "bytearray" := ⟨_, ha, rfl⟩
 refine ze4 fun A' => ?_
 unfold Builtin.«bytes.__new__»
 refine wpAny_bind (wpAny_of_eq (a := true) rfl ?_)
 refine bm_if_false rfl ?_
 refine wpAny_bind (wpAny_of_eq PySem.F.bm_sub ?_)
 refine bm_if_false rfl ?_
 refine wpAny_bind (wpAny_of_eq (PySem.F.bm_bind _) ?_)
 refine wpAny_bind (wpAny_of_eq (a := ()) rfl ?_)
 refine wpAny_bind (wpAny_of_eq (a := ()) rfl ?_)
 refine bm_if_false rfl ?_
 refine wpAny_bind (wpAny_specialOf hT BF.ba_bytes ?_)
 refine wpAny_bind (wpAny_bind ?_)
 show wpAny _ _ (load a >>= _) _ _ _
 refine wpAny_bind (wpAny_load ha ?_)
 refine wpAny_pure (wpAny_pure ?_)
 refine bm_if_false rfl ?_
 refine wpAny_bind (wpAny_specialOf hT BF.ba_index ?_)
 refine bm_if_true rfl ?_
 first
  | show wpAny _ _ (Builtin.Bytes.buffer? "bytes.__new__" (.ref a) true >>= _) _ _ _
  | (refine wpAny_bind ?_; show wpAny _ _ (Builtin.Bytes.buffer? "bytes.__new__" (.ref a) true >>= _) _ _ _)
 refine wpAny_bind ?_
 unfold Builtin.Bytes.buffer?
 refine wpAny_bind (wpAny_specialOf hT BF.ba_buffer ?_)
 refine wpAny_bind (own_buffer hT ?_)
 refine bm_if_false rfl ?_
 refine wpAny_bind (wpAny_specialOf hT BF.ba_buffer ?_)
 refine wpAny_bind (zgb hT ?_)
 refine bm_if_false rfl ?_
 refine wpAny_bind (zfl ha (wpAny_pure ?_))
 refine wpAny_bind (wpAny_rule ?_)
 refine wpAny_bind (wpAny_mkBytes ?_ hz)
 exact wpAny_pure ⟨_, rfl, PySem.W.typeIs_bytes _ _ _, h _ _⟩
end
end
section
section
variable {W : Wd} {A : Around} {E : Value → Shared → Prop} {F : Led} {σ : Sto} {s : Shared} {a : Addr} {vs : List Va} {v : Va} {y : Value}
set_option tactic.hygienic true in
theorem zgw {M : Model} (slice : Expr) (o i : Value) {Q : Value → Shared → Prop} (h : wpAny M A (getItem o i) Q E s) : wpAny M A (subscripted slice false o i) Q E s := by
 cases slice <;> first | exact wpAny_operate' h | skip
 rename_i a b c p
 cases c <;> exact wpAny_operate' h
theorem zd2 {value slice : Expr} {o i : Value} {T id : String} {Q : Value → Shared → Prop} (hT : s.TypeIs o T) (hl : typeLookup (.type T) "__getitem__" = pure (some (.builtin id))) (h : wpAny W.M A (getItem o i) Q E s) :
  wpAny W.M A (do let r ← subscripted slice (← getitemInPython o) o i; letTemporaryGo value o r; pure r) Q E s := by
 refine wpAny_bind ?_
 unfold getitemInPython
 refine wpAny_bind (wpAny_specialOf hT hl (wpAny_pure (wpAny_bind ?_)))
 exact zgw _ _ _ (wpAny_mono h (fun _ _ z => wpAny_bind (wpAny_letTemporaryGo (wpAny_pure z))) fun _ _ z => z)
theorem zlt {b : List UInt8} {i : Int} {t u : Tok} {c : UInt8} {Q : Value → Shared → Prop} (h0 : 0 ≤ i) (hz : b.length ≤ 1099511627776) (e : b[i.toNat]? = some c) (q : ∀ t n, Q (.int c.toNat t) { s with toks := n }) :
  wpAny W.M A (getItem (.bytes ⟨b⟩ t) (.int i u)) Q E s := by
 have hlt := (List.getElem?_eq_some_iff.mp e).1
 refine PySem.W.getItem_bytes hz h0 (by lia -abstractProof) ?_
 rw [List.getD_eq_getElem?_getD, e]
 exact q _ _
theorem zg1 {b : List UInt8} {t : Tok} {Q : Value → Shared → Prop} (hz : b.length ≤ 1099511627776) (q : ∀ t n, Q (.int b.length t) { s with toks := n }) : wpAny W.M A (call (.builtin "len") [.bytes ⟨b⟩ t]) Q E s :=
 PySem.W.len_bytes (b := ⟨b⟩) hz (q _ _)
set_option tactic.hygienic true in
theorem ziq : ∀ {vs : List Va} {b : List UInt8} {ys : List Value}, octs vs = some b → RvL s.heap vs ys → ∃ ns, A3 (IntsAre ys ns) ((∀ n ∈ ns, 0 ≤ n ∧ n < 256)) ((ns.map fun n => n.toNat.toUInt8) = b)
 | [], b, ys, e, r => by
  simp only [RvL] at r; subst r
  simp only [octs] at e; cases e
  exact ⟨[], .nil, (fun _ h => nomatch h), rfl⟩
 | x :: xs, b, ys, e, r => by
  obtain ⟨y, ys, rfl, r1, r2⟩ := r.inv
  cases x with
  | int i =>
   simp only [octs] at e
   split at e
   ·rename_i hi
    obtain ⟨b', hb, rfl⟩ := Option.map_eq_some_iff.mp e
    obtain ⟨ns, a1, a2, a3⟩ := ziq hb r2
    obtain ⟨t, rfl⟩ := zcj r1
    refine ⟨i :: ns, .cons i t a1, fun n hn => ?_, ?_⟩
    ·rcases List.mem_cons.mp hn with rfl | hn
     ·exact hi
     ·exact a2 n hn
    ·rw [List.map_cons, a3]
   ·cases e
  | none => simp only [octs] at e; cases e
  | bool => simp only [octs] at e; cases e
  | str => simp only [octs] at e; cases e
  | bytes => simp only [octs] at e; cases e
  | tup => simp only [octs] at e; cases e
  | ref => simp only [octs] at e; cases e
theorem zgq {b : List UInt8} {Q : Value → Shared → Prop} (hh : A.handled = none) (S : St W F σ s) (h : σ a = some (.list vs)) (e : octs vs = some b) (q : ∀ t s', St W F σ s' → Evo s.heap s'.heap → Q (.bytes ⟨b⟩ t) s') : wpAny W.M A (call (.type "bytes") [.ref a]) Q E s := by
 obtain ⟨items, n, hl, hzz, r⟩ := S.list h
 obtain ⟨ns, a1, a2, a3⟩ := ziq e r
 refine call_bytes_ints (ns := ns) (by rw [Array.toArray_toList]; exact hl.isList) a1 a2 (by rw [r.len]; exact hzz) hh fun h' t k hk => ?_
 have : byteArr ns = ⟨b⟩ := by unfold byteArr; rw [a3]
 rw [this]
 have k2 : Ext s.heap h' := hk
 exact q _ _ (S.ext k2 rfl rfl) k2.evo
theorem zid {b : List UInt8} {Q : Value → Shared → Prop} (S : St W F σ s) (h : σ a = some (.barr b)) (hz : b.length ≤ sizeLine) (q : ∀ t n, Q (.bytes ⟨b⟩ t) { s with toks := n }) : wpAny W.M A (call (.type "bytes") [.ref a]) Q E s :=
 zgr (S.barr h) hz q
theorem zn3 {x z : Int} {t u : Tok} {Q : Value → Shared → Prop} (hh : A.handled = none) (S : St W F σ s) (q : ∀ t s', St W F σ s' → Evo s.heap s'.heap → Q (.int (if z < x then z else x) t) s') : wpAny W.M A (call (.builtin "min") [.int x t, .int z u]) Q E s := by
 refine min_two_ints hh fun h' tk k => ?_
 have k2 : Ext s.heap h' := k
 by_cases hc : z < x
 ·have := q u { s with heap := h', toks := tk } (S.ext k2 rfl rfl) k2.evo
  rw [if_pos hc] at this ⊢; exact this
 ·have := q t { s with heap := h', toks := tk } (S.ext k2 rfl rfl) k2.evo
  rw [if_neg hc] at this ⊢; exact this
theorem zh9 {n : Int} {L : Nat} (h : 0 ≤ n) : (max 0 (min n (L : Int))).toNat = min n.toNat L := by
 obtain ⟨k, rfl⟩ := Int.eq_ofNat_of_zero_le h
 rcases Nat.le_total k L with e | e
 ·rw [Int.min_eq_left (Int.ofNat_le.mpr e), Int.max_eq_right (Int.natCast_nonneg _)]; exact (Nat.min_eq_left e).symm
 ·rw [Int.min_eq_right (Int.ofNat_le.mpr e), Int.max_eq_right (Int.natCast_nonneg _)]; exact (Nat.min_eq_right e).symm
theorem zr9 {b : List UInt8} {n : Int} (h0 : 0 ≤ n) : KBy.picked ⟨b⟩ none (some n) = ⟨b.take n.toNat⟩ := by
 rw [KBc.picked_eq]
 simp only [Option.elim, List.drop_zero, Nat.sub_zero, clipAt, if_neg (Int.not_lt.mpr h0), List.size_toArray]
 rw [zh9 h0, ← List.take_eq_take_min]
theorem zjn {b : List UInt8} {i j : Int} (h0 : 0 ≤ i) (h1 : i ≤ j) (h2 : j ≤ b.length) : KBy.picked ⟨b⟩ (some i) (some j) = ⟨(b.take j.toNat).drop i.toNat⟩ := by
 rw [KBc.picked_eq]
 simp only [Option.elim, clipAt, if_neg (Int.not_lt.mpr h0), if_neg (Int.not_lt.mpr (Int.le_trans h0 h1)), List.size_toArray]
 rw [zh9 h0, zh9 (Int.le_trans h0 h1), Nat.min_eq_left (Int.toNat_le.mpr (Int.le_trans h1 h2)), Nat.min_eq_left (Int.toNat_le.mpr h2), List.drop_take]
theorem zdo {b c : List UInt8} {t : Tok} {sl : Addr} {l u : Value} {lo hi : Option Int} {Q : Value → Shared → Prop} (hs : s.heap.IsSliceOf sl l u .none) (hl : IsPart l lo) (hu : IsPart u hi) (e : KBy.picked ⟨b⟩ lo hi = ⟨c⟩) (hz : c.length ≤ sizeLine)
  (q : ∀ t n, Q (.bytes ⟨c⟩ t) { s with toks := n }) : wpAny W.M A (getItem (.bytes ⟨b⟩ t) (.ref sl)) Q E s :=
 getItem_meets (typeIs_bytes _ _ _) (by decide) FB.slot_bytes_getitem FB.entry_bytes_getitem (FB.args_bytes_getitem_2 _ _) (KBc.meets_slice2 ⟨b⟩ t _ hl hu)
  ⟨hs, by rw [e]; exact hz, fun t' k => by rw [e]; exact q _ _⟩
theorem zne {items : Array Value} {n : Int} (h0 : 0 ≤ n) : slicePick items none (some n) none = (items.toList.take n.toNat).toArray := by
 rw [kms_pick_eq]
 unfold kms_pick kms_lo kms_hi
 simp only [List.drop_zero, Nat.sub_zero, if_neg (show ¬ n < 0 by exact Int.not_lt.mpr h0), Array.length_toList]
 congr 1
 by_cases h : n.toNat ≤ items.size
 ·rw [Nat.min_eq_left h]
 ·rw [List.take_of_length_le (by rw [Array.length_toList]; lia -abstractProof), List.take_of_length_le (by rw [Array.length_toList]; exact Nat.le_of_lt (Nat.not_le.mp h))]
theorem zgf {n : Int} {sl : Addr} {t : Tok} {Q : Value → Shared → Prop} (S : St W F σ s) (h : zd3 σ a = some vs) (hs : s.heap.IsSliceOf sl .none (.int n t) .none) (h0 : 0 ≤ n)
  (q : ∀ b s', σ b = none → St W F (σ.set b (.list (vs.take n.toNat))) s' → Evo s.heap s'.heap → Q (.ref b) s') : wpAny W.M A (getItem (.ref a) (.ref sl)) Q E s := by
 obtain ⟨items, hl, hzz, r⟩ := S.seen h
 have hsz := zc2 r
 refine wpAny_getItem_list_slice hl hs .none (.int n t) .none (by simp) ?_ (by exact Nat.le_trans (Nat.le_of_eq hsz) hzz)
 rw [zne h0]
 have k : Ext s.heap (s.heap.push { cls := .type "list", data := .seq (items.toList.take n.toNat).toArray }) := Ext.push _ _
 refine q _ _ (S.free (zbl _)) (S.newList (zbl _) k ⟨(items.toList.take n.toNat).toArray, _, Heap.get?_push_size _ rfl, ?_, ?_⟩ rfl rfl) k.evo
 ·rw [List.length_take]; exact Nat.le_trans (Nat.min_le_right _ _) hzz
 ·rw [List.toList_toArray]; exact (r.take _).evo k.evo
end
end
section
namespace BF
theorem slot_append : Slot "bytearray" "append" "bytearray.append" :=
 .of (owner := "bytearray") (n := "append") (by rw [typeLookup_type, builtinLookup_eq_fast]; kernel_rfl) (by decide +kernel) (by decide +kernel) (by decide +kernel)
  (by first | exact .inl (by decide +kernel) | exact .inr (by decide +kernel)) (by rw [isSubtype_type]; kernel_rfl)
theorem slot_extend : Slot "bytearray" "extend" "bytearray.extend" :=
 .of (owner := "bytearray") (n := "extend") (by rw [typeLookup_type, builtinLookup_eq_fast]; kernel_rfl) (by decide +kernel) (by decide +kernel) (by decide +kernel)
  (by first | exact .inl (by decide +kernel) | exact .inr (by decide +kernel)) (by rw [isSubtype_type]; kernel_rfl)
theorem zmt : Slot "bytearray" "__init__" "bytearray.__init__" :=
 .of (owner := "bytearray") (n := "__init__") (by rw [typeLookup_type, builtinLookup_eq_fast]; kernel_rfl) (by decide +kernel) (by decide +kernel) (by decide +kernel)
  (by first | exact .inl (by decide +kernel) | exact .inr (by decide +kernel)) (by rw [isSubtype_type]; kernel_rfl)
theorem entry_append : entryFor table "bytearray.append" = some Builtin.«bytearray.append» := entryFor_of_tree (by kernel_rfl)
theorem entry_extend : entryFor table "bytearray.extend" = some Builtin.«bytearray.extend» := entryFor_of_tree (by kernel_rfl)
theorem entry_init : entryFor table "bytearray.__init__" = some Builtin.«bytearray.__init__» := entryFor_of_tree (by kernel_rfl)
theorem args_append (a b : Value) : argsOk "bytearray.append" ⟨[a, b], []⟩ := by unfold argsOk; kernel_rfl
theorem args_extend (a b : Value) : argsOk "bytearray.extend" ⟨[a, b], []⟩ := by unfold argsOk; kernel_rfl
theorem args_init (a : Value) : argsOk "bytearray.__init__" ⟨[a], []⟩ := by unfold argsOk; kernel_rfl
theorem type_append : typeOf (.builtin "bytearray.append") = pure (.type "method_descriptor") := by show builtinType _ = _; rw [builtinType_eq_fast]; kernel_rfl
theorem type_extend : typeOf (.builtin "bytearray.extend") = pure (.type "method_descriptor") := by show builtinType _ = _; rw [builtinType_eq_fast]; kernel_rfl
theorem plain_barr : PlainAttrs "bytearray" :=
 ⟨⟨"bytearray.__getattribute__", by rw [typeLookup_type, builtinLookup_eq_fast]; kernel_rfl, by decide +kernel⟩, by rw [typeLookup_type, builtinLookup_eq_fast]; kernel_rfl⟩
end BF
section
variable {W : Wd} {A : Around} {E : Value → Shared → Prop} {F : Led} {σ : Sto} {s : Shared} {a : Addr} {b c : List UInt8} {R : Result → Shared → Prop}
theorem ze0 {id : String} {args : Args} {B : Builtin} (hp : plainId id = true) (hcl : heldIds.contains id = false) (hb : entryFor table id = some B)
  (h : wpAny W.M A.in1 (checkBuiltinCall id args) (fun _ s₁ => wc W.M A.in1 (B args) (fun fin s' => match fin with | .done f => R (.ok f) s' | .again c' => c'.quiet = true ∧ zb6 W.M A c' R s') (fun e s' => R (.error e) s') s₁) (fun e s' => R (.error e) s') s) :
  zb6 W.M A (.call (.builtin id) args) R s := by
 refine zaz rfl ?_
 show wc _ A.in1 (do checkBuiltinCall id args; again (.builtin id args)) _ _ s
 refine zaf (wpAny_mono h (fun _ s₁ h₁ => zaj (And.intro (plainId_quiet hp args) (zaz (by show (!heldIds.contains id) = true; rw [hcl]; rfl) ?_))) fun _ _ e => e)
 show wc _ _ (match entryFor table id with | some b => b args | none => unsupported ((withoutEnding? id "#data").getD id)) _ _ s₁
 rw [hb, Around.under_plainId hp]; exact h₁
theorem zdq {T : String} {name : Str} {id : String} {B : Builtin} {self : Value} {rest : List Value} {Q : Value → Shared → Prop} (slot : Slot T name id) (hT : s.TypeIs self T) (hcl : heldIds.contains id = false) (entry : entryFor table id = some B) (args : argsOk id ⟨self :: rest, []⟩)
  (h : wc W.M A.in1 (B ⟨self :: rest, []⟩) (fun fin s' => ∃ v, fin = .done (.ret v) ∧ Q v s') E s) : wc W.M A (call (.builtin id) (self :: rest)) Q E s :=
 ze8 (ze0 slot.plain hcl entry (slot.check _ _ _ _ _ _ _ _ hT args (zaa h (fun fin s' ⟨v, e, z⟩ => by subst e; exact z) fun _ _ z => z)))
theorem zea {b : Array UInt8} {Q : Unit → Shared → Prop} (ha : s.heap.get? a = some { cls := .type "bytearray", data := .bytearray b }) (q : Q () s) : wc W.M A (Builtin.Bytes.checkResize (.ref a)) Q E s := by
 unfold Builtin.Bytes.checkResize
 refine zab ?_
 refine zab (zf0 ?_)
 refine zab ?_
 unfold Builtin.Bytes.exportsOf
 refine zah ?_
 refine wpAny_bind (wpAny_load ha (wpAny_pure ?_))
 exact zaj (zat (show ¬ (decide ((0 : Nat) > 0) = true) by decide) (zaj q))
theorem zef {b : Array UInt8} {f : Array UInt8 → Array UInt8} {Q : Unit → Shared → Prop} (ha : s.heap.get? a = some { cls := .type "bytearray", data := .bytearray b }) (hz : (f b).size ≤ sizeLine)
  (q : Q () { s with heap := s.heap.update a (Obj.mapBytearray f) }) : wpAny W.M A (Builtin.Bytes.write (.ref a) f) Q E s := by
 show wpAny _ _ (updateBytearray a f) _ _ _
 unfold updateBytearray
 refine wpAny_bind (wpAny_load ha ?_)
 refine wpAny_bind (wpAny_update ha ?_)
 refine wpAny_lookBehind (Heap.get?_update_self _ ha rfl) ?_ q
 show Data.pastItsLine (.bytearray (f b)) = none
 unfold Data.pastItsLine
 simp; exact hz
theorem St.write {f : Array UInt8 → Array UInt8} {t : Nat} (S : St W F σ s) (h : σ a = some (.barr b)) (hf : f ⟨b⟩ = ⟨c⟩) : St W F (σ.set a (.barr c)) { s with heap := s.heap.update a (Obj.mapBytearray f), toks := t } ∧ Evo s.heap (s.heap.update a (Obj.mapBytearray f)) := by
 have D := S.barr h
 have k : Heap.ExtBut a s.heap (s.heap.update a (Obj.mapBytearray f)) := fun b o hb e => (Heap.get?_update_other _ _ (Ne.symm hb)).trans e
 have h' : (s.heap.update a (Obj.mapBytearray f)).get? a = some { cls := .type "bytearray", data := .bytearray (f ⟨b⟩) } := Heap.get?_update_self _ D rfl
 rw [hf] at h'
 have ev : Evo s.heap (s.heap.update a (Obj.mapBytearray f)) := zel k D h' (Den.noTup (W := W) (ob := .barr b) D D) (fun vs e => by cases e)
 exact ⟨S.turnBarr h k ev h' rfl rfl, ev⟩
theorem zkd {i : Int} {t : Tok} {Q : Value → Shared → Prop} (S : St W F σ s) (h : σ a = some (.barr b)) (h0 : 0 ≤ i ∧ i < 256 ∧ b.length < zap) (q : ∀ s', St W F (σ.set a (.barr (b ++ [UInt8.ofNat i.toNat]))) s' → Evo s.heap s'.heap → Q .none s') :
  wc W.M A (call (.builtin "bytearray.append") [.ref a, .int i t]) Q E s := by
 have D := S.barr h
 have hm : zap < sizeLine := by decide
 refine zdq BF.slot_append ⟨_, D, rfl⟩ (by decide +kernel) BF.entry_append (BF.args_append _ _) ?_
 unfold Builtin.«bytearray.append»
 refine zaf (wpAny_of_eq (a := (.ref a, .int i t)) rfl ?_)
 refine zaf ?_
 unfold Builtin.Bytes.byteValue
 refine wpAny_bind (wpAny_of_eq (a := i) rfl ?_)
 refine bm_if_false (by simp; exact ⟨h0.1, h0.2.1⟩) ?_
 refine wpAny_pure ?_
 refine zab (zea D ?_)
 obtain ⟨S', ev⟩ := S.write (t := s.toks) (f := fun x => x.push i.toNat.toUInt8) (c := b ++ [UInt8.ofNat i.toNat]) h (by apply Array.ext'; rw [Array.toList_push])
 refine zaf (zef D (by rw [Array.size_push]; show b.length + 1 ≤ sizeLine; exact Nat.lt_of_lt_of_le h0.2.2 (by decide)) ?_)
 exact zaj ⟨_, rfl, q _ S' ev⟩
theorem zi3 {c : Array UInt8} {t : Tok} {full : Bool} {id : String} {Q : Option (Array UInt8) → Shared → Prop} (q : Q (some c) s) : wpAny W.M A (Builtin.Bytes.buffer? id (.bytes c t) full) Q E s := by
 unfold Builtin.Bytes.buffer?
 refine wpAny_bind (wpAny_specialOf (typeIs_bytes _ _ _) BF.by_buffer ?_)
 refine wpAny_bind (wpAny_of_eq KBy.own_buffer ?_)
 refine bm_if_false rfl ?_
 refine wpAny_bind (wpAny_specialOf (typeIs_bytes _ _ _) BF.by_buffer ?_)
 refine wpAny_bind ?_
 unfold Builtin.Bytes.ownRelease Builtin.Bytes.slotIsOwn
 refine wpAny_bind (wpAny_bind (wpAny_specialOf (typeIs_bytes _ _ _) BF.by_release (wpAny_pure (wpAny_pure ?_))))
 refine bm_if_false rfl ?_
 exact wpAny_bind (wpAny_of_eq (a := c) rfl (wpAny_pure q))
theorem zk8 {c : Array UInt8} {t : Tok} {id : String} {Q : Option (Array UInt8 × Option Value) → Shared → Prop} (q : Q (some (c, none)) s) : wpAny W.M A (Builtin.Bytes.takeBufferQuiet? id (.bytes c t) 0) Q E s := by
 unfold Builtin.Bytes.takeBufferQuiet?
 refine wpAny_bind (wpAny_attempt ?_)
 unfold Builtin.Bytes.takeBuffer?
 refine wpAny_bind (wpAny_specialOf (typeIs_bytes _ _ _) BF.by_buffer ?_)
 refine wpAny_bind (wpAny_of_eq KBy.own_buffer ?_)
 refine bm_if_false rfl ?_
 refine wpAny_bind (wpAny_specialOf (typeIs_bytes _ _ _) BF.by_buffer ?_)
 exact wpAny_bind (zi3 (wpAny_pure (wpAny_pure q)))
theorem zkc {t : Tok} {Q : Value → Shared → Prop} (S : St W F σ s) (h : σ a = some (.barr b)) (hz : b.length + c.length < zap) (q : ∀ s', St W F (σ.set a (.barr (b ++ c))) s' → Evo s.heap s'.heap → Q .none s') :
  wc W.M A (call (.builtin "bytearray.extend") [.ref a, .bytes ⟨c⟩ t]) Q E s := by
 have D := S.barr h
 have hm : zap < sizeLine := by decide
 refine zdq BF.slot_extend ⟨_, D, rfl⟩ (by decide +kernel) BF.entry_extend (BF.args_extend _ _) ?_
 unfold Builtin.«bytearray.extend»
 refine zaf (wpAny_of_eq (a := (.ref a, .bytes ⟨c⟩ t)) rfl ?_)
 refine zaf (wpAny_specialOf (typeIs_bytes _ _ _) BF.by_buffer ?_)
 refine zbu rfl ?_
 refine zaf (wpAny_rule ?_)
 refine zaf (zfl D ?_)
 refine zaf (zk8 ?_)
 dsimp only
 refine zbu rfl ?_
 obtain ⟨S', ev⟩ := S.write (t := s.toks) (f := fun x => x ++ ⟨c⟩) (c := b ++ c) h (zn2 b c)
 have hw : ∀ Q' : Unit → Shared → Prop, Q' () { s with heap := s.heap.update a (Obj.mapBytearray fun x => x ++ ⟨c⟩) } → wpAny W.M A.in1 (Builtin.Bytes.write (.ref a) fun x => x ++ ⟨c⟩) Q' E s := fun Q' z => zef D (by rw [zn2]; show (b ++ c).length ≤ sizeLine; rw [List.length_append]; exact Nat.le_of_lt (Nat.lt_of_lt_of_le hz (by decide))) z
 show wc _ _ (if (!(⟨c⟩ : Array UInt8).isEmpty) = true then (Builtin.Bytes.checkResize (.ref a) >>= fun _ => (Builtin.Bytes.write (.ref a) (fun x => x ++ ⟨c⟩) >>= fun _ => ret .none)) else (Builtin.Bytes.write (.ref a) (fun x => x ++ ⟨c⟩) >>= fun _ => ret .none)) _ _ _
 by_cases hc : (!(⟨c⟩ : Array UInt8).isEmpty) = true
 ·refine zbu hc (zab (zea D ?_))
  exact zaf (hw _ (zaj ⟨_, rfl, q _ S' ev⟩))
 ·refine zat hc ?_
  exact zaf (hw _ (zaj ⟨_, rfl, q _ S' ev⟩))
end
end
section
namespace BF
theorem zkt : mroOf (.type "bytearray") = pure [.type "bytearray", .type "object"] := by rw [mroOf_type]; kernel_rfl
theorem zlo : typeLookup (.type "bytearray") "__new__" = pure (some (.builtin "bytearray.__new__")) := by rw [typeLookup_type, builtinLookup_eq_fast]; kernel_rfl
theorem called : TypeCalled "bytearray" "bytearray.__new__" "bytearray.__init__" :=
 ⟨by decide +kernel, by decide +kernel, ⟨_, _, zkt⟩, madeBy_type zkt zlo (by decide +kernel), by decide +kernel, PySem.F.isi_self_bytearray, zmt⟩
theorem typeCall0 : checkTypeCall "bytearray" ⟨[], []⟩ = pure () := by kernel_rfl
theorem newCall0 : checkBuiltinCall "bytearray.__new__" ⟨[.type "bytearray"], []⟩ = pure () := by kernel_rfl
theorem entry_new : entryFor table "bytearray.__new__" = some Builtin.«list.__new__» := entryFor_alias (id' := "list.__new__") (by kernel_rfl) (by decide +kernel) (by decide +kernel) (by kernel_rfl)
theorem plain_new : plainId "bytearray.__new__" = true := by decide +kernel
theorem bind0 : Builtin.Bytes.bindOptional "bytearray.__init__" "bytearray" ["source", "encoding", "errors"] [] [] = pure [none, none, none] := by kernel_rfl
end BF
set_option maxRecDepth 1000000 in
set_option maxHeartbeats 4000000 in
theorem zgy : ("bytearray.__new__".splitOn ".__new__").headD "" = "bytearray" := by simp +decide [String.splitOn, String.splitOnAux]
section
variable {W : Wd} {A : Around} {E : Value → Shared → Prop} {F : Led} {σ : Sto} {s : Shared}
theorem zeu : heldIds.contains "type.__call__" = false := by decide +kernel
theorem ze1 {id : String} {args : Args} {B : Builtin} {R : Result → Shared → Prop} (hcl : heldIds.contains id = false) (hb : entryFor table id = some B)
  (h : wc W.M (A.under (.builtin id args)) (B args) (fun fin s' => match fin with | .done f => R (.ok f) s' | .again c' => c'.quiet = true ∧ zb6 W.M A c' R s') (fun e s' => R (.error e) s') s) : zb6 W.M A (.builtin id args) R s := by
 refine zaz (by show (!heldIds.contains id) = true; rw [hcl]; rfl) ?_
 show wc _ _ (match entryFor table id with | some b => b args | none => unsupported ((withoutEnding? id "#data").getD id)) _ _ s
 rw [hb]; exact h
theorem zh8 {Q₁ : Value → Shared → Prop}
  (h : Q₁ (.ref s.heap.objs.size) { s with heap := s.heap.push { cls := .type "bytearray", data := .bytearray #[] } }) :
  codeAny W.M A (.call (.builtin "bytearray.__new__") ⟨[.type "bytearray"], []⟩) (wants Q₁ E) s := by
 refine codeAny_of_tree ?_
 show wpAny _ A.in1 (do checkBuiltinCall "bytearray.__new__" ⟨[.type "bytearray"], []⟩; again (.builtin "bytearray.__new__" ⟨[.type "bytearray"], []⟩)) _ _ s
 refine wpAny_bind (wpAny_of_eq BF.newCall0 (wpAny_pure ⟨plainId_quiet BF.plain_new _, codeAny_builtin_stack BF.entry_new rfl fun p st => ?_⟩))
 rw [Around.under_plainId BF.plain_new _]
 have hsub := PySem.F.isi_self_bytearray
 have hown := zgy
 obtain ⟨hp, g, d, tk, os⟩ := s
 simp only [hown]
 wp_walk
 exact h
theorem zor {Q : Value → Shared → Prop} (S : St W F σ s) (q : ∀ b s', σ b = none → St W F (σ.set b (.barr [])) s' → Evo s.heap s'.heap → Q (.ref b) s') : wc W.M A (call (.type "bytearray") []) Q E s := by
 have ft := BF.called
 obtain ⟨c, tl, hmro⟩ := ft.mro
 refine ze8 (zaz rfl ?_)
 show wc _ _ (callAny (.type "bytearray") _) _ _ _
 refine zaj (a := Fin.again (.builtin "type.__call__" ⟨[.type "bytearray"], []⟩)) ⟨Code.quiet_builtin _ (by decide +kernel), ze1 zeu PySem.F.entry_type_call ?_⟩
 rw [Around.under_plain (weight_type_call_type "bytearray" [] []) rfl]
 unfold Builtin.«type.__call__»
 dsimp only
 refine zat (by rw [ft.notType]; decide) ?_
 refine zat (by rw [ft.canCreate]; decide) ?_
 refine zaf (wpAny_of_eq BF.typeCall0 ?_)
 refine zaf (wpAny_of_eq hmro ?_)
 refine zat (by simp) ?_
 refine zaf (wpAny_of_eq ft.made ?_)
 dsimp only
 refine zaf (wpAny_pure ?_)
 refine zaf (wpAny_holding (wpAny_call (codeAny_mono (zh8 (Q₁ := fun v s' => v = .ref s.heap.objs.size ∧ s' = { s with heap := s.heap.push { cls := .type "bytearray", data := .bytearray #[] } }) (E := fun _ _ => False) ⟨rfl, rfl⟩) fun r s' z => ?_)))
 rcases r with e | (v | _ | _ | _) <;> first | exact z.elim | skip
 obtain ⟨rfl, rfl⟩ := z
 have D : (s.heap.push { cls := .type "bytearray", data := .bytearray #[] }).get? s.heap.objs.size = some { cls := .type "bytearray", data := .bytearray #[] } := Heap.get?_push_size _ rfl
 have hT : ({ s with heap := s.heap.push { cls := .type "bytearray", data := .bytearray #[] } } : Shared).TypeIs (.ref s.heap.objs.size) "bytearray" := ⟨_, D, rfl⟩
 refine zaf (wpAny_isInstance hT PySem.F.isi_self_bytearray ?_)
 refine zat (by decide) ?_
 refine zab (zam ?_)
 unfold callSpecial?
 refine zaf (wpAny_specialOf hT ft.init.lookup ?_)
 simp only [ft.init.bind]
 refine zam (zaf (wpAny_pure ?_))
 refine zab (zdq ft.init hT (by decide +kernel) BF.entry_init (BF.args_init _) ?_)
 unfold Builtin.«bytearray.__init__»
 refine zaf (zgb hT ?_)
 refine zat (by decide) ?_
 refine zaf (wpAny_of_eq BF.bind0 ?_)
 refine zaf (wpAny_of_eq (a := ()) rfl ?_)
 refine zaf (wpAny_of_eq (a := ()) rfl ?_)
 have hex : ∀ {A' : Around} {E' : Value → Shared → Prop} {Q' : Bool → Shared → Prop} {s' : Shared}, s'.heap.get? s.heap.objs.size = some { cls := .type "bytearray", data := .bytearray #[] } → Q' false s' →
   wc W.M A' (Builtin.Bytes.exported (.ref s.heap.objs.size) <||> do let n ← Builtin.Bytes.exportsOf (.ref s.heap.objs.size); pure (decide (n > 0))) Q' E' s' := fun hd z => by
  refine zab (zf0 ?_)
  refine zab ?_
  unfold Builtin.Bytes.exportsOf
  exact zah (wpAny_bind (wpAny_load hd (wpAny_pure (zaj z))))
 refine zab (hex D ?_)
 refine zat (by decide) ?_
 obtain ⟨S', ev⟩ : St W F (σ.set s.heap.objs.size (.barr [])) { s with heap := (s.heap.push { cls := .type "bytearray", data := .bytearray #[] }).update s.heap.objs.size (Obj.mapBytearray fun _ => #[]) } ∧ Evo s.heap ((s.heap.push { cls := .type "bytearray", data := .bytearray #[] }).update s.heap.objs.size (Obj.mapBytearray fun _ => #[])) := by
  have k : Ext s.heap ((s.heap.push { cls := .type "bytearray", data := .bytearray #[] }).update s.heap.objs.size (Obj.mapBytearray fun _ => #[])) := fun b o e =>
   (Heap.get?_update_other _ _ (Nat.ne_of_gt (Heap.lt_size e))).trans (Heap.get?_push_of_some _ e)
  exact ⟨S.newBarr (zbl _) k (Heap.get?_update_self _ D rfl) rfl rfl, k.evo⟩
 refine zaf (zef D (Nat.zero_le _) ?_)
 dsimp only
 refine zaf (wpAny_pure ?_)
 refine zaj ⟨_, rfl, ?_⟩
 refine zaj ?_
 refine zat (by decide) ?_
 exact zaj (q _ _ (S.free (zbl _)) S' ev)
end
end
section
section
variable {M : Model} {A : Around} {E : Value → Shared → Prop} {s : Shared}
theorem zaq {Q : List Value → Shared → Prop} (h : Q [] s) : wc M A (spliced []) Q E s := zaj h
theorem zao {x : Sem Value} {rest : List (Bool × Sem Value)} {Q : List Value → Shared → Prop}
  (h : wc M A x (fun v s₁ => wc M A (spliced rest) (fun vs s₂ => Q (v :: vs) s₂) E s₁) E s) : wc M A (spliced ((false, x) :: rest)) Q E s := by
 rw [spliced]
 refine zab (zaa h (fun v s₁ h₁ => ?_) fun _ _ x => x)
 simp only [Bool.false_eq_true, if_false]
 exact zab (zaj (zab (zam (zaa h₁ (fun vs s₂ h₂ => zaj h₂) fun _ _ x => x))))
theorem zjh {f : Value} {ts : List (Sem Value)} {Q : Args → Shared → Prop}
  (h : wc M A (spliced (ts.map (false, ·))) (fun vs s' => Q ⟨vs, []⟩ s') E s) : wc M A (evalArgs f true (ts.map (false, ·)) []) Q E s := by
 cases ts with
 | nil =>
  unfold evalArgs
  show wc M A (spliced [] >>= _) Q E s
  refine zab (zaa h (fun vs s' h' => ?_) fun _ _ x => x)
  refine zab (zaj (zam ?_))
  exact zab (zaj (zab (zaj (zaj h'))))
 | cons x r =>
  unfold evalArgs
  show wc M A (spliced ((false, x) :: r.map (false, ·)) >>= _) Q E s
  refine zab (zaa h (fun vs s' h' => ?_) fun _ _ x => x)
  refine zam ?_
  exact zab (zaj (zab (zaj (zaj h'))))
theorem zrk {α : Type} {vs : List Value} {m : Sem α} {Q : α → Shared → Prop} (h : wc M A m Q E s) : wc M A (m.keep vs) Q E s :=
 fun Γ p hΓ a b => by rw [Sem.wp_keep]; exact h Γ p hΓ a b
theorem zol (ts : List (Sem Value)) : (ts.map (false, ·) : List (Bool × Sem Value)).any (·.1) = false := by
 induction ts with
 | nil => rfl
 | cons x r ih => rw [List.map_cons, List.any_cons, ih]; rfl
theorem zcs {pos : Pos} {f : Value} {k : Keeper} {first : List Value} {ts : List (Sem Value)} {Q : Value → Shared → Prop} (hk : k = .frame ∨ k = .machine) (hn : ts.length ≤ 20)
  (h : wc M A (spliced (ts.map (false, ·))) (fun vs s₁ => (∀ Q' : Keeper → Shared → Prop, Q' k s₁ → wpAny M A (keeperOf f) Q' E s₁) ∧ wc M A (call f (first ++ vs)) Q E s₁) E s) :
  wc M A (callWith pos f first (ts.map (false, ·)) []) Q E s := by
 unfold callWith
 refine zab (zam (zjh (zaa h (fun vs s₁ h₁ => ?_) fun _ _ x => x)))
 refine zag ?_
 have tail : ∀ {t : Sem Value}, wc M A t Q E s₁ → wc M A (t >>= fun r => holding [r] point >>= fun _ => pure r) Q E s₁ :=
  fun ht => zab (zaa ht (fun r s₂ hr => zab (zam (zah (wpAny_point (zaj hr))))) fun _ _ x => x)
 rw [zol]
 refine zaf (h₁.1 _ ?_)
 rcases hk with rfl | rfl
 ·dsimp only
  have : ¬ (ts.map (false, ·) : List (Bool × Sem Value)).length + 2 * ([] : List (Option Str × Sem Value)).length > 30 := by simp; exact Nat.le_trans hn (by decide)
  rw [show ((false || ([] : List (Option Str × Sem Value)).any (fun x => x.1.isNone)) = false) from rfl]
  dsimp only
  rw [if_neg this]
  exact tail (zrk h₁.2)
 ·exact tail h₁.2
end
end
section
noncomputable def zud (A : Around) (F : Led) : Prop := ∀ fr, A.frames = some fr → ∀ e ∈ fr, ∀ L, e.frame = some L → ∃ ns, (L, Ob.frame ns) ∈ F
noncomputable def RP (W : Wd) (F : Led) (s₀ : Shared) (B : BP) (Q : QP) : Result → Shared → Prop
 | .ok (.ret v), s' => VP W F s₀ Q v s'
 | .ok _, _ => False
 | .error e, s' => EP W F none s₀ B e s'
noncomputable def zcd (W : Wd) (C : Orc) (r : Nat) : Prop := ∀ g vs σ B Q, C g vs σ B Q → ∀ (A : Around) (F : Led) (s : Shared) (vals : List Value), Room r A → zud A F → Ctx W A s.heap → St W F σ s → RvL s.heap vs vals →
 zb6 W.M A (.call (.ref (W.fa g)) ⟨vals, []⟩) (RP W F s B Q) s
theorem EP.lift {W : Wd} {F : Led} {lo : Option Addr} {s₀ : Shared} {B : BP} {e : Value} {s' : Shared} (h : EP W F none s₀ B e s') : EP W F lo s₀ B e s' := by
 obtain ⟨σ', ⟨ex, a0, h1, h2, h3⟩, b, c, d⟩ := h
 refine ⟨σ', ⟨ex, a0, h1, h2, h3.imp id ?_⟩, b, c, d⟩
 rintro ⟨fl, h4, h5⟩
 refine ⟨fl, h4.imp id ?_, h5⟩
 rintro ⟨L, q, _⟩
 cases q
theorem zj4 {sc : Scope} {vars uv : Vars} {x : X} {e : Expr} {p : Pos} (h : chkX sc vars uv x (.Starred e p) = true) : False := by
 cases x <;> exact bad h
theorem zlc {sc : Scope} {vars uv : Vars} {x : X} {e : Expr} {rest : List Expr} {env : Env} (h : chkX sc vars uv x e = true) : starEach (e :: rest) env = (false, eval e env) :: starEach rest env := by
 cases e <;> first | rfl | exact (zj4 h).elim
theorem zcq {sc : Scope} {vars uv : Vars} {pos : Pos} {env : Env} : ∀ {xs : Xs} {es : List Expr}, zde sc vars uv xs es = true → backTo pos (starEach es env) = (evalEach es env).map (false, ·)
 | .nil, es, h => nilE (P := fun es => backTo pos (starEach es env) = (evalEach es env).map (false, ·)) h (by rfl)
 | .cons x xs, es, h => zgm (P := fun es => backTo pos (starEach es env) = (evalEach es env).map (false, ·)) h fun e es h => andE h fun h1 h2 => by
  rw [zlc h1]
  have ih := zcq (pos := pos) (env := env) h2
  show (false, eval e env) :: backTo pos (starEach es env) = (false, eval e env) :: (evalEach es env).map (false, ·)
  rw [ih]
theorem zby {env : Env} : ∀ (es : List Expr), (evalEach es env).length = es.length
 | [] => rfl
 | _ :: es => by show (evalEach es env).length + 1 = _; rw [zby es]; rfl
set_option tactic.hygienic true in
theorem zee {o : Expr} {attr : Str} {env : Env} {w : Sem Value} (h : zbp o = true) : attributeBase o attr env w = w := by
 cases o <;> first | rfl | skip
 rename_i f as ks p
 cases f <;> first | rfl | skip
 cases as <;> first | rfl | skip
 cases ks <;> first | rfl | exact bad h
section
variable (W : Wd) (C : Orc) (A : Around) (env : Env) (ρ υ : Loc) (F : Led)
noncomputable def SL (x : Xs) (es : List Expr) : Prop := ∀ σ s B Q, Ctx W A s.heap → St W F σ s → wpXs C B ρ υ x σ Q → wc W.M A (spliced ((evalEach es env).map (false, ·))) (VPs W F s es.length Q) (EP W F env.frame s B) s
end
section
variable {W : Wd} {C : Orc} {A : Around} {sc : Scope} {env : Env} {vars uv : Vars} {ρ υ : Loc} {F : Led} {r : Nat}
theorem sl_nil : SL W C A env ρ υ F .nil [] := fun σ s B Q c S q => zaq ⟨_, σ, RvL.nil, S, Evo.refl _, q, rfl⟩
theorem zr0 {x : X} {xs : Xs} {e : Expr} {es : List Expr} (hx : SX W C A env ρ υ F x e) (hs : SL W C A env ρ υ F xs es) : SL W C A env ρ υ F (.cons x xs) (e :: es) := fun σ s B Q c S q => by
 refine zao (zaa (hx σ s B _ c S q) (fun v s1 ⟨mv, σ1, r1, S1, k1, q1⟩ => ?_) fun _ _ z => z)
 refine zaa (hs σ1 s1 B _ (c.evo k1) S1 q1) (fun vs s2 ⟨mvs, σ2, r2, S2, k2, q2, l2⟩ => ?_) fun _ _ z => z.from k1
 exact ⟨_, σ2, RvL.cons (r1.evo k2) r2, S2, k1.trans k2, q2, by rw [List.length_cons, List.length_cons, l2]⟩
theorem Here.ap (H : Here W A sc env vars ρ uv υ F r) : zud A F := H.apart
theorem Here.rm (H : Here W A sc env vars ρ uv υ F r) : Room r A := ⟨by have := H.room.1; exact Nat.lt_of_le_of_lt (Nat.add_le_add_right (Nat.le_add_right _ _) _) this, by have := H.room.2; exact Nat.lt_of_le_of_lt (Nat.add_le_add_right (Nat.le_add_right _ _) _) this⟩
theorem zig {s₀ s : Shared} {B : BP} {Q : QP} {lo : Option Addr} {f : Value} {vals : List Value} (h : zb6 W.M A (.call f ⟨vals, []⟩) (RP W F s B Q) s) (k : Evo s₀.heap s.heap) : wc W.M A (call f vals) (VP W F s₀ Q) (EP W F lo s₀ B) s :=
 ze8 (zcc h fun t s' z => by
  match t, z with
  | .error e, z => exact (EP.from (show EP W F none s B e s' from z) k).lift
  | .ok (.ret v), z => exact VP.from (show VP W F s Q v s' from z) k
  | .ok .next, z => exact z.elim
  | .ok .brk, z => exact z.elim
  | .ok .cont, z => exact z.elim)
theorem zit {a : Addr} {s : Shared} {E : Value → Shared → Prop} {oc : Value} {od : Option Addr} {fd : FuncData} {osl : Array (Option Value)} (h : s.heap.get? a = some ⟨oc, od, .func fd, osl⟩) {Q' : Keeper → Shared → Prop} (q : Q' .frame s) : wpAny W.M A (keeperOf (.ref a)) Q' E s := by
 unfold keeperOf
 exact wpAny_bind (wpAny_load h (wpAny_pure q))
theorem zrv {g : Nat} {f : Expr} {xs : Xs} {es : List Expr} {p : Pos} (H : Here W A sc env vars ρ uv υ F r) (cs : zcd W C r) (hf : za9 sc (zg0 g) f = true) (hg : isFn g = true) (hx : zde sc vars uv xs es = true) (hn : es.length ≤ 20) (hs : SL W C A env ρ υ F xs es)
  (hfn : Ex4 fun oc od osl fd => W.K.lookup (W.fa g) = some ⟨oc, od, .func fd, osl⟩) : SX W C A env ρ υ F (.call g xs) (.Call f es [] p) := fun σ s B Q c S q => by
 have hf' := hf
 obtain ⟨np, rfl, _, _⟩ := zcw hf
 show wc _ _ (do callWith p (← eval (.Name (zg0 g) np) env) [] (backTo p (starEach es env)) (backToKw p (keywordEach [] env))) _ _ _
 refine zaf (zgd H S hf' (H.pre.glob g (by rw [hg]; rfl)) ?_)
 rw [zcq hx]
 obtain ⟨oc, od, osl, fd, hk⟩ := hfn
 refine zcs (k := .frame) (.inl rfl) (by rw [zby]; exact hn) (zaa (hs σ s B _ c S q) (fun vs s1 ⟨mvs, σ1, r1, S1, k1, q1, _⟩ => ⟨fun Q' z => zit (H.pre.X.keeps S1.keep _ _ hk) z, ?_⟩) fun _ _ z => z)
 exact zig (cs g mvs σ1 B Q q1 A F s1 vs H.rm H.ap (c.evo k1) S1 r1) k1
end
end
section
section
variable {σ : Sto} {v w u : Va} {i m : Nat}
theorem znf {k : Va → Prop} (h : lenW σ v k) : (Ex2 fun a vs => A3 (v = .ref a) (σ a = some (.list vs)) (k (.int vs.length))) ∨ ∃ b, A3 (v = .bytes b) (b.length ≤ 16777216) (k (.int b.length)) := by
 cases v <;> first | exact h.elim | exact .inr ⟨_, rfl, h.1, h.2⟩ | exact let ⟨_, e, k⟩ := h; .inl ⟨_, _, rfl, e, k⟩
theorem zie {k : Va → Prop} (h : zdm σ v k) : (Ex3 fun a vs b => A4 (v = .ref a) (σ a = some (.list vs)) (octs vs = some b) (k (.bytes b))) ∨ (Ex2 fun a b => A4 (v = .ref a) (σ a = some (.barr b)) (b.length ≤ 16777216) (k (.bytes b))) ∨ ∃ b, v = .bytes b ∧ k (.bytes b) := by
 cases v <;> first | exact h.elim | exact .inr (.inr ⟨_, rfl, h⟩) | exact Or.elim h (fun ⟨_, _, e, e', k⟩ => .inl ⟨_, _, _, rfl, e, e', k⟩) fun ⟨_, e, e', k⟩ => .inr (.inl ⟨_, _, rfl, e, e', k⟩)
theorem znc {k : Va → Prop} (h : minW v w k) : Ex2 fun a b => A3 (v = .int a) (w = .int b) (k (.int (if b < a then b else a))) :=
 zjd (P := fun v => Ex2 fun a b => A3 (v = .int a) (w = .int b) (k (.int (if b < a then b else a)))) h fun a h => zjd (P := fun w => Ex2 fun a' b => A3 (Va.int a = .int a') (w = .int b) (k (.int (if b < a' then b else a')))) h fun b h => ⟨a, b, rfl, rfl, h⟩
theorem zim {k : Sq → Prop} (h : rngW v w k) : Ex2 fun a b => A4 (v = .int a) (w = .int b) ((-1000000000 < a ∧ a < 1000000000 ∧ -1000000000 < b ∧ b < 1000000000)) (k (.rng a b)) :=
 zjd (P := fun v => Ex2 fun a b => A4 (v = .int a) (w = .int b) ((-1000000000 < a ∧ a < 1000000000 ∧ -1000000000 < b ∧ b < 1000000000)) (k (.rng a b))) h fun a h =>
  zjd (P := fun w => Ex2 fun a' b => A4 (Va.int a = .int a') (w = .int b) ((-1000000000 < a' ∧ a' < 1000000000 ∧ -1000000000 < b ∧ b < 1000000000)) (k (.rng a' b))) h fun b h => ⟨a, b, rfl, rfl, h.1, h.2⟩
end
section
variable {W : Wd} {C : Orc} {A : Around} {sc : Scope} {env : Env} {vars uv : Vars} {ρ υ : Loc} {F : Led} {r : Nat}
theorem zbo {M : Model} {E : Value → Shared → Prop} {s : Shared} {o : Expr} {n : Str} {ap p : Pos} {ov : Value} {ts : List (Sem Value)} {Q : Value → Shared → Prop} (hap : (ap.endLine == p.line) = true) (hn : ts.length ≤ 20)
  (h : ∀ pl, wpAny M A (getMethod ov n pl) (fun fm s1 => wc M A (callWith p fm.1 fm.2 (ts.map (false, ·)) []) Q E s1) E s) : wc M A (methodCall o n ap p env ov (ts.length + 0) (ts.map (false, ·)) []) Q E s := by
 have hf : methodCallForm (ts.length + 0) (ts.map (false, ·) : List (Bool × Sem Value)) [] = true := by
  unfold methodCallForm
  have h1 : (ts.map (false, ·) : List (Bool × Sem Value)).all (!·.1) = true := by simp
  rw [h1]
  simp
  exact Nat.lt_of_le_of_lt hn (by decide)
 unfold methodCall
 rw [hf]
 refine zaf (wpAny_holding (wpAny_mono (h _) (fun fm s1 z => ?_) fun _ _ z => z))
 have hp : methodCallPos true o env ap p = pure p := by
  unfold methodCallPos
  rw [hap]; rfl
 rw [hp]
 exact zaf (wpAny_pure z)
theorem zec {f : Value} {E : Value → Shared → Prop} {s : Shared} {M : Model} {Q' : Keeper → Shared → Prop} (h : ∀ a, f ≠ .ref a) (q : Q' .machine s) : wpAny M A (keeperOf f) Q' E s := by
 cases f <;> first | exact wpAny_pure q | exact absurd rfl (h _)
theorem zfj {M : Model} {E : Value → Shared → Prop} {s : Shared} {p : Pos} {id : String} {first : List Value} {ts : List (Sem Value)} {Q : Value → Shared → Prop} (hn : ts.length ≤ 20)
  (h : wc M A (spliced (ts.map (false, ·))) (fun vs s₁ => wc M A (call (.builtin id) (first ++ vs)) Q E s₁) E s) : wc M A (callWith p (.builtin id) first (ts.map (false, ·)) []) Q E s :=
 zcs (k := .machine) (.inr rfl) hn (zaa h (fun vs s₁ h₁ => ⟨fun Q' z => zec (fun a e => nomatch e) z, h₁⟩) fun _ _ z => z)
theorem zg5 {M : Model} {E : Value → Shared → Prop} {s : Shared} {p : Pos} {T : String} {first : List Value} {ts : List (Sem Value)} {Q : Value → Shared → Prop} (hn : ts.length ≤ 20)
  (h : wc M A (spliced (ts.map (false, ·))) (fun vs s₁ => wc M A (call (.type T) (first ++ vs)) Q E s₁) E s) : wc M A (callWith p (.type T) first (ts.map (false, ·)) []) Q E s :=
 zcs (k := .machine) (.inr rfl) hn (zaa h (fun vs s₁ h₁ => ⟨fun Q' z => zec (fun a e => nomatch e) z, h₁⟩) fun _ _ z => z)
theorem zbz {v : Expr} {n : Str} {ap p : Pos} {es : List Expr} {xs : Xs} (hx : zde sc vars uv xs es = true) (hb : zbp v = true) :
  eval (.Call (.Attribute v n ap) es [] p) env = (do
   let ov ← eval v env
   standAt ap.atName
   methodCall v n ap p env ov ((evalEach es env).length + 0) ((evalEach es env).map (false, ·)) []) := by
 show (do
   let ov ← attributeBase v n env (eval v env)
   standAt ap.atName
   methodCall v n ap p env ov (es.length + 0) (backTo p (starEach es env)) []) = _
 rw [zee hb, zcq hx, zby]
set_option tactic.hygienic true in
theorem zdi {σ : Sto} {v : Va} (h : isList σ v = true) : Ex2 fun a vs => v = .ref a ∧ σ a = some (.list vs) := by
 cases v <;> first | cases h | skip
 rename_i a
 unfold isList at h
 dsimp only at h
 split at h
 ·exact ⟨a, _, rfl, by assumption⟩
 ·cases h
set_option tactic.hygienic true in
theorem zgg {σ : Sto} {v : Va} (h : zhg σ v = true) : Ex2 fun a b => v = .ref a ∧ σ a = some (.barr b) := by
 cases v <;> first | cases h | skip
 rename_i a
 unfold zhg at h
 dsimp only at h
 split at h
 ·exact ⟨a, _, rfl, by assumption⟩
 ·cases h
theorem zrr {o : X} {m : Nat} {xs : Xs} {v : Expr} {n : Str} {ap p : Pos} {es : List Expr} (H : Here W A sc env vars ρ uv υ F r) (cs : zcd W C r) (hap : (ap.endLine == p.line) = true) (hnm : n = zhu m) (hb : zbp v = true)
  (ho : SX W C A env ρ υ F o v) (hx : zde sc vars uv xs es = true) (hn : es.length ≤ 20) (hs : SL W C A env ρ υ F xs es) (hfn : ∀ g f, mth g m = some f → Ex4 fun oc od osl fd => W.K.lookup (W.fa f) = some ⟨oc, od, .func fd, osl⟩) :
  SX W C A env ρ υ F (.meth o m xs) (.Call (.Attribute v n ap) es [] p) := fun σ s B Q c S q => by
 subst hnm
 rw [zbz hx hb]
 refine zab (zaa (ho σ s B _ c S q) (fun va s1 ⟨mv, σ1, r1, S1, k1, q1⟩ => ?_) fun _ _ z => z)
 refine zag ?_
 obtain ⟨a, g, fs, f, rfl, hσ, hm, q1⟩ := q1
 have e := zb2 r1
 subst e
 refine zbo hap (by rw [zby]; exact hn) fun pl => ?_
 refine zh0 H.pre.X H.pre.cls S1 hσ hm ?_
 obtain ⟨oc, od, osl, fd, hk⟩ := hfn g f hm
 refine zcs (k := .frame) (.inl rfl) (by rw [zby]; exact hn) (zaa (hs σ1 s1 B _ (c.evo k1) S1 q1) (fun vs s2 ⟨mvs, σ2, r2, S2, k2, q2, _⟩ => ⟨fun Q' z => zit (H.pre.X.keeps S2.keep _ _ hk) z, ?_⟩) fun _ _ z => z.from k1)
 refine zig (cs f _ σ2 B Q q2 A F s2 _ H.rm H.ap (c.evo (k1.trans k2)) S2 (RvL.cons ?_ r2)) (k1.trans k2)
 simp only [Rv]
theorem ee1 {e : Expr} : evalEach [e] env = [eval e env] := rfl
theorem zmj {o x : X} {v y : Expr} {n : Str} {ap p : Pos} (hap : (ap.endLine == p.line) = true) (hnm : n = "append") (hb : zbp v = true) (ho : SX W C A env ρ υ F o v) (hx : SX W C A env ρ υ F x y) (hc : chkX sc vars uv x y = true) :
  SX W C A env ρ υ F (.append o x) (.Call (.Attribute v n ap) [y] [] p) := fun σ s B Q c S q => by
 subst hnm
 rw [zbz (sc := sc) (vars := vars) (uv := uv) (xs := .cons x .nil) (zdy hc) hb]
 refine zab (zaa (ho σ s B _ c S q) (fun va s1 ⟨mv, σ1, r1, S1, k1, q0, q1⟩ => ?_) fun _ _ z => z)
 refine zag (zbo hap (by simp [evalEach]) fun pl => ?_)
 rcases q0 with q0 | q0
 ·obtain ⟨a, vs0, rfl, h0⟩ := zdi q0
  have e := zb2 r1
  subst e
  refine zdh PySem.F.slot_list_append PySem.F.type_list_append S1 h0 (zfj (by simp [evalEach]) ?_)
  refine zao (zaa (hx σ1 s1 B _ (c.evo k1) S1 q1) (fun w s2 ⟨mw, σ2, r2, S2, k2, q2, q3⟩ => zaq ?_) fun _ _ z => z.from k1)
  obtain ⟨a', vs, e, h1⟩ := zdi (q2.symm.trans q0)
  cases e
  obtain ⟨a', e, ⟨vs', h1', q4, q5⟩ | ⟨b, n, h1', _⟩⟩ := q3
  ·cases e
   exact zah (zka S2 h1' q4 r2 fun s3 S3 k3 => ⟨.none, _, by simp only [Rv], S3, (k1.trans k2).trans k3, q5⟩)
  ·cases e; rw [h1] at h1'; cases h1'
 ·obtain ⟨a, b0, rfl, h0⟩ := zgg q0
  have e := zb2 r1
  subst e
  have D := S1.barr h0
  refine getMethod_builtin ⟨_, D, rfl⟩ BF.plain_barr BF.slot_append BF.type_append (fun a' e => by cases e; exact ⟨_, D, rfl⟩) (zfj (by simp [evalEach]) ?_)
  refine zao (zaa (hx σ1 s1 B _ (c.evo k1) S1 q1) (fun w s2 ⟨mw, σ2, r2, S2, k2, q2, q3⟩ => zaq ?_) fun _ _ z => z.from k1)
  have hnl : isList σ1 (.ref a) = false := by simp [isList, h0]
  rw [hnl] at q2
  obtain ⟨a', e, ⟨vs', h1', q4, q5⟩ | ⟨b, n, h1', rfl, q4, q5⟩⟩ := q3
  ·cases e; simp [isList, h1'] at q2
  ·cases e
   obtain ⟨t, rfl⟩ := zcj r2
   exact zkd S2 h1' q4 fun s3 S3 k3 => ⟨.none, _, by simp only [Rv], S3, (k1.trans k2).trans k3, q5⟩
theorem zmh {o x : X} {v y : Expr} {n : Str} {ap p : Pos} (hap : (ap.endLine == p.line) = true) (hnm : n = "extend") (hb : zbp v = true) (ho : SX W C A env ρ υ F o v) (hx : SX W C A env ρ υ F x y) (hc : chkX sc vars uv x y = true) :
  SX W C A env ρ υ F (.extend o x) (.Call (.Attribute v n ap) [y] [] p) := fun σ s B Q c S q => by
 subst hnm
 rw [zbz (sc := sc) (vars := vars) (uv := uv) (xs := .cons x .nil) (zdy hc) hb]
 refine zab (zaa (ho σ s B _ c S q) (fun va s1 ⟨mv, σ1, r1, S1, k1, q0, q1⟩ => ?_) fun _ _ z => z)
 refine zag (zbo hap (by simp [evalEach]) fun pl => ?_)
 obtain ⟨a, b0, rfl, h0⟩ := zgg q0
 have e := zb2 r1
 subst e
 have D := S1.barr h0
 refine getMethod_builtin ⟨_, D, rfl⟩ BF.plain_barr BF.slot_extend BF.type_extend (fun a' e => by cases e; exact ⟨_, D, rfl⟩) (zfj (by simp [evalEach]) ?_)
 refine zao (zaa (hx σ1 s1 B _ (c.evo k1) S1 q1) (fun w s2 ⟨mw, σ2, r2, S2, k2, q3⟩ => zaq ?_) fun _ _ z => z.from k1)
 obtain ⟨a', b, c', e, rfl, h1, q4, q5⟩ := q3
 cases e
 obtain ⟨t, rfl⟩ := zdf r2
 exact zkc S2 h1 q4 fun s3 S3 k3 => ⟨.none, _, by simp only [Rv], S3, (k1.trans k2).trans k3, q5⟩
theorem sx_pop {o : X} {v : Expr} {n : Str} {ap p : Pos} (hap : (ap.endLine == p.line) = true) (hnm : n = "pop") (hb : zbp v = true) (ho : SX W C A env ρ υ F o v) :
  SX W C A env ρ υ F (.pop o) (.Call (.Attribute v n ap) [] [] p) := fun σ s B Q c S q => by
 subst hnm
 rw [zbz (sc := ⟨.function, [], false, false, []⟩) (vars := []) (uv := []) (xs := .nil) rfl hb]
 refine zab (zaa (ho σ s B _ c S q) (fun va s1 ⟨mv, σ1, r1, S1, k1, q1⟩ => ?_) fun _ _ z => z)
 refine zag (zbo hap (by simp [evalEach]) fun pl => ?_)
 obtain ⟨a, vs, x, rfl, h0, hx, q2⟩ := q1
 have e := zb2 r1
 subst e
 refine zdh PySem.F.slot_list_pop PySem.F.type_list_pop S1 h0 (zfj (by simp [evalEach]) (zaq ?_))
 exact zah (zpz S1 h0 hx fun y s3 r3 S3 k3 => ⟨x, _, r3, S3, k1.trans k3, q2⟩)
theorem zoz {o x : X} {v y : Expr} {n : Str} {ap p : Pos} (hap : (ap.endLine == p.line) = true) (hnm : n = "pop") (hb : zbp v = true) (ho : SX W C A env ρ υ F o v) (hx : SX W C A env ρ υ F x y) (hc : chkX sc vars uv x y = true) :
  SX W C A env ρ υ F (.popAt o x) (.Call (.Attribute v n ap) [y] [] p) := fun σ s B Q c S q => by
 subst hnm
 rw [zbz (sc := sc) (vars := vars) (uv := uv) (xs := .cons x .nil) (zdy hc) hb]
 refine zab (zaa (ho σ s B _ c S q) (fun va s1 ⟨mv, σ1, r1, S1, k1, q0, q1⟩ => ?_) fun _ _ z => z)
 refine zag (zbo hap (by simp [evalEach]) fun pl => ?_)
 obtain ⟨a, vs0, rfl, h0⟩ := zdi q0
 have e := zb2 r1
 subst e
 refine zdh PySem.F.slot_list_pop PySem.F.type_list_pop S1 h0 (zfj (by simp [evalEach]) ?_)
 refine zao (zaa (hx σ1 s1 B _ (c.evo k1) S1 q1) (fun w s2 ⟨mw, σ2, r2, S2, k2, q3⟩ => zaq ?_) fun _ _ z => z.from k1)
 obtain ⟨a', vs, n, x', e, rfl, h1, q4, q5, q6⟩ := q3
 cases e
 obtain ⟨t, rfl⟩ := zcj r2
 exact zah (zlw S2 h1 q4 q5 fun y s3 r3 S3 k3 => ⟨x', _, r3, S3, (k1.trans k2).trans k3, q6⟩)
theorem zmg {o x z : X} {v y w : Expr} {n : Str} {ap p : Pos} (hap : (ap.endLine == p.line) = true) (hnm : n = "insert") (hb : zbp v = true) (ho : SX W C A env ρ υ F o v) (hx : SX W C A env ρ υ F x y) (hz : SX W C A env ρ υ F z w)
  (hc : chkX sc vars uv x y = true) (hd : chkX sc vars uv z w = true) : SX W C A env ρ υ F (.insert o x z) (.Call (.Attribute v n ap) [y, w] [] p) := fun σ s B Q c S q => by
 subst hnm
 rw [zbz (sc := sc) (vars := vars) (uv := uv) (xs := .cons x (.cons z .nil)) (zj3 hc hd) hb]
 refine zab (zaa (ho σ s B _ c S q) (fun va s1 ⟨mv, σ1, r1, S1, k1, q0, q1⟩ => ?_) fun _ _ z => z)
 refine zag (zbo hap (by simp [evalEach]) fun pl => ?_)
 obtain ⟨a, vs0, rfl, h0⟩ := zdi q0
 have e := zb2 r1
 subst e
 refine zdh PySem.F.slot_list_insert PySem.F.type_list_insert S1 h0 (zfj (by simp [evalEach]) ?_)
 refine zao (zaa (hx σ1 s1 B _ (c.evo k1) S1 q1) (fun w s2 ⟨mw, σ2, r2, S2, k2, q3⟩ => ?_) fun _ _ z => z.from k1)
 refine zao (zaa (hz σ2 s2 B _ (c.evo (k1.trans k2)) S2 q3) (fun w s3 ⟨mw, σ3, r3, S3, k3, q4⟩ => zaq ?_) fun _ _ z => z.from (k1.trans k2))
 obtain ⟨a', vs, n, e, rfl, h1, ⟨q5, q6, q7⟩, q8⟩ := q4
 cases e
 obtain ⟨t, rfl⟩ := zcj (r2.evo k3)
 exact zah (zj9 S3 h1 q5 q6 q7 r3 fun s4 S4 k4 => ⟨.none, _, by simp only [Rv], S4, ((k1.trans k2).trans k3).trans k4, q8⟩)
end
end
section
section
variable {W : Wd} {C : Orc} {A : Around} {sc : Scope} {env : Env} {vars uv : Vars} {ρ υ : Loc} {F : Led} {r : Nat}
theorem zrx {o : X} {i : Nat} {v : Expr} {n : Str} {p : Pos} (H : Here W A sc env vars ρ uv υ F r) (hnm : n = zae i) (hi : i < 21) (hb : zbp v = true) (ho : SX W C A env ρ υ F o v) : SX W C A env ρ υ F (.attr o i) (.Attribute v n p) := fun σ s B Q c S q => by
 subst hnm
 show wc _ _ (do
  let o ← attributeBase v (zae i) env (eval v env)
  standAt p.atName
  let r ← holding [o] (getAttr o (zae i) true)
  letTemporaryGo v o r
  pure r) _ _ _
 rw [zee hb]
 refine zab (zaa (ho σ s B _ c S q) (fun va s1 ⟨mv, σ1, r1, S1, k1, q1⟩ => ?_) fun _ _ z => z)
 obtain ⟨a, g, fs, w, rfl, hσ, hf, q2⟩ := q1
 have e := zb2 r1
 subst e
 refine zag (zaf (wpAny_holding (zgk H.pre.X H.pre.cls S1 hσ hi hf fun y ry => ?_)))
 exact zaf (wpAny_letTemporaryGo (zaj ⟨w, σ1, ry, S1.same rfl rfl rfl, k1, q2⟩))
theorem zmk {v w : Expr} {p : Pos} : eval (.Subscript v w p) env = (do
  let o ← eval v env
  let i ← holding [o] (eval w env)
  standAt p
  (do let r ← subscripted w (← getitemInPython o) o i; letTemporaryGo v o r; pure r)) := rfl
theorem sx_idx {o i : X} {v w : Expr} {p : Pos} (ho : SX W C A env ρ υ F o v) (hi : SX W C A env ρ υ F i w) : SX W C A env ρ υ F (.idx o i) (.Subscript v w p) := fun σ s B Q c S q => by
 rw [zmk]
 refine zab (zaa (ho σ s B _ c S q) (fun va s1 ⟨mv, σ1, r1, S1, k1, q1⟩ => ?_) fun _ _ z => z)
 refine zab (zam (zaa (hi σ1 s1 B _ (c.evo k1) S1 q1) (fun vb s2 ⟨mw, σ2, r2, S2, k2, q2⟩ => ?_) fun _ _ z => z.from k1))
 refine zag (zah ?_)
 have r1' := r1.evo k2
 obtain ⟨n, rfl, h0, h⟩ := q2
 obtain ⟨t, rfl⟩ := zcj r2
 rcases h with ⟨a, vs, x, rfl, hσ, hx, q3⟩ | ⟨vs, x, rfl, hz, hx, q3⟩ | ⟨b, cc, rfl, hz, hx, q3⟩
 ·have e := zb2 r1'
  subst e
  obtain ⟨items, m, hl, _⟩ := S2.list hσ
  exact zd2 hl.isList.typeIs list_getitem_lookup (zni S2 hσ h0 hx fun y ry => ⟨x, σ2, ry, S2, k1.trans k2, q3⟩)
 ·have r3 := r1'
  simp only [Rv] at r3
  obtain ⟨b, items, rfl, ht, rl⟩ := r3
  exact zd2 ht.typeIs PySem.F.slot_tuple_getitem.lookup (zpg r1' h0 hz hx fun y ry => ⟨x, σ2, ry, S2, k1.trans k2, q3⟩)
 ·obtain ⟨u, rfl⟩ := zdf r1'
  exact zd2 (typeIs_bytes _ _ _) FB.slot_bytes_getitem.lookup (zlt h0 (by exact Nat.le_trans hz (by decide)) hx fun t n => ⟨_, σ2, by simp only [Rv]; exact ⟨_, rfl⟩, S2.same rfl rfl rfl, k1.trans k2, q3⟩)
theorem zdg {σ : Sto} {u : UOb} {k : Va → Sto → Prop} {a : Addr} (h : newW σ u k) (ha : σ a = none) : k (.ref a) (σ.set a u) := h a ha
theorem zk9 {o k : X} {v w : Expr} {p p' : Pos} (ho : SX W C A env ρ υ F o v) (hk : SX W C A env ρ υ F k w) : SX W C A env ρ υ F (.sliceTo o k) (.Subscript v (.Slice none (some w) none p') p) := fun σ s B Q c S q => by
 rw [zmk]
 refine zab (zaa (ho σ s B _ c S q) (fun va s1 ⟨mv, σ1, r1, S1, k1, q1⟩ => ?_) fun _ _ z => z)
 refine zab (zam ?_)
 show wc _ _ (do
  let l ← pure Value.none
  let u ← holding [l] (eval w env)
  let s ← holding [l, u] (pure Value.none)
  newFields "slice" [l, u, s]) _ _ _
 refine zab (zaj (zab (zam (zaa (hk σ1 s1 B _ (c.evo k1) S1 q1) (fun vb s2 ⟨mw, σ2, r2, S2, k2, q2⟩ => ?_) fun _ _ z => z.from k1))))
 refine zab (zam (zaj (zah ?_)))
 refine wpAny_newObj_type ?_
 have r1' := r1.evo k2
 obtain ⟨n, rfl, h0, h⟩ := q2
 obtain ⟨t, rfl⟩ := zcj r2
 have k3 : Ext s2.heap (s2.heap.push { cls := .type "slice", data := .fields #[.none, .int n t, .none] }) := Ext.push _ _
 have S3 : St W F σ2 { s2 with heap := s2.heap.push { cls := .type "slice", data := .fields #[.none, .int n t, .none] } } := S2.ext k3 rfl rfl
 have hsl : ({ s2 with heap := s2.heap.push { cls := .type "slice", data := .fields #[.none, .int n t, .none] } } : Shared).heap.IsSliceOf s2.heap.objs.size .none (.int n t) .none := Heap.IsSliceOf.new _ _ _ _
 refine zag (zah ?_)
 rcases h with ⟨a, vs, rfl, hσ, q3⟩ | ⟨b, rfl, hz, q3⟩
 ·have e := zb2 r1'
  subst e
  obtain ⟨items, hl, _⟩ := S3.seen hσ
  exact zd2 hl.typeIs list_getitem_lookup (zgf S3 hσ hsl h0 fun b s' hb S' ev => ⟨.ref b, _, by simp only [Rv], S', ((k1.trans k2).trans k3.evo).trans ev, zdg q3 hb⟩)
 ·obtain ⟨u, rfl⟩ := zdf r1'
  exact zd2 (typeIs_bytes _ _ _) FB.slot_bytes_getitem.lookup (zdo hsl .none (.int n t) (zr9 h0) (by rw [List.length_take]; show _ ≤ 16777216; exact Nat.le_trans (Nat.min_le_right _ _) hz) fun t n => ⟨_, σ2, by simp only [Rv]; exact ⟨_, rfl⟩, S3.same rfl rfl rfl, (k1.trans k2).trans k3.evo, q3⟩)
theorem zoy {o i j : X} {v w z : Expr} {p p' : Pos} (ho : SX W C A env ρ υ F o v) (hi : SX W C A env ρ υ F i w) (hj : SX W C A env ρ υ F j z) : SX W C A env ρ υ F (.slice o i j) (.Subscript v (.Slice (some w) (some z) none p') p) := fun σ s B Q c S q => by
 rw [zmk]
 refine zab (zaa (ho σ s B _ c S q) (fun va s1 ⟨mv, σ1, r1, S1, k1, q1⟩ => ?_) fun _ _ z => z)
 refine zab (zam ?_)
 show wc _ _ (do
  let l ← eval w env
  let u ← holding [l] (eval z env)
  let s ← holding [l, u] (pure Value.none)
  newFields "slice" [l, u, s]) _ _ _
 refine zab (zaa (hi σ1 s1 B _ (c.evo k1) S1 q1) (fun vb s2 ⟨mw, σ2, r2, S2, k2, q2⟩ => ?_) fun _ _ z => z.from k1)
 refine zab (zam (zaa (hj σ2 s2 B _ (c.evo (k1.trans k2)) S2 q2) (fun vc s3 ⟨mz, σ3, r3, S3, k3, q3⟩ => ?_) fun _ _ z => z.from (k1.trans k2)))
 refine zab (zam (zaj (zah ?_)))
 refine wpAny_newObj_type ?_
 have r1' := r1.evo (k2.trans k3)
 have r2' := r2.evo k3
 obtain ⟨b, n, m, rfl, rfl, rfl, ⟨h0, h1, h2, h3⟩, q4⟩ := q3
 obtain ⟨t, rfl⟩ := zcj r2'
 obtain ⟨u, rfl⟩ := zcj r3
 obtain ⟨x, rfl⟩ := zdf r1'
 have k4 : Ext s3.heap (s3.heap.push { cls := .type "slice", data := .fields #[.int n t, .int m u, .none] }) := Ext.push _ _
 have S4 : St W F σ3 { s3 with heap := s3.heap.push { cls := .type "slice", data := .fields #[.int n t, .int m u, .none] } } := S3.ext k4 rfl rfl
 have hsl : ({ s3 with heap := s3.heap.push { cls := .type "slice", data := .fields #[.int n t, .int m u, .none] } } : Shared).heap.IsSliceOf s3.heap.objs.size (.int n t) (.int m u) .none := Heap.IsSliceOf.new _ _ _ _
 refine zag (zah ?_)
 exact zd2 (typeIs_bytes _ _ _) FB.slot_bytes_getitem.lookup (zdo hsl (.int n t) (.int m u) (zjn h0 h1 h2) (by rw [List.length_drop, List.length_take]; exact Nat.le_trans (Nat.sub_le _ _) (Nat.le_trans (Nat.min_le_right _ _) h3)) fun t n => ⟨_, σ3, by simp only [Rv]; exact ⟨_, rfl⟩, S4.same rfl rfl rfl, ((k1.trans k2).trans k3).trans k4.evo, q4⟩)
end
end
section
section
variable {W : Wd} {C : Orc} {A : Around} {sc : Scope} {env : Env} {vars uv : Vars} {ρ υ : Loc} {F : Led} {r : Nat}
theorem len20 {n : Nat} (h : n ≤ 20) : n ≤ sizeLine := by
 have hs : sizeLine = 16777216 := by decide
 exact Nat.le_trans h (by decide)
theorem zrs {xs : Xs} {es : List Expr} {p : Pos} (hx : zde sc vars uv xs es = true) (hn : es.length ≤ 20) (hs : SL W C A env ρ υ F xs es) : SX W C A env ρ υ F (.list xs) (.List es p) := fun σ s B Q c S q => by
 show wc _ _ (do standAt p; newList (← spliced (backTo p (starEach es env)))) _ _ _
 rw [zcq hx]
 refine zag (zab (zaa (hs σ s B _ c S q) (fun vs s1 ⟨mvs, σ1, r1, S1, k1, q1, l1⟩ => ?_) fun _ _ z => z))
 exact zah (zpd S1 r1 (by rw [l1]; exact len20 hn) fun b s' hb S' ev => ⟨.ref b, _, by simp only [Rv], S', k1.trans ev, zdg q1 hb⟩)
theorem sx_tup {xs : Xs} {es : List Expr} {k : Nat} {p : Pos} (hx : zde sc vars uv xs es = true) (hn : es.length ≤ 20) (hs : SL W C A env ρ υ F xs es) : SX W C A env ρ υ F (.tup xs) (.Tuple es k p) := fun σ s B Q c S q => by
 show wc _ _ (do standAt p; newTuple (← spliced (backTo p (starEach es env)))) _ _ _
 rw [zcq hx]
 refine zag (zab (zaa (hs σ s B _ c S q) (fun vs s1 ⟨mvs, σ1, r1, S1, k1, q1, l1⟩ => ?_) fun _ _ z => z))
 exact zah (zsf S1 r1 (by rw [l1]; exact len20 hn) fun y s' ry S' ev => ⟨.tup mvs, _, ry, S', k1.trans ev, q1⟩)
theorem zbd {f : Expr} {x : Str} {es : List Expr} {xs : Xs} {p : Pos} (hf : za9 sc x f = true) (hx : zde sc vars uv xs es = true) :
  eval (.Call f es [] p) env = (do callWith p (← eval f env) [] ((evalEach es env).map (false, ·)) []) := by
 obtain ⟨np, rfl, _, _⟩ := zcw hf
 show (do callWith p (← eval (.Name x np) env) [] (backTo p (starEach es env)) (backToKw p (keywordEach [] env))) = _
 rw [zcq hx]; rfl
theorem zt3 : bootBuiltins "len" = some (.builtin "len") := by kernel_rfl
theorem zoc : bootBuiltins "bytes" = some (.type "bytes") := by kernel_rfl
theorem zqq : bootBuiltins "bytearray" = some (.type "bytearray") := by kernel_rfl
theorem zt2 : bootBuiltins "min" = some (.builtin "min") := by kernel_rfl
theorem zob : bootBuiltins "tuple" = some (.type "tuple") := by kernel_rfl
theorem zqp : bootBuiltins "list" = some (.type "list") := by kernel_rfl
theorem zi6 : bootBuiltins "range" = some (.type "range") := by kernel_rfl
theorem sx_len {a : X} {f e : Expr} {p : Pos} (H : Here W A sc env vars ρ uv υ F r) (hf : za9 sc "len" f = true) (ha : SX W C A env ρ υ F a e) (hc : chkX sc vars uv a e = true) : SX W C A env ρ υ F (.len a) (.Call f [e] [] p) := fun σ s B Q c S q => by
 rw [zbd (xs := .cons a .nil) hf (zdy hc)]
 refine zaf (zc5 H S hf (H.pre.blt _ (.inl rfl)) zt3 (by decide) ?_)
 refine zfj (by simp [evalEach]) (zao (zaa (ha σ s B _ c S q) (fun v s1 ⟨mv, σ1, r1, S1, k1, q1⟩ => zaq (zah ?_)) fun _ _ z => z))
 rcases znf q1 with ⟨a, vs, rfl, hσ, q2⟩ | ⟨b, rfl, hz, q2⟩
 ·have e := zb2 r1
  subst e
  exact zp0 S1 hσ fun t n => ⟨_, σ1, by simp only [Rv]; exact ⟨_, rfl⟩, S1.same rfl rfl rfl, k1, q2⟩
 ·obtain ⟨t, rfl⟩ := zdf r1
  exact zg1 (by exact Nat.le_trans hz (by decide)) fun t n => ⟨_, σ1, by simp only [Rv]; exact ⟨_, rfl⟩, S1.same rfl rfl rfl, k1, q2⟩
theorem zlb {a : X} {f e : Expr} {p : Pos} (H : Here W A sc env vars ρ uv υ F r) (hf : za9 sc "bytes" f = true) (ha : SX W C A env ρ υ F a e) (hc : chkX sc vars uv a e = true) : SX W C A env ρ υ F (.bytesOf a) (.Call f [e] [] p) := fun σ s B Q c S q => by
 rw [zbd (xs := .cons a .nil) hf (zdy hc)]
 refine zaf (zc5 H S hf (H.pre.blt _ (.inr (.inl rfl))) zoc (by decide) ?_)
 refine zg5 (by simp [evalEach]) (zao (zaa (ha σ s B _ c S q) (fun v s1 ⟨mv, σ1, r1, S1, k1, q1⟩ => zaq (zah ?_)) fun _ _ z => z))
 have hs : sizeLine = 16777216 := by decide
 rcases zie q1 with ⟨a, vs, b, rfl, hσ, hb, q2⟩ | ⟨a, b, rfl, hσ, hz, q2⟩ | ⟨b, rfl, q2⟩
 ·have e := zb2 r1
  subst e
  exact zgq c.handled S1 hσ hb fun t s' S' ev => ⟨_, σ1, by simp only [Rv]; exact ⟨_, rfl⟩, S', k1.trans ev, q2⟩
 ·have e := zb2 r1
  subst e
  exact zid S1 hσ (by exact Nat.le_trans hz (by decide)) fun t n => ⟨_, σ1, by simp only [Rv]; exact ⟨_, rfl⟩, S1.same rfl rfl rfl, k1, q2⟩
 ·have r1' := r1
  obtain ⟨t, rfl⟩ := zdf r1
  exact zgp ⟨_, σ1, r1', S1, k1, q2⟩
theorem zo1 {f : Expr} {p : Pos} (H : Here W A sc env vars ρ uv υ F r) (hf : za9 sc "bytearray" f = true) : SX W C A env ρ υ F .barr0 (.Call f [] [] p) := fun σ s B Q c S q => by
 rw [zbd (xs := .nil) hf (show zde sc vars uv .nil [] = true from rfl)]
 refine zaf (zc5 H S hf (H.pre.blt _ (.inr (.inr (.inl rfl)))) zqq (by decide) ?_)
 refine zg5 (by simp [evalEach]) (zaq ?_)
 exact zor S fun b s' hb S' ev => ⟨.ref b, _, by simp only [Rv], S', ev, zdg q hb⟩
theorem sx_min {a b : X} {f x y : Expr} {p : Pos} (H : Here W A sc env vars ρ uv υ F r) (hf : za9 sc "min" f = true) (ha : SX W C A env ρ υ F a x) (hb : SX W C A env ρ υ F b y) (hc : chkX sc vars uv a x = true) (hd : chkX sc vars uv b y = true) :
  SX W C A env ρ υ F (.min a b) (.Call f [x, y] [] p) := fun σ s B Q c S q => by
 rw [zbd (xs := .cons a (.cons b .nil)) hf (show zde sc vars uv (.cons a (.cons b .nil)) [x, y] = true from zj3 hc hd)]
 refine zaf (zc5 H S hf (H.pre.blt _ (.inr (.inr (.inr (.inl rfl))))) zt2 (by decide) ?_)
 refine zfj (by simp [evalEach]) (zao (zaa (ha σ s B _ c S q) (fun v s1 ⟨mv, σ1, r1, S1, k1, q1⟩ => ?_) fun _ _ z => z))
 refine zao (zaa (hb σ1 s1 B _ (c.evo k1) S1 q1) (fun w s2 ⟨mw, σ2, r2, S2, k2, q2⟩ => zaq (zah ?_)) fun _ _ z => z.from k1)
 obtain ⟨m, n, rfl, rfl, q3⟩ := znc q2
 obtain ⟨t, rfl⟩ := zcj (r1.evo k2)
 obtain ⟨u, rfl⟩ := zcj r2
 exact zn3 c.handled S2 fun t s' S' ev => ⟨_, σ2, by simp only [Rv]; exact ⟨_, rfl⟩, S', (k1.trans k2).trans ev, q3⟩
theorem zox {a : X} {f e : Expr} {p : Pos} (H : Here W A sc env vars ρ uv υ F r) (hf : za9 sc "tuple" f = true) (ha : SX W C A env ρ υ F a e) (hc : chkX sc vars uv a e = true) : SX W C A env ρ υ F (.tupOf a) (.Call f [e] [] p) := fun σ s B Q c S q => by
 rw [zbd (xs := .cons a .nil) hf (zdy hc)]
 refine zaf (zc5 H S hf (H.pre.blt _ (.inr (.inr (.inr (.inr (.inl rfl)))))) zob (by decide) ?_)
 refine zg5 (by simp [evalEach]) (zao (zaa (ha σ s B _ c S q) (fun v s1 ⟨mv, σ1, r1, S1, k1, q1⟩ => zaq (zah ?_)) fun _ _ z => z))
 obtain ⟨a, vs, rfl, hσ, q2⟩ := q1
 have e := zb2 r1
 subst e
 exact zpy S1 hσ fun y s' ry S' ev => ⟨.tup vs, _, ry, S', k1.trans ev, q2⟩
theorem zme {a : X} {f e : Expr} {p : Pos} (H : Here W A sc env vars ρ uv υ F r) (hf : za9 sc "list" f = true) (ha : SX W C A env ρ υ F a e) (hc : chkX sc vars uv a e = true) : SX W C A env ρ υ F (.listOf a) (.Call f [e] [] p) := fun σ s B Q c S q => by
 rw [zbd (xs := .cons a .nil) hf (zdy hc)]
 refine zaf (zc5 H S hf (H.pre.blt _ (.inr (.inr (.inr (.inr (.inr (.inl rfl))))))) zqp (by decide) ?_)
 refine zg5 (by simp [evalEach]) (zao (zaa (ha σ s B _ c S q) (fun v s1 ⟨mv, σ1, r1, S1, k1, q1⟩ => zaq (zah ?_)) fun _ _ z => z))
 obtain ⟨a, vs, rfl, hσ, q2⟩ := q1
 have e := zb2 r1
 subst e
 exact zn4 S1 hσ fun b s' hb S' ev => ⟨.ref b, _, by simp only [Rv], S', k1.trans ev, zdg q2 hb⟩
theorem zsc {h : Heap} {mv : Va} {v : Value} (r : Rv h mv v) : (v == .none) = zdu mv := by
 cases mv with
 | none => have e : v = .none := by simpa only [Rv] using r
           subst e; rfl
 | bool b => have e : v = .bool b := by simpa only [Rv] using r
             subst e; rfl
 | int i => have e : ∃ t, v = .int i t := by simpa only [Rv] using r
            obtain ⟨t, rfl⟩ := e; rfl
 | str i => have e : ∃ t, v = .str i t := by simpa only [Rv] using r
            obtain ⟨t, rfl⟩ := e; rfl
 | bytes i => have e : ∃ t, v = .bytes ⟨i⟩ t := by simpa only [Rv] using r
              obtain ⟨t, rfl⟩ := e; rfl
 | tup vs => have e : Ex2 fun a items => A3 (v = .ref a) (IsTup h a items) (RvL h vs items.toList) := by simpa only [Rv] using r
             obtain ⟨a, items, rfl, _⟩ := e; rfl
 | ref a => have e : v = .ref a := by simpa only [Rv] using r
            subst e; rfl
theorem zhw {a : X} {e : Expr} {op : CmpOp} {n : Bool} {p : Pos} (ho : (op = .Is ∧ n = false) ∨ (op = .IsNot ∧ n = true)) (ha : SX W C A env ρ υ F a e) {σ : Sto} {s : Shared} {B : BP} {Q : QP} (c : Ctx W A s.heap) (S : St W F σ s)
  (q : wpX C B ρ υ a σ fun v σ => Q (.bool (cond n (!zdu v) (zdu v))) σ) {k : Nat} {p' : Pos} :
  wc W.M A (do let a ← eval e env; let b ← holding [a] (eval (.Constant .none k p') env); standAt p; operate [a, b] (compareOp op a b)) (fun v s' => ∃ b, v = .bool b ∧ TP W F s Q b s') (EP W F env.frame s B) s := by
 refine zab (zaa (ha σ s B _ c S q) (fun va s1 ⟨ma, σ1, r1, S1, k1, q1⟩ => ?_) fun _ _ z => z)
 refine zab (zam (zaj (zag (zda (zah ?_)))))
 have e1 := zsc r1
 rcases ho with ⟨rfl, rfl⟩ | ⟨rfl, rfl⟩
 ·show wpAny _ _ (isSame va .none >>= fun b => pure (Value.bool b)) _ _ _
  rw [isSame_none]
  refine wpAny_bind (wpAny_pure (wpAny_pure ⟨_, rfl, σ1, S1, k1, ?_⟩))
  rw [e1]; exact q1
 ·show wpAny _ _ (isSame va .none >>= fun b => pure (Value.bool (!b))) _ _ _
  rw [isSame_none]
  refine wpAny_bind (wpAny_pure (wpAny_pure ⟨_, rfl, σ1, S1, k1, ?_⟩))
  rw [e1]; exact q1
theorem znv {op : CmpOp} (ho : op = .Is ∨ op = .IsNot) {l rr : Expr} {p : Pos} : eval (.Compare l [op] [rr] p) env = (do let a ← eval l env; let b ← holding [a] (eval rr env); standAt p; operate [a, b] (compareOp op a b)) := by
 show (eval l env >>= fun a => compareChain p a [op] (markedEach [op] [rr] (evalEach [rr] env))) = _
 rw [show markedEach [op] [rr] (evalEach [rr] env) = [eval rr env] from congrArg (fun t => [t]) (zir ho)]
 rfl
theorem zmd {op : CmpOp} (ho : op = .Is ∨ op = .IsNot) {l rr : Expr} {p : Pos} {t : Sem Value} : isTrue (.Compare l [op] [rr] p) env t = (do let v ← (do let a ← eval l env; let b ← holding [a] (eval rr env); standAt p; operate [a, b] (compareOp op a b)); holding [v] (truthy v)) := by
 show (eval l env >>= fun a => testChain p a [op] (markedEach [op] [rr] (evalEach [rr] env))) = _
 rw [show markedEach [op] [rr] (evalEach [rr] env) = [eval rr env] from congrArg (fun t => [t]) (zir ho)]
 show (eval l env >>= fun a => (do let b ← holding [a] (eval rr env); standAt p; let c ← operate [a, b] (compareOp op a b); holding [c] (truthy c))) = _
 simp only [bind_assoc]
theorem zmf {a : X} {e : Expr} {k : Nat} {p p' : Pos} (ha : SX W C A env ρ υ F a e) : SX W C A env ρ υ F (.isNone a) (.Compare e [.Is] [.Constant .none k p'] p) := fun σ s B Q c S q => by
 rw [znv (.inl rfl)]
 refine zaa (zhw (Q := Q) (n := false) (.inl ⟨rfl, rfl⟩) ha c S q) (fun v s' ⟨b, e, σ', S', k', q'⟩ => ?_) fun _ _ z => z
 subst e; exact ⟨_, σ', by simp only [Rv], S', k', q'⟩
theorem zla {a : X} {e : Expr} {k : Nat} {p p' : Pos} (ha : SX W C A env ρ υ F a e) : SX W C A env ρ υ F (.notNone a) (.Compare e [.IsNot] [.Constant .none k p'] p) := fun σ s B Q c S q => by
 rw [znv (.inr rfl)]
 refine zaa (zhw (Q := Q) (n := true) (.inr ⟨rfl, rfl⟩) ha c S q) (fun v s' ⟨b, e, σ', S', k', q'⟩ => ?_) fun _ _ z => z
 subst e; exact ⟨_, σ', by simp only [Rv], S', k', q'⟩
theorem zmz {a : X} {e : Expr} {k : Nat} {p p' : Pos} (ha : SX W C A env ρ υ F a e) : SB W C A env ρ υ F (.isNone a) (.Compare e [.Is] [.Constant .none k p'] p) := fun σ s B Q _ c S q => by
 rw [zmd (.inl rfl)]
 refine zab (zaa (zhw (Q := Q) (n := false) (.inl ⟨rfl, rfl⟩) ha c S q) (fun v s' ⟨b, e, z⟩ => ?_) fun _ _ z => z)
 subst e; exact zam (zah (wpAny_truthy_bool z))
theorem zlk {a : X} {e : Expr} {k : Nat} {p p' : Pos} (ha : SX W C A env ρ υ F a e) : SB W C A env ρ υ F (.notNone a) (.Compare e [.IsNot] [.Constant .none k p'] p) := fun σ s B Q _ c S q => by
 rw [zmd (.inr rfl)]
 refine zab (zaa (zhw (Q := Q) (n := true) (.inr ⟨rfl, rfl⟩) ha c S q) (fun v s' ⟨b, e, z⟩ => ?_) fun _ _ z => z)
 subst e; exact zam (zah (wpAny_truthy_bool z))
end
end
section
section
variable {W : Wd} {A : Around} {F : Led} {σ : Sto} {s : Shared} {R : Result → Shared → Prop}
theorem zdx {id : String} {args : Args} {B : Builtin} (hq : (Code.builtin id args).quiet = true) (hcl : heldIds.contains id = false) (hb : entryFor table id = some B)
  (h : wpAny W.M A.in1 (checkBuiltinCall id args) (fun _ s₁ => wc W.M (A.under (.builtin id args)) (B args) (fun fin s' => match fin with | .done f => R (.ok f) s' | .again c' => c'.quiet = true ∧ zb6 W.M A c' R s') (fun e s' => R (.error e) s') s₁) (fun e s' => R (.error e) s') s) :
  zb6 W.M A (.call (.builtin id) args) R s := by
 refine zaz rfl ?_
 show wc _ A.in1 (do checkBuiltinCall id args; again (.builtin id args)) _ _ s
 exact zaf (wpAny_mono h (fun _ s₁ h₁ => zaj (And.intro hq (ze1 hcl hb h₁))) fun _ _ e => e)
noncomputable def InitC (x : Addr) (R : Result → Shared → Prop) (r : Result) (s' : Shared) : Prop := match r with
 | .ok (.ret v) => v = .none ∧ R (.ok (.ret (.ref x))) s'
 | .ok _ => False
 | .error e => R (.error e) s'
theorem zrj {g f : Nat} {vals : List Value} (X : W.K.In W.h₀) (cok : ClsOk W.K W.fa g) (hg : clsIds.contains g = true) (hf : ini g = some f) (S : St W F σ s)
  (hq : ∀ a s₁, σ a = none → St W F (σ.set a (.inst g [])) s₁ → Evo s.heap s₁.heap → zb6 W.M (A.under (.builtin "type.__call__" ⟨.ref (W.fa g) :: vals, []⟩)) (.call (.ref (W.fa f)) ⟨.ref a :: vals, []⟩) (InitC a R) s₁) :
  zb6 W.M A (.call (.ref (W.fa g)) ⟨vals, []⟩) R s := by
 obtain ⟨h, gs, d, t, os⟩ := s
 have X' : W.K.In h := X.keeps S.keep
 have Y := makes_of (M := W.M) X' cok.makes
 have Y' := Y
 obtain ⟨⟨oc, od, cd, sl, hC, e1, e2, e4⟩, made, base, self, top, call, typ⟩ := Y
 obtain ⟨hi, ht⟩ := cok.ini f hf
 have hi' := looks_findIn (M := W.M) X' hi
 refine zaz rfl ?_
 show wc _ _ (callAny (.ref (W.fa g)) _) _ _ _
 refine zaf (wpAny_load hC ?_)
 show wc _ _ (callAny.viaDunder (.ref (W.fa g)) _) _ _ _
 unfold callAny.viaDunder
 refine zaf (call.at ?_)
 dsimp only
 rw [tc_bind]
 refine zaf (wpAny_pure ?_)
 refine zaf (wpAny_of_eq (a := true) (by kernel_rfl) ?_)
 refine zbu rfl ?_
 refine zaj (a := Fin.again (.call (.builtin "type.__call__") ⟨.ref (W.fa g) :: vals, []⟩)) ⟨rfl, ?_⟩
 refine zdx (Code.quiet_builtin _ (by decide +kernel)) zeu entry_typeCall (check_slot tc_kind tc_split typ (tc_args _ _ _) ?_)
 unfold Builtin.«type.__call__»
 dsimp only
 refine zat (by intro q; cases q) ?_
 have hm : Looks W.M h (mroOf (.ref (W.fa g))) cd.mro := ((Looks.ld (part := none) hC).andThen .now).andThen .now
 refine zaf (hm.at ?_)
 refine zat (by rw [e4]; decide) ?_
 refine zaf (made.at ?_)
 dsimp only
 refine zaf (wpAny_pure ?_)
 have k : ∀ b o, h.get? b = some o → ((h.push emptyDict).push (instObj (W.fa g) h.objs.size)).get? b = some o := fun b o e => Heap.get?_push_of_some _ (Heap.get?_push_of_some _ e)
 have hx : ((h.push emptyDict).push (instObj (W.fa g) h.objs.size)).get? (h.objs.size + 1) = some (instObj (W.fa g) h.objs.size) := by heap_get
 have hdx : ((h.push emptyDict).push (instObj (W.fa g) h.objs.size)).get? h.objs.size = some emptyDict := Heap.get?_push_of_some _ (Heap.get?_push_size _ rfl)
 refine zaf (wpAny_holding (wpAny_call (new_K Y' hi' (.inl rfl) ?_)))
 ·have t1 : Looks W.M ((h.push emptyDict).push (instObj (W.fa g) h.objs.size)) (typeOf (.ref (h.objs.size + 1))) (.ref (W.fa g)) := (Looks.ld hx).andThen .now
  have i1 : Looks W.M ((h.push emptyDict).push (instObj (W.fa g) h.objs.size)) (isInstance (.ref (h.objs.size + 1)) (.ref (W.fa g))) true := t1.andThen (f := fun t => isSubtype t (.ref (W.fa g))) (self.keeps k)
  have i2 : Looks W.M ((h.push emptyDict).push (instObj (W.fa g) h.objs.size)) (specialOf (.ref (h.objs.size + 1)) "__init__") (some (.ref (W.fa f))) := t1.andThen (f := fun t => typeLookup t "__init__") (hi'.keeps k)
  refine zaf (i1.at ?_)
  refine zat (by decide) ?_
  refine zab (zam ?_)
  unfold callSpecial?
  refine zaf (i2.at ?_)
  dsimp only
  refine zam (zaf ((bind_fn (X'.keeps k) (.ref (h.objs.size + 1)) ht).at ?_))
  have kE : Ext h ((h.push emptyDict).push (instObj (W.fa g) h.objs.size)) := k
  have gs1 : h.get? (h.objs.size + 1) = none := by
   cases q : h.get? (h.objs.size + 1) with
   | none => rfl
   | some o => exact absurd (Heap.lt_size q) (Nat.not_lt.mpr (Nat.le_succ _))
  have S' : St W F (σ.set (h.objs.size + 1) (.inst g [])) ⟨(h.push emptyDict).push (instObj (W.fa g) h.objs.size), gs, d, t, os⟩ :=
   S.newInst gs1 (zbl _) (Nat.succ_ne_self _) kE ⟨hx, hg⟩ ⟨[], 0, hdx, rfl, by decide⟩ rfl rfl
  refine zab (ze8 (zcc (hq _ _ (S.free gs1) S' kE.evo) fun r s' z => ?_))
  match r, z with
  | .error e, z => exact z
  | .ok (.ret v), z =>
   obtain ⟨rfl, z⟩ := z
   refine zaj ?_
   exact zat (by decide) (zaj z)
  | .ok .next, z => exact z.elim
  | .ok .brk, z => exact z.elim
  | .ok .cont, z => exact z.elim
end
section
variable {W : Wd} {C : Orc} {A : Around} {sc : Scope} {env : Env} {vars uv : Vars} {ρ υ : Loc} {F : Led} {r : Nat}
theorem zlq {a : Addr} {E : Value → Shared → Prop} {s : Shared} {oc : Value} {od : Option Addr} {cd : ClassData} {sl : Array (Option Value)} (hC : s.heap.get? a = some ⟨oc, od, .cls cd, sl⟩) (hl : Looks W.M s.heap (specialOf (.ref a) "__call__") (some (.builtin "type.__call__")))
  {Q' : Keeper → Shared → Prop} (q : Q' .machine s) : wpAny W.M A (keeperOf (.ref a)) Q' E s := by
 unfold keeperOf
 refine wpAny_bind (wpAny_load hC ?_)
 exact wpAny_bind (hl.here (wpAny_pure (by rw [if_pos (by decide)]; exact q)))
theorem zk5 {g : Nat} {vals : List Value} (h : zub r A) : Room r (A.under (.builtin "type.__call__" ⟨.ref (W.fa g) :: vals, []⟩)) := by
 obtain ⟨h1, h2⟩ := h
 have e1 : (A.under (.builtin "type.__call__" ⟨.ref (W.fa g) :: vals, []⟩)).depth = A.depth + 1 := rfl
 have e2 : (A.under (.builtin "type.__call__" ⟨.ref (W.fa g) :: vals, []⟩)).units = A.units + Code.cUnits (.builtin "type.__call__" ⟨.ref (W.fa g) :: vals, []⟩) := rfl
 have e3 : Code.cUnits (.builtin "type.__call__" ⟨.ref (W.fa g) :: vals, []⟩) ≤ 5 := by
  first
   | exact (by decide : _ ≤ 5)
   | (show _ ≤ 5; simp [Code.cUnits]; done)
   | exact Nat.le_of_ble_eq_true rfl
 exact ⟨by rw [e1]; exact h1, by rw [e2]; lia -abstractProof⟩
theorem sx_new {g : Nat} {f : Expr} {xs : Xs} {es : List Expr} {p : Pos} (H : Here W A sc env vars ρ uv υ F r) (cs : zcd W C r) (hf : za9 sc (zg0 g) f = true) (hg : clsIds.contains g = true) (hx : zde sc vars uv xs es = true) (hn : es.length ≤ 20) (hs : SL W C A env ρ υ F xs es) :
  SX W C A env ρ υ F (.new g xs) (.Call f es [] p) := fun σ s B Q c S q => by
 rw [zbd hf hx]
 refine zaf (zgd H S hf (H.pre.glob g (by rw [hg]; simp)) ?_)
 have cok := H.pre.cls g hg
 refine zcs (k := .machine) (.inr rfl) (by rw [zby]; exact hn) (zaa (hs σ s B _ c S q) (fun vs s1 ⟨mvs, σ1, r1, S1, k1, q1, _⟩ => ⟨fun Q' z => ?_, ?_⟩) fun _ _ z => z)
 ·have Y := makes_of (M := W.M) (H.pre.X.keeps S1.keep) cok.makes
  obtain ⟨⟨oc, od, cd, sl, hC, _⟩, _, _, _, _, call, _⟩ := Y
  exact zlq hC call z
 ·cases hi : ini g with
  | none => rw [hi] at q1; exact q1.elim
  | some fI =>
   rw [hi] at q1
   refine ze8 (zrj H.pre.X cok hg hi S1 fun a s2 ha S2 k2 => ?_)
   have q2 := zdg q1 ha
   have r2 : RvL s2.heap (.ref a :: mvs) (.ref a :: vs) := RvL.cons (by simp only [Rv]) (r1.evo k2)
   refine zcc (cs fI _ _ B _ q2 (A.under (.builtin "type.__call__" ⟨.ref (W.fa g) :: vs, []⟩)) F s2 _ (zk5 H.room) ?_ ?_ S2 r2) fun t s' z => ?_
   ·exact H.apart
   ·exact ⟨c.handled, (c.evo (k1.trans k2)).frames⟩
   ·match t, z with
    | .error e, z => exact (EP.from (show EP W F none s2 B e s' from z) (k1.trans k2)).lift
    | .ok (.ret v), z =>
     obtain ⟨mv, σ', b1, b2, b3, b4, b5⟩ := (show VP W F s2 _ v s' from z)
     subst b4
     exact ⟨zf6 b1, .ref a, σ', by simp only [Rv], b2, (k1.trans k2).trans b3, b5⟩
    | .ok .next, z => exact z.elim
    | .ok .brk, z => exact z.elim
    | .ok .cont, z => exact z.elim
end
end
section
noncomputable def nsF (q : (Str × Bool) × Option Va) : Option (Str × Option Va) := cond q.1.2 none (some (q.1.1, q.2))
noncomputable def ceF (cs : List (Str × Addr)) (q : (Str × Bool) × Option Va) : Option (Addr × Ob) := cond q.1.2 (some ((cs.lookup q.1.1).getD 0, .cell q.2)) none
noncomputable def nsOf (vs : Vars) (ρ : Loc) : List (Str × Option Va) := (vs.zip ρ).filterMap nsF
noncomputable def zbq (cs : List (Str × Addr)) (vs : Vars) (ρ : Loc) : Led := (vs.zip ρ).filterMap (ceF cs)
noncomputable def act (env : Env) (vars : Vars) (ρ : Loc) : Led := (env.locals, .frame (nsOf vars ρ)) :: zbq env.cells vars ρ
section
variable {cs : List (Str × Addr)} {vars : Vars} {ρ : Loc} {i : Nat} {x : Str}
theorem zl6 {c : Str × Bool} {o : Option Va} (h : vars[i]? = some c) (e : ρ[i]? = some o) : (c, o) ∈ vars.zip ρ := List.mem_of_getElem? (List.getElem?_zip_eq_some.mpr ⟨h, e⟩)
theorem zqv {c : Str × Bool} {o : Option Va} (h : (c, o) ∈ vars.zip ρ) : ∃ i : Nat, vars[i]? = some c ∧ ρ[i]? = some o :=
 let ⟨i, h⟩ := List.mem_iff_getElem?.mp h; ⟨i, List.getElem?_zip_eq_some.mp h⟩
theorem zkr {v : Option Va} (h : vars[i]? = some (x, false)) (e : ρ[i]? = some v) : (x, v) ∈ nsOf vars ρ := List.mem_filterMap.mpr ⟨_, zl6 h e, rfl⟩
theorem zj7 {v : Option Va} (h : vars[i]? = some (x, true)) (e : ρ[i]? = some v) : ((cs.lookup x).getD 0, .cell v) ∈ zbq cs vars ρ := List.mem_filterMap.mpr ⟨_, zl6 h e, rfl⟩
theorem zjq {o : Option Va} (m : (x, o) ∈ nsOf vars ρ) : ∃ i : Nat, vars[i]? = some (x, false) ∧ ρ[i]? = some o := by
 obtain ⟨⟨⟨y, c⟩, w⟩, hz, e⟩ := List.mem_filterMap.mp m
 cases c with
 | true => cases e
 | false => obtain ⟨rfl, rfl⟩ := Prod.mk.inj (Option.some.inj e); exact zqv hz
theorem zd8 {p : Addr × Ob} (m : p ∈ zbq cs vars ρ) : Ex3 fun (i : Nat) (x : Str) (o : Option Va) => A3 (vars[i]? = some (x, true)) (ρ[i]? = some o) (p = ((cs.lookup x).getD 0, .cell o)) := by
 obtain ⟨⟨⟨y, c⟩, w⟩, hz, e⟩ := List.mem_filterMap.mp m
 cases c with
 | false => cases e
 | true => exact let ⟨i, h1, h2⟩ := zqv hz; ⟨i, y, w, h1, h2, (Option.some.inj e).symm⟩
theorem zo8 {v : Option Va} {p : Str × Option Va} (nd : (vars.map (·.1)).Nodup) (h : vars[i]? = some (x, false)) (m : p ∈ nsOf vars (ρ.set i v)) : p = (x, v) ∨ (p.1 ≠ x ∧ p ∈ nsOf vars ρ) := by
 obtain ⟨y, o⟩ := p
 obtain ⟨j, h1, h2⟩ := zjq m
 by_cases e : i = j
 ·subst e
  cases h.symm.trans h1
  obtain ⟨_, e2⟩ := List.getElem?_eq_some_iff.mp h2
  rw [List.getElem_set_self] at e2
  exact .inl (by rw [e2])
 ·rw [List.getElem?_set_ne e] at h2
  refine .inr ⟨fun z => e ?_, zkr h1 h2⟩
  have hm : ∀ {k : Nat} {c : Str × Bool}, vars[k]? = some c → (vars.map (·.1))[k]? = some c.1 := fun h => by rw [List.getElem?_map, h]; rfl
  exact (List.getElem?_inj (List.getElem?_eq_some_iff.mp (hm h)).1 nd).mp ((hm h).trans ((congrArg some z.symm).trans (hm h1).symm))
theorem zl5 {α : Type} {f : (Str × Bool) × Option Va → Option α} {c : Str × Bool} {v : Option Va} (hf : ∀ o, f (c, o) = none) (h : vars[i]? = some c) : (vars.zip (ρ.set i v)).filterMap f = (vars.zip ρ).filterMap f := by
 induction vars generalizing ρ i with
 | nil => cases h
 | cons d vs ih =>
  cases ρ with
  | nil => rfl
  | cons w ρ =>
   cases i with
   | zero => cases h; exact (List.filterMap_cons_none (hf v)).trans (List.filterMap_cons_none (hf w)).symm
   | succ i =>
    have := ih (ρ := ρ) h
    show List.filterMap f ((d, w) :: vs.zip (ρ.set i v)) = List.filterMap f ((d, w) :: vs.zip ρ)
    rw [List.filterMap_cons, List.filterMap_cons, this]
theorem zj6 {v : Option Va} (h : vars[i]? = some (x, false)) : zbq cs vars (ρ.set i v) = zbq cs vars ρ := zl5 (fun _ => rfl) h
theorem zo9 {v : Option Va} (h : vars[i]? = some (x, true)) : nsOf vars (ρ.set i v) = nsOf vars ρ := zl5 (fun _ => rfl) h
theorem zj5 {o v : Option Va} (h : vars[i]? = some (x, true)) (e : ρ[i]? = some o) : Upd (zbq cs vars ρ) ((cs.lookup x).getD 0) (.cell o) (.cell v) (zbq cs vars (ρ.set i v)) := by
 induction vars generalizing ρ i with
 | nil => cases h
 | cons d vs ih =>
  cases ρ with
  | nil => cases e
  | cons w ρ =>
   cases i with
   | zero => cases h; cases e; exact .here
   | succ i =>
    obtain ⟨y, c⟩ := d
    cases c with
    | true => exact .there (ih h e)
    | false => exact ih h e
end
section
variable {W : Wd} {A : Around} {E : Value → Shared → Prop} {F : Led} {σ : Sto} {s : Shared} {sc : Scope} {env : Env} {vars : Vars} {ρ : Loc} {v : Va} {u : Value}
structure Blk (sc : Scope) (env : Env) (vars : Vars) : Prop where
 eok : EnvOk sc env
 vok : zen sc vars = true
 nd : (vars.map (·.1)).Nodup
 cok : ∀ x, sc.names.lookup x = some .cell → ∃ a, env.cells.lookup x = some a
theorem zik {i : Nat} {x : Str} {c : Bool} {Q : Unit → Shared → Prop} (b : Blk sc env vars) (hv : vars[i]? = some (x, c)) (hi : i < ρ.length) (S : St W (act env vars ρ ++ F) σ s) (r : Rv s.heap v u)
  (q : ∀ s', St W (act env vars (ρ.set i (some v)) ++ F) σ s' → Evo s.heap s'.heap → Q () s') : wpAny W.M A (storeName env x u) Q E s := by
 obtain ⟨hk, hd⟩ := zbm b.vok hv
 have hk' : env.kindOf x = some (if c then .cell else .local) := by rw [← b.eok.scope] at hk; exact hk
 have hfn : env.scope.kind = .function := b.eok.scope ▸ b.eok.kind
 cases c with
 | false =>
  have D := S.frame (a := env.locals) (ob := .frame (nsOf vars ρ)) (List.Mem.head _)
  have D' := D
  obtain ⟨m, hn, z⟩ := D
  obtain ⟨o, es, ep, ho, hod, hrest⟩ := id hn
  refine wpAny_storeName_local hk' hn (fun h' hn' hs => ?_) (by rw [hfn]; rfl)
  obtain ⟨o', es', ep', ho', hod', hrest'⟩ := id hn'
  have kb : Heap.ExtBut env.locals s.heap h' := hs.extBut
  have ev : Evo s.heap h' := zel kb ho ho' (D'.noTup ho) (fun vs e => by rw [hod'] at e; cases e)
  refine q _ (S.updF (F' := act env vars (ρ.set i (some v)) ++ F) (ob := .frame (nsOf vars ρ)) (ob' := .frame (nsOf vars (ρ.set i (some v)))) ?_ kb ev ?_ rfl rfl) ev
  ·unfold act
   rw [zj6 hv]
   exact .here
  ·refine ⟨_, hn', fun y w hm => ?_⟩
   rcases zo8 b.nd hv hm with e | ⟨hne, hm⟩
   ·cases e; exact ⟨u, by rw [if_pos rfl], r.evo ev⟩
   ·obtain ⟨w', e1, e2⟩ := z y w hm
    exact ⟨w', by rw [if_neg hne]; exact e1, e2.evo ev⟩
 | true =>
  obtain ⟨a, ha⟩ := b.cok x hk
  obtain ⟨o, ho⟩ : ∃ o, ρ[i]? = some o := ⟨ρ[i], List.getElem?_eq_getElem hi⟩
  have up := zj5 (cs := env.cells) (v := some v) hv ho
  rw [ha, Option.getD_some] at up
  have hm : (a, Ob.cell o) ∈ act env vars ρ ++ F := List.mem_append_left _ (List.Mem.tail _ up.mem)
  have D := S.frame hm
  have D' := D
  obtain ⟨w, hw, z⟩ := D
  refine wpAny_storeName_cell hfn hk' ha hw fun h' hc hs => ?_
  obtain ⟨ow, how, _⟩ := hw
  have hc' := hc
  obtain ⟨oc, hoc, hocd⟩ := hc
  have kb : Heap.ExtBut a s.heap h' := hs.extBut
  have ev : Evo s.heap h' := zel kb how hoc (D'.noTup how) (fun vs e => by rw [hocd] at e; cases e)
  refine q _ (S.updF (F' := act env vars (ρ.set i (some v)) ++ F) (ob := .cell o) (ob' := .cell (some v)) ?_ kb ev ⟨_, hc', fun x e => by cases e; exact ⟨u, rfl, r.evo ev⟩⟩ rfl rfl) ev
  unfold act
  rw [zo9 hv]
  exact zqx (.there up) F
end
end
section
section
variable {W : Wd} {A : Around} {E : Value → Shared → Prop} {F : Led} {σ : Sto} {s : Shared} {sc : Scope} {env : Env} {vars : Vars} {ρ : Loc} {v : Va} {u : Value}
theorem zbh {i : Nat} {e : Expr} (h : zb4 vars i e = true) : Ex3 fun x c p => e = .Name x p ∧ vars[i]? = some (x, c) := by
 refine zjs (P := fun e => Ex3 fun x c p => e = Expr.Name x p ∧ vars[i]? = some (x, c)) h fun x p h => ?_
 obtain ⟨⟨y, c⟩, hq, h⟩ := zdv h
 obtain rfl := beq_iff_eq.mp h
 exact ⟨_, c, _, rfl, hq⟩
theorem zcr {i : Nat} {e : Expr} {Q : Unit → Shared → Prop} (b : Blk sc env vars) (hv : zb4 vars i e = true) (hi : i < ρ.length) (S : St W (act env vars ρ ++ F) σ s) (r : Rv s.heap v u)
  (q : ∀ s', St W (act env vars (ρ.set i (some v)) ++ F) σ s' → Evo s.heap s'.heap → Q () s') : wpAny W.M A (assign e env u) Q E s := by
 obtain ⟨x, c, p, rfl, hv'⟩ := zbh hv
 exact wpAny_assign_Name (zik b hv' hi S r q)
theorem zh5 {t w : Expr} {i j : Nat} (ht : zb4 vars i t = true) (hw : zb4 vars j w = true) : assignEach [t, w] env = [(false, assign t env), (false, assign w env)] := by
 obtain ⟨x, c, p, rfl, _⟩ := zbh ht
 obtain ⟨x', c', p', rfl, _⟩ := zbh hw
 rfl
theorem zof {i j : Nat} {k : Loc → Prop} (h : zg3 ρ (.two i j) v k) : Ex2 fun a b => v = .tup [a, b] ∧ k ((ρ.set i (some a)).set j (some b)) := asP_E (P := fun v => Ex2 fun a b => v = .tup [a, b] ∧ k ((ρ.set i (some a)).set j (some b))) h fun a b h => ⟨a, b, rfl, h⟩
theorem zjo {i j : Nat} {t w : Expr} {x y : Va} {vx vy : Value} {Q : Unit → Shared → Prop} (b : Blk sc env vars) (ht : zb4 vars i t = true) (hw : zb4 vars j w = true) (hi : i < ρ.length) (hj : j < ρ.length)
  (S : St W (act env vars ρ ++ F) σ s) (rx : Rv s.heap x vx) (ry : Rv s.heap y vy) (q : ∀ s', St W (act env vars ((ρ.set i (some x)).set j (some y)) ++ F) σ s' → Evo s.heap s'.heap → Q () s') :
  wpAny W.M A (assignInOrder [assign t env, assign w env] [vx, vy]) Q E s := by
 refine wpAny_bind (wpAny_holding (zcr b ht hi S rx fun s1 S1 k1 => ?_))
 refine wpAny_bind (wpAny_holding (zcr b hw (by rw [List.length_set]; exact hj) S1 (ry.evo k1) fun s2 S2 k2 => ?_))
 exact wpAny_pure (q s2 S2 (k1.trans k2))
theorem St.extBut (S : St W F σ s) {h' : Heap} {t : Nat} (k : Heap.ExtBut s.heap.objs.size s.heap h') : St W F σ { s with heap := h', toks := t } ∧ Evo s.heap h' := by
 have kE : Ext s.heap h' := fun b o e => k b o (Nat.ne_of_lt (Heap.lt_size e)) e
 exact ⟨S.ext kE rfl rfl, kE.evo⟩
theorem zfh {i j : Nat} {t w : Expr} {k : Nat} {p : Pos} {kk : Loc → Prop} {Q : Unit → Shared → Prop} (hh : A.handled = none) (b : Blk sc env vars) (ht : zb4 vars i t = true) (hw : zb4 vars j w = true) (hi : i < ρ.length) (hj : j < ρ.length)
  (S : St W (act env vars ρ ++ F) σ s) (r : Rv s.heap v u) (h : zg3 ρ (.two i j) v kk) (q : ∀ ρ' s', kk ρ' → ρ'.length = ρ.length → St W (act env vars ρ' ++ F) σ s' → Evo s.heap s'.heap → Q () s') : wpAny W.M A (assign (.Tuple [t, w] k p) env u) Q E s := by
 obtain ⟨x, y, rfl, hk⟩ := zof h
 simp only [Rv] at r
 obtain ⟨a, items, rfl, htup, rl⟩ := r
 have hsz := zc2 rl
 obtain ⟨y1, ys, e1, r1, rl⟩ := rl.inv
 obtain ⟨y2, ys', rfl, r2, rl2⟩ := rl.inv
 have : ys' = [] := by simpa only [RvL] using rl2
 subst this
 refine assign_Tuple_tuple hh htup (by rw [zh5 ht hw, hsz]; rfl) (by rw [zh5 ht hw]; rfl) fun h' kb => ?_
 obtain ⟨S1, k1⟩ := S.extBut (t := s.toks) kb
 rw [zh5 ht hw, e1]
 exact zjo b ht hw hi hj S1 (r1.evo k1) (r2.evo k1) fun s2 S2 k2 => q _ _ hk (by simp) S2 (k1.trans k2)
theorem zrh {uv : Vars} {υ : Loc} (b : Blk sc env vars) (up : ∀ (i : Nat) (x : Str) (v : Va), uv[i]? = some (x, true) → υ[i]? = some (some v) → env.kindOf x = some .cell → ∃ a, env.cells.lookup x = some a ∧ (a, .cell (some v)) ∈ F) : RdF env vars ρ uv υ (act env vars ρ ++ F) where
 loc i x v hv hρ := ⟨_, List.mem_append_left _ (List.Mem.head _), zkr hv hρ⟩
 cel i x v hv hρ := by
  obtain ⟨hk, _⟩ := zbm b.vok hv
  obtain ⟨a, ha⟩ := b.cok x hk
  refine ⟨a, ha, List.mem_append_left _ (List.Mem.tail _ ?_)⟩
  have := zj7 (cs := env.cells) hv hρ
  rwa [ha, Option.getD_some] at this
 up i x v hv hυ hk := let ⟨a, h1, h2⟩ := up i x v hv hυ hk; ⟨a, h1, List.mem_append_right _ h2⟩
noncomputable def zeq (a b : Int) : Int := if a < b then b - a else 0
noncomputable def itOb : Sq → Nat → Ob
 | .lst l, n => .lit l n
 | .rng a b, n => .rit (a + n) (zeq a b - n)
theorem St.dropOff {I : Addr} {ob : Ob} {h' : Heap} {t : Nat} (S : St W ((I, ob) :: F) σ s) (hi : ob.isIter = true) (k : Heap.ExtBut I s.heap h') : St W F σ { s with heap := h', toks := t } ∧ Evo s.heap h' := by
 obtain ⟨led, dd, x, y, z⟩ := S.ex
 have D := x.get (a := I) (ob := ob) (List.Mem.head _)
 obtain ⟨o, ho⟩ := D.there
 have hf : ¬ zdn o := by
  cases ob <;> first | cases hi | skip
  ·obtain ⟨o', ho', _, hd⟩ := D; rw [ho] at ho'; cases ho'; exact fun q => q _ hd
  ·rw [show s.heap.get? I = _ from D] at ho; cases ho; exact fun q => q _ rfl
 have ev : Evo s.heap h' := zgl k ho hf
 have hn : I ∉ ((F ++ led).map (·.1)) := by
  have nd := x.nd
  rw [List.cons_append, List.map_cons, List.nodup_cons] at nd
  exact nd.1
 have x' : Sat W (F ++ led) s := x.sub (List.sublist_cons_self _ _)
 exact ⟨⟨led, dd, x'.off hn (x.new _ (List.Mem.head _)) k ev rfl rfl, y, z⟩, ev⟩
theorem St.turnIt {I : Addr} {ob ob' : Ob} {h' : Heap} {t : Nat} (S : St W ((I, ob) :: F) σ s) (hi : ob.isIter = true) (k : Heap.ExtBut I s.heap h') (d : Den W h' I ob') : St W ((I, ob') :: F) σ { s with heap := h', toks := t } ∧ Evo s.heap h' := by
 have D := S.frame (a := I) (ob := ob) (List.Mem.head _)
 obtain ⟨o, ho⟩ := D.there
 have hf : ¬ zdn o := by
  cases ob <;> first | cases hi | skip
  ·obtain ⟨o', ho', _, hd⟩ := D; rw [ho] at ho'; cases ho'; exact fun q => q _ hd
  ·rw [show s.heap.get? I = _ from D] at ho; cases ho; exact fun q => q _ rfl
 have ev : Evo s.heap h' := zgl k ho hf
 exact ⟨S.updF .here k ev d rfl rfl, ev⟩
theorem itOb_iter (sq : Sq) (n : Nat) : (itOb sq n).isIter = true := by cases sq <;> rfl
set_option tactic.hygienic true in
theorem zfw {I : Addr} {sq : Sq} {n : Nat} {o : Option Va} {Q : Option Value → Shared → Prop} (hh : A.handled = none) (S : St W ((I, itOb sq n) :: F) σ s) (h : za2 sq σ n = some o)
  (qn : ∀ s', o = none → St W F σ s' → Evo s.heap s'.heap → Q none s') (qs : ∀ v y s', o = some v → Rv s'.heap v y → St W ((I, itOb sq (n + 1)) :: F) σ s' → Evo s.heap s'.heap → Q (some y) s') : wpAny W.M A (pyNext (.ref I)) Q E s := by
 cases sq with
 | lst l =>
  simp only [za2] at h
  split at h
  ·rename_i vs hσ
   obtain ⟨items, c, hl, hz, r⟩ := S.list hσ
   have D : s.heap.IsListIter I l n := S.frame (ob := .lit l n) (List.Mem.head _)
   cases h
   cases hv : vs[n]? with
   | none =>
    have hsz := zc2 r
    refine wpAny_pyNext_list_end hh D hl.isList (by rw [Array.getElem?_eq_none]; rw [List.getElem?_eq_none_iff] at hv; exact Nat.le_trans (Nat.le_of_eq hsz) hv) fun h' k => ?_
    obtain ⟨S', ev⟩ := S.dropOff (t := s.toks) rfl k
    exact qn _ hv S' ev
   | some x =>
    obtain ⟨y, h1, h2⟩ := zf5 r hv
    refine wpAny_pyNext_list_item D hl.isList h1 fun h' hit hs => ?_
    obtain ⟨S', ev⟩ := S.turnIt (ob' := .lit l (n + 1)) (t := s.toks) rfl hs.extBut hit
    exact qs x y _ hv (h2.evo ev) S' ev
  ·cases h
 | rng a b =>
  simp only [za2] at h
  have D : IsRangeIter s.heap I (a + n) (zeq a b - n) 1 := S.frame (ob := .rit (a + n) (zeq a b - n)) (List.Mem.head _)
  split at h
  ·rename_i hlt
   cases h
   have hl : 0 < zeq a b - n := by unfold zeq; rw [if_pos (by lia -abstractProof)]; lia -abstractProof
   refine wpAny_pyNext_range_item D hl fun h' hit hs => ?_
   obtain ⟨S', ev⟩ := S.turnIt (ob' := .rit (a + n + 1) (zeq a b - n - 1)) (t := s.toks + 1) rfl hs.extBut hit
   have e1 : (a + n + 1 : Int) = a + ((n + 1 : Nat) : Int) := by push_cast; lia -abstractProof
   have e2 : (zeq a b - n - 1 : Int) = zeq a b - ((n + 1 : Nat) : Int) := by push_cast; lia -abstractProof
   rw [e1, e2] at S'
   exact qs _ _ _ rfl (by simp only [Rv]; exact ⟨_, rfl⟩) S' ev
  ·rename_i hlt
   cases h
   have hl : zeq a b - n ≤ 0 := by unfold zeq; split <;> lia -abstractProof
   refine wpAny_pyNext_range_end hh D hl fun h' k => ?_
   obtain ⟨S', ev⟩ := S.dropOff (t := s.toks) rfl k
   exact qn _ rfl S' ev
theorem znh {l : Addr} {vs : List Va} {Q : Value → Shared → Prop} (S : St W F σ s) (h : σ l = some (.list vs)) (q : ∀ I s', St W ((I, itOb (.lst l) 0) :: F) σ s' → Evo s.heap s'.heap → Q (.ref I) s') : wpAny W.M A (pyIter (.ref l)) Q E s := by
 obtain ⟨items, c, hl, hz, r⟩ := S.list h
 refine wpAny_pyIter_list hl.isList ?_
 have k : Ext s.heap (s.heap.push { cls := .type "list_iterator", data := .fields #[.ref l, .int 0 0] }) := Ext.push _ _
 exact q _ _ (S.push (ob := .lit l 0) k (zbl _) ⟨_, Heap.get?_push_size _ rfl, rfl, rfl⟩ rfl rfl) k.evo
theorem zix {x : Int} (h1 : -2000000001 < x) (h2 : x < 2000000001) : Builtin.Range.rangeFitsLong x = true :=
 Bool.and_eq_true_iff.mpr ⟨decide_eq_true (Int.le_of_lt (Int.lt_trans (by decide) h1)), decide_eq_true (Int.lt_trans h2 (by decide))⟩
theorem zms {a b : Int} (h : -1000000000 < a ∧ a < 1000000000 ∧ -1000000000 < b ∧ b < 1000000000) : Builtin.Range.small a b 1 = true := by
 have f : ∀ {x : Int}, -1000000000 < x → x < 1000000000 → Builtin.Range.rangeFitsLong x = true := fun h1 h2 => zix (Int.lt_trans (by decide) h1) (Int.lt_trans h2 (by decide))
 unfold Builtin.Range.small
 rw [rangeSize_one, f h.1 h.2.1, f h.2.2.1 h.2.2.2, if_pos (show (1 : Int) > 0 by decide), show b + ((1 : Int) - 1) = b from Int.add_zero b, f h.2.2.1 h.2.2.2, Bool.or_true, Bool.and_true, show Builtin.Range.rangeFitsLong 1 = true from rfl]
 exact zix (by split <;> lia -abstractProof) (by split <;> lia -abstractProof)
theorem zlr {a b : Int} {rg : Addr} {t u v : Tok} {Q : Value → Shared → Prop} (S : St W F σ s) (h : IsRange s.heap rg a b 1 t u v) (hb : -1000000000 < a ∧ a < 1000000000 ∧ -1000000000 < b ∧ b < 1000000000)
  (q : ∀ I s', St W ((I, itOb (.rng a b) 0) :: F) σ s' → Evo s.heap s'.heap → Q (.ref I) s') : wpAny W.M A (pyIter (.ref rg)) Q E s := by
 refine wpAny_pyIter_range h (zms hb) ?_
 rw [rangeSize_one]
 have k : Ext s.heap (s.heap.push { cls := .type "range_iterator", data := .fields #[rawInt a, rawInt (if a < b then b - a else 0), rawInt 1] }) := Ext.push _ _
 refine q _ _ (S.push (ob := itOb (.rng a b) 0) k (zbl _) ?_ rfl rfl) k.evo
 show IsRangeIter _ _ (a + ((0 : Nat) : Int)) (zeq a b - ((0 : Nat) : Int)) 1
 rw [show a + ((0 : Nat) : Int) = a by simp, show zeq a b - ((0 : Nat) : Int) = zeq a b by simp]
 exact Heap.get?_push_size _ rfl
end
end
section
section
variable {W : Wd} {C : Orc} {A : Around} {E : Value → Shared → Prop} {sc : Scope} {env : Env} {vars uv : Vars} {ρ υ : Loc} {F : Led} {r : Nat} {σ : Sto} {s : Shared}
theorem EP.no {lo : Option Addr} {v : Value} {s' : Shared} (h : EP W F lo s (fun _ => False) v s') : False := let ⟨_, _, _, _, z⟩ := h; z
noncomputable def IsIt (σ : Sto) (h : Heap) (x : Value) : Sq → Prop
 | .lst l => x = .ref l ∧ ∃ vs, σ l = some (.list vs)
 | .rng a b => Ex4 fun rg t u v => A3 (x = .ref rg) (IsRange h rg a b 1 t u v) ((-1000000000 < a ∧ a < 1000000000 ∧ -1000000000 < b ∧ b < 1000000000))
inductive IP (W : Wd) (F : Led) (s₀ : Shared) (Q : Sq → Sto → Prop) (x : Value) (s' : Shared) : Prop
 | mk (sq : Sq) (σ' : Sto) : IsIt σ' s'.heap x sq → St W F σ' s' → Evo s₀.heap s'.heap → Q sq σ' → IP W F s₀ Q x s'
noncomputable def SI (W : Wd) (C : Orc) (A : Around) (env : Env) (ρ υ : Loc) (F : Led) (it : It) (e : Expr) : Prop := ∀ σ s B Q, Ctx W A s.heap → St W F σ s → wpIt C B ρ υ it σ Q → wc W.M A (eval e env) (IP W F s Q) (EP W F env.frame s B) s
theorem si_seq {a : X} {e : Expr} (ha : SX W C A env ρ υ F a e) : SI W C A env ρ υ F (.seq a) e := fun σ s B Q c S q =>
 zaa (ha σ s B _ c S q) (fun v s1 ⟨mv, σ1, r1, S1, k1, q1⟩ => by
  obtain ⟨a, vs, rfl, hσ, q2⟩ := q1
  have e := zb2 r1
  subst e
  exact ⟨.lst a, σ1, ⟨rfl, vs, hσ⟩, S1, k1, q2⟩) fun _ _ z => z
theorem si_r1 {a : X} {f e : Expr} {p : Pos} (H : Here W A sc env vars ρ uv υ F r) (hf : za9 sc "range" f = true) (ha : SX W C A env ρ υ F a e) (hc : chkX sc vars uv a e = true) : SI W C A env ρ υ F (.r1 a) (.Call f [e] [] p) := fun σ s B Q c S q => by
 rw [zbd (xs := .cons a .nil) hf (zdy hc)]
 refine zaf (zc5 H S hf (H.pre.blt _ (.inr (.inr (.inr (.inr (.inr (.inr rfl))))))) zi6 (by decide) ?_)
 refine zg5 (by simp [evalEach]) (zao (zaa (ha σ s B _ c S q) (fun v s1 ⟨mv, σ1, r1, S1, k1, q1⟩ => zaq (zah ?_)) fun _ _ z => z))
 obtain ⟨x, y, e1, rfl, hb, q2⟩ := zim q1
 cases e1
 obtain ⟨t, rfl⟩ := zcj r1
 refine call_range_1 ?_
 have k : Ext s1.heap (s1.heap.push { cls := .type "range", data := .fields #[.int 0 s1.toks, .int y t, .int 1 (s1.toks + 1)] }) := Ext.push _ _
 exact ⟨.rng 0 y, σ1, ⟨_, _, _, _, rfl, IsRange.new _ _ _ _ _ _ _, hb⟩, S1.ext k rfl rfl, k1.trans k.evo, q2⟩
theorem si_r2 {a b : X} {f x y : Expr} {p : Pos} (H : Here W A sc env vars ρ uv υ F r) (hf : za9 sc "range" f = true) (ha : SX W C A env ρ υ F a x) (hb : SX W C A env ρ υ F b y) (hc : chkX sc vars uv a x = true) (hd : chkX sc vars uv b y = true) :
  SI W C A env ρ υ F (.r2 a b) (.Call f [x, y] [] p) := fun σ s B Q c S q => by
 rw [zbd (xs := .cons a (.cons b .nil)) hf (show zde sc vars uv (.cons a (.cons b .nil)) [x, y] = true from zj3 hc hd)]
 refine zaf (zc5 H S hf (H.pre.blt _ (.inr (.inr (.inr (.inr (.inr (.inr rfl))))))) zi6 (by decide) ?_)
 refine zg5 (by simp [evalEach]) (zao (zaa (ha σ s B _ c S q) (fun v s1 ⟨mv, σ1, r1, S1, k1, q1⟩ => ?_) fun _ _ z => z))
 refine zao (zaa (hb σ1 s1 B _ (c.evo k1) S1 q1) (fun w s2 ⟨mw, σ2, r2, S2, k2, q2⟩ => zaq (zah ?_)) fun _ _ z => z.from k1)
 obtain ⟨x, y, rfl, rfl, hb, q3⟩ := zim q2
 obtain ⟨t, rfl⟩ := zcj (r1.evo k2)
 obtain ⟨u, rfl⟩ := zcj r2
 refine call_range_2 ?_
 have k : Ext s2.heap (s2.heap.push { cls := .type "range", data := .fields #[.int x t, .int y u, .int 1 s2.toks] }) := Ext.push _ _
 exact ⟨.rng x y, σ2, ⟨_, _, _, _, rfl, IsRange.new _ _ _ _ _ _ _, hb⟩, S2.ext k rfl rfl, (k1.trans k2).trans k.evo, q3⟩
theorem zkw {x : Value} {sq : Sq} {Q : Value → Shared → Prop} (S : St W F σ s) (h : IsIt σ s.heap x sq) (q : ∀ I s', St W ((I, itOb sq 0) :: F) σ s' → Evo s.heap s'.heap → Q (.ref I) s') : wpAny W.M A (pyIter x) Q E s := by
 cases sq with
 | lst l => obtain ⟨rfl, vs, hσ⟩ := h; exact znh S hσ q
 | rng a b => obtain ⟨rg, t, u, v, rfl, hr, hb⟩ := h; exact zlr S hr hb q
theorem zls {I : Addr} {sq : Sq} {Q : Value → Shared → Prop} (S : St W F σ s) (h : (I, itOb sq 0) ∈ F) (q : Q (.ref I) s) : wpAny W.M A (pyIter (.ref I)) Q E s := by
 cases sq with
 | lst l => exact wpAny_pyIter_listiter (S.frame h : Den W s.heap I (.lit l 0)) q
 | rng a b => exact wpAny_pyIter_rangeiter (S.frame h : Den W s.heap I (.rit (a + (0 : Nat)) (zeq a b - (0 : Nat)))) q
set_option tactic.hygienic true in
theorem zfp {it : It} {e : Expr} (h : zia sc vars uv it e = true) (x : Value) : foldedSetIterable e env x = pure x := by
 cases e <;> first | rfl | skip
 ·rename_i elts k p
  exfalso
  cases it with
  | r1 a => exact bad h
  | r2 a b => exact bad h
  | seq a => cases a <;> exact bad h
theorem zj2 {names : List (Str × NameKind)} : ∀ (acc : List (Str × Addr)) {Q : List (Str × Addr) → Shared → Prop}, (∀ p ∈ names, p.2 = .free → ∃ a, env.cells.lookup p.1 = some a) → (∀ p ∈ acc, env.cells.lookup p.1 = some p.2) →
  (∀ cs, (∀ p ∈ cs, env.cells.lookup p.1 = some p.2) → (∀ p ∈ names, p.2 = .free → p.1 ∈ cs.map (·.1)) → (∀ p ∈ acc, p ∈ cs) → Q cs s) →
  ∀ (f : Str × NameKind → List (Str × Addr) → Sem (ForInStep (List (Str × Addr)))), (∀ n k cs, f (n, k) cs = if k == .free then (do let a ← cellOf env n; pure (.yield ((n, a) :: cs))) else pure (.yield cs)) → wpAny W.M A (forIn names acc f) Q E s := by
 induction names with
 | nil => intro acc Q _ h2 q f _; rw [List.forIn_nil]; exact wpAny_pure (q acc h2 (fun p h => nomatch h) fun p h => h)
 | cons x r ih =>
  intro acc Q h1 h2 q f hf
  obtain ⟨n, k⟩ := x
  rw [List.forIn_cons, hf]
  by_cases hk : k = .free
  ·subst hk
   obtain ⟨a, ha⟩ := h1 (n, .free) List.mem_cons_self rfl
   have ha' : env.cells.lookup n = some a := ha
   rw [if_pos (by decide)]
   refine wpAny_bind (wpAny_bind (wpAny_cellOf ha' (wpAny_pure ?_)))
   refine ih ((n, a) :: acc) (fun p hp => h1 p (List.mem_cons_of_mem _ hp)) (fun p hp => ?_) (fun cs c1 c2 c3 => q cs c1 (fun p hp e => ?_) fun p hp => c3 p (List.mem_cons_of_mem _ hp)) f hf
   ·rcases List.mem_cons.mp hp with rfl | hp
    ·exact ha
    ·exact h2 p hp
   ·rcases List.mem_cons.mp hp with rfl | hp
    ·exact List.mem_map.mpr ⟨(n, a), c3 _ List.mem_cons_self, rfl⟩
    ·exact c2 p hp e
  ·rw [if_neg (by simpa using hk)]
   refine wpAny_bind (wpAny_pure ?_)
   refine ih acc (fun p hp => h1 p (List.mem_cons_of_mem _ hp)) h2 (fun cs c1 c2 c3 => q cs c1 (fun p hp e => ?_) c3) f hf
   rcases List.mem_cons.mp hp with rfl | hp
   ·exact absurd e hk
   ·exact c2 p hp e
theorem zhv {cs : List (Str × Addr)} {n : Str} (h1 : ∀ p ∈ cs, env.cells.lookup p.1 = some p.2) (h2 : n ∈ cs.map (·.1)) : cs.lookup n = env.cells.lookup n := by
 induction cs with
 | nil => cases h2
 | cons x r ih =>
  obtain ⟨m, a⟩ := x
  rw [List.lookup_cons]
  cases e : n == m with
  | true =>
   have := beq_iff_eq.mp e
   subst this
   exact (h1 (n, a) List.mem_cons_self).symm
  | false =>
   refine ih (fun p hp => h1 p (List.mem_cons_of_mem _ hp)) ?_
   rcases List.mem_map.mp h2 with ⟨p, hp, q⟩
   rcases List.mem_cons.mp hp with rfl | hp
   ·have q' : m = n := q
    subst q'; simp at e
   ·exact List.mem_map.mpr ⟨p, hp, q⟩
end
end
section
section
variable {W : Wd} {C : Orc} {A : Around} {E : Value → Shared → Prop} {sc c : Scope} {env cenv : Env} {vars uv vs : Vars} {ρ υ : Loc} {F : Led} {r : Nat} {σ : Sto} {s : Shared} {tg : Expr} {two : Bool} {v : Va} {u : Value}
noncomputable def zke (sc c : Scope) : Prop := ∀ p ∈ c.names, p.2 = .local ∨ p.2 = .globalImplicit ∨ (p.2 = .free ∧ sc.names.lookup p.1 = some .cell)
noncomputable def TgIs (two : Bool) (vs : Vars) (tg : Expr) : Prop := (vs.map (·.1)).Nodup ∧
  ((two = false ∧ Ex2 fun x p => tg = .Name x p ∧ vs = [(x, false)]) ∨ (two = true ∧ Ex6 fun x p y q k o => tg = .Tuple [.Name x p, .Name y q] k o ∧ vs = [(x, false), (y, false)]))
theorem zey (h : CV sc c tg two vs) : zen (zgh sc c) vs = true ∧ zke sc c ∧ (vs.map (·.1)).Nodup ∧
  ((two = false ∧ Ex2 fun x p => tg = .Name x p ∧ vs = [(x, false)]) ∨ (two = true ∧ Ex6 fun x p y q k o => tg = .Tuple [.Name x p, .Name y q] k o ∧ vs = [(x, false), (y, false)])) := by
 refine andE h.2 fun h1 h' => andE h' fun h2 h3 => ?_
 have hN : zke sc c := by
  intro q hq
  rw [beq_iff_eq.mp h2] at hq
  rcases List.mem_cons.mp hq with rfl | hq
  ·exact .inl rfl
  rcases List.mem_append.mp hq with hq | hq
  ·obtain ⟨p, _, rfl⟩ := List.mem_map.mp hq
   exact .inl rfl
  ·have := List.all_eq_true.mp h3 q hq
   simp only [Bool.or_eq_true, Bool.and_eq_true, beq_iff_eq] at this
   exact .inr this
 refine ⟨h1, hN, ?_⟩
 have ht := h.1
 clear h h1 h2 h3 h' hN
 cases two with
 | false =>
  refine zjs (P := TgIs false vs) ht fun x p h => ?_
  obtain rfl := beq_iff_eq.mp h
  exact ⟨by simp, .inl ⟨rfl, x, p, rfl, rfl⟩⟩
 | true =>
  refine tupE (P := TgIs true vs) ht fun l k o h => zk6 (P := fun l => TgIs true vs (.Tuple l k o)) h fun a b h => zjs (P := fun a => TgIs true vs (.Tuple [a, b] k o)) h fun x p h =>
   zjs (P := fun b => TgIs true vs (.Tuple [_, b] k o)) h fun y q h => andE h fun h0 h => ?_
  obtain rfl := beq_iff_eq.mp h
  exact ⟨by simpa using h0, .inr ⟨rfl, x, p, y, q, k, o, rfl, rfl⟩⟩
theorem zgo {kk : Loc → Prop} {Q : Unit → Shared → Prop} (hh : A.handled = none) (h : CV sc c tg two vs) (b : Blk (zgh sc c) cenv vs) (hl : ρ.length = vs.length) (S : St W (act cenv vs ρ ++ F) σ s) (r : Rv s.heap v u) (hk : zem two v kk)
  (q : ∀ ρ' s', kk ρ' → ρ'.length = vs.length → St W (act cenv vs ρ' ++ F) σ s' → Evo s.heap s'.heap → Q () s') : wpAny W.M A (assign tg cenv u) Q E s := by
 obtain ⟨_, _, _, ⟨rfl, x, p, rfl, rfl⟩ | ⟨rfl, x, p, y, q', k, o, rfl, rfl⟩⟩ := zey h
 ·obtain ⟨a, rfl⟩ : ∃ a, ρ = [a] := by
   match ρ, hl with
   | [a], _ => exact ⟨a, rfl⟩
  refine zcr (i := 0) b (beq_self_eq_true x) (by simp) S r fun s' S' k' => ?_
  exact q [some v] s' hk rfl S' k'
 ·obtain ⟨a, a', rfl⟩ : Ex2 fun a a' => ρ = [a, a'] := by
   match ρ, hl with
   | [a, a'], _ => exact ⟨a, a', rfl⟩
  refine zfh (i := 0) (j := 1) hh b (beq_self_eq_true x) (beq_self_eq_true y) (by simp) (by simp) S r (show zg3 [a, a'] (.two 0 1) v kk from hk) fun ρ' s' z1 z2 S' k' => ?_
  exact q ρ' s' z1 (by rw [z2]; rfl) S' k'
theorem zio {tg : Expr} {I : Addr} {sq : Sq} {k : Nat} {u : Value} {Q : Unit → Shared → Prop} (S : St W F σ s) (h : (I, itOb sq k) ∈ F) (q : Q () s) : wpAny W.M A (letOwnedTupleGo tg (.ref I) u) Q E s := by
 have D := S.frame h
 obtain ⟨o, ho⟩ := D.there
 have hcls : o.cls = .type "list_iterator" ∨ o.cls = .type "range_iterator" := by
  cases sq with
  | lst l => obtain ⟨o', ho', hc, _⟩ := D; rw [ho] at ho'; cases ho'; exact .inl hc
  | rng a b => rw [show s.heap.get? I = _ from D] at ho; cases ho; exact .inr rfl
 have fin : ∀ a : Addr, wpAny W.M A (load I >>= fun o => match o.cls, o.data with
   | .type n, .fields vs => if (["enumerate", "zip", "dict_itemiterator", "dict_reverseitemiterator", "odict_iterator", "itertools.zip_longest", "itertools.pairwise"].contains n && vs[0]? == some (rawInt a)) = true then (do rule "for.unpacks-the-owned-tuple"; updateField I 0 .none) else pure ()
   | _, _ => pure ()) Q E s := fun a => by
  refine wpAny_bind (wpAny_load ho ?_)
  rcases hcls with hc | hc <;> rw [hc] <;> cases o.data <;> first | exact wpAny_pure q | (rw [if_neg (by simp)]; exact wpAny_pure q)
 cases tg <;> first | exact wpAny_pure q | skip
 ·cases u <;> first | exact wpAny_pure q | exact fin _
 ·cases u <;> first | exact wpAny_pure q | exact fin _
theorem zl1 {a : Addr} {ys : List Va} {w : Va} {y : Value} {Q : Value → Shared → Prop} (S : St W ((a, .list ys) :: F) σ s) (hz : ys.length < zap) (hy : Rv s.heap w y)
  (q : ∀ s', St W ((a, .list (ys ++ [w])) :: F) σ s' → Evo s.heap s'.heap → Q .none s') : wpAny W.M A (call (.builtin "list.append") [.ref a, y]) Q E s := by
 have D := S.frame (a := a) (ob := .list ys) (List.Mem.head _)
 have D' := D
 obtain ⟨items, n, hl, _, r⟩ := D
 have hsz := zc2 r
 have hm : zap ≤ sizeLine := by decide
 refine call_meets PySem.F.slot_list_append ⟨_, hl, rfl⟩ PySem.F.entry_list_append (PySem.F.args_list_append_2 _ _) (list_append a items n y (by exact Nat.le_trans (Nat.le_of_eq hsz) h2)) ⟨hl, ?_⟩
 have k : Heap.ExtBut a s.heap (s.heap.update a (Obj.mapSeq fun xs => xs.push y)) := fun b o hb e => (Heap.get?_update_other _ _ (Ne.symm hb)).trans e
 have hl' := hl.update (fun xs => xs.push y)
 have ev : Evo s.heap (s.heap.update a (Obj.mapSeq fun xs => xs.push y)) := zel k hl hl' (D'.noTup hl) (fun vs e => by cases e)
 refine q _ (S.updF .here k ev ⟨_, _, hl', by rw [List.length_append, List.length_singleton]; exact Nat.lt_of_lt_of_le hz (by decide), ?_⟩ rfl rfl) ev
 rw [Array.toList_push]
 exact (r.append (RvL.cons hy RvL.nil)).evo ev
end
end
section
section
variable {W : Wd} {C : Orc} {A : Around} {E : Value → Shared → Prop} {sc c : Scope} {env cenv : Env} {vars uv vs : Vars} {ρ υ : Loc} {F : Led} {r : Nat} {σ : Sto} {s s₀ : Shared} {tg elt iter : Expr} {two : Bool} {sq : Sq} {I acc : Addr} {pos : Pos} {ifs : List Expr}
noncomputable def zuc (W : Wd) (cenv : Env) (vs : Vars) (F : Led) (acc : Addr) (s₀ : Shared) (K : Sto × List Va → Prop) (r : Result) (s' : Shared) : Prop :=
 ∃ f, r = .ok f ∧ Ex2 fun st' ρ₁ => A4 (K st') (ρ₁.length = vs.length) (St W (act cenv vs ρ₁ ++ (acc, .list st'.2) :: F) st'.1 s') (Evo s₀.heap s'.heap)
set_option tactic.hygienic true in
theorem zn0 {body : Va → (Sto × List Va) → ((Sto × List Va) → Prop) → Prop} {K : Sto × List Va → Prop} {tail : Sem Unit} (hc : Ctx W A s₀.heap)
  (hcomp : compTurn (.ListComp elt [⟨tg, iter, ifs, 0⟩] c pos) 0 (.ref I) (.ref acc) cenv = (standAt iter.pos >>= fun _ => pyNext (.ref I) >>= fun r => match r with
   | none => pure (.done .next)
   | some v => letOwnedTupleGo tg (.ref I) v >>= fun _ => assign tg cenv v >>= fun _ => tail >>= fun _ => again (.compLoop (.ListComp elt [⟨tg, iter, ifs, 0⟩] c pos) 0 (.ref I) (.ref acc) cenv)))
  (hbody : ∀ v u k σ' ys s' kk ρ₀, ρ₀.length = vs.length → Ctx W A s'.heap → St W (act cenv vs ρ₀ ++ (I, itOb sq k) :: (acc, .list ys) :: F) σ' s' → Rv s'.heap v u → body v (σ', ys) kk →
   wc W.M A (assign tg cenv u) (fun _ s2 => wc W.M A tail (fun _ s3 => Ex2 fun st' ρ₁ => A4 (kk st') (ρ₁.length = vs.length) (St W (act cenv vs ρ₁ ++ (I, itOb sq k) :: (acc, .list st'.2) :: F) st'.1 s3) (Evo s'.heap s3.heap)) (fun _ _ => False) s2) (fun _ _ => False) s')
  {f k : Nat} {ys : List Va} (hw : zei (S := Sto × List Va) (fun s n => za2 sq s.1 n) body K f k (σ, ys)) (hl : ρ.length = vs.length) (S : St W (act cenv vs ρ ++ (I, itOb sq k) :: (acc, .list ys) :: F) σ s) (ev : Evo s₀.heap s.heap) :
  zb6 W.M A (.compLoop (.ListComp elt [⟨tg, iter, ifs, 0⟩] c pos) 0 (.ref I) (.ref acc) cenv) (zuc W cenv vs F acc s₀ K) s := by
 refine zff rfl rfl (fun n s' => Ex4 fun k σ' ys ρ₀ => A4 (zei (S := Sto × List Va) (fun s n => za2 sq s.1 n) body K n k (σ', ys)) (ρ₀.length = vs.length) (St W (act cenv vs ρ₀ ++ (I, itOb sq k) :: (acc, .list ys) :: F) σ' s') (Evo s₀.heap s'.heap))
  (fun n s' hI => ?_) f ⟨k, σ, ys, ρ, hw, hl, S, ev⟩
 clear hw hl S ev
 obtain ⟨k, σ', ys, ρ₀, hw, hl, S, ev⟩ := hI
 show wc _ A ((compTurn (.ListComp elt [⟨tg, iter, ifs, 0⟩] c pos) 0 (.ref I) (.ref acc) cenv).onRaise (fun x => do noteFrame x cenv; theTreesLotGoes x)) _ _ s'
 refine zb7 (zaa (E := fun _ _ => False) ?_ (fun _ _ z => z) fun _ _ z => z.elim)
 rw [hcomp]
 refine zag ?_
 cases n with
 | zero => exact hw.elim
 | succ n =>
  simp only [zei] at hw
  have Sp : St W ((I, itOb sq k) :: (act cenv vs ρ₀ ++ (acc, .list ys) :: F)) σ' s' := S.perm List.perm_middle
  split at hw
  ·exact hw.elim
  ·rename_i hit
   refine zaf (zfw hc.handled Sp hit (fun s1 _ S1 k1 => ?_) fun v y s1 e => by cases e)
   exact zaj ⟨_, rfl, (σ', ys), ρ₀, hw, hl, S1, ev.trans k1⟩
  ·rename_i v hit
   refine zaf (zfw hc.handled Sp hit (fun s1 e => by cases e) fun v' y s1 e r1 S1 k1 => ?_)
   cases e
   have S1' : St W (act cenv vs ρ₀ ++ (I, itOb sq (k + 1)) :: (acc, .list ys) :: F) σ' s1 := S1.perm List.perm_middle.symm
   refine zaf (zio S1 (List.Mem.head _) ?_)
   refine zab (zaa (hbody v y (k + 1) σ' ys s1 _ ρ₀ hl (hc.evo (ev.trans k1)) S1' r1 hw) (fun _ s2 z => ?_) fun _ _ z => z)
   refine zab (zaa z (fun _ s3 ⟨st', ρ₁, z1, z2, z3, z4⟩ => zaj ?_) fun _ _ z => z)
   exact .inl ⟨rfl, n, Nat.lt_succ_self _, k + 1, st'.1, st'.2, ρ₁, z1, z2, z3, (ev.trans k1).trans z4⟩
theorem zlv {R : Result → Shared → Prop} (S : St W F σ s) (hI : (I, itOb sq 0) ∈ F) (h : zb6 W.M A (.compLoop (.ListComp elt [⟨tg, iter, ifs, 0⟩] c pos) 0 (.ref I) (.ref acc) cenv) R s) :
  zb6 W.M A (.compStart (.ListComp elt [⟨tg, iter, ifs, 0⟩] c pos) 0 (.ref I) (.ref acc) cenv) R s := by
 refine zaz rfl ?_
 show wc _ A ((compStart (.ListComp elt [⟨tg, iter, ifs, 0⟩] c pos) 0 (.ref I) (.ref acc) cenv).onRaise (fun x => do noteFrame x cenv; standAt theWindowsPlace)) _ _ s
 refine zb7 (zaa (E := fun _ _ => False) ?_ (fun _ _ z => z) fun _ _ z => z.elim)
 unfold compStart
 show wc _ _ (ask >>= _) _ _ s
 refine zaf (wpAny_askSetting ?_)
 by_cases hf : (Params.followText W.w.params "comprehension-iter-twice") = true
 ·refine zbu hf ?_
  first
   | exact zab (zaj (zaj (And.intro rfl h)))
   | exact zaj (And.intro rfl h)
 ·refine zat hf ?_
  refine zaf (wpAny_rule ?_)
  show wc _ _ (standAt iter.pos >>= _) _ _ s
  exact zag (zaf (zls S hI (zaj (And.intro rfl h))))
theorem znz {L : Addr} {ns : List (Str × Option Va)} {m' : Str → Option Value} {h' : Heap} {t : Nat} (S : St W ((L, .frame ns) :: F) σ s) (k : Heap.SameBut L s.heap h') (hn : h'.Ns L m') : St W F σ { s with heap := h', toks := t } ∧ Evo s.heap h' := by
 have D := S.frame (a := L) (ob := .frame ns) (List.Mem.head _)
 have D' := D
 obtain ⟨m, ⟨o, es, ep, ho, hd, _⟩, _⟩ := D
 obtain ⟨o', es', ep', ho', hd', _⟩ := id hn
 have ev : Evo s.heap h' := zel k.extBut ho ho' (D'.noTup ho) (fun vs e => by rw [hd'] at e; cases e)
 have S' := S.updF (s' := { s with heap := h', toks := t }) (ob := .frame ns) (ob' := .frame []) .here k.extBut ev ⟨m', hn, fun x v hm => nomatch hm⟩ rfl rfl
 exact ⟨S'.sub (List.sublist_cons_self _ _), ev⟩
theorem zis {zbq : List (Str × NameKind) → List Value} {xs : List (Str × NameKind)} {ns : List (Str × Option Va)} {Q : Unit → Shared → Prop} (hk : cenv.scope.kind = .function) (hx : ∀ x ∈ xs, x.2 = .local → cenv.kindOf x.1 = some .local)
  (S : St W ((cenv.locals, .frame ns) :: F) σ s) (q : ∀ s', St W F σ s' → Evo s.heap s'.heap → Q () s') : wpAny W.M A (comprehension.letGo cenv zbq xs) Q E s := by
 obtain ⟨m, hn, _⟩ := S.frame (a := cenv.locals) (ob := .frame ns) (List.Mem.head _)
 refine wpAny_comp_letGo hk xs s m hx hn fun h' m' hn' hs => ?_
 obtain ⟨S', ev⟩ := znz (t := s.toks) S hs hn'
 exact q _ S' ev
end
end
section
section
variable {W : Wd} {C : Orc} {A : Around} {E : Value → Shared → Prop} {sc c : Scope} {env : Env} {vars uv vs : Vars} {ρ υ : Loc} {F : Led} {r : Nat} {σ : Sto} {s s₀ : Shared} {tg elt iter : Expr} {two : Bool} {sq : Sq} {I acc : Addr} {pos : Pos} {ifs : List Expr} {it : It}
theorem Here.blk (H : Here W A sc env vars ρ uv υ F r) : Blk sc env vars := ⟨H.eok, H.vok, H.nd, H.cok⟩
theorem St.apartF {a : Addr} {ob : Ob} (S : St W F σ s) (h : (a, ob) ∈ F) : σ a = none := by
 obtain ⟨led, dd, x, y, z⟩ := S.ex
 cases q : σ a with
 | none => rfl
 | some u =>
  exfalso
  rcases zsl (y a u q) with ⟨ob', hm, _⟩ | ⟨o, ho⟩
  case inr =>
   have := x.new _ (List.mem_append_left _ h)
   rw [show W.h₀.get? a = none from this] at ho; cases ho
  have nd := x.nd
  rw [List.map_append] at nd
  exact (List.nodup_append.mp nd).2.2 a (List.mem_map_of_mem (f := (·.1)) h) a (List.mem_map_of_mem (f := (·.1)) hm) rfl
noncomputable def zdk (sc c : Scope) (env : Env) (L : Addr) (cs : List (Str × Addr)) : Env := { newEnv c L env.globals cs env.qual none .none (some env) builtinsNs with scope := zgh sc c }
structure Inner (sc c : Scope) (env cenv : Env) (vs : Vars) : Prop where
 blk : Blk (zgh sc c) cenv vs
 frame : cenv.frame = env.frame
 up : ∀ x, cenv.kindOf x = some .cell → cenv.cells.lookup x = env.cells.lookup x
theorem zhe {f : Str × NameKind → Str × NameKind} (hf : ∀ p, (f p).1 = p.1) : ∀ {l : List (Str × NameKind)} {x : Str} {k : NameKind}, (l.map f).lookup x = some k → ∃ p ∈ l, p.1 = x ∧ (f p).2 = k
 | [], _, _, h => by cases h
 | p :: l, x, k, h => by
  rw [List.map_cons, show f p = (p.1, (f p).2) from Prod.ext (hf p) rfl, List.lookup_cons] at h
  cases e : x == p.1 with
  | true => rw [e] at h; exact ⟨p, List.mem_cons_self, (beq_iff_eq.mp e).symm, Option.some.inj h⟩
  | false =>
   rw [e] at h
   obtain ⟨q, h1, h2⟩ := zhe hf h
   exact ⟨q, List.mem_cons_of_mem _ h1, h2⟩
set_option tactic.hygienic true in
theorem zhh {x : Str} (nk : zke sc c) (h : (zgh sc c).names.lookup x = some .cell) : (x, NameKind.free) ∈ c.names := by
 obtain ⟨p, hp, h1, h2⟩ := zhe (f := fun (n, k) => if k == .free && sc.kind == .function && sc.names.lookup n == some .cell then (n, .cell) else (n, k)) (fun p => by obtain ⟨n, k⟩ := p; dsimp only; split <;> rfl) h
 obtain ⟨n, k⟩ := p
 obtain rfl : n = x := h1
 dsimp only at h2
 split at h2
 ·rename_i hc
  simp only [Bool.and_eq_true, beq_iff_eq] at hc
  rw [hc.1.1] at hp; exact hp
 ·have h2' : k = .cell := h2
  subst h2'
  rcases nk _ hp with h | h | ⟨h, _⟩ <;> cases h
theorem zph {L : Addr} {cs : List (Str × Addr)} (H : Here W A sc env vars ρ uv υ F r) (hc : CV sc c tg two vs) (hk : c.kind = .function) (h1 : ∀ p ∈ cs, env.cells.lookup p.1 = some p.2) (h2 : ∀ p ∈ c.names, p.2 = .free → p.1 ∈ cs.map (·.1)) :
  Inner sc c env (zdk sc c env L cs) vs := by
 obtain ⟨a1, a2, a3, _⟩ := zey hc
 have key : ∀ x, (zgh sc c).names.lookup x = some .cell → cs.lookup x = env.cells.lookup x := fun x hx => zhv h1 (h2 _ (zhh a2 hx) rfl)
 refine ⟨⟨⟨rfl, hk, H.eok.glob, H.eok.blt⟩, a1, a3, fun x hx => ?_⟩, rfl, key⟩
 have hf := zhh a2 hx
 obtain ⟨a, ha⟩ := H.cok x (by rcases a2 _ hf with h | h | ⟨_, h⟩ <;> first | cases h | exact h)
 exact ⟨a, (key x hx).trans ha⟩
theorem Inner.here {cenv : Env} {ρ' : Loc} {F' : Led} (H : Here W A sc env vars ρ uv υ F r) (N : Inner sc c env cenv vs) (hF : ∀ p ∈ F, p ∈ F') : Here W A (zgh sc c) cenv vs ρ' vars ρ (act cenv vs ρ' ++ F') r := by
 refine ⟨H.pre, N.blk.eok, N.blk.vok, zrh N.blk fun i x v hv hρ hk => ?_, H.room, fun fr hfr e he L hL => ?_, ?_, ?_, N.blk.nd, N.blk.cok⟩
 ·obtain ⟨a, h1, h2⟩ := H.rd.cel i x v hv hρ
  exact ⟨a, (N.up x hk).trans h1, hF _ h2⟩
 ·obtain ⟨ns, h⟩ := H.apart fr hfr e he L hL
  exact ⟨ns, List.mem_append_right _ (hF _ h)⟩
 ·obtain ⟨L, h1, ns, h2⟩ := H.lo
  exact ⟨L, N.frame.trans h1, ns, List.mem_append_right _ (hF _ h2)⟩
 ·obtain ⟨e, fr, h1, h2⟩ := H.top
  exact ⟨e, fr, h1, h2.trans N.frame.symm⟩
theorem zgn {cenv : Env} {x : X} {ρ' : Loc} {k : Nat} {ys : List Va} {K : Sto × List Va → Prop} (hc : Ctx W A s.heap) (sx : SX W C A cenv ρ' ρ (act cenv vs ρ' ++ (I, itOb sq k) :: (acc, .list ys) :: F) x elt)
  (S : St W (act cenv vs ρ' ++ (I, itOb sq k) :: (acc, .list ys) :: F) σ s) (hl : ρ'.length = vs.length) (q : wpX C (fun _ => False) ρ' ρ x σ fun w σ => ys.length < zap ∧ K (σ, ys ++ [w])) :
  wc W.M A (eval elt cenv >>= fun x => call (.builtin "list.append") [.ref acc, x] >>= fun _ => pure ()) (fun _ s3 => Ex2 fun st' ρ₁ => A4 (K st') (ρ₁.length = vs.length) (St W (act cenv vs ρ₁ ++ (I, itOb sq k) :: (acc, .list st'.2) :: F) st'.1 s3) (Evo s.heap s3.heap)) (fun _ _ => False) s := by
 refine zab (zaa (sx σ s _ _ hc S q) (fun v s1 ⟨mv, σ1, r1, S1, k1, hz, q1⟩ => ?_) fun _ _ z => z.no)
 have p1 : (act cenv vs ρ' ++ (I, itOb sq k) :: (acc, Ob.list ys) :: F).Perm ((acc, Ob.list ys) :: (act cenv vs ρ' ++ (I, itOb sq k) :: F)) :=
  ((List.Perm.swap _ _ _).append_left _).trans List.perm_middle
 refine zaf (zl1 (S1.perm p1) hz r1 fun s2 S2 k2 => zaj ⟨(σ1, ys ++ [mv]), ρ', q1, hl, S2.perm ?_, k1.trans k2⟩)
 exact (((List.Perm.swap _ _ _).append_left _).trans List.perm_middle).symm
theorem zhl {cenv : Env} {x : X} {k : Nat} {ys : List Va} {v : Va} {u : Value} {K : Sto × List Va → Prop} (hh : Ctx W A s.heap) (hcv : CV sc c tg two vs) (N : Inner sc c env cenv vs)
  (sx : ∀ ρ' ys, SX W C A cenv ρ' ρ (act cenv vs ρ' ++ (I, itOb sq k) :: (acc, .list ys) :: F) x elt) {ρ₀ : Loc} (hl : ρ₀.length = vs.length) (S : St W (act cenv vs ρ₀ ++ (I, itOb sq k) :: (acc, .list ys) :: F) σ s) (r : Rv s.heap v u)
  (q : zem two v fun ρ' => wpX C (fun _ => False) ρ' ρ x σ fun w σ => ys.length < zap ∧ K (σ, ys ++ [w])) :
  wc W.M A (assign tg cenv u) (fun _ s2 => wc W.M A (eval elt cenv >>= fun x => call (.builtin "list.append") [.ref acc, x] >>= fun _ => pure ()) (fun _ s3 => Ex2 fun st' ρ₁ => A4 (K st') (ρ₁.length = vs.length) (St W (act cenv vs ρ₁ ++ (I, itOb sq k) :: (acc, .list st'.2) :: F) st'.1 s3) (Evo s.heap s3.heap)) (fun _ _ => False) s2) (fun _ _ => False) s := by
 refine zah (zgo hh.handled hcv N.blk hl S r q fun ρ' s' z1 z2 S' k' => ?_)
 refine zaa (zgn (hh.evo k') (sx ρ' ys) S' z2 z1) (fun _ s3 ⟨st', ρ₁, a1, a2, a3, a4⟩ => ⟨st', ρ₁, a1, a2, a3, k'.trans a4⟩) fun _ _ z => z
end
end
section
section
variable {W : Wd} {C : Orc} {A : Around} {E : Value → Shared → Prop} {sc c : Scope} {env : Env} {vars uv vs : Vars} {ρ υ : Loc} {F : Led} {r : Nat} {σ : Sto} {s : Shared} {tg elt iter : Expr} {two : Bool} {pos p₀ : Pos} {ifs : List Expr} {it : It}
theorem zj1 (h : CV sc c tg two vs) : ∀ p ∈ c.names, p.2 = .local → p.1 = (".0" : Str) ∨ (p.1, false) ∈ vs := by
 have hf : ∀ p ∈ vs, p.2 = false := by
  obtain ⟨_, _, _, ⟨_, x, p, _, rfl⟩ | ⟨_, x, p, y, q, k, o, _, rfl⟩⟩ := zey h
  ·intro p hp
   cases hp with
   | head => rfl
   | tail _ h => cases h
  ·intro p hp
   cases hp with
   | head => rfl
   | tail _ h => cases h with
    | head => rfl
    | tail _ h => cases h
 intro q hq hl
 refine andE h.2 fun _ h' => andE h' fun h2 h3 => ?_
 rw [beq_iff_eq.mp h2] at hq
 rcases List.mem_cons.mp hq with rfl | hq
 ·exact .inl rfl
 rcases List.mem_append.mp hq with hq | hq
 ·obtain ⟨⟨a, b⟩, hp, rfl⟩ := List.mem_map.mp hq
  cases hf _ hp
  exact .inr hp
 ·have := List.all_eq_true.mp h3 q hq
  simp [hl] at this
theorem zm8 {vs : Vars} {n : Nat} {p : Str × Option Va} (m : p ∈ nsOf vs (List.replicate n none)) : p.2 = none :=
 let ⟨_, _, e⟩ := zjq m
 List.eq_of_mem_replicate (List.mem_of_getElem? e)
theorem zk3 {cenv : Env} {ρ' : Loc} (h : CV sc c tg two vs) (hl : ρ'.length = vs.length) : act cenv vs ρ' = [(cenv.locals, .frame (nsOf vs ρ'))] := by
 obtain ⟨_, _, _, ⟨rfl, x, p, rfl, rfl⟩ | ⟨rfl, x, p, y, q', k, o, rfl, rfl⟩⟩ := zey h
 ·match ρ', hl with
  | [a], _ => rfl
 ·match ρ', hl with
  | [a, b], _ => rfl
theorem zez {body : Va → (Sto × List Va) → ((Sto × List Va) → Prop) → Prop} {K : Sto × List Va → Prop} {use : Option (Value → Sem Unit)} {Q : Value → Shared → Prop} {B : BP} (tailOf : Env → Addr → Sem Unit)
  (H : Here W A sc env vars ρ uv υ F r) (hcv : CV sc c tg two vs) (hk : c.kind = .function) (hit : zia sc vars uv it iter = true) (si : SI W C A env ρ υ F it iter)
  (hcomp : ∀ cenv I acc, compTurn (.ListComp elt [⟨tg, iter, ifs, 0⟩] c pos) 0 (.ref I) (.ref acc) cenv = (standAt iter.pos >>= fun _ => pyNext (.ref I) >>= fun r => match r with
   | none => pure (.done .next)
   | some v => letOwnedTupleGo tg (.ref I) v >>= fun _ => assign tg cenv v >>= fun _ => tailOf cenv acc >>= fun _ => again (.compLoop (.ListComp elt [⟨tg, iter, ifs, 0⟩] c pos) 0 (.ref I) (.ref acc) cenv)))
  (hbody : ∀ cenv I acc sq, Inner sc c env cenv vs → ∀ v u k σ' ys s' kk ρ₀, ρ₀.length = vs.length → Ctx W A s'.heap → St W (act cenv vs ρ₀ ++ (I, itOb sq k) :: (acc, .list ys) :: F) σ' s' → Rv s'.heap v u → body v (σ', ys) kk →
   wc W.M A (assign tg cenv u) (fun _ s2 => wc W.M A (tailOf cenv acc) (fun _ s3 => Ex2 fun st' ρ₁ => A4 (kk st') (ρ₁.length = vs.length) (St W (act cenv vs ρ₁ ++ (I, itOb sq k) :: (acc, .list st'.2) :: F) st'.1 s3) (Evo s'.heap s3.heap)) (fun _ _ => False) s2) (fun _ _ => False) s')
  (c₀ : Ctx W A s.heap) (S₀ : St W F σ s) (q : wpIt C B ρ υ it σ fun sq σ => ∃ f, zei (S := Sto × List Va) (fun s n => za2 sq s.1 n) body K f 0 (σ, []))
  (hE : ∀ e s', EP W F env.frame s B e s' → E e s')
  (hN : use = none → ∀ st acc s4, K st → st.1 acc = none → St W F (st.1.set acc (.list st.2)) s4 → Evo s.heap s4.heap → Q (.ref acc) s4)
  (hU : ∀ u, use = some u → ∀ st acc s4 C' ns, K st → st.1 acc = none → St W ((C', .frame ns) :: F) (st.1.set acc (.list st.2)) s4 → Evo s.heap s4.heap →
   wc W.M A (u (.ref acc)) (fun _ s5 => Ex2 fun F' σ'  => A3 (St W ((C', .frame ns) :: F') σ' s5) (Evo s.heap s5.heap) (∀ s6, St W F' σ' s6 → Evo s.heap s6.heap → Q .none s6)) E s4) :
  wc W.M A (comprehension (.ListComp elt [⟨tg, iter, ifs, 0⟩] c pos) c env p₀ (newList []) false (eval iter env) use) Q E s := by
 have es := H.eok.scope
 subst es
 obtain ⟨a1, a2, a3, a4⟩ := zey hcv
 unfold comprehension
 refine zab (zaa (si σ s B _ c₀ S₀ q) (fun x s1 ⟨sq, σ1, i1, S1, k1, f, hw⟩ => ?_) fun e s' z => hE e s' z)
 refine zag ?_
 show wc _ _ (foldedSetIterable iter env x >>= _) _ _ _
 refine zaf (wpAny_of_eq (zfp hit x) ?_)
 refine zaf (wpAny_holding (zkw S1 i1 fun I s2 S2 k2 => ?_))
 have rest : wc W.M A (do
   let acc ← newList []
   let cenv ← newFunctionEnv c env.globals (← closureFor c env) [] env.qual none .none (some env)
   let own (n : Str) (k : NameKind) := k == .free && env.scope.kind == .function && env.kindOf n == some .cell
   let cenv := { cenv with scope := { c with names := c.names.map fun (n, k) => if own n k then (n, .cell) else (n, k) } }
   let vars := c.names.filter fun (n, k) => (k == .local || k == .cell) && n != (".0" : Str)
   let cellOf? (n : Str) : List Value := ((cenv.cells.lookup n).map Value.ref).toList
   let zbq (vs : List (Str × NameKind)) : List Value := vs.flatMap fun (n, k) => if k == .cell then cellOf? n else []
   holding [.ref cenv.locals] do
    match ← (holding (acc :: zbq vars) (run (.compStart (.ListComp elt [⟨tg, iter, ifs, 0⟩] c pos) 0 (.ref I) acc cenv))).attempt, use with
    | .ok _, none => holding [acc] (comprehension.letGo cenv zbq vars.reverse); pure acc
    | .ok _, some u =>
     rule "comprehension.stores-exchanged"
     holding (zbq vars) (u acc)
     comprehension.letGo cenv zbq (vars.reverse.drop 1 ++ vars.reverse.take 1)
     pure .none
    | .error x, _ => holding [x] (comprehension.letGo cenv zbq vars.reverse); passOn "comprehension.variables-let-go" x cenv) Q E s2 := by
  refine zaf (wpAny_newList ?_)
  have k3 : Ext s2.heap (s2.heap.push { cls := .type "list", data := .seq ([] : List Value).toArray }) := Ext.push _ _
  have S3 := S2.push (s' := { s2 with heap := s2.heap.push { cls := .type "list", data := .seq ([] : List Value).toArray } }) (ob := .list []) k3 (zbl _) ⟨_, _, Heap.get?_push_size _ rfl, Nat.zero_le _, RvL.nil⟩ rfl rfl
  generalize hacc : s2.heap.objs.size = acc at S3
  generalize hs3 : ({ s2 with heap := s2.heap.push { cls := .type "list", data := .seq ([] : List Value).toArray } } : Shared) = s3 at S3 ⊢
  have k3' : Evo s2.heap s3.heap := by rw [← hs3]; exact k3.evo
  refine zaf ?_
  unfold closureFor
  refine wpAny_bind (zj2 (names := c.names) [] (fun p hp hf => H.cok _ (by rcases a2 p hp with h | h | ⟨_, h⟩ <;> first | (rw [hf] at h; cases h) | exact h)) (fun p hp => nomatch hp) (fun cs c1 c2 _ => wpAny_pure ?_) _ (fun n k cs => by rfl))
  refine zaf (wpAny_newFunctionEnv (fun x hx => by rcases a2 x hx with h | h | ⟨h, _⟩ <;> (rw [h]; decide)) (fun x hx => nomatch hx) (fun h' hns hsb => ?_) hk)
  dsimp only
  have k4 : Ext s3.heap h' := fun b o e => hsb.extBut b o (Nat.ne_of_lt (Heap.lt_size e)) (Heap.get?_push_of_some _ e)
  have S4 := S3.push (s' := { s3 with heap := h', toks := s3.toks + ([] : List (Str × Value)).length }) (ob := .frame (nsOf vs (List.replicate vs.length none))) k4 (zbl _) ⟨_, hns, fun x v hm => by have := zm8 hm; cases this⟩ rfl rfl
  have N : Inner env.scope c env (zdk env.scope c env s3.heap.objs.size cs) vs := zph H hcv hk c1 c2
  generalize hL : s3.heap.objs.size = L at S4 N ⊢
  generalize hs4 : ({ s3 with heap := h', toks := s3.toks + ([] : List (Str × Value)).length } : Shared) = s4 at S4 ⊢
  have k4' : Evo s3.heap s4.heap := by rw [← hs4]; exact k4.evo
  have hl0 : (List.replicate vs.length (none : Option Va)).length = vs.length := List.length_replicate
  have ev4 : Evo s.heap s4.heap := ((k1.trans k2).trans k3').trans k4'
  have S5 : St W (act (zdk env.scope c env L cs) vs (List.replicate vs.length none) ++ (I, itOb sq 0) :: (acc, .list []) :: F) σ1 s4 := by
   rw [zk3 hcv hl0]
   exact S4.perm (.cons _ (.swap _ _ _))
  refine zam (zab (zg6 (zam (zqw (zcc (zlv S5 (List.mem_append_right _ (List.Mem.head _)) (zn0 c₀ (hcomp _ I acc) (hbody _ I acc sq N) hw hl0 S5 ev4)) fun r s5 hr => ?_) (by intro x; cases x)))))
  obtain ⟨fl, rfl, st, ρ₁, hK, hl1, S6, ev6⟩ := hr
  rw [zk3 hcv hl1] at S6
  have ha : st.1 acc = none := S6.apartF (List.Mem.tail _ (List.Mem.head _))
  have S7 : St W ((L, .frame (nsOf vs ρ₁)) :: F) (st.1.set acc (.list st.2)) s5 := (S6.perm (.swap _ _ _)).toList ha
  have hkin : (zdk env.scope c env L cs).scope.kind = .function := hk
  have hloc : ∀ x ∈ c.names.filter (fun x => (x.2 == NameKind.local || x.2 == NameKind.cell) && x.1 != (".0" : Str)), x.2 = .local → (zdk env.scope c env L cs).kindOf x.1 = some .local := fun x hx hl => by
   obtain ⟨hx1, hx2⟩ := List.mem_filter.mp hx
   rcases zj1 hcv x hx1 hl with h0 | h0
   ·rw [h0] at hx2; simp at hx2
   ·obtain ⟨i, hi⟩ := List.getElem?_of_mem h0
    exact (zbm a1 hi).1
  cases hu : use with
  | none =>
   subst hu
   dsimp only
   refine zaf (wpAny_holding (zis (cenv := zdk env.scope c env L cs) hkin (fun x hx => hloc x (List.mem_reverse.mp hx)) S7 fun s6 S8 k8 => ?_))
   exact zaj (hN rfl st acc s6 hK ha S8 (ev6.trans k8))
  | some u =>
   subst hu
   dsimp only
   refine zaf (wpAny_rule ?_)
   refine zab (zam (zaa (hU u rfl st acc s5 L _ hK ha S7 ev6) (fun _ s6 ⟨F', σ', S8, k8, z⟩ => ?_) fun _ _ z => z))
   refine zaf (zis (cenv := zdk env.scope c env L cs) hkin (fun x hx => hloc x ?_) S8 fun s7 S9 k9 => zaj (z s7 S9 (k8.trans k9)))
   rcases List.mem_append.mp hx with hx | hx
   ·exact List.mem_reverse.mp (List.mem_of_mem_drop hx)
   ·exact List.mem_reverse.mp (List.mem_of_mem_take hx)
 cases use with
 | none => exact rest
 | some u => exact zag rest
end
end
section
section
variable {W : Wd} {C : Orc} {A : Around} {E : Value → Shared → Prop} {sc c : Scope} {env : Env} {vars uv vs : Vars} {ρ υ : Loc} {F : Led} {r : Nat} {σ : Sto} {s : Shared} {tg elt iter : Expr} {two : Bool} {pos p₀ : Pos} {ifs : List Expr} {it : It}
noncomputable def emit (elt : Expr) (cenv : Env) (acc : Addr) : Sem Unit := eval elt cenv >>= fun x => call (.builtin "list.append") [.ref acc, x] >>= fun _ => pure ()
noncomputable def zkz (elt q : Expr) (cenv : Env) (acc : Addr) : Sem Unit := isTrue q cenv (eval q cenv) >>= fun ok => if ok = true then emit elt cenv acc else pure ()
theorem zg7 (cenv : Env) (I acc : Addr) : compTurn (.ListComp elt [⟨tg, iter, [], 0⟩] c pos) 0 (.ref I) (.ref acc) cenv = (standAt iter.pos >>= fun _ => pyNext (.ref I) >>= fun r => match r with
      | none => pure (.done .next)
      | some v => letOwnedTupleGo tg (.ref I) v >>= fun _ => assign tg cenv v >>= fun _ => emit elt cenv acc >>= fun _ => again (.compLoop (.ListComp elt [⟨tg, iter, [], 0⟩] c pos) 0 (.ref I) (.ref acc) cenv)) := compTurn_list1 ..
theorem zmb (q : Expr) (cenv : Env) (I acc : Addr) : compTurn (.ListComp elt [⟨tg, iter, [q], 0⟩] c pos) 0 (.ref I) (.ref acc) cenv = (standAt iter.pos >>= fun _ => pyNext (.ref I) >>= fun r => match r with
      | none => pure (.done .next)
      | some v => letOwnedTupleGo tg (.ref I) v >>= fun _ => assign tg cenv v >>= fun _ => zkz elt q cenv acc >>= fun _ => again (.compLoop (.ListComp elt [⟨tg, iter, [q], 0⟩] c pos) 0 (.ref I) (.ref acc) cenv)) := by
 rw [compTurn_list]
 congr 1
 funext _
 congr 1
 funext r
 cases r with
 | none => rfl
 | some v =>
  dsimp only
  congr 1
  funext _
  congr 1
  funext _
  simp only [List.forIn_cons, List.forIn_nil, zkz, emit, bind_assoc, if_true, pure_bind]
  congr 1
  funext ok
  cases ok <;> simp [bind_assoc]
theorem zru {x : X} (H : Here W A sc env vars ρ uv υ F r) (hcv : CV sc c tg two vs) (hk : c.kind = .function) (hit : zia sc vars uv it iter = true) (si : SI W C A env ρ υ F it iter)
  (hx : ∀ cenv ρ' F', Inner sc c env cenv vs → (∀ p ∈ F, p ∈ F') → SX W C A cenv ρ' ρ (act cenv vs ρ' ++ F') x elt) : SX W C A env ρ υ F (.comp x two it) (.ListComp elt [⟨tg, iter, [], 0⟩] c pos) := fun σ s B Q c₀ S q => by
 show wc _ _ (comprehension (.ListComp elt [⟨tg, iter, [], 0⟩] c pos) c env iter.pos (newList []) false (eval iter env) none) _ _ _
 refine zez (emit elt) H hcv hk hit si zg7 (fun cenv I acc sq N v u k σ' ys s' kk ρ₀ hl hc S' ru hb => ?_) c₀ S q (fun e s' z => z) (fun _ st acc s4 hK ha S4 k4 => ⟨.ref acc, _, by simp only [Rv], S4, k4, zdg hK ha⟩) (fun u hu => by cases hu)
 exact zhl hc hcv N (fun ρ' ys => hx cenv ρ' _ N fun p hp => List.Mem.tail _ (List.Mem.tail _ hp)) hl S' ru hb
theorem zmi {x cnd : X} {q : Expr} (H : Here W A sc env vars ρ uv υ F r) (hcv : CV sc c tg two vs) (hk : c.kind = .function) (hit : zia sc vars uv it iter = true) (si : SI W C A env ρ υ F it iter)
  (hx : ∀ cenv ρ' F', Inner sc c env cenv vs → (∀ p ∈ F, p ∈ F') → SX W C A cenv ρ' ρ (act cenv vs ρ' ++ F') x elt) (hq : ∀ cenv ρ' F', Inner sc c env cenv vs → (∀ p ∈ F, p ∈ F') → SB W C A cenv ρ' ρ (act cenv vs ρ' ++ F') cnd q) :
  SX W C A env ρ υ F (.compIf x two it cnd) (.ListComp elt [⟨tg, iter, [q], 0⟩] c pos) := fun σ s B Q c₀ S q' => by
 show wc _ _ (comprehension (.ListComp elt [⟨tg, iter, [q], 0⟩] c pos) c env iter.pos (newList []) false (eval iter env) none) _ _ _
 refine zez (zkz elt q) H hcv hk hit si (zmb q) (fun cenv I acc sq N v u k σ' ys s' kk ρ₀ hl hc S' ru hb => ?_) c₀ S q' (fun e s' z => z) (fun _ st acc s4 hK ha S4 k4 => ⟨.ref acc, _, by simp only [Rv], S4, k4, zdg hK ha⟩) (fun u hu => by cases hu)
 refine zah (zgo hc.handled hcv N.blk hl S' ru hb fun ρ' s1 z1 z2 S1 k1 => ?_)
 refine zab (zaa (hq cenv ρ' _ N (fun p hp => List.Mem.tail _ (List.Mem.tail _ hp)) _ s1 _ _ (fun v σ h => let ⟨b, e, _, _⟩ := zbt h; ⟨b, e⟩) (hc.evo k1) S1 z1) (fun b s2 ⟨σ2, S2, k2, q2⟩ => ?_) fun _ _ z => z.no)
 cases b with
 | true =>
  refine zaa (zgn (hc.evo (k1.trans k2)) (hx cenv ρ' _ N fun p hp => List.Mem.tail _ (List.Mem.tail _ hp)) S2 z2 q2) (fun _ s3 ⟨st', ρ₁, a1, a2, a3, a4⟩ => ⟨st', ρ₁, a1, a2, a3, (k1.trans k2).trans a4⟩) fun _ _ z => z
 | false => exact zaj ⟨_, ρ', q2, z2, S2, k1.trans k2⟩
end
end
section
structure Fun (W : Wd) (A : Around) (sc : Scope) (env : Env) (vars : Vars) (F : Led) (r : Nat) : Prop where
 pre : Pre W
 blk : Blk sc env vars
 room : zub r A
 frame : env.frame = some env.locals
 stack : ∃ outer, A.frames = some (env :: outer) ∧ ∀ e ∈ outer, ∀ L, e.frame = some L → ∃ ns, (L, Ob.frame ns) ∈ F
inductive FN (W : Wd) (env : Env) (vars : Vars) (F : Led) (s₀ : Shared) (N : Loc → Sto → Prop) (s' : Shared) : Prop
 | mk (ρ' : Loc) (σ' : Sto) : ρ'.length = vars.length → St W (act env vars ρ' ++ F) σ' s' → Evo s₀.heap s'.heap → N ρ' σ' → FN W env vars F s₀ N s'
inductive FR (W : Wd) (env : Env) (vars : Vars) (F : Led) (s₀ : Shared) (R : QP) (v : Value) (s' : Shared) : Prop
 | mk (ρ' : Loc) (mv : Va) (σ' : Sto) : ρ'.length = vars.length → Rv s'.heap mv v → St W (act env vars ρ' ++ F) σ' s' → Evo s₀.heap s'.heap → R mv σ' → FR W env vars F s₀ R v s'
noncomputable def FP (W : Wd) (env : Env) (vars : Vars) (F : Led) (s₀ : Shared) (N : Loc → Sto → Prop) (R : QP) : Flow → Shared → Prop
 | .next, s' => FN W env vars F s₀ N s'
 | .ret v, s' => FR W env vars F s₀ R v s'
 | _, _ => False
inductive EX (W : Wd) (env : Env) (vars : Vars) (F : Led) (s₀ : Shared) (B : BP) (e : Value) (s' : Shared) : Prop
 | mk (ρ' : Loc) : ρ'.length = vars.length → EP W (act env vars ρ' ++ F) env.frame s₀ B e s' → EX W env vars F s₀ B e s'
noncomputable def SS (W : Wd) (C : Orc) (A : Around) (env : Env) (vars : Vars) (F : Led) (x : S) (st : Stmt) : Prop := ∀ ρ σ s B N R, ρ.length = vars.length → Ctx W A s.heap → St W (act env vars ρ ++ F) σ s → wpS C B x ρ σ N R →
 wc W.M A (exec st env) (FP W env vars F s N R) (EX W env vars F s B) s
noncomputable def SSs (W : Wd) (C : Orc) (A : Around) (env : Env) (vars : Vars) (F : Led) (x : Ss) (st : List Stmt) : Prop := ∀ ρ σ s B N R, ρ.length = vars.length → Ctx W A s.heap → St W (act env vars ρ ++ F) σ s → wpSs C B x ρ σ N R →
 wc W.M A (execs st env) (FP W env vars F s N R) (EX W env vars F s B) s
section
variable {W : Wd} {C : Orc} {A : Around} {E : Value → Shared → Prop} {sc : Scope} {env : Env} {vars : Vars} {ρ : Loc} {F : Led} {r : Nat} {σ : Sto} {s s₀ s₁ s₂ : Shared} {N : Loc → Sto → Prop} {R : QP} {B : BP}
theorem FP.from {f : Flow} (x : FP W env vars F s₁ N R f s₂) (k : Evo s₀.heap s₁.heap) : FP W env vars F s₀ N R f s₂ := by
 cases f <;> first | exact x.elim | skip
 ·obtain ⟨ρ', σ', a, b, c, d⟩ := x; exact ⟨ρ', σ', a, b, k.trans c, d⟩
 ·obtain ⟨ρ', mv, σ', a, b, c, d, e⟩ := x; exact ⟨ρ', mv, σ', a, b, c, k.trans d, e⟩
theorem EX.from {e : Value} (x : EX W env vars F s₁ B e s₂) (k : Evo s₀.heap s₁.heap) : EX W env vars F s₀ B e s₂ := let ⟨ρ', a, b⟩ := x; ⟨ρ', a, b.from k⟩
theorem EX.of {e : Value} {s' : Shared} (hl : ρ.length = vars.length) (h : EP W (act env vars ρ ++ F) env.frame s B e s') : EX W env vars F s B e s' := ⟨ρ, hl, h⟩
theorem Fun.here (H : Fun W A sc env vars F r) (ρ : Loc) : Here W A sc env vars ρ [] [] (act env vars ρ ++ F) r := by
 obtain ⟨outer, h1, h2⟩ := H.stack
 refine ⟨H.pre, H.blk.eok, H.blk.vok, zrh H.blk fun i x v h => by simp at h, H.room, fun fr hfr e he L hL => ?_, ?_, ?_, H.blk.nd, H.blk.cok⟩
 ·rw [h1] at hfr; cases hfr
  rcases List.mem_cons.mp he with rfl | he
  ·rw [H.frame] at hL; cases hL
   exact ⟨_, List.mem_append_left _ (List.Mem.head _)⟩
  ·obtain ⟨ns, h⟩ := h2 e he L hL
   exact ⟨ns, List.mem_append_right _ h⟩
 ·exact ⟨_, H.frame, _, List.mem_append_left _ (List.Mem.head _)⟩
 ·exact ⟨env, outer, h1, rfl⟩
theorem Fun.grow {c : Addr × Ob} (H : Fun W A sc env vars F r) : Fun W A sc env vars (c :: F) r :=
 ⟨H.pre, H.blk, H.room, H.frame, let ⟨o, h1, h2⟩ := H.stack; ⟨o, h1, fun e he L hL => let ⟨ns, h⟩ := h2 e he L hL; ⟨ns, List.Mem.tail _ h⟩⟩⟩
noncomputable abbrev XX (W : Wd) (C : Orc) (A : Around) (env : Env) (vars : Vars) (F : Led) (x : X) (e : Expr) : Prop := ∀ ρ, ρ.length = vars.length → SX W C A env ρ [] (act env vars ρ ++ F) x e
noncomputable abbrev XB (W : Wd) (C : Orc) (A : Around) (env : Env) (vars : Vars) (F : Led) (x : X) (e : Expr) : Prop := ∀ ρ, ρ.length = vars.length → SB W C A env ρ [] (act env vars ρ ++ F) x e
theorem zkh {v : Expr} {t : Option Expr} {l : Nat} (h : zcx v = false) : swapsWith v t l env = pure false := by
 cases v <;> first | rfl | cases h
theorem zc7 {t v : Expr} {p : Pos} (h : zcx v = false) (e2 : assignEach [t] env = [(false, assign t env)]) (e3 : swappedStores [t] v env = pure none) :
  exec (.Assign [t] v p) env = (do standAt p; let x ← eval v env; assign t env x; pure .next) := by
 have e : exec (.Assign [t] v p) env = (do
   standAt p
   if ← swapsWith v (some t) p.line env then do
    evalThenUse v env fun v => assignAll v ((assignEach [t] env).map (·.2))
    pure .next
   else do
    let x ← eval v env
    assignStores env x (← swappedStores [t] v env) ((assignEach [t] env).map (·.2))) := rfl
 rw [e, zkh h, e2, e3]
 rfl
theorem zij {ts : List Expr} {k : Nat} {q : Pos} {v : Expr} (h : znj v = false) : swappedStores [.Tuple ts k q] v env = pure none := by
 cases v <;> first | rfl | cases h
theorem zmp {i : Nat} {x : X} {t v : Expr} {p : Pos} (H : Fun W A sc env vars F r) (ht : zb4 vars i t = true) (hc : zcx v = false) (hx : XX W C A env vars F x v) : SS W C A env vars F (.assign i x) (.Assign [t] v p) := fun ρ σ s B N R hl c S q => by
 have ht' := ht
 obtain ⟨n, cc, np, rfl, hv⟩ := zbh ht
 rw [zc7 hc rfl rfl]
 refine zag (zab (zaa (hx ρ hl σ s B _ c S q) (fun va s1 ⟨mv, σ1, r1, S1, k1, q1⟩ => ?_) fun _ _ z => EX.of hl z))
 have hi : i < ρ.length := by rw [hl]; exact (List.getElem?_eq_some_iff.mp hv).1
 exact zaf (zcr H.blk ht' hi S1 r1 fun s2 S2 k2 => zaj ⟨_, σ1, by rw [List.length_set]; exact hl, S2, k1.trans k2, q1⟩)
theorem zmm {i j : Nat} {x : X} {t u v : Expr} {k : Nat} {p p' : Pos} (H : Fun W A sc env vars F r) (ht : zb4 vars i t = true) (hu : zb4 vars j u = true) (hc : zcx v = false) (hp : znj v = false) (hx : XX W C A env vars F x v) :
  SS W C A env vars F (.unpack i j x) (.Assign [.Tuple [t, u] k p'] v p) := fun ρ σ s B N R hl c S q => by
 obtain ⟨_, _, _, _, hv⟩ := zbh ht
 obtain ⟨_, _, _, _, hw⟩ := zbh hu
 have hi : i < ρ.length := by rw [hl]; exact (List.getElem?_eq_some_iff.mp hv).1
 have hj : j < ρ.length := by rw [hl]; exact (List.getElem?_eq_some_iff.mp hw).1
 rw [zc7 hc rfl (zij hp)]
 refine zag (zab (zaa (hx ρ hl σ s B _ c S q) (fun va s1 ⟨mv, σ1, r1, S1, k1, q1⟩ => ?_) fun _ _ z => EX.of hl z))
 exact zaf (zfh c.handled H.blk ht hu hi hj S1 r1 q1 fun ρ' s2 z1 z2 S2 k2 => zaj ⟨ρ', σ1, by rw [z2]; exact hl, S2, k1.trans k2, z1⟩)
theorem zld {o x : X} {a : Nat} {w v : Expr} {n : Str} {p p' : Pos} (H : Fun W A sc env vars F r) (hn : n = zae a) (ha : a < 21) (hc : zcx v = false) (ho : XX W C A env vars F o w) (hx : XX W C A env vars F x v) :
  SS W C A env vars F (.setAttr o a x) (.Assign [.Attribute w n p'] v p) := fun ρ σ s B N R hl c S q => by
 subst hn
 rw [zc7 hc rfl rfl]
 refine zag (zab (zaa (hx ρ hl σ s B _ c S q) (fun va s1 ⟨mv, σ1, r1, S1, k1, q1⟩ => ?_) fun _ _ z => EX.of hl z))
 refine zab ?_
 show wc _ _ (do
  let ov ← holding [va] (eval w env)
  standAt p'.atName
  holding [va, ov] (setAttr ov (zae a) va)
  release [va, ov] []) _ _ _
 refine zab (zam (zaa (ho ρ hl σ1 s1 B _ (c.evo k1) S1 q1) (fun vb s2 ⟨mw, σ2, r2, S2, k2, q2⟩ => ?_) fun _ _ z => EX.of hl (z.from k1)))
 obtain ⟨ad, g, fs, rfl, hσ, hz, q3⟩ := q2
 have e := zb2 r2
 subst e
 refine zag (zaf (wpAny_holding (zf3 H.pre.X H.pre.cls S2 hσ ha hz (r1.evo k2) fun s3 S3 k3 => ?_)))
 exact zah (wpAny_release (zaj ⟨ρ, _, hl, S3, (k1.trans k2).trans k3, q3⟩))
theorem zlz (w k : Expr) (p' : Pos) (va : Value) : assign (.Subscript w k p') env va = (do
  let ov ← holding [va] (eval w env)
  let iv ← holding [va, ov] (eval k env)
  standAt p'
  holding [va, ov, iv] (setItem ov iv va)
  release (match k with | .Slice _ _ none _ => [iv, va, ov] | _ => [va, ov, iv]) []) := rfl
theorem zmn {o i x : X} {w k v : Expr} {p p' : Pos} (hc : zcx v = false) (ho : XX W C A env vars F o w) (hi : XX W C A env vars F i k) (hx : XX W C A env vars F x v) :
  SS W C A env vars F (.setIdx o i x) (.Assign [.Subscript w k p'] v p) := fun ρ σ s B N R hl c S q => by
 rw [zc7 hc rfl rfl]
 refine zag (zab (zaa (hx ρ hl σ s B _ c S q) (fun va s1 ⟨mv, σ1, r1, S1, k1, q1⟩ => ?_) fun _ _ z => EX.of hl z))
 refine zab ?_
 rw [zlz]
 refine zab (zam (zaa (ho ρ hl σ1 s1 B _ (c.evo k1) S1 q1) (fun vb s2 ⟨mw, σ2, r2, S2, k2, q2⟩ => ?_) fun _ _ z => EX.of hl (z.from k1)))
 refine zab (zam (zaa (hi ρ hl σ2 s2 B _ (c.evo (k1.trans k2)) S2 q2) (fun vc s3 ⟨mz, σ3, r3, S3, k3, q3⟩ => ?_) fun _ _ z => EX.of hl (z.from (k1.trans k2))))
 obtain ⟨ad, vs, n, rfl, rfl, hσ, h0, h1, q4⟩ := q3
 have e := zb2 (r2.evo k3)
 subst e
 obtain ⟨t, rfl⟩ := zcj r3
 refine zag (zaf (wpAny_holding (zo4 S3 hσ h0 h1 (r1.evo (k2.trans k3)) fun s4 S4 k4 => ?_)))
 exact zah (wpAny_release (zaj ⟨ρ, _, hl, S4, ((k1.trans k2).trans k3).trans k4, q4⟩))
theorem zoh {o : BOp} {a b : Va} {va vb : Value} {k : Va → Prop} (ha : Rv s.heap a va) (hb : Rv s.heap b vb) (hk : augW o a b k) : wpAny W.M A (inplaceOp o.op va vb) (Reck s k) E s :=
 let P : Value → Value → Prop := fun v w => wpAny W.M A (inplaceOp o.op v w) (Reck s k) E s
 zjd (P := fun a => Rv s.heap a va → P va vb) hk (fun a hk ha => zjd (P := fun b => Rv s.heap b vb → P va vb) hk (fun b hk hb => zhx (P := (P · vb)) ha fun t => zhx (P := P _) hb fun u => by
  cases o <;> first | exact hk.elim | skip
  ·exact PyProof.Rows.iadd_int (Reck.int hk)
  ·exact PyProof.Rows.ior_int (Reck.int hk)
  ·exact PyProof.Rows.irshift_int hk.1 (Int.fdiv_eq_ediv_of_nonneg _ (Int.le_of_lt (Int.pow_pos (show (0 : Int) < 2 by decide))) ▸ Reck.int hk.2)) hb) ha
theorem zku {i : Nat} {x : Str} {cc : Bool} {v : Va} {uv : Vars} {υ : Loc} {F' : Led} {Q : Value → Shared → Prop} (H : Here W A sc env vars ρ uv υ F' r) (hv : vars[i]? = some (x, cc)) (hρ : ρ[i]? = some (some v)) (S : St W F' σ s) (q : ∀ y, Rv s.heap v y → Q y s) : wpAny W.M A (loadName env x) Q E s := by
 obtain ⟨hk, hd⟩ := zbm H.vok hv
 rw [← H.eok.scope] at hk
 cases cc with
 | false =>
  obtain ⟨ns, hm, hx⟩ := H.rd.loc i x v hv hρ
  obtain ⟨m, hn, z⟩ := S.frame hm
  obtain ⟨u, e1, e2⟩ := z x v hx
  exact wpAny_loadName_local (H.eok.scope ▸ H.eok.kind) hk hn e1 (q u e2)
 | true =>
  obtain ⟨a, ha, hm⟩ := H.rd.cel i x v hv hρ
  obtain ⟨u, ho, z⟩ := S.frame hm
  obtain ⟨y, rfl, e2⟩ := z v rfl
  exact wpAny_loadName_cell (H.eok.scope ▸ H.eok.kind) hk ha ho (q y e2)
theorem ss_aug {i : Nat} {o : BOp} {x : X} {n : Str} {v : Expr} {p p' : Pos} (H : Fun W A sc env vars F r) (ht : zb4 vars i (.Name n p') = true) (hx : XX W C A env vars F x v) : SS W C A env vars F (.aug i o x) (.AugAssign (.Name n p') o.op v p) := fun ρ σ s B N R hl c S q => by
 have ht' := ht
 obtain ⟨n', cc, np, e, hv⟩ := zbh ht
 cases e
 have hi : i < ρ.length := by rw [hl]; exact (List.getElem?_eq_some_iff.mp hv).1
 obtain ⟨old, hρ, q1⟩ := zdd q
 rw [exec_AugAssign_Name]
 refine zag (zaf (zku (H.here ρ) hv hρ S fun va r1 => ?_))
 refine zab (zam (zaa (hx ρ hl σ s B _ c S q1) (fun vb s2 ⟨mw, σ2, r2, S2, k2, q2⟩ => ?_) fun _ _ z => EX.of hl z))
 refine zag (zab (zda (zah (wpAny_mono (zoh (E := fun _ _ => False) (r1.evo k2) r2 q2) (fun v s3 h => ?_) fun _ _ z => z.elim))))
 obtain ⟨h1, h2, h3, mu, ru, qu⟩ := h
 have S3 := S2.same h1 h2 h3
 refine zag (zaf (wpAny_bindName (zik H.blk hv hi S3 (h1 ▸ ru) fun s4 S4 k4 => zaj ⟨_, σ2, by rw [List.length_set]; exact hl, S4, ?_, qu⟩)))
 exact (k2.trans (h1 ▸ Evo.refl _)).trans k4
end
end
section
section
variable {W : Wd} {C : Orc} {A : Around} {E : Value → Shared → Prop} {sc : Scope} {env : Env} {vars : Vars} {ρ : Loc} {F : Led} {r : Nat} {σ : Sto} {s s₀ s₁ s₂ : Shared} {N : Loc → Sto → Prop} {R : QP} {B : BP}
theorem zlf {i a : Nat} {o : BOp} {x : X} {n : Str} {w v : Expr} {p p' : Pos} (H : Fun W A sc env vars F r) (hw : zb4 vars i w = true) (hn : n = zae a) (ha : a < 21) (hx : XX W C A env vars F x v) :
  SS W C A env vars F (.augAttr i a o x) (.AugAssign (.Attribute w n p') o.op v p) := fun ρ σ s B N R hl c S q => by
 subst hn
 obtain ⟨xn, cc, np, rfl, hv⟩ := zbh hw
 obtain ⟨z, hρ, q1⟩ := zdd q
 have hsx := zqy (C := C) (p := np) (H.here ρ) hv σ s (fun _ => False) (fun w σ' => w = z ∧ σ' = σ) c S (show getV ρ i _ by unfold getV; rw [hρ]; exact ⟨rfl, rfl⟩)
 show wc _ _ (do
  standAt p
  let ov ← eval (.Name xn np) env
  let new ← holding [ov] do
   standAt p'.atName
   let old ← getAttr ov (zae a) true
   let v ← holding [old] (eval v env)
   standAt p
   operate [old, v] (inplaceOp o.op old v)
  standAt p'.atName
  holding [new, ov] (setAttr ov (zae a) new)
  release [new, ov] []
  pure Flow.next) _ _ _
 refine zag (zab (zaa hsx (fun va s1 ⟨mv, σ1, r1, S1, k1, e1, e2⟩ => ?_) fun _ _ z => z.no.elim))
 subst e1 e2
 obtain ⟨ad, g, fs, old, rfl, hσ, hf, q2⟩ := q1
 have e := zb2 r1
 subst e
 refine zab (zam (zag (zaf (zgk H.pre.X H.pre.cls S1 hσ ha hf fun y ry => ?_))))
 have S1' := S1.same (s' := { s1 with toks := s1.toks + 1 }) rfl rfl rfl
 refine zab (zam (zaa (hx ρ hl σ1 _ B _ (c.evo k1) S1' q2) (fun vb s2 ⟨mw, σ2, r2, S2, k2, q3⟩ => ?_) fun _ _ z => EX.of hl (z.from k1)))
 refine zag (zda (zah (wpAny_mono (zoh (E := fun _ _ => False) (ry.evo k2) r2 q3) (fun v s3 h => ?_) fun _ _ z => z.elim)))
 obtain ⟨h1, h2, h3, mu, ru, qu⟩ := h
 have S3 := S2.same h1 h2 h3
 obtain ⟨ad', g', fs', e, hσ', hz, q4⟩ := qu
 cases e
 refine zag (zaf (wpAny_holding (zf3 H.pre.X H.pre.cls S3 hσ' ha hz (h1 ▸ ru) fun s4 S4 k4 => ?_)))
 refine zaf (wpAny_release (zaj ⟨ρ, _, hl, S4, ?_, q4⟩))
 exact ((k1.trans k2).trans (h1 ▸ Evo.refl _)).trans k4
theorem zgz (b : Blk sc env vars) : interactive env = false := by
 unfold interactive
 rw [b.eok.scope, b.eok.kind]; rfl
theorem zmo {x : X} {v : Expr} {p : Pos} (H : Fun W A sc env vars F r) (hc : zcx v = false) (hx : XX W C A env vars F x v) : SS W C A env vars F (.expr x) (.Expr v p) := fun ρ σ s B N R hl c S q => by
 rw [exec_Expr env v p (zgz H.blk) (zkh hc)]
 refine zag (zab (zaa (hx ρ hl σ s B _ c S q) (fun va s1 ⟨mv, σ1, r1, S1, k1, q1⟩ => ?_) fun _ _ z => EX.of hl z))
 exact zah (wpAny_dropValue ⟨ρ, σ1, hl, S1, k1, q1⟩)
theorem ss_ret {x : X} {v : Expr} {p : Pos} (hx : XX W C A env vars F x v) : SS W C A env vars F (.ret x) (.Return (some v) p) := fun ρ σ s B N R hl c S q => by
 rw [exec_Return_some]
 refine zag (zab (zaa (hx ρ hl σ s B _ c S q) (fun va s1 ⟨mv, σ1, r1, S1, k1, q1⟩ => zaj ⟨ρ, mv, σ1, hl, r1, S1, k1, q1⟩) fun _ _ z => EX.of hl z))
theorem zle {p : Pos} : SS W C A env vars F .retNone (.Return none p) := fun ρ σ s B N R hl c S q => by
 rw [exec_Return_none]
 exact zag (zaj ⟨ρ, .none, σ, hl, by simp only [Rv], S, Evo.refl _, q⟩)
theorem ss_ite {x : X} {a b : Ss} {t : Expr} {sa sb : List Stmt} {p : Pos} (ht : XB W C A env vars F x t) (ha : SSs W C A env vars F a sa) (hb : SSs W C A env vars F b sb) : SS W C A env vars F (.ite x a b) (.If t sa sb p) := fun ρ σ s B N R hl c S q => by
 rw [exec_If]
 refine zag (zab (zaa (ht ρ hl σ s B _ (fun v σ h => let ⟨b, e, _, _⟩ := zbt h; ⟨b, e⟩) c S q) (fun t s1 ⟨σ1, S1, k1, q1⟩ => ?_) fun _ _ z => EX.of hl z))
 cases t with
 | true => exact zaa (ha ρ σ1 s1 B N R hl (c.evo k1) S1 q1) (fun _ _ z => z.from k1) fun _ _ z => z.from k1
 | false => exact zaa (hb ρ σ1 s1 B N R hl (c.evo k1) S1 q1) (fun _ _ z => z.from k1) fun _ _ z => z.from k1
theorem zml : SSs W C A env vars F .nil [] := fun ρ σ s B N R hl c S q => zaj ⟨ρ, σ, hl, S, Evo.refl _, q⟩
theorem zkj {x : S} {xs : Ss} {st : Stmt} {sts : List Stmt} (hx : SS W C A env vars F x st) (hs : SSs W C A env vars F xs sts) : SSs W C A env vars F (.cons x xs) (st :: sts) := fun ρ σ s B N R hl c S q => by
 rw [execs_cons]
 refine zab (zaa (hx ρ σ s B _ R hl c S q) (fun f s1 z => ?_) fun _ _ z => z)
 cases f with
 | next =>
  obtain ⟨ρ', σ', h1, h2, h3, h4⟩ := z
  exact zaa (hs ρ' σ' s1 B N R h1 (c.evo h3) h2 h4) (fun _ _ z => z.from h3) fun _ _ z => z.from h3
 | ret v => exact zaj z
 | brk => exact z.elim
 | cont => exact z.elim
theorem zoj (t v : Expr) (p : Pos) : exec (.Assign [t] v p) env = (do
      standAt p
      if ← swapsWith v (some t) p.line env then do
       evalThenUse v env fun v => assignAll v ((assignEach [t] env).map (·.2))
       pure .next
      else do
       let x ← eval v env
       assignStores env x (← swappedStores [t] v env) ((assignEach [t] env).map (·.2))) := rfl
theorem zk7 (elt : Expr) (gens : List Comprehension) (c : Scope) (vp : Pos) (use : Value → Sem Unit) : evalThenUse (.ListComp elt gens c vp) env use = (do
  let _ ← comprehension (.ListComp elt gens c vp) c env (firstIterPos gens vp) (newList []) (firstAsync gens) (firstIter gens env) (some use)) := rfl
theorem zg8 {i : Nat} {x : X} {t : Expr} {elt iter : Expr} {tg : Expr} {ifs : List Expr} {c : Scope} {vp p : Pos} (H : Fun W A sc env vars F r) (ht : zb4 vars i t = true) (hs : swapsWith (.ListComp elt [⟨tg, iter, ifs, 0⟩] c vp) (some t) p.line env = pure true)
  (hx : ∀ ρ σ s B Q, ρ.length = vars.length → Ctx W A s.heap → St W (act env vars ρ ++ F) σ s → wpX C B ρ [] x σ Q → ∀ (E' : Value → Shared → Prop) (Q' : Value → Shared → Prop) (use : Value → Sem Unit), (∀ e s', EP W (act env vars ρ ++ F) env.frame s B e s' → E' e s') →
   (∀ (acc : Addr) (σ4 : Sto) (s4 : Shared) (C' : Addr) (ns : List (Str × Option Va)), Q (.ref acc) σ4 → St W ((C', .frame ns) :: (act env vars ρ ++ F)) σ4 s4 → Evo s.heap s4.heap →
    wc W.M A (use (.ref acc)) (fun _ s5 => Ex2 fun F' σ'  => A3 (St W ((C', .frame ns) :: F') σ' s5) (Evo s.heap s5.heap) (∀ s6, St W F' σ' s6 → Evo s.heap s6.heap → Q' .none s6)) E' s4) →
   wc W.M A (comprehension (.ListComp elt [⟨tg, iter, ifs, 0⟩] c vp) c env iter.pos (newList []) false (eval iter env) (some use)) Q' E' s) :
  SS W C A env vars F (.assign i x) (.Assign [t] (.ListComp elt [⟨tg, iter, ifs, 0⟩] c vp) p) := fun ρ σ s B N R hl c₀ S q => by
 have ht' := ht
 obtain ⟨n, cc, np, rfl, hv⟩ := zbh ht
 have hi : i < ρ.length := by rw [hl]; exact (List.getElem?_eq_some_iff.mp hv).1
 rw [zoj]
 rw [hs]
 refine zag (zaf (wpAny_pure (zbu rfl (zab ?_))))
 rw [zk7]
 refine zab ?_
 refine hx ρ σ s B _ hl c₀ S q _ _ _ (fun e s' z => EX.of hl z) fun acc σ4 s4 C' ns q4 S4 k4 => ?_
 show wc _ _ (assign (.Name n np) env (.ref acc)) _ _ _
 have p1 : ((C', Ob.frame ns) :: (act env vars ρ ++ F)).Perm (act env vars ρ ++ ((C', Ob.frame ns) :: F)) := List.perm_middle.symm
 refine zah (zcr (v := .ref acc) H.blk ht' hi (S4.perm p1) (by simp only [Rv]) fun s5 S5 k5 => ?_)
 refine ⟨act env vars (ρ.set i (some (.ref acc))) ++ F, σ4, S5.perm List.perm_middle, k4.trans k5, fun s6 S6 k6 => zaj (zaj ⟨_, σ4, by rw [List.length_set]; exact hl, S6, k6, q4⟩)⟩
end
end
section
noncomputable def zcb (h : Heap) (l : List Addr) : Heap := l.foldl Heap.hide h
theorem zbx : ∀ {l : List Addr} {h : Heap} {a : Addr}, a ∈ l → (zcb h l).get? a = none
 | b :: l, h, a, m => by
  show (zcb (h.hide b) l).get? a = none
  by_cases e : a ∈ l
  ·exact zbx e
  ·rcases List.mem_cons.mp m with rfl | m
   ·have key : ∀ (l : List Addr) (h : Heap), a ∉ l → (zcb h l).get? a = h.get? a := fun l => by
     induction l with
     | nil => intro h _; rfl
     | cons c l ih =>
      intro h hn
      rw [List.mem_cons, not_or] at hn
      show (zcb (h.hide c) l).get? a = h.get? a
      rw [ih _ hn.2, Heap.hide_ne _ hn.1]
    rw [key l _ e, Heap.hide_self]
   ·exact absurd m e
theorem zca : ∀ {l : List Addr} {h : Heap} {a : Addr}, a ∉ l → (zcb h l).get? a = h.get? a
 | [], _, _, _ => rfl
 | b :: l, h, a, m => by
  rw [List.mem_cons, not_or] at m
  show (zcb (h.hide b) l).get? a = h.get? a
  rw [zca m.2, Heap.hide_ne _ m.1]
theorem zet (h : Heap) (l : List Addr) : (zcb h l).StaysIn h := fun b o e => by
 by_cases m : b ∈ l
 ·rw [zbx m] at e; cases e
 ·rwa [zca m] at e
section
variable {W : Wd} {C : Orc} {A : Around} {E : Value → Shared → Prop} {F : Led} {σ : Sto} {s : Shared} {h' : Heap} {avoid : List Addr}
noncomputable def Odd (h : Heap) (a : Addr) : Prop := Ex2 fun o vs => A3 (h.get? a = some o) (o.data = .fields vs) (((∃ c, o.cls = .ref c) ∨ 3 < vs.size))
theorem Den.notOdd {a : Addr} {ob : Ob} {h : Heap} (D : Den W h a ob) (q : Odd h a) : False := by
 obtain ⟨o, vs, ho, hd, q⟩ := q
 cases hi : ob.isIter with
 | false => exact D.noFields hi ho vs hd
 | true =>
  cases ob <;> first | cases hi | skip
  ·obtain ⟨o', ho', hc, hd'⟩ := D
   rw [ho] at ho'; cases ho'
   rcases q with ⟨c, q⟩ | q
   ·rw [hc] at q; cases q
   ·rw [hd'] at hd; cases hd; simp at q
  ·rw [show h.get? a = _ from D] at ho
   cases ho
   rcases q with ⟨c, q⟩ | q
   ·cases q
   ·cases hd; simp at q
theorem evo_slots {h h' : Heap} (hs : h.UpToSlots h') : Evo h h' := UpToSlots.evo hs
theorem St.slots {t : Nat} (S : St W F σ s) (hb : (zcb s.heap avoid).StaysIn h') (hs : s.heap.UpToSlots h') (ha : ∀ a ∈ avoid, W.h₀.get? a = none ∧ ((∃ ns, (a, Ob.frame ns) ∈ F) ∨ Odd s.heap a)) :
  St W F σ { s with heap := h', toks := t } := by
 obtain ⟨led, dd, x, y, z⟩ := S.ex
 refine ⟨led, dd, ⟨fun b o e => ?_, x.nd, fun p hp => ?_, x.new, x.gens, x.os⟩, y, z⟩
 ·refine hb b o ?_
  rw [zca (fun m => by have := (ha b m).1; rw [this] at e; cases e)]
  exact x.keep b o e
 ·by_cases m : p.1 ∈ avoid
  ·rcases (ha _ m).2 with ⟨ns, hm⟩ | q
   ·have : p.2 = .frame ns := zbk x.nd (a := p.1) hp (List.mem_append_left _ hm)
    obtain ⟨a, ob⟩ := p
    have this' : ob = .frame ns := this
    subst this'
    exact (x.den _ hp).frame_slots hs
   ·exact ((x.den _ hp).notOdd q).elim
  ·exact (x.den p hp).ext (UpToSlots.evo hs) fun o e => hb _ o (by rw [zca m]; exact e)
noncomputable def ExAt (W : Wd) (ex : Addr) (fl : Value) (h : Heap) : Prop := W.h₀.get? ex = none ∧ ∃ a0, h.TracedAtW W.h₀ ex (.ref (W.fa 5)) a0 fl
theorem zog {b : Addr} (S : St W F σ s) (ha : ∀ a ∈ avoid, W.h₀.get? a = none) (h : (zcb s.heap avoid).get? b = none) : W.h₀.get? b = none := by
 by_cases m : b ∈ avoid
 ·exact ha b m
 ·rw [zca m] at h
  cases q : W.h₀.get? b with
  | none => rfl
  | some o => rw [S.keep b o q] at h; cases h
theorem zek {h : Heap} : ∀ {l : List Env}, h.FunFrames W.h₀ l → (∀ e ∈ l, ∀ L, e.frame = some L → L ∈ avoid) → h.FunFrames (zcb h avoid) l
 | [], _, _ => trivial
 | e :: l, ⟨a, ⟨L, o, b, c, d, f⟩, r⟩, q => ⟨a, ⟨L, o, b, zbx (q e List.mem_cons_self L b), d, f⟩, zek r fun e' he => q e' (List.mem_cons_of_mem _ he)⟩
theorem zf1 {S' : Heap} {e : Addr} {cls a0 fl : Value} (S : St W F σ s) (ha : ∀ a ∈ avoid, W.h₀.get? a = none) (x : S'.TracedAtW (zcb s.heap avoid) e cls a0 fl) : S'.TracedAtW W.h₀ e cls a0 fl := by
 obtain ⟨oe, vs, T, oT, ts, h1, h2, h3, h4, h5, r⟩ := x
 exact ⟨oe, vs, T, oT, ts, h1, h2, h3, h4, zog S ha h5, r⟩
theorem zjz {fr : List Env} {h : Heap} (ap : ∀ e ∈ fr, ∀ L, e.frame = some L → ∃ ns, (L, Ob.frame ns) ∈ F) (hf : h.FunFrames W.h₀ fr) : ∀ a ∈ fr.filterMap (·.frame), W.h₀.get? a = none ∧ ∃ ns, (a, Ob.frame ns) ∈ F := fun a hm => by
 obtain ⟨e, he, q⟩ := List.mem_filterMap.mp hm
 exact ⟨(hf.mem hm).1, ap e he a q⟩
theorem zpa {env : Env} {outer : List Env} {L : Addr} {v : Value} {Q : Unit → Shared → Prop} (hfr : A.frames = some (env :: outer)) (hl : s.heap.FunFrames W.h₀ (env :: outer)) (hf : env.frame = some L) (ap : ∀ e ∈ env :: outer, ∀ L, e.frame = some L → ∃ ns, (L, Ob.frame ns) ∈ F)
  (S : St W F σ s) (x : zl2 W (some L) v s.heap) (q : ∀ ex s', v = .ref ex → ExAt W ex (rawInt L) s'.heap → St W F σ s' → Evo s.heap s'.heap → Q () s') : wpAny W.M A (noteFrame v env) Q E s := by
 obtain ⟨ex, a0, rfl, h0, x⟩ := x
 have fl := zjz ap hl
 have inl : ∀ {more : List Addr}, ∀ e ∈ env :: outer, ∀ L, e.frame = some L → L ∈ (env :: outer).filterMap (·.frame) ++ more := fun e he L hL => List.mem_append_left _ (List.mem_filterMap.mpr ⟨e, he, hL⟩)
 rcases x with ⟨oe, vs, ho, hc, hd, v0, v1⟩ | ⟨fv, hfv, x⟩
 ·-- fresh
  have ha : ∀ a ∈ (env :: outer).filterMap (·.frame) ++ [ex], W.h₀.get? a = none ∧ ((∃ ns, (a, Ob.frame ns) ∈ F) ∨ Odd s.heap a) := fun a hm => by
   rcases List.mem_append.mp hm with hm | hm
   ·exact ⟨(fl a hm).1, .inl (fl a hm).2⟩
   ·rw [List.mem_singleton] at hm; subst hm; exact ⟨h0, .inr ⟨oe, vs, ho, hd, .inl ⟨_, hc⟩⟩⟩
  unfold noteFrame
  simp only [hf]
  refine wpAny_bind (wpAny_field ho hd v1 ?_)
  rw [if_neg (by decide)]
  refine wpAny_entryW (base := zcb s.heap ((env :: outer).filterMap (·.frame) ++ [ex])) hfr (zek hl inl) hf ho (zet _ _) (zbx (List.mem_append_right _ (List.Mem.head _))) hd (Array.getElem?_eq_some_iff.mp v1).1 v0 fun h' ⟨k1, k2, k3, k4⟩ => ?_
  rw [hc] at k3
  exact q ex _ rfl ⟨h0, a0, zf1 S (fun a hm => (ha a hm).1) k3⟩ (S.slots k1 k4 ha) (UpToSlots.evo k4)
 ·rcases hfv with rfl | ⟨L', e, rfl⟩
  ·obtain ⟨oe, vs, T, oT, ts, ho, hc, hd, v1, hT0, hTe, hT, hTd, h3⟩ := id x
   have ha : ∀ a ∈ (env :: outer).filterMap (·.frame) ++ [ex, T], W.h₀.get? a = none ∧ ((∃ ns, (a, Ob.frame ns) ∈ F) ∨ Odd s.heap a) := fun a hm => by
    rcases List.mem_append.mp hm with hm | hm
    ·exact ⟨(fl a hm).1, .inl (fl a hm).2⟩
    ·rcases List.mem_cons.mp hm with rfl | hm
     ·exact ⟨h0, .inr ⟨oe, vs, ho, hd, .inl ⟨_, hc.1⟩⟩⟩
     ·rw [List.mem_singleton] at hm; subst hm; exact ⟨hT0, .inr ⟨oT, ts, hT, hTd, .inr (Array.getElem?_eq_some_iff.mp h3).1⟩⟩
   refine wpAny_noteFrame_onW (base := zcb s.heap ((env :: outer).filterMap (·.frame) ++ [ex, T])) hfr (zek hl inl) hf ⟨oe, vs, T, oT, ts, ho, hc, hd, v1, zbx (List.mem_append_right _ (List.Mem.tail _ (List.Mem.head _))), hTe, hT, hTd, h3⟩
    (zet _ _) (zbx (List.mem_append_right _ (List.Mem.head _))) fun h' ⟨k1, k2, k3, k4⟩ => ?_
   exact q ex _ rfl ⟨h0, a0, zf1 S (fun a hm => (ha a hm).1) k3⟩ (S.slots k1 k4 ha) (UpToSlots.evo k4)
  ·cases e
   exact wpAny_noteFrame_againW hf x (q ex s rfl ⟨h0, a0, x⟩ S (Evo.refl _))
theorem zd5 {ex : Addr} {fv : Value} {to : Option Addr} {Q : Unit → Shared → Prop} (S : St W F σ s) (x : ExAt W ex fv s.heap)
  (q : ∀ s', ExAt W ex (to.elim .none fun f => rawInt f) s'.heap → St W F σ s' → Evo s.heap s'.heap → Q () s') : wpAny W.M A (setFlight (.ref ex) to) Q E s := by
 obtain ⟨h0, a0, oe, vs, T, oT, ts, ho, hc, hd, v1, hT0, hTe, hT, hTd, h3⟩ := x
 have hsz3 : 3 < ts.size := (Array.getElem?_eq_some_iff.mp h3).1
 unfold setFlight
 refine wpAny_bind (wpAny_field ho hd v1 ?_)
 rw [if_pos (show (Value.ref T != Value.none) = true from by simp)]
 refine wpAny_setField hT hTd hsz3 ?_
 have other : ∀ b, b ≠ T → (s.heap.update T (Obj.mapFields (·.setIfInBounds 3 (to.elim Value.none fun f => rawInt f)))).get? b = s.heap.get? b := fun b hb => Heap.get?_update_other _ _ (Ne.symm hb)
 have noRecord : ∀ b o, s.heap.get? b = some o → (∀ vs, o.data ≠ .fields vs) → b ≠ T := fun b o hb hnf q => by
  rw [q, hT] at hb; injection hb with hb; subst hb; exact hnf ts hTd
 have up : s.heap.UpToSlots (s.heap.update T (Obj.mapFields (·.setIfInBounds 3 (to.elim Value.none fun f => rawInt f)))) := fun b o hb hn => ⟨o.slots, (other b (noRecord b o hb hn)).trans hb⟩
 refine q _ ⟨h0, a0, oe, vs, T, _, _, (other ex (Ne.symm hTe)).trans ho, hc, hd, v1, hT0, hTe, Heap.get?_update_self _ hT (Obj.isFreed_of_fields (Obj.data_mapFields hTd _)), Obj.data_mapFields hTd _, by simp [hsz3]⟩
  (S.slots (avoid := [T]) (t := s.toks) (fun b o e => ?_) up fun a hm => ?_) (UpToSlots.evo up)
 ·by_cases m : b = T
  ·subst m; rw [zbx (List.Mem.head _)] at e; cases e
  ·rw [zca (by simpa using m)] at e
   exact (other b m).trans e
 ·rw [List.mem_singleton] at hm; subst hm; exact ⟨hT0, .inr ⟨oT, ts, hT, hTd, .inr hsz3⟩⟩
theorem ExAt.excOk {ex L : Addr} {h : Heap} (x : ExAt W ex (rawInt L) h) : zl2 W (some L) (.ref ex) h := let ⟨h0, a0, t⟩ := x; ⟨ex, a0, rfl, h0, .inr ⟨_, .inr ⟨L, rfl, rfl⟩, t⟩⟩
theorem ExAt.excOkN {ex : Addr} {lo : Option Addr} {h : Heap} (x : ExAt W ex .none h) : zl2 W lo (.ref ex) h := let ⟨h0, a0, t⟩ := x; ⟨ex, a0, rfl, h0, .inr ⟨_, .inl rfl, t⟩⟩
theorem ExAt.field1 {ex : Addr} {fv : Value} {h : Heap} (x : ExAt W ex fv h) : Ex3 fun oe vs T => A3 (h.get? ex = some oe) (oe.data = .fields vs) (vs[1]? = some (.ref T)) := let ⟨_, _, oe, vs, T, _, _, a, _, b, c, _⟩ := x; ⟨oe, vs, T, a, b, c⟩
end
end
section
section
variable {W : Wd} {C : Orc} {A : Around} {E : Value → Shared → Prop} {sc : Scope} {env : Env} {vars : Vars} {ρ : Loc} {F : Led} {r : Nat} {σ : Sto} {s s₀ s₁ s₂ : Shared} {N : Loc → Sto → Prop} {R : QP} {B : BP}
theorem zht {v : Value} {Q : Unit → Shared → Prop} (H : Fun W A sc env vars F r) (c : Ctx W A s.heap) (S : St W (act env vars ρ ++ F) σ s) (x : zl2 W env.frame v s.heap)
  (q : ∀ ex s', v = .ref ex → ExAt W ex (rawInt env.locals) s'.heap → St W (act env vars ρ ++ F) σ s' → Evo s.heap s'.heap → Q () s') : wpAny W.M A (noteFrame v env) Q E s := by
 obtain ⟨outer, h1, h2⟩ := H.stack
 obtain ⟨fr, h3, h4⟩ := c.frames
 rw [h1] at h3; cases h3
 have ap := (H.here ρ).apart _ h1
 exact zpa h1 h4 H.frame ap S (H.frame ▸ x) q
theorem zl7 {c : Code} {Q : Flow → Shared → Prop} {h : Option Value} (hnb : h ≠ some byPass)
  (hc : zb6 W.M (A.mark h) c (fun r s' => match r with | .ok f => Q f s' | .error e => Ex2 fun ex fv => A3 (e = .ref ex) (ExAt W ex fv s'.heap) (wpAny W.M A (setFlight e env.frame) (fun _ s'' => E e s'') E s')) s) : wc W.M A (runOwn c env h) Q E s := by
 unfold runOwn
 refine zb7 (zqw (zcc hc fun r s' z => ?_) hnb)
 cases r with
 | ok f => exact z
 | error e =>
  obtain ⟨ex, fv, rfl, x, y⟩ := z
  obtain ⟨oe, vs, T, e1, e2, e3⟩ := x.field1
  refine zah (wpAny_bind (wpAny_field e1 e2 e3 ?_))
  rw [if_neg (show ¬ ((Value.ref T == .none) = true) from by simp)]
  exact y
inductive RE (W : Wd) (env : Env) (vars : Vars) (F : Led) (s₀ : Shared) (B : BP) (e : Value) (s' : Shared) : Prop
 | mk (ρ' : Loc) (σ' : Sto) (ex : Addr) : e = .ref ex → ρ'.length = vars.length → ExAt W ex (rawInt env.locals) s'.heap → St W (act env vars ρ' ++ F) σ' s' → Evo s₀.heap s'.heap → B σ' → RE W env vars F s₀ B e s'
noncomputable def RR (W : Wd) (env : Env) (vars : Vars) (F : Led) (s₀ : Shared) (N : Loc → Sto → Prop) (R : QP) (B : BP) : Result → Shared → Prop
 | .ok f, s' => FP W env vars F s₀ N R f s'
 | .error e, s' => RE W env vars F s₀ B e s'
theorem zkn {c : Code} (H : Fun W A sc env vars F r) (hc : zb6 W.M (A.mark none) c (RR W env vars F s₀ N R B) s) : wc W.M A (runOwn c env) (FP W env vars F s₀ N R) (EX W env vars F s₀ B) s := by
 refine zl7 (by intro x; cases x) (zcc hc fun r s' z => ?_)
 cases r with
 | ok f => exact z
 | error e =>
  obtain ⟨ρ', σ', ex, rfl, hl, x, S, k, q⟩ := z
  refine ⟨ex, _, rfl, x, ?_⟩
  rw [H.frame]
  refine zd5 S x fun s'' x' S' k' => ⟨ρ', hl, σ', ?_, S', k.trans k', q⟩
  rw [H.frame]
  exact ExAt.excOk x'
theorem zoq {α : Type} {m : Sem α} {Q : α → Shared → Prop} {Ee : Value → Shared → Prop} (h : wc W.M A m Q (fun e s' => wpAny W.M A (noteFrame e env) (fun _ s'' => Ee e s'') Ee s') s) : wc W.M A (m.onRaise fun x => do noteFrame x env; theTreesLotGoes x) Q Ee s :=
 zb7 (zaa h (fun _ _ z => z) fun e s' z => zah (wpAny_bind (wpAny_mono z (fun _ s'' z => wpAny_theTreesLotGoes z) fun _ _ z => z)))
theorem EX.note {e : Value} (H : Fun W A sc env vars F r) (c : Ctx W A s₀.heap) (z : EX W env vars F s₀ B e s) : wpAny W.M A (noteFrame e env) (fun _ s'' => RE W env vars F s₀ B e s'') (RE W env vars F s₀ B) s := by
 obtain ⟨ρ', hl, σ', x, S, k, q⟩ := z
 exact zht H (c.evo k) S x fun ex s' e x' S' k' => ⟨ρ', σ', ex, e, hl, x', S', k.trans k', q⟩
theorem EX.no {e : Value} (h : EX W env vars F s₀ (fun _ => False) e s) : False := let ⟨_, _, z⟩ := h; z.no
theorem zry {x : X} {b : Ss} {t : Expr} {sb : List Stmt} {p : Pos} (H : Fun W A sc env vars F r) (ht : XB W C A env vars F x t) (hb : SSs W C A env vars F b sb) : SS W C A env vars F (.loop x b) (.While t sb [] p) := fun ρ σ s B N R hl c S q => by
 obtain ⟨f, hw⟩ := q
 rw [exec_While]
 refine zag (zkn H ?_)
 rw [show A.mark none = A from rfl]
 refine zff rfl rfl (fun n s' => Ex2 fun ρ' σ' => A4 (ρ'.length = vars.length) (St W (act env vars ρ' ++ F) σ' s') (Evo s.heap s'.heap) (zfz (S := Loc × Sto) (fun s k => wpX C (fun _ => False) s.1 [] x s.2 fun v σ => andW v (k true (s.1, σ)) (k false (s.1, σ))) (fun s k => wpSs C (fun _ => False) b s.1 s.2 (fun ρ σ => k (ρ, σ)) R) (fun s => N s.1 s.2) n (ρ', σ')))
  (fun n s' hI => ?_) f ⟨ρ, σ, hl, S, Evo.refl _, hw⟩
 obtain ⟨ρ', σ', hl', S', k', hw'⟩ := hI
 show wc _ A ((whileTurn t sb [] env).onRaise (fun x => do noteFrame x env; theTreesLotGoes x)) _ _ s'
 refine zb7 (zaa (E := fun _ _ => False) ?_ (fun _ _ z => z) fun _ _ z => z.elim)
 cases n with
 | zero => exact hw'.elim
 | succ n =>
  unfold whileTurn
  refine zab (zaa (ht ρ' hl' σ' s' (fun _ => False) _ (fun v σ h => let ⟨b, e, _, _⟩ := zbt h; ⟨b, e⟩) (c.evo k') S' hw') (fun t s1 ⟨σ1, S1, k1, q1⟩ => ?_) fun _ _ z => z.no)
  cases t with
  | true =>
   refine zbu rfl (zab (zaa (hb ρ' σ1 s1 (fun _ => False) _ R hl' (c.evo (k'.trans k1)) S1 q1) (fun f s2 z => ?_) fun _ _ z => z.no))
   cases f with
   | next =>
    obtain ⟨ρ2, σ2, h1, h2, h3, h4⟩ := z
    exact zaj (.inl ⟨rfl, n, Nat.lt_succ_self _, ρ2, σ2, h1, h2, (k'.trans k1).trans h3, h4⟩)
   | ret v => exact zaj (FP.from (f := .ret v) z (k'.trans k1))
   | brk => exact z.elim
   | cont => exact z.elim
  | false =>
   refine zat (by simp) (zab (zaj (zaj ?_)))
   exact ⟨ρ', σ1, hl', S1, k'.trans k1, q1⟩
noncomputable def zl4 (W : Wd) (A : Around) (env : Env) (vars : Vars) (t : T) (tg : Expr) : Prop := ∀ (F : Led) (ρ : Loc) (σ : Sto) (s : Shared) (v : Va) (u : Value) (kk : Loc → Prop) (Q : Unit → Shared → Prop) (E : Value → Shared → Prop), A.handled = none → ρ.length = vars.length →
 St W (act env vars ρ ++ F) σ s → Rv s.heap v u → zg3 ρ t v kk → (∀ ρ' s', kk ρ' → ρ'.length = vars.length → St W (act env vars ρ' ++ F) σ s' → Evo s.heap s'.heap → Q () s') → wpAny W.M A (assign tg env u) Q E s
theorem zoe {i : Nat} {e : Expr} (b : Blk sc env vars) (h : zb4 vars i e = true) : zl4 W A env vars (.one i) e := fun F ρ σ s v u kk Q E hh hl S rv hk q => by
 obtain ⟨_, _, _, _, hv⟩ := zbh h
 have hi : i < ρ.length := by rw [hl]; exact (List.getElem?_eq_some_iff.mp hv).1
 exact zcr b h hi S rv fun s' S' k' => q _ s' hk (by rw [List.length_set]; exact hl) S' k'
theorem zod {i j : Nat} {t w : Expr} {k : Nat} {p : Pos} (b : Blk sc env vars) (ht : zb4 vars i t = true) (hw : zb4 vars j w = true) : zl4 W A env vars (.two i j) (.Tuple [t, w] k p) := fun F ρ σ s v u kk Q E hh hl S rv hk q => by
 obtain ⟨_, _, _, _, hv⟩ := zbh ht
 obtain ⟨_, _, _, _, hv'⟩ := zbh hw
 have hi : i < ρ.length := by rw [hl]; exact (List.getElem?_eq_some_iff.mp hv).1
 have hj : j < ρ.length := by rw [hl]; exact (List.getElem?_eq_some_iff.mp hv').1
 exact zfh hh b ht hw hi hj S rv hk fun ρ' s' z1 z2 S' k' => q ρ' s' z1 (z2.trans hl) S' k'
theorem St.drop {c : Addr × Ob} (S : St W (act env vars ρ ++ c :: F) σ s) : St W (act env vars ρ ++ F) σ s := S.sub (List.Sublist.append_left (List.sublist_cons_self _ _) _)
theorem FP.drop {c : Addr × Ob} {f : Flow} (x : FP W env vars (c :: F) s₀ N R f s) : FP W env vars F s₀ N R f s := by
 cases f <;> first | exact x.elim | skip
 ·obtain ⟨ρ', σ', a, b, d, n⟩ := x; exact ⟨ρ', σ', a, b.drop, d, n⟩
 ·obtain ⟨ρ', mv, σ', a, b, c, d, n⟩ := x; exact ⟨ρ', mv, σ', a, b, c.drop, d, n⟩
theorem RE.drop {c : Addr × Ob} {e : Value} (x : RE W env vars (c :: F) s₀ B e s) : RE W env vars F s₀ B e s := by
 obtain ⟨ρ', σ', ex, a, b, c, d, k, r⟩ := x; exact ⟨ρ', σ', ex, a, b, c, d.drop, k, r⟩
theorem RE.from {e : Value} (x : RE W env vars F s₁ B e s) (k : Evo s₀.heap s₁.heap) : RE W env vars F s₀ B e s := by
 obtain ⟨ρ', σ', ex, a, b, c, d, k', r⟩ := x; exact ⟨ρ', σ', ex, a, b, c, d, k.trans k', r⟩
set_option tactic.hygienic true in
theorem zrz {t : T} {it : It} {b : Ss} {tg iter : Expr} {sb : List Stmt} {p : Pos} {uv : Vars} (H : Fun W A sc env vars F r) (hit : zia sc vars uv it iter = true) (hb : zl4 W A env vars t tg) (si : ∀ ρ, ρ.length = vars.length → SI W C A env ρ [] (act env vars ρ ++ F) it iter)
  (hs : ∀ c, SSs W C A env vars (c :: F) b sb) : SS W C A env vars F (.each t it b) (.For tg iter sb [] p) := fun ρ σ s B N R hl c S q => by
 rw [exec_For]
 refine zag (zab (zaa (si ρ hl σ s B _ c S q) (fun x s1 ⟨sq, σ1, i1, S1, k1, f, hw⟩ => ?_) fun _ _ z => EX.of hl z))
 refine zaf (wpAny_of_eq (zfp hit x) ?_)
 refine zag (zaf (wpAny_holding (zkw S1 i1 fun I s2 S2 k2 => ?_)))
 have S2' : St W (act env vars ρ ++ (I, itOb sq 0) :: F) σ1 s2 := S2.perm List.perm_middle.symm
 refine zkn H ?_
 rw [show A.mark none = A from rfl]
 refine zff rfl rfl (fun n s' => Ex3 fun k ρ' σ' => A4 (ρ'.length = vars.length) (St W (act env vars ρ' ++ (I, itOb sq k) :: F) σ' s') (Evo s.heap s'.heap) (zei (S := Loc × Sto) (fun s n => za2 sq s.2 n) (fun v s k => zg3 s.1 t v fun ρ => wpSs C B b ρ s.2 (fun ρ σ => k (ρ, σ)) R) (fun s => N s.1 s.2) n k (ρ', σ')))
  (fun n s' hI => ?_) f ⟨0, ρ, σ1, hl, S2', k1.trans k2, hw⟩
 obtain ⟨k, ρ', σ', hl', S', k', hw'⟩ := hI
 show wc _ A ((forTurn tg (.ref I) sb [] env).onRaise (fun x => do noteFrame x env; theTreesLotGoes x)) _ _ s'
 refine zoq ?_
 unfold forTurn
 refine zag ?_
 cases n with
 | zero => exact hw'.elim
 | succ n =>
  simp only [zei] at hw'
  have Sp : St W ((I, itOb sq k) :: (act env vars ρ' ++ F)) σ' s' := S'.perm List.perm_middle
  split at hw'
  ·exact hw'.elim
  ·rename_i hi
   refine zaf (wpAny_onRaise (zfw c.handled Sp hi (fun s3 _ S3 k3 => ?_) fun v y s1 e => by cases e))
   refine zaj (.inr ⟨rfl, zaz rfl ?_⟩)
   show wc _ A (do return Fin.done (← (execs [] env).onRaise (fun x => do noteFrame x env; theTreesLotGoes x))) _ _ s3
   exact zab (zb7 (zaj (zaj ⟨ρ', σ', hl', S3, k'.trans k3, hw'⟩)))
  ·rename_i v hi
   refine zaf (wpAny_onRaise (zfw c.handled Sp hi (fun s1 e => by cases e) fun v' y s3 e r3 S3 k3 => ?_))
   cases e
   have S3' : St W (act env vars ρ' ++ (I, itOb sq (k + 1)) :: F) σ' s3 := S3.perm List.perm_middle.symm
   refine zaf (zio S3 (List.Mem.head _) ?_)
   refine zaf (hb _ ρ' σ' s3 v y _ _ _ c.handled hl' S3' r3 hw' fun ρ4 s4 z1 z2 S4 k4 => ?_)
   have ev : Evo s.heap s4.heap := (k'.trans k3).trans k4
   refine zab (zaa (hs _ ρ4 σ' s4 B _ R z2 (c.evo ev) S4 z1) (fun f s5 z => ?_) fun e s5 z => ?_)
   ·cases f with
    | next =>
     obtain ⟨ρ2, σ2, h1, h2, h3, h4⟩ := z
     exact zaj (.inl ⟨rfl, n, Nat.lt_succ_self _, k + 1, ρ2, σ2, h1, h2, ev.trans h3, h4⟩)
    | ret v => exact zaj (FP.drop (f := .ret v) (FP.from (f := .ret v) z ev))
    | brk => exact z.elim
    | cont => exact z.elim
   ·exact wpAny_mono (EX.note H.grow c (EX.from z ev)) (fun _ _ z => z.drop) fun _ _ z => z.drop
end
end
section
section
variable {W : Wd} {C : Orc} {A : Around} {E : Value → Shared → Prop} {sc : Scope} {env : Env} {vars : Vars} {ρ : Loc} {F : Led} {r : Nat} {σ : Sto} {s s₀ s₁ s₂ : Shared} {N : Loc → Sto → Prop} {R : QP} {B : BP}
theorem znn {x : Str} {f : Expr} {v : Value} {Q : Value → Shared → Prop} (pre : Pre W) (eok : EnvOk sc env) (S : St W F σ s) (hf : za9 sc x f = true)
  (e : nsIn W.K mainGlobals x = some (some v)) (h : Q v s) : wpAny W.M A (eval f env) Q E s := by
 obtain ⟨p, rfl, h1, h2⟩ := zcw hf
 obtain ⟨pr, loose, mg, mb, T⟩ := pre.T
 rw [← eok.scope] at h1
 exact Name_function_global (eok.scope ▸ eok.kind) h1 (loadGlobal_global (env := env) (by rw [eok.glob]; exact T.g.keeps S.keep) (mg_of pre.X T.g e) h) h2
theorem Pre.own (pre : Pre W) (S : St W F σ s) : Ex5 fun mg B newId initId bm => ExcBaseFacts B newId initId bm ∧ OwnCls "BadOption" (W.fa 5) bm newId mg s.heap := by
 obtain ⟨pr, loose, mg, mb, T⟩ := pre.T
 obtain ⟨B, newId, initId, bm, h1, h2⟩ := pre.bad
 exact ⟨mg, B, newId, initId, bm, h1, (own_of_in pre.X T (pre.glob 5 rfl) h2).keeps S.keep⟩
theorem zf7 : ∀ {ps : List (Option Nat)} {p : Prop}, zer ρ ps p → p
 | [], _, h => h
 | none :: r, _, h => zf7 (ps := r) h
 | some i :: r, _, h => by
  obtain ⟨v, _, h⟩ := zdd h
  cases v <;> first | exact h.elim | exact zf7 (ps := r) h.2
theorem zq0 (a : Int) (h : -(2 ^ 80) < a ∧ a < 2 ^ 80) : (Str.ofString (toString a)).length ≤ 100 := by
 have hn : a.natAbs < 10 ^ 25 := by
  have : (2 : Int) ^ 80 = 1208925819614629174706176 := by decide
  have : (10 : Nat) ^ 25 = 10000000000000000000000000 := by decide
  lia -abstractProof
 have e := int_text_length_le10 (a := a) (k := 25) (by decide) hn
 rw [PySem.ofString_length]; exact Nat.le_trans e (by decide)
theorem znd {a : Int} (h : -(2 ^ 80) < a ∧ a < 2 ^ 80) : a.natAbs.log2 < 1920 := by
 have hn : a.natAbs < 2 ^ 80 := by
  obtain ⟨n, rfl | rfl⟩ := a.eq_nat_or_neg
  ·exact Int.ofNat_lt.mp h.2
  ·rw [Int.natAbs_neg]; exact Int.ofNat_lt.mp (Int.neg_lt_neg_iff.mp h.1)
 by_cases h0 : a.natAbs = 0
 ·rw [h0]; decide
 ·have := (Nat.log2_lt h0).mpr hn
  exact Nat.lt_of_lt_of_le this (by decide)
set_option tactic.hygienic true in
theorem zga (H : Fun W A sc env vars F r) : ∀ {ps : List (Option Nat)} {es : List Expr} {s : Shared} {out : Str} {p : Prop} {Q : Value → Shared → Prop}, St W (act env vars ρ ++ F) σ s → ze2 sc vars ps es = true → zer ρ ps p → out.length + 1000 * es.length ≤ 100000 →
  (∀ x t n, Q (.str x t) { s with toks := n }) → wpAny W.M A (joinParts out (evalEach es env)) Q E s
 | [], es, s, out, p, Q, S, hc, hw, hz, q => nilE (P := fun es => out.length + 1000 * es.length ≤ 100000 → wpAny W.M A (joinParts out (evalEach es env)) Q E s) hc (fun hz => joinParts_nil (q _ _ _) (by have : sizeLine = 16777216 := (by decide); exact Nat.le_trans (Nat.le_trans (Nat.le_add_right _ _) hz) (by decide))) hz
 | none :: r, es, s, out, p, Q, S, hc, hw, hz, q => zgm (P := fun es => out.length + 1000 * es.length ≤ 100000 → wpAny W.M A (joinParts out (evalEach es env)) Q E s) hc (fun e q' h => cstE (P := fun e => out.length + 1000 * (e :: q').length ≤ 100000 → wpAny W.M A (joinParts out (evalEach (e :: q') env)) Q E s) h fun c k pp h =>
   strE (P := fun c => out.length + 1000 * (Expr.Constant c k pp :: q').length ≤ 100000 → wpAny W.M A (joinParts out (evalEach (Expr.Constant c k pp :: q') env)) Q E s) h fun x h => andE h fun h1 h2 hz => by
   have h1 := of_decide_eq_true h1
   rw [List.length_cons] at hz
   refine joinParts_cons (Constant_str ⟨?_, ?_⟩)
   ·rw [strLen_append]
    have : sizeLine = 16777216 := by decide
    lia -abstractProof
   ·exact zga H (S.same rfl rfl rfl) h2 hw (by rw [strLen_append]; lia -abstractProof) fun x t n => q x t n) hz
 | some i :: r, es, s, out, p, Q, S, hc, hw, hz, q => zgm (P := fun es => out.length + 1000 * es.length ≤ 100000 → wpAny W.M A (joinParts out (evalEach es env)) Q E s) hc (fun e q' h => fmtE (P := fun e => out.length + 1000 * (e :: q').length ≤ 100000 → wpAny W.M A (joinParts out (evalEach (e :: q') env)) Q E s) h fun e z o pp h => and3 h fun h0 h1 h => andE h fun h2 h3 hz => by
   obtain rfl := beq_iff_eq.mp h0
   cases o with
   | some _ => exact bad h1
   | none =>
   rw [List.length_cons] at hz
   obtain ⟨v, hρ, hv⟩ := zdd hw
   cases v <;> first | exact hv.elim | skip
   rename_i n
   obtain ⟨hn, hw'⟩ := hv
   obtain ⟨x, cc, np, rfl, hvar⟩ := zbh h2
   refine joinParts_cons (FormattedValue_plain ?_)
   obtain ⟨hk, hd⟩ := zbm H.blk.vok hvar
   refine wpAny_Name (zku (H.here ρ) hvar hρ S fun y ry => ?_) hd
   obtain ⟨t, rfl⟩ := zcj ry
   refine formatField_int_small (znd hn) ⟨?_, ?_⟩
   ·have := zq0 n hn
    rw [strLen_append]
    have e2 : sizeLine = 16777216 := by decide
    lia -abstractProof
   ·have := zq0 n hn
    exact zga H (S.same rfl rfl rfl) h3 hw' (by rw [strLen_append]; lia -abstractProof) fun x t n => q x t n) hz
theorem zo2 {ps : List (Option Nat)} {f : Expr} {es : List Expr} {jp cpos pos : Pos} (H : Fun W A sc env vars F r) (hf : za9 sc "BadOption" f = true) (hp : ze2 sc vars ps es = true) (h2 : 2 ≤ es.length) (h20 : es.length ≤ 20) :
  SS W C A env vars F (.raise ps) (.Raise (some (.Call f [.JoinedStr es jp] [] cpos)) none pos) := fun ρ σ s B N R hl c S q => by
 have hf' := hf
 obtain ⟨np, rfl, _, _⟩ := zcw hf
 refine cps fun G kz => ?_
 obtain ⟨mg, BB, newId, initId, bm, FB, O⟩ := H.pre.own S
 obtain ⟨tl, NN, nm, qq, bs, hdct, sn, sub, ab, col, dd, k0, k1, k2, k3, k5, mN, hC, hN, hni, T⟩ := O.obj
 refine kz (zah ?_)
 refine wpAny_Raise_call_subT (C := W.fa 5) (nm := nm) (q := qq) (N := NN) (bs := bs) (bm := tl) (hdct := hdct) (sn := sn) (sub := sub) (ab := ab) (col := col) (dd := dd) (k0 := k0) (k1 := k1) (k2 := k2) (k3 := k3) (k5 := k5)
  FB (mN := mN) (T.hasType FB.hasBase) c.handled rfl hni (znn H.pre H.blk.eok S hf' (H.pre.glob 5 rfl) ⟨rfl, ?_⟩)
 refine evalArgs_plain (spliced_cons (x := eval (.JoinedStr es jp) env) ?_)
 have key : wpAny W.M A (eval (.JoinedStr es jp) env) (fun v s₁ => Ex3 fun x t n => v = .str x t ∧ s₁ = { s with toks := n }) (EX W env vars F s B) s := by
  match es, h2 with
  | e1 :: e2 :: rest, _ =>
   refine JoinedStr_many (zga H S hp q (by
    have : (Str.empty).length = 0 := rfl
    rw [this]; lia -abstractProof) fun x t n => ⟨x, t, n, rfl, rfl⟩)
 refine wpAny_mono key (fun v s1 ⟨x, t, n, e1, e2⟩ => ?_) fun _ _ z => z
 subst e1 e2
 refine spliced_nil ⟨rfl, by show 1 ≤ sizeLine; decide, hC, hN, T, fun h' e hx => ?_⟩
 obtain ⟨t', he, htn, _⟩ := hx.there
 have S' := S.ext (s' := { s with heap := h', toks := n }) (fun b o e => hx.keeps b o e) rfl rfl
 have h0 : W.h₀.get? e = none := by
  cases z : W.h₀.get? e with
  | none => rfl
  | some o => have := S.keep e o z; rw [hx.new] at this; cases this
 exact ⟨ρ, hl, σ, ⟨e, .ref t', rfl, h0, .inl ⟨_, _, he, rfl, rfl, rfl, rfl⟩⟩, S', Ext.evo (fun b o e => hx.keeps b o e), zf7 q⟩
theorem zk4 {M : Model} {body orelse : Sem Flow} {h₀ : ExceptHandler} {hs : List ExceptHandler} {Q : Flow → Shared → Prop}
  (h : wc M A body (fun f s₁ => match f with | .next => wc M A orelse Q E s₁ | f => Q f s₁)
   (fun e s₁ => wc M A (noteFrame e env) (fun _ s₂ => wc M A (setFlight e none) (fun _ s₃ => wc M A (handleBy e env (h₀ :: hs)) Q E s₃) E s₂) E s₁) s) :
  wc M A (tryStmt false body (h₀ :: hs) orelse [] env) Q E s := by
 show wc M A (body.attempt >>= _) Q E s
 refine zab (zg6 (zaa h (fun f s₁ h₁ => ?_) fun e s₁ h₁ => ?_))
 ·cases f <;> first | exact h₁ | exact zaj h₁
 ·exact zab (zaa h₁ (fun _ _ h₂ => zab h₂) fun _ _ x => x)
theorem ss_try {x : X} {v t : Expr} {k : Nat} {hp p pr pc pe : Pos} (H : Fun W A sc env vars F r) (ht : za9 sc "BadOption" t = true) (hc : zcx v = false) (hx : XX W C A env vars F x v) :
  SS W C A env vars F (.tryBad x) (.Try [.Expr v pe] [.ExceptHandler (some t) none [.Return (some (.Constant (.bool true) k pc)) pr] hp] [] [] p) := fun ρ σ s B N R hl c S q => by
 rw [arm_exec_Try]
 refine zag ?_
 refine zk4 (zaa (zkj (zmo H hc hx) zml ρ σ s (fun σ => R (.bool true) σ) N R hl c S q) (fun f s1 z => ?_) fun e s1 z => ?_)
 ·cases f with
  | next => exact zaj z
  | ret v => exact z
  | brk => exact z.elim
  | cont => exact z.elim
 ·obtain ⟨ρ', hl', σ', x1, S1, k1, q1⟩ := z
  refine zah (zht H (c.evo k1) S1 x1 fun ex s2 e x2 S2 k2 => ?_)
  subst e
  refine zah (zd5 (to := none) S2 x2 fun s3 x3 S3 k3 => zah ?_)
  refine cps fun G kz => ?_
  obtain ⟨mg, BB, newId, initId, bm, FB, O⟩ := H.pre.own S3
  obtain ⟨tl, NN, nm, qq, bs, hdct, sn, sub, ab, col, dd, k0, kk1, kk2, kk3, k5, mN, hC, hN, hni, T⟩ := O.obj
  obtain ⟨a0, tr⟩ := x3.2
  obtain ⟨ob, hob, hobc⟩ := tr.there
  refine kz ?_
  refine wpAny_handleBy_cons (codeAny_handlers_test (znn H.pre H.blk.eok S3 ht (H.pre.glob 5 rfl) ?_)) (by intro q; cases q)
  refine wpAny_excMatches_sub_self hC hob hobc (T.hasType FB.hasBase) (codeAny_handlers_suite ?_)
  refine zd5 (to := none) S3 x3 fun s4 x4 S4 k4 => ?_
  rw [execs_cons]
  refine wpAny_bind ?_
  rw [exec_Return_some]
  refine wpAny_bind (wpAny_standAt (wpAny_bind ?_))
  show wpAny _ _ (pure (Value.bool true)) _ _ _
  refine wpAny_pure (wpAny_pure (wpAny_pure ?_))
  exact ⟨ρ', .bool true, σ', hl', by simp only [Rv], S4, ((k1.trans k2).trans k3).trans k4, q1⟩
end
end
section
theorem fn_tab : ∀ g, isFn g = true → ∃ f, tab g = some f := fun g h => by
 have h' : g ∈ fnIds := by unfold isFn at h; exact List.contains_iff_mem.mp h
 have key : ∀ l : List Nat, (l.all fun g => (tab g).isSome) = true → g ∈ l → ∃ f, tab g = some f := fun l hl m => Option.isSome_iff_exists.mp (List.all_eq_true.mp hl g m)
 exact key fnIds (by decide +kernel) h'
theorem zhd {α β : Type} [BEq α] {p : β → Bool} : ∀ {l : List (α × β)} {g : α} {f : β}, (l.all fun q => p q.2) = true → l.lookup g = some f → p f = true
 | [], _, _, _, h => by cases h
 | (a, b) :: l, g, f, hl, h => by
  rw [List.all_cons, Bool.and_eq_true] at hl
  rw [List.lookup_cons] at h
  cases e : g == a with
  | true => rw [e] at h; cases h; exact hl.1
  | false => rw [e] at h; exact zhd hl.2 h
theorem zsg : ∀ g m f, mth g m = some f → ∃ x, tab f = some x := fun g m f h => by
 unfold mth at h
 split at h
 ·exact Option.isSome_iff_exists.mp (zhd (p := fun f => (tab f).isSome) (by decide +kernel) h)
 ·cases h
theorem Pre.func {W : Wd} (pre : Pre W) {g : Nat} {f : Fn} (h : tab g = some f) : Ex4 fun oc od osl fd => W.K.lookup (W.fa g) = some ⟨oc, od, .func fd, osl⟩ := let ⟨a, b, c, d, e, _, _, _⟩ := pre.fn g f h; ⟨a, b, c, d, e⟩
section
variable {W : Wd} {C : Orc} {A : Around} {r : Nat}
theorem both {env : Env} {ρ υ : Loc} {F : Led} {x : X} {e : Expr} (h : SX W C A env ρ υ F x e) (ho : zjp e = false) : SX W C A env ρ υ F x e ∧ SB W C A env ρ υ F x e := ⟨h, SB.of_plain h ho⟩
theorem eqF {α : Type} [BEq α] [LawfulBEq α] {a b : α} {p : α → Prop} (h : (a == b) = true) (k : p b) : p a := by rw [beq_iff_eq.mp h]; exact k
noncomputable def Bo (W : Wd) (C : Orc) (A : Around) (env : Env) (ρ υ : Loc) (F : Led) (x : X) (e : Expr) : Prop := SX W C A env ρ υ F x e ∧ SB W C A env ρ υ F x e
noncomputable def SndX (W : Wd) (C : Orc) (A : Around) (r : Nat) (x : X) : Prop := ∀ ⦃sc : Scope⦄ ⦃env : Env⦄ ⦃vars uv : Vars⦄ ⦃ρ υ : Loc⦄ ⦃F : Led⦄ ⦃e : Expr⦄, Here W A sc env vars ρ uv υ F r → chkX sc vars uv x e = true → Bo W C A env ρ υ F x e
noncomputable def SndXs (W : Wd) (C : Orc) (A : Around) (r : Nat) (x : Xs) : Prop := ∀ ⦃sc : Scope⦄ ⦃env : Env⦄ ⦃vars uv : Vars⦄ ⦃ρ υ : Loc⦄ ⦃F : Led⦄ ⦃es : List Expr⦄, Here W A sc env vars ρ uv υ F r → zde sc vars uv x es = true → SL W C A env ρ υ F x es
noncomputable def SndIt (W : Wd) (C : Orc) (A : Around) (r : Nat) (x : It) : Prop := ∀ ⦃sc : Scope⦄ ⦃env : Env⦄ ⦃vars uv : Vars⦄ ⦃ρ υ : Loc⦄ ⦃F : Led⦄ ⦃e : Expr⦄, Here W A sc env vars ρ uv υ F r → zia sc vars uv x e = true → SI W C A env ρ υ F x e
mutual
theorem sndX (cs : zcd W C r) : (x : X) → SndX W C A r x
 | .none => fun sc env vars uv ρ υ F e H h => cstE (P := Bo W C A env ρ υ F _) h fun c n p h => eqF (p := fun c => Bo W C A env ρ υ F _ (.Constant c n p)) h (both zrq rfl)
 | .bool b => fun sc env vars uv ρ υ F e H h => cstE (P := Bo W C A env ρ υ F _) h fun c n p h => eqF (p := fun c => Bo W C A env ρ υ F _ (.Constant c n p)) h (both zrw rfl)
 | .int i => fun sc env vars uv ρ υ F e H h => cstE (P := Bo W C A env ρ υ F _) h fun c n p h => eqF (p := fun c => Bo W C A env ρ υ F _ (.Constant c n p)) h (both sx_int rfl)
 | .bytes b => fun sc env vars uv ρ υ F e H h => cstE (P := Bo W C A env ρ υ F _) h fun c n p h => eqF (p := fun c => Bo W C A env ρ υ F _ (.Constant c n p)) h (both zo0 rfl)
 | .var i => fun sc env vars uv ρ υ F e H h => zjs (P := Bo W C A env ρ υ F _) h fun x p h => let ⟨⟨y, c⟩, hq, h⟩ := zdv h
  eqF (p := fun y => vars[i]? = some (y, c) → Bo W C A env ρ υ F _ (.Name x p)) h (fun hq => both (zqy H hq) rfl) hq
 | .up i => fun sc env vars uv ρ υ F e H h => zjs (P := Bo W C A env ρ υ F _) h fun x p h => let ⟨q, hq, h⟩ := zdv h
  andE h fun h1 h2 => both (sx_up H (hq.trans (congrArg some (beq_iff_eq.mp h1))) h2) rfl
 | .gint g => fun sc env vars uv ρ υ F e H h => andE h fun h1 h2 => let ⟨_, e, _, _⟩ := zcw h1
  both (zrt H h1 (of_decide_eq_true h2)) (e ▸ rfl)
 | .bin o a b => fun sc env vars uv ρ υ F e H h => binE (P := Bo W C A env ρ υ F _) h fun l op r p h => and3 h fun h1 h2 h3 => eqF (p := fun op => Bo W C A env ρ υ F _ (.BinOp l op r p)) h1 (both (sx_bin (sndX cs a H h2).1 (sndX cs b H h3).1) rfl)
 | .cmp o a b => fun sc env vars uv ρ υ F e H h => cmpE (P := Bo W C A env ρ υ F _) h fun l ops rs p h => andE h fun h1 h => zb5 (P := fun rs => Bo W C A env ρ υ F _ (.Compare l ops rs p)) h fun r h => andE h fun h2 h3 =>
  eqF (p := fun ops => Bo W C A env ρ υ F _ (.Compare l ops [r] p)) h1 ⟨sx_cmp H.units (sndX cs a H h2).1 (sndX cs b H h3).1, sb_cmp H.units (sndX cs a H h2).1 (sndX cs b H h3).1⟩
 | .isNone a => fun sc env vars uv ρ υ F e H h => cmpE (P := Bo W C A env ρ υ F _) h fun l ops rs p h => andE h fun h1 h => zb5 (P := fun rs => Bo W C A env ρ υ F _ (.Compare l ops rs p)) h fun r h => cstE (P := fun r => Bo W C A env ρ υ F _ (.Compare l ops [r] p)) h fun c n q h => andE h fun h2 h =>
  eqF (p := fun ops => Bo W C A env ρ υ F _ (.Compare l ops [.Constant c n q] p)) h1 (eqF (p := fun c => Bo W C A env ρ υ F _ (.Compare l _ [.Constant c n q] p)) h2 ⟨zmf (sndX cs a H h).1, zmz (sndX cs a H h).1⟩)
 | .notNone a => fun sc env vars uv ρ υ F e H h => cmpE (P := Bo W C A env ρ υ F _) h fun l ops rs p h => andE h fun h1 h => zb5 (P := fun rs => Bo W C A env ρ υ F _ (.Compare l ops rs p)) h fun r h => cstE (P := fun r => Bo W C A env ρ υ F _ (.Compare l ops [r] p)) h fun c n q h => andE h fun h2 h =>
  eqF (p := fun ops => Bo W C A env ρ υ F _ (.Compare l ops [.Constant c n q] p)) h1 (eqF (p := fun c => Bo W C A env ρ υ F _ (.Compare l _ [.Constant c n q] p)) h2 ⟨zla (sndX cs a H h).1, zlk (sndX cs a H h).1⟩)
 | .not a => fun sc env vars uv ρ υ F e H h => unE (P := Bo W C A env ρ υ F _) h fun o x p h => andE h fun h1 h => eqF (p := fun o => Bo W C A env ρ υ F _ (.UnaryOp o x p)) h1 ⟨sx_not (sndX cs a H h).1, sb_not (sndX cs a H h).2⟩
 | .and a b => fun sc env vars uv ρ υ F e H h => boE (P := Bo W C A env ρ υ F _) h fun o vs p h => andE h fun h1 h => zgm (P := fun vs => Bo W C A env ρ υ F _ (.BoolOp o vs p)) h fun l vs h => zgm (P := fun vs => Bo W C A env ρ υ F _ (.BoolOp o (l :: vs) p)) h fun r rest h => andE h fun h2 h3 =>
  eqF (p := fun o => Bo W C A env ρ υ F _ (.BoolOp o (l :: r :: rest) p)) h1 (match rest, h3 with
  | [], h3 => ⟨zqz (sndX cs a H h2).1 (sndX cs b H h3).1, zq3 (sndX cs a H h2).2 (zfr (sndX cs b H h3).2)⟩
  | _ :: _, h3 => ⟨zqz (sndX cs a H h2).1 (sndX cs b H h3).1, zq3 (sndX cs a H h2).2 (sndX cs b H h3).2⟩)
 | .or a b => fun sc env vars uv ρ υ F e H h => boE (P := Bo W C A env ρ υ F _) h fun o vs p h => andE h fun h1 h => zgm (P := fun vs => Bo W C A env ρ υ F _ (.BoolOp o vs p)) h fun l vs h => zgm (P := fun vs => Bo W C A env ρ υ F _ (.BoolOp o (l :: vs) p)) h fun r rest h => andE h fun h2 h3 =>
  eqF (p := fun o => Bo W C A env ρ υ F _ (.BoolOp o (l :: r :: rest) p)) h1 (match rest, h3 with
  | [], h3 => ⟨sx_or (sndX cs a H h2).1 (sndX cs b H h3).1, sb_or (sndX cs a H h2).2 (zfr (sndX cs b H h3).2)⟩
  | _ :: _, h3 => ⟨sx_or (sndX cs a H h2).1 (sndX cs b H h3).1, sb_or (sndX cs a H h2).2 (sndX cs b H h3).2⟩)
 | .ite c a b => fun sc env vars uv ρ υ F e H h => ifE (P := Bo W C A env ρ υ F _) h fun t x y p h => and3 h fun h1 h2 h3 => ⟨sx_ite (sndX cs c H h1).2 (sndX cs a H h2).1 (sndX cs b H h3).1, sb_ite (sndX cs c H h1).2 (sndX cs a H h2).2 (sndX cs b H h3).2⟩
 | .call g es => fun sc env vars uv ρ υ F e H h => zdz (P := Bo W C A env ρ υ F _) h fun f as w p h => and5 h fun h0 h1 h2 h3 h4 => nilE (P := fun w => Bo W C A env ρ υ F _ (.Call f as w p)) h0 (let ⟨_, hf⟩ := fn_tab g h2
  both (zrv H cs h1 h2 h3 (of_decide_eq_true h4) (zli cs es H h3) (H.pre.func hf)) rfl)
 | .new g es => fun sc env vars uv ρ υ F e H h => zdz (P := Bo W C A env ρ υ F _) h fun f as w p h => and5 h fun h0 h1 h2 h3 h4 => nilE (P := fun w => Bo W C A env ρ υ F _ (.Call f as w p)) h0 (both (sx_new H cs h1 h2 h3 (of_decide_eq_true h4) (zli cs es H h3)) rfl)
 | .meth o m es => fun sc env vars uv ρ υ F e H h => zdz (P := Bo W C A env ρ υ F _) h fun f as w p h => zif (P := fun f => Bo W C A env ρ υ F _ (.Call f as w p)) h fun v n ap h => and6 h fun h0 h1 h2 h3 h4 h => nilE (P := fun w => Bo W C A env ρ υ F _ (.Call _ as w p)) h0 (andE h fun h5 h6 =>
  both (zrr H cs h1 (beq_iff_eq.mp h2) h3 (sndX cs o H h4).1 h5 (of_decide_eq_true h6) (zli cs es H h5) (fun g f hm => let ⟨x, hx⟩ := zsg _ _ _ hm; H.pre.func hx)) rfl)
 | .append o x => fun sc env vars uv ρ υ F e H h => zdz (P := Bo W C A env ρ υ F _) h fun f as w p h => zif (P := fun f => Bo W C A env ρ υ F _ (.Call f as w p)) h fun v n ap h => and6 h fun h0 h1 h2 h3 h4 h => nilE (P := fun w => Bo W C A env ρ υ F _ (.Call _ as w p)) h0 (zb5 (P := fun as => Bo W C A env ρ υ F _ (.Call _ as [] p)) h fun y h5 =>
  both (zmj h1 (beq_iff_eq.mp h2) h3 (sndX cs o H h4).1 (sndX cs x H h5).1 h5) rfl)
 | .extend o x => fun sc env vars uv ρ υ F e H h => zdz (P := Bo W C A env ρ υ F _) h fun f as w p h => zif (P := fun f => Bo W C A env ρ υ F _ (.Call f as w p)) h fun v n ap h => and6 h fun h0 h1 h2 h3 h4 h => nilE (P := fun w => Bo W C A env ρ υ F _ (.Call _ as w p)) h0 (zb5 (P := fun as => Bo W C A env ρ υ F _ (.Call _ as [] p)) h fun y h5 =>
  both (zmh h1 (beq_iff_eq.mp h2) h3 (sndX cs o H h4).1 (sndX cs x H h5).1 h5) rfl)
 | .popAt o x => fun sc env vars uv ρ υ F e H h => zdz (P := Bo W C A env ρ υ F _) h fun f as w p h => zif (P := fun f => Bo W C A env ρ υ F _ (.Call f as w p)) h fun v n ap h => and6 h fun h0 h1 h2 h3 h4 h => nilE (P := fun w => Bo W C A env ρ υ F _ (.Call _ as w p)) h0 (zb5 (P := fun as => Bo W C A env ρ υ F _ (.Call _ as [] p)) h fun y h5 =>
  both (zoz h1 (beq_iff_eq.mp h2) h3 (sndX cs o H h4).1 (sndX cs x H h5).1 h5) rfl)
 | .pop o => fun sc env vars uv ρ υ F e H h => zdz (P := Bo W C A env ρ υ F _) h fun f as w p h => zif (P := fun f => Bo W C A env ρ υ F _ (.Call f as w p)) h fun v n ap h => and6 h fun h0 h1 h2 h3 h4 h => nilE (P := fun w => Bo W C A env ρ υ F _ (.Call _ as w p)) h0 (nilE (P := fun as => Bo W C A env ρ υ F _ (.Call _ as [] p)) h
  (both (sx_pop h1 (beq_iff_eq.mp h2) h3 (sndX cs o H h4).1) rfl))
 | .insert o x z => fun sc env vars uv ρ υ F e H h => zdz (P := Bo W C A env ρ υ F _) h fun f as w p h => zif (P := fun f => Bo W C A env ρ υ F _ (.Call f as w p)) h fun v n ap h => and6 h fun h0 h1 h2 h3 h4 h => nilE (P := fun w => Bo W C A env ρ υ F _ (.Call _ as w p)) h0 (zk6 (P := fun as => Bo W C A env ρ υ F _ (.Call _ as [] p)) h fun y u h => andE h fun h5 h6 =>
  both (zmg h1 (beq_iff_eq.mp h2) h3 (sndX cs o H h4).1 (sndX cs x H h5).1 (sndX cs z H h6).1 h5 h6) rfl)
 | .attr o i => fun sc env vars uv ρ υ F e H h => zif (P := Bo W C A env ρ υ F _) h fun v n p h => and4 h fun h1 h2 h3 h4 => both (zrx H (beq_iff_eq.mp h1) (of_decide_eq_true h2) h3 (sndX cs o H h4).1) rfl
 | .idx o i => fun sc env vars uv ρ υ F e H h => subE (P := Bo W C A env ρ υ F _) h fun v w p h => andE h fun h1 h2 => both (sx_idx (sndX cs o H h1).1 (sndX cs i H h2).1) rfl
 | .sliceTo o i => fun sc env vars uv ρ υ F e H h => subE (P := Bo W C A env ρ υ F _) h fun v w p h => slE (P := fun w => Bo W C A env ρ υ F _ (.Subscript v w p)) h fun a b c q h => and3 h fun h1 h2 h => zln (P := fun a => Bo W C A env ρ υ F _ (.Subscript v (.Slice a b c q) p)) h1 (zln (P := fun c => Bo W C A env ρ υ F _ (.Subscript v (.Slice none b c q) p)) h2
  (zjl (P := fun b => Bo W C A env ρ υ F _ (.Subscript v (.Slice none b none q) p)) h fun z h => andE h fun h1 h2 => both (zk9 (sndX cs o H h1).1 (sndX cs i H h2).1) rfl))
 | .slice o a b => fun sc env vars uv ρ υ F e H h => subE (P := Bo W C A env ρ υ F _) h fun v w p h => slE (P := fun w => Bo W C A env ρ υ F _ (.Subscript v w p)) h fun l u c q h => andE h fun h1 h => zln (P := fun c => Bo W C A env ρ υ F _ (.Subscript v (.Slice l u c q) p)) h1 (zjl (P := fun l => Bo W C A env ρ υ F _ (.Subscript v (.Slice l u none q) p)) h fun y h =>
  zjl (P := fun u => Bo W C A env ρ υ F _ (.Subscript v (.Slice (some y) u none q) p)) h fun z h => and3 h fun h1 h2 h3 => both (zoy (sndX cs o H h1).1 (sndX cs a H h2).1 (sndX cs b H h3).1) rfl)
 | .list es => fun sc env vars uv ρ υ F e H h => listE (P := Bo W C A env ρ υ F _) h fun as p h => andE h fun h1 h2 => both (zrs h1 (of_decide_eq_true h2) (zli cs es H h1)) rfl
 | .tup es => fun sc env vars uv ρ υ F e H h => tupE (P := Bo W C A env ρ υ F _) h fun as n p h => andE h fun h1 h2 => both (sx_tup h1 (of_decide_eq_true h2) (zli cs es H h1)) rfl
 | .comp x two it => fun sc env vars uv ρ υ F e H h => zps (P := Bo W C A env ρ υ F _) h fun elt gs c p h => zb5 (P := fun gs => Bo W C A env ρ υ F _ (.ListComp elt gs c p)) h fun g h => genE (P := fun g => Bo W C A env ρ υ F _ (.ListComp elt [g] c p)) h fun tg iter ifs z h => and7 h fun h0 h1 _ h2 h3 h4 h => andE h fun h5 h6 =>
  eqF (p := fun z => Bo W C A env ρ υ F _ (.ListComp elt [⟨tg, iter, ifs, z⟩] c p)) h0 (nilE (P := fun ifs => Bo W C A env ρ υ F _ (.ListComp elt [⟨tg, iter, ifs, 0⟩] c p)) h1
  (both (zru H ⟨h2, h3⟩ (beq_iff_eq.mp h4) h5 (zmr cs it H h5) fun cenv ρ' F' N hF => (sndX cs x (N.here H hF) h6).1) rfl))
 | .compIf x two it cnd => fun sc env vars uv ρ υ F e H h => zps (P := Bo W C A env ρ υ F _) h fun elt gs c p h => zb5 (P := fun gs => Bo W C A env ρ υ F _ (.ListComp elt gs c p)) h fun g h => genE (P := fun g => Bo W C A env ρ υ F _ (.ListComp elt [g] c p)) h fun tg iter ifs z h => andE h fun h0 h => zb5 (P := fun ifs => Bo W C A env ρ υ F _ (.ListComp elt [⟨tg, iter, ifs, z⟩] c p)) h fun q h => and6 h fun _ h2 h3 h4 h5 h => andE h fun h6 h7 =>
  eqF (p := fun z => Bo W C A env ρ υ F _ (.ListComp elt [⟨tg, iter, [q], z⟩] c p)) h0
  (both (zmi H ⟨h2, h3⟩ (beq_iff_eq.mp h4) h5 (zmr cs it H h5) (fun cenv ρ' F' N hF => (sndX cs x (N.here H hF) h6).1) fun cenv ρ' F' N hF => (sndX cs cnd (N.here H hF) h7).2) rfl)
 | .len a => fun sc env vars uv ρ υ F e H h => zdz (P := Bo W C A env ρ υ F _) h fun f as w p h => andE h fun h0 h => nilE (P := fun w => Bo W C A env ρ υ F _ (.Call f as w p)) h0 (zb5 (P := fun as => Bo W C A env ρ υ F _ (.Call f as [] p)) h fun x h => andE h fun h1 h2 => both (sx_len H h1 (sndX cs a H h2).1 h2) rfl)
 | .bytesOf a => fun sc env vars uv ρ υ F e H h => zdz (P := Bo W C A env ρ υ F _) h fun f as w p h => andE h fun h0 h => nilE (P := fun w => Bo W C A env ρ υ F _ (.Call f as w p)) h0 (zb5 (P := fun as => Bo W C A env ρ υ F _ (.Call f as [] p)) h fun x h => andE h fun h1 h2 => both (zlb H h1 (sndX cs a H h2).1 h2) rfl)
 | .tupOf a => fun sc env vars uv ρ υ F e H h => zdz (P := Bo W C A env ρ υ F _) h fun f as w p h => andE h fun h0 h => nilE (P := fun w => Bo W C A env ρ υ F _ (.Call f as w p)) h0 (zb5 (P := fun as => Bo W C A env ρ υ F _ (.Call f as [] p)) h fun x h => andE h fun h1 h2 => both (zox H h1 (sndX cs a H h2).1 h2) rfl)
 | .listOf a => fun sc env vars uv ρ υ F e H h => zdz (P := Bo W C A env ρ υ F _) h fun f as w p h => andE h fun h0 h => nilE (P := fun w => Bo W C A env ρ υ F _ (.Call f as w p)) h0 (zb5 (P := fun as => Bo W C A env ρ υ F _ (.Call f as [] p)) h fun x h => andE h fun h1 h2 => both (zme H h1 (sndX cs a H h2).1 h2) rfl)
 | .barr0 => fun sc env vars uv ρ υ F e H h => zdz (P := Bo W C A env ρ υ F _) h fun f as w p h => and3 h fun h0 h1 h => nilE (P := fun w => Bo W C A env ρ υ F _ (.Call f as w p)) h0 (nilE (P := fun as => Bo W C A env ρ υ F _ (.Call f as [] p)) h1 (both (zo1 H h) rfl))
 | .min a b => fun sc env vars uv ρ υ F e H h => zdz (P := Bo W C A env ρ υ F _) h fun f as w p h => andE h fun h0 h => nilE (P := fun w => Bo W C A env ρ υ F _ (.Call f as w p)) h0 (zk6 (P := fun as => Bo W C A env ρ υ F _ (.Call f as [] p)) h fun x y h => and3 h fun h1 h2 h3 => both (sx_min H h1 (sndX cs a H h2).1 (sndX cs b H h3).1 h2 h3) rfl)
theorem zli (cs : zcd W C r) : (x : Xs) → SndXs W C A r x
 | .nil => fun sc env vars uv ρ υ F es H h => nilE (P := fun es => SL W C A env ρ υ F .nil es) h sl_nil
 | .cons x xs => fun sc env vars uv ρ υ F es H h => zgm (P := fun es => SL W C A env ρ υ F (.cons x xs) es) h fun e es h => andE h fun h1 h2 => zr0 (sndX cs x H h1).1 (zli cs xs H h2)
theorem zmr (cs : zcd W C r) : (x : It) → SndIt W C A r x
 | .r1 a => fun sc env vars uv ρ υ F e H h => zdz (P := SI W C A env ρ υ F _) h fun f as w p h => andE h fun h0 h => nilE (P := fun w => SI W C A env ρ υ F _ (.Call f as w p)) h0 (zb5 (P := fun as => SI W C A env ρ υ F _ (.Call f as [] p)) h fun x h => andE h fun h1 h2 => si_r1 H h1 (sndX cs a H h2).1 h2)
 | .r2 a b => fun sc env vars uv ρ υ F e H h => zdz (P := SI W C A env ρ υ F _) h fun f as w p h => andE h fun h0 h => nilE (P := fun w => SI W C A env ρ υ F _ (.Call f as w p)) h0 (zk6 (P := fun as => SI W C A env ρ υ F _ (.Call f as [] p)) h fun x y h => and3 h fun h1 h2 h3 => si_r2 H h1 (sndX cs a H h2).1 (sndX cs b H h3).1 h2 h3)
 | .seq a => fun sc env vars uv ρ υ F e H h => si_seq (sndX cs a H h).1
end
end
end
section
section
variable {W : Wd} {C : Orc} {A : Around} {sc : Scope} {env : Env} {vars : Vars} {ρ : Loc} {F : Led} {r : Nat}
theorem zii {e : Expr} {g : List Comprehension} {c : Scope} {vp p : Pos} {t : Str} {line : Nat} (b : Blk sc env vars) (h : zb0 sc (.ListComp e g c vp) (.Name t p) = true) : swapsWith (.ListComp e g c vp) (some (.Name t p)) line env = pure true := by
 refine and3 h fun h1 h2 h3 => ?_
 rw [Bool.not_eq_true'] at h3
 rw [beq_iff_eq] at h1
 show (pure (env.blockKind == .function && env.kindOf t == some .local && p.line == vp.line && !(c.names.any fun (n, k) => n == t && (k == .local || k == .cell))) : Sem Bool) = pure true
 have k1 : env.kindOf t = some .local := by rw [← b.eok.scope] at h1; exact h1
 have k2 : env.blockKind = .function := by
  have hk := b.eok.kind
  rw [← b.eok.scope] at hk
  unfold Env.blockKind
  rw [hk]
  rfl
 rw [k1, k2, h2, h3]
 simp
theorem zo3 (H : Fun W A sc env vars F r) (cs : zcd W C r) {i : Nat} {e : X} {two : Bool} {it : It} {t v : Expr} {p : Pos} (h1 : zb4 vars i t = true) (h2 : zb0 sc v t = true) (h3 : chkX sc vars [] (.comp e two it) v = true) : SS W C A env vars F (.assign i (.comp e two it)) (.Assign [t] v p) := by
 obtain ⟨n, cc, np, rfl, hv⟩ := zbh h1
 revert h2
 refine zps (P := fun v => zb0 sc v (.Name n np) = true → SS W C A env vars F _ (.Assign [.Name n np] v p)) h3 fun elt gs c vp h => zb5 (P := fun gs => zb0 sc (.ListComp elt gs c vp) (.Name n np) = true → SS W C A env vars F _ (.Assign [.Name n np] (.ListComp elt gs c vp) p)) h fun ⟨tg, iter, ifs, z⟩ h => andE h fun g0 h => ?_
 obtain rfl := beq_iff_eq.mp g0
 refine andE h fun g h => nilE (P := fun ifs => zb0 sc (.ListComp elt [⟨tg, iter, ifs, 0⟩] c vp) (.Name n np) = true → SS W C A env vars F _ (.Assign [.Name n np] (.ListComp elt [⟨tg, iter, ifs, 0⟩] c vp) p)) g fun h2 => and6 h fun _ c1 c2 g2 g3 g4 => ?_
 have hcv : CV sc c tg two (zcu tg).2 := ⟨c1, c2⟩
 rw [beq_iff_eq] at g2
 refine zg8 H h1 (zii H.blk h2) fun ρ σ s B Q hl c S q E' Q' use hE hU => ?_
 refine zez (emit _) (H.here ρ) hcv g2 g3 (zmr cs it (H.here ρ) g3) zg7 (fun cenv I acc sq N v u k σ' ys s' kk ρ₀ hl hc S' ru hb => ?_) c S q hE (fun hu => by cases hu) (fun u hu st acc s4 C' ns hK ha S4 k4 => by cases hu; exact hU acc _ s4 C' ns (zdg hK ha) S4 k4)
 exact zhl hc hcv N (fun ρ' ys => (sndX cs e (N.here (H.here ρ) fun p hp => List.Mem.tail _ (List.Mem.tail _ hp)) g4).1) hl S' ru hb
theorem zlg (H : Fun W A sc env vars F r) (cs : zcd W C r) {i : Nat} {e cnd : X} {two : Bool} {it : It} {t v : Expr} {p : Pos} (h1 : zb4 vars i t = true) (h2 : zb0 sc v t = true) (h3 : chkX sc vars [] (.compIf e two it cnd) v = true) : SS W C A env vars F (.assign i (.compIf e two it cnd)) (.Assign [t] v p) := by
 obtain ⟨n, cc, np, rfl, hv⟩ := zbh h1
 revert h2
 refine zps (P := fun v => zb0 sc v (.Name n np) = true → SS W C A env vars F _ (.Assign [.Name n np] v p)) h3 fun elt gs c vp h => zb5 (P := fun gs => zb0 sc (.ListComp elt gs c vp) (.Name n np) = true → SS W C A env vars F _ (.Assign [.Name n np] (.ListComp elt gs c vp) p)) h fun ⟨tg, iter, ifs, z⟩ h => andE h fun g0 h => ?_
 obtain rfl := beq_iff_eq.mp g0
 refine zb5 (P := fun ifs => zb0 sc (.ListComp elt [⟨tg, iter, ifs, 0⟩] c vp) (.Name n np) = true → SS W C A env vars F _ (.Assign [.Name n np] (.ListComp elt [⟨tg, iter, ifs, 0⟩] c vp) p)) h fun q h h2 => and7 h fun _ c1 c2 g2 g3 g4 g5 => ?_
 have hcv : CV sc c tg two (zcu tg).2 := ⟨c1, c2⟩
 rw [beq_iff_eq] at g2
 refine zg8 H h1 (zii H.blk h2) fun ρ σ s B Q hl c S q E' Q' use hE hU => ?_
 refine zez (zkz _ _) (H.here ρ) hcv g2 g3 (zmr cs it (H.here ρ) g3) (zmb _) (fun cenv I acc sq N v u k σ' ys s' kk ρ₀ hl hc S' ru hb => ?_) c S q hE (fun hu => by cases hu) (fun u hu st acc s4 C' ns hK ha S4 k4 => by cases hu; exact hU acc _ s4 C' ns (zdg hK ha) S4 k4)
 have hF : ∀ p ∈ act env vars ρ ++ F, p ∈ (I, itOb sq k) :: (acc, Ob.list ys) :: (act env vars ρ ++ F) := fun p hp => List.Mem.tail _ (List.Mem.tail _ hp)
 refine zah (zgo hc.handled hcv N.blk hl S' ru hb fun ρ' s1 z1 z2 S1 k1 => ?_)
 refine zab (zaa ((sndX cs cnd (N.here (ρ' := ρ') (H.here ρ) hF) g5).2 _ s1 _ _ (fun v σ h => let ⟨b, e, _, _⟩ := zbt h; ⟨b, e⟩) (hc.evo k1) S1 z1) (fun b s2 ⟨σ2, S2, k2, q2⟩ => ?_) fun _ _ z => z.no)
 cases b with
 | true =>
  refine zaa (zgn (hc.evo (k1.trans k2)) ((sndX cs e (N.here (ρ' := ρ') (H.here ρ) hF) g4).1) S2 z2 q2) (fun _ s3 ⟨st', ρ₁, a1, a2, a3, a4⟩ => ⟨st', ρ₁, a1, a2, a3, (k1.trans k2).trans a4⟩) fun _ _ z => z
 | false => exact zaj ⟨_, ρ', q2, z2, S2, k1.trans k2⟩
theorem zlh (H : Fun W A sc env vars F r) (cs : zcd W C r) {i : Nat} {x : X} {t v : Expr} {p : Pos} (h1 : zb4 vars i t = true) (h3 : chkX sc vars [] x v = true) (h2 : cond (isXc x) (zb0 sc v t) (!zcx v) = true) : SS W C A env vars F (.assign i x) (.Assign [t] v p) := by
 cases hx : isXc x with
 | false =>
  rw [hx] at h2
  exact zmp H h1 (Bool.not_eq_true' _ ▸ h2) fun ρ _ => (sndX cs x (H.here ρ) h3).1
 | true =>
  rw [hx] at h2
  exact xcE (P := fun x => chkX sc vars [] x v = true → SS W C A env vars F (.assign i x) (.Assign [t] v p)) hx (fun e two it h3 => zo3 H cs h1 h2 h3) (fun e two it c h3 => zlg H cs h1 h2 h3) h3
theorem zqr (b : Blk sc env vars) {t : T} {tg : Expr} (h : tgOk vars t tg = true) : zl4 W A env vars t tg := by
 cases t with
 | one i => exact zoe b h
 | two i j => exact tupE (P := zl4 W A env vars _) h fun l k p h => zk6 (P := fun l => zl4 W A env vars _ (.Tuple l k p)) h fun x y h => and3 h fun h1 h2 _ => zod b h1 h2
set_option maxHeartbeats 2000000 in
mutual
theorem sndS (cs : zcd W C r) : (x : S) → ∀ {F : Led} {st : Stmt}, Fun W A sc env vars F r → chkS sc vars x st = true → SS W C A env vars F x st
 | .assign i e, F, st, H, h => asgE (P := SS W C A env vars F _) h fun l v p h => zb5 (P := fun l => SS W C A env vars F _ (.Assign l v p)) h fun t h => and3 h fun h1 h2 h3 => zlh H cs h1 h2 h3
 | .unpack i j e, F, st, H, h => asgE (P := SS W C A env vars F _) h fun l v p h => zb5 (P := fun l => SS W C A env vars F _ (.Assign l v p)) h fun t h => tupE (P := fun t => SS W C A env vars F _ (.Assign [t] v p)) h fun l k q h => zk6 (P := fun l => SS W C A env vars F _ (.Assign [.Tuple l k q] v p)) h fun t u h => and4 h fun h1 h2 h3 h => andE h fun h4 h5 =>
  zmm H h1 h2 ((Bool.not_eq_true' _).mp h3) ((Bool.not_eq_true' _).mp h4) fun ρ _ => (sndX cs e (H.here ρ) h5).1
 | .setAttr o a e, F, st, H, h => asgE (P := SS W C A env vars F _) h fun l v p h => zb5 (P := fun l => SS W C A env vars F _ (.Assign l v p)) h fun t h => zif (P := fun t => SS W C A env vars F _ (.Assign [t] v p)) h fun w n q h => and4 h fun h1 h2 h3 h => andE h fun h4 h5 =>
  zld H (beq_iff_eq.mp h1) (of_decide_eq_true h2) ((Bool.not_eq_true' _).mp h3) (fun ρ _ => (sndX cs o (H.here ρ) h4).1) fun ρ _ => (sndX cs e (H.here ρ) h5).1
 | .setIdx o i e, F, st, H, h => asgE (P := SS W C A env vars F _) h fun l v p h => zb5 (P := fun l => SS W C A env vars F _ (.Assign l v p)) h fun t h => subE (P := fun t => SS W C A env vars F _ (.Assign [t] v p)) h fun w k q h => and3 h fun h1 h2 h => andE h fun h3 h4 =>
  zmn ((Bool.not_eq_true' _).mp h1) (fun ρ _ => (sndX cs o (H.here ρ) h2).1) (fun ρ _ => (sndX cs i (H.here ρ) h3).1) fun ρ _ => (sndX cs e (H.here ρ) h4).1
 | .aug i o e, F, st, H, h => augE (P := SS W C A env vars F _) h fun t op v p h => and3 h fun h1 h2 h3 => eqF (p := fun op => SS W C A env vars F _ (.AugAssign t op v p)) h2 (let ⟨_, _, _, e', _⟩ := zbh h1
  by subst e'; exact ss_aug H h1 fun ρ _ => (sndX cs e (H.here ρ) h3).1)
 | .augAttr i a o e, F, st, H, h => augE (P := SS W C A env vars F _) h fun t op v p h => zif (P := fun t => SS W C A env vars F _ (.AugAssign t op v p)) h fun w n q h => and5 h fun h1 h2 h3 h4 h5 => eqF (p := fun op => SS W C A env vars F _ (.AugAssign _ op v p)) h4
  (zlf H h1 (beq_iff_eq.mp h2) (of_decide_eq_true h3) fun ρ _ => (sndX cs e (H.here ρ) h5).1)
 | .expr e, F, st, H, h => exE (P := SS W C A env vars F _) h fun v p h => andE h fun h1 h2 => zmo H ((Bool.not_eq_true' _).mp h1) fun ρ _ => (sndX cs e (H.here ρ) h2).1
 | .ret e, F, st, H, h => retE (P := SS W C A env vars F _) h fun o p h => zjl (P := fun o => SS W C A env vars F _ (.Return o p)) h fun v h => ss_ret fun ρ _ => (sndX cs e (H.here ρ) h).1
 | .retNone, F, st, H, h => retE (P := SS W C A env vars F _) h fun o p h => zln (P := fun o => SS W C A env vars F _ (.Return o p)) h zle
 | .ite c a b, F, st, H, h => iteE (P := SS W C A env vars F _) h fun t x y p h => and3 h fun h1 h2 h3 => ss_ite (fun ρ _ => (sndX cs c (H.here ρ) h1).2) (zlj cs a H h2) (zlj cs b H h3)
 | .loop c b, F, st, H, h => whileE (P := SS W C A env vars F _) h fun t x y p h => and3 h fun h0 h1 h2 => nilE (P := fun y => SS W C A env vars F _ (.While t x y p)) h0 (zry H (fun ρ _ => (sndX cs c (H.here ρ) h1).2) (zlj cs b H h2))
 | .each t it b, F, st, H, h => forE (P := SS W C A env vars F _) h fun tg iter x y p h => and3 h fun h0 h1 h => nilE (P := fun y => SS W C A env vars F _ (.For tg iter x y p)) h0 (andE h fun h2 h3 =>
  zrz H h2 (zqr H.blk h1) (fun ρ _ => zmr cs it (H.here ρ) h2) fun c => zlj cs b H.grow h3)
 | .raise ps, F, st, H, h => raiseE (P := SS W C A env vars F _) h fun a b p h => andE h fun h0 h => zln (P := fun b => SS W C A env vars F _ (.Raise a b p)) h0 (zjl (P := fun a => SS W C A env vars F _ (.Raise a none p)) h fun e h => zdz (P := fun e => SS W C A env vars F _ (.Raise (some e) none p)) h fun f as w q h => andE h fun h0 h =>
  nilE (P := fun w => SS W C A env vars F _ (.Raise (some (.Call f as w q)) none p)) h0 (zb5 (P := fun as => SS W C A env vars F _ (.Raise (some (.Call f as [] q)) none p)) h fun j h => joinE (P := fun j => SS W C A env vars F _ (.Raise (some (.Call f [j] [] q)) none p)) h fun es jp h =>
  and4 h fun h1 h2 h3 h4 => zo2 H h1 h2 (of_decide_eq_true h3) (of_decide_eq_true h4)))
 | .tryBad e, F, st, H, h => tryE (P := SS W C A env vars F _) h fun a b c d p h => and3 h fun h0 h9 h => nilE (P := fun c => SS W C A env vars F _ (.Try a b c d p)) h0 (nilE (P := fun d => SS W C A env vars F _ (.Try a b [] d p)) h9 (zb5 (P := fun a => SS W C A env vars F _ (.Try a b [] [] p)) h fun st h =>
  exE (P := fun st => SS W C A env vars F _ (.Try [st] b [] [] p)) h fun v pe h => zb5 (P := fun b => SS W C A env vars F _ (.Try _ b [] [] p)) h fun ⟨o, n, bd, hp⟩ h => andE h fun h0 h => zln (P := fun n => SS W C A env vars F _ (.Try _ [.ExceptHandler o n bd hp] [] [] p)) h0 (zjl (P := fun o => SS W C A env vars F _ (.Try _ [.ExceptHandler o none bd hp] [] [] p)) h fun t h =>
  zb5 (P := fun bd => SS W C A env vars F _ (.Try _ [.ExceptHandler _ none bd hp] [] [] p)) h fun st h => retE (P := fun st => SS W C A env vars F _ (.Try _ [.ExceptHandler _ none [st] hp] [] [] p)) h fun o q h => zjl (P := fun o => SS W C A env vars F _ (.Try _ [.ExceptHandler _ none [.Return o q] hp] [] [] p)) h fun w h =>
  cstE (P := fun w => SS W C A env vars F _ (.Try _ [.ExceptHandler _ none [.Return (some w) q] hp] [] [] p)) h fun c k pc h => andE h fun h1 h => eqF (p := fun c => SS W C A env vars F _ (.Try _ [.ExceptHandler _ none [.Return (some (.Constant c k pc)) q] hp] [] [] p)) h1 (andE h fun h2 h => andE h fun h3 h4 =>
  ss_try H h2 ((Bool.not_eq_true' _).mp h3) fun ρ _ => (sndX cs e (H.here ρ) h4).1))))
 | .dead, F, st, H, h => fun ρ σ s B N R _ _ _ q => q.elim
theorem zlj (cs : zcd W C r) : (x : Ss) → ∀ {F : Led} {st : List Stmt}, Fun W A sc env vars F r → zi1 sc vars x st = true → SSs W C A env vars F x st
 | .nil, F, st, H, h => nilE (P := fun st => SSs W C A env vars F .nil st) h zml
 | .cons x xs, F, st, H, h => zgm (P := fun st => SSs W C A env vars F (.cons x xs) st) h fun s st h => andE h fun h1 h2 => zkj (sndS cs x H h1) (zlj cs xs H h2)
end
end
end
section
theorem zfd : ∀ {ns : List Str} {vs : List Value} {n : Str}, n ∈ ns.take vs.length → ((ns.zip vs).lookup n).isSome = true
 | [], vs, n, h => by simp at h
 | m :: ns, [], n, h => by simp at h
 | m :: ns, v :: vs, n, h => by
  rw [List.zip_cons_cons, List.lookup_cons]
  cases e : n == m with
  | true => rfl
  | false =>
   rw [List.length_cons, List.take_succ_cons] at h
   rcases List.mem_cons.mp h with rfl | h
   ·simp at e
   ·exact zfd h
theorem zed {α β : Type} {f g : α → Option β} : ∀ {l : List α}, (∀ x ∈ l, f x = g x) → l.filterMap f = l.filterMap g
 | [], _ => rfl
 | x :: r, h => by
  rw [List.filterMap_cons, List.filterMap_cons, h x List.mem_cons_self, zed fun y hy => h y (List.mem_cons_of_mem _ hy)]
theorem ziy : ∀ {l : List (Str × Value)}, (l.map (·.1)).Nodup → (l.map (·.1)).filterMap (fun n => (l.lookup n).map (n, ·)) = l
 | [], _ => rfl
 | (m, v) :: r, nd => by
  rw [List.map_cons, List.nodup_cons] at nd
  rw [List.map_cons, List.filterMap_cons, List.lookup_cons]
  simp only [beq_self_eq_true, Option.map_some]
  congr 1
  refine Eq.trans ?_ (ziy nd.2)
  refine zed fun n hn => ?_
  rw [List.lookup_cons]
  cases e : n == m with
  | true => exact absurd (beq_iff_eq.mp e ▸ hn) nd.1
  | false => rfl
theorem ze6 {ns : List Str} {vs : List Value} (h : vs.length = ns.length) : (ns.zip vs).map (·.1) = ns := List.map_fst_zip (Nat.le_of_eq h.symm)
theorem zih {ns : List Str} {vs : List Value} {k : Nat} (h : k ≤ vs.length) : ((ns.take k).filter fun n => ((ns.zip vs).lookup n).isNone) = [] := by
 rw [List.filter_eq_nil_iff]
 intro n hn
 have hn' : n ∈ ns.take vs.length := by
  have : ns.take k = (ns.take vs.length).take k := by rw [List.take_take, Nat.min_eq_left h]
  rw [this] at hn
  exact List.mem_of_mem_take hn
 have := zfd hn'
 cases hq : (ns.zip vs).lookup n with
 | none => rw [hq] at this; cases this
 | some v => simp
section
variable {M : Model} {A : Around} {E : Value → Shared → Prop} {s : Shared}
theorem wpif {α : Type} {c : Prop} [Decidable c] {a b : Sem α} {Q : α → Shared → Prop} (h : ¬ c) (k : wpAny M A b Q E s) : wpAny M A (ite c a b) Q E s := by rw [if_neg h]; exact k
noncomputable def bk (e1 e2 : Sem (List (Str × Value))) (ns : List Str) (vs : List Value) (D : List Value) : Sem (List (Str × Value)) :=
 if (decide (vs.length > ns.length) && true) = true then e1
 else if (!((ns.take (ns.length - (D.drop (D.length - ns.length)).length)).filter fun n => ((ns.zip vs).lookup n).isNone).isEmpty) = true then e2
 else forIn ((ns.drop (ns.length - (D.drop (D.length - ns.length)).length)).zip (D.drop (D.length - ns.length))) (ns.zip vs) (fun x l => if (l.lookup x.1).isNone = true then pure (.yield (l ++ [(x.1, x.2)])) else pure (.yield l)) >>= fun l => pure ((ns ++ []).filterMap fun n => (l.lookup n).map (n, ·))
theorem zlx (fd : FuncData) (as : List Arg) (kd : List (Option Expr)) (ds : List Expr) (vs : List Value) : ∃ e1 e2 : Option (Array Value) → Sem (List (Str × Value)),
  bindArgs { fd with params := ⟨[], as, none, [], kd, none, ds⟩ } ⟨vs, []⟩ = seqItems? fd.defaults >>= fun D => bk (e1 D) (e2 D) (as.map (·.arg)) vs (D.getD #[]).toList := ⟨_, _, rfl⟩
theorem zt4 {e1 e2 : Sem (List (Str × Value))} {ns : List Str} {vs : List Value} {D d : List Value} {k : Nat} {w : List (Str × Value)} {Q : List (Str × Value) → Shared → Prop} (hle : vs.length ≤ ns.length) (hd : D.drop (D.length - ns.length) = d) (hk : ns.length - d.length = k) (hm : k ≤ vs.length)
  (hf : forIn ((ns.drop k).zip d) (ns.zip vs) (fun x l => if (l.lookup x.1).isNone = true then (pure (.yield (l ++ [(x.1, x.2)])) : Sem (ForInStep (List (Str × Value)))) else pure (.yield l)) = pure w)
  (hw : w.map (·.1) = ns) (nd : ns.Nodup) (q : Q w s) : wpAny M A (bk e1 e2 ns vs D) Q E s := by
 subst hd hk
 unfold bk
 refine wpif (by rw [Bool.and_true]; exact fun h => Nat.not_lt.mpr hle (of_decide_eq_true h)) (wpif (by rw [zih hm]; exact Bool.false_ne_true) ?_)
 rw [hf]
 refine wpAny_pure ?_
 subst hw
 rw [List.append_nil, ziy nd]
 exact q
theorem bk_two {e1 e2 : Sem (List (Str × Value))} {ns : List Str} {vs : List Value} {v : Value} {Q : List (Str × Value) → Shared → Prop} (nd : ns.Nodup) (hne : ns ≠ []) (h : vs.length = ns.length ∧ Q (ns.zip vs) s ∨ vs.length + 1 = ns.length ∧ Q (ns.zip (vs ++ [v])) s) : wpAny M A (bk e1 e2 ns vs [v]) Q E s := by
 obtain ⟨ini, last, rfl⟩ : Ex2 fun ini last => ns = ini ++ [last] := ⟨ns.dropLast, ns.getLast hne, (List.dropLast_concat_getLast hne).symm⟩
 have hn : (ini ++ [last]).length = ini.length + 1 := List.length_append
 have hd : [v].drop ([v].length - (ini ++ [last]).length) = [v] := by rw [hn]; exact congrArg (fun k => [v].drop k) (Nat.sub_eq_zero_of_le (Nat.le_add_left 1 _))
 have hk : (ini ++ [last]).length - [v].length = ini.length := by rw [hn]; rfl
 have hr : (ini ++ [last]).drop ini.length = [last] := List.drop_left
 rcases h with ⟨hl, q⟩ | ⟨hl, q⟩
 ·have hs := zfd (ns := ini ++ [last]) (vs := vs) (n := last) (by rw [hl, List.take_length]; exact List.mem_append_right _ List.mem_cons_self)
  refine zt4 (Nat.le_of_eq hl) hd hk (by rw [hl, hn]; exact Nat.le_succ _) (w := (ini ++ [last]).zip vs) ?_ (ze6 hl) nd q
  rw [hr]
  show (if (((ini ++ [last]).zip vs).lookup last).isNone = true then (pure (.yield _) : Sem (ForInStep (List (Str × Value)))) else pure (.yield _)) >>= _ = _
  rw [if_neg (by rw [Option.isNone_iff_eq_none]; intro z; rw [z] at hs; cases hs)]
  rfl
 ·have hl : vs.length = ini.length := Nat.succ.inj (hl.trans hn)
  have hz : (ini ++ [last]).zip vs = ini.zip vs := by
   have := List.zip_append (l₁ := ini) (l₂ := vs) (r₁ := [last]) (r₂ := []) hl.symm
   rw [List.append_nil, List.zip_nil_right, List.append_nil] at this
   exact this
  have hz2 : (ini ++ [last]).zip (vs ++ [v]) = ini.zip vs ++ [(last, v)] := List.zip_append hl.symm
  refine zt4 (by rw [hl, hn]; exact Nat.le_succ _) hd hk (Nat.le_of_eq hl.symm) (w := (ini ++ [last]).zip (vs ++ [v])) ?_ (ze6 (by rw [hn, List.length_append, hl]; rfl)) nd q
  rw [hr, hz2, hz]
  show (if ((ini.zip vs).lookup last).isNone = true then (pure (.yield _) : Sem (ForInStep (List (Str × Value)))) else pure (.yield _)) >>= _ = _
  rw [if_pos (by
   cases z : (ini.zip vs).lookup last with
   | none => rfl
   | some w =>
    have := List.mem_map_of_mem (f := (·.1)) (mem_of_lookup z)
    rw [ze6 hl] at this
    exact absurd rfl ((List.nodup_append.mp nd).2.2 last this last List.mem_cons_self))]
  rfl
theorem zly {fd : FuncData} {vals : List Value} {Q : List (Str × Value) → Shared → Prop} {ns : List Str} (h1 : fd.params.posonlyargs = []) (h2 : fd.params.vararg = none) (h3 : fd.params.kwonlyargs = []) (h4 : fd.params.kwarg = none)
  (h5 : fd.params.args.map (·.arg) = ns) (nd : ns.Nodup)
  (h : (vals.length = ns.length ∧ (fd.defaults = .none ∨ (ns ≠ [] ∧ Ex2 fun a v => fd.defaults = .ref a ∧ IsTup s.heap a #[v])) ∧ Q (ns.zip vals) s) ∨
   (Ex2 fun a v => A4 (vals.length + 1 = ns.length) (fd.defaults = .ref a) (IsTup s.heap a #[v]) (Q (ns.zip (vals ++ [v])) s))) : wpAny M A (bindArgs fd ⟨vals, []⟩) Q E s := by
 have hp : fd.params = ⟨[], fd.params.args, none, [], fd.params.kw_defaults, none, fd.params.defaults⟩ := by
  generalize fd.params = P at *
  cases P
  cases h1
  cases h2
  cases h3
  cases h4
  rfl
 have e : fd = { fd with params := ⟨[], fd.params.args, none, [], fd.params.kw_defaults, none, fd.params.defaults⟩ } := by rw [← hp]
 obtain ⟨e1, e2, z⟩ := zlx fd fd.params.args fd.params.kw_defaults fd.params.defaults vals
 rw [congrArg (bindArgs · ⟨vals, []⟩) e, z, h5]
 have got : ∀ a v, fd.defaults = .ref a → IsTup s.heap a #[v] → ns ≠ [] → (vals.length = ns.length ∧ Q (ns.zip vals) s ∨ vals.length + 1 = ns.length ∧ Q (ns.zip (vals ++ [v])) s) → wpAny M A (seqItems? fd.defaults >>= fun D => bk (e1 D) (e2 D) ns vals (D.getD #[]).toList) Q E s := fun a v e ⟨o, ho, _, n, hd⟩ hn z => by
  rw [e]
  exact wpAny_bind (wpAny_seqItems ho hd (bk_two nd hn z))
 rcases h with ⟨hl, hd | ⟨hne, a, v, e, ht⟩, q⟩ | ⟨a, v, hl, e, ht, q⟩
 ·rw [hd]
  have : (seqItems? .none : Sem (Option (Array Value))) = pure none := by first | rfl | (unfold seqItems?; rfl)
  rw [this]
  exact wpAny_bind (wpAny_pure (zt4 (D := []) (d := []) (k := ns.length) (Nat.le_of_eq hl) List.drop_nil rfl (Nat.le_of_eq hl.symm) (by rw [List.zip_nil_right]; rfl) (ze6 hl) nd q))
 ·exact got a v e ht hne (.inl ⟨hl, q⟩)
 ·exact got a v e ht (fun z => by rw [z] at hl; cases hl) (.inr ⟨hl, q⟩)
end
end
section
theorem zi8 {k : Str → Option NameKind} : ∀ {l : List (Str × Value)} {m : Str → Option Value} {x : Str}, x ∉ l.map (·.1) → bindL k l m x = m x
 | [], _, _, _ => rfl
 | (n, v) :: r, m, x, h => by
  rw [List.map_cons, List.mem_cons, not_or] at h
  unfold bindL
  rw [zi8 h.2]
  split
  ·show (if x = n then some v else m x) = m x
   exact if_neg h.1
  ·rfl
theorem zi9 {k : Str → Option NameKind} : ∀ {l : List (Str × Value)} {m : Str → Option Value} {x : Str} {v : Value}, (l.map (·.1)).Nodup → (x, v) ∈ l → k x = some .local → bindL k l m x = some v
 | (n, w) :: r, m, x, v, nd, hm, hk => by
  rw [List.map_cons, List.nodup_cons] at nd
  unfold bindL
  rcases List.mem_cons.mp hm with e | hm
  ·cases e
   rw [zi8 nd.1, if_pos hk, if_pos rfl]
  ·exact zi9 nd.2 hm hk
theorem zja {k : Str → Option NameKind} : ∀ {l : List (Str × Value)} {m : Str → Option Value} {x : Str}, x ∉ l.map (·.1) → bindC k l m x = m x
 | [], _, _, _ => rfl
 | (n, v) :: r, m, x, h => by
  rw [List.map_cons, List.mem_cons, not_or] at h
  unfold bindC
  rw [zja h.2]
  split
  ·rfl
  ·show (if x = n then some v else m x) = m x
   exact if_neg h.1
theorem zjb {k : Str → Option NameKind} : ∀ {l : List (Str × Value)} {m : Str → Option Value} {x : Str} {v : Value}, (l.map (·.1)).Nodup → (x, v) ∈ l → k x ≠ some .local → bindC k l m x = some v
 | (n, w) :: r, m, x, v, nd, hm, hk => by
  rw [List.map_cons, List.nodup_cons] at nd
  unfold bindC
  rcases List.mem_cons.mp hm with e | hm
  ·cases e
   rw [zja nd.1, if_neg hk, if_pos rfl]
  ·exact zjb nd.2 hm hk
theorem zbf : ∀ (names : List (Str × NameKind)) (n : Nat) (acc : List (Str × Addr)) (x : Str), ((acc.lookup x).isSome = true ∨ names.lookup x = some .cell) → ((cellsFrom n names acc).lookup x).isSome = true
 | [], _, _, _, h => by
  rcases h with h | h
  ·exact h
  ·cases h
 | (m, kind) :: r, n, acc, x, h => by
  unfold cellsFrom
  have acc' : ∀ a : Addr, (acc.lookup x).isSome = true → (((m, a) :: acc).lookup x).isSome = true := fun a ha => by
   rw [List.lookup_cons]
   cases x == m <;> first | exact ha | rfl
  rcases h with h | h
  ·split
   ·exact zbf r _ _ x (.inl (acc' _ h))
   ·exact zbf r _ _ x (.inl h)
  ·rw [List.lookup_cons] at h
   cases e : x == m with
   | true =>
    rw [e] at h
    cases h
    rw [if_pos (by decide)]
    refine zbf r _ _ x (.inl ?_)
    rw [List.lookup_cons, e]; rfl
   | false =>
    rw [e] at h
    split
    ·exact zbf r _ _ x (.inr h)
    ·exact zbf r _ _ x (.inr h)
theorem zib {cs : List (Str × Addr)} (ap : cs.Pairwise fun x y => x.2 ≠ y.2) {vars : Vars} {ρ : Loc} (nd : (vars.map (·.1)).Nodup) (hs : ∀ x, (x, true) ∈ vars → ∃ a, cs.lookup x = some a) : ((zbq cs vars ρ).map (·.1)).Nodup := by
 induction vars generalizing ρ with
 | nil => exact List.nodup_nil
 | cons d vs ih =>
  cases ρ with
  | nil => exact List.nodup_nil
  | cons w ρ =>
   rw [List.map_cons, List.nodup_cons] at nd
   have ih := ih (ρ := ρ) nd.2 fun x hx => hs x (List.mem_cons_of_mem _ hx)
   obtain ⟨y, c⟩ := d
   cases c with
   | false => exact ih
   | true =>
    refine List.nodup_cons.mpr ⟨fun hm => ?_, ih⟩
    obtain ⟨p, hp, e⟩ := List.mem_map.mp hm
    obtain ⟨i, x, o, h1, h2, rfl⟩ := zd8 hp
    obtain ⟨a, ha⟩ := hs y List.mem_cons_self
    have hx := List.mem_of_getElem? h1
    obtain ⟨b, hb⟩ := hs x (List.mem_cons_of_mem _ hx)
    have e' : (cs.lookup x).getD 0 = (cs.lookup y).getD 0 := e
    rw [ha, hb, Option.getD_some, Option.getD_some] at e'
    subst e'
    have := name_of_addr ap (mem_of_lookup ha) (mem_of_lookup hb)
    subst this
    exact nd.1 (List.mem_map.mpr ⟨_, hx, rfl⟩)
section
variable {W : Wd} {F : Led} {σ : Sto} {s s' : Shared}
theorem St.allocs {nl : Led} (S : St W F σ s) (k : Ext s.heap s'.heap) (nd : (nl.map (·.1)).Nodup) (hf : ∀ p ∈ nl, s.heap.get? p.1 = none) (hd : ∀ p ∈ nl, Den W s'.heap p.1 p.2) (hg : s'.gens = s.gens) (ho : s'.os = s.os) : St W (nl ++ F) σ s' := by
 obtain ⟨led, dd, x, y, z⟩ := S.ex
 have T := x.ext k hg ho
 refine ⟨led, dd, ⟨T.keep, ?_, fun p hp => ?_, fun p hp => ?_, T.gens, T.os⟩, y, z⟩
 ·rw [List.append_assoc, List.map_append]
  refine List.nodup_append.mpr ⟨nd, T.nd, fun a ha b hb e => ?_⟩
  subst e
  obtain ⟨p, hp, e1⟩ := List.mem_map.mp ha
  obtain ⟨q, hq, e2⟩ := List.mem_map.mp hb
  obtain ⟨o, ho⟩ := (x.den q hq).there
  rw [e2, ← e1, hf p hp] at ho; cases ho
 ·rw [List.append_assoc] at hp
  rcases List.mem_append.mp hp with hp | hp
  ·exact hd p hp
  ·exact T.den p hp
 ·rw [List.append_assoc] at hp
  rcases List.mem_append.mp hp with hp | hp
  ·cases q : W.h₀.get? p.1 with
   | none => rfl
   | some o => have := x.keep _ o q; rw [hf p hp] at this; cases this
  ·exact T.new p hp
end
end
section
section
variable {W : Wd} {F : Led} {σ : Sto} {s s' : Shared} {A : Around}
set_option tactic.hygienic true in
theorem zt5 {f : Fn} {vs : List Va} {ρ : Loc} (h : f.bind vs = some ρ) (hnp : f.np ≤ f.vars.length) : ∃ (as : List Va), A4 (as.length = f.np) (ρ = as.map some ++ List.replicate (f.vars.length - f.np) none) (ρ.length = f.vars.length) ((as = vs ∨ (as = vs ++ f.dflt ∧ vs.length ≠ f.np))) := by
 unfold Fn.bind at h
 split at h
 ·rename_i e; cases h; exact ⟨vs, e, rfl, by simp; lia, .inl rfl⟩
 ·rename_i ne
  split at h
  ·rename_i e; cases h; exact ⟨vs ++ f.dflt, by simp; exact Nat.le_antisymm (Nat.le_of_eq e) (Nat.le_of_eq e.symm), rfl, by simp; lia, .inr ⟨rfl, ne⟩⟩
  ·cases h
theorem zra {as : List Va} {n : Nat} {i : Nat} {v : Va} (h : (as.map some ++ List.replicate n (none : Option Va))[i]? = some (some v)) : as[i]? = some v := by
 rw [List.getElem?_append] at h
 split at h
 ·rw [List.getElem?_map] at h
  cases q : as[i]? with
  | none => rw [q] at h; cases h
  | some w => rw [q] at h; cases h; rfl
 ·rw [List.getElem?_replicate] at h
  split at h <;> cases h
theorem znx {vars : Vars} {np : Nat} {as : List Va} {vals : List Value} {env : Env} {sc : Scope} (S : St W F σ s) (rv : RvL s.heap as vals) (hnp : np ≤ vars.length) (hl : as.length = np)
  (b : Blk sc env vars) (hL : env.locals = s.heap.objs.size) (x : InCallC s env.locals (bindL env.kindOf (((vars.take np).map (·.1)).zip vals) fun _ => none) env.cells (bindC env.kindOf (((vars.take np).map (·.1)).zip vals) fun _ => none) s') :
  St W (act env vars (as.map some ++ List.replicate (vars.length - np) none) ++ F) σ s' ∧ Ext s.heap s'.heap := by
 have keep : Ext s.heap s'.heap := fun b o e => x.toInCall.keep b o e
 obtain ⟨hh, tk, hs⟩ := x.toInCall.same
 have hvl := rv.len
 have hns : (((vars.take np).map (·.1)).zip vals).map (·.1) = (vars.take np).map (·.1) := ze6 (by simp; lia)
 have ndp : ((((vars.take np).map (·.1)).zip vals).map (·.1)).Nodup := by
  rw [hns]
  exact b.nd.sublist ((List.take_sublist _ _).map _)
 -- a parameter's value
 have par : ∀ {i : Nat} {y : Str} {c : Bool} {v : Va}, vars[i]? = some (y, c) → as[i]? = some v → ∃ w, (y, w) ∈ ((vars.take np).map (·.1)).zip vals ∧ Rv s.heap v w := fun {i y c v} h1 h2 => by
  obtain ⟨w, h3, h4⟩ := rv.get h2
  refine ⟨w, ?_, h4⟩
  have hi : i < np := by rw [← hl]; exact (List.getElem?_eq_some_iff.mp h2).1
  refine List.mem_of_getElem? (i := i) ?_
  rw [List.getElem?_zip_eq_some]
  refine ⟨?_, h3⟩
  rw [List.getElem?_map, List.getElem?_take_of_lt hi, h1]; rfl
 have free : ∀ a, s.heap.objs.size ≤ a → s.heap.get? a = none := fun a ha => Heap.get?_none_of_le ha
 have cell : ∀ y, (y, true) ∈ vars → ∃ a, env.cells.lookup y = some a := fun y hy => by
  obtain ⟨i, hi⟩ := List.getElem?_of_mem hy
  obtain ⟨hk, _⟩ := zbm b.vok hi
  exact b.cok y hk
 refine ⟨S.allocs keep ?_ (fun p hp => ?_) (fun p hp => ?_) (by rw [hs]) (by rw [hs]), keep⟩
 ·unfold act
  rw [List.map_cons, List.nodup_cons]
  refine ⟨fun hm => ?_, zib x.apart b.nd cell⟩
  obtain ⟨p, hp, e⟩ := List.mem_map.mp hm
  obtain ⟨i, y, o, h1, _, rfl⟩ := zd8 hp
  obtain ⟨a, ha⟩ := cell y (List.mem_of_getElem? h1)
  have e' : (env.cells.lookup y).getD 0 = env.locals := e
  rw [ha, Option.getD_some] at e'
  have := x.above y a (mem_of_lookup ha)
  rw [e'] at this
  exact absurd this (Nat.lt_irrefl _)
 ·refine free _ ?_
  unfold act at hp
  rcases List.mem_cons.mp hp with rfl | hp
  ·rw [← hL]; exact Nat.le_refl _
  ·obtain ⟨i, y, o, h1, _, rfl⟩ := zd8 hp
   obtain ⟨a, ha⟩ := cell y (List.mem_of_getElem? h1)
   have := x.above y a (mem_of_lookup ha)
   show s.heap.objs.size ≤ (env.cells.lookup y).getD 0
   rw [ha, Option.getD_some]
   rw [hL] at this
   exact Nat.le_of_lt this
 ·unfold act at hp
  rcases List.mem_cons.mp hp with rfl | hp
  ·refine ⟨_, x.toInCall.ns, fun y v hm => ?_⟩
   obtain ⟨i, h1, h2⟩ := zjq hm
   obtain ⟨w, h3, h4⟩ := par h1 (zra h2)
   obtain ⟨hk, _⟩ := zbm b.vok h1
   have hk' : env.kindOf y = some .local := by rw [← b.eok.scope] at hk; exact hk
   exact ⟨w, zi9 ndp h3 hk', h4.evo keep.evo⟩
  ·obtain ⟨i, y, o, h1, h2, rfl⟩ := zd8 hp
   obtain ⟨a, ha⟩ := cell y (List.mem_of_getElem? h1)
   show Den W s'.heap ((env.cells.lookup y).getD 0) (.cell o)
   rw [ha, Option.getD_some]
   refine ⟨_, x.cell y a ha, fun v e => ?_⟩
   subst e
   obtain ⟨w, h3, h4⟩ := par h1 (zra h2)
   obtain ⟨hk, _⟩ := zbm b.vok h1
   have hk' : env.kindOf y = some .cell := by rw [← b.eok.scope] at hk; exact hk
   exact ⟨w, zjb ndp h3 (by rw [hk']; decide), h4.evo keep.evo⟩
end
end
section
section
variable {W : Wd} {C : Orc} {F : Led} {σ : Sto} {s s' s₀ : Shared} {A : Around} {B : BP} {Q : QP}
structure FnOk (f : Fn) (fd : FuncData) (body : List Stmt) : Prop where
 glob : fd.globals = mainGlobals
 clo : fd.closure = []
 blt : fd.builtins = builtinsNs
 kind : fd.scope.kind = .function
 gen : fd.scope.isGenerator = false
 co : fd.scope.isCoroutine = false
 vok : zen fd.scope f.vars = true
 pos : fd.params.posonlyargs = []
 va : fd.params.vararg = none
 kwo : fd.params.kwonlyargs = []
 kw : fd.params.kwarg = none
 names : fd.params.args.map (·.arg) = (f.vars.take f.np).map (·.1)
 np : f.np ≤ f.vars.length
 src : fd.body = .stmts body
 chk : zi1 fd.scope f.vars f.body body = true
 nd : (f.vars.map (·.1)).Nodup
theorem zh3 {l : List Str} : l.eraseDups.length ≤ l.length := by
 generalize h : l.length = n
 induction n using Nat.strongRecOn generalizing l with
 | ind n ih =>
  cases l with
  | nil => exact Nat.zero_le _
  | cons x l =>
   have h2 : (l.filter fun b => !b == x).length ≤ l.length := List.length_filter_le _ _
   rw [List.length_cons] at h
   rw [List.eraseDups_cons, List.length_cons, ← h]
   exact Nat.succ_le_succ (Nat.le_trans (ih _ (by exact Nat.lt_of_le_of_lt h2 (Nat.lt_of_lt_of_le (Nat.lt_add_of_pos_right (by decide)) (Nat.le_of_eq h))) rfl) h2)
theorem zes : ∀ {l : List Str}, l.eraseDups.length = l.length → l.Nodup
 | [], _ => List.nodup_nil
 | x :: l, h => by
  rw [List.eraseDups_cons, List.length_cons, List.length_cons] at h
  have h1 := zh3 (l := l.filter fun b => !b == x)
  have h2 : (l.filter fun b => !b == x).length ≤ l.length := List.length_filter_le _ _
  have h3 : (l.filter fun b => !b == x).length = l.length := by lia -abstractProof
  have h4 : (l.filter fun b => !b == x) = l := List.filter_sublist.eq_of_length h3
  rw [h4] at h
  rw [List.nodup_cons]
  refine ⟨fun hm => ?_, zes (by lia -abstractProof)⟩
  rw [← h4] at hm
  have := (List.mem_filter.mp hm).2
  simp at this
set_option tactic.hygienic true in
theorem fnOk {f : Fn} {fd : FuncData} (h : zpw f fd = true) : ∃ body, FnOk f fd body := by
 unfold zpw at h
 simp only [Bool.and_eq_true, beq_iff_eq, Bool.not_eq_true', List.isEmpty_iff, Option.isNone_iff_eq_none, decide_eq_true_eq] at h
 obtain ⟨⟨⟨⟨⟨⟨⟨⟨⟨⟨⟨⟨⟨⟨⟨h1, h2⟩, h3⟩, h4⟩, h5⟩, h6⟩, h7⟩, h8⟩, h9⟩, h10⟩, h11⟩, h12⟩, h13⟩, h14⟩, h15⟩, h16⟩ := h
 split at h14 <;> first | cases h14 | skip
 rename_i body hb
 exact ⟨body, h1, h2, h3, h4, h5, h6, h7, h8, h9, h10, h11, h12, h13, hb, h14, zes (h16.trans (by simp))⟩
theorem zng {sc : Scope} {env : Env} {vars : Vars} {ρ : Loc} {r : Nat} {v : Value} {Q : Unit → Shared → Prop} {E : Value → Shared → Prop} (H : Fun W A sc env vars F r) (c : Ctx W A s.heap) (S : St W (act env vars ρ ++ F) σ s) (x : zl2 W env.frame v s.heap)
  (q : ∀ ex s', v = .ref ex → ExAt W ex .none s'.heap → St W (act env vars ρ ++ F) σ s' → Evo s.heap s'.heap → Q () s') : wpAny W.M A (leaving env v) Q E s := by
 unfold leaving
 refine wpAny_bind (zht H c S x fun ex s1 e x1 S1 k1 => ?_)
 subst e
 exact zd5 (to := none) S1 x1 fun s2 x2 S2 k2 => q ex s2 rfl x2 S2 (k1.trans k2)
theorem St.dropAct {env : Env} {vars : Vars} {ρ : Loc} (S : St W (act env vars ρ ++ F) σ s) : St W F σ s := S.sub (List.sublist_append_right _ _)
theorem zrl {body : List Stmt} {env : Env} {R : Result → Shared → Prop}
  (h : wc W.M (A.deeper env) (execs body env) (fun f s' => R (.ok (.ret (match f with | .ret v => v | _ => .none))) s')
   (fun e s' => wpAny W.M (A.deeper env) (leaving env e) (fun _ s'' => R (.error e) s'') (fun e' s'' => R (.error e') s'') s') s) : zb6 W.M A (.func body env) R s := by
 refine zaz rfl ?_
 show wc _ (A.deeper env) (do point; match ← (execs body env).onRaise (leaving env) with | .ret v => ret v | _ => ret .none) _ _ s
 refine zaf (wpAny_point (zab (zb7 (zaa h (fun f s' h' => ?_) fun e s' h' => zah h'))))
 cases f <;> exact zaj h'
theorem zn5 {f : Fn} {fd : FuncData} {body : List Stmt} {r : Nat} {a : Addr} {as : List Va} {vals : List Value} (pre : Pre W) (ok : FnOk f fd body) (cs : zcd W C r) (room : Room (r + 1) A) (ap : zud A F) (c : Ctx W A s.heap) (S : St W F σ s) (rv : RvL s.heap as vals) (hl : as.length = f.np)
  (x : InCallC s (callEnvC fd s.heap.objs.size a).locals (bindL (callEnvC fd s.heap.objs.size a).kindOf (((f.vars.take f.np).map (·.1)).zip vals) fun _ => none) (callEnvC fd s.heap.objs.size a).cells
    (bindC (callEnvC fd s.heap.objs.size a).kindOf (((f.vars.take f.np).map (·.1)).zip vals) fun _ => none) s')
  (q : wpSs C (ExB B) f.body (as.map some ++ List.replicate (f.vars.length - f.np) none) σ (ExN Q) (ExR Q)) :
  zb6 W.M A (.func body (callEnvC fd s.heap.objs.size a)) (RP W F s B Q) s' := by
 have b : Blk fd.scope (callEnvC fd s.heap.objs.size a) f.vars := ⟨⟨rfl, ok.kind, ok.glob, ok.blt⟩, ok.vok, ok.nd, fun x hx => Option.isSome_iff_exists.mp (zbf _ _ [] x (.inr hx))⟩
 have hLe : (callEnvC fd s.heap.objs.size a).locals = s.heap.objs.size := rfl
 obtain ⟨S', k⟩ := znx S rv ok.np hl b hLe x
 generalize hev : callEnvC fd s.heap.objs.size a = env at *
 have hf : env.frame = some env.locals := by rw [← hev]; rfl
 obtain ⟨fr, hfr, hff⟩ := c.frames
 have c' : Ctx W (A.deeper env) s'.heap := by
  refine ⟨c.handled, env :: fr, Around.frames_deeper hfr, ?_, ?_, zdj k.evo hff⟩
  ·rw [b.eok.scope, ok.kind]; decide
  ·obtain ⟨o, es, ep, ho, hd, _⟩ := x.toInCall.ns
   refine ⟨env.locals, o, hf, ?_, ho, fun vs e => by rw [hd] at e; cases e⟩
   have hn : s.heap.get? env.locals = none := by rw [hLe]; exact zbl _
   cases z : W.h₀.get? env.locals with
   | none => rfl
   | some o => have := S.keep _ o z; rw [hn] at this; cases this
 have H : Fun W (A.deeper env) fd.scope env f.vars F r := by
  refine ⟨pre, b, ⟨?_, ?_⟩, hf, fr, Around.frames_deeper hfr, ap fr hfr⟩
  ·have := room.1
   show A.depth + 1 + 1 + 2 * r < 900
   lia -abstractProof
  ·have := room.2
   show A.units + 3 + 6 + 10 * r < 9000
   lia -abstractProof
 have hlen : (as.map some ++ List.replicate (f.vars.length - f.np) (none : Option Va)).length = f.vars.length := by
  have := ok.np
  simp; lia -abstractProof
 refine zrl (zaa (zlj cs f.body H ok.chk _ σ s' _ _ _ hlen c' S' q) (fun fl s1 z => ?_) fun e s1 z => ?_)
 ·cases fl with
  | next =>
   obtain ⟨ρ', σ', h1, h2, h3, τ, h4, h5⟩ := z
   exact ⟨.none, τ, by simp only [Rv], (h2.dropAct).weak h4, k.evo.trans h3, h5⟩
  | ret v =>
   obtain ⟨ρ', mv, σ', h1, h2, h3, h4, τ, h5, h6⟩ := z
   exact ⟨mv, τ, h2, (h3.dropAct).weak h5, k.evo.trans h4, h6⟩
  | brk => exact z.elim
  | cont => exact z.elim
 ·obtain ⟨ρ', h1, σ', x1, S1, k1, τ, h2, h3⟩ := z
  refine zng H (c'.evo k1) S1 x1 fun ex s2 e x2 S2 k2 => ?_
  subst e
  exact ⟨τ, x2.excOkN, (S2.dropAct).weak h2, (k.evo.trans k1).trans k2, h3⟩
set_option tactic.hygienic true in
theorem zk1 (pre : Pre W) : ∀ r, zcd W (zac tab r) r
 | 0 => fun g vs σ B Q q => (((Classical.choose_spec (zic tab)).1 g vs σ B Q).mp q).elim
 | r + 1 => fun g vs σ B Q q A F s vals room ap c S rv => by
  replace q := ((Classical.choose_spec (zic tab)).2 r g vs σ B Q).mp q
  change (match tab g with | none => False | some f => match f.bind vs with | none => False | some ρ => wpSs (zac tab r) (ExB B) f.body ρ σ (ExN Q) (ExR Q)) at q
  split at q <;> first | exact q.elim | skip
  rename_i f hf
  split at q <;> first | exact q.elim | skip
  rename_i ρ hρ
  obtain ⟨oc, od, osl, fd, hk, hchk, hcode, hdef⟩ := pre.fn g f hf
  obtain ⟨body, ok⟩ := fnOk hchk
  obtain ⟨as, hal, rfl, hlen, has⟩ := zt5 hρ ok.np
  have ho := pre.X.keeps S.keep _ _ hk
  obtain ⟨cc, oc', vs', tq, hcc, hoc, hdc, hq⟩ := (codeRec_of pre.X hcode).keeps S.keep
  refine zaz rfl ?_
  show wc _ A.in1 (callAny (.ref (W.fa g)) ⟨vals, []⟩) _ _ s
  refine zah ?_
  refine wpAny_bind (wpAny_load ho ?_)
  simp only [callFunction, ok.co, ok.gen, ok.src, hcc]
  refine wpAny_bind (m := field (.ref cc) 1) (wpAny_field hoc hdc hq (wpAny_bind (wpAny_pure ?_)))
  have hvl := rv.len
  -- the arguments
  have key : ∀ vals', RvL s.heap as vals' → wpAny W.M A.in1 (do
    let env ← newFunctionEnv fd.scope fd.globals fd.closure (((f.vars.take f.np).map (·.1)).zip vals') (fd.qualname ++ ".<locals>.") (some (W.fa g)) (.ref cc) none fd.builtins
    enterFrame
    again (.func body env)) (fun fin s' => match fin with | .done f => RP W F s B Q (.ok f) s' | .again c' => c'.quiet = true ∧ zb6 W.M A c' (RP W F s B Q) s') (fun e s' => RP W F s B Q (.error e) s') s := fun vals' rv' => by
   rw [ok.clo, ← hcc]
   have hl' := rv'.len
   refine wpAny_bind (wpAny_newFunctionEnv_cells ok.kind (fun y hy => ?_) fun env he s' x => ?_)
   ·have hm := List.mem_map_of_mem (f := (·.1)) hy
    rw [ze6 (by have := ok.np; simp; lia -abstractProof)] at hm
    obtain ⟨p, hp, e⟩ := List.mem_map.mp hm
    obtain ⟨i, hi⟩ := List.getElem?_of_mem (List.mem_of_mem_take hp)
    obtain ⟨n, cb⟩ := p
    have e' : n = y.1 := e
    subst e'
    obtain ⟨h1, _⟩ := zbm ok.vok hi
    cases cb with
    | false => exact .inl h1
    | true => exact .inr ⟨h1, zbf _ _ [] _ (.inr h1)⟩
   ·subst he
    refine wpAny_bind (wpAny_enterFrame ((pre.nolimit.keeps S.keep).keeps x.toInCall.keep) (by have := room.1; show A.depth < 1000; exact Nat.lt_of_lt_of_le (Nat.lt_of_le_of_lt (Nat.le_add_right _ _) this) (by decide)) (wpAny_pure ⟨rfl, ?_⟩))
    exact zn5 pre ok (zk1 pre r) room ap c S rv' hal x q
  refine wpAny_bind (zly ok.pos ok.va ok.kwo ok.kw ok.names (ok.nd.sublist ((List.take_sublist _ _).map _)) ?_)
  have hnl : ((f.vars.take f.np).map (·.1)).length = f.np := by have := ok.np; simp; lia -abstractProof
  rcases has with rfl | ⟨rfl, hne⟩
  ·refine .inl ⟨by exact Nat.le_antisymm (Nat.le_trans (Nat.le_of_eq hvl) (Nat.le_trans (Nat.le_of_eq hal) (Nat.le_of_eq hnl.symm))) (Nat.le_trans (Nat.le_of_eq hnl) (Nat.le_trans (Nat.le_of_eq hal.symm) (Nat.le_of_eq hvl.symm))), ?_, key vals rv⟩
   rcases hdef with ⟨_, hd⟩ | ⟨a, i, t, hd, ht, _, hnp⟩
   ·exact .inl hd
   ·exact .inr ⟨fun z => hnp (by rw [z] at hnl; simpa using hnl.symm), a, _, hd, zji ht (Ext.evo S.keep)⟩
  ·rcases hdef with ⟨hz, _⟩ | ⟨a, i, t, hd, ht, hz, hnp⟩
   ·rw [hz, List.append_nil] at hal; exact absurd hal hne
   ·rw [hz] at hal
    refine .inr ⟨a, .int i t, by simp at hal; lia -abstractProof, hd, zji ht (Ext.evo S.keep), key _ ?_⟩
    rw [hz]
    exact rv.append (RvL.cons (by simp only [Rv]; exact ⟨t, rfl⟩) RvL.nil)
end
end
end LW.Internal
end
section
open PySem
namespace LW.Internal
section
theorem Sto.set_self {σ : Sto} {a : Addr} {u : UOb} : (σ.set a u) a = some u := if_pos rfl
theorem Sto.set_ne {σ : Sto} {a b : Addr} {u : UOb} (h : b ≠ a) : (σ.set a u) b = σ b := if_neg h
theorem Sto.set_set {σ : Sto} {a : Addr} {u v : UOb} : (σ.set a u).set a v = σ.set a v := by
 funext b; unfold Sto.set; split <;> rfl
theorem Sto.le_set {σ : Sto} {a : Addr} {u : UOb} (h : σ a = none) : σ.Le (σ.set a u) := fun b v e => by
 rw [Sto.set_ne]; exact e
 intro z; subst z; rw [h] at e; cases e
theorem Sto.le_set_set {σ τ : Sto} {a : Addr} {u : UOb} (h : σ.Le τ) (e : σ a = none) : σ.Le (τ.set a u) := fun b v z => by
 rw [Sto.set_ne]; exact h b v z
 intro y; subst y; rw [e] at z; cases z
noncomputable abbrev Lg := List (Addr × UOb)
noncomputable def Hold (σ : Sto) (L : Lg) : Prop := (∀ p ∈ L, σ p.1 = some p.2) ∧ (L.map (·.1)).Nodup
section
variable {σ τ : Sto} {L L' : Lg} {a b : Addr} {u u' : UOb}
theorem Hold.get (h : Hold σ L) (m : (a, u) ∈ L) : σ a = some u := h.1 _ m
theorem Hold.nth (h : Hold σ L) (i : Nat) (e : L[i]? = some (a, u)) : σ a = some u := h.1 _ (List.mem_of_getElem? e)
theorem Hold.perm (h : Hold σ L) (k : L.Perm L') : Hold σ L' := ⟨fun p hp => h.1 p (k.mem_iff.mpr hp), (k.map (·.1)).nodup_iff.mp h.2⟩
theorem Hold.sub (h : Hold σ L) (k : L'.Sublist L) : Hold σ L' := ⟨fun p hp => h.1 p (k.subset hp), h.2.sublist (k.map _)⟩
theorem Hold.le (h : Hold σ L) (k : σ.Le τ) : Hold τ L := ⟨fun p hp => k _ _ (h.1 p hp), h.2⟩
theorem Hold.nil : Hold σ [] := ⟨fun _ h => (nomatch h), List.nodup_nil⟩
theorem Hold.free (h : Hold σ L) (e : σ a = none) : a ∉ L.map (·.1) := fun m => by
 obtain ⟨p, hp, z⟩ := List.mem_map.mp m
 have := h.1 p hp
 subst z; rw [e] at this; cases this
theorem Hold.set (h : Hold σ ((a, u) :: L)) (u' : UOb) : Hold (σ.set a u') ((a, u') :: L) := by
 have n := h.2
 rw [List.map_cons, List.nodup_cons] at n
 refine ⟨fun p hp => ?_, h.2⟩
 cases hp with
 | head => exact Sto.set_self
 | tail _ m =>
  rw [Sto.set_ne]; exact h.1 p (.tail _ m)
  intro z; exact n.1 (z ▸ List.mem_map_of_mem (f := (·.1)) m)
theorem Hold.new (h : Hold σ L) (e : σ a = none) (u : UOb) : Hold (σ.set a u) ((a, u) :: L) := by
 refine ⟨fun p hp => ?_, List.nodup_cons.mpr ⟨h.free e, h.2⟩⟩
 cases hp with
 | head => exact Sto.set_self
 | tail _ m =>
  rw [Sto.set_ne]; exact h.1 p m
  intro z; exact h.free e (z ▸ List.mem_map_of_mem (f := (·.1)) m)
end
theorem zfi {α : Type} {P : α → Prop} {a : α} (k : P a) : ∀ x ∈ [a], P x := List.forall_mem_singleton.mpr k
theorem zco {α : Type} {P : α → Prop} {l : List α} {a : α} (h : ∀ x ∈ l, P x) (k : P a) : ∀ x ∈ l ++ [a], P x := List.forall_mem_append.mpr ⟨h, zfi k⟩
theorem zd1 {α : Type} {P : α → Prop} {l l' : List α} {a b : α} (h : ∀ x ∈ l ++ a :: l', P x) (k : P b) : ∀ x ∈ l ++ b :: l', P x :=
 List.forall_mem_append.mpr ⟨(List.forall_mem_append.mp h).1, List.forall_mem_cons.mpr ⟨k, (List.forall_mem_cons.mp (List.forall_mem_append.mp h).2).2⟩⟩
theorem zom {α : Type} {P : α → Prop} {l l' : List α} {a : α} (h : ∀ x ∈ l ++ a :: l', P x) : ∀ x ∈ l ++ l', P x :=
 List.forall_mem_append.mpr ⟨(List.forall_mem_append.mp h).1, (List.forall_mem_cons.mp (List.forall_mem_append.mp h).2).2⟩
set_option genCtorIdx false in
inductive PT | n | l (i : Nat) | c (i : Nat) (t : PT) | a (s t : PT)
noncomputable def PT.r (i : Nat) : List Nat → PT
 | [] => .l i
 | j :: k => .a (.l i) (PT.r j k)
noncomputable def PT.cs (t : PT) : List Nat → PT
 | [] => t
 | i :: k => .c i (PT.cs t k)
noncomputable def zo7 {α : Type} (o : Option α) (l : List α) : List α := match o with
 | some x => x :: l
 | none => l
noncomputable def PT.den {α : Type} (γ : List α) (ρ : List (List α)) : PT → List α
 | .n => []
 | .l i => ρ.getD i []
 | .c i t => zo7 γ[i]? (t.den γ ρ)
 | .a s t => s.den γ ρ ++ t.den γ ρ
noncomputable def PT.ix : PT → List (Bool × Nat)
 | .n => []
 | .l i => [(false, i)]
 | .c i t => (true, i) :: t.ix
 | .a s t => s.ix ++ t.ix
theorem PT.den_ix {α : Type} (γ : List α) (ρ : List (List α)) (t : PT) : t.den γ ρ = t.ix.flatMap fun k => cond k.1 (zo7 γ[k.2]? []) (ρ.getD k.2 []) := by
 induction t with
 | n => rfl
 | l i => exact (List.flatMap_singleton _ _).symm
 | c i t h =>
  refine Eq.trans ?_ List.flatMap_cons.symm
  show zo7 γ[i]? (t.den γ ρ) = zo7 γ[i]? [] ++ _
  rw [h]
  cases γ[i]? <;> rfl
 | a s t h k => exact (congr (congrArg HAppend.hAppend h) k).trans List.flatMap_append.symm
theorem zcv {α : Type} (γ : List α) (ρ : List (List α)) (s t : PT) (h : s.ix.isPerm t.ix = true) : (s.den γ ρ).Perm (t.den γ ρ) :=
 (PT.den_ix γ ρ s).symm ▸ (PT.den_ix γ ρ t).symm ▸ (List.isPerm_iff.mp h).flatMap_right _
theorem zf9 {α : Type} (ρ : List (List α)) (s t : PT) (h : s.ix.isPerm t.ix = true) : (s.den [] ρ).Perm (t.den [] ρ) := zcv [] ρ s t h
theorem zeh {α : Type} {x y k : List α} : (x ++ (y ++ k)).Perm (y ++ (x ++ k)) := zf9 [x, y, k] (.r 0 [1, 2]) (.r 1 [0, 2]) rfl
theorem zbi {S : Type} {item : S → Nat → Option (Option Va)} {body : Va → S → (S → Prop) → Prop} {K : S → Prop} {N : Nat} (I : Nat → S → Prop)
  (step : ∀ n s k, n < N → I n s → (∀ s', I (n + 1) s' → k s') → ∃ v, item s n = some (some v) ∧ body v s k)
  (done : ∀ s, I N s → item s N = some none ∧ K s) {s : S} (h : I 0 s) : ∃ f, zei item body K f 0 s := by
 have key : ∀ m n s, n + m = N → I n s → zei item body K (m + 1) n s := by
  intro m
  induction m with
  | zero => intro n s e hi
            obtain rfl : n = N := by lia -abstractProof
            obtain ⟨h1, h2⟩ := done s hi
            unfold zei; rw [h1]; exact h2
  | succ m ih => intro n s e hi
                 obtain ⟨v, h1, h2⟩ := step n s (zei item body K (m + 1) (n + 1)) (by lia -abstractProof) hi fun s' hs' => ih (n + 1) s' (by lia -abstractProof) hs'
                 unfold zei; rw [h1]; exact h2
 exact ⟨N + 1, key N 0 s (by lia -abstractProof) h⟩
theorem ze7 {S : Type} {test : S → (Bool → S → Prop) → Prop} {body : S → (S → Prop) → Prop} {K : S → Prop} (I : Nat → S → Prop)
  (step : ∀ n s k, I (n + 1) s → (∀ s', I n s' → k s') → test s fun b s' => match b with | true => body s' k | false => K s')
  (done : ∀ s k, I 0 s → test s fun b s' => match b with | true => body s' k | false => K s') {n : Nat} {s : S} (h : I n s) : ∃ f, zfz test body K f s := by
 have key : ∀ n s, I n s → zfz test body K (n + 1) s := by
  intro n
  induction n with
  | zero => intro s hi; unfold zfz; exact done s _ hi
  | succ n ih => intro s hi; unfold zfz; exact step n s _ hi fun s' hs' => ih s' hs'
 exact ⟨n + 1, key n s h⟩
theorem g0 : gval 0 = 4294967295 := rfl
theorem g1 : gval 1 = 18446744073709551615 := rfl
theorem g2 : gval 2 = 72057594037927935 := rfl
theorem g3 : gval 3 = 12 := rfl
theorem g4 : gval 4 = 1 := rfl
theorem g5 : gval 5 = 2 := rfl
theorem g6 : gval 6 = 3 := rfl
theorem g7 : gval 7 = 4 := rfl
theorem g8 : gval 8 = 5 := rfl
theorem g9 : gval 9 = 6 := rfl
theorem g10 : gval 10 = 7 := rfl
theorem g11 : gval 11 = 10 := rfl
theorem it_t {p q : Prop} : (if true = true then p else q) = p := rfl
theorem it_f {p q : Prop} : (if false = true then p else q) = q := rfl
theorem bn_t : (!true) = false := rfl
theorem bn_f : (!false) = true := rfl
theorem sq {C : Orc} {B : BP} {R : QP} {N : Loc → Sto → Prop} {ρ : Loc} {σ : Sto} {s : S} {ss : Ss} (h : wpS C B s ρ σ (fun ρ σ => wpSs C B ss ρ σ N R) R) : wpSs C B (.cons s ss) ρ σ N R := h
theorem sq0 {C : Orc} {B : BP} {R : QP} {N : Loc → Sto → Prop} {ρ : Loc} {σ : Sto} (h : N ρ σ) : wpSs C B .nil ρ σ N R := h
theorem zje {b : Bool} {p q : Prop} : andW (.bool b) p q = if b = true then p else q := rfl
theorem zci {ρ : Loc} {i : Nat} {v : Va} {k : Va → Prop} (h : ρ[i]? = some (some v)) (q : k v) : getV ρ i k := by unfold getV; rw [h]; exact q
theorem getV_some' {ρ : Loc} {i : Nat} {v : Va} {k : Va → Prop} (h : ρ[i]? = some (some v)) : getV ρ i k = k v := by unfold getV; rw [h]
section
variable {k : Bool → Prop} {kv : Va → Prop} {a b : Int} {c d : List UInt8} {s t : List Va}
theorem cm_lt : cmpW .lt (.int a) (.int b) k = k (decide (a < b)) := rfl
theorem cm_le : cmpW .le (.int a) (.int b) k = k (decide (a ≤ b)) := rfl
theorem cm_gt : cmpW .gt (.int a) (.int b) k = k (decide (b < a)) := rfl
theorem cm_ge : cmpW .ge (.int a) (.int b) k = k (decide (b ≤ a)) := rfl
theorem cm_eq : cmpW .eq (.int a) (.int b) k = k (decide (a = b)) := rfl
theorem cm_ne : cmpW .ne (.int a) (.int b) k = k (!decide (a = b)) := rfl
theorem cm_eqb : cmpW .eq (.bytes c) (.bytes d) k = k (decide (c = d)) := rfl
theorem cm_neb : cmpW .ne (.bytes c) (.bytes d) k = k (!decide (c = d)) := rfl
theorem cm_in : cmpW .eq (.int a) .none k = k false := rfl
theorem cm_bn : cmpW .eq (.bytes c) .none k = k false := rfl
noncomputable def mn (a b : Int) : Int := if b < a then b else a
theorem mi_at : minW (.int a) (.int b) kv = kv (.int (mn a b)) := rfl
theorem mn_ok (a b : Int) : (mn a b = a ∨ mn a b = b) ∧ mn a b ≤ a ∧ mn a b ≤ b := by unfold mn; split <;> lia -abstractProof
theorem au_add : augW .add (.int a) (.int b) kv = kv (.int (a + b)) := rfl
theorem au_bor : augW .bor (.int a) (.int b) kv = kv (.int (Builtin.bitOr a b)) := rfl
theorem au_shr : augW .shr (.int a) (.int b) kv = (0 ≤ b ∧ kv (.int (a / 2 ^ b.toNat))) := rfl
theorem zgi {v : Va} {ρ : Loc} : getV (some v :: ρ) 0 kv = kv v := rfl
theorem zjx {v : Option Va} {ρ : Loc} {i : Nat} : getV (v :: ρ) (i + 1) kv = getV ρ i kv := rfl
theorem bt_one {v : Va} {ρ : Loc} {i : Nat} {kl : Loc → Prop} : zg3 ρ (.one i) v kl = kl (ρ.set i (some v)) := rfl
theorem bt_two {v w : Va} {ρ : Loc} {i j : Nat} {kl : Loc → Prop} : zg3 ρ (.two i j) (.tup [v, w]) kl = kl ((ρ.set i (some v)).set j (some w)) := rfl
theorem rn_at {kq : Sq → Prop} : rngW (.int a) (.int b) kq = ((-1000000000 < a ∧ a < 1000000000 ∧ -1000000000 < b ∧ b < 1000000000) ∧ kq (.rng a b)) := rfl
theorem zse : zdu .none = true := rfl
theorem nn_int : zdu (.int a) = false := rfl
theorem zpb : zdu (.bytes c) = false := rfl
theorem no_at {x : Bool} : notW (.bool x) kv = kv (.bool (!x)) := rfl
theorem zpf {σ : Sto} : lenW σ (.bytes c) kv = (c.length ≤ 16777216 ∧ kv (.int c.length)) := rfl
theorem zqo {σ : Sto} : zdm σ (.bytes c) kv = kv (.bytes c) := rfl
theorem bi_add : binW .add (.int a) (.int b) kv = kv (.int (a + b)) := rfl
theorem zt9 : binW .add (.bytes c) (.bytes d) kv = (c.length + d.length ≤ 16777216 ∧ kv (.bytes (c ++ d))) := rfl
theorem bi_sub : binW .sub (.int a) (.int b) kv = kv (.int (a - b)) := rfl
theorem bi_mul : binW .mul (.int a) (.int b) kv = (Sm a ∧ kv (.int (a * b))) := rfl
theorem zt7 : binW .mul (.bytes c) (.int b) kv = (c ≠ [] ∧ 2 ≤ b ∧ b ≤ 1000 ∧ c.length ≤ 1000 ∧ kv (.bytes (List.replicate b.toNat c).flatten)) := rfl
theorem zt8 : binW .fdiv (.int a) (.int b) kv = ((0 < b ∧ b < 2 ^ 64) ∧ kv (.int (a / b))) := rfl
theorem bi_mod : binW .mod (.int a) (.int b) kv = ((0 < b ∧ b < 2 ^ 64) ∧ kv (.int (a % b))) := rfl
theorem bi_pow : binW .pow (.int a) (.int b) kv = ((0 ≤ b ∧ b ≤ 1000000 ∧ Sm a) ∧ kv (.int (a ^ b.toNat))) := rfl
theorem bi_and : binW .band (.int a) (.int b) kv = kv (.int (Builtin.bitAnd a b)) := rfl
theorem bi_or : binW .bor (.int a) (.int b) kv = kv (.int (Builtin.bitOr a b)) := rfl
theorem bi_shr : binW .shr (.int a) (.int b) kv = (0 ≤ b ∧ kv (.int (a / 2 ^ b.toNat))) := rfl
theorem bi_shl : binW .shl (.int a) (.int b) kv = ((0 ≤ b ∧ b ≤ 1000000 ∧ Sm a) ∧ kv (.int (a * 2 ^ b.toNat))) := rfl
end
section
variable {σ : Sto} {a : Addr} {k : Va → Prop} {kk : Va → Sto → Prop} {ks : Sto → Prop} {v w : Va} {vs : List Va} {fs : List (Nat × Va)} {g i : Nat} {n : Int} {b c : List UInt8}
theorem zar (h : σ a = some (.inst g fs)) (e : getF fs i = some w) (q : k w) : attrW σ (.ref a) i k := ⟨_, _, _, _, rfl, h, e, q⟩
theorem zad (h : σ a = some (.inst g fs)) (q : fs.length ≤ 50 ∧ ks (σ.set a (.inst g (setF fs i w)))) : setAttrW σ (.ref a) i w ks := ⟨_, _, _, rfl, h, q.1, q.2⟩
theorem zay {f : Nat} {kn : Nat → Prop} (h : σ a = some (.inst g fs)) (e : mth g i = some f) (q : kn f) : methW σ (.ref a) i kn := ⟨_, _, _, _, rfl, h, e, q⟩
theorem ziv (h : σ a = some (.list vs)) (h0 : 0 ≤ n) (e : vs[n.toNat]? = some w) (q : k w) : idxW σ (.ref a) (.int n) k := ⟨_, rfl, h0, .inl ⟨_, _, _, rfl, h, e, q⟩⟩
theorem zbw (h0 : 0 ≤ n) (h1 : n < 1000000000) (e : vs[n.toNat]? = some w) (q : k w) : idxW σ (.tup vs) (.int n) k := ⟨_, rfl, h0, .inr (.inl ⟨_, _, rfl, h1, e, q⟩)⟩
theorem za8 {x : UInt8} (h0 : 0 ≤ n) (h1 : b.length ≤ 16777216) (e : b[n.toNat]? = some x) (q : k (.int x.toNat)) : idxW σ (.bytes b) (.int n) k := ⟨_, rfl, h0, .inr (.inr ⟨_, _, rfl, h1, e, q⟩)⟩
theorem zfa (q : (0 ≤ n ∧ b.length ≤ 16777216) ∧ kk (.bytes (b.take n.toNat)) σ) : zfv σ (.bytes b) (.int n) kk := ⟨_, rfl, q.1.1, .inr ⟨_, rfl, q.1.2, q.2⟩⟩
theorem zbj (h : σ a = some (.list vs)) (q : vs.length < zap ∧ ks (σ.set a (.list (vs ++ [w])))) : zgv σ (.ref a) w ks := ⟨_, rfl, .inl ⟨_, h, q⟩⟩
theorem zok (h : σ a = some (.barr b)) (q : (0 ≤ n ∧ n < 256 ∧ b.length < zap) ∧ ks (σ.set a (.barr (b ++ [UInt8.ofNat n.toNat])))) : zgv σ (.ref a) (.int n) ks := ⟨_, rfl, .inr ⟨_, _, h, rfl, q⟩⟩
theorem zd7 (h : σ a = some (.barr b)) (q : b.length + c.length < zap ∧ ks (σ.set a (.barr (b ++ c)))) : extendW σ (.ref a) (.bytes c) ks := ⟨_, _, _, rfl, rfl, h, q.1, q.2⟩
theorem zb9 (h : σ a = some (.list vs)) (q : k (.int vs.length)) : lenW σ (.ref a) k := ⟨_, h, q⟩
theorem za6 (h : σ a = some (.list vs)) (e : octs vs = some c) (q : k (.bytes c)) : zdm σ (.ref a) k := .inl ⟨_, _, h, e, q⟩
theorem zdp (h : σ a = some (.barr b)) (q : b.length ≤ 16777216 ∧ k (.bytes b)) : zdm σ (.ref a) k := .inr ⟨_, h, q⟩
theorem zeo (h : σ a = some (.list vs)) (q : k (.tup vs)) : tupOfW σ (.ref a) k := ⟨_, _, rfl, h, q⟩
theorem zcp (h : σ a = some (.list vs)) (q : newW σ (.list vs) kk) : listOfW σ (.ref a) kk := ⟨_, _, rfl, h, q⟩
theorem zf4 {kq : Sq → Prop} (h : σ a = some (.list vs)) (q : kq (.lst a)) : seqW σ (.ref a) kq := ⟨_, _, rfl, h, q⟩
theorem popAtW_to (h : σ a = some (.list vs)) (h0 : 0 ≤ n) (e : vs[n.toNat]? = some w) (q : kk w (σ.set a (.list (vs.eraseIdx n.toNat)))) : popAtW σ (.ref a) (.int n) kk := ⟨_, _, _, _, rfl, rfl, h, h0, e, q⟩
theorem zfb (h : σ a = some (.list vs)) (h0 : 0 ≤ n) (e : n.toNat < vs.length) (q : ks (σ.set a (.list (vs.set n.toNat w)))) : setIdxW σ (.ref a) (.int n) w ks := ⟨_, _, _, rfl, rfl, h, h0, e, q⟩
theorem zd4 (h : σ a = some (.list vs)) (q : (0 ≤ n ∧ n.toNat ≤ vs.length ∧ vs.length < zap) ∧ ks (σ.set a (.list (vs.insertIdx n.toNat w)))) : insertW σ (.ref a) (.int n) w ks := ⟨_, _, _, rfl, rfl, h, q.1, q.2⟩
theorem za7 {α : Type} {f : α → Va} {l : List α} (h : σ a = some (.list (l.map f))) (q : k (.int l.length)) : lenW σ (.ref a) k := zb9 h (List.length_map f ▸ q)
theorem zbe {j : Nat} (h : σ a = some (.list vs)) (e : j < vs.length) (q : ks (σ.set a (.list (vs.set j w)))) : setIdxW σ (.ref a) (.int j) w ks := ⟨_, _, _, rfl, rfl, h, Int.natCast_nonneg _, e, q⟩
theorem zdc {j : Nat} (h : σ a = some (.list vs)) (e : vs[j]? = some w) (q : kk w (σ.set a (.list (vs.eraseIdx j)))) : popAtW σ (.ref a) (.int j) kk := ⟨_, _, _, _, rfl, rfl, h, Int.natCast_nonneg _, e, q⟩
theorem zsi {j : Nat} (h : σ a = some (.list vs)) (q : (j ≤ vs.length ∧ vs.length < zap) ∧ ks (σ.set a (.list (vs.insertIdx j w)))) : insertW σ (.ref a) (.int j) w ks := ⟨_, _, _, rfl, rfl, h, ⟨Int.natCast_nonneg _, q.1⟩, q.2⟩
theorem zba {c p q : Prop} {_ : Decidable c} (h : c) (z : p) : if c then p else q := by rw [if_pos h]; exact z
theorem zau {c p q : Prop} {_ : Decidable c} (h : ¬ c) (z : q) : if c then p else q := by rw [if_neg h]; exact z
theorem zax {Q : QP} {v : Va} (q : Q v σ) : ∃ τ, Sto.Le τ σ ∧ Q v τ := ⟨σ, .refl σ, q⟩
theorem zcn (h : σ a = some (.inst g fs)) (e : getF fs i = some w) : attrW σ (.ref a) i k = k w := propext ⟨fun ⟨_, _, _, _, e1, e2, e3, hk⟩ => by cases e1; rw [h] at e2; cases e2; rw [e] at e3; cases e3; exact hk, fun hk => ⟨_, _, _, _, rfl, h, e, hk⟩⟩
theorem zjm (h : σ a = some (.inst g fs)) : setAttrW σ (.ref a) i w ks = (fs.length ≤ 50 ∧ ks (σ.set a (.inst g (setF fs i w)))) := propext ⟨fun ⟨_, _, _, e1, e2, hl, hk⟩ => by cases e1; rw [h] at e2; cases e2; exact ⟨hl, hk⟩, fun hk => ⟨_, _, _, rfl, h, hk.1, hk.2⟩⟩
theorem zbb (h : σ a = some (.list vs)) (h0 : 0 ≤ n) (e : vs[n.toNat]? = some w) : idxW σ (.ref a) (.int n) k = k w := propext ⟨fun ⟨_, e0, _, hk⟩ => by
  cases e0
  rcases hk with ⟨_, _, _, e1, e2, e3, hk⟩ | ⟨_, _, e1, _⟩ | ⟨_, _, e1, _⟩ <;> cases e1
  rw [h] at e2; cases e2; rw [e] at e3; cases e3; exact hk, fun hk => ⟨_, rfl, h0, .inl ⟨_, _, _, rfl, h, e, hk⟩⟩⟩
theorem zhy (h0 : 0 ≤ n) (h1 : n < 1000000000) (e : vs[n.toNat]? = some w) : idxW σ (.tup vs) (.int n) k = k w := propext ⟨fun ⟨_, e0, _, hk⟩ => by
  cases e0
  rcases hk with ⟨_, _, _, e1, _⟩ | ⟨_, _, e1, _, e3, hk⟩ | ⟨_, _, e1, _⟩ <;> cases e1
  rw [e] at e3; cases e3; exact hk, fun hk => ⟨_, rfl, h0, .inr (.inl ⟨_, _, rfl, h1, e, hk⟩)⟩⟩
theorem zhi {x : UInt8} (h0 : 0 ≤ n) (h1 : b.length ≤ 16777216) (e : b[n.toNat]? = some x) : idxW σ (.bytes b) (.int n) k = k (.int x.toNat) := propext ⟨fun ⟨_, e0, _, hk⟩ => by
  cases e0
  rcases hk with ⟨_, _, _, e1, _⟩ | ⟨_, _, e1, _⟩ | ⟨_, _, e1, _, e3, hk⟩ <;> cases e1
  rw [e] at e3; cases e3; exact hk, fun hk => ⟨_, rfl, h0, .inr (.inr ⟨_, _, rfl, h1, e, hk⟩)⟩⟩
theorem zop : zfv σ (.bytes b) (.int n) kk = ((0 ≤ n ∧ b.length ≤ 16777216) ∧ kk (.bytes (b.take n.toNat)) σ) := propext ⟨fun ⟨_, e0, h0, hk⟩ => by
  cases e0
  rcases hk with ⟨_, _, e1, _⟩ | ⟨_, e1, h1, hk⟩ <;> cases e1
  exact ⟨⟨h0, h1⟩, hk⟩, fun hk => ⟨_, rfl, hk.1.1, .inr ⟨_, rfl, hk.1.2, hk.2⟩⟩⟩
theorem zhp (h : σ a = some (.rol vs)) (h0 : 0 ≤ n) : zfv σ (.ref a) (.int n) kk = newW σ (.list (vs.take n.toNat)) kk :=
 have e : zd3 σ a = some vs := by unfold zd3; rw [h]
 propext ⟨fun ⟨_, e0, _, hk⟩ => by
  cases e0
  rcases hk with ⟨_, _, e1, e2, hk⟩ | ⟨_, e1, _⟩ <;> cases e1
  rw [e] at e2; cases e2; exact hk, fun hk => ⟨_, rfl, h0, .inl ⟨_, _, rfl, e, hk⟩⟩⟩
theorem zpe {f : Nat} {kn : Nat → Prop} (h : σ a = some (.inst g fs)) (e : mth g i = some f) : methW σ (.ref a) i kn = kn f := propext ⟨fun ⟨_, _, _, _, e1, e2, e3, hk⟩ => by cases e1; rw [h] at e2; cases e2; rw [e] at e3; cases e3; exact hk, fun hk => ⟨_, _, _, _, rfl, h, e, hk⟩⟩
theorem zan (h : σ a = some (.list vs)) : isList σ (.ref a) = true := by simp only [isList, h]
theorem zcy (h : σ a = some (.barr b)) : zhg σ (.ref a) = true := by simp only [zhg, h]
theorem zej (h : σ a = some (.barr b)) : isList σ (.ref a) = false := by simp only [isList, h]
theorem za0 (h : σ a = some (.list vs)) : zgv σ (.ref a) w ks = (vs.length < zap ∧ ks (σ.set a (.list (vs ++ [w])))) := propext ⟨fun ⟨_, e1, hk⟩ => by
  cases e1
  rcases hk with ⟨_, e2, hk⟩ | ⟨_, _, e2, _⟩ <;> rw [h] at e2 <;> cases e2
  exact hk, fun hk => ⟨_, rfl, .inl ⟨_, h, hk⟩⟩⟩
theorem zd0 (h : σ a = some (.barr b)) : zgv σ (.ref a) (.int n) ks = ((0 ≤ n ∧ n < 256 ∧ b.length < zap) ∧ ks (σ.set a (.barr (b ++ [UInt8.ofNat n.toNat])))) := propext ⟨fun ⟨_, e1, hk⟩ => by
  cases e1
  rcases hk with ⟨_, e2, _⟩ | ⟨_, _, e2, e3, hk⟩ <;> rw [h] at e2 <;> cases e2
  cases e3; exact hk, fun hk => ⟨_, rfl, .inr ⟨_, _, h, rfl, hk⟩⟩⟩
theorem extendW_at (h : σ a = some (.barr b)) : extendW σ (.ref a) (.bytes c) ks = (b.length + c.length < zap ∧ ks (σ.set a (.barr (b ++ c)))) := propext ⟨fun ⟨_, _, _, e1, e3, e2, hl, hk⟩ => by cases e1; cases e3; rw [h] at e2; cases e2; exact ⟨hl, hk⟩, fun hk => ⟨_, _, _, rfl, rfl, h, hk.1, hk.2⟩⟩
theorem zbn (h : σ a = some (.list vs)) : lenW σ (.ref a) k = k (.int vs.length) := propext ⟨fun ⟨_, e2, hk⟩ => by rw [h] at e2; cases e2; exact hk, fun hk => ⟨_, h, hk⟩⟩
theorem zdl (h : σ a = some (.list vs)) (e : octs vs = some c) : zdm σ (.ref a) k = k (.bytes c) := propext ⟨fun hk => by
  rcases hk with ⟨_, _, e2, e3, hk⟩ | ⟨_, e2, _⟩ <;> rw [h] at e2 <;> cases e2
  rw [e] at e3; cases e3; exact hk, fun hk => .inl ⟨_, _, h, e, hk⟩⟩
theorem zqn (h : σ a = some (.barr b)) : zdm σ (.ref a) k = (b.length ≤ 16777216 ∧ k (.bytes b)) := propext ⟨fun hk => by
  rcases hk with ⟨_, _, e2, _⟩ | ⟨_, e2, hk⟩ <;> rw [h] at e2 <;> cases e2
  exact hk, fun hk => .inr ⟨_, h, hk⟩⟩
theorem zdb (h : σ a = some (.list vs)) : tupOfW σ (.ref a) k = k (.tup vs) := propext ⟨fun ⟨_, _, e1, e2, hk⟩ => by cases e1; rw [h] at e2; cases e2; exact hk, fun hk => ⟨_, _, rfl, h, hk⟩⟩
theorem listOfW_at (h : σ a = some (.list vs)) : listOfW σ (.ref a) kk = newW σ (.list vs) kk := propext ⟨fun ⟨_, _, e1, e2, hk⟩ => by cases e1; rw [h] at e2; cases e2; exact hk, fun hk => ⟨_, _, rfl, h, hk⟩⟩
theorem zc9 {kq : Sq → Prop} (h : σ a = some (.list vs)) : seqW σ (.ref a) kq = kq (.lst a) := propext ⟨fun ⟨_, _, e1, e2, hk⟩ => by cases e1; exact hk, fun hk => ⟨_, _, rfl, h, hk⟩⟩
theorem zal {m : Nat} (h : σ a = some (.list vs)) : za2 (.lst a) σ m = some vs[m]? := by simp only [za2, h]
theorem zf8 (h : σ a = some (.list vs)) (h0 : 0 ≤ n) (e : vs[n.toNat]? = some w) : popAtW σ (.ref a) (.int n) kk = kk w (σ.set a (.list (vs.eraseIdx n.toNat))) := propext ⟨fun ⟨_, _, _, _, e1, e0, e2, _, e3, hk⟩ => by cases e1; cases e0; rw [h] at e2; cases e2; rw [e] at e3; cases e3; exact hk, fun hk => ⟨_, _, _, _, rfl, rfl, h, h0, e, hk⟩⟩
theorem setIdxW_at (h : σ a = some (.list vs)) (h0 : 0 ≤ n) (e : n.toNat < vs.length) : setIdxW σ (.ref a) (.int n) w ks = ks (σ.set a (.list (vs.set n.toNat w))) := propext ⟨fun ⟨_, _, _, e1, e0, e2, _, _, hk⟩ => by cases e1; cases e0; rw [h] at e2; cases e2; exact hk, fun hk => ⟨_, _, _, rfl, rfl, h, h0, e, hk⟩⟩
theorem insertW_at (h : σ a = some (.list vs)) : insertW σ (.ref a) (.int n) w ks = ((0 ≤ n ∧ n.toNat ≤ vs.length ∧ vs.length < zap) ∧ ks (σ.set a (.list (vs.insertIdx n.toNat w)))) := propext ⟨fun ⟨_, _, _, e1, e0, e2, hl, hk⟩ => by cases e1; cases e0; rw [h] at e2; cases e2; exact ⟨hl, hk⟩, fun hk => ⟨_, _, _, rfl, rfl, h, hk.1, hk.2⟩⟩
end
end
end LW.Internal
end
section
open PySem
namespace LW.Internal
set_option hygiene false in
local macro_rules | `(tactic| walk_at "lw") => `(tactic| repeat (first | with_reducible refine sq ?_ | with_reducible refine sq0 ?_ | dsimp only [↓wpS, ↓wpX, ↓wpXs, ↓wpIt, ↓zgi, ↓zjx, ↓List.set_cons_zero, ↓List.set_cons_succ,
 ↓cm_lt, ↓cm_le, ↓cm_gt, ↓cm_ge, ↓cm_eq, ↓cm_ne, ↓cm_eqb, ↓cm_neb, ↓cm_in, ↓cm_bn, ↓bi_add, ↓zt9, ↓bi_sub, ↓bi_mul, ↓zt7, ↓zt8, ↓bi_mod, ↓bi_pow, ↓bi_and, ↓bi_or, ↓bi_shr, ↓bi_shl,
 ↓zje, ↓it_t, ↓it_f, ↓bn_t, ↓bn_f, ↓no_at, ↓zse, ↓nn_int, ↓zpb, ↓newW, ↓bt_one, ↓bt_two, ↓rn_at, ↓g0, ↓g1, ↓g2, ↓g3, ↓g4, ↓g5, ↓g6, ↓g7, ↓g8, ↓g9, ↓g10, ↓g11, ↓au_add, ↓au_bor, ↓au_shr, ↓zpf, ↓zqo, ↓mi_at]))
section
noncomputable def varF : Nat → Nat → List UInt8
 | 0, n => [UInt8.ofNat n]
 | k + 1, n => if n < 128 then [UInt8.ofNat n] else UInt8.ofNat (n % 128 + 128) :: varF k (n / 128)
noncomputable def var (n : Nat) : List UInt8 := varF n n
theorem za3 {n : Nat} (h : n < 128) : var n = [UInt8.ofNat n] := by
 cases n with
 | zero => rfl
 | succ k => exact if_pos h
theorem zro : ∀ (k j n : Nat), n ≤ k → n ≤ j → varF k n = varF j n := by
 intro k
 induction k with
 | zero => intro j n h _; obtain rfl : n = 0 := by exact Nat.le_antisymm h (Nat.zero_le _)
           exact (za3 (by decide : 0 < 128)).trans (by cases j <;> rfl)
 | succ k ih =>
  intro j n h h'
  by_cases hn : n < 128
  ·cases j with
   | zero => obtain rfl : n = 0 := by exact Nat.le_antisymm h' (Nat.zero_le _)
             rfl
   | succ j => exact (if_pos hn).trans (if_pos hn).symm
  ·cases j with
   | zero => lia -abstractProof
   | succ j => exact (if_neg hn).trans ((congrArg _ (ih j (n / 128) (by lia -abstractProof) (by lia -abstractProof))).trans (if_neg hn).symm)
theorem zct {n : Nat} (h : 128 ≤ n) : var n = UInt8.ofNat (n % 128 + 128) :: var (n / 128) := by
 cases n with
 | zero => lia -abstractProof
 | succ k => exact (if_neg (by exact Nat.not_lt.mpr h)).trans (congrArg _ (zro _ _ _ (by lia -abstractProof) (Nat.le_refl _)))
theorem zot {n : Nat} {o : UInt8} {tl rest : List UInt8} (h : n < 128) (e : var n ++ rest = o :: tl) : UInt8.ofNat n = o ∧ rest = tl := List.cons.inj ((congrArg (· ++ rest) (za3 h)).symm.trans e)
theorem zov {n : Nat} {o : UInt8} {tl rest : List UInt8} (h : 128 ≤ n) (e : var n ++ rest = o :: tl) : UInt8.ofNat (n % 128 + 128) = o ∧ var (n / 128) ++ rest = tl := List.cons.inj ((congrArg (· ++ rest) (zct h)).symm.trans e)
theorem zb8 (n : Nat) : 1 ≤ (var n).length := by
 by_cases h : n < 128
 ·rw [za3 h]; exact Nat.le_refl _
 ·rw [zct (by exact Nat.not_lt.mp h)]; exact Nat.succ_pos _
theorem var_len : ∀ {k n : Nat}, n < 128 ^ (k + 1) ↔ (var n).length ≤ k + 1 := by
 intro k
 induction k with
 | zero =>
  intro n
  by_cases h : n < 128
  ·rw [za3 h]; simp; exact h
  ·rw [zct (by exact Nat.not_lt.mp h), List.length_cons]
   have := zb8 (n / 128)
   simp only [Nat.zero_add, Nat.pow_one]; lia -abstractProof
 | succ k ih =>
  intro n
  by_cases h : n < 128
  ·rw [za3 h, List.length_singleton]
   have : 128 ^ (k + 2) = 128 ^ (k + 1) * 128 := Nat.pow_succ ..
   have : 1 ≤ 128 ^ (k + 1) := Nat.one_le_pow _ _ (by decide)
   constructor
   ·intro _; exact Nat.le_add_left _ _
   ·intro _; lia -abstractProof
  ·rw [zct (by exact Nat.not_lt.mp h), List.length_cons]
   have e : 128 ^ (k + 2) = 128 ^ (k + 1) * 128 := Nat.pow_succ ..
   have := @ih (n / 128)
   rw [Nat.div_lt_iff_lt_mul (by decide)] at this
   lia -abstractProof
theorem za1 {n : Nat} (h : n ≤ 18446744073709551615) : (var n).length ≤ 10 := var_len.mp (by exact Nat.lt_of_le_of_lt h (by decide))
theorem zou {n : Nat} (h : n ≤ 4294967295) : (var n).length ≤ 5 := var_len.mp (by exact Nat.lt_of_le_of_lt h (by decide))
noncomputable def varI (n i : Nat) : Nat := n / 128 ^ i % 128 + if i + 1 < (var n).length then 128 else 0
theorem zl8 {n : Nat} (h : 128 ≤ n) : varI n 0 = n % 128 + 128 := by
 unfold varI
 have := zb8 (n / 128)
 rw [if_pos (by rw [zct h, List.length_cons]; exact Nat.add_lt_add_right (Nat.lt_of_lt_of_le (by decide) this) _)]
 simp
theorem zl9 {n i : Nat} (h : 128 ≤ n) : varI n (i + 1) = varI (n / 128) i := by
 unfold varI
 rw [zct h, List.length_cons, Nat.pow_succ, Nat.mul_comm, Nat.div_div_eq_div_mul]
 simp only [Nat.add_lt_add_iff_right]
theorem zrm (n : Nat) : var n = (List.range (var n).length).map fun i => UInt8.ofNat (varI n i) := by
 induction n using Nat.strongRecOn with
 | ind n ih =>
  by_cases h : n < 128
  ·have e := za3 h
   have h0 : varI n 0 = n := by unfold varI; rw [e]; simp; exact h
   rw [e, List.length_singleton]; simp [h0]
  ·have h' : 128 ≤ n := by exact Nat.not_lt.mp h
   have e := zct h'
   have := ih (n / 128) (by exact Nat.div_lt_self (Nat.lt_of_lt_of_le (by decide) h') (by decide))
   rw [show (var n).length = (var (n / 128)).length + 1 from by rw [e, List.length_cons], List.range_succ_eq_map, List.map_cons, List.map_map, zl8 h']
   rw [e]
   refine congrArg _ (this.trans (List.map_congr_left fun i _ => ?_))
   simp only [Function.comp, zl9 h', Nat.succ_eq_add_one]
theorem zrn (n i : Nat) : varI n i < 256 := by unfold varI; split <;> lia -abstractProof
noncomputable def fix (n : Nat) : List UInt8 := [UInt8.ofNat (n % 256), UInt8.ofNat (n / 256 % 256), UInt8.ofNat (n / 65536 % 256), UInt8.ofNat (n / 16777216 % 256)]
theorem zfy {x : Int} (k : Nat) (h : 0 ≤ x) : Builtin.bitAnd x ((2 : Int) ^ k - 1) = x % 2 ^ k := by
 have h2 : (0 : Int) ≤ 2 ^ k - 1 := by have : (0 : Int) < 2 ^ k := Int.pow_pos (by decide); lia -abstractProof
 rw [PyProof.Rows.bitAnd_pp h h2]
 obtain ⟨n, rfl⟩ := Int.eq_ofNat_of_zero_le h
 have e : ((2 : Int) ^ k - 1).toNat = 2 ^ k - 1 := by
  have : ((2 : Int) ^ k - 1) = ((2 ^ k - 1 : Nat) : Int) := by
   have := Nat.one_le_two_pow (n := k)
   rw [Int.natCast_sub this]; simp
  rw [this]; simp
 rw [e, Int.toNat_natCast, Nat.and_two_pow_sub_one_eq_mod]
 simp
theorem zgs {x y : Int} (k : Nat) (h0 : 0 ≤ x) (h : x < 2 ^ k) (hy : 0 ≤ y) : Builtin.bitOr x (y * 2 ^ k) = x + y * 2 ^ k := by
 rw [PyProof.Rows.bitOr_and, PyProof.Rows.bitAnd_pp h0 (Int.mul_nonneg hy (Int.le_of_lt (Int.pow_pos (by decide))))]
 obtain ⟨n, rfl⟩ := Int.eq_ofNat_of_zero_le h0
 obtain ⟨m, rfl⟩ := Int.eq_ofNat_of_zero_le hy
 have h' : n < 2 ^ k := by
  have : ((n : Nat) : Int) < ((2 ^ k : Nat) : Int) := by simpa using h
  exact Int.ofNat_lt.mp this
 have e : ((m : Int) * 2 ^ k).toNat = 2 ^ k * m := by
  have : ((m : Int) * 2 ^ k) = ((2 ^ k * m : Nat) : Int) := by simp [Int.mul_comm]
  rw [this, Int.toNat_natCast]
 have z : n &&& 2 ^ k * m = 0 := by
  refine Nat.eq_of_testBit_eq fun i => ?_
  rw [Nat.testBit_and, Nat.zero_testBit, Nat.testBit_two_pow_mul]
  by_cases hi : k ≤ i
  ·rw [Nat.testBit_lt_two_pow (Nat.lt_of_lt_of_le h' (Nat.pow_le_pow_right (by decide) hi))]; simp
  ·simp [hi]
 rw [e, Int.toNat_natCast, z]; simp
theorem za5 {n : Nat} (h : n < 256) : (UInt8.ofNat n).toNat = n := by simp; exact h
theorem ze9 {a : Int} (h0 : 0 ≤ a) (h : a < 2 ^ 64) : Sm a := ⟨by exact Int.lt_of_lt_of_le (by decide) h0, h⟩
theorem za4 {i : Int} {r : List Va} {b : List UInt8} (h0 : 0 ≤ i) (h : i < 256) (e : octs r = some b) : octs (.int i :: r) = some (UInt8.ofNat i.toNat :: b) := by
 simp only [octs, h0, h, and_self, if_true, e, Option.map_some]
theorem zc3 : octs [] = some [] := rfl
theorem zkp {l : List Nat} (h : ∀ n ∈ l, n < 256) : octs (l.map fun (n : Nat) => Va.int (n : Int)) = some (l.map UInt8.ofNat) := by
 induction l with
 | nil => rfl
 | cons a l ih =>
  rw [List.map_cons, za4 (by exact Int.natCast_nonneg _) (by have := h a (by simp); exact Int.ofNat_lt.mpr this) (ih fun n hn => h n (by simp [hn]))]
  simp
section
variable {r : Nat} {σ : Sto} {B : BP} {Q : QP}
noncomputable def wide (y : Int) : Int := if y % 11 = 10 then 18446744073709551615 else 128 ^ (y % 11).toNat - 1 + y / 11 % 2
theorem c_27 {y : Int} (hq : Q (.int (wide y)) σ) : zac tab (r+1) 27 [.int y] σ B Q := by
 apply ztm
 unfold b27
 walk_at "lw"
 walk_at "lw"
 refine ⟨by decide, ?_⟩
 unfold wide at hq
 by_cases h : y % 11 = 10
 ·rw [if_pos h] at hq; rw [if_pos (decide_eq_true h)]; exact ⟨σ, .refl σ, hq⟩
 ·rw [if_neg h] at hq
  walk_at "lw"
  simp only [h, decide_false, Bool.false_eq_true, if_false]
  walk_at "lw"
  refine ⟨by decide, ⟨by exact Int.emod_nonneg _ (by decide), by exact Int.le_of_lt (Int.lt_of_lt_of_le (Int.emod_lt_of_pos _ (by decide)) (by decide)), ⟨by decide, by decide⟩⟩, by decide, by decide, σ, .refl σ, hq⟩
theorem zm3 {k : Nat} (h : k < 10) : (128 : Int) ^ k ≤ 9223372036854775808 ∧ 1 ≤ (128 : Int) ^ k :=
 (by decide +kernel : ∀ k < 10, (128 : Int) ^ k ≤ 9223372036854775808 ∧ 1 ≤ (128 : Int) ^ k) k h
theorem zjf (y : Int) : 0 ≤ wide y ∧ wide y ≤ 18446744073709551615 := by
 unfold wide
 split
 ·decide
 ·have := zm3 (k := (y % 11).toNat) (by lia -abstractProof)
  lia -abstractProof
noncomputable def zm7 (i : Int) : Nat := ([9, 1, 128, 2, 127, 11, 130, 8] : List Nat).getD i.toNat 0
noncomputable def zgc (y : Int) : List UInt8 := ((List.replicate 44 [UInt8.ofNat (y % 256).toNat, 3, 255]).flatten).take (zm7 (y / 256 % 8))
theorem zkq {i : Int} (h0 : 0 ≤ i) (h : i < 8) : ([Va.int 9, Va.int 1, Va.int 128, Va.int 2, Va.int 127, Va.int 11, Va.int 130, Va.int 8] : List Va)[i.toNat]? = some (.int (zm7 i)) ∧ 1 ≤ zm7 i ∧ zm7 i ≤ 130 :=
 have hi : i.toNat < 8 := (Int.toNat_lt h0).mpr h
 ⟨(List.getElem?_map (f := fun n : Nat => Va.int n) (l := [9, 1, 128, 2, 127, 11, 130, 8]) (i := i.toNat)).trans (by rw [zm7, List.getD_eq_getElem?_getD, List.getElem?_eq_getElem hi]; rfl),
  (by decide +kernel : ∀ k < 8, 1 ≤ ([9, 1, 128, 2, 127, 11, 130, 8] : List Nat).getD k 0 ∧ ([9, 1, 128, 2, 127, 11, 130, 8] : List Nat).getD k 0 ≤ 130) _ hi⟩
theorem zm0 (n : Nat) (l : List UInt8) : (List.replicate n l).flatten.length = n * l.length := by rw [List.length_flatten, List.map_replicate, List.sum_replicate_nat]
theorem zhs (y : Int) : 1 ≤ (zgc y).length ∧ (zgc y).length ≤ 130 := by
 have := (zkq (i := y / 256 % 8) (Int.emod_nonneg _ (by decide)) (Int.emod_lt_of_pos _ (by decide))).2
 unfold zgc
 rw [List.length_take, zm0]
 exact ⟨Nat.le_min.mpr ⟨this.1, (by decide : 1 ≤ 44 * 3)⟩, Nat.le_trans (Nat.min_le_left _ _) this.2⟩
theorem c_30 {y : Int} (hq : Q (.bytes (zgc y)) σ) : zac tab (r+1) 30 [.int y] σ B Q := by
 refine ztj ?_
 refine And.intro (by decide) (fun a ha => ?_)
 refine za6 Sto.set_self (za4 (by exact Int.emod_nonneg _ (by decide)) (by exact Int.emod_lt_of_pos _ (by decide)) (za4 (by exact by decide) (by exact by decide) (za4 (by exact by decide) (by exact by decide) zc3))) ?_
 walk_at "lw"
 refine ⟨by simp, by decide, by decide, by simp, by decide, by decide, ?_⟩
 have := zkq (i := y / 256 % 8) (by exact Int.emod_nonneg _ (by decide)) (by exact Int.emod_lt_of_pos _ (by decide))
 refine zbw (by exact Int.emod_nonneg _ (by decide)) (by exact Int.lt_of_lt_of_le (Int.emod_lt_of_pos _ (by decide)) (by decide)) this.1 ?_
 refine zfa ?_
 walk_at "lw"
 exact ⟨⟨by exact Int.natCast_nonneg _, (zm0 44 _).symm ▸ (by decide : 44 * 3 ≤ 16777216)⟩, σ, Sto.le_set ha, hq⟩
theorem c_29 {y : Int} (hq : ∀ n, (n < 0 ∨ n = 0 ∧ y = 0 ∨ 18446744073709551615 < n ∨ (y < 0)) → (n = 18446744073709551616 + y ∨ n = 0 - y) → (y % 2 = 0 → n = 18446744073709551616 + y) → (y % 2 ≠ 0 → n = 0 - y) → Q (.int n) σ) : zac tab (r+1) 29 [.int y] σ B Q := by
 apply ztk
 unfold b29
 walk_at "lw"
 walk_at "lw"
 refine ⟨by decide, ?_⟩
 by_cases h : y % 2 = 0
 ·rw [if_pos (decide_eq_true h)]; exact ⟨σ, .refl σ, hq _ (by lia -abstractProof) (by exact .inl (Int.le_antisymm (Int.le_refl _) (Int.le_refl _))) (by lia -abstractProof) (by lia -abstractProof)⟩
 ·walk_at "lw"
  simp only [h, decide_false, Bool.false_eq_true, if_false]
  exact zax (hq _ (by lia -abstractProof) (by exact .inr (Int.le_antisymm (Int.le_refl _) (Int.le_refl _))) (by lia -abstractProof) (by lia -abstractProof))
noncomputable def Num (v : Va) : Prop := ∃ n : Nat, v = .int n ∧ n ≤ 18446744073709551615
noncomputable def Seqn (v : Va) : Prop := ∃ n : Nat, v = .int n ∧ n ≤ 72057594037927935
noncomputable def Key (v : Va) : Prop := ∃ b : List UInt8, v = .bytes b ∧ 1 ≤ b.length ∧ b.length ≤ 130
theorem zq8 {i : Int} (h0 : 0 ≤ i) (h : i ≤ 18446744073709551615) : Num (.int i) := ⟨i.toNat, by rw [Int.toNat_of_nonneg h0], by lia -abstractProof⟩
theorem zr3 {i : Int} (h0 : 0 ≤ i) (h : i ≤ 72057594037927935) : Seqn (.int i) := ⟨i.toNat, by rw [Int.toNat_of_nonneg h0], by lia -abstractProof⟩
theorem Seqn.num {v : Va} (h : Seqn v) : Num v := let ⟨n, e, k⟩ := h; ⟨n, e, by exact Nat.le_trans k (by decide)⟩
theorem zc4 (y : Int) : Num (.int (wide y)) := zq8 (zjf y).1 (zjf y).2
theorem zc6 (y : Int) : Key (.bytes (zgc y)) := ⟨_, rfl, zhs y⟩
theorem c_28 {y : Int} {v : Va} (hv : Num v) (hq : ∀ v, Num v → Q v σ) : zac tab (r+2) 28 [v, .int y] σ B Q := by
 obtain ⟨n, rfl, hn⟩ := hv
 refine ztl ?_
 refine c_27 ?_
 walk_at "lw"
 split
 ·refine c_27 ?_
  exact zax (hq _ (zc4 _))
 ·exact zax (hq _ (zc4 _))
theorem zi2 {y : Int} {v : Va} (hv : v = .none ∨ ∃ b, v = .bytes b) (hq : ∀ v, Key v → Q v σ) : zac tab (r+2) 37 [.int 0, v, .int y] σ B Q := by
 refine zn7 ?_
 walk_at "lw"
 try rw [if_pos (by decide)]
 refine c_30 ?_
 rcases hv with rfl | ⟨b, rfl⟩
 ·exact zax (hq _ (zc6 _))
 ·walk_at "lw"
  split
  ·refine c_30 ?_
   exact zax (hq _ (zc6 _))
  ·exact zax (hq _ (zc6 _))
theorem zk2 {y i : Int} {v : Va} (hi : i ≠ 0) (hv : v = .none ∨ ∃ b, v = .int b) (hq : ∀ v, Num v → (i = 3 → Seqn v) → Q v σ) : zac tab (r+2) 37 [.int i, v, .int y] σ B Q := by
 refine zn7 ?_
 refine zau (by simpa using hi) ?_
 refine c_27 ?_
 have hw := zjf y
 generalize wide y = x at hw
 have fin : ∀ z : Int, 0 ≤ z → z ≤ 18446744073709551615 → (i = 3 → z ≤ 72057594037927935) → ∃ τ, Sto.Le τ σ ∧ Q (.int z) τ := fun z h0 h1 h2 => ⟨σ, .refl σ, hq _ (zq8 h0 h1) fun e => zr3 h0 (h2 e)⟩
 by_cases h3 : i = 3
 ·refine zba (by simpa using h3) ?_
  have hz := mn_ok x 72057594037927935
  have h0 : 0 ≤ mn x 72057594037927935 := by lia -abstractProof
  have h1 : mn x 72057594037927935 ≤ 72057594037927935 := by exact hz.2.2
  rcases hv with rfl | ⟨b, rfl⟩
  ·walk_at "lw"
   try rw [if_neg (by decide)]
   exact fin _ h0 (by exact Int.le_trans h1 (by decide)) fun _ => h1
  ·walk_at "lw"
   split
   ·exact And.intro (by decide) (fin _ (by exact Int.add_nonneg (Int.ediv_nonneg h0 (by decide)) (by decide)) (by lia -abstractProof) fun _ => by lia -abstractProof)
   ·exact fin _ h0 (by exact Int.le_trans h1 (by decide)) fun _ => h1
 ·refine zau (by simpa using h3) ?_
  rcases hv with rfl | ⟨b, rfl⟩
  ·walk_at "lw"
   try rw [if_neg (by decide)]
   exact fin _ hw.1 hw.2 fun e => absurd e h3
  ·walk_at "lw"
   split
   ·exact And.intro (by decide) (fin _ (by exact Int.add_nonneg (Int.ediv_nonneg hw.1 (by decide)) (by decide)) (by lia -abstractProof) fun e => absurd e h3)
   ·exact fin _ hw.1 hw.2 fun e => absurd e h3
end
end
section
section
variable {r : Nat} {σ : Sto} {B : BP} {Q : QP}
theorem zhn {n : Nat} (h : 128 ≤ n) : (var n).length = (var (n / 128)).length + 1 := by rw [zct h, List.length_cons]
theorem c_6 {n most : Int} (hn : -(2 ^ 80) < n ∧ n < 2 ^ 80) (hm : most ≤ 18446744073709551615 ∧ 0 ≤ most) (hb : n < 0 ∨ most < n → B σ) (hq : ∀ m : Nat, n = m → n ≤ most → Q (.bytes (var m)) σ) : zac tab (r+1) 6 [.int n, .int most] σ B Q := by
 refine call_6 ?_
 walk_at "lw"
 by_cases h1 : n < 0
 ·refine zba (decide_eq_true h1) ?_
  walk_at "lw"
  simp only [zer, zgi, zjx]
  walk_at "lw"
  exact ⟨hn, ⟨by exact Int.lt_of_lt_of_le (by decide) hm.2, by exact Int.lt_of_le_of_lt hm.1 (by decide)⟩, σ, .refl σ, hb (.inl h1)⟩
 refine zau (by simpa using h1) ?_
 by_cases h2 : most < n
 ·refine zba (decide_eq_true h2) ?_
  walk_at "lw"
  simp only [zer, zgi, zjx]
  walk_at "lw"
  exact ⟨hn, ⟨by exact Int.lt_of_lt_of_le (by decide) hm.2, by exact Int.lt_of_lt_of_le h2 (Int.le_of_lt hn.2)⟩, σ, .refl σ, hb (.inr h2)⟩
 refine zau (by simpa using h2) ?_
 obtain ⟨m, rfl⟩ := Int.eq_ofNat_of_zero_le (show 0 ≤ n by exact Int.not_lt.mp h1)
 have hlen : (var m).length ≤ 10 := za1 (by lia -abstractProof)
 intro a ha
 refine ze7 (fun k s => Ex2 fun (i : Nat) (b : List UInt8) => A3 (s = ([some (.int i), some (.int most), some (.ref a)], σ.set a (.barr b))) (b ++ var i = var m) ((var i).length = k + 1)) ?_ ?_
  (n := (var m).length - 1) ⟨m, [], rfl, rfl, by have := zb8 m; exact (Nat.sub_add_cancel this).symm⟩
 ·intro k s kk hI hk
  obtain ⟨i, b, rfl, h3, h4⟩ := hI
  have hi : 128 ≤ i := by
   by_cases z : i < 128
   ·rw [za3 z] at h4; simp at h4
   ·exact Nat.not_lt.mp z
  have hbl : b.length + (var i).length = (var m).length := by rw [← h3, List.length_append]
  refine zba (by simp; exact Int.ofNat_le.mpr hi) ?_
  have e1 : Builtin.bitOr (Builtin.bitAnd i 127) 128 = ((i % 128 + 128 : Nat) : Int) := by
   have := zfy (x := (i : Int)) 7 (by exact Int.natCast_nonneg _)
   walk_at "lw"
   rw [show ((127 : Int)) = 2 ^ 7 - 1 from rfl]
   walk_at "lw"
   rw [this]
   walk_at "lw"
   rw [show (128 : Int) = 1 * 2 ^ 7 from rfl]
   walk_at "lw"
   rw [zgs 7 (by exact Int.emod_nonneg _ (by decide)) (by exact Int.emod_lt_of_pos _ (by decide)) (by decide)]
   simp
  walk_at "lw"
  rw [zcy Sto.set_self]
  walk_at "lw"
  rw [zej Sto.set_self]
  walk_at "lw"
  rw [e1]
  walk_at "lw"
  rw [zd0 Sto.set_self]
  walk_at "lw"
  refine ⟨.inr (by trivial), rfl, ⟨by exact Int.natCast_nonneg _, by exact Int.ofNat_lt.mpr (Nat.add_lt_add_right (Nat.mod_lt _ (by decide)) 128), by unfold zap; exact Nat.lt_of_le_of_lt (Nat.le_trans (Nat.le_add_right _ _) (Nat.le_of_eq hbl)) (Nat.lt_of_le_of_lt hlen (by decide))⟩, ?_⟩
  walk_at "lw"
  rw [Sto.set_set]
  refine And.intro (by decide) ?_
  refine hk _ ⟨i / 128, b ++ [UInt8.ofNat (i % 128 + 128)], ?_, ?_, ?_⟩
  ·congr 1
  ·rw [← h3, zct hi]; simp
  ·have := zhn hi; lia -abstractProof
 ·rintro s kk ⟨i, b, rfl, h3, h4⟩
  have hi : i < 128 := by
   by_cases z : i < 128
   ·exact z
   ·have := zhn (show 128 ≤ i by exact Nat.not_lt.mp z); have := zb8 (i / 128); lia -abstractProof
  have hbl : b.length + (var i).length = (var m).length := by rw [← h3, List.length_append]
  refine zau (by simp; exact Int.ofNat_lt.mpr hi) ?_
  walk_at "lw"
  rw [zcy Sto.set_self]
  walk_at "lw"
  rw [zej Sto.set_self]
  walk_at "lw"
  rw [zd0 Sto.set_self]
  walk_at "lw"
  refine ⟨.inr (by trivial), rfl, ⟨by exact Int.natCast_nonneg _, by exact Int.ofNat_lt.mpr (Nat.lt_of_lt_of_le hi (by decide)), by unfold zap; exact Nat.lt_of_le_of_lt (Nat.le_trans (Nat.le_add_right _ _) (Nat.le_of_eq hbl)) (Nat.lt_of_le_of_lt hlen (by decide))⟩, ?_⟩
  walk_at "lw"
  rw [Sto.set_set]
  refine zdp Sto.set_self ?_
  walk_at "lw"
  rw [Int.toNat_natCast]
  walk_at "lw"
  rw [← za3 hi]
  walk_at "lw"
  rw [h3]
  walk_at "lw"
  exact ⟨by exact Nat.le_trans hlen (by decide), σ, Sto.le_set ha, hq m rfl (by exact Int.not_lt.mp h2)⟩
theorem c_8 {n : Int} (hn : -(2 ^ 80) < n ∧ n < 2 ^ 80) (hb : n < 0 ∨ 18446744073709551615 < n → B σ) (hq : ∀ m : Nat, n = m → n ≤ 18446744073709551615 → Q (.bytes (var m)) σ) : zac tab (r+2) 8 [.int n] σ B Q := by
 apply call_8
 unfold b8
 walk_at "lw"
 have big : zac tab (r + 1) 6 [.int n, .int 18446744073709551615] σ (ExB B) (ExR Q) :=
  c_6 hn (by decide) (fun h => ⟨σ, .refl σ, hb h⟩) fun m e h => ⟨σ, .refl σ, hq m e h⟩
 by_cases h0 : 0 ≤ n
 ·walk_at "lw"
  rw [if_pos (decide_eq_true h0)]
  by_cases h1 : n < 128
  ·walk_at "lw"
   rw [if_pos (decide_eq_true h1)]
   walk_at "lw"
   intro a ha
   walk_at "lw"
   rw [zdl Sto.set_self (za4 h0 (by exact Int.lt_of_lt_of_le h1 (by decide)) zc3)]
   walk_at "lw"
   refine ⟨σ, Sto.le_set ha, ?_⟩
   have := hq n.toNat (by lia -abstractProof) (by exact Int.le_of_lt (Int.lt_of_lt_of_le h1 (by decide)))
   rwa [za3 (by exact zkg h1 (by decide))] at this
  ·rw [if_neg (by simpa using h1)]; exact big
 ·refine zau (by simpa using h0) ?_
  exact big
theorem c_10 {n : Int} (h0 : 0 ≤ n) (h : n ≤ 4294967295) (hq : ∀ m : Nat, n = m → Q (.bytes (var m)) σ) : zac tab (r+2) 10 [.int n] σ B Q := by
 refine ztx ?_
 refine zba (decide_eq_true h0) ?_
 by_cases h1 : n < 128
 ·refine zba (decide_eq_true h1) ?_
  intro a ha
  refine za6 Sto.set_self (za4 h0 (by exact Int.lt_of_lt_of_le h1 (by decide)) zc3) ?_
  walk_at "lw"
  refine ⟨σ, Sto.le_set ha, ?_⟩
  have := hq n.toNat (by lia -abstractProof)
  rwa [za3 (by exact zkg h1 (by decide))] at this
 ·refine zau (by simpa using h1) ?_
  walk_at "lw"
  exact c_6 ⟨by exact Int.lt_of_lt_of_le (by decide) (Int.not_lt.mp h1), by exact Int.lt_of_le_of_lt h (by decide)⟩ (by decide) (fun h => by lia -abstractProof) fun m e h => ⟨σ, .refl σ, hq m e⟩
theorem c_12 {n : Int} (hn : -(2 ^ 80) < n ∧ n < 2 ^ 80) (hb : n < 0 ∨ 4294967295 < n → B σ) (hq : ∀ m : Nat, n = m → n ≤ 4294967295 → Q (.bytes (fix m)) σ) : zac tab (r+1) 12 [.int n] σ B Q := by
 refine ztv ?_
 walk_at "lw"
 by_cases h1 : n < 0
 ·refine zba (decide_eq_true h1) ?_
  walk_at "lw"
  simp only [zer, zgi]
  walk_at "lw"
  exact ⟨hn, σ, .refl σ, hb (.inl h1)⟩
 refine zau (by simpa using h1) ?_
 by_cases h2 : 4294967295 < n
 ·refine zba (decide_eq_true h2) ?_
  walk_at "lw"
  simp only [zer, zgi]
  walk_at "lw"
  exact ⟨hn, σ, .refl σ, hb (.inr h2)⟩
 walk_at "lw"
 refine zau (by simpa using h2) ?_
 obtain ⟨m, rfl⟩ := Int.eq_ofNat_of_zero_le (show 0 ≤ n by exact Int.not_lt.mp h1)
 walk_at "lw"
 refine ⟨by decide, by decide, by decide, fun a ha => ?_⟩
 have e : ∀ x : Int, 0 ≤ x → Builtin.bitAnd x 255 = x % 256 := fun x hx => zfy 8 hx
 walk_at "lw"
 simp only [show (2 : Int) ^ (8 : Int).toNat = 256 from rfl, show (2 : Int) ^ (16 : Int).toNat = 65536 from rfl, show (2 : Int) ^ (24 : Int).toNat = 16777216 from rfl]
 walk_at "lw"
 rw [e _ (by exact Int.not_lt.mp h1)]
 walk_at "lw"
 rw [e _ (by exact Int.ediv_nonneg (Int.not_lt.mp h1) (by decide))]
 walk_at "lw"
 rw [e _ (by exact Int.ediv_nonneg (Int.not_lt.mp h1) (by decide))]
 refine za6 Sto.set_self (za4 (by exact Int.emod_nonneg _ (by decide)) (by exact Int.emod_lt_of_pos _ (by decide)) (za4 (by exact Int.emod_nonneg _ (by decide)) (by exact Int.emod_lt_of_pos _ (by decide)) (za4 (by exact Int.emod_nonneg _ (by decide)) (by exact Int.emod_lt_of_pos _ (by decide)) (za4 (by exact Int.ediv_nonneg (Int.not_lt.mp h1) (by decide)) (by lia -abstractProof) zc3)))) ?_
 walk_at "lw"
 refine ⟨σ, Sto.le_set ha, ?_⟩
 have := hq m rfl (by exact Int.not_lt.mp h2)
 have e4 : fix m = [UInt8.ofNat ((m : Int) % 256).toNat, UInt8.ofNat ((m : Int) / 256 % 256).toNat, UInt8.ofNat ((m : Int) / 65536 % 256).toNat, UInt8.ofNat ((m : Int) / 16777216).toNat] := by
  unfold fix
  have e5 : m / 16777216 % 256 = m / 16777216 := by lia -abstractProof
  walk_at "lw"
  rw [e5]
  rfl
 rwa [e4] at this
end
end
section
section
variable {r : Nat} {σ : Sto} {B : BP} {Q : QP}
theorem p128 (k : Nat) : (128 : Int) ^ ((k : Nat) : Int).toNat = ((128 ^ k : Nat) : Int) := by simp
theorem c_31 {n : Nat} (hn : n ≤ 18446744073709551615) (hq : Q (.bytes (var n)) σ) : zac tab (r+1) 31 [.int n] σ B Q := by
 refine zti ?_
 walk_at "lw"
 have hlen := za1 hn
 have hpos := zb8 n
 refine ze7 (fun k s => ∃ (g : Nat), A3 (s = ([some (.int n), some (.int g)], σ)) (1 ≤ g) (g + k = (var n).length)) ?_ ?_
  (n := (var n).length - 1) ⟨1, rfl, by exact Nat.le_refl _, by exact Nat.add_sub_of_le hpos⟩
 ·intro k s kk hI hk
  obtain ⟨g, rfl, h1, h2⟩ := hI
  walk_at "lw"
  rw [p128]
  have : ¬ n < 128 ^ g := by
   obtain ⟨j, rfl⟩ : ∃ j, g = j + 1 := ⟨g - 1, by exact (Nat.sub_add_cancel h1).symm⟩
   rw [var_len]; lia
  refine And.intro ⟨by exact Int.natCast_nonneg _, by exact Int.ofNat_le.mpr (Nat.le_trans (Nat.le_trans (Nat.le_add_right _ _) (Nat.le_of_eq h2)) (Nat.le_trans hlen (by decide))), ze9 (by decide) (by decide)⟩ ?_
  refine zba (decide_eq_true (Int.ofNat_le.mpr (by exact Nat.not_lt.mp this))) ?_
  exact hk _ ⟨g + 1, rfl, by exact Nat.le_add_left _ _, by lia⟩
 ·rintro s kk ⟨g, rfl, h1, h2⟩
  walk_at "lw"
  rw [p128]
  have : n < 128 ^ g := by
   obtain ⟨j, rfl⟩ : ∃ j, g = j + 1 := ⟨g - 1, by exact (Nat.sub_add_cancel h1).symm⟩
   rw [var_len]; lia
  have hg : g = (var n).length := by lia
  refine And.intro ⟨by exact Int.natCast_nonneg _, by exact Int.ofNat_le.mpr (Nat.le_trans (Nat.le_of_eq hg) (Nat.le_trans hlen (by decide))), ze9 (by decide) (by decide)⟩ ?_
  refine zau (fun z => absurd (Int.ofNat_le.mp (of_decide_eq_true z)) (by exact Nat.not_le.mpr this)) ?_
  refine And.intro ⟨by exact by decide, by exact by decide, by exact Int.lt_of_lt_of_le (by decide) (Int.natCast_nonneg _), by exact Int.ofNat_lt.mpr (Nat.lt_of_le_of_lt (Nat.le_of_eq hg) (Nat.lt_of_le_of_lt hlen (by decide)))⟩ ?_
  refine zbi (N := g) (fun k s => s = (σ, (List.range k).map fun i => Va.int (varI n i : Nat))) ?_ ?_ rfl
  ·rintro k s kk hk rfl hs
   walk_at "lw"
   refine ⟨.int k, by simp [za2]; exact hk, ?_⟩
   walk_at "lw"
   simp only [zem, asP, zfs]
   walk_at "lw"
   rw [p128]
   walk_at "lw"
   refine ⟨⟨by exact Int.natCast_nonneg _, by lia, ze9 (by decide) (by decide)⟩, ⟨?_, ?_⟩, by decide, ?_⟩
   ·exact Int.ofNat_lt.mpr (Nat.pow_pos (by decide))
   ·have : 128 ^ k ≤ 128 ^ 9 := Nat.pow_le_pow_right (by decide) (by lia)
    have e : 128 ^ 9 = 9223372036854775808 := by decide
    exact Int.ofNat_lt.mpr (show 128 ^ k < 18446744073709551616 by exact Nat.lt_of_le_of_lt this (by decide))
   have fin : ∀ x : Int, x = varI n k → (List.map (fun i => Va.int ↑(varI n i)) (List.range k)).length < zap ∧ kk (σ, List.map (fun i => Va.int ↑(varI n i)) (List.range k) ++ [.int x]) := fun x e => by
    refine And.intro (by simp [zap]; exact Nat.lt_of_lt_of_le hk (Nat.le_trans (Nat.le_of_eq hg) (Nat.le_trans hlen (by decide)))) (hs _ ?_)
    rw [List.range_succ, List.map_append, e]; rfl
   by_cases hl : k + 1 < (var n).length
   ·refine zba (by simp; lia) ?_
    refine fin _ ?_
    unfold varI; rw [if_pos hl]; simp
   ·refine zau (by simp; lia) ?_
    refine fin _ ?_
    unfold varI; rw [if_neg hl]; simp
  ·rintro s rfl
   refine And.intro (by simp [za2]) (fun a ha => ?_)
   have e : (List.range g).map (fun i => Va.int (varI n i : Nat)) = ((List.range g).map (varI n)).map fun (m : Nat) => Va.int (m : Int) := by rw [List.map_map]; rfl
   walk_at "lw"
   rw [e, zdl Sto.set_self (zkp fun m hm => by
    obtain ⟨i, _, rfl⟩ := List.mem_map.mp hm
    exact zrn n i), List.map_map]
   walk_at "lw"
   refine ⟨σ, Sto.le_set ha, ?_⟩
   rw [zrm n, ← hg] at hq
   exact hq
noncomputable def text (b : List UInt8) : List UInt8 := var b.length ++ b
theorem text_len {b : List UInt8} (h : b.length ≤ 1000) : (text b).length ≤ 1010 := by
 unfold text; rw [List.length_append]; have := za1 (show b.length ≤ _ by exact Nat.le_trans h (by decide)); exact Nat.le_trans (Nat.add_le_add this h) (by decide)
theorem c_32 {b : List UInt8} (hb : b.length ≤ 1000) (hq : Q (.bytes (text b)) σ) : zac tab (r+2) 32 [.bytes b] σ B Q := by
 refine zth ?_
 refine And.intro (by exact Nat.le_trans hb (by decide)) (c_31 (by exact Nat.le_trans hb (by decide)) ⟨?_, σ, .refl σ, hq⟩)
 have := za1 (show b.length ≤ _ by exact Nat.le_trans hb (by decide)); exact Nat.le_trans (Nat.add_le_add this hb) (by decide)
theorem zew {α : Type} {l r : List α} {x : α} {k : Nat} (h : l.drop k = x :: r) : l[k]? = some x ∧ l.drop (k + 1) = r ∧ k < l.length := by
 have h1 : k < l.length := by
  by_cases z : k < l.length
  ·exact z
  ·rw [List.drop_eq_nil_of_le (by exact Nat.not_lt.mp z)] at h; cases h
 rw [List.drop_eq_getElem_cons h1] at h
 cases h
 exact ⟨List.getElem?_eq_getElem h1, rfl, h1⟩
theorem zex {α : Type} {l p r : List α} {k : Nat} (h : l.drop k = p ++ r) : l.drop (k + p.length) = r ∧ (k ≤ l.length → k + p.length ≤ l.length) ∧ (l.take (k + p.length)).drop k = p := by
 refine ⟨?_, fun hk => ?_, ?_⟩
 ·rw [← List.drop_drop, h]; simp
 ·have := congrArg List.length h
  simp at this; lia
 ·rw [List.drop_take, h]; simp
theorem c_7 {data rest : List UInt8} {at' n k most : Nat} (hd : data.drop at' = var n ++ rest) (hl : data.length ≤ 16777216) (hn : n ≤ most) (hk : (var n).length ≤ k) (hk' : k ≤ 10)
  (hq : Q (.tup [.int n, .int ((at' + (var n).length : Nat) : Int)]) σ) : zac tab (r+1) 7 [.bytes data, .int at', .int k, .int most] σ B Q := by
 apply call_7
 unfold b7
 walk_at "lw"
 walk_at "lw"
 rw [if_neg (by simp)]
 refine And.intro ⟨by exact by decide, by exact by decide, by exact Int.lt_of_lt_of_le (by decide) (Int.natCast_nonneg _), by exact Int.ofNat_lt.mpr (Nat.lt_of_le_of_lt hk' (by decide))⟩ ?_
 refine zbi (N := k) (fun m s => Ex4 fun (acc n' : Nat) (x y : Option Va) => A5 (s = ([some (.bytes data), some (.int ((at' + m : Nat) : Int)), some (.int k), some (.int most), some (.int acc), some (.int ((7 * m : Nat) : Int)), x, y], σ)) (n = acc + n' * 2 ^ (7 * m)) (acc < 2 ^ (7 * m)) (m + (var n').length = (var n).length) (data.drop (at' + m) = var n' ++ rest)) ?_ ?_ ⟨0, n, none, none, rfl, by simp, by simp, by simp, hd⟩
 ·intro m s kk hm hI hs
  obtain ⟨acc, n', x, y, rfl, h1, h2, h3, h4⟩ := hI
  walk_at "lw"
  refine ⟨.int m, by simp [za2]; exact hm, ?_⟩
  obtain ⟨o, tl, ho⟩ : Ex2 fun o tl => var n' ++ rest = o :: tl := by
   cases z : var n' with
   | nil => have := zb8 n'; rw [z] at this; simp at this
   | cons o tl => exact ⟨o, tl ++ rest, rfl⟩
  obtain ⟨g1, g2, g3⟩ := zew (h4.trans ho)
  refine And.intro hl ?_
  refine zau (by simp; lia) ?_
  refine za8 (x := o) (by exact Int.natCast_nonneg _) hl (by rw [Int.toNat_natCast]; exact g1) ?_
  have hs7 : ((7 * m : Nat) : Int).toNat = 7 * m := Int.toNat_natCast _
  have eb : Builtin.bitOr (acc : Int) (Builtin.bitAnd (o.toNat : Int) 127 * 2 ^ ((7 * m : Nat) : Int).toNat) = ((acc + o.toNat % 128 * 2 ^ (7 * m) : Nat) : Int) := by
   have := zfy (x := (o.toNat : Int)) 7 (by exact Int.natCast_nonneg _)
   walk_at "lw"
   rw [hs7]
   walk_at "lw"
   rw [show ((127 : Int)) = 2 ^ 7 - 1 from rfl]
   walk_at "lw"
   rw [this]
   walk_at "lw"
   rw [zgs (7 * m) (by exact Int.natCast_nonneg _) (by simpa using Int.ofNat_lt.mpr h2) (by exact Int.emod_nonneg _ (by decide))]
   simp
  have sm : Sm (Builtin.bitAnd (o.toNat : Int) 127) := by
   have := zfy (x := (o.toNat : Int)) 7 (by exact Int.natCast_nonneg _)
   walk_at "lw"
   rw [show ((127 : Int)) = 2 ^ 7 - 1 from rfl]
   walk_at "lw"
   rw [this]
   exact And.intro (by lia) (by exact Int.lt_of_lt_of_le (Int.emod_lt_of_pos _ (by decide)) (by decide))
  walk_at "lw"
  rw [eb]
  refine And.intro ⟨by exact Int.natCast_nonneg _, by lia, sm⟩ ?_
  by_cases hi : n' < 128
  ·have e := za3 hi
   obtain ⟨rfl, rfl⟩ := zot hi ho
   have e2 : (UInt8.ofNat n').toNat = n' := za5 (by exact Nat.lt_of_lt_of_le hi (by decide))
   have e3 : acc + n' % 128 * 2 ^ (7 * m) = n := by rw [Nat.mod_eq_of_lt hi]; exact h1.symm
   walk_at "lw"
   rw [e2]
   walk_at "lw"
   rw [e3]
   refine zba (by simp; exact Int.ofNat_lt.mpr hi) ?_
   refine zau (by simp; exact hn) ?_
   refine zax ?_
   walk_at "lw"
   rw [show ((at' + m : Nat) : Int) + 1 = ((at' + (var n).length : Nat) : Int) by rw [← h3, e]; simp; lia]
   exact hq
  ·have hi' : 128 ≤ n' := by exact Nat.not_lt.mp hi
   have e := zct hi'
   obtain ⟨rfl, rfl⟩ := zov hi' ho
   have e2 : (UInt8.ofNat (n' % 128 + 128)).toNat = n' % 128 + 128 := za5 (by exact Nat.add_lt_add_right (Nat.mod_lt _ (by decide)) 128)
   walk_at "lw"
   rw [e2]
   refine zau (by simp; lia) ?_
   refine hs _ ⟨acc + n' % 128 * 2 ^ (7 * m), n' / 128, some (.int m), some (.int ((n' % 128 + 128 : Nat) : Int)), ?_, ?_, ?_, ?_, ?_⟩
   ·walk_at "lw"
    simp only [Nat.add_mod_right, Nat.mod_mod]
    walk_at "lw"
    rw [show ((at' + m : Nat) : Int) + 1 = ((at' + (m + 1) : Nat) : Int) by simp; lia]
    walk_at "lw"
    rw [show ((7 * m : Nat) : Int) + 7 = ((7 * (m + 1) : Nat) : Int) by simp; lia]
   ·walk_at "lw"
    rw [Nat.mul_add]
    walk_at "lw"
    rw [Nat.pow_add]
    walk_at "lw"
    rw [h1]
    have : n' = n' % 128 + n' / 128 * 128 := by lia
    generalize 2 ^ (7 * m) = p
    conv => lhs; rw [this]
    walk_at "lw"
    rw [Nat.add_mul]
    walk_at "lw"
    rw [Nat.add_assoc]
    walk_at "lw"
    rw [Nat.mul_assoc (n' / 128)]
    walk_at "lw"
    rw [Nat.mul_comm p]
   ·walk_at "lw"
    rw [Nat.mul_add]
    walk_at "lw"
    rw [Nat.pow_add]
    have : n' % 128 * 2 ^ (7 * m) ≤ 127 * 2 ^ (7 * m) := Nat.mul_le_mul_right _ (by lia)
    lia
   ·have := zhn hi'; lia
   ·exact g2
 ·rintro s ⟨acc, n', x, y, rfl, h1, h2, h3, h4⟩
  exfalso
  have := zb8 n'
  lia
theorem c_9 {data rest : List UInt8} {at' n : Nat} (hd : data.drop at' = var n ++ rest) (hl : data.length ≤ 16777216) (hn : n ≤ 18446744073709551615)
  (hq : Q (.tup [.int n, .int ((at' + (var n).length : Nat) : Int)]) σ) : zac tab (r+2) 9 [.bytes data, .int at'] σ B Q := by
 apply call_9
 unfold b9
 walk_at "lw"
 have big : zac tab (r + 1) 7 [.bytes data, .int at', .int 10, .int 18446744073709551615] σ (ExB B) (ExR Q) :=
  c_7 (k := 10) (most := 18446744073709551615) hd hl hn (za1 hn) (by decide) ⟨σ, .refl σ, hq⟩
 walk_at "lw"
 rw [if_pos (by simp)]
 obtain ⟨o, tl, ho⟩ : Ex2 fun o tl => var n ++ rest = o :: tl := by
  cases z : var n with
  | nil => have := zb8 n; rw [z] at this; simp at this
  | cons o tl => exact ⟨o, tl ++ rest, rfl⟩
 obtain ⟨g1, g2, g3⟩ := zew (hd.trans ho)
 refine And.intro hl ?_
 refine zba (decide_eq_true (by exact Int.ofNat_lt.mpr g3)) ?_
 refine za8 (x := o) (by exact Int.natCast_nonneg _) hl (by rw [Int.toNat_natCast]; exact g1) ?_
 walk_at "lw"
 by_cases h : n < 128
 ·have e := za3 h
  obtain ⟨rfl, rfl⟩ := zot h ho
  have e2 : (UInt8.ofNat n).toNat = n := za5 (by exact Nat.lt_of_lt_of_le h (by decide))
  walk_at "lw"
  rw [e2]
  refine zba (decide_eq_true (by exact Int.ofNat_lt.mpr h)) ?_
  refine za8 (x := UInt8.ofNat n) (by exact Int.natCast_nonneg _) hl (by rw [Int.toNat_natCast]; exact g1) ?_
  walk_at "lw"
  rw [e2]
  refine zax ?_
  rw [e] at hq
  exact hq
 ·obtain ⟨rfl, rfl⟩ := zov (by exact Nat.not_lt.mp h) ho
  walk_at "lw"
  rw [za5 (by exact Nat.add_lt_add_right (Nat.mod_lt _ (by decide)) 128)]
  refine zau (fun z => absurd (of_decide_eq_true z) (by exact Int.not_lt.mpr (Int.ofNat_le.mpr (Nat.le_add_left _ _)))) ?_
  exact big
theorem c_11 {data rest : List UInt8} {at' n : Nat} (hd : data.drop at' = var n ++ rest) (hl : data.length ≤ 16777216) (hn : n ≤ 4294967295)
  (hq : Q (.tup [.int n, .int ((at' + (var n).length : Nat) : Int)]) σ) : zac tab (r+2) 11 [.bytes data, .int at'] σ B Q := by
 apply ztw
 unfold b11
 walk_at "lw"
 have big : zac tab (r + 1) 7 [.bytes data, .int at', .int 5, .int 4294967295] σ (ExB B) (ExR Q) :=
  c_7 (k := 5) (most := 4294967295) hd hl hn (zou hn) (by decide) ⟨σ, .refl σ, hq⟩
 walk_at "lw"
 rw [if_pos (by simp)]
 obtain ⟨o, tl, ho⟩ : Ex2 fun o tl => var n ++ rest = o :: tl := by
  cases z : var n with
  | nil => have := zb8 n; rw [z] at this; simp at this
  | cons o tl => exact ⟨o, tl ++ rest, rfl⟩
 obtain ⟨g1, g2, g3⟩ := zew (hd.trans ho)
 refine And.intro hl ?_
 refine zba (decide_eq_true (by exact Int.ofNat_lt.mpr g3)) ?_
 refine za8 (x := o) (by exact Int.natCast_nonneg _) hl (by rw [Int.toNat_natCast]; exact g1) ?_
 walk_at "lw"
 by_cases h : n < 128
 ·have e := za3 h
  obtain ⟨rfl, rfl⟩ := zot h ho
  have e2 : (UInt8.ofNat n).toNat = n := za5 (by exact Nat.lt_of_lt_of_le h (by decide))
  walk_at "lw"
  rw [e2]
  refine zba (decide_eq_true (by exact Int.ofNat_lt.mpr h)) ?_
  refine za8 (x := UInt8.ofNat n) (by exact Int.natCast_nonneg _) hl (by rw [Int.toNat_natCast]; exact g1) ?_
  walk_at "lw"
  rw [e2]
  refine zax ?_
  rw [e] at hq
  exact hq
 ·obtain ⟨rfl, rfl⟩ := zov (by exact Nat.not_lt.mp h) ho
  walk_at "lw"
  rw [za5 (by exact Nat.add_lt_add_right (Nat.mod_lt _ (by decide)) 128)]
  refine zau (fun z => absurd (of_decide_eq_true z) (by exact Int.not_lt.mpr (Int.ofNat_le.mpr (Nat.le_add_left _ _)))) ?_
  exact big
end
end
section
section
variable {r : Nat} {σ : Sto} {B : BP} {Q : QP}
theorem i15 : ini 15 = some 200 := rfl
theorem i16 : ini 16 = some 210 := rfl
theorem i17 : ini 17 = some 219 := rfl
theorem i18 : ini 18 = some 221 := rfl
theorem i23 : ini 23 = some 224 := rfl
theorem i24 : ini 24 = some 227 := rfl
theorem zh6 {α : Type} {l p : List α} {k : Nat} (h : l.drop k = p) (i : Nat) : l[k + i]? = p[i]? := by rw [← h, List.getElem?_drop]
theorem c_13 {data rest : List UInt8} {k n : Nat} (hd : data.drop k = fix n ++ rest) (hl : data.length ≤ 16777216) (hn : n ≤ 4294967295)
  (hq : Q (.int n) σ) : zac tab (r+1) 13 [.bytes data, .int k] σ B Q := by
 apply ztu
 unfold b13
 walk_at "lw"
 have hlen : k + 4 ≤ data.length := by
  have := congrArg List.length hd
  simp [fix] at this; lia -abstractProof
 have d0 := zh6 hd 0
 have d1 := zh6 hd 1
 have d2 := zh6 hd 2
 have d3 := zh6 hd 3
 walk_at "lw"
 simp only [fix, List.cons_append, List.getElem?_cons_zero, List.getElem?_cons_succ] at d0 d1 d2 d3
 walk_at "lw"
 rw [if_neg (by simp)]
 refine And.intro hl ?_
 refine zau (fun z => absurd (of_decide_eq_true z) (by lia -abstractProof)) ?_
 refine za8 (by exact Int.natCast_nonneg _) hl (by rw [Int.toNat_natCast]; exact d0) ?_
 refine za8 (by exact Int.add_nonneg (Int.natCast_nonneg _) (by decide)) hl (by rw [show ((k : Int) + 1).toNat = k + 1 by lia -abstractProof]; exact d1) ?_
 walk_at "lw"
 walk_at "lw"
 rw [zhi (by exact Int.add_nonneg (Int.natCast_nonneg _) (by decide)) hl (by rw [show ((k : Int) + 2).toNat = k + 2 by lia -abstractProof]; exact d2)]
 walk_at "lw"
 walk_at "lw"
 rw [zhi (by exact Int.add_nonneg (Int.natCast_nonneg _) (by decide)) hl (by rw [show ((k : Int) + 3).toNat = k + 3 by lia -abstractProof]; exact d3)]
 walk_at "lw"
 rw [za5 (by exact Nat.mod_lt _ (by decide))]
 walk_at "lw"
 rw [za5 (by exact Nat.mod_lt _ (by decide))]
 walk_at "lw"
 rw [za5 (by exact Nat.mod_lt _ (by decide))]
 walk_at "lw"
 rw [za5 (by exact Nat.mod_lt _ (by decide))]
 walk_at "lw"
 rw [show (8 : Int).toNat = 8 from rfl]
 walk_at "lw"
 rw [show (16 : Int).toNat = 16 from rfl]
 walk_at "lw"
 rw [show (24 : Int).toNat = 24 from rfl]
 walk_at "lw"
 rw [zgs 8 (by exact Int.natCast_nonneg _) (by lia -abstractProof) (by exact Int.natCast_nonneg _)]
 walk_at "lw"
 rw [zgs 16 (by lia -abstractProof) (by lia -abstractProof) (by exact Int.natCast_nonneg _)]
 walk_at "lw"
 rw [zgs 24 (by lia -abstractProof) (by lia -abstractProof) (by exact Int.natCast_nonneg _)]
 walk_at "lw"
 refine ⟨⟨by exact by decide, by exact by decide, ze9 (by exact Int.natCast_nonneg _) (by omega)⟩, ⟨by exact by decide, by exact by decide, ze9 (by exact Int.natCast_nonneg _) (by omega)⟩, ⟨by exact by decide, by exact by decide, ze9 (by exact Int.natCast_nonneg _) (by omega)⟩, σ, .refl σ, ?_⟩
 have e : ((n % 256 : Nat) : Int) + ((n / 256 % 256 : Nat) : Int) * 2 ^ 8 + ((n / 65536 % 256 : Nat) : Int) * 2 ^ 16 + ((n / 16777216 % 256 : Nat) : Int) * 2 ^ 24 = (n : Int) := by omega
 rw [e]; exact hq
theorem c_14 {data rest b : List UInt8} {k : Nat} (hd : data.drop k = text b ++ rest) (hl : data.length ≤ 16777216) (hb : b.length ≤ 1000)
  (hq : Q (.tup [.bytes b, .int ((k + (text b).length : Nat) : Int)]) σ) : zac tab (r+3) 14 [.bytes data, .int k] σ B Q := by
 refine ztt ?_
 walk_at "lw"
 unfold text at hd hq
 rw [List.append_assoc] at hd
 refine c_11 hd hl (by exact Nat.le_trans hb (by decide)) ?_
 walk_at "lw"
 obtain ⟨h1, h2, h3⟩ := zex hd
 have hk : k + (var b.length).length + b.length ≤ data.length := by
  have := congrArg List.length hd
  walk_at "lw"
  simp only [List.length_drop, List.length_append] at this
  have := zb8 b.length
  lia -abstractProof
 refine And.intro hl ?_
 refine zau (fun z => absurd (of_decide_eq_true z) (by lia -abstractProof)) ?_
 have h4 := (zex h1).2.2
 walk_at "lw"
 refine ⟨_, _, _, rfl, rfl, rfl, ⟨by exact Int.natCast_nonneg _, by lia -abstractProof, by lia -abstractProof, hl⟩, ?_⟩
 refine zax ?_
 walk_at "lw"
 rw [show (((k + (var b.length).length : Nat) : Int) + (b.length : Int)).toNat = k + (var b.length).length + b.length by lia -abstractProof]
 walk_at "lw"
 rw [Int.toNat_natCast]
 walk_at "lw"
 rw [h4]
 rw [List.length_append, ← Nat.add_assoc] at hq
 exact hq
noncomputable abbrev Cur (data : List UInt8) (k : Nat) : UOb := .inst 15 [(1, .bytes data), (2, .int (k : Int))]
theorem zc0 {c : Addr} {data : List UInt8} {k : Nat} {kv : Va → Prop} (hc : σ c = some (Cur data k)) (q : kv (.bytes data)) : attrW σ (.ref c) 1 kv := zar hc rfl q
theorem zdw {c : Addr} {data : List UInt8} {k : Nat} {kv : Va → Prop} (hc : σ c = some (Cur data k)) (q : kv (.int k)) : attrW σ (.ref c) 2 kv := zar hc rfl q
theorem zpr {c : Addr} {data : List UInt8} {k : Nat} {kv : Va → Prop} (hc : σ c = some (Cur data k)) : attrW σ (.ref c) 1 kv = kv (.bytes data) := zcn hc rfl
theorem cur_at {c : Addr} {data : List UInt8} {k : Nat} {kv : Va → Prop} (hc : σ c = some (Cur data k)) : attrW σ (.ref c) 2 kv = kv (.int k) := zcn hc rfl
theorem zh7 {c : Addr} {data : List UInt8} {k : Nat} {n : Int} {kv : Sto → Prop} (hc : σ c = some (Cur data k)) (m : Nat) (hn : n = m) : setAttrW σ (.ref c) 2 (.int n) kv = kv (σ.set c (Cur data m)) := by
 subst hn
 rw [zjm hc]
 exact propext ⟨fun h => h.2, fun h => ⟨show 2 ≤ 50 by decide, h⟩⟩
theorem c_200 {c : Addr} {data : List UInt8} (hl : data.length ≤ 16777216) (hc : σ c = some (.inst 15 [])) (hq : Q .none (σ.set c (Cur data 0))) : zac tab (r+1) 200 [.ref c, .bytes data] σ B Q := by
 apply zn8
 unfold b200
 walk_at "lw"
 try rw [if_neg (by decide)]
 refine And.intro hl ?_
 refine zau (by simp) ?_
 refine zad hc ?_
 refine And.intro (by simp) ?_
 refine zad Sto.set_self ?_
 walk_at "lw"
 rw [Sto.set_set]
 walk_at "lw"
 exact ⟨by simp [setF], _, .refl _, hq⟩
theorem c_201 {c : Addr} {data : List UInt8} {k : Nat} (hl : data.length ≤ 16777216) (hc : σ c = some (Cur data k)) (hq : Q (.int ((data.length : Int) - k)) σ) : zac tab (r+1) 201 [.ref c] σ B Q := by
 refine zqk ?_
 refine zc0 hc ?_
 walk_at "lw"
 walk_at "lw"
 rw [cur_at hc]
 walk_at "lw"
 exact ⟨hl, σ, .refl σ, hq⟩
theorem c_202 {c : Addr} {data rest : List UInt8} {k n : Nat} (hl : data.length ≤ 16777216) (hc : σ c = some (Cur data k)) (hd : data.drop k = var n ++ rest) (hn : n ≤ 18446744073709551615)
  (hq : Q (.int n) (σ.set c (Cur data (k + (var n).length)))) : zac tab (r+3) 202 [.ref c] σ B Q := by
 refine zqj ?_
 refine zdw hc ?_
 walk_at "lw"
 have a1 : ∀ kv : Va → Prop, attrW σ (.ref c) 1 kv = kv (.bytes data) := fun _ => zpr hc
 obtain ⟨o, tl, ho⟩ : Ex2 fun o tl => var n ++ rest = o :: tl := by
  cases z : var n with
  | nil => have := zb8 n; rw [z] at this; simp at this
  | cons o tl => exact ⟨o, tl ++ rest, rfl⟩
 obtain ⟨g1, g2, g3⟩ := zew (hd.trans ho)
 walk_at "lw"
 simp only [↓a1]
 refine And.intro hl ?_
 refine zba (decide_eq_true (by exact Int.ofNat_lt.mpr g3)) ?_
 refine za8 (x := o) (by exact Int.natCast_nonneg _) hl (by rw [Int.toNat_natCast]; exact g1) ?_
 walk_at "lw"
 by_cases h : n < 128
 ·have e := za3 h
  obtain ⟨rfl, rfl⟩ := zot h ho
  have e2 : (UInt8.ofNat n).toNat = n := za5 (by exact Nat.lt_of_lt_of_le h (by decide))
  walk_at "lw"
  rw [e2]
  refine zba (decide_eq_true (by exact Int.ofNat_lt.mpr h)) ?_
  walk_at "lw"
  rw [zh7 hc (k + 1) (by simp)]
  refine zc0 Sto.set_self ?_
  refine za8 (x := UInt8.ofNat n) (by exact Int.natCast_nonneg _) hl (by rw [Int.toNat_natCast]; exact g1) ?_
  walk_at "lw"
  rw [e2]
  refine zax ?_
  rw [e] at hq
  exact hq
 ·have e := zct (show 128 ≤ n by exact Nat.not_lt.mp h)
  obtain ⟨rfl, rfl⟩ := zov (show 128 ≤ n by exact Nat.not_lt.mp h) ho
  walk_at "lw"
  rw [za5 (by exact Nat.add_lt_add_right (Nat.mod_lt _ (by decide)) 128)]
  refine zau (fun z => absurd (of_decide_eq_true z) (by omega)) ?_
  walk_at "lw"
  rw [a1]
  refine c_9 hd hl hn ?_
  walk_at "lw"
  rw [zh7 hc _ rfl]
  exact zax hq
theorem c_203 {c : Addr} {data rest : List UInt8} {k n : Nat} (hl : data.length ≤ 16777216) (hc : σ c = some (Cur data k)) (hd : data.drop k = fix n ++ rest) (hn : n ≤ 4294967295)
  (hq : Q (.int n) (σ.set c (Cur data (k + 4)))) : zac tab (r+2) 203 [.ref c] σ B Q := by
 refine zqi ?_
 refine zc0 hc ?_
 refine zdw hc ?_
 refine c_13 hd hl hn ?_
 refine zdw hc ?_
 walk_at "lw"
 rw [zh7 hc (k + 4) (by simp)]
 exact zax hq
theorem c_205 {c : Addr} {data rest b : List UInt8} {k : Nat} (hl : data.length ≤ 16777216) (hc : σ c = some (Cur data k)) (hd : data.drop k = text b ++ rest) (hb : b.length ≤ 1000)
  (hq : Q (.bytes b) (σ.set c (Cur data (k + (text b).length)))) : zac tab (r+4) 205 [.ref c] σ B Q := by
 refine zqh ?_
 refine zc0 hc ?_
 refine zdw hc ?_
 refine c_14 hd hl hb ?_
 walk_at "lw"
 rw [zh7 hc _ rfl]
 exact zax hq
theorem c_209 {c : Addr} {data : List UInt8} {k : Nat} (hl : data.length ≤ 16777216) (hc : σ c = some (Cur data k)) (hk : data.length ≤ k) (hq : Q .none σ) : zac tab (r+1) 209 [.ref c] σ B Q := by
 refine zqg ?_
 refine zdw hc ?_
 refine zc0 hc ?_
 refine And.intro hl ?_
 refine zau (fun z => absurd (of_decide_eq_true z) (by exact Int.not_lt.mpr (Int.ofNat_le.mpr hk))) ?_
 exact zax hq
noncomputable abbrev Snk (p : Addr) : UOb := .inst 16 [(0, .ref p)]
theorem zc1 {s p : Addr} {kv : Va → Prop} (hs : σ s = some (Snk p)) (q : kv (.ref p)) : attrW σ (.ref s) 0 kv := zar hs rfl q
theorem zmq {s p : Addr} {kv : Va → Prop} (hs : σ s = some (Snk p)) : attrW σ (.ref s) 0 kv = kv (.ref p) := zcn hs rfl
theorem c_210 {s : Addr} (hs : σ s = some (.inst 16 [])) (hq : ∀ p, σ p = none → Q .none ((σ.set p (.barr [])).set s (Snk p))) : zac tab (r+1) 210 [.ref s] σ B Q := by
 refine zqf ?_
 intro p hp
 have : s ≠ p := by intro z; subst z; rw [hs] at hp; cases hp
 refine zad (fs := []) (g := 16) (by rw [Sto.set_ne this]; exact hs) ?_
 walk_at "lw"
 exact ⟨by simp, _, .refl _, hq p hp⟩
theorem c_211 {s p : Addr} {b : List UInt8} {n : Int} (hs : σ s = some (Snk p)) (hp : σ p = some (.barr b)) (hb : b.length + 10 < 1000000) (hn : -(2 ^ 80) < n ∧ n < 2 ^ 80)
  (hbad : n < 0 ∨ 18446744073709551615 < n → B σ) (hq : ∀ m : Nat, n = m → n ≤ 18446744073709551615 → Q .none (σ.set p (.barr (b ++ var m)))) : zac tab (r+3) 211 [.ref s, .int n] σ B Q := by
 refine zqe ?_
 walk_at "lw"
 have a0 : ∀ kv : Va → Prop, attrW σ (.ref s) 0 kv = kv (.ref p) := fun _ => zmq hs
 have fin : ∀ τ, Q .none τ → wpSs (zac tab (r+2)) (ExB B) .nil [some (.ref s), some (.int n)] τ (ExN Q) (ExR Q) := fun τ h => ⟨τ, .refl τ, h⟩
 have big : wpS (zac tab (r+2)) (ExB B) (.expr (.extend (.attr (.var 0) 0) (.call 8 (.cons (.var 1) .nil)))) [some (.ref s), some (.int n)] σ
   (fun ρ σ => wpSs (zac tab (r+2)) (ExB B) .nil ρ σ (ExN Q) (ExR Q)) (ExR Q) := by
  walk_at "lw"
  rw [a0]
  walk_at "lw"
  rw [zcy hp]
  refine And.intro rfl (c_8 hn (fun h => ⟨σ, .refl σ, hbad h⟩) fun m e h => ?_)
  refine zd7 hp ?_
  have := za1 (n := m) (by lia -abstractProof)
  exact And.intro (by unfold zap; exact Nat.lt_of_le_of_lt (Nat.add_le_add_left this _) hb) (fin _ (hq m e h))
 by_cases h0 : 0 ≤ n
 ·refine zba (decide_eq_true h0) ?_
  by_cases h1 : n < 128
  ·refine zba (decide_eq_true h1) ?_
   walk_at "lw"
   rw [a0]
   walk_at "lw"
   rw [zcy hp]
   walk_at "lw"
   rw [zej hp]
   walk_at "lw"
   rw [zd0 hp]
   walk_at "lw"
   refine ⟨.inr rfl, rfl, ⟨h0, by exact Int.lt_of_lt_of_le h1 (by decide), by unfold zap; exact Nat.lt_of_le_of_lt (Nat.le_add_right _ _) hb⟩, fin _ ?_⟩
   have := hq n.toNat (by lia -abstractProof) (by exact Int.le_of_lt (Int.lt_of_lt_of_le h1 (by decide)))
   rwa [za3 (by exact zkg h1 (by decide))] at this
  ·refine zau (fun z => absurd (of_decide_eq_true z) h1) ?_
   exact big
 ·refine zau (fun z => absurd (of_decide_eq_true z) h0) ?_
  exact big
theorem c_212 {s p : Addr} {b : List UInt8} {n : Int} (hs : σ s = some (Snk p)) (hp : σ p = some (.barr b)) (hb : b.length + 10 < 1000000) (hn : -(2 ^ 80) < n ∧ n < 2 ^ 80)
  (hbad : n < 0 ∨ 4294967295 < n → B σ) (hq : ∀ m : Nat, n = m → n ≤ 4294967295 → Q .none (σ.set p (.barr (b ++ fix m)))) : zac tab (r+2) 212 [.ref s, .int n] σ B Q := by
 refine zqd ?_
 refine zc1 hs ?_
 walk_at "lw"
 rw [zcy hp]
 refine And.intro rfl ?_
 refine c_12 hn (fun h => ⟨σ, .refl σ, hbad h⟩) fun m e h => ?_
 refine zd7 hp ?_
 walk_at "lw"
 exact ⟨by unfold zap; simp [fix]; exact Nat.lt_of_le_of_lt (Nat.add_le_add_left (by decide) _) hb, _, .refl _, hq m e h⟩
theorem c_214 {s p : Addr} {b c : List UInt8} (hs : σ s = some (Snk p)) (hp : σ p = some (.barr b)) (hne : s ≠ p) (hb : b.length + 1010 < 1000000) (hc : c.length ≤ 1000)
  (hq : Q .none (σ.set p (.barr (b ++ text c)))) : zac tab (r+3) 214 [.ref s, .bytes c] σ B Q := by
 refine zqc ?_
 refine zc1 hs ?_
 walk_at "lw"
 rw [zcy hp]
 refine And.intro rfl ?_
 refine And.intro (by exact Nat.le_trans hc (by decide)) (c_10 (by exact Int.natCast_nonneg _) (by exact Int.ofNat_le.mpr (Nat.le_trans hc (by decide))) fun m e => ?_)
 refine zd7 hp ?_
 have := za1 (n := m) (by lia -abstractProof)
 refine And.intro (by unfold zap; exact Nat.lt_of_le_of_lt (Nat.add_le_add_left (Nat.le_trans this (by decide)) _) hb) ?_
 refine zc1 (by rw [Sto.set_ne hne]; exact hs) ?_
 walk_at "lw"
 rw [zcy Sto.set_self]
 refine And.intro rfl ?_
 refine zd7 Sto.set_self ?_
 walk_at "lw"
 rw [Sto.set_set]
 walk_at "lw"
 refine ⟨by simp [zap]; lia -abstractProof, _, .refl _, ?_⟩
 obtain rfl : c.length = m := by lia -abstractProof
 walk_at "lw"
 rw [List.append_assoc]
 exact hq
theorem c_218 {s p : Addr} {b : List UInt8} (hs : σ s = some (Snk p)) (hp : σ p = some (.barr b)) (hb : b.length ≤ 16777216) (hq : Q (.bytes b) σ) : zac tab (r+1) 218 [.ref s] σ B Q := by
 refine zqb ?_
 refine zc1 hs ?_
 refine zdp hp ?_
 walk_at "lw"
 exact ⟨hb, _, .refl _, hq⟩
theorem c_219 {e : Addr} {a b c d : Va} (he : σ e = some (.inst 17 [])) (hq : Q .none (σ.set e (.inst 17 [(3, a), (4, b), (5, c), (6, d)]))) : zac tab (r+1) 219 [.ref e, a, b, c, d] σ B Q := by
 refine zqa ?_
 refine zad he ?_
 refine And.intro (by simp) ?_
 refine zad Sto.set_self ?_
 walk_at "lw"
 rw [Sto.set_set]
 refine And.intro (by simp [setF]) ?_
 refine zad Sto.set_self ?_
 walk_at "lw"
 rw [Sto.set_set]
 refine And.intro (by simp [setF]) ?_
 refine zad Sto.set_self ?_
 walk_at "lw"
 rw [Sto.set_set]
 walk_at "lw"
 exact ⟨by simp [setF], _, .refl _, hq⟩
theorem c_224 {e : Addr} {a b c d f : Va} (he : σ e = some (.inst 23 [])) (hq : Q .none (σ.set e (.inst 23 [(15, a), (4, b), (16, c), (5, d), (6, f)]))) : zac tab (r+1) 224 [.ref e, a, b, c, d, f] σ B Q := by
 refine zp5 ?_
 refine zad he ?_
 refine And.intro (by simp) ?_
 refine zad Sto.set_self ?_
 walk_at "lw"
 rw [Sto.set_set]
 refine And.intro (by simp [setF]) ?_
 refine zad Sto.set_self ?_
 walk_at "lw"
 rw [Sto.set_set]
 refine And.intro (by simp [setF]) ?_
 refine zad Sto.set_self ?_
 walk_at "lw"
 rw [Sto.set_set]
 refine And.intro (by simp [setF]) ?_
 refine zad Sto.set_self ?_
 walk_at "lw"
 rw [Sto.set_set]
 walk_at "lw"
 exact ⟨by simp [setF], _, .refl _, hq⟩
theorem c_227 {e : Addr} {a b c d f : Va} (he : σ e = some (.inst 24 [])) (hq : Q .none (σ.set e (.inst 24 [(17, a), (18, b), (19, c), (10, d), (20, f)]))) : zac tab (r+1) 227 [.ref e, a, b, c, d, f] σ B Q := by
 refine zp3 ?_
 refine zad he ?_
 refine And.intro (by simp) ?_
 refine zad Sto.set_self ?_
 walk_at "lw"
 rw [Sto.set_set]
 refine And.intro (by simp [setF]) ?_
 refine zad Sto.set_self ?_
 walk_at "lw"
 rw [Sto.set_set]
 refine And.intro (by simp [setF]) ?_
 refine zad Sto.set_self ?_
 walk_at "lw"
 rw [Sto.set_set]
 refine And.intro (by simp [setF]) ?_
 refine zad Sto.set_self ?_
 walk_at "lw"
 rw [Sto.set_set]
 walk_at "lw"
 exact ⟨by simp [setF], _, .refl _, hq⟩
end
end
section
structure FB where
 (pr me ro : Addr) (lv : Nat) (n s lo hi : Va)
structure EB where
 (l e w p d m P D A : Addr) (w0 w1 w2 w3 : Va) (ps ds eds : List Va) (fs : List FB) (rs : Bool)
structure RB where
 (pr ru ro : Addr) (a0 a1 a2 a3 a4 : Va)
structure MB where
 (l m w u U : Addr) (n0 n1 n2 cf : Va) (rs : List RB)
noncomputable def edI (w0 w1 w2 w3 : Va) (P D A : Addr) (rs : Bool) : UOb := .inst 18 [(7, w0), (8, w1), (9, w2), (10, w3), (11, .ref P), (12, .ref D), (13, .ref A), (14, .bool rs)]
noncomputable def meI (n s lo hi : Va) : UOb := .inst 17 [(3, n), (4, s), (5, lo), (6, hi)]
noncomputable def maI (n0 n1 n2 cf : Va) (U : Addr) : UOb := .inst 24 [(17, n0), (18, n1), (19, cf), (10, n2), (20, .ref U)]
noncomputable def ruI (a0 a1 a2 a3 a4 : Va) : UOb := .inst 23 [(15, a0), (4, a1), (16, a2), (5, a3), (6, a4)]
noncomputable def FB.ea (f : FB) : Va := .tup [.int f.lv, .ref f.me]
noncomputable def FB.sa (f : FB) : Va := .tup [.int f.lv, .ref f.pr]
noncomputable def FB.el (f : FB) : Addr × UOb := (f.me, meI f.n f.s f.lo f.hi)
noncomputable def FB.sl (f : FB) : Lg := [(f.pr, .list [.ref f.me, .ref f.ro]), (f.ro, .list [f.n, f.s, f.lo, f.hi])]
noncomputable def eled (b : EB) : Lg := [(b.e, edI b.w0 b.w1 b.w2 b.w3 b.P b.D b.A b.rs), (b.P, .list b.ps), (b.D, .list b.eds), (b.A, .list (b.fs.map FB.ea))] ++ b.fs.map FB.el
noncomputable def sled (b : EB) : Lg := [(b.l, .list [.ref b.e, .ref b.w, .ref b.p, .ref b.d, .ref b.m, .bool b.rs]), (b.w, .list [b.w0, b.w1, b.w2, b.w3]), (b.p, .list b.ps), (b.d, .list b.ds), (b.m, .list (b.fs.map FB.sa))] ++ b.fs.flatMap FB.sl
noncomputable def bled (b : EB) : Lg := sled b ++ eled b
noncomputable def RB.el (f : RB) : Addr × UOb := (f.ru, ruI f.a0 f.a1 f.a2 f.a3 f.a4)
noncomputable def RB.sl (f : RB) : Lg := [(f.pr, .list [.ref f.ru, .ref f.ro]), (f.ro, .list [f.a0, f.a1, f.a2, f.a3, f.a4])]
noncomputable def mled (b : MB) : Lg := [(b.m, maI b.n0 b.n1 b.n2 b.cf b.U), (b.U, .list (b.rs.map fun f => .ref f.ru))] ++ b.rs.map RB.el
noncomputable def tled (b : MB) : Lg := [(b.l, .list [.ref b.m, .ref b.w, b.cf, .ref b.u]), (b.w, .list [b.n0, b.n1, b.n2]), (b.u, .list (b.rs.map fun f => .ref f.pr))] ++ b.rs.flatMap RB.sl
noncomputable def sted (b : MB) : Lg := tled b ++ mled b
noncomputable abbrev Has (σ : Sto) (L : Lg) : Prop := ∀ q ∈ L, σ q.1 = some q.2
theorem Has.le {σ τ : Sto} {L : Lg} (h : Has σ L) (k : σ.Le τ) : Has τ L := fun q hq => k _ _ (h q hq)
theorem Has.left {σ : Sto} {L M : Lg} (h : Has σ (L ++ M)) : Has σ L := fun q hq => h q (List.mem_append_left _ hq)
theorem Has.right {σ : Sto} {L M : Lg} (h : Has σ (L ++ M)) : Has σ M := fun q hq => h q (List.mem_append_right _ hq)
section
variable {σ : Sto} {b : EB} {g : MB}
theorem Has.e (h : Has σ (eled b)) : σ b.e = some (edI b.w0 b.w1 b.w2 b.w3 b.P b.D b.A b.rs) := h (b.e, _) (.head _)
theorem Has.P (h : Has σ (eled b)) : σ b.P = some (.list b.ps) := h (b.P, _) (.tail _ (.head _))
theorem Has.D (h : Has σ (eled b)) : σ b.D = some (.list b.eds) := h (b.D, _) (.tail _ (.tail _ (.head _)))
theorem Has.A (h : Has σ (eled b)) : σ b.A = some (.list (b.fs.map FB.ea)) := h (b.A, _) (.tail _ (.tail _ (.tail _ (.head _))))
theorem Has.me (h : Has σ (eled b)) {f : FB} (hf : f ∈ b.fs) : σ f.me = some (meI f.n f.s f.lo f.hi) := h (f.me, _) (List.mem_append_right _ (List.mem_map_of_mem (f := FB.el) hf))
theorem Has.l (h : Has σ (sled b)) : σ b.l = some (.list [.ref b.e, .ref b.w, .ref b.p, .ref b.d, .ref b.m, .bool b.rs]) := h (b.l, _) (.head _)
theorem Has.w (h : Has σ (sled b)) : σ b.w = some (.list [b.w0, b.w1, b.w2, b.w3]) := h (b.w, _) (.tail _ (.head _))
theorem Has.p (h : Has σ (sled b)) : σ b.p = some (.list b.ps) := h (b.p, _) (.tail _ (.tail _ (.head _)))
theorem Has.d (h : Has σ (sled b)) : σ b.d = some (.list b.ds) := h (b.d, _) (.tail _ (.tail _ (.tail _ (.head _))))
theorem Has.m (h : Has σ (sled b)) : σ b.m = some (.list (b.fs.map FB.sa)) := h (b.m, _) (.tail _ (.tail _ (.tail _ (.tail _ (.head _)))))
theorem Has.pr (h : Has σ (sled b)) {f : FB} (hf : f ∈ b.fs) : σ f.pr = some (.list [.ref f.me, .ref f.ro]) := h (f.pr, _) (List.mem_append_right _ (List.mem_flatMap.mpr ⟨f, hf, .head _⟩))
theorem Has.ro (h : Has σ (sled b)) {f : FB} (hf : f ∈ b.fs) : σ f.ro = some (.list [f.n, f.s, f.lo, f.hi]) := h (f.ro, _) (List.mem_append_right _ (List.mem_flatMap.mpr ⟨f, hf, .tail _ (.head _)⟩))
theorem Has.gm (h : Has σ (mled g)) : σ g.m = some (maI g.n0 g.n1 g.n2 g.cf g.U) := h (g.m, _) (.head _)
theorem Has.gU (h : Has σ (mled g)) : σ g.U = some (.list (g.rs.map fun f => .ref f.ru)) := h (g.U, _) (.tail _ (.head _))
theorem Has.gru (h : Has σ (mled g)) {f : RB} (hf : f ∈ g.rs) : σ f.ru = some (ruI f.a0 f.a1 f.a2 f.a3 f.a4) := h (f.ru, _) (List.mem_append_right _ (List.mem_map_of_mem (f := RB.el) hf))
theorem Has.gl (h : Has σ (tled g)) : σ g.l = some (.list [.ref g.m, .ref g.w, g.cf, .ref g.u]) := h (g.l, _) (.head _)
theorem Has.gw (h : Has σ (tled g)) : σ g.w = some (.list [g.n0, g.n1, g.n2]) := h (g.w, _) (.tail _ (.head _))
theorem Has.gu (h : Has σ (tled g)) : σ g.u = some (.list (g.rs.map fun f => .ref f.pr)) := h (g.u, _) (.tail _ (.tail _ (.head _)))
theorem Has.gpr (h : Has σ (tled g)) {f : RB} (hf : f ∈ g.rs) : σ f.pr = some (.list [.ref f.ru, .ref f.ro]) := h (f.pr, _) (List.mem_append_right _ (List.mem_flatMap.mpr ⟨f, hf, .head _⟩))
theorem Has.gro (h : Has σ (tled g)) {f : RB} (hf : f ∈ g.rs) : σ f.ro = some (.list [f.a0, f.a1, f.a2, f.a3, f.a4]) := h (f.ro, _) (List.mem_append_right _ (List.mem_flatMap.mpr ⟨f, hf, .tail _ (.head _)⟩))
end
noncomputable abbrev Oc := Option (List UInt8)
noncomputable def cat : List Oc → Oc
 | [] => some []
 | none :: _ => none
 | some a :: l => (cat l).map (a ++ ·)
noncomputable def cI : Va → Oc
 | .int n => if 0 ≤ n ∧ n ≤ 18446744073709551615 then some (var n.toNat) else none
 | _ => none
noncomputable def cX : Va → Oc
 | .int n => if 0 ≤ n ∧ n ≤ 4294967295 then some (fix n.toNat) else none
 | _ => none
noncomputable def cB : Va → Oc
 | .bytes b => some (text b)
 | _ => none
noncomputable def cW (t : UInt8) (c : Va → Oc) : Va → List Oc
 | .none => []
 | v => [some [t], c v]
noncomputable def cP : Va → List Oc
 | .tup [l, k] => [some [5], cI l, cB k]
 | _ => []
noncomputable def cD : Va → List Oc
 | .tup [l, n] => [some [6], cI l, cI n]
 | _ => []
noncomputable def cF (f : FB) : List Oc := [some [7], cI (.int f.lv), cI f.n, cI f.s, cB f.lo, cB f.hi]
noncomputable def chE (b : EB) : List Oc := (if b.rs = true then [some [10]] else []) ++ (cW 1 cB b.w0 ++ (cW 2 cI b.w1 ++ (cW 3 cI b.w2 ++ (cW 4 cI b.w3 ++ (b.ps.flatMap cP ++ (b.eds.flatMap cD ++ b.fs.flatMap cF))))))
noncomputable def cR (f : RB) : List Oc := [cI f.a0, cI f.a1, cX f.a2, cB f.a3, cB f.a4]
noncomputable def chM (b : MB) : List Oc := cI b.n0 :: cI b.n1 :: cI b.n2 :: cB b.cf :: cI (.int b.rs.length) :: b.rs.flatMap cR
noncomputable def TI (v : Va) : Prop := ∃ n : Int, v = .int n ∧ -(2 ^ 80) < n ∧ n < 2 ^ 80
noncomputable def TB (v : Va) : Prop := ∃ c : List UInt8, v = .bytes c ∧ c.length ≤ 130
structure TyF (f : FB) : Prop where
 lv : f.lv < 12
 n : TI f.n
 s : TI f.s
 lo : TB f.lo
 hi : TB f.hi
structure TyE (b : EB) : Prop where
 w0 : b.w0 = .none ∨ TB b.w0
 w1 : b.w1 = .none ∨ TI b.w1
 w2 : b.w2 = .none ∨ TI b.w2
 w3 : b.w3 = .none ∨ TI b.w3
 ps : ∀ x ∈ b.ps, Ex2 fun l k => A3 (x = .tup [l, k]) (TI l) (TB k)
 ds : ∀ x ∈ b.eds, Ex2 fun l k => A3 (x = .tup [l, k]) (TI l) (TI k)
 fs : ∀ f ∈ b.fs, TyF f
 np : b.ps.length ≤ 60
 nd : b.eds.length ≤ 60
 nf : b.fs.length ≤ 60
structure TyR (f : RB) : Prop where
 a0 : TI f.a0
 a1 : TI f.a1
 a2 : TI f.a2
 a3 : TB f.a3
 a4 : TB f.a4
structure TyM (b : MB) : Prop where
 n0 : TI b.n0
 n1 : TI b.n1
 n2 : TI b.n2
 cf : TB b.cf
 rs : ∀ f ∈ b.rs, TyR f
 nr : b.rs.length ≤ 60
structure Rem (G : List UInt8 → Prop) (Bd : Prop) (b : List UInt8) (l : List Oc) : Prop where
 good : ∀ c, cat l = some c → G (b ++ c)
 bad : cat l = none → Bd
 size : b.length + 140 * l.length + 2000 < 1000000
section
variable {G : List UInt8 → Prop} {Bd : Prop} {b c : List UInt8} {l : List Oc}
theorem Rem.step (h : Rem G Bd b (some c :: l)) (hc : c.length ≤ 140) : Rem G Bd (b ++ c) l := by
 refine ⟨fun d hd => ?_, fun hd => h.bad ?_, ?_⟩
 ·rw [List.append_assoc]; exact h.good _ (by simp only [cat, hd, Option.map_some])
 ·simp only [cat, hd, Option.map_none]
 ·have := h.size; simp at this ⊢; lia -abstractProof
theorem Rem.no (h : Rem G Bd b (none :: l)) : Bd := h.bad rfl
theorem Rem.fin (h : Rem G Bd b []) : G b := by have := h.good [] rfl; rwa [List.append_nil] at this
end
structure WS (σ : Sto) (s p : Addr) (b : List UInt8) (τ : Sto) : Prop where
 le : σ.Le τ
 hs : τ s = some (Snk p)
 hp : τ p = some (.barr b)
 ne : s ≠ p
 s0 : σ s = none
 p0 : σ p = none
theorem WS.set {σ τ : Sto} {s p : Addr} {b : List UInt8} (h : WS σ s p b τ) (c : List UInt8) : WS σ s p c (τ.set p (.barr c)) :=
 ⟨Sto.le_set_set h.le h.p0, by rw [Sto.set_ne h.ne]; exact h.hs, Sto.set_self, h.ne, h.s0, h.p0⟩
section
variable {r : Nat} {σ τ : Sto} {B : BP} {Q : QP} {s p : Addr} {b : List UInt8} {ρ : Loc} {N : Loc → Sto → Prop} {R : QP} {G : List UInt8 → Prop} {Bd : Prop} {l : List Oc} {ss : Ss}
theorem zq1 (next : ∀ s p τ, WS σ s p [] τ → wpSs (zac tab (r + 1)) B ss (ρ.set 1 (some (.ref s))) τ N R) : wpSs (zac tab (r + 1)) B (.cons (.assign 1 (.new 16 .nil)) ss) ρ σ N R := by
 walk_at "lw"
 simp only [i16]
 intro s hs
 refine c_210 (s := s) Sto.set_self fun p hp => ⟨rfl, ?_⟩
 have hne : s ≠ p := by intro z; subst z; rw [Sto.set_self] at hp; cases hp
 have hp0 : σ p = none := by rw [Sto.set_ne (Ne.symm hne)] at hp; exact hp
 refine next s p _ ⟨?_, Sto.set_self, ?_, hne, hs, hp0⟩
 ·exact Sto.le_set_set (Sto.le_set_set (Sto.le_set hs) hp0) hs
 ·walk_at "lw"
  rw [Sto.set_ne (Ne.symm hne)]
  walk_at "lw"
  rw [Sto.set_self]
theorem zfk {e : X} {n : Int} (hρ : ρ[1]? = some (some (.ref s))) (hw : WS σ s p b τ) (hr : Rem G Bd b (cI (.int n) :: l)) (hn : -(2 ^ 80) < n ∧ n < 2 ^ 80) (hbd : Bd → ∀ τ, σ.Le τ → B τ)
  (he : ∀ Q : QP, Q (.int n) τ → wpX (zac tab (r + 3)) B ρ [] e τ Q) (next : ∀ τ' b', WS σ s p b' τ' → Rem G Bd b' l → wpSs (zac tab (r + 3)) B ss ρ τ' N R) :
  wpSs (zac tab (r + 3)) B (.cons (.expr (.meth (.var 1) 1 (.cons e .nil))) ss) ρ τ N R := by
 refine zci hρ (zay hw.hs (f := 211) rfl (he _ ?_))
 refine c_211 hw.hs hw.hp (by have := hr.size; exact Nat.lt_of_le_of_lt (Nat.add_le_add (Nat.le_add_right _ _) (by decide)) this) hn (fun h => ?_) fun m e h => ?_
 ·refine hbd ?_ τ hw.le
  walk_at "lw"
  simp only [cI] at hr
  rw [if_neg (by lia -abstractProof)] at hr; exact hr.no
 ·refine next _ _ (hw.set _) ?_
  walk_at "lw"
  simp only [cI] at hr
  rw [if_pos (by exact ⟨(Int.le_trans (Int.natCast_nonneg _) (Int.le_of_eq e.symm)), h⟩)] at hr
  obtain rfl : m = n.toNat := by lia -abstractProof
  have := za1 (n := n.toNat) (by lia -abstractProof)
  exact hr.step (by exact Nat.le_trans this (by decide))
theorem sk_fix {e : X} {n : Int} (hρ : ρ[1]? = some (some (.ref s))) (hw : WS σ s p b τ) (hr : Rem G Bd b (cX (.int n) :: l)) (hn : -(2 ^ 80) < n ∧ n < 2 ^ 80) (hbd : Bd → ∀ τ, σ.Le τ → B τ)
  (he : ∀ Q : QP, Q (.int n) τ → wpX (zac tab (r + 2)) B ρ [] e τ Q) (next : ∀ τ' b', WS σ s p b' τ' → Rem G Bd b' l → wpSs (zac tab (r + 2)) B ss ρ τ' N R) :
  wpSs (zac tab (r + 2)) B (.cons (.expr (.meth (.var 1) 2 (.cons e .nil))) ss) ρ τ N R := by
 refine zci hρ (zay hw.hs (f := 212) rfl (he _ ?_))
 refine c_212 hw.hs hw.hp (by have := hr.size; exact Nat.lt_of_le_of_lt (Nat.add_le_add (Nat.le_add_right _ _) (by decide)) this) hn (fun h => ?_) fun m e h => ?_
 ·refine hbd ?_ τ hw.le
  walk_at "lw"
  simp only [cX] at hr
  rw [if_neg (by lia -abstractProof)] at hr; exact hr.no
 ·refine next _ _ (hw.set _) ?_
  walk_at "lw"
  simp only [cX] at hr
  rw [if_pos (by exact ⟨(Int.le_trans (Int.natCast_nonneg _) (Int.le_of_eq e.symm)), h⟩)] at hr
  obtain rfl : m = n.toNat := by lia -abstractProof
  exact hr.step (by simp [fix])
theorem zmu {e : X} {c : List UInt8} (hρ : ρ[1]? = some (some (.ref s))) (hw : WS σ s p b τ) (hr : Rem G Bd b (cB (.bytes c) :: l)) (hc : c.length ≤ 130)
  (he : ∀ Q : QP, Q (.bytes c) τ → wpX (zac tab (r + 3)) B ρ [] e τ Q) (next : ∀ τ' b', WS σ s p b' τ' → Rem G Bd b' l → wpSs (zac tab (r + 3)) B ss ρ τ' N R) :
  wpSs (zac tab (r + 3)) B (.cons (.expr (.meth (.var 1) 3 (.cons e .nil))) ss) ρ τ N R := by
 refine zci hρ (zay hw.hs (f := 214) rfl (he _ ?_))
 refine c_214 hw.hs hw.hp hw.ne (by have := hr.size; exact Nat.lt_of_le_of_lt (Nat.add_le_add (Nat.le_add_right _ _) (by decide)) this) (by exact Nat.le_trans hc (by decide)) ?_
 refine next _ _ (hw.set _) (hr.step ?_)
 unfold text; rw [List.length_append]
 have := za1 (n := c.length) (by exact Nat.le_trans hc (by decide))
 exact Nat.le_trans (Nat.add_le_add this hc) (by decide)
theorem zeg {e : X} {v : Va} (hρ : ρ[1]? = some (some (.ref s))) (hw : WS σ s p b τ) (hr : Rem G Bd b (cI v :: l)) (hv : TI v) (hbd : Bd → ∀ τ, σ.Le τ → B τ)
  (he : ∀ Q : QP, Q v τ → wpX (zac tab (r + 3)) B ρ [] e τ Q) (next : ∀ τ' b', WS σ s p b' τ' → Rem G Bd b' l → wpSs (zac tab (r + 3)) B ss ρ τ' N R) :
  wpSs (zac tab (r + 3)) B (.cons (.expr (.meth (.var 1) 1 (.cons e .nil))) ss) ρ τ N R := by
 obtain ⟨n, rfl, hn⟩ := hv
 exact zfk hρ hw hr hn hbd he next
theorem zr2 {e : X} {v : Va} (hρ : ρ[1]? = some (some (.ref s))) (hw : WS σ s p b τ) (hr : Rem G Bd b (cX v :: l)) (hv : TI v) (hbd : Bd → ∀ τ, σ.Le τ → B τ)
  (he : ∀ Q : QP, Q v τ → wpX (zac tab (r + 2)) B ρ [] e τ Q) (next : ∀ τ' b', WS σ s p b' τ' → Rem G Bd b' l → wpSs (zac tab (r + 2)) B ss ρ τ' N R) :
  wpSs (zac tab (r + 2)) B (.cons (.expr (.meth (.var 1) 2 (.cons e .nil))) ss) ρ τ N R := by
 obtain ⟨n, rfl, hn⟩ := hv
 exact sk_fix hρ hw hr hn hbd he next
theorem zf2 {e : X} {v : Va} (hρ : ρ[1]? = some (some (.ref s))) (hw : WS σ s p b τ) (hr : Rem G Bd b (cB v :: l)) (hv : TB v)
  (he : ∀ Q : QP, Q v τ → wpX (zac tab (r + 3)) B ρ [] e τ Q) (next : ∀ τ' b', WS σ s p b' τ' → Rem G Bd b' l → wpSs (zac tab (r + 3)) B ss ρ τ' N R) :
  wpSs (zac tab (r + 3)) B (.cons (.expr (.meth (.var 1) 3 (.cons e .nil))) ss) ρ τ N R := by
 obtain ⟨n, rfl, hn⟩ := hv
 exact zmu hρ hw hr hn he next
end
end
section
section
variable {C : Orc} {B : BP} {R : QP} {N : Loc → Sto → Prop} {ρ υ : Loc} {σ τ : Sto} {ss body x y : Ss}
theorem zaw {t : T} {it : It} {sq : Sq} (hit : ∀ K : Sq → Sto → Prop, K sq σ → wpIt C B ρ [] it σ K) (n : Nat) (I : Nat → Loc → Sto → Prop) (h0 : I 0 ρ σ)
  (step : ∀ m ρ τ K, m < n → I m ρ τ → (∀ ρ' τ', I (m + 1) ρ' τ' → K ρ' τ') → ∃ v, za2 sq τ m = some (some v) ∧ zg3 ρ t v fun ρ => wpSs C B body ρ τ K R)
  (done : ∀ ρ τ, I n ρ τ → za2 sq τ n = some none ∧ wpSs C B ss ρ τ N R) : wpSs C B (.cons (.each t it body) ss) ρ σ N R := by
 refine hit _ ?_
 exact zbi (N := n) (fun m s => I m s.1 s.2) (fun m s k hm hi hk => step m s.1 s.2 (fun ρ σ => k (ρ, σ)) hm hi fun ρ' τ' h => hk (ρ', τ') h) (fun s hi => done s.1 s.2 hi) h0
theorem zkf {c : X} (n : Nat) (I : Nat → Loc → Sto → Prop) (h0 : I n ρ σ)
  (step : ∀ m ρ τ K, I (m + 1) ρ τ → (∀ ρ' τ', I m ρ' τ' → K ρ' τ') → wpX C (fun _ => False) ρ [] c τ fun v σ => andW v (wpSs C (fun _ => False) body ρ σ K R) (wpSs C B ss ρ σ N R))
  (done : ∀ ρ τ K, I 0 ρ τ → wpX C (fun _ => False) ρ [] c τ fun v σ => andW v (wpSs C (fun _ => False) body ρ σ K R) (wpSs C B ss ρ σ N R)) : wpSs C B (.cons (.loop c body) ss) ρ σ N R :=
 ze7 (fun m s => I m s.1 s.2) (fun m s k hi hk => step m s.1 s.2 (fun ρ σ => k (ρ, σ)) hi fun ρ' τ' h => hk (ρ', τ') h) (fun s k hi => done s.1 s.2 (fun ρ σ => k (ρ, σ)) hi) h0
theorem zck {c : X} {b : Bool} (hc : ∀ Q : QP, Q (.bool b) σ → wpX C B ρ [] c σ Q) (ht : b = true → wpSs C B x ρ σ (fun ρ σ => wpSs C B ss ρ σ N R) R)
  (hf : b = false → wpSs C B y ρ σ (fun ρ σ => wpSs C B ss ρ σ N R) R) : wpSs C B (.cons (.ite c x y) ss) ρ σ N R := by
 refine hc _ ?_
 show andW _ _ _
 rw [zje]
 cases b with
 | true => exact ht rfl
 | false => rw [if_neg (by decide)]; exact hf rfl
end
theorem zqm {t : Nat} (h : t < 128) : cI (.int t) = some [UInt8.ofNat t] := by
 simp only [cI]; rw [if_pos (by exact ⟨(Int.natCast_nonneg _), (Int.ofNat_le.mpr (Nat.le_of_lt (Nat.lt_of_lt_of_le h (by decide))))⟩), Int.toNat_natCast, za3 h]
section
variable {r : Nat} {σ τ : Sto} {B : BP} {Q : QP} {s p e : Addr} {b : List UInt8} {ρ : Loc} {N : Loc → Sto → Prop} {R : QP} {G : List UInt8 → Prop} {Bd : Prop} {l : List Oc} {ss : Ss} {v : Va} {g i t : Nat}
theorem zg9 (hg : gval g = t) (ht : t < 128) (hρ : ρ[1]? = some (some (.ref s))) (hw : WS σ s p b τ) (hr : Rem G Bd b (some [UInt8.ofNat t] :: l)) (hbd : Bd → ∀ τ, σ.Le τ → B τ)
  (next : ∀ τ' b', WS σ s p b' τ' → Rem G Bd b' l → wpSs (zac tab (r + 3)) B ss ρ τ' N R) :
  wpSs (zac tab (r + 3)) B (.cons (.expr (.meth (.var 1) 1 (.cons (.gint g) .nil))) ss) ρ τ N R := by
 rw [← zqm ht] at hr
 exact zfk hρ hw hr ⟨by exact Int.lt_of_lt_of_le (by decide) (Int.natCast_nonneg _), by lia -abstractProof⟩ hbd (fun Q h => by show Q (.int (gval g)) τ; rw [hg]; exact h) next
theorem zbr (hρ : ρ[i]? = some (some (.ref e))) {j : Nat} {C : Orc} (ha : ∀ k, attrW τ (.ref e) j k = k v) : ∀ Q : QP, Q v τ → wpX C B ρ [] (.attr (.var i) j) τ Q := fun Q h => by
 exact zci hρ ((ha _).mpr h)
theorem sk_rst {x : Bool} (hρ0 : ρ[0]? = some (some (.ref e))) (hρ : ρ[1]? = some (some (.ref s))) (ha : ∀ τ, σ.Le τ → ∀ k, attrW τ (.ref e) i k = k (.bool x)) (hw : WS σ s p b τ)
  (hr : Rem G Bd b ((if x = true then [some [10]] else []) ++ l)) (hbd : Bd → ∀ τ, σ.Le τ → B τ) (next : ∀ τ' b', WS σ s p b' τ' → Rem G Bd b' l → wpSs (zac tab (r + 3)) B ss ρ τ' N R) :
  wpSs (zac tab (r + 3)) B (.cons (.ite (.attr (.var 0) i) (.cons (.expr (.meth (.var 1) 1 (.cons (.gint 11) .nil))) .nil) .nil) ss) ρ τ N R := by
 refine zck (b := x) (zbr hρ0 (ha _ hw.le)) (fun h => ?_) fun h => ?_
 ·rw [if_pos h] at hr
  exact zg9 (t := 10) rfl (by decide) hρ hw hr hbd next
 ·rw [if_neg (by rw [h]; decide)] at hr
  exact next _ _ hw hr
theorem zr1 (hg : gval g = t) (ht : t < 128) (hv : v = .none ∨ TI v) (hρ0 : ρ[0]? = some (some (.ref e))) (hρ : ρ[1]? = some (some (.ref s))) (ha : ∀ τ, σ.Le τ → ∀ k, attrW τ (.ref e) i k = k v) (hw : WS σ s p b τ)
  (hr : Rem G Bd b (cW (UInt8.ofNat t) cI v ++ l)) (hbd : Bd → ∀ τ, σ.Le τ → B τ) (next : ∀ τ' b', WS σ s p b' τ' → Rem G Bd b' l → wpSs (zac tab (r + 3)) B ss ρ τ' N R) :
  wpSs (zac tab (r + 3)) B (.cons (.ite (.notNone (.attr (.var 0) i)) (.cons (.expr (.meth (.var 1) 1 (.cons (.gint g) .nil))) (.cons (.expr (.meth (.var 1) 1 (.cons (.attr (.var 0) i) .nil))) .nil)) .nil) ss) ρ τ N R := by
 refine zck (b := !zdu v) (fun Q h => ?_) (fun h => ?_) fun h => ?_
 ·exact zci hρ0 ((ha τ hw.le _).mpr h)
 ·rcases hv with rfl | ⟨n, rfl, hn⟩
  ·cases h
  ·refine zg9 hg ht hρ hw hr hbd fun τ' b' hw' hr' => ?_
   exact zfk hρ hw' hr' hn hbd (zbr hρ0 (ha _ hw'.le)) next
 ·rcases hv with rfl | ⟨n, rfl, hn⟩
  ·exact next _ _ hw hr
  ·cases h
theorem sk_wB (hg : gval g = t) (ht : t < 128) (hv : v = .none ∨ TB v) (hρ0 : ρ[0]? = some (some (.ref e))) (hρ : ρ[1]? = some (some (.ref s))) (ha : ∀ τ, σ.Le τ → ∀ k, attrW τ (.ref e) i k = k v) (hw : WS σ s p b τ)
  (hr : Rem G Bd b (cW (UInt8.ofNat t) cB v ++ l)) (hbd : Bd → ∀ τ, σ.Le τ → B τ) (next : ∀ τ' b', WS σ s p b' τ' → Rem G Bd b' l → wpSs (zac tab (r + 3)) B ss ρ τ' N R) :
  wpSs (zac tab (r + 3)) B (.cons (.ite (.notNone (.attr (.var 0) i)) (.cons (.expr (.meth (.var 1) 1 (.cons (.gint g) .nil))) (.cons (.expr (.meth (.var 1) 3 (.cons (.attr (.var 0) i) .nil))) .nil)) .nil) ss) ρ τ N R := by
 refine zck (b := !zdu v) (fun Q h => ?_) (fun h => ?_) fun h => ?_
 ·exact zci hρ0 ((ha τ hw.le _).mpr h)
 ·rcases hv with rfl | ⟨n, rfl, hn⟩
  ·cases h
  ·refine zg9 hg ht hρ hw hr hbd fun τ' b' hw' hr' => ?_
   exact zmu hρ hw' hr' hn (zbr hρ0 (ha _ hw'.le)) next
 ·rcases hv with rfl | ⟨n, rfl, hn⟩
  ·exact next _ _ hw hr
  ·cases h
end
theorem getElem?_map_some {α β : Type} {f : α → β} {l : List α} {i : Nat} (h : i < l.length) : (l.map f)[i]? = some (f l[i]) := by rw [List.getElem?_map, List.getElem?_eq_getElem h]; rfl
section
variable {r : Nat} {σ : Sto} {B : BP} {Q : QP}
theorem zha {C : Orc} {B : BP} {ρ : Loc} {τ : Sto} {e a : Addr} {i j : Nat} {vs : List Va} (hρ : ρ[i]? = some (some (.ref e))) (ha : ∀ k, attrW τ (.ref e) j k = k (.ref a)) (hl : τ a = some (.list vs)) :
  ∀ K : Sq → Sto → Prop, K (.lst a) τ → wpIt C B ρ [] (.seq (.attr (.var i) j)) τ K := fun K h => by
 exact zci hρ ((ha _).mpr ((zc9 hl).mpr h))
theorem zn9 {b : EB} (H : Has σ (eled b)) (ty : TyE b) (hb : cat (chE b) = none → B σ) (hq : ∀ c, cat (chE b) = some c → Q (.bytes c) σ) : zac tab (r+4) 223 [.ref b.e] σ B Q := by
 refine zp6 ?_
 have hbd : B σ → ∀ τ, σ.Le τ → ∃ τ', Sto.Le τ' τ ∧ B τ' := fun h τ k => ⟨σ, k, h⟩
 have at' : ∀ i v, getF [(7, b.w0), (8, b.w1), (9, b.w2), (10, b.w3), (11, .ref b.P), (12, .ref b.D), (13, .ref b.A), (14, .bool b.rs)] i = some v → ∀ τ, σ.Le τ → ∀ k, attrW τ (.ref b.e) i k = k v :=
  fun i v h τ hle k => zcn (hle _ _ H.e) h
 refine zq1 fun s p τ hw => ?_
 have hr : Rem (fun c => Q (.bytes c) σ) (B σ) [] (chE b) := by
  walk_at "lw"
  refine ⟨fun c hc => hq c hc, hb, ?_⟩
  have l1 : ∀ {t c v}, (cW t c v).length ≤ 2 := fun {t c v} => by unfold cW; split <;> simp
  have l2 : ∀ {l : List Va} {c : Va → List Oc} (_ : ∀ v, (c v).length ≤ 3), (l.flatMap c).length ≤ 3 * l.length := fun {l c} h => by
   induction l with
   | nil => simp
   | cons a l ih => rw [List.flatMap_cons, List.length_append, List.length_cons]; have := h a; lia -abstractProof
  have l3 : (b.fs.flatMap cF).length ≤ 6 * b.fs.length := by
   generalize b.fs = l
   induction l with
   | nil => simp
   | cons a l ih => rw [List.flatMap_cons, List.length_append, List.length_cons, show (cF a).length = 6 from rfl]; lia -abstractProof
  have lp := l2 (l := b.ps) (c := cP) (fun v => by unfold cP; split <;> simp)
  have ld := l2 (l := b.eds) (c := cD) (fun v => by unfold cD; split <;> simp)
  have l0 : (if b.rs = true then [some [(10 : UInt8)]] else []).length ≤ 1 := by split <;> simp
  have h1 := @l1 1 cB b.w0
  have h2 := @l1 2 cI b.w1
  have h3 := @l1 3 cI b.w2
  have h4 := @l1 4 cI b.w3
  have := ty.np
  have := ty.nd
  have := ty.nf
  unfold chE
  walk_at "lw"
  simp only [List.length_append, List.length_nil]
  lia -abstractProof
 unfold chE at hr
 refine sk_rst rfl rfl (at' 14 _ rfl) hw hr hbd fun τ b' hw hr => ?_
 refine sk_wB (t := 1) rfl (by decide) ty.w0 rfl rfl (at' 7 _ rfl) hw hr hbd fun τ b' hw hr => ?_
 refine zr1 (t := 2) rfl (by decide) ty.w1 rfl rfl (at' 8 _ rfl) hw hr hbd fun τ b' hw hr => ?_
 refine zr1 (t := 3) rfl (by decide) ty.w2 rfl rfl (at' 9 _ rfl) hw hr hbd fun τ b' hw hr => ?_
 refine zr1 (t := 4) rfl (by decide) ty.w3 rfl rfl (at' 10 _ rfl) hw hr hbd fun τ b' hw hr => ?_
 refine zaw (zha (e := b.e) rfl (at' 11 _ rfl _ hw.le) (hw.le _ _ H.P)) b.ps.length (fun k ρ τ => Ex3 fun x y b' => A3 (ρ = [some (.ref b.e), some (.ref s), x, y, none, none]) (WS σ s p b' τ) (Rem (fun c => Q (.bytes c) σ) (B σ) b' ((b.ps.drop k).flatMap cP ++ (b.eds.flatMap cD ++ b.fs.flatMap cF)))) ⟨none, none, b', rfl, hw, hr⟩ ?_ ?_
 ·intro m ρ τ K hm hI hk
  obtain ⟨x, y, b', rfl, hw, hr⟩ := hI
  obtain ⟨l, k, e, ⟨n, rfl, hn⟩, ⟨c, rfl, hc⟩⟩ := ty.ps b.ps[m] (List.getElem_mem hm)
  walk_at "lw"
  refine ⟨b.ps[m], by rw [zal (hw.le _ _ H.P), List.getElem?_eq_getElem hm], ?_⟩
  rw [List.drop_eq_getElem_cons hm, e, List.flatMap_cons] at hr
  walk_at "lw"
  rw [e]
  show wpSs _ _ _ _ _ _ _
  refine zg9 (t := 5) rfl (by decide) rfl hw hr hbd fun τ b' hw hr => ?_
  refine zfk rfl hw hr hn hbd (fun Q h => h) fun τ b' hw hr => ?_
  refine zmu rfl hw hr hc (fun Q h => h) fun τ b' hw hr => ?_
  exact hk _ _ ⟨_, _, _, rfl, hw, hr⟩
 ·rintro ρ τ ⟨x, y, b', rfl, hw, hr⟩
  refine And.intro (by rw [zal (hw.le _ _ H.P), List.getElem?_eq_none (Nat.le_refl _)]) ?_
  rw [List.drop_length] at hr
  refine zaw (zha (e := b.e) rfl (at' 12 _ rfl _ hw.le) (hw.le _ _ H.D)) b.eds.length (fun k ρ τ => Ex4 fun x y z b' => A3 (ρ = [some (.ref b.e), some (.ref s), x, y, z, none]) (WS σ s p b' τ) (Rem (fun c => Q (.bytes c) σ) (B σ) b' ((b.eds.drop k).flatMap cD ++ b.fs.flatMap cF))) ⟨x, y, none, b', rfl, hw, hr⟩ ?_ ?_
  ·intro m ρ τ K hm hI hk
   obtain ⟨x, y, z, b', rfl, hw, hr⟩ := hI
   obtain ⟨l, k, e, ⟨n, rfl, hn⟩, ⟨c, rfl, hc⟩⟩ := ty.ds b.eds[m] (List.getElem_mem hm)
   walk_at "lw"
   refine ⟨b.eds[m], by rw [zal (hw.le _ _ H.D), List.getElem?_eq_getElem hm], ?_⟩
   rw [List.drop_eq_getElem_cons hm, e, List.flatMap_cons] at hr
   walk_at "lw"
   rw [e]
   show wpSs _ _ _ _ _ _ _
   refine zg9 (t := 6) rfl (by decide) rfl hw hr hbd fun τ b' hw hr => ?_
   refine zfk rfl hw hr hn hbd (fun Q h => h) fun τ b' hw hr => ?_
   refine zfk rfl hw hr hc hbd (fun Q h => h) fun τ b' hw hr => ?_
   exact hk _ _ ⟨_, _, _, _, rfl, hw, hr⟩
  ·rintro ρ τ ⟨x, y, z, b', rfl, hw, hr⟩
   refine And.intro (by rw [zal (hw.le _ _ H.D), List.getElem?_eq_none (Nat.le_refl _)]) ?_
   rw [List.drop_length] at hr
   refine zaw (zha (e := b.e) rfl (at' 13 _ rfl _ hw.le) (hw.le _ _ H.A)) b.fs.length (fun k ρ τ => Ex5 fun x y z u b' => A3 (ρ = [some (.ref b.e), some (.ref s), x, y, z, u]) (WS σ s p b' τ) (Rem (fun c => Q (.bytes c) σ) (B σ) b' ((b.fs.drop k).flatMap cF))) ⟨x, y, z, none, b', rfl, hw, hr⟩ ?_ ?_
   ·intro m ρ τ K hm hI hk
    obtain ⟨x, y, z, u, b', rfl, hw, hr⟩ := hI
    have hf := ty.fs b.fs[m] (List.getElem_mem hm)
    have hme := H.me (List.getElem_mem hm)
    walk_at "lw"
    refine ⟨_, by rw [zal (hw.le _ _ H.A), getElem?_map_some hm], ?_⟩
    rw [List.drop_eq_getElem_cons hm, List.flatMap_cons] at hr
    generalize b.fs[m] = f at *
    have af : ∀ i v, getF [(3, f.n), (4, f.s), (5, f.lo), (6, f.hi)] i = some v → ∀ τ, σ.Le τ → ∀ k, attrW τ (.ref f.me) i k = k v :=
     fun i v h τ hle k => zcn (hle _ _ hme) h
    have := hf.lv
    show wpSs _ _ _ _ _ _ _
    refine zg9 (t := 7) rfl (by decide) rfl hw hr hbd fun τ b' hw hr => ?_
    refine zfk rfl hw hr ⟨by exact Int.lt_of_lt_of_le (by decide) (Int.natCast_nonneg _), by lia -abstractProof⟩ hbd (fun Q h => h) fun τ b' hw hr => ?_
    refine zeg rfl hw hr hf.n hbd (zbr rfl (af 3 _ rfl _ hw.le)) fun τ b' hw hr => ?_
    refine zeg rfl hw hr hf.s hbd (zbr rfl (af 4 _ rfl _ hw.le)) fun τ b' hw hr => ?_
    refine zf2 rfl hw hr hf.lo (zbr rfl (af 5 _ rfl _ hw.le)) fun τ b' hw hr => ?_
    refine zf2 rfl hw hr hf.hi (zbr rfl (af 6 _ rfl _ hw.le)) fun τ b' hw hr => ?_
    exact hk _ _ ⟨_, _, _, _, _, rfl, hw, hr⟩
   ·rintro ρ τ ⟨x, y, z, u, b', rfl, hw, hr⟩
    refine And.intro (by rw [zal (hw.le _ _ H.A), List.getElem?_eq_none (by simp)]) ?_
    rw [List.drop_length] at hr
    have hz := hr.size
    refine zay hw.hs (show mth 16 4 = some 218 from rfl) ?_
    exact c_218 hw.hs hw.hp (by exact Nat.le_of_lt (Nat.lt_of_lt_of_le (Nat.lt_of_le_of_lt (Nat.le_add_right _ _) (Nat.lt_of_le_of_lt (Nat.le_add_right _ _) hz)) (by decide))) ⟨σ, hw.le, hr.fin⟩
end
end
section
section
variable {r : Nat} {σ : Sto} {B : BP} {Q : QP}
theorem zql {b : MB} (H : Has σ (mled b)) (ty : TyM b) (hb : cat (chM b) = none → B σ) (hq : ∀ c, cat (chM b) = some c → Q (.bytes c) σ) : zac tab (r+4) 229 [.ref b.m] σ B Q := by
 refine zp1 ?_
 have hbd : B σ → ∀ τ, σ.Le τ → ∃ τ', Sto.Le τ' τ ∧ B τ' := fun h τ k => ⟨σ, k, h⟩
 have at' : ∀ i v, getF [(17, b.n0), (18, b.n1), (19, b.cf), (10, b.n2), (20, .ref b.U)] i = some v → ∀ τ, σ.Le τ → ∀ k, attrW τ (.ref b.m) i k = k v :=
  fun i v h τ hle k => zcn (hle _ _ H.gm) h
 have a20 := at' 20 _ rfl
 refine zq1 fun s p τ hw => ?_
 have hr : Rem (fun c => Q (.bytes c) σ) (B σ) [] (chM b) := by
  walk_at "lw"
  refine ⟨fun c hc => hq c hc, hb, ?_⟩
  have l3 : (b.rs.flatMap cR).length ≤ 5 * b.rs.length := by
   generalize b.rs = l
   induction l with
   | nil => simp
   | cons a l ih => rw [List.flatMap_cons, List.length_append, List.length_cons, show (cR a).length = 5 from rfl]; lia -abstractProof
  have := ty.nr
  unfold chM
  walk_at "lw"
  simp only [List.length_cons, List.length_nil]
  lia -abstractProof
 refine zeg rfl hw hr ty.n0 hbd (zbr rfl (at' 17 _ rfl _ hw.le)) fun τ b' hw hr => ?_
 refine zeg rfl hw hr ty.n1 hbd (zbr rfl (at' 18 _ rfl _ hw.le)) fun τ b' hw hr => ?_
 refine zeg rfl hw hr ty.n2 hbd (zbr rfl (at' 10 _ rfl _ hw.le)) fun τ b' hw hr => ?_
 refine zf2 rfl hw hr ty.cf (zbr rfl (at' 19 _ rfl _ hw.le)) fun τ b' hw hr => ?_
 refine zfk rfl hw hr ⟨by exact Int.lt_of_lt_of_le (by decide) (Int.natCast_nonneg _), by have := ty.nr; lia -abstractProof⟩ hbd (fun Q h => ?_) fun τ b' hw hr => ?_
 ·walk_at "lw"
  simp only [↓a20 _ hw.le]
  rw [zbn (hw.le _ _ H.gU), List.length_map]; exact h
 refine zaw (zha (e := b.m) rfl (a20 _ hw.le) (hw.le _ _ H.gU)) b.rs.length (fun k ρ τ => Ex2 fun x b' => A3 (ρ = [some (.ref b.m), some (.ref s), x]) (WS σ s p b' τ) (Rem (fun c => Q (.bytes c) σ) (B σ) b' ((b.rs.drop k).flatMap cR))) ⟨none, b', rfl, hw, hr⟩ ?_ ?_
 ·intro m ρ τ K hm hI hk
  obtain ⟨x, b', rfl, hw, hr⟩ := hI
  have hf := ty.rs b.rs[m] (List.getElem_mem hm)
  have hme := H.gru (List.getElem_mem hm)
  walk_at "lw"
  refine ⟨_, by rw [zal (hw.le _ _ H.gU), getElem?_map_some hm], ?_⟩
  rw [List.drop_eq_getElem_cons hm, List.flatMap_cons] at hr
  generalize b.rs[m] = f at *
  have af : ∀ i v, getF [(15, f.a0), (4, f.a1), (16, f.a2), (5, f.a3), (6, f.a4)] i = some v → ∀ τ, σ.Le τ → ∀ k, attrW τ (.ref f.ru) i k = k v :=
   fun i v h τ hle k => zcn (hle _ _ hme) h
  refine zeg rfl hw hr hf.a0 hbd (zbr rfl (af 15 _ rfl _ hw.le)) fun τ b' hw hr => ?_
  refine zeg rfl hw hr hf.a1 hbd (zbr rfl (af 4 _ rfl _ hw.le)) fun τ b' hw hr => ?_
  refine zr2 (r := r + 1) rfl hw hr hf.a2 hbd (zbr rfl (af 16 _ rfl _ hw.le)) fun τ b' hw hr => ?_
  refine zf2 rfl hw hr hf.a3 (zbr rfl (af 5 _ rfl _ hw.le)) fun τ b' hw hr => ?_
  refine zf2 rfl hw hr hf.a4 (zbr rfl (af 6 _ rfl _ hw.le)) fun τ b' hw hr => ?_
  exact hk _ _ ⟨_, _, rfl, hw, hr⟩
 ·rintro ρ τ ⟨x, b', rfl, hw, hr⟩
  refine And.intro (by rw [zal (hw.le _ _ H.gU), List.getElem?_eq_none (by simp)]) ?_
  rw [List.drop_length] at hr
  have hz := hr.size
  refine zay hw.hs (show mth 16 4 = some 218 from rfl) ?_
  exact c_218 hw.hs hw.hp (by exact Nat.le_of_lt (Nat.lt_of_lt_of_le (Nat.lt_of_le_of_lt (Nat.le_add_right _ _) (Nat.lt_of_le_of_lt (Nat.le_add_right _ _) hz)) (by decide))) ⟨σ, hw.le, hr.fin⟩
structure EV where
 (w0 w1 w2 w3 : Va) (ps ds : List Va) (fs : List (Nat × Va × Va × Va × Va)) (rs : Bool)
noncomputable def FB.v (f : FB) : Nat × Va × Va × Va × Va := (f.lv, f.n, f.s, f.lo, f.hi)
noncomputable def EB.ev (b : EB) : EV := ⟨b.w0, b.w1, b.w2, b.w3, b.ps, b.eds, b.fs.map FB.v, b.rs⟩
noncomputable def rowF (f : Nat × Va × Va × Va × Va) : Va := .tup [.int f.1, .tup [f.2.1, f.2.2.1, f.2.2.2.1, f.2.2.2.2]]
noncomputable def EV.row (v : EV) : Va := .tup [v.w0, v.w1, v.w2, v.w3, .tup v.ps, .tup v.ds, .tup (v.fs.map rowF), .bool v.rs]
structure MV where
 (n0 n1 n2 cf : Va) (rs : List (Va × Va × Va × Va × Va))
noncomputable def RB.v (f : RB) : Va × Va × Va × Va × Va := (f.a0, f.a1, f.a2, f.a3, f.a4)
noncomputable def MB.mv (b : MB) : MV := ⟨b.n0, b.n1, b.n2, b.cf, b.rs.map RB.v⟩
noncomputable def rowR (f : Va × Va × Va × Va × Va) : Va := .tup [f.1, f.2.1, f.2.2.1, f.2.2.2.1, f.2.2.2.2]
noncomputable def MV.row (v : MV) : Va := .tup [v.n0, v.n1, v.cf, v.n2, .tup (v.rs.map rowR)]
theorem c_220 {e : Addr} {a b c d : Va} (he : σ e = some (meI a b c d)) (hq : Q (.tup [a, b, c, d]) σ) : zac tab (r+1) 220 [.ref e] σ B Q := by
 apply zp9
 exact zar he (w := a) rfl (zar he (w := b) rfl (zar he (w := c) rfl (zar he (w := d) rfl ⟨σ, .refl σ, hq⟩)))
theorem c_225 {e : Addr} {a b c d f : Va} (he : σ e = some (ruI a b c d f)) (hq : Q (.tup [a, b, c, d, f]) σ) : zac tab (r+1) 225 [.ref e] σ B Q := by
 apply zp4
 exact zar he (w := a) rfl (zar he (w := b) rfl (zar he (w := c) rfl (zar he (w := d) rfl (zar he (w := f) rfl ⟨σ, .refl σ, hq⟩))))
theorem zt1 {b : EB} (H : Has σ (eled b)) (hf : b.fs.length ≤ 1000) (hq : Q b.ev.row σ) : zac tab (r+2) 222 [.ref b.e] σ B Q := by
 refine zp7 ?_
 have at' : ∀ i v, getF [(7, b.w0), (8, b.w1), (9, b.w2), (10, b.w3), (11, .ref b.P), (12, .ref b.D), (13, .ref b.A), (14, .bool b.rs)] i = some v → ∀ τ, σ.Le τ → ∀ k, attrW τ (.ref b.e) i k = k v :=
  fun i v h τ hle k => zcn (hle _ _ H.e) h
 have a7 := at' 7 _ rfl
 have a8 := at' 8 _ rfl
 have a9 := at' 9 _ rfl
 have a10 := at' 10 _ rfl
 have a11 := at' 11 _ rfl
 have a12 := at' 12 _ rfl
 have a13 := at' 13 _ rfl
 have a14 := at' 14 _ rfl
 show ∀ a, σ a = none → wpSs _ _ _ _ _ _ _
 intro a ha
 have hle := Sto.le_set (u := .list []) ha
 refine zaw (zha (e := b.e) rfl (a13 _ hle) (hle _ _ H.A)) b.fs.length (fun k ρ τ => Ex2 fun x y => A3 (ρ = [some (.ref b.e), some (.ref a), x, y]) (σ.Le τ) (τ a = some (.list ((b.fs.take k).map fun f => rowF f.v))))
  ⟨none, none, rfl, hle, Sto.set_self⟩ ?_ ?_
 ·intro m ρ τ K hm hI hk
  obtain ⟨x, y, rfl, hle, hl⟩ := hI
  have hme := hle _ _ (H.me (List.getElem_mem hm))
  walk_at "lw"
  refine ⟨_, by rw [zal (hle _ _ H.A), getElem?_map_some hm], ?_⟩
  walk_at "lw"
  simp only [FB.ea]
  walk_at "lw"
  refine And.intro (.inl (zan hl)) ?_
  refine zay hme (show mth 17 5 = some 220 from rfl) ?_
  refine c_220 hme ?_
  walk_at "lw"
  rw [zan hl]
  walk_at "lw"
  rw [za0 hl]
  walk_at "lw"
  refine ⟨rfl, by simp [zap]; exact Nat.lt_of_le_of_lt (Nat.min_le_right _ _) (Nat.lt_of_le_of_lt hf (by decide)), hk _ _ ⟨_, _, rfl, Sto.le_set_set hle ha, ?_⟩⟩
  walk_at "lw"
  rw [Sto.set_self]
  walk_at "lw"
  rw [List.take_succ_eq_append_getElem hm]
  walk_at "lw"
  rw [List.map_append]
  rfl
 ·rintro ρ τ ⟨x, y, rfl, hle, hl⟩
  refine And.intro (by rw [zal (hle _ _ H.A), List.getElem?_eq_none (by simp)]) ?_
  rw [List.take_length] at hl
  have t1 : ∀ k, tupOfW τ (.ref b.P) k = k (.tup b.ps) := fun k => zdb (hle _ _ H.P)
  have t2 : ∀ k, tupOfW τ (.ref b.D) k = k (.tup b.eds) := fun k => zdb (hle _ _ H.D)
  have t3 : ∀ k, tupOfW τ (.ref a) k = k _ := fun k => zdb hl
  refine (a7 _ hle _).mpr ((a8 _ hle _).mpr ((a9 _ hle _).mpr ((a10 _ hle _).mpr ((a11 _ hle _).mpr ((t1 _).mpr ((a12 _ hle _).mpr ((t2 _).mpr ((t3 _).mpr ((a14 _ hle _).mpr ⟨σ, hle, ?_⟩)))))))))
  unfold EV.row EB.ev at hq
  walk_at "lw"
  simp only [List.map_map] at hq
  exact hq
theorem zt0 {b : MB} (H : Has σ (mled b)) (hf : b.rs.length ≤ 1000) (hq : Q b.mv.row σ) : zac tab (r+2) 228 [.ref b.m] σ B Q := by
 refine zp2 ?_
 have at' : ∀ i v, getF [(17, b.n0), (18, b.n1), (19, b.cf), (10, b.n2), (20, .ref b.U)] i = some v → ∀ τ, σ.Le τ → ∀ k, attrW τ (.ref b.m) i k = k v :=
  fun i v h τ hle k => zcn (hle _ _ H.gm) h
 have a17 := at' 17 _ rfl
 have a18 := at' 18 _ rfl
 have a19 := at' 19 _ rfl
 have a10 := at' 10 _ rfl
 have a20 := at' 20 _ rfl
 show ∀ a, σ a = none → wpSs _ _ _ _ _ _ _
 intro a ha
 have hle := Sto.le_set (u := .list []) ha
 refine zaw (zha (e := b.m) rfl (a20 _ hle) (hle _ _ H.gU)) b.rs.length (fun k ρ τ => ∃ x, A3 (ρ = [some (.ref b.m), some (.ref a), x]) (σ.Le τ) (τ a = some (.list ((b.rs.take k).map fun f => rowR f.v))))
  ⟨none, rfl, hle, Sto.set_self⟩ ?_ ?_
 ·intro m ρ τ K hm hI hk
  obtain ⟨x, rfl, hle, hl⟩ := hI
  have hme := hle _ _ (H.gru (List.getElem_mem hm))
  walk_at "lw"
  refine ⟨_, by rw [zal (hle _ _ H.gU), getElem?_map_some hm], ?_⟩
  walk_at "lw"
  refine And.intro (.inl (zan hl)) ?_
  refine zay hme (show mth 23 5 = some 225 from rfl) ?_
  refine c_225 hme ?_
  walk_at "lw"
  rw [zan hl]
  walk_at "lw"
  rw [za0 hl]
  walk_at "lw"
  refine ⟨rfl, by simp [zap]; exact Nat.lt_of_le_of_lt (Nat.min_le_right _ _) (Nat.lt_of_le_of_lt hf (by decide)), hk _ _ ⟨_, rfl, Sto.le_set_set hle ha, ?_⟩⟩
  walk_at "lw"
  rw [Sto.set_self]
  walk_at "lw"
  rw [List.take_succ_eq_append_getElem hm]
  walk_at "lw"
  rw [List.map_append]
  rfl
 ·rintro ρ τ ⟨x, rfl, hle, hl⟩
  refine And.intro (by rw [zal (hle _ _ H.gU), List.getElem?_eq_none (by simp)]) ?_
  rw [List.take_length] at hl
  have t3 : ∀ k, tupOfW τ (.ref a) k = k _ := fun k => zdb hl
  refine (a17 _ hle _).mpr ((a18 _ hle _).mpr ((a19 _ hle _).mpr ((a10 _ hle _).mpr ((t3 _).mpr ⟨σ, hle, ?_⟩))))
  unfold MV.row MB.mv at hq
  walk_at "lw"
  simp only [List.map_map] at hq
  exact hq
end
end
section
inductive Up : Lg → Addr → UOb → UOb → Lg → Prop
 | here {a : Addr} {u u' : UOb} {L : Lg} : Up ((a, u) :: L) a u u' ((a, u') :: L)
 | there {a : Addr} {u u' : UOb} {c : Addr × UOb} {L L' : Lg} : Up L a u u' L' → Up (c :: L) a u u' (c :: L')
theorem Up.mem {L L' : Lg} {a : Addr} {u u' : UOb} (x : Up L a u u' L') : (a, u) ∈ L := by
 induction x with
 | here => exact .head _
 | there _ ih => exact .tail _ ih
theorem Up.keys {L L' : Lg} {a : Addr} {u u' : UOb} (x : Up L a u u' L') : L'.map (·.1) = L.map (·.1) := by
 induction x with
 | here => rfl
 | there _ ih => simp only [List.map_cons, ih]
theorem Up.old {L L' : Lg} {a : Addr} {u u' : UOb} (x : Up L a u u' L') (nd : (L.map (·.1)).Nodup) : ∀ p ∈ L', p = (a, u') ∨ (p ∈ L ∧ p.1 ≠ a) := by
 induction x with
 | here =>
  rw [List.map_cons, List.nodup_cons] at nd
  intro p hp
  cases hp with
  | head => exact .inl rfl
  | tail _ h => exact .inr ⟨.tail _ h, fun z => nd.1 (z ▸ List.mem_map_of_mem (f := (·.1)) h)⟩
 | there y ih =>
  rw [List.map_cons, List.nodup_cons] at nd
  intro p hp
  cases hp with
  | head => exact .inr ⟨.head _, fun z => nd.1 (z ▸ List.mem_map_of_mem (f := (·.1)) y.mem)⟩
  | tail _ h => exact (ih nd.2 p h).imp id fun q => ⟨.tail _ q.1, q.2⟩
theorem Hold.up {σ : Sto} {L L' : Lg} {a : Addr} {u u' : UOb} (h : Hold σ L) (x : Up L a u u' L') : Hold (σ.set a u') L' := by
 refine ⟨fun p hp => ?_, by rw [x.keys]; exact h.2⟩
 rcases x.old h.2 p hp with rfl | ⟨h1, h2⟩
 ·exact Sto.set_self
 ·rw [Sto.set_ne h2]; exact h.1 p h1
set_option genCtorIdx false in
inductive Rc where
 | cmp (b : List UInt8) | w1 (n : Nat) | w2 (n : Nat) | w3 (n : Nat) | ptr (l : Nat) (k : List UInt8) | del (l n : Nat) | add (l n s : Nat) (lo hi : List UInt8) | rst
noncomputable def encR : Rc → List UInt8
 | .cmp b => var 1 ++ text b
 | .w1 n => var 2 ++ var n
 | .w2 n => var 3 ++ var n
 | .w3 n => var 4 ++ var n
 | .ptr l k => var 5 ++ (var l ++ text k)
 | .del l n => var 6 ++ (var l ++ var n)
 | .add l n s lo hi => var 7 ++ (var l ++ (var n ++ (var s ++ (text lo ++ text hi))))
 | .rst => var 10
noncomputable abbrev M64 : Nat := 18446744073709551615
noncomputable def okR : Rc → Prop
 | .cmp b => b.length ≤ 130
 | .w1 n => n ≤ 18446744073709551615
 | .w2 n => n ≤ 18446744073709551615
 | .w3 n => n ≤ 72057594037927935
 | .ptr l k => l < 12 ∧ 1 ≤ k.length ∧ k.length ≤ 130
 | .del l n => l < 12 ∧ n ≤ 18446744073709551615
 | .add l n s lo hi => l < 12 ∧ n ≤ 18446744073709551615 ∧ s ≤ 18446744073709551615 ∧ (1 ≤ lo.length ∧ lo.length ≤ 130) ∧ (1 ≤ hi.length ∧ hi.length ≤ 130)
 | .rst => True
noncomputable def appR (v : EV) : Rc → EV
 | .cmp b => { v with w0 := .bytes b }
 | .w1 n => { v with w1 := .int n }
 | .w2 n => { v with w2 := .int n }
 | .w3 n => { v with w3 := .int n }
 | .ptr l k => { v with ps := v.ps ++ [.tup [.int l, .bytes k]] }
 | .del l n => { v with ds := v.ds ++ [.tup [.int l, .int n]] }
 | .add l n s lo hi => { v with fs := v.fs ++ [(l, .int n, .int s, .bytes lo, .bytes hi)] }
 | .rst => { v with rs := true }
noncomputable def ev0 : EV := ⟨.none, .none, .none, .none, [], [], [], false⟩
section
variable {r : Nat} {σ : Sto} {B : BP} {Q : QP} {c : Addr} {data rest : List UInt8} {k n : Nat} {L : Lg}
theorem zc8 (hl : data.length ≤ 16777216) (H : Hold σ ((c, Cur data k) :: L)) (hd : data.drop k = var n ++ rest) (hn : n ≤ 18446744073709551615)
  (hq : ∀ σ' k', Hold σ' ((c, Cur data k') :: L) → data.drop k' = rest → Q (.int n) σ') : zac tab (r+3) 202 [.ref c] σ B Q :=
 c_202 hl (H.nth 0 rfl) hd hn (hq _ _ (H.set _) (zex hd).1)
theorem u_fix (hl : data.length ≤ 16777216) (H : Hold σ ((c, Cur data k) :: L)) (hd : data.drop k = fix n ++ rest) (hn : n ≤ 4294967295)
  (hq : ∀ σ' k', Hold σ' ((c, Cur data k') :: L) → data.drop k' = rest → Q (.int n) σ') : zac tab (r+2) 203 [.ref c] σ B Q :=
 c_203 hl (H.nth 0 rfl) hd hn (hq _ _ (H.set _) (zex hd).1)
theorem zma {b : List UInt8} (hl : data.length ≤ 16777216) (H : Hold σ ((c, Cur data k) :: L)) (hd : data.drop k = text b ++ rest) (hb : b.length ≤ 130)
  (hq : ∀ σ' k', Hold σ' ((c, Cur data k') :: L) → data.drop k' = rest → Q (.bytes b) σ') : zac tab (r+4) 205 [.ref c] σ B Q :=
 c_205 hl (H.nth 0 rfl) hd (by exact Nat.le_trans hb (by decide)) (hq _ _ (H.set _) (zex hd).1)
theorem zbc {σ : Sto} {m f : Nat} {kn : Nat → Prop} (H : Hold σ ((c, Cur data k) :: L)) (e : mth 15 m = some f) (q : kn f) : methW σ (.ref c) m kn := zay (H.nth 0 rfl) e q
theorem zlu {σ : Sto} {m f : Nat} {kn : Nat → Prop} (H : Hold σ ((c, Cur data k) :: L)) (e : mth 15 m = some f) : methW σ (.ref c) m kn = kn f := zpe (H.nth 0 rfl) e
theorem c_19 (hl : data.length ≤ 16777216) (H : Hold σ ((c, Cur data k) :: L)) (hd : data.drop k = var n ++ rest) (hn : n < 12)
  (hq : ∀ σ' k', Hold σ' ((c, Cur data k') :: L) → data.drop k' = rest → Q (.int n) σ') : zac tab (r+4) 19 [.ref c] σ B Q := by
 refine zts ?_
 refine zbc H (show mth 15 1 = some 202 from rfl) ?_
 refine zc8 hl H hd (by exact Nat.le_of_lt (Nat.lt_of_lt_of_le hn (by decide))) fun σ' k' H' hd' => ?_
 walk_at "lw"
 refine zau (fun z => absurd (of_decide_eq_true z) (by exact Int.not_le.mpr (Int.ofNat_lt.mpr hn))) ?_
 exact zax (hq _ _ H' hd')
theorem c_20 (hl : data.length ≤ 16777216) (H : Hold σ ((c, Cur data k) :: L)) (hd : data.drop k = var n ++ rest) (hn : n ≤ 72057594037927935)
  (hq : ∀ σ' k', Hold σ' ((c, Cur data k') :: L) → data.drop k' = rest → Q (.int n) σ') : zac tab (r+4) 20 [.ref c] σ B Q := by
 refine ztr ?_
 refine zbc H (show mth 15 1 = some 202 from rfl) ?_
 refine zc8 hl H hd (by exact Nat.le_trans hn (by decide)) fun σ' k' H' hd' => ?_
 walk_at "lw"
 refine zau (fun z => absurd (of_decide_eq_true z) (by exact Int.not_lt.mpr (Int.ofNat_le.mpr hn))) ?_
 exact zax (hq _ _ H' hd')
theorem c_21 {b : List UInt8} (hl : data.length ≤ 16777216) (H : Hold σ ((c, Cur data k) :: L)) (hd : data.drop k = text b ++ rest) (hb : 1 ≤ b.length ∧ b.length ≤ 130)
  (hq : ∀ σ' k', Hold σ' ((c, Cur data k') :: L) → data.drop k' = rest → Q (.bytes b) σ') : zac tab (r+5) 21 [.ref c] σ B Q := by
 refine ztq ?_
 refine zbc H (show mth 15 3 = some 205 from rfl) ?_
 refine zma hl H hd hb.2 fun σ' k' H' hd' => ?_
 refine And.intro (by exact Nat.le_trans hb.2 (by decide)) ?_
 refine zau (fun z => absurd (of_decide_eq_true z) (by lia -abstractProof)) ?_
 exact zax (hq _ _ H' hd')
theorem c_221 {e : Addr} (H : Hold σ ((e, .inst 18 []) :: L)) (hq : ∀ P D A σ', Hold σ' ((e, edI .none .none .none .none P D A false) :: (P, .list []) :: (D, .list []) :: (A, .list []) :: L) → Q .none σ') :
  zac tab (r+1) 221 [.ref e] σ B Q := by
 refine zp8 ?_
 refine zad (H.nth 0 rfl) ?_
 refine And.intro (by simp) ?_
 replace H := H.set (.inst 18 [(7, .none)])
 walk_at "lw"
 rw [show setF [] 7 Va.none = [(7, .none)] from rfl]
 refine zad (H.nth 0 rfl) ?_
 refine And.intro (by simp) ?_
 replace H := H.set (.inst 18 [(7, .none), (8, .none)])
 walk_at "lw"
 rw [show setF [(7, Va.none)] 8 Va.none = [(7, .none), (8, .none)] from rfl]
 refine zad (H.nth 0 rfl) ?_
 refine And.intro (by simp) ?_
 replace H := H.set (.inst 18 [(7, .none), (8, .none), (9, .none)])
 walk_at "lw"
 rw [show setF [(7, Va.none), (8, .none)] 9 Va.none = [(7, .none), (8, .none), (9, .none)] from rfl]
 refine zad (H.nth 0 rfl) ?_
 refine And.intro (by simp) ?_
 replace H := H.set (.inst 18 [(7, .none), (8, .none), (9, .none), (10, .none)])
 walk_at "lw"
 rw [show setF [(7, Va.none), (8, .none), (9, .none)] 10 Va.none = [(7, .none), (8, .none), (9, .none), (10, .none)] from rfl]
 intro P hP
 replace H := H.new hP (.list [])
 refine zad (H.nth 1 rfl) ?_
 refine And.intro (by simp) ?_
 replace H := H.up (u' := .inst 18 [(7, .none), (8, .none), (9, .none), (10, .none), (11, .ref P)]) (.there .here)
 walk_at "lw"
 rw [show setF [(7, Va.none), (8, .none), (9, .none), (10, .none)] 11 (Va.ref P) = [(7, .none), (8, .none), (9, .none), (10, .none), (11, .ref P)] from rfl]
 intro D hD
 replace H := H.new hD (.list [])
 refine zad (H.nth 2 rfl) ?_
 refine And.intro (by simp) ?_
 replace H := H.up (u' := .inst 18 [(7, .none), (8, .none), (9, .none), (10, .none), (11, .ref P), (12, .ref D)]) (.there (.there .here))
 walk_at "lw"
 rw [show setF [(7, Va.none), (8, .none), (9, .none), (10, .none), (11, .ref P)] 12 (Va.ref D) = [(7, .none), (8, .none), (9, .none), (10, .none), (11, .ref P), (12, .ref D)] from rfl]
 intro A hA
 replace H := H.new hA (.list [])
 refine zad (H.nth 3 rfl) ?_
 refine And.intro (by simp) ?_
 replace H := H.up (u' := .inst 18 [(7, .none), (8, .none), (9, .none), (10, .none), (11, .ref P), (12, .ref D), (13, .ref A)]) (.there (.there (.there .here)))
 walk_at "lw"
 rw [show setF [(7, Va.none), (8, .none), (9, .none), (10, .none), (11, .ref P), (12, .ref D)] 13 (Va.ref A) = [(7, .none), (8, .none), (9, .none), (10, .none), (11, .ref P), (12, .ref D), (13, .ref A)] from rfl]
 refine zad (H.nth 3 rfl) ?_
 refine And.intro (by simp) ?_
 replace H := H.up (u' := edI .none .none .none .none P D A false) (.there (.there (.there .here)))
 refine zax (hq P D A _ (H.perm (zcv [_, _, _, _] [L] (.cs (.l 0) [0, 1, 2, 3]) (.cs (.l 0) [3, 2, 1, 0]) rfl)))
end
end
section
section
variable {r : Nat} {σ : Sto} {B : BP} {Q : QP} {c e : Addr} {data rest : List UInt8} {k n : Nat} {L : Lg} {N : Loc → Sto → Prop} {R : QP} {ρ : Loc} {ss x y : Ss} {C : Orc} {t g : Nat}
theorem zdr {C : Orc} {R : QP} {N : Loc → Sto → Prop} {ρ : Loc} {ss x y : Ss} {t g : Nat} (hg : gval g = t) (hρ : ρ[3]? = some (some (.int t))) (h : wpSs C B x ρ σ (fun ρ σ => wpSs C B ss ρ σ N R) R) : wpSs C B (.cons (.ite (.cmp .eq (.var 3) (.gint g)) x y) ss) ρ σ N R := by
 refine zck (b := true) (fun Q h => ?_) (fun _ => h) (fun z => nomatch z)
 exact zci hρ (show Q (.bool (decide ((t : Int) = gval g))) σ by rw [hg, decide_eq_true rfl]; exact h)
theorem zas {C : Orc} {R : QP} {N : Loc → Sto → Prop} {ρ : Loc} {ss x y : Ss} {t g : Nat} (hg : gval g ≠ t) (hρ : ρ[3]? = some (some (.int t))) (h : wpSs C B y ρ σ (fun ρ σ => wpSs C B ss ρ σ N R) R) : wpSs C B (.cons (.ite (.cmp .eq (.var 3) (.gint g)) x y) ss) ρ σ N R := by
 refine zck (b := false) (fun Q h => ?_) (fun z => nomatch z) (fun _ => h)
 exact zci hρ (show Q (.bool (decide ((t : Int) = gval g))) σ by rw [decide_eq_false (fun z => hg z.symm)]; exact h)
theorem zpp (x : Rc) : 1 ≤ (encR x).length := by
 cases x <;> simp only [encR, List.length_append] <;> first | exact zb8 _ | exact Nat.le_trans (zb8 _) (Nat.le_add_right _ _)
set_option maxHeartbeats 1000000 in
theorem c_22 {rl : List Rc} (hl : data.length ≤ 16777216) (hd : data = rl.flatMap encR) (ok : ∀ x ∈ rl, okR x) (hn : rl.length ≤ 1000) (H : Hold σ L)
  (hq : ∀ b σ', b.ev = rl.foldl appR ev0 → Hold σ' (eled b ++ L) → Q (.ref b.e) σ') : zac tab (r+6) 22 [.bytes data] σ B Q := by
 refine ztp ?_
 show ∀ a, σ a = none → zac tab (r+5) 221 _ _ _ _
 intro e he
 refine c_221 (H.new he _) fun P D A σ1 H1 => ⟨rfl, ?_⟩
 show ∀ a, σ1 a = none → zac tab (r+5) 200 _ _ _ _
 intro c hc
 refine c_200 hl Sto.set_self ⟨rfl, ?_⟩
 replace H1 := (H1.new hc (.inst 15 [])).set (Cur data 0)
 refine zkf rl.length (fun m ρ τ => Ex10 fun (b : EB) (k : Nat) (done todo : List Rc) (x3 x4 x5 x6 x7 x8 : Option Va) => A6 (ρ = [some (.bytes data), some (.ref b.e), some (.ref c), x3, x4, x5, x6, x7, x8]) (todo.length = m) (done ++ todo = rl) (data.drop k = todo.flatMap encR) (b.ev = done.foldl appR ev0) (Hold τ ((c, Cur data k) :: (eled b ++ L))))
  ⟨⟨0, e, 0, 0, 0, 0, P, D, A, .none, .none, .none, .none, [], [], [], [], false⟩, 0, [], rl, none, none, none, none, none, none, rfl, rfl, rfl, hd, rfl, H1⟩ ?_ ?_
 ·intro m ρ τ K hI hk
  obtain ⟨b, k, done, todo, x3, x4, x5, x6, x7, x8, rfl, hm, hdt, hd', hev, H⟩ := hI
  cases todo with
  | nil => cases hm
  | cons x todo =>
  have hx := ok x (by rw [← hdt]; simp)
  have hdone : done.length ≤ 1000 := by rw [← hdt] at hn; simp at hn; exact Nat.le_trans (Nat.le_add_right _ _) hn
  have hevl : b.ps.length ≤ done.length ∧ b.eds.length ≤ done.length ∧ b.fs.length ≤ done.length := by
   have key : ∀ (l : List Rc) (v : EV), (l.foldl appR v).ps.length ≤ v.ps.length + l.length ∧ (l.foldl appR v).ds.length ≤ v.ds.length + l.length ∧ (l.foldl appR v).fs.length ≤ v.fs.length + l.length := by
    intro l
    induction l with
    | nil => intro v; simp
    | cons a l ih =>
     intro v
     have := ih (appR v a)
     have h2 : (appR v a).ps.length ≤ v.ps.length + 1 ∧ (appR v a).ds.length ≤ v.ds.length + 1 ∧ (appR v a).fs.length ≤ v.fs.length + 1 := by cases a <;> simp [appR]
     walk_at "lw"
     simp only [List.foldl_cons, List.length_cons]
     lia -abstractProof
   have := key done ev0
   rw [← hev] at this
   simpa [EB.ev, ev0] using this
  rw [List.flatMap_cons] at hd'
  have hlt : k < data.length := by
   have := congrArg List.length hd'
   have := zpp x
   walk_at "lw"
   simp only [List.length_drop, List.length_append] at *; lia -abstractProof
  refine zbc H (show mth 15 0 = some 201 from rfl) ?_
  refine c_201 hl (H.nth 0 rfl) ?_
  refine zba (decide_eq_true (by lia -abstractProof)) ?_
  have fin : ∀ (b' : EB) (k' : Nat) (x3 x4 x5 x6 x7 x8 : Option Va) (τ' : Sto), b'.ev = appR b.ev x → b'.e = b.e → data.drop k' = todo.flatMap encR → Hold τ' ((c, Cur data k') :: (eled b' ++ L)) →
    K [some (.bytes data), some (.ref b.e), some (.ref c), x3, x4, x5, x6, x7, x8] τ' := fun b' k' x3 x4 x5 x6 x7 x8 τ' h1 h2 h3 h4 =>
   hk _ _ ⟨b', k', done ++ [x], todo, x3, x4, x5, x6, x7, x8, by rw [h2], by simpa using hm, by simp [hdt], h3, by rw [List.foldl_append, ← hev]; exact h1, h4⟩
  refine zbc H (show mth 15 1 = some 202 from rfl) ?_
  cases x with
  | cmp d =>
   rw [encR, List.append_assoc] at hd'
   refine zc8 hl H hd' (by decide) fun τ1 k1 H hd' => ?_
   refine zdr rfl rfl ?_
   refine zbc H (show mth 15 3 = some 205 from rfl) ?_
   refine zma hl H hd' hx fun τ2 k2 H hd' => ?_
   refine zad (H.nth 1 rfl) ?_
   exact And.intro (by simp) (fin { b with w0 := .bytes d } _ _ _ _ _ _ _ _ rfl rfl hd' (H.up (.there .here)))
  | w1 n =>
   rw [encR, List.append_assoc] at hd'
   refine zc8 hl H hd' (by decide) fun τ1 k1 H hd' => ?_
   refine zas (by decide) rfl ?_
   refine zdr rfl rfl ?_
   refine zbc H (show mth 15 1 = some 202 from rfl) ?_
   refine zc8 hl H hd' hx fun τ2 k2 H hd' => ?_
   refine zad (H.nth 1 rfl) ?_
   exact And.intro (by simp) (fin { b with w1 := .int n } _ _ _ _ _ _ _ _ rfl rfl hd' (H.up (.there .here)))
  | w2 n =>
   rw [encR, List.append_assoc] at hd'
   refine zc8 hl H hd' (by decide) fun τ1 k1 H hd' => ?_
   refine zas (by decide) rfl ?_
   refine zas (by decide) rfl ?_
   refine zdr rfl rfl ?_
   refine zbc H (show mth 15 1 = some 202 from rfl) ?_
   refine zc8 hl H hd' hx fun τ2 k2 H hd' => ?_
   refine zad (H.nth 1 rfl) ?_
   exact And.intro (by simp) (fin { b with w2 := .int n } _ _ _ _ _ _ _ _ rfl rfl hd' (H.up (.there .here)))
  | w3 n =>
   rw [encR, List.append_assoc] at hd'
   refine zc8 hl H hd' (by decide) fun τ1 k1 H hd' => ?_
   refine zas (by decide) rfl ?_
   refine zas (by decide) rfl ?_
   refine zas (by decide) rfl ?_
   refine zdr rfl rfl ?_
   refine c_20 hl H hd' hx fun τ2 k2 H hd' => ?_
   refine zad (H.nth 1 rfl) ?_
   exact And.intro (by simp) (fin { b with w3 := .int n } _ _ _ _ _ _ _ _ rfl rfl hd' (H.up (.there .here)))
  | ptr l d =>
   rw [encR, List.append_assoc, List.append_assoc] at hd'
   refine zc8 hl H hd' (by decide) fun τ1 k1 H hd' => ?_
   refine zas (by decide) rfl ?_
   refine zas (by decide) rfl ?_
   refine zas (by decide) rfl ?_
   refine zas (by decide) rfl ?_
   refine zdr rfl rfl ?_
   refine c_19 hl H hd' hx.1 fun τ2 k2 H hd' => ?_
   refine zar (H.nth 1 rfl) (show _ = some (.ref b.P) from rfl) ?_
   walk_at "lw"
   rw [zan (H.nth 2 rfl)]
   refine And.intro (.inl (by trivial)) (c_21 hl H hd' hx.2 fun τ3 k3 H hd' => ?_)
   walk_at "lw"
   exact And.intro (zan (H.nth 2 rfl)).symm (zbj (H.nth 2 rfl) ⟨by unfold zap; exact Nat.lt_of_le_of_lt hevl.1 (Nat.lt_of_le_of_lt hdone (by decide)), fin { b with ps := b.ps ++ [.tup [.int l, .bytes d]] } _ _ _ _ _ _ _ _ rfl rfl hd' (H.up (.there (.there .here)))⟩)
  | del l n =>
   rw [encR, List.append_assoc, List.append_assoc] at hd'
   refine zc8 hl H hd' (by decide) fun τ1 k1 H hd' => ?_
   refine zas (by decide) rfl ?_
   refine zas (by decide) rfl ?_
   refine zas (by decide) rfl ?_
   refine zas (by decide) rfl ?_
   refine zas (by decide) rfl ?_
   refine zdr rfl rfl ?_
   refine c_19 hl H hd' hx.1 fun τ2 k2 H hd' => ?_
   refine zar (H.nth 1 rfl) (show _ = some (.ref b.D) from rfl) ?_
   walk_at "lw"
   rw [zan (H.nth 3 rfl)]
   walk_at "lw"
   rw [zlu H (show mth 15 1 = some 202 from rfl)]
   refine And.intro (.inl (by trivial)) (zc8 hl H hd' hx.2 fun τ3 k3 H hd' => ?_)
   walk_at "lw"
   exact And.intro (zan (H.nth 3 rfl)).symm (zbj (H.nth 3 rfl) ⟨by unfold zap; exact Nat.lt_of_le_of_lt hevl.2.1 (Nat.lt_of_le_of_lt hdone (by decide)), fin { b with eds := b.eds ++ [.tup [.int l, .int n]] } _ _ _ _ _ _ _ _ rfl rfl hd' (H.up (.there (.there (.there .here))))⟩)
  | add l n s lo hi =>
   rw [encR] at hd'
   walk_at "lw"
   simp only [List.append_assoc] at hd'
   refine zc8 hl H hd' (by decide) fun τ1 k1 H hd' => ?_
   refine zas (by decide) rfl ?_
   refine zas (by decide) rfl ?_
   refine zas (by decide) rfl ?_
   refine zas (by decide) rfl ?_
   refine zas (by decide) rfl ?_
   refine zas (by decide) rfl ?_
   refine zdr rfl rfl ?_
   refine c_19 hl H hd' hx.1 fun τ2 k2 H hd' => ?_
   refine zbc H (show mth 15 1 = some 202 from rfl) ?_
   refine zc8 hl H hd' hx.2.1 fun τ3 k3 H hd' => ?_
   refine zbc H (show mth 15 1 = some 202 from rfl) ?_
   refine zc8 hl H hd' hx.2.2.1 fun τ4 k4 H hd' => ?_
   refine c_21 hl H hd' hx.2.2.2.1 fun τ5 k5 H hd' => ?_
   refine c_21 hl H hd' hx.2.2.2.2 fun τ6 k6 H hd' => ?_
   refine zar (H.nth 1 rfl) (show _ = some (.ref b.A) from rfl) ?_
   walk_at "lw"
   rw [zan (H.nth 4 rfl)]
   refine And.intro (.inl (by trivial)) (fun a ha => ?_)
   replace H := H.new ha (.inst 17 [])
   refine c_219 (H.nth 0 rfl) ?_
   replace H := H.set (.inst 17 [(3, .int n), (4, .int s), (5, .bytes lo), (6, .bytes hi)])
   refine And.intro rfl ?_
   have hA := H.nth 5 rfl
   have e1 := zan hA
   refine And.intro e1.symm ?_
   refine zbj hA ?_
   refine And.intro (by simp [zap]; exact Nat.lt_of_le_of_lt hevl.2.2 (Nat.lt_of_le_of_lt hdone (by decide))) (fin { b with fs := b.fs ++ [⟨0, a, 0, l, .int n, .int s, .bytes lo, .bytes hi⟩] } _ _ _ _ _ _ _ _ ?_ rfl hd' ?_)
   ·simp [EB.ev, appR, FB.v]
   ·refine (H.up (u' := .list (b.fs.map FB.ea ++ [.tup [.int l, .ref a]])) (.there (.there (.there (.there (.there .here)))))).perm ?_
    unfold eled
    rw [List.map_append, List.map_append]
    exact zcv [_, _, _, _, _, _] [_, L] (.cs (.r 0 [1]) [0, 1, 2, 3, 4, 5]) (.c 1 (.a (.a (.cs .n [2, 3, 4, 5]) (.a (.l 0) (.c 0 .n))) (.l 1))) rfl
  | rst =>
   rw [encR] at hd'
   refine zc8 hl H hd' (by decide) fun τ1 k1 H hd' => ?_
   refine zas (by decide) rfl ?_
   refine zas (by decide) rfl ?_
   refine zas (by decide) rfl ?_
   refine zas (by decide) rfl ?_
   refine zas (by decide) rfl ?_
   refine zas (by decide) rfl ?_
   refine zas (by decide) rfl ?_
   refine zdr rfl rfl ?_
   refine zad (H.nth 1 rfl) ?_
   exact And.intro (by simp) (fin { b with rs := true } _ _ _ _ _ _ _ _ rfl rfl hd' (H.up (.there .here)))
 ·rintro ρ τ K ⟨b, k, done, todo, x3, x4, x5, x6, x7, x8, rfl, hm, hdt, hd', hev, H⟩
  obtain rfl := List.eq_nil_of_length_eq_zero hm
  have hge : data.length ≤ k := by
   have := congrArg List.length hd'
   simp at this; lia -abstractProof
  rw [List.append_nil] at hdt
  subst hdt
  refine zbc H (show mth 15 0 = some 201 from rfl) ?_
  refine c_201 hl (H.nth 0 rfl) ?_
  refine zau (fun z => absurd (of_decide_eq_true z) (by lia -abstractProof)) ?_
  exact zax (hq b _ hev (H.sub (List.sublist_cons_self _ _)))
end
end
section
noncomputable abbrev Rn := Nat × Nat × Nat × List UInt8 × List UInt8
noncomputable def encN (x : Rn) : List UInt8 := var x.1 ++ (var x.2.1 ++ (fix x.2.2.1 ++ (text x.2.2.2.1 ++ text x.2.2.2.2)))
noncomputable def okN (x : Rn) : Prop := x.1 < 12 ∧ x.2.1 ≤ 18446744073709551615 ∧ x.2.2.1 ≤ 4294967295 ∧ x.2.2.2.1.length ≤ 130 ∧ x.2.2.2.2.length ≤ 130
noncomputable def valN (x : Rn) : Va × Va × Va × Va × Va := (.int x.1, .int x.2.1, .int x.2.2.1, .bytes x.2.2.2.1, .bytes x.2.2.2.2)
theorem ze5 {C : Orc} {B : BP} {R : QP} {N : Loc → Sto → Prop} {ρ : Loc} {σ : Sto} {ss : Ss} {i j m f : Nat} {c : Addr} (hρ : ρ[j]? = some (some (.ref c))) (hm : ∀ kn : Nat → Prop, methW σ (.ref c) m kn = kn f)
  (h : C f [.ref c] σ B fun v σ => wpSs C B ss (ρ.set i (some v)) σ N R) : wpSs C B (.cons (.assign i (.meth (.var j) m .nil)) ss) ρ σ N R := by
 exact zci hρ ((hm _).mpr h)
section
variable {r : Nat} {σ : Sto} {B : BP} {Q : QP} {data : List UInt8} {n0 n1 n2 : Nat} {cf : List UInt8} {L : Lg}
set_option maxHeartbeats 1000000 in
theorem c_25 {rl : List Rn} (hl : data.length ≤ 16777216) (hd : data = var n0 ++ (var n1 ++ (var n2 ++ (text cf ++ (var rl.length ++ rl.flatMap encN))))) (h0 : n0 ≤ 18446744073709551615) (h1 : n1 ≤ 18446744073709551615) (h2 : n2 ≤ 72057594037927935)
  (hc : cf.length ≤ 130) (ok : ∀ x ∈ rl, okN x) (hn : rl.length ≤ 1000) (H : Hold σ L)
  (hq : ∀ b σ', b.mv = ⟨.int n0, .int n1, .int n2, .bytes cf, rl.map valN⟩ → Hold σ' (mled b ++ L) → Q (.ref b.m) σ') : zac tab (r+5) 25 [.bytes data] σ B Q := by
 refine zto ?_
 show ∀ a, σ a = none → zac tab (r+4) 200 _ _ _ _
 intro c hca
 refine c_200 hl Sto.set_self ⟨rfl, ?_⟩
 replace H := (H.new hca (.inst 15 [])).set (Cur data 0)
 have hd' : data.drop 0 = _ := hd
 refine ze5 (c := c) rfl (fun _ => zlu H (show mth 15 1 = some 202 from rfl)) ?_
 refine zc8 hl H hd' h0 fun τ1 k1 H hd' => ?_
 refine ze5 (c := c) rfl (fun _ => zlu H (show mth 15 1 = some 202 from rfl)) ?_
 refine zc8 hl H hd' h1 fun τ2 k2 H hd' => ?_
 refine ze5 (c := c) rfl (fun _ => zlu H (show mth 15 1 = some 202 from rfl)) ?_
 refine zc8 hl H hd' (by exact Nat.le_trans h2 (by decide)) fun τ3 k3 H hd' => ?_
 refine zck (b := false) (fun Q h => ?_) (fun z => nomatch z) fun _ => ?_
 ·walk_at "lw"
  rw [decide_eq_false (by exact Int.not_lt.mpr (Int.ofNat_le.mpr h2))]; exact h
 refine ze5 (c := c) rfl (fun _ => zlu H (show mth 15 3 = some 205 from rfl)) ?_
 refine zma hl H hd' hc fun τ4 k4 H hd' => ?_
 refine ze5 (c := c) rfl (fun _ => zlu H (show mth 15 1 = some 202 from rfl)) ?_
 refine zc8 hl H hd' (by exact Nat.le_trans hn (by decide)) fun τ5 k5 H hd' => ?_
 show ∀ a, τ5 a = none → wpSs _ _ _ _ _ _ _
 intro U hU
 replace H := (H.new hU (.list [])).perm (.swap _ _ _)
 refine zkf rl.length (fun m ρ τ => Ex9 fun (k : Nat) (rs : List RB) (done todo : List Rn) (x8 x9 x10 x11 x12 : Option Va) => A6 (ρ = [some (.bytes data), some (.ref c), some (.int n0), some (.int n1), some (.int n2), some (.bytes cf), some (.int rl.length), some (.ref U), x8, x9, x10, x11, x12]) (todo.length = m) (done ++ todo = rl) (data.drop k = todo.flatMap encN) (rs.map RB.v = done.map valN) (Hold τ ((c, Cur data k) :: (U, .list (rs.map fun f => .ref f.ru)) :: (rs.map RB.el ++ L))))
  ⟨k5, [], [], rl, none, none, none, none, none, rfl, rfl, rfl, hd', rfl, H⟩ ?_ ?_
 ·intro m ρ τ K hI hk
  obtain ⟨k, rs, done, todo, x8, x9, x10, x11, x12, rfl, hm, hdt, hd', hv, H⟩ := hI
  cases todo with
  | nil => cases hm
  | cons x todo =>
  have hx := ok x (by rw [← hdt]; simp)
  have hlen : rs.length = done.length := by have := congrArg List.length hv; simpa using this
  have hlr : done.length + 1 + todo.length = rl.length := by rw [← hdt]; simp; lia -abstractProof
  rw [List.flatMap_cons, encN] at hd'
  walk_at "lw"
  simp only [List.append_assoc] at hd'
  refine zb9 (H.nth 1 rfl) ?_
  refine zba (decide_eq_true (by simp; exact Nat.lt_of_le_of_lt (Nat.le_of_eq hlen) (Nat.lt_of_lt_of_le (Nat.lt_of_lt_of_le (Nat.lt_add_of_pos_right (by decide)) (Nat.le_add_right _ _)) (Nat.le_of_eq hlr)))) ?_
  refine zbc H (show mth 15 1 = some 202 from rfl) ?_
  refine zc8 hl H hd' (by have := hx.1; exact Nat.le_of_lt (Nat.lt_of_lt_of_le this (by decide))) fun τ1 k1 H hd' => ?_
  walk_at "lw"
  refine zau (fun z => absurd (of_decide_eq_true z) (by have := hx.1; exact Int.not_le.mpr (Int.ofNat_lt.mpr this))) ?_
  refine zbc H (show mth 15 1 = some 202 from rfl) ?_
  refine zc8 hl H hd' hx.2.1 fun τ2 k2 H hd' => ?_
  refine zbc H (show mth 15 2 = some 203 from rfl) ?_
  refine u_fix (r := r + 2) hl H hd' hx.2.2.1 fun τ3 k3 H hd' => ?_
  refine zbc H (show mth 15 3 = some 205 from rfl) ?_
  refine zma hl H hd' hx.2.2.2.1 fun τ4 k4 H hd' => ?_
  refine zbc H (show mth 15 3 = some 205 from rfl) ?_
  refine zma hl H hd' hx.2.2.2.2 fun τ5 k5 H hd' => ?_
  walk_at "lw"
  rw [zan (H.nth 1 rfl)]
  refine And.intro (.inl (by trivial)) ?_
  walk_at "lw"
  simp only [i23]
  intro a ha
  replace H := H.new ha (.inst 23 [])
  refine c_224 (H.nth 0 rfl) ?_
  replace H := H.set (.inst 23 [(15, .int x.1), (4, .int x.2.1), (16, .int x.2.2.1), (5, .bytes x.2.2.2.1), (6, .bytes x.2.2.2.2)])
  have hA := H.nth 2 rfl
  walk_at "lw"
  refine ⟨rfl, (zan hA).symm, ?_⟩
  refine zbj hA ?_
  refine And.intro (by simp [zap]; exact Nat.lt_of_le_of_lt (Nat.le_of_eq hlen) (Nat.lt_of_le_of_lt (Nat.le_trans (Nat.le_add_right _ _) (Nat.le_trans (Nat.le_add_right _ _) (Nat.le_of_eq hlr))) (Nat.lt_of_le_of_lt hn (by decide)))) (hk _ _ ⟨k5, rs ++ [⟨0, a, 0, .int x.1, .int x.2.1, .int x.2.2.1, .bytes x.2.2.2.1, .bytes x.2.2.2.2⟩], done ++ [x], todo, _, _, _, _, _, rfl, by simpa using hm, by simp [hdt], hd', ?_, ?_⟩)
  ·rw [List.map_append, List.map_append, hv]; rfl
  ·refine (H.up (u' := .list (rs.map (fun f => Va.ref f.ru) ++ [.ref a])) (.there (.there .here))).perm ?_
   rw [List.map_append, List.map_append]
   exact zcv [_, _, _] [_, L] (.cs (.r 0 [1]) [0, 1, 2]) (.cs (.a (.a (.l 0) (.c 0 .n)) (.l 1)) [1, 2]) rfl
 ·rintro ρ τ K ⟨k, rs, done, todo, x8, x9, x10, x11, x12, rfl, hm, hdt, hde, hv, H⟩
  obtain rfl := List.eq_nil_of_length_eq_zero hm
  rw [List.append_nil] at hdt
  subst hdt
  have hlen : rs.length = done.length := by have := congrArg List.length hv; simpa using this
  have hge : data.length ≤ k := by
   have z : (data.drop k).length = 0 := by rw [hde]; rfl
   rw [List.length_drop] at z; lia -abstractProof
  walk_at "lw"
  refine zb9 (H.nth 1 rfl) ?_
  refine zau (fun z => absurd (of_decide_eq_true z) (by simp; exact Nat.le_of_eq hlen.symm)) ?_
  refine zbc H (show mth 15 4 = some 209 from rfl) ?_
  refine c_209 hl (H.nth 0 rfl) hge ?_
  walk_at "lw"
  simp only [i24]
  intro a ha
  replace H := H.new ha (.inst 24 [])
  refine c_227 (H.nth 0 rfl) ⟨rfl, _, .refl _, ?_⟩
  replace H := H.set (.inst 24 [(17, .int n0), (18, .int n1), (19, .bytes cf), (10, .int n2), (20, .ref U)])
  refine hq ⟨0, a, 0, 0, U, .int n0, .int n1, .int n2, .bytes cf, rs⟩ _ ?_ ?_
  ·walk_at "lw"
   simp only [MB.mv, hv]
  ·exact (H.perm (.swap _ _ _)).sub (List.sublist_cons_self _ _)
end
end
structure OkF (f : FB) : Prop where
 lv : f.lv < 12
 n : Num f.n
 s : Num f.s
 lo : Key f.lo
 hi : Key f.hi
noncomputable def OkP (x : Va) : Prop := ∃ l k, x = .tup [.int (l : Nat), .bytes k] ∧ l < 12 ∧ 1 ≤ k.length ∧ k.length ≤ 130
noncomputable def OkD (x : Va) : Prop := ∃ l n, x = .tup [.int (l : Nat), .int (n : Nat)] ∧ l < 12 ∧ n ≤ 18446744073709551615
structure OkE (N : Nat) (b : EB) : Prop where
 w0 : b.w0 = .none ∨ Key b.w0
 w1 : b.w1 = .none ∨ Num b.w1
 w2 : b.w2 = .none ∨ Num b.w2
 w3 : b.w3 = .none ∨ Seqn b.w3
 ps : ∀ x ∈ b.ps, OkP x
 ds : ∀ x ∈ b.ds, OkD x
 eds : b.eds = b.ds
 fs : ∀ f ∈ b.fs, OkF f
 np : b.ps.length ≤ N
 nd : b.ds.length ≤ N
 nf : b.fs.length ≤ N
theorem Num.ti {v : Va} (h : Num v) : TI v := let ⟨n, e, k⟩ := h; ⟨n, e, by exact Int.lt_of_lt_of_le (by decide) (Int.natCast_nonneg _), by lia -abstractProof⟩
theorem Key.tb {v : Va} (h : Key v) : TB v := let ⟨b, e, _, k⟩ := h; ⟨b, e, k⟩
theorem TI.nat {n : Nat} (h : n ≤ 18446744073709551615) : TI (.int n) := ⟨n, rfl, by exact Int.lt_of_lt_of_le (by decide) (Int.natCast_nonneg _), by lia -abstractProof⟩
theorem OkF.ty {f : FB} (h : OkF f) : TyF f := ⟨h.lv, h.n.ti, h.s.ti, h.lo.tb, h.hi.tb⟩
theorem OkP.ty {x : Va} (h : OkP x) : Ex2 fun l k => A3 (x = .tup [l, k]) (TI l) (TB k) := let ⟨l, k, e, h1, h2, h3⟩ := h; ⟨_, _, e, .nat (by exact Nat.le_of_lt (Nat.lt_of_lt_of_le h1 (by decide))), k, rfl, h3⟩
theorem OkD.ty {x : Va} (h : OkD x) : Ex2 fun l k => A3 (x = .tup [l, k]) (TI l) (TI k) := let ⟨l, k, e, h1, h2⟩ := h; ⟨_, _, e, .nat (by exact Nat.le_of_lt (Nat.lt_of_lt_of_le h1 (by decide))), .nat h2⟩
theorem OkE.ty {N : Nat} {b : EB} (h : OkE N b) (hN : N ≤ 60) : TyE b :=
 ⟨h.w0.imp id Key.tb, h.w1.imp id Num.ti, h.w2.imp id Num.ti, h.w3.imp id fun z => z.num.ti, fun x hx => (h.ps x hx).ty, fun x hx => (h.ds x (h.eds ▸ hx)).ty, fun f hf => (h.fs f hf).ty,
  Nat.le_trans h.np hN, by rw [h.eds]; exact Nat.le_trans h.nd hN, Nat.le_trans h.nf hN⟩
theorem zj8 : ∀ {l m : List Oc} {a b : List UInt8}, cat l = some a → cat m = some b → cat (l ++ m) = some (a ++ b)
 | [], m, a, b, h, k => by cases h; simpa using k
 | none :: l, m, a, b, h, k => by cases h
 | some x :: l, m, a, b, h, k => by
  simp only [cat] at h
  cases z : cat l with
  | none => rw [z] at h; cases h
  | some y =>
   rw [z] at h; cases h
   simp only [List.cons_append, cat, zj8 z k, Option.map_some, List.append_assoc]
noncomputable def Sg (k : Nat) (v v' : EV) (l : List Oc) : Prop := ∃ (rl : List Rc), A4 ((∀ x ∈ rl, okR x)) (rl.foldl appR v = v') (cat l = some (rl.flatMap encR)) (rl.length ≤ k)
theorem Sg.app {k j : Nat} {v v' v'' : EV} {l m : List Oc} (h : Sg k v v' l) (g : Sg j v' v'' m) : Sg (k + j) v v'' (l ++ m) := by
 obtain ⟨a, a1, a2, a3, a4⟩ := h
 obtain ⟨b, b1, b2, b3, b4⟩ := g
 refine ⟨a ++ b, fun x hx => (List.mem_append.mp hx).elim (a1 x) (b1 x), by rw [List.foldl_append, a2, b2], by rw [List.flatMap_append]; exact zj8 a3 b3, by simp; exact Nat.add_le_add a4 b4⟩
theorem Sg.nil {k : Nat} {v : EV} : Sg k v v [] := ⟨[], fun _ h => (nomatch h), rfl, rfl, Nat.zero_le _⟩
theorem zbg {n : Nat} (h : n ≤ 18446744073709551615) : cI (.int n) = some (var n) := by simp only [cI]; rw [if_pos (by exact ⟨(Int.natCast_nonneg _), (Int.ofNat_le.mpr h)⟩), Int.toNat_natCast]
theorem zrf {n : Nat} (h : n ≤ 4294967295) : cX (.int n) = some (fix n) := by simp only [cX]; rw [if_pos (by exact ⟨(Int.natCast_nonneg _), (Int.ofNat_le.mpr h)⟩), Int.toNat_natCast]
theorem vs {t : Nat} (h : t < 128) : var t = [UInt8.ofNat t] := za3 h
theorem sg_ps {l : List Va} (h : ∀ x ∈ l, OkP x) : ∀ v : EV, Sg l.length v { v with ps := v.ps ++ l } (l.flatMap cP) := by
 induction l with
 | nil => intro v; rw [List.append_nil]; exact Sg.nil
 | cons x l ih =>
  intro v
  obtain ⟨lv, k, rfl, h1, h2⟩ := h x (.head _)
  rw [List.flatMap_cons, List.length_cons, Nat.add_comm]
  have := ih (fun y hy => h y (.tail _ hy)) { v with ps := v.ps ++ [.tup [.int lv, .bytes k]] }
  simp only [List.append_assoc, List.cons_append, List.nil_append] at this
  refine Sg.app (v' := { v with ps := v.ps ++ [.tup [.int lv, .bytes k]] }) ⟨[.ptr lv k], ?_, rfl, ?_, Nat.le_refl _⟩ this
  ·exact zfi ⟨h1, h2⟩
  ·simp only [cP, cat, zbg (show lv ≤ 18446744073709551615 by exact Nat.le_of_lt (Nat.lt_of_lt_of_le h1 (by decide))), cB, Option.map_some, encR, List.flatMap_cons, List.flatMap_nil, vs (show 5 < 128 by decide), List.append_nil]
   rfl
theorem sg_ds {l : List Va} (h : ∀ x ∈ l, OkD x) : ∀ v : EV, Sg l.length v { v with ds := v.ds ++ l } (l.flatMap cD) := by
 induction l with
 | nil => intro v; rw [List.append_nil]; exact Sg.nil
 | cons x l ih =>
  intro v
  obtain ⟨lv, k, rfl, h1, h2⟩ := h x (.head _)
  rw [List.flatMap_cons, List.length_cons, Nat.add_comm]
  have := ih (fun y hy => h y (.tail _ hy)) { v with ds := v.ds ++ [.tup [.int lv, .int k]] }
  simp only [List.append_assoc, List.cons_append, List.nil_append] at this
  refine Sg.app (v' := { v with ds := v.ds ++ [.tup [.int lv, .int k]] }) ⟨[.del lv k], ?_, rfl, ?_, Nat.le_refl _⟩ this
  ·exact zfi ⟨h1, h2⟩
  ·simp only [cD, cat, zbg (show lv ≤ 18446744073709551615 by exact Nat.le_of_lt (Nat.lt_of_lt_of_le h1 (by decide))), zbg h2, Option.map_some, encR, List.flatMap_cons, List.flatMap_nil, vs (show 6 < 128 by decide), List.append_nil]
   rfl
theorem sg_fs {l : List FB} (h : ∀ x ∈ l, OkF x) : ∀ v : EV, Sg l.length v { v with fs := v.fs ++ l.map FB.v } (l.flatMap cF) := by
 induction l with
 | nil => intro v; simp only [List.map_nil, List.append_nil]; exact Sg.nil
 | cons x l ih =>
  intro v
  obtain ⟨h1, ⟨n, en, hn⟩, ⟨s, es, hs⟩, ⟨lo, el, hlo⟩, ⟨hi, eh, hhi⟩⟩ := h x (.head _)
  rw [List.flatMap_cons, List.length_cons, Nat.add_comm]
  have := ih (fun y hy => h y (.tail _ hy)) { v with fs := v.fs ++ [x.v] }
  simp only [List.append_assoc, List.cons_append, List.nil_append] at this
  refine Sg.app (v' := { v with fs := v.fs ++ [x.v] }) ⟨[.add x.lv n s lo hi], ?_, ?_, ?_, Nat.le_refl _⟩ this
  ·exact zfi ⟨h1, hn, hs, hlo, hhi⟩
  ·simp only [List.foldl_cons, List.foldl_nil, appR, FB.v, en, es, el, eh]
  ·simp only [cF, en, es, el, eh, cat, zbg (show x.lv ≤ 18446744073709551615 by exact Nat.le_of_lt (Nat.lt_of_lt_of_le h1 (by decide))), zbg hn, zbg hs, cB, Option.map_some, encR, List.flatMap_cons, List.flatMap_nil, vs (show 7 < 128 by decide), List.append_nil]
   rfl
theorem sg_E {N : Nat} {b : EB} (h : OkE N b) : Sg (5 + 3 * N) ev0 b.ev (chE b) := by
 have s0 : Sg 1 ev0 { ev0 with rs := b.rs } (if b.rs = true then [some [10]] else []) := by
  by_cases z : b.rs = true
  ·rw [if_pos z, z]
   refine ⟨[.rst], zfi (a := Rc.rst) trivial, rfl, ?_, Nat.le_refl _⟩
   ·simp only [cat, Option.map_some, encR, List.flatMap_cons, List.flatMap_nil, vs (show 10 < 128 by decide), List.append_nil]; rfl
  ·rw [if_neg z, show b.rs = false by simpa using z]; exact Sg.nil
 have one : ∀ (v v' : EV) (x : Rc) (l : List Oc), okR x → appR v x = v' → cat l = some (encR x) → Sg 1 v v' l := fun v v' x l h1 h2 h3 =>
  ⟨[x], zfi h1, h2, by rw [h3, List.flatMap_cons, List.flatMap_nil, List.append_nil], Nat.le_refl _⟩
 have s1 : Sg 1 { ev0 with rs := b.rs } { ev0 with rs := b.rs, w0 := b.w0 } (cW 1 cB b.w0) := by
  rcases h.w0 with e | ⟨k, e, h1, h2⟩
  ·rw [e]; exact Sg.nil
  ·rw [e]; exact one _ _ (.cmp k) _ h2 rfl (by simp only [cW, cat, cB, Option.map_some, encR, vs (show 1 < 128 by decide), List.append_nil]; rfl)
 have s2 : Sg 1 { ev0 with rs := b.rs, w0 := b.w0 } { ev0 with rs := b.rs, w0 := b.w0, w1 := b.w1 } (cW 2 cI b.w1) := by
  rcases h.w1 with e | ⟨k, e, h1⟩
  ·rw [e]; exact Sg.nil
  ·rw [e]; exact one _ _ (.w1 k) _ h1 rfl (by simp only [cW, cat, zbg h1, Option.map_some, encR, vs (show 2 < 128 by decide), List.append_nil]; rfl)
 have s3 : Sg 1 { ev0 with rs := b.rs, w0 := b.w0, w1 := b.w1 } { ev0 with rs := b.rs, w0 := b.w0, w1 := b.w1, w2 := b.w2 } (cW 3 cI b.w2) := by
  rcases h.w2 with e | ⟨k, e, h1⟩
  ·rw [e]; exact Sg.nil
  ·rw [e]; exact one _ _ (.w2 k) _ h1 rfl (by simp only [cW, cat, zbg h1, Option.map_some, encR, vs (show 3 < 128 by decide), List.append_nil]; rfl)
 have s4 : Sg 1 { ev0 with rs := b.rs, w0 := b.w0, w1 := b.w1, w2 := b.w2 } { ev0 with rs := b.rs, w0 := b.w0, w1 := b.w1, w2 := b.w2, w3 := b.w3 } (cW 4 cI b.w3) := by
  rcases h.w3 with e | ⟨k, e, h1⟩
  ·rw [e]; exact Sg.nil
  ·rw [e]; exact one _ _ (.w3 k) _ h1 rfl (by simp only [cW, cat, zbg (show k ≤ 18446744073709551615 by exact Nat.le_trans h1 (by decide)), Option.map_some, encR, vs (show 4 < 128 by decide), List.append_nil]; rfl)
 have s5 := sg_ps h.ps { ev0 with rs := b.rs, w0 := b.w0, w1 := b.w1, w2 := b.w2, w3 := b.w3 }
 have s6 := sg_ds (l := b.eds) (h.eds ▸ h.ds) { ev0 with rs := b.rs, w0 := b.w0, w1 := b.w1, w2 := b.w2, w3 := b.w3, ps := [] ++ b.ps }
 have s7 := sg_fs h.fs { ev0 with rs := b.rs, w0 := b.w0, w1 := b.w1, w2 := b.w2, w3 := b.w3, ps := [] ++ b.ps, ds := [] ++ b.eds }
 obtain ⟨rl, h1, h2, h3, h4⟩ := s0.app (s1.app (s2.app (s3.app (s4.app (s5.app (s6.app s7))))))
 refine ⟨rl, h1, h2, h3, ?_⟩
 have := h.np
 have := h.nd
 have := h.nf
 have := h.eds
 have : b.eds.length = b.ds.length := by rw [h.eds]
 lia -abstractProof
theorem zpq {x : Rc} (h : okR x) : (encR x).length ≤ 400 := by
 have t : ∀ b : List UInt8, b.length ≤ 130 → (text b).length ≤ 140 := fun b hb => by
  unfold text; rw [List.length_append]; have := za1 (n := b.length) (by exact Nat.le_trans hb (by decide)); exact Nat.le_trans (Nat.add_le_add this hb) (by decide)
 have v : ∀ {n : Nat}, n ≤ 18446744073709551615 → (var n).length ≤ 10 := za1
 cases x with
 | cmp b => simp only [encR, List.length_append]; have := v (n := 1) (by decide); have := t b h; lia -abstractProof
 | w1 n => simp only [encR, List.length_append]; have := v (n := 2) (by decide); have := v h; lia -abstractProof
 | w2 n => simp only [encR, List.length_append]; have := v (n := 3) (by decide); have := v h; lia -abstractProof
 | w3 n => simp only [encR, List.length_append]; have := v (n := 4) (by decide); have h' : n ≤ 72057594037927935 := h; have := v (n := n) (by exact Nat.le_trans h' (by decide)); lia -abstractProof
 | ptr l k => simp only [encR, List.length_append]; have := v (n := 5) (by decide); have := v (n := l) (by have := h.1; exact Nat.le_of_lt (Nat.lt_of_lt_of_le this (by decide))); have := t k h.2.2; lia -abstractProof
 | del l n => simp only [encR, List.length_append]; have := v (n := 6) (by decide); have := v (n := l) (by have := h.1; exact Nat.le_of_lt (Nat.lt_of_lt_of_le this (by decide))); have := v h.2; lia -abstractProof
 | add l n s lo hi =>
  simp only [encR, List.length_append]; have := v (n := 7) (by decide); have := v (n := l) (by have := h.1; exact Nat.le_of_lt (Nat.lt_of_lt_of_le this (by decide)))
  have := v h.2.1; have := v h.2.2.1; have := t lo h.2.2.2.1.2; have := t hi h.2.2.2.2.2; lia -abstractProof
 | rst => simp only [encR]; have := v (n := 10) (by decide); exact by decide
theorem zh1 {α : Type} {f : α → List UInt8} {k : Nat} : ∀ {l : List α}, (∀ x ∈ l, (f x).length ≤ k) → (l.flatMap f).length ≤ k * l.length
 | [], _ => by simp
 | x :: l, h => by
  rw [List.flatMap_cons, List.length_append, List.length_cons, Nat.mul_succ]
  have := zh1 (l := l) fun y hy => h y (.tail _ hy)
  have := h x (.head _)
  lia -abstractProof
theorem zny {N : Nat} {b : EB} (h : OkE N b) (hN : N ≤ 60) : ∃ (rl : List Rc), A5 ((∀ x ∈ rl, okR x)) (rl.foldl appR ev0 = b.ev) (cat (chE b) = some (rl.flatMap encR)) (rl.length ≤ 1000) ((rl.flatMap encR).length ≤ 400000) := by
 obtain ⟨rl, h1, h2, h3, h4⟩ := sg_E h
 refine ⟨rl, h1, h2, h3, by lia -abstractProof, ?_⟩
 have := zh1 (f := encR) (k := 400) fun x hx => zpq (h1 x hx)
 lia -abstractProof
structure OkR (f : RB) : Prop where
 a0 : ∃ n : Nat, f.a0 = .int n ∧ n < 12
 a1 : Num f.a1
 a2 : ∃ n : Nat, f.a2 = .int n ∧ n ≤ 4294967295
 a3 : Key f.a3
 a4 : Key f.a4
structure OkM (N : Nat) (b : MB) : Prop where
 n0 : Num b.n0
 n1 : Num b.n1
 n2 : Seqn b.n2
 cf : Key b.cf
 rs : ∀ f ∈ b.rs, OkR f
 nr : b.rs.length ≤ N
theorem OkR.ty {f : RB} (h : OkR f) : TyR f := ⟨let ⟨n, e, k⟩ := h.a0; ⟨n, e, by exact Int.lt_of_lt_of_le (by decide) (Int.natCast_nonneg _), by lia -abstractProof⟩, h.a1.ti, let ⟨n, e, k⟩ := h.a2; ⟨n, e, by exact Int.lt_of_lt_of_le (by decide) (Int.natCast_nonneg _), by lia -abstractProof⟩, h.a3.tb, h.a4.tb⟩
theorem OkM.ty {N : Nat} {b : MB} (h : OkM N b) (hN : N ≤ 60) : TyM b := ⟨h.n0.ti, h.n1.ti, h.n2.num.ti, h.cf.tb, fun f hf => (h.rs f hf).ty, Nat.le_trans h.nr hN⟩
theorem enc_rs {l : List RB} (h : ∀ f ∈ l, OkR f) : ∃ (rl : List Rn), A3 ((∀ x ∈ rl, okN x)) (rl.map valN = l.map RB.v) (cat (l.flatMap cR) = some (rl.flatMap encN)) := by
 induction l with
 | nil => exact ⟨[], fun _ h => (nomatch h), rfl, rfl⟩
 | cons f l ih =>
  obtain ⟨rl, h1, h2, h3⟩ := ih fun y hy => h y (.tail _ hy)
  obtain ⟨⟨a0, e0, g0⟩, ⟨a1, e1, g1⟩, ⟨a2, e2, g2⟩, ⟨a3, e3, g3⟩, ⟨a4, e4, g4⟩⟩ := h f (.head _)
  refine ⟨(a0, a1, a2, a3, a4) :: rl, ?_, ?_, ?_⟩
  ·intro y hy; cases hy with
   | head => exact ⟨g0, g1, g2, g3.2, g4.2⟩
   | tail _ z => exact h1 y z
  ·rw [List.map_cons, List.map_cons, h2]; simp only [valN, RB.v, e0, e1, e2, e3, e4]
  ·rw [List.flatMap_cons, List.flatMap_cons]
   refine zj8 ?_ h3
   simp only [cR, e0, e1, e2, e3, e4, cat, zbg (show a0 ≤ 18446744073709551615 by exact Nat.le_of_lt (Nat.lt_of_lt_of_le g0 (by decide))), zbg g1, zrf g2, cB, Option.map_some, encN, List.append_nil]
theorem zpo {N : Nat} {b : MB} (h : OkM N b) (hN : N ≤ 60) : Ex5 fun (n0 n1 n2 : Nat) (cf : List UInt8) (rl : List Rn) => n0 ≤ 18446744073709551615 ∧ n1 ≤ 18446744073709551615 ∧ n2 ≤ 72057594037927935 ∧ cf.length ≤ 130 ∧ (∀ x ∈ rl, okN x) ∧ rl.length ≤ 1000 ∧
  b.mv = ⟨.int n0, .int n1, .int n2, .bytes cf, rl.map valN⟩ ∧ cat (chM b) = some (var n0 ++ (var n1 ++ (var n2 ++ (text cf ++ (var rl.length ++ rl.flatMap encN))))) ∧
  (var n0 ++ (var n1 ++ (var n2 ++ (text cf ++ (var rl.length ++ rl.flatMap encN))))).length ≤ 400000 := by
 obtain ⟨rl, h1, h2, h3⟩ := enc_rs h.rs
 obtain ⟨n0, e0, g0⟩ := h.n0
 obtain ⟨n1, e1, g1⟩ := h.n1
 obtain ⟨n2, e2, g2⟩ := h.n2
 obtain ⟨cf, e3, g3⟩ := h.cf
 have hl : rl.length = b.rs.length := by have := congrArg List.length h2; simpa using this
 have := h.nr
 refine ⟨n0, n1, n2, cf, rl, g0, g1, g2, g3.2, h1, by exact Nat.le_trans (Nat.le_of_eq hl) (Nat.le_trans this (Nat.le_trans hN (by decide))), by simp only [MB.mv, e0, e1, e2, e3, h2], ?_, ?_⟩
 ·simp only [chM, e0, e1, e2, e3, cat, zbg g0, zbg g1, zbg (show n2 ≤ 18446744073709551615 by exact Nat.le_trans g2 (by decide)), cB, zbg (show b.rs.length ≤ 18446744073709551615 by exact Nat.le_trans this (Nat.le_trans hN (by decide))), h3, Option.map_some, hl]
 ·have t : ∀ b : List UInt8, b.length ≤ 130 → (text b).length ≤ 140 := fun b hb => by
   unfold text; rw [List.length_append]; have := za1 (n := b.length) (by exact Nat.le_trans hb (by decide)); exact Nat.le_trans (Nat.add_le_add this hb) (by decide)
  have := zh1 (k := 400) (f := encN) (l := rl) fun x hx => by
   obtain ⟨k0, k1, k2, k3, k4⟩ := h1 x hx
   simp only [encN, List.length_append]
   have := za1 (n := x.1) (by exact Nat.le_of_lt (Nat.lt_of_lt_of_le k0 (by decide)))
   have := za1 k1
   have := t _ k3
   have := t _ k4
   have : (fix x.2.2.1).length = 4 := rfl
   lia -abstractProof
  have := za1 g0
  have := za1 g1
  have := za1 (n := n2) (by exact Nat.le_trans g2 (by decide))
  have := t _ g3.2
  have := za1 (n := rl.length) (by lia -abstractProof)
  simp only [List.length_append]
  lia -abstractProof
section
noncomputable def Rm (fin out : List UInt8) (l : List Oc) : Prop := ∃ c, cat l = some c ∧ out ++ c = fin
theorem Rm.step {fin out x : List UInt8} {l : List Oc} (h : Rm fin out (some x :: l)) : Rm fin (out ++ x) l := by
 obtain ⟨c, h1, h2⟩ := h
 simp only [cat] at h1
 cases z : cat l with
 | none => rw [z] at h1; cases h1
 | some y => rw [z] at h1; cases h1; exact ⟨y, z, by rw [List.append_assoc]; exact h2⟩
theorem Rm.len {fin out : List UInt8} {l : List Oc} (h : Rm fin out l) : out.length ≤ fin.length := by
 obtain ⟨c, h1, h2⟩ := h
 rw [← h2, List.length_append]; exact Nat.le_add_right _ _
theorem Rm.end {fin out : List UInt8} (h : Rm fin out []) : out = fin := by
 obtain ⟨c, h1, h2⟩ := h
 cases h1; simpa using h2
section
variable {C : Orc} {B : BP} {R : QP} {N : Loc → Sto → Prop} {ρ : Loc} {σ : Sto} {ss : Ss}
theorem asg {i : Nat} {e : X} {v : Va} (he : ∀ Q : QP, Q v σ → wpX C B ρ [] e σ Q) (next : wpSs C B ss (ρ.set i (some v)) σ N R) : wpSs C B (.cons (.assign i e) ss) ρ σ N R := he _ next
theorem asgP {i : Nat} {e : X} (P : Va → Sto → Prop) (he : ∀ Q : QP, (∀ v σ', P v σ' → Q v σ') → wpX C B ρ [] e σ Q) (next : ∀ v σ', P v σ' → wpSs C B ss (ρ.set i (some v)) σ' N R) : wpSs C B (.cons (.assign i e) ss) ρ σ N R := he _ next
theorem iteP {c : X} {x y : Ss} {b : Bool} (P : Loc → Sto → Prop) (hc : ∀ Q : QP, Q (.bool b) σ → wpX C B ρ [] c σ Q) (ht : b = true → ∀ N' : Loc → Sto → Prop, (∀ ρ σ, P ρ σ → N' ρ σ) → wpSs C B x ρ σ N' R)
  (hf : b = false → ∀ N' : Loc → Sto → Prop, (∀ ρ σ, P ρ σ → N' ρ σ) → wpSs C B y ρ σ N' R) (next : ∀ ρ' σ', P ρ' σ' → wpSs C B ss ρ' σ' N R) : wpSs C B (.cons (.ite c x y) ss) ρ σ N R :=
 zck hc (fun h => ht h _ next) fun h => hf h _ next
theorem zav {c : Bool} {p q : Prop} (h : c = true → p) (k : c = false → q) : if c = true then p else q := by
 cases c with
 | true => exact h rfl
 | false => exact k rfl
end
section
variable {r : Nat} {σ : Sto} {B : BP} {Q : QP}
theorem zai {σ : Sto} {a : Addr} {vs : List Va} {n : Int} {i : Nat} {w : Va} {k : Va → Prop} (h : σ a = some (.list vs)) (hn : n = i) (e : vs[i]? = some w) (q : k w) : idxW σ (.ref a) (.int n) k := by
 subst hn; exact ⟨_, rfl, Int.natCast_nonneg _, .inl ⟨_, _, _, rfl, h, e, q⟩⟩
theorem ix {τ : Sto} {a : Addr} {vs : List Va} {i : Nat} {n : Int} {w : Va} {k : Va → Prop} (h : τ a = some (.list vs)) (hn : n = i) (e : vs[i]? = some w) : idxW τ (.ref a) (.int n) k = k w := by
 subst hn; exact zbb h (by exact Int.natCast_nonneg _) (by simpa using e)
theorem zks {v : Va} (h : Num v) : zdu v = false := by obtain ⟨n, rfl, _⟩ := h; rfl
theorem zq9 {v : Va} (h : Key v) : zdu v = false := by obtain ⟨n, rfl, _⟩ := h; rfl
set_option maxHeartbeats 1000000 in
theorem c_33 {N : Nat} {b : EB} (H : Has σ (sled b)) (ok : OkE N b) (hN : N ≤ 60) (hq : ∀ c, cat (chE b) = some c → Q (.bytes c) σ) : zac tab (r+3) 33 [.ref b.l] σ B Q := by
 refine ztg ?_
 obtain ⟨rl, _, _, hcat, _, hfl⟩ := zny ok hN
 generalize rl.flatMap encR = fin at *
 have hfin := hq _ hcat
 have H' : ∀ τ, σ.Le τ → Has τ (sled b) := fun τ h => H.le h
 have x0 : ∀ {τ}, σ.Le τ → ∀ {k}, idxW τ (.ref b.l) (.int 1) k = k (.ref b.w) := fun h k => ix (H' _ h).l (i := 1) rfl rfl
 have x2 : ∀ {τ}, σ.Le τ → ∀ {k}, idxW τ (.ref b.l) (.int 2) k = k (.ref b.p) := fun h k => ix (H' _ h).l (i := 2) rfl rfl
 have x3 : ∀ {τ}, σ.Le τ → ∀ {k}, idxW τ (.ref b.l) (.int 3) k = k (.ref b.d) := fun h k => ix (H' _ h).l (i := 3) rfl rfl
 have x4 : ∀ {τ}, σ.Le τ → ∀ {k}, idxW τ (.ref b.l) (.int 4) k = k (.ref b.m) := fun h k => ix (H' _ h).l (i := 4) rfl rfl
 have x5 : ∀ {τ}, σ.Le τ → ∀ {k}, idxW τ (.ref b.l) (.int 5) k = k (.bool b.rs) := fun h k => ix (H' _ h).l (i := 5) rfl rfl
 have r0 : Rm fin [] (chE b) := ⟨fin, hcat, rfl⟩
 unfold chE at r0
 rw [ok.eds] at r0
 refine asg (v := .bytes (if b.rs = true then [10] else [])) (fun Q h => ?_) ?_
 ·walk_at "lw"
  rw [x5 (.refl _)]
  walk_at "lw"
  cases hrs : b.rs <;> rw [hrs] at h <;> exact h
 have r1 : Rm fin (if b.rs = true then [10] else []) (cW 1 cB b.w0 ++ (cW 2 cI b.w1 ++ (cW 3 cI b.w2 ++ (cW 4 cI b.w3 ++ (b.ps.flatMap cP ++ (b.ds.flatMap cD ++ b.fs.flatMap cF)))))) := by
  cases hrs : b.rs <;> rw [hrs] at r0
  ·exact r0
  ·exact r0.step
 generalize (if b.rs = true then [(10 : UInt8)] else []) = out at r1
 refine iteP (b := !zdu b.w0) (fun ρ' σ' => ∃ out, A3 (ρ' = [some (.ref b.l), some (.bytes out), none, none, none, none, none, none]) (σ = σ') (Rm fin out (cW 2 cI b.w1 ++ (cW 3 cI b.w2 ++ (cW 4 cI b.w3 ++ (b.ps.flatMap cP ++ (b.ds.flatMap cD ++ b.fs.flatMap cF)))))))
  (fun Q h => ?_) (fun h N' hn => ?_) (fun h N' hn => ?_) ?_
 ·walk_at "lw"
  rw [x0 (.refl _), ix H.w (n := 0) (i := 0) rfl rfl]; exact h
 ·walk_at "lw"
  rw [x0 (.refl _)]
  walk_at "lw"
  rw [ix H.w (n := 0) (i := 0) rfl rfl]
  rcases ok.w0 with e | ⟨k, e, k1, k2⟩
  ·rw [e] at h; cases h
  ·rw [e] at r1 ⊢
   have s1 := r1.step
   have s2 := Rm.step (x := text k) s1
   have l1 := s1.len
   have l2 := s2.len
   rw [List.length_append] at l1 l2
   exact And.intro (by exact Nat.le_trans l1 (Nat.le_trans hfl (by decide))) (c_32 (by exact Nat.le_trans k2 (by decide)) ⟨by exact Nat.le_trans l2 (Nat.le_trans hfl (by decide)), hn _ _ ⟨_, rfl, rfl, s2⟩⟩)
 ·rcases ok.w0 with e | ⟨k, e, k1, k2⟩
  ·rw [e] at r1
   exact hn _ _ ⟨_, rfl, rfl, r1⟩
  ·rw [e] at h; cases h
 rintro _ _ ⟨out, rfl, rfl, r1⟩
 -- the zep numbers
 have wd : ∀ m, m < 3 → ∃ v, A3 ([b.w0, b.w1, b.w2, b.w3][m + 1]? = some v) ((v = .none ∨ Num v)) ((([cW 2 cI b.w1, cW 3 cI b.w2, cW 4 cI b.w3] : List (List Oc)).drop m).flatten = cW (UInt8.ofNat (m + 2)) cI v ++ (([cW 2 cI b.w1, cW 3 cI b.w2, cW 4 cI b.w3] : List (List Oc)).drop (m + 1)).flatten) := fun m hm => by
  have : m = 0 ∨ m = 1 ∨ m = 2 := by lia
  rcases this with rfl | rfl | rfl
  ·walk_at "lw"
   exact ⟨_, rfl, ok.w1, rfl⟩
  ·walk_at "lw"
   exact ⟨_, rfl, ok.w2, rfl⟩
  ·walk_at "lw"
   exact ⟨_, rfl, ok.w3.imp id Seqn.num, rfl⟩
 refine zaw (sq := .rng 1 4) (fun K h => by walk_at "lw"; exact ⟨by decide, h⟩) 3 (fun m ρ τ => Ex2 fun out x => A3 (ρ = [some (.ref b.l), some (.bytes out), x, none, none, none, none, none]) (σ.Le τ) (Rm fin out ((([cW 2 cI b.w1, cW 3 cI b.w2, cW 4 cI b.w3] : List (List Oc)).drop m).flatten ++ (b.ps.flatMap cP ++ (b.ds.flatMap cD ++ b.fs.flatMap cF)))))
  ⟨out, none, rfl, .refl _, by simpa [List.append_assoc] using r1⟩ ?_ ?_
 ·intro m ρ τ K hm hI hk
  obtain ⟨out, x, rfl, hle, r1⟩ := hI
  obtain ⟨v, hv, hvo, hfl⟩ := wd m hm
  rw [hfl, List.append_assoc] at r1
  walk_at "lw"
  refine ⟨.int (1 + m), by simp [za2]; lia, ?_⟩
  walk_at "lw"
  rw [x0 hle]
  refine zai (n := 1 + (m : Int)) (H' _ hle).w (i := m + 1) (by lia) hv ?_
  rcases hvo with rfl | ⟨k, rfl, hk'⟩
  ·walk_at "lw"
   try simp only [Bool.not_true, Bool.false_eq_true, if_false]
   exact hk _ _ ⟨_, _, rfl, hle, r1⟩
  ·walk_at "lw"
   try simp only [Bool.not_false, if_true]
   intro a ha
   have hle' := Sto.le_set_set hle (show σ a = none by
    cases z : σ a with
    | none => rfl
    | some u => rw [hle _ _ z] at ha; cases ha) (u := .list [.int (1 + m + 1)])
   have s1 := r1.step
   have s2 := Rm.step (x := var k) (by rw [← zbg hk']; exact s1)
   have l1 := s1.len
   have l2 := s2.len
   rw [List.length_append] at l1 l2
   refine za6 Sto.set_self (za4 (by exact Int.add_nonneg (Int.add_nonneg (by decide) (Int.natCast_nonneg _)) (by decide)) (by lia) zc3) ?_
   walk_at "lw"
   rw [show (1 + (m : Int) + 1).toNat = m + 2 by lia]
   walk_at "lw"
   rw [x0 hle']
   walk_at "lw"
   rw [ix (n := 1 + (m : Int)) (H' _ hle').w (i := m + 1) (by lia) hv]
   exact And.intro (by simp at l1 ⊢; lia) (c_31 hk' ⟨by lia, hk _ _ ⟨_, _, rfl, hle', s2⟩⟩)
 rintro ρ τ ⟨out, x, rfl, hle, r1⟩
 refine And.intro (by simp [za2]) ?_
 replace r1 : Rm fin out (b.ps.flatMap cP ++ (b.ds.flatMap cD ++ b.fs.flatMap cF)) := r1
 have fresh : ∀ {τ : Sto} {a}, σ.Le τ → τ a = none → ∀ u, σ.Le (τ.set a u) := fun {τ a} hle ha u => hle.trans (Sto.le_set ha)
 -- pointers
 refine zaw (sq := .lst b.p) (fun K h => by walk_at "lw"; rw [x2 hle, zc9 (H' _ hle).p]; exact h) b.ps.length (fun m ρ τ => Ex3 fun out y z => A3 (ρ = [some (.ref b.l), some (.bytes out), x, y, z, none, none, none]) (σ.Le τ) (Rm fin out ((b.ps.drop m).flatMap cP ++ (b.ds.flatMap cD ++ b.fs.flatMap cF)))) ⟨out, none, none, rfl, hle, r1⟩ ?_ ?_
 ·intro m ρ τ K hm hI hk
  obtain ⟨out, y, z, rfl, hle, r1⟩ := hI
  obtain ⟨l, k, e, h1, h2, h3⟩ := ok.ps b.ps[m] (List.getElem_mem hm)
  walk_at "lw"
  refine ⟨b.ps[m], by rw [zal (H' _ hle).p, List.getElem?_eq_getElem hm], ?_⟩
  rw [List.drop_eq_getElem_cons hm, e, List.flatMap_cons] at r1
  walk_at "lw"
  simp only [cP, zbg (show l ≤ 18446744073709551615 by exact Nat.le_of_lt (Nat.lt_of_lt_of_le h1 (by decide))), vs (show l < 128 by exact Nat.lt_of_lt_of_le h1 (by decide)), List.cons_append, List.nil_append] at r1
  have s1 := r1.step
  have s2 := s1.step
  have s3 := Rm.step (x := text k) s2
  have l1 := s1.len
  have l2 := s2.len
  have l3 := s3.len
  walk_at "lw"
  simp only [List.length_append, List.length_singleton] at l1 l2 l3
  walk_at "lw"
  rw [e]
  intro a ha
  refine za6 Sto.set_self (za4 (by exact by decide) (by exact by decide) (za4 (by exact Int.natCast_nonneg _) (by exact Int.ofNat_lt.mpr (Nat.lt_of_lt_of_le h1 (by decide))) zc3)) ?_
  refine And.intro (by simp; exact Nat.le_of_lt (Nat.lt_of_lt_of_le l1 (Nat.le_trans hfl (by decide)))) (c_32 (by exact Nat.le_trans h3 (by decide)) ⟨by simp; lia, hk _ _ ⟨_, _, _, rfl, fresh hle ha _, ?_⟩⟩)
  rw [List.append_assoc] at s2 s3
  simpa using s3
 rintro ρ τ ⟨out, y, z, rfl, hle, r1⟩
 refine And.intro (by rw [zal (H' _ hle).p, List.getElem?_eq_none (Nat.le_refl _)]) ?_
 rw [List.drop_length] at r1
 -- deletions
 refine zaw (sq := .lst b.d) (fun K h => by walk_at "lw"; rw [x3 hle, zc9 (H' _ hle).d]; exact h) b.ds.length (fun m ρ τ => Ex3 fun out y u => A3 (ρ = [some (.ref b.l), some (.bytes out), x, y, z, u, none, none]) (σ.Le τ) (Rm fin out ((b.ds.drop m).flatMap cD ++ b.fs.flatMap cF))) ⟨out, y, none, rfl, hle, r1⟩ ?_ ?_
 ·intro m ρ τ K hm hI hk
  obtain ⟨out, y, u, rfl, hle, r1⟩ := hI
  obtain ⟨l, k, e, h1, h2⟩ := ok.ds b.ds[m] (List.getElem_mem hm)
  walk_at "lw"
  refine ⟨b.ds[m], by rw [zal (H' _ hle).d, List.getElem?_eq_getElem hm], ?_⟩
  rw [List.drop_eq_getElem_cons hm, e, List.flatMap_cons] at r1
  walk_at "lw"
  simp only [cD, zbg (show l ≤ 18446744073709551615 by exact Nat.le_of_lt (Nat.lt_of_lt_of_le h1 (by decide))), zbg h2, vs (show l < 128 by exact Nat.lt_of_lt_of_le h1 (by decide)), List.cons_append, List.nil_append] at r1
  have s1 := r1.step
  have s2 := s1.step
  have s3 := Rm.step (x := var k) s2
  have l1 := s1.len
  have l2 := s2.len
  have l3 := s3.len
  walk_at "lw"
  simp only [List.length_append, List.length_singleton] at l1 l2 l3
  walk_at "lw"
  rw [e]
  intro a ha
  refine za6 Sto.set_self (za4 (by exact by decide) (by exact by decide) (za4 (by exact Int.natCast_nonneg _) (by exact Int.ofNat_lt.mpr (Nat.lt_of_lt_of_le h1 (by decide))) zc3)) ?_
  refine And.intro (by simp; exact Nat.le_of_lt (Nat.lt_of_lt_of_le l1 (Nat.le_trans hfl (by decide)))) (c_31 h2 ⟨by simp; lia, hk _ _ ⟨_, _, _, rfl, fresh hle ha _, ?_⟩⟩)
  rw [List.append_assoc] at s2 s3
  simpa using s3
 rintro ρ τ ⟨out, y, u, rfl, hle, r1⟩
 refine And.intro (by rw [zal (H' _ hle).d, List.getElem?_eq_none (Nat.le_refl _)]) ?_
 rw [List.drop_length] at r1
 -- additions
 refine zaw (sq := .lst b.m) (fun K h => by walk_at "lw"; rw [x4 hle, zc9 (H' _ hle).m]; exact h) b.fs.length (fun m ρ τ => Ex4 fun out y p q => A3 (ρ = [some (.ref b.l), some (.bytes out), x, y, z, u, p, q]) (σ.Le τ) (Rm fin out ((b.fs.drop m).flatMap cF))) ⟨out, y, none, none, rfl, hle, r1⟩ ?_ ?_
 ·intro m ρ τ K hm hI hk
  obtain ⟨out, y, p, q, rfl, hle, r1⟩ := hI
  have hf := ok.fs b.fs[m] (List.getElem_mem hm)
  have hpr := (H' _ hle).pr (List.getElem_mem hm)
  have hro : ∀ {τ}, σ.Le τ → _ := fun {τ} hle => (H' τ hle).ro (List.getElem_mem hm)
  walk_at "lw"
  refine ⟨_, by rw [zal (H' _ hle).m, getElem?_map_some hm], ?_⟩
  rw [List.drop_eq_getElem_cons hm, List.flatMap_cons] at r1
  generalize b.fs[m] = f at *
  obtain ⟨h1, ⟨n, en, hn⟩, ⟨s, es, hs⟩, ⟨lo, el, hlo⟩, ⟨hi, eh, hhi⟩⟩ := hf
  rw [en, es, el, eh] at hro
  walk_at "lw"
  simp only [cF, en, es, el, eh, zbg (show f.lv ≤ 18446744073709551615 by exact Nat.le_of_lt (Nat.lt_of_lt_of_le h1 (by decide))), zbg hn, zbg hs, cB, vs (show f.lv < 128 by exact Nat.lt_of_lt_of_le h1 (by decide)), List.cons_append, List.nil_append] at r1
  have s1 := r1.step
  have s2 := s1.step
  have s3 := s2.step
  have s4 := s3.step
  have s5 := s4.step
  have s6 := s5.step
  have l1 := s1.len
  have l2 := s2.len
  have l3 := s3.len
  have l4 := s4.len
  have l5 := s5.len
  have l6 := s6.len
  walk_at "lw"
  simp only [List.length_append, List.length_singleton] at l1 l2 l3 l4 l5 l6
  unfold FB.sa
  refine zai hpr (n := 1) (i := 1) rfl rfl ?_
  intro a ha
  have hle' := fresh hle ha (.list [.int 7, .int f.lv])
  refine za6 Sto.set_self (za4 (by exact by decide) (by exact by decide) (za4 (by exact Int.natCast_nonneg _) (by exact Int.ofNat_lt.mpr (Nat.lt_of_lt_of_le h1 (by decide))) zc3)) ?_
  walk_at "lw"
  walk_at "lw"
  rw [ix (hro hle') (n := 0) (i := 0) rfl rfl]
  refine And.intro (by simp; exact Nat.le_of_lt (Nat.lt_of_lt_of_le l1 (Nat.le_trans hfl (by decide)))) (c_31 hn ?_)
  walk_at "lw"
  walk_at "lw"
  rw [ix (hro hle') (n := 1) (i := 1) rfl rfl]
  refine And.intro (by simp; lia) (c_31 hs ?_)
  walk_at "lw"
  walk_at "lw"
  rw [ix (hro hle') (n := 2) (i := 2) rfl rfl]
  refine And.intro (by simp; lia) (c_32 (by exact Nat.le_trans hlo.2 (by decide)) ?_)
  walk_at "lw"
  walk_at "lw"
  rw [ix (hro hle') (n := 3) (i := 3) rfl rfl]
  refine And.intro (by simp; lia) (c_32 (by exact Nat.le_trans hhi.2 (by decide)) ?_)
  refine And.intro (by simp; lia) (hk _ _ ⟨_, _, _, _, rfl, hle', ?_⟩)
  simpa [List.append_assoc] using s6
 rintro ρ τ ⟨out, y, p, q, rfl, hle, r1⟩
 refine And.intro (by rw [zal (H' _ hle).m, List.getElem?_eq_none (by simp)]) ?_
 rw [List.drop_length] at r1
 walk_at "lw"
 rw [r1.end]
 walk_at "lw"
 exact ⟨σ, hle, hfin⟩
end
end
section
section
variable {σ τ : Sto} {L M : Lg} {b : EB} {g : MB}
theorem Hold.has (h : Hold σ (L ++ M)) : Has σ L := fun q hq => h.1 q (List.mem_append_left _ hq)
theorem Hold.sl (h : Hold σ (bled b ++ L)) : Has σ (sled b) := h.has.left
theorem Hold.el (h : Hold σ (bled b ++ L)) : Has σ (eled b) := h.has.right
theorem Hold.tl (h : Hold σ (sted g ++ L)) : Has σ (tled g) := h.has.left
theorem Hold.ml (h : Hold σ (sted g ++ L)) : Has σ (mled g) := h.has.right
end
theorem zcm {v : Va} {n : Nat} (h : Num v) : flat n v = true := by obtain ⟨k, rfl, _⟩ := h; cases n <;> rfl
theorem zd6 {v : Va} {n : Nat} (h : Key v) : flat n v = true := by obtain ⟨k, rfl, _⟩ := h; cases n <;> rfl
theorem zno {n : Nat} : flat n .none = true := by cases n <;> rfl
theorem zh2 {n : Nat} {i : Int} : flat n (.int i) = true := by cases n <;> rfl
theorem znp {n : Nat} {i : Bool} : flat n (.bool i) = true := by cases n <;> rfl
theorem flat_bytes {n : Nat} {i : List UInt8} : flat n (.bytes i) = true := by cases n <;> rfl
theorem zcl {n : Nat} {l : List Va} (h : ∀ x ∈ l, flat n x = true) : flat (n + 1) (.tup l) = true := by
 show l.all (flat n) = true
 exact List.all_eq_true.mpr h
theorem zky {N : Nat} {b : EB} (h : OkE N b) : flat 7 b.ev.row = true := by
 have w : ∀ {v : Va} {P : Va → Prop}, (∀ v, P v → flat 6 v = true) → v = .none ∨ P v → flat 6 v = true := fun {v P} hp hv => by
  rcases hv with rfl | hv
  ·exact zno
  ·exact hp _ hv
 refine zcl fun x hx => ?_
 simp only [EB.ev, List.mem_cons, List.not_mem_nil, or_false] at hx
 rcases hx with rfl | rfl | rfl | rfl | rfl | rfl | rfl | rfl
 ·exact w (fun _ => zd6) h.w0
 ·exact w (fun _ => zcm) h.w1
 ·exact w (fun _ => zcm) h.w2
 ·exact w (fun _ z => zcm z.num) h.w3
 ·refine zcl fun x hx => ?_
  obtain ⟨l, k, rfl, _⟩ := h.ps x hx
  rfl
 ·refine zcl fun x hx => ?_
  obtain ⟨l, k, rfl, _⟩ := h.ds x (h.eds ▸ hx)
  rfl
 ·refine zcl fun x hx => ?_
  simp only [List.map_map, List.mem_map] at hx
  obtain ⟨f, hf, rfl⟩ := hx
  have o := h.fs f hf
  refine zcl fun x hx => ?_
  simp only [List.mem_cons, List.not_mem_nil, or_false] at hx
  rcases hx with rfl | rfl
  ·exact zh2
  ·refine zcl fun x hx => ?_
   simp only [FB.v, List.mem_cons, List.not_mem_nil, or_false] at hx
   rcases hx with rfl | rfl | rfl | rfl
   ·exact zcm o.n
   ·exact zcm o.s
   ·exact zd6 o.lo
   ·exact zd6 o.hi
 ·exact znp
theorem ziw {N : Nat} {b : MB} (h : OkM N b) : flat 7 b.mv.row = true := by
 refine zcl fun x hx => ?_
 simp only [MB.mv, List.mem_cons, List.not_mem_nil, or_false] at hx
 rcases hx with rfl | rfl | rfl | rfl | rfl
 ·exact zcm h.n0
 ·exact zcm h.n1
 ·exact zd6 h.cf
 ·exact zcm h.n2.num
 ·refine zcl fun x hx => ?_
  simp only [List.map_map, List.mem_map] at hx
  obtain ⟨f, hf, rfl⟩ := hx
  obtain ⟨⟨a0, e0, g0⟩, g1, ⟨a2, e2, g2⟩, g3, g4⟩ := h.rs f hf
  refine zcl fun x hx => ?_
  simp only [RB.v, List.mem_cons, List.not_mem_nil, or_false] at hx
  rcases hx with rfl | rfl | rfl | rfl | rfl
  ·rw [e0]; exact zh2
  ·exact zcm g1
  ·rw [e2]; exact zh2
  ·exact zd6 g3
  ·exact zd6 g4
theorem zrd {a b : List Va} {k : Bool → Prop} (h : a = b) (f : flat 7 (.tup a) = true) : cmpW .eq (.tup a) (.tup b) k = k true := by
 show ((a = b ∧ flat 7 (.tup a) = true) ∧ k true) = k true
 exact propext ⟨fun z => z.2, fun z => ⟨⟨h, f⟩, z⟩⟩
theorem zre {v w : EV} {k : Bool → Prop} (h : v = w) (f : flat 7 v.row = true) : cmpW .eq v.row w.row k = k true := by subst h; exact zrd rfl f
theorem zn1 {v w : MV} {k : Bool → Prop} (h : v = w) (f : flat 7 v.row = true) : cmpW .eq v.row w.row k = k true := by subst h; exact zrd rfl f
theorem zsn {v w : EV} {k : Bool → Prop} (h : v = w) (f : flat 7 v.row = true) : cmpW .ne v.row w.row k = k false := by
 subst h
 show ((_ = _ ∧ flat 7 v.row = true) ∧ k false) = k false
 exact propext ⟨fun z => z.2, fun z => ⟨⟨rfl, f⟩, z⟩⟩
theorem zpv {v w : MV} {k : Bool → Prop} (h : v = w) (f : flat 7 v.row = true) : cmpW .ne v.row w.row k = k false := by
 subst h
 show ((_ = _ ∧ flat 7 v.row = true) ∧ k false) = k false
 exact propext ⟨fun z => z.2, fun z => ⟨⟨rfl, f⟩, z⟩⟩
section
variable {r : Nat} {σ : Sto} {B : BP} {Q : QP} {N : Nat} {b : EB} {g : MB} {L : Lg}
theorem c_34 (H : Has σ (sled b)) (he : b.eds = b.ds) (hf : b.fs.length ≤ 1000) (hq : Q b.ev.row σ) : zac tab (r+1) 34 [.ref b.l] σ B Q := by
 refine ztf ?_
 have xl : ∀ {τ}, σ.Le τ → ∀ {n : Int} {i : Nat} {w : Va}, n = i → ([.ref b.e, .ref b.w, .ref b.p, .ref b.d, .ref b.m, .bool b.rs] : List Va)[i]? = some w → ∀ {k}, idxW τ (.ref b.l) (.int n) k = k w := fun h n i w hn e k => ix (H.le h).l hn e
 have xw : ∀ {τ}, σ.Le τ → ∀ {n : Int} {i : Nat} {w : Va}, n = i → ([b.w0, b.w1, b.w2, b.w3] : List Va)[i]? = some w → ∀ {k}, idxW τ (.ref b.w) (.int n) k = k w := fun h n i w hn e k => ix (H.le h).w hn e
 refine asgP (fun v τ => v = .tup (b.fs.map fun f => rowF f.v) ∧ σ.Le τ) (fun Q h => ?_) ?_
 ·walk_at "lw"
  rw [xl (.refl _) (n := 4) (i := 4) rfl rfl]
  refine zf4 H.m ?_
  refine zbi (N := b.fs.length) (fun m s => s = (σ, (b.fs.take m).map fun f => rowF f.v)) ?_ ?_ rfl
  ·rintro m s K hm rfl hk
   walk_at "lw"
   refine ⟨_, by rw [zal H.m, getElem?_map_some hm], ?_⟩
   walk_at "lw"
   simp only [FB.sa, zem, asP, zfs]
   refine zai (n := 1) (H.pr (List.getElem_mem hm)) (i := 1) rfl rfl ?_
   refine zeo (H.ro (List.getElem_mem hm)) ?_
   refine And.intro (by simp [zap]; exact Nat.lt_of_le_of_lt (Nat.min_le_right _ _) (Nat.lt_of_le_of_lt hf (by decide))) (hk _ ?_)
   walk_at "lw"
   rw [List.take_succ_eq_append_getElem hm]
   walk_at "lw"
   rw [List.map_append]
   rfl
  ·rintro s rfl
   refine And.intro (by rw [zal H.m, List.getElem?_eq_none (by simp)]) (fun a ha => ?_)
   refine zeo Sto.set_self ?_
   walk_at "lw"
   rw [List.take_length]
   exact h _ _ ⟨rfl, Sto.le_set ha⟩
 ·rintro _ τ ⟨rfl, hle⟩
  have x1 : ∀ {j : Nat} {w : Va} {k : Va → Prop}, ([b.w0, b.w1, b.w2, b.w3] : List Va)[j]? = some w → k w → idxW τ (.ref b.l) (.int 1) fun v => idxW τ v (.int j) k := fun e q => zai (H.le hle).l (i := 1) rfl rfl (zai (H.le hle).w rfl e q)
  refine x1 (j := 0) rfl (x1 (j := 1) rfl (x1 (j := 2) rfl (x1 (j := 3) rfl (zai (H.le hle).l (i := 2) rfl rfl ((zdb (H.le hle).p).mpr (zai (H.le hle).l (i := 3) rfl rfl ((zdb (H.le hle).d).mpr (zai (H.le hle).l (i := 5) rfl rfl ⟨σ, hle, ?_⟩))))))))
  unfold EV.row EB.ev at hq
  walk_at "lw"
  simp only [List.map_map, he] at hq
  exact hq
theorem c_35 (H : Hold σ (bled b ++ L)) (ok : OkE N b) (hN : N ≤ 60) (hq : ∀ σ', Hold σ' (bled b ++ L) → Q (.bool true) σ') : zac tab (r+7) 35 [.ref b.l] σ B Q := by
 refine zte ?_
 have fr := zky ok
 obtain ⟨rl, h1, h2, hcat, h3, hfl⟩ := zny ok hN
 have nf := ok.nf
 refine c_34 H.sl ok.eds (by exact Nat.le_trans nf (Nat.le_trans hN (by decide))) ?_
 refine c_33 H.sl ok hN fun c hc => ?_
 obtain rfl := Option.some.inj (hcat.symm.trans hc)
 refine zai (n := 0) H.sl.l (i := 0) rfl rfl ?_
 refine zay H.el.e (show mth 18 5 = some 222 from rfl) ?_
 refine zt1 H.el (by exact Nat.le_trans nf (Nat.le_trans hN (by decide))) ?_
 walk_at "lw"
 rw [zre rfl fr]
 walk_at "lw"
 try simp only [if_true]
 refine zai (n := 0) H.sl.l (i := 0) rfl rfl ?_
 refine zay H.el.e (show mth 18 6 = some 223 from rfl) ?_
 refine zn9 H.el (ok.ty hN) (fun z => by rw [hcat] at z; cases z) fun c hc => ?_
 obtain rfl := Option.some.inj (hcat.symm.trans hc)
 refine zba (by simp) ?_
 refine c_22 (by exact Nat.le_trans hfl (by decide)) rfl h1 h3 H fun b' σ' he H' => ?_
 rw [h2] at he
 refine zay H'.has.e (show mth 18 5 = some 222 from rfl) ?_
 have hl : b'.fs.length = b.fs.length := by have := congrArg (fun v => v.fs.length) he; simpa [EB.ev] using this
 refine zt1 H'.has (by exact Nat.le_trans (Nat.le_of_eq hl) (Nat.le_trans nf (Nat.le_trans hN (by decide)))) ?_
 walk_at "lw"
 rw [zre he (by rw [he]; exact fr)]
 exact zax (hq _ (H'.sub (List.sublist_append_right _ _)))
end
end
section
section
variable {r : Nat} {σ : Sto} {B : BP} {Q : QP} {N : Nat} {g : MB} {L : Lg}
theorem p256 (k : Nat) : (256 : Int) ^ ((k : Nat) : Int).toNat = ((256 ^ k : Nat) : Int) := by simp
theorem znq (n : Nat) : (List.range 4).map (fun i => UInt8.ofNat (n / 256 ^ i % 256)) = fix n := by
 unfold fix
 simp [List.range_succ]
theorem c_50 (H : Has σ (tled g)) (ok : OkM N g) (hN : N ≤ 60) (hq : ∀ c, cat (chM g) = some c → Q (.bytes c) σ) : zac tab (r+3) 50 [.ref g.l] σ B Q := by
 refine zs1 ?_
 obtain ⟨_, _, _, _, _, _, _, _, _, _, _, _, hcat, hfl⟩ := zpo ok hN
 generalize (_ ++ _ : List UInt8) = fin at *
 have hfin := hq _ hcat
 have nr := ok.nr
 have xl : ∀ {τ}, σ.Le τ → ∀ {n : Int} {i : Nat} {w : Va}, n = i → ([.ref g.m, .ref g.w, g.cf, .ref g.u] : List Va)[i]? = some w → ∀ {k}, idxW τ (.ref g.l) (.int n) k = k w := fun h n i w hn e k => ix (H.le h).gl hn e
 have xw : ∀ {τ}, σ.Le τ → ∀ {n : Int} {i : Nat} {w : Va}, n = i → ([g.n0, g.n1, g.n2] : List Va)[i]? = some w → ∀ {k}, idxW τ (.ref g.w) (.int n) k = k w := fun h n i w hn e k => ix (H.le h).gw hn e
 obtain ⟨n0, e0, g0⟩ := ok.n0
 obtain ⟨n1, e1, g1⟩ := ok.n1
 obtain ⟨n2, e2, g2⟩ := ok.n2
 obtain ⟨cf, e3, g3⟩ := ok.cf
 have r0 : Rm fin [] (chM g) := ⟨fin, hcat, rfl⟩
 unfold chM at r0
 rw [e0, e1, e2, e3] at r0
 rw [e0, e1, e2] at xw
 rw [e3] at xl
 simp only [zbg g0, zbg g1, zbg (show n2 ≤ 18446744073709551615 by exact Nat.le_trans g2 (by decide)), cB, zbg (show g.rs.length ≤ 18446744073709551615 by exact Nat.le_trans nr (Nat.le_trans hN (by decide)))] at r0
 have s1 := r0.step
 have s2 := s1.step
 have s3 := s2.step
 have s4 := s3.step
 have s5 := s4.step
 have l1 := s1.len
 have l2 := s2.len
 have l3 := s3.len
 have l4 := s4.len
 have l5 := s5.len
 simp only [List.length_append, List.length_nil] at l1 l2 l3 l4 l5
 rw [List.nil_append] at s5
 generalize hpre : (var n0 ++ var n1 ++ var n2 ++ text cf ++ var g.rs.length) = pre at s5
 refine asg (v := .bytes pre) (fun Q h => ?_) ?_
 ·walk_at "lw"
  rw [xl (.refl _) (n := 1) (i := 1) rfl rfl]
  walk_at "lw"
  rw [xw (.refl _) (n := 0) (i := 0) rfl rfl]
  refine c_31 g0 ?_
  walk_at "lw"
  rw [xl (.refl _) (n := 1) (i := 1) rfl rfl]
  walk_at "lw"
  rw [xw (.refl _) (n := 1) (i := 1) rfl rfl]
  refine c_31 g1 ?_
  walk_at "lw"
  rw [xl (.refl _) (n := 1) (i := 1) rfl rfl]
  walk_at "lw"
  rw [xw (.refl _) (n := 2) (i := 2) rfl rfl]
  refine And.intro (by lia -abstractProof) (c_31 (by exact Nat.le_trans g2 (by decide)) ?_)
  walk_at "lw"
  rw [xl (.refl _) (n := 2) (i := 2) rfl rfl]
  refine And.intro (by simp; lia -abstractProof) (c_32 (by exact Nat.le_trans g3.2 (by decide)) ?_)
  walk_at "lw"
  rw [xl (.refl _) (n := 3) (i := 3) rfl rfl]
  walk_at "lw"
  rw [zbn H.gu]
  walk_at "lw"
  rw [List.length_map]
  refine And.intro (by simp; lia -abstractProof) (c_31 (by exact Nat.le_trans nr (Nat.le_trans hN (by decide))) ?_)
  refine And.intro (by simp; lia -abstractProof) ?_
  rw [hpre]; exact h
 refine zaw (sq := .lst g.u) (fun K h => by walk_at "lw"; rw [xl (.refl _) (n := 3) (i := 3) rfl rfl, zc9 H.gu]; exact h) g.rs.length (fun m ρ τ => Ex3 fun out y z => A3 (ρ = [some (.ref g.l), some (.bytes out), y, z]) (σ.Le τ) (Rm fin out ((g.rs.drop m).flatMap cR)))
  ⟨pre, none, none, rfl, .refl _, s5⟩ ?_ ?_
 ·intro m ρ τ K hm hI hk
  obtain ⟨out, y, z, rfl, hle, r1⟩ := hI
  have hf := ok.rs g.rs[m] (List.getElem_mem hm)
  have hpr := (H.le hle).gpr (List.getElem_mem hm)
  have hro : ∀ {τ}, σ.Le τ → _ := fun {τ} hle => (H.le (τ := τ) hle).gro (List.getElem_mem hm)
  walk_at "lw"
  refine ⟨_, by rw [zal (H.le hle).gu, getElem?_map_some hm], ?_⟩
  rw [List.drop_eq_getElem_cons hm, List.flatMap_cons] at r1
  generalize g.rs[m] = f at *
  obtain ⟨⟨a0, f0, k0⟩, ⟨a1, f1, k1⟩, ⟨a2, f2, k2⟩, ⟨a3, f3, k3⟩, ⟨a4, f4, k4⟩⟩ := hf
  rw [f0, f1, f2, f3, f4] at hro
  simp only [cR, f0, f1, f2, f3, f4, zbg (show a0 ≤ 18446744073709551615 by exact Nat.le_of_lt (Nat.lt_of_lt_of_le k0 (by decide))), zbg k1, zrf k2, cB, List.cons_append, List.nil_append] at r1
  have s1 := r1.step
  have s2 := s1.step
  have s3 := s2.step
  have s4 := s3.step
  have s5 := s4.step
  have l1 := s1.len
  have l2 := s2.len
  have l3 := s3.len
  have l4 := s4.len
  have l5 := s5.len
  simp only [List.length_append] at l1 l2 l3 l4 l5
  refine zai (n := 1) hpr (i := 1) rfl rfl ?_
  refine zai (n := 0) (hro hle) (i := 0) rfl rfl ?_
  refine c_31 (by exact Nat.le_of_lt (Nat.lt_of_lt_of_le k0 (by decide))) ?_
  walk_at "lw"
  walk_at "lw"
  rw [ix (n := 1) (hro hle) (i := 1) rfl rfl]
  refine And.intro (by exact Nat.le_trans l1 (Nat.le_trans hfl (by decide))) (c_31 k1 ?_)
  walk_at "lw"
  refine ⟨by simp; exact Nat.le_trans l2 (Nat.le_trans hfl (by decide)), by decide, ?_⟩
  refine zbi (N := 4) (fun m s => s = (τ, (List.range m).map fun i => Va.int ((a2 / 256 ^ i % 256 : Nat) : Int))) ?_ ?_ rfl
  ·rintro m s K hm rfl hk
   walk_at "lw"
   refine ⟨.int m, by simp [za2]; exact Int.ofNat_lt.mpr hm, ?_⟩
   walk_at "lw"
   simp only [zem, asP, zfs]
   refine zai (n := 2) (hro hle) (i := 2) rfl rfl ?_
   walk_at "lw"
   rw [p256]
   have hp : 0 < 256 ^ m := Nat.pow_pos (by decide)
   have hp2 : 256 ^ m ≤ 256 ^ 3 := Nat.pow_le_pow_right (by decide) (by lia -abstractProof)
   have hp3 : 256 ^ 3 = 16777216 := by decide
   walk_at "lw"
   refine ⟨⟨by exact Int.natCast_nonneg _, by exact Int.ofNat_le.mpr (Nat.le_of_lt (Nat.lt_of_lt_of_le hm (by decide))), ze9 (by decide) (by decide)⟩, ⟨Int.ofNat_lt.mpr hp, Int.ofNat_lt.mpr (show 256 ^ m < 18446744073709551616 by exact Nat.lt_of_le_of_lt hp2 (by decide))⟩, by decide, by simp [zap]; exact Nat.lt_of_lt_of_le hm (by decide), hk _ ?_⟩
   walk_at "lw"
   rw [List.range_succ]
   walk_at "lw"
   rw [List.map_append]
   walk_at "lw"
   rw [List.map_cons]
   walk_at "lw"
   rw [List.map_nil]
   walk_at "lw"
   rw [Int.natCast_emod]
   walk_at "lw"
   rw [Int.natCast_ediv]
   rfl
  ·rintro s rfl
   refine And.intro (by simp [za2]) (fun a ha => ?_)
   have e : (List.range 4).map (fun i => Va.int ((a2 / 256 ^ i % 256 : Nat) : Int)) = ((List.range 4).map fun i => a2 / 256 ^ i % 256).map fun (m : Nat) => Va.int (m : Int) := by rw [List.map_map]; rfl
   have hle' := hle.trans (Sto.le_set ha) (c := τ.set a (.list ((List.range 4).map fun i => Va.int ((a2 / 256 ^ i % 256 : Nat) : Int))))
   walk_at "lw"
   rw [zdl Sto.set_self (by
    rw [e]
    exact zkp fun m hm => by
     obtain ⟨i, _, rfl⟩ := List.mem_map.mp hm
     exact Nat.mod_lt _ (by decide)), List.map_map, show (UInt8.ofNat ∘ fun i => a2 / 256 ^ i % 256) = fun i => UInt8.ofNat (a2 / 256 ^ i % 256) from rfl, znq]
   refine And.intro (by simp; lia -abstractProof) ?_
   refine zai (n := 3) (hro hle') (i := 3) rfl rfl ?_
   refine c_32 (by exact Nat.le_trans k3.2 (by decide)) ?_
   walk_at "lw"
   walk_at "lw"
   rw [ix (n := 4) (hro hle') (i := 4) rfl rfl]
   refine And.intro (by simp; lia -abstractProof) (c_32 (by exact Nat.le_trans k4.2 (by decide)) ?_)
   exact And.intro (by simp; lia -abstractProof) (hk _ _ ⟨_, _, _, rfl, hle', s5⟩)
 ·rintro ρ τ ⟨out, y, z, rfl, hle, r1⟩
  refine And.intro (by rw [zal (H.le hle).gu, List.getElem?_eq_none (by simp)]) ?_
  rw [List.drop_length] at r1
  walk_at "lw"
  rw [r1.end]
  walk_at "lw"
  exact ⟨σ, hle, hfin⟩
theorem c_51 (H : Has σ (tled g)) (hf : g.rs.length ≤ 1000) (hq : Q g.mv.row σ) : zac tab (r+1) 51 [.ref g.l] σ B Q := by
 refine zs0 ?_
 have xl : ∀ {n : Int} {i : Nat} {w : Va}, n = i → ([.ref g.m, .ref g.w, g.cf, .ref g.u] : List Va)[i]? = some w → ∀ {k}, idxW σ (.ref g.l) (.int n) k = k w := fun {n i w} hn e {k} => ix H.gl hn e
 have xw : ∀ {n : Int} {i : Nat} {w : Va}, n = i → ([g.n0, g.n1, g.n2] : List Va)[i]? = some w → ∀ {k}, idxW σ (.ref g.w) (.int n) k = k w := fun {n i w} hn e {k} => ix H.gw hn e
 refine zai H.gl (i := 1) rfl rfl (zai H.gw (i := 0) rfl rfl (zai H.gl (i := 1) rfl rfl (zai H.gw (i := 1) rfl rfl (zai H.gl (i := 2) rfl rfl (zai H.gl (i := 1) rfl rfl (zai H.gw (i := 2) rfl rfl (zai H.gl (i := 3) rfl rfl ((zc9 H.gu).mpr ?_))))))))
 refine zbi (N := g.rs.length) (fun m s => s = (σ, (g.rs.take m).map fun f => rowR f.v)) ?_ ?_ rfl
 ·rintro m s K hm rfl hk
  walk_at "lw"
  refine ⟨_, by rw [zal H.gu, getElem?_map_some hm], ?_⟩
  walk_at "lw"
  simp only [zem, asP, zfs]
  refine zai (n := 1) (H.gpr (List.getElem_mem hm)) (i := 1) rfl rfl ?_
  refine zeo (H.gro (List.getElem_mem hm)) ?_
  refine And.intro (by simp [zap]; exact Nat.lt_of_le_of_lt (Nat.min_le_right _ _) (Nat.lt_of_le_of_lt hf (by decide))) (hk _ ?_)
  walk_at "lw"
  rw [List.take_succ_eq_append_getElem hm]
  walk_at "lw"
  rw [List.map_append]
  rfl
 ·rintro s rfl
  refine And.intro (by rw [zal H.gu, List.getElem?_eq_none (by simp)]) (fun a ha => ?_)
  refine zeo Sto.set_self ?_
  walk_at "lw"
  rw [List.take_length]
  walk_at "lw"
  refine ⟨σ, Sto.le_set ha, ?_⟩
  unfold MV.row MB.mv at hq
  simp only [List.map_map] at hq
  exact hq
theorem c_52 (H : Hold σ (sted g ++ L)) (ok : OkM N g) (hN : N ≤ 60) (hq : ∀ σ', Hold σ' (sted g ++ L) → Q (.bool true) σ') : zac tab (r+6) 52 [.ref g.l] σ B Q := by
 refine zsz ?_
 have fr := ziw ok
 obtain ⟨n0, n1, n2, cf, rl, h0, h1, h2, h3, h4, h5, hmv, hcat, hfl⟩ := zpo ok hN
 have nf := ok.nr
 refine c_51 H.tl (by exact Nat.le_trans nf (Nat.le_trans hN (by decide))) ?_
 refine c_50 H.tl ok hN fun c hc => ?_
 obtain rfl := Option.some.inj (hcat.symm.trans hc)
 refine zai (n := 0) H.tl.gl (i := 0) rfl rfl ?_
 refine zay H.ml.gm (show mth 24 5 = some 228 from rfl) ?_
 refine zt0 H.ml (by exact Nat.le_trans nf (Nat.le_trans hN (by decide))) ?_
 walk_at "lw"
 rw [zn1 rfl fr]
 walk_at "lw"
 try simp only [if_true]
 refine zai (n := 0) H.tl.gl (i := 0) rfl rfl ?_
 refine zay H.ml.gm (show mth 24 6 = some 229 from rfl) ?_
 refine zql H.ml (ok.ty hN) (fun z => by rw [hcat] at z; cases z) fun c hc => ?_
 obtain rfl := Option.some.inj (hcat.symm.trans hc)
 refine zba (by simp) ?_
 refine c_25 (by exact Nat.le_trans hfl (by decide)) rfl h0 h1 h2 h3 h4 h5 H fun b' σ' he H' => ?_
 rw [← hmv] at he
 refine zay H'.has.gm (show mth 24 5 = some 228 from rfl) ?_
 have hl : b'.rs.length = g.rs.length := by have := congrArg (fun v => v.rs.length) he; simpa [MB.mv] using this
 refine zt0 H'.has (by exact Nat.le_trans (Nat.le_of_eq hl) (Nat.le_trans nf (Nat.le_trans hN (by decide)))) ?_
 walk_at "lw"
 rw [zn1 he (by rw [he]; exact fr)]
 exact zax (hq _ (H'.sub (List.sublist_append_right _ _)))
end
end
section
noncomputable def fled (l : List FB) : Lg := l.flatMap FB.sl ++ l.map FB.el
noncomputable def zna (b : EB) (x y : List Va) : Lg := [(b.l, .list [.ref b.e, .ref b.w, .ref b.p, .ref b.d, .ref b.m, .bool b.rs]), (b.w, .list [b.w0, b.w1, b.w2, b.w3]), (b.p, .list b.ps), (b.d, .list b.ds), (b.m, .list x),
 (b.e, edI b.w0 b.w1 b.w2 b.w3 b.P b.D b.A b.rs), (b.P, .list b.ps), (b.D, .list b.eds), (b.A, .list y)]
noncomputable def nine (b : EB) : Lg := zna b (b.fs.map FB.sa) (b.fs.map FB.ea)
noncomputable def fl3 (f : FB) : Lg := [(f.pr, .list [.ref f.me, .ref f.ro]), (f.ro, .list [f.n, f.s, f.lo, f.hi]), (f.me, meI f.n f.s f.lo f.hi)]
section
variable {σ : Sto} {b : EB} {L : Lg}
theorem nine_perm : (bled b ++ L).Perm (nine b ++ (fled b.fs ++ L)) :=
 zf9 [_, b.fs.flatMap FB.sl, _, b.fs.map FB.el, L] (.a (.a (.r 0 [1]) (.r 2 [3])) (.l 4)) (.a (.r 0 [2]) (.a (.r 1 [3]) (.l 4))) rfl
theorem fled_app {l m : List FB} : (fled (l ++ m)).Perm (fled l ++ fled m) := by
 unfold fled
 rw [List.flatMap_append, List.map_append]
 exact zf9 [l.flatMap FB.sl, m.flatMap FB.sl, l.map FB.el, m.map FB.el] (.a (.r 0 [1]) (.r 2 [3])) (.a (.r 0 [2]) (.r 1 [3])) rfl
theorem zhj {l1 l2 : List FB} {f : FB} : (fled (l1 ++ f :: l2)).Perm (fl3 f ++ (fled l1 ++ fled l2)) :=
 fled_app.trans ((List.Perm.append_left _ (fled_app (l := [f]))).trans zeh)
theorem zpc {f : FB} : ((f.pr, .list [.ref f.me, .ref f.ro]) :: (f.me, meI f.n f.s f.lo f.hi) :: (f.ro, .list [f.n, f.s, f.lo, f.hi]) :: (zna b (b.fs.map FB.sa ++ [f.sa]) (b.fs.map FB.ea ++ [f.ea]) ++ (fled b.fs ++ L))).Perm (bled { b with fs := b.fs ++ [f] } ++ L) := by
 rw [show b.fs.map FB.sa ++ [f.sa] = (b.fs ++ [f]).map FB.sa from (List.map_append (l₁ := b.fs) (l₂ := [f])).symm, show b.fs.map FB.ea ++ [f.ea] = (b.fs ++ [f]).map FB.ea from (List.map_append (l₁ := b.fs) (l₂ := [f])).symm]
 refine List.Perm.trans ?_ (nine_perm (b := { b with fs := b.fs ++ [f] })).symm
 refine List.Perm.trans ?_ (.append_left _ (.append_right _ fled_app.symm))
 exact zcv [_, _, _] [nine { b with fs := b.fs ++ [f] }, fled b.fs, L] (.cs (.r 0 [1, 2]) [0, 1, 2]) (.a (.l 0) (.a (.a (.l 1) (.cs .n [0, 2, 1])) (.l 2))) rfl
theorem zm9 {l1 l2 : List FB} {f : FB} (e : b.fs = l1 ++ f :: l2) : (zna b ((l1 ++ l2).map FB.sa) ((l1 ++ l2).map FB.ea) ++ (fled b.fs ++ L)).Perm (fl3 f ++ (bled { b with fs := l1 ++ l2 } ++ L)) := by
 rw [e]
 refine List.Perm.trans ?_ (.append_left _ (nine_perm (b := { b with fs := l1 ++ l2 })).symm)
 refine (List.Perm.append_left _ (.append_right _ zhj)).trans (List.Perm.trans ?_ (.append_left _ (.append_left _ (.append_right _ fled_app.symm))))
 exact zf9 [_, fl3 f, fled l1, fled l2, L] (.a (.l 0) (.a (.r 1 [2, 3]) (.l 4))) (.a (.l 1) (.a (.l 0) (.a (.r 2 [3]) (.l 4)))) rfl
theorem Hold.to9 (h : Hold σ (bled b ++ L)) : Hold σ (nine b ++ (fled b.fs ++ L)) := h.perm nine_perm
theorem Hold.of9 (h : Hold σ (nine b ++ (fled b.fs ++ L))) : Hold σ (bled b ++ L) := h.perm nine_perm.symm
end
noncomputable def EB.setW (b : EB) (i : Nat) (v : Va) : EB := match i with
 | 0 => { b with w0 := v }
 | 1 => { b with w1 := v }
 | 2 => { b with w2 := v }
 | _ => { b with w3 := v }
noncomputable def EB.getW (b : EB) (i : Nat) : Va := match i with
 | 0 => b.w0
 | 1 => b.w1
 | 2 => b.w2
 | _ => b.w3
noncomputable def wOk (i : Nat) (v : Va) : Prop := match i with
 | 0 => v = .none ∨ Key v
 | 1 => v = .none ∨ Num v
 | 2 => v = .none ∨ Num v
 | _ => v = .none ∨ Seqn v
theorem four {i : Nat} (h : i < 4) : i = 0 ∨ i = 1 ∨ i = 2 ∨ i = 3 := by lia
theorem OkE.getW {N : Nat} {b : EB} (h : OkE N b) {i : Nat} (hi : i < 4) : wOk i (b.getW i) := by
 rcases four hi with rfl | rfl | rfl | rfl
 ·exact h.w0
 ·exact h.w1
 ·exact h.w2
 ·exact h.w3
theorem OkE.setW {N : Nat} {b : EB} (h : OkE N b) {i : Nat} {v : Va} (hi : i < 4) (hv : wOk i v) : OkE N (b.setW i v) := by
 rcases four hi with rfl | rfl | rfl | rfl
 ·exact { h with w0 := hv }
 ·exact { h with w1 := hv }
 ·exact { h with w2 := hv }
 ·exact { h with w3 := hv }
theorem setW_l {b : EB} {i : Nat} {v : Va} : (b.setW i v).l = b.l := by unfold EB.setW; split <;> rfl
theorem zq2 {b : EB} {i : Nat} {v : Va} : (b.setW i v).e = b.e := by unfold EB.setW; split <;> rfl
theorem OkE.mono {N M : Nat} {b : EB} (h : OkE N b) (k : N ≤ M) : OkE M b := { h with np := Nat.le_trans h.np k, nd := Nat.le_trans h.nd k, nf := Nat.le_trans h.nf k }
section
variable {r : Nat} {σ : Sto} {B : BP} {Q : QP} {N : Nat} {b : EB} {L : Lg}
theorem w_at (H : Has σ (sled b)) {i : Nat} (hi : i < 4) {n : Int} (hn : n = i) : ∀ k, idxW σ (.ref b.w) (.int n) k = k (b.getW i) := fun k => by
 rcases four hi with rfl | rfl | rfl | rfl <;> exact ix H.w hn rfl
theorem c_36 {v : Va} {i : Nat} (hi : i < 4) {n : Int} (hn : n = i) (H : Hold σ (bled b ++ L)) (hq : ∀ σ', Hold σ' (bled (b.setW i v) ++ L) → Q .none σ') : zac tab (r+1) 36 [.ref b.l, .int n, v] σ B Q := by
 subst hn
 refine ztd ?_
 have h1 := H.sl
 replace H := H.to9
 refine zai (n := 1) h1.l (i := 1) rfl rfl ?_
 refine zbe h1.w (by simp; exact hi) ?_
 have e0 : ∀ {τ : Sto} {u : UOb}, Hold τ ((b.l, .list [.ref b.e, .ref b.w, .ref b.p, .ref b.d, .ref b.m, .bool b.rs]) :: (b.w, u) :: (b.p, .list b.ps) :: (b.d, .list b.ds) :: (b.m, .list (b.fs.map FB.sa)) ::
   (b.e, edI b.w0 b.w1 b.w2 b.w3 b.P b.D b.A b.rs) :: (b.P, .list b.ps) :: (b.D, .list b.eds) :: (b.A, .list (b.fs.map FB.ea)) :: (fled b.fs ++ L)) → ∀ k, idxW τ (.ref b.l) (.int 0) k = k (.ref b.e) :=
  fun h k => ix (n := 0) (h.nth 0 rfl) (i := 0) rfl rfl
 rcases four hi with rfl | rfl | rfl | rfl
 ·replace H := H.up (u' := .list [v, b.w1, b.w2, b.w3]) (.there .here)
  walk_at "lw"
  try rw [if_pos (by decide)]
  walk_at "lw"
  rw [e0 H]
  refine zad (H.nth 5 rfl) ?_
  walk_at "lw"
  exact ⟨by simp, _, .refl _, hq _ (Hold.of9 (b := { b with w0 := v }) (H.up (.there (.there (.there (.there (.there .here)))))))⟩
 ·replace H := H.up (u' := .list [b.w0, v, b.w2, b.w3]) (.there .here)
  walk_at "lw"
  try rw [if_neg (by decide)]
  walk_at "lw"
  try rw [if_pos (by decide)]
  walk_at "lw"
  rw [e0 H]
  refine zad (H.nth 5 rfl) ?_
  walk_at "lw"
  exact ⟨by simp, _, .refl _, hq _ (Hold.of9 (b := { b with w1 := v }) (H.up (.there (.there (.there (.there (.there .here)))))))⟩
 ·replace H := H.up (u' := .list [b.w0, b.w1, v, b.w3]) (.there .here)
  walk_at "lw"
  try rw [if_neg (by decide)]
  walk_at "lw"
  try rw [if_neg (by decide)]
  walk_at "lw"
  try rw [if_pos (by decide)]
  walk_at "lw"
  rw [e0 H]
  refine zad (H.nth 5 rfl) ?_
  walk_at "lw"
  exact ⟨by simp, _, .refl _, hq _ (Hold.of9 (b := { b with w2 := v }) (H.up (.there (.there (.there (.there (.there .here)))))))⟩
 ·replace H := H.up (u' := .list [b.w0, b.w1, b.w2, v]) (.there .here)
  walk_at "lw"
  try rw [if_neg (by decide)]
  walk_at "lw"
  try rw [if_neg (by decide)]
  walk_at "lw"
  try rw [if_neg (by decide)]
  walk_at "lw"
  rw [e0 H]
  refine zad (H.nth 5 rfl) ?_
  walk_at "lw"
  exact ⟨by simp, _, .refl _, hq _ (Hold.of9 (b := { b with w3 := v }) (H.up (.there (.there (.there (.there (.there .here)))))))⟩
theorem zju (y : Int) : ∃ n : Nat, y % 12 = n ∧ n < 12 := ⟨(y % 12).toNat, by lia, by exact zkg (Int.emod_lt_of_pos _ (by decide)) (by decide)⟩
theorem c_38 {y : Int} (H : Hold σ (bled b ++ L)) (ok : OkE N b) (hN : N ≤ 1000) (hq : ∀ σ' b', b'.l = b.l → OkE (N + 1) b' → Hold σ' (bled b' ++ L) → Q .none σ') : zac tab (r+2) 38 [.ref b.l, .int y] σ B Q := by
 apply ztc
 unfold b38
 have h1 := H.sl
 have h2 := H.el
 replace H := H.to9
 obtain ⟨m, hm, hm'⟩ := zju y
 have hp := ok.np
 walk_at "lw"
 walk_at "lw"
 rw [hm]
 walk_at "lw"
 refine ⟨by decide, by decide, c_30 ?_⟩
 refine zai (n := 0) h1.l (i := 0) rfl rfl ?_
 refine zar h2.e (show getF _ 11 = some (.ref b.P) from rfl) ?_
 walk_at "lw"
 refine And.intro (.inl (zan h2.P)) ?_
 walk_at "lw"
 rw [za0 h2.P]
 walk_at "lw"
 refine ⟨rfl, by unfold zap; exact Nat.lt_of_le_of_lt hp (Nat.lt_of_le_of_lt hN (by decide)), ?_⟩
 obtain ⟨k1, k2⟩ := zhs (y / 5)
 generalize zgc (y / 5) = o at *
 replace H := H.up (u' := .list (b.ps ++ [.tup [.int m, .bytes o]])) (.there (.there (.there (.there (.there (.there .here))))))
 refine zai (n := 2) (H.nth 0 rfl) (i := 2) rfl rfl ?_
 walk_at "lw"
 refine And.intro (.inl (zan (H.nth 2 rfl))) ?_
 walk_at "lw"
 rw [za0 (H.nth 2 rfl)]
 walk_at "lw"
 refine ⟨rfl, by unfold zap; exact Nat.lt_of_le_of_lt hp (Nat.lt_of_le_of_lt hN (by decide)), _, .refl _, hq _ { b with ps := b.ps ++ [.tup [.int m, .bytes o]] } rfl ?_ (Hold.of9 (b := { b with ps := b.ps ++ [.tup [.int m, .bytes o]] }) (H.up (.there (.there .here))))⟩
 walk_at "lw"
 exact { ok.mono (Nat.le_succ N) with
  ps := zco ok.ps ⟨m, o, rfl, hm', k1, k2⟩
  np := by simp; exact hp }
theorem c_39 {y : Int} (H : Hold σ (bled b ++ L)) (ok : OkE N b) (hN : N ≤ 1000) (hq : ∀ σ' b', b'.l = b.l → OkE (N + 1) b' → Hold σ' (bled b' ++ L) → Q .none σ') : zac tab (r+2) 39 [.ref b.l, .int y] σ B Q := by
 apply ztb
 unfold b39
 have h1 := H.sl
 have h2 := H.el
 replace H := H.to9
 obtain ⟨m, hm, hm'⟩ := zju y
 have hp := ok.nd
 have he := ok.eds
 walk_at "lw"
 walk_at "lw"
 rw [hm]
 walk_at "lw"
 refine ⟨by decide, by decide, c_27 ?_⟩
 refine zai (n := 0) h1.l (i := 0) rfl rfl ?_
 refine zar h2.e (show getF _ 12 = some (.ref b.D) from rfl) ?_
 walk_at "lw"
 refine And.intro (.inl (zan h2.D)) ?_
 walk_at "lw"
 rw [za0 h2.D]
 walk_at "lw"
 refine ⟨rfl, by rw [he]; unfold zap; exact Nat.lt_of_le_of_lt hp (Nat.lt_of_le_of_lt hN (by decide)), ?_⟩
 obtain ⟨w, hw, hw'⟩ := zc4 (y / 12)
 have hw2 : wide (y / 12) = w := by injection hw
 walk_at "lw"
 rw [hw2]
 replace H := H.up (u' := .list (b.eds ++ [.tup [.int m, .int w]])) (.there (.there (.there (.there (.there (.there (.there .here)))))))
 refine zai (n := 3) (H.nth 0 rfl) (i := 3) rfl rfl ?_
 walk_at "lw"
 refine And.intro (.inl (zan (H.nth 3 rfl))) ?_
 walk_at "lw"
 rw [za0 (H.nth 3 rfl)]
 walk_at "lw"
 refine ⟨rfl, by unfold zap; exact Nat.lt_of_le_of_lt hp (Nat.lt_of_le_of_lt hN (by decide)), _, .refl _, hq _ { b with ds := b.ds ++ [.tup [.int m, .int w]], eds := b.eds ++ [.tup [.int m, .int w]] } rfl ?_ (Hold.of9 (b := { b with ds := b.ds ++ [.tup [.int m, .int w]], eds := b.eds ++ [.tup [.int m, .int w]] }) (H.up (.there (.there (.there .here)))))⟩
 walk_at "lw"
 exact { ok.mono (Nat.le_succ N) with
  ds := zco ok.ds ⟨m, w, rfl, hm', hw'⟩
  eds := by rw [he]
  nd := by simp; exact hp }
theorem c_40 {y : Int} (H : Hold σ (bled b ++ L)) (ok : OkE N b) (hN : N ≤ 1000) (hq : ∀ σ' b', b'.l = b.l → OkE (N + 1) b' → Hold σ' (bled b' ++ L) → Q .none σ') : zac tab (r+2) 40 [.ref b.l, .int y] σ B Q := by
 refine zta ?_
 replace H := H.to9
 obtain ⟨m, hm, hm'⟩ := zju y
 have hp := ok.nf
 refine And.intro (by decide) (c_27 ⟨by decide, c_27 ⟨by decide, c_30 ⟨by decide, c_30 ?_⟩⟩⟩)
 intro ro hro
 have k1 := zc4 (y / 12)
 have k2 := zc4 (y / 5)
 have k3 := zc6 (y / 3)
 have k4 := zc6 (y / 7)
 generalize Va.int (wide (y / 12)) = v1 at *
 generalize Va.int (wide (y / 5)) = v2 at *
 generalize Va.bytes (zgc (y / 3)) = v3 at *
 generalize Va.bytes (zgc (y / 7)) = v4 at *
 replace H := H.new hro (.list [v1, v2, v3, v4])
 refine zai (H.nth 0 rfl) (i := 0) rfl rfl (zai (H.nth 0 rfl) (i := 1) rfl rfl (zai (H.nth 0 rfl) (i := 2) rfl rfl (zai (H.nth 0 rfl) (i := 3) rfl rfl fun me hme => ?_)))
 replace H := H.new hme (.inst 17 [])
 refine c_219 (H.nth 0 rfl) ⟨rfl, ?_⟩
 replace H := H.set (.inst 17 [(3, v1), (4, v2), (5, v3), (6, v4)])
 have g0 := H.nth 2 rfl
 have g5 := H.nth 7 rfl
 have g8 := H.nth 10 rfl
 refine zai (n := 0) g0 (i := 0) rfl rfl ?_
 refine zar g5 (show getF _ 13 = some (.ref b.A) from rfl) ?_
 walk_at "lw"
 rw [zan g8]
 walk_at "lw"
 rw [hm]
 walk_at "lw"
 rw [za0 g8]
 walk_at "lw"
 refine ⟨.inl (by trivial), by decide, rfl, by simp [zap]; exact Nat.lt_of_le_of_lt hp (Nat.lt_of_le_of_lt hN (by decide)), ?_⟩
 replace H := H.up (u' := .list (b.fs.map FB.ea ++ [.tup [.int m, .ref me]])) (.there (.there (.there (.there (.there (.there (.there (.there (.there (.there .here))))))))))
 have g0 := H.nth 2 rfl
 have g4 := H.nth 6 rfl
 refine zai (n := 4) g0 (i := 4) rfl rfl ?_
 walk_at "lw"
 rw [zan g4]
 walk_at "lw"
 refine ⟨.inl (by trivial), by decide, ?_⟩
 intro pr hpr
 replace H := H.new hpr (.list [.ref me, .ref ro])
 have g4 := H.nth 7 rfl
 walk_at "lw"
 rw [hm]
 walk_at "lw"
 refine And.intro (zan g4).symm (zbj g4 ⟨by simp [zap]; exact Nat.lt_of_le_of_lt hp (Nat.lt_of_le_of_lt hN (by decide)), _, .refl _, ?_⟩)
 replace H := H.up (u' := .list (b.fs.map FB.sa ++ [.tup [.int m, .ref pr]])) (.there (.there (.there (.there (.there (.there (.there .here)))))))
 refine hq _ { b with fs := b.fs ++ [⟨pr, me, ro, m, v1, v2, v3, v4⟩] } rfl ?_ (H.perm (zpc (b := b) (f := ⟨pr, me, ro, m, v1, v2, v3, v4⟩)))
 ·walk_at "lw"
  exact { ok.mono (Nat.le_succ N) with
   fs := zco ok.fs ⟨hm', k1, k2, k3, k4⟩
   nf := by simp; exact hp }
end
end
section
noncomputable def FB.set (f : FB) (i : Nat) (v : Va) : FB := match i with
 | 0 => { f with n := v }
 | 1 => { f with s := v }
 | 2 => { f with lo := v }
 | _ => { f with hi := v }
noncomputable def FB.get (f : FB) (i : Nat) : Va := match i with
 | 0 => f.n
 | 1 => f.s
 | 2 => f.lo
 | _ => f.hi
noncomputable def fOk (i : Nat) (v : Va) : Prop := match i with
 | 0 => Num v
 | 1 => Num v
 | _ => Key v
theorem OkF.set {f : FB} {i : Nat} {v : Va} (h : OkF f) (hi : i < 4) (hv : fOk i v) : OkF (f.set i v) := by
 rcases four hi with rfl | rfl | rfl | rfl
 ·exact { h with n := hv }
 ·exact { h with s := hv }
 ·exact { h with lo := hv }
 ·exact { h with hi := hv }
theorem FB.set_same {f : FB} {i : Nat} {v : Va} : (f.set i v).pr = f.pr ∧ (f.set i v).me = f.me ∧ (f.set i v).ro = f.ro ∧ (f.set i v).lv = f.lv := by unfold FB.set; split <;> exact ⟨rfl, rfl, rfl, rfl⟩
theorem FB.set_set {f : FB} {i : Nat} {v w : Va} (hi : i < 4) : (f.set i v).set i w = f.set i w := by rcases four hi with rfl | rfl | rfl | rfl <;> rfl
theorem FB.set_get {f : FB} {i : Nat} (hi : i < 4) : f.set i (f.get i) = f := by rcases four hi with rfl | rfl | rfl | rfl <;> rfl
theorem zmv {b : EB} {i : Nat} {v w : Va} (hi : i < 4) : (b.setW i v).setW i w = b.setW i w := by rcases four hi with rfl | rfl | rfl | rfl <;> rfl
theorem zmw {b : EB} {i : Nat} (hi : i < 4) : b.setW i (b.getW i) = b := by rcases four hi with rfl | rfl | rfl | rfl <;> rfl
theorem zb1 {α : Type} {l : List α} {k : Nat} (h : k < l.length) : Ex2 fun l1 l2 => l = l1 ++ l[k] :: l2 ∧ l1.length = k := ⟨l.take k, l.drop (k + 1), by rw [← List.drop_eq_getElem_cons h, List.take_append_drop], by simp; lia -abstractProof⟩
theorem zge {α β : Type} {f : α → β} {l1 l2 : List α} {x y : α} {i : Nat} (h : l1.length = i) : ((l1 ++ x :: l2).map f).set i (f y) = (l1 ++ y :: l2).map f := by
 rw [List.map_append, List.map_append, List.set_append_right _ _ (by rw [List.length_map, h]; exact Nat.le_refl _), List.length_map, h, Nat.sub_self]
 rfl
theorem zi7 {b : EB} {L : Lg} {l1 l2 : List FB} {f : FB} (h : b.fs = l1 ++ f :: l2) : ∃ M : Lg, ∀ f' : FB, f'.pr = f.pr ∧ f'.me = f.me ∧ f'.ro = f.ro ∧ f'.lv = f.lv → (bled { b with fs := l1 ++ f' :: l2 } ++ L).Perm (fl3 f' ++ M) := by
 refine ⟨nine b ++ (fled l1 ++ (fled l2 ++ L)), fun f' ⟨e1, e2, e3, e4⟩ => ?_⟩
 have q : nine { b with fs := l1 ++ f' :: l2 } = nine b := by
  have s1 : f'.sa = f.sa := by unfold FB.sa; rw [e4, e1]
  have s2 : f'.ea = f.ea := by unfold FB.ea; rw [e4, e2]
  show zna b _ _ = zna b _ _
  rw [h, List.map_append, List.map_append, List.map_append, List.map_append, List.map_cons, List.map_cons, List.map_cons, List.map_cons, s1, s2]
 have p := nine_perm (b := { b with fs := l1 ++ f' :: l2 }) (L := L)
 rw [q] at p
 exact p.trans ((List.Perm.append_left _ (.append_right _ zhj)).trans (zf9 [nine b, fl3 f', fled l1, fled l2, L] (.a (.l 0) (.a (.r 1 [2, 3]) (.l 4))) (.r 1 [0, 2, 3, 4]) rfl))
theorem OkE.file {N : Nat} {b : EB} {l1 l2 : List FB} {f f' : FB} (h : OkE N b) (e : b.fs = l1 ++ f :: l2) (o : OkF f') : OkE N { b with fs := l1 ++ f' :: l2 } :=
 { h with
  fs := zd1 (e ▸ h.fs) o
  nf := by have := h.nf; rw [e] at this; simpa using this }
section
variable {r : Nat} {σ : Sto} {B : BP} {Q : QP} {N : Nat} {b : EB} {L : Lg} {f : FB}
theorem c_43 {v : Va} {i : Nat} (hi : i < 4) {n : Int} (hn : n = i) (H : Hold σ (fl3 f ++ L)) (hq : ∀ σ', Hold σ' (fl3 (f.set i v) ++ L) → Q .none σ') : zac tab (r+1) 43 [.ref f.pr, .int n, v] σ B Q := by
 subst hn
 refine zs7 ?_
 walk_at "lw"
 have h1 := H.nth 0 rfl
 have h2 := H.nth 1 rfl
 refine zai (n := 1) h1 (i := 1) rfl rfl ?_
 refine zbe h2 (by simp; exact hi) ?_
 rcases four hi with rfl | rfl | rfl | rfl
 ·replace H := H.up (u' := .list [v, f.s, f.lo, f.hi]) (.there .here)
  walk_at "lw"
  try rw [if_pos (by decide)]
  refine zai (n := 0) (H.nth 0 rfl) (i := 0) rfl rfl ?_
  refine zad (H.nth 2 rfl) ?_
  walk_at "lw"
  exact ⟨by simp, _, .refl _, hq _ (H.up (.there (.there .here)))⟩
 ·replace H := H.up (u' := .list [f.n, v, f.lo, f.hi]) (.there .here)
  walk_at "lw"
  try rw [if_neg (by decide)]
  walk_at "lw"
  try rw [if_pos (by decide)]
  refine zai (n := 0) (H.nth 0 rfl) (i := 0) rfl rfl ?_
  refine zad (H.nth 2 rfl) ?_
  walk_at "lw"
  exact ⟨by simp, _, .refl _, hq _ (H.up (.there (.there .here)))⟩
 ·replace H := H.up (u' := .list [f.n, f.s, v, f.hi]) (.there .here)
  walk_at "lw"
  try rw [if_neg (by decide)]
  walk_at "lw"
  try rw [if_neg (by decide)]
  walk_at "lw"
  try rw [if_pos (by decide)]
  refine zai (n := 0) (H.nth 0 rfl) (i := 0) rfl rfl ?_
  refine zad (H.nth 2 rfl) ?_
  walk_at "lw"
  exact ⟨by simp, _, .refl _, hq _ (H.up (.there (.there .here)))⟩
 ·replace H := H.up (u' := .list [f.n, f.s, f.lo, v]) (.there .here)
  walk_at "lw"
  try rw [if_neg (by decide)]
  walk_at "lw"
  try rw [if_neg (by decide)]
  walk_at "lw"
  try rw [if_neg (by decide)]
  refine zai (n := 0) (H.nth 0 rfl) (i := 0) rfl rfl ?_
  refine zad (H.nth 2 rfl) ?_
  walk_at "lw"
  exact ⟨by simp, _, .refl _, hq _ (H.up (.there (.there .here)))⟩
theorem zr6 {τ : Sto} (h : τ f.ro = some (.list [f.n, f.s, f.lo, f.hi])) {i : Nat} (hi : i < 4) {n : Int} (hn : n = i) {k : Va → Prop} : idxW τ (.ref f.ro) (.int n) k = k (f.get i) := by
 rcases four hi with rfl | rfl | rfl | rfl <;> exact ix h hn rfl
theorem zbs {y : Int} {n : Nat} (h : 0 < n) : ∃ k : Nat, y % (n : Int) = k ∧ k < n := ⟨(y % n).toNat, by have := Int.emod_nonneg y (b := n) (by lia -abstractProof); lia -abstractProof, by have := Int.emod_lt_of_pos y (b := n) (by exact Int.ofNat_lt.mpr h); have := Int.emod_nonneg y (b := n) (by lia -abstractProof); lia -abstractProof⟩
theorem c_44 {y : Int} (H : Hold σ (bled b ++ L)) (ok : OkE N b) (hN : N ≤ 1000) (hq : ∀ σ' b', b'.l = b.l → OkE N b' → Hold σ' (bled b' ++ L) → Q .none σ') : zac tab (r+3) 44 [.ref b.l, .int y] σ B Q := by
 refine zs6 ?_
 have nf := ok.nf
 have h1 := H.sl
 refine zai (n := 4) h1.l (i := 4) rfl rfl ?_
 refine za7 h1.m ?_
 walk_at "lw"
 by_cases hz : b.fs.length = 0
 ·refine zba (by simp [hz]) ?_
  exact zax (hq _ _ rfl ok H)
 refine zau (by simpa using hz) ?_
 refine zai (n := 4) h1.l (i := 4) rfl rfl ?_
 walk_at "lw"
 rw [ix (n := 4) h1.l (i := 4) rfl rfl]
 walk_at "lw"
 rw [zbn h1.m]
 walk_at "lw"
 rw [List.length_map]
 obtain ⟨k, hk, hk'⟩ := zbs (y := y / 4) (n := b.fs.length) (by exact Nat.pos_of_ne_zero hz)
 obtain ⟨i, hi, hi'⟩ := zbs (y := y) (n := 4) (by decide)
 walk_at "lw"
 rw [hk]
 walk_at "lw"
 rw [zbb h1.m (by exact Int.natCast_nonneg _) (by rw [Int.toNat_natCast]; exact getElem?_map_some hk')]
 have of := ok.fs _ (List.getElem_mem hk')
 have hpr := h1.pr (List.getElem_mem hk')
 have hro := h1.ro (List.getElem_mem hk')
 obtain ⟨l1, l2, e, _⟩ := zb1 hk'
 generalize b.fs[k] = f at *
 obtain ⟨M, hM⟩ := zi7 (L := L) e
 unfold FB.sa
 walk_at "lw"
 rw [zhy (by decide) (by decide) (show _ = some (.ref f.pr) from rfl)]
 walk_at "lw"
 have s43 : ∀ {r' : Nat} {v : Va}, fOk i v → zac tab (r' + 1) 43 [.ref f.pr, .int i, v] σ (ExB B) (fun _ => ExR Q .none) := fun {r' v} hv => by
  refine c_43 (f := f) hi' rfl (H.perm (by have := hM f ⟨rfl, rfl, rfl, rfl⟩; rwa [← e] at this)) fun σ' H' => ?_
  exact zax (hq _ { b with fs := l1 ++ f.set i v :: l2 } rfl (ok.file e (of.set hi' hv)) (H'.perm (hM _ FB.set_same).symm))
 walk_at "lw"
 refine ⟨by decide, ⟨by exact Int.ofNat_lt.mpr (Nat.pos_of_ne_zero hz), by lia -abstractProof⟩, ?_⟩
 walk_at "lw"
 rw [show y % 4 = (i : Int) from hi]
 refine And.intro (by decide) ?_
 have hro' : ∀ k, idxW σ (.ref f.pr) (.int 1) k = k (.ref f.ro) := fun k => ix (n := 1) hpr (i := 1) rfl rfl
 by_cases h2 : i < 2
 ·refine zba (by simp; exact Int.ofNat_lt.mpr h2) ?_
  walk_at "lw"
  rw [hro']
  walk_at "lw"
  rw [zr6 hro hi' rfl]
  have hg : Num (f.get i) ∧ ∀ v, Num v → fOk i v := by
   have : i = 0 ∨ i = 1 := by lia -abstractProof
   rcases this with rfl | rfl
   ·exact And.intro of.n (fun _ h => h)
   ·exact And.intro of.s (fun _ h => h)
  exact And.intro (by decide) (c_28 hg.1 fun v hv => s43 (hg.2 v hv))
 ·refine zau (by simp; exact Int.ofNat_le.mpr (Nat.not_lt.mp h2)) ?_
  walk_at "lw"
  rw [hro']
  walk_at "lw"
  rw [zr6 hro hi' rfl]
  have hg : Key (f.get i) ∧ ∀ v, Key v → fOk i v := by
   have : i = 2 ∨ i = 3 := by lia -abstractProof
   rcases this with rfl | rfl
   ·exact And.intro of.lo (fun _ h => h)
   ·exact And.intro of.hi (fun _ h => h)
  exact And.intro (by decide) (zi2 (.inr (let ⟨c, h, _⟩ := hg.1; ⟨c, h⟩)) fun v hv => s43 (hg.2 v hv))
end
end
section
section
variable {r : Nat} {σ : Sto} {B : BP} {Q : QP} {N : Nat} {b : EB} {L : Lg} {f : FB}
noncomputable def EB.lens (b : EB) (i : Nat) : Nat := match i with
 | 2 => b.ps.length
 | 3 => b.ds.length
 | _ => b.fs.length
theorem zkv (h1 : Has σ (sled b)) {i : Nat} (hi : 2 ≤ i ∧ i < 5) {n : Int} (hn : n = i) {k : Va → Prop} : idxW σ (.ref b.l) (.int n) (fun v => lenW σ v k) = k (.int (b.lens i)) := by
 have : i = 2 ∨ i = 3 ∨ i = 4 := by lia
 rcases this with rfl | rfl | rfl
 ·rw [ix h1.l hn (show _ = some (.ref b.p) from rfl), zbn h1.p]; rfl
 ·rw [ix h1.l hn (show _ = some (.ref b.d) from rfl), zbn h1.d]; rfl
 ·rw [ix h1.l hn (show _ = some (.ref b.m) from rfl), zbn h1.m, List.length_map]; rfl
theorem zce {α : Type} {l1 l2 : List α} {x : α} {k : Nat} (h : l1.length = k) : (l1 ++ x :: l2).eraseIdx k = l1 ++ l2 := by
 subst h
 induction l1 with
 | nil => rfl
 | cons a l ih => simpa using ih
theorem c_41 {y : Int} (H : Hold σ (bled b ++ L)) (ok : OkE N b) (hN : N ≤ 1000) (hq : ∀ σ' b', b'.l = b.l → OkE N b' → Hold σ' (bled b' ++ L) → Q .none σ') : zac tab (r+1) 41 [.ref b.l, .int y] σ B Q := by
 refine zs9 ?_
 have nf := ok.nf
 have np := ok.np
 have nd := ok.nd
 have he := ok.eds
 have h1 := H.sl
 have h2 := H.el
 refine asgP (fun v τ => Ex2 fun (a : Addr) (ks : List Va) => A5 (v = .ref a) (τ a = some (.list ks)) (ks.length ≤ 3) ((∀ x ∈ ks, ∃ (i : Nat), A3 (x = .int i) ((2 ≤ i ∧ i < 5)) (b.lens i ≠ 0))) (Hold τ (bled b ++ L))) (fun Q h => ?_) ?_
 ·refine And.intro (by decide) ?_
  refine zbi (N := 3) (fun m s => s.1 = σ ∧ s.2.length ≤ m ∧ ∀ x ∈ s.2, ∃ (i : Nat), A3 (x = .int i) ((2 ≤ i ∧ i < 5)) (b.lens i ≠ 0)) ?_ ?_ ⟨rfl, Nat.le_refl _, fun x hx => nomatch hx⟩
  ·rintro m ⟨τ, ks⟩ K hm ⟨rfl, hl, hks⟩ hk
   walk_at "lw"
   refine ⟨.int (2 + m), by simp [za2]; lia, ?_⟩
   walk_at "lw"
   simp only [zem, asP, zfs]
   walk_at "lw"
   rw [zkv h1 (i := 2 + m) (by exact ⟨(Nat.le_add_right _ _), (Nat.add_lt_add_left hm 2)⟩) (by lia)]
   refine zav (fun z => ?_) fun z => hk _ ⟨rfl, by simp at hl ⊢; exact Nat.le_trans hl (Nat.le_add_right _ _), hks⟩
   have z' := of_decide_eq_true z
   refine And.intro (by simp [zap]; simp at hl; exact Nat.lt_of_le_of_lt hl (Nat.lt_of_lt_of_le hm (by decide))) (hk _ ⟨rfl, by simp at hl ⊢; exact hl, fun x hx => ?_⟩)
   exact zco (P := fun x => ∃ (i : Nat), A3 (x = Va.int i) ((2 ≤ i ∧ i < 5)) (b.lens i ≠ 0)) hks ⟨2 + m, by simp, by exact ⟨(Nat.le_add_right _ _), (Nat.add_lt_add_left hm 2)⟩, by lia⟩ x hx
  ·rintro ⟨τ, ks⟩ ⟨rfl, hl, hks⟩
   refine And.intro (by simp [za2]) (fun a ha => ?_)
   exact h _ _ ⟨a, ks, rfl, Sto.set_self, hl, hks, H.le (Sto.le_set ha)⟩
 rintro _ τ ⟨a, ks, rfl, hka, hkl, hks, H⟩
 have h1 := H.sl
 have h2 := H.el
 walk_at "lw"
 refine zb9 hka ?_
 walk_at "lw"
 by_cases hz : ks.length = 0
 ·refine zba (by simp [hz]) ?_
  exact zax (hq _ _ rfl ok H)
 refine zau (by simpa using hz) ?_
 walk_at "lw"
 refine zb9 hka ?_
 obtain ⟨k, hk, hk'⟩ := zbs (y := y) (n := ks.length) (by exact Nat.pos_of_ne_zero hz)
 walk_at "lw"
 rw [hk]
 walk_at "lw"
 rw [zbb hka (by exact Int.natCast_nonneg _) (by rw [Int.toNat_natCast, List.getElem?_eq_getElem hk'])]
 obtain ⟨i, hi, hi', hne⟩ := hks _ (List.getElem_mem hk')
 walk_at "lw"
 refine ⟨⟨by exact Int.ofNat_lt.mpr (Nat.pos_of_ne_zero hz), by lia⟩, by decide, ?_⟩
 walk_at "lw"
 rw [hi]
 walk_at "lw"
 rw [zkv h1 hi' rfl]
 obtain ⟨j, hj, hj'⟩ := zbs (y := y / 3) (n := b.lens i) (by exact Nat.pos_of_ne_zero hne)
 have hlen : b.lens i ≤ 1000 := by unfold EB.lens; split <;> lia
 walk_at "lw"
 rw [hj]
 refine And.intro ⟨by exact Int.ofNat_lt.mpr (Nat.pos_of_ne_zero hne), by lia⟩ ?_
 have h3 : i = 2 ∨ i = 3 ∨ i = 4 := by lia
 rcases h3 with rfl | rfl | rfl
 ·have hj2 : j < b.ps.length := hj'
  replace H := H.to9
  refine zai (n := ((2 : Nat) : Int)) h1.l (i := 2) rfl rfl ?_
  walk_at "lw"
  refine And.intro (zan h1.p) (zdc h1.p (List.getElem?_eq_getElem hj2) ?_)
  replace H := H.up (u' := .list (b.ps.eraseIdx j)) (.there (.there .here))
  have gP := H.nth 6 rfl
  walk_at "lw"
  try rw [if_pos (by decide)]
  refine zai (n := 0) (H.nth 0 rfl) (i := 0) rfl rfl ?_
  refine zar (H.nth 5 rfl) (show getF _ 11 = some (.ref b.P) from rfl) ?_
  walk_at "lw"
  refine And.intro (zan gP) (zdc gP (by rw [List.getElem?_eq_getElem hj2]) (zax (hq _ { b with ps := b.ps.eraseIdx j } rfl ?_ (Hold.of9 (b := { b with ps := b.ps.eraseIdx j }) (H.up (.there (.there (.there (.there (.there (.there .here)))))))))))
  walk_at "lw"
  exact { ok with ps := fun x hx => ok.ps x (List.mem_of_mem_eraseIdx hx), np := by have := List.length_eraseIdx_le b.ps j; show (b.ps.eraseIdx j).length ≤ N; exact Nat.le_trans this np }
 ·have hj2 : j < b.ds.length := hj'
  replace H := H.to9
  refine zai (n := ((3 : Nat) : Int)) h1.l (i := 3) rfl rfl ?_
  walk_at "lw"
  refine And.intro (zan h1.d) (zdc h1.d (List.getElem?_eq_getElem hj2) ?_)
  replace H := H.up (u' := .list (b.ds.eraseIdx j)) (.there (.there (.there .here)))
  have gP := H.nth 7 rfl
  walk_at "lw"
  try rw [if_neg (by decide)]
  walk_at "lw"
  try rw [if_pos (by decide)]
  refine zai (n := 0) (H.nth 0 rfl) (i := 0) rfl rfl ?_
  refine zar (H.nth 5 rfl) (show getF _ 12 = some (.ref b.D) from rfl) ?_
  walk_at "lw"
  refine And.intro (zan gP) (zdc gP (by rw [he, List.getElem?_eq_getElem hj2]) (zax (hq _ { b with ds := b.ds.eraseIdx j, eds := b.eds.eraseIdx j } rfl ?_ (Hold.of9 (b := { b with ds := b.ds.eraseIdx j, eds := b.eds.eraseIdx j }) (H.up (.there (.there (.there (.there (.there (.there (.there .here))))))))))))
  walk_at "lw"
  exact { ok with ds := fun x hx => ok.ds x (List.mem_of_mem_eraseIdx hx), eds := by rw [he], nd := by have := List.length_eraseIdx_le b.ds j; show (b.ds.eraseIdx j).length ≤ N; exact Nat.le_trans this nd }
 ·have hj2 : j < b.fs.length := hj'
  obtain ⟨l1, l2, e, hl1⟩ := zb1 hj2
  generalize b.fs[j] = f at e
  replace H := H.to9
  have e1 : (b.fs.map FB.sa).eraseIdx j = (l1 ++ l2).map FB.sa := by rw [e, List.map_append, List.map_cons, zce (by simpa using hl1), List.map_append]
  have e2 : (b.fs.map FB.ea).eraseIdx j = (l1 ++ l2).map FB.ea := by rw [e, List.map_append, List.map_cons, zce (by simpa using hl1), List.map_append]
  refine zai (n := ((4 : Nat) : Int)) h1.l (i := 4) rfl rfl ?_
  walk_at "lw"
  rw [zan h1.m]
  walk_at "lw"
  rw [zf8 h1.m (by exact Int.natCast_nonneg _) (by rw [Int.toNat_natCast]; exact getElem?_map_some hj2)]
  walk_at "lw"
  try rw [if_neg (by decide)]
  walk_at "lw"
  try rw [if_neg (by decide)]
  walk_at "lw"
  rw [Int.toNat_natCast]
  walk_at "lw"
  rw [e1]
  refine And.intro rfl ?_
  replace H := H.up (u' := .list ((l1 ++ l2).map FB.sa)) (.there (.there (.there (.there .here))))
  have gP := H.nth 8 rfl
  walk_at "lw"
  try rw [if_neg (by decide)]
  walk_at "lw"
  try rw [if_neg (by decide)]
  refine zai (n := 0) (H.nth 0 rfl) (i := 0) rfl rfl ?_
  refine zar (H.nth 5 rfl) (show getF _ 13 = some (.ref b.A) from rfl) ?_
  walk_at "lw"
  rw [zan gP]
  walk_at "lw"
  rw [zf8 gP (by exact Int.natCast_nonneg _) (by rw [Int.toNat_natCast]; exact getElem?_map_some hj2)]
  walk_at "lw"
  rw [Int.toNat_natCast]
  walk_at "lw"
  rw [e2]
  replace H := H.up (u' := .list ((l1 ++ l2).map FB.ea)) (.there (.there (.there (.there (.there (.there (.there (.there .here))))))))
  walk_at "lw"
  refine ⟨rfl, _, .refl _, hq _ { b with fs := l1 ++ l2 } rfl ?_ ?_⟩
  ·walk_at "lw"
   exact { ok with
    fs := zom (e ▸ ok.fs)
    nf := by rw [e] at nf; simp at nf ⊢; exact Nat.le_trans (Nat.add_le_add_left (Nat.le_add_right _ _) _) nf }
  ·exact Hold.sub (H.perm (zm9 e)) (List.sublist_append_right _ _)
theorem c_42 {y : Int} (H : Hold σ (bled b ++ L)) (ok : OkE N b) (hN : N ≤ 1000) (hq : ∀ σ' b', b'.l = b.l → OkE N b' → Hold σ' (bled b' ++ L) → Q .none σ') : zac tab (r+3) 42 [.ref b.l, .int y] σ B Q := by
 refine zs8 ?_
 refine iteP (b := decide (0 < b.ps.length)) (fun ρ' σ' => Ex3 fun (b' : EB) (x z : Option Va) => A4 (ρ' = [some (.ref b'.l), some (.int y), x, z]) (b'.l = b.l) (OkE N b') (Hold σ' (bled b' ++ L))) (fun Q h => ?_) (fun hp N' hn => ?_) (fun _ N' hn => ?_) ?_
 ·have h1 := H.sl
  refine zai (n := 2) h1.l (i := 2) rfl rfl ?_
  refine zb9 h1.p ?_
  walk_at "lw"
  rw [show decide ((0 : Int) < (b.ps.length : Int)) = decide (0 < b.ps.length) from decide_eq_decide.mpr (by exact Int.natCast_pos)]
  exact h
 ·have h1 := H.sl
  have hp := of_decide_eq_true hp
  have np := ok.np
  obtain ⟨k, hk, hk'⟩ := zbs (y := y) (n := b.ps.length) hp
  obtain ⟨l, c, e, hl, _⟩ := ok.ps _ (List.getElem_mem hk')
  refine zai (n := 2) h1.l (i := 2) rfl rfl ?_
  refine zb9 h1.p ?_
  refine And.intro ⟨by exact Int.ofNat_lt.mpr hp, by lia⟩ ?_
  walk_at "lw"
  rw [hk]
  refine zai (n := 2) h1.l (i := 2) rfl rfl ?_
  refine ziv h1.p (by exact Int.natCast_nonneg _) (by rw [Int.toNat_natCast, List.getElem?_eq_getElem hk', e]) ?_
  refine zbw (by decide) (by decide) (show _ = some (.int l) from rfl) ?_
  walk_at "lw"
  refine ⟨by decide, by decide, by decide, by decide, c_30 ?_⟩
  refine zai (n := 2) h1.l (i := 2) rfl rfl ?_
  refine zbe h1.p (by exact hk') ?_
  obtain ⟨m, hm, hm'⟩ := zju ((l : Int) + 1 + y / 3 % 11)
  obtain ⟨o1, o2⟩ := zhs (y / 4)
  generalize zgc (y / 4) = o at *
  walk_at "lw"
  rw [hm]
  replace H := H.to9
  replace H := H.up (u' := .list (b.ps.set k (.tup [.int m, .bytes o]))) (.there (.there .here))
  refine zai (n := 0) (H.nth 0 rfl) (i := 0) rfl rfl ?_
  refine zar (H.nth 5 rfl) (show getF _ 11 = some (.ref b.P) from rfl) ?_
  refine zbe (H.nth 6 rfl) (by exact hk') ?_
  refine hn _ _ ⟨{ b with ps := b.ps.set k (.tup [.int m, .bytes o]) }, _, _, rfl, rfl, ?_, Hold.of9 (b := { b with ps := b.ps.set k (.tup [.int m, .bytes o]) }) (H.up (.there (.there (.there (.there (.there (.there .here)))))))⟩
  walk_at "lw"
  exact { ok with
   ps := fun x hx => by
    rcases List.mem_or_eq_of_mem_set hx with q | rfl
    ·exact ok.ps x q
    ·walk_at "lw"
     exact ⟨m, o, rfl, hm', o1, o2⟩
   np := by simpa using np }
 ·exact hn _ _ ⟨b, _, _, rfl, rfl, ok, H⟩
 rintro _ σ1 ⟨b1, x, z, rfl, hl, ok, H⟩
 refine iteP (b := decide (0 < b1.ds.length)) (fun ρ' σ' => ∃ (b' : EB), A3 (b'.l = b.l) (OkE N b') (Hold σ' (bled b' ++ L))) (fun Q h => ?_) (fun hp N' hn => ?_) (fun _ N' hn => ?_) ?_
 ·have h1 := H.sl
  refine zai (n := 3) h1.l (i := 3) rfl rfl ?_
  refine zb9 h1.d ?_
  walk_at "lw"
  rw [show decide ((0 : Int) < (b1.ds.length : Int)) = decide (0 < b1.ds.length) from decide_eq_decide.mpr (by exact Int.natCast_pos)]
  exact h
 ·have h1 := H.sl
  have hp := of_decide_eq_true hp
  have np := ok.nd
  have he := ok.eds
  obtain ⟨k, hk, hk'⟩ := zbs (y := y) (n := b1.ds.length) hp
  obtain ⟨l, c, e, hll, hc⟩ := ok.ds _ (List.getElem_mem hk')
  refine zai (n := 3) h1.l (i := 3) rfl rfl ?_
  refine zb9 h1.d ?_
  walk_at "lw"
  have ga : ∀ {kk : Va → Prop}, idxW σ1 (.ref b1.d) (.int k) kk = kk (.tup [.int l, .int c]) := fun {kk} => zbb h1.d (by exact Int.natCast_nonneg _) (by rw [Int.toNat_natCast, List.getElem?_eq_getElem hk', e])
  refine And.intro ⟨by exact Int.ofNat_lt.mpr hp, by lia⟩ ?_
  walk_at "lw"
  rw [hk]
  refine zai (n := 3) h1.l (i := 3) rfl rfl ?_
  walk_at "lw"
  rw [ga]
  refine zbw (by decide) (by decide) (show _ = some (.int l) from rfl) ?_
  refine zai (n := 3) h1.l (i := 3) rfl rfl ?_
  walk_at "lw"
  rw [ga]
  refine zbw (by decide) (by decide) (show _ = some (.int c) from rfl) ?_
  refine And.intro (by decide) ?_
  refine c_28 ⟨c, rfl, hc⟩ fun v hv => ?_
  obtain ⟨w, rfl, hw⟩ := hv
  refine zai (n := 3) h1.l (i := 3) rfl rfl ?_
  refine zbe h1.d (by exact hk') ?_
  replace H := H.to9
  replace H := H.up (u' := .list (b1.ds.set k (.tup [.int l, .int w]))) (.there (.there (.there .here)))
  refine zai (n := 0) (H.nth 0 rfl) (i := 0) rfl rfl ?_
  refine zar (H.nth 5 rfl) (show getF _ 12 = some (.ref b1.D) from rfl) ?_
  refine zbe (H.nth 7 rfl) (by rw [he]; exact hk') ?_
  refine hn _ _ ⟨{ b1 with ds := b1.ds.set k (.tup [.int l, .int w]), eds := b1.eds.set k (.tup [.int l, .int w]) }, hl, ?_, Hold.of9 (b := { b1 with ds := b1.ds.set k (.tup [.int l, .int w]), eds := b1.eds.set k (.tup [.int l, .int w]) }) (H.up (.there (.there (.there (.there (.there (.there (.there .here))))))))⟩
  walk_at "lw"
  exact { ok with
   ds := fun x hx => by
    rcases List.mem_or_eq_of_mem_set hx with q | rfl
    ·exact ok.ds x q
    ·walk_at "lw"
     exact ⟨l, w, rfl, hll, hw⟩
   eds := by rw [he]
   nd := by simpa using np }
 ·exact hn _ _ ⟨b1, hl, ok, H⟩
 rintro ρ' σ' ⟨b', hl', ok', H'⟩
 exact zax (hq _ b' hl' ok' H')
end
end
section
theorem zcf : ∀ {l : List Oc}, none ∈ l → cat l = none
 | [], h => nomatch h
 | none :: l, _ => rfl
 | some a :: l, h => by
  cases h with
  | tail _ h => simp only [cat, zcf h, Option.map_none]
theorem ze3 {n : Int} (h : n < 0 ∨ 18446744073709551615 < n) : cI (.int n) = none := by simp only [cI]; rw [if_neg (by lia -abstractProof)]
theorem cX_far {n : Int} (h : n < 0 ∨ 4294967295 < n) : cX (.int n) = none := by simp only [cX]; rw [if_neg (by lia -abstractProof)]
theorem zr8 {σ : Sto} {a : Addr} {vs : List Va} {w : Va} {kk : Va → Sto → Prop} (h : σ a = some (.list (vs ++ [w]))) : popW σ (.ref a) kk = kk w (σ.set a (.list vs)) :=
 propext ⟨fun ⟨_, _, _, e1, e2, e3, hk⟩ => by cases e1; rw [h] at e2; cases e2; rw [List.getLast?_concat] at e3; cases e3; rwa [List.dropLast_concat] at hk, fun hk => ⟨_, _, _, rfl, h, List.getLast?_concat, by rwa [List.dropLast_concat]⟩⟩
noncomputable def EB.two (b : EB) (x : Va) : EB := { b with eds := b.eds ++ [x] }
section
variable {r : Nat} {σ : Sto} {B : BP} {Q : QP} {N : Nat} {b : EB} {g : MB} {L : Lg} {f : FB}
theorem c_45 (H : Has σ (eled b)) (ty : TyE b) (hc : cat (chE b) = none) (hq : Q (.bool true) σ) : zac tab (r+5) 45 [.ref b.e] σ B Q := by
 refine zn6 ?_
 refine zay H.e (show mth 18 6 = some 223 from rfl) ?_
 exact zn9 H ty (fun _ => ⟨σ, .refl σ, hq⟩) fun c h => by rw [hc] at h; cases h
theorem zty (H : Has σ (mled g)) (ty : TyM g) (hc : cat (chM g) = none) (hq : Q (.bool true) σ) : zac tab (r+5) 45 [.ref g.m] σ B Q := by
 refine zn6 ?_
 refine zay H.gm (show mth 24 6 = some 229 from rfl) ?_
 exact zql H ty (fun _ => ⟨σ, .refl σ, hq⟩) fun c h => by rw [hc] at h; cases h
theorem ztz {y : Int} (h0 : 0 ≤ y) (h1 : y < 100000000) (hq : ∀ n, (n < 0 ∨ 18446744073709551615 < n) → -(2 ^ 80) < n ∧ n < 2 ^ 80 → Q (.int n) σ) : zac tab (r+1) 29 [.int y] σ B Q :=
 c_29 fun n _ h3 h4 h5 => hq n (by lia -abstractProof) (by lia -abstractProof)
theorem zjv {α : Type} {l1 l2 : List α} {x : α} : x ∈ l1 ++ x :: l2 := List.mem_append_right _ (.head _)
theorem znu {t : UInt8} {far : Int} (hf : far < 0 ∨ 18446744073709551615 < far) : none ∈ cW t cI (.int far) := .tail _ (ze3 hf ▸ .head _)
theorem zpk {i : Nat} {far : Int} (ok : OkE N b) (hN : N ≤ 60) (hi : 1 ≤ i ∧ i < 4) (hf : far < 0 ∨ 18446744073709551615 < far) (hf' : -(2 ^ 80) < far ∧ far < 2 ^ 80) : TyE (b.setW i (.int far)) ∧ cat (chE (b.setW i (.int far))) = none := by
 have t := ok.ty hN
 have : i = 1 ∨ i = 2 ∨ i = 3 := by lia -abstractProof
 rcases this with rfl | rfl | rfl
 ·exact ⟨{ t with w1 := .inr ⟨far, rfl, hf'⟩ }, zcf (List.mem_append_right _ (List.mem_append_right _ (List.mem_append_left _ (znu hf))))⟩
 ·exact ⟨{ t with w2 := .inr ⟨far, rfl, hf'⟩ }, zcf (List.mem_append_right _ (List.mem_append_right _ (List.mem_append_right _ (List.mem_append_left _ (znu hf)))))⟩
 ·exact ⟨{ t with w3 := .inr ⟨far, rfl, hf'⟩ }, zcf (List.mem_append_right _ (List.mem_append_right _ (List.mem_append_right _ (List.mem_append_right _ (List.mem_append_left _ (znu hf))))))⟩
theorem zsk {far : Int} {m : Nat} (ok : OkE N b) (hN : N ≤ 59) (hm : m < 12) (hf : far < 0 ∨ 18446744073709551615 < far) (hf' : -(2 ^ 80) < far ∧ far < 2 ^ 80) : TyE (b.two (.tup [.int m, .int far])) ∧ cat (chE (b.two (.tup [.int m, .int far]))) = none := by
 have t := ok.ty (by exact Nat.le_trans hN (by decide))
 have nd := ok.nd
 have hc : none ∈ cD (.tup [.int m, .int far]) := .tail _ (.tail _ (ze3 hf ▸ .head _))
 refine ⟨{ t with ds := zco t.ds ⟨_, _, rfl, .nat (by exact Nat.le_of_lt (Nat.lt_of_lt_of_le hm (by decide))), far, rfl, hf'⟩, nd := ?_ }, zcf (List.mem_append_right _ (List.mem_append_right _ (List.mem_append_right _ (List.mem_append_right _ (List.mem_append_right _ (List.mem_append_right _ (List.mem_append_left _ (List.mem_flatMap.mpr ⟨_, zjv, hc⟩))))))))⟩
 ·show (b.eds ++ [_]).length ≤ 60
  rw [ok.eds]; simp; exact Nat.le_trans nd hN
theorem zpm {far : Int} {i : Nat} {l1 l2 : List FB} (ok : OkE N b) (hN : N ≤ 60) (e : b.fs = l1 ++ f :: l2) (hi : i < 2) (hf : far < 0 ∨ 18446744073709551615 < far) (hf' : -(2 ^ 80) < far ∧ far < 2 ^ 80) :
  TyE { b with fs := l1 ++ f.set i (.int far) :: l2 } ∧ cat (chE { b with fs := l1 ++ f.set i (.int far) :: l2 }) = none := by
 have t := ok.ty hN
 have tf := t.fs f (by rw [e]; simp)
 have ty : TyF (f.set i (.int far)) := by
  have : i = 0 ∨ i = 1 := by lia -abstractProof
  rcases this with rfl | rfl
  ·exact { tf with n := ⟨far, rfl, hf'⟩ }
  ·exact { tf with s := ⟨far, rfl, hf'⟩ }
 have hc : none ∈ cF (f.set i (.int far)) := by
  have : i = 0 ∨ i = 1 := by lia -abstractProof
  rcases this with rfl | rfl
  ·exact .tail _ (.tail _ (ze3 hf ▸ .head _))
  ·exact .tail _ (.tail _ (.tail _ (ze3 hf ▸ .head _)))
 refine ⟨{ t with fs := fun x hx => ?_, nf := by have := t.nf; rw [e] at this; simpa using this }, zcf ?_⟩
 ·exact zd1 (e ▸ t.fs) ty x hx
 ·have : none ∈ (l1 ++ f.set i (.int far) :: l2).flatMap cF := List.mem_flatMap.mpr ⟨_, zjv, hc⟩
  unfold chE
  exact List.mem_append_right _ (List.mem_append_right _ (List.mem_append_right _ (List.mem_append_right _ (List.mem_append_right _ (List.mem_append_right _ (List.mem_append_right _ this))))))
theorem c_46 {y : Int} (h0 : 0 ≤ y) (hy : y < 100000000) (H : Hold σ (bled b ++ L)) (ok : OkE N b) (hN : N ≤ 59) (hq : ∀ σ', Hold σ' (bled b ++ L) → Q (.bool true) σ') : zac tab (r+6) 46 [.ref b.l, .int y] σ B Q := by
 refine zs5 ?_
 have nf := ok.nf
 have nd := ok.nd
 have he := ok.eds
 walk_at "lw"
 refine ⟨by decide, by decide, ztz (by exact Int.ediv_nonneg h0 (by decide)) (by exact Int.lt_of_le_of_lt (Int.ediv_le_self _ h0) hy) fun far hf hf' => ?_⟩
 obtain ⟨i, hi, hi'⟩ : ∃ i : Nat, 1 + y % 3 = i ∧ (1 ≤ i ∧ i < 4) := ⟨(1 + y % 3).toNat, by lia -abstractProof, by lia -abstractProof⟩
 have h1 := H.sl
 walk_at "lw"
 rw [hi]
 refine zai (n := 1) h1.l (i := 1) rfl rfl ?_
 walk_at "lw"
 rw [w_at h1 hi'.2 rfl]
 refine c_36 hi'.2 rfl H fun σ1 H1 => ?_
 obtain ⟨t1, k1⟩ := zpk ok (by exact Nat.le_trans hN (by decide)) hi' hf hf'
 refine zai (n := 0) (by have := H1.sl.l; rwa [setW_l, zq2] at this) (i := 0) rfl (show _ = some (.ref (b.setW i (.int far)).e) by rw [zq2]; rfl) ?_
 refine c_45 H1.el t1 k1 ?_
 walk_at "lw"
 rw [show b.l = (b.setW i (.int far)).l from setW_l.symm]
 refine c_36 hi'.2 rfl H1 fun σ2 H2 => ?_
 rw [zmv hi'.2, zmw hi'.2] at H2
 walk_at "lw"
 rw [setW_l]
 -- the deletion
 have h1 := H2.sl
 have h2 := H2.el
 obtain ⟨m, hm, hm'⟩ := zju y
 refine zai (n := 0) h1.l (i := 0) rfl rfl ?_
 refine zar h2.e (show getF _ 12 = some (.ref b.D) from rfl) ?_
 walk_at "lw"
 rw [zan h2.D]
 walk_at "lw"
 rw [hm]
 walk_at "lw"
 rw [za0 h2.D]
 walk_at "lw"
 refine ⟨.inl (by trivial), by decide, rfl, by rw [he]; unfold zap; exact Nat.lt_of_le_of_lt nd (Nat.lt_of_le_of_lt hN (by decide)), ?_⟩
 obtain ⟨t2, k2⟩ := zsk ok hN hm' hf hf'
 have H2' := H2.to9.up (u' := .list (b.eds ++ [.tup [.int m, .int far]])) (.there (.there (.there (.there (.there (.there (.there .here)))))))
 have H3 : Hold _ (bled (b.two (.tup [.int m, .int far])) ++ L) := Hold.of9 (b := b.two (.tup [.int m, .int far])) H2'
 clear H2'
 have h3 := H3.sl
 generalize σ2.set b.D (.list (b.eds ++ [.tup [.int m, .int far]])) = σ3 at *
 refine zai (a := b.l) (n := 0) h3.l (i := 0) rfl rfl ?_
 refine c_45 H3.el t2 k2 ?_
 have h4 := H3.el
 refine zai (a := b.l) (n := 0) h3.l (i := 0) rfl rfl ?_
 refine zar h4.e (show getF _ 12 = some (.ref b.D) from rfl) ?_
 walk_at "lw"
 try simp only [if_true]
 walk_at "lw"
 rw [zr8 (show σ3 b.D = some (.list (b.eds ++ [.tup [.int m, .int far]])) from h4.D)]
 have H4 := H3.to9.up (u' := .list b.eds) (.there (.there (.there (.there (.there (.there (.there .here)))))))
 have H5 : Hold (σ3.set b.D (.list b.eds)) (bled b ++ L) := Hold.of9 (b := b) H4
 clear H4
 generalize σ3.set b.D (.list b.eds) = σ5 at *
 -- the file
 have h5 := H5.sl
 refine zai (n := 4) h5.l (i := 4) rfl rfl ?_
 refine za7 h5.m ?_
 walk_at "lw"
 by_cases hz : b.fs.length = 0
 ·refine zau (by simp [hz]) ?_
  exact zax (hq _ H5)
 refine zba (by simp; exact Nat.pos_of_ne_zero hz) ?_
 obtain ⟨k, hk, hk'⟩ := zbs (y := y / 12) (n := b.fs.length) (by exact Nat.pos_of_ne_zero hz)
 obtain ⟨j, hj, hj'⟩ := zbs (y := y / 6) (n := 2) (by decide)
 refine zai (n := 4) h5.l (i := 4) rfl rfl ?_
 walk_at "lw"
 rw [ix (n := 4) h5.l (i := 4) rfl rfl]
 walk_at "lw"
 rw [zbn h5.m]
 walk_at "lw"
 rw [List.length_map]
 walk_at "lw"
 rw [hk]
 walk_at "lw"
 rw [zbb h5.m (by exact Int.natCast_nonneg _) (by rw [Int.toNat_natCast]; exact getElem?_map_some hk')]
 have of := ok.fs _ (List.getElem_mem hk')
 have hpr := h5.pr (List.getElem_mem hk')
 have hro := h5.ro (List.getElem_mem hk')
 obtain ⟨l1, l2, e, _⟩ := zb1 hk'
 generalize b.fs[k] = f at *
 obtain ⟨M, hM⟩ := zi7 (L := L) e
 unfold FB.sa
 walk_at "lw"
 rw [zhy (by decide) (by decide) (show _ = some (.ref f.pr) from rfl)]
 walk_at "lw"
 refine ⟨by decide, ⟨by exact Int.ofNat_lt.mpr (Nat.pos_of_ne_zero hz), by lia -abstractProof⟩, by decide, by decide, ?_⟩
 walk_at "lw"
 rw [show y / 6 % 2 = (j : Int) from hj]
 refine zai (n := 1) hpr (i := 1) rfl rfl ?_
 walk_at "lw"
 rw [zr6 hro (by exact Nat.lt_of_lt_of_le hj' (by decide)) rfl]
 refine c_43 (f := f) (i := j) (by exact Nat.lt_of_lt_of_le hj' (by decide)) rfl (H5.perm (by have := hM f ⟨rfl, rfl, rfl, rfl⟩; rwa [← e] at this)) fun σ6 H6 => ?_
 have H6' := H6.perm (hM _ FB.set_same).symm
 obtain ⟨t6, k6⟩ := zpm ok (by exact Nat.le_trans hN (by decide)) e hj' hf hf'
 have h6 := H6'.sl
 refine zai (a := b.l) (n := 0) h6.l (i := 0) rfl rfl ?_
 refine c_45 (b := { b with fs := l1 ++ f.set j (.int far) :: l2 }) H6'.el t6 k6 ?_
 walk_at "lw"
 rw [show f.pr = (f.set j (.int far)).pr from FB.set_same.1.symm]
 refine c_43 (f := f.set j (.int far)) (i := j) (by exact Nat.lt_of_lt_of_le hj' (by decide)) rfl H6 fun σ7 H7 => ?_
 rw [FB.set_set (by exact Nat.lt_of_lt_of_le hj' (by decide)), FB.set_get (by exact Nat.lt_of_lt_of_le hj' (by decide))] at H7
 refine zax (hq _ (H7.perm ?_))
 have := hM f ⟨rfl, rfl, rfl, rfl⟩
 rw [← e] at this
 exact this.symm
end
end
section
theorem OkF.congr {f g : FB} (h : OkF g) (e : f.v = g.v) : OkF f := by
 obtain ⟨p, q, s, lv, a, b, c, d⟩ := f
 simp only [FB.v, Prod.mk.injEq] at e
 obtain ⟨rfl, rfl, rfl, rfl, rfl⟩ := e
 exact ⟨h.lv, h.n, h.s, h.lo, h.hi⟩
noncomputable def FB.vm (f : FB) : (Nat × Va × Va × Va × Va) × Addr := (f.v, f.me)
theorem vm_ea {l m : List FB} (h : l.map FB.vm = m.map FB.vm) : l.map FB.ea = m.map FB.ea ∧ l.map FB.el = m.map FB.el ∧ l.map FB.v = m.map FB.v := by
 have e1 : ∀ l : List FB, l.map FB.ea = (l.map FB.vm).map fun p => .tup [.int p.1.1, .ref p.2] := fun l => by rw [List.map_map]; rfl
 have e2 : ∀ l : List FB, l.map FB.el = (l.map FB.vm).map fun p => (p.2, meI p.1.2.1 p.1.2.2.1 p.1.2.2.2.1 p.1.2.2.2.2) := fun l => by rw [List.map_map]; rfl
 have e3 : ∀ l : List FB, l.map FB.v = (l.map FB.vm).map fun p => p.1 := fun l => by rw [List.map_map]; rfl
 rw [e1, e1, e2, e2, e3, e3, h]
 exact ⟨rfl, rfl, rfl⟩
section
variable {r : Nat} {σ : Sto} {B : BP} {Q : QP} {N : Nat} {b : EB} {L : Lg}
theorem c_47 (H : Hold σ (bled b ++ L)) (ok : OkE N b) (hN : N ≤ 60) (hq : ∀ σ' h, OkE N h → Hold σ' (bled h ++ (bled b ++ L)) → Q (.ref h.l) σ') : zac tab (r+7) 47 [.ref b.l] σ B Q := by
 refine zs4 ?_
 have nf := ok.nf
 obtain ⟨rl, h1, h2, hcat, h3, hfl⟩ := zny ok hN
 refine asgP (fun v τ => ∃ (b' : EB), A3 (v = .ref b'.e) (b'.ev = b.ev) (Hold τ (eled b' ++ (bled b ++ L)))) (fun Q h => ?_) ?_
 ·refine zai (n := 0) H.sl.l (i := 0) rfl rfl ?_
  refine zay H.el.e (show mth 18 6 = some 223 from rfl) ?_
  refine zn9 H.el (ok.ty hN) (fun z => by rw [hcat] at z; cases z) fun c hc => ?_
  obtain rfl := Option.some.inj (hcat.symm.trans hc)
  exact c_22 (by exact Nat.le_trans hfl (by decide)) rfl h1 h3 H fun b' σ' he H' => h _ _ ⟨b', rfl, he.trans h2, H'⟩
 rintro _ τ ⟨b', rfl, he, H⟩
 have hl : b'.fs.length = b.fs.length := by have := congrArg (fun v => v.fs.length) he; simpa [EB.ev] using this
 have hv : b'.fs.map FB.v = b.fs.map FB.v := congrArg EV.fs he
 have E1 := H.has
 have S1 : Has τ (sled b) := fun q hq => H.1 q (List.mem_append_right _ (List.mem_append_left _ (List.mem_append_left _ hq)))
 refine zck (b := false) (fun Q h => ?_) (fun z => nomatch z) fun _ => ?_
 ·refine zar E1.e (show getF _ 13 = some (.ref b'.A) from rfl) ?_
  refine zb9 E1.A ?_
  refine zai (n := 4) S1.l (i := 4) rfl rfl ?_
  refine za7 S1.m ?_
  walk_at "lw"
  rw [List.length_map]
  walk_at "lw"
  rw [hl]
  walk_at "lw"
  simpa using h
 refine asgP (fun v τ => Ex2 fun (m : Addr) (done : List FB) => A3 (v = .ref m) (done.map FB.vm = b'.fs.map FB.vm) (Hold τ ((m, .list (done.map FB.sa)) :: (done.flatMap FB.sl ++ (eled b' ++ (bled b ++ L)))))) (fun Q h => ?_) ?_
 ·refine zai (n := 4) S1.l (i := 4) rfl rfl ?_
  refine za7 S1.m ?_
  refine And.intro ⟨by exact by decide, by exact ⟨(by decide), ⟨(Int.lt_of_lt_of_le (by decide) (Int.natCast_nonneg _)), (Int.ofNat_lt.mpr (Nat.lt_of_le_of_lt nf (Nat.lt_of_le_of_lt hN (by decide))))⟩⟩⟩ ?_
  refine zbi (N := b.fs.length) (fun m s => ∃ (done : List FB), A3 (s.2 = done.map FB.sa) (done.map FB.vm = (b'.fs.take m).map FB.vm) (Hold s.1 (done.flatMap FB.sl ++ (eled b' ++ (bled b ++ L))))) ?_ ?_ ⟨[], rfl, by simp, H⟩
  ·rintro m ⟨τ, acc⟩ K hm ⟨done, rfl, hd, H⟩ hk
   have hm' : m < b'.fs.length := by exact Nat.lt_of_lt_of_le hm (Nat.le_of_eq hl.symm)
   have E1 : Has τ (eled b') := fun q hq => H.1 q (List.mem_append_right _ (List.mem_append_left _ hq))
   have S1 : Has τ (sled b) := fun q hq => H.1 q (List.mem_append_right _ (List.mem_append_right _ (List.mem_append_left _ (List.mem_append_left _ hq))))
   have hdl : done.length = m := by have := congrArg List.length hd; simp at this; lia -abstractProof
   walk_at "lw"
   refine ⟨.int m, by simp [za2]; exact hm, ?_⟩
   walk_at "lw"
   simp only [zem, asP, zfs]
   walk_at "lw"
   have hv' : b'.fs[m].v = b.fs[m].v := by
    have := congrArg (fun l => l[m]?) hv
    simpa [List.getElem?_map, List.getElem?_eq_getElem hm, List.getElem?_eq_getElem hm'] using this
   have hpr := S1.pr (List.getElem_mem hm)
   have hro := S1.ro (List.getElem_mem hm)
   have gm : ∀ {k}, idxW τ (.ref b.m) (.int m) k = k (FB.sa b.fs[m]) := fun {k} => zbb S1.m (by exact Int.natCast_nonneg _) (by rw [Int.toNat_natCast]; exact getElem?_map_some hm)
   have gA : ∀ {k}, idxW τ (.ref b'.A) (.int m) k = k (FB.ea b'.fs[m]) := fun {k} => zbb E1.A (by exact Int.natCast_nonneg _) (by rw [Int.toNat_natCast]; exact getElem?_map_some hm')
   have htk : (b'.fs.take (m + 1)).map FB.vm = (b'.fs.take m).map FB.vm ++ [b'.fs[m].vm] := by rw [List.take_succ_eq_append_getElem hm', List.map_append]; rfl
   generalize b.fs[m] = f at *
   generalize b'.fs[m] = f' at *
   refine zai (n := 4) S1.l (i := 4) rfl rfl ?_
   walk_at "lw"
   rw [gm]
   unfold FB.sa
   refine zbw (by decide) (by decide) (show _ = some (.int f.lv) from rfl) ?_
   refine zar E1.e (show getF _ 13 = some (.ref b'.A) from rfl) ?_
   walk_at "lw"
   rw [gA]
   unfold FB.ea
   refine zbw (by decide) (by decide) (show _ = some (.ref f'.me) from rfl) ?_
   refine zai (n := 4) S1.l (i := 4) rfl rfl ?_
   walk_at "lw"
   rw [gm]
   unfold FB.sa
   refine zbw (by decide) (by decide) (show _ = some (.ref f.pr) from rfl) ?_
   refine zai (n := 1) hpr (i := 1) rfl rfl ?_
   refine zcp hro ?_
   intro ro hro'
   replace H := H.new hro' (.list [f.n, f.s, f.lo, f.hi])
   intro pr hpr'
   replace H := H.new hpr' (.list [.ref f'.me, .ref ro])
   refine And.intro (by simp [zap]; lia -abstractProof) (hk _ ⟨done ++ [⟨pr, f'.me, ro, f.lv, f.n, f.s, f.lo, f.hi⟩], by rw [List.map_append]; rfl, ?_, H.perm (by rw [List.flatMap_append]; exact zcv [_, _] [_, _] (.cs (.r 0 [1]) [0, 1]) (.a (.a (.l 0) (.cs .n [0, 1])) (.l 1)) rfl)⟩)
   ·walk_at "lw"
    rw [List.map_append]
    walk_at "lw"
    rw [htk]
    walk_at "lw"
    rw [hd]
    walk_at "lw"
    simp only [List.map_cons, List.map_nil, FB.vm, hv']
    rfl
  ·rintro ⟨τ, acc⟩ ⟨done, rfl, hd, H⟩
   refine And.intro (by simp [za2]) (fun a ha => h _ _ ⟨a, done, rfl, ?_, H.new ha _⟩)
   walk_at "lw"
   rw [hd]
   walk_at "lw"
   rw [← hl]
   walk_at "lw"
   rw [List.take_length]
 rintro _ τ ⟨m, done, rfl, hd, H⟩
 have S1 : Has τ (sled b) := fun q hq => H.1 q (.tail _ (List.mem_append_right _ (List.mem_append_right _ (List.mem_append_left _ (List.mem_append_left _ hq)))))
 refine zai (n := 1) S1.l (i := 1) rfl rfl ?_
 refine zcp S1.w ?_
 intro w hw
 have S1 := S1.le (Sto.le_set (u := .list [b.w0, b.w1, b.w2, b.w3]) hw)
 replace H := H.new hw (.list [b.w0, b.w1, b.w2, b.w3])
 refine zai (n := 2) S1.l (i := 2) rfl rfl ?_
 refine zcp S1.p ?_
 intro p hp
 have S1 := S1.le (Sto.le_set (u := .list b.ps) hp)
 replace H := H.new hp (.list b.ps)
 refine zai (n := 3) S1.l (i := 3) rfl rfl ?_
 refine zcp S1.d ?_
 intro d hd'
 have S1 := S1.le (Sto.le_set (u := .list b.ds) hd')
 replace H := H.new hd' (.list b.ds)
 refine zai (n := 5) S1.l (i := 5) rfl rfl ?_
 intro l hl'
 replace H := H.new hl' (.list [.ref b'.e, .ref w, .ref p, .ref d, .ref m, .bool b.rs])
 obtain ⟨v1, v2, v3⟩ := vm_ea hd
 have e0 : b'.w0 = b.w0 := congrArg EV.w0 he
 have e1 : b'.w1 = b.w1 := congrArg EV.w1 he
 have e2 : b'.w2 = b.w2 := congrArg EV.w2 he
 have e3 : b'.w3 = b.w3 := congrArg EV.w3 he
 have e4 : b'.ps = b.ps := congrArg EV.ps he
 have e5 : b'.eds = b.eds := congrArg EV.ds he
 have e6 : b'.rs = b.rs := congrArg EV.rs he
 refine zax (hq _ ⟨l, b'.e, w, p, d, m, b'.P, b'.D, b'.A, b.w0, b.w1, b.w2, b.w3, b.ps, b.ds, b.eds, done, b.rs⟩ ?_ (H.perm ?_))
 ·walk_at "lw"
  exact { ok with
   fs := fun f hf => by
    have : f.v ∈ done.map FB.v := List.mem_map_of_mem hf
    rw [v3, hv] at this
    obtain ⟨g, hg, e⟩ := List.mem_map.mp this
    exact (ok.fs g hg).congr e.symm
   nf := by have := congrArg List.length hd; simp at this; show done.length ≤ N; exact Nat.le_trans (Nat.le_of_eq this) (Nat.le_trans (Nat.le_of_eq hl) nf) }
 ·walk_at "lw"
  unfold bled eled
  rw [e0, e1, e2, e3, e4, e5, e6, ← v1, ← v2]
  exact zcv [_, _, _, _, _] [_, _, _] (.cs (.r 0 [1, 2]) [0, 1, 2, 3, 4]) (.a (.a (.a (.cs .n [0, 3, 2, 1, 4]) (.l 0)) (.l 1)) (.l 2)) rfl
end
end
section
noncomputable def gl (a : Addr) (bs : List EB) : Lg := (a, .list (bs.map fun b => .ref b.l)) :: bs.flatMap bled
theorem zjy {a : Addr} {L : Lg} {l1 l2 : List EB} {b b' : EB} (e : b'.l = b.l) : (gl a (l1 ++ b' :: l2) ++ L).Perm (bled b' ++ ((a, .list ((l1 ++ b :: l2).map fun b => .ref b.l)) :: (l1.flatMap bled ++ (l2.flatMap bled ++ L)))) := by
 unfold gl
 rw [List.map_append, List.map_append, List.map_cons, List.map_cons, e, List.flatMap_append, List.flatMap_cons]
 exact zcv [_] [l1.flatMap bled, bled b', l2.flatMap bled, L] (.a (.c 0 (.r 0 [1, 2])) (.l 3)) (.a (.l 1) (.c 0 (.r 0 [2, 3]))) rfl
theorem zsj {a : Addr} {L : Lg} {l1 l2 : List EB} {b : EB} : ∃ M : Lg, ∀ b' : EB, b'.l = b.l → (gl a (l1 ++ b' :: l2) ++ L).Perm (bled b' ++ ((a, .list ((l1 ++ b :: l2).map fun b => .ref b.l)) :: M)) := ⟨_, fun _ e => zjy e⟩
structure Bs (N : Nat) (bs : List EB) : Prop where
 ok : ∀ b ∈ bs, OkE N b
 pos : 1 ≤ bs.length
 le : bs.length ≤ 3
theorem Bs.put {N M : Nat} {l1 l2 : List EB} {b b' : EB} (h : Bs N (l1 ++ b :: l2)) (k : N ≤ M) (o : OkE M b') : Bs M (l1 ++ b' :: l2) := by
 refine ⟨fun x hx => ?_, by simp; exact Nat.le_trans (Nat.le_add_left _ _) (Nat.le_add_left _ _), by have := h.le; simpa using this⟩
 exact zd1 (P := OkE M) (fun x hx => (h.ok x hx).mono k) o x hx
section
variable {r : Nat} {σ : Sto} {B : BP} {Q : QP} {N : Nat} {b : EB} {L : Lg} {a : Addr} {bs : List EB}
theorem zcz (H : Hold σ (gl a bs ++ L)) : σ a = some (.list (bs.map fun b => .ref b.l)) := H.nth 0 rfl
theorem gl_b (H : Hold σ (gl a bs ++ L)) {b : EB} (hb : b ∈ bs) : Has σ (bled b) := fun q hq => H.1 q (.tail _ (List.mem_append_left _ (List.mem_flatMap.mpr ⟨b, hb, hq⟩)))
theorem zpi (H : Hold σ (gl a bs ++ L)) {i : Nat} (hi : i < bs.length) {n : Int} (hn : n = i) : ∀ k, idxW σ (.ref a) (.int n) k = k (.ref bs[i].l) := fun k => by
 subst hn
 exact zbb (zcz H) (by exact Int.natCast_nonneg _) (by rw [Int.toNat_natCast]; exact getElem?_map_some hi)
theorem c_48 {y : Int} {i : Nat} (H : Hold σ (gl a bs ++ L)) (ok : Bs N bs) (hi : i < bs.length) (hN : N ≤ 58) (hq : ∀ σ' bs', Bs (N + 2) bs' → i < bs'.length → Hold σ' (gl a bs' ++ L) → Q (.bool true) σ') :
  zac tab (r+8) 48 [.ref a, .int i, .int y] σ B Q := by
 apply zs3
 unfold b48
 walk_at "lw"
 walk_at "lw"
 rw [zpi H hi rfl]
 obtain ⟨l1, l2, e, hl1⟩ := zb1 hi
 generalize bs[i] = b at e
 subst e
 have ob := ok.ok b (by simp)
 replace H := H.perm (zjy (b := b) rfl)
 generalize hM : l1.flatMap bled ++ (l2.flatMap bled ++ L) = M at H
 generalize hV : UOb.list ((l1 ++ b :: l2).map fun b => .ref b.l) = V at *
 refine c_47 H ob (by exact Nat.le_trans hN (by decide)) fun σ1 h oh H => ?_
 walk_at "lw"
 simp only [zdu, Bool.false_eq_true, if_false]
 have sw : ∀ {τ : Sto} {x y : EB} {K : Lg}, Hold τ (bled x ++ (bled y ++ K)) → Hold τ (bled y ++ (bled x ++ K)) := fun {τ x y K} z => z.perm zeh
 refine c_38 (sw H) ob (by exact Nat.le_trans hN (by decide)) fun σ2 b2 e2 ob H => ?_
 refine And.intro (by decide) (c_39 (sw H) oh (by exact Nat.le_trans hN (by decide)) fun σ3 h3 f3 oh H => ?_)
 walk_at "lw"
 rw [← e2]
 walk_at "lw"
 rw [← f3]
 refine And.intro (by decide) (c_40 (sw H) ob (by exact Nat.lt_of_le_of_lt hN (by decide)) fun σ4 b4 e4 ob H => ?_)
 refine c_44 (sw H) oh (by exact Nat.lt_of_le_of_lt hN (by decide)) fun σ5 h5 f5 oh H => ?_
 walk_at "lw"
 rw [← f5]
 refine And.intro (by decide) (c_38 H oh (by exact Nat.lt_of_le_of_lt hN (by decide)) fun σ6 h6 f6 oh H => ?_)
 walk_at "lw"
 rw [← f6]
 walk_at "lw"
 rw [← e4]
 refine c_35 H oh (by exact Nat.add_lt_add_right (Nat.lt_of_le_of_lt hN (by decide)) 1) fun σ7 H => ?_
 refine c_35 (sw H) ob (by exact Nat.add_lt_add_right (Nat.lt_of_le_of_lt hN (by decide)) 1) fun σ8 H => ?_
 refine And.intro (by decide) ?_
 have ga : σ8 a = some V := H.get (List.mem_append_right _ (List.mem_append_right _ (.head _)))
 rw [← hV] at ga
 have putset : ∀ τ, Hold τ (bled b4 ++ (bled h6 ++ ((a, .list (((l1 ++ b :: l2).map fun b => Va.ref b.l).set i (.ref h6.l))) :: M))) → ∃ τ', Sto.Le τ' τ ∧ Q (.bool true) τ' := fun τ z => by
  refine zax (hq _ (l1 ++ h6 :: l2) (ok.put (by exact Nat.le_add_right _ _) oh) (by simpa using hi) ?_)
  rw [zge (f := fun b : EB => Va.ref b.l) hl1] at z
  exact ((z.sub (List.sublist_append_right _ _)).perm (hM ▸ (zjy (b := h6) rfl).symm))
 have upd : ∀ V', Hold (σ8.set a V') (bled b4 ++ (bled h6 ++ ((a, V') :: M))) := fun V' => by
  have z := (H.perm (zcv [_] [bled b4, bled h6, M] (.a (.l 0) (.a (.l 1) (.c 0 (.l 2)))) (.c 0 (.r 0 [1, 2])) rfl)).set V'
  exact z.perm (zcv [_] [bled b4, bled h6, M] (.c 0 (.r 0 [1, 2])) (.a (.l 0) (.a (.l 1) (.c 0 (.l 2)))) rfl)
 have hset : setIdxW σ8 (.ref a) (.int i) (.ref h6.l) (fun σ => ∃ τ, τ.Le σ ∧ Q (.bool true) τ) := by
  refine zbe ga (by simpa using hi) ?_
  exact putset _ (upd _)
 refine zav (fun _ => ?_) fun _ => hset
 walk_at "lw"
 refine za7 ga ?_
 refine zav (fun z => ?_) fun _ => hset
 walk_at "lw"
 rw [zan ga]
 walk_at "lw"
 rw [za0 ga]
 have hlen := of_decide_eq_true z
 refine ⟨.inl (by trivial), rfl, by have := ok.le; simp [zap] at this ⊢; exact Nat.lt_of_le_of_lt this (by decide), _, .refl _, ?_⟩
 have z2 := upd (.list (((l1 ++ b :: l2).map fun b => Va.ref b.l) ++ [.ref h6.l]))
 refine hq _ (l1 ++ b4 :: (l2 ++ [h6])) ?_ (by simp at hi ⊢; exact Nat.lt_of_lt_of_le hi (Nat.add_le_add_left (Nat.lt_succ_of_le (Nat.le_add_right _ _)) _)) (z2.perm ?_)
 ·walk_at "lw"
  refine ⟨fun x hx => zco (l := l1 ++ b4 :: l2) (zd1 (fun x hx => (ok.ok x hx).mono (by exact Nat.le_trans (Nat.le_add_right _ _) (Nat.le_add_right _ _))) ob) oh x (by simpa using hx), by simp; exact Nat.le_trans (Nat.le_add_left _ _) (Nat.le_add_left _ _), by simp at hlen ⊢; lia⟩
 ·subst hM
  have el : b4.l = b.l := e4.trans e2
  unfold gl
  rw [List.map_append, List.map_append, List.map_cons, List.map_cons, el, List.map_append, List.flatMap_append, List.flatMap_cons, List.flatMap_append, List.append_assoc]
  exact zcv [_] [bled b4, bled h6, l1.flatMap bled, l2.flatMap bled, L] (.a (.l 0) (.a (.l 1) (.c 0 (.r 2 [3, 4])))) (.a (.c 0 (.a (.l 2) (.a (.l 0) (.a (.l 3) (.a (.l 1) .n))))) (.l 4)) rfl
end
end
section
section
variable {r : Nat} {σ : Sto} {B : BP} {Q : QP} {N : Nat} {b : EB} {L : Lg} {a : Addr} {bs : List EB}
theorem zsd {i : Nat} {v : Va} (hi : i < 4) (h : wOk i v) : (v = .none ∧ zdu v = true) ∨ (zdu v = false ∧ if i = 0 then Key v else Num v) := by
 rcases four hi with rfl | rfl | rfl | rfl
 ·rcases h with rfl | h
  ·exact .inl ⟨rfl, rfl⟩
  ·exact .inr ⟨zq9 h, h⟩
 ·rcases h with rfl | h
  ·exact .inl ⟨rfl, rfl⟩
  ·exact .inr ⟨zks h, h⟩
 ·rcases h with rfl | h
  ·exact .inl ⟨rfl, rfl⟩
  ·exact .inr ⟨zks h, h⟩
 ·rcases h with rfl | h
  ·exact .inl ⟨rfl, rfl⟩
  ·exact .inr ⟨zks h.num, h.num⟩
theorem c_37 {y : Int} {i : Nat} {v : Va} (hi : i < 4) {n : Int} (hn : n = i) (hv : wOk i v) (hq : ∀ v, wOk i v → zdu v = false → Q v σ) : zac tab (r+2) 37 [.int n, v, .int y] σ B Q := by
 subst hn
 by_cases h0 : i = 0
 ·subst h0
  refine zi2 ?_ fun v hv => hq v (.inr hv) (zq9 hv)
  rcases hv with rfl | ⟨k, e, _⟩
  ·walk_at "lw"
   exact .inl rfl
  ·walk_at "lw"
   exact .inr ⟨k, e⟩
 ·refine zk2 (by lia) ?_ fun w hw hs => hq w ?_ (zks hw)
  ·rcases zsd hi hv with ⟨rfl, _⟩ | ⟨_, h⟩
   ·walk_at "lw"
    exact .inl rfl
   ·rw [if_neg h0] at h
    obtain ⟨k, e, _⟩ := h
    walk_at "lw"
    exact .inr ⟨k, e⟩
  ·have : i = 1 ∨ i = 2 ∨ i = 3 := by lia
   rcases this with rfl | rfl | rfl
   ·walk_at "lw"
    exact .inr hw
   ·walk_at "lw"
    exact .inr hw
   ·walk_at "lw"
    exact .inr (hs rfl)
theorem zgj (H : Hold σ (gl a bs ++ L)) {i : Nat} (hi : i < bs.length) (ok : Bs N bs) : Ex2 fun (b : EB) (M : Lg) => A4 ((∀ k, idxW σ (.ref a) (.int i) k = k (.ref b.l))) (OkE N b) (Hold σ (bled b ++ M)) (∀ σ' b' K, b'.l = b.l → N ≤ K → OkE K b' → Hold σ' (bled b' ++ M) → ∃ bs', A4 (Bs K bs') (i < bs'.length) (bs'.length = bs.length) (Hold σ' (gl a bs' ++ L))) := by
 have hg := zpi H hi rfl
 have ob := ok.ok _ (List.getElem_mem hi)
 obtain ⟨l1, l2, e, hl1⟩ := zb1 hi
 generalize bs[i] = b at *
 subst e
 obtain ⟨M, hM⟩ := zsj (a := a) (L := L) (l1 := l1) (l2 := l2) (b := b)
 exact ⟨b, _, hg, ob, H.perm (hM b rfl), fun σ' b' K e hK o z => ⟨l1 ++ b' :: l2, ok.put hK o, by simpa using hi, by simp, z.perm (hM b' e).symm⟩⟩
theorem c_49 {y z : Int} (H : Hold σ (gl a bs ++ L)) (ok : Bs N bs) (hy : 0 ≤ y) (hz : 0 ≤ z) (hz' : z < 100000000) (hN : N ≤ 57) (hq : ∀ σ' bs', Bs (N + 2) bs' → Hold σ' (gl a bs' ++ L) → Q (.bool true) σ') :
  zac tab (r+9) 49 [.ref a, .int y, .int z] σ B Q := by
 refine zs2 ?_
 have hp := ok.pos
 have hle3 := ok.le
 obtain ⟨i, hi, hi'⟩ := zbs (y := y) (n := bs.length) hp
 obtain ⟨b, M, hg, ob, Hb, back⟩ := zgj H hi' ok
 have h1 := Hb.sl
 refine asg (v := .int i) (fun Q h => ?_) ?_
 ·walk_at "lw"
  refine za7 (zcz H) ?_
  walk_at "lw"
  rw [hi]
  exact And.intro ⟨by exact Int.ofNat_lt.mpr (Nat.lt_of_le_of_lt (Nat.zero_le _) hi'), by lia⟩ h
 refine asg (v := .ref b.l) (fun Q h => by walk_at "lw"; rw [hg]; exact h) ?_
 refine asg (v := .int (z % 9)) (fun Q h => by walk_at "lw"; exact ⟨by decide, h⟩) ?_
 refine asg (v := .int (z / 9)) (fun Q h => by walk_at "lw"; exact ⟨by decide, h⟩) ?_
 have hq0 : 0 ≤ z / 9 := by exact Int.ediv_nonneg hz (by decide)
 have hq1 : z / 9 < 100000000 := by exact Int.lt_of_le_of_lt (Int.ediv_le_self _ hz) hz'
 generalize z / 9 = q at *
 generalize z % 9 = act
 have done : ∀ {σ' : Sto} {b' : EB}, b'.l = b.l → OkE (N + 2) b' → Hold σ' (bled b' ++ M) → ∃ bs', A3 (Bs (N + 2) bs') (i < bs'.length) (Hold σ' (gl a bs' ++ L)) := fun e o h => by
  obtain ⟨bs', h1, h2, _, h4⟩ := back _ _ _ e (by exact Nat.le_add_right _ _) o h
  walk_at "lw"
  exact ⟨bs', h1, h2, h4⟩
 refine iteP (b := decide (act = 0)) (fun ρ' σ' => Ex7 fun (x y z u v w : Option Va) (bs' : List EB) => A4 (ρ' = [some (.ref a), x, y, some (.int i), z, u, v, w, none]) (Bs (N + 2) bs') (i < bs'.length) (Hold σ' (gl a bs' ++ L)))
  (fun Q h => by walk_at "lw"; exact h) (fun _ N' hn => ?_) (fun _ N' hn => ?_) ?_
 ·-- a word
  obtain ⟨j, hj, hj'⟩ := zbs (y := q) (n := 4) (by decide)
  refine And.intro (by decide) ?_
  walk_at "lw"
  rw [show q % 4 = (j : Int) from hj]
  refine zai (n := 1) h1.l (i := 1) rfl rfl ?_
  walk_at "lw"
  rw [w_at h1 hj' rfl]
  have hw := ob.getW hj'
  have said : ∀ v, wOk j v → zac tab (r + 8) 36 [.ref b.l, .int j, v] σ (ExB B) fun _ σ => N' [some (.ref a), some (.int y), some (.int z), some (.int i), some (.ref b.l), some (.int act), some (.int q), some (.int j), none] σ := fun v hv =>
   c_36 hj' rfl Hb fun σ' H' => hn _ _ (let ⟨bs', h⟩ := done setW_l ((ob.setW hj' hv).mono (by exact Nat.le_add_right _ _)) H'; ⟨_, _, _, _, _, _, bs', rfl, h.1, h.2, h.3⟩)
  have anew : zac tab (r + 8) 37 [.int j, b.getW j, .int (q / 12)] σ (ExB B) fun v σ => zac tab (r + 8) 36 [.ref b.l, .int j, v] σ (ExB B) fun _ σ =>
    N' [some (.ref a), some (.int y), some (.int z), some (.int i), some (.ref b.l), some (.int act), some (.int q), some (.int j), none] σ := c_37 hj' rfl hw fun v hv _ => said v hv
  have none_ok : wOk j .none := by rcases four hj' with rfl | rfl | rfl | rfl <;> exact .inl rfl
  have x1 : ∀ k, idxW σ (.ref b.l) (.int 1) k = k (.ref b.w) := fun k => ix (n := 1) h1.l (i := 1) rfl rfl
  refine zav (fun _ => ?_) fun _ => ?_
  ·walk_at "lw"
   refine ⟨by decide, by decide, zav (fun _ => ?_) fun _ => ?_⟩
   ·exact said _ none_ok
   ·walk_at "lw"
    rw [x1]
    walk_at "lw"
    rw [w_at h1 hj' rfl]
    exact And.intro (by decide) anew
  ·walk_at "lw"
   rw [x1]
   walk_at "lw"
   rw [w_at h1 hj' rfl]
   exact And.intro (by decide) anew
 ·have fin : ∀ {σ' : Sto} {b' : EB} {w : Option Va}, b'.l = b.l → OkE (N + 2) b' → Hold σ' (bled b' ++ M) → N' [some (.ref a), some (.int y), some (.int z), some (.int i), some (.ref b.l), some (.int act), some (.int q), w, none] σ' := fun e o h =>
   hn _ _ (let ⟨bs', k⟩ := done e o h; ⟨_, _, _, _, _, _, bs', rfl, k.1, k.2, k.3⟩)
  refine zav (fun _ => ?_) fun _ => zav (fun _ => ?_) fun _ => zav (fun _ => ?_) fun _ => zav (fun _ => ?_) fun _ => zav (fun _ => ?_) fun _ => zav (fun _ => ?_) fun _ => zav (fun _ => ?_) fun _ => ⟨by decide, zav (fun _ => ?_) fun _ => ?_⟩
  ·refine c_48 H ok hi' (by exact Nat.le_trans hN (by decide)) fun σ' bs' ok' hi2 H' => ?_
   exact hn _ _ ⟨_, _, _, _, _, _, bs', rfl, ok', hi2, H'⟩
  ·exact c_44 Hb ob (by exact Nat.le_trans hN (by decide)) fun σ' b' e o h => fin e (o.mono (by exact Nat.le_add_right _ _)) h
  ·exact c_41 Hb ob (by exact Nat.le_trans hN (by decide)) fun σ' b' e o h => fin e (o.mono (by exact Nat.le_add_right _ _)) h
  ·refine c_46 hq0 hq1 Hb ob (by exact Nat.le_trans hN (by decide)) fun σ' h => ?_
   exact fin rfl (ob.mono (by exact Nat.le_add_right _ _)) h
  ·refine zai (n := 5) h1.l (i := 5) rfl rfl ?_
   refine zfb h1.l (by decide) (by simp) ?_
   walk_at "lw"
   rw [show (5 : Int).toNat = 5 from rfl]
   replace Hb := Hb.to9
   replace Hb := Hb.up (u' := .list [.ref b.e, .ref b.w, .ref b.p, .ref b.d, .ref b.m, .bool !b.rs]) .here
   refine zai (n := 5) (Hb.nth 0 rfl) (i := 5) rfl rfl ?_
   refine zai (n := 0) (Hb.nth 0 rfl) (i := 0) rfl rfl ?_
   refine zad (Hb.nth 5 rfl) ?_
   refine And.intro (by simp) (fin (b' := { b with rs := !b.rs }) rfl ({ ob.mono (show N ≤ N + 2 by exact Nat.le_add_right _ _) with }) (Hold.of9 (b := { b with rs := !b.rs }) (Hb.up (.there (.there (.there (.there (.there .here))))))))
  ·exact c_42 Hb ob (by exact Nat.le_trans hN (by decide)) fun σ' b' e o h => fin e (o.mono (by exact Nat.le_add_right _ _)) h
  ·exact c_40 Hb ob (by exact Nat.le_trans hN (by decide)) fun σ' b' e o h => fin e (o.mono (by exact Nat.lt_add_of_pos_right (by decide))) h
  ·exact And.intro (by decide) (c_38 Hb ob (by exact Nat.le_trans hN (by decide)) fun σ' b' e o h => fin e (o.mono (by exact Nat.lt_add_of_pos_right (by decide))) h)
  ·exact And.intro (by decide) (c_39 Hb ob (by exact Nat.le_trans hN (by decide)) fun σ' b' e o h => fin e (o.mono (by exact Nat.lt_add_of_pos_right (by decide))) h)
 rintro _ σ1 ⟨x, yy, zz, u, v, w, bs', rfl, ok', hi2, H'⟩
 refine zaw (sq := .lst a) (fun K h => by walk_at "lw"; rw [zc9 (zcz H')]; exact h) bs'.length (fun m ρ τ => ∃ t, ρ = [some (.ref a), x, yy, some (.int i), zz, u, v, w, t] ∧ τ = σ1) ⟨none, rfl, rfl⟩ ?_ ?_
 ·intro m ρ τ K hm hI hk
  obtain ⟨t, rfl, rfl⟩ := hI
  have G := gl_b H' (List.getElem_mem hm)
  have o := ok'.ok _ (List.getElem_mem hm)
  have nf := o.nf
  walk_at "lw"
  refine ⟨_, by rw [zal (zcz H'), getElem?_map_some hm], ?_⟩
  generalize bs'[m] = b at *
  refine zai (n := 0) G.left.l (i := 0) rfl rfl ?_
  refine zay G.right.e (show mth 18 5 = some 222 from rfl) ?_
  refine zt1 G.right (by exact Nat.le_trans nf (Nat.add_le_add_right (Nat.le_trans hN (by decide)) 2)) (c_34 G.left o.eds (by exact Nat.le_trans nf (Nat.add_le_add_right (Nat.le_trans hN (by decide)) 2)) ?_)
  walk_at "lw"
  rw [zsn rfl (zky o)]
  walk_at "lw"
  try rw [if_neg (by decide)]
  exact hk _ _ ⟨_, rfl, rfl⟩
 ·rintro ρ τ ⟨t, rfl, rfl⟩
  refine And.intro (by rw [zal (zcz H'), List.getElem?_eq_none (by simp)]) ?_
  obtain ⟨b2, M2, hg2, ob2, Hb2, back2⟩ := zgj H' hi2 ok'
  walk_at "lw"
  rw [hg2]
  refine c_35 Hb2 ob2 (by exact Nat.add_le_add_right (Nat.le_trans hN (by decide)) 2) fun σ2 h => ?_
  obtain ⟨bs2, k1, _, _, k2⟩ := back2 _ _ _ rfl (Nat.le_refl _) ob2 h
  exact zax (hq _ _ k1 k2)
end
end
section
noncomputable def rled (l : List RB) : Lg := l.flatMap RB.sl ++ l.map RB.el
noncomputable def zns (g : MB) (x y : List Va) : Lg := [(g.l, .list [.ref g.m, .ref g.w, g.cf, .ref g.u]), (g.w, .list [g.n0, g.n1, g.n2]), (g.u, .list x), (g.m, maI g.n0 g.n1 g.n2 g.cf g.U), (g.U, .list y)]
noncomputable def five (g : MB) : Lg := zns g (g.rs.map fun f => .ref f.pr) (g.rs.map fun f => .ref f.ru)
noncomputable def rl3 (f : RB) : Lg := [(f.pr, .list [.ref f.ru, .ref f.ro]), (f.ro, .list [f.a0, f.a1, f.a2, f.a3, f.a4]), (f.ru, ruI f.a0 f.a1 f.a2 f.a3 f.a4)]
section
variable {σ : Sto} {g : MB} {L : Lg}
theorem five_perm : (sted g ++ L).Perm (five g ++ (rled g.rs ++ L)) :=
 zf9 [_, g.rs.flatMap RB.sl, _, g.rs.map RB.el, L] (.a (.a (.r 0 [1]) (.r 2 [3])) (.l 4)) (.a (.r 0 [2]) (.a (.r 1 [3]) (.l 4))) rfl
theorem rled_app {l m : List RB} : (rled (l ++ m)).Perm (rled l ++ rled m) := by
 unfold rled
 rw [List.flatMap_append, List.map_append]
 exact zf9 [l.flatMap RB.sl, m.flatMap RB.sl, l.map RB.el, m.map RB.el] (.a (.r 0 [1]) (.r 2 [3])) (.a (.r 0 [2]) (.r 1 [3])) rfl
theorem zhb {l1 l2 : List RB} {f : RB} : (rled (l1 ++ f :: l2)).Perm (rl3 f ++ (rled l1 ++ rled l2)) :=
 rled_app.trans ((List.Perm.append_left _ (rled_app (l := [f]))).trans zeh)
theorem zpj {f : RB} : (zns g ((g.rs.map fun f => .ref f.pr) ++ [.ref f.pr]) ((g.rs.map fun f => .ref f.ru) ++ [.ref f.ru]) ++ (rl3 f ++ (rled g.rs ++ L))).Perm (sted { g with rs := g.rs ++ [f] } ++ L) := by
 rw [show (g.rs.map fun f => Va.ref f.pr) ++ [.ref f.pr] = (g.rs ++ [f]).map fun f => .ref f.pr from (List.map_append (l₁ := g.rs) (l₂ := [f])).symm, show (g.rs.map fun f => Va.ref f.ru) ++ [.ref f.ru] = (g.rs ++ [f]).map fun f => .ref f.ru from (List.map_append (l₁ := g.rs) (l₂ := [f])).symm]
 refine List.Perm.trans ?_ (five_perm (g := { g with rs := g.rs ++ [f] })).symm
 refine List.Perm.trans ?_ (.append_left _ (.append_right _ rled_app.symm))
 exact zf9 [five { g with rs := g.rs ++ [f] }, rl3 f, rled g.rs, L] (.r 0 [1, 2, 3]) (.a (.l 0) (.a (.r 2 [1]) (.l 3))) rfl
theorem znr {l1 l2 : List RB} {f : RB} (e : g.rs = l1 ++ f :: l2) : (zns g ((l1 ++ l2).map fun f => .ref f.pr) ((l1 ++ l2).map fun f => .ref f.ru) ++ (rled g.rs ++ L)).Perm (rl3 f ++ (five { g with rs := l1 ++ l2 } ++ (rled (l1 ++ l2) ++ L))) := by
 rw [e]
 refine (List.Perm.append_left _ (.append_right _ zhb)).trans (List.Perm.trans ?_ (.append_left _ (.append_left _ (.append_right _ rled_app.symm))))
 exact zf9 [_, rl3 f, rled l1, rled l2, L] (.a (.l 0) (.a (.r 1 [2, 3]) (.l 4))) (.a (.l 1) (.a (.l 0) (.a (.r 2 [3]) (.l 4)))) rfl
theorem Hold.to5 (h : Hold σ (sted g ++ L)) : Hold σ (five g ++ (rled g.rs ++ L)) := h.perm five_perm
theorem Hold.of5 (h : Hold σ (five g ++ (rled g.rs ++ L))) : Hold σ (sted g ++ L) := h.perm five_perm.symm
end
noncomputable def MB.setH (g : MB) (i : Nat) (v : Va) : MB := match i with
 | 0 => { g with n0 := v }
 | 1 => { g with n1 := v }
 | _ => { g with n2 := v }
noncomputable def MB.getH (g : MB) (i : Nat) : Va := match i with
 | 0 => g.n0
 | 1 => g.n1
 | _ => g.n2
noncomputable def hOk (i : Nat) (v : Va) : Prop := match i with
 | 0 => Num v
 | 1 => Num v
 | _ => Seqn v
theorem zep {i : Nat} (h : i < 3) : i = 0 ∨ i = 1 ∨ i = 2 := by lia -abstractProof
theorem zll {i : Nat} (h : i < 5) : i = 0 ∨ i = 1 ∨ i = 2 ∨ i = 3 ∨ i = 4 := by lia -abstractProof
theorem OkM.getH {N : Nat} {g : MB} (h : OkM N g) {i : Nat} (hi : i < 3) : hOk i (g.getH i) := by
 rcases zep hi with rfl | rfl | rfl
 ·exact h.n0
 ·exact h.n1
 ·exact h.n2
theorem OkM.setH {N : Nat} {g : MB} (h : OkM N g) {i : Nat} {v : Va} (hi : i < 3) (hv : hOk i v) : OkM N (g.setH i v) := by
 rcases zep hi with rfl | rfl | rfl
 ·exact { h with n0 := hv }
 ·exact { h with n1 := hv }
 ·exact { h with n2 := hv }
theorem setH_l {g : MB} {i : Nat} {v : Va} : (g.setH i v).l = g.l := by unfold MB.setH; split <;> rfl
theorem setH_m {g : MB} {i : Nat} {v : Va} : (g.setH i v).m = g.m := by unfold MB.setH; split <;> rfl
theorem zmx {g : MB} {i : Nat} {v w : Va} (hi : i < 3) : (g.setH i v).setH i w = g.setH i w := by rcases zep hi with rfl | rfl | rfl <;> rfl
theorem zmy {g : MB} {i : Nat} (hi : i < 3) : g.setH i (g.getH i) = g := by rcases zep hi with rfl | rfl | rfl <;> rfl
theorem OkM.mono {N M : Nat} {g : MB} (h : OkM N g) (k : N ≤ M) : OkM M g := { h with nr := Nat.le_trans h.nr k }
noncomputable def RB.set (f : RB) (i : Nat) (v : Va) : RB := match i with
 | 0 => { f with a0 := v }
 | 1 => { f with a1 := v }
 | 2 => { f with a2 := v }
 | 3 => { f with a3 := v }
 | _ => { f with a4 := v }
noncomputable def RB.get (f : RB) (i : Nat) : Va := match i with
 | 0 => f.a0
 | 1 => f.a1
 | 2 => f.a2
 | 3 => f.a3
 | _ => f.a4
noncomputable def rOk (i : Nat) (v : Va) : Prop := match i with
 | 0 => ∃ n : Nat, v = .int n ∧ n < 12
 | 1 => Num v
 | 2 => ∃ n : Nat, v = .int n ∧ n ≤ 4294967295
 | _ => Key v
theorem OkR.set {f : RB} {i : Nat} {v : Va} (h : OkR f) (hi : i < 5) (hv : rOk i v) : OkR (f.set i v) := by
 rcases zll hi with rfl | rfl | rfl | rfl | rfl
 ·exact { h with a0 := hv }
 ·exact { h with a1 := hv }
 ·exact { h with a2 := hv }
 ·exact { h with a3 := hv }
 ·exact { h with a4 := hv }
theorem RB.set_same {f : RB} {i : Nat} {v : Va} : (f.set i v).pr = f.pr ∧ (f.set i v).ru = f.ru ∧ (f.set i v).ro = f.ro := by unfold RB.set; split <;> exact ⟨rfl, rfl, rfl⟩
theorem RB.set_set {f : RB} {i : Nat} {v w : Va} (hi : i < 5) : (f.set i v).set i w = f.set i w := by rcases zll hi with rfl | rfl | rfl | rfl | rfl <;> rfl
theorem RB.set_get {f : RB} {i : Nat} (hi : i < 5) : f.set i (f.get i) = f := by rcases zll hi with rfl | rfl | rfl | rfl | rfl <;> rfl
theorem zki {g : MB} {L : Lg} {l1 l2 : List RB} {f : RB} (h : g.rs = l1 ++ f :: l2) : ∃ M : Lg, ∀ f' : RB, f'.pr = f.pr ∧ f'.ru = f.ru ∧ f'.ro = f.ro → (sted { g with rs := l1 ++ f' :: l2 } ++ L).Perm (rl3 f' ++ M) := by
 refine ⟨five g ++ (rled l1 ++ (rled l2 ++ L)), fun f' ⟨e1, e2, e3⟩ => ?_⟩
 have q : five { g with rs := l1 ++ f' :: l2 } = five g := by
  show zns g _ _ = zns g _ _
  rw [h, List.map_append, List.map_append, List.map_append, List.map_append, List.map_cons, List.map_cons, List.map_cons, List.map_cons, e1, e2]
 have p := five_perm (g := { g with rs := l1 ++ f' :: l2 }) (L := L)
 rw [q] at p
 exact p.trans ((List.Perm.append_left _ (.append_right _ zhb)).trans (zf9 [five g, rl3 f', rled l1, rled l2, L] (.a (.l 0) (.a (.r 1 [2, 3]) (.l 4))) (.r 1 [0, 2, 3, 4]) rfl))
theorem OkM.run {N : Nat} {g : MB} {l1 l2 : List RB} {f f' : RB} (h : OkM N g) (e : g.rs = l1 ++ f :: l2) (o : OkR f') : OkM N { g with rs := l1 ++ f' :: l2 } :=
 { h with
  rs := zd1 (e ▸ h.rs) o
  nr := by have := h.nr; rw [e] at this; simpa using this }
section
variable {r : Nat} {σ : Sto} {B : BP} {Q : QP} {N : Nat} {g : MB} {L : Lg} {f : RB}
theorem h_at (H : Has σ (tled g)) {i : Nat} (hi : i < 3) {n : Int} (hn : n = i) : ∀ k, idxW σ (.ref g.w) (.int n) k = k (g.getH i) := fun k => by
 rcases zep hi with rfl | rfl | rfl <;> exact ix H.gw hn rfl
theorem c_53 {v : Va} {i : Nat} (hi : i < 3) {n : Int} (hn : n = i) (H : Hold σ (sted g ++ L)) (hq : ∀ σ', Hold σ' (sted (g.setH i v) ++ L) → Q .none σ') : zac tab (r+1) 53 [.ref g.l, .int n, v] σ B Q := by
 subst hn
 refine zsy ?_
 have h1 := H.tl
 replace H := H.to5
 refine zai (n := 1) h1.gl (i := 1) rfl rfl ?_
 refine zbe h1.gw (by simp; exact hi) ?_
 rcases zep hi with rfl | rfl | rfl
 ·replace H := H.up (u' := .list [v, g.n1, g.n2]) (.there .here)
  walk_at "lw"
  try rw [if_pos (by decide)]
  refine zai (n := 0) (H.nth 0 rfl) (i := 0) rfl rfl ?_
  refine zad (H.nth 3 rfl) ?_
  walk_at "lw"
  exact ⟨by simp, _, .refl _, hq _ (Hold.of5 (g := { g with n0 := v }) (H.up (.there (.there (.there .here)))))⟩
 ·replace H := H.up (u' := .list [g.n0, v, g.n2]) (.there .here)
  walk_at "lw"
  try rw [if_neg (by decide)]
  walk_at "lw"
  try rw [if_pos (by decide)]
  refine zai (n := 0) (H.nth 0 rfl) (i := 0) rfl rfl ?_
  refine zad (H.nth 3 rfl) ?_
  walk_at "lw"
  exact ⟨by simp, _, .refl _, hq _ (Hold.of5 (g := { g with n1 := v }) (H.up (.there (.there (.there .here)))))⟩
 ·replace H := H.up (u' := .list [g.n0, g.n1, v]) (.there .here)
  walk_at "lw"
  try rw [if_neg (by decide)]
  walk_at "lw"
  try rw [if_neg (by decide)]
  refine zai (n := 0) (H.nth 0 rfl) (i := 0) rfl rfl ?_
  refine zad (H.nth 3 rfl) ?_
  walk_at "lw"
  exact ⟨by simp, _, .refl _, hq _ (Hold.of5 (g := { g with n2 := v }) (H.up (.there (.there (.there .here)))))⟩
theorem c_54 {v : Va} {i : Nat} (hi : i < 5) {n : Int} (hn : n = i) (H : Hold σ (rl3 f ++ L)) (hq : ∀ σ', Hold σ' (rl3 (f.set i v) ++ L) → Q .none σ') : zac tab (r+1) 54 [.ref f.pr, .int n, v] σ B Q := by
 subst hn
 refine zsx ?_
 walk_at "lw"
 have h1 := H.nth 0 rfl
 have h2 := H.nth 1 rfl
 refine zai (n := 1) h1 (i := 1) rfl rfl ?_
 refine zbe h2 (by simp; exact hi) ?_
 rcases zll hi with rfl | rfl | rfl | rfl | rfl
 ·replace H := H.up (u' := .list [v, f.a1, f.a2, f.a3, f.a4]) (.there .here)
  walk_at "lw"
  try rw [if_pos (by decide)]
  refine zai (n := 0) (H.nth 0 rfl) (i := 0) rfl rfl ?_
  refine zad (H.nth 2 rfl) ?_
  walk_at "lw"
  exact ⟨by simp, _, .refl _, hq _ (H.up (.there (.there .here)))⟩
 ·replace H := H.up (u' := .list [f.a0, v, f.a2, f.a3, f.a4]) (.there .here)
  walk_at "lw"
  try rw [if_neg (by decide)]
  walk_at "lw"
  try rw [if_pos (by decide)]
  refine zai (n := 0) (H.nth 0 rfl) (i := 0) rfl rfl ?_
  refine zad (H.nth 2 rfl) ?_
  walk_at "lw"
  exact ⟨by simp, _, .refl _, hq _ (H.up (.there (.there .here)))⟩
 ·replace H := H.up (u' := .list [f.a0, f.a1, v, f.a3, f.a4]) (.there .here)
  walk_at "lw"
  try rw [if_neg (by decide)]
  walk_at "lw"
  try rw [if_neg (by decide)]
  walk_at "lw"
  try rw [if_pos (by decide)]
  refine zai (n := 0) (H.nth 0 rfl) (i := 0) rfl rfl ?_
  refine zad (H.nth 2 rfl) ?_
  walk_at "lw"
  exact ⟨by simp, _, .refl _, hq _ (H.up (.there (.there .here)))⟩
 ·replace H := H.up (u' := .list [f.a0, f.a1, f.a2, v, f.a4]) (.there .here)
  walk_at "lw"
  try rw [if_neg (by decide)]
  walk_at "lw"
  try rw [if_neg (by decide)]
  walk_at "lw"
  try rw [if_neg (by decide)]
  walk_at "lw"
  try rw [if_pos (by decide)]
  refine zai (n := 0) (H.nth 0 rfl) (i := 0) rfl rfl ?_
  refine zad (H.nth 2 rfl) ?_
  walk_at "lw"
  exact ⟨by simp, _, .refl _, hq _ (H.up (.there (.there .here)))⟩
 ·replace H := H.up (u' := .list [f.a0, f.a1, f.a2, f.a3, v]) (.there .here)
  walk_at "lw"
  try rw [if_neg (by decide)]
  walk_at "lw"
  try rw [if_neg (by decide)]
  walk_at "lw"
  try rw [if_neg (by decide)]
  walk_at "lw"
  try rw [if_neg (by decide)]
  refine zai (n := 0) (H.nth 0 rfl) (i := 0) rfl rfl ?_
  refine zad (H.nth 2 rfl) ?_
  walk_at "lw"
  exact ⟨by simp, _, .refl _, hq _ (H.up (.there (.there .here)))⟩
theorem zr5 {τ : Sto} (h : τ f.ro = some (.list [f.a0, f.a1, f.a2, f.a3, f.a4])) {i : Nat} (hi : i < 5) {n : Int} (hn : n = i) {k : Va → Prop} : idxW τ (.ref f.ro) (.int n) k = k (f.get i) := by
 rcases zll hi with rfl | rfl | rfl | rfl | rfl <;> exact ix h hn rfl
theorem c_55 {y : Int} (h0 : 0 ≤ y) (hy : y < 100000000) (H : Hold σ L) (hq : ∀ σ' f, OkR f → Hold σ' (rl3 f ++ L) → Q (.ref f.pr) σ') : zac tab (r+2) 55 [.int y] σ B Q := by
 refine zsw ?_
 walk_at "lw"
 refine ⟨by decide, by decide, c_27 ⟨⟨by exact Int.lt_of_lt_of_le (by decide) h0, by exact Int.lt_of_lt_of_le hy (by decide)⟩, by decide, by decide, c_30 ⟨by decide, c_30 ?_⟩⟩⟩
 intro ro hro
 obtain ⟨m, hm, hm'⟩ := zju y
 obtain ⟨c, hc, hc'⟩ := zbs (y := y * 4294967) (n := 4294967296) (by decide)
 walk_at "lw"
 rw [hm]
 walk_at "lw"
 rw [show y * 4294967 % 4294967296 = (c : Int) from hc]
 have k1 := zc4 (y / 12)
 have k3 := zc6 (y / 3)
 have k4 := zc6 (y / 5)
 generalize Va.int (wide (y / 12)) = v1 at *
 generalize Va.bytes (zgc (y / 3)) = v3 at *
 generalize Va.bytes (zgc (y / 5)) = v4 at *
 replace H := H.new hro (.list [.int m, v1, .int c, v3, v4])
 refine zai (H.nth 0 rfl) (i := 0) rfl rfl (zai (H.nth 0 rfl) (i := 1) rfl rfl (zai (H.nth 0 rfl) (i := 2) rfl rfl (zai (H.nth 0 rfl) (i := 3) rfl rfl (zai (H.nth 0 rfl) (i := 4) rfl rfl fun ru hru => ?_))))
 replace H := H.new hru (.inst 23 [])
 refine c_224 (H.nth 0 rfl) ⟨rfl, ?_⟩
 replace H := H.set (.inst 23 [(15, .int m), (4, v1), (16, .int c), (5, v3), (6, v4)])
 intro pr hpr
 replace H := H.new hpr (.list [.ref ru, .ref ro])
 refine zax (hq _ ⟨pr, ru, ro, .int m, v1, .int c, v3, v4⟩ ⟨⟨m, rfl, hm'⟩, k1, ⟨c, rfl, by lia -abstractProof⟩, k3, k4⟩ (H.perm (zcv [_, _, _] [L] (.cs (.l 0) [0, 1, 2]) (.cs (.l 0) [0, 2, 1]) rfl)))
theorem c_56 {y : Int} (h0 : 0 ≤ y) (hy : y < 100000000) (H : Hold σ (sted g ++ L)) (ok : OkM N g) (hN : N ≤ 1000) (hq : ∀ σ' g', g'.l = g.l → OkM (N + 1) g' → Hold σ' (sted g' ++ L) → Q .none σ') : zac tab (r+3) 56 [.ref g.l, .int y] σ B Q := by
 refine zsv ?_
 have nr := ok.nr
 refine c_55 h0 hy H fun σ1 f of H => ?_
 have e : (rl3 f ++ (sted g ++ L)).Perm (five g ++ (rl3 f ++ (rled g.rs ++ L))) :=
  (List.Perm.append_left _ five_perm).trans zeh
 have hpr := H.nth 0 rfl
 replace H := H.perm e
 refine zai (n := 0) (H.nth 0 rfl) (i := 0) rfl rfl ?_
 refine zar (H.nth 3 rfl) (show getF _ 20 = some (.ref g.U) from rfl) ?_
 walk_at "lw"
 refine And.intro (.inl (zan (H.nth 4 rfl))) ?_
 refine zai (n := 0) hpr (i := 0) rfl rfl ?_
 walk_at "lw"
 rw [za0 (H.nth 4 rfl)]
 walk_at "lw"
 refine ⟨rfl, by simp [zap]; exact Nat.lt_of_le_of_lt nr (Nat.lt_of_le_of_lt hN (by decide)), ?_⟩
 replace H := H.up (u' := .list (g.rs.map (fun f => Va.ref f.ru) ++ [.ref f.ru])) (.there (.there (.there (.there .here))))
 refine zai (n := 3) (H.nth 0 rfl) (i := 3) rfl rfl ?_
 walk_at "lw"
 rw [zan (H.nth 2 rfl)]
 walk_at "lw"
 rw [za0 (H.nth 2 rfl)]
 walk_at "lw"
 refine ⟨.inl (by trivial), rfl, by simp [zap]; exact Nat.lt_of_le_of_lt nr (Nat.lt_of_le_of_lt hN (by decide)), _, .refl _, ?_⟩
 replace H := H.up (u' := .list (g.rs.map (fun f => Va.ref f.pr) ++ [.ref f.pr])) (.there (.there .here))
 refine hq _ { g with rs := g.rs ++ [f] } rfl ?_ (H.perm (zpj (g := g) (f := f)))
 ·walk_at "lw"
  exact { ok.mono (Nat.le_succ N) with
   rs := zco ok.rs (of)
   nr := by simp; exact nr }
theorem c_57 {y : Int} (h0 : 0 ≤ y) (hy : y < 100000000) (H : Hold σ (sted g ++ L)) (ok : OkM N g) (hN : N ≤ 1000) (hq : ∀ σ' g', g'.l = g.l → OkM N g' → Hold σ' (sted g' ++ L) → Q .none σ') : zac tab (r+3) 57 [.ref g.l, .int y] σ B Q := by
 refine zsu ?_
 have nf := ok.nr
 have h1 := H.tl
 refine zai (n := 3) h1.gl (i := 3) rfl rfl ?_
 refine za7 h1.gu ?_
 walk_at "lw"
 by_cases hz : g.rs.length = 0
 ·refine zba (by simp [hz]) ?_
  exact zax (hq _ _ rfl ok H)
 refine zau (by simpa using hz) ?_
 refine zai (n := 3) h1.gl (i := 3) rfl rfl ?_
 walk_at "lw"
 rw [ix (n := 3) h1.gl (i := 3) rfl rfl]
 walk_at "lw"
 rw [zbn h1.gu]
 walk_at "lw"
 rw [List.length_map]
 obtain ⟨k, hk, hk'⟩ := zbs (y := y / 5) (n := g.rs.length) (by exact Nat.pos_of_ne_zero hz)
 obtain ⟨i, hi, hi'⟩ := zbs (y := y) (n := 5) (by decide)
 walk_at "lw"
 rw [hk]
 walk_at "lw"
 rw [zbb h1.gu (by exact Int.natCast_nonneg _) (by rw [Int.toNat_natCast]; exact getElem?_map_some hk')]
 have of := ok.rs _ (List.getElem_mem hk')
 have hpr := h1.gpr (List.getElem_mem hk')
 have hro := h1.gro (List.getElem_mem hk')
 obtain ⟨l1, l2, e, _⟩ := zb1 hk'
 generalize g.rs[k] = f at *
 obtain ⟨M, hM⟩ := zki (L := L) e
 walk_at "lw"
 refine ⟨by decide, ⟨by exact Int.ofNat_lt.mpr (Nat.pos_of_ne_zero hz), by lia -abstractProof⟩, by decide, by decide, ?_⟩
 walk_at "lw"
 rw [show y % 5 = (i : Int) from hi]
 refine zai (n := 1) hpr (i := 1) rfl rfl ?_
 walk_at "lw"
 rw [zr5 hro hi' rfl]
 have s54 : ∀ {v : Va}, rOk i v → zac tab (r + 2) 54 [.ref f.pr, .int i, v] σ (ExB B) (fun _ => ExR Q .none) := fun {v} hv => by
  refine c_54 (f := f) hi' rfl (H.perm (by have := hM f ⟨rfl, rfl, rfl⟩; rwa [← e] at this)) fun σ' H' => ?_
  exact zax (hq _ { g with rs := l1 ++ f.set i v :: l2 } rfl (ok.run e (of.set hi' hv)) (H'.perm (hM _ RB.set_same).symm))
 rcases zll hi' with rfl | rfl | rfl | rfl | rfl
 ·obtain ⟨a, ea, ha⟩ := of.a0
  walk_at "lw"
  try rw [if_pos (by decide)]
  walk_at "lw"
  rw [show f.get 0 = .int a from ea]
  walk_at "lw"
  obtain ⟨m, hm, hm'⟩ := zju ((a : Int) + 1 + y / 10 % 11)
  walk_at "lw"
  rw [hm]
  walk_at "lw"
  exact ⟨by decide, by decide, s54 ⟨m, rfl, hm'⟩⟩
 ·walk_at "lw"
  try rw [if_neg (by decide)]
  walk_at "lw"
  try rw [if_pos (by decide)]
  exact c_28 of.a1 fun v hv => s54 hv
 ·obtain ⟨a, ea, ha⟩ := of.a2
  walk_at "lw"
  try rw [if_neg (by decide)]
  walk_at "lw"
  try rw [if_neg (by decide)]
  walk_at "lw"
  try rw [if_pos (by decide)]
  walk_at "lw"
  rw [show f.get 2 = .int a from ea]
  walk_at "lw"
  obtain ⟨m, hm, hm'⟩ := zbs (y := (a : Int) + 1 + y / 10 * 65537) (n := 4294967296) (by decide)
  walk_at "lw"
  rw [show ((a : Int) + 1 + y / 10 * 65537) % 4294967296 = m from hm]
  walk_at "lw"
  exact ⟨⟨by lia -abstractProof, by exact Int.lt_of_le_of_lt (Int.ediv_le_self _ h0) (Int.lt_of_lt_of_le hy (by decide))⟩, by decide, s54 ⟨m, rfl, by lia -abstractProof⟩⟩
 ·walk_at "lw"
  try rw [if_neg (by decide)]
  walk_at "lw"
  try rw [if_neg (by decide)]
  walk_at "lw"
  try rw [if_neg (by decide)]
  exact zi2 (.inr (let ⟨c, h, _⟩ := of.a3; ⟨c, h⟩)) fun v hv => s54 hv
 ·walk_at "lw"
  try rw [if_neg (by decide)]
  walk_at "lw"
  try rw [if_neg (by decide)]
  walk_at "lw"
  try rw [if_neg (by decide)]
  exact zi2 (.inr (let ⟨c, h, _⟩ := of.a4; ⟨c, h⟩)) fun v hv => s54 hv
end
end
section
section
variable {r : Nat} {σ : Sto} {B : BP} {Q : QP} {N : Nat} {g : MB} {L : Lg} {f : RB}
theorem zpl {i : Nat} {far : Int} (ok : OkM N g) (hN : N ≤ 60) (hi : i < 3) (hf : far < 0 ∨ 18446744073709551615 < far) (hf' : -(2 ^ 80) < far ∧ far < 2 ^ 80) : TyM (g.setH i (.int far)) ∧ cat (chM (g.setH i (.int far))) = none := by
 have t := ok.ty hN
 rcases zep hi with rfl | rfl | rfl
 ·exact ⟨{ t with n0 := ⟨far, rfl, hf'⟩ }, zcf (show none ∈ cI (.int far) :: _ from ze3 hf ▸ .head _)⟩
 ·exact ⟨{ t with n1 := ⟨far, rfl, hf'⟩ }, zcf (.tail _ (show none ∈ cI (.int far) :: _ from ze3 hf ▸ .head _))⟩
 ·exact ⟨{ t with n2 := ⟨far, rfl, hf'⟩ }, zcf (.tail _ (.tail _ (show none ∈ cI (.int far) :: _ from ze3 hf ▸ .head _)))⟩
theorem znt {far : Int} {i : Nat} {l1 l2 : List RB} (ok : OkM N g) (hN : N ≤ 60) (e : g.rs = l1 ++ f :: l2) (hi : i < 3) (hf : i ≠ 2 → far < 0 ∨ 18446744073709551615 < far) (hf2 : far < 0 ∨ 4294967295 < far) (hf' : -(2 ^ 80) < far ∧ far < 2 ^ 80) :
  TyM { g with rs := l1 ++ f.set i (.int far) :: l2 } ∧ cat (chM { g with rs := l1 ++ f.set i (.int far) :: l2 }) = none := by
 have t := ok.ty hN
 have tf := t.rs f (by rw [e]; simp)
 have ty : TyR (f.set i (.int far)) := by
  rcases zep hi with rfl | rfl | rfl
  ·exact { tf with a0 := ⟨far, rfl, hf'⟩ }
  ·exact { tf with a1 := ⟨far, rfl, hf'⟩ }
  ·exact { tf with a2 := ⟨far, rfl, hf'⟩ }
 have hc : none ∈ cR (f.set i (.int far)) := by
  rcases zep hi with rfl | rfl | rfl
  ·exact show none ∈ cI (.int far) :: _ from ze3 (hf (by decide)) ▸ .head _
  ·exact .tail _ (show none ∈ cI (.int far) :: _ from ze3 (hf (by decide)) ▸ .head _)
  ·exact .tail _ (.tail _ (show none ∈ cX (.int far) :: _ from cX_far hf2 ▸ .head _))
 refine ⟨{ t with rs := fun x hx => ?_, nr := by have := t.nr; rw [e] at this; simpa using this }, zcf ?_⟩
 ·exact zd1 (e ▸ t.rs) ty x hx
 ·have : none ∈ (l1 ++ f.set i (.int far) :: l2).flatMap cR := List.mem_flatMap.mpr ⟨_, zjv, hc⟩
  unfold chM
  exact .tail _ (.tail _ (.tail _ (.tail _ (.tail _ this))))
theorem c_58 {y : Int} (h0 : 0 ≤ y) (hy : y < 100000000) (H : Hold σ (sted g ++ L)) (ok : OkM N g) (hN : N ≤ 60) (hq : ∀ σ', Hold σ' (sted g ++ L) → Q (.bool true) σ') : zac tab (r+6) 58 [.ref g.l, .int y] σ B Q := by
 apply zst
 unfold b58
 have nf := ok.nr
 have h1 := H.tl
 obtain ⟨i, hi, hi'⟩ := zbs (y := y) (n := 3) (by decide)
 walk_at "lw"
 walk_at "lw"
 rw [show y % 3 = (i : Int) from hi]
 refine And.intro (by decide) ?_
 refine zai (n := 1) h1.gl (i := 1) rfl rfl ?_
 walk_at "lw"
 rw [h_at h1 hi' rfl]
 refine And.intro (by decide) (ztz (by exact Int.ediv_nonneg h0 (by decide)) (by exact Int.lt_of_le_of_lt (Int.ediv_le_self _ h0) hy) fun far hf hf' => ?_)
 refine c_53 hi' rfl H fun σ1 H1 => ?_
 obtain ⟨t1, k1⟩ := zpl ok hN hi' hf hf'
 walk_at "lw"
 rw [show g.l = (g.setH i (.int far)).l from setH_l.symm]
 refine zai (n := 0) H1.tl.gl (i := 0) rfl rfl ?_
 refine zty H1.ml t1 k1 ?_
 refine c_53 hi' rfl H1 fun σ2 H2 => ?_
 rw [zmx hi', zmy hi'] at H2
 walk_at "lw"
 rw [setH_l]
 have h2 := H2.tl
 refine zai (n := 3) h2.gl (i := 3) rfl rfl ?_
 refine za7 h2.gu ?_
 walk_at "lw"
 by_cases hz : g.rs.length = 0
 ·refine zau (by simp [hz]) ?_
  exact zax (hq _ H2)
 refine zba (by simp; exact Nat.pos_of_ne_zero hz) ?_
 obtain ⟨k, hk, hk'⟩ := zbs (y := y / 9) (n := g.rs.length) (by exact Nat.pos_of_ne_zero hz)
 obtain ⟨j, hj, hj'⟩ := zbs (y := y / 27) (n := 3) (by decide)
 refine zai (n := 3) h2.gl (i := 3) rfl rfl ?_
 walk_at "lw"
 rw [ix (n := 3) h2.gl (i := 3) rfl rfl]
 walk_at "lw"
 rw [zbn h2.gu]
 walk_at "lw"
 rw [List.length_map]
 walk_at "lw"
 rw [hk]
 walk_at "lw"
 rw [zbb h2.gu (by exact Int.natCast_nonneg _) (by rw [Int.toNat_natCast]; exact getElem?_map_some hk')]
 have of := ok.rs _ (List.getElem_mem hk')
 have hpr := h2.gpr (List.getElem_mem hk')
 have hro := h2.gro (List.getElem_mem hk')
 obtain ⟨l1, l2, e, _⟩ := zb1 hk'
 generalize g.rs[k] = f at *
 obtain ⟨M, hM⟩ := zki (L := L) e
 walk_at "lw"
 refine ⟨by decide, ⟨by exact Int.ofNat_lt.mpr (Nat.pos_of_ne_zero hz), by lia⟩, by decide, by decide, ?_⟩
 walk_at "lw"
 rw [show y / 27 % 3 = (j : Int) from hj]
 refine zai (n := 1) hpr (i := 1) rfl rfl ?_
 walk_at "lw"
 rw [zr5 hro (by exact Nat.lt_of_lt_of_le hj' (by decide)) rfl]
 refine And.intro (by decide) (ztz (by exact Int.ediv_nonneg h0 (by decide)) (by exact Int.lt_of_le_of_lt (Int.ediv_le_self _ h0) hy) fun far hf hf' => ?_)
 refine c_54 (f := f) (i := j) (by exact Nat.lt_of_lt_of_le hj' (by decide)) rfl (H2.perm (by have := hM f ⟨rfl, rfl, rfl⟩; rwa [← e] at this)) fun σ3 H3 => ?_
 have H3' := H3.perm (hM _ RB.set_same).symm
 obtain ⟨t3, k3⟩ := znt ok hN e hj' (fun _ => hf) (by lia) hf'
 refine zai (a := g.l) (n := 0) H3'.tl.gl (i := 0) rfl rfl ?_
 refine zty (g := { g with rs := l1 ++ f.set j (Va.int far) :: l2 }) H3'.ml t3 k3 ?_
 walk_at "lw"
 rw [show f.pr = (f.set j (.int far)).pr from RB.set_same.1.symm]
 refine c_54 (f := f.set j (.int far)) (i := j) (by exact Nat.lt_of_lt_of_le hj' (by decide)) rfl H3 fun σ4 H4 => ?_
 rw [RB.set_set (by exact Nat.lt_of_lt_of_le hj' (by decide)), RB.set_get (by exact Nat.lt_of_lt_of_le hj' (by decide))] at H4
 walk_at "lw"
 rw [RB.set_same.1]
 have hp4 := H4.nth 0 rfl
 refine zai (n := 1) hp4 (i := 1) rfl rfl ?_
 walk_at "lw"
 rw [zr5 (H4.nth 1 rfl) (i := 2) (n := 2) (by decide) rfl]
 refine c_54 (f := f) (i := 2) (by decide) rfl H4 fun σ5 H5 => ?_
 have H5' := H5.perm (hM _ RB.set_same).symm
 obtain ⟨t5, k5⟩ := znt (far := 4294967296 + y) (i := 2) ok hN e (by decide) (fun z => absurd rfl z) (by lia) ⟨by lia, by lia⟩
 refine zai (a := g.l) (n := 0) H5'.tl.gl (i := 0) rfl rfl ?_
 refine zty (g := { g with rs := l1 ++ f.set 2 (.int (4294967296 + y)) :: l2 }) H5'.ml t5 k5 ?_
 walk_at "lw"
 rw [show f.pr = (f.set 2 (.int (4294967296 + y))).pr from RB.set_same.1.symm]
 refine c_54 (f := f.set 2 (.int (4294967296 + y))) (i := 2) (by exact by decide) rfl H5 fun σ6 H6 => ?_
 rw [RB.set_set (by exact by decide), RB.set_get (by exact by decide)] at H6
 refine zax (hq _ (H6.perm ?_))
 have := hM f ⟨rfl, rfl, rfl⟩
 rw [← e] at this
 exact this.symm
noncomputable def hl (a : Addr) (gs : List MB) : Lg := (a, .list (gs.map fun g => .ref g.l)) :: gs.flatMap sted
structure Gs (N : Nat) (gs : List MB) : Prop where
 ok : ∀ g ∈ gs, OkM N g
 pos : 1 ≤ gs.length
 le : gs.length ≤ 3
theorem Gs.put {N M : Nat} {l1 l2 : List MB} {g g' : MB} (h : Gs N (l1 ++ g :: l2)) (k : N ≤ M) (o : OkM M g') : Gs M (l1 ++ g' :: l2) := by
 refine ⟨fun x hx => ?_, by simp; exact Nat.le_trans (Nat.le_add_left _ _) (Nat.le_add_left _ _), by have := h.le; simpa using this⟩
 exact zd1 (P := OkM M) (fun x hx => (h.ok x hx).mono k) o x hx
variable {a : Addr} {gs : List MB}
theorem zch (H : Hold σ (hl a gs ++ L)) : σ a = some (.list (gs.map fun b => .ref b.l)) := H.nth 0 rfl
theorem hl_b (H : Hold σ (hl a gs ++ L)) {g : MB} (hb : g ∈ gs) : Has σ (sted g) := fun q hq => H.1 q (.tail _ (List.mem_append_left _ (List.mem_flatMap.mpr ⟨g, hb, hq⟩)))
theorem hl_at (H : Hold σ (hl a gs ++ L)) {i : Nat} (hi : i < gs.length) {n : Int} (hn : n = i) : ∀ k, idxW σ (.ref a) (.int n) k = k (.ref gs[i].l) := fun k => by
 subst hn
 exact zbb (zch H) (by exact Int.natCast_nonneg _) (by rw [Int.toNat_natCast]; exact getElem?_map_some hi)
theorem zfe {l1 l2 : List MB} {g g' : MB} (e : g'.l = g.l) : (hl a (l1 ++ g' :: l2) ++ L).Perm (sted g' ++ ((a, .list ((l1 ++ g :: l2).map fun b => .ref b.l)) :: (l1.flatMap sted ++ (l2.flatMap sted ++ L)))) := by
 unfold hl
 rw [List.map_append, List.map_append, List.map_cons, List.map_cons, e, List.flatMap_append, List.flatMap_cons]
 exact zcv [_] [l1.flatMap sted, sted g', l2.flatMap sted, L] (.a (.c 0 (.r 0 [1, 2])) (.l 3)) (.a (.l 1) (.c 0 (.r 0 [2, 3]))) rfl
theorem znl (H : Hold σ (hl a gs ++ L)) {i : Nat} (hi : i < gs.length) (ok : Gs N gs) : Ex2 fun (b : MB) (M : Lg) => A4 ((∀ k, idxW σ (.ref a) (.int i) k = k (.ref b.l))) (OkM N b) (Hold σ (sted b ++ M)) (∀ σ' b' K, b'.l = b.l → N ≤ K → OkM K b' → Hold σ' (sted b' ++ M) → ∃ gs', A3 (Gs K gs') (i < gs'.length) (Hold σ' (hl a gs' ++ L))) := by
 have hg := hl_at H hi rfl
 have ob := ok.ok _ (List.getElem_mem hi)
 obtain ⟨l1, l2, e, hl1⟩ := zb1 hi
 generalize gs[i] = b at *
 subst e
 exact ⟨b, _, hg, ob, H.perm (zfe rfl), fun σ' b' K e hK o z => ⟨l1 ++ b' :: l2, ok.put hK o, by simpa using hi, z.perm (zfe e).symm⟩⟩
end
end
section
theorem OkR.congr {f g : RB} (h : OkR g) (e : f.v = g.v) : OkR f := by
 obtain ⟨p, q, s, a, b, c, d, x⟩ := f
 simp only [RB.v, Prod.mk.injEq] at e
 obtain ⟨rfl, rfl, rfl, rfl, rfl⟩ := e
 exact ⟨h.a0, h.a1, h.a2, h.a3, h.a4⟩
noncomputable def RB.vm (f : RB) : (Va × Va × Va × Va × Va) × Addr := (f.v, f.ru)
theorem vm_er {l m : List RB} (h : l.map RB.vm = m.map RB.vm) : (l.map fun f => Va.ref f.ru) = (m.map fun f => Va.ref f.ru) ∧ l.map RB.el = m.map RB.el ∧ l.map RB.v = m.map RB.v := by
 have e1 : ∀ l : List RB, (l.map fun f => Va.ref f.ru) = (l.map RB.vm).map fun p => .ref p.2 := fun l => by rw [List.map_map]; rfl
 have e2 : ∀ l : List RB, l.map RB.el = (l.map RB.vm).map fun p => (p.2, ruI p.1.1 p.1.2.1 p.1.2.2.1 p.1.2.2.2.1 p.1.2.2.2.2) := fun l => by rw [List.map_map]; rfl
 have e3 : ∀ l : List RB, l.map RB.v = (l.map RB.vm).map fun p => p.1 := fun l => by rw [List.map_map]; rfl
 rw [e1, e1, e2, e2, e3, e3, h]
 exact ⟨rfl, rfl, rfl⟩
section
variable {r : Nat} {σ : Sto} {B : BP} {Q : QP} {N : Nat} {g : MB} {L : Lg} {a : Addr} {gs : List MB}
theorem c_59 {y : Int} {i : Nat} (h0 : 0 ≤ y) (hy : y < 100000000) (H : Hold σ (hl a gs ++ L)) (ok : Gs N gs) (hi : i < gs.length) (hN : N ≤ 58) (hq : ∀ σ' gs', Gs (N + 2) gs' → i < gs'.length → Hold σ' (hl a gs' ++ L) → Q (.bool true) σ') :
  zac tab (r+8) 59 [.ref a, .int i, .int y] σ B Q := by
 refine zss ?_
 have hg := hl_at H hi rfl
 have ob := ok.ok _ (List.getElem_mem hi)
 obtain ⟨l1, l2, e, hl1⟩ := zb1 hi
 generalize gs[i] = b at *
 subst e
 replace H := H.perm (zfe (g := b) rfl)
 generalize hM : (l1.flatMap sted ++ (l2.flatMap sted ++ L)) = M at H
 generalize hV : UOb.list ((l1 ++ b :: l2).map fun b => .ref b.l) = V at H
 have nf := ob.nr
 obtain ⟨n0, n1, n2, cf, rl, k0, k1, k2, k3, k4, k5, hmv, hcat, hfl⟩ := zpo ob (by exact Nat.le_trans hN (by decide))
 refine asg (v := .ref b.l) (fun Q h => by walk_at "lw"; rw [hg]; exact h) ?_
 refine asgP (fun v τ => ∃ (b' : MB), A3 (v = .ref b'.m) (b'.mv = b.mv) (Hold τ (mled b' ++ (sted b ++ ((a, V) :: M))))) (fun Q h => ?_) ?_
 ·refine zai (n := 0) H.tl.gl (i := 0) rfl rfl ?_
  refine zay H.ml.gm (show mth 24 6 = some 229 from rfl) ?_
  refine zql H.ml (ob.ty (by exact Nat.le_trans hN (by decide))) (fun z => by rw [hcat] at z; cases z) fun c hc => ?_
  obtain rfl := Option.some.inj (hcat.symm.trans hc)
  exact c_25 (by exact Nat.le_trans hfl (by decide)) rfl k0 k1 k2 k3 k4 k5 H fun b' σ' he H' => h _ _ ⟨b', rfl, he.trans hmv.symm, H'⟩
 rintro _ τ ⟨b', rfl, he, H⟩
 have hl' : b'.rs.length = b.rs.length := by have := congrArg (fun v => v.rs.length) he; simpa [MB.mv] using this
 have hv : b'.rs.map RB.v = b.rs.map RB.v := congrArg MV.rs he
 have E1 : Has τ (mled b') := H.has
 have S1 : Has τ (tled b) := fun q hq => H.1 q (List.mem_append_right _ (List.mem_append_left _ (List.mem_append_left _ hq)))
 refine zck (b := false) (fun Q h => ?_) (fun z => nomatch z) fun _ => ?_
 ·refine zar E1.gm (show getF _ 20 = some (.ref b'.U) from rfl) ?_
  refine zb9 E1.gU ?_
  refine zai (n := 3) S1.gl (i := 3) rfl rfl ?_
  refine za7 S1.gu ?_
  walk_at "lw"
  rw [List.length_map]
  walk_at "lw"
  rw [hl']
  walk_at "lw"
  simpa using h
 refine asgP (fun v τ => Ex2 fun (u : Addr) (done : List RB) => A3 (v = .ref u) (done.map RB.vm = b'.rs.map RB.vm) (Hold τ ((u, .list (done.map fun f => .ref f.pr)) :: (done.flatMap RB.sl ++ (mled b' ++ (sted b ++ ((a, V) :: M))))))) (fun Q h => ?_) ?_
 ·refine zai (n := 3) S1.gl (i := 3) rfl rfl ?_
  refine za7 S1.gu ?_
  refine And.intro ⟨by exact by decide, by exact ⟨(by decide), ⟨(Int.lt_of_lt_of_le (by decide) (Int.natCast_nonneg _)), (Int.ofNat_lt.mpr (Nat.lt_of_le_of_lt nf (Nat.lt_of_le_of_lt hN (by decide))))⟩⟩⟩ ?_
  refine zbi (N := b.rs.length) (fun m s => ∃ (done : List RB), A3 (s.2 = (done.map fun f => .ref f.pr)) (done.map RB.vm = (b'.rs.take m).map RB.vm) (Hold s.1 (done.flatMap RB.sl ++ (mled b' ++ (sted b ++ ((a, V) :: M)))))) ?_ ?_ ⟨[], rfl, by simp, H⟩
  ·rintro m ⟨τ, acc⟩ K hm ⟨done, rfl, hd, H⟩ hk
   have hm' : m < b'.rs.length := by exact Nat.lt_of_lt_of_le hm (Nat.le_of_eq hl'.symm)
   have E1 : Has τ (mled b') := fun q hq => H.1 q (List.mem_append_right _ (List.mem_append_left _ hq))
   have S1 : Has τ (tled b) := fun q hq => H.1 q (List.mem_append_right _ (List.mem_append_right _ (List.mem_append_left _ (List.mem_append_left _ hq))))
   have hdl : done.length = m := by have := congrArg List.length hd; simp at this; lia -abstractProof
   walk_at "lw"
   refine ⟨.int m, by simp [za2]; exact hm, ?_⟩
   walk_at "lw"
   simp only [zem, asP, zfs]
   walk_at "lw"
   have hv' : b'.rs[m].v = b.rs[m].v := by
    have := congrArg (fun l => l[m]?) hv
    simpa [List.getElem?_map, List.getElem?_eq_getElem hm, List.getElem?_eq_getElem hm'] using this
   have hpr := S1.gpr (List.getElem_mem hm)
   have hro := S1.gro (List.getElem_mem hm)
   have gm : ∀ {k}, idxW τ (.ref b.u) (.int m) k = k (.ref b.rs[m].pr) := fun {k} => zbb S1.gu (by exact Int.natCast_nonneg _) (by rw [Int.toNat_natCast]; exact getElem?_map_some hm)
   have gA : ∀ {k}, idxW τ (.ref b'.U) (.int m) k = k (.ref b'.rs[m].ru) := fun {k} => zbb E1.gU (by exact Int.natCast_nonneg _) (by rw [Int.toNat_natCast]; exact getElem?_map_some hm')
   have htk : (b'.rs.take (m + 1)).map RB.vm = (b'.rs.take m).map RB.vm ++ [b'.rs[m].vm] := by rw [List.take_succ_eq_append_getElem hm', List.map_append]; rfl
   generalize b.rs[m] = f at *
   generalize b'.rs[m] = f' at *
   refine zar E1.gm (show getF _ 20 = some (.ref b'.U) from rfl) ?_
   walk_at "lw"
   rw [gA]
   refine zai (n := 3) S1.gl (i := 3) rfl rfl ?_
   walk_at "lw"
   rw [gm]
   refine zai (n := 1) hpr (i := 1) rfl rfl ?_
   refine zcp hro ?_
   intro ro hro'
   replace H := H.new hro' (.list [f.a0, f.a1, f.a2, f.a3, f.a4])
   intro pr hpr'
   replace H := H.new hpr' (.list [.ref f'.ru, .ref ro])
   refine And.intro (by simp [zap]; lia -abstractProof) (hk _ ⟨done ++ [⟨pr, f'.ru, ro, f.a0, f.a1, f.a2, f.a3, f.a4⟩], by rw [List.map_append]; rfl, ?_, H.perm (by rw [List.flatMap_append]; exact zcv [_, _] [_, _] (.cs (.r 0 [1]) [0, 1]) (.a (.a (.l 0) (.cs .n [0, 1])) (.l 1)) rfl)⟩)
   ·walk_at "lw"
    rw [List.map_append]
    walk_at "lw"
    rw [htk]
    walk_at "lw"
    rw [hd]
    walk_at "lw"
    simp only [List.map_cons, List.map_nil, RB.vm, hv']
    rfl
  ·rintro ⟨τ, acc⟩ ⟨done, rfl, hd, H⟩
   refine And.intro (by simp [za2]) (fun a ha => h _ _ ⟨a, done, rfl, ?_, H.new ha _⟩)
   walk_at "lw"
   rw [hd]
   walk_at "lw"
   rw [← hl']
   walk_at "lw"
   rw [List.take_length]
 rintro _ τ ⟨u, done, rfl, hd, H⟩
 have S1 : Has τ (tled b) := fun q hq => H.1 q (.tail _ (List.mem_append_right _ (List.mem_append_right _ (List.mem_append_left _ (List.mem_append_left _ hq)))))
 obtain ⟨v1, v2, v3⟩ := vm_er hd
 have e0 : b'.n0 = b.n0 := congrArg MV.n0 he
 have e1 : b'.n1 = b.n1 := congrArg MV.n1 he
 have e2 : b'.n2 = b.n2 := congrArg MV.n2 he
 have e3 : b'.cf = b.cf := congrArg MV.cf he
 refine asgP (fun v τ => ∃ (h : MB), A3 (v = .ref h.l) (OkM N h) (Hold τ (sted h ++ (sted b ++ ((a, V) :: M))))) (fun Q h => ?_) ?_
 ·refine zai (n := 1) S1.gl (i := 1) rfl rfl ?_
  refine zcp S1.gw ?_
  intro w hw
  have S1 := S1.le (Sto.le_set (u := .list [b.n0, b.n1, b.n2]) hw)
  replace H := H.new hw (.list [b.n0, b.n1, b.n2])
  refine zai (n := 2) S1.gl (i := 2) rfl rfl ?_
  intro l hl2
  replace H := H.new hl2 (.list [.ref b'.m, .ref w, b.cf, .ref u])
  refine h _ _ ⟨⟨l, b'.m, w, u, b'.U, b.n0, b.n1, b.n2, b.cf, done⟩, rfl, ?_, H.perm ?_⟩
  ·walk_at "lw"
   exact { ob with
    rs := fun f hf => by
     have : f.v ∈ done.map RB.v := List.mem_map_of_mem hf
     rw [v3, hv] at this
     obtain ⟨g, hg, e⟩ := List.mem_map.mp this
     exact (ob.rs g hg).congr e.symm
    nr := by have := congrArg List.length hd; simp at this; show done.length ≤ N; exact Nat.le_trans (Nat.le_of_eq this) (Nat.le_trans (Nat.le_of_eq hl') nf) }
  ·walk_at "lw"
   unfold sted mled
   rw [e0, e1, e2, e3, ← v1, ← v2]
   exact zcv [_, _, _] [_, _, _] (.cs (.r 0 [1, 2]) [0, 1, 2]) (.a (.a (.a (.cs .n [0, 1, 2]) (.l 0)) (.l 1)) (.l 2)) rfl
 rintro _ τ ⟨h, rfl, oh, H⟩
 have sw : ∀ {τ : Sto} {x y : MB} {K : Lg}, Hold τ (sted x ++ (sted y ++ K)) → Hold τ (sted y ++ (sted x ++ K)) := fun {τ x y K} z => z.perm zeh
 refine c_56 h0 hy (sw H) ob (by exact Nat.le_trans hN (by decide)) fun σ2 b2 f2 ob H => ?_
 refine c_57 h0 hy (sw H) oh (by exact Nat.le_trans hN (by decide)) fun σ3 h3 f3 oh H => ?_
 walk_at "lw"
 rw [← f2]
 refine And.intro (by decide) (c_57 (by exact Int.ediv_nonneg h0 (by decide)) (by exact Int.lt_of_le_of_lt (Int.ediv_le_self _ h0) hy) (sw H) ob (by exact Nat.lt_of_le_of_lt hN (by decide)) fun σ4 b4 f4 ob H => ?_)
 replace H := sw H
 walk_at "lw"
 rw [← f3]
 refine zai (n := 1) H.tl.gl (i := 1) rfl rfl ?_
 refine zai (n := 0) H.tl.gw (i := 0) rfl rfl ?_
 refine c_28 oh.n0 fun v hv => ?_
 refine c_53 (i := 0) (by decide) rfl H fun σ5 H => ?_
 replace oh := oh.setH (i := 0) (by decide) hv
 walk_at "lw"
 rw [show h3.l = (h3.setH 0 v).l from setH_l.symm]
 walk_at "lw"
 rw [← f4]
 generalize h3.setH 0 v = h6 at *
 refine c_52 H oh (by exact Nat.le_trans hN (by decide)) fun σ7 H => ?_
 refine c_52 (sw H) ob (by exact Nat.lt_of_le_of_lt hN (by decide)) fun σ8 H => ?_
 refine And.intro (by decide) ?_
 have ga : σ8 a = some V := H.get (List.mem_append_right _ (List.mem_append_right _ (.head _)))
 rw [← hV] at ga
 have upd : ∀ V', Hold (σ8.set a V') (sted b4 ++ (sted h6 ++ ((a, V') :: M))) := fun V' => by
  have z := (H.perm (zcv [_] [sted b4, sted h6, M] (.a (.l 0) (.a (.l 1) (.c 0 (.l 2)))) (.c 0 (.r 0 [1, 2])) rfl)).set V'
  exact z.perm (zcv [_] [sted b4, sted h6, M] (.c 0 (.r 0 [1, 2])) (.a (.l 0) (.a (.l 1) (.c 0 (.l 2)))) rfl)
 have hset : setIdxW σ8 (.ref a) (.int i) (.ref h6.l) (fun σ => ∃ τ, τ.Le σ ∧ Q (.bool true) τ) := by
  refine zbe ga (by simpa using hi) ?_
  have z := upd (.list (((l1 ++ b :: l2).map fun b => Va.ref b.l).set i (.ref h6.l)))
  refine zax (hq _ (l1 ++ h6 :: l2) (ok.put (by exact Nat.le_add_right _ _) (oh.mono (by exact Nat.le_add_right _ _))) (by simpa using hi) ?_)
  rw [zge (f := fun b : MB => Va.ref b.l) hl1] at z ⊢
  exact (z.sub (List.sublist_append_right _ _)).perm (hM ▸ (zfe (g := h6) rfl).symm)
 refine zav (fun _ => ?_) fun _ => hset
 walk_at "lw"
 refine za7 ga ?_
 refine zav (fun z => ?_) fun _ => hset
 walk_at "lw"
 rw [zan ga]
 walk_at "lw"
 rw [za0 ga]
 have hlen := of_decide_eq_true z
 refine ⟨.inl (by trivial), rfl, by have := ok.le; simp [zap] at this ⊢; exact Nat.lt_of_le_of_lt this (by decide), _, .refl _, ?_⟩
 have z2 := upd (.list (((l1 ++ b :: l2).map fun b => Va.ref b.l) ++ [.ref h6.l]))
 refine hq _ (l1 ++ b4 :: (l2 ++ [h6])) ?_ (by simp at hi ⊢; exact Nat.lt_of_lt_of_le hi (Nat.add_le_add_left (Nat.lt_succ_of_le (Nat.le_add_right _ _)) _)) (z2.perm ?_)
 ·walk_at "lw"
  refine ⟨fun x hx => zco (l := l1 ++ b4 :: l2) (zd1 (fun x hx => (ok.ok x hx).mono (by exact Nat.le_add_right _ _)) (ob.mono (by exact Nat.lt_add_of_pos_right (by decide)))) (oh.mono (by exact Nat.le_add_right _ _)) x (by simpa using hx), by simp; exact Nat.le_trans (Nat.le_add_left _ _) (Nat.le_add_left _ _), by simp at hlen ⊢; lia -abstractProof⟩
 ·walk_at "lw"
  subst hM
  have el : b4.l = b.l := f4.trans f2
  unfold hl
  rw [List.map_append, List.map_append, List.map_cons, List.map_cons, el, List.map_append, List.flatMap_append, List.flatMap_cons, List.flatMap_append, List.append_assoc]
  exact zcv [_] [sted b4, sted h6, l1.flatMap sted, l2.flatMap sted, L] (.a (.l 0) (.a (.l 1) (.c 0 (.r 2 [3, 4])))) (.a (.c 0 (.a (.l 2) (.a (.l 0) (.a (.l 3) (.a (.l 1) .n))))) (.l 4)) rfl
end
end
section
theorem zfc {α β : Type} (f : α → β) (x : α) : ∀ (p : Nat) (l : List α), (l.map f).insertIdx p (f x) = (l.insertIdx p x).map f
 | 0, l => by simp
 | p + 1, [] => by simp
 | p + 1, a :: l => by simp only [List.map_cons, List.insertIdx_succ_cons, zfc f x p l]
section
variable {r : Nat} {σ : Sto} {B : BP} {Q : QP} {N : Nat} {g : MB} {L : Lg} {a : Addr} {gs : List MB}
theorem c_60 {y z : Int} (H : Hold σ (hl a gs ++ L)) (ok : Gs N gs) (hz : 0 ≤ z) (hz' : z < 100000000) (hN : N ≤ 57) (hq : ∀ σ' gs', Gs (N + 2) gs' → Hold σ' (hl a gs' ++ L) → Q (.bool true) σ') :
  zac tab (r+9) 60 [.ref a, .int y, .int z] σ B Q := by
 refine zsr ?_
 have hp := ok.pos
 have hle3 := ok.le
 obtain ⟨i, hi, hi'⟩ := zbs (y := y) (n := gs.length) hp
 obtain ⟨b, M, hg, ob, Hb, back⟩ := znl H hi' ok
 have h1 := Hb.tl
 have nr := ob.nr
 refine asg (v := .int i) (fun Q h => ?_) ?_
 ·walk_at "lw"
  refine za7 (zch H) ?_
  walk_at "lw"
  rw [hi]
  exact And.intro ⟨by exact Int.ofNat_lt.mpr (Nat.lt_of_le_of_lt (Nat.zero_le _) hi'), by lia -abstractProof⟩ h
 refine asg (v := .ref b.l) (fun Q h => by walk_at "lw"; rw [hg]; exact h) ?_
 refine asg (v := .int (z % 7)) (fun Q h => by walk_at "lw"; exact ⟨by decide, h⟩) ?_
 refine asg (v := .int (z / 7)) (fun Q h => by walk_at "lw"; exact ⟨by decide, h⟩) ?_
 have hq0 : 0 ≤ z / 7 := by exact Int.ediv_nonneg hz (by decide)
 have hq1 : z / 7 < 100000000 := by exact Int.lt_of_le_of_lt (Int.ediv_le_self _ hz) hz'
 generalize z / 7 = q at *
 generalize z % 7 = act
 refine iteP (b := decide (act = 0)) (fun ρ' σ' => Ex8 fun (x y z u v w t : Option Va) (gs' : List MB) => A4 (ρ' = [some (.ref a), x, y, some (.int i), z, u, v, w, t, none]) (Gs (N + 2) gs') (i < gs'.length) (Hold σ' (hl a gs' ++ L)))
  (fun Q h => by walk_at "lw"; exact h) (fun _ N' hn => ?_) (fun _ N' hn => ?_) ?_
 ·have fin : ∀ {σ' : Sto} {b' : MB} {w t : Option Va}, b'.l = b.l → OkM (N + 2) b' → Hold σ' (sted b' ++ M) → N' [some (.ref a), some (.int y), some (.int z), some (.int i), some (.ref b.l), some (.int act), some (.int q), w, t, none] σ' := fun e o h =>
   hn _ _ (let ⟨gs', k⟩ := back _ _ _ e (by exact Nat.le_add_right _ _) o h; ⟨_, _, _, _, _, _, _, gs', rfl, k.1, k.2, k.3⟩)
  exact c_57 hq0 hq1 Hb ob (by exact Nat.le_trans hN (by decide)) fun σ' b' e o h => fin e (o.mono (by exact Nat.le_add_right _ _)) h
 ·have fin : ∀ {σ' : Sto} {b' : MB} {w t : Option Va}, b'.l = b.l → OkM (N + 2) b' → Hold σ' (sted b' ++ M) → N' [some (.ref a), some (.int y), some (.int z), some (.int i), some (.ref b.l), some (.int act), some (.int q), w, t, none] σ' := fun e o h =>
   hn _ _ (let ⟨gs', k⟩ := back _ _ _ e (by exact Nat.le_add_right _ _) o h; ⟨_, _, _, _, _, _, _, gs', rfl, k.1, k.2, k.3⟩)
  refine zav (fun _ => ?_) fun _ => zav (fun _ => ?_) fun _ => zav (fun _ => ?_) fun _ => zav (fun _ => ?_) fun _ => ?_
  ·refine c_59 hq0 hq1 H ok hi' (by exact Nat.le_trans hN (by decide)) fun σ' gs' ok' hi2 H' => ?_
   exact hn _ _ ⟨_, _, _, _, _, _, _, gs', rfl, ok', hi2, H'⟩
  ·exact c_56 hq0 hq1 Hb ob (by exact Nat.le_trans hN (by decide)) fun σ' b' e o h => fin e (o.mono (by exact Nat.lt_add_of_pos_right (by decide))) h
  ·refine c_58 hq0 hq1 Hb ob (by exact Nat.le_trans hN (by decide)) fun σ' h => ?_
   exact fin rfl (ob.mono (by exact Nat.le_add_right _ _)) h
  ·obtain ⟨j, hj, hj'⟩ := zbs (y := q) (n := 4) (by decide)
   walk_at "lw"
   rw [show q % 4 = (j : Int) from hj]
   refine And.intro (by decide) (zav (fun _ => ?_) fun hj3 => ?_)
   ·refine zai (n := 2) h1.gl (i := 2) rfl rfl ?_
    refine And.intro (by decide) (zi2 (.inr (let ⟨c, h, _⟩ := ob.cf; ⟨c, h⟩)) fun v hv => ?_)
    refine zfb h1.gl (by decide) (by simp) ?_
    walk_at "lw"
    rw [show (2 : Int).toNat = 2 from rfl]
    replace Hb := Hb.to5
    replace Hb := Hb.up (u' := .list [.ref b.m, .ref b.w, v, .ref b.u]) .here
    refine zai (n := 2) (Hb.nth 0 rfl) (i := 2) rfl rfl ?_
    refine zai (n := 0) (Hb.nth 0 rfl) (i := 0) rfl rfl ?_
    refine zad (Hb.nth 3 rfl) ?_
    exact And.intro (by simp) (fin (b' := { b with cf := v }) rfl { ob.mono (show N ≤ N + 2 by exact Nat.le_add_right _ _) with cf := hv } (Hold.of5 (g := { b with cf := v }) (Hb.up (.there (.there (.there .here))))))
   ·have hj4 : j < 3 := by
     have : ¬ ((j : Int) = 3) := of_decide_eq_false hj3
     lia -abstractProof
    have x1 : ∀ k, idxW σ (.ref b.l) (.int 1) k = k (.ref b.w) := fun k => ix (n := 1) h1.gl (i := 1) rfl rfl
    walk_at "lw"
    rw [x1]
    walk_at "lw"
    rw [show q % 4 = (j : Int) from hj]
    walk_at "lw"
    refine ⟨by decide, by decide, by decide, ?_⟩
    walk_at "lw"
    rw [h_at h1 hj4 rfl]
    have hw := ob.getH hj4
    have hnum : Num (b.getH j) := by
     rcases zep hj4 with rfl | rfl | rfl
     ·exact hw
     ·exact hw
     ·exact hw.num
    refine And.intro (by decide) ?_
    refine zk2 (by lia -abstractProof) (.inr (let ⟨c, h, _⟩ := hnum; ⟨c, h⟩)) fun v hv hs => ?_
    have hv' : hOk j v := by
     rcases zep hj4 with rfl | rfl | rfl
     ·exact hv
     ·exact hv
     ·exact hs (by decide)
    exact c_53 hj4 rfl Hb fun σ' H' => fin setH_l ((ob.setH hj4 hv').mono (by exact Nat.le_add_right _ _)) H'
  ·refine zai (n := 3) h1.gl (i := 3) rfl rfl ?_
   refine za7 h1.gu ?_
   refine zav (fun hz => ?_) fun _ => fin rfl (ob.mono (by exact Nat.le_add_right _ _)) Hb
   have hz := of_decide_eq_true hz
   refine zai (n := 3) h1.gl (i := 3) rfl rfl ?_
   refine za7 h1.gu ?_
   obtain ⟨k, hk, hk'⟩ := zbs (y := q) (n := b.rs.length) (by lia -abstractProof)
   refine And.intro ⟨by exact hz, by lia -abstractProof⟩ ?_
   walk_at "lw"
   rw [hk]
   refine zai (n := 3) h1.gl (i := 3) rfl rfl ?_
   walk_at "lw"
   refine And.intro (zan h1.gu) (zdc h1.gu (getElem?_map_some hk') ?_)
   have of := ob.rs _ (List.getElem_mem hk')
   have gU : (b.rs.map fun f => Va.ref f.ru)[k]? = some (.ref b.rs[k].ru) := getElem?_map_some hk'
   obtain ⟨l1, l2, e, hl1⟩ := zb1 hk'
   generalize b.rs[k] = f at *
   have e1 : (b.rs.map fun f => Va.ref f.pr).eraseIdx k = (l1 ++ l2).map fun f => Va.ref f.pr := by rw [e, List.map_append, List.map_cons, zce (by simpa using hl1), List.map_append]
   have e2 : (b.rs.map fun f => Va.ref f.ru).eraseIdx k = (l1 ++ l2).map fun f => Va.ref f.ru := by rw [e, List.map_append, List.map_cons, zce (by simpa using hl1), List.map_append]
   walk_at "lw"
   rw [e1]
   have hlen : l1.length + l2.length + 1 = b.rs.length := by rw [e]; simp; lia -abstractProof
   have okl : ∀ x ∈ l1 ++ l2, OkR x := zom (e ▸ ob.rs)
   replace Hb := Hb.to5
   replace Hb := Hb.up (u' := .list ((l1 ++ l2).map fun f => Va.ref f.pr)) (.there (.there .here))
   have gU2 := Hb.nth 4 rfl
   refine zai (n := 0) (Hb.nth 0 rfl) (i := 0) rfl rfl ?_
   refine zar (Hb.nth 3 rfl) (show getF _ 20 = some (.ref b.U) from rfl) ?_
   walk_at "lw"
   rw [zan gU2]
   walk_at "lw"
   rw [zf8 gU2 (by exact Int.natCast_nonneg _) (by rw [Int.toNat_natCast]; exact gU)]
   walk_at "lw"
   rw [Int.toNat_natCast]
   walk_at "lw"
   rw [e2]
   replace Hb := Hb.up (u' := .list ((l1 ++ l2).map fun f => Va.ref f.ru)) (.there (.there (.there (.there .here))))
   refine And.intro rfl ?_
   replace Hb := Hb.perm (L' := rl3 f ++ (five { b with rs := l1 ++ l2 } ++ (rled (l1 ++ l2) ++ M))) (znr e)
   have stay : N' [some (.ref a), some (.int y), some (.int z), some (.int i), some (.ref b.l), some (.int act), some (.int q), some (.int k), some (.ref f.pr), none] _ :=
    fin (b' := { b with rs := l1 ++ l2 }) rfl { ob.mono (show N ≤ N + 2 by exact Nat.le_add_right _ _) with rs := okl, nr := by simp; exact Nat.le_trans (Nat.le_trans (Nat.le_trans (Nat.le_add_right _ _) (Nat.le_of_eq hlen)) nr) (Nat.le_add_right _ _) } (Hold.of5 (g := { b with rs := l1 ++ l2 }) (Hb.sub (List.sublist_append_right _ _)))
   refine zav (fun _ => ?_) fun _ => stay
   have g3 := Hb.nth 3 rfl
   have gu := Hb.nth 5 rfl
   refine zai (a := b.l) (n := 3) g3 (i := 3) rfl rfl ?_
   refine za7 (a := b.u) gu ?_
   refine zav (fun hz2 => ?_) fun _ => stay
   clear stay
   have hz2 := of_decide_eq_true hz2
   refine zai (a := b.l) (n := 3) g3 (i := 3) rfl rfl ?_
   walk_at "lw"
   rw [zan (a := b.u) gu]
   refine And.intro rfl ?_
   -- put at the other end
   have put : ∀ l' : List RB, l'.Perm (f :: (l1 ++ l2)) → ∀ {σ' : Sto}, Hold σ' (five { b with rs := l' } ++ (rled l' ++ M)) → N' [some (.ref a), some (.int y), some (.int z), some (.int i), some (.ref b.l), some (.int act), some (.int q), some (.int k), some (.ref f.pr), none] σ' := fun l' hp {σ'} h =>
    fin (b' := { b with rs := l' }) rfl { ob.mono (show N ≤ N + 2 by exact Nat.le_add_right _ _) with
     rs := fun x hx => by
      have := hp.mem_iff.mp hx
      cases this with
      | head => exact of
      | tail _ q => exact okl x q
     nr := by have := hp.length_eq; simp at this; show l'.length ≤ N + 2; exact Nat.le_trans (Nat.le_trans (Nat.le_trans (Nat.le_of_eq this) (Nat.le_of_eq hlen)) nr) (Nat.le_add_right _ _) } (Hold.of5 (g := { b with rs := l' }) h)
   have final : ∀ (p : Nat) (l' : List RB), l' = (l1 ++ l2).insertIdx p f → l'.Perm (f :: (l1 ++ l2)) → ∀ {σ' : Sto}, Hold σ' (rl3 f ++ ([(b.l, .list [.ref b.m, .ref b.w, b.cf, .ref b.u]), (b.w, .list [b.n0, b.n1, b.n2]), (b.u, .list (((l1 ++ l2).map fun f => Va.ref f.pr).insertIdx p (.ref f.pr))),
         (b.m, maI b.n0 b.n1 b.n2 b.cf b.U), (b.U, .list (((l1 ++ l2).map fun f => Va.ref f.ru).insertIdx p (.ref f.ru)))] ++ (rled (l1 ++ l2) ++ M))) →
     N' [some (.ref a), some (.int y), some (.int z), some (.int i), some (.ref b.l), some (.int act), some (.int q), some (.int k), some (.ref f.pr), none] σ' := fun p l' hl hperm {σ'} Hb => by
    have q1 : ((l1 ++ l2).map fun f => Va.ref f.pr).insertIdx p (.ref f.pr) = l'.map fun f => Va.ref f.pr := by rw [hl]; exact zfc _ _ _ _
    have q2 : ((l1 ++ l2).map fun f => Va.ref f.ru).insertIdx p (.ref f.ru) = l'.map fun f => Va.ref f.ru := by rw [hl]; exact zfc _ _ _ _
    have q3 : (rl3 f ++ rled (l1 ++ l2)).Perm (rled l') := by
     refine List.Perm.trans (l₂ := rled (f :: (l1 ++ l2))) (rled_app (l := [f])).symm ?_
     ·unfold rled
      exact (hperm.symm.flatMap_right _).append (hperm.symm.map _)
    rw [q1, q2] at Hb
    refine put l' hperm (Hb.perm (List.Perm.trans (zf9 [rl3 f, _, rled (l1 ++ l2), M] (.r 0 [1, 2, 3]) (.a (.l 1) (.a (.r 0 [2]) (.l 3))) rfl) (List.Perm.append_left (five { b with rs := l' }) (q3.append_right M))))
   refine zav (fun hk0 => ?_) fun hk0 => ?_
   ·refine zd4 (a := b.u) gu ?_
    walk_at "lw"
    rw [show (0 : Int).toNat = 0 from rfl]
    refine And.intro ⟨by exact Int.le_refl _, by exact Nat.zero_le _, by simp [zap]; exact Nat.lt_of_le_of_lt (Nat.le_trans (Nat.le_add_right _ _) (Nat.le_of_eq hlen)) (Nat.lt_of_le_of_lt nr (Nat.lt_of_le_of_lt hN (by decide)))⟩ ?_
    replace Hb := Hb.up (u' := .list (((l1 ++ l2).map fun f => Va.ref f.pr).insertIdx 0 (.ref f.pr))) (.there (.there (.there (.there (.there .here)))))
    have g3 := Hb.nth 3 rfl
    have gm := Hb.nth 6 rfl
    have gU := Hb.nth 7 rfl
    refine zai (a := b.l) (n := 0) g3 (i := 0) rfl rfl ?_
    refine zar (a := b.m) gm (show getF _ 20 = some (.ref b.U) from rfl) ?_
    walk_at "lw"
    rw [zan (a := b.U) gU]
    walk_at "lw"
    rw [if_pos hk0]
    refine And.intro rfl ?_
    refine zai (n := 0) (Hb.nth 0 rfl) (i := 0) rfl rfl ?_
    refine zd4 (a := b.U) gU ?_
    walk_at "lw"
    rw [show (0 : Int).toNat = 0 from rfl]
    refine And.intro ⟨by exact Int.le_refl _, by exact Nat.zero_le _, by simp [zap]; exact Nat.lt_of_le_of_lt (Nat.le_trans (Nat.le_add_right _ _) (Nat.le_of_eq hlen)) (Nat.lt_of_le_of_lt nr (Nat.lt_of_le_of_lt hN (by decide)))⟩ ?_
    replace Hb := Hb.up (u' := .list (((l1 ++ l2).map fun f => Va.ref f.ru).insertIdx 0 (.ref f.ru))) (.there (.there (.there (.there (.there (.there (.there .here)))))))
    exact final 0 _ rfl (by rw [List.insertIdx_zero]) Hb
   ·refine zai (a := b.l) (n := 3) g3 (i := 3) rfl rfl ?_
    refine za7 (a := b.u) gu ?_
    refine zd4 (a := b.u) gu ?_
    walk_at "lw"
    rw [Int.toNat_natCast]
    refine And.intro ⟨by exact Int.natCast_nonneg _, by simp, by simp [zap]; exact Nat.lt_of_le_of_lt (Nat.le_trans (Nat.le_add_right _ _) (Nat.le_of_eq hlen)) (Nat.lt_of_le_of_lt nr (Nat.lt_of_le_of_lt hN (by decide)))⟩ ?_
    replace Hb := Hb.up (u' := .list (((l1 ++ l2).map fun f => Va.ref f.pr).insertIdx (l1 ++ l2).length (.ref f.pr))) (.there (.there (.there (.there (.there .here)))))
    have g3 := Hb.nth 3 rfl
    have gm := Hb.nth 6 rfl
    have gU := Hb.nth 7 rfl
    refine zai (a := b.l) (n := 0) g3 (i := 0) rfl rfl ?_
    refine zar (a := b.m) gm (show getF _ 20 = some (.ref b.U) from rfl) ?_
    walk_at "lw"
    rw [zan (a := b.U) gU]
    walk_at "lw"
    rw [if_neg (by rw [hk0]; decide)]
    refine And.intro rfl ?_
    refine zai (a := b.l) (n := 0) g3 (i := 0) rfl rfl ?_
    refine zar (a := b.m) gm (show getF _ 20 = some (.ref b.U) from rfl) ?_
    refine za7 (a := b.U) gU ?_
    refine zai (n := 0) (Hb.nth 0 rfl) (i := 0) rfl rfl ?_
    refine zd4 (a := b.U) gU ?_
    walk_at "lw"
    rw [Int.toNat_natCast]
    refine And.intro ⟨by exact Int.natCast_nonneg _, by simp, by simp [zap]; exact Nat.lt_of_le_of_lt (Nat.le_trans (Nat.le_add_right _ _) (Nat.le_of_eq hlen)) (Nat.lt_of_le_of_lt nr (Nat.lt_of_le_of_lt hN (by decide)))⟩ ?_
    replace Hb := Hb.up (u' := .list (((l1 ++ l2).map fun f => Va.ref f.ru).insertIdx (l1 ++ l2).length (.ref f.ru))) (.there (.there (.there (.there (.there (.there (.there .here)))))))
    exact final _ _ rfl (by rw [List.insertIdx_length_self]; exact List.perm_append_comm) Hb
 rintro _ σ1 ⟨x, yy, zz, u, v, w, t, gs', rfl, ok', hi2, H'⟩
 refine zaw (sq := .lst a) (fun K h => by walk_at "lw"; rw [zc9 (zch H')]; exact h) gs'.length (fun m ρ τ => ∃ s, ρ = [some (.ref a), x, yy, some (.int i), zz, u, v, w, t, s] ∧ τ = σ1) ⟨none, rfl, rfl⟩ ?_ ?_
 ·intro m ρ τ K hm hI hk
  obtain ⟨s, rfl, rfl⟩ := hI
  have G := hl_b H' (List.getElem_mem hm)
  have o := ok'.ok _ (List.getElem_mem hm)
  have nf := o.nr
  walk_at "lw"
  refine ⟨_, by rw [zal (zch H'), getElem?_map_some hm], ?_⟩
  generalize gs'[m] = b at *
  refine zai (n := 0) G.left.gl (i := 0) rfl rfl ?_
  refine zay G.right.gm (show mth 24 5 = some 228 from rfl) ?_
  refine zt0 G.right (by exact Nat.le_trans nf (Nat.add_le_add_right (Nat.le_trans hN (by decide)) 2)) (c_51 G.left (by exact Nat.le_trans nf (Nat.add_le_add_right (Nat.le_trans hN (by decide)) 2)) ?_)
  walk_at "lw"
  rw [zpv rfl (ziw o)]
  walk_at "lw"
  try rw [if_neg (by decide)]
  exact hk _ _ ⟨_, rfl, rfl⟩
 ·rintro ρ τ ⟨s, rfl, rfl⟩
  refine And.intro (by rw [zal (zch H'), List.getElem?_eq_none (by simp)]) ?_
  obtain ⟨b2, M2, hg2, ob2, Hb2, back2⟩ := znl H' hi2 ok'
  walk_at "lw"
  rw [hg2]
  refine c_52 Hb2 ob2 (by exact Nat.add_le_add_right (Nat.le_trans hN (by decide)) 2) fun σ2 h => ?_
  obtain ⟨bs2, k1, _, k2⟩ := back2 _ _ _ rfl (Nat.le_refl _) ob2 h
  exact zax (hq _ _ k1 k2)
end
end
section
section
variable {r : Nat} {σ : Sto} {B : BP} {Q : QP} {N : Nat} {L : Lg} {a : Addr} {bs : List EB} {gs : List MB}
theorem enc_same {b : EB} {M : Lg} {K : Bool → Prop} (H : Hold σ (bled b ++ M)) (ok : OkE N b) (hN : N ≤ 60) (hK : K false) :
  idxW σ (.ref b.l) (.int 0) fun u => methW σ u 6 fun f => zac tab (r + 4) f [u] σ B fun v σ => zac tab (r + 4) 33 [.ref b.l] σ B fun w _ => cmpW .ne v w K := by
 obtain ⟨rl, h1, h2, hcat, h3, hfl⟩ := zny ok hN
 refine zai (n := 0) H.sl.l (i := 0) rfl rfl ?_
 refine zay H.el.e (show mth 18 6 = some 223 from rfl) ?_
 refine zn9 H.el (ok.ty hN) (fun z => by rw [hcat] at z; cases z) fun c hc => ?_
 refine c_33 H.sl ok hN fun d hd => ?_
 obtain rfl := Option.some.inj (hcat.symm.trans hc)
 obtain rfl := Option.some.inj (hcat.symm.trans hd)
 walk_at "lw"
 rw [decide_eq_true rfl]
 exact hK
theorem zev {b : EB} {M : Lg} {K : Bool → Sto → Prop} (H : Hold σ (bled b ++ M)) (ok : OkE N b) (hN : N ≤ 60) (hK : K false σ) :
  idxW σ (.ref b.l) (.int 0) fun u => methW σ u 6 fun f => zac tab (r + 4) f [u] σ B fun v σ => zac tab (r + 4) 33 [.ref b.l] σ B fun w σ => cmpW .ne v w fun x => K x σ := by
 obtain ⟨rl, h1, h2, hcat, h3, hfl⟩ := zny ok hN
 refine zai (n := 0) H.sl.l (i := 0) rfl rfl ?_
 refine zay H.el.e (show mth 18 6 = some 223 from rfl) ?_
 refine zn9 H.el (ok.ty hN) (fun z => by rw [hcat] at z; cases z) fun c hc => ?_
 refine c_33 H.sl ok hN fun d hd => ?_
 obtain rfl := Option.some.inj (hcat.symm.trans hc)
 obtain rfl := Option.some.inj (hcat.symm.trans hd)
 walk_at "lw"
 rw [decide_eq_true rfl]
 exact hK
theorem zhk {b : MB} {M : Lg} {K : Bool → Sto → Prop} (H : Hold σ (sted b ++ M)) (ok : OkM N b) (hN : N ≤ 60) (hK : K false σ) :
  idxW σ (.ref b.l) (.int 0) fun u => methW σ u 6 fun f => zac tab (r + 4) f [u] σ B fun v σ => zac tab (r + 4) 50 [.ref b.l] σ B fun w σ => cmpW .ne v w fun x => K x σ := by
 obtain ⟨n0, n1, n2, cf, rl, k0, k1, k2, k3, k4, k5, hmv, hcat, hfl⟩ := zpo ok hN
 refine zai (n := 0) H.tl.gl (i := 0) rfl rfl ?_
 refine zay H.ml.gm (show mth 24 6 = some 229 from rfl) ?_
 refine zql H.ml (ok.ty hN) (fun z => by rw [hcat] at z; cases z) fun c hc => ?_
 refine c_50 H.tl ok hN fun d hd => ?_
 obtain rfl := Option.some.inj (hcat.symm.trans hc)
 obtain rfl := Option.some.inj (hcat.symm.trans hd)
 walk_at "lw"
 rw [decide_eq_true rfl]
 exact hK
theorem call_st {C : Orc} {B : BP} {R : QP} {N : Loc → Sto → Prop} {ρ : Loc} {σ : Sto} {ss : Ss} {g : Nat} {es : Xs} (vs : List Va) (he : ∀ Q : List Va → Sto → Prop, Q vs σ → wpXs C B ρ [] es σ Q)
  (h : C g vs σ B fun _ σ => wpSs C B ss ρ σ N R) : wpSs C B (.cons (.expr (.call g es)) ss) ρ σ N R := he _ h
theorem c_61 {y : Int} (H : Hold σ (gl a bs ++ L)) (ok : Bs N bs) (hN : N ≤ 50) (hq : ∀ σ' bs', Hold σ' (gl a bs' ++ L) → Q (.bool true) σ') : zac tab (r+8) 61 [.ref a, .int y] σ B Q := by
 refine zsq ?_
 have hp := ok.pos
 have hle := ok.le
 refine zaw (sq := .lst a) (fun K h => by walk_at "lw"; rw [zc9 (zcz H)]; exact h) bs.length (fun m ρ τ => Ex2 fun x bs' => A4 (ρ = [some (.ref a), some (.int y), x, none]) (Bs (N + m) bs') (bs'.length = bs.length) (Hold τ (gl a bs' ++ L)))
  ⟨none, bs, rfl, ok, rfl, H⟩ ?_ ?_
 ·intro m ρ τ K hm hI hk
  obtain ⟨x, bs', rfl, ok', hl, H⟩ := hI
  have hm' : m < bs'.length := by exact Nat.lt_of_lt_of_le hm (Nat.le_of_eq hl.symm)
  have hi := zcz H
  have hn : (bs'.map fun b => Va.ref b.l)[m]? = some (.ref bs'[m].l) := getElem?_map_some hm'
  have hg := zpi H hm' rfl
  obtain ⟨b, M, hg', ob, Hb, back⟩ := zgj H hm' ok'
  have hbl : bs'[m].l = b.l := by
   have := of_eq_true ((hg fun v => v = .ref b.l).symm.trans ((hg' fun v => v = .ref b.l).trans (eq_true rfl)))
   injection this
  rw [hbl] at hn
  walk_at "lw"
  refine ⟨.ref b.l, by rw [zal hi, hn], ?_⟩
  refine c_40 Hb ob (by lia) fun σ1 b1 e1 o1 H1 => ?_
  walk_at "lw"
  rw [← e1]
  refine zev H1 o1 (by lia) ?_
  walk_at "lw"
  try rw [if_neg (by decide)]
  refine c_44 H1 o1 (by lia) fun σ2 b2 e2 o2 H2 => ?_
  walk_at "lw"
  rw [← e2]
  refine zev H2 o2 (by lia) ?_
  walk_at "lw"
  try rw [if_neg (by decide)]
  obtain ⟨bs2, k1, k2, k3, k4⟩ := back _ _ (N + m + 1) (e2.trans e1) (by exact Nat.le_add_right _ _) o2 H2
  refine hk _ _ ⟨_, bs2, rfl, k1, by exact Nat.le_antisymm (Nat.le_trans (Nat.le_of_eq k3) (Nat.le_of_eq hl)) (Nat.le_trans (Nat.le_of_eq hl.symm) (Nat.le_of_eq k3.symm)), k4⟩
 rintro ρ τ ⟨x, bs1, rfl, ok1, hl1, H⟩
 refine And.intro (by rw [zal (zcz H), List.getElem?_eq_none (by simp; exact Nat.le_of_eq hl1)]) ?_
 obtain ⟨b, M, hg, ob, Hb, back⟩ := zgj H (show 0 < bs1.length by exact Nat.lt_of_lt_of_le (Nat.lt_of_lt_of_le (by decide) hp) (Nat.le_of_eq hl1.symm)) ok1
 refine asg (v := .ref b.l) (fun Q h => by walk_at "lw"; rw [show (.int 0 : Va) = .int ((0 : Nat) : Int) from rfl, hg]; exact h) ?_
 refine zaw (sq := .rng 0 4) (fun K h => by walk_at "lw"; exact ⟨by decide, h⟩) 4 (fun m ρ τ => Ex2 fun x b' => A4 (ρ = [some (.ref a), some (.int y), some (.ref b.l), x]) (b'.l = b.l) (OkE (N + bs.length) b') (Hold τ (bled b' ++ M))) ⟨none, b, rfl, rfl, ob, Hb⟩ ?_ ?_
 ·intro m ρ τ K hm hI hk
  obtain ⟨x, b', rfl, hl, ob, H⟩ := hI
  walk_at "lw"
  refine ⟨.int m, by simp [za2]; exact Int.ofNat_lt.mpr hm, ?_⟩
  walk_at "lw"
  rw [← hl]
  refine zai (n := 1) H.sl.l (i := 1) rfl rfl ?_
  walk_at "lw"
  rw [w_at H.sl hm rfl]
  refine And.intro (ze9 (by decide) (by decide)) (c_37 hm rfl (ob.getW hm) fun v hv _ => ?_)
  refine c_36 hm rfl H fun σ' H' => ?_
  exact hk _ _ ⟨_, b'.setW m v, by rw [hl], setW_l.trans hl, ob.setW hm hv, H'⟩
 rintro ρ τ ⟨x, b1, rfl, hl, ob, H⟩
 refine And.intro (by simp [za2]) ?_
 refine iteP (b := false) (fun ρ' σ' => ρ' = [some (.ref a), some (.int y), some (.ref b.l), x] ∧ τ = σ') (fun Q h => ?_) (fun z => nomatch z) (fun _ N' hn => hn _ _ ⟨rfl, rfl⟩) ?_
 ·walk_at "lw"
  rw [← hl]
  exact zev (K := fun x σ => Q (.bool x) σ) H ob (by exact Nat.le_trans (Nat.add_le_add hN hle) (by decide)) h
 rintro _ _ ⟨rfl, rfl⟩
 walk_at "lw"
 rw [← hl]
 refine c_38 H ob (by exact Nat.le_trans (Nat.add_le_add hN hle) (by decide)) fun σ2 b2 e2 ob H => ?_
 walk_at "lw"
 rw [← e2]
 refine c_39 H ob (by exact Nat.lt_of_le_of_lt (Nat.add_le_add hN hle) (by decide)) fun σ3 b3 e3 ob H => ?_
 rewrite [← e3]
 refine iteP (b := false) (fun ρ' σ' => ρ' = [some (.ref a), some (.int y), some (.ref b3.l), x] ∧ σ3 = σ') (fun Q h => ?_) (fun z => nomatch z) (fun _ N' hn => hn _ _ ⟨rfl, rfl⟩) ?_
 ·exact zev (K := fun x σ => Q (.bool x) σ) H ob (by exact Nat.lt_of_le_of_lt (Nat.add_le_add (Nat.add_le_add hN hle) (Nat.le_refl _)) (by decide)) h
 rintro _ _ ⟨rfl, rfl⟩
 refine c_42 H ob (by exact Nat.lt_of_le_of_lt (Nat.add_le_add (Nat.add_le_add hN hle) (Nat.le_refl _)) (by decide)) fun σ4 b4 e4 ob H => ?_
 walk_at "lw"
 rw [← e4]
 have h1 := H.sl
 refine zai (n := 5) h1.l (i := 5) rfl rfl ?_
 refine zai (n := 0) h1.l (i := 0) rfl rfl ?_
 replace H := H.to9
 refine zad (H.nth 5 rfl) ?_
 refine And.intro (by simp) ?_
 replace H := H.up (u' := .inst 18 [(7, b4.w0), (8, b4.w1), (9, b4.w2), (10, b4.w3), (11, .ref b4.P), (12, .ref b4.D), (13, .ref b4.A), (14, .bool !b4.rs)]) (.there (.there (.there (.there (.there .here)))))
 walk_at "lw"
 rw [show setF [(7, b4.w0), (8, b4.w1), (9, b4.w2), (10, b4.w3), (11, .ref b4.P), (12, .ref b4.D), (13, .ref b4.A), (14, .bool b4.rs)] 14 (.bool !b4.rs) = [(7, b4.w0), (8, b4.w1), (9, b4.w2), (10, b4.w3), (11, .ref b4.P), (12, .ref b4.D), (13, .ref b4.A), (14, .bool !b4.rs)] from rfl]
 refine zai (n := 5) (H.nth 0 rfl) (i := 5) rfl rfl ?_
 refine zfb (H.nth 0 rfl) (by decide) (by simp) ?_
 walk_at "lw"
 rw [show (5 : Int).toNat = 5 from rfl]
 replace H := H.up (u' := .list [.ref b4.e, .ref b4.w, .ref b4.p, .ref b4.d, .ref b4.m, .bool !b4.rs]) .here
 have H5 := Hold.of9 (b := { b4 with rs := !b4.rs }) H
 obtain ⟨bs5, k1, k2, k3, k4⟩ := back _ { b4 with rs := !b4.rs } (N + bs.length + 1 + 1) (show b4.l = b.l from e4.trans (e3.trans (e2.trans hl))) (by exact Nat.le_trans (Nat.le_add_right _ _) (Nat.le_add_right _ _)) { ob with } H5
 clear H5 H back
 walk_at "lw"
 generalize (Sto.set _ _ _ : Sto) = σ5 at k4 ⊢
 refine zf4 (zcz k4) ?_
 refine zbi (N := bs5.length) (fun m s => s.2 = [] ∧ ∃ bs', A3 (Bs (N + bs.length + 1 + 1) bs') (bs'.length = bs5.length) (Hold s.1 (gl a bs' ++ L))) ?_ ?_ ⟨rfl, bs5, k1, rfl, k4⟩
 ·rintro m ⟨τ, acc⟩ K hm ⟨rfl, bs', k1, hl', H⟩ hk
  have hm' : m < bs'.length := by exact Nat.lt_of_lt_of_le hm (Nat.le_of_eq hl'.symm)
  have hn : (bs'.map fun b => Va.ref b.l)[m]? = some (.ref bs'[m].l) := getElem?_map_some hm'
  have hg := zpi H hm' rfl
  obtain ⟨b, M, hg', ob, Hb, back⟩ := zgj H hm' k1
  have hbl : bs'[m].l = b.l := by
   have := of_eq_true ((hg fun v => v = .ref b.l).symm.trans ((hg' fun v => v = .ref b.l).trans (eq_true rfl)))
   injection this
  rw [hbl] at hn
  walk_at "lw"
  refine ⟨.ref b.l, by rw [zal (zcz H), hn], ?_⟩
  walk_at "lw"
  simp only [zem, asP, zfs]
  refine c_35 Hb ob (by exact Nat.lt_of_le_of_lt (Nat.add_le_add (Nat.add_le_add hN hle) (Nat.le_refl _)) (by decide)) fun σ' H' => ?_
  walk_at "lw"
  obtain ⟨bs2, q1, q2, q3, q4⟩ := back _ _ _ rfl (Nat.le_refl _) ob H'
  exact hk _ ⟨rfl, bs2, q1, q3.trans hl', q4⟩
 ·rintro ⟨τ, acc⟩ ⟨rfl, bs', k1, hl', H⟩
  refine And.intro (by rw [zal (zcz H), List.getElem?_eq_none (by simp; exact Nat.le_of_eq hl')]) (fun u hu => ?_)
  refine zb9 Sto.set_self ?_
  walk_at "lw"
  exact ⟨_, Sto.le_set hu, hq _ _ H⟩
end
end
section
section
variable {r : Nat} {σ : Sto} {B : BP} {Q : QP} {N : Nat} {L : Lg} {a : Addr} {gs : List MB}
theorem zhz (H : Hold σ (hl a gs ++ L)) {i : Nat} (hi : i < gs.length) (ok : Gs N gs) : Ex2 fun (b : MB) (M : Lg) => A4 ((gs.map fun b => Va.ref b.l)[i]? = some (.ref b.l)) (OkM N b) (Hold σ (sted b ++ M)) (∀ σ' b' K, b'.l = b.l → N ≤ K → OkM K b' → Hold σ' (sted b' ++ M) → ∃ gs', A3 (Gs K gs') (gs'.length = gs.length) (Hold σ' (hl a gs' ++ L))) := by
 have hg : (gs.map fun b => Va.ref b.l)[i]? = some (.ref gs[i].l) := getElem?_map_some hi
 have ob := ok.ok _ (List.getElem_mem hi)
 obtain ⟨l1, l2, e, hl1⟩ := zb1 hi
 generalize gs[i] = b at *
 subst e
 exact ⟨b, _, hg, ob, H.perm (zfe rfl), fun σ' b' K e hK o z => ⟨l1 ++ b' :: l2, ok.put hK o, by simp, z.perm (zfe e).symm⟩⟩
theorem c_62 {y : Int} (h0 : 0 ≤ y) (hy : y < 10000000) (H : Hold σ (hl a gs ++ L)) (ok : Gs N gs) (hN : N ≤ 50) (hq : ∀ σ' gs', Hold σ' (hl a gs' ++ L) → Q (.bool true) σ') : zac tab (r+8) 62 [.ref a, .int y] σ B Q := by
 refine zsp ?_
 have hp := ok.pos
 have hle := ok.le
 refine zaw (sq := .lst a) (fun K h => by walk_at "lw"; rw [zc9 (zch H)]; exact h) gs.length (fun m ρ τ => Ex2 fun x gs' => A4 (ρ = [some (.ref a), some (.int y), x, none]) (Gs (N + m) gs') (gs'.length = gs.length) (Hold τ (hl a gs' ++ L)))
  ⟨none, gs, rfl, ok, rfl, H⟩ ?_ ?_
 ·intro m ρ τ K hm hI hk
  obtain ⟨x, gs', rfl, ok', hl, H⟩ := hI
  obtain ⟨b, M, hg, ob, Hb, back⟩ := zhz H (show m < gs'.length by exact Nat.lt_of_lt_of_le hm (Nat.le_of_eq hl.symm)) ok'
  walk_at "lw"
  refine ⟨.ref b.l, by rw [zal (zch H), hg], ?_⟩
  refine c_56 (by exact Int.add_nonneg h0 (by decide)) (by lia -abstractProof) Hb ob (by lia -abstractProof) fun σ1 b1 e1 o1 H1 => ?_
  walk_at "lw"
  rw [← e1]
  refine zhk H1 o1 (by lia -abstractProof) ?_
  walk_at "lw"
  try rw [if_neg (by decide)]
  refine c_57 (by exact Int.add_nonneg h0 (by decide)) (by lia -abstractProof) H1 o1 (by lia -abstractProof) fun σ2 b2 e2 o2 H2 => ?_
  walk_at "lw"
  rw [← e2]
  refine zhk H2 o2 (by lia -abstractProof) ?_
  walk_at "lw"
  try rw [if_neg (by decide)]
  obtain ⟨bs2, k1, k3, k4⟩ := back _ _ (N + m + 1) (e2.trans e1) (by exact Nat.le_add_right _ _) o2 H2
  exact hk _ _ ⟨_, bs2, rfl, k1, by exact Nat.le_antisymm (Nat.le_trans (Nat.le_of_eq k3) (Nat.le_of_eq hl)) (Nat.le_trans (Nat.le_of_eq hl.symm) (Nat.le_of_eq k3.symm)), k4⟩
 rintro ρ τ ⟨x, bs1, rfl, ok1, hl1, H⟩
 refine And.intro (by rw [zal (zch H), List.getElem?_eq_none (by simp; exact Nat.le_of_eq hl1)]) ?_
 obtain ⟨b, M, hg, ob, Hb, back⟩ := zhz H (show 0 < bs1.length by exact Nat.lt_of_lt_of_le (Nat.lt_of_lt_of_le (by decide) hp) (Nat.le_of_eq hl1.symm)) ok1
 refine asg (v := .ref b.l) (fun Q h => by walk_at "lw"; rw [ix (n := 0) (zch H) (i := 0) rfl hg]; exact h) ?_
 refine zaw (sq := .rng 0 3) (fun K h => by walk_at "lw"; exact ⟨by decide, h⟩) 3 (fun m ρ τ => Ex2 fun x b' => A4 (ρ = [some (.ref a), some (.int y), some (.ref b.l), x]) (b'.l = b.l) (OkM (N + gs.length) b') (Hold τ (sted b' ++ M))) ⟨none, b, rfl, rfl, ob, Hb⟩ ?_ ?_
 ·intro m ρ τ K hm hI hk
  obtain ⟨x, b', rfl, hl, ob, H⟩ := hI
  walk_at "lw"
  refine ⟨.int m, by simp [za2]; exact Int.ofNat_lt.mpr hm, ?_⟩
  walk_at "lw"
  rw [← hl]
  refine zai (n := 1) H.tl.gl (i := 1) rfl rfl ?_
  walk_at "lw"
  rw [h_at H.tl hm rfl]
  have hw := ob.getH hm
  have hnum : Num (b'.getH m) := by
   rcases zep hm with rfl | rfl | rfl
   ·exact hw
   ·exact hw
   ·exact hw.num
  refine zk2 (by lia -abstractProof) (.inr (let ⟨c, h, _⟩ := hnum; ⟨c, h⟩)) fun v hv hs => ?_
  have hv' : hOk m v := by
   rcases zep hm with rfl | rfl | rfl
   ·exact hv
   ·exact hv
   ·exact hs (by decide)
  refine c_53 hm rfl H fun σ' H' => ?_
  exact hk _ _ ⟨_, b'.setH m v, by rw [hl], setH_l.trans hl, ob.setH hm hv', H'⟩
 rintro ρ τ ⟨x, b1, rfl, hl, ob, H⟩
 refine And.intro (by simp [za2]) ?_
 obtain ⟨bs5, k1, k3, k4⟩ := back _ _ _ hl (Nat.le_refl _) ob H
 refine zf4 (zch k4) ?_
 refine zbi (N := bs5.length) (fun m s => s.2 = [] ∧ ∃ bs', A3 (Gs (N + gs.length) bs') (bs'.length = bs5.length) (Hold s.1 (LW.Internal.hl a bs' ++ L))) ?_ ?_ ⟨rfl, bs5, k1, rfl, k4⟩
 ·rintro m ⟨τ, acc⟩ K hm ⟨rfl, bs', k1, hl', H⟩ hk
  obtain ⟨b, M, hg, ob, Hb, back⟩ := zhz H (show m < bs'.length by exact Nat.lt_of_lt_of_le hm (Nat.le_of_eq hl'.symm)) k1
  walk_at "lw"
  refine ⟨.ref b.l, by rw [zal (zch H), hg], ?_⟩
  walk_at "lw"
  simp only [zem, asP, zfs]
  refine c_52 Hb ob (by exact Nat.le_trans (Nat.add_le_add hN hle) (by decide)) fun σ' H' => ?_
  walk_at "lw"
  obtain ⟨bs2, q1, q3, q4⟩ := back _ _ _ rfl (Nat.le_refl _) ob H'
  exact hk _ ⟨rfl, bs2, q1, q3.trans hl', q4⟩
 ·rintro ⟨τ, acc⟩ ⟨rfl, bs', k1, hl', H⟩
  refine And.intro (by rw [zal (zch H), List.getElem?_eq_none (by simp; exact Nat.le_of_eq hl')]) (fun u hu => ?_)
  refine zb9 Sto.set_self ?_
  walk_at "lw"
  exact ⟨_, Sto.le_set hu, hq _ _ H⟩
noncomputable def zl3 (y : Int) : Prop := 0 ≤ y ∧ y < 2000000
theorem c_26 {i : Int} {ns : List Int} (hn : σ a = some (.list (ns.map Va.int))) (hl : 1 ≤ ns.length ∧ ns.length ≤ 30) (hb : ∀ n ∈ ns, 0 ≤ n ∧ n < 999983) (h0 : 0 ≤ i) (hi : i ≤ 100) (hq : ∀ y, zl3 y → Q (.int y) σ) : zac tab (r+1) 26 [.ref a, .int i] σ B Q := by
 apply ztn
 unfold b26
 walk_at "lw"
 walk_at "lw"
 rw [zbn hn]
 walk_at "lw"
 rw [List.length_map]
 obtain ⟨k, hk, hk'⟩ := zbs (y := i) (n := ns.length) (by exact Nat.lt_of_lt_of_le (by decide) hl.1)
 walk_at "lw"
 rw [hk]
 walk_at "lw"
 rw [zbb hn (by exact Int.natCast_nonneg _) (by rw [Int.toNat_natCast]; exact getElem?_map_some hk')]
 walk_at "lw"
 rw [zbn hn]
 walk_at "lw"
 rw [List.length_map]
 walk_at "lw"
 have := hb _ (List.getElem_mem hk')
 have d0 : 0 ≤ i / (ns.length : Int) := Int.ediv_nonneg h0 (by exact Int.natCast_nonneg _)
 have d1 : i / (ns.length : Int) ≤ i := Int.ediv_le_self _ h0
 walk_at "lw"
 exact ⟨⟨by exact Int.ofNat_lt.mpr (Nat.lt_of_le_of_lt (Nat.zero_le _) hk'), by lia -abstractProof⟩, ⟨by exact Int.ofNat_lt.mpr (Nat.lt_of_le_of_lt (Nat.zero_le _) hk'), by lia -abstractProof⟩, ⟨by decide, by decide⟩, _, .refl _, hq _ ⟨by lia -abstractProof, by lia -abstractProof⟩⟩
end
end
section
noncomputable def zpx (l e w p d m P D A : Addr) (x y : Bool) : Lg := [(l, .list [.ref e, .ref w, .ref p, .ref d, .ref m, .bool x]), (w, .list [.none, .none, .none, .none]), (p, .list []), (d, .list []), (m, .list []), (e, edI .none .none .none .none P D A y), (P, .list []), (D, .list []), (A, .list [])]
section
variable {r : Nat} {σ : Sto} {B : BP} {Q : QP} {N : Nat} {L : Lg} {a : Addr} {ρ : Loc}
theorem znb {e : X} {x : Bool} (he : ∀ (τ : Sto) (Q : QP), Q (.bool x) τ → wpX (zac tab (r + 1)) B ρ [] e τ Q) (H : Hold σ L)
  (hq : ∀ τ l e w p d m P D A, Hold τ (zpx l e w p d m P D A x false ++ L) → Q (.ref l) τ) :
  wpX (zac tab (r + 1)) B ρ [] (.list (.cons (.new 18 .nil) (.cons (.list (.cons .none (.cons .none (.cons .none (.cons .none .nil))))) (.cons (.list .nil) (.cons (.list .nil) (.cons (.list .nil) (.cons e .nil))))))) σ Q := by
 walk_at "lw"
 simp only [i18]
 intro e' he'
 refine c_221 (H.new he' _) fun P D A σ1 H1 => ⟨rfl, ?_⟩
 intro w hw
 replace H1 := H1.new hw (.list [.none, .none, .none, .none])
 intro p hp
 replace H1 := H1.new hp (.list [])
 intro d hd
 replace H1 := H1.new hd (.list [])
 intro m hm
 replace H1 := H1.new hm (.list [])
 refine he _ _ ?_
 intro l hl
 replace H1 := H1.new hl (.list [.ref e', .ref w, .ref p, .ref d, .ref m, .bool x])
 refine hq _ l e' w p d m P D A (H1.perm (zcv [_, _, _, _, _, _, _, _, _] [L] (.cs (.l 0) [0, 1, 2, 3, 4, 5, 6, 7, 8]) (.a (.cs .n [0, 4, 3, 2, 1, 5, 6, 7, 8]) (.l 0)) rfl))
noncomputable def zi5 (l e w p d m P D A : Addr) (x : Bool) : EB := ⟨l, e, w, p, d, m, P, D, A, .none, .none, .none, .none, [], [], [], [], x⟩
theorem zgu {l e w p d m P D A : Addr} {x : Bool} (H : Hold σ (zpx l e w p d m P D A x x ++ L)) : Hold σ (bled (zi5 l e w p d m P D A x) ++ L) := Hold.of9 (b := zi5 l e w p d m P D A x) H
theorem zi4 {l e w p d m P D A : Addr} {x : Bool} : OkE 0 (zi5 l e w p d m P D A x) :=
 ⟨.inl rfl, .inl rfl, .inl rfl, .inl rfl, fun x h => (nomatch h), fun x h => (nomatch h), rfl, fun x h => (nomatch h), Nat.le_refl _, Nat.le_refl _, Nat.le_refl _⟩
theorem zlp {b1 b2 : EB} {g : MB} {sc na lb ls : Addr} {ns : List Int} {head : Int} {x3 x4 x5 x6 x7 x8 x9 x10 : Option Va} (hln : 1 ≤ ns.length ∧ ns.length ≤ 30) (hb : ∀ n ∈ ns, 0 ≤ n ∧ n < 999983) (hh : zl3 head)
  (H : Hold σ (gl lb [b1, b2] ++ (hl ls [g] ++ [(na, .list (ns.map Va.int))]))) (o1 : OkE 3 b1) (o2 : OkE 3 b2) (og : OkM 3 g) (hq : ∀ σ', Q (.bool true) σ') :
  wpSs (zac tab (r + 9)) B (.cons (.each (.one 13) (.r1 (.bin .add (.int 2) (.min (.int 6) (.bin .fdiv (.len (.var 1)) (.int 3))))) (.cons (.assign 4 (.call 26 (.cons (.var 1) (.cons (.bin .add (.int 7) (.bin .mul (.int 2) (.var 13))) .nil)))) (.cons (.assign 14 (.call 26 (.cons (.var 1) (.cons (.bin .add (.int 8) (.bin .mul (.int 2) (.var 13))) .nil)))) (.cons (.ite (.not (.call 49 (.cons (.var 11) (.cons (.var 4) (.cons (.var 14) .nil))))) (.cons (.ret (.bool false)) .nil) .nil) (.cons (.ite (.not (.call 60 (.cons (.var 12) (.cons (.bin .fdiv (.var 14) (.int 5)) (.cons (.bin .fdiv (.var 4) (.int 3)) .nil))))) (.cons (.ret (.bool false)) .nil) .nil) .nil))))) (.cons (.ret (.and (.call 61 (.cons (.var 11) (.cons (.var 2) .nil))) (.call 62 (.cons (.var 12) (.cons (.var 2) .nil))))) .nil))
   [some (.ref sc), some (.ref na), some (.int head), x3, x4, x5, x6, x7, x8, x9, x10, some (.ref lb), some (.ref ls), none, none] σ (ExN Q) (ExR Q) := by
 have gn : ∀ {τ bs gs}, Hold τ (gl lb bs ++ (LW.Internal.hl ls gs ++ [(na, .list (ns.map Va.int))])) → τ na = some (.list (ns.map Va.int)) := fun h => h.get (List.mem_append_right _ (List.mem_append_right _ (.head _)))
 have sw : ∀ {τ : Sto} {X Y K : Lg}, Hold τ (X ++ (Y ++ K)) → Hold τ (Y ++ (X ++ K)) := fun {τ X Y K} z => z.perm zeh
 obtain ⟨c, hc, hc'⟩ : ∃ c : Nat, 2 + mn 6 ((ns.length : Int) / 3) = c ∧ c ≤ 8 := by
  have := mn_ok 6 ((ns.length : Int) / 3)
  have : 0 ≤ (ns.length : Int) / 3 := by exact Int.ediv_nonneg (Int.natCast_nonneg _) (by decide)
  walk_at "lw"
  exact ⟨(2 + mn 6 ((ns.length : Int) / 3)).toNat, by lia, by lia⟩
 refine zaw (sq := .rng 0 c) (fun K h => ?_) c (fun m ρ τ => Ex5 fun x4 x13 x14 bs gs => A4 (ρ = [some (.ref sc), some (.ref na), some (.int head), x3, x4, x5, x6, x7, x8, x9, x10, some (.ref lb), some (.ref ls), x13, x14]) (Bs (3 + 2 * m) bs) (Gs (3 + 2 * m) gs) (Hold τ (gl lb bs ++ (LW.Internal.hl ls gs ++ [(na, .list (ns.map Va.int))])))) ⟨x4, none, none, [b1, b2], [g], rfl, ⟨?_, by simp, by simp⟩, ⟨?_, by simp, by simp⟩, H⟩ ?_ ?_
 ·walk_at "lw"
  refine za7 (gn H) ?_
  walk_at "lw"
  rw [hc]
  walk_at "lw"
  exact ⟨by decide, ⟨by exact by decide, by exact by decide, by exact Int.lt_of_lt_of_le (by decide) (Int.natCast_nonneg _), by exact Int.ofNat_lt.mpr (Nat.lt_of_le_of_lt hc' (by decide))⟩, h⟩
 ·intro x hx
  rcases List.mem_cons.mp hx with rfl | hx
  ·exact o1.mono (by exact by decide)
  ·rcases List.mem_cons.mp hx with rfl | hx
   ·exact o2.mono (by exact by decide)
   ·cases hx
 ·intro x hx
  rcases List.mem_cons.mp hx with rfl | hx
  ·exact og.mono (by exact by decide)
  ·cases hx
 ·intro m ρ τ K hm hI hk
  obtain ⟨x4, x13, x14, bs, gs, rfl, kb, kg, H⟩ := hI
  walk_at "lw"
  refine ⟨.int m, by simp [za2]; exact hm, ?_⟩
  refine And.intro (ze9 (by decide) (by decide)) (c_26 (gn H) hln hb (by lia) (by lia) fun y hy => ?_)
  refine And.intro (ze9 (by decide) (by decide)) (c_26 (gn H) hln hb (by lia) (by lia) fun z hz => ?_)
  obtain ⟨y0, y1⟩ := hy
  obtain ⟨z0, z1⟩ := hz
  refine c_49 H kb y0 z0 (by exact Int.lt_of_lt_of_le z1 (by decide)) (by lia) fun σ1 bs1 kb1 H1 => ?_
  walk_at "lw"
  refine ⟨by decide, by decide, c_60 (sw H1) kg (by exact Int.ediv_nonneg y0 (by decide)) (by exact Int.lt_of_le_of_lt (Int.ediv_le_self _ y0) (Int.lt_of_lt_of_le y1 (by decide))) (by lia) fun σ2 gs1 kg1 H2 => ?_⟩
  exact hk _ _ ⟨_, _, _, bs1, gs1, rfl, kb1, kg1, sw H2⟩
 ·rintro ρ τ ⟨x4, x13, x14, bs, gs, rfl, kb, kg, H⟩
  refine And.intro (by simp [za2]) ?_
  obtain ⟨h0, h1⟩ := hh
  refine c_61 H kb (by lia) fun σ1 bs1 H1 => ?_
  walk_at "lw"
  try simp only [if_true]
  exact c_62 h0 (by exact Int.lt_of_lt_of_le h1 (by decide)) (sw H1) kg (by lia) fun σ2 gs1 H2 => ⟨_, .refl _, hq _⟩
end
end
section
section
variable {r : Nat} {σ : Sto} {B : BP} {Q : QP} {N : Nat} {L : Lg} {a : Addr} {ρ : Loc}
theorem p7 (k : Nat) : (7 : Int) ^ ((k : Nat) : Int).toNat = ((7 ^ k : Nat) : Int) := by simp
theorem p3 (k : Nat) : (3 : Int) ^ ((k : Nat) : Int).toNat = ((3 ^ k : Nat) : Int) := by simp
theorem p_ok {c k : Nat} (hc : c = 3 ∨ c = 7) (hk : k < 4) : (0 : Int) < ((c ^ k : Nat) : Int) ∧ ((c ^ k : Nat) : Int) < 2 ^ 64 := by
 have : k = 0 ∨ k = 1 ∨ k = 2 ∨ k = 3 := by lia -abstractProof
 rcases hc with rfl | rfl <;> rcases this with rfl | rfl | rfl | rfl <;> decide
theorem zrb {C : Orc} {B : BP} {R : QP} {N : Loc → Sto → Prop} {c : X} {x ss : Ss} (P : Sto → Prop) (hc : ∀ Q : QP, (∀ σ', P σ' → Q (.bool false) σ') → wpX C B ρ [] c σ Q) (next : ∀ σ', P σ' → wpSs C B ss ρ σ' N R) : wpSs C B (.cons (.ite c x .nil) ss) ρ σ N R :=
 hc _ next
theorem idx4 {i : Int} (h0 : 0 ≤ i) (h : i < 4) : ∃ c : Nat, ([Va.int 2, Va.int 0, Va.int 1, Va.int 3] : List Va)[i.toNat]? = some (.int (c : Int)) ∧ c ≤ 3 := by
 have : i = 0 ∨ i = 1 ∨ i = 2 ∨ i = 3 := by lia -abstractProof
 rcases this with rfl | rfl | rfl | rfl
 ·exact ⟨2, rfl, by decide⟩
 ·exact ⟨0, rfl, by decide⟩
 ·exact ⟨1, rfl, by decide⟩
 ·exact ⟨3, rfl, by decide⟩
set_option maxHeartbeats 1000000 in
theorem c_63 {sc : Addr} {xs : List Int} (hs : σ sc = some (.rol (xs.map Va.int))) (hq : ∀ σ', Q (.bool true) σ') : zac tab (r+10) 63 [.ref sc] σ B Q := by
 refine zso ?_
 -- the numbers
 refine asgP (fun v τ => Ex2 fun (na : Addr) (ns : List Int) => A4 (v = .ref na) (ns.length ≤ 24) ((∀ n ∈ ns, 0 ≤ n ∧ n < 999983)) (Hold τ [(na, .list (ns.map Va.int))])) (fun Q h => ?_) ?_
 ·walk_at "lw"
  rw [zhp hs (by decide)]
  intro t ht
  refine zf4 Sto.set_self ?_
  generalize hys : (xs.map Va.int).take (24 : Int).toNat = vs
  have hvs : vs = (xs.take 24).map Va.int := by rw [← hys, List.map_take]; rfl
  have hvl : (xs.take 24).length ≤ 24 := by simp; exact Nat.min_le_left _ _
  generalize xs.take 24 = ys at *
  subst hvs
  refine zbi (N := ys.length) (fun m s => s = (σ.set t (.list (ys.map Va.int)), ((ys.take m).map (· % 999983)).map Va.int)) ?_ ?_ rfl
  ·rintro m s K hm rfl hk
   walk_at "lw"
   refine ⟨_, by rw [zal Sto.set_self, getElem?_map_some hm], ?_⟩
   walk_at "lw"
   simp only [zem, asP, zfs]
   walk_at "lw"
   refine ⟨by decide, by simp [zap]; exact Nat.lt_of_le_of_lt (Nat.min_le_right _ _) (Nat.lt_of_le_of_lt hvl (by decide)), hk _ ?_⟩
   walk_at "lw"
   rw [List.take_succ_eq_append_getElem hm]
   walk_at "lw"
   rw [List.map_append]
   walk_at "lw"
   rw [List.map_append]
   rfl
  ·rintro s rfl
   refine And.intro (by rw [zal Sto.set_self, List.getElem?_eq_none (by simp)]) (fun na hna => ?_)
   rw [List.take_length] at *
   refine h _ _ ⟨na, ys.map (· % 999983), rfl, by simpa using hvl, fun n hn => ?_, Hold.nil.new hna _⟩
   obtain ⟨x, _, rfl⟩ := List.mem_map.mp hn
   exact ⟨(Int.emod_nonneg _ (by decide)), (Int.emod_lt_of_pos _ (by decide))⟩
 rintro _ τ ⟨na, ns, rfl, hln, hb, H⟩
 refine iteP (b := decide (ns.length = 0)) (fun ρ' σ' => Ex2 fun (na : Addr) (ns : List Int) => A4 (ρ' = [some (.ref sc), some (.ref na), none, none, none, none, none, none, none, none, none, none, none, none, none]) ((1 ≤ ns.length ∧ ns.length ≤ 30)) ((∀ n ∈ ns, 0 ≤ n ∧ n < 999983)) (Hold σ' [(na, .list (ns.map Va.int))]))
  (fun Q h => ?_) (fun hz N' hn => ?_) (fun hz N' hn => ?_) ?_
 ·walk_at "lw"
  refine za7 (H.nth 0 rfl) ?_
  walk_at "lw"
  rw [show decide ((ns.length : Int) = 0) = decide (ns.length = 0) from decide_eq_decide.mpr (by lia -abstractProof)]
  exact h
 ·intro nb hnb
  exact hn _ _ ⟨nb, [0], rfl, by decide, by simp, Hold.nil.new hnb _⟩
 ·exact hn _ _ ⟨na, ns, rfl, by have := of_decide_eq_false hz; lia -abstractProof, hb, H⟩
 clear H hb hln na ns τ
 rintro _ τ ⟨na, ns, rfl, hln, hb, H⟩
 -- the head
 refine asgP (fun v τ' => ∃ y, A3 (v = .int y) (zl3 y) (τ = τ')) (fun Q h => ?_) ?_
 ·exact c_26 (H.nth 0 rfl) hln hb (by decide) (by decide) fun y hy => h _ _ ⟨y, rfl, hy, rfl⟩
 rintro _ _ ⟨head, rfl, hh, rfl⟩
 -- the first edit
 refine asgP (fun v τ => Ex9 fun l e w p d m P D A => v = .ref l ∧ Hold τ (zpx l e w p d m P D A (decide (head % 2 = 0)) false ++ [(na, .list (ns.map Va.int))])) (fun Q h => ?_) ?_
 ·refine znb (x := decide (head % 2 = 0)) (fun τ Q h => ?_) H fun τ l e w p d m P D A H => h _ _ ⟨l, e, w, p, d, m, P, D, A, rfl, H⟩
  exact And.intro (by decide) h
 rintro _ τ1 ⟨l, e, w, p, d, m, P, D, A, rfl, H1⟩
 generalize decide (head % 2 = 0) = rs at H1
 have st : ∀ {N : Loc → Sto → Prop} {R : QP} {ss : Ss}, (∀ τ2 b, OkE 0 b → b.l = l → Hold τ2 (bled b ++ [(na, .list (ns.map Va.int))]) → wpSs (zac tab (r + 9)) (ExB B) ss [some (.ref sc), some (.ref na), some (.int head), some (.ref b.l), none, none, none, none, none, none, none, none, none, none, none] τ2 N R) →
   wpSs (zac tab (r + 9)) (ExB B) (.cons (.setAttr (.idx (.var 3) (.int 0)) 14 (.idx (.var 3) (.int 5))) ss) [some (.ref sc), some (.ref na), some (.int head), some (.ref l), none, none, none, none, none, none, none, none, none, none, none] τ1 N R := fun {N R ss} next => by
  refine zai (n := 5) (H1.nth 0 rfl) (i := 5) rfl rfl ?_
  refine zai (n := 0) (H1.nth 0 rfl) (i := 0) rfl rfl ?_
  refine zad (H1.nth 5 rfl) ?_
  refine And.intro (by simp) ?_
  have H2 := H1.up (u' := .inst 18 (setF [(7, .none), (8, .none), (9, .none), (10, .none), (11, .ref P), (12, .ref D), (13, .ref A), (14, .bool false)] 14 (.bool rs))) (.there (.there (.there (.there (.there .here)))))
  exact next _ (zi5 l e w p d m P D A rs) zi4 rfl (zgu H2)
 refine st fun τ2 b ob hbl H2 => ?_
 clear st H1
 -- its words
 refine asgP (fun v τ' => ∃ y, A3 (v = .int y) (zl3 y) (τ2 = τ')) (fun Q h => ?_) ?_
 ·exact c_26 (H2.get (List.mem_append_right _ (.head _))) hln hb (by decide) (by decide) fun y hy => h _ _ ⟨y, rfl, hy, rfl⟩
 rintro _ _ ⟨y, rfl, hy, rfl⟩
 refine zaw (sq := .rng 0 4) (fun K h => by walk_at "lw"; exact ⟨by decide, h⟩) 4 (fun m ρ τ => Ex2 fun b x => A3 (ρ = [some (.ref sc), some (.ref na), some (.int head), some (.ref b.l), some (.int y), x, none, none, none, none, none, none, none, none, none]) (OkE 0 b) (Hold τ (bled b ++ [(na, .list (ns.map Va.int))])))
  ⟨b, none, rfl, ob, H2⟩ ?_ ?_
 ·intro m ρ τ K hm hI hk
  obtain ⟨b, x, rfl, ob, H⟩ := hI
  walk_at "lw"
  refine ⟨.int m, by simp [za2]; exact Int.ofNat_lt.mpr hm, ?_⟩
  walk_at "lw"
  rw [p3]
  walk_at "lw"
  refine ⟨by decide, ⟨by exact Int.natCast_nonneg _, by exact Int.ofNat_le.mpr (Nat.le_of_lt (Nat.lt_of_lt_of_le hm (by decide))), ze9 (by decide) (by decide)⟩, p_ok (.inl rfl) hm, by decide, zav (fun _ => ?_) fun _ => hk _ _ ⟨b, _, rfl, ob, H⟩⟩
  walk_at "lw"
  rw [p7]
  walk_at "lw"
  refine ⟨⟨by exact Int.natCast_nonneg _, by exact Int.ofNat_le.mpr (Nat.le_of_lt (Nat.lt_of_lt_of_le hm (by decide))), ze9 (by decide) (by decide)⟩, p_ok (.inr rfl) hm, ?_⟩
  refine c_37 hm rfl (by rcases four hm with rfl | rfl | rfl | rfl <;> exact .inl rfl) fun v hv _ => ?_
  refine c_36 hm rfl H fun σ' H' => ?_
  exact hk _ _ ⟨b.setW m v, _, by rw [setW_l], ob.setW hm hv, H'⟩
 clear H2 ob hbl b
 rintro _ τ3 ⟨b, x5, rfl, ob, H⟩
 refine And.intro (by simp [za2]) ?_
 -- a pointer, a deletion, an addition
 have gn : ∀ {τ : Sto} {X : Lg}, Hold τ (X ++ [(na, .list (ns.map Va.int))]) → τ na = some (.list (ns.map Va.int)) := fun h => h.get (List.mem_append_right _ (.head _))
 have draw3 : ∀ {τ : Sto} {X : Lg} {f : Nat} {i : Int} {N : Loc → Sto → Prop} {R : QP} {ss : Ss} {ρ : Loc} {z : Va}, Hold τ (X ++ [(na, .list (ns.map Va.int))]) → 0 ≤ i → i ≤ 100 → ρ[3]? = some (some z) → ρ[1]? = some (some (.ref na)) →
   (∀ y, zl3 y → zac tab (r + 9) f [z, .int y] τ (ExB B) fun _ σ => wpSs (zac tab (r + 9)) (ExB B) ss ρ σ N R) →
   wpSs (zac tab (r + 9)) (ExB B) (.cons (.expr (.call f (.cons (.var 3) (.cons (.call 26 (.cons (.var 1) (.cons (.int i) .nil))) .nil)))) ss) ρ τ N R := fun {τ X f i N R ss ρ z} H h0 h1 e3 e1 next => by
  exact zci e3 (zci e1 (c_26 (gn H) hln hb h0 h1 next))
 refine draw3 H (by decide) (by decide) rfl rfl fun y2 _ => c_38 H ob (by decide) fun τ4 b4 e4 o4 H => ?_
 rewrite [← e4]
 refine draw3 H (by decide) (by decide) rfl rfl fun y3 _ => c_39 H o4 (by decide) fun τ5 b5 e5 o5 H => ?_
 rewrite [← e5]
 refine draw3 H (by decide) (by decide) rfl rfl fun y4 _ => c_40 H o5 (by decide) fun τ6 b6 e6 o6 H => ?_
 rewrite [← e6]
 clear draw3
 -- the second edit
 refine asgP (fun v τ => Ex9 fun l e w p d m P D A => v = .ref l ∧ Hold τ (zpx l e w p d m P D A false false ++ (bled b6 ++ [(na, .list (ns.map Va.int))]))) (fun Q h => ?_) ?_
 ·exact znb (x := false) (fun τ Q h => h) H fun τ l e w p d m P D A H => h _ _ ⟨l, e, w, p, d, m, P, D, A, rfl, H⟩
 rintro _ τ7 ⟨l2, e2, w2, p2, d2, m2, P2, D2, A2, rfl, H2⟩
 replace H2 := zgu H2
 have o2 := zi4 (l := l2) (e := e2) (w := w2) (p := p2) (d := d2) (m := m2) (P := P2) (D := D2) (A := A2) (x := false)
 generalize hb2 : zi5 l2 e2 w2 p2 d2 m2 P2 D2 A2 false = b2 at H2 o2
 rewrite [show l2 = b2.l by rw [← hb2]; rfl]
 clear hb2 H
 have sw : ∀ {τ : Sto} {X Y K : Lg}, Hold τ (X ++ (Y ++ K)) → Hold τ (Y ++ (X ++ K)) := fun {τ X Y K} z => z.perm zeh
 refine zrb (fun σ' => Hold σ' (bled b2 ++ (bled b6 ++ [(na, .list (ns.map Va.int))]))) (fun Q h => ?_) fun τ8 H => ?_
 ·refine c_35 (sw H2) o6 (by decide) fun σ1 H => ?_
  refine c_35 (sw H) o2 (by decide) fun σ1 H => ?_
  exact h _ H
 clear H2
 generalize hLL : bled b2 ++ (bled b6 ++ [(na, UOb.list (ns.map Va.int))]) = LL at H
 have gn2 : ∀ {τ : Sto} {X : Lg}, Hold τ (X ++ LL) → τ na = some (.list (ns.map Va.int)) := fun {τ X} h => h.get (List.mem_append_right _ (by rw [← hLL]; exact List.mem_append_right _ (List.mem_append_right _ (.head _))))
 -- the manifesto's words
 refine asgP (fun v τ' => ∃ y, A3 (v = .int y) (zl3 y) (τ8 = τ')) (fun Q h => ?_) ?_
 ·exact c_26 (gn2 (X := []) H) hln hb (by decide) (by decide) fun y hy => h _ _ ⟨y, rfl, hy, rfl⟩
 rintro _ _ ⟨y5, rfl, hy5, rfl⟩
 refine asgP (fun v τ => Ex4 fun w n0 n1 n2 => A5 (v = .ref w) (Num n0) (Num n1) (Seqn n2) (Hold τ ((w, .list [n0, n1, n2]) :: LL))) (fun Q h => ?_) ?_
 ·refine c_27 ⟨by decide, c_27 ⟨by decide, zk2 (i := 3) (by decide) (.inl rfl) fun v hv hs => fun w hw => ?_⟩⟩
  exact h _ _ ⟨w, _, _, v, rfl, zc4 _, zc4 _, hs rfl, H.new hw _⟩
 rintro _ τ9 ⟨w, n0, n1, n2, rfl, k0, k1, k2, H⟩
 refine asgP (fun v τ => ∃ u, v = .ref u ∧ Hold τ ((u, .list []) :: (w, .list [n0, n1, n2]) :: LL)) (fun Q h => ?_) ?_
 ·exact fun u hu => h _ _ ⟨u, rfl, H.new hu _⟩
 rintro _ τ10 ⟨u, rfl, H⟩
 obtain ⟨hh0, hh1⟩ := hh
 obtain ⟨c, hc, hc3⟩ := idx4 (i := head / 4 % 4) (by exact Int.emod_nonneg _ (by decide)) (by exact Int.emod_lt_of_pos _ (by decide))
 refine zaw (sq := .rng 0 c) (fun K h => ?_) c (fun m ρ τ => Ex2 fun x rs => A4 (ρ = [some (.ref sc), some (.ref na), some (.int head), some (.ref b6.l), some (.int y5), x, some (.ref b2.l), some (.ref w), some (.ref u), none, none, none, none, none, none]) ((∀ f ∈ rs, OkR f)) (rs.length = m) (Hold τ ((u, .list (rs.map fun f => Va.ref f.pr)) :: (w, .list [n0, n1, n2]) :: (rled rs ++ LL)))) ⟨x5, [], rfl, fun f h => (nomatch h), rfl, H⟩ ?_ ?_
 ·walk_at "lw"
  walk_at "lw"
  rw [zhy (by exact Int.emod_nonneg _ (by decide)) (by exact Int.lt_of_lt_of_le (Int.emod_lt_of_pos _ (by decide)) (by decide)) hc]
  walk_at "lw"
  exact ⟨by decide, by decide, ⟨by exact by decide, by exact by decide, by exact Int.lt_of_lt_of_le (by decide) (Int.natCast_nonneg _), by exact Int.ofNat_lt.mpr (Nat.lt_of_le_of_lt hc3 (by decide))⟩, h⟩
 ·intro m ρ τ K hm hI hk
  obtain ⟨x, rs, rfl, hrs, hrl, H⟩ := hI
  walk_at "lw"
  refine ⟨.int m, by simp [za2]; exact hm, ?_⟩
  walk_at "lw"
  rw [zan (H.nth 0 rfl)]
  walk_at "lw"
  rw [p3]
  refine And.intro (.inl (by trivial)) (c_26 (H.get (.tail _ (.tail _ (List.mem_append_right _ (by rw [← hLL]; exact List.mem_append_right _ (List.mem_append_right _ (.head _))))))) hln hb (by decide) (by decide) fun y6 hy6 => ?_)
  obtain ⟨y60, y61⟩ := hy6
  walk_at "lw"
  refine ⟨⟨by exact Int.natCast_nonneg _, by exact Int.ofNat_le.mpr (Nat.le_of_lt (Nat.lt_of_lt_of_le hm (Nat.le_trans hc3 (by decide)))), ze9 (by decide) (by decide)⟩, p_ok (.inl rfl) (by exact Nat.lt_of_lt_of_le hm (Nat.le_trans hc3 (by decide))), ?_⟩
  have q0 : 0 ≤ y6 / ((3 ^ m : Nat) : Int) := Int.ediv_nonneg y60 (Int.natCast_nonneg _)
  have q1 : y6 / ((3 ^ m : Nat) : Int) ≤ y6 := Int.ediv_le_self _ y60
  refine c_55 (by exact Int.add_nonneg q0 (Int.natCast_nonneg _)) (by lia -abstractProof) H fun σ1 f of H => ?_
  have gu := H.get (List.mem_append_right _ (.head _))
  walk_at "lw"
  refine And.intro (zan gu).symm (zbj gu ⟨by simp [zap]; exact Nat.lt_of_le_of_lt (Nat.le_of_eq hrl) (Nat.lt_of_lt_of_le hm (Nat.le_trans hc3 (by decide))), hk _ _ ⟨_, rs ++ [f], rfl, fun x hx => ?_, by simp; exact Nat.le_antisymm (Nat.le_of_eq hrl) (Nat.le_of_eq hrl.symm), ?_⟩⟩)
  ·exact zco hrs of x hx
  ·refine (H.up (u' := .list (rs.map (fun f => Va.ref f.pr) ++ [.ref f.pr])) (.there (.there (.there .here)))).perm ?_
   rw [List.map_append]
   refine List.Perm.trans ?_ (.cons _ (.cons _ (.append_right _ rled_app.symm)))
   exact zcv [_, _, _, _, _] [rled rs, LL] (.cs (.r 0 [1]) [0, 1, 2, 3, 4]) (.cs (.a (.a (.l 0) (.cs .n [0, 1, 2])) (.l 1)) [3, 4]) rfl
 rintro ρ τ11 ⟨x, rs, rfl, hrs, hrl, H⟩
 refine And.intro (by simp [za2]) ?_
 refine asgP (fun v τ' => ∃ o, A3 (v = .bytes o) (Key (.bytes o)) (τ11 = τ')) (fun Q h => ?_) ?_
 ·exact And.intro (by decide) (c_30 (h _ _ ⟨_, rfl, zc6 _, rfl⟩))
 rintro _ _ ⟨cf, rfl, kc, rfl⟩
 -- the manifesto
 refine asgP (fun v τ => ∃ (g : MB), A3 (v = .ref g.l) (OkM 3 g) (Hold τ (sted g ++ LL))) (fun Q h => ?_) ?_
 ·have gu := H.nth 0 rfl
  have gw := H.nth 1 rfl
  have gp : ∀ f ∈ rs, τ11 f.pr = some (.list [.ref f.ru, .ref f.ro]) := fun f hf => H.get (.tail _ (.tail _ (List.mem_append_left _ (List.mem_append_left _ (List.mem_flatMap.mpr ⟨f, hf, .head _⟩)))))
  refine zai (n := 0) gw (i := 0) rfl rfl ?_
  refine zai (n := 1) gw (i := 1) rfl rfl ?_
  refine zai (n := 2) gw (i := 2) rfl rfl ?_
  refine zf4 gu ?_
  walk_at "lw"
  simp only [i24]
  refine zbi (N := rs.length) (fun m s => s = (τ11, (rs.take m).map fun f => Va.ref f.ru)) ?_ ?_ rfl
  ·rintro m s K hm rfl hk
   walk_at "lw"
   refine ⟨_, by rw [zal gu, getElem?_map_some hm], ?_⟩
   walk_at "lw"
   simp only [zem, asP, zfs]
   refine zai (n := 0) (gp _ (List.getElem_mem hm)) (i := 0) rfl rfl ?_
   refine And.intro (by simp [zap]; exact Nat.lt_of_le_of_lt (Nat.min_le_right _ _) (Nat.lt_of_le_of_lt (Nat.le_of_eq hrl) (Nat.lt_of_le_of_lt hc3 (by decide)))) (hk _ ?_)
   walk_at "lw"
   rw [List.take_succ_eq_append_getElem hm]
   walk_at "lw"
   rw [List.map_append]
   rfl
  ·rintro s rfl
   refine And.intro (by rw [zal gu, List.getElem?_eq_none (by simp)]) (fun U hU => ?_)
   rw [List.take_length] at *
   replace H := H.new hU (.list (rs.map fun f => Va.ref f.ru))
   intro m hm
   replace H := H.new hm (.inst 24 [])
   refine c_227 (H.nth 0 rfl) ⟨rfl, ?_⟩
   replace H := H.set (.inst 24 [(17, n0), (18, n1), (19, .bytes cf), (10, n2), (20, .ref U)])
   intro l hl
   replace H := H.new hl (.list [.ref m, .ref w, .bytes cf, .ref u])
   refine h _ _ ⟨⟨l, m, w, u, U, n0, n1, n2, .bytes cf, rs⟩, rfl, ⟨k0, k1, k2, kc, hrs, by show rs.length ≤ 3; exact Nat.le_trans (Nat.le_of_eq hrl) hc3⟩, H.perm (zcv [_, _, _, _, _] [rs.flatMap RB.sl, rs.map RB.el, LL] (.cs (.a (.r 0 [1]) (.l 2)) [0, 1, 2, 3, 4]) (.a (.a (.a (.cs .n [0, 4, 3]) (.l 0)) (.a (.cs .n [1, 2]) (.l 1))) (.l 2)) rfl)⟩
 rintro _ τ12 ⟨g, rfl, og, H⟩
 refine zrb (fun σ' => Hold σ' (sted g ++ LL)) (fun Q h => ?_) fun τ13 H => ?_
 ·refine c_52 H og (by decide) fun σ1 H => ?_
  exact h _ H
 subst hLL
 refine asgP (fun v τ => ∃ lb, v = .ref lb ∧ Hold τ (gl lb [b6, b2] ++ (sted g ++ [(na, .list (ns.map Va.int))]))) (fun Q h => ?_) ?_
 ·intro lb hlb
  refine h _ _ ⟨lb, rfl, (H.new hlb (.list [.ref b6.l, .ref b2.l])).perm (zcv [_] [sted g, bled b2, bled b6, _] (.c 0 (.r 0 [1, 2, 3])) (.a (.c 0 (.a (.l 2) (.a (.l 1) .n))) (.r 0 [3])) rfl)⟩
 rintro _ τ14 ⟨lb, rfl, H⟩
 refine asgP (fun v τ => ∃ ls, v = .ref ls ∧ Hold τ (gl lb [b6, b2] ++ (hl ls [g] ++ [(na, .list (ns.map Va.int))]))) (fun Q h => ?_) ?_
 ·intro ls hls
  refine h _ _ ⟨ls, rfl, (H.new hls (.list [.ref g.l])).perm (zcv [_] [gl lb [b6, b2], sted g, _] (.c 0 (.r 0 [1, 2])) (.a (.l 0) (.a (.c 0 (.a (.l 1) .n)) (.l 2))) rfl)⟩
 rintro _ τ15 ⟨ls, rfl, H⟩
 exact zlp hln hb ⟨hh0, hh1⟩ H (o6.mono (by decide)) (o2.mono (by decide)) og hq
end
end
end LW.Internal
end
section
open PySem PySem.W PyProof.Rows PySem.Calls
open Sem (wp)
namespace LW.Internal
noncomputable def nsRef (K : Frag) (x : Str) : Addr := match nsIn K mainGlobals x with
 | some (some (.ref a)) => a
 | _ => 0
noncomputable def mclL : List (Nat × Nat × Str) := [(200, 15, "__init__"), (201, 15, "left"), (202, 15, "varint"), (203, 15, "fixed32"), (205, 15, "lengthed"), (209, 15, "done"), (210, 16, "__init__"), (211, 16, "varint"), (212, 16, "fixed32"), (214, 16, "lengthed"), (218, 16, "done"), (219, 17, "__init__"), (220, 17, "row"), (221, 18, "__init__"), (222, 18, "row"), (223, 18, "encode"), (224, 23, "__init__"), (225, 23, "row"), (227, 24, "__init__"), (228, 24, "row"), (229, 24, "encode")]
noncomputable def mcls (g : Nat) : Option (Nat × Str) := mclL.lookup g
noncomputable def faK (K : Frag) (g : Nat) : Addr := match mcls g with
 | some (c, m) => (match findIn K (.ref (nsRef K (zg0 c))) m with
  | some (some (.ref a)) => a
  | _ => 0)
 | none => nsRef K (zg0 g)
noncomputable def chkG (K : Frag) (g : Nat) : Bool := nsIn K mainGlobals (zg0 g) == some (some (.ref (faK K g)))
noncomputable def zsh (i : Int) (v : Value) : Bool := match v with
 | .int j _ => i == j
 | _ => false
theorem znk {i : Int} {v : Value} (h : zsh i v = true) : ∃ t, v = .int i t := by
 cases v <;> first | exact bad h | exact ⟨_, by rw [beq_iff_eq.mp h]⟩
noncomputable def onRef (v : Value) (k : Addr → Bool) : Bool := match v with
 | .ref a => k a
 | _ => false
theorem refE {k} {P : Value → Prop} {v} (h : onRef v k = true) (H : ∀ a, k a = true → P (.ref a)) : P v := by
 cases v <;> first | exact bad h | exact H _ h
noncomputable def onSeq (d : Data) (k : List Value → Bool) : Bool := match d with
 | .seq a _ => k a.toList
 | _ => false
theorem seqE {k} {P : Data → Prop} {v} (h : onSeq v k = true) (H : ∀ l n, k l = true → P (.seq ⟨l⟩ n)) : P v := by
 cases v <;> first | exact bad h | exact H _ _ h
noncomputable def zq7 (d : Data) (k : FuncData → Bool) : Bool := match d with
 | .func a => k a
 | _ => false
theorem funcE {k} {P : Data → Prop} {v} (h : zq7 v k = true) (H : ∀ a, k a = true → P (.func a)) : P v := by
 cases v <;> first | exact bad h | exact H _ h
noncomputable def zq6 (v : Va) (k : Int → Bool) : Bool := match v with
 | .int i => k i
 | _ => false
theorem intVE {k} {P : Va → Prop} {v} (h : zq6 v k = true) (H : ∀ a, k a = true → P (.int a)) : P v := by
 cases v <;> first | exact bad h | exact H _ h
noncomputable def chkI (K : Frag) (g : Nat) : Bool := zcg (nsIn K mainGlobals (zfx g)) fun o => zcg o (zsh (gval g))
noncomputable def chkB (K : Frag) (x : Str) : Bool := nsIn K mainGlobals x == some none
noncomputable def chkD (K : Frag) (f : Fn) (fd : FuncData) : Bool := cond f.dflt.isEmpty (fd.defaults == .none)
 (on1 f.dflt fun v => zq6 v fun i => onRef fd.defaults fun a => zcg (K.lookup a) fun ob => ob.cls == .type "tuple" && (onSeq ob.data (fun l => on1 l (zsh i)) && !(f.np == 0)))
noncomputable def chkF (K : Frag) (g : Nat) : Bool := zcg (tab g) fun f => zcg (K.lookup (faK K g)) fun ob => zq7 ob.data fun fd => zpw f fd && (codeIn K fd.code fd.qualname && chkD K f fd)
noncomputable def chkM (K : Frag) (c : Nat) (f : Nat) (n : Str) : Bool := findIn K (.ref (faK K c)) n == some (some (.ref (faK K f))) && typeIn K (.ref (faK K f)) == some (.type "function")
noncomputable def chkC (K : Frag) (g : Nat) : Bool :=
 findIn K (.ref (faK K g)) "__getattribute__" == some (some (.builtin "object.__getattribute__")) && findIn K (.ref (faK K g)) "__getattr__" == some none &&
 findIn K (.ref (faK K g)) "__setattr__" == some (some (.builtin "object.__setattr__")) && (List.range 21).all (fun i => findIn K (.ref (faK K g)) (zae i) == some none) &&
 plainOver K (faK K g) && (clsIn K (faK K g)).any (·.hasDict) && makesIn K (faK K g) &&
 (match ini g with | some f => chkM K g f "__init__" | none => true) && (List.range 7).all (fun m => match mth g m with | some f => chkM K g f (zhu m) | none => true)
noncomputable def excBm : List Value := [.type "Exception", .type "BaseException", .type "object"]
noncomputable def chkE (K : Frag) : Bool := excIn K (faK K 5) excBm "Exception.__new__"
noncomputable def tabIds : List Nat := tabL.map (·.1)
noncomputable def bltNames : List Str := ["len", "bytes", "bytearray", "min", "tuple", "list", "range"]
structure Chk (K : Frag) : Prop where
 G : (fnIds ++ clsIds ++ [5]).all (chkG K) = true
 I : (List.range 12).all (chkI K) = true
 B : bltNames.all (chkB K) = true
 F : tabIds.all (chkF K) = true
 C : clsIds.all (chkC K) = true
 E : chkE K = true
theorem zhf {α : Type} : ∀ {l : List (Nat × α)} {g : Nat} {f : α}, l.lookup g = some f → g ∈ l.map (·.1)
 | [], _, _, h => by cases h
 | (a, b) :: l, g, f, h => by
  rw [List.lookup_cons] at h
  cases e : g == a with
  | true => rw [beq_iff_eq.mp e]; exact List.mem_cons_self
  | false => rw [e] at h; exact List.mem_cons_of_mem _ (zhf h)
theorem zrp {g : Nat} {f : Fn} (h : tab g = some f) : g ∈ tabIds := zhf h
theorem mth_lt {g m f : Nat} (h : mth g m = some f) : m < 7 := by
 unfold mth at h
 split at h
 ·assumption
 ·cases h
theorem chkD_E {K : Frag} {h₀ : Heap} (X : K.In h₀) {f : Fn} {fd : FuncData} (h : chkD K f fd = true) : f.dflt = [] ∧ fd.defaults = .none ∨ Ex3 fun a i t => A4 (fd.defaults = .ref a) (IsTup h₀ a #[.int i t]) (f.dflt = [.int i]) (f.np ≠ 0) := by
 unfold chkD at h
 cases e : f.dflt.isEmpty with
 | true => rw [e] at h; exact .inl ⟨List.isEmpty_iff.mp e, beq_iff_eq.mp h⟩
 | false =>
  rw [e] at h
  refine .inr (zb5 (P := fun l => Ex3 fun a i t => A4 (fd.defaults = .ref a) (IsTup h₀ a #[.int i t]) (l = [.int i]) (f.np ≠ 0)) h fun v h => ?_)
  refine intVE (P := fun v => Ex3 fun a i t => A4 (fd.defaults = .ref a) (IsTup h₀ a #[.int i t]) ([v] = [.int i]) (f.np ≠ 0)) h fun i h => ?_
  refine refE (P := fun d => Ex3 fun a j t => A4 (d = .ref a) (IsTup h₀ a #[.int j t]) ([Va.int i] = [.int j]) (f.np ≠ 0)) h fun a h => ?_
  obtain ⟨⟨oc, od, dt, osl⟩, e2, h⟩ := zdv h
  refine andE h fun h1 h => andE h fun h2 h3 => ?_
  refine seqE (P := fun dt => K.lookup a = some ⟨oc, od, dt, osl⟩ → _) h2 (fun l n h2 e2 => ?_) e2
  refine zb5 (P := fun l => K.lookup a = some ⟨oc, od, .seq ⟨l⟩ n, osl⟩ → _) h2 (fun w h2 e2 => ?_) e2
  obtain ⟨t, rfl⟩ := znk h2
  exact ⟨a, i, t, rfl, ⟨_, X _ _ e2, beq_iff_eq.mp h1, n, rfl⟩, rfl, by simpa using h3⟩
theorem pre_of {W : Wd} {p : Program} {loose : List Str} {mg mb : Str → Option Value} (chk : Chk W.K) (hfa : W.fa = faK W.K) (X : W.K.In W.h₀) (T : TopRead p loose mg mb W.h₀) : Pre W := by
 refine ⟨X, ⟨p, loose, mg, mb, T⟩, fun g hg => ?_, fun g hg => ?_, fun x hx => ?_, fun g f hf => ?_, T.nolimit, fun g hg => ?_, ?_⟩
 ·rw [hfa]
  refine beq_iff_eq.mp (List.all_eq_true.mp chk.G g ?_)
  simp only [Bool.or_eq_true, beq_iff_eq] at hg
  rcases hg with (hg | hg) | hg
  ·exact List.mem_append_left _ (List.mem_append_left _ (List.contains_iff_mem.mp hg))
  ·exact List.mem_append_left _ (List.mem_append_right _ (List.contains_iff_mem.mp hg))
  ·subst hg; exact List.mem_append_right _ (.head _)
 ·obtain ⟨o, e, h⟩ := zdv (List.all_eq_true.mp chk.I g (List.mem_range.mpr hg))
  obtain ⟨v, rfl, h⟩ := zdv h
  obtain ⟨t, rfl⟩ := znk h
  exact ⟨t, e⟩
 ·refine beq_iff_eq.mp (List.all_eq_true.mp chk.B x ?_)
  rcases hx with rfl | rfl | rfl | rfl | rfl | rfl | rfl <;> simp [bltNames]
 ·rw [hfa]
  obtain ⟨f', e1, h⟩ := zdv (List.all_eq_true.mp chk.F g (zrp hf))
  cases hf.symm.trans e1
  obtain ⟨⟨oc, od, dt, osl⟩, e2, h⟩ := zdv h
  refine funcE (P := fun dt => W.K.lookup (faK W.K g) = some ⟨oc, od, dt, osl⟩ → _) h (fun fd h e2 => andE h fun h1 h => andE h fun h2 h => ⟨oc, od, osl, fd, e2, h1, h2, chkD_E X h⟩) e2
 ·have := List.all_eq_true.mp chk.C g (List.contains_iff_mem.mp hg)
  unfold chkC at this
  simp only [Bool.and_eq_true, beq_iff_eq, List.all_eq_true] at this
  obtain ⟨⟨⟨⟨⟨⟨⟨⟨h1, h2⟩, h3⟩, h4⟩, h5⟩, h6⟩, h7⟩, h8⟩, h9⟩ := this
  have km : ∀ f n, chkM W.K g f n = true → findIn W.K (.ref (faK W.K g)) n = some (some (.ref (faK W.K f))) ∧ typeIn W.K (.ref (faK W.K f)) = some (.type "function") := fun f n h => by
   unfold chkM at h
   simp only [Bool.and_eq_true, beq_iff_eq] at h
   exact h
  rw [hfa]
  refine ⟨h1, h2, h3, fun i hi => h4 i (List.mem_range.mpr hi), h5, h6, h7, fun f hf => ?_, fun m f hm => ?_⟩
  ·rw [hf] at h8; exact km _ _ h8
  ·have := h9 m (List.mem_range.mpr (mth_lt hm))
   rw [hm] at this
   exact km _ _ this
 ·rw [hfa]
  exact ⟨_, _, _, _, F.excBase_Exception, chk.E⟩
theorem zr4 {h : Heap} {vs : List Value} {xs : List Int} (x : IntsAre vs xs) : RvL h (xs.map Va.int) vs := by
 induction x with
 | nil => exact RvL.nil
 | cons n t _ ih => exact RvL.cons (by simp only [Rv]; exact ⟨t, rfl⟩) ih
set_option tactic.hygienic true in
theorem zos {q : Program} {loose : List Str} {XP : (Str → Option Value) → Heap → Prop} {K : Params → Frag} {as : List Addr} {e : ∀ P, as = (K P).map (·.1)} {n : Str} (hn : n = zg0 63) (chk : ∀ P, Chk (K P)) :
  WalkC q loose XP (kHook K as e).says PySem.Challenge.rw_xm0871_01.row.toRowW n := by
 intro w s₀ s₁ mg mb args vals as' a B hmg
 have X : (K w.params).In s₁.heap := kIn_of B.hook
 have T := topRead_of B.ground.T
 have hg := B.laid.gens
 obtain ⟨_, _, hpre, hlay, L, hlo⟩ := B
 have hrd := L.reads
 have hwl := L.well
 wrow_args hpre hlay hrd hwl hlo
 rename_i xs hs hlay0 hL1 hr1 hl2 as4 as3 sc items as0 hL ra w1 r0 hI hr2 hcA hcB
 have hlen : xs.length ≤ 63 := by lia
 have pre : Pre ⟨PySem.Challenge.rw_xm0871_01.row.prog, w, K w.params, s₁.heap, s₁.os, faK (K w.params)⟩ := pre_of (chk w.params) rfl X T
 have ea : a = faK (K w.params) 63 := by
  have z := mg_of X T.g (pre.glob 63 (by decide))
  rw [hn, z] at hmg; cases hmg; rfl
 have hil := hI.length
 have S : St ⟨PySem.Challenge.rw_xm0871_01.row.prog, w, K w.params, s₁.heap, s₁.os, faK (K w.params)⟩ [] (fun b => if b = sc then some (.rol (xs.map Va.int)) else none) s₁ := by
  refine ⟨[], fun _ => 0, ⟨Ext.refl _, List.nodup_nil, fun p hp => (nomatch hp), fun p hp => (nomatch hp), hg, rfl⟩, fun b u hb => ?_, fun b b' u u' hb hb' hi => ?_⟩
  ·split at hb <;> cases hb
   rename_i eb
   subst eb
   exact ⟨items.toArray, hL, by simp [sizeLine]; exact Nat.le_trans hlen (by decide), zr4 hI⟩
  ·split at hb <;> cases hb
   cases hi
 subst ea
 refine ze8 (zcc (zk1 pre 10 63 [.ref sc] _ (fun _ => False) (fun v _ => v = .bool true) (c_63 (r := 0) (xs := xs) (if_pos rfl) fun _ => rfl) callerA [] s₁ [.ref sc] ⟨by decide, by decide⟩
  (fun fr h e he => by cases h; cases he) ⟨rfl, [], rfl, trivial⟩ S (RvL.cons (by simp only [Rv]) RvL.nil)) fun res s' h => ?_)
 match res, h with
 | .ok (.ret v), h =>
  obtain ⟨mv, σ', rvv, S', k, rfl⟩ := h
  have ev := zds rvv
  subst ev
  refine ⟨.inl ⟨_, _, [], rfl, fun _ => rfl, ReadsW.bool true, ?_, fun _ => ⟨List.nodup_nil, fun _ hm => (nomatch hm)⟩⟩, OldK.of_keep S'.keep, S'.os, AllBare.of_eq S'.gens⟩
  first | rfl | wrow_post
 | .error e, h =>
  obtain ⟨σ', _, _, _, hf⟩ := h
  exact hf.elim
end LW.Internal
end
section
open PySem PySem.W PyProof.Rows PySem.Calls
namespace LW.Internal
theorem hd.tw3104094539896737643 : True := ⟨⟩
theorem hd.tw16395937256225127766 : True := ⟨⟩
theorem hd.tw10143520995396434894 : True := ⟨⟩
theorem hd.tw10151699450840580679 : True := ⟨⟩
theorem hd.tw10204095106937995360 : True := ⟨⟩
theorem hd.tw10206773908005824501 : True := ⟨⟩
theorem hd.tw10226639574434702329 : True := ⟨⟩
theorem hd.tw10268942685003670829 : True := ⟨⟩
theorem hd.tw10365684817326723585 : True := ⟨⟩
theorem hd.tw10384280282690929900 : True := ⟨⟩
theorem hd.tw10405346447563295812 : True := ⟨⟩
theorem hd.tw10410768906402700533 : True := ⟨⟩
theorem hd.tw10438529589730222167 : True := ⟨⟩
theorem hd.tw10467575127692581154 : True := ⟨⟩
theorem hd.tw10472751100874578086 : True := ⟨⟩
theorem hd.tw10483326548526078894 : True := ⟨⟩
theorem hd.tw10489694825946806868 : True := ⟨⟩
theorem hd.tw10503134427085176846 : True := ⟨⟩
theorem hd.tw10505474167493921326 : True := ⟨⟩
theorem hd.tw10529701711843825828 : True := ⟨⟩
theorem hd.tw10550398817246185499 : True := ⟨⟩
theorem hd.tw10586037033080368252 : True := ⟨⟩
theorem hd.tw1059065034731699025 : True := ⟨⟩
theorem hd.tw10611705572825650012 : True := ⟨⟩
theorem hd.tw10720629710755508682 : True := ⟨⟩
theorem hd.tw1073557018301032691 : True := ⟨⟩
theorem hd.tw10794574351182393183 : True := ⟨⟩
theorem hd.tw10828541828090570113 : True := ⟨⟩
theorem hd.tw10851394292158840575 : True := ⟨⟩
theorem hd.tw10891534980193310081 : True := ⟨⟩
theorem hd.tw10913289166404666376 : True := ⟨⟩
theorem hd.tw1097624210072476860 : True := ⟨⟩
theorem hd.tw11031108800368509557 : True := ⟨⟩
theorem hd.tw11044011859129352457 : True := ⟨⟩
theorem hd.tw11051681464747346680 : True := ⟨⟩
theorem hd.tw11084454878346877499 : True := ⟨⟩
theorem hd.tw11098381152967770832 : True := ⟨⟩
theorem hd.tw11125153062990592503 : True := ⟨⟩
theorem hd.tw11169158683895608128 : True := ⟨⟩
theorem hd.tw11183297690399029642 : True := ⟨⟩
theorem hd.tw11247664820678255536 : True := ⟨⟩
theorem hd.tw1127473476237167903 : True := ⟨⟩
theorem hd.tw11361374888741317320 : True := ⟨⟩
theorem hd.tw11382149622150430718 : True := ⟨⟩
theorem hd.tw11407715343603231639 : True := ⟨⟩
theorem hd.tw11451978749271649697 : True := ⟨⟩
theorem hd.tw11453148210076515296 : True := ⟨⟩
theorem hd.tw11466971984081745060 : True := ⟨⟩
theorem hd.tw11474951528773039812 : True := ⟨⟩
theorem hd.tw1150257374616065329 : True := ⟨⟩
theorem hd.tw11506432680290223516 : True := ⟨⟩
theorem hd.tw11554877140497739246 : True := ⟨⟩
theorem hd.tw11557056781509929175 : True := ⟨⟩
theorem hd.tw11564407956170442185 : True := ⟨⟩
theorem hd.tw115650421582849495 : True := ⟨⟩
theorem hd.tw11568158551664726065 : True := ⟨⟩
theorem hd.tw11654822788192797445 : True := ⟨⟩
theorem hd.tw11661731340286317419 : True := ⟨⟩
theorem hd.tw11663400479192276629 : True := ⟨⟩
theorem hd.tw11667120482598296593 : True := ⟨⟩
theorem hd.tw11678409092318705384 : True := ⟨⟩
theorem hd.tw11714013468254011585 : True := ⟨⟩
theorem hd.tw11748471942867295680 : True := ⟨⟩
theorem hd.tw11757938997140318201 : True := ⟨⟩
theorem hd.tw11788996197666910536 : True := ⟨⟩
theorem hd.tw11798864733477126887 : True := ⟨⟩
theorem hd.tw11799385914877206945 : True := ⟨⟩
theorem hd.tw11829175162669560095 : True := ⟨⟩
theorem hd.tw11838120522178328417 : True := ⟨⟩
theorem hd.tw11839377416000734500 : True := ⟨⟩
theorem hd.tw11844335913123751744 : True := ⟨⟩
theorem hd.tw11851822066982248021 : True := ⟨⟩
theorem hd.tw11871128152764916828 : True := ⟨⟩
theorem hd.tw11915766656960501158 : True := ⟨⟩
theorem hd.tw11959860281272237570 : True := ⟨⟩
theorem hd.tw11998737164729490314 : True := ⟨⟩
theorem hd.tw12030561342972889972 : True := ⟨⟩
theorem hd.tw1204681169752965215 : True := ⟨⟩
theorem hd.tw12065892054501047959 : True := ⟨⟩
theorem hd.tw12067906275002370842 : True := ⟨⟩
theorem hd.tw12085217512880306336 : True := ⟨⟩
theorem hd.tw12092280464911851927 : True := ⟨⟩
theorem hd.tw12116349267394217871 : True := ⟨⟩
theorem hd.tw12122821518549587435 : True := ⟨⟩
theorem hd.tw12132931925436521272 : True := ⟨⟩
theorem hd.tw12187261236570937311 : True := ⟨⟩
theorem hd.tw1223079862440440322 : True := ⟨⟩
theorem hd.tw1225180436042960087 : True := ⟨⟩
theorem hd.tw12273502999308962516 : True := ⟨⟩
theorem hd.tw12280919654152803284 : True := ⟨⟩
theorem hd.tw12287533969580086670 : True := ⟨⟩
theorem hd.tw12302435734124232948 : True := ⟨⟩
theorem hd.tw12319897674359331551 : True := ⟨⟩
theorem hd.tw12320093658842100035 : True := ⟨⟩
theorem hd.tw12321550216246866266 : True := ⟨⟩
theorem hd.tw12362445688028447395 : True := ⟨⟩
theorem hd.tw12367286658484901560 : True := ⟨⟩
theorem hd.tw12396096296568787840 : True := ⟨⟩
theorem hd.tw12416590533482953257 : True := ⟨⟩
theorem hd.tw12437205288386066328 : True := ⟨⟩
theorem hd.tw12449750717049203980 : True := ⟨⟩
theorem hd.tw12470826224025698348 : True := ⟨⟩
theorem hd.tw12478921672000465665 : True := ⟨⟩
theorem hd.tw12495999099224035299 : True := ⟨⟩
theorem hd.tw1250001678279320624 : True := ⟨⟩
theorem hd.tw12501613188745303189 : True := ⟨⟩
theorem hd.tw1255127790829555299 : True := ⟨⟩
theorem hd.tw12598482197207561447 : True := ⟨⟩
theorem hd.tw12612972564158111413 : True := ⟨⟩
theorem hd.tw12676987960419955335 : True := ⟨⟩
theorem hd.tw12720135478356421591 : True := ⟨⟩
theorem hd.tw12725703980244239797 : True := ⟨⟩
theorem hd.tw12747374179180966859 : True := ⟨⟩
theorem hd.tw12763364987752621489 : True := ⟨⟩
theorem hd.tw12771401680486098813 : True := ⟨⟩
theorem hd.tw12783599783616156066 : True := ⟨⟩
theorem hd.tw1279508184246836446 : True := ⟨⟩
theorem hd.tw12814672737935748510 : True := ⟨⟩
theorem hd.tw12823451636835476144 : True := ⟨⟩
theorem hd.tw12855446815198722168 : True := ⟨⟩
theorem hd.tw128567422350841442 : True := ⟨⟩
theorem hd.tw12888867805554984048 : True := ⟨⟩
theorem hd.tw12913353698682278159 : True := ⟨⟩
theorem hd.tw12929238240648527469 : True := ⟨⟩
theorem hd.tw12964854535610327590 : True := ⟨⟩
theorem hd.tw1296502033911091968 : True := ⟨⟩
theorem hd.tw13093073369287719622 : True := ⟨⟩
theorem hd.tw13111829332525537777 : True := ⟨⟩
theorem hd.tw13132034205796071330 : True := ⟨⟩
theorem hd.tw13151645294814187352 : True := ⟨⟩
theorem hd.tw13169255420194018481 : True := ⟨⟩
theorem hd.tw13178289474287001647 : True := ⟨⟩
theorem hd.tw132305114895119856 : True := ⟨⟩
theorem hd.tw13250676494303384149 : True := ⟨⟩
theorem hd.tw13251555440509374054 : True := ⟨⟩
theorem hd.tw13298577635194881651 : True := ⟨⟩
theorem hd.tw13317083140379262690 : True := ⟨⟩
theorem hd.tw13361438896692027702 : True := ⟨⟩
theorem hd.tw13374364050387183701 : True := ⟨⟩
theorem hd.tw1337736342662814984 : True := ⟨⟩
theorem hd.tw13387359368438072165 : True := ⟨⟩
theorem hd.tw13388763914242545374 : True := ⟨⟩
theorem hd.tw13407219765630631678 : True := ⟨⟩
theorem hd.tw13409137777977062166 : True := ⟨⟩
theorem hd.tw13451689716347853225 : True := ⟨⟩
theorem hd.tw13462690791841796538 : True := ⟨⟩
theorem hd.tw13476031448593740771 : True := ⟨⟩
theorem hd.tw13499055394286432957 : True := ⟨⟩
theorem hd.tw13528709665118001862 : True := ⟨⟩
theorem hd.tw13574941853292463419 : True := ⟨⟩
theorem hd.tw13581824762028119828 : True := ⟨⟩
theorem hd.tw13596806741774675102 : True := ⟨⟩
theorem hd.tw13683523438722128481 : True := ⟨⟩
theorem hd.tw13704837056924405478 : True := ⟨⟩
theorem hd.tw13724712748093695550 : True := ⟨⟩
theorem hd.tw13736238640073186513 : True := ⟨⟩
theorem hd.tw13761313492115132969 : True := ⟨⟩
theorem hd.tw13779158989973480128 : True := ⟨⟩
theorem hd.tw13782585607811412279 : True := ⟨⟩
theorem hd.tw13818818416092817407 : True := ⟨⟩
theorem hd.tw13823928749886789533 : True := ⟨⟩
theorem hd.tw13841726988747733297 : True := ⟨⟩
theorem hd.tw13848181295540450687 : True := ⟨⟩
theorem hd.tw13848968391371747471 : True := ⟨⟩
theorem hd.tw13888733194849068929 : True := ⟨⟩
theorem hd.tw13916775025629749064 : True := ⟨⟩
theorem hd.tw13937880385907670291 : True := ⟨⟩
theorem hd.tw13967494736070720143 : True := ⟨⟩
theorem hd.tw13999070438446684461 : True := ⟨⟩
theorem hd.tw14043264806194976937 : True := ⟨⟩
theorem hd.tw14078866322555224421 : True := ⟨⟩
theorem hd.tw14118449561194643959 : True := ⟨⟩
theorem hd.tw14126738248901147788 : True := ⟨⟩
theorem hd.tw14157653168936927454 : True := ⟨⟩
theorem hd.tw14165603094290901056 : True := ⟨⟩
theorem hd.tw14233363378079851248 : True := ⟨⟩
theorem hd.tw14267081850563347266 : True := ⟨⟩
theorem hd.tw14284886708814539054 : True := ⟨⟩
theorem hd.tw14310223753282335221 : True := ⟨⟩
theorem hd.tw14316981182018890200 : True := ⟨⟩
theorem hd.tw14319621207156058913 : True := ⟨⟩
theorem hd.tw14329980882445840357 : True := ⟨⟩
theorem hd.tw14336844553588789941 : True := ⟨⟩
theorem hd.tw14363672428228140249 : True := ⟨⟩
theorem hd.tw14373177332811445164 : True := ⟨⟩
theorem hd.tw14422008639684962340 : True := ⟨⟩
theorem hd.tw14422475879100988765 : True := ⟨⟩
theorem hd.tw14437174526885295673 : True := ⟨⟩
theorem hd.tw14565869098844976370 : True := ⟨⟩
theorem hd.tw14587902492251507631 : True := ⟨⟩
theorem hd.tw14594122929046304344 : True := ⟨⟩
theorem hd.tw14608697434457025697 : True := ⟨⟩
theorem hd.tw14626104600170739877 : True := ⟨⟩
theorem hd.tw14654208307091755556 : True := ⟨⟩
theorem hd.tw14668029499471165443 : True := ⟨⟩
theorem hd.tw14687428141046428555 : True := ⟨⟩
theorem hd.tw14714097157251459159 : True := ⟨⟩
theorem hd.tw14734429857657722186 : True := ⟨⟩
theorem hd.tw14760161220752492480 : True := ⟨⟩
theorem hd.tw14827716996471378679 : True := ⟨⟩
theorem hd.tw14887792168747282192 : True := ⟨⟩
theorem hd.tw14926183714377392013 : True := ⟨⟩
theorem hd.tw14933899379744830345 : True := ⟨⟩
theorem hd.tw1502728855108536907 : True := ⟨⟩
theorem hd.tw15041267609931701242 : True := ⟨⟩
theorem hd.tw15070911718278119513 : True := ⟨⟩
theorem hd.tw15111817785999027297 : True := ⟨⟩
theorem hd.tw15141345228474014605 : True := ⟨⟩
theorem hd.tw15149689349215147495 : True := ⟨⟩
theorem hd.tw15155018390822337282 : True := ⟨⟩
theorem hd.tw15158344000067658382 : True := ⟨⟩
theorem hd.tw15210446348013106287 : True := ⟨⟩
theorem hd.tw15222506030348310114 : True := ⟨⟩
theorem hd.tw15228378616201947977 : True := ⟨⟩
theorem hd.tw15256207987864074124 : True := ⟨⟩
theorem hd.tw15275993499304752320 : True := ⟨⟩
theorem hd.tw15293471852592075748 : True := ⟨⟩
theorem hd.tw15299199797303017187 : True := ⟨⟩
theorem hd.tw15303850260345972097 : True := ⟨⟩
theorem hd.tw15397806958093635240 : True := ⟨⟩
theorem hd.tw15486213235266890650 : True := ⟨⟩
theorem hd.tw15504198176465865640 : True := ⟨⟩
theorem hd.tw15507713945168286581 : True := ⟨⟩
theorem hd.tw15529641910172401565 : True := ⟨⟩
theorem hd.tw15568648549806693857 : True := ⟨⟩
theorem hd.tw15604238174446149738 : True := ⟨⟩
theorem hd.tw1560929623494347929 : True := ⟨⟩
theorem hd.tw156469251453603958 : True := ⟨⟩
theorem hd.tw15664985135705927867 : True := ⟨⟩
theorem hd.tw15670740992123462082 : True := ⟨⟩
theorem hd.tw15688771761598797190 : True := ⟨⟩
theorem hd.tw15711678995088768616 : True := ⟨⟩
theorem hd.tw15727152857237229130 : True := ⟨⟩
theorem hd.tw15755500361269970807 : True := ⟨⟩
theorem hd.tw1576439000417041146 : True := ⟨⟩
theorem hd.tw15832903878030608810 : True := ⟨⟩
theorem hd.tw15835336221790442168 : True := ⟨⟩
theorem hd.tw15837381240372535013 : True := ⟨⟩
theorem hd.tw15855503312349876887 : True := ⟨⟩
theorem hd.tw15857086483211925380 : True := ⟨⟩
theorem hd.tw15879508814748805759 : True := ⟨⟩
theorem hd.tw15887913918296314993 : True := ⟨⟩
theorem hd.tw15891051753863269544 : True := ⟨⟩
theorem hd.tw15923013930265640399 : True := ⟨⟩
theorem hd.tw15973146529829825738 : True := ⟨⟩
theorem hd.tw16011718776016614068 : True := ⟨⟩
theorem hd.tw16033182509714460534 : True := ⟨⟩
theorem hd.tw1604850771263935505 : True := ⟨⟩
theorem hd.tw16065728038418164899 : True := ⟨⟩
theorem hd.tw16106771025685423530 : True := ⟨⟩
theorem hd.tw16126426300036845469 : True := ⟨⟩
theorem hd.tw1617499729596520407 : True := ⟨⟩
theorem hd.tw16206616798110341454 : True := ⟨⟩
theorem hd.tw16240531851179277726 : True := ⟨⟩
theorem hd.tw16266456137908432164 : True := ⟨⟩
theorem hd.tw16294326716830618054 : True := ⟨⟩
theorem hd.tw1635475876249236667 : True := ⟨⟩
theorem hd.tw16405682723756908865 : True := ⟨⟩
theorem hd.tw16420818833394605745 : True := ⟨⟩
theorem hd.tw16444202714334456437 : True := ⟨⟩
theorem hd.tw16518954552713467545 : True := ⟨⟩
theorem hd.tw16522435571799681801 : True := ⟨⟩
theorem hd.tw16571242841238380457 : True := ⟨⟩
theorem hd.tw16580429444717523613 : True := ⟨⟩
theorem hd.tw16590202515943324981 : True := ⟨⟩
theorem hd.tw16626067300760868182 : True := ⟨⟩
theorem hd.tw16664617804242324049 : True := ⟨⟩
theorem hd.tw16683316043546068079 : True := ⟨⟩
theorem hd.tw16684012297934060565 : True := ⟨⟩
theorem hd.tw16712332676380440482 : True := ⟨⟩
theorem hd.tw1675162525945794188 : True := ⟨⟩
theorem hd.tw16754557571883084398 : True := ⟨⟩
theorem hd.tw16851728140176084446 : True := ⟨⟩
theorem hd.tw16902125149484746621 : True := ⟨⟩
theorem hd.tw16964904614651366766 : True := ⟨⟩
theorem hd.tw17006216568446373785 : True := ⟨⟩
theorem hd.tw17014887152811598409 : True := ⟨⟩
theorem hd.tw17086941662839249828 : True := ⟨⟩
theorem hd.tw17089278099797148602 : True := ⟨⟩
theorem hd.tw17094073026108702935 : True := ⟨⟩
theorem hd.tw17115418663619159361 : True := ⟨⟩
theorem hd.tw1714763703076433398 : True := ⟨⟩
theorem hd.tw17148249409609961410 : True := ⟨⟩
theorem hd.tw17194378821013281243 : True := ⟨⟩
theorem hd.tw17233985185223148881 : True := ⟨⟩
theorem hd.tw17271644478713025503 : True := ⟨⟩
theorem hd.tw17293437266454141213 : True := ⟨⟩
theorem hd.tw17294380105467276117 : True := ⟨⟩
theorem hd.tw17303709766941033525 : True := ⟨⟩
theorem hd.tw17330159514190957373 : True := ⟨⟩
theorem hd.tw17346686323774030671 : True := ⟨⟩
theorem hd.tw17415120898276165114 : True := ⟨⟩
theorem hd.tw17428051323824034112 : True := ⟨⟩
theorem hd.tw17451260142307265236 : True := ⟨⟩
theorem hd.tw17469955496075996729 : True := ⟨⟩
theorem hd.tw17480797057247350353 : True := ⟨⟩
theorem hd.tw1750012459734761180 : True := ⟨⟩
theorem hd.tw17505188789066900151 : True := ⟨⟩
theorem hd.tw17509571537446376821 : True := ⟨⟩
theorem hd.tw17550901521130827772 : True := ⟨⟩
theorem hd.tw17557196304602742183 : True := ⟨⟩
theorem hd.tw17615982542357272392 : True := ⟨⟩
theorem hd.tw17622014889354615613 : True := ⟨⟩
theorem hd.tw1762331343286492532 : True := ⟨⟩
theorem hd.tw1763022981134180205 : True := ⟨⟩
theorem hd.tw17644937936168689243 : True := ⟨⟩
theorem hd.tw17681248278915281148 : True := ⟨⟩
theorem hd.tw17755082005169585733 : True := ⟨⟩
theorem hd.tw1777541894885182419 : True := ⟨⟩
theorem hd.tw17777262778493028863 : True := ⟨⟩
theorem hd.tw177958387712278291 : True := ⟨⟩
theorem hd.tw1784067328620385833 : True := ⟨⟩
theorem hd.tw17864669574869840088 : True := ⟨⟩
theorem hd.tw17910276568919056346 : True := ⟨⟩
theorem hd.tw17928745736697286171 : True := ⟨⟩
theorem hd.tw17959592981187484882 : True := ⟨⟩
theorem hd.tw17993827754575081482 : True := ⟨⟩
theorem hd.tw180531076980922412 : True := ⟨⟩
theorem hd.tw18086526626403452040 : True := ⟨⟩
theorem hd.tw18106381629667962107 : True := ⟨⟩
theorem hd.tw18121697374505344324 : True := ⟨⟩
theorem hd.tw18138963029915366026 : True := ⟨⟩
theorem hd.tw18139332442897558891 : True := ⟨⟩
theorem hd.tw1814154803628594916 : True := ⟨⟩
theorem hd.tw18153800338646564487 : True := ⟨⟩
theorem hd.tw18191492557527971862 : True := ⟨⟩
theorem hd.tw18249940214642466128 : True := ⟨⟩
theorem hd.tw18321149390907923323 : True := ⟨⟩
theorem hd.tw183461580631365184 : True := ⟨⟩
theorem hd.tw18349193806423492940 : True := ⟨⟩
theorem hd.tw18371176476582755320 : True := ⟨⟩
theorem hd.tw18394395913072611810 : True := ⟨⟩
theorem hd.tw18423462894866891536 : True := ⟨⟩
theorem hd.tw18436771275475661115 : True := ⟨⟩
theorem hd.tw1849036838600338906 : True := ⟨⟩
theorem hd.tw1857129240136184083 : True := ⟨⟩
theorem hd.tw194009207064272265 : True := ⟨⟩
theorem hd.tw1953466997375322869 : True := ⟨⟩
theorem hd.tw1986993966466872520 : True := ⟨⟩
theorem hd.tw2033707895322577068 : True := ⟨⟩
theorem hd.tw2067545659600078453 : True := ⟨⟩
theorem hd.tw2074588163705723186 : True := ⟨⟩
theorem hd.tw2097108516757145802 : True := ⟨⟩
theorem hd.tw211392233322739754 : True := ⟨⟩
theorem hd.tw2136552677503072427 : True := ⟨⟩
theorem hd.tw2142058574231033558 : True := ⟨⟩
theorem hd.tw2271325383080461571 : True := ⟨⟩
theorem hd.tw2286835546118522180 : True := ⟨⟩
theorem hd.tw2287753209530335836 : True := ⟨⟩
theorem hd.tw2321753630682002737 : True := ⟨⟩
theorem hd.tw2322824235263624749 : True := ⟨⟩
theorem hd.tw2336109979219697266 : True := ⟨⟩
theorem hd.tw2341853767028573775 : True := ⟨⟩
theorem hd.tw2346377239830026754 : True := ⟨⟩
theorem hd.tw2368522295265896326 : True := ⟨⟩
theorem hd.tw2370038551672123952 : True := ⟨⟩
theorem hd.tw2391112409961436530 : True := ⟨⟩
theorem hd.tw2460213234846218507 : True := ⟨⟩
theorem hd.tw2466420078345829936 : True := ⟨⟩
theorem hd.tw2466825765774360692 : True := ⟨⟩
theorem hd.tw248114842831371586 : True := ⟨⟩
theorem hd.tw2488976216616464307 : True := ⟨⟩
theorem hd.tw2510948024635841283 : True := ⟨⟩
theorem hd.tw2513987278720054931 : True := ⟨⟩
theorem hd.tw2517861642817108835 : True := ⟨⟩
theorem hd.tw2575447446331546397 : True := ⟨⟩
theorem hd.tw2605247169373682947 : True := ⟨⟩
theorem hd.tw2612394467699024485 : True := ⟨⟩
theorem hd.tw2621927612328974511 : True := ⟨⟩
theorem hd.tw2643209580080292206 : True := ⟨⟩
theorem hd.tw2688806583112816373 : True := ⟨⟩
theorem hd.tw2696789195788103337 : True := ⟨⟩
theorem hd.tw2702729218844278933 : True := ⟨⟩
theorem hd.tw2806480592085369663 : True := ⟨⟩
theorem hd.tw2809577000942125597 : True := ⟨⟩
theorem hd.tw2826484646782966499 : True := ⟨⟩
theorem hd.tw2853985171826085311 : True := ⟨⟩
theorem hd.tw2862717498082149450 : True := ⟨⟩
theorem hd.tw2865070410863149024 : True := ⟨⟩
theorem hd.tw2870982643099963687 : True := ⟨⟩
theorem hd.tw2888598730792840115 : True := ⟨⟩
theorem hd.tw2892777777774528778 : True := ⟨⟩
theorem hd.tw2897222911659774291 : True := ⟨⟩
theorem hd.tw2901685633567038210 : True := ⟨⟩
theorem hd.tw2925856390217675246 : True := ⟨⟩
theorem hd.tw2973947853854602183 : True := ⟨⟩
theorem hd.tw3095740624429358018 : True := ⟨⟩
theorem hd.tw3126756284278874241 : True := ⟨⟩
theorem hd.tw3181439607769766768 : True := ⟨⟩
theorem hd.tw3191722098846237775 : True := ⟨⟩
theorem hd.tw3197290580276569540 : True := ⟨⟩
theorem hd.tw3216025674115345692 : True := ⟨⟩
theorem hd.tw3221511686108775695 : True := ⟨⟩
theorem hd.tw325885137391183250 : True := ⟨⟩
theorem hd.tw3315884398942597624 : True := ⟨⟩
theorem hd.tw3328923778646050457 : True := ⟨⟩
theorem hd.tw3373206626969730919 : True := ⟨⟩
theorem hd.tw3377710392052779036 : True := ⟨⟩
theorem hd.tw3438610022738030570 : True := ⟨⟩
theorem hd.tw3445239404078875653 : True := ⟨⟩
theorem hd.tw3477472551798360617 : True := ⟨⟩
theorem hd.tw3486094718499998134 : True := ⟨⟩
theorem hd.tw3552689095790719052 : True := ⟨⟩
theorem hd.tw3578299652544006088 : True := ⟨⟩
theorem hd.tw3606611700621538506 : True := ⟨⟩
theorem hd.tw3649296792966007756 : True := ⟨⟩
theorem hd.tw3652075467334137099 : True := ⟨⟩
theorem hd.tw3681329910784302543 : True := ⟨⟩
theorem hd.tw3818560934442226662 : True := ⟨⟩
theorem hd.tw3841784697790561238 : True := ⟨⟩
theorem hd.tw3861099502472519345 : True := ⟨⟩
theorem hd.tw3882245669161011564 : True := ⟨⟩
theorem hd.tw3919024373836906300 : True := ⟨⟩
theorem hd.tw3936632079036887058 : True := ⟨⟩
theorem hd.tw394733739627578343 : True := ⟨⟩
theorem hd.tw3953992054026492263 : True := ⟨⟩
theorem hd.tw3994505399292963339 : True := ⟨⟩
theorem hd.tw4035785980176607574 : True := ⟨⟩
theorem hd.tw4056452332985125488 : True := ⟨⟩
theorem hd.tw4090852865065810103 : True := ⟨⟩
theorem hd.tw4108354634134236044 : True := ⟨⟩
theorem hd.tw4140121708712616510 : True := ⟨⟩
theorem hd.tw4242297970658278617 : True := ⟨⟩
theorem hd.tw4266543150381544898 : True := ⟨⟩
theorem hd.tw4269161539055596158 : True := ⟨⟩
theorem hd.tw4294457888268919756 : True := ⟨⟩
theorem hd.tw4311485486451263476 : True := ⟨⟩
theorem hd.tw4311675424935695757 : True := ⟨⟩
theorem hd.tw4341907972418483386 : True := ⟨⟩
theorem hd.tw434252082555652449 : True := ⟨⟩
theorem hd.tw4346476129004180042 : True := ⟨⟩
theorem hd.tw4355293158165094649 : True := ⟨⟩
theorem hd.tw4387743494227658168 : True := ⟨⟩
theorem hd.tw4410399764212258344 : True := ⟨⟩
theorem hd.tw4448735776187116175 : True := ⟨⟩
theorem hd.tw4462975973583320791 : True := ⟨⟩
theorem hd.tw4462988999272289123 : True := ⟨⟩
theorem hd.tw4468453975651885330 : True := ⟨⟩
theorem hd.tw4490534690939188759 : True := ⟨⟩
theorem hd.tw4495304384461887557 : True := ⟨⟩
theorem hd.tw4534589452399604360 : True := ⟨⟩
theorem hd.tw4552984454052185912 : True := ⟨⟩
theorem hd.tw460459536851884516 : True := ⟨⟩
theorem hd.tw462539391192392719 : True := ⟨⟩
theorem hd.tw4627317945228608493 : True := ⟨⟩
theorem hd.tw4649297730460360773 : True := ⟨⟩
theorem hd.tw4679673601754439431 : True := ⟨⟩
theorem hd.tw4719870459694307154 : True := ⟨⟩
theorem hd.tw4768680776674065432 : True := ⟨⟩
theorem hd.tw4775076139288777163 : True := ⟨⟩
theorem hd.tw4785599682683045034 : True := ⟨⟩
theorem hd.tw4823144333189812891 : True := ⟨⟩
theorem hd.tw4839419418592289527 : True := ⟨⟩
theorem hd.tw4843743035196058587 : True := ⟨⟩
theorem hd.tw485558488383165049 : True := ⟨⟩
theorem hd.tw4890398492973618397 : True := ⟨⟩
theorem hd.tw4897230256321860884 : True := ⟨⟩
theorem hd.tw4900123500132890951 : True := ⟨⟩
theorem hd.tw4937490272538188673 : True := ⟨⟩
theorem hd.tw4940152958586681627 : True := ⟨⟩
theorem hd.tw5010217300569982449 : True := ⟨⟩
theorem hd.tw5023835984770320207 : True := ⟨⟩
theorem hd.tw5053566056764075262 : True := ⟨⟩
theorem hd.tw5114218809493962939 : True := ⟨⟩
theorem hd.tw5193163428848236646 : True := ⟨⟩
theorem hd.tw5283665711971307971 : True := ⟨⟩
theorem hd.tw5303253798537002008 : True := ⟨⟩
theorem hd.tw5307612130142685173 : True := ⟨⟩
theorem hd.tw5340389273747400981 : True := ⟨⟩
theorem hd.tw535203745083096689 : True := ⟨⟩
theorem hd.tw5381113241011281599 : True := ⟨⟩
theorem hd.tw538376304230518947 : True := ⟨⟩
theorem hd.tw5403185790415287122 : True := ⟨⟩
theorem hd.tw5415808069744568096 : True := ⟨⟩
theorem hd.tw5435191788785242906 : True := ⟨⟩
theorem hd.tw5471929368070187295 : True := ⟨⟩
theorem hd.tw5488790540518024751 : True := ⟨⟩
theorem hd.tw5499134514980721616 : True := ⟨⟩
theorem hd.tw5499543000731239282 : True := ⟨⟩
theorem hd.tw5515633012574239979 : True := ⟨⟩
theorem hd.tw5554525483489990881 : True := ⟨⟩
theorem hd.tw5572449023511123700 : True := ⟨⟩
theorem hd.tw5612927503280242579 : True := ⟨⟩
theorem hd.tw5633847124120075562 : True := ⟨⟩
theorem hd.tw5658983436348670054 : True := ⟨⟩
theorem hd.tw5668067491333077085 : True := ⟨⟩
theorem hd.tw5686091054792392206 : True := ⟨⟩
theorem hd.tw5728607447722015739 : True := ⟨⟩
theorem hd.tw57441942741250810 : True := ⟨⟩
theorem hd.tw5807509481087178082 : True := ⟨⟩
theorem hd.tw5820653925874644576 : True := ⟨⟩
theorem hd.tw5825167513865581789 : True := ⟨⟩
theorem hd.tw5828298595822784381 : True := ⟨⟩
theorem hd.tw5858967610505686759 : True := ⟨⟩
theorem hd.tw5913551732022586916 : True := ⟨⟩
theorem hd.tw5938165529243203104 : True := ⟨⟩
theorem hd.tw5958398828304431256 : True := ⟨⟩
theorem hd.tw596599363760658963 : True := ⟨⟩
theorem hd.tw5978105602675720402 : True := ⟨⟩
theorem hd.tw5979598174377730677 : True := ⟨⟩
theorem hd.tw5991345359548859607 : True := ⟨⟩
theorem hd.tw5994617149334464277 : True := ⟨⟩
theorem hd.tw6013059030081440817 : True := ⟨⟩
theorem hd.tw6022139678248074277 : True := ⟨⟩
theorem hd.tw6022633368097922583 : True := ⟨⟩
theorem hd.tw6025317520369103732 : True := ⟨⟩
theorem hd.tw6040525434236271302 : True := ⟨⟩
theorem hd.tw6060053100929317215 : True := ⟨⟩
theorem hd.tw6096563205850271772 : True := ⟨⟩
theorem hd.tw6125329931360616687 : True := ⟨⟩
theorem hd.tw6131955781465616512 : True := ⟨⟩
theorem hd.tw6148469261072318884 : True := ⟨⟩
theorem hd.tw6166416629118925913 : True := ⟨⟩
theorem hd.tw6215923652098322687 : True := ⟨⟩
theorem hd.tw6231706782459856185 : True := ⟨⟩
theorem hd.tw6268745274723229631 : True := ⟨⟩
theorem hd.tw6301963383052583836 : True := ⟨⟩
theorem hd.tw6309120969813000449 : True := ⟨⟩
theorem hd.tw6320842091725555757 : True := ⟨⟩
theorem hd.tw6322814094040023012 : True := ⟨⟩
theorem hd.tw6343065432079060743 : True := ⟨⟩
theorem hd.tw6363176484558350982 : True := ⟨⟩
theorem hd.tw6370730046274839299 : True := ⟨⟩
theorem hd.tw637503337600908294 : True := ⟨⟩
theorem hd.tw6390946256590991754 : True := ⟨⟩
theorem hd.tw6404998891800954437 : True := ⟨⟩
theorem hd.tw6432327326645356120 : True := ⟨⟩
theorem hd.tw6463920257417696503 : True := ⟨⟩
theorem hd.tw6501076819482705908 : True := ⟨⟩
theorem hd.tw6507269937031436880 : True := ⟨⟩
theorem hd.tw6509979189894961094 : True := ⟨⟩
theorem hd.tw6557582603392484772 : True := ⟨⟩
theorem hd.tw6564068207993566350 : True := ⟨⟩
theorem hd.tw6590137789167020697 : True := ⟨⟩
theorem hd.tw6603229784884921625 : True := ⟨⟩
theorem hd.tw6633703032653225566 : True := ⟨⟩
theorem hd.tw6753420400710949468 : True := ⟨⟩
theorem hd.tw6755829994902515326 : True := ⟨⟩
theorem hd.tw6777428730976822922 : True := ⟨⟩
theorem hd.tw6790683844945643124 : True := ⟨⟩
theorem hd.tw6796827011834648219 : True := ⟨⟩
theorem hd.tw6841345541778362191 : True := ⟨⟩
theorem hd.tw6859143451140566903 : True := ⟨⟩
theorem hd.tw6868459970352717772 : True := ⟨⟩
theorem hd.tw6901692123158415657 : True := ⟨⟩
theorem hd.tw6910390231320308663 : True := ⟨⟩
theorem hd.tw6916574901906801961 : True := ⟨⟩
theorem hd.tw6925958111246884754 : True := ⟨⟩
theorem hd.tw6938584402406360048 : True := ⟨⟩
theorem hd.tw6970879960378097478 : True := ⟨⟩
theorem hd.tw6988409544524618936 : True := ⟨⟩
theorem hd.tw7022594788442078725 : True := ⟨⟩
theorem hd.tw703003058005257614 : True := ⟨⟩
theorem hd.tw7032849668587677437 : True := ⟨⟩
theorem hd.tw7078833667787964083 : True := ⟨⟩
theorem hd.tw7097267175169231574 : True := ⟨⟩
theorem hd.tw7159523132537858534 : True := ⟨⟩
theorem hd.tw7188351321552894208 : True := ⟨⟩
theorem hd.tw7189918374117196460 : True := ⟨⟩
theorem hd.tw7192216489603768089 : True := ⟨⟩
theorem hd.tw7199299656181168312 : True := ⟨⟩
theorem hd.tw7229895643763736130 : True := ⟨⟩
theorem hd.tw730631210869930279 : True := ⟨⟩
theorem hd.tw7306695835288111925 : True := ⟨⟩
theorem hd.tw7315229896844581370 : True := ⟨⟩
theorem hd.tw7332831919175694851 : True := ⟨⟩
theorem hd.tw7349512753005002515 : True := ⟨⟩
theorem hd.tw7356331311403209830 : True := ⟨⟩
theorem hd.tw7383761390932185940 : True := ⟨⟩
theorem hd.tw7403601732575167260 : True := ⟨⟩
theorem hd.tw7405077717984804751 : True := ⟨⟩
theorem hd.tw743364172014503014 : True := ⟨⟩
theorem hd.tw7455127449053834984 : True := ⟨⟩
theorem hd.tw7471195595513756239 : True := ⟨⟩
theorem hd.tw7485695406205514495 : True := ⟨⟩
theorem hd.tw7489549359656889437 : True := ⟨⟩
theorem hd.tw7498214980991571808 : True := ⟨⟩
theorem hd.tw7504087792989543565 : True := ⟨⟩
theorem hd.tw7509756994413097532 : True := ⟨⟩
theorem hd.tw7525520930552021748 : True := ⟨⟩
theorem hd.tw756097678734787900 : True := ⟨⟩
theorem hd.tw758223830682312816 : True := ⟨⟩
theorem hd.tw7582751696031468571 : True := ⟨⟩
theorem hd.tw7607991933115970125 : True := ⟨⟩
theorem hd.tw7616879006035096613 : True := ⟨⟩
theorem hd.tw7626523359154393397 : True := ⟨⟩
theorem hd.tw7644216530712458435 : True := ⟨⟩
theorem hd.tw7650443013762402908 : True := ⟨⟩
theorem hd.tw766910456175000800 : True := ⟨⟩
theorem hd.tw7681947056740048345 : True := ⟨⟩
theorem hd.tw7705210086277248011 : True := ⟨⟩
theorem hd.tw7707262064831783784 : True := ⟨⟩
theorem hd.tw773882763562087785 : True := ⟨⟩
theorem hd.tw7771099459265217676 : True := ⟨⟩
theorem hd.tw7776735942927118406 : True := ⟨⟩
theorem hd.tw7888089718734657859 : True := ⟨⟩
theorem hd.tw7892950279318529334 : True := ⟨⟩
theorem hd.tw7994294716938898667 : True := ⟨⟩
theorem hd.tw8030146074068459976 : True := ⟨⟩
theorem hd.tw8132180600993396712 : True := ⟨⟩
theorem hd.tw8134222338557556074 : True := ⟨⟩
theorem hd.tw8179874737327120096 : True := ⟨⟩
theorem hd.tw8199115927327226866 : True := ⟨⟩
theorem hd.tw824138724179841855 : True := ⟨⟩
theorem hd.tw8319386838001769497 : True := ⟨⟩
theorem hd.tw8356505567038006349 : True := ⟨⟩
theorem hd.tw8421131617178345636 : True := ⟨⟩
theorem hd.tw8438680248833508232 : True := ⟨⟩
theorem hd.tw8467163228018153952 : True := ⟨⟩
theorem hd.tw8516528962259685859 : True := ⟨⟩
theorem hd.tw855540600511043664 : True := ⟨⟩
theorem hd.tw8563506912706577050 : True := ⟨⟩
theorem hd.tw8583514907802694408 : True := ⟨⟩
theorem hd.tw8595059346467798927 : True := ⟨⟩
theorem hd.tw8710008732683429517 : True := ⟨⟩
theorem hd.tw8745811369366840723 : True := ⟨⟩
theorem hd.tw8775733590523734334 : True := ⟨⟩
theorem hd.tw8780827322370351243 : True := ⟨⟩
theorem hd.tw8782585598777800968 : True := ⟨⟩
theorem hd.tw8793924576947891815 : True := ⟨⟩
theorem hd.tw8865988907068318059 : True := ⟨⟩
theorem hd.tw8872544812418430795 : True := ⟨⟩
theorem hd.tw8937375221848520241 : True := ⟨⟩
theorem hd.tw8975945600844063123 : True := ⟨⟩
theorem hd.tw9003926234320633991 : True := ⟨⟩
theorem hd.tw9022342704165938858 : True := ⟨⟩
theorem hd.tw904116694110632716 : True := ⟨⟩
theorem hd.tw9043442484508480258 : True := ⟨⟩
theorem hd.tw9046551564849232365 : True := ⟨⟩
theorem hd.tw9081132339392772065 : True := ⟨⟩
theorem hd.tw9139160395225323400 : True := ⟨⟩
theorem hd.tw9152853075263788777 : True := ⟨⟩
theorem hd.tw9165055067564785312 : True := ⟨⟩
theorem hd.tw9193437519795425577 : True := ⟨⟩
theorem hd.tw9202264358043660857 : True := ⟨⟩
theorem hd.tw9212127265785464065 : True := ⟨⟩
theorem hd.tw9213462800981295170 : True := ⟨⟩
theorem hd.tw9223404948195444627 : True := ⟨⟩
theorem hd.tw9280045760719387198 : True := ⟨⟩
theorem hd.tw931534302026618105 : True := ⟨⟩
theorem hd.tw9338595447514608051 : True := ⟨⟩
theorem hd.tw9417636154826597259 : True := ⟨⟩
theorem hd.tw9436610727502427290 : True := ⟨⟩
theorem hd.tw9437140900791406676 : True := ⟨⟩
theorem hd.tw9438250057474610070 : True := ⟨⟩
theorem hd.tw9438873316819357099 : True := ⟨⟩
theorem hd.tw945016810220077375 : True := ⟨⟩
theorem hd.tw945522589686625978 : True := ⟨⟩
theorem hd.tw9462171022276855947 : True := ⟨⟩
theorem hd.tw9466958363150375732 : True := ⟨⟩
theorem hd.tw9485615932525662266 : True := ⟨⟩
theorem hd.tw9492894977252288363 : True := ⟨⟩
theorem hd.tw9562347820547473902 : True := ⟨⟩
theorem hd.tw9579902927511290049 : True := ⟨⟩
theorem hd.tw9583376315412423254 : True := ⟨⟩
theorem hd.tw9596095701433726872 : True := ⟨⟩
theorem hd.tw960267742025559079 : True := ⟨⟩
theorem hd.tw9610002152192373371 : True := ⟨⟩
theorem hd.tw9628434486549227106 : True := ⟨⟩
theorem hd.tw9668001372427312971 : True := ⟨⟩
theorem hd.tw968954446138504751 : True := ⟨⟩
theorem hd.tw9693799698313842693 : True := ⟨⟩
theorem hd.tw971531727688133844 : True := ⟨⟩
theorem hd.tw9756722717240980003 : True := ⟨⟩
theorem hd.tw9763391158785542403 : True := ⟨⟩
theorem hd.tw9817055758731998458 : True := ⟨⟩
theorem hd.tw9872843552463349059 : True := ⟨⟩
theorem hd.tw9896602749626961109 : True := ⟨⟩
theorem hd.tw9911992291246219669 : True := ⟨⟩
theorem hd.tw9940333192846910352 : True := ⟨⟩
theorem hd.tw9942396012898527466 : True := ⟨⟩
theorem hd.tw99626202879961684 : True := ⟨⟩
theorem hd.tw9978748511080890474 : True := ⟨⟩
theorem hd.tw9987067838043189133 : True := ⟨⟩
set_option Elab.async true in
set_option maxHeartbeats 8000000 in
theorem hd : PySem.Challenge.rw_xm0871_01.Holds := by
 w_on; o_law; k_head; (case hw => w_witness2)
 exact zos rfl fun P => ⟨by kernel_rfl, by kernel_rfl, by kernel_rfl, by kernel_rfl, by kernel_rfl, by kernel_rfl⟩
end LW.Internal
end
theorem PySem.Challenge.cw_xm0871_01_holds : PySem.Challenge.rw_xm0871_01.Holds :=
 LW.Internal.hd
