import PyProof.Rows.All
import Wide.All
import OpenK.AllK
import Wide.FinOn
import PySem.Challenge.RW_rg0156_01
open PySem PySem.W PySem.Calls PyProof.Rows
set_option Elab.async false
set_option maxRecDepth 100000
set_option linter.unusedVariables false
section
namespace Mine

/-- abstract values: what is never changed any more is a tree -/
inductive V where
  | none
  | bool (b : Bool)
  | int (i : Int)
  | str (x : PySem.Str)
  | ref (a : Addr)
  | typ (n : String)
  | bi (id : String)
  | tup (vs : List V)
  | lst (vs : List V)
  | dct (kvs : List (Int × V))
  | ins (C : Addr) (fs : List (PySem.Str × V))
  | rng (lo hi : Int)

/-- what may still be changed -/
inductive O where
  | list (vs : List V)
  | dict (kvs : List (Int × V))
  | inst (C dx : Addr)
  | attrs (fs : List (PySem.Str × V))
  | held (o : Obj)
  | exact (o : Obj)

noncomputable abbrev FV := Addr → Option Obj
noncomputable abbrev Led := Addr → Option O

structure Gd (K : Params → Frag) where
  prog : Program
  w : World
  base : Heap
  p : Program
  loose : List PySem.Str
  mg : PySem.Str → Option Value
  mb : PySem.Str → Option Value
  KX : (K w.params).In base
  T : TopRead p loose mg mb base
  g0 : FV
  sub : ∀ a o, base.get? a = some o → g0 a = some o
  gens : Array GenState
  os : OsState
  drawn : Drawn
  mods : ∃ a o, sysModules < a ∧ base.get? a = some o

noncomputable def TupO (o : Obj) (its : List Value) : Prop := ∃ n, o = { cls := .type "tuple", dict := Option.none, data := .seq its.toArray n, slots := #[] }
noncomputable def LstO (o : Obj) (its : List Value) : Prop := ∃ n, o = { cls := .type "list", dict := Option.none, data := .seq its.toArray n, slots := #[] }
noncomputable def DctO (prog : Program) (w : World) (o : Obj) (kvs : List (Int × Value)) : Prop :=
  ∃ es ep, o.ExactDict ∧ o.data = .dict es ep ∧ KeysOf (intKind prog w) es ∧ Pairs (intKind prog w) es.toList kvs ∧ (kvs.map (·.1)).Nodup

section
variable (prog : Program) (w : World)
mutual
inductive VR (g : FV) : Value → V → Prop
  | none : VR g Value.none V.none
  | bool (b : Bool) : VR g (.bool b) (.bool b)
  | int (i : Int) (t : Tok) : VR g (.int i t) (.int i)
  | str (x : PySem.Str) (t : Tok) : VR g (.str x t) (.str x)
  | ref (a : Addr) : VR g (.ref a) (.ref a)
  | typ (n : String) : VR g (.type n) (.typ n)
  | bi (id : String) : VR g (.builtin id) (.bi id)
  | tup {a : Addr} {o : Obj} {its : List Value} {vs : List V} : g a = some o → TupO o its → VRs g its vs → VR g (.ref a) (.tup vs)
  | lst {a : Addr} {o : Obj} {its : List Value} {vs : List V} : g a = some o → LstO o its → VRs g its vs → VR g (.ref a) (.lst vs)
  | dct {a : Addr} {o : Obj} {its : List (Int × Value)} {kvs : List (Int × V)} : (a == sysModules) = false → g a = some o → DctO prog w o its → VKs g its kvs → VR g (.ref a) (.dct kvs)
  | rng {a : Addr} {lo hi : Int} {t u v : Tok} : g a = some { cls := .type "range", dict := Option.none, data := .fields #[.int lo t, .int hi u, .int 1 v], slots := #[] } → VR g (.ref a) (.rng lo hi)
  | ins {a dx C : Addr} {es : List DictEntry} {n : Nat} {fs : List (PySem.Str × V)} : g a = some (instObj C dx) → g dx = some (dictOf es n) → VAs g es fs → VR g (.ref a) (.ins C fs)
inductive VRs (g : FV) : List Value → List V → Prop
  | nil : VRs g [] []
  | cons {v : Value} {a : V} {vs : List Value} {as : List V} : VR g v a → VRs g vs as → VRs g (v :: vs) (a :: as)
inductive VKs (g : FV) : List (Int × Value) → List (Int × V) → Prop
  | nil : VKs g [] []
  | cons {k : Int} {v : Value} {a : V} {vs : List (Int × Value)} {as : List (Int × V)} : VR g v a → VKs g vs as → VKs g ((k, v) :: vs) ((k, a) :: as)
inductive VAs (g : FV) : List DictEntry → List (PySem.Str × V) → Prop
  | nil : VAs g [] []
  | cons {h : Int} {x : PySem.Str} {t : Tok} {v : Value} {a : V} {vs : List DictEntry} {as : List (PySem.Str × V)} : VR g v a → VAs g vs as → VAs g (⟨h, .str x t, v⟩ :: vs) ((x, a) :: as)
end
end

noncomputable abbrev FV.le (g g' : FV) : Prop := ∀ a o, g a = some o → g' a = some o

section
variable {prog : Program} {w : World} {g g' : FV}
theorem VR.monos (k : FV.le g g') : (∀ {v : Value} {a : V}, VR prog w g v a → VR prog w g' v a) ∧ (∀ {v : List Value} {a : List V}, VRs prog w g v a → VRs prog w g' v a) ∧
    (∀ {v : List (Int × Value)} {a : List (Int × V)}, VKs prog w g v a → VKs prog w g' v a) ∧ (∀ {v : List DictEntry} {a : List (PySem.Str × V)}, VAs prog w g v a → VAs prog w g' v a) := by
  let M1 : (v : Value) → (a : V) → VR prog w g v a → Prop := fun v a _ => VR prog w g' v a
  let M2 : (v : List Value) → (a : List V) → VRs prog w g v a → Prop := fun v a _ => VRs prog w g' v a
  let M3 : (v : List (Int × Value)) → (a : List (Int × V)) → VKs prog w g v a → Prop := fun v a _ => VKs prog w g' v a
  let M4 : (v : List DictEntry) → (a : List (PySem.Str × V)) → VAs prog w g v a → Prop := fun v a _ => VAs prog w g' v a
  have c1 : ∀ {v a} {vs as} (h : VR prog w g v a) (r : VRs prog w g vs as), M1 v a h → M2 vs as r → M2 (v :: vs) (a :: as) (.cons h r) := fun _ _ a b => .cons a b
  have c2 : ∀ {k v a} {vs as} (h : VR prog w g v a) (r : VKs prog w g vs as), M1 v a h → M3 vs as r → M3 ((k, v) :: vs) ((k, a) :: as) (.cons h r) := fun _ _ a b => .cons a b
  have c3 : ∀ {hh x t v a} {vs as} (h : VR prog w g v a) (r : VAs prog w g vs as), M1 v a h → M4 vs as r → M4 (⟨hh, .str x t, v⟩ :: vs) ((x, a) :: as) (.cons h r) := fun _ _ a b => .cons a b
  have f := fun {v a} (h : VR prog w g v a) => VR.rec (motive_1 := M1) (motive_2 := M2) (motive_3 := M3) (motive_4 := M4) .none (fun b => .bool b) (fun i t => .int i t) (fun x t => .str x t) (fun a => .ref a) (fun n => .typ n) (fun i => .bi i)
    (fun h1 h2 _ ih => .tup (k _ _ h1) h2 ih) (fun h1 h2 _ ih => .lst (k _ _ h1) h2 ih) (fun h0 h1 h2 _ ih => .dct h0 (k _ _ h1) h2 ih) (fun h => .rng (k _ _ h)) (fun h1 h2 _ ih => .ins (k _ _ h1) (k _ _ h2) ih) .nil c1 .nil c2 .nil c3 h
  refine ⟨f, fun h => ?_, fun h => ?_, fun h => ?_⟩
  · exact VRs.rec (motive_1 := M1) (motive_2 := M2) (motive_3 := fun _ _ _ => True) (motive_4 := fun _ _ _ => True) (f .none) (fun b => f (.bool b)) (fun i t => f (.int i t)) (fun x t => f (.str x t)) (fun a => f (.ref a)) (fun n => f (.typ n)) (fun i => f (.bi i))
      (fun h1 h2 h3 _ => f (.tup h1 h2 h3)) (fun h1 h2 h3 _ => f (.lst h1 h2 h3)) (fun h0 h1 h2 h3 _ => f (.dct h0 h1 h2 h3)) (fun h => f (.rng h)) (fun h1 h2 h3 _ => f (.ins h1 h2 h3)) .nil c1 trivial (fun _ _ _ _ => trivial) trivial (fun _ _ _ _ => trivial) h
  · exact VKs.rec (motive_1 := M1) (motive_2 := fun _ _ _ => True) (motive_3 := M3) (motive_4 := fun _ _ _ => True) (f .none) (fun b => f (.bool b)) (fun i t => f (.int i t)) (fun x t => f (.str x t)) (fun a => f (.ref a)) (fun n => f (.typ n)) (fun i => f (.bi i))
      (fun h1 h2 h3 _ => f (.tup h1 h2 h3)) (fun h1 h2 h3 _ => f (.lst h1 h2 h3)) (fun h0 h1 h2 h3 _ => f (.dct h0 h1 h2 h3)) (fun h => f (.rng h)) (fun h1 h2 h3 _ => f (.ins h1 h2 h3)) trivial (fun _ _ _ _ => trivial) .nil c2 trivial (fun _ _ _ _ => trivial) h
  · exact VAs.rec (motive_1 := M1) (motive_2 := fun _ _ _ => True) (motive_3 := fun _ _ _ => True) (motive_4 := M4) (f .none) (fun b => f (.bool b)) (fun i t => f (.int i t)) (fun x t => f (.str x t)) (fun a => f (.ref a)) (fun n => f (.typ n)) (fun i => f (.bi i))
      (fun h1 h2 h3 _ => f (.tup h1 h2 h3)) (fun h1 h2 h3 _ => f (.lst h1 h2 h3)) (fun h0 h1 h2 h3 _ => f (.dct h0 h1 h2 h3)) (fun h => f (.rng h)) (fun h1 h2 h3 _ => f (.ins h1 h2 h3)) trivial (fun _ _ _ _ => trivial) trivial (fun _ _ _ _ => trivial) .nil c3 h
theorem VR.onNone {P : Value → Prop} {v : Value} (h : VR prog w g v .none) (k : P .none) : P v := by cases h; exact k
theorem VR.onBool {P : Value → Prop} {v : Value} {b : Bool} (h : VR prog w g v (.bool b)) (k : P (.bool b)) : P v := by cases h; exact k
theorem VR.onInt {P : Value → Prop} {v : Value} {i : Int} (h : VR prog w g v (.int i)) (k : ∀ t, P (.int i t)) : P v := by cases h; exact k _
theorem VR.onStr {P : Value → Prop} {v : Value} {x : PySem.Str} (h : VR prog w g v (.str x)) (k : ∀ t, P (.str x t)) : P v := by cases h; exact k _
theorem VR.onRef {P : Value → Prop} {v : Value} {a : Addr} (h : VR prog w g v (.ref a)) (k : P (.ref a)) : P v := by cases h; exact k
theorem VR.onTyp {P : Value → Prop} {v : Value} {n : String} (h : VR prog w g v (.typ n)) (k : P (.type n)) : P v := by cases h; exact k
theorem VR.onBi {P : Value → Prop} {v : Value} {n : String} (h : VR prog w g v (.bi n)) (k : P (.builtin n)) : P v := by cases h; exact k
theorem VR.onTup {P : Value → Prop} {v : Value} {vs : List V} (h : VR prog w g v (.tup vs)) (k : ∀ l o its, g l = some o → TupO o its → VRs prog w g its vs → P (.ref l)) : P v := by cases h with | tup h1 h2 h3 => exact k _ _ _ h1 h2 h3
theorem VR.onLst {P : Value → Prop} {v : Value} {vs : List V} (h : VR prog w g v (.lst vs)) (k : ∀ l o its, g l = some o → LstO o its → VRs prog w g its vs → P (.ref l)) : P v := by cases h with | lst h1 h2 h3 => exact k _ _ _ h1 h2 h3
theorem VR.onDct {P : Value → Prop} {v : Value} {kvs : List (Int × V)} (h : VR prog w g v (.dct kvs)) (k : ∀ l o its, (l == sysModules) = false → g l = some o → DctO prog w o its → VKs prog w g its kvs → P (.ref l)) : P v := by cases h with | dct h0 h1 h2 h3 => exact k _ _ _ h0 h1 h2 h3
theorem VRs.onNil {P : List Value → Prop} {l : List Value} (h : VRs prog w g l []) (k : P []) : P l := by cases h; exact k
theorem VRs.onCons {P : List Value → Prop} {l : List Value} {a : V} {as : List V} (h : VRs prog w g l (a :: as)) (k : ∀ v vs, VR prog w g v a → VRs prog w g vs as → P (v :: vs)) : P l := by cases h with | cons h r => exact k _ _ h r
theorem VRs.on1 {P : List Value → Prop} {l : List Value} {a : V} (h : VRs prog w g l [a]) (k : ∀ v, VR prog w g v a → P [v]) : P l := h.onCons fun v _ hv r => r.onNil (P := fun r => P (v :: r)) (k v hv)
theorem VRs.on2 {P : List Value → Prop} {l : List Value} {a b : V} (h : VRs prog w g l [a, b]) (k : ∀ v u, VR prog w g v a → VR prog w g u b → P [v, u]) : P l := h.onCons fun v _ hv r => r.on1 (P := fun r => P (v :: r)) fun u hu => k v u hv hu
theorem VRs.on3 {P : List Value → Prop} {l : List Value} {a b c : V} (h : VRs prog w g l [a, b, c]) (k : ∀ v u z, VR prog w g v a → VR prog w g u b → VR prog w g z c → P [v, u, z]) : P l := h.onCons fun v _ hv r => r.on2 (P := fun r => P (v :: r)) fun u z hu hz => k v u z hv hu hz
theorem VR.mono (k : FV.le g g') {v : Value} {a : V} (h : VR prog w g v a) : VR prog w g' v a := (VR.monos k).1 h
theorem VRs.mono (k : FV.le g g') {v : List Value} {a : List V} (h : VRs prog w g v a) : VRs prog w g' v a := (VR.monos k).2.1 h
theorem VKs.mono (k : FV.le g g') {v : List (Int × Value)} {a : List (Int × V)} (h : VKs prog w g v a) : VKs prog w g' v a := (VR.monos k).2.2.1 h
theorem VAs.mono (k : FV.le g g') {v : List DictEntry} {a : List (PySem.Str × V)} (h : VAs prog w g v a) : VAs prog w g' v a := (VR.monos k).2.2.2 h
end
theorem opt_ne {α β : Type} {f : α → Option β} {a b : α} {o : β} (e : f b = some o) (n : f a = none) : b ≠ a := fun q => by
  rw [q, n] at e; cases e
noncomputable def AllL {α : Type} (P : List α → Prop) : Nat → Prop
  | 0 => P []
  | n + 1 => ∀ a, AllL (fun l => P (a :: l)) n
theorem allL {α : Type} : ∀ {P : List α → Prop} (n : Nat), AllL P n → ∀ vs, vs.length = n → P vs
  | _, 0, h, [], _ => h
  | _, n + 1, h, a :: r, e => allL n (h a) r (Nat.succ.inj e)
theorem allB {s : Shared} {fd : FuncData} {names : List PySem.Str} {dv : List Value} (n : Nat) (h : AllL (fun vs => BindsTo s fd ⟨vs, []⟩ (names.zip (vs ++ dv))) n) (vs : List Value) (hl : vs.length = n) : BindsTo s fd ⟨vs, []⟩ (names.zip (vs ++ dv)) := allL n h vs hl
end Mine
end
section
namespace Mine
variable {K : Params → Frag} (C : Gd K)

noncomputable def OAt (g : FV) (h : Heap) (a : Addr) : O → Prop
  | .list vs => ∃ o its, h.get? a = some o ∧ LstO o its ∧ VRs C.prog C.w g its vs
  | .dict kvs => ∃ o its, h.get? a = some o ∧ (DctO C.prog C.w o its ∧ (a == sysModules) = false) ∧ VKs C.prog C.w g its kvs
  | .inst Cl dx => h.get? a = some (instObj Cl dx)
  | .attrs fs => ∃ es n, h.get? a = some (dictOf es n) ∧ VAs C.prog C.w g es fs
  | .held o => ∃ sl, h.get? a = some { o with slots := sl } ∧ ∃ es n, o.data = .dict es n
  | .exact o => h.get? a = some o

theorem OAt.keeps {C : Gd K} {g g' : FV} {h h' : Heap} {a : Addr} {o : O} (x : OAt C g h a o) (k : FV.le g g') (e : ∀ b, h.get? a = some b → h'.get? a = some b) : OAt C g' h' a o := by
  cases o with
  | list vs => obtain ⟨o, its, h1, h2, h3⟩ := x; exact ⟨o, its, e _ h1, h2, h3.mono k⟩
  | dict vs => obtain ⟨o, its, h1, h2, h3⟩ := x; exact ⟨o, its, e _ h1, h2, h3.mono k⟩
  | inst Cl dx => exact e _ x
  | attrs fs => obtain ⟨o, its, h1, h2⟩ := x; exact ⟨o, its, e _ h1, h2.mono k⟩
  | held o => obtain ⟨sl, h1, h2⟩ := x; exact ⟨sl, e _ h1, h2⟩
  | exact o => exact e _ x

theorem OAt.there {C : Gd K} {g : FV} {h : Heap} {a : Addr} {o : O} (x : OAt C g h a o) : h.get? a ≠ none := by
  cases o with
  | list vs => obtain ⟨o, its, h1, _⟩ := x; rw [h1]; exact Option.some_ne_none _
  | dict vs => obtain ⟨o, its, h1, _⟩ := x; rw [h1]; exact Option.some_ne_none _
  | inst Cl dx => rw [show h.get? a = _ from x]; exact Option.some_ne_none _
  | attrs fs => obtain ⟨o, its, h1, _⟩ := x; rw [h1]; exact Option.some_ne_none _
  | held o => obtain ⟨sl, h1, _⟩ := x; rw [h1]; exact Option.some_ne_none _
  | exact o => rw [show h.get? a = _ from x]; exact Option.some_ne_none _
theorem live_of {h h' : Heap} (k : ∀ b o, h.get? b = some o → h'.get? b = some o) : ∀ b, h.get? b ≠ none → h'.get? b ≠ none := fun b hb => by
  obtain ⟨ob, hb⟩ := Option.ne_none_iff_exists'.mp hb
  rw [k _ _ hb]; exact Option.some_ne_none _

/-- what no step here changes -/
noncomputable abbrev Rest (C : Gd K) (s : Shared) : Prop := s.gens = C.gens ∧ s.os = C.os ∧ s.drawn = C.drawn
structure Ok (g : FV) (Λ : Led) (s : Shared) : Prop where
  gin : ∀ a o, g a = some o → s.heap.get? a = some o
  low : ∀ a o, C.g0 a = some o → g a = some o
  led : ∀ a o, Λ a = some o → g a = none ∧ OAt C g s.heap a o
  rest : Rest C s

theorem Ok.bas {C : Gd K} {g : FV} {Λ : Led} {s : Shared} (x : Ok C g Λ s) : FV.le C.base.get? g := fun a o e => x.low a o (C.sub a o e)

noncomputable def Kept (h' : Heap) (b : Addr) (o : Obj) : Prop := h'.get? b = some o ∨ ∃ es n sl, o.data = .dict es n ∧ h'.get? b = some { o with slots := sl }
theorem Kept.trans {h₁ h₂ : Heap} {b : Addr} {o : Obj} (x : Kept h₁ b o) (y : ∀ o', h₁.get? b = some o' → Kept h₂ b o') : Kept h₂ b o := by
  rcases x with x | ⟨es, n, sl, hd, x⟩
  · exact y _ x
  · rcases y _ x with y | ⟨es', n', sl', hd', y⟩
    · exact .inr ⟨es, n, sl, hd, y⟩
    · exact .inr ⟨es, n, sl', hd, y⟩

structure Step (g : FV) (Λ : Led) (s : Shared) (g' : FV) (Λ' : Led) (s' : Shared) : Prop where
  gle : FV.le g g'
  keep : ∀ b o, s.heap.get? b = some o → Λ b = none → Kept s'.heap b o ∧ Λ' b = none ∧ g' b = g b
  live : ∀ b, s.heap.get? b ≠ none → s'.heap.get? b ≠ none
  gens : s'.gens = s.gens
  drawn : s'.drawn = s.drawn
  os : s'.os = s.os
theorem Step.refl (g : FV) (Λ : Led) (s : Shared) : Step g Λ s g Λ s := ⟨fun _ _ e => e, fun _ _ h l => ⟨.inl h, l, rfl⟩, fun _ h => h, rfl, rfl, rfl⟩
theorem Step.trans {g₁ g₂ g₃ : FV} {Λ₁ Λ₂ Λ₃ : Led} {s₁ s₂ s₃ : Shared} (x : Step g₁ Λ₁ s₁ g₂ Λ₂ s₂) (y : Step g₂ Λ₂ s₂ g₃ Λ₃ s₃) : Step g₁ Λ₁ s₁ g₃ Λ₃ s₃ := by
  refine ⟨fun a o e => y.gle _ _ (x.gle _ _ e), fun b o h l => ?_, fun b h => y.live b (x.live b h), y.gens.trans x.gens, y.drawn.trans x.drawn, y.os.trans x.os⟩
  obtain ⟨k, l2, e2⟩ := x.keep b o h l
  have k3 : ∀ o', s₂.heap.get? b = some o' → Kept s₃.heap b o' := fun o' h' => (y.keep b o' h' l2).1
  have r : Λ₃ b = none ∧ g₃ b = g₂ b := by
    rcases k with k | ⟨_, _, _, _, k⟩
    · exact (y.keep b _ k l2).2
    · exact (y.keep b _ k l2).2
  exact ⟨k.trans k3, r.1, r.2.trans e2⟩

/-- forget a part of the ledger -/
noncomputable abbrev Led.le (Λ Λ' : Led) : Prop := ∀ a o, Λ a = some o → Λ' a = some o
theorem Ok.forget {C : Gd K} {g : FV} {Λ Λ' : Led} {s : Shared} (x : Ok C g Λ s) (k : Led.le Λ' Λ) : Ok C g Λ' s := ⟨x.gin, x.low, fun a o e => x.led a o (k a o e), x.rest⟩
theorem Led.none_of_le {Λ Λ' : Led} (k : Led.le Λ' Λ) {a : Addr} (e : Λ a = none) : Λ' a = none := by
  cases h : Λ' a with
  | none => rfl
  | some o => rw [k a o h] at e; cases e
theorem Step.forget {g g' : FV} {Λ Λ' Λ'' : Led} {s s' : Shared} (x : Step g Λ s g' Λ' s') (k : Led.le Λ'' Λ') : Step g Λ s g' Λ'' s' :=
  ⟨x.gle, fun b o h l => let ⟨a, b', c⟩ := x.keep b o h l; ⟨a, Led.none_of_le k b', c⟩, x.live, x.gens, x.drawn, x.os⟩

noncomputable abbrev upd (Λ : Led) (a : Addr) (o : O) : Led := fun b => if b = a then some o else Λ b
noncomputable abbrev drop (Λ : Led) (a : Addr) : Led := fun b => if b = a then none else Λ b
noncomputable abbrev FV.put (g : FV) (a : Addr) (o : Obj) : FV := fun b => if b = a then some o else g b

/-- a state of the same rest with another heap -/
noncomputable abbrev mv (s : Shared) (h : Heap) (t : Nat) : Shared := { s with heap := h, toks := t }

section
variable {C : Gd K} {g : FV} {Λ : Led} {s : Shared}
theorem Ok.there (x : Ok C g Λ s) {a : Addr} {o : O} (e : Λ a = some o) : ∃ b, s.heap.get? a = some b := by
  have := (x.led a o e).2
  cases o with
  | list vs => obtain ⟨o, its, h1, _⟩ := this; exact ⟨_, h1⟩
  | dict vs => obtain ⟨o, its, h1, _⟩ := this; exact ⟨_, h1⟩
  | inst Cl dx => exact ⟨_, this⟩
  | attrs fs => obtain ⟨o, its, h1, _⟩ := this; exact ⟨_, h1⟩
  | held o => obtain ⟨sl, h1, _⟩ := this; exact ⟨_, h1⟩
  | exact o => exact ⟨_, this⟩
theorem Ok.fresh (x : Ok C g Λ s) {a : Addr} (e : s.heap.get? a = none) : g a = none ∧ Λ a = none := by
  constructor
  · cases h : g a with
    | none => rfl
    | some o => rw [x.gin a o h] at e; cases e
  · cases h : Λ a with
    | none => rfl
    | some o => obtain ⟨b, hb⟩ := x.there h; rw [hb] at e; cases e

/-- the heap has grown -/
theorem Ok.grow (x : Ok C g Λ s) {h' : Heap} {t : Nat} (k : ∀ b o, s.heap.get? b = some o → h'.get? b = some o) : Ok C g Λ (mv s h' t) :=
  ⟨fun a o e => k _ _ (x.gin a o e), x.low, fun a o e => ⟨(x.led a o e).1, (x.led a o e).2.keeps (fun _ _ e => e) (fun b hb => k _ _ hb)⟩, x.rest⟩
theorem Step.grow (g : FV) (Λ : Led) (s : Shared) {h' : Heap} {t : Nat} (k : ∀ b o, s.heap.get? b = some o → h'.get? b = some o) : Step g Λ s g Λ (mv s h' t) :=
  ⟨fun _ _ e => e, fun b o h l => ⟨.inl (k _ _ h), l, rfl⟩, live_of k, rfl, rfl, rfl⟩

/-- a new object that is never changed -/
theorem Ok.put (x : Ok C g Λ s) {a : Addr} {o : Obj} {h' : Heap} {t : Nat} (n : s.heap.get? a = none) (k : ∀ b o, s.heap.get? b = some o → h'.get? b = some o) (e : h'.get? a = some o) :
    Ok C (g.put a o) Λ (mv s h' t) ∧ Step g Λ s (g.put a o) Λ (mv s h' t) ∧ (g.put a o) a = some o := by
  have fr := x.fresh n
  have le : FV.le g (g.put a o) := fun b ob hb => by
    show (if b = a then _ else _) = _
    rw [if_neg]; exact hb
    rintro rfl; rw [fr.1] at hb; cases hb
  refine ⟨⟨fun b ob hb => ?_, fun b ob hb => le _ _ (x.low b ob hb), fun b ob hb => ⟨?_, (x.led b ob hb).2.keeps le (fun c hc => k _ _ hc)⟩, x.rest⟩, ⟨le, fun b ob hb hl => ⟨.inl (k _ _ hb), hl, ?_⟩, live_of k, rfl, rfl, rfl⟩, if_pos rfl⟩
  · by_cases q : b = a
    · subst q; simp only [FV.put, if_true] at hb; cases hb; exact e
    · simp only [FV.put, if_neg q] at hb; exact k _ _ (x.gin b ob hb)
  · have q : b ≠ a := by first | exact opt_ne hb fr.2 | exact Ne.symm (opt_ne hb fr.2) | (rintro rfl; rw [fr.2] at hb; cases hb)
    simp only [FV.put, if_neg q]; exact (x.led b ob hb).1
  · have q : b ≠ a := by first | exact opt_ne hb n | exact Ne.symm (opt_ne hb n) | (rintro rfl; rw [n] at hb; cases hb)
    simp only [FV.put, if_neg q]

/-- a new object of the ledger -/
theorem Ok.alloc (x : Ok C g Λ s) {a : Addr} {o : O} {h' : Heap} {t : Nat} (n : s.heap.get? a = none) (k : ∀ b o, s.heap.get? b = some o → h'.get? b = some o) (e : OAt C g h' a o) :
    Ok C g (upd Λ a o) (mv s h' t) ∧ Step g Λ s g (upd Λ a o) (mv s h' t) ∧ Λ a = none := by
  have fr := x.fresh n
  refine ⟨⟨fun b ob hb => k _ _ (x.gin b ob hb), x.low, fun b ob hb => ?_, x.rest⟩, ⟨fun _ _ e => e, fun b ob hb hl => ⟨.inl (k _ _ hb), ?_, rfl⟩, live_of k, rfl, rfl, rfl⟩, fr.2⟩
  · by_cases q : b = a
    · subst q; simp only [upd, if_true] at hb; cases hb; exact ⟨fr.1, e⟩
    · simp only [upd, if_neg q] at hb; exact ⟨(x.led b ob hb).1, (x.led b ob hb).2.keeps (fun _ _ e => e) fun c hc => k _ _ hc⟩
  · have q : b ≠ a := by first | exact opt_ne hb n | exact Ne.symm (opt_ne hb n) | (rintro rfl; rw [n] at hb; cases hb)
    simp only [upd, if_neg q]; exact hl

/-- an object of the ledger is changed -/
theorem Ok.change (x : Ok C g Λ s) {a : Addr} {o₀ o : O} {h' : Heap} {t : Nat} (m : Λ a = some o₀) (k : ∀ b o, b ≠ a → s.heap.get? b = some o → h'.get? b = some o) (e : OAt C g h' a o) :
    Ok C g (upd Λ a o) (mv s h' t) ∧ Step g Λ s g (upd Λ a o) (mv s h' t) := by
  have ga := (x.led a _ m).1
  refine ⟨⟨fun b ob hb => k _ _ (by first | exact opt_ne hb ga | exact Ne.symm (opt_ne hb ga) | (rintro rfl; rw [ga] at hb; cases hb)) (x.gin b ob hb), x.low, fun b ob hb => ?_, x.rest⟩, ⟨fun _ _ e => e, fun b ob hb hl => ?_, fun b hb => ?_, rfl, rfl, rfl⟩⟩
  · by_cases q : b = a
    · subst q; simp only [upd, if_true] at hb; cases hb; exact ⟨ga, e⟩
    · simp only [upd, if_neg q] at hb; exact ⟨(x.led b ob hb).1, (x.led b ob hb).2.keeps (fun _ _ e => e) fun c hc => k _ _ q hc⟩
  · have q : b ≠ a := by first | exact opt_ne hl m | exact Ne.symm (opt_ne hl m) | (rintro rfl; rw [m] at hl; cases hl)
    exact ⟨.inl (k _ _ q hb), by simp only [upd, if_neg q]; exact hl, rfl⟩
  · by_cases q : b = a
    · subst q; exact e.there
    · obtain ⟨ob, hb⟩ := Option.ne_none_iff_exists'.mp hb; show h'.get? b ≠ none; rw [k _ _ q hb]; exact Option.some_ne_none _

/-- an object of the ledger is never changed any more -/
theorem Ok.freeze (x : Ok C g Λ s) {a : Addr} {o : O} {b : Obj} (m : Λ a = some o) (e : s.heap.get? a = some b) :
    Ok C (g.put a b) (drop Λ a) s ∧ Step g Λ s (g.put a b) (drop Λ a) s ∧ (g.put a b) a = some b ∧ FV.le g (g.put a b) := by
  have ga := (x.led a _ m).1
  have le : FV.le g (g.put a b) := fun c ob hb => by
    show (if c = a then _ else _) = _
    rw [if_neg]; exact hb
    rintro rfl; rw [ga] at hb; cases hb
  refine ⟨⟨fun c ob hb => ?_, fun c ob hb => le _ _ (x.low c ob hb), fun c ob hb => ?_, x.rest⟩, ⟨le, fun c ob hb hl => ⟨.inl hb, ?_, ?_⟩, fun _ h => h, rfl, rfl, rfl⟩, if_pos rfl, le⟩
  · by_cases q : c = a
    · subst q; simp only [FV.put, if_true] at hb; cases hb; exact e
    · simp only [FV.put, if_neg q] at hb; exact x.gin c ob hb
  · by_cases q : c = a
    · simp only [drop, if_pos q] at hb; cases hb
    · simp only [drop, if_neg q] at hb; refine ⟨?_, (x.led c ob hb).2.keeps le fun _ e => e⟩
      simp only [FV.put, if_neg q]; exact (x.led c ob hb).1
  · by_cases q : c = a
    · simp only [drop, if_pos q]
    · simp only [drop, if_neg q]; exact hl
  · have q : c ≠ a := by first | exact opt_ne hl m | exact Ne.symm (opt_ne hl m) | (rintro rfl; rw [m] at hl; cases hl)
    simp only [FV.put, if_neg q]
end
end Mine
end
section
namespace Mine
variable {K : Params → Frag}

noncomputable abbrev Loc := List (PySem.Str × V)

structure AOK (A : Around) (n : Nat) : Prop where
  hh : A.handled = none
  dep : A.depth + 2 * n + 2 < recursionLimit
  uni : A.units + 8 * n + 8 < cLine

structure Frm (C : Gd K) (env : Env) (ρ : Loc) (g : FV) (Λ : Led) (s : Shared) : Prop where
  kind : env.scope.kind = .function
  glob : env.globals = mainGlobals
  blt : env.builtins = builtinsNs
  out : g env.locals = none ∧ Λ env.locals = none
  cel : ∀ x c, env.cells.lookup x = some c → ∃ o v, s.heap.get? c = some o ∧ o.data = .cell v ∧ g c = none ∧ Λ c = none
  inj : ∀ x y c, env.cells.lookup x = some c → env.cells.lookup y = some c → x = y
  ns : ∃ m, s.heap.Ns env.locals m ∧ ∀ x a, ρ.lookup x = some a →
    (env.kindOf x = some .local ∧ ∃ v, m x = some v ∧ VR C.prog C.w g v a) ∨
    ((env.kindOf x = some .cell ∨ env.kindOf x = some .free) ∧ ∃ c o v, env.cells.lookup x = some c ∧ s.heap.get? c = some o ∧ o.data = .cell (some v) ∧ VR C.prog C.w g v a)

theorem Kept.ns {h h' : Heap} {L : Addr} {m : PySem.Str → Option Value} (x : h.Ns L m) (k : ∀ o, h.get? L = some o → Kept h' L o) : h'.Ns L m := by
  obtain ⟨o, es, ep, ho, hd, hk, hf⟩ := x
  rcases k o ho with e | ⟨_, _, sl, _, e⟩
  · exact ⟨o, es, ep, e, hd, hk, hf⟩
  · exact ⟨_, es, ep, e, hd, hk, hf⟩
theorem Kept.cell {h' : Heap} {c : Addr} {o : Obj} {v : Option Value} (k : Kept h' c o) (hd : o.data = .cell v) : h'.get? c = some o := by
  rcases k with e | ⟨_, _, _, q, _⟩
  · exact e
  · rw [hd] at q; cases q

theorem Frm.step {C : Gd K} {env : Env} {ρ : Loc} {g g' : FV} {Λ Λ' : Led} {s s' : Shared} (F : Frm C env ρ g Λ s) (x : Step g Λ s g' Λ' s') : Frm C env ρ g' Λ' s' := by
  obtain ⟨m, hn, hv⟩ := F.ns
  have hL : ∃ o, s.heap.get? env.locals = some o := by obtain ⟨o, _, _, h, _⟩ := hn; exact ⟨o, h⟩
  obtain ⟨oL, hoL⟩ := hL
  obtain ⟨_, l2, g2⟩ := x.keep _ _ hoL F.out.2
  refine ⟨F.kind, F.glob, F.blt, ⟨g2.trans F.out.1, l2⟩, fun y c hc => ?_, F.inj, m, Kept.ns hn fun o h => (x.keep _ _ h F.out.2).1, fun y a hy => ?_⟩
  · obtain ⟨o, v, h1, h2, h3, h4⟩ := F.cel y c hc
    obtain ⟨k, k2, k3⟩ := x.keep _ _ h1 h4
    exact ⟨o, v, k.cell h2, h2, k3.trans h3, k2⟩
  · rcases hv y a hy with ⟨k, v, h1, h2⟩ | ⟨k, c, o, v, h1, h2, h3, h4⟩
    · exact .inl ⟨k, v, h1, h2.mono x.gle⟩
    · obtain ⟨_, _, h5, _, _, h6⟩ := F.cel y c h1
      exact .inr ⟨k, c, o, v, h1, (x.keep _ _ h2 h6).1.cell h3, h3, h4.mono x.gle⟩

/-- the body of a call, or of a comprehension -/
structure Bd (C : Gd K) where
  env : Env
  A : Around
  E : Value → Shared → Prop
  n : Nat
  hA : AOK A n
  hE : PassesOwn (model C.prog C.w) A env E

inductive Post (C : Gd K) (g : FV) (Λ : Led) (s : Shared) (Q : V → Led → Prop) (v : Value) (s' : Shared) : Prop
  | mk (g' : FV) (Λ' : Led) (a : V) (o : Ok C g' Λ' s') (x : Step g Λ s g' Λ' s') (h : VR C.prog C.w g' v a) (q : Q a Λ') : Post C g Λ s Q v s'
inductive PostU (C : Gd K) (g : FV) (Λ : Led) (s : Shared) (Q : Led → Prop) (u : Unit) (s' : Shared) : Prop
  | mk (g' : FV) (Λ' : Led) (o : Ok C g' Λ' s') (x : Step g Λ s g' Λ' s') (q : Q Λ') : PostU C g Λ s Q u s'
inductive PostB (C : Gd K) (g : FV) (Λ : Led) (s : Shared) (Q : Bool → Led → Prop) (b : Bool) (s' : Shared) : Prop
  | mk (g' : FV) (Λ' : Led) (o : Ok C g' Λ' s') (x : Step g Λ s g' Λ' s') (q : Q b Λ') : PostB C g Λ s Q b s'
inductive PostL (C : Gd K) (g : FV) (Λ : Led) (s : Shared) (Q : List V → Led → Prop) (v : List Value) (s' : Shared) : Prop
  | mk (g' : FV) (Λ' : Led) (a : List V) (o : Ok C g' Λ' s') (x : Step g Λ s g' Λ' s') (h : VRs C.prog C.w g' v a) (q : Q a Λ') : PostL C g Λ s Q v s'

section
variable {C : Gd K} {B : Bd C} {ρ : Loc} {Λ : Led}
theorem Post.after {g g' : FV} {Λ Λ' : Led} {s s' : Shared} {Q : V → Led → Prop} {v : Value} {s'' : Shared} (x : Step g Λ s g' Λ' s') (h : Post C g' Λ' s' Q v s'') : Post C g Λ s Q v s'' := by
  obtain ⟨g2, L2, a, h1, h2, h3, h4⟩ := h; exact ⟨g2, L2, a, h1, x.trans h2, h3, h4⟩
theorem PostB.after {g g' : FV} {Λ Λ' : Led} {s s' : Shared} {Q : Bool → Led → Prop} {v : Bool} {s'' : Shared} (x : Step g Λ s g' Λ' s') (h : PostB C g' Λ' s' Q v s'') : PostB C g Λ s Q v s'' := by
  obtain ⟨g2, L2, h1, h2, h3⟩ := h; exact ⟨g2, L2, h1, x.trans h2, h3⟩
theorem PostU.after {g g' : FV} {Λ Λ' : Led} {s s' : Shared} {Q : Led → Prop} {v : Unit} {s'' : Shared} (x : Step g Λ s g' Λ' s') (h : PostU C g' Λ' s' Q v s'') : PostU C g Λ s Q v s'' := by
  obtain ⟨g2, L2, h1, h2, h3⟩ := h; exact ⟨g2, L2, h1, x.trans h2, h3⟩
theorem PostL.after {g g' : FV} {Λ Λ' : Led} {s s' : Shared} {Q : List V → Led → Prop} {v : List Value} {s'' : Shared} (x : Step g Λ s g' Λ' s') (h : PostL C g' Λ' s' Q v s'') : PostL C g Λ s Q v s'' := by
  obtain ⟨g2, L2, a, h1, h2, h3, h4⟩ := h; exact ⟨g2, L2, a, h1, x.trans h2, h3, h4⟩
end

/-- an expression, a test, a list of expressions -/
noncomputable def Ev {C : Gd K} (B : Bd C) (ρ : Loc) (e : Expr) (Λ : Led) (Q : V → Led → Prop) : Prop :=
  ∀ g s, Ok C g Λ s → Frm C B.env ρ g Λ s → wpAny (model C.prog C.w) B.A (eval e B.env) (Post C g Λ s Q) B.E s
noncomputable def Tst {C : Gd K} (B : Bd C) (ρ : Loc) (e : Expr) (Λ : Led) (Q : Bool → Led → Prop) : Prop :=
  ∀ g s, Ok C g Λ s → Frm C B.env ρ g Λ s → wpAny (model C.prog C.w) B.A (isTrue e B.env (eval e B.env)) (PostB C g Λ s Q) B.E s
noncomputable def Evs {C : Gd K} (B : Bd C) (ρ : Loc) (es : List Expr) (Λ : Led) (Q : List V → Led → Prop) : Prop :=
  ∀ pos g s, Ok C g Λ s → Frm C B.env ρ g Λ s → wpAny (model C.prog C.w) B.A (spliced (backTo pos (starEach es B.env))) (PostL C g Λ s Q) B.E s

/-- operations on values: no raise -/
noncomputable def BinS (C : Gd K) (n : Nat) (op : Operator) (a b : V) (Λ : Led) (Q : V → Led → Prop) : Prop :=
  ∀ A E g s v w, AOK A n → Ok C g Λ s → VR C.prog C.w g v a → VR C.prog C.w g w b → wpAny (model C.prog C.w) A (binaryOp op v w) (Post C g Λ s Q) E s
noncomputable def CmpS (C : Gd K) (n : Nat) (op : CmpOp) (a b : V) (Λ : Led) (Q : V → Led → Prop) : Prop :=
  ∀ A E g s v w, AOK A n → Ok C g Λ s → VR C.prog C.w g v a → VR C.prog C.w g w b → wpAny (model C.prog C.w) A (compareOp op v w) (Post C g Λ s Q) E s
noncomputable def UnS (C : Gd K) (n : Nat) (op : UnaryOp) (a : V) (Λ : Led) (Q : V → Led → Prop) : Prop :=
  ∀ A E g s v, AOK A n → Ok C g Λ s → VR C.prog C.w g v a → wpAny (model C.prog C.w) A (unaryOp op v) (Post C g Λ s Q) E s
noncomputable def TruS (C : Gd K) (n : Nat) (a : V) (Λ : Led) (Q : Bool → Led → Prop) : Prop :=
  ∀ A E g s v, AOK A n → Ok C g Λ s → VR C.prog C.w g v a → wpAny (model C.prog C.w) A (truthy v) (PostB C g Λ s Q) E s
/-- a call of a value, positional arguments, no raise -/
noncomputable def CallS (C : Gd K) (n : Nat) (f : Value) (as : List V) (Λ : Led) (Q : V → Led → Prop) : Prop :=
  ∀ A E g s vs, AOK A n → Ok C g Λ s → VRs C.prog C.w g vs as → wpAny (model C.prog C.w) A (call f vs) (Post C g Λ s Q) E s
/-- a call that may raise: E says so -/
noncomputable def CallE (C : Gd K) (A : Around) (E : Value → Shared → Prop) (f : Value) (as : List V) (Λ : Led) (Q : V → Led → Prop) : Prop :=
  ∀ g s vs, Ok C g Λ s → VRs C.prog C.w g vs as → wpAny (model C.prog C.w) A (call f vs) (Post C g Λ s Q) E s
noncomputable def AttrS (C : Gd K) (n : Nat) (a : V) (name : PySem.Str) (Λ : Led) (Q : V → Led → Prop) : Prop :=
  ∀ A E g s v, AOK A n → Ok C g Λ s → VR C.prog C.w g v a → wpAny (model C.prog C.w) A (getAttr v name true) (Post C g Λ s Q) E s
noncomputable def SubS (C : Gd K) (n : Nat) (a b : V) (Λ : Led) (Q : V → Led → Prop) : Prop :=
  ∀ A E g s v w, AOK A n → Ok C g Λ s → VR C.prog C.w g v a → VR C.prog C.w g w b →
    ∃ T id, s.TypeIs v T ∧ typeLookup (.type T) "__getitem__" = pure (some (.builtin id)) ∧ wpAny (model C.prog C.w) A (getItem v w) (Post C g Λ s Q) E s

/-- what is called by a method's name: the callee and what stands ahead of the arguments -/
noncomputable def MethS (C : Gd K) (n : Nat) (a : V) (name : PySem.Str) (Λ : Led) (Q : Value → List V → Prop) : Prop :=
  ∀ A E g s v pl (R : Value × List Value → Shared → Prop), AOK A n → Ok C g Λ s → VR C.prog C.w g v a →
    (∀ f first fa, Q f fa → VRs C.prog C.w g first fa → R (f, first) s) → wpAny (model C.prog C.w) A (getMethod v name pl) R E s

noncomputable def KeepsF (C : Gd K) (f : Value) : Prop := ∀ h, (K C.w.params).In h → ∃ k, (k = Keeper.frame ∨ k = Keeper.machine ∨ k = Keeper.boundFrame) ∧ Looks (model C.prog C.w) h (keeperOf f) k
/-- a value that is called -/
inductive IsF : V → Value → Prop
  | ref (a : Addr) : IsF (.ref a) (.ref a)
  | typ (n : String) : IsF (.typ n) (.type n)
  | bi (i : String) : IsF (.bi i) (.builtin i)

section
variable {K : Params → Frag} {C : Gd K} (B : Bd C) (ρ : Loc)
noncomputable abbrev QIs {α : Type} (v : α) (Λ : Led) (a : α) (Λ' : Led) : Prop := a = v ∧ Λ' = Λ
noncomputable abbrev QBin2 (op : Operator) (Q : V → Led → Prop) (a b : V) (Λ : Led) : Prop := BinS C B.n op a b Λ Q
noncomputable abbrev QBin (r : Expr) (op : Operator) (Q : V → Led → Prop) (a : V) (Λ : Led) : Prop := Ev B ρ r Λ (QBin2 B op Q a)
noncomputable abbrev QUn (op : UnaryOp) (Q : V → Led → Prop) (a : V) (Λ : Led) : Prop := UnS C B.n op a Λ Q
noncomputable abbrev QCmp2 (op : CmpOp) (Q : V → Led → Prop) (a b : V) (Λ : Led) : Prop := CmpS C B.n op a b Λ Q
noncomputable abbrev QCmp (r : Expr) (op : CmpOp) (Q : V → Led → Prop) (a : V) (Λ : Led) : Prop := Ev B ρ r Λ (QCmp2 B op Q a)
noncomputable abbrev QTru (Q : Bool → Led → Prop) (a : V) (Λ : Led) : Prop := TruS C B.n a Λ Q
noncomputable abbrev QTc2 (op : CmpOp) (Q : Bool → Led → Prop) (a b : V) (Λ : Led) : Prop := CmpS C B.n op a b Λ (QTru B Q)
noncomputable abbrev QTc (r : Expr) (op : CmpOp) (Q : Bool → Led → Prop) (a : V) (Λ : Led) : Prop := Ev B ρ r Λ (QTc2 B op Q a)
noncomputable abbrev QIfE (b e : Expr) (Q : V → Led → Prop) (c : Bool) (Λ : Led) : Prop := if c then Ev B ρ b Λ Q else Ev B ρ e Λ Q
noncomputable abbrev QNot (Q : Bool → Led → Prop) (b : Bool) (Λ : Led) : Prop := Q (!b) Λ
noncomputable abbrev QT (a : V) (Q : List V → Led → Prop) (as : List V) (Λ : Led) : Prop := Q (a :: as) Λ
noncomputable abbrev QC (es : List Expr) (Q : List V → Led → Prop) (a : V) (Λ : Led) : Prop := Evs B ρ es Λ (QT a Q)
structure QTup (Q : V → Led → Prop) (as : List V) (Λ : Led) : Prop where
  z : as.length ≤ sizeLine
  q : Q (.tup as) Λ
structure QList (Q : V → Led → Prop) (as : List V) (Λ : Led) : Prop where
  z : as.length ≤ sizeLine
  q : ∀ a, Λ a = none → Q (.ref a) (upd Λ a (.list as))
inductive QFrz (Q : V → Led → Prop) (a : V) (Λ : Led) : Prop
  | mk (b : Addr) (vs : List V) (e : a = .ref b) (h : Λ b = some (.list vs)) (q : Q (.lst vs) (drop Λ b)) : QFrz Q a Λ
inductive QFrzD (Q : V → Led → Prop) (a : V) (Λ : Led) : Prop
  | mk (b : Addr) (kvs : List (Int × V)) (e : a = .ref b) (h : Λ b = some (.dict kvs)) (q : Q (.dct kvs) (drop Λ b)) : QFrzD Q a Λ
inductive QFrzI (Q : V → Led → Prop) (a : V) (Λ : Led) : Prop
  | mk (x Cl dx : Addr) (fs : List (PySem.Str × V)) (e : a = .ref x) (n : x ≠ dx) (h1 : Λ x = some (.inst Cl dx)) (h2 : Λ dx = some (.attrs fs)) (q : Q (.ins Cl fs) (drop (drop Λ dx) x)) : QFrzI Q a Λ
noncomputable abbrev QCall2 (C : Gd K) (m : Nat) (f : Value) (Q : V → Led → Prop) (as : List V) (Λ : Led) : Prop := CallS C m f as Λ Q
inductive QCall (m : Nat) (es : List Expr) (Q : V → Led → Prop) (fa : V) (Λ : Led) : Prop
  | mk (f : Value) (i : IsF fa f) (k : KeepsF C f) (h : Evs B ρ es Λ (QCall2 C m f Q)) : QCall m es Q fa Λ
noncomputable abbrev QM3 (C : Gd K) (m : Nat) (f : Value) (fa : List V) (Q : V → Led → Prop) (as : List V) (Λ : Led) : Prop := CallS C m f (fa ++ as) Λ Q
structure QM2 (m : Nat) (es : List Expr) (Q : V → Led → Prop) (Λ : Led) (f : Value) (fa : List V) : Prop where
  k : KeepsF C f
  h : Evs B ρ es Λ (QM3 C m f fa Q)
noncomputable abbrev QM (m : Nat) (name : PySem.Str) (es : List Expr) (Q : V → Led → Prop) (a : V) (Λ : Led) : Prop := MethS C B.n a name Λ (QM2 B ρ m es Q Λ)
noncomputable abbrev QAttr (name : PySem.Str) (Q : V → Led → Prop) (a : V) (Λ : Led) : Prop := AttrS C B.n a name Λ Q
noncomputable abbrev QSub2 (Q : V → Led → Prop) (a b : V) (Λ : Led) : Prop := SubS C B.n a b Λ Q
noncomputable abbrev QSub (slice : Expr) (Q : V → Led → Prop) (a : V) (Λ : Led) : Prop := Ev B ρ slice Λ (QSub2 B Q a)
end
end Mine
end
section
namespace Mine
variable {K : Params → Frag} {C : Gd K} {B : Bd C} {ρ : Loc} {Λ : Led}

theorem Post.mono {g : FV} {Λ : Led} {s : Shared} {Q Q' : V → Led → Prop} (h : ∀ a Λ', Q a Λ' → Q' a Λ') {v : Value} {s' : Shared} : Post C g Λ s Q v s' → Post C g Λ s Q' v s' := fun hh => by obtain ⟨g', L, a, h1, h2, h3, h4⟩ := hh; exact ⟨g', L, a, h1, h2, h3, h _ _ h4⟩
theorem Ev.mono {e : Expr} {Q Q' : V → Led → Prop} (h : Ev B ρ e Λ Q) (k : ∀ a Λ', Q a Λ' → Q' a Λ') : Ev B ρ e Λ Q' := fun g s o f => wpAny_mono (h g s o f) (fun _ _ => Post.mono k) fun _ _ x => x

/-- a step ahead, then the rest -/
theorem wp_then {t : Sem Value} {A : Around} {E : Value → Shared → Prop} {g : FV} {s : Shared} {Q : V → Led → Prop} {R : Value → Shared → Prop}
    (h : wpAny (model C.prog C.w) A t (Post C g Λ s Q) E s)
    (k : ∀ v s' g' Λ' a, Ok C g' Λ' s' → Step g Λ s g' Λ' s' → VR C.prog C.w g' v a → Q a Λ' → R v s') : wpAny (model C.prog C.w) A t R E s :=
  wpAny_mono h (fun v s' hh => by obtain ⟨g', Λ', a, h1, h2, h3, h4⟩ := hh; exact k v s' g' Λ' a h1 h2 h3 h4) fun _ _ x => x
theorem wp_thenL {t : Sem (List Value)} {A : Around} {E : Value → Shared → Prop} {g : FV} {s : Shared} {Q : List V → Led → Prop} {R : List Value → Shared → Prop}
    (h : wpAny (model C.prog C.w) A t (PostL C g Λ s Q) E s)
    (k : ∀ v s' g' Λ' a, Ok C g' Λ' s' → Step g Λ s g' Λ' s' → VRs C.prog C.w g' v a → Q a Λ' → R v s') : wpAny (model C.prog C.w) A t R E s :=
  wpAny_mono h (fun v s' hh => by obtain ⟨g', Λ', a, h1, h2, h3, h4⟩ := hh; exact k v s' g' Λ' a h1 h2 h3 h4) fun _ _ x => x
theorem Post.here {g : FV} {s : Shared} {Q : V → Led → Prop} {v : Value} {a : V} (o : Ok C g Λ s) (h : VR C.prog C.w g v a) (q : Q a Λ) : Post C g Λ s Q v s := ⟨g, Λ, a, o, .refl .., h, q⟩
theorem Post.tick {g : FV} {s : Shared} {Q : V → Led → Prop} {v : Value} {a : V} (o : Ok C g Λ s) (t : Nat) (h : VR C.prog C.w g v a) (q : Q a Λ) : Post C g Λ s Q v { s with toks := t } :=
  ⟨g, Λ, a, o.grow (h' := s.heap) fun _ _ e => e, Step.grow g Λ s (h' := s.heap) fun _ _ e => e, h, q⟩

-- constants
theorem Ev.int {i : Int} {k pos} {Q : V → Led → Prop} (h : Q (.int i) Λ) : Ev B ρ (.Constant (.int i) k pos) Λ Q := fun g s o f => wpAny_Constant_int (Post.tick o _ (.int _ _) h)
theorem Ev.str {x : PySem.Str} {k pos} {Q : V → Led → Prop} (h : Q (.str x) Λ) : Ev B ρ (.Constant (.str x) k pos) Λ Q := fun g s o f => wpAny_Constant_str (Post.tick o _ (.str _ _) h)
theorem Ev.nothing {k pos} {Q : V → Led → Prop} (h : Q .none Λ) : Ev B ρ (.Constant .none k pos) Λ Q := fun g s o f => wpAny_Constant_none (Post.here o .none h)
theorem Ev.bool {b : Bool} {k pos} {Q : V → Led → Prop} (h : Q (.bool b) Λ) : Ev B ρ (.Constant (.bool b) k pos) Λ Q := fun g s o f => wpAny_Constant_bool (Post.here o (.bool b) h)

-- names
theorem load_local {env : Env} {g : FV} {s : Shared} {x : PySem.Str} {a : V} {A : Around} {E : Value → Shared → Prop} {Q : Value → Shared → Prop} (F : Frm C env ρ g Λ s) (hx : ρ.lookup x = some a) (hd : (x == ("__debug__" : PySem.Str)) = false) (hc : (x == ("__classdict__" : PySem.Str)) = false) {pos : Pos}
    (h : ∀ v, VR C.prog C.w g v a → Q v s) : wpAny (model C.prog C.w) A (eval (.Name x pos) env) Q E s := by
  obtain ⟨m, hn, hv⟩ := F.ns
  rcases hv x a hx with ⟨k, v, h1, h2⟩ | ⟨k, c, o, v, h1, h2, h3, h4⟩
  · exact wpAny_Name (wpAny_loadName_local F.kind k hn h1 (h v h2)) hd
  · rcases k with k | k
    · exact wpAny_Name (wpAny_loadName_cell F.kind k h1 ⟨o, h2, h3⟩ (h v h4)) hd
    · exact wpAny_Name (wpAny_loadName_free F.kind k h1 ⟨o, h2, h3⟩ (h v h4) hc) hd
theorem Ev.loc {x : PySem.Str} {pos : Pos} {a : V} {Q : V → Led → Prop} (hx : ρ.lookup x = some a) (h : Q a Λ) (hd : (x == ("__debug__" : PySem.Str)) = false := by decide) (hc : (x == ("__classdict__" : PySem.Str)) = false := by decide) : Ev B ρ (.Name x pos) Λ Q :=
  fun g s o f => load_local f hx hd hc fun v hv => Post.here o hv h

theorem Gd.kIn {g : FV} {s : Shared} (o : Ok C g Λ s) : (K C.w.params).In s.heap := fun a ob e => o.gin _ _ (o.bas _ _ (C.KX a ob e))
theorem Ok.stays {g : FV} {s : Shared} (o : Ok C g Λ s) : C.base.StaysIn s.heap := fun b ob e => o.gin _ _ (o.bas _ _ e)

theorem Ev.glob {x : PySem.Str} {pos : Pos} {v : Value} {a : V} {Q : V → Led → Prop} (e : nsIn (K C.w.params) mainGlobals x = some (some v)) (hv : VR C.prog C.w C.base.get? v a) (h : Q a Λ)
    (hx : B.env.kindOf x = some .globalImplicit := by rfl) (hd : (x == ("__debug__" : PySem.Str)) = false := by decide) : Ev B ρ (.Name x pos) Λ Q := fun g s o f =>
  Name_function_global f.kind hx (loadGlobal_global (env := B.env) (by rw [f.glob]; exact C.T.g.keeps o.stays) (mg_of C.KX C.T.g e) (Post.here o (hv.mono o.bas) h)) hd
theorem Ev.blt {x : PySem.Str} {pos : Pos} {v : Value} {a : V} {Q : V → Led → Prop} (e : nsIn (K C.w.params) mainGlobals x = some Option.none) (hb : bootBuiltins x = some v) (hn : x ≠ "__name__") (hv : VR C.prog C.w C.base.get? v a) (h : Q a Λ)
    (hx : B.env.kindOf x = some .globalImplicit := by rfl) (hd : (x == ("__debug__" : PySem.Str)) = false := by decide) : Ev B ρ (.Name x pos) Λ Q := fun g s o f =>
  Name_function_global f.kind hx (loadGlobal_builtin (env := B.env) (by rw [f.glob]; exact C.T.g.keeps o.stays) (mg_none_of C.KX C.T.g e) (by rw [f.blt]; exact C.T.b.keeps o.stays) ((C.T.builtins x hn).trans hb) (Post.here o (hv.mono o.bas) h)) hd

-- operators
theorem Ev.bin {l r : Expr} {op : Operator} {pos : Pos} {Q : V → Led → Prop} (h : Ev B ρ l Λ (QBin B ρ r op Q)) : Ev B ρ (.BinOp l op r pos) Λ Q := fun g s o f => by
  refine wpAny_BinOp (wp_then (h g s o f) fun v s₁ g₁ Λ₁ a o₁ x₁ va h₁ => wp_then (h₁ g₁ s₁ o₁ (f.step x₁)) fun w s₂ g₂ Λ₂ b o₂ x₂ wb h₂ => ?_)
  exact wpAny_mono (h₂ B.A B.E g₂ s₂ v w B.hA o₂ (va.mono x₂.gle) wb) (fun _ _ => Post.after (x₁.trans x₂)) fun _ _ x => x
theorem Ev.un {x : Expr} {op : UnaryOp} {pos : Pos} {Q : V → Led → Prop} (h : Ev B ρ x Λ (QUn B op Q)) : Ev B ρ (.UnaryOp op x pos) Λ Q := fun g s o f => by
  refine wpAny_UnaryOp (wp_then (h g s o f) fun v s₁ g₁ Λ₁ a o₁ x₁ va h₁ => ?_)
  exact wpAny_mono (h₁ B.A B.E g₁ s₁ v B.hA o₁ va) (fun _ _ => Post.after x₁) fun _ _ x => x
theorem Ev.cmp {l r : Expr} {op : CmpOp} {pos : Pos} {Q : V → Led → Prop} (h : Ev B ρ l Λ (QCmp B ρ r op Q)) (hm : behindInMarks op r = false := by with_unfolding_all rfl) : Ev B ρ (.Compare l [op] [r] pos) Λ Q := fun g s o f => by
  refine wpAny_Compare1 (wp_then (h g s o f) fun v s₁ g₁ Λ₁ a o₁ x₁ va h₁ => wp_then (h₁ g₁ s₁ o₁ (f.step x₁)) fun w s₂ g₂ Λ₂ b o₂ x₂ wb h₂ => ?_) hm
  exact wpAny_mono (h₂ B.A B.E g₂ s₂ v w B.hA o₂ (va.mono x₂.gle) wb) (fun _ _ => Post.after (x₁.trans x₂)) fun _ _ x => x
theorem Ev.ife {t b e : Expr} {pos : Pos} {Q : V → Led → Prop} (h : Tst B ρ t Λ (QIfE B ρ b e Q)) : Ev B ρ (.IfExp t b e pos) Λ Q := fun g s o f => by
  refine wpAny_IfExp (wpAny_mono (h g s o f) (fun c s₁ hh => ?_) fun _ _ x => x)
  obtain ⟨g₁, Λ₁, o₁, x₁, h₁⟩ := hh
  cases c with
  | true => exact wpAny_mono (h₁ g₁ s₁ o₁ (f.step x₁)) (fun _ _ => Post.after x₁) fun _ _ x => x
  | false => exact wpAny_mono (h₁ g₁ s₁ o₁ (f.step x₁)) (fun _ _ => Post.after x₁) fun _ _ x => x

-- and, or, as values
theorem Ev.and {x y : Expr} {rest : List Expr} {pos : Pos} {Q : V → Led → Prop} (h : Ev B ρ x Λ fun a Λ₁ => TruS C B.n a Λ₁ fun c Λ₂ => if c then Ev B ρ (.BoolOp .And (y :: rest) pos) Λ₂ Q else Q a Λ₂) : Ev B ρ (.BoolOp .And (x :: y :: rest) pos) Λ Q := fun g s o f => by
  show wpAny _ _ (do
    let v ← eval x B.env
    standAt pos
    let t ← holding [v] (truthy v)
    match BoolOp.And, t with
    | .And, false | .Or, true => pure v
    | _, _ => boolOp pos .And (evalEach (y :: rest) B.env)) _ _ s
  refine wpAny_bind (wp_then (h g s o f) fun v s₁ g₁ Λ₁ a o₁ x₁ va h₁ => wpAny_bind (wpAny_standAt (wpAny_bind (wpAny_holding (wpAny_mono (h₁ B.A B.E g₁ s₁ v B.hA o₁ va) (fun c s₂ hh => ?_) fun _ _ x => x)))))
  obtain ⟨g₂, Λ₂, o₂, x₂, h₂⟩ := hh
  cases c with
  | true => exact wpAny_mono (h₂ g₂ s₂ o₂ (f.step (x₁.trans x₂))) (fun _ _ => Post.after (x₁.trans x₂)) fun _ _ x => x
  | false => exact wpAny_pure ⟨g₂, Λ₂, a, o₂, x₁.trans x₂, va.mono x₂.gle, h₂⟩
theorem Ev.and1 {x : Expr} {pos : Pos} {Q : V → Led → Prop} (h : Ev B ρ x Λ Q) : Ev B ρ (.BoolOp .And [x] pos) Λ Q := fun g s o f => h g s o f

-- tests
theorem Tst.cmp {l r : Expr} {op : CmpOp} {pos : Pos} {Q : Bool → Led → Prop} (h : Ev B ρ l Λ (QTc B ρ r op Q)) (hm : behindInMarks op r = false := by with_unfolding_all rfl) : Tst B ρ (.Compare l [op] [r] pos) Λ Q := fun g s o f => by
  refine wpAny_isTrue_Compare1 (wp_then (h g s o f) fun v s₁ g₁ Λ₁ a o₁ x₁ va h₁ => wp_then (h₁ g₁ s₁ o₁ (f.step x₁)) fun w s₂ g₂ Λ₂ b o₂ x₂ wb h₂ => ?_) hm
  refine wp_then (h₂ B.A B.E g₂ s₂ v w B.hA o₂ (va.mono x₂.gle) wb) fun u s₃ g₃ Λ₃ c o₃ x₃ uc h₃ => ?_
  exact wpAny_mono (h₃ B.A B.E g₃ s₃ u B.hA o₃ uc) (fun _ _ => PostB.after ((x₁.trans x₂).trans x₃)) fun _ _ x => x
theorem Tst.not {x : Expr} {pos : Pos} {Q : Bool → Led → Prop} (h : Tst B ρ x Λ (QNot Q)) : Tst B ρ (.UnaryOp .Not x pos) Λ Q := fun g s o f =>
  wpAny_isTrue_Not (wpAny_mono (h g s o f) (fun b s' hh => by obtain ⟨g', L', o', x', q⟩ := hh; exact ⟨g', L', o', x', q⟩) fun _ _ x => x)
theorem Tst.val {e : Expr} {Q : Bool → Led → Prop} (h : Ev B ρ e Λ (QTru B Q)) (he : ∀ env whole, isTrue e env whole = (do let v ← whole; standAt e.pos; holding [v] (truthy v)) := by intro _ _; rfl) : Tst B ρ e Λ Q := fun g s o f => by
  refine wpAny_isTrue_value (wp_then (h g s o f) fun v s₁ g₁ Λ₁ a o₁ x₁ va h₁ => ?_) (he _ _)
  exact wpAny_mono (h₁ B.A B.E g₁ s₁ v B.hA o₁ va) (fun _ _ => PostB.after x₁) fun _ _ x => x

noncomputable def TstAll (B : Bd C) (ρ : Loc) (op : BoolOp) (es : List Expr) (Λ : Led) (Q : Bool → Led → Prop) : Prop :=
  ∀ g s, Ok C g Λ s → Frm C B.env ρ g Λ s → wpAny (model C.prog C.w) B.A (allTrue op es B.env) (PostB C g Λ s Q) B.E s
theorem Tst.bop {op : BoolOp} {es : List Expr} {pos : Pos} {Q : Bool → Led → Prop} (h : TstAll B ρ op es Λ Q) : Tst B ρ (.BoolOp op es pos) Λ Q := fun g s o f => wpAny_isTrue_BoolOp (h g s o f)
theorem TstAll.and0 {Q : Bool → Led → Prop} (h : Q true Λ) : TstAll B ρ .And [] Λ Q := fun g s o f => wpAny_allTrue_And_nil ⟨g, Λ, o, .refl .., h⟩
theorem TstAll.or0 {Q : Bool → Led → Prop} (h : Q false Λ) : TstAll B ρ .Or [] Λ Q := fun g s o f => wpAny_allTrue_Or_nil ⟨g, Λ, o, .refl .., h⟩
theorem TstAll.and {e : Expr} {es : List Expr} {Q : Bool → Led → Prop} (h : Tst B ρ e Λ fun b Λ₁ => if b then TstAll B ρ .And es Λ₁ Q else Q false Λ₁) : TstAll B ρ .And (e :: es) Λ Q := fun g s o f => by
  refine wpAny_allTrue_And_cons (wpAny_mono (h g s o f) (fun c s₁ hh => ?_) fun _ _ x => x)
  obtain ⟨g₁, Λ₁, o₁, x₁, h₁⟩ := hh
  cases c with
  | true => exact wpAny_mono (h₁ g₁ s₁ o₁ (f.step x₁)) (fun _ _ => PostB.after x₁) fun _ _ x => x
  | false => exact ⟨g₁, Λ₁, o₁, x₁, h₁⟩
theorem TstAll.or {e : Expr} {es : List Expr} {Q : Bool → Led → Prop} (h : Tst B ρ e Λ fun b Λ₁ => if b then Q true Λ₁ else TstAll B ρ .Or es Λ₁ Q) : TstAll B ρ .Or (e :: es) Λ Q := fun g s o f => by
  refine wpAny_allTrue_Or_cons (wpAny_mono (h g s o f) (fun c s₁ hh => ?_) fun _ _ x => x)
  obtain ⟨g₁, Λ₁, o₁, x₁, h₁⟩ := hh
  cases c with
  | true => exact ⟨g₁, Λ₁, o₁, x₁, h₁⟩
  | false => exact wpAny_mono (h₁ g₁ s₁ o₁ (f.step x₁)) (fun _ _ => PostB.after x₁) fun _ _ x => x

-- chains of comparisons
theorem wp_release {M : Model} {A : Around} {E : Value → Shared → Prop} {s : Shared} {vs ks : List Value} {Q : Unit → Shared → Prop} (h : Q () s) : wpAny M A (release vs ks) Q E s := fun Γ p _ => by rw [Sem.wp_release]; exact h
theorem Ev.chain {l m r : Expr} {op₁ op₂ : CmpOp} {pos : Pos} {Q : V → Led → Prop}
    (h : Ev B ρ l Λ fun a Λ₁ => Ev B ρ m Λ₁ fun b Λ₂ => CmpS C B.n op₁ a b Λ₂ fun c Λ₃ => TruS C B.n c Λ₃ fun t Λ₄ => if t then Ev B ρ r Λ₄ fun d Λ₅ => CmpS C B.n op₂ b d Λ₅ Q else Q c Λ₄)
    (hm : behindInMarks op₂ r = false := by with_unfolding_all rfl) : Ev B ρ (.Compare l [op₁, op₂] [m, r] pos) Λ Q := fun g s o f => by
  show wpAny _ _ (do compareChain pos (← eval l B.env) [op₁, op₂] [eval m B.env, markedBehindIn op₂ r (eval r B.env)]) _ _ s
  rw [markedBehindIn_of_false hm]
  refine wpAny_bind (wp_then (h g s o f) fun v s₁ g₁ Λ₁ a o₁ x₁ va h₁ => ?_)
  show wpAny _ _ (do
    let rv ← holding [v] (eval m B.env)
    standAt pos
    let c ← holding [v, rv] (compareOp op₁ v rv)
    release [v, rv] [c]
    if ← holding [c, rv] (truthy c) then compareChain pos rv [op₂] [eval r B.env] else pure c) _ _ s₁
  refine wpAny_bind (wpAny_holding (wp_then (h₁ g₁ s₁ o₁ (f.step x₁)) fun w s₂ g₂ Λ₂ b o₂ x₂ wb h₂ => wpAny_bind (wpAny_standAt (wpAny_bind (wpAny_holding ?_)))))
  refine wp_then (h₂ B.A B.E g₂ s₂ v w B.hA o₂ (va.mono x₂.gle) wb) fun u s₃ g₃ Λ₃ c o₃ x₃ uc h₃ => wpAny_bind (wp_release (wpAny_bind (wpAny_holding ?_)))
  refine wpAny_mono (h₃ B.A B.E g₃ s₃ u B.hA o₃ uc) (fun t s₄ hh => ?_) fun _ _ x => x
  obtain ⟨g₄, Λ₄, o₄, x₄, h₄⟩ := hh
  have xx := ((x₁.trans x₂).trans x₃).trans x₄
  cases t with
  | false => exact wpAny_pure ⟨g₄, Λ₄, c, o₄, xx, uc.mono x₄.gle, h₄⟩
  | true =>
    refine wpAny_bind (wpAny_holding (wp_then (h₄ g₄ s₄ o₄ (f.step xx)) fun z s₅ g₅ Λ₅ d o₅ x₅ zd h₅ => wpAny_bind (wpAny_standAt (wpAny_operating ?_))))
    exact wpAny_mono (h₅ B.A B.E g₅ s₅ w z B.hA o₅ (wb.mono ((x₃.trans x₄).trans x₅).gle) zd) (fun _ _ => Post.after (xx.trans x₅)) fun _ _ x => x
theorem Tst.chain {l m r : Expr} {op₁ op₂ : CmpOp} {pos : Pos} {Q : Bool → Led → Prop}
    (h : Ev B ρ l Λ fun a Λ₁ => Ev B ρ m Λ₁ fun b Λ₂ => CmpS C B.n op₁ a b Λ₂ fun c Λ₃ => TruS C B.n c Λ₃ fun t Λ₄ => if t then Ev B ρ r Λ₄ fun d Λ₅ => CmpS C B.n op₂ b d Λ₅ fun c' Λ₆ => TruS C B.n c' Λ₆ Q else Q false Λ₄)
    (hm : behindInMarks op₂ r = false := by with_unfolding_all rfl) : Tst B ρ (.Compare l [op₁, op₂] [m, r] pos) Λ Q := fun g s o f => by
  show wpAny _ _ (do testChain pos (← eval l B.env) [op₁, op₂] [eval m B.env, markedBehindIn op₂ r (eval r B.env)]) _ _ s
  rw [markedBehindIn_of_false hm]
  refine wpAny_bind (wp_then (h g s o f) fun v s₁ g₁ Λ₁ a o₁ x₁ va h₁ => ?_)
  show wpAny _ _ (do
    let rv ← holding [v] (eval m B.env)
    standAt pos
    let c ← holding [v, rv] (compareOp op₁ v rv)
    release [v, rv] [c]
    if ← holding [c, rv] (truthy c) then testChain pos rv [op₂] [eval r B.env] else pure false) _ _ s₁
  refine wpAny_bind (wpAny_holding (wp_then (h₁ g₁ s₁ o₁ (f.step x₁)) fun w s₂ g₂ Λ₂ b o₂ x₂ wb h₂ => wpAny_bind (wpAny_standAt (wpAny_bind (wpAny_holding ?_)))))
  refine wp_then (h₂ B.A B.E g₂ s₂ v w B.hA o₂ (va.mono x₂.gle) wb) fun u s₃ g₃ Λ₃ c o₃ x₃ uc h₃ => wpAny_bind (wp_release (wpAny_bind (wpAny_holding ?_)))
  refine wpAny_mono (h₃ B.A B.E g₃ s₃ u B.hA o₃ uc) (fun t s₄ hh => ?_) fun _ _ x => x
  obtain ⟨g₄, Λ₄, o₄, x₄, h₄⟩ := hh
  have xx := ((x₁.trans x₂).trans x₃).trans x₄
  cases t with
  | false => exact wpAny_pure ⟨g₄, Λ₄, o₄, xx, h₄⟩
  | true =>
    refine wpAny_bind (wpAny_holding (wp_then (h₄ g₄ s₄ o₄ (f.step xx)) fun z s₅ g₅ Λ₅ d o₅ x₅ zd h₅ => wpAny_bind (wpAny_standAt (wpAny_bind (wpAny_operating ?_)))))
    refine wp_then (h₅ B.A B.E g₅ s₅ w z B.hA o₅ (wb.mono ((x₃.trans x₄).trans x₅).gle) zd) fun y s₆ g₆ Λ₆ c' o₆ x₆ yc h₆ => wpAny_holding ?_
    exact wpAny_mono (h₆ B.A B.E g₆ s₆ y B.hA o₆ yc) (fun _ _ => PostB.after ((xx.trans x₅).trans x₆)) fun _ _ x => x

-- lists of expressions
theorem Evs.nil {Q : List V → Led → Prop} (h : Q [] Λ) : Evs B ρ [] Λ Q := fun pos g s o f => wpAny_items_nil ⟨g, Λ, [], o, .refl .., .nil, h⟩
theorem Evs.cons {e : Expr} {es : List Expr} {Q : List V → Led → Prop} (h : Ev B ρ e Λ (QC B ρ es Q)) (he : ∀ env, starEach (e :: es) env = (false, eval e env) :: starEach es env := by intro _; rfl) : Evs B ρ (e :: es) Λ Q := fun pos g s o f => by
  refine wpAny_items_cons (wp_then (h g s o f) fun v s₁ g₁ Λ₁ a o₁ x₁ va h₁ => ?_) (he _)
  exact wpAny_mono (h₁ pos g₁ s₁ o₁ (f.step x₁)) (fun vs s₂ hh => by obtain ⟨g₂, Λ₂, as, o₂, x₂, vas, h₂⟩ := hh; exact ⟨g₂, Λ₂, a :: as, o₂, x₁.trans x₂, .cons (va.mono x₂.gle) vas, h₂⟩) fun _ _ x => x

theorem VRs.length {prog : Program} {w : World} {g : FV} {vs : List Value} {as : List V} (h : VRs prog w g vs as) : vs.length = as.length := by
  induction vs generalizing as with
  | nil => cases h; rfl
  | cons v vs ih => cases h with | cons _ r => rw [List.length_cons, List.length_cons, ih r]

theorem get_fresh (h : Heap) {a : Addr} (e : h.objs.size ≤ a) : h.get? a = none := by
  cases q : h.get? a with
  | none => rfl
  | some o => exact absurd (Heap.lt_size q) (Nat.not_lt.mpr e)

theorem Ev.tup {es : List Expr} {k : Nat} {pos : Pos} {Q : V → Led → Prop} (h : Evs B ρ es Λ (QTup Q)) : Ev B ρ (.Tuple es k pos) Λ Q := fun g s o f => by
  refine wpAny_Tuple (wpAny_mono (h pos g s o f) (fun vs s₁ hh => ?_) fun _ _ x => x)
  obtain ⟨g₁, Λ₁, as, o₁, x₁, vas, hl, h₁⟩ := hh
  refine ⟨vas.length ▸ hl, ?_⟩
  obtain ⟨o₂, x₂, e₂⟩ := o₁.put (a := s₁.heap.objs.size) (h' := s₁.heap.push { cls := .type "tuple", data := .seq vs.toArray }) (t := s₁.toks) (get_fresh _ (Nat.le_refl _)) (fun b ob e => Heap.get?_push_of_some _ e) (Heap.get?_push_size _ rfl)
  exact ⟨_, Λ₁, _, o₂, x₁.trans x₂, .tup e₂ ⟨_, rfl⟩ (vas.mono x₂.gle), h₁⟩
theorem Ev.list {es : List Expr} {pos : Pos} {Q : V → Led → Prop} (h : Evs B ρ es Λ (QList Q)) : Ev B ρ (.List es pos) Λ Q := fun g s o f => by
  refine wpAny_List (wpAny_mono (h pos g s o f) (fun vs s₁ hh => ?_) fun _ _ x => x)
  obtain ⟨g₁, Λ₁, as, o₁, x₁, vas, hl, h₁⟩ := hh
  refine ⟨vas.length ▸ hl, ?_⟩
  obtain ⟨o₂, x₂, e₂⟩ := o₁.alloc (a := s₁.heap.objs.size) (o := .list as) (h' := s₁.heap.push { cls := .type "list", data := .seq vs.toArray }) (t := s₁.toks) (get_fresh _ (Nat.le_refl _)) (fun b ob e => Heap.get?_push_of_some _ e) ⟨_, vs, Heap.get?_push_size _ rfl, ⟨_, rfl⟩, vas⟩
  exact ⟨_, _, _, o₂, x₁.trans x₂, .ref _, h₁ _ e₂⟩

/-- what is evaluated is never changed any more -/
theorem Ev.frz {e : Expr} {Q : V → Led → Prop} (h : Ev B ρ e Λ (QFrz Q)) : Ev B ρ e Λ Q := fun g s o f => by
  refine wpAny_mono (h g s o f) (fun v s₁ hh => ?_) fun _ _ x => x
  obtain ⟨g₁, Λ₁, a, o₁, x₁, va, b, vs, ea, hb, q⟩ := hh
  subst ea
  obtain ⟨ob, its, h1, h2, h3⟩ := (o₁.led b _ hb).2
  obtain ⟨o₂, x₂, e₂, le⟩ := o₁.freeze hb h1
  cases va
  exact ⟨_, _, _, o₂, x₁.trans x₂, .lst e₂ h2 (h3.mono le), q⟩
/-- forget a part of the ledger -/
theorem Ev.forget {e : Expr} {Q : V → Led → Prop} (h : Ev B ρ e Λ fun a Λ₁ => ∃ Λ₂, Led.le Λ₂ Λ₁ ∧ Q a Λ₂) : Ev B ρ e Λ Q := fun g s o f =>
  wpAny_mono (h g s o f) (fun v s₁ hh => by obtain ⟨g₁, Λ₁, a, o₁, x₁, va, Λ₂, le, q⟩ := hh; exact ⟨g₁, Λ₂, a, o₁.forget le, x₁.forget le, va, q⟩) fun _ _ x => x
end Mine
end
section
namespace Mine
variable {K : Params → Frag} {C : Gd K} {B : Bd C} {ρ : Loc} {Λ : Led}

theorem AOK.le {A : Around} {n m : Nat} (h : AOK A n) (k : m ≤ n) : AOK A m := ⟨h.hh, by have := h.dep; omega, by have := h.uni; omega⟩

theorem IsF.eq {prog : Program} {w : World} {g : FV} {a : V} {f v : Value} (h : IsF a f) (x : VR prog w g v a) : v = f := by cases h <;> cases x <;> rfl

theorem keepsF_K {f : Value} (h : keepIn (K C.w.params) f = true) : KeepsF C f := fun hp X => keeps_K h hp X
theorem keepsF_typ (n : String) : KeepsF C (.type n) := fun _ _ => ⟨.machine, .inr (.inl rfl), Looks.of_pure rfl⟩
theorem keepsF_bi (n : String) : KeepsF C (.builtin n) := fun _ _ => ⟨.machine, .inr (.inl rfl), Looks.of_pure rfl⟩

theorem evalArgs_any {M : Model} {A : Around} {E : Value → Shared → Prop} {s : Shared} {f : Value} {args : List (Bool × Sem Value)} {Q : Args → Shared → Prop} (hp : args.any (·.1) = false)
    (h : wpAny M A (spliced args) (fun vs s' => Q ⟨vs, []⟩ s') E s) : wpAny M A (evalArgs f true args []) Q E s := by
  cases args with
  | nil =>
    unfold evalArgs
    show wpAny M A (spliced [] >>= _) Q E s
    refine wpAny_bind (wpAny_mono h (fun vs s' h' => wpAny_bind (wpAny_pure ?_)) fun _ _ x => x)
    refine wpAny_holding ?_
    exact wpAny_bind (wpAny_pure (wpAny_bind (wpAny_pure (wpAny_pure h'))))
  | cons x rest =>
    obtain ⟨b, x⟩ := x
    cases b with
    | true => simp at hp
    | false => exact evalArgs_plain h

theorem VRs.append {prog : Program} {w : World} {g : FV} {l l' : List Value} {m m' : List V} (h : VRs prog w g l m) (h' : VRs prog w g l' m') : VRs prog w g (l ++ l') (m ++ m') := by
  induction l generalizing m with
  | nil => cases h; exact h'
  | cons v l ih => cases h with | cons z1 z2 => exact .cons z1 (ih z2)

/-- the arguments, then the call -/
theorem callWith_then {f : Value} {first : List Value} {fa : List V} {es : List Expr} {pos : Pos} {g : FV} {s : Shared} {Q : V → Led → Prop} (hk : KeepsF C f) (hp : (backTo pos (starEach es B.env)).any (·.1) = false)
    (o : Ok C g Λ s) (F : Frm C B.env ρ g Λ s) (hf : VRs C.prog C.w g first fa) (h : Evs B ρ es Λ fun as Λ₂ => CallE C B.A B.E f (fa ++ as) Λ₂ Q) :
    wpAny (model C.prog C.w) B.A (callWith pos f first (backTo pos (starEach es B.env)) []) (Post C g Λ s Q) B.E s := by
  refine callWith_of (P := fun h => (K C.w.params).In h) (by rw [hp]; rfl) hk (evalArgs_any hp ?_)
  refine wp_thenL (h pos g s o F) fun vs s₂ g₂ Λ₂ as o₂ x₂ vas h₂ => ⟨Gd.kIn o₂, ?_⟩
  exact wpAny_mono (h₂ g₂ s₂ (first ++ vs) o₂ ((hf.mono x₂.gle).append vas)) (fun _ _ => Post.after x₂) fun _ _ x => x

theorem CallS.toE {m : Nat} {f : Value} {as : List V} {Q : V → Led → Prop} (h : CallS C m f as Λ Q) (k : m ≤ B.n) : CallE C B.A B.E f as Λ Q := fun g s vs o v => h B.A B.E g s vs (B.hA.le k) o v

/-- f(..): f is a name -/
theorem Ev.callE {id : PySem.Str} {p pos : Pos} {es : List Expr} {Q : V → Led → Prop}
    (h : Ev B ρ (.Name id p) Λ fun fa Λ₁ => ∃ f, IsF fa f ∧ KeepsF C f ∧ Evs B ρ es Λ₁ fun as Λ₂ => CallE C B.A B.E f as Λ₂ Q)
    (hp : ∀ env, (backTo pos (starEach es env)).any (·.1) = false := by intro _; rfl) : Ev B ρ (.Call (.Name id p) es [] pos) Λ Q := fun g s o F => by
  refine wpAny_Call_Name_kw (wp_then (h g s o F) fun v s₁ g₁ Λ₁ a o₁ x₁ va hh => ?_)
  obtain ⟨f, hf, hk, h₁⟩ := hh
  have e := hf.eq va
  subst e
  exact wpAny_mono (callWith_then hk (hp _) o₁ (F.step x₁) (.nil) h₁) (fun _ _ => Post.after x₁) fun _ _ x => x
theorem Ev.call (m : Nat) {id : PySem.Str} {p pos : Pos} {es : List Expr} {Q : V → Led → Prop}
    (h : Ev B ρ (.Name id p) Λ (QCall B ρ m es Q)) (k : m ≤ B.n)
    (hp : ∀ env, (backTo pos (starEach es env)).any (·.1) = false := by intro _; rfl) : Ev B ρ (.Call (.Name id p) es [] pos) Λ Q :=
  Ev.callE (h.mono fun _ _ hh => by obtain ⟨f, hf, hk, h₁⟩ := hh; exact ⟨f, hf, hk, fun pos g s o F => wpAny_mono (h₁ pos g s o F) (fun _ _ hh => by obtain ⟨g', L, as, a, b, c, d⟩ := hh; exact ⟨g', L, as, a, b, c, d.toE k⟩) fun _ _ x => x⟩) hp

/-- o.name(..) -/
theorem Ev.methE {o : Expr} {name : PySem.Str} {apos pos : Pos} {es : List Expr} {Q : V → Led → Prop} {pl : Sem Bool}
    (h : Ev B ρ o Λ fun a Λ₁ => MethS C B.n a name Λ₁ fun f fa => KeepsF C f ∧ Evs B ρ es Λ₁ fun as Λ₂ => CallE C B.A B.E f (fa ++ as) Λ₂ Q)
    (he : eval (.Call (.Attribute o name apos) es [] pos) B.env = (do
      let ov ← eval o B.env
      standAt apos.atName
      let (f, first) ← holding [ov] (getMethod ov name pl)
      callWith pos f first (backTo pos (starEach es B.env)) (backToKw pos (keywordEach [] B.env))) := by rfl)
    (hp : ∀ env, (backTo pos (starEach es env)).any (·.1) = false := by intro _; rfl) : Ev B ρ (.Call (.Attribute o name apos) es [] pos) Λ Q := fun g s ok F => by
  refine methodCall_KW (pl := pl) (wp_then (h g s ok F) fun v s₁ g₁ Λ₁ a o₁ x₁ va h₁ => ?_) he
  refine h₁ B.A B.E g₁ s₁ v pl _ B.hA o₁ va fun f first fa hh hf => ?_
  obtain ⟨hk, hq⟩ := hh
  exact wpAny_mono (callWith_then hk (hp _) o₁ (F.step x₁) hf hq) (fun _ _ => Post.after x₁) fun _ _ x => x
theorem Ev.meth (m : Nat) {o : Expr} {name : PySem.Str} {apos pos : Pos} {es : List Expr} {Q : V → Led → Prop} {pl : Sem Bool}
    (h : Ev B ρ o Λ (QM B ρ m name es Q)) (k : m ≤ B.n)
    (he : eval (.Call (.Attribute o name apos) es [] pos) B.env = (do
      let ov ← eval o B.env
      standAt apos.atName
      let (f, first) ← holding [ov] (getMethod ov name pl)
      callWith pos f first (backTo pos (starEach es B.env)) (backToKw pos (keywordEach [] B.env))) := by rfl)
    (hp : ∀ env, (backTo pos (starEach es env)).any (·.1) = false := by intro _; rfl) : Ev B ρ (.Call (.Attribute o name apos) es [] pos) Λ Q := by
  refine Ev.methE (pl := pl) (h.mono fun a Λ₁ hm => ?_) he hp
  intro A E g s v pl R hA o va hR
  exact hm A E g s v pl R hA o va fun f first fa hh hf => by obtain ⟨hk, hq⟩ := hh; exact hR f first fa ⟨hk, fun pos g s o F => wpAny_mono (hq pos g s o F) (fun _ _ hh => by obtain ⟨g', L, as, a, b, c, d⟩ := hh; exact ⟨g', L, as, a, b, c, d.toE k⟩) fun _ _ x => x⟩ hf

/-- o.name -/
theorem Ev.attr {value : Expr} {attr : PySem.Str} {pos : Pos} {Q : V → Led → Prop} (h : Ev B ρ value Λ (QAttr B attr Q))
    (he : eval (.Attribute value attr pos) B.env = (do
      let o ← eval value B.env
      standAt pos.atName
      let r ← holding [o] (getAttr o attr true)
      letTemporaryGo value o r
      pure r) := by with_unfolding_all rfl) : Ev B ρ (.Attribute value attr pos) Λ Q := fun g s o F => by
  refine Attribute_any_ (wp_then (h g s o F) fun v s₁ g₁ Λ₁ a o₁ x₁ va h₁ => ?_) he
  exact wpAny_mono (h₁ B.A B.E g₁ s₁ v B.hA o₁ va) (fun _ _ => Post.after x₁) fun _ _ x => x

/-- o[i] -/
theorem Ev.sub {value slice : Expr} {pos : Pos} {Q : V → Led → Prop} (h : Ev B ρ value Λ (QSub B ρ slice Q))
    (hs : ∀ o i, subscripted slice false o i = operate [o, i] (getItem o i) := by intro _ _; with_unfolding_all rfl) : Ev B ρ (.Subscript value slice pos) Λ Q := fun g s o F => by
  refine Subscript_ (wp_then (h g s o F) fun v s₁ g₁ Λ₁ a o₁ x₁ va h₁ => wp_then (h₁ g₁ s₁ o₁ (F.step x₁)) fun u s₂ g₂ Λ₂ b o₂ x₂ wb h₂ => ?_)
  obtain ⟨T, id, hT, hl, hg⟩ := h₂ B.A B.E g₂ s₂ v u B.hA o₂ (va.mono x₂.gle) wb
  exact tail_any hT hl (wpAny_mono hg (fun _ _ => Post.after (x₁.trans x₂)) fun _ _ x => x) (hs _ _)

/-- a part of a slice -/
noncomputable def EvO (B : Bd C) (ρ : Loc) (e : Option Expr) (Λ : Led) (Q : V → Led → Prop) : Prop :=
  ∀ g s, Ok C g Λ s → Frm C B.env ρ g Λ s → wpAny (model C.prog C.w) B.A (evalPart e B.env) (Post C g Λ s Q) B.E s
theorem EvO.none {Q : V → Led → Prop} (h : Q .none Λ) : EvO B ρ Option.none Λ Q := fun g s o F => by
  rw [evalPart_none]; exact wpAny_pure (Post.here o .none h)
theorem EvO.some {e : Expr} {Q : V → Led → Prop} (h : Ev B ρ e Λ Q) : EvO B ρ (Option.some e) Λ Q := fun g s o F => by
  rw [evalPart_some]; exact h g s o F

/-- o[i:j:k] -/
noncomputable def SlcS (C : Gd K) (n : Nat) (a lo hi st : V) (Λ : Led) (Q : V → Led → Prop) : Prop :=
  ∀ A E g s v sl vl vu vs, AOK A n → Ok C g Λ s → VR C.prog C.w g v a → VR C.prog C.w g vl lo → VR C.prog C.w g vu hi → VR C.prog C.w g vs st → s.heap.IsSliceOf sl vl vu vs →
    ∃ T id, s.TypeIs v T ∧ typeLookup (.type T) "__getitem__" = pure (Option.some (.builtin id)) ∧ wpAny (model C.prog C.w) A (getItem v (.ref sl)) (Post C g Λ s Q) E s
theorem Ev.slc {value : Expr} {lo hi st : Option Expr} {p pos : Pos} {Q : V → Led → Prop}
    (h : Ev B ρ value Λ fun a Λ₁ => EvO B ρ lo Λ₁ fun l Λ₂ => EvO B ρ hi Λ₂ fun u Λ₃ => EvO B ρ st Λ₃ fun t Λ₄ => SlcS C B.n a l u t Λ₄ Q) : Ev B ρ (.Subscript value (.Slice lo hi st p) pos) Λ Q := fun g s o F => by
  have hs : ∃ ops : Value → Value → List Value, ∀ o i, subscripted (.Slice lo hi st p) false o i = operate (ops o i) (getItem o i) := by
    cases st with
    | none => exact ⟨fun o i => [i, o], fun _ _ => rfl⟩
    | some t => exact ⟨fun o i => [o, i], fun _ _ => rfl⟩
  obtain ⟨ops, hs⟩ := hs
  refine Subscript_ (wp_then (h g s o F) fun v s₁ g₁ Λ₁ a o₁ x₁ va h₁ => wpAny_Slice (wp_then (h₁ g₁ s₁ o₁ (F.step x₁)) fun vl s₂ g₂ Λ₂ l o₂ x₂ vlr h₂ =>
    wp_then (h₂ g₂ s₂ o₂ (F.step (x₁.trans x₂))) fun vu s₃ g₃ Λ₃ u o₃ x₃ vur h₃ => wp_then (h₃ g₃ s₃ o₃ (F.step ((x₁.trans x₂).trans x₃))) fun vt s₄ g₄ Λ₄ t o₄ x₄ vtr h₄ => ?_))
  have k : ∀ b ob, s₄.heap.get? b = Option.some ob → (s₄.heap.push { cls := .type "slice", data := .fields #[vl, vu, vt] }).get? b = Option.some ob := fun b ob e => Heap.get?_push_of_some _ e
  have o₅ := o₄.grow (t := s₄.toks) k
  have x₅ := Step.grow g₄ Λ₄ s₄ (t := s₄.toks) k
  obtain ⟨T, id, hT, hl, hg⟩ := h₄ B.A B.E g₄ _ v s₄.heap.objs.size vl vu vt B.hA o₅ (va.mono ((x₂.trans x₃).trans x₄).gle) (vlr.mono (x₃.trans x₄).gle) (vur.mono x₄.gle) vtr (Heap.IsSliceOf.new _ _ _ _)
  exact tail_any hT hl (wpAny_mono hg (fun _ _ => Post.after ((((x₁.trans x₂).trans x₃).trans x₄).trans x₅)) fun _ _ x => x) (hs _ _)
end Mine
end
section
namespace Mine
variable {K : Params → Frag} {C : Gd K} {B : Bd C} {ρ : Loc} {Λ : Led}

/-- what a frame's own statements may change besides the ledger -/
noncomputable def Own (env : Env) (b : Addr) : Prop := b = env.locals ∨ ∃ x, env.cells.lookup x = some b ∧ env.kindOf x = some .cell

structure StepF (env : Env) (g : FV) (Λ : Led) (s : Shared) (g' : FV) (Λ' : Led) (s' : Shared) : Prop where
  gle : FV.le g g'
  keep : ∀ b o, s.heap.get? b = some o → Λ b = none → ¬ Own env b → Kept s'.heap b o ∧ Λ' b = none ∧ g' b = g b
  live : ∀ b, s.heap.get? b ≠ none → s'.heap.get? b ≠ none
  gens : s'.gens = s.gens
  drawn : s'.drawn = s.drawn
  os : s'.os = s.os
theorem Step.toF {env : Env} {g g' : FV} {Λ Λ' : Led} {s s' : Shared} (x : Step g Λ s g' Λ' s') : StepF env g Λ s g' Λ' s' := ⟨x.gle, fun b o h l _ => x.keep b o h l, x.live, x.gens, x.drawn, x.os⟩
theorem StepF.refl (env : Env) (g : FV) (Λ : Led) (s : Shared) : StepF env g Λ s g Λ s := (Step.refl ..).toF
theorem StepF.trans {env : Env} {g₁ g₂ g₃ : FV} {Λ₁ Λ₂ Λ₃ : Led} {s₁ s₂ s₃ : Shared} (x : StepF env g₁ Λ₁ s₁ g₂ Λ₂ s₂) (y : StepF env g₂ Λ₂ s₂ g₃ Λ₃ s₃) : StepF env g₁ Λ₁ s₁ g₃ Λ₃ s₃ := by
  refine ⟨fun a o e => y.gle _ _ (x.gle _ _ e), fun b o h l ho => ?_, fun b h => y.live b (x.live b h), y.gens.trans x.gens, y.drawn.trans x.drawn, y.os.trans x.os⟩
  obtain ⟨k, l2, e2⟩ := x.keep b o h l ho
  have k3 : ∀ o', s₂.heap.get? b = some o' → Kept s₃.heap b o' := fun o' h' => (y.keep b o' h' l2 ho).1
  have r : Λ₃ b = none ∧ g₃ b = g₂ b := by
    rcases k with k | ⟨_, _, _, _, k⟩
    · exact (y.keep b _ k l2 ho).2
    · exact (y.keep b _ k l2 ho).2
  exact ⟨k.trans k3, r.1, r.2.trans e2⟩
theorem StepF.forget {env : Env} {g g' : FV} {Λ Λ' Λ'' : Led} {s s' : Shared} (x : StepF env g Λ s g' Λ' s') (k : Led.le Λ'' Λ') : StepF env g Λ s g' Λ'' s' :=
  ⟨x.gle, fun b o h l ho => let ⟨a, b', c⟩ := x.keep b o h l ho; ⟨a, Led.none_of_le k b', c⟩, x.live, x.gens, x.drawn, x.os⟩

inductive Fl where
  | next | brk | cont
  | ret (a : V)
inductive FlR (C : Gd K) (g : FV) : Flow → Fl → Prop
  | next : FlR C g .next .next
  | brk : FlR C g .brk .brk
  | cont : FlR C g .cont .cont
  | ret {v : Value} {a : V} : VR C.prog C.w g v a → FlR C g (.ret v) (.ret a)

inductive PostS (C : Gd K) (env : Env) (g : FV) (Λ : Led) (s : Shared) (Q : Fl → Loc → Led → Prop) (f : Flow) (s' : Shared) : Prop
  | mk (g' : FV) (Λ' : Led) (ρ' : Loc) (fl : Fl) (o : Ok C g' Λ' s') (F : Frm C env ρ' g' Λ' s') (x : StepF env g Λ s g' Λ' s') (h : FlR C g' f fl) (q : Q fl ρ' Λ') : PostS C env g Λ s Q f s'
theorem PostS.after {env : Env} {g g' : FV} {Λ Λ' : Led} {s s' : Shared} {Q : Fl → Loc → Led → Prop} {f : Flow} {s'' : Shared} (x : StepF env g Λ s g' Λ' s') (h : PostS C env g' Λ' s' Q f s'') : PostS C env g Λ s Q f s'' := by
  obtain ⟨g2, L2, r2, fl, h1, h2, h3, h4, h5⟩ := h; exact ⟨g2, L2, r2, fl, h1, h2, x.trans h3, h4, h5⟩

noncomputable def Ex (B : Bd C) (ss : List Stmt) (ρ : Loc) (Λ : Led) (Q : Fl → Loc → Led → Prop) : Prop :=
  ∀ g s, Ok C g Λ s → Frm C B.env ρ g Λ s → wpAny (model C.prog C.w) B.A (execs ss B.env) (PostS C B.env g Λ s Q) B.E s
noncomputable def Ex1 (B : Bd C) (st : Stmt) (ρ : Loc) (Λ : Led) (Q : Fl → Loc → Led → Prop) : Prop :=
  ∀ g s, Ok C g Λ s → Frm C B.env ρ g Λ s → wpAny (model C.prog C.w) B.A (exec st B.env) (PostS C B.env g Λ s Q) B.E s

/-- what stands behind a statement -/
noncomputable def Then (B : Bd C) (rest : List Stmt) (Q : Fl → Loc → Led → Prop) : Fl → Loc → Led → Prop := fun fl ρ Λ => match fl with
  | .next => Ex B rest ρ Λ Q
  | fl => Q fl ρ Λ

section
variable (B : Bd C) (ρ : Loc)
noncomputable abbrev QAsg (x : PySem.Str) (rest : List Stmt) (Q : Fl → Loc → Led → Prop) (a : V) (Λ : Led) : Prop := Ex B rest ((x, a) :: ρ) Λ Q
noncomputable abbrev QRet (Q : Fl → Loc → Led → Prop) (a : V) (Λ : Led) : Prop := Q (.ret a) ρ Λ
noncomputable abbrev QExp (rest : List Stmt) (Q : Fl → Loc → Led → Prop) (_ : V) (Λ : Led) : Prop := Ex B rest ρ Λ Q
noncomputable abbrev QLed (rest : List Stmt) (Q : Fl → Loc → Led → Prop) (Λ : Led) : Prop := Ex B rest ρ Λ Q
noncomputable abbrev QIf (b e rest : List Stmt) (Q : Fl → Loc → Led → Prop) (c : Bool) (Λ : Led) : Prop := if c then Ex B b ρ Λ (Then B rest Q) else Ex B e ρ Λ (Then B rest Q)
end
theorem Ex.mono {ss : List Stmt} {Q Q' : Fl → Loc → Led → Prop} (h : Ex B ss ρ Λ Q) (k : ∀ fl ρ' Λ', Q fl ρ' Λ' → Q' fl ρ' Λ') : Ex B ss ρ Λ Q' := fun g s o f =>
  wpAny_mono (h g s o f) (fun _ _ hh => by obtain ⟨g', L, r, fl, a, b, c, d, e⟩ := hh; exact ⟨g', L, r, fl, a, b, c, d, k _ _ _ e⟩) fun _ _ x => x
theorem Ex.nil {Q : Fl → Loc → Led → Prop} (h : Q .next ρ Λ) : Ex B [] ρ Λ Q := fun g s o f => wpAny_execs_nil ⟨g, Λ, ρ, .next, o, f, .refl .., .next, h⟩
theorem Ex.cons {st : Stmt} {rest : List Stmt} {Q : Fl → Loc → Led → Prop} (h : Ex1 B st ρ Λ (Then B rest Q)) : Ex B (st :: rest) ρ Λ Q := fun g s o f => by
  refine wpAny_execs_cons (wpAny_mono (h g s o f) (fun fw s₁ hh => ?_) fun _ _ x => x)
  obtain ⟨g₁, Λ₁, ρ₁, fl, o₁, f₁, x₁, hf, h₁⟩ := hh
  cases hf with
  | next => exact wpAny_mono (h₁ g₁ s₁ o₁ f₁) (fun _ _ => PostS.after x₁) fun _ _ x => x
  | brk => exact ⟨g₁, Λ₁, ρ₁, _, o₁, f₁, x₁, .brk, h₁⟩
  | cont => exact ⟨g₁, Λ₁, ρ₁, _, o₁, f₁, x₁, .cont, h₁⟩
  | ret hv => exact ⟨g₁, Λ₁, ρ₁, _, o₁, f₁, x₁, .ret hv, h₁⟩

theorem Frm.sub {env : Env} {ρ' : Loc} {g : FV} {s : Shared} (F : Frm C env ρ g Λ s) (k : ∀ x a, ρ'.lookup x = some a → ρ.lookup x = some a) : Frm C env ρ' g Λ s := by
  obtain ⟨m, hn, hv⟩ := F.ns
  exact ⟨F.kind, F.glob, F.blt, F.out, F.cel, F.inj, m, hn, fun x a e => hv x a (k x a e)⟩
theorem Frm.forget {env : Env} {g : FV} {Λ' : Led} {s : Shared} (F : Frm C env ρ g Λ s) (k : Led.le Λ' Λ) : Frm C env ρ g Λ' s :=
  ⟨F.kind, F.glob, F.blt, ⟨F.out.1, Led.none_of_le k F.out.2⟩, fun x c e => let ⟨o, v, a, b, c', d⟩ := F.cel x c e; ⟨o, v, a, b, c', Led.none_of_le k d⟩, F.inj, F.ns⟩
/-- fewer names, a smaller ledger -/
theorem Ex.weaken {ss : List Stmt} {ρ' : Loc} {Λ' : Led} {Q : Fl → Loc → Led → Prop} (h : Ex B ss ρ' Λ' Q) (k : ∀ x a, ρ'.lookup x = some a → ρ.lookup x = some a) (l : Led.le Λ' Λ) : Ex B ss ρ Λ Q := fun g s o f =>
  wpAny_mono (h g s (o.forget l) ((f.sub k).forget l)) (fun _ _ hh => by obtain ⟨g', L, r, fl, a, b, c, d, e⟩ := hh; exact ⟨g', L, r, fl, a, b, ⟨c.gle, fun b o hb hl ho => c.keep b o hb (Led.none_of_le l hl) ho, c.live, c.gens, c.drawn, c.os⟩, d, e⟩) fun _ _ x => x

/-- a name is stored -/
theorem store_wp {x : PySem.Str} {v : Value} {a : V} {g : FV} {s : Shared} {A : Around} {E : Value → Shared → Prop} {R : Unit → Shared → Prop} {env : Env} (o : Ok C g Λ s) (F : Frm C env ρ g Λ s) (hv : VR C.prog C.w g v a)
    (hx : env.kindOf x = some .local ∨ (env.kindOf x = some .cell ∧ (env.cells.lookup x).isSome = true))
    (k : ∀ s', Ok C g Λ s' → Frm C env ((x, a) :: ρ) g Λ s' → StepF env g Λ s g Λ s' → R () s') : wpAny (model C.prog C.w) A (storeName env x v) R E s := by
  obtain ⟨m, hn, hm⟩ := F.ns
  have lk : ∀ y b, ((x, a) :: ρ).lookup y = some b → (y = x ∧ b = a) ∨ (y ≠ x ∧ ρ.lookup y = some b) := fun y b e => by
    rw [List.lookup_cons] at e
    by_cases q : y = x
    · subst q; simp only [beq_self_eq_true] at e; cases e; exact .inl ⟨rfl, rfl⟩
    · have : (y == x) = false := by simpa using q
      simp only [this] at e; exact .inr ⟨q, e⟩
  rcases hx with hx | ⟨hx, hc⟩
  · refine wpAny_storeName_local hx hn (fun h' hn' hs => ?_) (by rw [F.kind]; rfl)
    have kp : ∀ b ob, b ≠ env.locals → s.heap.get? b = some ob → h'.get? b = some ob := fun b ob q e => (hs.2 b q).trans e
    have nc : ∀ c ob v, s.heap.get? c = some ob → ob.data = .cell v → c ≠ env.locals := by
      rintro c ob v e hd rfl
      obtain ⟨oL, es, ep, h1, h2, _⟩ := hn
      rw [e] at h1; cases h1; rw [hd] at h2; cases h2
    refine k _ ⟨fun b ob e => kp b ob (by first | exact opt_ne e F.out.1 | exact Ne.symm (opt_ne e F.out.1) | (rintro rfl; rw [F.out.1] at e; cases e)) (o.gin b ob e), o.low, fun b ob e => ⟨(o.led b ob e).1, (o.led b ob e).2.keeps (fun _ _ e => e) fun c hc => kp _ _ (by first | exact opt_ne e F.out.2 | exact Ne.symm (opt_ne e F.out.2) | (rintro rfl; rw [F.out.2] at e; cases e)) hc⟩, o.rest⟩
      ⟨F.kind, F.glob, F.blt, F.out, fun y c e => ?_, F.inj, _, hn', fun y b e => ?_⟩ ⟨fun _ _ e => e, fun b ob hb hl ho => ⟨.inl (kp b ob (fun q => ho (.inl q)) hb), hl, rfl⟩, fun b hb => ?_, rfl, rfl, rfl⟩
    · obtain ⟨ob, v, h1, h2, h3, h4⟩ := F.cel y c e
      exact ⟨ob, v, kp _ _ (nc _ _ _ h1 h2) h1, h2, h3, h4⟩
    · rcases lk y b e with ⟨rfl, rfl⟩ | ⟨q, e⟩
      · exact .inl ⟨hx, v, by simp, hv⟩
      · rcases hm y b e with ⟨h1, v', h2, h3⟩ | ⟨h1, c, ob, v', h2, h3, h4, h5⟩
        · exact .inl ⟨h1, v', by simp [q, h2], h3⟩
        · exact .inr ⟨h1, c, ob, v', h2, kp _ _ (nc _ _ _ h3 h4) h3, h4, h5⟩
    · by_cases q : b = env.locals
      · subst q; obtain ⟨oL, _, _, h1, _⟩ := hn'; show h'.get? _ ≠ none; rw [h1]; exact Option.some_ne_none _
      · obtain ⟨ob, hb⟩ := Option.ne_none_iff_exists'.mp hb; show h'.get? b ≠ none; rw [kp _ _ q hb]; exact Option.some_ne_none _
  · obtain ⟨c, hc⟩ := Option.isSome_iff_exists.mp hc
    obtain ⟨oc, v₀, c1, c2, c3, c4⟩ := F.cel x c hc
    refine wpAny_storeName_cell F.kind hx hc ⟨oc, c1, c2⟩ fun h' hv' hs => ?_
    have kp : ∀ b ob, b ≠ c → s.heap.get? b = some ob → h'.get? b = some ob := fun b ob q e => (hs.2 b q).trans e
    have cL : env.locals ≠ c := by
      rintro rfl
      obtain ⟨oL, es, ep, h1, h2, _⟩ := hn
      rw [c1] at h1; cases h1; rw [c2] at h2; cases h2
    obtain ⟨oc', d1, d2⟩ := hv'
    refine k _ ⟨fun b ob e => kp b ob (by first | exact opt_ne e c3 | exact Ne.symm (opt_ne e c3) | (rintro rfl; rw [c3] at e; cases e)) (o.gin b ob e), o.low, fun b ob e => ⟨(o.led b ob e).1, (o.led b ob e).2.keeps (fun _ _ e => e) fun d hd => kp _ _ (by first | exact opt_ne e c4 | exact Ne.symm (opt_ne e c4) | (rintro rfl; rw [c4] at e; cases e)) hd⟩, o.rest⟩
      ⟨F.kind, F.glob, F.blt, F.out, fun y d e => ?_, F.inj, m, Kept.ns hn fun ob e => .inl (kp _ _ cL e), fun y b e => ?_⟩ ⟨fun _ _ e => e, fun b ob hb hl ho => ⟨.inl (kp b ob (by rintro rfl; exact ho (.inr ⟨x, hc, hx⟩)) hb), hl, rfl⟩, fun b hb => ?_, rfl, rfl, rfl⟩
    · by_cases q : d = c
      · subst q; exact ⟨oc', _, d1, d2, c3, c4⟩
      · obtain ⟨ob, v, h1, h2, h3, h4⟩ := F.cel y d e
        exact ⟨ob, v, kp _ _ q h1, h2, h3, h4⟩
    · rcases lk y b e with ⟨rfl, rfl⟩ | ⟨q, e⟩
      · exact .inr ⟨.inl hx, c, oc', v, hc, d1, d2, hv⟩
      · rcases hm y b e with ⟨h1, v', h2, h3⟩ | ⟨h1, d, ob, v', h2, h3, h4, h5⟩
        · exact .inl ⟨h1, v', h2, h3⟩
        · exact .inr ⟨h1, d, ob, v', h2, kp _ _ (by rintro rfl; exact q (F.inj _ _ _ h2 hc)) h3, h4, h5⟩
    · by_cases q : b = c
      · subst q; show h'.get? _ ≠ none; rw [d1]; exact Option.some_ne_none _
      · obtain ⟨ob, hb⟩ := Option.ne_none_iff_exists'.mp hb; show h'.get? b ≠ none; rw [kp _ _ q hb]; exact Option.some_ne_none _

noncomputable def CanStore (env : Env) (x : PySem.Str) : Prop := env.kindOf x = some .local ∨ (env.kindOf x = some .cell ∧ (env.cells.lookup x).isSome = true)
theorem canL {env : Env} {x : PySem.Str} (h : env.kindOf x = some .local) : CanStore env x := .inl h

theorem Ex.assign {x : PySem.Str} {p pos : Pos} {e : Expr} {rest : List Stmt} {Q : Fl → Loc → Led → Prop} (h : Ev B ρ e Λ (QAsg B ρ x rest Q))
    (hx : CanStore B.env x := by exact canL rfl) (hs : swapsWith e (some (.Name x p)) pos.line B.env = pure false := by rfl) : Ex B (.Assign [.Name x p] e pos :: rest) ρ Λ Q := fun g s o F => by
  refine wpAny_execs_cons (wpAny_Assign_Name (wp_then (h g s o F) fun v s₁ g₁ Λ₁ a o₁ x₁ va h₁ => store_wp o₁ (F.step x₁) va hx fun s₂ o₂ F₂ x₂ => ?_) hs)
  exact wpAny_mono (h₁ g₁ s₂ o₂ F₂) (fun _ _ => PostS.after (x₁.toF.trans x₂)) fun _ _ x => x
theorem Ex.ret {e : Expr} {pos : Pos} {rest : List Stmt} {Q : Fl → Loc → Led → Prop} (h : Ev B ρ e Λ (QRet ρ Q)) : Ex B (.Return (some e) pos :: rest) ρ Λ Q := fun g s o F => by
  exact wpAny_execs_cons (wpAny_Return_some (wp_then (h g s o F) fun v s₁ g₁ Λ₁ a o₁ x₁ va h₁ => ⟨g₁, Λ₁, ρ, .ret a, o₁, F.step x₁, x₁.toF, .ret va, h₁⟩))
theorem Ex.ret0 {pos : Pos} {rest : List Stmt} {Q : Fl → Loc → Led → Prop} (h : Q (.ret .none) ρ Λ) : Ex B (.Return none pos :: rest) ρ Λ Q := fun g s o F => by
  exact wpAny_execs_cons (wpAny_Return_none ⟨g, Λ, ρ, .ret .none, o, F, .refl .., .ret .none, h⟩)
theorem Ex.pass {pos : Pos} {rest : List Stmt} {Q : Fl → Loc → Led → Prop} (h : Ex B rest ρ Λ Q) : Ex B (.Pass pos :: rest) ρ Λ Q := fun g s o F => wpAny_execs_cons (wpAny_Pass (h g s o F))
theorem Ex.cont {pos : Pos} {rest : List Stmt} {Q : Fl → Loc → Led → Prop} (h : Q .cont ρ Λ) : Ex B (.Continue pos :: rest) ρ Λ Q := fun g s o F => wpAny_execs_cons (wpAny_Continue ⟨g, Λ, ρ, .cont, o, F, .refl .., .cont, h⟩)
theorem Ex.expr {e : Expr} {pos : Pos} {rest : List Stmt} {Q : Fl → Loc → Led → Prop} (h : Ev B ρ e Λ (QExp B ρ rest Q))
    (hs : swapsWith e none pos.line B.env = pure false := by rfl) : Ex B (.Expr e pos :: rest) ρ Λ Q := fun g s o F => by
  refine wpAny_execs_cons (wpAny_Expr_any (wp_then (h g s o F) fun v s₁ g₁ Λ₁ a o₁ x₁ va h₁ => ?_) (by unfold interactive; rw [F.kind]; rfl) hs)
  exact wpAny_mono (h₁ g₁ s₁ o₁ (F.step x₁)) (fun _ _ => PostS.after x₁.toF) fun _ _ x => x
theorem Ex.ife {t : Expr} {b e : List Stmt} {pos : Pos} {rest : List Stmt} {Q : Fl → Loc → Led → Prop} (h : Tst B ρ t Λ (QIf B ρ b e rest Q)) : Ex B (.If t b e pos :: rest) ρ Λ Q := by
  refine Ex.cons fun g s o F => wpAny_If (wpAny_mono (h g s o F) (fun c s₁ hh => ?_) fun _ _ x => x)
  obtain ⟨g₁, Λ₁, o₁, x₁, h₁⟩ := hh
  cases c with
  | true => exact wpAny_mono (h₁ g₁ s₁ o₁ (F.step x₁)) (fun _ _ => PostS.after x₁.toF) fun _ _ x => x
  | false => exact wpAny_mono (h₁ g₁ s₁ o₁ (F.step x₁)) (fun _ _ => PostS.after x₁.toF) fun _ _ x => x

/-- a name's list is never changed any more -/
theorem Ex.freeze (x : PySem.Str) {b : Addr} {vs : List V} {ss : List Stmt} {Q : Fl → Loc → Led → Prop} (hx : ρ.lookup x = some (.ref b)) (hb : Λ b = some (.list vs)) (h : Ex B ss ((x, .lst vs) :: ρ) (drop Λ b) Q) : Ex B ss ρ Λ Q := fun g s o F => by
  obtain ⟨ob, its, h1, h2, h3⟩ := (o.led b _ hb).2
  obtain ⟨o₂, x₂, e₂, le⟩ := o.freeze hb h1
  have F₂ := F.step x₂
  refine wpAny_mono (h _ s o₂ ⟨F₂.kind, F₂.glob, F₂.blt, F₂.out, F₂.cel, F₂.inj, ?_⟩) (fun _ _ => PostS.after x₂.toF) fun _ _ x => x
  obtain ⟨m, hn, hm⟩ := F₂.ns
  refine ⟨m, hn, fun y a e => ?_⟩
  rw [List.lookup_cons] at e
  by_cases q : y = x
  · subst q
    simp only [beq_self_eq_true] at e; cases e
    rcases hm y _ hx with ⟨k1, v, k2, k3⟩ | ⟨k1, c, oc, v, k2, k3, k4, k5⟩
    · cases k3; exact .inl ⟨k1, _, k2, .lst e₂ h2 (h3.mono le)⟩
    · cases k5; exact .inr ⟨k1, c, oc, _, k2, k3, k4, .lst e₂ h2 (h3.mono le)⟩
  · have : (y == x) = false := by simpa using q
    simp only [this] at e; exact hm y a e
end Mine
end
section
namespace Mine
variable {K : Params → Frag} {C : Gd K} {B : Bd C} {ρ : Loc} {Λ : Led}

noncomputable abbrev Sub (ρ' ρ : Loc) : Prop := ∀ x a, ρ'.lookup x = some a → ρ.lookup x = some a

/-- a turn's end: the next state of the loop -/
inductive Turn {ι : Type} (P : ι → Prop) (μ : ι → Nat) (n : Nat) (ρI : ι → Loc) (ΛI : ι → Led) (ρ' : Loc) (Λ' : Led) : Prop
  | mk (j : ι) (h : P j) (m : μ j < n) (s : Sub (ρI j) ρ') (l : Led.le (ΛI j) Λ') : Turn P μ n ρI ΛI ρ' Λ'
noncomputable def TurnEnd {ι : Type} (P : ι → Prop) (μ : ι → Nat) (n : Nat) (ρI : ι → Loc) (ΛI : ι → Led) (B : Bd C) (rest : List Stmt) (Q : Fl → Loc → Led → Prop) : Fl → Loc → Led → Prop := fun fl ρ' Λ' => match fl with
  | .next => Turn P μ n ρI ΛI ρ' Λ'
  | .cont => Turn P μ n ρI ΛI ρ' Λ'
  | .brk => Ex B rest ρ' Λ' Q
  | .ret a => Q (.ret a) ρ' Λ'

theorem StepF.forgetL {env : Env} {g g' : FV} {Λ₀ Λ Λ' : Led} {s s' : Shared} (k : Led.le Λ₀ Λ) (x : StepF env g Λ₀ s g' Λ' s') : StepF env g Λ s g' Λ' s' :=
  ⟨x.gle, fun b o h l ho => x.keep b o h (Led.none_of_le k l) ho, x.live, x.gens, x.drawn, x.os⟩

theorem Ex.while {ι : Type} (P : ι → Prop) (μ : ι → Nat) (ρI : ι → Loc) (ΛI : ι → Led) (i₀ : ι) {test : Expr} {body : List Stmt} {pos : Pos} {rest : List Stmt} {Q : Fl → Loc → Led → Prop}
    (h0 : P i₀) (h1 : Sub (ρI i₀) ρ) (h2 : Led.le (ΛI i₀) Λ)
    (turn : ∀ i, P i → Tst B (ρI i) test (ΛI i) fun c Λ₁ => if c then Ex B body (ρI i) Λ₁ (TurnEnd P μ (μ i) ρI ΛI B rest Q) else Ex B rest (ρI i) Λ₁ Q) :
    Ex B (.While test body [] pos :: rest) ρ Λ Q := by
  refine Ex.weaken (ρ' := ρI i₀) (Λ' := ΛI i₀) (Ex.cons fun g s o F => wpAny_While ?_) h1 h2
  refine codeAny_whileLoop (I := fun n s' => ∃ i g', P i ∧ μ i = n ∧ Ok C g' (ΛI i) s' ∧ Frm C B.env (ρI i) g' (ΛI i) s' ∧ StepF B.env g (ΛI i₀) s g' (ΛI i) s') ?_ (μ i₀) ⟨i₀, g, h0, rfl, o, F, .refl ..⟩
  rintro n s' ⟨i, g', hi, rfl, o', F', x'⟩
  refine wpAny_passesOwn B.hE (wpAny_mono (turn i hi g' s' o' F') (fun c s₁ hh => ?_) fun _ _ x => x)
  obtain ⟨g₁, Λ₁, o₁, x₁, h₁⟩ := hh
  have xx := x'.trans x₁.toF
  cases c with
  | false =>
    refine wpAny_passesOwn B.hE (wpAny_execs_nil ⟨g₁, Λ₁, ρI i, .next, o₁, F'.step x₁, xx, .next, h₁⟩)
  | true =>
    refine wpAny_passesOwn B.hE (wpAny_mono (h₁ g₁ s₁ o₁ (F'.step x₁)) (fun f s₂ hh => ?_) fun _ _ x => x)
    obtain ⟨g₂, Λ₂, ρ₂, fl, o₂, F₂, x₂, hf, q⟩ := hh
    have xy := xx.trans x₂
    cases hf with
    | next => obtain ⟨j, hj, hm, k1, k2⟩ := q; exact ⟨μ j, hm, j, g₂, hj, rfl, o₂.forget k2, (F₂.sub k1).forget k2, xy.forget k2⟩
    | cont => obtain ⟨j, hj, hm, k1, k2⟩ := q; exact ⟨μ j, hm, j, g₂, hj, rfl, o₂.forget k2, (F₂.sub k1).forget k2, xy.forget k2⟩
    | brk => exact ⟨g₂, Λ₂, ρ₂, .next, o₂, F₂, xy, .next, q⟩
    | ret hv => exact ⟨g₂, Λ₂, ρ₂, .ret _, o₂, F₂, xy, .ret hv, q⟩

/-- what is walked over -/
noncomputable def IterS (C : Gd K) (n : Nat) (a : V) (Λ : Led) (xs : List V) : Prop :=
  ∀ (A : Around) (E : Value → Shared → Prop) g s v (R : Value → Shared → Prop), AOK A n → Ok C g Λ s → VR C.prog C.w g v a →
    (∀ I h' fp P St, Walks C.prog C.w A I fp [I] xs.length P St → St 0 h' → s.heap.get? I = none → (∀ b o, s.heap.get? b = some o → h'.get? b = some o) → (∀ b ∈ fp, b = I ∨ ∃ o, g b = some o) →
      (∀ i v', P i v' → ∃ x, xs[i]? = some x ∧ VR C.prog C.w g v' x) → (∀ i h, St i h → ∃ o vs, h.get? I = some o ∧ o.data = .fields vs) → R (.ref I) { s with heap := h' }) →
    wpAny (model C.prog C.w) A (pyIter v) R E s

/-- an object of the machine's own has changed -/
theorem off_ok {g : FV} {s : Shared} {env : Env} {I : Addr} {h' : Heap} {t : Nat} (o : Ok C g Λ s) (F : Frm C env ρ g Λ s) (gI : g I = none) (lI : Λ I = none) (nL : env.locals ≠ I) (nc : ∀ x c, env.cells.lookup x = some c → c ≠ I)
    (k : ∀ b ob, b ≠ I → s.heap.get? b = some ob → h'.get? b = some ob) : Ok C g Λ (mv s h' t) ∧ Frm C env ρ g Λ (mv s h' t) := by
  refine ⟨⟨fun b ob e => k b ob (by first | exact opt_ne e gI | exact Ne.symm (opt_ne e gI) | (rintro rfl; rw [gI] at e; cases e)) (o.gin b ob e), o.low, fun b ob e => ⟨(o.led b ob e).1, (o.led b ob e).2.keeps (fun _ _ e => e) fun c hc => k _ _ (by first | exact opt_ne e lI | exact Ne.symm (opt_ne e lI) | (rintro rfl; rw [lI] at e; cases e)) hc⟩, o.rest⟩, ?_⟩
  obtain ⟨m, hn, hv⟩ := F.ns
  refine ⟨F.kind, F.glob, F.blt, F.out, fun x c e => ?_, F.inj, m, Kept.ns hn fun ob e => .inl (k _ _ nL e), fun x a e => ?_⟩
  · obtain ⟨ob, v, h1, h2, h3, h4⟩ := F.cel x c e
    exact ⟨ob, v, k _ _ (nc x c e) h1, h2, h3, h4⟩
  · rcases hv x a e with h1 | ⟨h1, c, ob, v, h2, h3, h4⟩
    · exact .inl h1
    · exact .inr ⟨h1, c, ob, v, h2, k _ _ (nc x c h2) h3, h4⟩
theorem off_step {g₀ g : FV} {Λ₀ : Led} {s₀ s : Shared} {env : Env} {I : Addr} {h' : Heap} {t : Nat} (x : StepF env g₀ Λ₀ s₀ g Λ s) (n : s₀.heap.get? I = none) (k : ∀ b ob, b ≠ I → s.heap.get? b = some ob → h'.get? b = some ob) : StepF env g₀ Λ₀ s₀ g Λ (mv s h' t) :=
  ⟨x.gle, fun b ob hb hl ho => by
    obtain ⟨k1, k2, k3⟩ := x.keep b ob hb hl ho
    have q : b ≠ I := by first | exact opt_ne hb n | exact Ne.symm (opt_ne hb n) | (rintro rfl; rw [n] at hb; cases hb)
    exact ⟨k1.trans fun o' e => .inl (k b o' q e), k2, k3⟩, fun b hb => by
    obtain ⟨ob, hs⟩ := Option.ne_none_iff_exists'.mp (x.live b hb)
    show h'.get? b ≠ none
    rw [k b ob (by rintro rfl; exact hb n) hs]; exact Option.some_ne_none _, x.gens, x.drawn, x.os⟩

theorem Frm.notI {env : Env} {g : FV} {s : Shared} {I : Addr} (F : Frm C env ρ g Λ s) (n : s.heap.get? I = none) : env.locals ≠ I ∧ (∀ x c, env.cells.lookup x = some c → c ≠ I) ∧ ¬ Own env I := by
  obtain ⟨m, ⟨oL, es, ep, hL, _⟩, hv⟩ := F.ns
  have a : env.locals ≠ I := by first | exact opt_ne hL n | exact Ne.symm (opt_ne hL n) | (rintro rfl; rw [n] at hL; cases hL)
  have b : ∀ x c, env.cells.lookup x = some c → c ≠ I := by
    rintro x c e rfl
    obtain ⟨ob, v, h1, _⟩ := F.cel x c e
    rw [n] at h1; cases h1
  exact ⟨a, b, fun h => by rcases h with h | ⟨x, h, _⟩; exact a h.symm; exact b x I h rfl⟩

/-- a turn's end of a for -/
inductive ForTurn {ι : Type} (P : List V → ι → Prop) (ρI : List V → ι → Loc) (ΛI : List V → ι → Led) (xs : List V) (ρ' : Loc) (Λ' : Led) : Prop
  | mk (j : ι) (h : P xs j) (s : Sub (ρI xs j) ρ') (l : Led.le (ΛI xs j) Λ') : ForTurn P ρI ΛI xs ρ' Λ'
noncomputable def ForEnd {ι : Type} (P : List V → ι → Prop) (ρI : List V → ι → Loc) (ΛI : List V → ι → Led) (xs : List V) (B : Bd C) (rest : List Stmt) (Q : Fl → Loc → Led → Prop) : Fl → Loc → Led → Prop := fun fl ρ' Λ' => match fl with
  | .next => ForTurn P ρI ΛI xs ρ' Λ'
  | .cont => ForTurn P ρI ΛI xs ρ' Λ'
  | .brk => Ex B rest ρ' Λ' Q
  | .ret a => Q (.ret a) ρ' Λ'

inductive QFor {ι : Type} (P : List V → ι → Prop) (ρI : List V → ι → Loc) (ΛI : List V → ι → Led) (C : Gd K) (n : Nat) (ρ : Loc) (a : V) (Λ : Led) : Prop
  | mk (xs : List V) (i : ι) (t : IterS C n a Λ xs) (h : P xs i) (s : Sub (ρI xs i) ρ) (l : Led.le (ΛI xs i) Λ) : QFor P ρI ΛI C n ρ a Λ
inductive ForI {ι : Type} (P : List V → ι → Prop) (ρI : List V → ι → Loc) (ΛI : List V → ι → Led) (B : Bd C) (g₁ : FV) (Λ₁ : Led) (s₁ : Shared) (xs : List V) (St : Nat → Heap → Prop) (I : Addr) (n : Nat) (s' : Shared) : Prop
  | mk (k : Nat) (i : ι) (g' : FV) (hk : k ≤ xs.length) (e : n = xs.length + 1 - k) (st : St k s'.heap) (h : P (xs.drop k) i) (o : Ok C g' (ΛI (xs.drop k) i) s') (F : Frm C B.env (ρI (xs.drop k) i) g' (ΛI (xs.drop k) i) s')
      (x : StepF B.env g₁ Λ₁ s₁ g' (ΛI (xs.drop k) i) s') (gI : g' I = none) (lI : ΛI (xs.drop k) i I = none) (le : FV.le g₁ g') : ForI P ρI ΛI B g₁ Λ₁ s₁ xs St I n s'
theorem Ex.for {ι : Type} (P : List V → ι → Prop) (ρI : List V → ι → Loc) (ΛI : List V → ι → Led) {x : PySem.Str} {px : Pos} {iter : Expr} {body : List Stmt} {pos : Pos} {rest : List Stmt} {Q : Fl → Loc → Led → Prop}
    (h : Ev B ρ iter Λ (QFor P ρI ΛI C B.n ρ))
    (turn : ∀ y ys i, P (y :: ys) i → Ex B body ((x, y) :: ρI (y :: ys) i) (ΛI (y :: ys) i) (ForEnd P ρI ΛI ys B rest Q))
    (done : ∀ i, P [] i → Ex B rest (ρI [] i) (ΛI [] i) Q)
    (hx : CanStore B.env x := by exact canL rfl) (hs : ∀ v, foldedSetIterable iter B.env v = pure v := by intro _; rfl) :
    Ex B (.For (.Name x px) iter body [] pos :: rest) ρ Λ Q := by
  refine Ex.cons fun g s o F => wpAny_For (wp_then (h g s o F) fun v s₁ g₁ Λ₁ a o₁ x₁ va hh => ?_) hs
  obtain ⟨xs, i₀, hit, hp, hsub, hle⟩ := hh
  have F₁ := F.step x₁
  refine hit B.A B.E g₁ s₁ v _ B.hA o₁ va fun I h' fp Pi St W st hI kp hfp hP hfl => ?_
  obtain ⟨nL, nc, nO⟩ := F₁.notI hI
  have o₂ := o₁.grow (t := s₁.toks) kp
  have x₂ := Step.grow g₁ Λ₁ s₁ (t := s₁.toks) kp
  have F₂ := F₁.step x₂
  have fr := o₁.fresh hI
  refine codeAny_forLoop (I := ForI P ρI ΛI B g₁ Λ₁ s₁ xs St I) ?_ (xs.length + 1)
    ⟨0, i₀, g₁, Nat.zero_le _, rfl, st, hp, o₂.forget hle, (F₂.sub hsub).forget hle, x₂.toF.forget hle, fr.1, Led.none_of_le hle fr.2, fun _ _ e => e⟩
  rintro n s' ⟨k, i, g', hk, rfl, st', hp', o', F', x', gI, lI, gle⟩
  by_cases hlt : k < xs.length
  · have hd : xs.drop k = xs[k] :: xs.drop (k + 1) := List.drop_eq_getElem_cons hlt
    refine W.item k s' _ _ hlt st' fun v' h₁ tk₁ hPv st₁ k₁ => ?_
    have k₁' : ∀ b ob, b ≠ I → s'.heap.get? b = some ob → h₁.get? b = some ob := fun b ob q e => k₁ b ob (by simpa using q) e
    obtain ⟨y, hy, vy⟩ := hP k v' hPv
    have ey : xs[k] = y := by rw [List.getElem?_eq_getElem hlt] at hy; exact Option.some.inj hy
    obtain ⟨oa, Fa⟩ := off_ok (t := tk₁) o' F' gI lI nL nc k₁'
    have xa := off_step (t := tk₁) x' hI k₁'
    refine wpAny_passesOwn B.hE (wpAny_assign_Name (store_wp oa Fa (vy.mono gle) hx fun s₂ ob Fb xb => ?_))
    rw [hd] at hp' ob Fb xb lI
    rw [ey] at hp' ob Fb xb lI
    refine wpAny_passesOwn B.hE (wpAny_mono (turn y _ i hp' g' s₂ ob Fb) (fun f s₃ hh => ?_) fun _ _ x => x)
    obtain ⟨g₃, Λ₃, ρ₃, fl, o₃, F₃, x₃, hf, q⟩ := hh
    rw [hd, ey] at oa Fa xa
    have xc := xb.trans x₃
    obtain ⟨oI, vsI, eI, dI⟩ := hfl (k + 1) h₁ st₁
    obtain ⟨kI, lI₃, gI₃⟩ := xc.keep I oI eI lI nO
    have kI' : s₃.heap.get? I = some oI := by
      rcases kI with e | ⟨_, _, _, q, _⟩
      · exact e
      · rw [dI] at q; cases q
    have st₃ : St (k + 1) s₃.heap := W.frame _ _ _ st₁ fun b hb ob e => by
      rcases hfp b hb with rfl | ⟨og, eg⟩
      · rw [eI] at e; cases e; exact kI'
      · have e1 := oa.gin b og (gle _ _ eg)
        rw [e] at e1; cases e1
        exact o₃.gin b _ (xc.gle _ _ (gle _ _ eg))
    have again : ForTurn P ρI ΛI (xs.drop (k + 1)) ρ₃ Λ₃ → ∃ m, m < xs.length + 1 - k ∧ ForI P ρI ΛI B g₁ Λ₁ s₁ xs St I m s₃ := by
      rintro ⟨j, hj, k1, k2⟩
      exact ⟨xs.length + 1 - (k + 1), by omega, k + 1, j, g₃, hlt, rfl, st₃, hj, o₃.forget k2, (F₃.sub k1).forget k2, (xa.trans xc).forget k2, gI₃.trans gI, Led.none_of_le k2 lI₃, fun b ob e => xc.gle _ _ (gle _ _ e)⟩
    cases hf with
    | next => exact again q
    | cont => exact again q
    | brk => exact ⟨g₃, Λ₃, ρ₃, .next, o₃, F₃, x₁.toF.trans (xa.trans xc), .next, q⟩
    | ret hv => exact ⟨g₃, Λ₃, ρ₃, .ret _, o₃, F₃, x₁.toF.trans (xa.trans xc), .ret hv, q⟩
  · have hin : k = xs.length := by omega
    subst hin
    refine W.done s' _ _ st' fun h₁ tk₁ k₁ => ?_
    have k₁' : ∀ b ob, b ≠ I → s'.heap.get? b = some ob → h₁.get? b = some ob := fun b ob q e => k₁ b ob (by simpa using q) e
    obtain ⟨oa, Fa⟩ := off_ok (t := tk₁) o' F' gI lI nL nc k₁'
    have xa := off_step (t := tk₁) x' hI k₁'
    rw [List.drop_length] at hp' oa Fa xa
    refine wpAny_passesOwn B.hE (wpAny_execs_nil ⟨g', _, _, .next, oa, Fa, x₁.toF.trans xa, .next, done i hp'⟩)
end Mine
end
section
namespace Mine
variable {K : Params → Frag} {C : Gd K} {B : Bd C} {ρ : Loc} {Λ : Led}

-- what is walked over
theorem VRs.get {prog : Program} {w : World} {g : FV} {vs : List Value} {as : List V} (h : VRs prog w g vs as) : ∀ {i : Nat} {v : Value}, vs[i]? = some v → ∃ a, as[i]? = some a ∧ VR prog w g v a := by
  induction vs generalizing as with
  | nil => intro i v e; simp at e
  | cons u vs ih =>
    cases h with
    | cons h r =>
      intro i v e
      cases i with
      | zero => simp at e; subst e; exact ⟨_, rfl, h⟩
      | succ i => exact ih r (by simpa using e)
theorem VRs.get' {prog : Program} {w : World} {g : FV} {vs : List Value} {as : List V} (h : VRs prog w g vs as) : ∀ {i : Nat} {a : V}, as[i]? = some a → ∃ v, vs[i]? = some v ∧ VR prog w g v a := by
  induction vs generalizing as with
  | nil => cases h; intro i v e; simp at e
  | cons u vs ih =>
    cases h with
    | cons h r =>
      intro i v e
      cases i with
      | zero => simp at e; subst e; exact ⟨_, rfl, h⟩
      | succ i => exact ih r (by simpa using e)

theorem get_push (h : Heap) (o : Obj) (hf : o.isFreed = false := by rfl) : (h.push o).get? h.objs.size = some o := Heap.get?_push_size _ hf

theorem IterS.lst {n : Nat} {xs : List V} : IterS C n (.lst xs) Λ xs := by
  intro A E g s v R hA o va k
  cases va with
  | @lst a ob its _ hg hl hv =>
    obtain ⟨m, rfl⟩ := hl
    have hs := o.gin _ _ hg
    have hL : s.heap.IsList a its.toArray := ⟨_, hs, rfl, m, rfl⟩
    have nI : a ≠ s.heap.objs.size := Nat.ne_of_lt (Heap.lt_size hs)
    have W := Walks.list (prog := C.prog) (w := C.w) hA.hh s.heap.objs.size a nI its.toArray
    rw [show its.toArray.size = xs.length by rw [List.size_toArray, hv.length]] at W
    refine wpAny_pyIter_list hL (k s.heap.objs.size _ _ _ _ W ⟨⟨_, get_push _ _, rfl, rfl⟩, hL.push _⟩ (get_fresh _ (Nat.le_refl _)) (fun b ob e => Heap.get?_push_of_some _ e) ?_ ?_ ?_)
    · intro b hb
      simp at hb
      rcases hb with rfl | rfl
      · exact .inl rfl
      · exact .inr ⟨_, hg⟩
    · intro i v' e
      exact hv.get (by simpa using e)
    · rintro i h ⟨⟨oi, e, _, d⟩, _⟩
      exact ⟨oi, _, e, d⟩
theorem IterS.tup {n : Nat} {xs : List V} : IterS C n (.tup xs) Λ xs := by
  intro A E g s v R hA o va k
  cases va with
  | @tup a ob its _ hg hl hv =>
    obtain ⟨m, rfl⟩ := hl
    have hs := o.gin _ _ hg
    have hL : s.heap.IsTuple a its.toArray := ⟨_, hs, rfl, m, rfl⟩
    have nI : a ≠ s.heap.objs.size := Nat.ne_of_lt (Heap.lt_size hs)
    have W := Walks.tuple (prog := C.prog) (w := C.w) hA.hh s.heap.objs.size a nI its.toArray
    rw [show its.toArray.size = xs.length by rw [List.size_toArray, hv.length]] at W
    refine wpAny_pyIter_tuple hL (k s.heap.objs.size _ _ _ _ W ⟨⟨_, get_push _ _, rfl, rfl⟩, hL.push _⟩ (get_fresh _ (Nat.le_refl _)) (fun b ob e => Heap.get?_push_of_some _ e) ?_ ?_ ?_)
    · intro b hb
      simp at hb
      rcases hb with rfl | rfl
      · exact .inl rfl
      · exact .inr ⟨_, hg⟩
    · intro i v' e
      exact hv.get (by simpa using e)
    · rintro i h ⟨⟨oi, e, _, d⟩, _⟩
      exact ⟨oi, _, e, d⟩

/-- a, a + 1, .. -/
noncomputable def upFrom (a : Int) : Nat → List V
  | 0 => []
  | n + 1 => .int a :: upFrom (a + 1) n
theorem upFrom_length (n : Nat) : ∀ a : Int, (upFrom a n).length = n := by
  induction n with
  | zero => intro a; rfl
  | succ n ih => intro a; rw [upFrom, List.length_cons, ih]
theorem upFrom_get (n : Nat) : ∀ (a : Int) (i : Nat), i < n → (upFrom a n)[i]? = some (.int (a + i)) := by
  induction n with
  | zero => intro a i h; omega
  | succ n ih =>
    intro a i h
    cases i with
    | zero => simp [upFrom]
    | succ i => rw [upFrom, List.getElem?_cons_succ, ih _ _ (by omega)]; congr 2; push_cast; omega
theorem IterS.rng {n : Nat} {a b : Int} (h1 : -(2 ^ 60) ≤ a) (h4 : a ≤ 2 ^ 60) (h5 : -(2 ^ 60) ≤ b) (h2 : b ≤ 2 ^ 60) : IterS C n (.rng a b) Λ (upFrom a (b - a).toNat) := by
  intro A E g s v R hA o va k
  cases va with
  | @rng r _ _ t u w hg =>
    have hs := o.gin _ _ hg
    have hn : Builtin.Range.rangeSize a b 1 = ((b - a).toNat : Int) := by
      unfold Builtin.Range.rangeSize
      simp only [show (1 : Int) > 0 from by decide, if_true, Int.ediv_one]
      split <;> omega
    have hsm : Builtin.Range.small a b 1 = true := by
      unfold Builtin.Range.small
      rw [hn]
      simp only [Builtin.Range.rangeFitsLong, show (1 : Int) > 0 from by decide, if_true, Bool.and_eq_true, Bool.or_eq_true, decide_eq_true_eq, beq_iff_eq]
      refine ⟨⟨⟨⟨⟨by omega, by omega⟩, ?_⟩, ⟨by omega, by omega⟩⟩, ⟨by omega, by omega⟩⟩, ?_⟩
      · constructor <;> omega
      · exact .inr (by constructor <;> omega)
    have W := Walks.range (prog := C.prog) (w := C.w) hA.hh s.heap.objs.size a 1 (b - a).toNat
    replace W := W.bound
    have hl := upFrom_length (b - a).toNat a
    rw [← hl] at W
    refine wpAny_pyIter_range hs hsm (k s.heap.objs.size _ _ _ _ W ?_ (get_fresh _ (Nat.le_refl _)) (fun b ob e => Heap.get?_push_of_some _ e) ?_ ?_ ?_)
    · have : IsRangeIter (s.heap.push { cls := .type "range_iterator", data := .fields #[rawInt a, rawInt (Builtin.Range.rangeSize a b 1), rawInt 1] }) s.heap.objs.size (a + ((0 : Nat) : Int) * 1) (((b - a).toNat : Int) - ((0 : Nat) : Int)) 1 := by
        rw [hn]; simpa using get_push s.heap _
      rw [hl]; exact this
    · intro b hb
      simp at hb
      exact .inl hb
    · rintro i v' ⟨hi, tk, rfl⟩
      rw [hl] at hi
      exact ⟨_, upFrom_get _ _ _ hi, by rw [Int.mul_one]; exact .int _ _⟩
    · rintro i h e
      exact ⟨_, _, e, rfl⟩
theorem VKs.keys {prog : Program} {w : World} {g : FV} {its : List (Int × Value)} {kvs : List (Int × V)} (h : VKs prog w g its kvs) : its.map (·.1) = kvs.map (·.1) := by
  induction its generalizing kvs with
  | nil => cases h; rfl
  | cons p its ih => cases h with | cons h1 h2 => simp only [List.map_cons, ih h2]
theorem VKs.length {prog : Program} {w : World} {g : FV} {its : List (Int × Value)} {kvs : List (Int × V)} (h : VKs prog w g its kvs) : its.length = kvs.length := by
  have := congrArg List.length h.keys; simpa using this
theorem VKs.get {prog : Program} {w : World} {g : FV} {its : List (Int × Value)} {kvs : List (Int × V)} (h : VKs prog w g its kvs) : ∀ {i : Nat} {k : Int} {v : Value}, its[i]? = some (k, v) → ∃ a, kvs[i]? = some (k, a) ∧ VR prog w g v a := by
  induction its generalizing kvs with
  | nil => intro i k v e; simp at e
  | cons p its ih =>
    cases h with
    | cons h1 h2 =>
      intro i k v e
      cases i with
      | zero => simp at e; obtain ⟨rfl, rfl⟩ := e; exact ⟨_, rfl, h1⟩
      | succ i => exact ih h2 (by simpa using e)
theorem DctO.at {prog : Program} {w : World} {o : Obj} {its : List (Int × Value)} (h : DctO prog w o its) {hp : Heap} {a : Addr} (e : hp.get? a = some o) : ∃ ep, hp.DictAt (intKind prog w) a its ep := by
  obtain ⟨es, ep, h1, h2, h3, h4, h5⟩ := h; exact ⟨ep, o, es, e, h1, h2, h3, h4, h5⟩
theorem DctO.of {prog : Program} {w : World} {o : Obj} {its : List (Int × Value)} (h : DctO prog w o its) {hp : Heap} {a : Addr} (e : hp.get? a = some o) : hp.DictOf (intKind prog w) a its := by
  obtain ⟨es, ep, h1, h2, h3, h4, h5⟩ := h; exact ⟨o, es, ep, e, h1, h2, h3, h4, h5⟩

theorem IterS.dct {n : Nat} {kvs : List (Int × V)} : IterS C n (.dct kvs) Λ (kvs.map fun p => .int p.1) := by
  intro A E g s v R hA o va k
  cases va with
  | @dct a ob its _ hne hg hl hv =>
    have hs := o.gin _ _ hg
    obtain ⟨ep, hD⟩ := hl.at hs
    have nI : a ≠ s.heap.objs.size := Nat.ne_of_lt (Heap.lt_size hs)
    have W := Walks.dictKeys (knd := intKind C.prog C.w) hA.hh s.heap.objs.size a nI its ep
    rw [show its.length = (kvs.map fun p => V.int p.1).length by rw [List.length_map, hv.length]] at W
    refine wpAny_pyIter_dict hne hD (k s.heap.objs.size _ _ _ _ W ⟨?_, ?_⟩ (get_fresh _ (Nat.le_refl _)) (fun b ob e => Heap.get?_push_of_some _ e) ?_ ?_ ?_)
    · rw [List.length_map, ← hv.length]; exact ⟨_, get_push _ _, rfl, rfl⟩
    · exact Heap.DictAt.at' hD fun ob e => Heap.get?_push_of_some _ e
    · intro b hb
      simp at hb
      rcases hb with rfl | rfl
      · exact .inl rfl
      · exact .inr ⟨_, hg⟩
    · rintro i v' ⟨q, x, e, hk⟩
      obtain ⟨a', e', _⟩ := hv.get e
      obtain ⟨t, rfl⟩ := Value.isInt_shape hk
      exact ⟨_, by simp [e'], .int _ _⟩
    · rintro i h ⟨⟨oi, e, _, d⟩, _⟩
      exact ⟨oi, _, e, d⟩
end Mine
end
section
namespace Mine
variable {K : Params → Frag} {C : Gd K} {B : Bd C} {ρ : Loc} {Λ : Led}

/-- objects of the machine's own have changed -/
theorem offs_ok {g : FV} {s : Shared} {env : Env} {wr : List Addr} {h' : Heap} {t : Nat} (o : Ok C g Λ s) (F : Frm C env ρ g Λ s) (hw : ∀ b ∈ wr, g b = none ∧ Λ b = none ∧ env.locals ≠ b ∧ ∀ x c, env.cells.lookup x = some c → c ≠ b)
    (k : ∀ b ob, b ∉ wr → s.heap.get? b = some ob → h'.get? b = some ob) : Ok C g Λ (mv s h' t) ∧ Frm C env ρ g Λ (mv s h' t) := by
  have gk : ∀ b ob, g b = some ob → b ∉ wr := fun b ob e hb => by rw [(hw b hb).1] at e; cases e
  have lk : ∀ b ob, Λ b = some ob → b ∉ wr := fun b ob e hb => by rw [(hw b hb).2.1] at e; cases e
  refine ⟨⟨fun b ob e => k b ob (gk b ob e) (o.gin b ob e), o.low, fun b ob e => ⟨(o.led b ob e).1, (o.led b ob e).2.keeps (fun _ _ e => e) fun c hc => k _ _ (lk _ _ e) hc⟩, o.rest⟩, ?_⟩
  obtain ⟨m, hn, hv⟩ := F.ns
  refine ⟨F.kind, F.glob, F.blt, F.out, fun x c e => ?_, F.inj, m, Kept.ns hn fun ob e => .inl (k _ _ (fun hb => (hw _ hb).2.2.1 rfl) e), fun x a e => ?_⟩
  · obtain ⟨ob, v, h1, h2, h3, h4⟩ := F.cel x c e
    exact ⟨ob, v, k _ _ (fun hb => (hw _ hb).2.2.2 x c e rfl) h1, h2, h3, h4⟩
  · rcases hv x a e with h1 | ⟨h1, c, ob, v, h2, h3, h4⟩
    · exact .inl h1
    · exact .inr ⟨h1, c, ob, v, h2, k _ _ (fun hb => (hw _ hb).2.2.2 x c h2 rfl) h3, h4⟩
theorem offs_step {g₀ g : FV} {Λ₀ : Led} {s₀ s : Shared} {env : Env} {wr : List Addr} {h' : Heap} {t : Nat} (x : StepF env g₀ Λ₀ s₀ g Λ s) (n : ∀ b ∈ wr, s₀.heap.get? b = none) (k : ∀ b ob, b ∉ wr → s.heap.get? b = some ob → h'.get? b = some ob) : StepF env g₀ Λ₀ s₀ g Λ (mv s h' t) :=
  ⟨x.gle, fun b ob hb hl ho => by
    obtain ⟨k1, k2, k3⟩ := x.keep b ob hb hl ho
    have q : b ∉ wr := fun hw => by rw [n b hw] at hb; cases hb
    exact ⟨k1.trans fun o' e => .inl (k b o' q e), k2, k3⟩, fun b hb => by
    obtain ⟨ob, hs⟩ := Option.ne_none_iff_exists'.mp (x.live b hb)
    show h'.get? b ≠ none
    rw [k b ob (fun hw => hb (n b hw)) hs]; exact Option.some_ne_none _, x.gens, x.drawn, x.os⟩

/-- a walk over pairs -/
structure WT (prog : Program) (w : World) (A : Around) (I : Addr) (fp wr : List Addr) (n : Nat) (Pt : Nat → Array Value → Prop) (St : Nat → Heap → Prop) (Mid : Nat → Addr → Heap → Prop) : Prop where
  frame : ∀ i h h', St i h → (∀ b ∈ fp, ∀ o, h.get? b = some o → h'.get? b = some o) → St i h'
  item : ∀ i (s : Shared) (Q : Option Value → Shared → Prop) (E : Value → Shared → Prop), i < n → St i s.heap →
    (∀ T vals h' tk, Pt i vals → s.heap.objs.size ≤ T → h'.IsTuple T vals → Mid i T h' → (∀ b o, b ∉ wr → s.heap.get? b = some o → h'.get? b = some o) → Q (some (.ref T)) { s with heap := h', toks := tk }) →
    wpAny (model prog w) A (pyNext (.ref I)) Q E s
  go : ∀ (elts : List Expr) (k : Nat) (pos : Pos) i T (s : Shared) (Q : Unit → Shared → Prop) (E : Value → Shared → Prop), Mid i T s.heap →
    (∀ h', St (i + 1) h' → (∀ b o, b ∉ wr → s.heap.get? b = some o → h'.get? b = some o) → Q () { s with heap := h' }) →
    wpAny (model prog w) A (letOwnedTupleGo (.Tuple elts k pos) (.ref I) (.ref T)) Q E s
  apart : ∀ i T h, Mid i T h → T ∉ wr
  done : ∀ (s : Shared) (Q : Option Value → Shared → Prop) (E : Value → Shared → Prop), St n s.heap →
    (∀ h' tk, (∀ b o, b ∉ wr → s.heap.get? b = some o → h'.get? b = some o) → Q none { s with heap := h', toks := tk }) → wpAny (model prog w) A (pyNext (.ref I)) Q E s
theorem WT.of {prog : Program} {w : World} {A : Around} {I : Addr} {fp wr : List Addr} {n : Nat} {Pt : Nat → Array Value → Prop} {St : Nat → Heap → Prop} {Mid : Nat → Addr → Heap → Prop} (W : WalksT prog w A I fp wr n Pt St Mid) : WT prog w A I fp wr n Pt St Mid :=
  ⟨W.frame, W.item, W.go, W.apart, W.done⟩

inductive I2At (C : Gd K) (A : Around) (g : FV) (Λ : Led) (s : Shared) (Q : List (V × V) → Led → Prop) (it : Value) (s₂ : Shared) : Prop
  | mk (g₂ : FV) (Λ₂ : Led) (I : Addr) (fp wr : List Addr) (Pt : Nat → Array Value → Prop) (St : Nat → Heap → Prop) (Mid : Nat → Addr → Heap → Prop) (xs : List (V × V)) (e : it = .ref I) (W : WT C.prog C.w A I fp wr xs.length Pt St Mid) (st : St 0 s₂.heap) (o : Ok C g₂ Λ₂ s₂) (x : Step g Λ s g₂ Λ₂ s₂)
      (hw : ∀ b ∈ wr, s.heap.get? b = none ∧ g₂ b = none ∧ Λ₂ b = none) (hf : ∀ b ∈ fp, b ∈ wr ∨ ∃ o, g₂ b = some o)
      (hp : ∀ i vals, Pt i vals → ∃ v0 v1 x0 x1, vals = #[v0, v1] ∧ xs[i]? = some (x0, x1) ∧ VR C.prog C.w g₂ v0 x0 ∧ VR C.prog C.w g₂ v1 x1)
      (hl : ∀ i h, St i h → ∀ b ∈ wr, ∃ o vs, h.get? b = some o ∧ o.data = .fields vs) (q : Q xs Λ₂) : I2At C A g Λ s Q it s₂
/-- the source of a loop over pairs -/
noncomputable def EvI2 (B : Bd C) (ρ : Loc) (iter : Expr) (Λ : Led) (Q : List (V × V) → Led → Prop) : Prop :=
  ∀ g s, Ok C g Λ s → Frm C B.env ρ g Λ s → wpAny (model C.prog C.w) B.A (eval iter B.env) (fun v s₁ => wpAny (model C.prog C.w) B.A (pyIter v) (I2At C B.A g Λ s Q) B.E s₁) B.E s

inductive For2Turn {ι : Type} (P : List (V × V) → ι → Prop) (ρI : List (V × V) → ι → Loc) (ΛI : List (V × V) → ι → Led) (xs : List (V × V)) (ρ' : Loc) (Λ' : Led) : Prop
  | mk (j : ι) (h : P xs j) (s : Sub (ρI xs j) ρ') (l : Led.le (ΛI xs j) Λ') : For2Turn P ρI ΛI xs ρ' Λ'
noncomputable def For2End {ι : Type} (P : List (V × V) → ι → Prop) (ρI : List (V × V) → ι → Loc) (ΛI : List (V × V) → ι → Led) (xs : List (V × V)) (B : Bd C) (rest : List Stmt) (Q : Fl → Loc → Led → Prop) : Fl → Loc → Led → Prop := fun fl ρ' Λ' => match fl with
  | .next => For2Turn P ρI ΛI xs ρ' Λ'
  | .cont => For2Turn P ρI ΛI xs ρ' Λ'
  | .brk => Ex B rest ρ' Λ' Q
  | .ret a => Q (.ret a) ρ' Λ'

inductive QFor2 {ι : Type} (P : List (V × V) → ι → Prop) (ρI : List (V × V) → ι → Loc) (ΛI : List (V × V) → ι → Led) (ρ : Loc) (xs : List (V × V)) (Λ : Led) : Prop
  | mk (i : ι) (h : P xs i) (s : Sub (ρI xs i) ρ) (l : Led.le (ΛI xs i) Λ) : QFor2 P ρI ΛI ρ xs Λ
inductive For2I {ι : Type} (P : List (V × V) → ι → Prop) (ρI : List (V × V) → ι → Loc) (ΛI : List (V × V) → ι → Led) (B : Bd C) (g : FV) (Λ : Led) (s : Shared) (g₁ : FV) (xs : List (V × V)) (St : Nat → Heap → Prop) (wr : List Addr) (n : Nat) (s' : Shared) : Prop
  | mk (k : Nat) (i : ι) (g' : FV) (hk : k ≤ xs.length) (e : n = xs.length + 1 - k) (st : St k s'.heap) (h : P (xs.drop k) i) (o : Ok C g' (ΛI (xs.drop k) i) s') (F : Frm C B.env (ρI (xs.drop k) i) g' (ΛI (xs.drop k) i) s')
      (x : StepF B.env g Λ s g' (ΛI (xs.drop k) i) s') (hw : ∀ b ∈ wr, g' b = none ∧ ΛI (xs.drop k) i b = none) (le : FV.le g₁ g') : For2I P ρI ΛI B g Λ s g₁ xs St wr n s'
theorem Ex.for2 {ι : Type} (P : List (V × V) → ι → Prop) (ρI : List (V × V) → ι → Loc) (ΛI : List (V × V) → ι → Led) {x0 x1 : PySem.Str} {p0 p1 pt : Pos} {kk : Nat} {iter : Expr} {body : List Stmt} {pos : Pos} {rest : List Stmt} {Q : Fl → Loc → Led → Prop}
    (h : EvI2 B ρ iter Λ (QFor2 P ρI ΛI ρ))
    (turn : ∀ y z ys i, P ((y, z) :: ys) i → Ex B body ((x1, z) :: (x0, y) :: ρI ((y, z) :: ys) i) (ΛI ((y, z) :: ys) i) (For2End P ρI ΛI ys B rest Q))
    (done : ∀ i, P [] i → Ex B rest (ρI [] i) (ΛI [] i) Q)
    (hx0 : CanStore B.env x0 := by exact canL rfl) (hx1 : CanStore B.env x1 := by exact canL rfl) (hs : ∀ v, foldedSetIterable iter B.env v = pure v := by intro _; rfl) :
    Ex B (.For (.Tuple [.Name x0 p0, .Name x1 p1] kk pt) iter body [] pos :: rest) ρ Λ Q := by
  refine Ex.cons fun g s o F => wpAny_For (wpAny_mono (h g s o F) (fun v s₁ h₁ => wpAny_mono h₁ (fun it s₂ h₂ => ?_) fun _ _ x => x) fun _ _ x => x) hs
  obtain ⟨g₁, Λ₁, I, fp, wr, Pt, St, Mid, xs, rfl, W, st, o₁, x₁, hwr, hfp, hP, hfl, i₀, hp, hsub, hle⟩ := h₂
  have F₁ := F.step x₁
  have nI : ∀ b ∈ wr, B.env.locals ≠ b ∧ (∀ x c, B.env.cells.lookup x = some c → c ≠ b) ∧ ¬ Own B.env b := fun b hb => F.notI (hwr b hb).1
  refine codeAny_forLoop_any (I := For2I P ρI ΛI B g Λ s g₁ xs St wr) ?_ (xs.length + 1)
    ⟨0, i₀, g₁, Nat.zero_le _, rfl, st, hp, o₁.forget hle, (F₁.sub hsub).forget hle, x₁.toF.forget hle, fun b hb => ⟨(hwr b hb).2.1, Led.none_of_le hle (hwr b hb).2.2⟩, fun _ _ e => e⟩
  rintro n s' ⟨k, i, g', hk, rfl, st', hp', o', F', x', hgl, gle⟩
  have hw : ∀ b ∈ wr, g' b = none ∧ ΛI (xs.drop k) i b = none ∧ B.env.locals ≠ b ∧ ∀ x c, B.env.cells.lookup x = some c → c ≠ b := fun b hb => ⟨(hgl b hb).1, (hgl b hb).2, (nI b hb).1, (nI b hb).2.1⟩
  have hn : ∀ b ∈ wr, s.heap.get? b = none := fun b hb => (hwr b hb).1
  by_cases hlt : k < xs.length
  · have hd : xs.drop k = xs[k] :: xs.drop (k + 1) := List.drop_eq_getElem_cons hlt
    refine W.item k s' _ _ hlt st' fun T vals h₁ tk₁ hPv hT hTt mid k₁ => ?_
    obtain ⟨v0, v1, y, z, rfl, hy, vy, vz⟩ := hP k vals hPv
    have ey : xs[k] = (y, z) := by rw [List.getElem?_eq_getElem hlt] at hy; exact Option.some.inj hy
    have nT := W.apart k T h₁ mid
    refine W.go _ _ _ k T _ _ _ mid fun h₂ st₂ k₂ => ?_
    have k₂' : ∀ b ob, b ∉ wr → s'.heap.get? b = some ob → h₂.get? b = some ob := fun b ob q e => k₂ b ob q (k₁ b ob q e)
    have hT₂ : h₂.IsTuple T #[v0, v1] := by obtain ⟨ot, e, r⟩ := hTt; exact ⟨ot, k₂ T ot nT e, r⟩
    refine wpAny_passesOwn B.hE (wpAny_assign_Tuple B.hA.hh hT₂ rfl rfl fun h₃ k₃ => ?_)
    have szT : h₂.objs.size ≤ h₂.objs.size := Nat.le_refl _
    have k₃' : ∀ b ob, b ∉ wr → s'.heap.get? b = some ob → h₃.get? b = some ob := fun b ob q e => by
      have e2 := k₂' b ob q e
      exact k₃ b ob (Nat.ne_of_lt (Heap.lt_size e2)) e2
    have k₂₃ : ∀ b ob, h₂.get? b = some ob → h₃.get? b = some ob := fun b ob e => k₃ b ob (Nat.ne_of_lt (Heap.lt_size e)) e
    obtain ⟨oa, Fa⟩ := offs_ok (t := tk₁) o' F' hw k₃'
    have xa := offs_step (t := tk₁) x' hn k₃'
    have sta : St (k + 1) h₃ := W.frame _ _ _ st₂ fun b _ ob e => k₂₃ b ob e
    rw [hd, ey] at hp' oa Fa xa
    have hgl' : ∀ b ∈ wr, g' b = none ∧ ΛI ((y, z) :: xs.drop (k + 1)) i b = none := fun b hb => by have := hgl b hb; rwa [hd, ey] at this
    show wpAny _ _ (do holding [v1] (PySem.assign (.Name x0 p0) B.env v0); do holding [] (PySem.assign (.Name x1 p1) B.env v1); pure ()) _ _ _
    refine wpAny_bind (wpAny_holding (wpAny_assign_Name (store_wp oa Fa (vy.mono gle) hx0 fun s₃ ob Fb xb => ?_)))
    refine wpAny_bind (wpAny_holding (wpAny_assign_Name (store_wp ob Fb (vz.mono gle) hx1 fun s₄ oc Fc xc => ?_)))
    refine wpAny_pure (wpAny_passesOwn B.hE (wpAny_mono (turn y z _ i hp' g' s₄ oc Fc) (fun f s₅ hh => ?_) fun _ _ x => x))
    obtain ⟨g₅, Λ₅, ρ₅, fl, o₅, F₅, x₅, hf, q⟩ := hh
    have xd := (xb.trans xc).trans x₅
    have ki : ∀ b ∈ wr, ∀ ob, h₃.get? b = some ob → s₅.heap.get? b = some ob ∧ g₅ b = none ∧ Λ₅ b = none := fun b hb ob e => by
      obtain ⟨oI, vsI, eI, dI⟩ := hfl (k + 1) h₃ sta b hb
      rw [e] at eI; cases eI
      obtain ⟨kI, lI, gI⟩ := xd.keep b ob e (hgl' b hb).2 (nI b hb).2.2
      refine ⟨?_, gI.trans (hgl' b hb).1, lI⟩
      rcases kI with e | ⟨_, _, _, q, _⟩
      · exact e
      · rw [dI] at q; cases q
    have st₅ : St (k + 1) s₅.heap := W.frame _ _ _ sta fun b hb ob e => by
      rcases hfp b hb with hb | ⟨og, eg⟩
      · exact (ki b hb ob e).1
      · have e1 := oa.gin b og (gle _ _ eg)
        rw [e] at e1; cases e1
        exact o₅.gin b _ (xd.gle _ _ (gle _ _ eg))
    have again : For2Turn P ρI ΛI (xs.drop (k + 1)) ρ₅ Λ₅ → ∃ m, m < xs.length + 1 - k ∧ For2I P ρI ΛI B g Λ s g₁ xs St wr m s₅ := by
      rintro ⟨j, hj, k1, k2⟩
      refine ⟨xs.length + 1 - (k + 1), by omega, k + 1, j, g₅, hlt, rfl, st₅, hj, o₅.forget k2, (F₅.sub k1).forget k2, (xa.trans xd).forget k2, fun b hb => ?_, fun b ob e => xd.gle _ _ (gle _ _ e)⟩
      obtain ⟨oI, vsI, eI, dI⟩ := hfl (k + 1) h₃ sta b hb
      exact ⟨(ki b hb _ eI).2.1, Led.none_of_le k2 (ki b hb _ eI).2.2⟩
    cases hf with
    | next => exact again q
    | cont => exact again q
    | brk => exact ⟨g₅, Λ₅, ρ₅, .next, o₅, F₅, xa.trans xd, .next, q⟩
    | ret hv => exact ⟨g₅, Λ₅, ρ₅, .ret _, o₅, F₅, xa.trans xd, .ret hv, q⟩
  · have hin : k = xs.length := by omega
    subst hin
    refine W.done s' _ _ st' fun h₁ tk₁ k₁ => ?_
    obtain ⟨oa, Fa⟩ := offs_ok (t := tk₁) o' F' hw k₁
    have xa := offs_step (t := tk₁) x' hn k₁
    rw [List.drop_length] at hp' oa Fa xa
    refine wpAny_passesOwn B.hE (wpAny_execs_nil ⟨g', _, _, .next, oa, Fa, xa, .next, done i hp'⟩)
end Mine
end
section
namespace Mine
variable {K : Params → Frag} {C : Gd K} {B : Bd C} {ρ : Loc} {Λ : Led}

-- enumerate over a tuple
section
variable {prog : Program} {w : World} {A : Around} {E : Value → Shared → Prop} {s : Shared}
theorem nextOf_tuple_item {it t : Addr} {i : Nat} {items : Array Value} {x : Value} {Q : Value → Shared → Prop} (hit : s.heap.IsTupleIter it t i)
    (ht : s.heap.IsTuple t items) (hx : items[i]? = some x)
    (hQ : ∀ h', h'.IsTupleIter it t (i + 1) → Heap.SameBut it s.heap h' → Q x { s with heap := h' }) :
    wpAny (model prog w) A (Builtin.SmallTypes.nextOf (.ref it)) Q E s := by
  obtain ⟨o, ho, hc, hd⟩ := id hit
  obtain ⟨ot, hot, _, n, hdt⟩ := ht
  unfold Builtin.SmallTypes.nextOf
  refine wpAny_bind (wpAny_callSpecial?_slot (name := Str.ofString "__next__") hit.typeIs F.slot_tuple_iterator_next
    (wpAny_call_entry F.slot_tuple_iterator_next hit.typeIs F.entry_tuple_iterator_next ?_ (F.args_tuple_iterator_next_1 _)))
  show wpAny _ _ (field (.ref it) 0 >>= _) _ _ s
  refine wpAny_bind (wpAny_field ho hd (x := .ref t) rfl ?_)
  show wpAny _ _ (if (Value.ref t == Value.none) = true then _ else _) _ _ s
  rw [if_neg (show ¬ ((Value.ref t == Value.none) = true) from Bool.false_ne_true)]
  show wpAny _ _ (field (.ref it) 1 >>= _) _ _ s
  refine wpAny_bind (wpAny_field ho hd (x := .int i 0) rfl ?_)
  show wpAny _ _ (seqItems? (.ref t) >>= _) _ _ s
  refine wpAny_bind (wpAny_seqItems hot hdt ?_)
  simp only [Int.toNat_natCast, hx]
  refine wpAny_bind (wpAny_setField ho hd (by simp) (wpAny_pure ⟨x, rfl, wpAny_pure (hQ _ ?_ (Heap.SameBut.update ..))⟩))
  exact ⟨_, Heap.get?_update_self _ ho (Obj.isFreed_of_fields (Obj.data_mapFields hd _)), (Obj.cls_mapFields ..).trans hc, by
    rw [Obj.data_mapFields hd]; simp [rawInt]⟩
theorem nextOf_tuple_end {it t : Addr} {i : Nat} {items : Array Value} {Q : Value → Shared → Prop} (hh : A.handled = none) (hit : s.heap.IsTupleIter it t i) (ht : s.heap.IsTuple t items) (hx : items[i]? = none)
    (hE : ∀ h' e, Heap.ExtBut it s.heap h' → (∃ o, h'.get? e = some o ∧ o.cls = .type "StopIteration") → E (.ref e) { s with heap := h' }) :
    wpAny (model prog w) A (Builtin.SmallTypes.nextOf (.ref it)) Q E s := by
  obtain ⟨o, ho, hc, hd⟩ := id hit
  obtain ⟨ot, hot, _, n, hdt⟩ := ht
  unfold Builtin.SmallTypes.nextOf
  refine wpAny_bind (wpAny_callSpecial?_slot (name := Str.ofString "__next__") hit.typeIs F.slot_tuple_iterator_next
    (wpAny_call_entry F.slot_tuple_iterator_next hit.typeIs F.entry_tuple_iterator_next ?_ (F.args_tuple_iterator_next_1 _)))
  show wpAny _ _ (field (.ref it) 0 >>= _) _ _ s
  refine wpAny_bind (wpAny_field ho hd (x := .ref t) rfl ?_)
  show wpAny _ _ (if (Value.ref t == Value.none) = true then _ else _) _ _ s
  rw [if_neg (show ¬ ((Value.ref t == Value.none) = true) from Bool.false_ne_true)]
  show wpAny _ _ (field (.ref it) 1 >>= _) _ _ s
  refine wpAny_bind (wpAny_field ho hd (x := .int i 0) rfl ?_)
  show wpAny _ _ (seqItems? (.ref t) >>= _) _ _ s
  refine wpAny_bind (wpAny_seqItems hot hdt ?_)
  simp only [Int.toNat_natCast, hx]
  refine wpAny_bind (wpAny_rule (wpAny_bind (wpAny_setField ho hd (by simp) ?_)))
  show wpAny _ _ (newExc (.type "StopIteration") [] >>= _) _ _ _
  refine wpAny_bind ?_
  simp only [newExc, newTuple]
  refine wpAny_bind (wpAny_newObj_type ?_ (by size_fits))
  refine wpAny_bind (m := firstArgMember _ _) (wpAny_of_eq (a := Value.none) (by first | rfl | (simp only [firstArgMember]; rfl)) ?_)
  refine wpAny_newObj_type ?_ (by size_fits)
  simp only [raiseNew]
  refine wpAny_bind (wpAny_handled ?_)
  first | rw [show A.in1.handled = none from hh] | rw [hh]
  refine wpAny_bind (wpAny_pure (wpAny_throw ?_))
  exact hE _ _ (((Heap.SameBut.update ..).extBut.push _).push _) ⟨_, Heap.get?_push_size _ rfl, rfl⟩
end
theorem Draws.tuple {prog : Program} {w : World} {A : Around} (hh : A.handled = none) (it l : Addr) (hne : l ≠ it) (items : Array Value) :
    Draws prog w A it [it, l] items.size (fun i v => items[i]? = some v) (fun i h => h.IsTupleIter it l i ∧ h.IsTuple l items) where
  live := fun _ _ st => let ⟨o, ho, _⟩ := st.1; ⟨o, ho⟩
  frame := fun _ _ _ st hk => ⟨st.1.at fun o e => hk it (by simp) o e, st.2.at fun o e => hk l (by simp) o e⟩
  item := fun i s Q E hi st hQ => by
    refine nextOf_tuple_item st.1 st.2 (x := items[i]) (by simp [hi]) fun h' hit' hs' => ?_
    exact hQ _ h' s.toks (by simp [hi]) ⟨hit', st.2.extBut hs'.extBut hne⟩ hs'
  done := fun s Q E st hE => nextOf_tuple_end hh st.1 st.2 (by simp) hE

open AutoSeq1 (wpAny_loadPart') in
theorem meets_enumerate_tuple (l : Addr) (items : Array Value) (n : Nat) :
    Meets (Builtin.«enumerate.__new__» ⟨[.type "enumerate", .ref l], []⟩) (fun _ R s => s.heap.get? l = some { cls := .type "tuple", dict := none, data := .seq items n, slots := #[] } ∧
      R (.ok (.ret (.ref (s.heap.push { cls := .type "tuple_iterator", data := .fields #[.ref l, .int 0 0] }).objs.size)))
        { s with heap := (s.heap.push { cls := .type "tuple_iterator", data := .fields #[.ref l, .int 0 0] }).push { cls := .type "enumerate", data := .fields #[.none, .bool false, .ref s.heap.objs.size, rawInt 0, .none, .none] } }) :=
  .of_wp fun prog w A R s h => by
    obtain ⟨hp, g, d, tk, os⟩ := s; obtain ⟨hl, h⟩ := h
    have hsub := sub_enumerate
    have hL : Heap.IsTuple (Shared.heap ⟨hp, g, d, tk, os⟩) l items := ⟨_, hl, rfl, n, rfl⟩
    wp_walk using wpAny_loadPart' hl
    refine wpAny_stack_any fun st => wpAny_pure ?_
    split
    · rename_i c _ _ _ _ _
      cases (c == Value.type "enumerate")
      · wp_walk using wpAny_loadPart' hl, wpAny_pyIter_tuple hL
        exact ⟨_, rfl, h⟩
      · wp_walk using wpAny_loadPart' hl, wpAny_pyIter_tuple hL
        exact ⟨_, rfl, h⟩
    · wp_walk using wpAny_loadPart' hl, wpAny_pyIter_tuple hL
      exact ⟨_, rfl, h⟩
section
variable {prog : Program} {w : World} {A : Around} {E : Value → Shared → Prop} {s : Shared}
theorem call_enumerate_tuple {l : Addr} {items : Array Value} {n : Nat} {Q : Value → Shared → Prop}
    (hl : s.heap.get? l = some { cls := .type "tuple", dict := none, data := .seq items n, slots := #[] })
    (h : ∀ h', IsEnum h' (s.heap.objs.size + 1) s.heap.objs.size 0 .none → h'.IsTupleIter s.heap.objs.size l 0 → h'.objs.size = s.heap.objs.size + 2 →
      (∀ b o, s.heap.get? b = some o → h'.get? b = some o) → Q (.ref (s.heap.objs.size + 1)) { s with heap := h' }) :
    wpAny (model prog w) A (call (.type "enumerate") [.ref l]) Q E s := by
  refine callType_new F.called_enumerate (by decide) (F.typeCall_enumerate_1 _) (F.newCall_enumerate_1 _) (fun obj => F.args_object_init_2 obj _) F.entry_enumerate_new
    (meets_enumerate_tuple l items n) ⟨hl, ?_⟩
  have hz : (s.heap.push { cls := .type "tuple_iterator", data := .fields #[.ref l, .int 0 0] }).objs.size = s.heap.objs.size + 1 := Heap.size_push ..
  show _ ∧ _
  rw [hz]
  have he : IsEnum ((s.heap.push { cls := .type "tuple_iterator", data := .fields #[.ref l, .int 0 0] }).push
      { cls := .type "enumerate", data := .fields #[.none, .bool false, .ref s.heap.objs.size, rawInt 0, .none, .none] }) (s.heap.objs.size + 1) s.heap.objs.size 0 .none := by
    have := Heap.get?_push_size (s.heap.push { cls := .type "tuple_iterator", data := .fields #[.ref l, .int 0 0] })
      (o := { cls := .type "enumerate", data := .fields #[.none, .bool false, .ref s.heap.objs.size, rawInt 0, .none, .none] }) rfl
    rw [hz] at this; exact this
  refine ⟨⟨_, he, rfl⟩, h _ he ⟨_, Heap.get?_push_of_some _ (Heap.get?_push_size _ rfl), rfl, rfl⟩ (by rw [Heap.size_push, hz]) fun b o x => Heap.get?_push_of_some _ (Heap.get?_push_of_some _ x)⟩
end

/-- 0, a; 1, b; .. -/
noncomputable def numbered : Int → List V → List (V × V)
  | _, [] => []
  | i, a :: r => (.int i, a) :: numbered (i + 1) r
theorem numbered_length (l : List V) : ∀ i : Int, (numbered i l).length = l.length := by
  induction l with
  | nil => intro i; rfl
  | cons a r ih => intro i; rw [numbered, List.length_cons, List.length_cons, ih]
theorem numbered_get (l : List V) : ∀ (i : Int) (k : Nat) (a : V), l[k]? = some a → (numbered i l)[k]? = some (.int (i + k), a) := by
  induction l with
  | nil => intro i k a h; simp at h
  | cons b r ih =>
    intro i k a h
    cases k with
    | zero => simp at h; subst h; simp [numbered]
    | succ k => rw [numbered, List.getElem?_cons_succ, ih _ _ _ (by simpa using h)]; congr 3; push_cast; omega

theorem pyIter_enum {A : Around} {E : Value → Shared → Prop} {s : Shared} {e it : Addr} {i : Int} {old : Value} {Q : Value → Shared → Prop} (he : IsEnum s.heap e it i old) (h : Q (.ref e) s) : wpAny (model C.prog C.w) A (pyIter (.ref e)) Q E s := wpAny_pyIter_enum he h


/-- the common end of a walk over an enumerate -/
theorem enum_end {g₂ : FV} {Λ₂ : Led} {s s₂ : Shared} {Q : List (V × V) → Led → Prop} {l : Addr} {ob : Obj} {its : List Value} {xs : List V} {g : FV} {St : Nat → Heap → Prop} {h' : Heap} {A : Around}
    (o₂ : Ok C g₂ Λ₂ s₂) (x₁₂ : Step g Λ s g₂ Λ₂ s₂) (hg : g₂ l = some ob) (hv : VRs C.prog C.w g₂ its xs) (nl : l ≠ s₂.heap.objs.size)
    (D : Draws C.prog C.w A.in1 s₂.heap.objs.size [s₂.heap.objs.size, l] its.toArray.size (fun i v => its.toArray[i]? = some v) St)
    (hst : St 0 h') (hSt : ∀ i h, St i h → ∃ o vs, h.get? s₂.heap.objs.size = some o ∧ o.data = .fields vs)
    (hE : IsEnum h' (s₂.heap.objs.size + 1) s₂.heap.objs.size 0 .none) (kp : ∀ b o, s₂.heap.get? b = some o → h'.get? b = some o) (hq : Q (numbered 0 xs) Λ₂) :
    I2At C A g Λ s Q (.ref (s₂.heap.objs.size + 1)) (mv s₂ h' s₂.toks) := by
  have n1 : s₂.heap.objs.size + 1 ≠ s₂.heap.objs.size := Nat.succ_ne_self _
  have hs := o₂.gin _ _ hg
  have nl1 : s₂.heap.objs.size + 1 ∉ [s₂.heap.objs.size, l] := by
    simp only [List.mem_cons, List.not_mem_nil, or_false, not_or]
    exact ⟨n1, Nat.ne_of_gt (Nat.lt_succ_of_lt (Heap.lt_size hs))⟩
  have W := WT.of (WalksT.enumerateD D (s₂.heap.objs.size + 1) n1 nl1 (by simp))
  have ez : its.toArray.size = (numbered 0 xs).length := by rw [numbered_length, List.size_toArray, hv.length]
  rw [ez] at W
  have o₃ := o₂.grow (t := s₂.toks) kp
  have x₃ := x₁₂.trans (Step.grow g₂ Λ₂ s₂ (t := s₂.toks) kp)
  have fr : ∀ b, s₂.heap.get? b = none → s.heap.get? b = none ∧ g₂ b = none ∧ Λ₂ b = none := fun b e =>
    ⟨Classical.byContradiction fun h => x₁₂.live b h e, (o₂.fresh e).1, (o₂.fresh e).2⟩
  have fr0 := fr s₂.heap.objs.size (get_fresh s₂.heap (Nat.le_refl _))
  have fr1 := fr (s₂.heap.objs.size + 1) (get_fresh s₂.heap (Nat.le_succ _))
  refine ⟨g₂, Λ₂, _, _, _, _, _, _, numbered 0 xs, rfl, W, ⟨⟨_, hE⟩, hst⟩, o₃, x₃, ?_, ?_, ?_, ?_, hq⟩
  · intro b hb
    simp at hb
    rcases hb with rfl | rfl
    · exact fr1
    · exact fr0
  · intro b hb
    simp at hb
    rcases hb with rfl | rfl | rfl
    · exact .inl (by simp)
    · exact .inl (by simp)
    · exact .inr ⟨_, hg⟩
  · rintro i vals ⟨t, x, hx, rfl⟩
    obtain ⟨a, ha, va⟩ := hv.get (i := i) (v := x) (by simpa using hx)
    exact ⟨_, _, _, _, rfl, numbered_get xs 0 i a ha, by rw [Int.zero_add]; exact .int _ _, va⟩
  · rintro i h ⟨⟨old, e1⟩, st⟩ b hb
    simp at hb
    rcases hb with rfl | rfl
    · exact ⟨_, _, e1, rfl⟩
    · exact hSt i h st

theorem EvI2.enum {id : PySem.Str} {p pos : Pos} {e : Expr} {Q : List (V × V) → Led → Prop} (hn : Ev B ρ (.Name id p) Λ fun a Λ₁ => a = .typ "enumerate" ∧ Ev B ρ e Λ₁ fun b Λ₂ => ∃ xs, (b = .lst xs ∨ b = .tup xs) ∧ Q (numbered 0 xs) Λ₂)
    (he : ∀ env, starEach [e] env = [(false, eval e env)] := by intro _; rfl) : EvI2 B ρ (.Call (.Name id p) [e] [] pos) Λ Q := fun g s o F => by
  refine wpAny_Call_Name_kw (wp_then (hn g s o F) fun v s₁ g₁ Λ₁ a o₁ x₁ va hh => ?_)
  obtain ⟨ea, h₁⟩ := hh
  subst ea
  apply va.onTyp
  refine callWith_of (P := fun _ => True) (by rw [he]; rfl) (fun h _ => ⟨.machine, .inr (.inl rfl), Looks.of_pure rfl⟩) (evalArgs_any (by rw [he]; rfl) ?_)
  rw [he]
  show wpAny _ _ (spliced [(false, eval e B.env)]) _ _ _
  refine spliced_cons (wp_then (h₁ g₁ s₁ o₁ (F.step x₁)) fun u s₂ g₂ Λ₂ b o₂ x₂ ub hh => ?_)
  obtain ⟨xs, hb, hq⟩ := hh
  refine spliced_nil ⟨trivial, ?_⟩
  have x₁₂ := x₁.trans x₂
  show wpAny _ _ (call (.type "enumerate") [u]) _ _ _
  rcases hb with rfl | rfl
  · apply ub.onLst; intro l ob its hg hl hv
    obtain ⟨m, rfl⟩ := hl
    have hs := o₂.gin _ _ hg
    have nl : l ≠ s₂.heap.objs.size := Nat.ne_of_lt (Heap.lt_size hs)
    refine call_enumerate_1 hs fun h' hE hI hz kp => wpAny_pyIter_enum hE ?_
    refine enum_end o₂ x₁₂ hg hv nl (Draws.list (prog := C.prog) (w := C.w) (A := B.A.in1) B.hA.hh s₂.heap.objs.size l nl its.toArray) ⟨hI, ?_⟩ ?_ hE kp hq
    · exact Heap.IsList.at (h := s₂.heap) ⟨_, hs, rfl, m, rfl⟩ fun ob e => kp _ _ e
    · rintro i h ⟨⟨oi, e2, _, d2⟩, _⟩; exact ⟨_, _, e2, d2⟩
  · apply ub.onTup; intro l ob its hg hl hv
    obtain ⟨m, rfl⟩ := hl
    have hs := o₂.gin _ _ hg
    have nl : l ≠ s₂.heap.objs.size := Nat.ne_of_lt (Heap.lt_size hs)
    refine call_enumerate_tuple hs fun h' hE hI hz kp => wpAny_pyIter_enum hE ?_
    refine enum_end o₂ x₁₂ hg hv nl (Draws.tuple (prog := C.prog) (w := C.w) (A := B.A.in1) B.hA.hh s₂.heap.objs.size l nl its.toArray) ⟨hI, ?_⟩ ?_ hE kp hq
    · exact Heap.IsTuple.at (h := s₂.heap) ⟨_, hs, rfl, m, rfl⟩ fun ob e => kp _ _ e
    · rintro i h ⟨⟨oi, e2, _, d2⟩, _⟩; exact ⟨_, _, e2, d2⟩

-- the items of a dict
theorem WT.items {A : Around} (hh : A.handled = none) (it d : Addr) (hne : d ≠ it) (kvs : List (Int × Value)) (ep : Nat) :
    WT C.prog C.w A it [it, d] [it] kvs.length (fun i vals => ∃ key k v, (intKind C.prog C.w).is k key = true ∧ kvs[i]? = some (k, v) ∧ vals = #[key, v])
      (fun i h => (∃ ok ov, IsItemIter h it d i kvs.length ep ok ov) ∧ h.DictAt (intKind C.prog C.w) d kvs ep)
      (fun i T h => (∃ ok ov, IsItemIterOut h it d (i + 1) kvs.length ep ok ov T) ∧ h.DictAt (intKind C.prog C.w) d kvs ep ∧ T ≠ it) where
  frame := fun i h h' ⟨⟨ok, ov, hi⟩, hd⟩ hk => ⟨⟨ok, ov, hk it (by simp) _ hi⟩, Heap.DictAt.at' hd fun o e => hk d (by simp) o e⟩
  item := fun i s Q E hi ⟨⟨ok, ov, hit⟩, hd⟩ hQ => by
    have hx : kvs[i]? = some (kvs[i].1, kvs[i].2) := by rw [List.getElem?_eq_getElem hi]
    refine wpAny_pyNext_items_item hit hd hx fun key h' hk ho hT hz kp => ?_
    refine hQ s.heap.objs.size #[key, kvs[i].2] h' s.toks ⟨key, _, _, hk, hx, rfl⟩ (Nat.le_refl _) ⟨_, hT, rfl, _, rfl⟩ ⟨⟨_, _, ho⟩, Heap.DictAt.at' hd fun o e => kp d o hne e, Nat.ne_of_gt (Heap.lt_size hit)⟩ fun b o hb e => kp b o (by simpa using hb) e
  go := fun elts k pos i T s Q E ⟨⟨ok, ov, ho⟩, hd, hne'⟩ hQ => by
    refine wpAny_letOwnedTupleGo_items ho fun h' hi hs => hQ h' ⟨⟨ok, ov, hi⟩, Heap.DictAt.at' hd fun o e => (hs.2 d hne).trans e⟩ fun b o hb e => (hs.2 b (by simpa using hb)).trans e
  apart := fun i T h hh hT => by obtain ⟨_, _, hne⟩ := hh; exact hne (by simpa using hT)
  done := fun s Q E ⟨⟨ok, ov, hit⟩, hd⟩ hQ => by
    refine wpAny_pyNext_items_end hh hit hd (by simp) fun h' hx => hQ h' s.toks fun b o hb e => hx b o (by simpa using hb) e

theorem EvI2.items {o : Expr} {apos pos : Pos} {Q : List (V × V) → Led → Prop} {pl : Sem Bool} (h : Ev B ρ o Λ fun a Λ₁ => ∃ kvs, a = .dct kvs ∧ Q (kvs.map fun p => (.int p.1, p.2)) Λ₁)
    (he : eval (.Call (.Attribute o "items" apos) [] [] pos) B.env = (do
      let ov ← eval o B.env
      standAt apos.atName
      let (f, first) ← holding [ov] (getMethod ov "items" pl)
      callWith pos f first (backTo pos (starEach [] B.env)) (backToKw pos (keywordEach [] B.env))) := by rfl) : EvI2 B ρ (.Call (.Attribute o "items" apos) [] [] pos) Λ Q := fun g s ok F => by
  refine methodCall_KW (pl := pl) (wp_then (h g s ok F) fun v s₁ g₁ Λ₁ a o₁ x₁ va hh => ?_) he
  obtain ⟨kvs, ea, hq⟩ := hh
  subst ea
  apply va.onDct; intro a ob its hne hg hl hv
  have hs := o₁.gin _ _ hg
  obtain ⟨ep, hD⟩ := hl.at hs
  have hT : s₁.TypeIs (.ref a) "dict" := by obtain ⟨od, es, e, hc, _⟩ := hD; exact ⟨od, e, hc.1⟩
  refine getMethod_builtin hT PySem.F.plainAttrs_dict PySem.F.slot_dict_items PySem.F.type_dict_items (fun b e => ?_) (callWith_method0 ?_)
  · cases e; obtain ⟨od, es, e, hc, _⟩ := hD; exact ⟨od, e, hc.2.1⟩
  refine call_meetsIn PySem.F.slot_dict_items hT PySem.F.entry_dict_items (PySem.F.args_dict_items_1 _) (meets_dict_items (intKind C.prog C.w) a hne) ⟨⟨its, hl.of hs⟩, ?_⟩
  have kp₁ : ∀ b ob, s₁.heap.get? b = some ob → (s₁.heap.push { cls := .type "dict_items", data := .fields #[.ref a] }).get? b = some ob := fun b ob e => Heap.get?_push_of_some _ e
  have hD₁ := Heap.DictAt.at' hD (kp₁ a)
  refine wpAny_pyIter_items (s := mv s₁ (s₁.heap.push { cls := .type "dict_items", data := .fields #[.ref a] }) s₁.toks) (v := s₁.heap.objs.size) ⟨_, get_push _ _, rfl, rfl⟩ hD₁ ?_
  have kp : ∀ b ob, s₁.heap.get? b = some ob → ((s₁.heap.push { cls := .type "dict_items", data := .fields #[.ref a] }).push { cls := .type "dict_itemiterator", data := .fields #[.none, .bool false, .ref a, .int 0 0, .int its.length 0, .int ep 0, .none, .none] }).get? b = some ob := fun b ob e => Heap.get?_push_of_some _ (kp₁ b ob e)
  have o₃ := o₁.grow (t := s₁.toks) kp
  have x₃ := x₁.trans (Step.grow g₁ Λ₁ s₁ (t := s₁.toks) kp)
  have sz : (s₁.heap.push { cls := .type "dict_items", data := .fields #[.ref a] }).objs.size = s₁.heap.objs.size + 1 := Heap.size_push ..
  have nI : a ≠ (s₁.heap.push { cls := .type "dict_items", data := .fields #[.ref a] }).objs.size := Nat.ne_of_lt (Heap.lt_size (kp₁ a _ hs))
  have fr : ∀ b, s₁.heap.get? b = none → s.heap.get? b = none ∧ g₁ b = none ∧ Λ₁ b = none := fun b e =>
    ⟨Classical.byContradiction fun h => x₁.live b h e, (o₁.fresh e).1, (o₁.fresh e).2⟩
  have W := WT.items (C := C) (A := B.A) B.hA.hh (s₁.heap.push { cls := .type "dict_items", data := .fields #[.ref a] }).objs.size a nI its ep
  have el : its.length = (kvs.map fun p => (V.int p.1, p.2)).length := by rw [List.length_map, hv.length]
  rw [el] at W
  refine ⟨g₁, Λ₁, _, _, _, _, _, _, _, rfl, W, ⟨⟨.none, .none, ?_⟩, Heap.DictAt.at' hD (kp a)⟩, o₃, x₃, ?_, ?_, ?_, ?_, hq⟩
  · rw [← el]; exact get_push _ _
  · intro b hb
    simp at hb
    subst hb
    exact fr _ (get_fresh _ (by first | exact Nat.le_succ _ | (rw [sz]; exact Nat.le_succ _)))
  · intro b hb
    simp at hb
    rcases hb with rfl | rfl
    · exact .inl (by simp)
    · exact .inr ⟨_, hg⟩
  · rintro i vals ⟨key, k, v, hk, hx, rfl⟩
    obtain ⟨x, hx', vx⟩ := hv.get hx
    obtain ⟨t, rfl⟩ := Value.isInt_shape hk
    exact ⟨_, _, _, _, rfl, by simp [hx'], .int _ _, vx⟩
  · rintro i h ⟨⟨ok, ov, e⟩, _⟩ b hb
    rw [List.mem_singleton.mp hb]
    exact ⟨_, _, e, rfl⟩
end Mine
end
section
namespace Mine
variable {K : Params → Frag} {C : Gd K} {B : Bd C} {ρ : Loc} {Λ : Led}

/-- stores, one behind the other -/
noncomputable def Stor (env : Env) (f : Value → Sem Unit) (x : PySem.Str) : Prop := ∀ (M : Model) (A : Around) (E : Value → Shared → Prop) (R : Unit → Shared → Prop) s v, wpAny M A (storeName env x v) R E s → wpAny M A (f v) R E s
theorem Stor.name {env : Env} {x : PySem.Str} {p : Pos} : Stor env (PySem.assign (.Name x p) env) x := fun M A E R s v h => wpAny_assign_Name h
theorem Stor.bind {env : Env} {x : PySem.Str} : Stor env (bindName env x) x := fun M A E R s v h => wpAny_bindName h
inductive Stors (env : Env) : List (Value → Sem Unit) → List PySem.Str → Prop
  | nil : Stors env [] []
  | cons {f fs x xs} : Stor env f x → CanStore env x → Stors env fs xs → Stors env (f :: fs) (x :: xs)
noncomputable def pushAll : List PySem.Str → List V → Loc → Loc
  | x :: xs, a :: as, ρ => pushAll xs as ((x, a) :: ρ)
  | _, _, ρ => ρ
theorem stores_wp {env : Env} {A : Around} {E : Value → Shared → Prop} {R : Unit → Shared → Prop} {g : FV} : ∀ {fs : List (Value → Sem Unit)} {xs : List PySem.Str} (hs : Stors env fs xs) {vs : List Value} {as : List V} {ρ : Loc} {s : Shared} (o : Ok C g Λ s) (F : Frm C env ρ g Λ s) (hv : VRs C.prog C.w g vs as)
    (k : ∀ s', Ok C g Λ s' → Frm C env (pushAll xs as ρ) g Λ s' → StepF env g Λ s g Λ s' → R () s'), wpAny (model C.prog C.w) A (assignInOrder fs vs) R E s := by
  intro fs xs hs
  induction hs with
  | nil => intro vs as ρ s o F hv k; exact wpAny_pure (k s o (by cases as <;> exact F) (.refl ..))
  | @cons f fs x xs h1 h2 h3 ih =>
    intro vs as ρ s o F hv k
    cases hv with
    | nil => exact wpAny_pure (k s o F (.refl ..))
    | @cons v a vs as va r =>
      show wpAny _ _ (holding vs (f v) >>= fun _ => assignInOrder fs vs) _ _ _
      refine wpAny_bind (wpAny_holding (h1 _ _ _ _ _ _ (store_wp o F va h2 fun s₁ o₁ F₁ x₁ => ?_)))
      exact ih o₁ F₁ r fun s₂ o₂ F₂ x₂ => k s₂ o₂ F₂ (x₁.trans x₂)

theorem VRs.rev {prog : Program} {w : World} {g : FV} {l : List Value} {m : List V} (h : VRs prog w g l m) : VRs prog w g l.reverse m.reverse := by
  induction m generalizing l with
  | nil => apply h.onNil; exact .nil
  | cons v m ih =>
    apply h.onCons
    intro u us hu r
    rw [List.reverse_cons, List.reverse_cons]; exact (ih r).append (.cons hu .nil)
theorem Ex.tups {xs : List PySem.Str} {elts : List Expr} {kk : Nat} {pt pos : Pos} {e : Expr} {rest : List Stmt} {Q : Fl → Loc → Led → Prop} (h : Ev B ρ e Λ fun a Λ₁ => ∃ as, a = .tup as ∧ as.length = xs.length ∧ Ex B rest (pushAll xs as ρ) Λ₁ Q)
    (hst : Stors B.env ((assignEach elts B.env).map (·.2)) xs) (hl : (assignEach elts B.env).length = xs.length) (hstar : (assignEach elts B.env).findIdx? (·.1) = none)
    (hs : swapsWithSole [.Tuple elts kk pt] e pos.line B.env = pure false) (hw : swappedStores [.Tuple elts kk pt] e B.env = pure none) : Ex B (.Assign [.Tuple elts kk pt] e pos :: rest) ρ Λ Q := fun g s o F => by
  refine wpAny_execs_cons (Assign_Tuple (wp_then (h g s o F) fun v s₁ g₁ Λ₁ a o₁ x₁ va hh => ?_) hs hw)
  obtain ⟨as, ea, hn, h₁⟩ := hh
  subst ea
  apply va.onTup; intro t ob its hg ht hv
  obtain ⟨m, rfl⟩ := ht
  have hT : s₁.heap.IsTuple t its.toArray := ⟨_, o₁.gin _ _ hg, rfl, m, rfl⟩
  refine wpAny_assign_Tuple B.hA.hh hT (by rw [hl, ← hn, List.size_toArray, hv.length]) hstar fun h' he => ?_
  have kp : ∀ b ob, s₁.heap.get? b = some ob → h'.get? b = some ob := fun b ob e => he b ob (Nat.ne_of_lt (Heap.lt_size e)) e
  have o₂ := o₁.grow (t := s₁.toks) kp
  have x₂ := Step.grow g₁ Λ₁ s₁ (t := s₁.toks) kp
  refine stores_wp hst o₂ (F.step (x₁.trans x₂)) (by simpa using hv) fun s₃ o₃ F₃ x₃ => ?_
  exact wpAny_mono (h₁ g₁ s₃ o₃ F₃) (fun _ _ => PostS.after ((x₁.trans x₂).toF.trans x₃)) fun _ _ x => x
theorem Ex.swaps {xs : List PySem.Str} {elts : List Expr} {kk : Nat} {pt pos : Pos} {e : Expr} {rest : List Stmt} {Q : Fl → Loc → Led → Prop} (h : Ev B ρ e Λ fun a Λ₁ => ∃ as, a = .tup as ∧ as.length = xs.length ∧ Ex B rest (pushAll xs.reverse as.reverse ρ) Λ₁ Q)
    (hst : Stors B.env (xs.reverse.map fun n => bindName B.env n) xs.reverse)
    (hs : swapsWithSole [.Tuple elts kk pt] e pos.line B.env = pure false) (hw : swappedStores [.Tuple elts kk pt] e B.env = pure (some xs)) : Ex B (.Assign [.Tuple elts kk pt] e pos :: rest) ρ Λ Q := fun g s o F => by
  refine wpAny_execs_cons (Assign_Tuple_swapped (wp_then (h g s o F) fun v s₁ g₁ Λ₁ a o₁ x₁ va hh => ?_) hs hw)
  obtain ⟨as, ea, hn, h₁⟩ := hh
  subst ea
  apply va.onTup; intro t ob its hg ht hv
  obtain ⟨m, rfl⟩ := ht
  have hT : IsTup s₁.heap t its.toArray := ⟨_, o₁.gin _ _ hg, rfl, m, rfl⟩
  rw [show xs.length = its.toArray.size by rw [← hn, List.size_toArray, hv.length]]
  refine unpackItems_tuple B.hA.hh hT fun h' he => ?_
  have kp : ∀ b ob, s₁.heap.get? b = some ob → h'.get? b = some ob := fun b ob e => he b ob (Nat.ne_of_lt (Heap.lt_size e)) e
  have o₂ := o₁.grow (t := s₁.toks) kp
  have x₂ := Step.grow g₁ Λ₁ s₁ (t := s₁.toks) kp
  refine stores_wp (as := as.reverse) hst o₂ (F.step (x₁.trans x₂)) ?_ fun s₃ o₃ F₃ x₃ => ?_
  · simpa using hv.rev
  · exact wpAny_mono (h₁ g₁ s₃ o₃ F₃) (fun _ _ => PostS.after ((x₁.trans x₂).toF.trans x₃)) fun _ _ x => x

theorem Ex.tup3 {x y z : PySem.Str} {p0 p1 p2 : Pos} {kk : Nat} {pt pos : Pos} {e : Expr} {rest : List Stmt} {Q : Fl → Loc → Led → Prop} (h : Ev B ρ e Λ fun a Λ₁ => ∃ a0 a1 a2, a = .tup [a0, a1, a2] ∧ Ex B rest ((z, a2) :: (y, a1) :: (x, a0) :: ρ) Λ₁ Q)
    (hx : CanStore B.env x := by exact canL rfl) (hy : CanStore B.env y := by exact canL rfl) (hz : CanStore B.env z := by exact canL rfl)
    (hs : swapsWithSole [.Tuple [.Name x p0, .Name y p1, .Name z p2] kk pt] e pos.line B.env = pure false := by rfl) (hw : swappedStores [.Tuple [.Name x p0, .Name y p1, .Name z p2] kk pt] e B.env = pure none := by rfl) :
    Ex B (.Assign [.Tuple [.Name x p0, .Name y p1, .Name z p2] kk pt] e pos :: rest) ρ Λ Q :=
  Ex.tups (xs := [x, y, z]) (h.mono fun a Λ₁ hh => by obtain ⟨a0, a1, a2, e, k⟩ := hh; exact ⟨_, e, rfl, k⟩) (.cons .name hx (.cons .name hy (.cons .name hz .nil))) rfl rfl hs hw
theorem Ex.tup4 {x y z u : PySem.Str} {p0 p1 p2 p3 : Pos} {kk : Nat} {pt pos : Pos} {e : Expr} {rest : List Stmt} {Q : Fl → Loc → Led → Prop} (h : Ev B ρ e Λ fun a Λ₁ => ∃ a0 a1 a2 a3, a = .tup [a0, a1, a2, a3] ∧ Ex B rest ((u, a3) :: (z, a2) :: (y, a1) :: (x, a0) :: ρ) Λ₁ Q)
    (hx : CanStore B.env x := by exact canL rfl) (hy : CanStore B.env y := by exact canL rfl) (hz : CanStore B.env z := by exact canL rfl) (hu : CanStore B.env u := by exact canL rfl)
    (hs : swapsWithSole [.Tuple [.Name x p0, .Name y p1, .Name z p2, .Name u p3] kk pt] e pos.line B.env = pure false := by rfl) (hw : swappedStores [.Tuple [.Name x p0, .Name y p1, .Name z p2, .Name u p3] kk pt] e B.env = pure none := by rfl) :
    Ex B (.Assign [.Tuple [.Name x p0, .Name y p1, .Name z p2, .Name u p3] kk pt] e pos :: rest) ρ Λ Q :=
  Ex.tups (xs := [x, y, z, u]) (h.mono fun a Λ₁ hh => by obtain ⟨a0, a1, a2, a3, e, k⟩ := hh; exact ⟨_, e, rfl, k⟩) (.cons .name hx (.cons .name hy (.cons .name hz (.cons .name hu .nil)))) rfl rfl hs hw
theorem Ex.swap2 {x y : PySem.Str} {p0 p1 : Pos} {kk : Nat} {pt pos : Pos} {e : Expr} {rest : List Stmt} {Q : Fl → Loc → Led → Prop} (h : Ev B ρ e Λ fun a Λ₁ => ∃ a0 a1, a = .tup [a0, a1] ∧ Ex B rest ((x, a0) :: (y, a1) :: ρ) Λ₁ Q)
    (hx : CanStore B.env x := by exact canL rfl) (hy : CanStore B.env y := by exact canL rfl)
    (hs : swapsWithSole [.Tuple [.Name x p0, .Name y p1] kk pt] e pos.line B.env = pure false := by rfl) (hw : swappedStores [.Tuple [.Name x p0, .Name y p1] kk pt] e B.env = pure (some [x, y]) := by rfl) :
    Ex B (.Assign [.Tuple [.Name x p0, .Name y p1] kk pt] e pos :: rest) ρ Λ Q :=
  Ex.swaps (xs := [x, y]) (h.mono fun a Λ₁ hh => by obtain ⟨a0, a1, e, k⟩ := hh; exact ⟨_, e, rfl, k⟩) (.cons .bind hy (.cons .bind hx .nil)) hs hw

-- attributes
noncomputable def putA (x : PySem.Str) (v : V) : List (PySem.Str × V) → List (PySem.Str × V)
  | [] => [(x, v)]
  | (y, u) :: r => if y == x then (y, v) :: r else (y, u) :: putA x v r
theorem putA_length (x : PySem.Str) (v : V) : ∀ fs, (putA x v fs).length ≤ fs.length + 1
  | [] => Nat.le_refl _
  | (y, u) :: r => by
    unfold putA
    split
    · exact Nat.le_succ _
    · exact Nat.succ_le_succ (putA_length x v r)
section
variable {prog : Program} {w : World} {g : FV}
theorem VAs.get {x : PySem.Str} : ∀ {es : List DictEntry} {fs : List (PySem.Str × V)}, VAs prog w g es fs → (∀ a, fs.lookup x = some a → ∃ v, getL x es = some (some v) ∧ VR prog w g v a) ∧ (fs.lookup x = none → getL x es = some none) := by
  intro es
  induction es with
  | nil => intro fs h; cases h; exact ⟨fun a e => (nomatch e), fun _ => rfl⟩
  | cons en vs ih0 =>
    intro fs hh
    cases hh with
    | @cons h y t v b _ as hv r =>
    have ih := ih0 r
    have hL : (Value.str y t).isStr x = (y == x) := rfl
    have refs : ∀ {es : List DictEntry} {fs : List (PySem.Str × V)}, VAs prog w g es fs → es.any (·.refKey) = false := by
      intro es fs h
      induction es generalizing fs with
      | nil => rfl
      | cons e es ih => cases h with | cons _ r => rw [List.any_cons, ih r]; rfl
    by_cases q : y = x
    · subst q
      refine ⟨fun a e => ?_, fun e => ?_⟩
      · simp at e; subst e
        exact ⟨v, by unfold getL; simp [hL], hv⟩
      · simp at e
    · have q1 : (y == x) = false := by simpa using q
      have q2 : (x == y) = false := by simpa using fun e : x = y => q e.symm
      have eg : getL x (⟨h, .str y t, v⟩ :: vs) = getL x vs := by
        unfold getL
        rw [List.find?_cons]
        simp only [hL, q1]
        cases List.find? (fun e => e.key.isStr x) vs with
        | some e => rfl
        | none => simp only [List.any_cons]; rfl
      rw [eg]
      simp only [List.lookup_cons, q2]
      exact ih
theorem VAs.put {x : PySem.Str} {hs : Int} {t : Tok} {v : Value} {a : V} (hv : VR prog w g v a) : ∀ {es : List DictEntry} {fs : List (PySem.Str × V)}, VAs prog w g es fs → VAs prog w g (putL x hs (.str x t) v es) (putA x a fs) := by
  intro es
  induction es with
  | nil => intro fs h; cases h; exact .cons hv .nil
  | cons en vs ih =>
    intro fs hh
    cases hh with
    | @cons h y u z b _ as hz r =>
    have hL : (Value.str y u).isStr x = (y == x) := rfl
    unfold putL putA
    simp only [hL]
    by_cases q : (y == x) = true
    · rw [if_pos q, if_pos q]; exact .cons hv r
    · rw [if_neg q, if_neg q]; exact .cons hz (ih r)
theorem VAs.length : ∀ {es : List DictEntry} {fs : List (PySem.Str × V)}, VAs prog w g es fs → es.length = fs.length := by
  intro es
  induction es with
  | nil => intro fs h; cases h; rfl
  | cons en vs ih => intro fs h; cases h with | cons _ r => exact congrArg Nat.succ (ih r)
end

noncomputable def SetAttrS (C : Gd K) (n : Nat) (a : V) (name : PySem.Str) (b : V) (Λ : Led) (Q : Led → Prop) : Prop :=
  ∀ A E g s v w, AOK A n → Ok C g Λ s → VR C.prog C.w g v a → VR C.prog C.w g w b → wpAny (model C.prog C.w) A (setAttr v name w) (PostU C g Λ s Q) E s
noncomputable def SetSubS (C : Gd K) (n : Nat) (a k b : V) (Λ : Led) (Q : Led → Prop) : Prop :=
  ∀ A E g s v kv w, AOK A n → Ok C g Λ s → VR C.prog C.w g v a → VR C.prog C.w g kv k → VR C.prog C.w g w b → wpAny (model C.prog C.w) A (setItem v kv w) (PostU C g Λ s Q) E s

section
variable (B : Bd C) (ρ : Loc)
noncomputable abbrev QSa2 (attr : PySem.Str) (rest : List Stmt) (Q : Fl → Loc → Led → Prop) (b a : V) (Λ : Led) : Prop := SetAttrS C B.n a attr b Λ (QLed B ρ rest Q)
noncomputable abbrev QSa (o : Expr) (attr : PySem.Str) (rest : List Stmt) (Q : Fl → Loc → Led → Prop) (b : V) (Λ : Led) : Prop := Ev B ρ o Λ (QSa2 B ρ attr rest Q b)
end
theorem Ex.setattr {o e : Expr} {attr : PySem.Str} {p pos : Pos} {rest : List Stmt} {Q : Fl → Loc → Led → Prop} (h : Ev B ρ e Λ (QSa B ρ o attr rest Q))
    (hs : swapsWith e (some (.Attribute o attr p)) pos.line B.env = pure false := by rfl) : Ex B (.Assign [.Attribute o attr p] e pos :: rest) ρ Λ Q := fun g s ok F => by
  refine wpAny_execs_cons (plainObj_wpAny_Assign_Attribute (wp_then (h g s ok F) fun v s₁ g₁ Λ₁ b o₁ x₁ vb h₁ => wp_then (h₁ g₁ s₁ o₁ (F.step x₁)) fun u s₂ g₂ Λ₂ a o₂ x₂ ua h₂ => ?_) hs)
  refine wpAny_mono (h₂ B.A B.E g₂ s₂ u v B.hA o₂ ua (vb.mono x₂.gle)) (fun _ s₃ hh => ?_) fun _ _ x => x
  obtain ⟨g₃, Λ₃, o₃, x₃, h₃⟩ := hh
  exact wpAny_mono (h₃ g₃ s₃ o₃ (F.step ((x₁.trans x₂).trans x₃))) (fun _ _ => PostS.after ((x₁.trans x₂).trans x₃).toF) fun _ _ x => x
theorem Ex.setsub {o i e : Expr} {p pos : Pos} {rest : List Stmt} {Q : Fl → Loc → Led → Prop} (h : Ev B ρ e Λ fun b Λ₁ => Ev B ρ o Λ₁ fun a Λ₂ => Ev B ρ i Λ₂ fun k Λ₃ => SetSubS C B.n a k b Λ₃ fun Λ₄ => Ex B rest ρ Λ₄ Q)
    (hs : swapsWith e (some (.Subscript o i p)) pos.line B.env = pure false := by rfl) : Ex B (.Assign [.Subscript o i p] e pos :: rest) ρ Λ Q := fun g s ok F => by
  refine wpAny_execs_cons (wpAny_Assign_Subscript (wp_then (h g s ok F) fun v s₁ g₁ Λ₁ b o₁ x₁ vb h₁ => wp_then (h₁ g₁ s₁ o₁ (F.step x₁)) fun u s₂ g₂ Λ₂ a o₂ x₂ ua h₂ => wp_then (h₂ g₂ s₂ o₂ (F.step (x₁.trans x₂))) fun y s₃ g₃ Λ₃ k o₃ x₃ yk h₃ => ?_) hs)
  refine wpAny_mono (h₃ B.A B.E g₃ s₃ u y v B.hA o₃ (ua.mono x₃.gle) yk (vb.mono (x₂.trans x₃).gle)) (fun _ s₄ hh => ?_) fun _ _ x => x
  obtain ⟨g₄, Λ₄, o₄, x₄, h₄⟩ := hh
  have xx := ((x₁.trans x₂).trans x₃).trans x₄
  exact wpAny_mono (h₄ g₄ s₄ o₄ (F.step xx)) (fun _ _ => PostS.after xx.toF) fun _ _ x => x

theorem get_update_ne {h : Heap} {a b : Addr} {f : Obj → Obj} {o : Obj} (q : b ≠ a) (e : h.get? b = some o) : (h.update a f).get? b = some o := (Heap.get?_update_ne h b a f q).trans e

/-- o.name = v, o an object of a class under way -/
theorem SetAttrS.inst {n : Nat} {a Cl dx : Addr} {name : PySem.Str} {b : V} {fs : List (PySem.Str × V)} {Q : Led → Prop} (ha : Λ a = some (.inst Cl dx)) (hd : Λ dx = some (.attrs fs))
    (hp : plainOver (K C.w.params) Cl = true) (ht : takerIn (K C.w.params) Cl name = some none) (hs : findIn (K C.w.params) (.ref Cl) "__setattr__" = some (some (.builtin "object.__setattr__"))) (hh : hasDictIn (K C.w.params) Cl = true) (hz : fs.length ≤ 100)
    (q : Q (upd Λ dx (.attrs (putA name b fs)))) : SetAttrS C n (.ref a) name b Λ Q := by
  intro A E g s v w hA o va wb
  apply va.onRef
  have X := Gd.kIn o
  have hx := (o.led a _ ha).2
  obtain ⟨es, m, D, hfs⟩ := (o.led dx _ hd).2
  have I : PySem.W.InstAt s.heap a (instObj Cl dx) Cl (some (dictOf es m)) := ⟨hx, rfl, rfl, D⟩
  refine set_plain X I hs (osa_open (s := { s with toks := s.toks + 1 }) X I hp ht fun bb => ?_)
  obtain ⟨cd, hc, hd'⟩ := any_some hh
  refine wpAny_bind (wpAny_pure (wpAny_bind (wpAny_bind (wpAny_loadPart hx (wpAny_bind (Looks.here (s := { s with toks := s.toks + 1 }) (looks_clsIn X hc) ?_))))))
  rw [hd']
  refine wpAny_pure (a := some dx) (wpAny_bind (wpAny_pure (wpAny_bind ?_)))
  unfold nsSet
  refine wpAny_bind (wpAny_bind (wpAny_askSetting (wpAny_pure (wpAny_bind (wpAny_mkText (wpAny_bind (wpAny_loadPart D ?_)))))))
  dsimp only
  have gl := (hfs.get (x := name))
  have hl : (getL name es).isSome = true := by
    cases q : fs.lookup name with
    | none => rw [gl.2 q]; rfl
    | some a => obtain ⟨v, e, _⟩ := gl.1 a q; rw [e]; rfl
  unfold getL at hl
  have c : (!es.toArray.any (·.key.isStr name) && es.toArray.any (·.refKey)) = false := by
    rw [← Array.any_toList, ← Array.any_toList]
    split at hl
    · rename_i en he
      rw [List.any_eq_true.mpr ⟨en, List.mem_of_find?_eq_some he, List.find?_some he⟩]; rfl
    · split at hl
      · cases hl
      · rename_i z; rw [Bool.not_eq_true] at z; rw [z, Bool.and_false]
  rw [aRefKeyMayBeTheName_at, c]
  refine wpAny_updatePart D ?_
  have D' : (s.heap.update dx (Obj.putName name (PyData.keyHash C.w.params name) (.str name (s.toks + 1)) w)).get? dx = some (dictOf (putL name (PyData.keyHash C.w.params name) (.str name (s.toks + 1)) w es) (putN name es m)) := by
    have := Heap.get?_update_self (Obj.putName name (PyData.keyHash C.w.params name) (.str name (s.toks + 1)) w) D (by rw [putName_dict]; rfl)
    rw [this, putName_dict]
  have hes := hfs.put (x := name) (hs := PyData.keyHash C.w.params name) (t := s.toks + 1) wb
  refine wpAny_bind (wpAny_lookBehind D' (pastItsLine_dict ?_) ?_)
  · rw [List.size_toArray, hes.length, sizeLine_eq]
    have := putA_length name b fs
    omega
  · obtain ⟨o₂, x₂⟩ := o.change (t := s.toks + 2) (o := .attrs (putA name b fs)) hd (fun c oc qc ec => get_update_ne (f := Obj.putName name (PyData.keyHash C.w.params name) (.str name (s.toks + 1)) w) qc ec) ⟨_, _, D', hes⟩
    exact wpAny_pure ⟨g, _, o₂, x₂, q⟩

/-- l[k] = v -/
theorem VRs.set {prog : Program} {w : World} {g : FV} {v : Value} {a : V} (hv : VR prog w g v a) {vs : List Value} {as : List V} (k : Nat) (h : VRs prog w g vs as) : VRs prog w g (vs.set k v) (as.set k a) := by
  induction as generalizing vs k with
  | nil => apply h.onNil; exact .nil
  | cons a as ih =>
    apply h.onCons
    intro u us hu r
    cases k with
    | zero => exact .cons hv r
    | succ k => exact .cons hu (ih k r)
theorem SetSubS.list {n : Nat} {a : Addr} {k : Nat} {b : V} {vs : List V} {Q : Led → Prop} (ha : Λ a = some (.list vs)) (hk : k < vs.length) (hf : k < 2 ^ 63) (q : Q (upd Λ a (.list (vs.set k b)))) : SetSubS C n (.ref a) (.int k) b Λ Q := by
  intro A E g s v kv w hA o va kr wb
  apply va.onRef; apply kr.onInt; intro _
  obtain ⟨ob, its, h1, ⟨m, rfl⟩, h3⟩ := (o.led a _ ha).2
  have el := h3.length
  refine ki_setAt (items := its.toArray) (n := m) h1 (by omega) (by omega) (by rw [List.size_toArray, el]; omega) ?_
  have hl : LstO (Obj.mapSeq (·.setIfInBounds (k : Int).toNat w) (listOf its.toArray m)) (its.set k w) := ⟨_, by simp [Obj.mapSeq]; rfl⟩
  obtain ⟨o₂, x₂⟩ := o.change (t := s.toks) (o := .list (vs.set k b)) ha (fun c oc qc ec => get_update_ne (f := Obj.mapSeq (·.setIfInBounds (k : Int).toNat w)) qc ec) ⟨_, its.set k w, Heap.get?_update_self _ h1 rfl, hl, h3.set wb k⟩
  exact ⟨g, _, o₂, x₂, q⟩

/-- d[k] = v -/
noncomputable def putK (k : Int) (b : V) (kvs : List (Int × V)) : List (Int × V) := if kvs.any (fun kv => kv.1 = k) then kvs.map (fun kv => if kv.1 = k then (kv.1, b) else kv) else kvs ++ [(k, b)]
theorem VKs.put {prog : Program} {w : World} {g : FV} {its : List (Int × Value)} {kvs : List (Int × V)} {k : Int} {v : Value} {b : V} (h : VKs prog w g its kvs) (hv : VR prog w g v b) : VKs prog w g (stored its k v) (putK k b kvs) := by
  have e1 : its.any (fun kv => kv.1 = k) = kvs.any (fun kv => kv.1 = k) := by
    have a := List.any_map (l := its) (f := (·.1)) (p := fun x => decide (x = k))
    have b := List.any_map (l := kvs) (f := (·.1)) (p := fun x => decide (x = k))
    rw [h.keys] at a
    exact a.symm.trans b
  have m1 : ∀ {its : List (Int × Value)} {kvs : List (Int × V)}, VKs prog w g its kvs → VKs prog w g (its.map fun kv => if kv.1 = k then (kv.1, v) else kv) (kvs.map fun kv => if kv.1 = k then (kv.1, b) else kv) := by
    intro its
    induction its with
    | nil => intro kvs h; cases h; exact .nil
    | cons p its ih =>
      intro kvs h
      cases h with
      | @cons kk vv aa _ as h r =>
        simp only [List.map_cons]
        split
        · exact .cons hv (ih r)
        · exact .cons h (ih r)
  have m2 : ∀ {its : List (Int × Value)} {kvs : List (Int × V)}, VKs prog w g its kvs → VKs prog w g (its ++ [(k, v)]) (kvs ++ [(k, b)]) := by
    intro its
    induction its with
    | nil => intro kvs h; cases h; exact .cons hv .nil
    | cons p its ih => intro kvs h; cases h with | cons h r => exact .cons h (ih r)
  unfold stored putK
  rw [e1]
  split
  · exact m1 h
  · exact m2 h
theorem isInt_int {prog : Program} {w : World} (k : Int) (t : Tok) : (intKind prog w).is k (.int k t) = true := beq_self_eq_true k
theorem SetSubS.dict {n : Nat} {a : Addr} {k : Int} {b : V} {kvs : List (Int × V)} {Q : Led → Prop} (ha : Λ a = some (.dict kvs)) (hz : kvs.length ≤ sizeLine) (q : Q (upd Λ a (.dict (putK k b kvs)))) : SetSubS C n (.ref a) (.int k) b Λ Q := by
  intro A E g s v kv w hA o va kr wb
  apply va.onRef; apply kr.onInt; intro _
  obtain ⟨ob, its, h1, ⟨hD, hm⟩, h3⟩ := (o.led a _ ha).2
  refine wpAny_setItem_pairs (knd := intKind C.prog C.w) (k := k) (isInt_int _ _) (hD.of h1) (fun h' hD' hs => ?_) (by rw [h3.length]; exact hz)
  obtain ⟨o', es, ep, e1, e2, e3, e4, e5, e6⟩ := hD'
  obtain ⟨o₂, x₂⟩ := o.change (t := s.toks + 1) (o := .dict (putK k b kvs)) ha (fun c oc qc ec => (hs.2 c qc).trans ec) ⟨o', _, e1, ⟨⟨es, ep, e2, e3, e4, e5, e6⟩, hm⟩, h3.put wb⟩
  exact ⟨g, _, o₂, x₂, q⟩
end Mine
end
section
namespace Mine
variable {K : Params → Frag} {C : Gd K} {B : Bd C} {ρ : Loc} {Λ : Led}

-- values as data
mutual
noncomputable def V.d : V → PyData
  | .none => .none
  | .bool b => .bool b
  | .int i => .int i
  | .str x => .str x
  | .ref _ => .none
  | .typ _ => .none
  | .bi _ => .none
  | .tup vs => .tuple (V.ds vs)
  | .lst vs => .list (V.ds vs)
  | .dct _ => .none
  | .ins _ _ => .none
  | .rng _ _ => .none
noncomputable def V.ds : List V → List PyData
  | [] => []
  | a :: r => V.d a :: V.ds r
end
mutual
inductive DOk : Nat → V → Prop
  | none {n} : DOk n .none
  | bool {n b} : DOk n (.bool b)
  | int {n i} : DOk n (.int i)
  | tup {n vs} : DsOk n vs → DOk (n + 1) (.tup vs)
  | lst {n vs} : DsOk n vs → DOk (n + 1) (.lst vs)
inductive DsOk : Nat → List V → Prop
  | nil {n} : DsOk n []
  | cons {n a r} : DOk n a → DsOk n r → DsOk n (a :: r)
end
theorem DsOk.of {n : Nat} {l : List V} (h : ∀ a ∈ l, DOk n a) : DsOk n l := by
  induction l with
  | nil => exact .nil
  | cons a r ih => exact .cons (h a (by simp)) (ih fun b hb => h b (by simp [hb]))
theorem V.ds_map (l : List V) : V.ds l = l.map V.d := by
  induction l with
  | nil => rfl
  | cons a r ih => rw [V.ds, ih]; rfl
theorem DOk.lays {n : Nat} : (∀ {a : V}, DOk n a → a.d.canLay0 = true ∧ a.d.depth ≤ n) ∧ (∀ {a : List V}, DsOk n a → PyData.canLayAll0 (V.ds a) = true ∧ PyData.depthAll (V.ds a) ≤ n) := by
  let M1 : (n : Nat) → (a : V) → DOk n a → Prop := fun n a _ => a.d.canLay0 = true ∧ a.d.depth ≤ n
  let M2 : (n : Nat) → (a : List V) → DsOk n a → Prop := fun n a _ => PyData.canLayAll0 (V.ds a) = true ∧ PyData.depthAll (V.ds a) ≤ n
  have ct : ∀ {n vs} (h : DsOk n vs), M2 n vs h → M1 (n + 1) (.tup vs) (.tup h) := fun _ h => ⟨h.1, Nat.succ_le_succ h.2⟩
  have cl : ∀ {n vs} (h : DsOk n vs), M2 n vs h → M1 (n + 1) (.lst vs) (.lst h) := fun _ h => ⟨h.1, Nat.succ_le_succ h.2⟩
  have cc : ∀ {n a r} (h : DOk n a) (hr : DsOk n r), M1 n a h → M2 n r hr → M2 n (a :: r) (.cons h hr) := fun _ _ h r => ⟨Bool.and_eq_true_iff.mpr ⟨h.1, r.1⟩, Nat.max_le.mpr ⟨h.2, r.2⟩⟩
  exact ⟨fun h => DOk.rec (motive_1 := M1) (motive_2 := M2) ⟨rfl, Nat.zero_le _⟩ ⟨rfl, Nat.zero_le _⟩ ⟨rfl, Nat.zero_le _⟩ ct cl ⟨rfl, Nat.zero_le _⟩ cc h,
    fun h => DsOk.rec (motive_1 := M1) (motive_2 := M2) ⟨rfl, Nat.zero_le _⟩ ⟨rfl, Nat.zero_le _⟩ ⟨rfl, Nat.zero_le _⟩ ct cl ⟨rfl, Nat.zero_le _⟩ cc h⟩
theorem DOk.lay {n : Nat} {a : V} (h : DOk n a) : a.d.canLay0 = true ∧ a.d.depth ≤ n := DOk.lays.1 h
theorem DsOk.lay {n : Nat} {a : List V} (h : DsOk n a) : PyData.canLayAll0 (V.ds a) = true ∧ PyData.depthAll (V.ds a) ≤ n := DOk.lays.2 h
section
variable {prog : Program} {w : World} {g : FV} {h : Heap}
theorem DOk.readss (k : ∀ a o, g a = some o → h.get? a = some o) {n : Nat} : (∀ {a : V}, DOk n a → ∀ {v : Value}, VR prog w g v a → ∃ as, PySem.Reads h v a.d as) ∧ (∀ {a : List V}, DsOk n a → ∀ {v : List Value}, VRs prog w g v a → ∃ as, PySem.ReadsAll h v (V.ds a) as) := by
  let M1 : (n : Nat) → (a : V) → DOk n a → Prop := fun n a _ => ∀ v : Value, VR prog w g v a → ∃ as, PySem.Reads h v a.d as
  let M2 : (n : Nat) → (a : List V) → DsOk n a → Prop := fun n a _ => ∀ v : List Value, VRs prog w g v a → ∃ as, PySem.ReadsAll h v (V.ds a) as
  have c0 : ∀ {n}, M1 n .none .none := fun {n} v z => z.onNone (P := fun v => ∃ as, PySem.Reads h v V.none.d as) ⟨_, .none⟩
  have cb : ∀ {n b}, M1 n (.bool b) .bool := fun {n b} v z => z.onBool (P := fun v => ∃ as, PySem.Reads h v (V.bool b).d as) ⟨_, .bool _⟩
  have ci : ∀ {n i}, M1 n (.int i) .int := fun {n i} v z => z.onInt (P := fun v => ∃ as, PySem.Reads h v (V.int i).d as) fun _ => ⟨_, .int _ _⟩
  have ct : ∀ {n vs} (x : DsOk n vs), M2 n vs x → M1 (n + 1) (.tup vs) (.tup x) := fun {n vs} x ih v z => z.onTup (P := fun v => ∃ as, PySem.Reads h v (V.tup vs).d as) fun l o its h1 h2 h3 => by
    obtain ⟨n, rfl⟩ := h2
    obtain ⟨as, r⟩ := ih _ h3
    exact ⟨_, .tuple (k _ _ h1) rfl rfl (by simpa using r)⟩
  have cl : ∀ {n vs} (x : DsOk n vs), M2 n vs x → M1 (n + 1) (.lst vs) (.lst x) := fun {n vs} x ih v z => z.onLst (P := fun v => ∃ as, PySem.Reads h v (V.lst vs).d as) fun l o its h1 h2 h3 => by
    obtain ⟨n, rfl⟩ := h2
    obtain ⟨as, r⟩ := ih _ h3
    exact ⟨_, .list (k _ _ h1) rfl rfl (by simpa using r)⟩
  have cn : ∀ {n}, M2 n [] .nil := fun {n} v z => z.onNil (P := fun v => ∃ as, PySem.ReadsAll h v (V.ds []) as) ⟨_, .nil⟩
  have cc : ∀ {n a r} (x : DOk n a) (y : DsOk n r), M1 n a x → M2 n r y → M2 n (a :: r) (.cons x y) := fun {n a r} x y ih1 ih2 v z => z.onCons (P := fun v => ∃ as, PySem.ReadsAll h v (V.ds (a :: r)) as) fun u us hu hr => by
    obtain ⟨as, r1⟩ := ih1 _ hu
    obtain ⟨bs, r2⟩ := ih2 _ hr
    exact ⟨_, .cons r1 r2⟩
  exact ⟨fun x _ z => DOk.rec (motive_1 := M1) (motive_2 := M2) @c0 @cb @ci @ct @cl @cn @cc x _ z, fun x _ z => DsOk.rec (motive_1 := M1) (motive_2 := M2) @c0 @cb @ci @ct @cl @cn @cc x _ z⟩
theorem DOk.reads (k : ∀ a o, g a = some o → h.get? a = some o) {n : Nat} {a : V} (x : DOk n a) {v : Value} (z : VR prog w g v a) : ∃ as, PySem.Reads h v a.d as := (DOk.readss k).1 x z
theorem DsOk.reads (k : ∀ a o, g a = some o → h.get? a = some o) {n : Nat} {a : List V} (x : DsOk n a) {v : List Value} (z : VRs prog w g v a) : ∃ as, PySem.ReadsAll h v (V.ds a) as := (DOk.readss k).2 x z
end
/-- a value that is data: frozen, or a list under way -/
inductive HasD (Λ : Led) : V → PyData → Prop
  | val {a : V} : DOk 8 a → HasD Λ a a.d
  | led {r : Addr} {vs : List V} : Λ r = some (.list vs) → DsOk 7 vs → HasD Λ (.ref r) (.list (V.ds vs))
theorem HasD.reads {g : FV} {s : Shared} {a : V} {d : PyData} {v : Value} (h : HasD Λ a d) (o : Ok C g Λ s) (x : VR C.prog C.w g v a) : d.canLay0 = true ∧ d.depth ≤ 8 ∧ ∃ as, PySem.Reads s.heap v d as := by
  cases h with
  | val h => exact ⟨h.lay.1, h.lay.2, h.reads o.gin x⟩
  | led hr hd =>
    apply x.onRef
    obtain ⟨ob, its, h1, ⟨n, rfl⟩, h3⟩ := (o.led _ _ hr).2
    obtain ⟨as, r⟩ := hd.reads o.gin h3
    exact ⟨hd.lay.1, Nat.succ_le_succ hd.lay.2, _, .list h1 rfl rfl (by simpa using r)⟩

theorem Post.now {g : FV} {s : Shared} {Q : V → Led → Prop} {v : Value} {a : V} (o : Ok C g Λ s) (h : VR C.prog C.w g v a) (q : Q a Λ) : Post C g Λ s Q v s := Post.here o h q

theorem CmpS.eq {n : Nat} {a b : V} {da db : PyData} {Q : V → Led → Prop} (ha : HasD Λ a da) (hb : HasD Λ b db) (q : Q (.bool (PyData.eqv da db)) Λ) : CmpS C n .Eq a b Λ Q := by
  intro A E g s v w hA o va wb
  obtain ⟨a1, a2, as, a3⟩ := ha.reads o va
  obtain ⟨b1, b2, bs, b3⟩ := hb.reads o wb
  exact SeqAt.compareEq_reads a3 b3 a1 b1 (by have := hA.uni; have := Nat.min_le_left da.depth db.depth; omega) (Post.here o (.bool _) q)
theorem CmpS.ne {n : Nat} {a b : V} {da db : PyData} {Q : V → Led → Prop} (ha : HasD Λ a da) (hb : HasD Λ b db) (q : Q (.bool (!PyData.eqv da db)) Λ) : CmpS C n .NotEq a b Λ Q := by
  intro A E g s v w hA o va wb
  obtain ⟨a1, a2, as, a3⟩ := ha.reads o va
  obtain ⟨b1, b2, bs, b3⟩ := hb.reads o wb
  exact SeqAt.compareNe_reads a3 b3 a1 b1 (by have := hA.uni; have := Nat.min_le_left da.depth db.depth; omega) (Post.here o (.bool _) q)
theorem DsOk.lay7 {vs : List V} {n : Nat} (h : DsOk n vs) : PyData.depthAll (V.ds vs) ≤ n := h.lay.2
theorem CmpS.inL {n : Nat} {a : V} {da : PyData} {vs : List V} {Q : V → Led → Prop} (ha : HasD Λ a da) (hb : DsOk 7 vs) (q : Q (.bool ((V.ds vs).any fun y => PyData.eqv y da)) Λ) : CmpS C n .In a (.lst vs) Λ Q := by
  intro A E g s v w hA o va wb
  obtain ⟨a1, a2, as, a3⟩ := ha.reads o va
  obtain ⟨bs, b3⟩ := (DOk.lst hb).reads o.gin wb
  exact SeqAt.in_list_reads b3 a3 hb.lay.1 a1 (by have := hA.uni; have := Nat.min_le_left (PyData.depthAll (V.ds vs)) da.depth; have := hb.lay.2; omega) (Post.here o (.bool _) q)
theorem CmpS.notInL {n : Nat} {a : V} {da : PyData} {vs : List V} {Q : V → Led → Prop} (ha : HasD Λ a da) (hb : DsOk 7 vs) (q : Q (.bool (!(V.ds vs).any fun y => PyData.eqv y da)) Λ) : CmpS C n .NotIn a (.lst vs) Λ Q := by
  intro A E g s v w hA o va wb
  obtain ⟨a1, a2, as, a3⟩ := ha.reads o va
  obtain ⟨bs, b3⟩ := (DOk.lst hb).reads o.gin wb
  exact SeqAt.notIn_list_reads b3 a3 hb.lay.1 a1 (by have := hA.uni; have := Nat.min_le_left (PyData.depthAll (V.ds vs)) da.depth; have := hb.lay.2; omega) (Post.here o (.bool _) q)
theorem CmpS.inT {n : Nat} {a : V} {da : PyData} {vs : List V} {Q : V → Led → Prop} (ha : HasD Λ a da) (hb : DsOk 7 vs) (q : Q (.bool ((V.ds vs).any fun y => PyData.eqv y da)) Λ) : CmpS C n .In a (.tup vs) Λ Q := by
  intro A E g s v w hA o va wb
  obtain ⟨a1, a2, as, a3⟩ := ha.reads o va
  obtain ⟨bs, b3⟩ := (DOk.tup hb).reads o.gin wb
  exact SeqAt.in_tuple_reads b3 a3 hb.lay.1 a1 (by have := hA.uni; have := Nat.min_le_left (PyData.depthAll (V.ds vs)) da.depth; have := hb.lay.2; omega) (Post.here o (.bool _) q)
theorem CmpS.notInT {n : Nat} {a : V} {da : PyData} {vs : List V} {Q : V → Led → Prop} (ha : HasD Λ a da) (hb : DsOk 7 vs) (q : Q (.bool (!(V.ds vs).any fun y => PyData.eqv y da)) Λ) : CmpS C n .NotIn a (.tup vs) Λ Q := by
  intro A E g s v w hA o va wb
  obtain ⟨a1, a2, as, a3⟩ := ha.reads o va
  obtain ⟨bs, b3⟩ := (DOk.tup hb).reads o.gin wb
  exact SeqAt.notIn_tuple_reads b3 a3 hb.lay.1 a1 (by have := hA.uni; have := Nat.min_le_left (PyData.depthAll (V.ds vs)) da.depth; have := hb.lay.2; omega) (Post.here o (.bool _) q)

-- whole numbers
section
variable {n : Nat} {a b : Int} {Q : V → Led → Prop}
theorem CmpS.lti (q : Q (.bool (decide (a < b))) Λ) : CmpS C n .Lt (.int a) (.int b) Λ Q := by
  intro A E g s v w hA o va wb; apply va.onInt; intro _; apply wb.onInt; intro _; exact wpAny_lt_int (Post.here o (.bool _) q)
theorem CmpS.lei (q : Q (.bool (decide (a ≤ b))) Λ) : CmpS C n .LtE (.int a) (.int b) Λ Q := by
  intro A E g s v w hA o va wb; apply va.onInt; intro _; apply wb.onInt; intro _; exact PyProof.Rows.le_int (Post.here o (.bool _) q)
theorem CmpS.gti (q : Q (.bool (decide (b < a))) Λ) : CmpS C n .Gt (.int a) (.int b) Λ Q := by
  intro A E g s v w hA o va wb; apply va.onInt; intro _; apply wb.onInt; intro _; exact PyProof.Rows.gt_int (Post.here o (.bool _) q)
theorem CmpS.gei (q : Q (.bool (decide (b ≤ a))) Λ) : CmpS C n .GtE (.int a) (.int b) Λ Q := by
  intro A E g s v w hA o va wb; apply va.onInt; intro _; apply wb.onInt; intro _; exact PyProof.Rows.ge_int (Post.here o (.bool _) q)
theorem CmpS.eqi (q : Q (.bool (a == b)) Λ) : CmpS C n .Eq (.int a) (.int b) Λ Q := by
  intro A E g s v w hA o va wb; apply va.onInt; intro _; apply wb.onInt; intro _; exact PyProof.Rows.eq_int (Post.here o (.bool _) q)
theorem CmpS.nei (q : Q (.bool (a != b)) Λ) : CmpS C n .NotEq (.int a) (.int b) Λ Q := by
  intro A E g s v w hA o va wb; apply va.onInt; intro _; apply wb.onInt; intro _; exact PyProof.Rows.ne_int (Post.here o (.bool _) q)
end
noncomputable def isNone : V → Bool
  | .none => true
  | _ => false
theorem isNone_of {prog : Program} {w : World} {g : FV} {v : Value} {a : V} (h : VR prog w g v a) : (v == .none) = isNone a := by cases h <;> rfl
theorem CmpS.is {n : Nat} {a : V} {Q : V → Led → Prop} (q : Q (.bool (isNone a)) Λ) : CmpS C n .Is a .none Λ Q := by
  intro A E g s v w hA o va wb; apply wb.onNone; exact is_none_gen (Post.here o (by rw [isNone_of va]; exact .bool _) q)
theorem CmpS.isNot {n : Nat} {a : V} {Q : V → Led → Prop} (q : Q (.bool (!isNone a)) Λ) : CmpS C n .IsNot a .none Λ Q := by
  intro A E g s v w hA o va wb; apply wb.onNone; exact isnot_none_gen (Post.here o (by rw [isNone_of va]; exact .bool _) q)
theorem CmpS.eqs {n : Nat} {x y : PySem.Str} {Q : V → Led → Prop} (q : Q (.bool (x == y)) Λ) : CmpS C n .Eq (.str x) (.str y) Λ Q := by
  intro A E g s v w hA o va wb; apply va.onStr; intro _; apply wb.onStr; intro _; exact eq_str (Post.here o (.bool _) q)
theorem TruS.bool {n : Nat} {b : Bool} {Q : Bool → Led → Prop} (q : Q b Λ) : TruS C n (.bool b) Λ Q := by
  intro A E g s v hA o va; apply va.onBool; exact wpAny_truthy_bool ⟨g, Λ, o, .refl .., q⟩
end Mine
end
section
namespace Mine
variable {K : Params → Frag} {C : Gd K} {B : Bd C} {ρ : Loc} {Λ : Led}

theorem Post.int {g : FV} {s : Shared} {Q : V → Led → Prop} {i : Int} (o : Ok C g Λ s) (t t' : Nat) (q : Q (.int i) Λ) : Post C g Λ s Q (.int i t) { s with toks := t' } := Post.tick o t' (.int i t) q
section
variable {n : Nat} {a b : Int} {Q : V → Led → Prop}
theorem BinS.addi (q : Q (.int (a + b)) Λ) : BinS C n .Add (.int a) (.int b) Λ Q := by
  intro A E g s v w hA o va wb; apply va.onInt; intro _; apply wb.onInt; intro _; exact PyProof.Rows.add_int (Post.int o _ _ q)
theorem BinS.subi (q : Q (.int (a - b)) Λ) : BinS C n .Sub (.int a) (.int b) Λ Q := by
  intro A E g s v w hA o va wb; apply va.onInt; intro _; apply wb.onInt; intro _; exact PyProof.Rows.sub_int (Post.int o _ _ q)
theorem BinS.muli (h : IntMulOk a b) (q : Q (.int (a * b)) Λ) : BinS C n .Mult (.int a) (.int b) Λ Q := by
  intro A E g s v w hA o va wb; apply va.onInt; intro _; apply wb.onInt; intro _; exact PySem.P.mul_int (Post.int o _ _ q) h
theorem BinS.modi (h : b ≠ 0) (q : Q (.int (a.fmod b)) Λ) : BinS C n .Mod (.int a) (.int b) Λ Q := by
  intro A E g s v w hA o va wb; apply va.onInt; intro _; apply wb.onInt; intro _; exact PyProof.Rows.mod_int h (Post.int o _ _ q)
theorem BinS.powi (h : 0 ≤ b) (hz : (Builtin.Int.intBits a : Int) * b ≤ 2 ^ 27) (q : Q (.int (a ^ b.toNat)) Λ) : BinS C n .Pow (.int a) (.int b) Λ Q := by
  intro A E g s v w hA o va wb; apply va.onInt; intro _; apply wb.onInt; intro _; exact PyProof.Rows.pow_int h hz (Post.int o _ _ q)
theorem noPylong_small {x y : Int} (h : y.natAbs.log2 < 9000) : Builtin.divisionGoesByPylong x y = false := by
  first | exact noPylong_of_log2 h | exact PyProof.noPylong_of_log2 h
theorem BinS.divi (h : b ≠ 0) (hz : b.natAbs.log2 < 9000) (q : Q (.int (a.fdiv b)) Λ) : BinS C n .FloorDiv (.int a) (.int b) Λ Q := by
  intro A E g s v w hA o va wb; apply va.onInt; intro _; apply wb.onInt; intro _
  exact AutoIntOps.floordiv_1 (by simpa using h) (by rw [noPylong_small hz]; exact Bool.false_ne_true) (Post.int o _ _ q)
theorem UnS.negi (q : Q (.int (-a)) Λ) : UnS C n .USub (.int a) Λ Q := by
  intro A E g s v hA o va; apply va.onInt; intro _; exact PyProof.Rows.neg_int (Post.int o _ _ q)
end

-- lists and tuples put together
theorem BinS.addl {n : Nat} {xs ys : List V} {Q : V → Led → Prop} (hz : xs.length + ys.length ≤ sizeLine) (q : ∀ a, Λ a = none → Q (.ref a) (upd Λ a (.list (xs ++ ys)))) : BinS C n .Add (.lst xs) (.lst ys) Λ Q := by
  intro A E g s v w hA o va wb
  apply va.onLst; intro l ob its hg hl hv
  apply wb.onLst; intro l2 ob2 its2 hg2 hl2 hv2
  obtain ⟨m, rfl⟩ := hl
  obtain ⟨m2, rfl⟩ := hl2
  have h1 := o.gin _ _ hg
  have h2 := o.gin _ _ hg2
  refine concat_meets ⟨_, h1, rfl⟩ ⟨_, h2, rfl⟩ noFill_list_add seq_list_add PySem.F.slot_list_add PySem.F.entry_list_add (PySem.F.args_list_add_2 _ _) (AutoSeq1.list___add___list_list_0 l its.toArray m l2 its2.toArray m2 (by simpa [hv.length, hv2.length] using hz)) ⟨h1, h2, ?_⟩
  obtain ⟨o₂, x₂, e₂⟩ := o.alloc (a := s.heap.objs.size) (o := .list (xs ++ ys)) (h' := s.heap.push { cls := .type "list", data := .seq (its.toArray ++ its2.toArray) }) (t := s.toks) (get_fresh _ (Nat.le_refl _)) (fun b ob e => Heap.get?_push_of_some _ e)
    ⟨_, its ++ its2, Heap.get?_push_size _ rfl, ⟨_, by simp; rfl⟩, hv.append hv2⟩
  exact ⟨_, _, _, o₂, x₂, .ref _, q _ e₂⟩
theorem BinS.addt {n : Nat} {xs ys : List V} {Q : V → Led → Prop} (hz : xs.length + ys.length ≤ sizeLine) (q : Q (.tup (xs ++ ys)) Λ) : BinS C n .Add (.tup xs) (.tup ys) Λ Q := by
  intro A E g s v w hA o va wb
  apply va.onTup; intro l ob its hg hl hv
  apply wb.onTup; intro l2 ob2 its2 hg2 hl2 hv2
  have va' : VR C.prog C.w g (.ref l) (.tup xs) := .tup hg hl hv
  have wb' : VR C.prog C.w g (.ref l2) (.tup ys) := .tup hg2 hl2 hv2
  obtain ⟨m, rfl⟩ := hl
  obtain ⟨m2, rfl⟩ := hl2
  have h1 := o.gin _ _ hg
  have h2 := o.gin _ _ hg2
  by_cases z1 : its = []
  · subst z1
    cases hv
    refine concat_meets ⟨_, h1, rfl⟩ ⟨_, h2, rfl⟩ noFill_tuple_add seq_tuple_add PySem.F.slot_tuple_add PySem.F.entry_tuple_add (PySem.F.args_tuple_add_2 _ _) (AutoSeq1.tuple___add___tuple_tuple_0 l _ m l2 its2.toArray m2 (by simp)) ⟨h1, h2, ?_⟩
    exact Post.tick o _ wb' q
  · by_cases z2 : its2 = []
    · subst z2
      cases hv2
      refine concat_meets ⟨_, h1, rfl⟩ ⟨_, h2, rfl⟩ noFill_tuple_add seq_tuple_add PySem.F.slot_tuple_add PySem.F.entry_tuple_add (PySem.F.args_tuple_add_2 _ _) (AutoSeq1.tuple___add___tuple_tuple_1 l its.toArray m l2 _ m2 (by simpa using z1) (by simp)) ⟨h1, h2, ?_⟩
      rw [List.append_nil] at q
      exact Post.tick o _ va' q
    · refine concat_meets ⟨_, h1, rfl⟩ ⟨_, h2, rfl⟩ noFill_tuple_add seq_tuple_add PySem.F.slot_tuple_add PySem.F.entry_tuple_add (PySem.F.args_tuple_add_2 _ _) (AutoSeq1.tuple___add___tuple_tuple_2 l its.toArray m l2 its2.toArray m2 (by simpa using z1) (by simpa using z2) (by simpa [hv.length, hv2.length] using hz)) ⟨h1, h2, ?_⟩
      obtain ⟨o₂, x₂, e₂⟩ := o.put (a := s.heap.objs.size) (h' := s.heap.push { cls := .type "tuple", data := .seq (its.toArray ++ its2.toArray) }) (t := s.toks) (get_fresh _ (Nat.le_refl _)) (fun b ob e => Heap.get?_push_of_some _ e) (Heap.get?_push_size _ rfl)
      exact ⟨_, Λ, _, o₂, x₂, .tup e₂ ⟨_, by simp; rfl⟩ ((hv.append hv2).mono x₂.gle), q⟩

-- items
theorem seqIndex_pos {k : Int} {n : Nat} (h0 : 0 ≤ k) (h1 : k < n) : seqIndex? k n = some k.toNat := by
  unfold seqIndex?
  have h2 : ¬ k < 0 := by omega
  simp only [h2, if_false, decide_eq_true h0, decide_eq_true h1, Bool.and_self, if_true]
theorem SubS.tup {n : Nat} {vs : List V} {k : Int} {j : Nat} {a : V} {Q : V → Led → Prop} (hj : seqIndex? k vs.length = some j) (hx : vs[j]? = some a) (hlo : -(2 ^ 63) ≤ k) (hhi : k < 2 ^ 63) (q : Q a Λ) : SubS C n (.tup vs) (.int k) Λ Q := by
  intro A E g s v w hA o va wb
  apply wb.onInt; intro _
  apply va.onTup; intro l ob its hg hl hv
  obtain ⟨m, rfl⟩ := hl
  have h1 := o.gin _ _ hg
  have hT : IsTup s.heap l its.toArray := ⟨_, h1, rfl, m, rfl⟩
  obtain ⟨x, hx', vx⟩ := hv.get' hx
  refine ⟨"tuple", _, ⟨_, h1, rfl⟩, slot_tuple_getitem.lookup, ?_⟩
  exact PyProof.Rows.getItem_tuple hT hlo hhi (by rw [List.size_toArray, hv.length]; exact hj) (by simpa using hx') (Post.here o vx q)
theorem lst_item {A : Around} {E : Value → Shared → Prop} {s : Shared} {l : Addr} {its : List Value} {k : Int} {t : Tok} {j : Nat} {x : Value} {Q : Value → Shared → Prop} (hl : s.heap.IsList l its.toArray) (hj : seqIndex? k its.length = some j) (hx : its[j]? = some x) (hlo : -(2 ^ 63) ≤ k) (hhi : k < 2 ^ 63)
    (q : Q x s) : wpAny (model C.prog C.w) A (getItem (.ref l) (.int k t)) Q E s := by
  unfold seqIndex? at hj
  by_cases h0 : k < 0
  · simp only [h0, if_true] at hj
    split at hj
    · rename_i hb
      cases hj
      simp at hb
      exact wpAny_getItem_list_neg hl h0 (by simp; omega) hlo (by simpa using hx) q
    · cases hj
  · simp only [h0, if_false] at hj
    split at hj
    · cases hj
      exact wpAny_getItem_list hl (by omega) hhi (by simpa using hx) q
    · cases hj
theorem SubS.lst {n : Nat} {vs : List V} {k : Int} {j : Nat} {a : V} {Q : V → Led → Prop} (hj : seqIndex? k vs.length = some j) (hx : vs[j]? = some a) (hlo : -(2 ^ 63) ≤ k) (hhi : k < 2 ^ 63) (q : Q a Λ) : SubS C n (.lst vs) (.int k) Λ Q := by
  intro A E g s v w hA o va wb
  apply wb.onInt; intro _
  apply va.onLst; intro l ob its hg hl hv
  obtain ⟨m, rfl⟩ := hl
  have h1 := o.gin _ _ hg
  obtain ⟨x, hx', vx⟩ := hv.get' hx
  exact ⟨"list", _, ⟨_, h1, rfl⟩, slot_list_getitem.lookup, lst_item ⟨_, h1, rfl, m, rfl⟩ (by rw [hv.length]; exact hj) hx' hlo hhi (Post.here o vx q)⟩
theorem SubS.led {n : Nat} {r : Addr} {vs : List V} {k : Int} {j : Nat} {a : V} {Q : V → Led → Prop} (hr : Λ r = some (.list vs)) (hj : seqIndex? k vs.length = some j) (hx : vs[j]? = some a) (hlo : -(2 ^ 63) ≤ k) (hhi : k < 2 ^ 63) (q : Q a Λ) : SubS C n (.ref r) (.int k) Λ Q := by
  intro A E g s v w hA o va wb
  apply wb.onInt; intro _; apply va.onRef
  obtain ⟨ob, its, h1, ⟨m, rfl⟩, hv⟩ := (o.led _ _ hr).2
  obtain ⟨x, hx', vx⟩ := hv.get' hx
  exact ⟨"list", _, ⟨_, h1, rfl⟩, slot_list_getitem.lookup, lst_item ⟨_, h1, rfl, m, rfl⟩ (by rw [hv.length]; exact hj) hx' hlo hhi (Post.here o vx q)⟩

/-- what a dict says -/
noncomputable def getK (k : Int) (kvs : List (Int × V)) : Option V := (kvs.find? fun kv => kv.1 = k).map (·.2)
theorem VKs.at {prog : Program} {w : World} {g : FV} {its : List (Int × Value)} {kvs : List (Int × V)} (h : VKs prog w g its kvs) (k : Int) : (∀ a, getK k kvs = some a → ∃ v, valueAt its k = some v ∧ VR prog w g v a) ∧ (getK k kvs = none → valueAt its k = none) := by
  induction its generalizing kvs with
  | nil => cases h; exact ⟨fun a e => (nomatch e), fun _ => rfl⟩
  | cons p its ih =>
    cases h with
    | @cons kk vv aa _ as h r =>
      unfold getK valueAt
      by_cases q : kk = k
      · subst q
        simp only [List.find?_cons, decide_true, Option.map_some]
        exact ⟨fun a e => by cases e; exact ⟨_, rfl, h⟩, fun e => (nomatch e)⟩
      · simp only [List.find?_cons, q, decide_false]
        exact ih r
theorem SubS.dct {n : Nat} {kvs : List (Int × V)} {k : Int} {a : V} {Q : V → Led → Prop} (hk : getK k kvs = some a) (q : Q a Λ) : SubS C n (.dct kvs) (.int k) Λ Q := by
  intro A E g s v w hA o va wb
  apply wb.onInt; intro _
  apply va.onDct; intro l ob its hne hg hl hv
  have h1 := o.gin _ _ hg
  obtain ⟨x, hx, vx⟩ := (hv.at k).1 a hk
  have hD := hl.of h1
  have hM := hD.mapOf
  obtain ⟨o', es, ep, e1, e2, _⟩ := hD
  exact ⟨"dict", _, ⟨_, e1, e2.1⟩, slot_dict_getitem.lookup, wpAny_getItem_of (isInt_int _ _) hM hx (Post.tick o _ vx q)⟩

-- slices
theorem VRs.take {prog : Program} {w : World} {g : FV} {l : List Value} {m : List V} (h : VRs prog w g l m) (k : Nat) : VRs prog w g (l.take k) (m.take k) := by
  induction m generalizing l k with
  | nil => apply h.onNil; rw [List.take_nil, List.take_nil]; exact .nil
  | cons a m ih =>
    apply h.onCons
    intro u us hu r
    cases k with
    | zero => exact .nil
    | succ k => exact .cons hu (ih r k)
theorem VRs.drop {prog : Program} {w : World} {g : FV} {l : List Value} {m : List V} (h : VRs prog w g l m) (k : Nat) : VRs prog w g (l.drop k) (m.drop k) := by
  induction m generalizing l k with
  | nil => apply h.onNil; rw [List.drop_nil, List.drop_nil]; exact .nil
  | cons a m ih =>
    apply h.onCons
    intro u us hu r
    cases k with
    | zero => exact .cons hu r
    | succ k => exact ih r k
theorem fm_map {α β : Type} {f : α → Option β} {g : α → β} : ∀ {l : List α}, (∀ k ∈ l, f k = some (g k)) → l.filterMap f = l.map g
  | [], _ => rfl
  | a :: r, h => by rw [List.filterMap_cons, h a (by simp), List.map_cons, fm_map fun k hk => h k (by simp [hk])]
theorem slicePick_rev (items : Array Value) : slicePick items none none (some (-1)) = items.toList.reverse.toArray := by
  unfold slicePick sliceBounds sliceRange
  simp only [Option.getD_some]
  have h1 : ¬ ((-1 : Int) > 0) := by omega
  simp only [h1, if_false]
  congr 1
  have hc : (if ((items.size : Int) - 1) > -1 then ((items.size : Int) - 1 - -1 - -1 - 1) / (- -1) else 0).toNat = items.size := by
    rw [show (- -1 : Int) = 1 from rfl, Int.ediv_one]
    split <;> omega
  rw [hc, List.filterMap_map]
  apply List.ext_getElem?
  intro i
  have : (List.range items.size).filterMap ((fun x => items[x]?) ∘ fun k : Nat => ((items.size : Int) - 1 + -1 * (k : Int)).toNat) = (List.range items.size).map fun k => items[items.size - 1 - k]! := by
    apply fm_map
    intro k hk
    simp at hk
    have e : ((items.size : Int) - 1 + -1 * (k : Int)).toNat = items.size - 1 - k := by omega
    simp only [Function.comp, e]
    have : items.size - 1 - k < items.size := by omega
    simp [this]
  rw [this]
  by_cases hi : i < items.size
  · rw [List.getElem?_map, List.getElem?_range hi, List.getElem?_reverse (by simpa using hi)]
    have : items.size - 1 - i < items.size := by omega
    simp [this]
  · rw [List.getElem?_eq_none (by simp; omega), List.getElem?_eq_none (by simp; omega)]
section
variable {n : Nat} {vs : List V} {Q : V → Led → Prop}
theorem put_slice {g : FV} {s : Shared} {c : List Value} {d : List V} (o : Ok C g Λ s) (h : VRs C.prog C.w g c d) (q : Q (.lst d) Λ) {arr : Array Value} (e : arr = c.toArray) : Post C g Λ s Q (.ref s.heap.objs.size) { s with heap := s.heap.push { cls := .type "list", data := .seq arr } } := by
  subst e
  obtain ⟨o₂, x₂, e₂⟩ := o.put (a := s.heap.objs.size) (h' := s.heap.push { cls := .type "list", data := .seq c.toArray }) (t := s.toks) (get_fresh _ (Nat.le_refl _)) (fun b ob e => Heap.get?_push_of_some _ e) (Heap.get?_push_size _ rfl)
  exact ⟨_, Λ, _, o₂, x₂, .lst e₂ ⟨_, rfl⟩ (h.mono x₂.gle), q⟩
/-- l[a:] -/
theorem SlcS.from {a : Nat} (ha : a ≤ vs.length) (hz : vs.length ≤ sizeLine) (q : Q (.lst (vs.drop a)) Λ) : SlcS C n (.lst vs) (.int a) .none .none Λ Q := by
  intro A E g s v sl vl vu vt hA o va vlr vur vtr hs
  revert hs; apply vlr.onInt; intro _; apply vur.onNone; apply vtr.onNone; intro hs
  apply va.onLst; intro l ob its hg hl hv
  obtain ⟨m, rfl⟩ := hl
  have h1 := o.gin _ _ hg
  refine ⟨"list", _, ⟨_, h1, rfl⟩, slot_list_getitem.lookup, wpAny_getItem_list_slice (items := its.toArray) ⟨_, h1, rfl, m, rfl⟩ hs (.int _ _) .none .none (by simp) ?_ (by simpa [hv.length] using hz)⟩
  exact put_slice o (hv.drop a) q (slicePick_from _ _ (by simpa [hv.length] using ha))
/-- l[:b] -/
theorem SlcS.upto {b : Nat} (hb : b ≤ vs.length) (hz : vs.length ≤ sizeLine) (q : Q (.lst (vs.take b)) Λ) : SlcS C n (.lst vs) .none (.int b) .none Λ Q := by
  intro A E g s v sl vl vu vt hA o va vlr vur vtr hs
  revert hs; apply vlr.onNone; apply vur.onInt; intro _; apply vtr.onNone; intro hs
  apply va.onLst; intro l ob its hg hl hv
  obtain ⟨m, rfl⟩ := hl
  have h1 := o.gin _ _ hg
  refine ⟨"list", _, ⟨_, h1, rfl⟩, slot_list_getitem.lookup, wpAny_getItem_list_slice (items := its.toArray) ⟨_, h1, rfl, m, rfl⟩ hs .none (.int _ _) .none (by simp) ?_ (by simpa [hv.length] using hz)⟩
  exact put_slice o (hv.take b) q (slicePick_upto _ _ (by simpa [hv.length] using hb))
/-- l[::-1] -/
theorem SlcS.rev (hz : vs.length ≤ sizeLine) (q : Q (.lst vs.reverse) Λ) : SlcS C n (.lst vs) .none .none (.int (-1)) Λ Q := by
  intro A E g s v sl vl vu vt hA o va vlr vur vtr hs
  revert hs; apply vlr.onNone; apply vur.onNone; apply vtr.onInt; intro _; intro hs
  apply va.onLst; intro l ob its hg hl hv
  obtain ⟨m, rfl⟩ := hl
  have h1 := o.gin _ _ hg
  refine ⟨"list", _, ⟨_, h1, rfl⟩, slot_list_getitem.lookup, wpAny_getItem_list_slice (items := its.toArray) ⟨_, h1, rfl, m, rfl⟩ hs .none .none (.int _ _) (by simp) ?_ (by simpa [hv.length] using hz)⟩
  exact put_slice o hv.rev q (by rw [slicePick_rev])
/-- t[:b] -/
theorem SlcS.tupTo {b : Nat} (hb : b < vs.length) (hz : vs.length ≤ sizeLine) (q : Q (.tup (vs.take b)) Λ) : SlcS C n (.tup vs) .none (.int b) .none Λ Q := by
  intro A E g s v sl vl vu vt hA o va vlr vur vtr hs
  revert hs; apply vlr.onNone; apply vur.onInt; intro _; apply vtr.onNone; intro hs
  apply va.onTup; intro l ob its hg hl hv
  obtain ⟨m, rfl⟩ := hl
  have h1 := o.gin _ _ hg
  have ht : IsTup s.heap l its.toArray := ⟨_, h1, rfl, m, rfl⟩
  refine ⟨"tuple", _, ⟨_, h1, rfl⟩, slot_tuple_getitem.lookup, ?_⟩
  have el := hv.length
  obtain ⟨os, hos, hcs, hds⟩ := id hs
  have hTs : s.TypeIs (.ref sl) "slice" := ⟨os, hos, hcs⟩
  have pick : ((List.range b).filterMap fun (k : Nat) => its.toArray[((0 : Int) + (k : Int) * 1).toNat]?).toArray = (its.take b).toArray := by
    congr 1
    have e : (fun (k : Nat) => its.toArray[((0 : Int) + (k : Int) * 1).toNat]?) = fun k => its[k]? := by
      funext k
      have : ((0 : Int) + (k : Int) * 1).toNat = k := by omega
      rw [this]; simp
    rw [e]
    apply List.ext_getElem?
    intro i
    have hm : (List.range b).filterMap (fun k => its[k]?) = (List.range b).map fun k => its[k]! := by
      apply fm_map
      intro k hk
      simp at hk
      have : k < its.length := by omega
      simp [this]
    rw [hm]
    by_cases hi : i < b
    · rw [List.getElem?_map, List.getElem?_range hi, List.getElem?_take_of_lt hi]
      have : i < its.length := by omega
      simp [this]
    · rw [List.getElem?_eq_none (by simp; omega), List.getElem?_eq_none (by simp; omega)]
  unfold getItem
  try with_reducible refine wpAny_holding ?_
  first | refine wpAny_bind (wpAny_pure ?_) | skip
  refine wpAny_bind (wpAny_sequenceKey ht.typeIs (by decide) ?_)
  refine wpAny_bind (wpAny_callSpecial?_slot (name := Str.ofString "__getitem__") ht.typeIs slot_tuple_getitem
    (wpAny_call_entry slot_tuple_getitem ht.typeIs entry_tuple_getitem ?_ (args_tuple_getitem _ _)))
  show wpAny _ _ (Builtin.Tuple.tupleItemsOf (.ref l) >>= _) _ _ s
  refine wpAny_bind (tupleItemsOf_ ht ?_)
  refine wpAny_bind (wpAny_typeOf hTs ?_)
  rw [if_pos (by decide)]
  have app : ∀ {A' : Around} {E' : Value → Shared → Prop} {Q' : Int × Int × Nat → Shared → Prop}, Q' (0, 1, b) s → wpAny (model C.prog C.w) A' (Builtin.Slice.sliceApplied (.ref sl) (pure (its.toArray.size : Int))) Q' E' s := by
    intro A' E' Q' h
    unfold Builtin.Slice.sliceApplied Builtin.Slice.sliceFields
    refine wpAny_bind (wpAny_bind (wpAny_field hos hds (x := .none) rfl (wpAny_bind (wpAny_field hos hds (x := .int b _) rfl (wpAny_bind (wpAny_field hos hds (x := .none) rfl (wpAny_pure ?_)))))))
    refine wpAny_bind (slicePart_none ?_)
    show wpAny _ _ (if ((1 : Int) == 0) = true then _ else _) _ _ s
    rw [if_neg (by decide)]
    refine wpAny_bind (slicePart_none (wpAny_bind (slicePart_int (wpAny_bind (wpAny_pure ?_)))))
    show wpAny _ _ (match Builtin.Slice.sliceAdjust none (some (b : Int)) 1 (its.toArray.size : Int) with | (lo, hi) => pure (lo, (1 : Int), Builtin.Slice.slicePlaces lo hi 1)) _ _ s
    have ad : Builtin.Slice.sliceAdjust none (some (b : Int)) 1 (its.toArray.size : Int) = ((0 : Int), (b : Int)) := by
      unfold Builtin.Slice.sliceAdjust
      have h1 : ¬ ((1 : Int) < 0) := by omega
      have h2 : ¬ ((b : Int) < 0) := by omega
      simp only [h1, h2, if_false]
      congr 1
      simp; omega
    rw [ad]
    show wpAny _ _ (pure ((0 : Int), (1 : Int), Builtin.Slice.slicePlaces (0 : Int) (b : Int) 1)) _ _ s
    have pl : Builtin.Slice.slicePlaces (0 : Int) (b : Int) 1 = b := by
      unfold Builtin.Slice.slicePlaces
      have h1 : (1 : Int) > 0 := by omega
      simp only [h1, if_true, Int.ediv_one]
      split <;> omega
    rw [pl]
    exact wpAny_pure h
  refine wpAny_bind (app ?_)
  have hno : ¬ (((0 : Int) == 0 && (1 : Int) == 1 && b == its.toArray.size) = true) := by simp; omega
  show wpAny _ _ (if ((0 : Int) == 0 && (1 : Int) == 1 && b == its.toArray.size) = true then _ else _) _ _ s
  rw [if_neg hno, pick]
  have hsz : sizeOk (.seq (its.take b).toArray) := by
    show (its.take b).toArray.size ≤ sizeLine
    simp; omega
  obtain ⟨o₂, x₂, e₂⟩ := o.put (a := s.heap.objs.size) (h' := s.heap.push { cls := .type "tuple", data := .seq (its.take b).toArray }) (t := s.toks) (get_fresh _ (Nat.le_refl _)) (fun b ob e => Heap.get?_push_of_some _ e) (Heap.get?_push_size _ rfl)
  have h : Post C g Λ s Q (.ref s.heap.objs.size) { s with heap := s.heap.push { cls := .type "tuple", data := .seq (its.take b).toArray } } := ⟨_, Λ, _, o₂, x₂, .tup e₂ ⟨_, rfl⟩ ((hv.take b).mono x₂.gle), q⟩
  first
    | exact wpAny_bind (m := Builtin.Tuple.tupleExact _) (wpAny_newObj_type (wpAny_pure ⟨_, rfl, wpAny_pure h⟩) hsz)
    | exact wpAny_bind (m := Builtin.Tuple.tupleExact _) (wpAny_newObj_type (wpAny_bind (wpAny_pure (wpAny_pure ⟨_, rfl, wpAny_pure h⟩))) hsz)
    | exact wpAny_bind (wpAny_bind (m := Builtin.Tuple.tupleExact _) (wpAny_newObj_type (wpAny_pure (wpAny_pure ⟨_, rfl, wpAny_pure h⟩)) hsz))
    | exact wpAny_bind (wpAny_bind (m := Builtin.Tuple.tupleExact _) (wpAny_newObj_type (wpAny_pure ⟨_, rfl, wpAny_pure h⟩) hsz))
end
end Mine
end
section
namespace Mine
variable {K : Params → Frag} {C : Gd K} {B : Bd C} {ρ : Loc} {Λ : Led}

/-- the method of a list under way -/
theorem MethS.list {n : Nat} {r : Addr} {vs : List V} {name : PySem.Str} {id : String} {Q : Value → List V → Prop} (hr : Λ r = some (.list vs)) (slot : Slot "list" name id) (hty : typeOf (.builtin id) = pure (.type "method_descriptor")) (q : Q (.builtin id) [.ref r]) : MethS C n (.ref r) name Λ Q := by
  intro A E g s v pl R hA o va k
  apply va.onRef
  obtain ⟨ob, its, h1, ⟨m, rfl⟩, hv⟩ := (o.led _ _ hr).2
  exact getMethod_builtin ⟨_, h1, rfl⟩ PySem.F.plainAttrs_list slot hty (fun a e => by cases e; exact ⟨_, h1, rfl⟩) (k _ _ _ q (.cons (.ref _) .nil))
theorem MethS.dct {n : Nat} {kvs : List (Int × V)} {name : PySem.Str} {id : String} {Q : Value → List V → Prop} (slot : Slot "dict" name id) (hty : typeOf (.builtin id) = pure (.type "method_descriptor")) (q : Q (.builtin id) [.dct kvs]) : MethS C n (.dct kvs) name Λ Q := by
  intro A E g s v pl R hA o va k
  apply va.onDct; intro l ob its hne hg hl hv
  have va' : VR C.prog C.w g (.ref l) (.dct kvs) := .dct hne hg hl hv
  have h1 := o.gin _ _ hg
  obtain ⟨es, ep, ⟨e1, e2, e3⟩, _⟩ := hl
  exact getMethod_builtin ⟨_, h1, e1⟩ PySem.F.plainAttrs_dict slot hty (fun a e => by cases e; exact ⟨_, h1, e2⟩) (k _ _ _ q (.cons va' .nil))

section
variable {n : Nat} {r : Addr} {vs ys : List V} {a : V} {Q : V → Led → Prop}
theorem CallS.append (hr : Λ r = some (.list vs)) (hz : vs.length ≤ sizeLine) (q : Q .none (upd Λ r (.list (vs ++ [a])))) : CallS C n (.builtin "list.append") [.ref r, a] Λ Q := by
  intro A E g s ws hA o hw
  obtain ⟨ob, its, h1, ⟨m, rfl⟩, hv⟩ := (o.led _ _ hr).2
  apply hw.on2; intro u x h hx; apply h.onRef
  refine call_meets PySem.F.slot_list_append ⟨_, h1, rfl⟩ PySem.F.entry_list_append (PySem.F.args_list_append_2 _ _) (AutoListH.list_append_list_val_0 r its.toArray m x (by simpa [hv.length] using hz)) ⟨h1, ?_⟩
  have up := PySem.IsL.update (h := s.heap) (l := r) (items := its.toArray) (n := m) h1 (fun y => y.push x)
  obtain ⟨o₂, x₂⟩ := o.change (t := s.toks) (o := .list (vs ++ [a])) hr (fun c oc qc ec => get_update_ne (f := Obj.mapSeq fun y => y.push x) qc ec) ⟨_, its ++ [x], up, ⟨_, by simp; rfl⟩, hv.append (.cons hx .nil)⟩
  exact ⟨g, _, _, o₂, x₂, .none, q⟩
theorem CallS.pop (hr : Λ r = some (.list (vs ++ [a]))) (hz : vs.length < sizeLine) (q : Q a (upd Λ r (.list vs))) : CallS C n (.builtin "list.pop") [.ref r] Λ Q := by
  intro A E g s ws hA o hw
  obtain ⟨ob, its, h1, ⟨m, rfl⟩, hv⟩ := (o.led _ _ hr).2
  apply hw.on1; intro u h; apply h.onRef
  obtain ⟨p, y, rfl, hp, hy⟩ : ∃ p y, its = p ++ [y] ∧ VRs C.prog C.w g p vs ∧ VR C.prog C.w g y a := by
    clear hr h1 q hz
    induction vs generalizing its with
    | nil => cases hv with | cons h r => cases r; exact ⟨[], _, rfl, .nil, h⟩
    | cons b vs ih => cases hv with | cons h r => obtain ⟨p, y, rfl, h1, h2⟩ := ih _ r; exact ⟨_ :: p, y, rfl, .cons h h1, h2⟩
  have el := hp.length
  have hk : (p ++ [y]).toArray.size - 1 = p.length := by rw [List.size_toArray, List.length_append]; rfl
  have hy' : (p ++ [y]).toArray[(p ++ [y]).toArray.size - 1]? = some y := by rw [hk]; simp
  refine call_meets PySem.F.slot_list_pop ⟨_, h1, rfl⟩ PySem.F.entry_list_pop (PySem.F.args_list_pop_1 _) (PySem.MeetsSeq.list_pop_last r _ m y hy' (by simp; omega)) ⟨h1, ?_⟩
  have up := PySem.IsL.update (h := s.heap) (l := r) (n := m) h1 (fun xs => xs.eraseIdxIfInBounds ((p ++ [y]).toArray.size - 1))
  obtain ⟨o₂, x₂⟩ := o.change (t := s.toks) (o := .list vs) hr (fun c oc qc ec => get_update_ne (f := Obj.mapSeq fun xs => xs.eraseIdxIfInBounds ((p ++ [y]).toArray.size - 1)) qc ec) ⟨_, p, up, ⟨_, by rw [hk, kl_erase, List.append_nil]⟩, hp⟩
  exact ⟨g, _, _, o₂, x₂, hy, q⟩
theorem CallS.extend (hr : Λ r = some (.list vs)) (hz : vs.length + ys.length ≤ 2 ^ 20) (q : Q .none (upd Λ r (.list (vs ++ ys)))) : CallS C n (.builtin "list.extend") [.ref r, .lst ys] Λ Q := by
  intro A E g s ws hA o hw
  obtain ⟨ob, its, h1, ⟨m, rfl⟩, hv⟩ := (o.led _ _ hr).2
  apply hw.on2; intro u x h hx; apply h.onRef
  apply hx.onLst; intro l ob2 its2 hg2 hl2 hv2
  obtain ⟨m2, rfl⟩ := hl2
  have h2 := o.gin _ _ hg2
  have e1 := hv.length
  have e2 := hv2.length
  refine call_meets PySem.F.slot_list_extend ⟨_, h1, rfl⟩ PySem.F.entry_list_extend (PySem.F.args_list_extend_2 _ _) (PySem.AutoSeq1.list_extend_list_list_0 r its.toArray m l its2.toArray m2 ?_ (by simp [sizeLine_eq]; omega) (by simp [sizeLine_eq]; omega)) ⟨h1, h2, ?_⟩
  · unfold Builtin.List.listTooLong
    simp [sizeLine_eq]
    intro _
    omega
  · have up := PySem.IsL.update (h := s.heap) (l := r) (items := its.toArray) (n := m) h1 (fun x => x ++ its2.toArray)
    obtain ⟨o₂, x₂⟩ := o.change (t := s.toks) (o := .list (vs ++ ys)) hr (fun c oc qc ec => get_update_ne (f := Obj.mapSeq fun x => x ++ its2.toArray) qc ec) ⟨_, its ++ its2, up, ⟨_, by simp; rfl⟩, hv.append hv2⟩
    exact ⟨g, _, _, o₂, x₂, .none, q⟩
end

-- dicts
section
variable {n : Nat} {kvs : List (Int × V)} {k : Int} {Q : V → Led → Prop}
theorem CallS.get1 (q : Q ((getK k kvs).getD .none) Λ) : CallS C n (.builtin "dict.get") [.dct kvs, .int k] Λ Q := by
  intro A E g s ws hA o hw
  apply hw.on2; intro u x h hx; apply hx.onInt; intro _
  apply h.onDct; intro l ob its hne hg hl hv
  have h1 := o.gin _ _ hg
  have hD := hl.of h1
  have hT : s.TypeIs (.ref l) "dict" := by obtain ⟨o', es, ep, e1, e2, _⟩ := hD; exact ⟨_, e1, e2.1⟩
  refine call_meetsIn PySem.F.slot_dict_get hT PySem.F.entry_dict_get (PySem.F.args_dict_get_2 _ _) (meets_dict_get (intKind C.prog C.w) l (isInt_int _ _) hne) ⟨_, hD.mapOf, ?_⟩
  have at_ := hv.at k
  refine Post.tick o _ ?_ q
  cases e : getK k kvs with
  | none => rw [at_.2 e]; exact .none
  | some a => obtain ⟨v, hx, vx⟩ := at_.1 a e; rw [hx]; exact vx
theorem CallS.get2 {d : V} (q : Q ((getK k kvs).getD d) Λ) : CallS C n (.builtin "dict.get") [.dct kvs, .int k, d] Λ Q := by
  intro A E g s ws hA o hw
  apply hw.on3; intro u x dd h hx hd; apply hx.onInt; intro _
  apply h.onDct; intro l ob its hne hg hl hv
  have h1 := o.gin _ _ hg
  have hD := hl.of h1
  have hT : s.TypeIs (.ref l) "dict" := by obtain ⟨o', es, ep, e1, e2, _⟩ := hD; exact ⟨_, e1, e2.1⟩
  refine call_meetsIn PySem.F.slot_dict_get hT PySem.F.entry_dict_get (PySem.F.args_dict_get_3 _ _ _) (meets_dict_get_default (intKind C.prog C.w) l (isInt_int _ _) hne _) ⟨_, hD.mapOf, ?_⟩
  have at_ := hv.at k
  refine Post.tick o _ ?_ q
  cases e : getK k kvs with
  | none => rw [at_.2 e]; exact hd
  | some a => obtain ⟨v, hx, vx⟩ := at_.1 a e; rw [hx]; exact vx
theorem VKs.some {prog : Program} {w : World} {g : FV} {its : List (Int × Value)} {kvs : List (Int × V)} (h : VKs prog w g its kvs) (k : Int) : (valueAt its k).isSome = (getK k kvs).isSome := by
  have at_ := h.at k
  cases e : getK k kvs with
  | none => rw [at_.2 e]; rfl
  | some a => obtain ⟨v, hx, vx⟩ := at_.1 a e; rw [hx]; rfl
theorem CmpS.inD (q : Q (.bool (getK k kvs).isSome) Λ) : CmpS C n .In (.int k) (.dct kvs) Λ Q := by
  intro A E g s v w hA o va wb
  apply va.onInt; intro _
  apply wb.onDct; intro l ob its hne hg hl hv
  exact wpAny_in_of (isInt_int _ _) hne (hl.of (o.gin _ _ hg)).mapOf (Post.tick o _ (by rw [hv.some]; exact .bool _) q)
theorem CmpS.notInD (q : Q (.bool (!(getK k kvs).isSome)) Λ) : CmpS C n .NotIn (.int k) (.dct kvs) Λ Q := by
  intro A E g s v w hA o va wb
  apply va.onInt; intro _
  apply wb.onDct; intro l ob its hne hg hl hv
  exact wpAny_notIn_of (isInt_int _ _) hne (hl.of (o.gin _ _ hg)).mapOf (Post.tick o _ (by rw [hv.some]; exact .bool _) q)
theorem CmpS.notInLed {r : Addr} (hr : Λ r = some (.dict kvs)) (q : Q (.bool (!(getK k kvs).isSome)) Λ) : CmpS C n .NotIn (.int k) (.ref r) Λ Q := by
  intro A E g s v w hA o va wb
  apply va.onInt; intro _; apply wb.onRef
  obtain ⟨ob, its, h1, ⟨hl, hm⟩, hv⟩ := (o.led _ _ hr).2
  exact wpAny_notIn_of (isInt_int _ _) hm (hl.of h1).mapOf (Post.tick o _ (by rw [hv.some]; exact .bool _) q)
end
theorem notMods {g : FV} {s : Shared} (o : Ok C g Λ s) : (s.heap.objs.size == sysModules) = false := by
  obtain ⟨a, ob, h1, h2⟩ := C.mods
  have := Heap.lt_size (o.gin _ _ (o.bas _ _ h2))
  have : sysModules < s.heap.objs.size := Nat.lt_trans h1 this
  exact beq_eq_false_iff_ne.mpr (Nat.ne_of_gt this)
theorem Ev.dict {pos : Pos} {Q : V → Led → Prop} (q : ∀ a, Λ a = none → Q (.ref a) (upd Λ a (.dict []))) : Ev B ρ (.Dict [] [] pos) Λ Q := fun g s o F => by
  rw [eval_Dict_empty]
  refine wpAny_bind (wpAny_standAt ?_)
  unfold newDict
  refine wpAny_newObj_type ?_
  obtain ⟨o₂, x₂, e₂⟩ := o.alloc (a := s.heap.objs.size) (o := .dict []) (h' := s.heap.push { cls := .type "dict", data := .dict #[] }) (t := s.toks) (get_fresh _ (Nat.le_refl _)) (fun b ob e => Heap.get?_push_of_some _ e)
    ⟨_, [], Heap.get?_push_size _ rfl, ⟨⟨#[], 0, ⟨rfl, rfl, rfl⟩, rfl, fun _ he => by simp at he, Pairs.nil, List.nodup_nil⟩, notMods o⟩, .nil⟩
  exact ⟨_, _, _, o₂, x₂, .ref _, q _ e₂⟩
/-- a dict is never changed any more -/
theorem Ev.frzD {e : Expr} {Q : V → Led → Prop} (h : Ev B ρ e Λ (QFrzD Q)) : Ev B ρ e Λ Q := fun g s o f => by
  refine wpAny_mono (h g s o f) (fun v s₁ hh => ?_) fun _ _ x => x
  obtain ⟨g₁, Λ₁, a, o₁, x₁, va, b, kvs, ea, hb, q⟩ := hh
  subst ea
  obtain ⟨ob, its, h1, ⟨h2, hm⟩, h3⟩ := (o₁.led b _ hb).2
  obtain ⟨o₂, x₂, e₂, le⟩ := o₁.freeze hb h1
  apply va.onRef
  exact ⟨_, _, _, o₂, x₁.trans x₂, .dct hm e₂ h2 (h3.mono le), q⟩
theorem Ex.freezeD (x : PySem.Str) {b : Addr} {kvs : List (Int × V)} {ss : List Stmt} {Q : Fl → Loc → Led → Prop} (hx : ρ.lookup x = some (.ref b)) (hb : Λ b = some (.dict kvs)) (h : Ex B ss ((x, .dct kvs) :: ρ) (drop Λ b) Q) : Ex B ss ρ Λ Q := fun g s o F => by
  obtain ⟨ob, its, h1, ⟨h2, hmo⟩, h3⟩ := (o.led b _ hb).2
  obtain ⟨o₂, x₂, e₂, le⟩ := o.freeze hb h1
  have F₂ := F.step x₂
  refine wpAny_mono (h _ s o₂ ⟨F₂.kind, F₂.glob, F₂.blt, F₂.out, F₂.cel, F₂.inj, ?_⟩) (fun _ _ => PostS.after x₂.toF) fun _ _ x => x
  obtain ⟨m, hn, hm⟩ := F₂.ns
  refine ⟨m, hn, fun y a e => ?_⟩
  rw [List.lookup_cons] at e
  by_cases q : y = x
  · subst q
    simp only [beq_self_eq_true] at e; cases e
    rcases hm y _ hx with ⟨k1, v, k2, k3⟩ | ⟨k1, c, oc, v, k2, k3, k4, k5⟩
    · cases k3; exact .inl ⟨k1, _, k2, .dct hmo e₂ h2 (h3.mono le)⟩
    · cases k5; exact .inr ⟨k1, c, oc, _, k2, k3, k4, .dct hmo e₂ h2 (h3.mono le)⟩
  · have : (y == x) = false := by simpa using q
    simp only [this] at e; exact hm y a e

-- the machine's own functions
section
variable {n : Nat} {Q : V → Led → Prop} {xs : List V}
theorem Post.ticks {g : FV} {s : Shared} {v : Value} {a : V} (o : Ok C g Λ s) (h' : Heap) (k : ∀ b ob, s.heap.get? b = some ob → h'.get? b = some ob) (t : Nat) (h : VR C.prog C.w g v a) (q : Q a Λ) : Post C g Λ s Q v { s with heap := h', toks := t } :=
  ⟨g, Λ, a, o.grow k, Step.grow g Λ s k, h, q⟩
theorem CallS.lenL (hz : xs.length ≤ sizeLine) (q : Q (.int xs.length) Λ) : CallS C n (.builtin "len") [.lst xs] Λ Q := by
  intro A E g s ws hA o hw
  apply hw.on1; intro v h
  apply h.onLst; intro l ob its hg hl hv
  obtain ⟨m, rfl⟩ := hl
  have e := hv.length
  refine call_len_list (items := its.toArray) ⟨_, o.gin _ _ hg, rfl, m, rfl⟩ (by simp; rw [sizeLine_eq] at hz; omega) ?_
  rw [List.size_toArray, e]
  exact Post.int o _ _ q
theorem CallS.lenT (hz : xs.length ≤ sizeLine) (q : Q (.int xs.length) Λ) : CallS C n (.builtin "len") [.tup xs] Λ Q := by
  intro A E g s ws hA o hw
  apply hw.on1; intro v h
  apply h.onTup; intro l ob its hg hl hv
  obtain ⟨m, rfl⟩ := hl
  have e := hv.length
  refine PyProof.Rows.len_tuple (items := its.toArray) ⟨_, o.gin _ _ hg, rfl, m, rfl⟩ (by simp; rw [sizeLine_eq] at hz; omega) ?_
  rw [List.size_toArray, e]
  exact Post.int o _ _ q
theorem CallS.range1 {b : Int} (q : Q (.rng 0 b) Λ) : CallS C n (.type "range") [.int b] Λ Q := by
  intro A E g s ws hA o hw
  apply hw.on1; intro u h; apply h.onInt; intro t
  refine call_range_1 ?_
  obtain ⟨o₂, x₂, e₂⟩ := o.put (a := s.heap.objs.size) (h' := s.heap.push { cls := .type "range", data := .fields #[.int 0 s.toks, .int b t, .int 1 (s.toks + 1)] }) (t := s.toks + 1 + 1) (get_fresh _ (Nat.le_refl _)) (fun b ob e => Heap.get?_push_of_some _ e) (Heap.get?_push_size _ rfl)
  exact ⟨_, Λ, _, o₂, x₂, .rng e₂, q⟩
theorem CallS.range2 {a b : Int} (q : Q (.rng a b) Λ) : CallS C n (.type "range") [.int a, .int b] Λ Q := by
  intro A E g s ws hA o hw
  apply hw.on2; intro v1 v2 h h'; apply h.onInt; intro t; apply h'.onInt; intro u
  refine call_range_2 ?_
  obtain ⟨o₂, x₂, e₂⟩ := o.put (a := s.heap.objs.size) (h' := s.heap.push { cls := .type "range", data := .fields #[.int a t, .int b u, .int 1 s.toks] }) (t := s.toks + 1) (get_fresh _ (Nat.le_refl _)) (fun b ob e => Heap.get?_push_of_some _ e) (Heap.get?_push_size _ rfl)
  exact ⟨_, Λ, _, o₂, x₂, .rng e₂, q⟩
theorem CallS.abs {a : Int} (q : Q (.int (if a < 0 then -a else a)) Λ) : CallS C n (.builtin "abs") [.int a] Λ Q := by
  intro A E g s ws hA o hw
  apply hw.on1; intro v h; apply h.onInt; intro _
  exact call_abs_int fun u tk => Post.int o _ _ q
theorem CallS.max {a b : Int} (q : Q (.int (if b > a then b else a)) Λ) : CallS C n (.builtin "max") [.int a, .int b] Λ Q := by
  intro A E g s ws hA o hw
  apply hw.on2; intro v1 v2 h h'; apply h.onInt; intro t; apply h'.onInt; intro u
  refine max_two_ints hA.hh fun h' tk k => Post.ticks o h' k tk ?_ q
  split <;> exact .int _ _
theorem CallS.intB {b : Bool} (q : Q (.int (if b then 1 else 0)) Λ) : CallS C n (.type "int") [.bool b] Λ Q := by
  intro A E g s ws hA o hw
  apply hw.on1; intro v h; apply h.onBool
  exact call_int_bool (Post.int o _ _ q)
theorem list_made {g : FV} {s : Shared} {c : List Value} {h' : Heap} {k : Nat} {tk : Nat} (o : Ok C g Λ s) (hv : VRs C.prog C.w g c xs) (kp : ∀ b ob, s.heap.get? b = some ob → h'.get? b = some ob) (e : h'.get? s.heap.objs.size = some { cls := .type "list", dict := none, data := .seq c.toArray k, slots := #[] })
    (q : ∀ a, Λ a = none → Q (.ref a) (upd Λ a (.list xs))) : Post C g Λ s Q (.ref s.heap.objs.size) { s with heap := h', toks := tk } := by
  obtain ⟨o₂, x₂, e₂⟩ := o.alloc (a := s.heap.objs.size) (o := .list xs) (h' := h') (t := tk) (get_fresh _ (Nat.le_refl _)) kp ⟨_, _, e, ⟨_, rfl⟩, hv⟩
  exact ⟨_, _, _, o₂, x₂, .ref _, q _ e₂⟩
theorem CallS.listL (hz : xs.length ≤ sizeLine) (q : ∀ a, Λ a = none → Q (.ref a) (upd Λ a (.list xs))) : CallS C n (.type "list") [.lst xs] Λ Q := by
  intro A E g s ws hA o hw
  apply hw.on1; intro v h
  apply h.onLst; intro l ob its hg hl hv
  obtain ⟨m, rfl⟩ := hl
  exact call_list_seq l (items := its.toArray) (.inl rfl) (o.gin _ _ hg) rfl rfl (fun h' c' kp e => list_made o hv kp e q) (by simpa [hv.length] using hz)
theorem CallS.listT (hz : xs.length ≤ sizeLine) (q : ∀ a, Λ a = none → Q (.ref a) (upd Λ a (.list xs))) : CallS C n (.type "list") [.tup xs] Λ Q := by
  intro A E g s ws hA o hw
  apply hw.on1; intro v h
  apply h.onTup; intro l ob its hg hl hv
  obtain ⟨m, rfl⟩ := hl
  exact call_list_seq l (items := its.toArray) (.inr rfl) (o.gin _ _ hg) rfl rfl (fun h' c' kp e => list_made o hv kp e q) (by simpa [hv.length] using hz)
theorem CallS.tupleT (q : Q (.tup xs) Λ) : CallS C n (.type "tuple") [.tup xs] Λ Q := by
  intro A E g s ws hA o hw
  apply hw.on1; intro v h
  apply h.onTup; intro l ob its hg hl hv
  have h0 : VR C.prog C.w g (.ref l) (.tup xs) := .tup hg hl hv
  obtain ⟨m, rfl⟩ := hl
  exact call_tuple_same (items := its.toArray) ⟨_, o.gin _ _ hg, rfl, m, rfl⟩ (Post.here o h0 q)
theorem CallS.tupleL (hz : xs.length ≤ sizeLine) (q : Q (.tup xs) Λ) : CallS C n (.type "tuple") [.lst xs] Λ Q := by
  intro A E g s ws hA o hw
  apply hw.on1; intro v h
  apply h.onLst; intro l ob its hg hl hv
  obtain ⟨m, rfl⟩ := hl
  refine call_tuple_list (items := its.toArray) ⟨_, o.gin _ _ hg, rfl, m, rfl⟩ (fun h' kp => ?_) (by simpa [hv.length] using hz)
  have o₁ := o.grow (t := s.toks) kp
  have x₁ := Step.grow g Λ s (t := s.toks) kp
  obtain ⟨o₂, x₂, e₂⟩ := o₁.put (a := h'.objs.size) (h' := h'.push { cls := .type "tuple", data := .seq its.toArray }) (t := s.toks) (get_fresh _ (Nat.le_refl _)) (fun b ob e => Heap.get?_push_of_some _ e) (Heap.get?_push_size _ rfl)
  exact ⟨_, Λ, _, o₂, x₁.trans x₂, .tup e₂ ⟨_, rfl⟩ (hv.mono x₂.gle), q⟩
theorem CallS.dictD {kvs : List (Int × V)} (hz : kvs.length ≤ sizeLine) (q : Q (.dct kvs) Λ) : CallS C n (.type "dict") [.dct kvs] Λ Q := by
  intro A E g s ws hA o hw
  apply hw.on1; intro v h
  apply h.onDct; intro l ob its hne hg hl hv
  refine kt_call_dict hne (hl.of (o.gin _ _ hg)) (by rw [hv.length]; exact hz) fun h' hD hs => ?_
  obtain ⟨o', es, ep, e1, e2, e3, e4, e5, e6⟩ := hD
  obtain ⟨o₂, x₂, e₂⟩ := o.put (a := s.heap.objs.size) (o := o') (h' := h') (t := s.toks) (get_fresh _ (Nat.le_refl _)) (fun b ob e => (hs.2 b (Nat.ne_of_lt (Heap.lt_size e))).trans (Heap.get?_push_of_some _ e)) e1
  exact ⟨_, Λ, _, o₂, x₂, .dct (notMods o) e₂ ⟨es, ep, e2, e3, e4, e5, e6⟩ (hv.mono x₂.gle), q⟩
theorem CallS.isIntI {a : Int} (q : Q (.bool true) Λ) : CallS C n (.builtin "isinstance") [.int a, .typ "int"] Λ Q := by
  intro A E g s ws hA o hw
  apply hw.on2; intro v u h h'; apply h.onInt; intro _; apply h'.onTyp
  exact IsiPair.int_int (Post.here o (.bool _) q)
theorem CallS.isIntB {b : Bool} (q : Q (.bool true) Λ) : CallS C n (.builtin "isinstance") [.bool b, .typ "int"] Λ Q := by
  intro A E g s ws hA o hw
  apply hw.on2; intro v u h h'; apply h.onBool; apply h'.onTyp
  exact IsiPair.bool_int (Post.here o (.bool _) q)
theorem CallS.isBoolI {a : Int} (q : Q (.bool false) Λ) : CallS C n (.builtin "isinstance") [.int a, .typ "bool"] Λ Q := by
  intro A E g s ws hA o hw
  apply hw.on2; intro v u h h'; apply h.onInt; intro _; apply h'.onTyp
  exact IsiPair.int_bool (Post.tick o _ (.bool _) q)
theorem CallS.isBoolB {b : Bool} (q : Q (.bool true) Λ) : CallS C n (.builtin "isinstance") [.bool b, .typ "bool"] Λ Q := by
  intro A E g s ws hA o hw
  apply hw.on2; intro v u h h'; apply h.onBool; apply h'.onTyp
  exact IsiPair.bool_bool (Post.here o (.bool _) q)
theorem CallS.isStrS {x : PySem.Str} (q : Q (.bool true) Λ) : CallS C n (.builtin "isinstance") [.str x, .typ "str"] Λ Q := by
  intro A E g s ws hA o hw
  apply hw.on2; intro v u h h'; apply h.onStr; intro _; apply h'.onTyp
  exact IsiPair.str_str (Post.here o (.bool _) q)
theorem CallS.isTupT (q : Q (.bool true) Λ) : CallS C n (.builtin "isinstance") [.tup xs, .typ "tuple"] Λ Q := by
  intro A E g s ws hA o hw
  apply hw.on2; intro v u h h'; apply h'.onTyp
  apply h.onTup; intro l ob its hg hl hv
  obtain ⟨m, rfl⟩ := hl
  exact IsiPair.tuple_tuple (o.gin _ _ hg) rfl (Post.here o (.bool _) q)
end
end Mine
end
section
namespace Mine
variable {K : Params → Frag} {C : Gd K} {B : Bd C} {ρ : Loc} {Λ : Led}

-- attributes
noncomputable def notBi : V → Bool
  | .bi _ => false
  | _ => true
theorem handed {prog : Program} {w : World} {g : FV} {v : Value} {a : V} (h : VR prog w g v a) (e : notBi a = true) : handedIn v = true := by cases h <;> first | rfl | cases e

section
variable {n : Nat} {Cl : Addr} {fs : List (PySem.Str × V)} {name : PySem.Str} {Q : V → Led → Prop}
theorem ins_at {g : FV} {s : Shared} {v : Value} (o : Ok C g Λ s) (h : VR C.prog C.w g v (.ins Cl fs)) : ∃ a dx es m, v = .ref a ∧ PySem.W.InstAt s.heap a (instObj Cl dx) Cl (some (dictOf es m)) ∧ VAs C.prog C.w g es fs := by
  cases h with
  | @ins a dx _ es m _ h1 h2 h3 => exact ⟨a, dx, es, m, rfl, ⟨o.gin _ _ h1, rfl, rfl, o.gin _ _ h2⟩, h3⟩
theorem led_at {g : FV} {s : Shared} {x dx : Addr} (o : Ok C g Λ s) (hx : Λ x = some (.inst Cl dx)) (hd : Λ dx = some (.attrs fs)) : ∃ es m, PySem.W.InstAt s.heap x (instObj Cl dx) Cl (some (dictOf es m)) ∧ VAs C.prog C.w g es fs := by
  obtain ⟨es, m, D, hfs⟩ := (o.led _ _ hd).2
  exact ⟨es, m, ⟨(o.led _ _ hx).2, rfl, rfl, D⟩, hfs⟩
/-- what the class must say of a name that its instances bear -/
structure OwnName (K : Frag) (Cl : Addr) (name : PySem.Str) : Prop where
  ga : findIn K (.ref Cl) "__getattribute__" = some (some (.builtin "object.__getattribute__"))
  hd : hasDictIn K Cl = true
  fn : findIn K (.ref Cl) name = some none
theorem AttrS.ins {a : V} (o : OwnName (K C.w.params) Cl name) (hl : fs.lookup name = some a) (hb : notBi a = true) (q : Q a Λ) : AttrS C n (.ins Cl fs) name Λ Q := by
  intro A E g s v hA ok va
  obtain ⟨b, dx, es, m, rfl, I, hfs⟩ := ins_at ok va
  obtain ⟨v, hg, hv⟩ := (hfs.get (x := name)).1 a hl
  exact get_value (Gd.kIn ok) I o.ga (findObj_own o.hd o.fn rfl hg) (handed hv hb) (Post.tick ok _ hv q)
theorem AttrS.led {x dx : Addr} {a : V} (o : OwnName (K C.w.params) Cl name) (hx : Λ x = some (.inst Cl dx)) (hd : Λ dx = some (.attrs fs)) (hl : fs.lookup name = some a) (hb : notBi a = true) (q : Q a Λ) : AttrS C n (.ref x) name Λ Q := by
  intro A E g s v hA ok va
  apply va.onRef
  obtain ⟨es, m, I, hfs⟩ := led_at ok hx hd
  obtain ⟨v, hg, hv⟩ := (hfs.get (x := name)).1 a hl
  exact get_value (Gd.kIn ok) I o.ga (findObj_own o.hd o.fn rfl hg) (handed hv hb) (Post.tick ok _ hv q)
/-- an attribute of the class -/
theorem AttrS.cls {a : Value} {b : V} (ga : findIn (K C.w.params) (.ref Cl) "__getattribute__" = some (some (.builtin "object.__getattribute__"))) (hd : hasDictIn (K C.w.params) Cl = true)
    (ha : findIn (K C.w.params) (.ref Cl) name = some (some a)) (hn : specialIn (K C.w.params) a "__get__" = some none) (hv : handedIn a = true) (hc : copiedNames.contains name = false) (hl : fs.lookup name = none)
    (hb : VR C.prog C.w C.base.get? a b) (q : Q b Λ) : AttrS C n (.ins Cl fs) name Λ Q := by
  intro A E g s v hA ok va
  obtain ⟨x, dx, es, m, rfl, I, hfs⟩ := ins_at ok va
  exact get_value (Gd.kIn ok) I ga (findObj_cls hd ha hn hv hc ((hfs.get (x := name)).2 hl)) hv (Post.tick ok _ (hb.mono ok.bas) q)
/-- a method of the program's own -/
theorem MethS.user {f : Addr} {Q : Value → List V → Prop} (ga : findIn (K C.w.params) (.ref Cl) "__getattribute__" = some (some (.builtin "object.__getattribute__"))) (hk : findIn (K C.w.params) (.ref Cl) "__getattr__" = some none)
    (hf : findIn (K C.w.params) (.ref Cl) name = some (some (.ref f))) (ht : typeIn (K C.w.params) (.ref f) = some (.type "function")) (hl : fs.lookup name = none) (q : Q (.ref f) [.ins Cl fs]) : MethS C n (.ins Cl fs) name Λ Q := by
  intro A E g s v pl R hA ok va k
  obtain ⟨x, dx, es, m, rfl, I, hfs⟩ := ins_at ok va
  refine method_fn (Gd.kIn ok) I ga hk hf ht ?_ (k _ _ _ q (.cons va .nil))
  unfold shadowIn
  show Option.map _ (getL name es) = _
  rw [(hfs.get (x := name)).2 hl]; rfl
end

/-- an object of a class is never changed any more -/
theorem Ev.frzI {e : Expr} {Q : V → Led → Prop} (h : Ev B ρ e Λ (QFrzI Q)) : Ev B ρ e Λ Q := fun g s o f => by
  refine wpAny_mono (h g s o f) (fun v s₁ hh => ?_) fun _ _ x => x
  obtain ⟨g₁, Λ₁, a, o₁, x₁, va, x, Cl, dx, fs, ea, ne, hx, hd, q⟩ := hh
  subst ea
  obtain ⟨es, m, D, hfs⟩ := (o₁.led _ _ hd).2
  obtain ⟨o₂, x₂, e₂, le₂⟩ := o₁.freeze hd D
  have hx' : drop Λ₁ dx x = some (.inst Cl dx) := by simp only [drop, if_neg ne]; exact hx
  obtain ⟨o₃, x₃, e₃, le₃⟩ := o₂.freeze hx' (o₁.led _ _ hx).2
  apply va.onRef
  exact ⟨_, _, _, o₃, (x₁.trans x₂).trans x₃, .ins e₃ (le₃ _ _ e₂) (hfs.mono fun a o e => le₃ _ _ (le₂ _ _ e)), q⟩

-- calls
inductive LR (prog : Program) (w : World) (g : FV) : List (PySem.Str × Value) → Loc → Prop
  | nil : LR prog w g [] []
  | cons {x v a l m} : VR prog w g v a → LR prog w g l m → LR prog w g ((x, v) :: l) ((x, a) :: m)
section
variable {prog : Program} {w : World} {g : FV}
theorem LR.append {l l' m m'} (h : LR prog w g l m) (h' : LR prog w g l' m') : LR prog w g (l ++ l') (m ++ m') := by
  induction h with
  | nil => exact h'
  | cons a r ih => exact .cons a ih
theorem LR.rev {l m} (h : LR prog w g l m) : LR prog w g l.reverse m.reverse := by
  induction h with
  | nil => exact .nil
  | cons a r ih => rw [List.reverse_cons, List.reverse_cons]; exact ih.append (.cons a .nil)
theorem LR.zip {names : List PySem.Str} {vs : List Value} {as : List V} (h : VRs prog w g vs as) : LR prog w g (names.zip vs) (names.zip as) := by
  induction names generalizing vs as with
  | nil => exact .nil
  | cons x r ih => cases as with
    | nil => apply h.onNil; exact .nil
    | cons a as => apply h.onCons; intro u us hu t; exact .cons hu (ih t)
theorem LR.get {x : PySem.Str} {l : List (PySem.Str × Value)} {m : Loc} (hh : LR prog w g l m) : ∀ {a}, m.lookup x = some a → ∃ v, l.lookup x = some v ∧ VR prog w g v a ∧ x ∈ l.map (·.1) := by
  induction hh with
  | nil => intro a e; exact nomatch e
  | @cons y v b l m h r ih =>
    intro a e
    rw [List.lookup_cons] at e ⊢
    by_cases q : x = y
    · subst q
      simp only [beq_self_eq_true] at e ⊢
      cases e
      exact ⟨v, rfl, h, by simp⟩
    · have : (x == y) = false := by simpa using q
      simp only [this] at e ⊢
      obtain ⟨v, h1, h2, h3⟩ := ih e
      exact ⟨v, h1, h2, by simp [h3]⟩
theorem LR.mono {g' : FV} (k : FV.le g g') {l m} (h : LR prog w g l m) : LR prog w g' l m := by
  induction h with
  | nil => exact .nil
  | cons a r ih => exact .cons (a.mono k) ih
end
noncomputable def retOf : Fl → V
  | .ret a => a
  | _ => .none
theorem AOK.deeper {A : Around} {n : Nat} (h : AOK A (n + 1)) (env : Env) : AOK (A.deeper env) n := ⟨h.hh, by have := h.dep; show A.depth + 1 + 2 * n + 2 < _; omega, by have := h.uni; show A.units + 3 + 8 * n + 8 < _; omega⟩

/-- the call of a function: its body in a frame of its own -/
theorem def_core {A : Around} {f : Addr} {oc : Value} {od an : Option Addr} {osl : Array (Option Value)} {name qual : PySem.Str} {params : Arguments} {body : List Stmt} {scope : Scope} {dV kV doc pm cdv ct : Value} {as da : List V} {names : List PySem.Str} {dv vs : List Value} {ρ : Loc}
    {R : Result → Shared → Prop} {g : FV} {s : Shared} {Q : V → Led → Prop}
    (ho : (K C.w.params).lookup f = some ⟨oc, od, .func (fnOf name qual params body scope dV kV doc pm an cdv ct), osl⟩) (hcd : codeIn (K C.w.params) cdv qual = true)
    (hb : ∀ (s : Shared) vs, (K C.w.params).In s.heap → vs.length = as.length → BindsTo s (fnOf name qual params body scope dV kV doc pm an cdv ct) ⟨vs, []⟩ (names.zip (vs ++ dv)))
    (hdv : VRs C.prog C.w C.base.get? dv da) (hloc : ∀ x ∈ names, scope.names.lookup x = some .local) (hcell : ∀ x ∈ scope.names, x.2 ≠ .cell)
    (hk : scope.kind = .function) (hco : scope.isCoroutine = false) (hgen : scope.isGenerator = false) (hρ : (names.zip (as ++ da)).reverse = ρ)
    (hA : A.depth < recursionLimit) (o : Ok C g Λ s) (hv : VRs C.prog C.w g vs as)
    (hR : ∀ v s', Post C g Λ s Q v s' → R (.ok (.ret v)) s')
    (h : ∀ L s₁, Ok C g Λ s₁ → Frm C (callEnv (fnOf name qual params body scope dV kV doc pm an cdv ct) L f) ρ g Λ s₁ → s.heap.get? L = none → (∀ b ob, s.heap.get? b = some ob → s₁.heap.get? b = some ob) → 
      wpAny (model C.prog C.w) (A.deeper (callEnv (fnOf name qual params body scope dV kV doc pm an cdv ct) L f)) (execs body (callEnv (fnOf name qual params body scope dV kV doc pm an cdv ct) L f))
        (PostS C (callEnv (fnOf name qual params body scope dV kV doc pm an cdv ct) L f) g Λ s₁ fun fl ρ' Λ' => Q (retOf fl) Λ')
        (fun e s' => wpAny (model C.prog C.w) (A.deeper (callEnv (fnOf name qual params body scope dV kV doc pm an cdv ct) L f)) (leaving (callEnv (fnOf name qual params body scope dV kV doc pm an cdv ct) L f) e) (fun _ s'' => R (.error e) s'') (fun e' s'' => R (.error e') s'') s') s₁) :
    codeAny (model C.prog C.w) A (.call (.ref f) ⟨vs, []⟩) R s := by
  have X := Gd.kIn o
  refine codeAny_call_def (binds := names.zip (vs ++ dv)) hA (X _ _ ho) rfl (C.T.nolimit.keeps o.stays) (codeRec_of X hcd) rfl (hb s vs X hv.length) hcell (fun x hx => hloc _ (List.of_mem_zip hx).1) (fun h₁ hns kp => ?_) hco hgen hk
  have nL : s.heap.get? s.heap.objs.size = none := get_fresh _ (Nat.le_refl _)
  have fr := o.fresh nL
  have o₁ := o.grow (t := s.toks + (names.zip (vs ++ dv)).length) kp
  have x₁ := Step.grow g Λ s (t := s.toks + (names.zip (vs ++ dv)).length) kp
  refine wpAny_mono (h s.heap.objs.size _ o₁ ?_ nL kp) (fun fl s' ⟨g', Λ', ρ', fl', o', F', x', hf, q⟩ => ?_) fun _ _ x => x
  · have lr := (LR.zip (names := names) (hv.append (hdv.mono o.bas))).rev
    rw [hρ] at lr
    refine ⟨hk, rfl, rfl, fr, fun x c e => (nomatch e), fun x y c e => (nomatch e), _, hns, fun x a e => ?_⟩
    obtain ⟨v, h1, h2, h3⟩ := lr.get e
    refine .inl ⟨?_, v, h1, h2⟩
    have hx : x ∈ names := by
      rw [List.mem_map] at h3
      obtain ⟨p, hp, rfl⟩ := h3
      exact (List.of_mem_zip (List.mem_reverse.mp hp)).1
    exact hloc x hx
  · have st : Step g Λ s g' Λ' s' := by
      refine ⟨x'.gle, fun b ob hb hl => ?_, fun b hb => x'.live b (x₁.live b hb), x'.gens, x'.drawn, x'.os⟩
      have nb : b ≠ s.heap.objs.size := by first | exact opt_ne hb nL | exact Ne.symm (opt_ne hb nL) | (rintro rfl; rw [nL] at hb; cases hb)
      refine x'.keep b ob (kp _ _ hb) hl ?_
      rintro (q | ⟨x, q, _⟩)
      · exact nb q
      · exact nomatch q
    cases hf with
    | ret va => exact hR _ _ ⟨g', Λ', _, o', st, va, q⟩
    | next => exact hR _ _ ⟨g', Λ', _, o', st, .none, q⟩
    | brk => exact hR _ _ ⟨g', Λ', _, o', st, .none, q⟩
    | cont => exact hR _ _ ⟨g', Λ', _, o', st, .none, q⟩

/-- the call of a function that does not raise -/
noncomputable def FnS (C : Gd K) (n : Nat) (f : Value) (as : List V) (Λ : Led) (Q : V → Led → Prop) : Prop :=
  ∀ A g s vs (R : Result → Shared → Prop), AOK A n → Ok C g Λ s → VRs C.prog C.w g vs as → (∀ v s', Post C g Λ s Q v s' → R (.ok (.ret v)) s') → codeAny (model C.prog C.w) A (.call f ⟨vs, []⟩) R s
theorem FnS.call {n : Nat} {f : Value} {as : List V} {Q : V → Led → Prop} (h : FnS C n f as Λ Q) : CallS C n f as Λ Q := fun A E g s vs hA o hv => wpAny_call (h A g s vs _ hA o hv fun v s' p => p)
theorem FnS.mono {n : Nat} {f : Value} {as : List V} {Q Q' : V → Led → Prop} (h : FnS C n f as Λ Q) (k : ∀ a Λ', Q a Λ' → Q' a Λ') : FnS C n f as Λ Q' := fun A g s vs R hA o hv hR => h A g s vs R hA o hv fun v s' p => hR v s' (Post.mono k p)
theorem FnS.le {n m : Nat} {f : Value} {as : List V} {Q : V → Led → Prop} (h : FnS C n f as Λ Q) (k : n ≤ m) : FnS C m f as Λ Q := fun A g s vs R hA => h A g s vs R (hA.le k)
theorem FnS.def {n : Nat} {f : Addr} {oc : Value} {od an : Option Addr} {osl : Array (Option Value)} {name qual : PySem.Str} {params : Arguments} {body : List Stmt} {scope : Scope} {dV kV doc pm cdv ct : Value} {as da : List V} {names : List PySem.Str} {dv : List Value} {ρ : Loc} {Q : V → Led → Prop}
    (ho : (K C.w.params).lookup f = some ⟨oc, od, .func (fnOf name qual params body scope dV kV doc pm an cdv ct), osl⟩) (hcd : codeIn (K C.w.params) cdv qual = true)
    (hb : ∀ (s : Shared) vs, (K C.w.params).In s.heap → vs.length = as.length → BindsTo s (fnOf name qual params body scope dV kV doc pm an cdv ct) ⟨vs, []⟩ (names.zip (vs ++ dv)))
    (hdv : VRs C.prog C.w C.base.get? dv da) (hloc : ∀ x ∈ names, scope.names.lookup x = some .local) (hcell : ∀ x ∈ scope.names, x.2 ≠ .cell)
    (hk : scope.kind = .function) (hco : scope.isCoroutine = false) (hgen : scope.isGenerator = false) (hρ : (names.zip (as ++ da)).reverse = ρ)
    (h : ∀ A L (hA : AOK A n), Ex (C := C) ⟨callEnv (fnOf name qual params body scope dV kV doc pm an cdv ct) L f, A, fun _ _ => False, n, hA, PassesOwn.never⟩ body ρ Λ fun fl _ Λ' => Q (retOf fl) Λ') : FnS C (n + 1) (.ref f) as Λ Q := by
  intro A g s vs R hA o hv hR
  refine def_core ho hcd hb hdv hloc hcell hk hco hgen hρ (by have := hA.dep; omega) o hv hR fun L s₁ o₁ F₁ _ _ => ?_
  exact wpAny_mono (h _ L (hA.deeper _) g s₁ o₁ F₁) (fun _ _ x => x) fun _ _ x => x.elim

/-- an object of a class is made -/
theorem FnS.cls {n : Nat} {Cl fI : Addr} {as : List V} {Q : V → Led → Prop} (hm : makesIn (K C.w.params) Cl = true) (hi : findIn (K C.w.params) (.ref Cl) "__init__" = some (some (.ref fI))) (hf : typeIn (K C.w.params) (.ref fI) = some (.type "function"))
    (h : ∀ x dx, x ≠ dx → Λ x = none → Λ dx = none → FnS C (n + 1) (.ref fI) (.ref x :: as) (upd (upd Λ dx (.attrs [])) x (.inst Cl dx)) fun a Λ' => a = .none ∧ Q (.ref x) Λ') : FnS C (n + 2) (.ref Cl) as Λ Q := by
  intro A g s vs R hA o hv hR
  have X := Gd.kIn o
  obtain ⟨hp, gs, d, t, os⟩ := s
  refine make_core (makes_of X hm) (looks_findIn X hi) (fun self => bind_fn X self hf) (.inl rfl) ?_
  have n1 : hp.get? hp.objs.size = none := get_fresh _ (Nat.le_refl _)
  have n2 : hp.get? (hp.objs.size + 1) = none := get_fresh _ (Nat.le_succ _)
  obtain ⟨o₁, x₁, e₁⟩ := o.alloc (a := hp.objs.size) (o := .attrs []) (h' := hp.push emptyDict) (t := t) n1 (fun b ob e => Heap.get?_push_of_some _ e) ⟨[], 0, Heap.get?_push_size _ rfl, .nil⟩
  have sz : (hp.push emptyDict).objs.size = hp.objs.size + 1 := Heap.size_push ..
  have n2' : (hp.push emptyDict).get? (hp.objs.size + 1) = none := get_fresh _ (by rw [sz]; exact Nat.le_refl _)
  have gx : ((hp.push emptyDict).push (instObj Cl hp.objs.size)).get? (hp.objs.size + 1) = some (instObj Cl hp.objs.size) := by heap_get
  obtain ⟨o₂, x₂, e₂⟩ := o₁.alloc (a := hp.objs.size + 1) (o := .inst Cl hp.objs.size) (h' := (hp.push emptyDict).push (instObj Cl hp.objs.size)) (t := t) n2' (fun b ob e => Heap.get?_push_of_some _ e) gx
  have hA' : AOK (A.under (.builtin "type.__call__" ⟨.ref Cl :: vs, []⟩)) (n + 1) := by
    refine ⟨hA.hh, ?_, ?_⟩
    · have := hA.dep
      show A.depth + Code.weight _ + 2 * (n + 1) + 2 < _
      rw [show Code.weight (.builtin "type.__call__" ⟨.ref Cl :: vs, []⟩) = 1 from rfl]
      omega
    · have := hA.uni
      show A.units + Code.cUnits _ + 8 * (n + 1) + 8 < _
      rw [show Code.cUnits (.builtin "type.__call__" ⟨.ref Cl :: vs, []⟩) = 1 from rfl]
      omega
  refine h (hp.objs.size + 1) hp.objs.size (Nat.succ_ne_self _) (o.fresh n2).2 (o.fresh n1).2 _ g _ (.ref (hp.objs.size + 1) :: vs) _ hA' o₂ (.cons (.ref _) hv) fun v s' hh => ?_
  obtain ⟨g', Λ', a, o', x', va, ea, q⟩ := hh
  subst ea
  apply va.onNone
  exact ⟨rfl, hR _ _ ⟨g', Λ', _, o', (x₁.trans x₂).trans x', .ref _, q⟩⟩
end Mine
end
section
namespace Mine
variable {K : Params → Frag} {C : Gd K} {B : Bd C} {ρ : Loc} {Λ : Led}

/-- an object of the machine's own is taken into the ledger -/
theorem Ok.adopt {g : FV} {s : Shared} (x : Ok C g Λ s) {a : Addr} {o : O} (gn : g a = none) (e : OAt C g s.heap a o) : Ok C g (upd Λ a o) s := by
  refine ⟨x.gin, x.low, fun b ob hb => ?_, x.rest⟩
  by_cases q : b = a
  · subst q; simp only [upd, if_true] at hb; cases hb; exact ⟨gn, e⟩
  · simp only [upd, if_neg q] at hb; exact x.led b ob hb
theorem Step.adopt {g g' : FV} {Λ Λ' : Led} {s s' : Shared} (x : Step g Λ s g' Λ' s') {a : Addr} {o : O} (n : s.heap.get? a = none) : Step g Λ s g' (upd Λ' a o) s' := by
  refine ⟨x.gle, fun b ob hb hl => ?_, x.live, x.gens, x.drawn, x.os⟩
  obtain ⟨k1, k2, k3⟩ := x.keep b ob hb hl
  have q : b ≠ a := by first | exact opt_ne hb n | exact Ne.symm (opt_ne hb n) | (rintro rfl; rw [n] at hb; cases hb)
  exact ⟨k1, by simp only [upd, if_neg q]; exact k2, k3⟩

/-- a store into a frame of one's own that nobody else sees -/
theorem storeL_wp {x : PySem.Str} {v : Value} {a : V} {g : FV} {s : Shared} {A : Around} {E : Value → Shared → Prop} {R : Unit → Shared → Prop} {env : Env} (o : Ok C g Λ s) (F : Frm C env ρ g Λ s) (hv : VR C.prog C.w g v a) (hx : env.kindOf x = some .local)
    (k : ∀ s', Ok C g Λ s' → Frm C env ((x, a) :: ρ) g Λ s' → (∀ b ob, b ≠ env.locals → s.heap.get? b = some ob → s'.heap.get? b = some ob) → (∃ h' t, s' = mv s h' t) → R () s') : wpAny (model C.prog C.w) A (storeName env x v) R E s := by
  obtain ⟨m, hn, hm⟩ := F.ns
  have lk : ∀ y b, ((x, a) :: ρ).lookup y = some b → (y = x ∧ b = a) ∨ (y ≠ x ∧ ρ.lookup y = some b) := fun y b e => by
    rw [List.lookup_cons] at e
    by_cases q : y = x
    · subst q; simp only [beq_self_eq_true] at e; cases e; exact .inl ⟨rfl, rfl⟩
    · have : (y == x) = false := by simpa using q
      simp only [this] at e; exact .inr ⟨q, e⟩
  refine wpAny_storeName_local hx hn (fun h' hn' hs => ?_) (by rw [F.kind]; rfl)
  have kp : ∀ b ob, b ≠ env.locals → s.heap.get? b = some ob → h'.get? b = some ob := fun b ob q e => (hs.2 b q).trans e
  have nc : ∀ c ob v, s.heap.get? c = some ob → ob.data = .cell v → c ≠ env.locals := by
    rintro c ob v e hd rfl
    obtain ⟨oL, es, ep, h1, h2, _⟩ := hn
    rw [e] at h1; cases h1; rw [hd] at h2; cases h2
  refine k _ ⟨fun b ob e => kp b ob (by first | exact opt_ne e F.out.1 | exact Ne.symm (opt_ne e F.out.1) | (rintro rfl; rw [F.out.1] at e; cases e)) (o.gin b ob e), o.low, fun b ob e => ⟨(o.led b ob e).1, (o.led b ob e).2.keeps (fun _ _ e => e) fun c hc => kp _ _ (by first | exact opt_ne e F.out.2 | exact Ne.symm (opt_ne e F.out.2) | (rintro rfl; rw [F.out.2] at e; cases e)) hc⟩, o.rest⟩
    ⟨F.kind, F.glob, F.blt, F.out, fun y c e => ?_, F.inj, _, hn', fun y b e => ?_⟩ kp ⟨_, _, rfl⟩
  · obtain ⟨ob, v, h1, h2, h3, h4⟩ := F.cel y c e
    exact ⟨ob, v, kp _ _ (nc _ _ _ h1 h2) h1, h2, h3, h4⟩
  · rcases lk y b e with ⟨rfl, rfl⟩ | ⟨q, e⟩
    · exact .inl ⟨hx, v, by simp, hv⟩
    · rcases hm y b e with ⟨h1, v', h2, h3⟩ | ⟨h1, c, ob, v', h2, h3, h4, h5⟩
      · exact .inl ⟨h1, v', by simp [q, h2], h3⟩
      · exact .inr ⟨h1, c, ob, v', h2, kp _ _ (nc _ _ _ h3 h4) h3, h4, h5⟩

/-- the body of a comprehension -/
noncomputable abbrev cB (B : Bd C) (scope : Scope) (cl : List (PySem.Str × Addr)) (Cc : Addr) : Bd C := ⟨compEnvC scope cl Cc B.env, B.A, fun _ _ => False, B.n, B.hA, PassesOwn.never⟩
/-- the tests of a comprehension -/
noncomputable def TstF (B : Bd C) (ρ : Loc) (ifs : List Expr) (Λ : Led) (Q : Bool → Led → Prop) : Prop :=
  ∀ g s, Ok C g Λ s → Frm C B.env ρ g Λ s → wpAny (model C.prog C.w) B.A (forIn ifs true fun c r => if r = true then do let ok ← isTrue c B.env (eval c B.env); pure (ForInStep.yield ok) else pure (ForInStep.yield r)) (PostB C g Λ s Q) B.E s
theorem TstF.nil {Q : Bool → Led → Prop} (h : Q true Λ) : TstF B ρ [] Λ Q := fun g s o F => by
  simp only [List.forIn_nil]; exact wpAny_pure ⟨g, Λ, o, .refl .., h⟩
theorem TstF.one {c : Expr} {Q : Bool → Led → Prop} (h : Tst B ρ c Λ Q) : TstF B ρ [c] Λ Q := fun g s o F => wpAny_tests_one (h g s o F)

/-- what the comprehension's frame takes from outside -/
structure Takes (env : Env) (scope : Scope) (cl : List (PySem.Str × Addr)) (ρc ρ : Loc) : Prop where
  clos : closureFor scope env = pure cl
  sub : ∀ x c, cl.lookup x = some c → env.cells.lookup x = some c
  vars : ∀ x a, ρc.lookup x = some a → ρ.lookup x = some a ∧ (cl.lookup x).isSome = true ∧ ((relabel scope env).names.lookup x = some .cell ∨ (relabel scope env).names.lookup x = some .free) ∧ (env.kindOf x = some .cell ∨ env.kindOf x = some .free)

theorem Frm.sub' {B : Bd C} {x : PySem.Str} {y : V} {scope : Scope} {cl : List (PySem.Str × Addr)} {ρc : Loc} {Cc : Addr} {g : FV} {s : Shared} (F : Frm C (compEnvC scope cl Cc B.env) ((x, y) :: ρc) g Λ s) (hxl : (compEnvC scope cl Cc B.env).kindOf x = some .local) (T : Takes B.env scope cl ρc ρ) :
    Frm C (compEnvC scope cl Cc B.env) ρc g Λ s := F.sub fun z a e => by
  rw [List.lookup_cons]
  have q : (z == x) = false := by
    rw [beq_eq_false_iff_ne]
    rintro rfl
    obtain ⟨_, _, h, _⟩ := T.vars z a e
    have hxl' : (relabel scope B.env).names.lookup z = some .local := hxl
    rcases h with h | h <;> (rw [hxl'] at h; cases h)
  simp only [q]; exact e

theorem Step.offs {g g' : FV} {Λ Λ' : Led} {s s' : Shared} (x : Step g Λ s g' Λ' s') {wr : List Addr} {h' : Heap} {t : Nat} (n : ∀ b ∈ wr, s.heap.get? b = none) (k : ∀ b ob, b ∉ wr → s'.heap.get? b = some ob → h'.get? b = some ob) : Step g Λ s g' Λ' (mv s' h' t) := by
  have no : ∀ {b}, s.heap.get? b ≠ none → b ∉ wr := fun {b} h q => h (n b q)
  refine ⟨x.gle, fun b obj hb hl => ?_, fun b hb => ?_, x.gens, x.drawn, x.os⟩
  · obtain ⟨q1, q2, q3⟩ := x.keep b obj hb hl
    exact ⟨q1.trans fun ob' e => .inl (k b ob' (no (by rw [hb]; exact Option.some_ne_none _)) e), q2, q3⟩
  · obtain ⟨ob', e⟩ := Option.ne_none_iff_exists'.mp (x.live b hb)
    show h'.get? b ≠ none
    rw [k b ob' (no hb) e]
    exact Option.some_ne_none _
inductive QComp (I : List V → List V → Led → Prop) (C : Gd K) (n : Nat) (a : V) (Λ : Led) : Prop
  | mk (xs : List V) (t : IterS C n a Λ xs) (z : xs.length ≤ sizeLine) (h : I xs [] Λ) : QComp I C n a Λ
noncomputable abbrev QCl (I : List V → List V → Led → Prop) (ys acc : List V) (a : V) (Λ : Led) : Prop := I ys (acc ++ [a]) Λ
noncomputable abbrev QTurn (I : List V → List V → Led → Prop) (B : Bd C) (ρ : Loc) (elt : Expr) (ys acc : List V) (ok : Bool) (Λ : Led) : Prop := if ok then Ev B ρ elt Λ (QCl I ys acc) else I ys acc Λ
inductive CompI (I : List V → List V → Led → Prop) (C : Gd K) (env : Env) (ρc : Loc) (g₁ : FV) (Λ₁ : Led) (s₁ : Shared) (xs : List V) (St : Nat → Heap → Prop) (It D : Addr) (n : Nat) (s' : Shared) : Prop
  | mk (k : Nat) (acc : List V) (vacc : List Value) (m : Nat) (g' : FV) (Λ' : Led) (hk : k ≤ xs.length) (e : n = xs.length + 1 - k) (ha : acc.length ≤ k) (st : St k s'.heap) (hI : I (xs.drop k) acc Λ') (o : Ok C g' Λ' s') (F : Frm C env ρc g' Λ' s')
      (x : Step g₁ Λ₁ s₁ g' Λ' s') (gI : g' It = none) (lI : Λ' It = none) (gD : g' D = none) (lD : Λ' D = none) (eD : s'.heap.get? D = some (listOf (vacc : List Value).toArray m)) (hv : VRs C.prog C.w g' vacc acc) : CompI I C env ρc g₁ Λ₁ s₁ xs St It D n s'
theorem comp_loop (I : List V → List V → Led → Prop) {elt iter : Expr} {x : PySem.Str} {px : Pos} {ifs : List Expr} {scope : Scope} {cl : List (PySem.Str × Addr)} {ρc : Loc} {pos : Pos} {P : Result → Shared → Prop}
    (T : Takes B.env scope cl ρc ρ) (hkind : scope.kind = .function) (hx : scope.names.lookup x = some .local)
    (turn : ∀ Cc y ys acc Λ', I (y :: ys) acc Λ' → TstF (cB B scope cl Cc) ((x, y) :: ρc) ifs Λ' (QTurn I (cB B scope cl Cc) ((x, y) :: ρc) elt ys acc))
    {g₁ : FV} {Λ₁ : Led} {s₁ : Shared} (o₁ : Ok C g₁ Λ₁ s₁) (F₁ : Frm C B.env ρ g₁ Λ₁ s₁) {xs : List V} {It D Cc : Addr} {h₁ : Heap} {fp : List Addr} {Pi : Nat → Value → Prop} {St : Nat → Heap → Prop} (hI : I xs [] Λ₁)
    (W : Walks C.prog C.w B.A It fp [It] xs.length Pi St) (st₃ : St 0 h₁) (hz : xs.length ≤ sizeLine) (nIt : s₁.heap.get? It = none) (nD₁ : s₁.heap.get? D = none) (nC₁ : s₁.heap.get? Cc = none) (hDC : D ≠ Cc) (IC : It ≠ Cc) (ID : It ≠ D)
    (kp₁ : ∀ b ob, s₁.heap.get? b = some ob → h₁.get? b = some ob) (hfp : ∀ b ∈ fp, b = It ∨ ∃ o, g₁ b = some o) (hP : ∀ i v', Pi i v' → ∃ x, xs[i]? = some x ∧ VR C.prog C.w g₁ v' x) (hfl : ∀ i h, St i h → ∃ o vs, h.get? It = some o ∧ o.data = .fields vs)
    (gD : h₁.get? D = some (listOf #[] 0)) {m₁ : PySem.Str → Option Value} (hns₁ : h₁.Ns Cc m₁)
    (hfin : ∀ g' Λ' s' acc, Ok C g' (upd Λ' D (.list acc)) s' → Step g₁ Λ₁ s₁ g' (upd Λ' D (.list acc)) s' → I [] acc Λ' → Λ' D = none → (∃ m, s'.heap.Ns Cc m) → g' Cc = none → Λ' Cc = none → P (.ok .next) s') (t₀ : Nat) :
    codeAny (model C.prog C.w) B.A (.compStart (.ListComp elt [⟨.Name x px, iter, ifs, 0⟩] scope pos) 0 (.ref It) (.ref D) (compEnvC scope cl Cc B.env)) P (mv s₁ h₁ t₀) := by
  have frI := o₁.fresh nIt
  have frD := o₁.fresh nD₁
  have frC := o₁.fresh nC₁
  have F₃ : Frm C B.env ρ g₁ Λ₁ (mv s₁ h₁ s₁.toks) := F₁.step (Step.grow g₁ Λ₁ s₁ (t := s₁.toks) kp₁)
  -- the comprehension's frame
  have Fc : ∀ (t : Nat), Frm C (compEnvC scope cl Cc B.env) ρc g₁ Λ₁ (mv s₁ h₁ t) := fun t => by
    obtain ⟨m, hn, hm⟩ := F₃.ns
    refine ⟨by simp [compEnvC, relabel, hkind], F₃.glob, F₃.blt, frC, fun y c e => F₃.cel y c (T.sub y c e), fun y z c e1 e2 => F₃.inj y z c (T.sub _ _ e1) (T.sub _ _ e2), _, hns₁, fun y a e => ?_⟩
    obtain ⟨v1, v2, v3, v4⟩ := T.vars y a e
    obtain ⟨c, hc⟩ := Option.isSome_iff_exists.mp v2
    refine .inr ⟨v3, c, ?_⟩
    rcases hm y a v1 with ⟨q, _⟩ | ⟨_, c', ob, v, q1, q2, q3, q4⟩
    · rcases v4 with v4 | v4 <;> (rw [q] at v4; cases v4)
    · have := T.sub _ _ hc
      rw [q1] at this; cases this
      exact ⟨ob, v, hc, q2, q3, q4⟩
  have hxl : (compEnvC scope cl Cc B.env).kindOf x = some .local := lookup_relabel_local hx
  have notC : ∀ y c, (compEnvC scope cl Cc B.env).cells.lookup y = some c → c ≠ Cc ∧ c ≠ D ∧ c ≠ It := fun y c e => by
    obtain ⟨ob, v, e1, _⟩ := F₁.cel y c (T.sub y c e)
    refine ⟨?_, ?_, ?_⟩ <;> rintro rfl
    · rw [nC₁] at e1; cases e1
    · rw [nD₁] at e1; cases e1
    · rw [nIt] at e1; cases e1
  have loop : ∀ s₄ : Shared, (∃ t, s₄ = mv s₁ h₁ t) →
      codeAny (model C.prog C.w) B.A (.compLoop (.ListComp elt [⟨.Name x px, iter, ifs, 0⟩] scope pos) 0 (.ref It) (.ref D) (compEnvC scope cl Cc B.env)) P s₄ := by
    rintro s₄ ⟨t₄, rfl⟩
    refine codeAny_compLoop_tests (I := CompI I C (compEnvC scope cl Cc B.env) ρc g₁ Λ₁ s₁ xs St It D) ?_ (xs.length + 1)
      ⟨0, [], [], 0, g₁, Λ₁, Nat.zero_le _, rfl, Nat.le_refl _, st₃, hI, o₁.grow kp₁, Fc _, Step.grow g₁ Λ₁ s₁ kp₁, frI.1, frI.2, frD.1, frD.2, gD, .nil⟩
    rintro n s' ⟨k, acc, vacc, m, g', Λ', hk, rfl, hacc, st', hI', o', F', x', gI, lI, gDn, lD, eD, hvs⟩
    have goD : ∀ {h'' : Heap}, (∀ b ob, b ∉ [It] → s'.heap.get? b = some ob → h''.get? b = some ob) → h''.get? D = some (listOf vacc.toArray m) := fun kk => kk D _ (by simpa using ID.symm) eD
    by_cases hlt : k < xs.length
    · have hd : xs.drop k = xs[k] :: xs.drop (k + 1) := List.drop_eq_getElem_cons hlt
      refine W.item k s' _ _ hlt st' fun v' h₂ tk₂ hPv st₂ k₂ => ?_
      obtain ⟨y, hy, vy⟩ := hP k v' hPv
      have ey : xs[k] = y := by rw [List.getElem?_eq_getElem hlt] at hy; exact Option.some.inj hy
      rw [hd, ey] at hI'
      obtain ⟨oa, Fa⟩ := offs_ok (t := tk₂) (wr := [It]) o' F' (fun b hb => by rw [List.mem_singleton.mp hb]; exact ⟨gI, lI, IC.symm, fun y c e => (notC y c e).2.2⟩) k₂
      have eDa := goD k₂
      obtain ⟨oI, vsI, eI, dI⟩ := hfl (k + 1) h₂ st₂
      refine wpAny_assign_Name (storeL_wp oa Fa (vy.mono x'.gle) hxl fun s₃ ob Fb kb eb => ?_)
      have eDb := kb _ _ hDC eDa
      have eIb := kb _ _ IC eI
      have xb : Step g₁ Λ₁ s₁ g' Λ' s₃ := by
        obtain ⟨h₃, t₃, rfl⟩ := eb
        exact (x'.offs (wr := [It]) (t := tk₂) (fun b hb => by rw [List.mem_singleton.mp hb]; exact nIt) k₂).offs (wr := [Cc]) (fun b hb => by rw [List.mem_singleton.mp hb]; exact nC₁) fun b ob' q e => kb b ob' (fun e' => q (List.mem_singleton.mpr e')) e
      -- a turn's end: from a state behind the element
      have kept : ∀ {g₅ Λ₅ s₅}, Step g' Λ' s₃ g₅ Λ₅ s₅ → s₅.heap.get? D = some (listOf vacc.toArray m) ∧ g₅ D = none ∧ Λ₅ D = none ∧ s₅.heap.get? It = some oI ∧ g₅ It = none ∧ Λ₅ It = none := fun {g₅ Λ₅ s₅} x₅ => by
        obtain ⟨q1, q2, q3⟩ := x₅.keep D _ eDb lD
        obtain ⟨r1, r2, r3⟩ := x₅.keep It _ eIb lI
        refine ⟨?_, q3.trans gDn, q2, ?_, r3.trans gI, r2⟩
        · rcases q1 with e | ⟨_, _, _, z, _⟩
          · exact e
          · cases z
        · rcases r1 with e | ⟨_, _, _, z, _⟩
          · exact e
          · rw [dI] at z; cases z
      have stk : ∀ {g₅ Λ₅ s₅}, Ok C g₅ Λ₅ s₅ → Step g' Λ' s₃ g₅ Λ₅ s₅ → St (k + 1) s₅.heap := fun {g₅ Λ₅ s₅} o₅ x₅ => W.frame _ _ _ st₂ fun b hb ob' e => by
        rcases hfp b hb with rfl | ⟨og, eg⟩
        · rw [eI] at e; cases e; exact (kept x₅).2.2.2.1
        · have e1 := oa.gin b og (x'.gle _ _ eg)
          rw [e] at e1; cases e1
          exact o₅.gin b _ (x₅.gle _ _ (x'.gle _ _ eg))
      refine wpAny_mono (turn Cc y _ acc Λ' hI' g' s₃ ob Fb) (fun ok s₅ hh => ?_) fun _ _ x => x.elim
      obtain ⟨g₅, Λ₅, o₅, x₅, h₅⟩ := hh
      cases ok with
      | false =>
        obtain ⟨z1, z2, z3, z4, z5, z6⟩ := kept x₅
        have F₅ := Fb.step x₅
        rw [if_neg Bool.false_ne_true]
        exact ⟨xs.length + 1 - (k + 1), by omega, k + 1, acc, vacc, m, g₅, Λ₅, hlt, rfl, Nat.le_succ_of_le hacc, stk o₅ x₅, h₅, o₅, F₅.sub' hxl T, xb.trans x₅, z5, z6, z2, z3, z1, hvs.mono x₅.gle⟩
      | true =>
        rw [if_pos rfl]
        refine wpAny_mono (h₅ g₅ s₅ o₅ (Fb.step x₅)) (fun u s₆ hh => ?_) fun _ _ x => x.elim
        obtain ⟨g₆, Λ₆, a₆, o₆, x₆, ua, h₆⟩ := hh
        have x₅₆ := x₅.trans x₆
        obtain ⟨z1, z2, z3, z4, z5, z6⟩ := kept x₅₆
        have F₆ := Fb.step x₅₆
        have lv := hvs.length
        refine call_meets PySem.F.slot_list_append ⟨_, z1, rfl⟩ PySem.F.entry_list_append (PySem.F.args_list_append_2 _ _) (AutoListH.list_append_list_val_0 D vacc.toArray m u (by simp; omega)) ⟨z1, ?_⟩
        have up := PySem.IsL.update (h := s₆.heap) (l := D) (items := vacc.toArray) (n := m) z1 (fun y => y.push u)
        have ku : ∀ b ob', b ∉ [D] → s₆.heap.get? b = some ob' → (s₆.heap.update D (Obj.mapSeq fun y => y.push u)).get? b = some ob' := fun b ob' q e => get_update_ne (by simpa using q) e
        obtain ⟨o₇, F₇⟩ := offs_ok (t := s₆.toks) (wr := [D]) o₆ F₆ (fun b hb => by rw [List.mem_singleton.mp hb]; exact ⟨z2, z3, hDC.symm, fun y c e => (notC y c e).2.1⟩) ku
        refine ⟨xs.length + 1 - (k + 1), by omega, k + 1, acc ++ [a₆], vacc ++ [u], _, g₆, Λ₆, hlt, rfl, by simp; omega, W.frame _ _ _ (stk o₆ x₅₆) fun b hb ob' e => ?_, h₆, o₇, F₇.sub' hxl T, ?_, z5, z6, z2, z3, by rw [← List.push_toArray]; exact up, (hvs.mono x₅₆.gle).append (.cons ua .nil)⟩
        · refine ku b ob' ?_ e
          rw [List.mem_singleton]
          rintro rfl
          rcases hfp b hb with rfl | ⟨og, eg⟩
          · exact ID rfl
          · have := o₁.gin _ _ eg; rw [nD₁] at this; cases this
        · exact (xb.trans x₅₆).offs (wr := [D]) (fun b hb => by rw [List.mem_singleton.mp hb]; exact nD₁) ku
    · have hin : k = xs.length := by omega
      subst hin
      refine W.done s' _ _ st' fun h₂ tk₂ k₂ => ?_
      rw [List.drop_length] at hI'
      obtain ⟨oa, Fa⟩ := offs_ok (t := tk₂) (wr := [It]) o' F' (fun b hb => by rw [List.mem_singleton.mp hb]; exact ⟨gI, lI, IC.symm, fun y c e => (notC y c e).2.2⟩) k₂
      have eDa := goD k₂
      have xa : Step g₁ Λ₁ s₁ g' Λ' (mv s' h₂ tk₂) := x'.offs (wr := [It]) (fun b hb => by rw [List.mem_singleton.mp hb]; exact nIt) k₂
      obtain ⟨mC, nsC, _⟩ := Fa.ns
      exact hfin g' Λ' _ acc (oa.adopt gDn ⟨_, vacc, eDa, ⟨_, rfl⟩, hvs⟩) (xa.adopt nD₁) hI' lD ⟨mC, nsC⟩ Fa.out.1 Fa.out.2
  exact codeAny_compStart_list (loop _ ⟨_, rfl⟩) (W.self 0 _ _ _ st₃ (loop _ ⟨_, rfl⟩))
theorem comp_core (I : List V → List V → Led → Prop) {elt iter : Expr} {x : PySem.Str} {px : Pos} {ifs : List Expr} {scope : Scope} {cl : List (PySem.Str × Addr)} {ρc : Loc} {pos fpos : Pos} {use : Option (Value → Sem Unit)} {Qf : Value → Shared → Prop} {g : FV} {s : Shared} (o : Ok C g Λ s) (F : Frm C B.env ρ g Λ s)
    (T : Takes B.env scope cl ρc ρ) (hcell : ∀ y ∈ scope.names, y.2 ≠ .cell) (hkind : scope.kind = .function) (hnames : ∀ y ∈ scope.names, y.2 = .local → scope.names.lookup y.1 = some .local) (hx : scope.names.lookup x = some .local)
    (h : Ev B ρ iter Λ (QComp I C B.n))
    (turn : ∀ Cc y ys acc Λ', I (y :: ys) acc Λ' → TstF (cB B scope cl Cc) ((x, y) :: ρc) ifs Λ' (QTurn I (cB B scope cl Cc) ((x, y) :: ρc) elt ys acc))
    (hfin : ∀ g' Λ' s' D Cc acc, Ok C g' (upd Λ' D (.list acc)) s' → Step g Λ s g' (upd Λ' D (.list acc)) s' → I [] acc Λ' → Λ' D = none → s.heap.get? Cc = none → (∃ m, s'.heap.Ns Cc m) → g' Cc = none → Cc ≠ D → Λ' Cc = none → compPost (model C.prog C.w) B.A B.E use Qf (.ref D) Cc (.ok .next) s')
    (hs : ∀ x, foldedSetIterable iter B.env x = pure x := by intro _; rfl) :
    wpAny (model C.prog C.w) B.A (comprehension (.ListComp elt [⟨.Name x px, iter, ifs, 0⟩] scope pos) scope B.env fpos (newList []) false (eval iter B.env) use) Qf B.E s := by
  refine wpAny_comprehension_free rfl hs T.clos hkind hnames (wp_then (h g s o F) fun v s₁ g₁ Λ₁ a o₁ x₁ va hh => ?_)
  obtain ⟨xs, hit, hz, hI⟩ := hh
  have F₁ := F.step x₁
  refine hit B.A B.E g₁ s₁ v _ B.hA o₁ va fun It h' fp Pi St W st nIt kp hfp hP hfl => ?_
  -- the list
  refine wpAny_newObj_type (wpAny_newFunctionEnv hcell (by intro y hy; simp at hy) (fun h₁ hns₁ hsb₁ => ?_) hkind)
  have szC : (h'.push { cls := .type "list", dict := none, data := .seq ([] : List Value).toArray }).objs.size = h'.objs.size + 1 := Heap.size_push ..
  have nD : h'.get? h'.objs.size = none := get_fresh _ (Nat.le_refl _)
  have nC : h'.get? (h'.push { cls := .type "list", dict := none, data := .seq ([] : List Value).toArray }).objs.size = none := get_fresh _ (by rw [szC]; exact Nat.le_succ _)
  have hDC : h'.objs.size ≠ (h'.push { cls := .type "list", dict := none, data := .seq ([] : List Value).toArray }).objs.size := by rw [szC]; exact Nat.ne_of_lt (Nat.lt_succ_self _)
  have kH : ∀ b ob, h'.get? b = some ob → h₁.get? b = some ob := fun b ob e => hsb₁.extBut b ob (opt_ne e nC) (Heap.get?_push_of_some _ (Heap.get?_push_of_some _ e))
  have back : ∀ {b}, h'.get? b = none → s₁.heap.get? b = none := fun {b} n => by
    cases q : s₁.heap.get? b with
    | none => rfl
    | some ob => have := kp _ _ q; rw [n] at this; cases this
  obtain ⟨oI, vsI, eI, _⟩ := hfl 0 h' st
  refine comp_loop I T hkind hx turn o₁ F₁ hI W (W.frame _ _ _ st fun b _ ob e => kH b ob e) hz nIt (back nD) (back nC) hDC (opt_ne eI nC) (opt_ne eI nD) (fun b ob e => kH b ob (kp b ob e)) hfp hP hfl (hsb₁.extBut _ _ hDC (Heap.get?_push_of_some _ (Heap.get?_push_size _ rfl))) hns₁
    (fun g' Λ' s' acc o' x' i' d' n' gc' lc' => hfin g' Λ' s' _ _ acc o' (x₁.trans x') i' d' (Classical.byContradiction fun q => x₁.live _ q (back nC)) n' gc' hDC.symm lc') _

section
variable (I : List V → List V → Led → Prop) {elt iter : Expr} {x : PySem.Str} {px : Pos} {ifs : List Expr} {scope : Scope} {cl : List (PySem.Str × Addr)} {ρc : Loc} {pos : Pos}
theorem same_but {g : FV} {s : Shared} {Cc : Addr} {h' : Heap} (hs : Heap.SameBut Cc s.heap h') : ∀ b ob, b ∉ [Cc] → s.heap.get? b = some ob → h'.get? b = some ob := fun b ob q e => (hs.2 b (by simpa using q)).trans e
theorem same_step {g g' : FV} {Λ Λ' : Led} {s s' : Shared} (x : Step g Λ s g' Λ' s') {Cc : Addr} {h' : Heap} (n : s.heap.get? Cc = none) (hs : Heap.SameBut Cc s'.heap h') : Step g Λ s g' Λ' (mv s' h' s'.toks) := by
  refine ⟨x.gle, fun b obj hb hl => ?_, fun b hb => ?_, x.gens, x.drawn, x.os⟩
  · obtain ⟨q1, q2, q3⟩ := x.keep b obj hb hl
    exact ⟨q1.trans fun ob' e => .inl ((hs.2 b (by first | exact opt_ne hb n | exact Ne.symm (opt_ne hb n) | (rintro rfl; rw [n] at hb; cases hb))).trans e), q2, q3⟩
  · obtain ⟨ob', e⟩ := Option.ne_none_iff_exists'.mp (x.live b hb)
    show h'.get? b ≠ none
    rw [(hs.2 b (by rintro rfl; exact hb n)).trans e]
    exact Option.some_ne_none _
theorem same_ok {g : FV} {s : Shared} (o : Ok C g Λ s) {Cc : Addr} {h' : Heap} (gn : g Cc = none) (ln : Λ Cc = none) (hs : Heap.SameBut Cc s.heap h') : Ok C g Λ (mv s h' s.toks) := by
  have k : ∀ b ob, b ≠ Cc → s.heap.get? b = some ob → h'.get? b = some ob := fun b ob q e => (hs.2 b q).trans e
  exact ⟨fun b ob e => k b ob (by first | exact opt_ne e gn | exact Ne.symm (opt_ne e gn) | (rintro rfl; rw [gn] at e; cases e)) (o.gin b ob e), o.low, fun b ob e => ⟨(o.led b ob e).1, (o.led b ob e).2.keeps (fun _ _ e => e) fun c hc => k _ _ (by first | exact opt_ne e ln | exact Ne.symm (opt_ne e ln) | (rintro rfl; rw [ln] at e; cases e)) hc⟩, o.rest⟩

/-- [elt for x in iter if ..] -/
theorem Ev.comp {Q : V → Led → Prop} (T : Takes B.env scope cl ρc ρ) (hcell : ∀ y ∈ scope.names, y.2 ≠ .cell) (hkind : scope.kind = .function) (hnames : ∀ y ∈ scope.names, y.2 = .local → scope.names.lookup y.1 = some .local) (hx : scope.names.lookup x = some .local)
    (h : Ev B ρ iter Λ (QComp I C B.n))
    (turn : ∀ Cc y ys acc Λ', I (y :: ys) acc Λ' → TstF (cB B scope cl Cc) ((x, y) :: ρc) ifs Λ' (QTurn I (cB B scope cl Cc) ((x, y) :: ρc) elt ys acc))
    (done : ∀ acc Λ' D, I [] acc Λ' → Λ' D = none → Q (.ref D) (upd Λ' D (.list acc)))
    (hs : ∀ x, foldedSetIterable iter B.env x = pure x := by intro _; rfl) : Ev B ρ (.ListComp elt [⟨.Name x px, iter, ifs, 0⟩] scope pos) Λ Q := fun g s o F => by
  rw [eval_ListComp]
  refine comp_core I (use := none) o F T hcell hkind hnames hx h turn (fun g' Λ' s' D Cc acc o' x' hI lD nC hns gC hCD lC => ?_) hs
  obtain ⟨m, hn⟩ := hns
  refine ⟨m, hn, fun h' hs' => ?_⟩
  have lC' : upd Λ' D (.list acc) Cc = none := by simp only [upd, if_neg hCD]; exact lC
  exact ⟨g', _, _, same_ok o' gC lC' hs', same_step x' nC hs', .ref _, done acc Λ' D hI lD⟩

/-- y = [elt for x in iter if ..] -/
theorem Ex.comp {y : PySem.Str} {py spos : Pos} {rest : List Stmt} {Q : Fl → Loc → Led → Prop} (T : Takes B.env scope cl ρc ρ) (hcell : ∀ y ∈ scope.names, y.2 ≠ .cell) (hkind : scope.kind = .function) (hnames : ∀ y ∈ scope.names, y.2 = .local → scope.names.lookup y.1 = some .local) (hx : scope.names.lookup x = some .local)
    (h : Ev B ρ iter Λ (QComp I C B.n))
    (turn : ∀ Cc y ys acc Λ', I (y :: ys) acc Λ' → TstF (cB B scope cl Cc) ((x, y) :: ρc) ifs Λ' (QTurn I (cB B scope cl Cc) ((x, y) :: ρc) elt ys acc))
    (done : ∀ acc Λ' D, I [] acc Λ' → Λ' D = none → Ex B rest ((y, .ref D) :: ρ) (upd Λ' D (.list acc)) Q)
    (hy : CanStore B.env y := by exact canL rfl) (hsw : swapsWith (.ListComp elt [⟨.Name x px, iter, ifs, 0⟩] scope pos) (some (.Name y py)) spos.line B.env = pure true := by rfl)
    (hs : ∀ x, foldedSetIterable iter B.env x = pure x := by intro _; rfl) : Ex B (.Assign [.Name y py] (.ListComp elt [⟨.Name x px, iter, ifs, 0⟩] scope pos) spos :: rest) ρ Λ Q := fun g s o F => by
  refine wpAny_execs_cons ?_
  rw [exec_Assign_Name_used _ _ _ _ hsw]
  refine wpAny_bind (wpAny_standAt (wpAny_bind ?_))
  show wpAny _ _ (do let _ ← comprehension (.ListComp elt [⟨.Name x px, iter, ifs, 0⟩] scope pos) scope B.env _ (newList []) false (eval iter B.env) (some (PySem.assign (.Name y py) B.env))) _ _ s
  refine wpAny_bind (wpAny_mono (comp_core I (use := some (PySem.assign (.Name y py) B.env)) (Qf := fun _ s' => ∃ g' Λ' ρ', Ok C g' Λ' s' ∧ Frm C B.env ρ' g' Λ' s' ∧ StepF B.env g Λ s g' Λ' s' ∧ Ex B rest ρ' Λ' Q) o F T hcell hkind hnames hx h turn (fun g' Λ' s' D Cc acc o' x' hI lD nC hns gC hCD lC => ?_) hs)
    (fun _ s' hh => by obtain ⟨g', Λ', ρ', o', F', x', q⟩ := hh; exact wpAny_pure (wpAny_pure (wpAny_mono (q g' s' o' F') (fun _ _ => PostS.after x') fun _ _ x => x))) fun _ _ x => x)
  obtain ⟨m, hn⟩ := hns
  have F' := F.step x'
  have lC' : upd Λ' D (.list acc) Cc = none := by simp only [upd, if_neg hCD]; exact lC
  show wpAny _ _ (PySem.assign (.Name y py) B.env (.ref D)) _ _ _
  refine wpAny_assign_Name (store_wp o' F' (.ref D) hy fun s₂ o₂ F₂ x₂ => ?_)
  obtain ⟨oC, es, ep, hC, hrest⟩ := id hn
  obtain ⟨n1, n2, n3⟩ := F.notI nC
  refine ⟨m, Kept.ns hn fun ob e => (x₂.keep Cc ob e lC' n3).1, fun h' hs' => ?_⟩
  obtain ⟨o₃, F₃⟩ := offs_ok (t := s₂.toks) (wr := [Cc]) o₂ F₂ (fun b hb => by rw [List.mem_singleton.mp hb]; exact ⟨gC, lC', n1, fun z c e => n2 z c e⟩) fun b ob q e => (hs'.2 b (by simpa using q)).trans e
  refine ⟨g', _, _, o₃, F₃, ?_, done acc Λ' D hI lD⟩
  have xx := x'.toF.trans x₂
  exact offs_step (wr := [Cc]) xx (fun b hb => by rw [List.mem_singleton.mp hb]; exact nC) fun b ob q e => (hs'.2 b (by simpa using q)).trans e
end
end Mine
end
section
open PySem PySem.W PySem.Calls PyProof.Rows Builtin Builtin.ObjectAttr
namespace Mine
variable {K : Params → Frag} {C : Gd K} {B : Bd C} {ρ : Loc} {Λ : Led}

/-- an exception of the program's own, under way -/
noncomputable abbrev excObj (Cl t : Addr) (od : Option Addr) : Obj := { cls := .ref Cl, dict := od, data := .fields #[.ref t, .none, .none, .none, .bool false, .none] }

section
variable {M : Model} {A : Around} {E : Value → Shared → Prop} {env : Env}
variable {nm q : PySem.Str} {Cl N : Addr} {bs bm : List Value} {hdct : Bool} {sn : List PySem.Str} {sub : List Value} {ab : Bool} {col : Option Bool} {dd : Option Addr} {k0 k1 k2 k3 k5 : Option Value}
theorem raise_exc {s : Shared} {x : Sem Value} {Q : Flow → Shared → Prop} (hbase : bm.contains (.type "BaseException") = true) (hh : A.handled = none)
    (h : wpAny M A x (fun v s₁ => ∃ e t od, v = .ref e ∧ s₁.heap.get? Cl = some (excClassObj nm q Cl N bs bm hdct sn sub ab col dd k0 k1 k2 k3 k5 "ValueError.__new__") ∧ s₁.heap.get? e = some (excObj Cl t od) ∧ E (.ref e) s₁) E s) :
    wpAny M A (raiseStmt env (some x) none) Q E s := by
  have hcB : (Value.ref Cl :: bm).contains (.type "BaseException") = true := by rw [List.contains_cons, hbase, Bool.or_true]
  unfold raiseStmt
  refine wpAny_bind (wpAny_mono h (fun v s₁ h₁ => ?_) fun _ _ x => x)
  obtain ⟨e, t, od, rfl, hC, he, hE⟩ := h₁
  obtain ⟨hp, g, d, tk, os⟩ := s₁
  repeat (first | with_reducible refine wpAny_loadPart_at he ?_ | with_reducible refine wpAny_loadPart_at hC ?_ | (with_reducible refine wpAny_isSubtype_exc hC ?_; rw [hcB]) | wp_step)
  exact wpAny_raiseNew_none hh hE
end
section
variable {prog : Program} {w : World} {A : Around} {R : Result → Shared → Prop} {h : Heap} {g : Array GenState} {d : Drawn} {t : Nat} {os : OsState}
variable {nm q : PySem.Str} {Cl N fI : Addr} {bs bm : List Value} {hdct : Bool} {sn : List PySem.Str} {sub : List Value} {ab : Bool} {col : Option Bool} {dd : Option Addr} {k0 k1 k2 k3 k5 : Option Value}
theorem new_exc (hm : bm.contains (.type "ValueError") = true) (ha : bm.contains (.type "AttributeError") = false) (hn : bm.contains (.type "NameError") = false) {rest : List Value}
    (hC : h.get? Cl = some (excClassObj nm q Cl N bs bm hdct sn sub ab col dd k0 k1 k2 k3 k5 "ValueError.__new__"))
    (hq : R (.ok (.ret (.ref (h.objs.size + 1)))) ⟨(h.push { cls := .type "tuple", data := .seq rest.toArray }).push (excObj Cl h.objs.size none), g, d, t, os⟩) (hrest : rest.length ≤ sizeLine) :
    codeAny (model prog w) A (.call (.builtin "ValueError.__new__") ⟨.ref Cl :: rest, []⟩) R ⟨h, g, d, t, os⟩ := by
  have F := PySem.F.excBase_ValueError
  have hends := F.ends
  have hcB : (Value.ref Cl :: bm).contains (.type "ValueError") = true := by rw [List.contains_cons, hm, Bool.or_true]
  have hcA : (Value.ref Cl :: bm).contains (.type "AttributeError") = false := by rw [List.contains_cons, ha]; rfl
  have hcN : (Value.ref Cl :: bm).contains (.type "NameError") = false := by rw [List.contains_cons, hn]; rfl
  refine codeAny_call_builtin_code (Code.quiet_builtin _ F.quiet) ?_
  have hstar := F.noStar
  simp only [checkBuiltinCall, F.newKind, F.newSplit, F.newRow]
  repeat (first | refine wpAny_loadPart_at hC ?_ | (refine wpAny_isSubtype_exc hC ?_; rw [hcB]) | refine wpAny_staticBase_exc hC ?_ | refine wpAny_madeBy_exc hC ?_ | simp only [bne_self_eq_false, Bool.false_eq_true, if_false] | wp_step)
  refine codeAny_builtinAt F.entry ?_
  unfold Builtin.«BaseException.__new__»
  refine PySem.wpAt_bind ?_
  show PySem.wpAt _ _ _ (stack >>= _) _ _ _
  refine PySem.wpAt_bind (PySem.wpAt_stack fun p below => PySem.wpAt_of_wpAny ?_)
  wp_walk
  refine PySem.wpAt_of_wpAny ?_
  rw [F.owner]
  repeat (first | with_reducible refine wpAny_madeHere_exc F.canon hC ?_ | with_reducible refine wpAny_loadPart_at hC ?_ | (with_reducible refine wpAny_isSubtype_exc hC ?_; first | rw [hcB] | rw [hcA] | rw [hcN]) | wp_step)
  show R _ _
  rw [Heap.size_push]
  exact hq

theorem make_exc (hm : bm.contains (.type "ValueError") = true) (ha : bm.contains (.type "AttributeError") = false) (hn : bm.contains (.type "NameError") = false) {rest : List Value}
    (hC : h.get? Cl = some (excClassObj nm q Cl N bs bm hdct sn sub ab col dd k0 k1 k2 k3 k5 "ValueError.__new__")) (hi : Looks (model prog w) h (typeLookup (.ref Cl) "__init__") (some (.ref fI)))
    (hb : ∀ self, Looks (model prog w) h (bindSpecial (.ref fI) self) (.ref fI, [self])) (hrest : rest.length ≤ sizeLine)
    (hq : codeAny (model prog w) (A.under (.builtin "type.__call__" ⟨.ref Cl :: rest, []⟩)) (.call (.ref fI) ⟨.ref (h.objs.size + 1) :: rest, []⟩) (InitBack (h.objs.size + 1) R) ⟨(h.push { cls := .type "tuple", data := .seq rest.toArray }).push (excObj Cl h.objs.size none), g, d, t, os⟩) :
    codeAny (model prog w) A (.call (.ref Cl) ⟨rest, []⟩) R ⟨h, g, d, t, os⟩ := by
  have f1 := tc_lookup
  have f2 := tc_bind (.ref Cl)
  have hT : (⟨h, g, d, t, os⟩ : Shared).TypeIs (.ref Cl) "type" := ⟨_, hC, rfl⟩
  refine codeAny_of_tree ?_
  show wpAny _ _ (callAny (.ref Cl) _) _ _ _
  repeat (any_goals (first | assumption | with_reducible refine wpAny_loadPart_at hC ?_ | wp_step))
  refine ⟨rfl, ?_⟩
  refine codeAny_call_builtin_at (Code.quiet_builtin _ (by decide +kernel)) entry_typeCall (wpAny_check_type_call_sub hC ?_)
  repeat (first | with_reducible refine wpAny_loadPart_at hC ?_ | with_reducible refine wpAny_madeBy_exc hC ?_ | wp_step)
  refine new_exc hm ha hn hC ?_ hrest
  show wpAny _ _ _ _ _ _
  have kp : ∀ b o, h.get? b = some o → ((h.push { cls := .type "tuple", data := .seq rest.toArray }).push (excObj Cl h.objs.size none)).get? b = some o := fun b o e => Heap.get?_push_of_some _ (Heap.get?_push_of_some _ e)
  have hC₁ := kp _ _ hC
  have hget : ((h.push { cls := .type "tuple", data := .seq rest.toArray }).push (excObj Cl h.objs.size none)).get? (h.objs.size + 1) = some (excObj Cl h.objs.size none) := by heap_get
  have hcC : (Value.ref Cl :: bm).contains (.ref Cl) = true := by simp
  have i1 := hi.keeps kp
  have b1 := (hb (.ref (h.objs.size + 1))).keeps kp
  unfold isInstance
  repeat (first | with_reducible refine wpAny_loadPart_at hget ?_ | (with_reducible refine wpAny_isSubtype_exc hC₁ ?_; rw [hcC]) | wp_step)
  refine wpAny_isSubtype_exc hC₁ ?_
  rw [hcC]
  repeat (first | with_reducible refine wpAny_loadPart_at hget ?_ | (with_reducible refine wpAny_isSubtype_exc hC₁ ?_; rw [hcC]) | wp_step)
  show wpAny _ _ (typeLookup (.ref Cl) _) _ _ _
  refine i1.at ?_
  refine wpAny_holding (wpAny_bind (b1.at ?_))
  refine wpAny_bind (wpAny_call (codeAny_mono hq fun r s' z => ?_))
  rcases r with e | (v | _ | _ | _) <;> first | exact z | exact z.elim | skip
  obtain ⟨rfl, z⟩ := z
  exact wpAny_pure (wpAny_pure z)
end

-- an attribute of an exception under way
theorem SetAttrS.exc {n : Nat} {x Cl t : Addr} {name : PySem.Str} {b : V} {cd : ClassData} {Q : Led → Prop} (ha : Λ x = some (.exact (excObj Cl t none)))
    (hc : clsIn (K C.w.params) Cl = some cd) (hr : ∀ self, refuseLoop self "__setattr__" cd.mro = pure ()) (ne : cd.mro.isEmpty = false) (ho : cd.mro.contains (.type "object") = true) (hd : cd.hasDict = true)
    (ht : takerIn (K C.w.params) Cl name = some none) (hs : findIn (K C.w.params) (.ref Cl) "__setattr__" = some (some (.builtin "object.__setattr__")))
    (q : ∀ d, Λ d = none → Q (upd Λ x (.exact (excObj Cl t (some d))))) : SetAttrS C n (.ref x) name b Λ Q := by
  intro A E g s v w hA o va wb
  apply va.onRef
  have X := Gd.kIn o
  have hx : s.heap.get? x = some (excObj Cl t none) := (o.led _ _ ha).2
  have I : PySem.W.InstAt s.heap x (excObj Cl t none) Cl none := ⟨hx, rfl, rfl, trivial⟩
  refine set_plain X I hs ?_
  have SF := PySem.F.store_object
  have sub : Looks (model C.prog C.w) s.heap (isInstance (.ref x) (.type "object")) true := I.type.andThen (looks_mroIn X (by unfold mroIn; rw [hc, Option.bind_some, if_neg (by rw [ne]; decide), ho]))
  refine codeAny_call_builtin SF.slot.plain SF.entry (@check_slot (model C.prog C.w) _ _ _ "object.__setattr__" "object" "__setattr__" (.ref x) [.str name s.toks, w] [] _ SF.kind SF.split sub (SF.args (.ref x) (.str name s.toks) w) ?_)
  obtain ⟨attr, hat, hrt⟩ := Option.bind_eq_some_iff.mp ht
  have hm : Looks (model C.prog C.w) s.heap (mroOf (.ref Cl)) cd.mro := (looks_clsIn X hc).andThen .now
  have L3 : Looks (model C.prog C.w) s.heap (storeTaker? attr) none := by
    cases attr with
    | none => exact .now
    | some a =>
      obtain ⟨b, hb, hb'⟩ := Option.map_eq_some_iff.mp hrt
      refine (looks_takesIn X hb).andThen ?_
      cases b <;> first | exact .now | cases hb'
  rw [osa_eq, refuse_eq]
  refine wpAny_bind (wpAny_bind (Looks.here (s := { s with toks := s.toks + 1 }) I.type (wpAny_bind (Looks.here (s := { s with toks := s.toks + 1 }) hm ?_))))
  rw [hr]
  refine wpAny_pure (wpAny_bind (Looks.here (s := { s with toks := s.toks + 1 }) I.type (wpAny_bind (Looks.here (s := { s with toks := s.toks + 1 }) (looks_findIn X hat) (wpAny_bind (Looks.here (s := { s with toks := s.toks + 1 }) L3 ?_))))))
  refine wpAny_bind (wpAny_pure (wpAny_bind (wpAny_bind (wpAny_loadPart hx (wpAny_bind (Looks.here (s := { s with toks := s.toks + 1 }) (looks_clsIn X hc) ?_))))))
  rw [hd]
  have hx₁ : (s.heap.push { cls := .type "dict", data := .dict #[] }).get? x = some (excObj Cl t none) := Heap.get?_push_of_some _ hx
  have hxs : x ≠ s.heap.objs.size := Nat.ne_of_lt (Heap.lt_size hx)
  have up : ∀ f : Obj → Obj, (f (excObj Cl t none)).isFreed = false → ((s.heap.push { cls := .type "dict", data := .dict #[] }).update x f).get? x = some (f (excObj Cl t none)) := fun f hf => Heap.get?_update_self f hx₁ hf
  show wpAny _ _ (alloc { cls := .type "dict", data := .dict #[] } >>= fun d => PySem.update x (fun o => { o with dict := some d }) >>= fun _ => dictMade (.ref Cl) x d) _ _ _
  refine wpAny_bind (wpAny_alloc (wpAny_bind (wpAny_update (o := excObj Cl t none) hx₁ ?_)))
  refine wpAny_pure (a := some s.heap.objs.size) (wpAny_bind (wpAny_pure (wpAny_bind ?_)))
  have D : ((s.heap.push { cls := .type "dict", data := .dict #[] }).update x fun o => { o with dict := some s.heap.objs.size }).get? s.heap.objs.size = some (dictOf [] 0) := get_update_ne hxs.symm (Heap.get?_push_size _ rfl)
  have D0 := up (fun o => { o with dict := some s.heap.objs.size }) rfl
  generalize hh : ((s.heap.push { cls := .type "dict", data := .dict #[] }).update x fun o => { o with dict := some s.heap.objs.size }) = h₂ at D D0 ⊢
  have kp : ∀ c oc, c ≠ x → s.heap.get? c = some oc → h₂.get? c = some oc := fun c oc qc ec => hh ▸ get_update_ne qc (Heap.get?_push_of_some _ ec)
  unfold nsSet
  refine wpAny_bind (wpAny_bind (wpAny_askSetting (wpAny_pure (wpAny_bind (wpAny_mkText (wpAny_bind (wpAny_loadPart D ?_)))))))
  dsimp only
  rw [aRefKeyMayBeTheName_at, show (!([] : List DictEntry).toArray.any (·.key.isStr name) && ([] : List DictEntry).toArray.any (·.refKey)) = false by simp]
  refine wpAny_updatePart D ?_
  have D' : (h₂.update s.heap.objs.size (Obj.putName name (PyData.keyHash C.w.params name) (.str name (s.toks + 1)) w)).get? s.heap.objs.size = some (dictOf (putL name (PyData.keyHash C.w.params name) (.str name (s.toks + 1)) w []) (putN name [] 0)) := by
    have := Heap.get?_update_self (Obj.putName name (PyData.keyHash C.w.params name) (.str name (s.toks + 1)) w) D (by rw [putName_dict]; rfl)
    rw [this, putName_dict]
  refine wpAny_bind (wpAny_lookBehind D' (pastItsLine_dict ?_) ?_)
  · rw [List.size_toArray, sizeLine_eq]; show 1 ≤ _; omega
  · obtain ⟨o₂, x₂⟩ := o.change (t := s.toks + 2) (o := .exact (excObj Cl t (some s.heap.objs.size))) ha (fun c oc qc ec => get_update_ne (f := Obj.putName name (PyData.keyHash C.w.params name) (.str name (s.toks + 1)) w) (Nat.ne_of_lt (Heap.lt_size ec)) (kp c oc qc ec)) (get_update_ne hxs D0)
    exact wpAny_pure ⟨g, _, o₂, x₂, q _ (o.fresh (get_fresh _ (Nat.le_refl _))).2⟩

/-- an exception of the program's own is made -/
theorem FnS.exc {n : Nat} {Cl fI : Addr} {as : List V} {Q : V → Led → Prop} {nm q : PySem.Str} {N : Addr} {bs bm : List Value} {hdct : Bool} {sn : List PySem.Str} {sub : List Value} {ab : Bool} {col : Option Bool} {dd : Option Addr} {k0 k1 k2 k3 k5 : Option Value}
    (hC : (K C.w.params).lookup Cl = some (excClassObj nm q Cl N bs bm hdct sn sub ab col dd k0 k1 k2 k3 k5 "ValueError.__new__")) (hm : bm.contains (.type "ValueError") = true) (ha : bm.contains (.type "AttributeError") = false) (hn : bm.contains (.type "NameError") = false)
    (hi : findIn (K C.w.params) (.ref Cl) "__init__" = some (some (.ref fI))) (hf : typeIn (K C.w.params) (.ref fI) = some (.type "function")) (hz : as.length ≤ sizeLine)
    (h : ∀ x t, Λ x = none → FnS C (n + 1) (.ref fI) (.ref x :: as) (upd Λ x (.exact (excObj Cl t none))) fun a Λ' => a = .none ∧ Q (.ref x) Λ') : FnS C (n + 2) (.ref Cl) as Λ Q := by
  intro A g s vs R hA o hv hR
  have X := Gd.kIn o
  obtain ⟨hp, gs, d, t, os⟩ := s
  refine make_exc hm ha hn (X _ _ hC) (looks_findIn X hi) (fun self => bind_fn X self hf) (by rw [hv.length]; exact hz) ?_
  have n1 : hp.get? hp.objs.size = none := get_fresh _ (Nat.le_refl _)
  have kp : ∀ b ob, hp.get? b = some ob → (hp.push { cls := .type "tuple", data := .seq vs.toArray }).get? b = some ob := fun b ob e => Heap.get?_push_of_some _ e
  have o₁ := o.grow (t := t) kp
  have x₁ := Step.grow g Λ ⟨hp, gs, d, t, os⟩ (t := t) kp
  have sz : (hp.push { cls := .type "tuple", data := .seq vs.toArray }).objs.size = hp.objs.size + 1 := Heap.size_push ..
  have n2 : (hp.push { cls := .type "tuple", data := .seq vs.toArray }).get? (hp.objs.size + 1) = none := get_fresh _ (by rw [sz]; exact Nat.le_refl _)
  have gx : ((hp.push { cls := .type "tuple", data := .seq vs.toArray }).push (excObj Cl hp.objs.size none)).get? (hp.objs.size + 1) = some (excObj Cl hp.objs.size none) := by heap_get
  obtain ⟨o₂, x₂, e₂⟩ := o₁.alloc (a := hp.objs.size + 1) (o := .exact (excObj Cl hp.objs.size none)) (h' := (hp.push { cls := .type "tuple", data := .seq vs.toArray }).push (excObj Cl hp.objs.size none)) (t := t) n2 (fun b ob e => Heap.get?_push_of_some _ e) gx
  have hA' : AOK (A.under (.builtin "type.__call__" ⟨.ref Cl :: vs, []⟩)) (n + 1) := by
    refine ⟨hA.hh, ?_, ?_⟩
    · have := hA.dep
      show A.depth + Code.weight _ + 2 * (n + 1) + 2 < _
      rw [show Code.weight (.builtin "type.__call__" ⟨.ref Cl :: vs, []⟩) = 1 from rfl]
      omega
    · have := hA.uni
      show A.units + Code.cUnits _ + 8 * (n + 1) + 8 < _
      rw [show Code.cUnits (.builtin "type.__call__" ⟨.ref Cl :: vs, []⟩) = 1 from rfl]
      omega
  refine h (hp.objs.size + 1) hp.objs.size e₂ _ g _ (.ref (hp.objs.size + 1) :: vs) _ hA' o₂ (.cons (.ref _) hv) fun v s' hh => ?_
  obtain ⟨g', Λ', a, o', x', va, ea, q⟩ := hh
  subst ea
  apply va.onNone
  exact ⟨rfl, hR _ _ ⟨g', Λ', _, o', (x₁.trans x₂).trans x', .ref _, q⟩⟩

/-- raise e -/
theorem Ex.raise {e : Expr} {pos : Pos} {rest : List Stmt} {Q : Fl → Loc → Led → Prop} {Cl : Addr} {nm q : PySem.Str} {N : Addr} {bs bm : List Value} {hdct : Bool} {sn : List PySem.Str} {sub : List Value} {ab : Bool} {col : Option Bool} {dd : Option Addr} {k0 k1 k2 k3 k5 : Option Value}
    (hC : (K C.w.params).lookup Cl = some (excClassObj nm q Cl N bs bm hdct sn sub ab col dd k0 k1 k2 k3 k5 "ValueError.__new__")) (hbase : bm.contains (.type "BaseException") = true)
    (h : Ev B ρ e Λ fun a Λ₁ => ∃ x t od, a = .ref x ∧ Λ₁ x = some (.exact (excObj Cl t od)) ∧ ∀ g s, Ok C g Λ₁ s → Frm C B.env ρ g Λ₁ s → B.E (.ref x) s) : Ex B (.Raise (some e) none pos :: rest) ρ Λ Q := fun g s o F => by
  refine wpAny_execs_cons ?_
  rw [arm_exec_Raise]
  simp only [evalOpt, Option.map]
  refine wpAny_bind (wpAny_standAt (raise_exc (nm := nm) (q := q) (Cl := Cl) (N := N) (bs := bs) (hdct := hdct) (sn := sn) (sub := sub) (ab := ab) (col := col) (dd := dd) (k0 := k0) (k1 := k1) (k2 := k2) (k3 := k3) (k5 := k5) hbase B.hA.hh (wpAny_bind (wp_then (h g s o F) fun v s₁ g₁ Λ₁ a o₁ x₁ va hh => ?_))))
  obtain ⟨x, t, od, ea, hx, hE⟩ := hh
  refine wpAny_bind (wpAny_standAt (wpAny_pure ?_))
  subst ea
  apply va.onRef
  exact ⟨x, t, od, rfl, Gd.kIn o₁ _ _ hC, (o₁.led _ _ hx).2, hE _ _ o₁ (F.step x₁)⟩
end Mine
end
section
namespace Mine
variable {K : Params → Frag} {C : Gd K} {B : Bd C} {ρ : Loc} {Λ : Led}

/-- the ledger's rest is forgotten at the end -/
theorem Ex.forgets {ss : List Stmt} {Q : Fl → Led → Prop} (h : Ex B ss ρ Λ fun fl _ Λ' => ∃ Λ'', Led.le Λ'' Λ' ∧ Q fl Λ'') : Ex B ss ρ Λ fun fl _ Λ' => Q fl Λ' := fun g s o F =>
  wpAny_mono (h g s o F) (fun f s' hh => by obtain ⟨g', Λ', ρ', fl, o', F', x', hf, Λ'', le, q⟩ := hh; exact ⟨g', Λ'', ρ', fl, o'.forget le, F'.forget le, x'.forget le, hf, q⟩) fun _ _ x => x

/-- a heap that holds still while an exception flies, and the frames below -/
structure Stk (C : Gd K) (base : Heap) (l : List Env) (Λ : Led) : Prop where
  has : ∀ b o, base.get? b = some o → C.g0 b = some o ∨ Λ b = some (.exact o)
  frs : ∀ env ∈ l, env.scope.kind = .function ∧ ∃ L o, env.frame = some L ∧ base.get? L = none ∧ Λ L = some (.held o)
section
variable {base : Heap} {l : List Env} {Λ' : Led} {g : FV} {s : Shared}
theorem Stk.le (x : Stk C base l Λ) (k : Led.le Λ Λ') : Stk C base l Λ' :=
  ⟨fun b o e => (x.has b o e).imp id (k _ _), fun env he => let ⟨a, L, o, b, c, d⟩ := x.frs env he; ⟨a, L, o, b, c, k _ _ d⟩⟩
theorem Stk.stays (x : Stk C base l Λ) (o : Ok C g Λ s) : base.StaysIn s.heap := fun b ob e => by
  rcases x.has b ob e with h | h
  · exact o.gin _ _ (o.low _ _ h)
  · exact (o.led _ _ h).2
theorem Stk.frames (x : Stk C base l Λ) (o : Ok C g Λ s) : s.heap.FunFrames base l := by
  have h := x.frs
  clear x
  induction l with
  | nil => trivial
  | cons env r ih =>
    obtain ⟨hk, L, ob, hf, hn, hl⟩ := h env (by simp)
    obtain ⟨sl, e, es, n, hd⟩ := (o.led _ _ hl).2
    exact ⟨by rw [hk]; decide, ⟨L, _, hf, hn, e, fun vs q => by rw [show (_ : Obj).data = ob.data from rfl, hd] at q; cases q⟩, ih fun env he => h env (by simp [he])⟩
end

/-- an exception flies -/
inductive Rz (C : Gd K) (base : Heap) (l : List Env) (Cl : Addr) (Λ : Led) (e : Value) (s' : Shared) : Prop
  | mk (ea : Addr) (a0 : _) (h : e = .ref ea) (f : Heap.FlyingW base l ea (.ref Cl) a0 s'.heap) (k : ∀ L o, Λ L = some (.held o) → ∃ sl, s'.heap.get? L = some { o with slots := sl }) (r : Rest C s') : Rz C base l Cl Λ e s'

/-- the call of a function that may raise -/
noncomputable def FnE (C : Gd K) (n : Nat) (base : Heap) (l : List Env) (Cl : Addr) (f : Value) (as : List V) (Λ : Led) (Q : V → Led → Prop) (Qe : Prop) : Prop :=
  ∀ A g s vs (R : Result → Shared → Prop), AOK A n → A.frames = some l → Stk C base l Λ → Ok C g Λ s → VRs C.prog C.w g vs as → (∀ v s', Post C g Λ s Q v s' → R (.ok (.ret v)) s') →
    (Qe → ∀ e s', Rz C base l Cl Λ e s' → R (.error e) s') → codeAny (model C.prog C.w) A (.call f ⟨vs, []⟩) R s

theorem FnE.def {n : Nat} {base : Heap} {l : List Env} {Cl : Addr} {Qe : Prop} {f : Addr} {oc : Value} {od an : Option Addr} {osl : Array (Option Value)} {name qual : PySem.Str} {params : Arguments} {body : List Stmt} {scope : Scope} {dV kV doc pm cdv ct : Value} {as da : List V} {names : List PySem.Str} {dv : List Value} {ρ : Loc} {Q : V → Led → Prop}
    (ho : (K C.w.params).lookup f = some ⟨oc, od, .func (fnOf name qual params body scope dV kV doc pm an cdv ct), osl⟩) (hcd : codeIn (K C.w.params) cdv qual = true)
    (hb : ∀ (s : Shared) vs, (K C.w.params).In s.heap → vs.length = as.length → BindsTo s (fnOf name qual params body scope dV kV doc pm an cdv ct) ⟨vs, []⟩ (names.zip (vs ++ dv)))
    (hdv : VRs C.prog C.w C.base.get? dv da) (hloc : ∀ x ∈ names, scope.names.lookup x = some .local) (hcell : ∀ x ∈ scope.names, x.2 ≠ .cell)
    (hk : scope.kind = .function) (hco : scope.isCoroutine = false) (hgen : scope.isGenerator = false) (hρ : (names.zip (as ++ da)).reverse = ρ)
    (h : ∀ L A E (hA : AOK A n) (hE : PassesOwn (model C.prog C.w) A (callEnv (fnOf name qual params body scope dV kV doc pm an cdv ct) L f) E), A.frames = some (callEnv (fnOf name qual params body scope dV kV doc pm an cdv ct) L f :: l) → Stk C base l Λ → base.get? L = none →
      (Qe → ∀ g s x t od Λ', Led.le Λ Λ' → Λ x = none → Ok C g Λ' s → (∃ m, s.heap.Ns L m) → Λ' x = some (.exact (excObj Cl t od)) → E (.ref x) s) →
      (Qe → ∀ oL e s', Rz C base (callEnv (fnOf name qual params body scope dV kV doc pm an cdv ct) L f :: l) Cl (upd Λ L (.held oL)) e s' → E e s') →
      Ex (C := C) ⟨callEnv (fnOf name qual params body scope dV kV doc pm an cdv ct) L f, A, E, n, hA, hE⟩ body ρ Λ fun fl _ Λ' => Q (retOf fl) Λ') : FnE C (n + 1) base l Cl (.ref f) as Λ Q Qe := by
  intro A g s vs R hA hfr St o hv hN hX
  refine def_core ho hcd hb hdv hloc hcell hk hco hgen hρ (by have := hA.dep; omega) o hv hN fun L s₁ o₁ F₁ nL kp => ?_
  generalize hfd : fnOf name qual params body scope dV kV doc pm an cdv ct = fd at *
  have hfk : (callEnv fd L f).scope.kind = .function := F₁.kind
  have hff : (callEnv fd L f).frame = some L := rfl
  have frd : (A.deeper (callEnv fd L f)).frames = some (callEnv fd L f :: l) := by show A.frames.map _ = _; rw [hfr]; rfl
  have bL : base.get? L = none := by
    cases q : base.get? L with
    | none => rfl
    | some ob => have := St.stays o _ _ q; rw [nL] at this; cases this
  have LL : Λ L = none := F₁.out.2
  refine h L (A.deeper (callEnv fd L f)) (fun e s' => wpAny (model C.prog C.w) (A.deeper (callEnv fd L f)) (leaving (callEnv fd L f) e) (fun _ s'' => R (.error e) s'') (fun e' s'' => R (.error e') s'') s')
    (hA.deeper _) PassesOwn.leaving frd St bL (fun qe g' s' x t od Λ' le nx ok hn hx => ?_) (fun qe oL e s' hz => ?_) g s₁ o₁ F₁
  · obtain ⟨m, oN, es, ep, hN', hd, _⟩ := hn
    have St' := St.le le
    have he : s'.heap.get? x = some (excObj Cl t od) := (ok.led _ _ hx).2
    have bx : base.get? x = none := by
      cases q : base.get? x with
      | none => rfl
      | some ob =>
        rcases St.has _ _ q with h | h
        · have := ok.low _ _ h; rw [(ok.led _ _ hx).1] at this; cases this
        · rw [nx] at h; cases h
    refine wpAny_leaving_firstW frd ⟨by rw [hfk]; decide, ⟨L, oN, hff, bL, hN', fun vs q => by rw [hd] at q; cases q⟩, St'.frames ok⟩ hff he (St'.stays ok) bx rfl rfl rfl fun h' hl => ?_
    obtain ⟨k1, ⟨_, _, k2⟩, k3, k4⟩ := hl
    refine hX qe _ _ ⟨x, _, rfl, ⟨k1, bx, k2, k3⟩, fun L' o' e' => ?_, ok.rest⟩
    obtain ⟨sl, z, es', n', hd'⟩ := (ok.led _ _ (le _ _ e')).2
    obtain ⟨sl', z'⟩ := k4 _ _ z (fun vs q => by rw [show (_ : Obj).data = o'.data from rfl, hd'] at q; cases q)
    exact ⟨sl', z'⟩
  · obtain ⟨ea, a0, rfl, fl, hh, hg⟩ := hz
    refine wpAny_leaves_onW frd hff fl fun h' fl' up => hX qe _ _ ⟨ea, a0, rfl, fl', fun L' o' e' => ?_, hg⟩
    have ne : L' ≠ L := by first | exact opt_ne e' LL | exact Ne.symm (opt_ne e' LL) | (rintro rfl; rw [LL] at e'; cases e')
    obtain ⟨sl, z⟩ := hh L' o' (by simp only [upd, if_neg ne]; exact e')
    obtain ⟨_, _, es', n', hd'⟩ := (o.led _ _ e').2
    obtain ⟨sl', z'⟩ := up _ _ z (fun vs q => by rw [show (_ : Obj).data = o'.data from rfl, hd'] at q; cases q)
    exact ⟨sl', z'⟩

theorem FnE.mono {n : Nat} {base : Heap} {l : List Env} {Cl : Addr} {f : Value} {as : List V} {Q Q' : V → Led → Prop} {Qe Qe' : Prop} (h : FnE C n base l Cl f as Λ Q Qe) (k : ∀ a Λ', Q a Λ' → Q' a Λ') (ke : Qe → Qe') : FnE C n base l Cl f as Λ Q' Qe' :=
  fun A g s vs R hA hfr St o hv hN hX => h A g s vs R hA hfr St o hv (fun v s' p => hN v s' (Post.mono k p)) fun qe => hX (ke qe)
theorem FnE.le {n m : Nat} {base : Heap} {l : List Env} {Cl : Addr} {f : Value} {as : List V} {Q : V → Led → Prop} {Qe : Prop} (h : FnE C n base l Cl f as Λ Q Qe) (k : n ≤ m) : FnE C m base l Cl f as Λ Q Qe :=
  fun A g s vs R hA => h A g s vs R (hA.le k)

/-- f(..), f a function that may raise, in a frame -/
theorem Ev.callX (m : Nat) {base : Heap} {l : List Env} {Cl : Addr} {Qe : Prop} {id : PySem.Str} {p pos : Pos} {es : List Expr} {Q : V → Led → Prop} (hfr : B.A.frames = some (B.env :: l)) (hff : B.env.frame = some B.env.locals) (hbl : base.get? B.env.locals = none)
    (h : Ev B ρ (.Name id p) Λ fun fa Λ₁ => ∃ f, IsF fa f ∧ KeepsF C f ∧ Evs B ρ es Λ₁ fun as Λ₂ => Stk C base l Λ₂ ∧ (Qe → ∀ oL e s', Rz C base (B.env :: l) Cl (upd Λ₂ B.env.locals (.held oL)) e s' → B.E e s') ∧
      ∀ oL, FnE C m base (B.env :: l) Cl f as (upd Λ₂ B.env.locals (.held oL)) (fun a Λ' => Λ' = upd Λ₂ B.env.locals (.held oL) ∧ Q a Λ₂) Qe) (k : m ≤ B.n)
    (hp : ∀ env, (backTo pos (starEach es env)).any (·.1) = false := by intro _; rfl) : Ev B ρ (.Call (.Name id p) es [] pos) Λ Q := fun g s o F => by
  refine wpAny_Call_Name_kw (wp_then (h g s o F) fun v s₁ g₁ Λ₁ a o₁ x₁ va hh => ?_)
  obtain ⟨f, hf, hk, h₁⟩ := hh
  have e := hf.eq va
  subst e
  refine callWith_of (P := fun h => (K C.w.params).In h) (by rw [hp]; rfl) hk (evalArgs_any (hp _) ?_)
  refine wp_thenL (h₁ pos g₁ s₁ o₁ (F.step x₁)) fun vs s₂ g₂ Λ₂ as o₂ x₂ vas hh => ?_
  obtain ⟨St, hpass, hq⟩ := hh
  refine ⟨Gd.kIn o₂, ?_⟩
  have F₂ := F.step (x₁.trans x₂)
  obtain ⟨mm, hn, _⟩ := F₂.ns
  obtain ⟨oL, es', ep, hL, hd, _⟩ := hn
  have o₃ := o₂.adopt (o := .held oL) F₂.out.1 ⟨oL.slots, hL, es', ep, hd⟩
  have LL : Λ₂ B.env.locals = none := F₂.out.2
  have le : Led.le Λ₂ (upd Λ₂ B.env.locals (.held oL)) := fun a ob e => by
    have : a ≠ B.env.locals := by first | exact opt_ne e LL | exact Ne.symm (opt_ne e LL) | (rintro rfl; rw [LL] at e; cases e)
    simp only [upd, if_neg this]; exact e
  have St' : Stk C base (B.env :: l) (upd Λ₂ B.env.locals (.held oL)) := by
    have z := St.le le
    refine ⟨z.has, fun env he => ?_⟩
    rcases List.mem_cons.mp he with rfl | he
    · exact ⟨F.kind, B.env.locals, oL, hff, hbl, by simp [upd]⟩
    · exact z.frs env he
  show wpAny _ _ (PySem.call v ([] ++ vs)) _ _ _
  refine wpAny_call (hq oL B.A g₂ s₂ vs _ (B.hA.le k) hfr St' o₃ vas (fun u s₃ p => ?_) fun qe e s' hz => hpass qe oL e s' hz)
  obtain ⟨g₃, Λ₃, a₃, o₄, x₄, va₃, rfl, q⟩ := p
  refine ⟨g₃, Λ₂, a₃, o₄.forget le, (x₁.trans x₂).trans ⟨x₄.gle, fun b ob hb hl => ?_, x₄.live, x₄.gens, x₄.drawn, x₄.os⟩, va₃, q⟩
  by_cases q : b = B.env.locals
  · subst q
    rw [hL] at hb; cases hb
    obtain ⟨hg3, sl, e3, _⟩ := o₄.led _ _ (show upd Λ₂ B.env.locals (.held oL) B.env.locals = some (.held oL) by simp [upd])
    exact ⟨.inr ⟨_, _, sl, hd, e3⟩, LL, hg3.trans F₂.out.1.symm⟩
  · obtain ⟨y1, y2, y3⟩ := x₄.keep b ob hb (by simp only [upd, if_neg q]; exact hl)
    exact ⟨y1, hl, y3⟩

/-- the same, with a view that is held still -/
noncomputable def Gd.at (C : Gd K) (g : FV) (h : ∀ a o, C.g0 a = some o → g a = some o) : Gd K := { C with g0 := g, sub := fun a o e => h a o (C.sub a o e) }

/-- the frames below, before a guarded call -/
noncomputable def Below' (l : List Env) (g : FV) (Λ : Led) (s : Shared) : Prop :=
  ∀ env ∈ l, env.scope.kind = .function ∧ ∃ L ob es m, env.frame = some L ∧ s.heap.get? L = some ob ∧ ob.data = .dict es m ∧ g L = none ∧ (Λ L = none ∨ ∃ oh, Λ L = some (.held oh))
noncomputable abbrev framesOf (l : List Env) : List Addr := l.filterMap (·.frame)

/-- an exception has come to the call's frame -/
noncomputable def Caught (C : Gd K) (l : List Env) (Cl : Addr) (s : Shared) (e : Value) (s' : Shared) : Prop :=
  ∃ ea a0, e = .ref ea ∧ Heap.FlyingW (hideAll s.heap (framesOf l)) l ea (.ref Cl) a0 s'.heap ∧ (∀ L ∈ framesOf l, ∀ ob, s.heap.get? L = some ob → ∃ sl, s'.heap.get? L = some { ob with slots := sl }) ∧ Rest C s'

/-- what stays as it was behind a caught exception -/
theorem caught_ok {g : FV} {s s' : Shared} {l : List Env} {h' : Heap} {t : Nat} (o : Ok C g Λ s) (hl : Below' l g Λ s) (k1 : (hideAll s.heap (framesOf l)).StaysIn h') (k2 : ∀ L ∈ framesOf l, ∀ ob, s.heap.get? L = some ob → ∃ sl, h'.get? L = some { ob with slots := sl }) (hg : Rest C s') :
    Ok C g Λ (mv s' h' t) ∧ Step g Λ s g Λ (mv s' h' t) := by
  have fr : ∀ L ∈ framesOf l, g L = none ∧ (Λ L = none ∨ ∃ oh, Λ L = some (.held oh)) ∧ ∃ ob es m, s.heap.get? L = some ob ∧ ob.data = .dict es m := fun L hL => by
    obtain ⟨env, he, hf⟩ := List.mem_filterMap.mp hL
    obtain ⟨_, L', ob, es, m, h1, h2, h3, h4, h5⟩ := hl env he
    rw [hf] at h1; cases h1
    exact ⟨h4, h5, ob, es, m, h2, h3⟩
  have kp : ∀ b ob, b ∉ framesOf l → s.heap.get? b = some ob → h'.get? b = some ob := fun b ob q e => k1 b ob (hideAll_get _ e q)
  refine ⟨⟨fun b ob e => kp b ob (fun q => by rw [(fr b q).1] at e; cases e) (o.gin b ob e), o.low, fun b ob e => ⟨(o.led b ob e).1, ?_⟩, hg⟩, fun _ _ e => e, fun b ob hb hl' => ⟨?_, hl', rfl⟩, fun b hb => ?_, hg.1.trans o.rest.1.symm, hg.2.2.trans o.rest.2.2.symm, hg.2.1.trans o.rest.2.1.symm⟩
  · by_cases q : b ∈ framesOf l
    · obtain ⟨_, z, o0, es, m, h2, h3⟩ := fr b q
      rcases z with z | ⟨oh, z⟩
      · rw [z] at e; cases e
      · rw [z] at e; cases e
        obtain ⟨sl, e1, e2⟩ := (o.led b _ z).2
        obtain ⟨sl', e3⟩ := k2 b q _ e1
        exact ⟨sl', e3, e2⟩
    · exact (o.led b ob e).2.keeps (fun _ _ e => e) fun c hc => kp _ _ q hc
  · by_cases q : b ∈ framesOf l
    · obtain ⟨_, _, o0, es, m, h2, h3⟩ := fr b q
      rw [hb] at h2; cases h2
      obtain ⟨sl, e3⟩ := k2 b q _ hb
      exact .inr ⟨es, m, sl, h3, e3⟩
    · exact .inl (kp _ _ q hb)
  · obtain ⟨ob, e⟩ := Option.ne_none_iff_exists'.mp hb
    show h'.get? b ≠ none
    by_cases q : b ∈ framesOf l
    · obtain ⟨sl, e3⟩ := k2 b q _ e
      rw [e3]; exact Option.some_ne_none _
    · rw [kp b ob q e]; exact Option.some_ne_none _

/-- a call under guard -/
theorem call_guard {n : Nat} {l : List Env} {Cl : Addr} {f : Value} {as : List V} {Qn : V → Prop} {Qe : Prop} {A : Around} {g : FV} {s : Shared} {vs : List Value} {R : Result → Shared → Prop} (hA : AOK A n) (hfr : A.frames = some l) (o : Ok C g Λ s) (hv : VRs C.prog C.w g vs as) (hl : Below' l g Λ s)
    (hf : ∀ base Λ', FnE (C.at g o.low) n base l Cl f as Λ' (fun a Λ'' => Λ'' = Λ' ∧ Qn a) Qe)
    (hN : ∀ v s', Post C g Λ s (fun a Λ' => Λ' = Λ ∧ Qn a) v s' → R (.ok (.ret v)) s') (hX : Qe → ∀ e s', Caught C l Cl s e s' → R (.error e) s') : codeAny (model C.prog C.w) A (.call f ⟨vs, []⟩) R s := by
  have fr : ∀ L ∈ framesOf l, g L = none ∧ (Λ L = none ∨ ∃ oh, Λ L = some (.held oh)) ∧ ∃ ob es m, s.heap.get? L = some ob ∧ ob.data = .dict es m := fun L hL => by
    obtain ⟨env, he, hf⟩ := List.mem_filterMap.mp hL
    obtain ⟨_, L', ob, es, m, h1, h2, h3, h4, h5⟩ := hl env he
    rw [hf] at h1; cases h1
    exact ⟨h4, h5, ob, es, m, h2, h3⟩
  -- the ledger of all that stands still
  let Λx : Led := fun b => if b ∈ framesOf l then (s.heap.get? b).map .held else if (g b).isSome then none else (s.heap.get? b).map .exact
  have x1 : ∀ b ∈ framesOf l, ∀ ob, s.heap.get? b = some ob → Λx b = some (.held ob) := fun b q ob e => by show (if _ then _ else _) = _; rw [if_pos q, e]; rfl
  have x2 : ∀ b ob, b ∉ framesOf l → g b = none → s.heap.get? b = some ob → Λx b = some (.exact ob) := fun b ob q e1 e => by show (if _ then _ else if _ then _ else _) = _; rw [if_neg q, e1, e]; rfl
  have x3 : ∀ b ob, g b = some ob → Λx b = none := fun b ob e => by
    have q : b ∉ framesOf l := fun q => by rw [(fr b q).1] at e; cases e
    show (if _ then _ else if _ then _ else _) = _; rw [if_neg q, e]; rfl
  have ox : Ok (C.at g o.low) g Λx s := by
    refine ⟨o.gin, fun _ _ e => e, fun b ob e => ?_, o.rest⟩
    by_cases q : b ∈ framesOf l
    · obtain ⟨h1, _, o0, es, m, h2, h3⟩ := fr b q
      rw [x1 b q _ h2] at e; cases e
      exact ⟨h1, o0.slots, h2, es, m, h3⟩
    · cases h : g b with
      | some og => rw [x3 b og h] at e; cases e
      | none =>
        cases hs : s.heap.get? b with
        | none =>
          have : Λx b = none := by show (if _ then _ else if _ then _ else _) = _; rw [if_neg q, h, hs]; rfl
          rw [this] at e; cases e
        | some os => rw [x2 b os q h hs] at e; cases e; exact ⟨rfl, hs⟩
  have St : Stk (C.at g o.low) (hideAll s.heap (framesOf l)) l Λx := by
    refine ⟨fun b ob e => ?_, fun env he => ?_⟩
    · have e' := of_hideAll _ e
      have q : b ∉ framesOf l := fun q => by rw [hideAll_none _ q] at e; cases e
      cases h : g b with
      | some og => exact .inl (by show g b = _; rw [h]; exact (o.gin b og h).symm.trans e')
      | none => exact .inr (x2 b ob q h e')
    · obtain ⟨h0, L, ob, es, m, h1, h2, h3, h4, h5⟩ := hl env he
      have q : L ∈ framesOf l := List.mem_filterMap.mpr ⟨env, he, h1⟩
      exact ⟨h0, L, ob, h1, hideAll_none _ q, x1 L q ob h2⟩
  refine hf (hideAll s.heap (framesOf l)) Λx A g s vs R hA hfr St ox hv (fun v s' p => ?_) fun qe e s' hz => ?_
  · obtain ⟨g', Λ', a, o', x', va, rfl, q⟩ := p
    have back : ∀ b ob, b ∉ framesOf l → s.heap.get? b = some ob → s'.heap.get? b = some ob := fun b ob q e => by
      cases h : g b with
      | some og =>
        have := (o.gin b og h).symm.trans e
        cases this
        exact o'.gin b _ (x'.gle _ _ h)
      | none => exact (o'.led b _ (x2 b ob q h e)).2
    have ok : Ok C g' Λ s' := by
      refine ⟨o'.gin, fun b ob e => x'.gle _ _ (o.low b ob e), fun b ob e => ?_, o'.rest⟩
      obtain ⟨z1, z2⟩ := o.led b ob e
      obtain ⟨ob1, hob1⟩ := o.there e
      by_cases q : b ∈ framesOf l
      · obtain ⟨_, z, o0, es, m, h2, h3⟩ := fr b q
        rcases z with z | ⟨oh, z⟩
        · rw [z] at e; cases e
        · rw [z] at e; cases e
          obtain ⟨sl, e1, e2⟩ := z2
          obtain ⟨w1, sl', e3, _⟩ := o'.led b _ (x1 b q _ e1)
          exact ⟨w1, sl', e3, e2⟩
      · exact ⟨(o'.led b _ (x2 b ob1 q z1 hob1)).1, z2.keeps x'.gle fun c hc => back _ _ q hc⟩
    refine hN v s' ⟨g', Λ, a, ok, ⟨x'.gle, fun b ob hb hl' => ?_, x'.live, x'.gens, x'.drawn, x'.os⟩, va, rfl, q⟩
    by_cases q : b ∈ framesOf l
    · obtain ⟨w0, _, o0, es, m, h2, h3⟩ := fr b q
      rw [hb] at h2; cases h2
      obtain ⟨w1, sl', e3, _⟩ := o'.led b _ (x1 b q _ hb)
      exact ⟨.inr ⟨es, m, sl', h3, e3⟩, hl', w1.trans w0.symm⟩
    · cases h : g b with
      | some og => exact ⟨.inl (back b ob q hb), hl', x'.gle _ _ h⟩
      | none => exact ⟨.inl (back b ob q hb), hl', (o'.led b _ (x2 b ob q h hb)).1⟩
  · obtain ⟨ea, a0, rfl, fl, hh, hg⟩ := hz
    exact hX qe _ _ ⟨ea, a0, rfl, fl, fun L hL ob e => hh L ob (x1 L hL ob e), hg⟩

/-- the same body that never raises -/
noncomputable abbrev Bd.still (B : Bd C) : Bd C := ⟨B.env, B.A, fun _ _ => False, B.n, B.hA, PassesOwn.never⟩
/-- what a handler's suite gives back -/
noncomputable def Gives (C : Gd K) (c : Const) (b : V) : Prop := ∃ v, (∀ g, VR C.prog C.w g v b) ∧ ∀ (M : Model) (A : Around) (E Q : Value → Shared → Prop) s k pos env, Q v s → wpAny M A (eval (.Constant c k pos) env) Q E s
theorem Gives.none : Gives C .none .none := ⟨.none, fun _ => .none, fun M A E Q s k pos env h => wpAny_Constant_none h⟩
theorem Gives.bool (b : Bool) : Gives C (.bool b) (.bool b) := ⟨.bool b, fun _ => .bool b, fun M A E Q s k pos env h => wpAny_Constant_bool h⟩

section
variable {l : List Env} {Cl : Addr} {Qn : V → Prop} {Qe : Prop} {id X : PySem.Str} {p np hp pos pc pr : Pos} {kc : Nat} {es : List Expr} {c : Const} {b : V} {Q : Fl → Loc → Led → Prop}
  {nm q : PySem.Str} {N : Addr} {bs bm : List Value} {hdct : Bool} {sn : List PySem.Str} {sub : List Value} {ab : Bool} {col : Option Bool} {dd : Option Addr} {k0 k1 k2 k3 k5 : Option Value}
theorem below_here {g : FV} {s : Shared} (F : Frm C B.env ρ g Λ s) (hff : B.env.frame = some B.env.locals) (hl : ∀ env ∈ l, env.scope.kind = .function ∧ ∃ L oh, env.frame = some L ∧ Λ L = some (.held oh)) (o : Ok C g Λ s) : Below' (B.env :: l) g Λ s := fun env he => by
  rcases List.mem_cons.mp he with rfl | he
  · obtain ⟨m, ⟨oL, es, ep, h1, h2, _⟩, _⟩ := F.ns
    exact ⟨F.kind, _, oL, es, ep, hff, h1, h2, F.out.1, .inl F.out.2⟩
  · obtain ⟨h0, L, oh, h1, h2⟩ := hl env he
    obtain ⟨z, sl, e, es, n, hd⟩ := o.led _ _ h2
    exact ⟨h0, L, _, es, n, h1, e, hd, z, .inr ⟨oh, h2⟩⟩
/-- the handler's part -/
theorem handler {g₀ g : FV} {s₀ s s' : Shared} {e : Value} {A : Around} {Λ₀ : Led} (hA : B.A = A) (hfr : B.A.frames = some (B.env :: l)) (hff : B.env.frame = some B.env.locals) (o : Ok C g Λ s) (F : Frm C B.env ρ g Λ s) (hl : Below' (B.env :: l) g Λ s) (x : StepF B.env g₀ Λ₀ s₀ g Λ s)
    (hC : (K C.w.params).lookup Cl = some (excClassObj nm q Cl N bs bm hdct sn sub ab col dd k0 k1 k2 k3 k5 "ValueError.__new__")) (hbase : bm.contains (.type "BaseException") = true)
    (eX : nsIn (K C.w.params) mainGlobals X = some (some (.ref Cl))) (hX : B.env.kindOf X = some .globalImplicit) (hd : (X == ("__debug__" : PySem.Str)) = false) (gv : Gives C c b) (hq : Q (.ret b) ρ Λ) (hz : Caught C (B.env :: l) Cl s e s') :
    wpAny (model C.prog C.w) B.A (noteFrame e B.env) (fun _ s₂ => wpAny (model C.prog C.w) B.A (setFlight e none) (fun _ s₃ =>
      wpAny (model C.prog C.w) B.A (handleBy e B.env [.ExceptHandler (some (.Name X np)) none [.Return (some (.Constant c kc pc)) pr] hp]) (PostS C B.env g₀ Λ₀ s₀ Q) B.E s₃) B.E s₂) B.E s' := by
  obtain ⟨ea, a0, rfl, hfl, hk, hrest⟩ := hz
  refine wpAny_looks_onW hfr hff hfl fun h₄ hheld₄ up₄ => ?_
  refine wpAny_landsW hheld₄ fun h₅ hfl₅ up₅ => ?_
  have kk : ∀ {h' h'' : Heap}, (∀ L ∈ framesOf (B.env :: l), ∀ ob, s.heap.get? L = some ob → ∃ sl, h'.get? L = some { ob with slots := sl }) → h'.UpToSlots h'' → ∀ L ∈ framesOf (B.env :: l), ∀ ob, s.heap.get? L = some ob → ∃ sl, h''.get? L = some { ob with slots := sl } := by
    intro h' h'' z up L hL ob e
    obtain ⟨env, he, hf⟩ := List.mem_filterMap.mp hL
    obtain ⟨_, L', o0, es, m, y1, y2, y3, _⟩ := hl env he
    rw [hf] at y1; cases y1
    rw [e] at y2; cases y2
    obtain ⟨sl, e1⟩ := z L hL ob e
    obtain ⟨sl', e2⟩ := up _ _ e1 (fun vs q => by rw [show (_ : Obj).data = ob.data from rfl, y3] at q; cases q)
    exact ⟨sl', e2⟩
  have hk₅ := kk (kk hk up₄) up₅
  obtain ⟨o₅, x₅⟩ := caught_ok (t := s'.toks) o hl hfl₅.1 hk₅ hrest
  have F₅ := F.step x₅
  obtain ⟨ob, hob, hobc⟩ := hfl₅.there
  refine wpAny_handleBy_cons (codeAny_handlers_test ?_) (by intro q; cases q)
  refine Name_function_global F₅.kind hX (loadGlobal_global (env := B.env) (by rw [F₅.glob]; exact C.T.g.keeps o₅.stays) (mg_of C.KX C.T.g eX) ?_) hd
  refine wpAny_excMatches_sub_self (Gd.kIn o₅ _ _ hC) hob hobc hbase (codeAny_handlers_suite ?_)
  refine lands_againW hfl₅ fun h₆ hfl₆ up₆ => ?_
  obtain ⟨o₆, x₆⟩ := caught_ok (t := s'.toks) o hl hfl₆.1 (kk hk₅ up₆) hrest
  obtain ⟨v, gv1, gv2⟩ := gv
  refine wpAny_execs_cons (wpAny_Return_some (gv2 _ _ _ _ _ _ _ _ ?_))
  exact ⟨g, Λ, ρ, .ret b, o₆, F.step x₆, x.trans x₆.toF, .ret (gv1 _), hq⟩
end
end Mine
end
section
namespace Mine
variable {K : Params → Frag} {C : Gd K} {B : Bd C} {ρ : Loc} {Λ : Led}

section
variable {l : List Env} {Cl : Addr} {Qn : V → Prop} {Qe : Prop} {id X y : PySem.Str} {p np hp pos pc pr py pa : Pos} {kc : Nat} {es : List Expr} {c : Const} {b : V} {rest : List Stmt} {Q : Fl → Loc → Led → Prop}
  {nm q : PySem.Str} {N : Addr} {bs bm : List Value} {hdct : Bool} {sn : List PySem.Str} {sub : List Value} {ab : Bool} {col : Option Bool} {dd : Option Addr} {k0 k1 k2 k3 k5 : Option Value}

/-- try: y = f(..) except X: return c -/
theorem Ex.tryAssign (m : Nat) (hfr : B.A.frames = some (B.env :: l)) (hff : B.env.frame = some B.env.locals) (hl : ∀ env ∈ l, env.scope.kind = .function ∧ ∃ L oh, env.frame = some L ∧ Λ L = some (.held oh))
    (hC : (K C.w.params).lookup Cl = some (excClassObj nm q Cl N bs bm hdct sn sub ab col dd k0 k1 k2 k3 k5 "ValueError.__new__")) (hbase : bm.contains (.type "BaseException") = true)
    (eX : nsIn (K C.w.params) mainGlobals X = some (some (.ref Cl))) (gv : Gives C c b)
    (h : Ev B.still ρ (.Name id p) Λ fun fa Λ₁ => Λ₁ = Λ ∧ ∃ f, IsF fa f ∧ KeepsF C f ∧ Evs B.still ρ es Λ fun as Λ₂ => Λ₂ = Λ ∧ (∀ g h base Λ', FnE (C.at g h) m base (B.env :: l) Cl f as Λ' (fun a Λ'' => Λ'' = Λ' ∧ Qn a) Qe))
    (k : m ≤ B.n) (hq : ∀ a, Qn a → Ex B rest ((y, a) :: ρ) Λ Q) (hqe : Qe → Q (.ret b) ρ Λ)
    (hX : B.env.kindOf X = some .globalImplicit := by rfl) (hd : (X == ("__debug__" : PySem.Str)) = false := by decide) (hy : CanStore B.env y := by exact canL rfl)
    (hsw : swapsWith (.Call (.Name id p) es [] pos) (some (.Name y py)) pa.line B.env = pure false := by rfl) (hpl : ∀ env, (backTo pos (starEach es env)).any (·.1) = false := by intro _; rfl) :
    Ex B (.Try [.Assign [.Name y py] (.Call (.Name id p) es [] pos) pa] [.ExceptHandler (some (.Name X np)) none [.Return (some (.Constant c kc pc)) pr] hp] [] [] pr' :: rest) ρ Λ Q := by
  refine Ex.cons fun g s o F => wpAny_Try_except (wpAny_execs_cons (wpAny_Assign_Name (wpAny_Call_Name_kw (wpAny_mono (h g s o F) (fun v s₁ hh => ?_) fun _ _ x => x.elim)) hsw))
  obtain ⟨g₁, Λ₁, a, o₁, x₁, va, eΛ, f, hf, hk, h₁⟩ := hh
  subst eΛ
  have e := hf.eq va
  subst e
  refine callWith_of (P := fun h => (K C.w.params).In h) (by rw [hpl]; rfl) hk (evalArgs_any (hpl _) ?_)
  refine wpAny_mono (h₁ pos g₁ s₁ o₁ (F.step x₁)) (fun vs s₂ hh => ?_) fun _ _ x => x.elim
  obtain ⟨g₂, Λ₂, as, o₂, x₂, vas, eΛ, hfn⟩ := hh
  refine ⟨Gd.kIn o₂, ?_⟩
  subst eΛ
  have x₁₂ := x₁.trans x₂
  have F₂ := F.step x₁₂
  have hb := below_here F₂ hff hl o₂
  show wpAny _ _ (PySem.call v ([] ++ vs)) _ _ _
  refine wpAny_call (call_guard (C := C) (Qn := Qn) (Qe := Qe) (B.hA.le k) hfr o₂ vas hb (fun base Λ' => hfn _ _ base Λ') (fun u s₃ p => ?_) fun qe e s₃ hz => ?_)
  · obtain ⟨g₃, Λ₃, a₃, o₃, x₃, ua, eΛ, qn⟩ := p
    subst eΛ
    refine store_wp o₃ (F₂.step x₃) ua hy fun s₄ o₄ F₄ x₄ => ?_
    refine wpAny_execs_nil (wpAny_execs_nil ?_)
    exact ⟨g₃, _, _, .next, o₄, F₄, (x₁₂.trans x₃).toF.trans x₄, .next, hq _ qn⟩
  · exact handler (Q := Then B rest Q) rfl hfr hff o₂ F₂ hb x₁₂.toF hC hbase eX hX hd gv (hqe qe) hz

/-- try: f(..) except X: return c -/
theorem Ex.tryExpr (m : Nat) (hfr : B.A.frames = some (B.env :: l)) (hff : B.env.frame = some B.env.locals) (hl : ∀ env ∈ l, env.scope.kind = .function ∧ ∃ L oh, env.frame = some L ∧ Λ L = some (.held oh))
    (hC : (K C.w.params).lookup Cl = some (excClassObj nm q Cl N bs bm hdct sn sub ab col dd k0 k1 k2 k3 k5 "ValueError.__new__")) (hbase : bm.contains (.type "BaseException") = true)
    (eX : nsIn (K C.w.params) mainGlobals X = some (some (.ref Cl))) (gv : Gives C c b)
    (h : Ev B.still ρ (.Name id p) Λ fun fa Λ₁ => Λ₁ = Λ ∧ ∃ f, IsF fa f ∧ KeepsF C f ∧ Evs B.still ρ es Λ fun as Λ₂ => Λ₂ = Λ ∧ (∀ g h base Λ', FnE (C.at g h) m base (B.env :: l) Cl f as Λ' (fun a Λ'' => Λ'' = Λ' ∧ Qn a) Qe))
    (k : m ≤ B.n) (hq : ∀ a, Qn a → Ex B rest ρ Λ Q) (hqe : Qe → Q (.ret b) ρ Λ)
    (hX : B.env.kindOf X = some .globalImplicit := by rfl) (hd : (X == ("__debug__" : PySem.Str)) = false := by decide)
    (hsw : swapsWith (.Call (.Name id p) es [] pos) none pa.line B.env = pure false := by rfl) (hpl : ∀ env, (backTo pos (starEach es env)).any (·.1) = false := by intro _; rfl) :
    Ex B (.Try [.Expr (.Call (.Name id p) es [] pos) pa] [.ExceptHandler (some (.Name X np)) none [.Return (some (.Constant c kc pc)) pr] hp] [] [] pr' :: rest) ρ Λ Q := by
  refine Ex.cons fun g s o F => wpAny_Try_except (wpAny_execs_cons (wpAny_Expr_any (wpAny_Call_Name_kw (wpAny_mono (h g s o F) (fun v s₁ hh => ?_) fun _ _ x => x.elim)) (by unfold interactive; rw [F.kind]; rfl) hsw))
  obtain ⟨g₁, Λ₁, a, o₁, x₁, va, eΛ, f, hf, hk, h₁⟩ := hh
  subst eΛ
  have e := hf.eq va
  subst e
  refine callWith_of (P := fun h => (K C.w.params).In h) (by rw [hpl]; rfl) hk (evalArgs_any (hpl _) ?_)
  refine wpAny_mono (h₁ pos g₁ s₁ o₁ (F.step x₁)) (fun vs s₂ hh => ?_) fun _ _ x => x.elim
  obtain ⟨g₂, Λ₂, as, o₂, x₂, vas, eΛ, hfn⟩ := hh
  refine ⟨Gd.kIn o₂, ?_⟩
  subst eΛ
  have x₁₂ := x₁.trans x₂
  have F₂ := F.step x₁₂
  have hb := below_here F₂ hff hl o₂
  show wpAny _ _ (PySem.call v ([] ++ vs)) _ _ _
  refine wpAny_call (call_guard (C := C) (Qn := Qn) (Qe := Qe) (B.hA.le k) hfr o₂ vas hb (fun base Λ' => hfn _ _ base Λ') (fun u s₃ p => ?_) fun qe e s₃ hz => ?_)
  · obtain ⟨g₃, Λ₃, a₃, o₃, x₃, ua, eΛ, qn⟩ := p
    subst eΛ
    refine wpAny_execs_nil (wpAny_execs_nil ?_)
    exact ⟨g₃, _, _, .next, o₃, F₂.step x₃, (x₁₂.trans x₃).toF, .next, hq _ qn⟩
  · exact handler (Q := Then B rest Q) rfl hfr hff o₂ F₂ hb x₁₂.toF hC hbase eX hX hd gv (hqe qe) hz
end

/-- the call of a function that knows its frames and does not raise -/
noncomputable def FnT (C : Gd K) (n : Nat) (l : List Env) (f : Value) (as : List V) (Λ : Led) (Q : V → Led → Prop) : Prop :=
  ∀ A g s vs (R : Result → Shared → Prop), AOK A n → A.frames = some l → (∀ env ∈ l, env.scope.kind = .function ∧ ∃ L oh, env.frame = some L ∧ Λ L = some (.held oh)) → Ok C g Λ s → VRs C.prog C.w g vs as → (∀ v s', Post C g Λ s Q v s' → R (.ok (.ret v)) s') → codeAny (model C.prog C.w) A (.call f ⟨vs, []⟩) R s

theorem FnT.def {n : Nat} {l : List Env} {f : Addr} {oc : Value} {od an : Option Addr} {osl : Array (Option Value)} {name qual : PySem.Str} {params : Arguments} {body : List Stmt} {scope : Scope} {dV kV doc pm cdv ct : Value} {as da : List V} {names : List PySem.Str} {dv : List Value} {ρ : Loc} {Q : V → Led → Prop}
    (ho : (K C.w.params).lookup f = some ⟨oc, od, .func (fnOf name qual params body scope dV kV doc pm an cdv ct), osl⟩) (hcd : codeIn (K C.w.params) cdv qual = true)
    (hb : ∀ (s : Shared) vs, (K C.w.params).In s.heap → vs.length = as.length → BindsTo s (fnOf name qual params body scope dV kV doc pm an cdv ct) ⟨vs, []⟩ (names.zip (vs ++ dv)))
    (hdv : VRs C.prog C.w C.base.get? dv da) (hloc : ∀ x ∈ names, scope.names.lookup x = some .local) (hcell : ∀ x ∈ scope.names, x.2 ≠ .cell)
    (hk : scope.kind = .function) (hco : scope.isCoroutine = false) (hgen : scope.isGenerator = false) (hρ : (names.zip (as ++ da)).reverse = ρ)
    (h : ∀ A L (hA : AOK A n), A.frames = some (callEnv (fnOf name qual params body scope dV kV doc pm an cdv ct) L f :: l) → (∀ env ∈ l, env.scope.kind = .function ∧ ∃ L oh, env.frame = some L ∧ Λ L = some (.held oh)) →
      Ex (C := C) ⟨callEnv (fnOf name qual params body scope dV kV doc pm an cdv ct) L f, A, fun _ _ => False, n, hA, PassesOwn.never⟩ body ρ Λ fun fl _ Λ' => Q (retOf fl) Λ') : FnT C (n + 1) l (.ref f) as Λ Q := by
  intro A g s vs R hA hfr hl o hv hR
  refine def_core ho hcd hb hdv hloc hcell hk hco hgen hρ (by have := hA.dep; omega) o hv hR fun L s₁ o₁ F₁ _ _ => ?_
  exact wpAny_mono (h _ L (hA.deeper _) (by show A.frames.map _ = _; rw [hfr]; rfl) hl g s₁ o₁ F₁) (fun _ _ x => x) fun _ _ x => x.elim

/-- f(..), f a function that knows its frames -/
theorem Ev.callT (m : Nat) {l : List Env} {id : PySem.Str} {p pos : Pos} {es : List Expr} {Q : V → Led → Prop} (hfr : B.A.frames = some (B.env :: l)) (hff : B.env.frame = some B.env.locals)
    (h : Ev B ρ (.Name id p) Λ fun fa Λ₁ => ∃ f, IsF fa f ∧ KeepsF C f ∧ Evs B ρ es Λ₁ fun as Λ₂ => (∀ env ∈ l, env.scope.kind = .function ∧ ∃ L oh, env.frame = some L ∧ Λ₂ L = some (.held oh)) ∧
      ∀ oL, FnT C m (B.env :: l) f as (upd Λ₂ B.env.locals (.held oL)) (fun a Λ' => Λ' = upd Λ₂ B.env.locals (.held oL) ∧ Q a Λ₂)) (k : m ≤ B.n)
    (hp : ∀ env, (backTo pos (starEach es env)).any (·.1) = false := by intro _; rfl) : Ev B ρ (.Call (.Name id p) es [] pos) Λ Q := fun g s o F => by
  refine wpAny_Call_Name_kw (wp_then (h g s o F) fun v s₁ g₁ Λ₁ a o₁ x₁ va hh => ?_)
  obtain ⟨f, hf, hk, h₁⟩ := hh
  have e := hf.eq va
  subst e
  refine callWith_of (P := fun h => (K C.w.params).In h) (by rw [hp]; rfl) hk (evalArgs_any (hp _) ?_)
  refine wp_thenL (h₁ pos g₁ s₁ o₁ (F.step x₁)) fun vs s₂ g₂ Λ₂ as o₂ x₂ vas hh => ?_
  obtain ⟨hl, hq⟩ := hh
  refine ⟨Gd.kIn o₂, ?_⟩
  have F₂ := F.step (x₁.trans x₂)
  obtain ⟨mm, hn, _⟩ := F₂.ns
  obtain ⟨oL, es', ep, hL, hd, _⟩ := hn
  have o₃ := o₂.adopt (o := .held oL) F₂.out.1 ⟨oL.slots, hL, es', ep, hd⟩
  have LL : Λ₂ B.env.locals = none := F₂.out.2
  have le : Led.le Λ₂ (upd Λ₂ B.env.locals (.held oL)) := fun a ob e => by
    have : a ≠ B.env.locals := by first | exact opt_ne e LL | exact Ne.symm (opt_ne e LL) | (rintro rfl; rw [LL] at e; cases e)
    simp only [upd, if_neg this]; exact e
  have hl' : ∀ env ∈ B.env :: l, env.scope.kind = .function ∧ ∃ L oh, env.frame = some L ∧ upd Λ₂ B.env.locals (.held oL) L = some (.held oh) := fun env he => by
    rcases List.mem_cons.mp he with rfl | he
    · exact ⟨F.kind, B.env.locals, oL, hff, by simp [upd]⟩
    · obtain ⟨h0, L, oh, h1, h2⟩ := hl env he
      exact ⟨h0, L, oh, h1, le _ _ h2⟩
  show wpAny _ _ (PySem.call v ([] ++ vs)) _ _ _
  refine wpAny_call (hq oL B.A g₂ s₂ vs _ (B.hA.le k) hfr hl' o₃ vas fun u s₃ p => ?_)
  obtain ⟨g₃, Λ₃, a₃, o₄, x₄, va₃, rfl, q⟩ := p
  refine ⟨g₃, Λ₂, a₃, o₄.forget le, (x₁.trans x₂).trans ⟨x₄.gle, fun b ob hb hl => ?_, x₄.live, x₄.gens, x₄.drawn, x₄.os⟩, va₃, q⟩
  by_cases q : b = B.env.locals
  · subst q
    rw [hL] at hb; cases hb
    obtain ⟨hg3, sl, e3, _⟩ := o₄.led _ _ (show upd Λ₂ B.env.locals (.held oL) B.env.locals = some (.held oL) by simp [upd])
    exact ⟨.inr ⟨_, _, sl, hd, e3⟩, LL, hg3.trans F₂.out.1.symm⟩
  · obtain ⟨y1, y2, y3⟩ := x₄.keep b ob hb (by simp only [upd, if_neg q]; exact hl)
    exact ⟨y1, hl, y3⟩
end Mine
end
section
namespace Mine
/-- the program of the row, its statements -/
abbrev rr : OpenRow := PySem.Challenge.rw_rg0156_01.row
abbrev rp : Program := PySem.Challenge.rw_rg0156_01.row.prog
noncomputable def stm (i : Nat) : Stmt := match rp.main.body[i]? with
  | some s => s
  | none => .Pass ⟨0, 0, 0, 0⟩
noncomputable def memb (i j : Nat) : Stmt := match stm i with
  | .ClassDef _ _ _ b _ _ _ _ _ _ _ => (match b[j]? with
    | some s => s
    | none => .Pass ⟨0, 0, 0, 0⟩)
  | _ => .Pass ⟨0, 0, 0, 0⟩
noncomputable def fP : Stmt → Arguments
  | .FunctionDef _ p _ _ _ _ _ _ _ _ => p
  | _ => ⟨[], [], none, [], [], none, []⟩
noncomputable def fB : Stmt → List Stmt
  | .FunctionDef _ _ b _ _ _ _ _ _ _ => b
  | _ => []
noncomputable def fS : Stmt → Scope
  | .FunctionDef _ _ _ _ _ _ s _ _ _ => s
  | _ => { kind := .module, names := [], isGenerator := false, isCoroutine := false }
noncomputable def fo (s : Stmt) (nm q : PySem.Str) (dV kV pm cdv : Value) : Obj := { cls := .type "function", data := .func (fnOf nm q (fP s) (fB s) (fS s) dV kV .none pm none cdv .none) }
noncomputable def de (P : Params) (x : PySem.Str) (t : Nat) (v : Value) : DictEntry := ⟨PyData.keyHash P x, .str x t, v⟩
/-- what stands in the heap behind the top -/
noncomputable def KH (P : Params) : Frag := [
  (2, { cls := .none, data := .dict #[] }),
  (3, { cls := .type "dict", data := .dict #[de P "__name__" 165 (.str "law_rg0156_01" 816), de P "__doc__" 166 (.none), de P "__package__" 167 (.none), de P "__loader__" 168 (.builtin "__main__.__loader__#opaque"), de P "__spec__" 169 (.none), de P "__annotations__" 170 (.ref 6), de P "__builtins__" 171 (.ref 4), de P "__file__" 173 (.str "/claim/cut.py" 172), de P "__cached__" 174 (.none), de P "_wall" 193 (.ref 21), de P "PageError" 223 (.ref 39), de P "BadArgument" 239 (.ref 52), de P "Overflow" 255 (.ref 64), de P "BadFont" 271 (.ref 76), de P "TooMuch" 287 (.ref 88), de P "MAX_DIMEN" 295 (.int 1073741823 294), de P "is_whole" 304 (.ref 97), de P "check_whole" 311 (.ref 104), de P "check_dimen" 318 (.ref 111), de P "EDGE" 322 (.int 256 321), de P "MOST_FONTS" 324 (.int 255 323), de P "MOST_PARAMS" 326 (.int 64 325), de P "MOST_SIZE" 332 (.int 134217727 331), de P "PLAIN_SORT" 337 (.int 0 333), de P "PROGRAM_SORT" 338 (.int 1 334), de P "LARGER_SORT" 339 (.int 2 335), de P "PIECES_SORT" 340 (.int 3 336), de P "STOP_SKIP" 344 (.int 128 341), de P "KERN_OP" 345 (.int 128 342), de P "LEAD" 346 (.int 255 343), de P "NO_CHARACTER" 353 (.ref 120), de P "is_size" 360 (.ref 127), de P "check_sizes" 368 (.ref 134), de P "check_pieces" 378 (.ref 141), de P "check_chars" 390 (.ref 148), de P "check_larger" 400 (.ref 155), de P "check_program" 418 (.ref 162), de P "left_start" 429 (.ref 169), de P "Font" 561 (.ref 259), de P "CHAR" 572 (.int 0 564), de P "LIGATURE" 573 (.int 1 565), de P "HBOX" 574 (.int 2 566), de P "VBOX" 575 (.int 3 567), de P "RULE" 576 (.int 4 568), de P "KERN" 577 (.int 5 569), de P "GLUE" 578 (.int 6 570), de P "PENALTY" 579 (.int 7 571), de P "FONT_KERN" 584 (.int 0 580), de P "EXPLICIT" 585 (.int 1 581), de P "ACCENT_KERN" 586 (.int 2 582), de P "MU_KERN" 587 (.int 3 583), de P "check_code" 594 (.ref 278), de P "Char" 626 (.ref 295), de P "Ligature" 658 (.ref 315), de P "Kern" 690 (.ref 336), de P "KNOWN_OPS" 701 (.ref 341), de P "STEPS" 703 (.int 20 702), de P "look" 719 (.ref 348), de P "Word" 753 (.ref 363), de P "leave" 763 (.ref 374), de P "pass_on" 770 (.ref 381), de P "put_between" 786 (.ref 388), de P "word_nodes" 801 (.ref 395), de P "run" 815 (.ref 403), de P "_law_ops" 827 (.ref 404), de P "_law_amounts" 831 (.ref 405), de P "_law_chosen" 834 (.ref 406), de P "_law_cell" 842 (.ref 413), de P "_law_bag" 849 (.ref 420), de P "_law_draw" 859 (.ref 427), de P "_law_row" 876 (.ref 434), de P "_law_pairs" 890 (.ref 441), de P "_law_tables" 901 (.ref 448), de P "_law_looks_right" 914 (.ref 455), de P "_law_step" 929 (.ref 462), de P "_law_tape" 935 (.ref 467), de P "_law_told" 941 (.ref 472), de P "_law_whole" 959 (.ref 479), de P "_law_node" 966 (.ref 486), de P "_law_run" 972 (.ref 491), de P "_law_refused" 980 (.ref 498), de P "law" 986 (.ref 503)] 82 }),
  (20, { cls := .type "code", data := .fields #[.str "_wall" 187, .str "_wall" 188, .str "/claim/cut.py" 189, .int 1 0, .int 1 0, .int 0 0, .int 0 0, .int 3 0, .ref 15, .bool true, .int 181 0, .ref 16, .none, .ref 17, .ref 18, .ref 19, .int 191 0, .int 1 0, .str "/claim/cut.py" 192] }),
  (21, fo (stm 0) "_wall" "_wall" (.none) (.none) (.str "__main__" 164) (.ref 20)),
  (29, { cls := .type "tuple", data := .seq #[.str "" 208] }),
  (35, { cls := .type "code", data := .fields #[.str "__init__" 209, .str "PageError.__init__" 210, .str "/claim/cut.py" 211, .int 7 0, .int 2 0, .int 0 0, .int 0 0, .int 3 0, .ref 30, .bool true, .int 181 0, .ref 31, .none, .ref 32, .ref 33, .ref 34, .int 214 0, .int 7 0, .str "/claim/cut.py" 215] }),
  (36, fo (memb 2 0) "__init__" "PageError.__init__" (.ref 29) (.none) (.str "gluepage.errors" 194) (.ref 35)),
  (38, { cls := .type "dict", data := .dict #[de P "__module__" 203 (.str "gluepage.errors" 194), de P "__firstlineno__" 207 (.int 5 206), de P "__init__" 216 (.ref 36), de P "__static_attributes__" 218 (.ref 37), de P "__weakref__" 220 (.ref 40), de P "__doc__" 221 (.none)] 3 }),
  (39, { cls := .type "type", data := .cls { name := "PageError", bases := [.type "ValueError"], mro := [.ref 39, .type "ValueError", .type "Exception", .type "BaseException", .type "object"], ns := 38, qualname := "PageError", subclasses := [.ref 52, .ref 64, .ref 76, .ref 88] }, slots := #[some (.ref 22), none, some (.str "PageError" 196), some (.str "PageError" 204), some (.builtin "ValueError.__new__"), some (.bool true)] }),
  (40, { cls := .type "getset_descriptor", data := .fields #[.str "__weakref__" 219, .ref 39, .builtin "ExceptionGroup.__weakref__", .none] }),
  (51, { cls := .type "dict", data := .dict #[de P "__module__" 231 (.str "gluepage.errors" 194), de P "__firstlineno__" 235 (.int 9 234), de P "__static_attributes__" 236 (.ref 50), de P "__doc__" 237 (.none)] 2 }),
  (52, { cls := .type "type", data := .cls { name := "BadArgument", bases := [.ref 39], mro := [.ref 52, .ref 39, .type "ValueError", .type "Exception", .type "BaseException", .type "object"], ns := 51, qualname := "BadArgument" }, slots := #[some (.ref 43), none, some (.str "BadArgument" 224), some (.str "BadArgument" 232), some (.builtin "ValueError.__new__"), some (.bool true)] }),
  (63, { cls := .type "dict", data := .dict #[de P "__module__" 247 (.str "gluepage.errors" 194), de P "__firstlineno__" 251 (.int 11 250), de P "__static_attributes__" 252 (.ref 62), de P "__doc__" 253 (.none)] 2 }),
  (64, { cls := .type "type", data := .cls { name := "Overflow", bases := [.ref 39], mro := [.ref 64, .ref 39, .type "ValueError", .type "Exception", .type "BaseException", .type "object"], ns := 63, qualname := "Overflow" }, slots := #[some (.ref 55), none, some (.str "Overflow" 240), some (.str "Overflow" 248), some (.builtin "ValueError.__new__"), some (.bool true)] }),
  (75, { cls := .type "dict", data := .dict #[de P "__module__" 263 (.str "gluepage.errors" 194), de P "__firstlineno__" 267 (.int 13 266), de P "__static_attributes__" 268 (.ref 74), de P "__doc__" 269 (.none)] 2 }),
  (76, { cls := .type "type", data := .cls { name := "BadFont", bases := [.ref 39], mro := [.ref 76, .ref 39, .type "ValueError", .type "Exception", .type "BaseException", .type "object"], ns := 75, qualname := "BadFont" }, slots := #[some (.ref 67), none, some (.str "BadFont" 256), some (.str "BadFont" 264), some (.builtin "ValueError.__new__"), some (.bool true)] }),
  (87, { cls := .type "dict", data := .dict #[de P "__module__" 279 (.str "gluepage.errors" 194), de P "__firstlineno__" 283 (.int 15 282), de P "__static_attributes__" 284 (.ref 86), de P "__doc__" 285 (.none)] 2 }),
  (88, { cls := .type "type", data := .cls { name := "TooMuch", bases := [.ref 39], mro := [.ref 88, .ref 39, .type "ValueError", .type "Exception", .type "BaseException", .type "object"], ns := 87, qualname := "TooMuch" }, slots := #[some (.ref 79), none, some (.str "TooMuch" 272), some (.str "TooMuch" 280), some (.builtin "ValueError.__new__"), some (.bool true)] }),
  (96, { cls := .type "code", data := .fields #[.str "is_whole" 296, .str "is_whole" 297, .str "/claim/cut.py" 298, .int 19 0, .int 3 0, .int 0 0, .int 0 0, .int 3 0, .ref 91, .bool true, .int 181 0, .ref 92, .none, .ref 93, .ref 94, .ref 95, .int 302 0, .int 19 0, .str "/claim/cut.py" 303] }),
  (97, fo (stm 9) "is_whole" "is_whole" (.none) (.none) (.str "gluepage.scaled" 288) (.ref 96)),
  (103, { cls := .type "code", data := .fields #[.str "check_whole" 305, .str "check_whole" 306, .str "/claim/cut.py" 307, .int 21 0, .int 1 0, .int 0 0, .int 0 0, .int 3 0, .ref 98, .bool true, .int 181 0, .ref 99, .none, .ref 100, .ref 101, .ref 102, .int 309 0, .int 21 0, .str "/claim/cut.py" 310] }),
  (104, fo (stm 10) "check_whole" "check_whole" (.none) (.none) (.str "gluepage.scaled" 288) (.ref 103)),
  (110, { cls := .type "code", data := .fields #[.str "check_dimen" 312, .str "check_dimen" 313, .str "/claim/cut.py" 314, .int 25 0, .int 1 0, .int 0 0, .int 0 0, .int 3 0, .ref 105, .bool true, .int 181 0, .ref 106, .none, .ref 107, .ref 108, .ref 109, .int 316 0, .int 25 0, .str "/claim/cut.py" 317] }),
  (111, fo (stm 11) "check_dimen" "check_dimen" (.none) (.none) (.str "gluepage.scaled" 288) (.ref 110)),
  (120, { cls := .type "tuple", data := .seq #[.int 0 347, .int 0 348, .int 0 349, .int 0 350, .int 0 351, .int 0 352] }),
  (126, { cls := .type "code", data := .fields #[.str "is_size" 354, .str "is_size" 355, .str "/claim/cut.py" 356, .int 37 0, .int 1 0, .int 0 0, .int 0 0, .int 3 0, .ref 121, .bool true, .int 181 0, .ref 122, .none, .ref 123, .ref 124, .ref 125, .int 358 0, .int 37 0, .str "/claim/cut.py" 359] }),
  (127, fo (stm 20) "is_size" "is_size" (.none) (.none) (.str "gluepage.fonts" 319) (.ref 126)),
  (133, { cls := .type "code", data := .fields #[.str "check_sizes" 361, .str "check_sizes" 362, .str "/claim/cut.py" 363, .int 39 0, .int 1 0, .int 0 0, .int 0 0, .int 3 0, .ref 128, .bool true, .int 181 0, .ref 129, .none, .ref 130, .ref 131, .ref 132, .int 366 0, .int 39 0, .str "/claim/cut.py" 367] }),
  (134, fo (stm 21) "check_sizes" "check_sizes" (.none) (.none) (.str "gluepage.fonts" 319) (.ref 133)),
  (140, { cls := .type "code", data := .fields #[.str "check_pieces" 369, .str "check_pieces" 370, .str "/claim/cut.py" 371, .int 43 0, .int 2 0, .int 0 0, .int 0 0, .int 3 0, .ref 135, .bool true, .int 181 0, .ref 136, .none, .ref 137, .ref 138, .ref 139, .int 376 0, .int 43 0, .str "/claim/cut.py" 377] }),
  (141, fo (stm 22) "check_pieces" "check_pieces" (.none) (.none) (.str "gluepage.fonts" 319) (.ref 140)),
  (147, { cls := .type "code", data := .fields #[.str "check_chars" 379, .str "check_chars" 380, .str "/claim/cut.py" 381, .int 49 0, .int 2 0, .int 0 0, .int 0 0, .int 3 0, .ref 142, .bool true, .int 181 0, .ref 143, .none, .ref 144, .ref 145, .ref 146, .int 388 0, .int 49 0, .str "/claim/cut.py" 389] }),
  (148, fo (stm 23) "check_chars" "check_chars" (.none) (.none) (.str "gluepage.fonts" 319) (.ref 147)),
  (154, { cls := .type "code", data := .fields #[.str "check_larger" 391, .str "check_larger" 392, .str "/claim/cut.py" 393, .int 61 0, .int 1 0, .int 0 0, .int 0 0, .int 3 0, .ref 149, .bool true, .int 181 0, .ref 150, .none, .ref 151, .ref 152, .ref 153, .int 398 0, .int 61 0, .str "/claim/cut.py" 399] }),
  (155, fo (stm 24) "check_larger" "check_larger" (.none) (.none) (.str "gluepage.fonts" 319) (.ref 154)),
  (161, { cls := .type "code", data := .fields #[.str "check_program" 401, .str "check_program" 402, .str "/claim/cut.py" 403, .int 69 0, .int 4 0, .int 0 0, .int 0 0, .int 3 0, .ref 156, .bool true, .int 181 0, .ref 157, .none, .ref 158, .ref 159, .ref 160, .int 416 0, .int 69 0, .str "/claim/cut.py" 417] }),
  (162, fo (stm 25) "check_program" "check_program" (.none) (.none) (.str "gluepage.fonts" 319) (.ref 161)),
  (168, { cls := .type "code", data := .fields #[.str "left_start" 419, .str "left_start" 420, .str "/claim/cut.py" 421, .int 88 0, .int 1 0, .int 0 0, .int 0 0, .int 3 0, .ref 163, .bool true, .int 181 0, .ref 164, .none, .ref 165, .ref 166, .ref 167, .int 427 0, .int 88 0, .str "/claim/cut.py" 428] }),
  (169, fo (stm 26) "left_start" "left_start" (.none) (.none) (.str "gluepage.fonts" 319) (.ref 168)),
  (179, { cls := .type "tuple", data := .seq #[.ref 177, .ref 178, .int 256 321] }),
  (185, { cls := .type "code", data := .fields #[.str "__init__" 442, .str "Font.__init__" 443, .str "/claim/cut.py" 444, .int 95 0, .int 9 0, .int 0 0, .int 0 0, .int 3 0, .ref 180, .bool true, .int 181 0, .ref 181, .none, .ref 182, .ref 183, .ref 184, .int 454 0, .int 95 0, .str "/claim/cut.py" 455] }),
  (186, fo (memb 27 0) "__init__" "Font.__init__" (.ref 179) (.none) (.str "gluepage.fonts" 319) (.ref 185)),
  (192, { cls := .type "code", data := .fields #[.str "has" 457, .str "Font.has" 458, .str "/claim/cut.py" 459, .int 119 0, .int 2 0, .int 0 0, .int 0 0, .int 3 0, .ref 187, .bool true, .int 181 0, .ref 188, .none, .ref 189, .ref 190, .ref 191, .int 462 0, .int 119 0, .str "/claim/cut.py" 463] }),
  (193, fo (memb 27 1) "has" "Font.has" (.none) (.none) (.str "gluepage.fonts" 319) (.ref 192)),
  (199, { cls := .type "code", data := .fields #[.str "width" 465, .str "Font.width" 466, .str "/claim/cut.py" 467, .int 122 0, .int 2 0, .int 0 0, .int 0 0, .int 3 0, .ref 194, .bool true, .int 181 0, .ref 195, .none, .ref 196, .ref 197, .ref 198, .int 470 0, .int 122 0, .str "/claim/cut.py" 471] }),
  (200, fo (memb 27 2) "width" "Font.width" (.none) (.none) (.str "gluepage.fonts" 319) (.ref 199)),
  (206, { cls := .type "code", data := .fields #[.str "height" 473, .str "Font.height" 474, .str "/claim/cut.py" 475, .int 125 0, .int 2 0, .int 0 0, .int 0 0, .int 3 0, .ref 201, .bool true, .int 181 0, .ref 202, .none, .ref 203, .ref 204, .ref 205, .int 478 0, .int 125 0, .str "/claim/cut.py" 479] }),
  (207, fo (memb 27 3) "height" "Font.height" (.none) (.none) (.str "gluepage.fonts" 319) (.ref 206)),
  (213, { cls := .type "code", data := .fields #[.str "depth" 481, .str "Font.depth" 482, .str "/claim/cut.py" 483, .int 128 0, .int 2 0, .int 0 0, .int 0 0, .int 3 0, .ref 208, .bool true, .int 181 0, .ref 209, .none, .ref 210, .ref 211, .ref 212, .int 486 0, .int 128 0, .str "/claim/cut.py" 487] }),
  (214, fo (memb 27 4) "depth" "Font.depth" (.none) (.none) (.str "gluepage.fonts" 319) (.ref 213)),
  (220, { cls := .type "code", data := .fields #[.str "italic" 489, .str "Font.italic" 490, .str "/claim/cut.py" 491, .int 131 0, .int 2 0, .int 0 0, .int 0 0, .int 3 0, .ref 215, .bool true, .int 181 0, .ref 216, .none, .ref 217, .ref 218, .ref 219, .int 494 0, .int 131 0, .str "/claim/cut.py" 495] }),
  (221, fo (memb 27 5) "italic" "Font.italic" (.none) (.none) (.str "gluepage.fonts" 319) (.ref 220)),
  (227, { cls := .type "code", data := .fields #[.str "starts" 497, .str "Font.starts" 498, .str "/claim/cut.py" 499, .int 134 0, .int 2 0, .int 0 0, .int 0 0, .int 3 0, .ref 222, .bool true, .int 181 0, .ref 223, .none, .ref 224, .ref 225, .ref 226, .int 503 0, .int 134 0, .str "/claim/cut.py" 504] }),
  (228, fo (memb 27 6) "starts" "Font.starts" (.none) (.none) (.str "gluepage.fonts" 319) (.ref 227)),
  (234, { cls := .type "code", data := .fields #[.str "larger" 506, .str "Font.larger" 507, .str "/claim/cut.py" 508, .int 140 0, .int 2 0, .int 0 0, .int 0 0, .int 3 0, .ref 229, .bool true, .int 181 0, .ref 230, .none, .ref 231, .ref 232, .ref 233, .int 512 0, .int 140 0, .str "/claim/cut.py" 513] }),
  (235, fo (memb 27 7) "larger" "Font.larger" (.none) (.none) (.str "gluepage.fonts" 319) (.ref 234)),
  (241, { cls := .type "code", data := .fields #[.str "pieces" 515, .str "Font.pieces" 516, .str "/claim/cut.py" 517, .int 144 0, .int 2 0, .int 0 0, .int 0 0, .int 3 0, .ref 236, .bool true, .int 181 0, .ref 237, .none, .ref 238, .ref 239, .ref 240, .int 521 0, .int 144 0, .str "/claim/cut.py" 522] }),
  (242, fo (memb 27 8) "pieces" "Font.pieces" (.none) (.none) (.str "gluepage.fonts" 319) (.ref 241)),
  (248, { cls := .type "code", data := .fields #[.str "param" 524, .str "Font.param" 525, .str "/claim/cut.py" 526, .int 148 0, .int 2 0, .int 0 0, .int 0 0, .int 3 0, .ref 243, .bool true, .int 181 0, .ref 244, .none, .ref 245, .ref 246, .ref 247, .int 529 0, .int 148 0, .str "/claim/cut.py" 530] }),
  (249, fo (memb 27 9) "param" "Font.param" (.none) (.none) (.str "gluepage.fonts" 319) (.ref 248)),
  (255, { cls := .type "code", data := .fields #[.str "set_param" 532, .str "Font.set_param" 533, .str "/claim/cut.py" 534, .int 151 0, .int 3 0, .int 0 0, .int 0 0, .int 3 0, .ref 250, .bool true, .int 181 0, .ref 251, .none, .ref 252, .ref 253, .ref 254, .int 538 0, .int 151 0, .str "/claim/cut.py" 539] }),
  (256, fo (memb 27 10) "set_param" "Font.set_param" (.none) (.none) (.str "gluepage.fonts" 319) (.ref 255)),
  (258, { cls := .type "dict", data := .dict #[de P "__module__" 437 (.str "gluepage.fonts" 319), de P "__firstlineno__" 441 (.int 93 440), de P "__init__" 456 (.ref 186), de P "has" 464 (.ref 193), de P "width" 472 (.ref 200), de P "height" 480 (.ref 207), de P "depth" 488 (.ref 214), de P "italic" 496 (.ref 221), de P "starts" 505 (.ref 228), de P "larger" 514 (.ref 235), de P "pieces" 523 (.ref 242), de P "param" 531 (.ref 249), de P "set_param" 540 (.ref 256), de P "__static_attributes__" 554 (.ref 257), de P "__dict__" 556 (.ref 260), de P "__weakref__" 558 (.ref 261), de P "__doc__" 559 (.none)] 4 }),
  (259, { cls := .type "type", data := .cls { name := "Font", bases := [.type "object"], mro := [.ref 259, .type "object"], ns := 258, qualname := "Font" }, slots := #[none, none, some (.str "Font" 430), some (.str "Font" 438), some (.builtin "object.__new__"), some (.bool true)] }),
  (260, { cls := .type "getset_descriptor", data := .fields #[.str "__dict__" 555, .ref 259, .builtin "function.__dict__", .builtin "function.__dict__#set"] }),
  (261, { cls := .type "getset_descriptor", data := .fields #[.str "__weakref__" 557, .ref 259, .builtin "ExceptionGroup.__weakref__", .none] }),
  (277, { cls := .type "code", data := .fields #[.str "check_code" 588, .str "check_code" 589, .str "/claim/cut.py" 590, .int 156 0, .int 1 0, .int 0 0, .int 0 0, .int 3 0, .ref 272, .bool true, .int 181 0, .ref 273, .none, .ref 274, .ref 275, .ref 276, .int 592 0, .int 156 0, .str "/claim/cut.py" 593] }),
  (278, fo (stm 31) "check_code" "check_code" (.none) (.none) (.str "gluepage.nodes" 562) (.ref 277)),
  (291, { cls := .type "code", data := .fields #[.str "__init__" 608, .str "Char.__init__" 609, .str "/claim/cut.py" 610, .int 163 0, .int 3 0, .int 0 0, .int 0 0, .int 3 0, .ref 286, .bool true, .int 181 0, .ref 287, .none, .ref 288, .ref 289, .ref 290, .int 614 0, .int 163 0, .str "/claim/cut.py" 615] }),
  (292, fo (memb 32 1) "__init__" "Char.__init__" (.none) (.none) (.str "gluepage.nodes" 562) (.ref 291)),
  (294, { cls := .type "dict", data := .dict #[de P "__module__" 602 (.str "gluepage.nodes" 562), de P "__firstlineno__" 606 (.int 160 605), de P "kind" 607 (.int 0 564), de P "__init__" 616 (.ref 292), de P "__static_attributes__" 619 (.ref 293), de P "__dict__" 621 (.ref 296), de P "__weakref__" 623 (.ref 297), de P "__doc__" 624 (.none)] 4 }),
  (295, { cls := .type "type", data := .cls { name := "Char", bases := [.type "object"], mro := [.ref 295, .type "object"], ns := 294, qualname := "Char" }, slots := #[none, none, some (.str "Char" 595), some (.str "Char" 603), some (.builtin "object.__new__"), some (.bool true)] }),
  (296, { cls := .type "getset_descriptor", data := .fields #[.str "__dict__" 620, .ref 295, .builtin "function.__dict__", .builtin "function.__dict__#set"] }),
  (297, { cls := .type "getset_descriptor", data := .fields #[.str "__weakref__" 622, .ref 295, .builtin "ExceptionGroup.__weakref__", .none] }),
  (307, { cls := .type "tuple", data := .seq #[.bool false, .bool false] }),
  (311, { cls := .type "code", data := .fields #[.str "__init__" 640, .str "Ligature.__init__" 641, .str "/claim/cut.py" 642, .int 169 0, .int 6 0, .int 0 0, .int 0 0, .int 3 0, .ref 308, .bool true, .int 181 0, .ref 309, .none, .none, .none, .ref 310, .int 643 0, .int 169 0, .str "/claim/cut.py" 644] }),
  (312, fo (memb 33 1) "__init__" "Ligature.__init__" (.ref 307) (.none) (.str "gluepage.nodes" 562) (.ref 311)),
  (314, { cls := .type "dict", data := .dict #[de P "__module__" 634 (.str "gluepage.nodes" 562), de P "__firstlineno__" 638 (.int 166 637), de P "kind" 639 (.int 1 565), de P "__init__" 645 (.ref 312), de P "__static_attributes__" 651 (.ref 313), de P "__dict__" 653 (.ref 316), de P "__weakref__" 655 (.ref 317), de P "__doc__" 656 (.none)] 4 }),
  (315, { cls := .type "type", data := .cls { name := "Ligature", bases := [.type "object"], mro := [.ref 315, .type "object"], ns := 314, qualname := "Ligature" }, slots := #[none, none, some (.str "Ligature" 627), some (.str "Ligature" 635), some (.builtin "object.__new__"), some (.bool true)] }),
  (316, { cls := .type "getset_descriptor", data := .fields #[.str "__dict__" 652, .ref 315, .builtin "function.__dict__", .builtin "function.__dict__#set"] }),
  (317, { cls := .type "getset_descriptor", data := .fields #[.str "__weakref__" 654, .ref 315, .builtin "ExceptionGroup.__weakref__", .none] }),
  (332, { cls := .type "code", data := .fields #[.str "__init__" 672, .str "Kern.__init__" 673, .str "/claim/cut.py" 674, .int 178 0, .int 3 0, .int 0 0, .int 0 0, .int 3 0, .ref 327, .bool true, .int 181 0, .ref 328, .none, .ref 329, .ref 330, .ref 331, .int 678 0, .int 178 0, .str "/claim/cut.py" 679] }),
  (333, fo (memb 34 1) "__init__" "Kern.__init__" (.none) (.none) (.str "gluepage.nodes" 562) (.ref 332)),
  (335, { cls := .type "dict", data := .dict #[de P "__module__" 666 (.str "gluepage.nodes" 562), de P "__firstlineno__" 670 (.int 175 669), de P "kind" 671 (.int 5 569), de P "__init__" 680 (.ref 333), de P "__static_attributes__" 683 (.ref 334), de P "__dict__" 685 (.ref 337), de P "__weakref__" 687 (.ref 338), de P "__doc__" 688 (.none)] 4 }),
  (336, { cls := .type "type", data := .cls { name := "Kern", bases := [.type "object"], mro := [.ref 336, .type "object"], ns := 335, qualname := "Kern" }, slots := #[none, none, some (.str "Kern" 659), some (.str "Kern" 667), some (.builtin "object.__new__"), some (.bool true)] }),
  (337, { cls := .type "getset_descriptor", data := .fields #[.str "__dict__" 684, .ref 336, .builtin "function.__dict__", .builtin "function.__dict__#set"] }),
  (338, { cls := .type "getset_descriptor", data := .fields #[.str "__weakref__" 686, .ref 336, .builtin "ExceptionGroup.__weakref__", .none] }),
  (341, { cls := .type "tuple", data := .seq #[.int 0 693, .int 1 694, .int 2 695, .int 3 696, .int 5 697, .int 6 698, .int 7 699, .int 11 700] }),
  (347, { cls := .type "code", data := .fields #[.str "look" 704, .str "look" 705, .str "/claim/cut.py" 706, .int 186 0, .int 3 0, .int 0 0, .int 0 0, .int 3 0, .ref 342, .bool true, .int 181 0, .ref 343, .none, .ref 344, .ref 345, .ref 346, .int 717 0, .int 186 0, .str "/claim/cut.py" 718] }),
  (348, fo (stm 38) "look" "look" (.none) (.none) (.str "gluepage.ligkern" 691) (.ref 347)),
  (359, { cls := .type "code", data := .fields #[.str "__init__" 732, .str "Word.__init__" 733, .str "/claim/cut.py" 734, .int 205 0, .int 5 0, .int 0 0, .int 0 0, .int 3 0, .ref 356, .bool true, .int 181 0, .ref 357, .none, .none, .none, .ref 358, .int 735 0, .int 205 0, .str "/claim/cut.py" 736] }),
  (360, fo (memb 39 0) "__init__" "Word.__init__" (.none) (.none) (.str "gluepage.ligkern" 691) (.ref 359)),
  (362, { cls := .type "dict", data := .dict #[de P "__module__" 727 (.str "gluepage.ligkern" 691), de P "__firstlineno__" 731 (.int 203 730), de P "__init__" 737 (.ref 360), de P "__static_attributes__" 746 (.ref 361), de P "__dict__" 748 (.ref 364), de P "__weakref__" 750 (.ref 365), de P "__doc__" 751 (.none)] 4 }),
  (363, { cls := .type "type", data := .cls { name := "Word", bases := [.type "object"], mro := [.ref 363, .type "object"], ns := 362, qualname := "Word" }, slots := #[none, none, some (.str "Word" 720), some (.str "Word" 728), some (.builtin "object.__new__"), some (.bool true)] }),
  (364, { cls := .type "getset_descriptor", data := .fields #[.str "__dict__" 747, .ref 363, .builtin "function.__dict__", .builtin "function.__dict__#set"] }),
  (365, { cls := .type "getset_descriptor", data := .fields #[.str "__weakref__" 749, .ref 363, .builtin "ExceptionGroup.__weakref__", .none] }),
  (373, { cls := .type "code", data := .fields #[.str "leave" 754, .str "leave" 755, .str "/claim/cut.py" 756, .int 214 0, .int 1 0, .int 0 0, .int 0 0, .int 3 0, .ref 368, .bool true, .int 181 0, .ref 369, .none, .ref 370, .ref 371, .ref 372, .int 761 0, .int 214 0, .str "/claim/cut.py" 762] }),
  (374, fo (stm 40) "leave" "leave" (.none) (.none) (.str "gluepage.ligkern" 691) (.ref 373)),
  (380, { cls := .type "code", data := .fields #[.str "pass_on" 764, .str "pass_on" 765, .str "/claim/cut.py" 766, .int 223 0, .int 1 0, .int 0 0, .int 0 0, .int 3 0, .ref 375, .bool true, .int 181 0, .ref 376, .none, .ref 377, .ref 378, .ref 379, .int 768 0, .int 223 0, .str "/claim/cut.py" 769] }),
  (381, fo (stm 41) "pass_on" "pass_on" (.none) (.none) (.str "gluepage.ligkern" 691) (.ref 380)),
  (387, { cls := .type "code", data := .fields #[.str "put_between" 771, .str "put_between" 772, .str "/claim/cut.py" 773, .int 229 0, .int 3 0, .int 0 0, .int 0 0, .int 3 0, .ref 382, .bool true, .int 181 0, .ref 383, .none, .ref 384, .ref 385, .ref 386, .int 784 0, .int 229 0, .str "/claim/cut.py" 785] }),
  (388, fo (stm 42) "put_between" "put_between" (.none) (.none) (.str "gluepage.ligkern" 691) (.ref 387)),
  (394, { cls := .type "code", data := .fields #[.str "word_nodes" 787, .str "word_nodes" 788, .str "/claim/cut.py" 789, .int 249 0, .int 4 0, .int 0 0, .int 0 0, .int 3 0, .ref 389, .bool true, .int 181 0, .ref 390, .none, .ref 391, .ref 392, .ref 393, .int 799 0, .int 249 0, .str "/claim/cut.py" 800] }),
  (395, fo (stm 43) "word_nodes" "word_nodes" (.none) (.none) (.str "gluepage.ligkern" 691) (.ref 394)),
  (396, { cls := .type "tuple", data := .seq #[.bool true, .bool true] }),
  (402, { cls := .type "code", data := .fields #[.str "run" 802, .str "run" 803, .str "/claim/cut.py" 804, .int 269 0, .int 4 0, .int 0 0, .int 0 0, .int 3 0, .ref 397, .bool true, .int 181 0, .ref 398, .none, .ref 399, .ref 400, .ref 401, .int 813 0, .int 269 0, .str "/claim/cut.py" 814] }),
  (403, fo (stm 44) "run" "run" (.ref 396) (.none) (.str "gluepage.ligkern" 691) (.ref 402)),
  (404, { cls := .type "tuple", data := .seq #[.int 0 818, .int 1 819, .int 2 820, .int 3 821, .int 5 822, .int 6 823, .int 7 824, .int 11 825, .int 10 826] }),
  (405, { cls := .type "tuple", data := .seq #[.int 7001 828, .int (-3000) 830] }),
  (406, { cls := .type "tuple", data := .seq #[.int 711488158898496243416696673 832, .int 1000000000000033152 833] }),
  (412, { cls := .type "code", data := .fields #[.str "_law_cell" 835, .str "_law_cell" 836, .str "/claim/cut.py" 837, .int 289 0, .int 2 0, .int 0 0, .int 0 0, .int 3 0, .ref 407, .bool true, .int 181 0, .ref 408, .none, .ref 409, .ref 410, .ref 411, .int 840 0, .int 289 0, .str "/claim/cut.py" 841] }),
  (413, fo (stm 49) "_law_cell" "_law_cell" (.none) (.none) (.str "law_rg0156_01" 816) (.ref 412)),
  (419, { cls := .type "code", data := .fields #[.str "_law_bag" 843, .str "_law_bag" 844, .str "/claim/cut.py" 845, .int 291 0, .int 1 0, .int 0 0, .int 0 0, .int 3 0, .ref 414, .bool true, .int 181 0, .ref 415, .none, .ref 416, .ref 417, .ref 418, .int 847 0, .int 291 0, .str "/claim/cut.py" 848] }),
  (420, fo (stm 50) "_law_bag" "_law_bag" (.none) (.none) (.str "law_rg0156_01" 816) (.ref 419)),
  (426, { cls := .type "code", data := .fields #[.str "_law_draw" 850, .str "_law_draw" 851, .str "/claim/cut.py" 852, .int 293 0, .int 2 0, .int 0 0, .int 0 0, .int 3 0, .ref 421, .bool true, .int 181 0, .ref 422, .none, .ref 423, .ref 424, .ref 425, .int 857 0, .int 293 0, .str "/claim/cut.py" 858] }),
  (427, fo (stm 51) "_law_draw" "_law_draw" (.none) (.none) (.str "law_rg0156_01" 816) (.ref 426)),
  (433, { cls := .type "code", data := .fields #[.str "_law_row" 860, .str "_law_row" 861, .str "/claim/cut.py" 862, .int 302 0, .int 5 0, .int 0 0, .int 0 0, .int 3 0, .ref 428, .bool true, .int 181 0, .ref 429, .none, .ref 430, .ref 431, .ref 432, .int 874 0, .int 302 0, .str "/claim/cut.py" 875] }),
  (434, fo (stm 52) "_law_row" "_law_row" (.none) (.none) (.str "law_rg0156_01" 816) (.ref 433)),
  (440, { cls := .type "code", data := .fields #[.str "_law_pairs" 877, .str "_law_pairs" 878, .str "/claim/cut.py" 879, .int 321 0, .int 2 0, .int 0 0, .int 0 0, .int 3 0, .ref 435, .bool true, .int 181 0, .ref 436, .none, .ref 437, .ref 438, .ref 439, .int 888 0, .int 321 0, .str "/claim/cut.py" 889] }),
  (441, fo (stm 53) "_law_pairs" "_law_pairs" (.none) (.none) (.str "law_rg0156_01" 816) (.ref 440)),
  (447, { cls := .type "code", data := .fields #[.str "_law_tables" 891, .str "_law_tables" 892, .str "/claim/cut.py" 893, .int 330 0, .int 2 0, .int 0 0, .int 0 0, .int 3 0, .ref 442, .bool true, .int 181 0, .ref 443, .none, .ref 444, .ref 445, .ref 446, .int 899 0, .int 330 0, .str "/claim/cut.py" 900] }),
  (448, fo (stm 54) "_law_tables" "_law_tables" (.none) (.none) (.str "law_rg0156_01" 816) (.ref 447)),
  (454, { cls := .type "code", data := .fields #[.str "_law_looks_right" 902, .str "_law_looks_right" 903, .str "/claim/cut.py" 904, .int 338 0, .int 3 0, .int 0 0, .int 0 0, .int 3 0, .ref 449, .bool true, .int 181 0, .ref 450, .none, .ref 451, .ref 452, .ref 453, .int 912 0, .int 338 0, .str "/claim/cut.py" 913] }),
  (455, fo (stm 55) "_law_looks_right" "_law_looks_right" (.none) (.none) (.str "law_rg0156_01" 816) (.ref 454)),
  (461, { cls := .type "code", data := .fields #[.str "_law_step" 915, .str "_law_step" 916, .str "/claim/cut.py" 917, .int 348 0, .int 4 0, .int 0 0, .int 0 0, .int 3 0, .ref 456, .bool true, .int 181 0, .ref 457, .none, .ref 458, .ref 459, .ref 460, .int 927 0, .int 348 0, .str "/claim/cut.py" 928] }),
  (462, fo (stm 56) "_law_step" "_law_step" (.none) (.none) (.str "law_rg0156_01" 816) (.ref 461)),
  (466, { cls := .type "code", data := .fields #[.str "_law_tape" 930, .str "_law_tape" 931, .str "/claim/cut.py" 932, .int 359 0, .int 4 0, .int 0 0, .int 0 0, .int 3 0, .ref 463, .bool true, .int 181 0, .ref 464, .none, .none, .none, .ref 465, .int 933 0, .int 359 0, .str "/claim/cut.py" 934] }),
  (467, fo (stm 57) "_law_tape" "_law_tape" (.none) (.none) (.str "law_rg0156_01" 816) (.ref 466)),
  (471, { cls := .type "code", data := .fields #[.str "_law_told" 936, .str "_law_told" 937, .str "/claim/cut.py" 938, .int 380 0, .int 3 0, .int 0 0, .int 0 0, .int 3 0, .ref 468, .bool true, .int 181 0, .ref 469, .none, .none, .none, .ref 470, .int 939 0, .int 380 0, .str "/claim/cut.py" 940] }),
  (472, fo (stm 58) "_law_told" "_law_told" (.none) (.none) (.str "law_rg0156_01" 816) (.ref 471)),
  (478, { cls := .type "code", data := .fields #[.str "_law_whole" 942, .str "_law_whole" 943, .str "/claim/cut.py" 944, .int 392 0, .int 6 0, .int 0 0, .int 0 0, .int 3 0, .ref 473, .bool true, .int 181 0, .ref 474, .none, .ref 475, .ref 476, .ref 477, .int 957 0, .int 392 0, .str "/claim/cut.py" 958] }),
  (479, fo (stm 59) "_law_whole" "_law_whole" (.none) (.none) (.str "law_rg0156_01" 816) (.ref 478)),
  (485, { cls := .type "code", data := .fields #[.str "_law_node" 960, .str "_law_node" 961, .str "/claim/cut.py" 962, .int 407 0, .int 1 0, .int 0 0, .int 0 0, .int 3 0, .ref 480, .bool true, .int 181 0, .ref 481, .none, .ref 482, .ref 483, .ref 484, .int 964 0, .int 407 0, .str "/claim/cut.py" 965] }),
  (486, fo (stm 60) "_law_node" "_law_node" (.none) (.none) (.str "law_rg0156_01" 816) (.ref 485)),
  (490, { cls := .type "code", data := .fields #[.str "_law_run" 967, .str "_law_run" 968, .str "/claim/cut.py" 969, .int 413 0, .int 4 0, .int 0 0, .int 0 0, .int 3 0, .ref 487, .bool true, .int 181 0, .ref 488, .none, .none, .none, .ref 489, .int 970 0, .int 413 0, .str "/claim/cut.py" 971] }),
  (491, fo (stm 61) "_law_run" "_law_run" (.none) (.none) (.str "law_rg0156_01" 816) (.ref 490)),
  (497, { cls := .type "code", data := .fields #[.str "_law_refused" 973, .str "_law_refused" 974, .str "/claim/cut.py" 975, .int 419 0, .int 2 0, .int 0 0, .int 0 0, .int 3 0, .ref 492, .bool true, .int 181 0, .ref 493, .none, .ref 494, .ref 495, .ref 496, .int 978 0, .int 419 0, .str "/claim/cut.py" 979] }),
  (498, fo (stm 62) "_law_refused" "_law_refused" (.none) (.none) (.str "law_rg0156_01" 816) (.ref 497)),
  (502, { cls := .type "code", data := .fields #[.str "law" 981, .str "law" 982, .str "/claim/cut.py" 983, .int 425 0, .int 1 0, .int 0 0, .int 0 0, .int 3 0, .ref 499, .bool true, .int 181 0, .ref 500, .none, .none, .none, .ref 501, .int 984 0, .int 425 0, .str "/claim/cut.py" 985] }),
  (503, fo (stm 63) "law" "law" (.none) (.none) (.str "law_rg0156_01" 816) (.ref 502))
]
noncomputable def KA : List Addr := [2, 3, 20, 21, 29, 35, 36, 38, 39, 40, 51, 52, 63, 64, 75, 76, 87, 88, 96, 97, 103, 104, 110, 111, 120, 126, 127, 133, 134, 140, 141, 147, 148, 154, 155, 161, 162, 168, 169, 179, 185, 186, 192, 193, 199, 200, 206, 207, 213, 214, 220, 221, 227, 228, 234, 235, 241, 242, 248, 249, 255, 256, 258, 259, 260, 261, 277, 278, 291, 292, 294, 295, 296, 297, 307, 311, 312, 314, 315, 316, 317, 332, 333, 335, 336, 337, 338, 341, 347, 348, 359, 360, 362, 363, 364, 365, 373, 374, 380, 381, 387, 388, 394, 395, 396, 402, 403, 404, 405, 406, 412, 413, 419, 420, 426, 427, 433, 434, 440, 441, 447, 448, 454, 455, 461, 462, 466, 467, 471, 472, 478, 479, 485, 486, 490, 491, 497, 498, 502, 503]
theorem KA_eq (P : Params) : KA = (KH P).map (·.1) := by kernel_rfl
end Mine
end
section
set_option maxHeartbeats 0
namespace Mine
abbrev qp : Program := view rp [63]
def loose : List PySem.Str := (rp.main.scope.names.map (·.1)).filter (· != "law")
def Xt (s : Shared) : Bool := xlAt qp [] s && recOk (RowW.records rr.toRowW) s
abbrev p0 : Pos := ⟨0, 0, 0, 0⟩
abbrev bp : List Stmt := behindTheImports rp
abbrev ep : Env := { scope := rp.main.scope, locals := mainNs, globals := mainNs, cells := [], code := .ref 13, frame := some 14 }
abbrev cp : Code := .body bp ep
def o11 : Obj := { cls := .type "tuple", data := .seq #[] }
def o12 : Obj := { cls := .none, data := .fields #[] }
def o13 : Obj := { cls := .type "code", data := .fields #[.str "<module>" 182, .str "<module>" 183, .str "/claim/cut.py" 184, .int 1 0, .int 0 0, .int 0 0, .int 0 0, .int 0 0, .ref 11, .bool false, .int 181 0, .ref 12, .none, .none, .none, .none, .int 185 0, .int 1 0, .str "/claim/cut.py" 186] }
def o14 : Obj := { cls := .type "frame", slots := #[some (.ref 13), some (.ref 3), some (.ref 3), none, some (.str "__main__" 164), none, some (.ref 0)] }
/-- the heap when the text's first statement begins: a list, and a tree of the same objects -/
noncomputable def h15 (P : Params) : Heap := ⟨⟨(boot_heap P).objs.toList ++ [o11, o12, o13, o14]⟩, {}⟩
noncomputable def at0 (P : Params) (i : Nat) : Obj := ((boot_heap P).objs.toList ++ [o11, o12, o13, o14]).getD i default
noncomputable def t15 (P : Params) : BT :=
  .node (at0 P 0) (.node (at0 P 1) (.node (at0 P 3) (.node (at0 P 7) .nil .nil) (.node (at0 P 11) .nil .nil)) (.node (at0 P 5) (.node (at0 P 9) .nil .nil) (.node (at0 P 13) .nil .nil)))
    (.node (at0 P 2) (.node (at0 P 4) (.node (at0 P 8) .nil .nil) (.node (at0 P 12) .nil .nil)) (.node (at0 P 6) (.node (at0 P 10) .nil .nil) (.node (at0 P 14) .nil .nil)))
noncomputable abbrev s15 (w : World) (os : OsState) : SharedT := ⟨t15 w.params, 15, {}, #[], {}, 187, os⟩
abbrev pe : Pos := ⟨425, 0, 448, 15⟩
noncomputable def lookW (P : Params) (r : Flow × SharedT × Code × Pos) := match r with
  | (.next, s, c, p) => some ((c, p), (staticsOk (importedModules rp.main.body) (boot_heap P) s.abs.heap && namesBound rp s.abs.heap && gensDone s.abs && laidKept (boot_heap P) s.abs.heap), openSeen qp loose (importedModules rp.main.body) Xt true s.abs, KA.map s.abs.heap.get?)
  | _ => none
abbrev wf (w : World) (b : Bool) : World := w.withFollow "special-get-raises" b
noncomputable def f0 (s : Stmt) (nm q : PySem.Str) : Obj := { cls := .none, data := .func { name := nm, qualname := q, params := fP s, body := .stmts (fB s), scope := fS s, globals := 0, closure := [], defaults := .none, kwdefaults := .none } }
noncomputable def q43 (_ : Params) : Obj := { cls := .type "tuple", data := .seq #[] }
noncomputable def q45 (_ : Params) : Obj := { cls := .type "code", data := .fields #[.str "<module>" 182, .str "<module>" 183, .str "/claim/cut.py" 184, .int 1 0, .int 0 0, .int 0 0, .int 0 0, .int 0 0, .ref 11, .bool false, .int 181 0, .ref 12, .none, .none, .none, .none, .int 185 0, .int 1 0, .str "/claim/cut.py" 186] }
noncomputable def q46 (_ : Params) : Obj := { cls := .type "frame", slots := #[some (.ref 13), some (.ref 3), some (.ref 3), none, some (.str "__main__" 164), none, some (.ref 0)] }
noncomputable def q51 (_ : Params) : Obj := { cls := .type "tuple", data := .seq #[] }
noncomputable def q52 (_ : Params) : Obj := { cls := .none, data := .fields #[] }
noncomputable def q53 (_ : Params) : Obj := { cls := .type "tuple", data := .seq #[.str "k" 190] }
noncomputable def q54 (_ : Params) : Obj := { cls := .type "tuple", data := .seq #[] }
noncomputable def q55 (_ : Params) : Obj := f0 (stm 0) "_wall" "_wall"
noncomputable def q56 (_ : Params) : Obj := { cls := .type "code", data := .fields #[.str "_wall" 187, .str "_wall" 188, .str "/claim/cut.py" 189, .int 1 0, .int 1 0, .int 0 0, .int 0 0, .int 3 0, .ref 15, .bool true, .int 181 0, .ref 16, .none, .ref 17, .ref 18, .ref 19, .int 191 0, .int 1 0, .str "/claim/cut.py" 192] }
noncomputable def q57 (_ : Params) : Obj := fo (stm 0) "_wall" "_wall" (.none) (.none) (.str "__main__" 164) (.ref 20)
noncomputable def q58 (_ : Params) : Obj := { cls := .type "tuple", data := .seq #[.type "ValueError"] }
noncomputable def q59 (_ : Params) : Obj := { cls := .type "builtin_function_or_method", data := .fields #[.builtin "type.__prepare__", .type "type"] }
noncomputable def q60 (P : Params) : Obj := { cls := .type "dict", data := .dict #[de P "__module__" 203 (.str "gluepage.errors" 194), de P "__qualname__" 205 (.str "PageError" 204), de P "__firstlineno__" 207 (.int 5 206), de P "__init__" 216 (.ref 36), de P "__static_attributes__" 218 (.ref 37)] 5 }
noncomputable def q61 (_ : Params) : Obj := { cls := .type "tuple", data := .seq #[] }
noncomputable def q62 (_ : Params) : Obj := { cls := .none, data := .fields #[.int 7 0, .int 4 0, .ref 35] }
noncomputable def q63 (_ : Params) : Obj := { cls := .type "code", data := .fields #[.str "PageError" 198, .str "PageError" 199, .str "/claim/cut.py" 200, .int 5 0, .int 0 0, .int 0 0, .int 0 0, .int 0 0, .ref 25, .bool false, .int 181 0, .ref 26, .none, .none, .none, .none, .int 201 0, .int 5 0, .str "/claim/cut.py" 202] }
noncomputable def q64 (_ : Params) : Obj := { cls := .type "frame", slots := #[some (.ref 27), some (.ref 3), some (.ref 24), none, some (.str "gluepage.errors" 194), none, some (.ref 0)] }
noncomputable def q65 (_ : Params) : Obj := { cls := .type "tuple", data := .seq #[.str "" 208] }
noncomputable def q66 (_ : Params) : Obj := { cls := .type "tuple", data := .seq #[] }
noncomputable def q67 (_ : Params) : Obj := { cls := .none, data := .fields #[] }
noncomputable def q68 (_ : Params) : Obj := { cls := .type "tuple", data := .seq #[.str "self" 212, .str "reason" 213] }
noncomputable def q69 (_ : Params) : Obj := { cls := .type "tuple", data := .seq #[] }
noncomputable def q70 (_ : Params) : Obj := f0 (memb 2 0) "__init__" "PageError.__init__"
noncomputable def q71 (_ : Params) : Obj := { cls := .type "code", data := .fields #[.str "__init__" 209, .str "PageError.__init__" 210, .str "/claim/cut.py" 211, .int 7 0, .int 2 0, .int 0 0, .int 0 0, .int 3 0, .ref 30, .bool true, .int 181 0, .ref 31, .none, .ref 32, .ref 33, .ref 34, .int 214 0, .int 7 0, .str "/claim/cut.py" 215] }
noncomputable def q72 (_ : Params) : Obj := fo (memb 2 0) "__init__" "PageError.__init__" (.ref 29) (.none) (.str "gluepage.errors" 194) (.ref 35)
noncomputable def q73 (_ : Params) : Obj := { cls := .type "tuple", data := .seq #[.str "reason" 217] }
noncomputable def q74 (P : Params) : Obj := { cls := .type "dict", data := .dict #[de P "__module__" 203 (.str "gluepage.errors" 194), de P "__firstlineno__" 207 (.int 5 206), de P "__init__" 216 (.ref 36), de P "__static_attributes__" 218 (.ref 37), de P "__weakref__" 220 (.ref 40), de P "__doc__" 221 (.none)] 3 }
noncomputable def q76 (_ : Params) : Obj := { cls := .type "getset_descriptor", data := .fields #[.str "__weakref__" 219, .ref 39, .builtin "ExceptionGroup.__weakref__", .none] }
noncomputable def q77 (_ : Params) : Obj := { cls := .type "super", data := .fields #[.ref 39, .ref 39, .ref 39] }
noncomputable def q78 (_ : Params) : Obj := { cls := .type "builtin_function_or_method", data := .fields #[.builtin "object.__init_subclass__", .ref 39] }
noncomputable def q79 (P : Params) : Obj := { cls := .type "dict", data := .dict #[de P "__name__" 165 (.str "gluepage.errors" 194), de P "__doc__" 166 (.none), de P "__package__" 167 (.none), de P "__loader__" 168 (.builtin "__main__.__loader__#opaque"), de P "__spec__" 169 (.none), de P "__annotations__" 170 (.ref 6), de P "__builtins__" 171 (.ref 4), de P "__file__" 173 (.str "/claim/cut.py" 172), de P "__cached__" 174 (.none), de P "_wall" 193 (.ref 21), de P "PageError" 223 (.ref 39), de P "BadArgument" 239 (.ref 52)] 12 }
noncomputable def q80 (_ : Params) : Obj := { cls := .none, data := .fields #[.int 1 0, .int 0 0, .ref 20, .int 5 0, .int 0 0, .ref 27, .int 9 0, .int 0 0, .ref 48] }
noncomputable def q81 (_ : Params) : Obj := { cls := .type "type", data := .cls { name := "PageError", bases := [.type "ValueError"], mro := [.ref 39, .type "ValueError", .type "Exception", .type "BaseException", .type "object"], ns := 38, qualname := "PageError", subclasses := [.ref 52] }, slots := #[some (.ref 22), none, some (.str "PageError" 196), some (.str "PageError" 204), some (.builtin "ValueError.__new__"), some (.bool true)] }
noncomputable def q82 (_ : Params) : Obj := { cls := .type "tuple", data := .seq #[.ref 39] }
noncomputable def q83 (_ : Params) : Obj := { cls := .type "builtin_function_or_method", data := .fields #[.builtin "type.__prepare__", .type "type"] }
noncomputable def q84 (P : Params) : Obj := { cls := .type "dict", data := .dict #[de P "__module__" 231 (.str "gluepage.errors" 194), de P "__qualname__" 233 (.str "BadArgument" 232), de P "__firstlineno__" 235 (.int 9 234), de P "__static_attributes__" 236 (.ref 50)] 4 }
noncomputable def q85 (_ : Params) : Obj := { cls := .type "tuple", data := .seq #[] }
noncomputable def q86 (_ : Params) : Obj := { cls := .none, data := .fields #[] }
noncomputable def q87 (_ : Params) : Obj := { cls := .type "code", data := .fields #[.str "BadArgument" 226, .str "BadArgument" 227, .str "/claim/cut.py" 228, .int 9 0, .int 0 0, .int 0 0, .int 0 0, .int 0 0, .ref 46, .bool false, .int 181 0, .ref 47, .none, .none, .none, .none, .int 229 0, .int 9 0, .str "/claim/cut.py" 230] }
noncomputable def q88 (_ : Params) : Obj := { cls := .type "frame", slots := #[some (.ref 48), some (.ref 3), some (.ref 45), none, some (.str "gluepage.errors" 194), none, some (.ref 0)] }
noncomputable def q89 (_ : Params) : Obj := { cls := .type "tuple", data := .seq #[] }
noncomputable def q90 (P : Params) : Obj := { cls := .type "dict", data := .dict #[de P "__module__" 231 (.str "gluepage.errors" 194), de P "__firstlineno__" 235 (.int 9 234), de P "__static_attributes__" 236 (.ref 50), de P "__doc__" 237 (.none)] 2 }
noncomputable def q91 (_ : Params) : Obj := { cls := .type "type", data := .cls { name := "BadArgument", bases := [.ref 39], mro := [.ref 52, .ref 39, .type "ValueError", .type "Exception", .type "BaseException", .type "object"], ns := 51, qualname := "BadArgument" }, slots := #[some (.ref 43), none, some (.str "BadArgument" 224), some (.str "BadArgument" 232), some (.builtin "ValueError.__new__"), some (.bool true)] }
noncomputable def q92 (_ : Params) : Obj := { cls := .type "super", data := .fields #[.ref 52, .ref 52, .ref 52] }
noncomputable def q93 (_ : Params) : Obj := { cls := .type "builtin_function_or_method", data := .fields #[.builtin "object.__init_subclass__", .ref 52] }
noncomputable def q97 (_ : Params) : Obj := { cls := .type "tuple", data := .seq #[.ref 39] }
noncomputable def q98 (_ : Params) : Obj := { cls := .type "builtin_function_or_method", data := .fields #[.builtin "type.__prepare__", .type "type"] }
noncomputable def q99 (P : Params) : Obj := { cls := .type "dict", data := .dict #[de P "__module__" 247 (.str "gluepage.errors" 194), de P "__qualname__" 249 (.str "Overflow" 248), de P "__firstlineno__" 251 (.int 11 250), de P "__static_attributes__" 252 (.ref 62)] 4 }
noncomputable def q100 (_ : Params) : Obj := { cls := .type "tuple", data := .seq #[] }
noncomputable def q101 (_ : Params) : Obj := { cls := .none, data := .fields #[] }
noncomputable def q102 (_ : Params) : Obj := { cls := .type "code", data := .fields #[.str "Overflow" 242, .str "Overflow" 243, .str "/claim/cut.py" 244, .int 11 0, .int 0 0, .int 0 0, .int 0 0, .int 0 0, .ref 58, .bool false, .int 181 0, .ref 59, .none, .none, .none, .none, .int 245 0, .int 11 0, .str "/claim/cut.py" 246] }
noncomputable def q103 (_ : Params) : Obj := { cls := .type "frame", slots := #[some (.ref 60), some (.ref 3), some (.ref 57), none, some (.str "gluepage.errors" 194), none, some (.ref 0)] }
noncomputable def q104 (_ : Params) : Obj := { cls := .type "tuple", data := .seq #[] }
noncomputable def q105 (P : Params) : Obj := { cls := .type "dict", data := .dict #[de P "__module__" 247 (.str "gluepage.errors" 194), de P "__firstlineno__" 251 (.int 11 250), de P "__static_attributes__" 252 (.ref 62), de P "__doc__" 253 (.none)] 2 }
noncomputable def q106 (_ : Params) : Obj := { cls := .type "type", data := .cls { name := "Overflow", bases := [.ref 39], mro := [.ref 64, .ref 39, .type "ValueError", .type "Exception", .type "BaseException", .type "object"], ns := 63, qualname := "Overflow" }, slots := #[some (.ref 55), none, some (.str "Overflow" 240), some (.str "Overflow" 248), some (.builtin "ValueError.__new__"), some (.bool true)] }
noncomputable def q107 (_ : Params) : Obj := { cls := .type "super", data := .fields #[.ref 64, .ref 64, .ref 64] }
noncomputable def q108 (_ : Params) : Obj := { cls := .type "builtin_function_or_method", data := .fields #[.builtin "object.__init_subclass__", .ref 64] }
noncomputable def q109 (P : Params) : Obj := { cls := .type "dict", data := .dict #[de P "__name__" 165 (.str "gluepage.errors" 194), de P "__doc__" 166 (.none), de P "__package__" 167 (.none), de P "__loader__" 168 (.builtin "__main__.__loader__#opaque"), de P "__spec__" 169 (.none), de P "__annotations__" 170 (.ref 6), de P "__builtins__" 171 (.ref 4), de P "__file__" 173 (.str "/claim/cut.py" 172), de P "__cached__" 174 (.none), de P "_wall" 193 (.ref 21), de P "PageError" 223 (.ref 39), de P "BadArgument" 239 (.ref 52), de P "Overflow" 255 (.ref 64), de P "BadFont" 271 (.ref 76)] 14 }
noncomputable def q110 (_ : Params) : Obj := { cls := .none, data := .fields #[.int 1 0, .int 0 0, .ref 20, .int 5 0, .int 0 0, .ref 27, .int 9 0, .int 0 0, .ref 48, .int 11 0, .int 0 0, .ref 60, .int 13 0, .int 0 0, .ref 72] }
noncomputable def q111 (_ : Params) : Obj := { cls := .type "type", data := .cls { name := "PageError", bases := [.type "ValueError"], mro := [.ref 39, .type "ValueError", .type "Exception", .type "BaseException", .type "object"], ns := 38, qualname := "PageError", subclasses := [.ref 52, .ref 64, .ref 76] }, slots := #[some (.ref 22), none, some (.str "PageError" 196), some (.str "PageError" 204), some (.builtin "ValueError.__new__"), some (.bool true)] }
noncomputable def q112 (_ : Params) : Obj := { cls := .type "tuple", data := .seq #[.ref 39] }
noncomputable def q113 (_ : Params) : Obj := { cls := .type "builtin_function_or_method", data := .fields #[.builtin "type.__prepare__", .type "type"] }
noncomputable def q114 (P : Params) : Obj := { cls := .type "dict", data := .dict #[de P "__module__" 263 (.str "gluepage.errors" 194), de P "__qualname__" 265 (.str "BadFont" 264), de P "__firstlineno__" 267 (.int 13 266), de P "__static_attributes__" 268 (.ref 74)] 4 }
noncomputable def q115 (_ : Params) : Obj := { cls := .type "tuple", data := .seq #[] }
noncomputable def q116 (_ : Params) : Obj := { cls := .none, data := .fields #[] }
noncomputable def q117 (_ : Params) : Obj := { cls := .type "code", data := .fields #[.str "BadFont" 258, .str "BadFont" 259, .str "/claim/cut.py" 260, .int 13 0, .int 0 0, .int 0 0, .int 0 0, .int 0 0, .ref 70, .bool false, .int 181 0, .ref 71, .none, .none, .none, .none, .int 261 0, .int 13 0, .str "/claim/cut.py" 262] }
noncomputable def q118 (_ : Params) : Obj := { cls := .type "frame", slots := #[some (.ref 72), some (.ref 3), some (.ref 69), none, some (.str "gluepage.errors" 194), none, some (.ref 0)] }
noncomputable def q119 (_ : Params) : Obj := { cls := .type "tuple", data := .seq #[] }
noncomputable def q120 (P : Params) : Obj := { cls := .type "dict", data := .dict #[de P "__module__" 263 (.str "gluepage.errors" 194), de P "__firstlineno__" 267 (.int 13 266), de P "__static_attributes__" 268 (.ref 74), de P "__doc__" 269 (.none)] 2 }
noncomputable def q121 (_ : Params) : Obj := { cls := .type "type", data := .cls { name := "BadFont", bases := [.ref 39], mro := [.ref 76, .ref 39, .type "ValueError", .type "Exception", .type "BaseException", .type "object"], ns := 75, qualname := "BadFont" }, slots := #[some (.ref 67), none, some (.str "BadFont" 256), some (.str "BadFont" 264), some (.builtin "ValueError.__new__"), some (.bool true)] }
noncomputable def q122 (_ : Params) : Obj := { cls := .type "super", data := .fields #[.ref 76, .ref 76, .ref 76] }
noncomputable def q123 (_ : Params) : Obj := { cls := .type "builtin_function_or_method", data := .fields #[.builtin "object.__init_subclass__", .ref 76] }
noncomputable def q124 (P : Params) : Obj := { cls := .type "dict", data := .dict #[de P "__name__" 165 (.str "gluepage.fonts" 319), de P "__doc__" 166 (.none), de P "__package__" 167 (.none), de P "__loader__" 168 (.builtin "__main__.__loader__#opaque"), de P "__spec__" 169 (.none), de P "__annotations__" 170 (.ref 6), de P "__builtins__" 171 (.ref 4), de P "__file__" 173 (.str "/claim/cut.py" 172), de P "__cached__" 174 (.none), de P "_wall" 193 (.ref 21), de P "PageError" 223 (.ref 39), de P "BadArgument" 239 (.ref 52), de P "Overflow" 255 (.ref 64), de P "BadFont" 271 (.ref 76), de P "TooMuch" 287 (.ref 88), de P "MAX_DIMEN" 295 (.int 1073741823 294), de P "is_whole" 304 (.ref 97), de P "check_whole" 311 (.ref 104), de P "check_dimen" 318 (.ref 111), de P "EDGE" 322 (.int 256 321), de P "MOST_FONTS" 324 (.int 255 323), de P "MOST_PARAMS" 326 (.int 64 325), de P "MOST_SIZE" 332 (.int 134217727 331)] 23 }
noncomputable def q125 (_ : Params) : Obj := { cls := .none, data := .fields #[.int 1 0, .int 0 0, .ref 20, .int 5 0, .int 0 0, .ref 27, .int 9 0, .int 0 0, .ref 48, .int 11 0, .int 0 0, .ref 60, .int 13 0, .int 0 0, .ref 72, .int 15 0, .int 0 0, .ref 84, .int 19 0, .int 0 0, .ref 96, .int 21 0, .int 0 0, .ref 103, .int 25 0, .int 0 0, .ref 110] }
noncomputable def q126 (_ : Params) : Obj := { cls := .type "type", data := .cls { name := "PageError", bases := [.type "ValueError"], mro := [.ref 39, .type "ValueError", .type "Exception", .type "BaseException", .type "object"], ns := 38, qualname := "PageError", subclasses := [.ref 52, .ref 64, .ref 76, .ref 88] }, slots := #[some (.ref 22), none, some (.str "PageError" 196), some (.str "PageError" 204), some (.builtin "ValueError.__new__"), some (.bool true)] }
noncomputable def q127 (_ : Params) : Obj := { cls := .type "tuple", data := .seq #[.ref 39] }
noncomputable def q128 (_ : Params) : Obj := { cls := .type "builtin_function_or_method", data := .fields #[.builtin "type.__prepare__", .type "type"] }
noncomputable def q129 (P : Params) : Obj := { cls := .type "dict", data := .dict #[de P "__module__" 279 (.str "gluepage.errors" 194), de P "__qualname__" 281 (.str "TooMuch" 280), de P "__firstlineno__" 283 (.int 15 282), de P "__static_attributes__" 284 (.ref 86)] 4 }
noncomputable def q130 (_ : Params) : Obj := { cls := .type "tuple", data := .seq #[] }
noncomputable def q131 (_ : Params) : Obj := { cls := .none, data := .fields #[] }
noncomputable def q132 (_ : Params) : Obj := { cls := .type "code", data := .fields #[.str "TooMuch" 274, .str "TooMuch" 275, .str "/claim/cut.py" 276, .int 15 0, .int 0 0, .int 0 0, .int 0 0, .int 0 0, .ref 82, .bool false, .int 181 0, .ref 83, .none, .none, .none, .none, .int 277 0, .int 15 0, .str "/claim/cut.py" 278] }
noncomputable def q133 (_ : Params) : Obj := { cls := .type "frame", slots := #[some (.ref 84), some (.ref 3), some (.ref 81), none, some (.str "gluepage.errors" 194), none, some (.ref 0)] }
noncomputable def q134 (_ : Params) : Obj := { cls := .type "tuple", data := .seq #[] }
noncomputable def q135 (P : Params) : Obj := { cls := .type "dict", data := .dict #[de P "__module__" 279 (.str "gluepage.errors" 194), de P "__firstlineno__" 283 (.int 15 282), de P "__static_attributes__" 284 (.ref 86), de P "__doc__" 285 (.none)] 2 }
noncomputable def q136 (_ : Params) : Obj := { cls := .type "type", data := .cls { name := "TooMuch", bases := [.ref 39], mro := [.ref 88, .ref 39, .type "ValueError", .type "Exception", .type "BaseException", .type "object"], ns := 87, qualname := "TooMuch" }, slots := #[some (.ref 79), none, some (.str "TooMuch" 272), some (.str "TooMuch" 280), some (.builtin "ValueError.__new__"), some (.bool true)] }
noncomputable def q137 (_ : Params) : Obj := { cls := .type "super", data := .fields #[.ref 88, .ref 88, .ref 88] }
noncomputable def q138 (_ : Params) : Obj := { cls := .type "builtin_function_or_method", data := .fields #[.builtin "object.__init_subclass__", .ref 88] }
noncomputable def q139 (_ : Params) : Obj := { cls := .type "tuple", data := .seq #[] }
noncomputable def q140 (_ : Params) : Obj := { cls := .none, data := .fields #[] }
noncomputable def q141 (_ : Params) : Obj := { cls := .type "tuple", data := .seq #[.str "value" 299, .str "low" 300, .str "high" 301] }
noncomputable def q142 (_ : Params) : Obj := { cls := .type "tuple", data := .seq #[] }
noncomputable def q143 (_ : Params) : Obj := f0 (stm 9) "is_whole" "is_whole"
noncomputable def q144 (_ : Params) : Obj := { cls := .type "code", data := .fields #[.str "is_whole" 296, .str "is_whole" 297, .str "/claim/cut.py" 298, .int 19 0, .int 3 0, .int 0 0, .int 0 0, .int 3 0, .ref 91, .bool true, .int 181 0, .ref 92, .none, .ref 93, .ref 94, .ref 95, .int 302 0, .int 19 0, .str "/claim/cut.py" 303] }
noncomputable def q145 (_ : Params) : Obj := fo (stm 9) "is_whole" "is_whole" (.none) (.none) (.str "gluepage.scaled" 288) (.ref 96)
noncomputable def q146 (_ : Params) : Obj := { cls := .type "tuple", data := .seq #[] }
noncomputable def q147 (_ : Params) : Obj := { cls := .none, data := .fields #[] }
noncomputable def q148 (_ : Params) : Obj := { cls := .type "tuple", data := .seq #[.str "value" 308] }
noncomputable def q149 (_ : Params) : Obj := { cls := .type "tuple", data := .seq #[] }
noncomputable def q150 (_ : Params) : Obj := f0 (stm 10) "check_whole" "check_whole"
noncomputable def q151 (_ : Params) : Obj := { cls := .type "code", data := .fields #[.str "check_whole" 305, .str "check_whole" 306, .str "/claim/cut.py" 307, .int 21 0, .int 1 0, .int 0 0, .int 0 0, .int 3 0, .ref 98, .bool true, .int 181 0, .ref 99, .none, .ref 100, .ref 101, .ref 102, .int 309 0, .int 21 0, .str "/claim/cut.py" 310] }
noncomputable def q152 (_ : Params) : Obj := fo (stm 10) "check_whole" "check_whole" (.none) (.none) (.str "gluepage.scaled" 288) (.ref 103)
noncomputable def q153 (_ : Params) : Obj := { cls := .type "tuple", data := .seq #[] }
noncomputable def q154 (_ : Params) : Obj := { cls := .none, data := .fields #[] }
noncomputable def q155 (_ : Params) : Obj := { cls := .type "tuple", data := .seq #[.str "value" 315] }
noncomputable def q156 (_ : Params) : Obj := { cls := .type "tuple", data := .seq #[] }
noncomputable def q157 (_ : Params) : Obj := f0 (stm 11) "check_dimen" "check_dimen"
noncomputable def q158 (_ : Params) : Obj := { cls := .type "code", data := .fields #[.str "check_dimen" 312, .str "check_dimen" 313, .str "/claim/cut.py" 314, .int 25 0, .int 1 0, .int 0 0, .int 0 0, .int 3 0, .ref 105, .bool true, .int 181 0, .ref 106, .none, .ref 107, .ref 108, .ref 109, .int 316 0, .int 25 0, .str "/claim/cut.py" 317] }
noncomputable def q159 (_ : Params) : Obj := fo (stm 11) "check_dimen" "check_dimen" (.none) (.none) (.str "gluepage.scaled" 288) (.ref 110)
noncomputable def q160 (P : Params) : Obj := { cls := .type "dict", data := .dict #[de P "__name__" 165 (.str "gluepage.fonts" 319), de P "__doc__" 166 (.none), de P "__package__" 167 (.none), de P "__loader__" 168 (.builtin "__main__.__loader__#opaque"), de P "__spec__" 169 (.none), de P "__annotations__" 170 (.ref 6), de P "__builtins__" 171 (.ref 4), de P "__file__" 173 (.str "/claim/cut.py" 172), de P "__cached__" 174 (.none), de P "_wall" 193 (.ref 21), de P "PageError" 223 (.ref 39), de P "BadArgument" 239 (.ref 52), de P "Overflow" 255 (.ref 64), de P "BadFont" 271 (.ref 76), de P "TooMuch" 287 (.ref 88), de P "MAX_DIMEN" 295 (.int 1073741823 294), de P "is_whole" 304 (.ref 97), de P "check_whole" 311 (.ref 104), de P "check_dimen" 318 (.ref 111), de P "EDGE" 322 (.int 256 321), de P "MOST_FONTS" 324 (.int 255 323), de P "MOST_PARAMS" 326 (.int 64 325), de P "MOST_SIZE" 332 (.int 134217727 331), de P "PLAIN_SORT" 337 (.int 0 333), de P "PROGRAM_SORT" 338 (.int 1 334), de P "LARGER_SORT" 339 (.int 2 335), de P "PIECES_SORT" 340 (.int 3 336), de P "STOP_SKIP" 344 (.int 128 341), de P "KERN_OP" 345 (.int 128 342), de P "LEAD" 346 (.int 255 343), de P "NO_CHARACTER" 353 (.ref 120), de P "is_size" 360 (.ref 127), de P "check_sizes" 368 (.ref 134), de P "check_pieces" 378 (.ref 141), de P "check_chars" 390 (.ref 148), de P "check_larger" 400 (.ref 155), de P "check_program" 418 (.ref 162)] 37 }
noncomputable def q161 (_ : Params) : Obj := { cls := .none, data := .fields #[.int 1 0, .int 0 0, .ref 20, .int 5 0, .int 0 0, .ref 27, .int 9 0, .int 0 0, .ref 48, .int 11 0, .int 0 0, .ref 60, .int 13 0, .int 0 0, .ref 72, .int 15 0, .int 0 0, .ref 84, .int 19 0, .int 0 0, .ref 96, .int 21 0, .int 0 0, .ref 103, .int 25 0, .int 0 0, .ref 110, .int 37 0, .int 0 0, .ref 126, .int 39 0, .int 0 0, .ref 133, .int 43 0, .int 0 0, .ref 140, .int 49 0, .int 0 0, .ref 147, .int 61 0, .int 0 0, .ref 154, .int 69 0, .int 0 0, .ref 161] }
noncomputable def q162 (_ : Params) : Obj := { cls := .type "tuple", data := .seq #[.int 0 333, .int 1 334, .int 2 335, .int 3 336] }
noncomputable def q163 (_ : Params) : Obj := { cls := .type "tuple_iterator", data := .fields #[.none, .int 4 0] }
noncomputable def q164 (_ : Params) : Obj := { cls := .type "tuple", data := .seq #[] }
noncomputable def q165 (_ : Params) : Obj := { cls := .type "StopIteration", data := .fields #[.ref 114, .none, .none, .none, .bool false, .none] }
noncomputable def q166 (_ : Params) : Obj := { cls := .type "tuple", data := .seq #[.int 128 341, .int 128 342, .int 255 343] }
noncomputable def q167 (_ : Params) : Obj := { cls := .type "tuple_iterator", data := .fields #[.none, .int 3 0] }
noncomputable def q168 (_ : Params) : Obj := { cls := .type "tuple", data := .seq #[] }
noncomputable def q169 (_ : Params) : Obj := { cls := .type "StopIteration", data := .fields #[.ref 118, .none, .none, .none, .bool false, .none] }
noncomputable def q170 (_ : Params) : Obj := { cls := .type "tuple", data := .seq #[.int 0 347, .int 0 348, .int 0 349, .int 0 350, .int 0 351, .int 0 352] }
noncomputable def q171 (_ : Params) : Obj := { cls := .type "tuple", data := .seq #[] }
noncomputable def q172 (_ : Params) : Obj := { cls := .none, data := .fields #[] }
noncomputable def q173 (_ : Params) : Obj := { cls := .type "tuple", data := .seq #[.str "value" 357] }
noncomputable def q174 (_ : Params) : Obj := { cls := .type "tuple", data := .seq #[] }
noncomputable def q175 (_ : Params) : Obj := f0 (stm 20) "is_size" "is_size"
noncomputable def q176 (_ : Params) : Obj := { cls := .type "code", data := .fields #[.str "is_size" 354, .str "is_size" 355, .str "/claim/cut.py" 356, .int 37 0, .int 1 0, .int 0 0, .int 0 0, .int 3 0, .ref 121, .bool true, .int 181 0, .ref 122, .none, .ref 123, .ref 124, .ref 125, .int 358 0, .int 37 0, .str "/claim/cut.py" 359] }
noncomputable def q177 (_ : Params) : Obj := fo (stm 20) "is_size" "is_size" (.none) (.none) (.str "gluepage.fonts" 319) (.ref 126)
noncomputable def q178 (_ : Params) : Obj := { cls := .type "tuple", data := .seq #[] }
noncomputable def q179 (_ : Params) : Obj := { cls := .none, data := .fields #[] }
noncomputable def q180 (_ : Params) : Obj := { cls := .type "tuple", data := .seq #[.str "sizes" 364, .str "size" 365] }
noncomputable def q181 (_ : Params) : Obj := { cls := .type "tuple", data := .seq #[] }
noncomputable def q182 (_ : Params) : Obj := f0 (stm 21) "check_sizes" "check_sizes"
noncomputable def q183 (_ : Params) : Obj := { cls := .type "code", data := .fields #[.str "check_sizes" 361, .str "check_sizes" 362, .str "/claim/cut.py" 363, .int 39 0, .int 1 0, .int 0 0, .int 0 0, .int 3 0, .ref 128, .bool true, .int 181 0, .ref 129, .none, .ref 130, .ref 131, .ref 132, .int 366 0, .int 39 0, .str "/claim/cut.py" 367] }
noncomputable def q184 (_ : Params) : Obj := fo (stm 21) "check_sizes" "check_sizes" (.none) (.none) (.str "gluepage.fonts" 319) (.ref 133)
noncomputable def q185 (_ : Params) : Obj := { cls := .type "tuple", data := .seq #[] }
noncomputable def q186 (_ : Params) : Obj := { cls := .none, data := .fields #[] }
noncomputable def q187 (_ : Params) : Obj := { cls := .type "tuple", data := .seq #[.str "pieces" 372, .str "chars" 373, .str "place" 374, .str "code" 375] }
noncomputable def q188 (_ : Params) : Obj := { cls := .type "tuple", data := .seq #[] }
noncomputable def q189 (_ : Params) : Obj := f0 (stm 22) "check_pieces" "check_pieces"
noncomputable def q190 (_ : Params) : Obj := { cls := .type "code", data := .fields #[.str "check_pieces" 369, .str "check_pieces" 370, .str "/claim/cut.py" 371, .int 43 0, .int 2 0, .int 0 0, .int 0 0, .int 3 0, .ref 135, .bool true, .int 181 0, .ref 136, .none, .ref 137, .ref 138, .ref 139, .int 376 0, .int 43 0, .str "/claim/cut.py" 377] }
noncomputable def q191 (_ : Params) : Obj := fo (stm 22) "check_pieces" "check_pieces" (.none) (.none) (.str "gluepage.fonts" 319) (.ref 140)
noncomputable def q192 (_ : Params) : Obj := { cls := .type "tuple", data := .seq #[] }
noncomputable def q193 (_ : Params) : Obj := { cls := .none, data := .fields #[] }
noncomputable def q194 (_ : Params) : Obj := { cls := .type "tuple", data := .seq #[.str "chars" 382, .str "many" 383, .str "code" 384, .str "row" 385, .str "sort" 386, .str "rest" 387] }
noncomputable def q195 (_ : Params) : Obj := { cls := .type "tuple", data := .seq #[] }
noncomputable def q196 (_ : Params) : Obj := f0 (stm 23) "check_chars" "check_chars"
noncomputable def q197 (_ : Params) : Obj := { cls := .type "code", data := .fields #[.str "check_chars" 379, .str "check_chars" 380, .str "/claim/cut.py" 381, .int 49 0, .int 2 0, .int 0 0, .int 0 0, .int 3 0, .ref 142, .bool true, .int 181 0, .ref 143, .none, .ref 144, .ref 145, .ref 146, .int 388 0, .int 49 0, .str "/claim/cut.py" 389] }
noncomputable def q198 (_ : Params) : Obj := fo (stm 23) "check_chars" "check_chars" (.none) (.none) (.str "gluepage.fonts" 319) (.ref 147)
noncomputable def q199 (_ : Params) : Obj := { cls := .type "tuple", data := .seq #[] }
noncomputable def q200 (_ : Params) : Obj := { cls := .none, data := .fields #[] }
noncomputable def q201 (_ : Params) : Obj := { cls := .type "tuple", data := .seq #[.str "chars" 394, .str "code" 395, .str "far" 396, .str "turns" 397] }
noncomputable def q202 (_ : Params) : Obj := { cls := .type "tuple", data := .seq #[] }
noncomputable def q203 (_ : Params) : Obj := f0 (stm 24) "check_larger" "check_larger"
noncomputable def q204 (_ : Params) : Obj := { cls := .type "code", data := .fields #[.str "check_larger" 391, .str "check_larger" 392, .str "/claim/cut.py" 393, .int 61 0, .int 1 0, .int 0 0, .int 0 0, .int 3 0, .ref 149, .bool true, .int 181 0, .ref 150, .none, .ref 151, .ref 152, .ref 153, .int 398 0, .int 61 0, .str "/claim/cut.py" 399] }
noncomputable def q205 (_ : Params) : Obj := fo (stm 24) "check_larger" "check_larger" (.none) (.none) (.str "gluepage.fonts" 319) (.ref 154)
noncomputable def q206 (_ : Params) : Obj := { cls := .type "tuple", data := .seq #[] }
noncomputable def q207 (_ : Params) : Obj := { cls := .none, data := .fields #[] }
noncomputable def q208 (_ : Params) : Obj := { cls := .type "tuple", data := .seq #[.str "program" 404, .str "kerns" 405, .str "chars" 406, .str "boundary" 407, .str "many" 408, .str "place" 409, .str "row" 410, .str "octet" 411, .str "skip" 412, .str "following" 413, .str "op" 414, .str "rest" 415] }
noncomputable def q209 (_ : Params) : Obj := { cls := .type "tuple", data := .seq #[] }
noncomputable def q210 (_ : Params) : Obj := f0 (stm 25) "check_program" "check_program"
noncomputable def q211 (_ : Params) : Obj := { cls := .type "code", data := .fields #[.str "check_program" 401, .str "check_program" 402, .str "/claim/cut.py" 403, .int 69 0, .int 4 0, .int 0 0, .int 0 0, .int 3 0, .ref 156, .bool true, .int 181 0, .ref 157, .none, .ref 158, .ref 159, .ref 160, .int 416 0, .int 69 0, .str "/claim/cut.py" 417] }
noncomputable def q212 (_ : Params) : Obj := fo (stm 25) "check_program" "check_program" (.none) (.none) (.str "gluepage.fonts" 319) (.ref 161)
noncomputable def q217 (_ : Params) : Obj := { cls := .type "tuple", data := .seq #[] }
noncomputable def q218 (_ : Params) : Obj := { cls := .none, data := .fields #[] }
noncomputable def q219 (_ : Params) : Obj := { cls := .type "tuple", data := .seq #[.str "program" 422, .str "skip" 423, .str "following" 424, .str "op" 425, .str "rest" 426] }
noncomputable def q220 (_ : Params) : Obj := { cls := .type "tuple", data := .seq #[] }
noncomputable def q221 (_ : Params) : Obj := f0 (stm 26) "left_start" "left_start"
noncomputable def q222 (_ : Params) : Obj := { cls := .type "code", data := .fields #[.str "left_start" 419, .str "left_start" 420, .str "/claim/cut.py" 421, .int 88 0, .int 1 0, .int 0 0, .int 0 0, .int 3 0, .ref 163, .bool true, .int 181 0, .ref 164, .none, .ref 165, .ref 166, .ref 167, .int 427 0, .int 88 0, .str "/claim/cut.py" 428] }
noncomputable def q223 (_ : Params) : Obj := fo (stm 26) "left_start" "left_start" (.none) (.none) (.str "gluepage.fonts" 319) (.ref 168)
noncomputable def q224 (P : Params) : Obj := { cls := .type "dict", data := .dict #[de P "__name__" 165 (.str "gluepage.fonts" 319), de P "__doc__" 166 (.none), de P "__package__" 167 (.none), de P "__loader__" 168 (.builtin "__main__.__loader__#opaque"), de P "__spec__" 169 (.none), de P "__annotations__" 170 (.ref 6), de P "__builtins__" 171 (.ref 4), de P "__file__" 173 (.str "/claim/cut.py" 172), de P "__cached__" 174 (.none), de P "_wall" 193 (.ref 21), de P "PageError" 223 (.ref 39), de P "BadArgument" 239 (.ref 52), de P "Overflow" 255 (.ref 64), de P "BadFont" 271 (.ref 76), de P "TooMuch" 287 (.ref 88), de P "MAX_DIMEN" 295 (.int 1073741823 294), de P "is_whole" 304 (.ref 97), de P "check_whole" 311 (.ref 104), de P "check_dimen" 318 (.ref 111), de P "EDGE" 322 (.int 256 321), de P "MOST_FONTS" 324 (.int 255 323), de P "MOST_PARAMS" 326 (.int 64 325), de P "MOST_SIZE" 332 (.int 134217727 331), de P "PLAIN_SORT" 337 (.int 0 333), de P "PROGRAM_SORT" 338 (.int 1 334), de P "LARGER_SORT" 339 (.int 2 335), de P "PIECES_SORT" 340 (.int 3 336), de P "STOP_SKIP" 344 (.int 128 341), de P "KERN_OP" 345 (.int 128 342), de P "LEAD" 346 (.int 255 343), de P "NO_CHARACTER" 353 (.ref 120), de P "is_size" 360 (.ref 127), de P "check_sizes" 368 (.ref 134), de P "check_pieces" 378 (.ref 141), de P "check_chars" 390 (.ref 148), de P "check_larger" 400 (.ref 155), de P "check_program" 418 (.ref 162), de P "left_start" 429 (.ref 169), de P "Font" 561 (.ref 259)] 39 }
noncomputable def q225 (_ : Params) : Obj := { cls := .none, data := .fields #[.int 1 0, .int 0 0, .ref 20, .int 5 0, .int 0 0, .ref 27, .int 9 0, .int 0 0, .ref 48, .int 11 0, .int 0 0, .ref 60, .int 13 0, .int 0 0, .ref 72, .int 15 0, .int 0 0, .ref 84, .int 19 0, .int 0 0, .ref 96, .int 21 0, .int 0 0, .ref 103, .int 25 0, .int 0 0, .ref 110, .int 37 0, .int 0 0, .ref 126, .int 39 0, .int 0 0, .ref 133, .int 43 0, .int 0 0, .ref 140, .int 49 0, .int 0 0, .ref 147, .int 61 0, .int 0 0, .ref 154, .int 69 0, .int 0 0, .ref 161, .int 88 0, .int 0 0, .ref 168, .int 93 0, .int 0 0, .ref 175] }
noncomputable def q226 (_ : Params) : Obj := { cls := .type "tuple", data := .seq #[] }
noncomputable def q227 (_ : Params) : Obj := { cls := .type "builtin_function_or_method", data := .fields #[.builtin "type.__prepare__", .type "type"] }
noncomputable def q228 (P : Params) : Obj := { cls := .type "dict", data := .dict #[de P "__module__" 437 (.str "gluepage.fonts" 319), de P "__qualname__" 439 (.str "Font" 438), de P "__firstlineno__" 441 (.int 93 440), de P "__init__" 456 (.ref 186), de P "has" 464 (.ref 193), de P "width" 472 (.ref 200), de P "height" 480 (.ref 207), de P "depth" 488 (.ref 214), de P "italic" 496 (.ref 221), de P "starts" 505 (.ref 228), de P "larger" 514 (.ref 235), de P "pieces" 523 (.ref 242), de P "param" 531 (.ref 249), de P "set_param" 540 (.ref 256), de P "__static_attributes__" 554 (.ref 257)] 15 }
noncomputable def q229 (_ : Params) : Obj := { cls := .type "tuple", data := .seq #[] }
noncomputable def q230 (_ : Params) : Obj := { cls := .none, data := .fields #[.int 95 0, .int 4 0, .ref 185, .int 119 0, .int 4 0, .ref 192, .int 122 0, .int 4 0, .ref 199, .int 125 0, .int 4 0, .ref 206, .int 128 0, .int 4 0, .ref 213, .int 131 0, .int 4 0, .ref 220, .int 134 0, .int 4 0, .ref 227, .int 140 0, .int 4 0, .ref 234, .int 144 0, .int 4 0, .ref 241, .int 148 0, .int 4 0, .ref 248, .int 151 0, .int 4 0, .ref 255] }
noncomputable def q231 (_ : Params) : Obj := { cls := .type "code", data := .fields #[.str "Font" 432, .str "Font" 433, .str "/claim/cut.py" 434, .int 93 0, .int 0 0, .int 0 0, .int 0 0, .int 0 0, .ref 173, .bool false, .int 181 0, .ref 174, .none, .none, .none, .none, .int 435 0, .int 93 0, .str "/claim/cut.py" 436] }
noncomputable def q232 (_ : Params) : Obj := { cls := .type "frame", slots := #[some (.ref 175), some (.ref 3), some (.ref 172), none, some (.str "gluepage.fonts" 319), none, some (.ref 0)] }
noncomputable def q233 (_ : Params) : Obj := { cls := .type "tuple", data := .seq #[] }
noncomputable def q234 (_ : Params) : Obj := { cls := .type "tuple", data := .seq #[] }
noncomputable def q235 (_ : Params) : Obj := { cls := .type "tuple", data := .seq #[.ref 177, .ref 178, .int 256 321] }
noncomputable def q236 (_ : Params) : Obj := { cls := .type "tuple", data := .seq #[] }
noncomputable def q237 (_ : Params) : Obj := { cls := .none, data := .fields #[] }
noncomputable def q238 (_ : Params) : Obj := { cls := .type "tuple", data := .seq #[.str "self" 445, .str "number" 446, .str "name" 447, .str "size" 448, .str "params" 449, .str "chars" 450, .str "program" 451, .str "kerns" 452, .str "boundary" 453] }
noncomputable def q239 (_ : Params) : Obj := { cls := .type "tuple", data := .seq #[] }
noncomputable def q240 (_ : Params) : Obj := f0 (memb 27 0) "__init__" "Font.__init__"
noncomputable def q241 (_ : Params) : Obj := { cls := .type "code", data := .fields #[.str "__init__" 442, .str "Font.__init__" 443, .str "/claim/cut.py" 444, .int 95 0, .int 9 0, .int 0 0, .int 0 0, .int 3 0, .ref 180, .bool true, .int 181 0, .ref 181, .none, .ref 182, .ref 183, .ref 184, .int 454 0, .int 95 0, .str "/claim/cut.py" 455] }
noncomputable def q242 (_ : Params) : Obj := fo (memb 27 0) "__init__" "Font.__init__" (.ref 179) (.none) (.str "gluepage.fonts" 319) (.ref 185)
noncomputable def q243 (_ : Params) : Obj := { cls := .type "tuple", data := .seq #[] }
noncomputable def q244 (_ : Params) : Obj := { cls := .none, data := .fields #[] }
noncomputable def q245 (_ : Params) : Obj := { cls := .type "tuple", data := .seq #[.str "self" 460, .str "code" 461] }
noncomputable def q246 (_ : Params) : Obj := { cls := .type "tuple", data := .seq #[] }
noncomputable def q247 (_ : Params) : Obj := f0 (memb 27 1) "has" "Font.has"
noncomputable def q248 (_ : Params) : Obj := { cls := .type "code", data := .fields #[.str "has" 457, .str "Font.has" 458, .str "/claim/cut.py" 459, .int 119 0, .int 2 0, .int 0 0, .int 0 0, .int 3 0, .ref 187, .bool true, .int 181 0, .ref 188, .none, .ref 189, .ref 190, .ref 191, .int 462 0, .int 119 0, .str "/claim/cut.py" 463] }
noncomputable def q249 (_ : Params) : Obj := fo (memb 27 1) "has" "Font.has" (.none) (.none) (.str "gluepage.fonts" 319) (.ref 192)
noncomputable def q250 (_ : Params) : Obj := { cls := .type "tuple", data := .seq #[] }
noncomputable def q251 (_ : Params) : Obj := { cls := .none, data := .fields #[] }
noncomputable def q252 (_ : Params) : Obj := { cls := .type "tuple", data := .seq #[.str "self" 468, .str "code" 469] }
noncomputable def q253 (_ : Params) : Obj := { cls := .type "tuple", data := .seq #[] }
noncomputable def q254 (_ : Params) : Obj := f0 (memb 27 2) "width" "Font.width"
noncomputable def q255 (_ : Params) : Obj := { cls := .type "code", data := .fields #[.str "width" 465, .str "Font.width" 466, .str "/claim/cut.py" 467, .int 122 0, .int 2 0, .int 0 0, .int 0 0, .int 3 0, .ref 194, .bool true, .int 181 0, .ref 195, .none, .ref 196, .ref 197, .ref 198, .int 470 0, .int 122 0, .str "/claim/cut.py" 471] }
noncomputable def q256 (_ : Params) : Obj := fo (memb 27 2) "width" "Font.width" (.none) (.none) (.str "gluepage.fonts" 319) (.ref 199)
noncomputable def q257 (_ : Params) : Obj := { cls := .type "tuple", data := .seq #[] }
noncomputable def q258 (_ : Params) : Obj := { cls := .none, data := .fields #[] }
noncomputable def q259 (_ : Params) : Obj := { cls := .type "tuple", data := .seq #[.str "self" 476, .str "code" 477] }
noncomputable def q260 (_ : Params) : Obj := { cls := .type "tuple", data := .seq #[] }
noncomputable def q261 (_ : Params) : Obj := f0 (memb 27 3) "height" "Font.height"
noncomputable def q262 (_ : Params) : Obj := { cls := .type "code", data := .fields #[.str "height" 473, .str "Font.height" 474, .str "/claim/cut.py" 475, .int 125 0, .int 2 0, .int 0 0, .int 0 0, .int 3 0, .ref 201, .bool true, .int 181 0, .ref 202, .none, .ref 203, .ref 204, .ref 205, .int 478 0, .int 125 0, .str "/claim/cut.py" 479] }
noncomputable def q263 (_ : Params) : Obj := fo (memb 27 3) "height" "Font.height" (.none) (.none) (.str "gluepage.fonts" 319) (.ref 206)
noncomputable def q264 (_ : Params) : Obj := { cls := .type "tuple", data := .seq #[] }
noncomputable def q265 (_ : Params) : Obj := { cls := .none, data := .fields #[] }
noncomputable def q266 (_ : Params) : Obj := { cls := .type "tuple", data := .seq #[.str "self" 484, .str "code" 485] }
noncomputable def q267 (_ : Params) : Obj := { cls := .type "tuple", data := .seq #[] }
noncomputable def q268 (_ : Params) : Obj := f0 (memb 27 4) "depth" "Font.depth"
noncomputable def q269 (_ : Params) : Obj := { cls := .type "code", data := .fields #[.str "depth" 481, .str "Font.depth" 482, .str "/claim/cut.py" 483, .int 128 0, .int 2 0, .int 0 0, .int 0 0, .int 3 0, .ref 208, .bool true, .int 181 0, .ref 209, .none, .ref 210, .ref 211, .ref 212, .int 486 0, .int 128 0, .str "/claim/cut.py" 487] }
noncomputable def q270 (_ : Params) : Obj := fo (memb 27 4) "depth" "Font.depth" (.none) (.none) (.str "gluepage.fonts" 319) (.ref 213)
noncomputable def q271 (_ : Params) : Obj := { cls := .type "tuple", data := .seq #[] }
noncomputable def q272 (_ : Params) : Obj := { cls := .none, data := .fields #[] }
noncomputable def q273 (_ : Params) : Obj := { cls := .type "tuple", data := .seq #[.str "self" 492, .str "code" 493] }
noncomputable def q274 (_ : Params) : Obj := { cls := .type "tuple", data := .seq #[] }
noncomputable def q275 (_ : Params) : Obj := f0 (memb 27 5) "italic" "Font.italic"
noncomputable def q276 (_ : Params) : Obj := { cls := .type "code", data := .fields #[.str "italic" 489, .str "Font.italic" 490, .str "/claim/cut.py" 491, .int 131 0, .int 2 0, .int 0 0, .int 0 0, .int 3 0, .ref 215, .bool true, .int 181 0, .ref 216, .none, .ref 217, .ref 218, .ref 219, .int 494 0, .int 131 0, .str "/claim/cut.py" 495] }
noncomputable def q277 (_ : Params) : Obj := fo (memb 27 5) "italic" "Font.italic" (.none) (.none) (.str "gluepage.fonts" 319) (.ref 220)
noncomputable def q278 (_ : Params) : Obj := { cls := .type "tuple", data := .seq #[] }
noncomputable def q279 (_ : Params) : Obj := { cls := .none, data := .fields #[] }
noncomputable def q280 (_ : Params) : Obj := { cls := .type "tuple", data := .seq #[.str "self" 500, .str "code" 501, .str "row" 502] }
noncomputable def q281 (_ : Params) : Obj := { cls := .type "tuple", data := .seq #[] }
noncomputable def q282 (_ : Params) : Obj := f0 (memb 27 6) "starts" "Font.starts"
noncomputable def q283 (_ : Params) : Obj := { cls := .type "code", data := .fields #[.str "starts" 497, .str "Font.starts" 498, .str "/claim/cut.py" 499, .int 134 0, .int 2 0, .int 0 0, .int 0 0, .int 3 0, .ref 222, .bool true, .int 181 0, .ref 223, .none, .ref 224, .ref 225, .ref 226, .int 503 0, .int 134 0, .str "/claim/cut.py" 504] }
noncomputable def q284 (_ : Params) : Obj := fo (memb 27 6) "starts" "Font.starts" (.none) (.none) (.str "gluepage.fonts" 319) (.ref 227)
noncomputable def q285 (_ : Params) : Obj := { cls := .type "tuple", data := .seq #[] }
noncomputable def q286 (_ : Params) : Obj := { cls := .none, data := .fields #[] }
noncomputable def q287 (_ : Params) : Obj := { cls := .type "tuple", data := .seq #[.str "self" 509, .str "code" 510, .str "row" 511] }
noncomputable def q288 (_ : Params) : Obj := { cls := .type "tuple", data := .seq #[] }
noncomputable def q289 (_ : Params) : Obj := f0 (memb 27 7) "larger" "Font.larger"
noncomputable def q290 (_ : Params) : Obj := { cls := .type "code", data := .fields #[.str "larger" 506, .str "Font.larger" 507, .str "/claim/cut.py" 508, .int 140 0, .int 2 0, .int 0 0, .int 0 0, .int 3 0, .ref 229, .bool true, .int 181 0, .ref 230, .none, .ref 231, .ref 232, .ref 233, .int 512 0, .int 140 0, .str "/claim/cut.py" 513] }
noncomputable def q291 (_ : Params) : Obj := fo (memb 27 7) "larger" "Font.larger" (.none) (.none) (.str "gluepage.fonts" 319) (.ref 234)
noncomputable def q292 (_ : Params) : Obj := { cls := .type "tuple", data := .seq #[] }
noncomputable def q293 (_ : Params) : Obj := { cls := .none, data := .fields #[] }
noncomputable def q294 (_ : Params) : Obj := { cls := .type "tuple", data := .seq #[.str "self" 518, .str "code" 519, .str "row" 520] }
noncomputable def q295 (_ : Params) : Obj := { cls := .type "tuple", data := .seq #[] }
noncomputable def q296 (_ : Params) : Obj := f0 (memb 27 8) "pieces" "Font.pieces"
noncomputable def q297 (_ : Params) : Obj := { cls := .type "code", data := .fields #[.str "pieces" 515, .str "Font.pieces" 516, .str "/claim/cut.py" 517, .int 144 0, .int 2 0, .int 0 0, .int 0 0, .int 3 0, .ref 236, .bool true, .int 181 0, .ref 237, .none, .ref 238, .ref 239, .ref 240, .int 521 0, .int 144 0, .str "/claim/cut.py" 522] }
noncomputable def q298 (_ : Params) : Obj := fo (memb 27 8) "pieces" "Font.pieces" (.none) (.none) (.str "gluepage.fonts" 319) (.ref 241)
noncomputable def q299 (_ : Params) : Obj := { cls := .type "tuple", data := .seq #[] }
noncomputable def q300 (_ : Params) : Obj := { cls := .none, data := .fields #[] }
noncomputable def q301 (_ : Params) : Obj := { cls := .type "tuple", data := .seq #[.str "self" 527, .str "number" 528] }
noncomputable def q302 (_ : Params) : Obj := { cls := .type "tuple", data := .seq #[] }
noncomputable def q303 (_ : Params) : Obj := f0 (memb 27 9) "param" "Font.param"
noncomputable def q304 (_ : Params) : Obj := { cls := .type "code", data := .fields #[.str "param" 524, .str "Font.param" 525, .str "/claim/cut.py" 526, .int 148 0, .int 2 0, .int 0 0, .int 0 0, .int 3 0, .ref 243, .bool true, .int 181 0, .ref 244, .none, .ref 245, .ref 246, .ref 247, .int 529 0, .int 148 0, .str "/claim/cut.py" 530] }
noncomputable def q305 (_ : Params) : Obj := fo (memb 27 9) "param" "Font.param" (.none) (.none) (.str "gluepage.fonts" 319) (.ref 248)
noncomputable def q306 (_ : Params) : Obj := { cls := .type "tuple", data := .seq #[] }
noncomputable def q307 (_ : Params) : Obj := { cls := .none, data := .fields #[] }
noncomputable def q308 (_ : Params) : Obj := { cls := .type "tuple", data := .seq #[.str "self" 535, .str "number" 536, .str "value" 537] }
noncomputable def q309 (_ : Params) : Obj := { cls := .type "tuple", data := .seq #[] }
noncomputable def q310 (_ : Params) : Obj := f0 (memb 27 10) "set_param" "Font.set_param"
noncomputable def q311 (_ : Params) : Obj := { cls := .type "code", data := .fields #[.str "set_param" 532, .str "Font.set_param" 533, .str "/claim/cut.py" 534, .int 151 0, .int 3 0, .int 0 0, .int 0 0, .int 3 0, .ref 250, .bool true, .int 181 0, .ref 251, .none, .ref 252, .ref 253, .ref 254, .int 538 0, .int 151 0, .str "/claim/cut.py" 539] }
noncomputable def q312 (_ : Params) : Obj := fo (memb 27 10) "set_param" "Font.set_param" (.none) (.none) (.str "gluepage.fonts" 319) (.ref 255)
noncomputable def q313 (_ : Params) : Obj := { cls := .type "tuple", data := .seq #[.str "boundary" 541, .str "chars" 542, .str "check" 543, .str "design" 544, .str "edge_start" 545, .str "hyphen_char" 546, .str "kerns" 547, .str "name" 548, .str "number" 549, .str "params" 550, .str "program" 551, .str "size" 552, .str "skew_char" 553] }
noncomputable def q314 (P : Params) : Obj := { cls := .type "dict", data := .dict #[de P "__module__" 437 (.str "gluepage.fonts" 319), de P "__firstlineno__" 441 (.int 93 440), de P "__init__" 456 (.ref 186), de P "has" 464 (.ref 193), de P "width" 472 (.ref 200), de P "height" 480 (.ref 207), de P "depth" 488 (.ref 214), de P "italic" 496 (.ref 221), de P "starts" 505 (.ref 228), de P "larger" 514 (.ref 235), de P "pieces" 523 (.ref 242), de P "param" 531 (.ref 249), de P "set_param" 540 (.ref 256), de P "__static_attributes__" 554 (.ref 257), de P "__dict__" 556 (.ref 260), de P "__weakref__" 558 (.ref 261), de P "__doc__" 559 (.none)] 4 }
noncomputable def q315 (_ : Params) : Obj := { cls := .type "type", data := .cls { name := "Font", bases := [.type "object"], mro := [.ref 259, .type "object"], ns := 258, qualname := "Font" }, slots := #[none, none, some (.str "Font" 430), some (.str "Font" 438), some (.builtin "object.__new__"), some (.bool true)] }
noncomputable def q316 (_ : Params) : Obj := { cls := .type "getset_descriptor", data := .fields #[.str "__dict__" 555, .ref 259, .builtin "function.__dict__", .builtin "function.__dict__#set"] }
noncomputable def q317 (_ : Params) : Obj := { cls := .type "getset_descriptor", data := .fields #[.str "__weakref__" 557, .ref 259, .builtin "ExceptionGroup.__weakref__", .none] }
noncomputable def q318 (_ : Params) : Obj := { cls := .type "super", data := .fields #[.ref 259, .ref 259, .ref 259] }
noncomputable def q319 (_ : Params) : Obj := { cls := .type "builtin_function_or_method", data := .fields #[.builtin "object.__init_subclass__", .ref 259] }
noncomputable def q320 (P : Params) : Obj := { cls := .type "dict", data := .dict #[de P "__name__" 165 (.str "gluepage.nodes" 562), de P "__doc__" 166 (.none), de P "__package__" 167 (.none), de P "__loader__" 168 (.builtin "__main__.__loader__#opaque"), de P "__spec__" 169 (.none), de P "__annotations__" 170 (.ref 6), de P "__builtins__" 171 (.ref 4), de P "__file__" 173 (.str "/claim/cut.py" 172), de P "__cached__" 174 (.none), de P "_wall" 193 (.ref 21), de P "PageError" 223 (.ref 39), de P "BadArgument" 239 (.ref 52), de P "Overflow" 255 (.ref 64), de P "BadFont" 271 (.ref 76), de P "TooMuch" 287 (.ref 88), de P "MAX_DIMEN" 295 (.int 1073741823 294), de P "is_whole" 304 (.ref 97), de P "check_whole" 311 (.ref 104), de P "check_dimen" 318 (.ref 111), de P "EDGE" 322 (.int 256 321), de P "MOST_FONTS" 324 (.int 255 323), de P "MOST_PARAMS" 326 (.int 64 325), de P "MOST_SIZE" 332 (.int 134217727 331), de P "PLAIN_SORT" 337 (.int 0 333), de P "PROGRAM_SORT" 338 (.int 1 334), de P "LARGER_SORT" 339 (.int 2 335), de P "PIECES_SORT" 340 (.int 3 336), de P "STOP_SKIP" 344 (.int 128 341), de P "KERN_OP" 345 (.int 128 342), de P "LEAD" 346 (.int 255 343), de P "NO_CHARACTER" 353 (.ref 120), de P "is_size" 360 (.ref 127), de P "check_sizes" 368 (.ref 134), de P "check_pieces" 378 (.ref 141), de P "check_chars" 390 (.ref 148), de P "check_larger" 400 (.ref 155), de P "check_program" 418 (.ref 162), de P "left_start" 429 (.ref 169), de P "Font" 561 (.ref 259), de P "CHAR" 572 (.int 0 564), de P "LIGATURE" 573 (.int 1 565), de P "HBOX" 574 (.int 2 566), de P "VBOX" 575 (.int 3 567), de P "RULE" 576 (.int 4 568), de P "KERN" 577 (.int 5 569), de P "GLUE" 578 (.int 6 570), de P "PENALTY" 579 (.int 7 571), de P "FONT_KERN" 584 (.int 0 580), de P "EXPLICIT" 585 (.int 1 581), de P "ACCENT_KERN" 586 (.int 2 582), de P "MU_KERN" 587 (.int 3 583), de P "check_code" 594 (.ref 278)] 52 }
noncomputable def q321 (_ : Params) : Obj := { cls := .none, data := .fields #[.int 1 0, .int 0 0, .ref 20, .int 5 0, .int 0 0, .ref 27, .int 9 0, .int 0 0, .ref 48, .int 11 0, .int 0 0, .ref 60, .int 13 0, .int 0 0, .ref 72, .int 15 0, .int 0 0, .ref 84, .int 19 0, .int 0 0, .ref 96, .int 21 0, .int 0 0, .ref 103, .int 25 0, .int 0 0, .ref 110, .int 37 0, .int 0 0, .ref 126, .int 39 0, .int 0 0, .ref 133, .int 43 0, .int 0 0, .ref 140, .int 49 0, .int 0 0, .ref 147, .int 61 0, .int 0 0, .ref 154, .int 69 0, .int 0 0, .ref 161, .int 88 0, .int 0 0, .ref 168, .int 93 0, .int 0 0, .ref 175, .int 156 0, .int 0 0, .ref 277] }
noncomputable def q322 (_ : Params) : Obj := { cls := .type "tuple", data := .seq #[.int 0 564, .int 1 565, .int 2 566, .int 3 567, .int 4 568, .int 5 569, .int 6 570, .int 7 571] }
noncomputable def q323 (_ : Params) : Obj := { cls := .type "tuple_iterator", data := .fields #[.none, .int 8 0] }
noncomputable def q324 (_ : Params) : Obj := { cls := .type "tuple", data := .seq #[] }
noncomputable def q325 (_ : Params) : Obj := { cls := .type "StopIteration", data := .fields #[.ref 266, .none, .none, .none, .bool false, .none] }
noncomputable def q326 (_ : Params) : Obj := { cls := .type "tuple", data := .seq #[.int 0 580, .int 1 581, .int 2 582, .int 3 583] }
noncomputable def q327 (_ : Params) : Obj := { cls := .type "tuple_iterator", data := .fields #[.none, .int 4 0] }
noncomputable def q328 (_ : Params) : Obj := { cls := .type "tuple", data := .seq #[] }
noncomputable def q329 (_ : Params) : Obj := { cls := .type "StopIteration", data := .fields #[.ref 270, .none, .none, .none, .bool false, .none] }
noncomputable def q330 (_ : Params) : Obj := { cls := .type "tuple", data := .seq #[] }
noncomputable def q331 (_ : Params) : Obj := { cls := .none, data := .fields #[] }
noncomputable def q332 (_ : Params) : Obj := { cls := .type "tuple", data := .seq #[.str "code" 591] }
noncomputable def q333 (_ : Params) : Obj := { cls := .type "tuple", data := .seq #[] }
noncomputable def q334 (_ : Params) : Obj := f0 (stm 31) "check_code" "check_code"
noncomputable def q335 (_ : Params) : Obj := { cls := .type "code", data := .fields #[.str "check_code" 588, .str "check_code" 589, .str "/claim/cut.py" 590, .int 156 0, .int 1 0, .int 0 0, .int 0 0, .int 3 0, .ref 272, .bool true, .int 181 0, .ref 273, .none, .ref 274, .ref 275, .ref 276, .int 592 0, .int 156 0, .str "/claim/cut.py" 593] }
noncomputable def q336 (_ : Params) : Obj := fo (stm 31) "check_code" "check_code" (.none) (.none) (.str "gluepage.nodes" 562) (.ref 277)
noncomputable def q341 (_ : Params) : Obj := { cls := .type "tuple", data := .seq #[] }
noncomputable def q342 (_ : Params) : Obj := { cls := .type "builtin_function_or_method", data := .fields #[.builtin "type.__prepare__", .type "type"] }
noncomputable def q343 (P : Params) : Obj := { cls := .type "dict", data := .dict #[de P "__module__" 602 (.str "gluepage.nodes" 562), de P "__qualname__" 604 (.str "Char" 603), de P "__firstlineno__" 606 (.int 160 605), de P "kind" 607 (.int 0 564), de P "__init__" 616 (.ref 292), de P "__static_attributes__" 619 (.ref 293)] 6 }
noncomputable def q344 (_ : Params) : Obj := { cls := .type "tuple", data := .seq #[] }
noncomputable def q345 (_ : Params) : Obj := { cls := .none, data := .fields #[.int 163 0, .int 4 0, .ref 291] }
noncomputable def q346 (_ : Params) : Obj := { cls := .type "code", data := .fields #[.str "Char" 597, .str "Char" 598, .str "/claim/cut.py" 599, .int 160 0, .int 0 0, .int 0 0, .int 0 0, .int 0 0, .ref 282, .bool false, .int 181 0, .ref 283, .none, .none, .none, .none, .int 600 0, .int 160 0, .str "/claim/cut.py" 601] }
noncomputable def q347 (_ : Params) : Obj := { cls := .type "frame", slots := #[some (.ref 284), some (.ref 3), some (.ref 281), none, some (.str "gluepage.nodes" 562), none, some (.ref 0)] }
noncomputable def q348 (_ : Params) : Obj := { cls := .type "tuple", data := .seq #[] }
noncomputable def q349 (_ : Params) : Obj := { cls := .none, data := .fields #[] }
noncomputable def q350 (_ : Params) : Obj := { cls := .type "tuple", data := .seq #[.str "self" 611, .str "font" 612, .str "code" 613] }
noncomputable def q351 (_ : Params) : Obj := { cls := .type "tuple", data := .seq #[] }
noncomputable def q352 (_ : Params) : Obj := f0 (memb 32 1) "__init__" "Char.__init__"
noncomputable def q353 (_ : Params) : Obj := { cls := .type "code", data := .fields #[.str "__init__" 608, .str "Char.__init__" 609, .str "/claim/cut.py" 610, .int 163 0, .int 3 0, .int 0 0, .int 0 0, .int 3 0, .ref 286, .bool true, .int 181 0, .ref 287, .none, .ref 288, .ref 289, .ref 290, .int 614 0, .int 163 0, .str "/claim/cut.py" 615] }
noncomputable def q354 (_ : Params) : Obj := fo (memb 32 1) "__init__" "Char.__init__" (.none) (.none) (.str "gluepage.nodes" 562) (.ref 291)
noncomputable def q355 (_ : Params) : Obj := { cls := .type "tuple", data := .seq #[.str "code" 617, .str "font" 618] }
noncomputable def q356 (P : Params) : Obj := { cls := .type "dict", data := .dict #[de P "__module__" 602 (.str "gluepage.nodes" 562), de P "__firstlineno__" 606 (.int 160 605), de P "kind" 607 (.int 0 564), de P "__init__" 616 (.ref 292), de P "__static_attributes__" 619 (.ref 293), de P "__dict__" 621 (.ref 296), de P "__weakref__" 623 (.ref 297), de P "__doc__" 624 (.none)] 4 }
noncomputable def q357 (_ : Params) : Obj := { cls := .type "type", data := .cls { name := "Char", bases := [.type "object"], mro := [.ref 295, .type "object"], ns := 294, qualname := "Char" }, slots := #[none, none, some (.str "Char" 595), some (.str "Char" 603), some (.builtin "object.__new__"), some (.bool true)] }
noncomputable def q358 (_ : Params) : Obj := { cls := .type "getset_descriptor", data := .fields #[.str "__dict__" 620, .ref 295, .builtin "function.__dict__", .builtin "function.__dict__#set"] }
noncomputable def q359 (_ : Params) : Obj := { cls := .type "getset_descriptor", data := .fields #[.str "__weakref__" 622, .ref 295, .builtin "ExceptionGroup.__weakref__", .none] }
noncomputable def q360 (_ : Params) : Obj := { cls := .type "super", data := .fields #[.ref 295, .ref 295, .ref 295] }
noncomputable def q361 (_ : Params) : Obj := { cls := .type "builtin_function_or_method", data := .fields #[.builtin "object.__init_subclass__", .ref 295] }
noncomputable def q362 (P : Params) : Obj := { cls := .type "dict", data := .dict #[de P "__name__" 165 (.str "gluepage.nodes" 562), de P "__doc__" 166 (.none), de P "__package__" 167 (.none), de P "__loader__" 168 (.builtin "__main__.__loader__#opaque"), de P "__spec__" 169 (.none), de P "__annotations__" 170 (.ref 6), de P "__builtins__" 171 (.ref 4), de P "__file__" 173 (.str "/claim/cut.py" 172), de P "__cached__" 174 (.none), de P "_wall" 193 (.ref 21), de P "PageError" 223 (.ref 39), de P "BadArgument" 239 (.ref 52), de P "Overflow" 255 (.ref 64), de P "BadFont" 271 (.ref 76), de P "TooMuch" 287 (.ref 88), de P "MAX_DIMEN" 295 (.int 1073741823 294), de P "is_whole" 304 (.ref 97), de P "check_whole" 311 (.ref 104), de P "check_dimen" 318 (.ref 111), de P "EDGE" 322 (.int 256 321), de P "MOST_FONTS" 324 (.int 255 323), de P "MOST_PARAMS" 326 (.int 64 325), de P "MOST_SIZE" 332 (.int 134217727 331), de P "PLAIN_SORT" 337 (.int 0 333), de P "PROGRAM_SORT" 338 (.int 1 334), de P "LARGER_SORT" 339 (.int 2 335), de P "PIECES_SORT" 340 (.int 3 336), de P "STOP_SKIP" 344 (.int 128 341), de P "KERN_OP" 345 (.int 128 342), de P "LEAD" 346 (.int 255 343), de P "NO_CHARACTER" 353 (.ref 120), de P "is_size" 360 (.ref 127), de P "check_sizes" 368 (.ref 134), de P "check_pieces" 378 (.ref 141), de P "check_chars" 390 (.ref 148), de P "check_larger" 400 (.ref 155), de P "check_program" 418 (.ref 162), de P "left_start" 429 (.ref 169), de P "Font" 561 (.ref 259), de P "CHAR" 572 (.int 0 564), de P "LIGATURE" 573 (.int 1 565), de P "HBOX" 574 (.int 2 566), de P "VBOX" 575 (.int 3 567), de P "RULE" 576 (.int 4 568), de P "KERN" 577 (.int 5 569), de P "GLUE" 578 (.int 6 570), de P "PENALTY" 579 (.int 7 571), de P "FONT_KERN" 584 (.int 0 580), de P "EXPLICIT" 585 (.int 1 581), de P "ACCENT_KERN" 586 (.int 2 582), de P "MU_KERN" 587 (.int 3 583), de P "check_code" 594 (.ref 278), de P "Char" 626 (.ref 295), de P "Ligature" 658 (.ref 315)] 54 }
noncomputable def q363 (_ : Params) : Obj := { cls := .none, data := .fields #[.int 1 0, .int 0 0, .ref 20, .int 5 0, .int 0 0, .ref 27, .int 9 0, .int 0 0, .ref 48, .int 11 0, .int 0 0, .ref 60, .int 13 0, .int 0 0, .ref 72, .int 15 0, .int 0 0, .ref 84, .int 19 0, .int 0 0, .ref 96, .int 21 0, .int 0 0, .ref 103, .int 25 0, .int 0 0, .ref 110, .int 37 0, .int 0 0, .ref 126, .int 39 0, .int 0 0, .ref 133, .int 43 0, .int 0 0, .ref 140, .int 49 0, .int 0 0, .ref 147, .int 61 0, .int 0 0, .ref 154, .int 69 0, .int 0 0, .ref 161, .int 88 0, .int 0 0, .ref 168, .int 93 0, .int 0 0, .ref 175, .int 156 0, .int 0 0, .ref 277, .int 160 0, .int 0 0, .ref 284, .int 166 0, .int 0 0, .ref 305] }
noncomputable def q364 (_ : Params) : Obj := { cls := .type "tuple", data := .seq #[] }
noncomputable def q365 (_ : Params) : Obj := { cls := .type "builtin_function_or_method", data := .fields #[.builtin "type.__prepare__", .type "type"] }
noncomputable def q366 (P : Params) : Obj := { cls := .type "dict", data := .dict #[de P "__module__" 634 (.str "gluepage.nodes" 562), de P "__qualname__" 636 (.str "Ligature" 635), de P "__firstlineno__" 638 (.int 166 637), de P "kind" 639 (.int 1 565), de P "__init__" 645 (.ref 312), de P "__static_attributes__" 651 (.ref 313)] 6 }
noncomputable def q367 (_ : Params) : Obj := { cls := .type "tuple", data := .seq #[] }
noncomputable def q368 (_ : Params) : Obj := { cls := .none, data := .fields #[.int 169 0, .int 4 0, .ref 311] }
noncomputable def q369 (_ : Params) : Obj := { cls := .type "code", data := .fields #[.str "Ligature" 629, .str "Ligature" 630, .str "/claim/cut.py" 631, .int 166 0, .int 0 0, .int 0 0, .int 0 0, .int 0 0, .ref 303, .bool false, .int 181 0, .ref 304, .none, .none, .none, .none, .int 632 0, .int 166 0, .str "/claim/cut.py" 633] }
noncomputable def q370 (_ : Params) : Obj := { cls := .type "frame", slots := #[some (.ref 305), some (.ref 3), some (.ref 302), none, some (.str "gluepage.nodes" 562), none, some (.ref 0)] }
noncomputable def q371 (_ : Params) : Obj := { cls := .type "tuple", data := .seq #[.bool false, .bool false] }
noncomputable def q372 (_ : Params) : Obj := { cls := .type "tuple", data := .seq #[] }
noncomputable def q373 (_ : Params) : Obj := { cls := .none, data := .fields #[] }
noncomputable def q374 (_ : Params) : Obj := f0 (memb 33 1) "__init__" "Ligature.__init__"
noncomputable def q375 (_ : Params) : Obj := { cls := .type "code", data := .fields #[.str "__init__" 640, .str "Ligature.__init__" 641, .str "/claim/cut.py" 642, .int 169 0, .int 6 0, .int 0 0, .int 0 0, .int 3 0, .ref 308, .bool true, .int 181 0, .ref 309, .none, .none, .none, .ref 310, .int 643 0, .int 169 0, .str "/claim/cut.py" 644] }
noncomputable def q376 (_ : Params) : Obj := fo (memb 33 1) "__init__" "Ligature.__init__" (.ref 307) (.none) (.str "gluepage.nodes" 562) (.ref 311)
noncomputable def q377 (_ : Params) : Obj := { cls := .type "tuple", data := .seq #[.str "code" 646, .str "font" 647, .str "left" 648, .str "parts" 649, .str "right" 650] }
noncomputable def q378 (P : Params) : Obj := { cls := .type "dict", data := .dict #[de P "__module__" 634 (.str "gluepage.nodes" 562), de P "__firstlineno__" 638 (.int 166 637), de P "kind" 639 (.int 1 565), de P "__init__" 645 (.ref 312), de P "__static_attributes__" 651 (.ref 313), de P "__dict__" 653 (.ref 316), de P "__weakref__" 655 (.ref 317), de P "__doc__" 656 (.none)] 4 }
noncomputable def q379 (_ : Params) : Obj := { cls := .type "type", data := .cls { name := "Ligature", bases := [.type "object"], mro := [.ref 315, .type "object"], ns := 314, qualname := "Ligature" }, slots := #[none, none, some (.str "Ligature" 627), some (.str "Ligature" 635), some (.builtin "object.__new__"), some (.bool true)] }
noncomputable def q380 (_ : Params) : Obj := { cls := .type "getset_descriptor", data := .fields #[.str "__dict__" 652, .ref 315, .builtin "function.__dict__", .builtin "function.__dict__#set"] }
noncomputable def q381 (_ : Params) : Obj := { cls := .type "getset_descriptor", data := .fields #[.str "__weakref__" 654, .ref 315, .builtin "ExceptionGroup.__weakref__", .none] }
noncomputable def q382 (_ : Params) : Obj := { cls := .type "super", data := .fields #[.ref 315, .ref 315, .ref 315] }
noncomputable def q383 (_ : Params) : Obj := { cls := .type "builtin_function_or_method", data := .fields #[.builtin "object.__init_subclass__", .ref 315] }
noncomputable def q384 (P : Params) : Obj := { cls := .type "dict", data := .dict #[de P "__name__" 165 (.str "gluepage.ligkern" 691), de P "__doc__" 166 (.none), de P "__package__" 167 (.none), de P "__loader__" 168 (.builtin "__main__.__loader__#opaque"), de P "__spec__" 169 (.none), de P "__annotations__" 170 (.ref 6), de P "__builtins__" 171 (.ref 4), de P "__file__" 173 (.str "/claim/cut.py" 172), de P "__cached__" 174 (.none), de P "_wall" 193 (.ref 21), de P "PageError" 223 (.ref 39), de P "BadArgument" 239 (.ref 52), de P "Overflow" 255 (.ref 64), de P "BadFont" 271 (.ref 76), de P "TooMuch" 287 (.ref 88), de P "MAX_DIMEN" 295 (.int 1073741823 294), de P "is_whole" 304 (.ref 97), de P "check_whole" 311 (.ref 104), de P "check_dimen" 318 (.ref 111), de P "EDGE" 322 (.int 256 321), de P "MOST_FONTS" 324 (.int 255 323), de P "MOST_PARAMS" 326 (.int 64 325), de P "MOST_SIZE" 332 (.int 134217727 331), de P "PLAIN_SORT" 337 (.int 0 333), de P "PROGRAM_SORT" 338 (.int 1 334), de P "LARGER_SORT" 339 (.int 2 335), de P "PIECES_SORT" 340 (.int 3 336), de P "STOP_SKIP" 344 (.int 128 341), de P "KERN_OP" 345 (.int 128 342), de P "LEAD" 346 (.int 255 343), de P "NO_CHARACTER" 353 (.ref 120), de P "is_size" 360 (.ref 127), de P "check_sizes" 368 (.ref 134), de P "check_pieces" 378 (.ref 141), de P "check_chars" 390 (.ref 148), de P "check_larger" 400 (.ref 155), de P "check_program" 418 (.ref 162), de P "left_start" 429 (.ref 169), de P "Font" 561 (.ref 259), de P "CHAR" 572 (.int 0 564), de P "LIGATURE" 573 (.int 1 565), de P "HBOX" 574 (.int 2 566), de P "VBOX" 575 (.int 3 567), de P "RULE" 576 (.int 4 568), de P "KERN" 577 (.int 5 569), de P "GLUE" 578 (.int 6 570), de P "PENALTY" 579 (.int 7 571), de P "FONT_KERN" 584 (.int 0 580), de P "EXPLICIT" 585 (.int 1 581), de P "ACCENT_KERN" 586 (.int 2 582), de P "MU_KERN" 587 (.int 3 583), de P "check_code" 594 (.ref 278), de P "Char" 626 (.ref 295), de P "Ligature" 658 (.ref 315), de P "Kern" 690 (.ref 336), de P "KNOWN_OPS" 701 (.ref 341), de P "STEPS" 703 (.int 20 702), de P "look" 719 (.ref 348)] 58 }
noncomputable def q385 (_ : Params) : Obj := { cls := .none, data := .fields #[.int 1 0, .int 0 0, .ref 20, .int 5 0, .int 0 0, .ref 27, .int 9 0, .int 0 0, .ref 48, .int 11 0, .int 0 0, .ref 60, .int 13 0, .int 0 0, .ref 72, .int 15 0, .int 0 0, .ref 84, .int 19 0, .int 0 0, .ref 96, .int 21 0, .int 0 0, .ref 103, .int 25 0, .int 0 0, .ref 110, .int 37 0, .int 0 0, .ref 126, .int 39 0, .int 0 0, .ref 133, .int 43 0, .int 0 0, .ref 140, .int 49 0, .int 0 0, .ref 147, .int 61 0, .int 0 0, .ref 154, .int 69 0, .int 0 0, .ref 161, .int 88 0, .int 0 0, .ref 168, .int 93 0, .int 0 0, .ref 175, .int 156 0, .int 0 0, .ref 277, .int 160 0, .int 0 0, .ref 284, .int 166 0, .int 0 0, .ref 305, .int 175 0, .int 0 0, .ref 325, .int 186 0, .int 0 0, .ref 347] }
noncomputable def q386 (_ : Params) : Obj := { cls := .type "tuple", data := .seq #[] }
noncomputable def q387 (_ : Params) : Obj := { cls := .type "builtin_function_or_method", data := .fields #[.builtin "type.__prepare__", .type "type"] }
noncomputable def q388 (P : Params) : Obj := { cls := .type "dict", data := .dict #[de P "__module__" 666 (.str "gluepage.nodes" 562), de P "__qualname__" 668 (.str "Kern" 667), de P "__firstlineno__" 670 (.int 175 669), de P "kind" 671 (.int 5 569), de P "__init__" 680 (.ref 333), de P "__static_attributes__" 683 (.ref 334)] 6 }
noncomputable def q389 (_ : Params) : Obj := { cls := .type "tuple", data := .seq #[] }
noncomputable def q390 (_ : Params) : Obj := { cls := .none, data := .fields #[.int 178 0, .int 4 0, .ref 332] }
noncomputable def q391 (_ : Params) : Obj := { cls := .type "code", data := .fields #[.str "Kern" 661, .str "Kern" 662, .str "/claim/cut.py" 663, .int 175 0, .int 0 0, .int 0 0, .int 0 0, .int 0 0, .ref 323, .bool false, .int 181 0, .ref 324, .none, .none, .none, .none, .int 664 0, .int 175 0, .str "/claim/cut.py" 665] }
noncomputable def q392 (_ : Params) : Obj := { cls := .type "frame", slots := #[some (.ref 325), some (.ref 3), some (.ref 322), none, some (.str "gluepage.nodes" 562), none, some (.ref 0)] }
noncomputable def q393 (_ : Params) : Obj := { cls := .type "tuple", data := .seq #[] }
noncomputable def q394 (_ : Params) : Obj := { cls := .none, data := .fields #[] }
noncomputable def q395 (_ : Params) : Obj := { cls := .type "tuple", data := .seq #[.str "self" 675, .str "width" 676, .str "sort" 677] }
noncomputable def q396 (_ : Params) : Obj := { cls := .type "tuple", data := .seq #[] }
noncomputable def q397 (_ : Params) : Obj := f0 (memb 34 1) "__init__" "Kern.__init__"
noncomputable def q398 (_ : Params) : Obj := { cls := .type "code", data := .fields #[.str "__init__" 672, .str "Kern.__init__" 673, .str "/claim/cut.py" 674, .int 178 0, .int 3 0, .int 0 0, .int 0 0, .int 3 0, .ref 327, .bool true, .int 181 0, .ref 328, .none, .ref 329, .ref 330, .ref 331, .int 678 0, .int 178 0, .str "/claim/cut.py" 679] }
noncomputable def q399 (_ : Params) : Obj := fo (memb 34 1) "__init__" "Kern.__init__" (.none) (.none) (.str "gluepage.nodes" 562) (.ref 332)
noncomputable def q400 (_ : Params) : Obj := { cls := .type "tuple", data := .seq #[.str "sort" 681, .str "width" 682] }
noncomputable def q401 (P : Params) : Obj := { cls := .type "dict", data := .dict #[de P "__module__" 666 (.str "gluepage.nodes" 562), de P "__firstlineno__" 670 (.int 175 669), de P "kind" 671 (.int 5 569), de P "__init__" 680 (.ref 333), de P "__static_attributes__" 683 (.ref 334), de P "__dict__" 685 (.ref 337), de P "__weakref__" 687 (.ref 338), de P "__doc__" 688 (.none)] 4 }
noncomputable def q402 (_ : Params) : Obj := { cls := .type "type", data := .cls { name := "Kern", bases := [.type "object"], mro := [.ref 336, .type "object"], ns := 335, qualname := "Kern" }, slots := #[none, none, some (.str "Kern" 659), some (.str "Kern" 667), some (.builtin "object.__new__"), some (.bool true)] }
noncomputable def q403 (_ : Params) : Obj := { cls := .type "getset_descriptor", data := .fields #[.str "__dict__" 684, .ref 336, .builtin "function.__dict__", .builtin "function.__dict__#set"] }
noncomputable def q404 (_ : Params) : Obj := { cls := .type "getset_descriptor", data := .fields #[.str "__weakref__" 686, .ref 336, .builtin "ExceptionGroup.__weakref__", .none] }
noncomputable def q405 (_ : Params) : Obj := { cls := .type "super", data := .fields #[.ref 336, .ref 336, .ref 336] }
noncomputable def q406 (_ : Params) : Obj := { cls := .type "builtin_function_or_method", data := .fields #[.builtin "object.__init_subclass__", .ref 336] }
noncomputable def q407 (_ : Params) : Obj := { cls := .type "tuple", data := .seq #[.int 0 693, .int 1 694, .int 2 695, .int 3 696, .int 5 697, .int 6 698, .int 7 699, .int 11 700] }
noncomputable def q408 (_ : Params) : Obj := { cls := .type "tuple", data := .seq #[] }
noncomputable def q409 (_ : Params) : Obj := { cls := .none, data := .fields #[] }
noncomputable def q410 (_ : Params) : Obj := { cls := .type "tuple", data := .seq #[.str "font" 707, .str "left" 708, .str "right" 709, .str "place" 710, .str "program" 711, .str "going" 712, .str "skip" 713, .str "following" 714, .str "op" 715, .str "rest" 716] }
noncomputable def q411 (_ : Params) : Obj := { cls := .type "tuple", data := .seq #[] }
noncomputable def q412 (_ : Params) : Obj := f0 (stm 38) "look" "look"
noncomputable def q413 (_ : Params) : Obj := { cls := .type "code", data := .fields #[.str "look" 704, .str "look" 705, .str "/claim/cut.py" 706, .int 186 0, .int 3 0, .int 0 0, .int 0 0, .int 3 0, .ref 342, .bool true, .int 181 0, .ref 343, .none, .ref 344, .ref 345, .ref 346, .int 717 0, .int 186 0, .str "/claim/cut.py" 718] }
noncomputable def q414 (_ : Params) : Obj := fo (stm 38) "look" "look" (.none) (.none) (.str "gluepage.ligkern" 691) (.ref 347)
noncomputable def q415 (P : Params) : Obj := { cls := .type "dict", data := .dict #[de P "__name__" 165 (.str "gluepage.ligkern" 691), de P "__doc__" 166 (.none), de P "__package__" 167 (.none), de P "__loader__" 168 (.builtin "__main__.__loader__#opaque"), de P "__spec__" 169 (.none), de P "__annotations__" 170 (.ref 6), de P "__builtins__" 171 (.ref 4), de P "__file__" 173 (.str "/claim/cut.py" 172), de P "__cached__" 174 (.none), de P "_wall" 193 (.ref 21), de P "PageError" 223 (.ref 39), de P "BadArgument" 239 (.ref 52), de P "Overflow" 255 (.ref 64), de P "BadFont" 271 (.ref 76), de P "TooMuch" 287 (.ref 88), de P "MAX_DIMEN" 295 (.int 1073741823 294), de P "is_whole" 304 (.ref 97), de P "check_whole" 311 (.ref 104), de P "check_dimen" 318 (.ref 111), de P "EDGE" 322 (.int 256 321), de P "MOST_FONTS" 324 (.int 255 323), de P "MOST_PARAMS" 326 (.int 64 325), de P "MOST_SIZE" 332 (.int 134217727 331), de P "PLAIN_SORT" 337 (.int 0 333), de P "PROGRAM_SORT" 338 (.int 1 334), de P "LARGER_SORT" 339 (.int 2 335), de P "PIECES_SORT" 340 (.int 3 336), de P "STOP_SKIP" 344 (.int 128 341), de P "KERN_OP" 345 (.int 128 342), de P "LEAD" 346 (.int 255 343), de P "NO_CHARACTER" 353 (.ref 120), de P "is_size" 360 (.ref 127), de P "check_sizes" 368 (.ref 134), de P "check_pieces" 378 (.ref 141), de P "check_chars" 390 (.ref 148), de P "check_larger" 400 (.ref 155), de P "check_program" 418 (.ref 162), de P "left_start" 429 (.ref 169), de P "Font" 561 (.ref 259), de P "CHAR" 572 (.int 0 564), de P "LIGATURE" 573 (.int 1 565), de P "HBOX" 574 (.int 2 566), de P "VBOX" 575 (.int 3 567), de P "RULE" 576 (.int 4 568), de P "KERN" 577 (.int 5 569), de P "GLUE" 578 (.int 6 570), de P "PENALTY" 579 (.int 7 571), de P "FONT_KERN" 584 (.int 0 580), de P "EXPLICIT" 585 (.int 1 581), de P "ACCENT_KERN" 586 (.int 2 582), de P "MU_KERN" 587 (.int 3 583), de P "check_code" 594 (.ref 278), de P "Char" 626 (.ref 295), de P "Ligature" 658 (.ref 315), de P "Kern" 690 (.ref 336), de P "KNOWN_OPS" 701 (.ref 341), de P "STEPS" 703 (.int 20 702), de P "look" 719 (.ref 348), de P "Word" 753 (.ref 363), de P "leave" 763 (.ref 374), de P "pass_on" 770 (.ref 381), de P "put_between" 786 (.ref 388), de P "word_nodes" 801 (.ref 395), de P "run" 815 (.ref 403)] 64 }
noncomputable def q416 (_ : Params) : Obj := { cls := .none, data := .fields #[.int 1 0, .int 0 0, .ref 20, .int 5 0, .int 0 0, .ref 27, .int 9 0, .int 0 0, .ref 48, .int 11 0, .int 0 0, .ref 60, .int 13 0, .int 0 0, .ref 72, .int 15 0, .int 0 0, .ref 84, .int 19 0, .int 0 0, .ref 96, .int 21 0, .int 0 0, .ref 103, .int 25 0, .int 0 0, .ref 110, .int 37 0, .int 0 0, .ref 126, .int 39 0, .int 0 0, .ref 133, .int 43 0, .int 0 0, .ref 140, .int 49 0, .int 0 0, .ref 147, .int 61 0, .int 0 0, .ref 154, .int 69 0, .int 0 0, .ref 161, .int 88 0, .int 0 0, .ref 168, .int 93 0, .int 0 0, .ref 175, .int 156 0, .int 0 0, .ref 277, .int 160 0, .int 0 0, .ref 284, .int 166 0, .int 0 0, .ref 305, .int 175 0, .int 0 0, .ref 325, .int 186 0, .int 0 0, .ref 347, .int 203 0, .int 0 0, .ref 354, .int 214 0, .int 0 0, .ref 373, .int 223 0, .int 0 0, .ref 380, .int 229 0, .int 0 0, .ref 387, .int 249 0, .int 0 0, .ref 394, .int 269 0, .int 0 0, .ref 402] }
noncomputable def q417 (_ : Params) : Obj := { cls := .type "tuple", data := .seq #[] }
noncomputable def q418 (_ : Params) : Obj := { cls := .type "builtin_function_or_method", data := .fields #[.builtin "type.__prepare__", .type "type"] }
noncomputable def q419 (P : Params) : Obj := { cls := .type "dict", data := .dict #[de P "__module__" 727 (.str "gluepage.ligkern" 691), de P "__qualname__" 729 (.str "Word" 728), de P "__firstlineno__" 731 (.int 203 730), de P "__init__" 737 (.ref 360), de P "__static_attributes__" 746 (.ref 361)] 5 }
noncomputable def q420 (_ : Params) : Obj := { cls := .type "tuple", data := .seq #[] }
noncomputable def q421 (_ : Params) : Obj := { cls := .none, data := .fields #[.int 205 0, .int 4 0, .ref 359] }
noncomputable def q422 (_ : Params) : Obj := { cls := .type "code", data := .fields #[.str "Word" 722, .str "Word" 723, .str "/claim/cut.py" 724, .int 203 0, .int 0 0, .int 0 0, .int 0 0, .int 0 0, .ref 352, .bool false, .int 181 0, .ref 353, .none, .none, .none, .none, .int 725 0, .int 203 0, .str "/claim/cut.py" 726] }
noncomputable def q423 (_ : Params) : Obj := { cls := .type "frame", slots := #[some (.ref 354), some (.ref 3), some (.ref 351), none, some (.str "gluepage.ligkern" 691), none, some (.ref 0)] }
noncomputable def q424 (_ : Params) : Obj := { cls := .type "tuple", data := .seq #[] }
noncomputable def q425 (_ : Params) : Obj := { cls := .none, data := .fields #[] }
noncomputable def q426 (_ : Params) : Obj := f0 (memb 39 0) "__init__" "Word.__init__"
noncomputable def q427 (_ : Params) : Obj := { cls := .type "code", data := .fields #[.str "__init__" 732, .str "Word.__init__" 733, .str "/claim/cut.py" 734, .int 205 0, .int 5 0, .int 0 0, .int 0 0, .int 3 0, .ref 356, .bool true, .int 181 0, .ref 357, .none, .none, .none, .ref 358, .int 735 0, .int 205 0, .str "/claim/cut.py" 736] }
noncomputable def q428 (_ : Params) : Obj := fo (memb 39 0) "__init__" "Word.__init__" (.none) (.none) (.str "gluepage.ligkern" 691) (.ref 359)
noncomputable def q429 (_ : Params) : Obj := { cls := .type "tuple", data := .seq #[.str "edge" 738, .str "font" 739, .str "found" 740, .str "hit_left" 741, .str "hit_right" 742, .str "is_going" 743, .str "now" 744, .str "waiting" 745] }
noncomputable def q430 (P : Params) : Obj := { cls := .type "dict", data := .dict #[de P "__module__" 727 (.str "gluepage.ligkern" 691), de P "__firstlineno__" 731 (.int 203 730), de P "__init__" 737 (.ref 360), de P "__static_attributes__" 746 (.ref 361), de P "__dict__" 748 (.ref 364), de P "__weakref__" 750 (.ref 365), de P "__doc__" 751 (.none)] 4 }
noncomputable def q431 (_ : Params) : Obj := { cls := .type "type", data := .cls { name := "Word", bases := [.type "object"], mro := [.ref 363, .type "object"], ns := 362, qualname := "Word" }, slots := #[none, none, some (.str "Word" 720), some (.str "Word" 728), some (.builtin "object.__new__"), some (.bool true)] }
noncomputable def q432 (_ : Params) : Obj := { cls := .type "getset_descriptor", data := .fields #[.str "__dict__" 747, .ref 363, .builtin "function.__dict__", .builtin "function.__dict__#set"] }
noncomputable def q433 (_ : Params) : Obj := { cls := .type "getset_descriptor", data := .fields #[.str "__weakref__" 749, .ref 363, .builtin "ExceptionGroup.__weakref__", .none] }
noncomputable def q434 (_ : Params) : Obj := { cls := .type "super", data := .fields #[.ref 363, .ref 363, .ref 363] }
noncomputable def q435 (_ : Params) : Obj := { cls := .type "builtin_function_or_method", data := .fields #[.builtin "object.__init_subclass__", .ref 363] }
noncomputable def q436 (_ : Params) : Obj := { cls := .type "tuple", data := .seq #[] }
noncomputable def q437 (_ : Params) : Obj := { cls := .none, data := .fields #[] }
noncomputable def q438 (_ : Params) : Obj := { cls := .type "tuple", data := .seq #[.str "word" 757, .str "code" 758, .str "parts" 759, .str "is_made" 760] }
noncomputable def q439 (_ : Params) : Obj := { cls := .type "tuple", data := .seq #[] }
noncomputable def q440 (_ : Params) : Obj := f0 (stm 40) "leave" "leave"
noncomputable def q441 (_ : Params) : Obj := { cls := .type "code", data := .fields #[.str "leave" 754, .str "leave" 755, .str "/claim/cut.py" 756, .int 214 0, .int 1 0, .int 0 0, .int 0 0, .int 3 0, .ref 368, .bool true, .int 181 0, .ref 369, .none, .ref 370, .ref 371, .ref 372, .int 761 0, .int 214 0, .str "/claim/cut.py" 762] }
noncomputable def q442 (_ : Params) : Obj := fo (stm 40) "leave" "leave" (.none) (.none) (.str "gluepage.ligkern" 691) (.ref 373)
noncomputable def q443 (_ : Params) : Obj := { cls := .type "tuple", data := .seq #[] }
noncomputable def q444 (_ : Params) : Obj := { cls := .none, data := .fields #[] }
noncomputable def q445 (_ : Params) : Obj := { cls := .type "tuple", data := .seq #[.str "word" 767] }
noncomputable def q446 (_ : Params) : Obj := { cls := .type "tuple", data := .seq #[] }
noncomputable def q447 (_ : Params) : Obj := f0 (stm 41) "pass_on" "pass_on"
noncomputable def q448 (_ : Params) : Obj := { cls := .type "code", data := .fields #[.str "pass_on" 764, .str "pass_on" 765, .str "/claim/cut.py" 766, .int 223 0, .int 1 0, .int 0 0, .int 0 0, .int 3 0, .ref 375, .bool true, .int 181 0, .ref 376, .none, .ref 377, .ref 378, .ref 379, .int 768 0, .int 223 0, .str "/claim/cut.py" 769] }
noncomputable def q449 (_ : Params) : Obj := fo (stm 41) "pass_on" "pass_on" (.none) (.none) (.str "gluepage.ligkern" 691) (.ref 380)
noncomputable def q450 (_ : Params) : Obj := { cls := .type "tuple", data := .seq #[] }
noncomputable def q451 (_ : Params) : Obj := { cls := .none, data := .fields #[] }
noncomputable def q452 (_ : Params) : Obj := { cls := .type "tuple", data := .seq #[.str "word" 774, .str "op" 775, .str "code" 776, .str "now" 777, .str "keeps_left" 778, .str "keeps_right" 779, .str "parts" 780, .str "taken" 781, .str "made" 782, .str "turn" 783] }
noncomputable def q453 (_ : Params) : Obj := { cls := .type "tuple", data := .seq #[] }
noncomputable def q454 (_ : Params) : Obj := f0 (stm 42) "put_between" "put_between"
noncomputable def q455 (_ : Params) : Obj := { cls := .type "code", data := .fields #[.str "put_between" 771, .str "put_between" 772, .str "/claim/cut.py" 773, .int 229 0, .int 3 0, .int 0 0, .int 0 0, .int 3 0, .ref 382, .bool true, .int 181 0, .ref 383, .none, .ref 384, .ref 385, .ref 386, .int 784 0, .int 229 0, .str "/claim/cut.py" 785] }
noncomputable def q456 (_ : Params) : Obj := fo (stm 42) "put_between" "put_between" (.none) (.none) (.str "gluepage.ligkern" 691) (.ref 387)
noncomputable def q457 (_ : Params) : Obj := { cls := .type "tuple", data := .seq #[] }
noncomputable def q458 (_ : Params) : Obj := { cls := .none, data := .fields #[] }
noncomputable def q459 (_ : Params) : Obj := { cls := .type "tuple", data := .seq #[.str "font" 790, .str "codes" 791, .str "left_edge" 792, .str "edge" 793, .str "word" 794, .str "steps" 795, .str "left" 796, .str "right" 797, .str "told" 798] }
noncomputable def q460 (_ : Params) : Obj := { cls := .type "tuple", data := .seq #[] }
noncomputable def q461 (_ : Params) : Obj := f0 (stm 43) "word_nodes" "word_nodes"
noncomputable def q462 (_ : Params) : Obj := { cls := .type "code", data := .fields #[.str "word_nodes" 787, .str "word_nodes" 788, .str "/claim/cut.py" 789, .int 249 0, .int 4 0, .int 0 0, .int 0 0, .int 3 0, .ref 389, .bool true, .int 181 0, .ref 390, .none, .ref 391, .ref 392, .ref 393, .int 799 0, .int 249 0, .str "/claim/cut.py" 800] }
noncomputable def q463 (_ : Params) : Obj := fo (stm 43) "word_nodes" "word_nodes" (.none) (.none) (.str "gluepage.ligkern" 691) (.ref 394)
noncomputable def q464 (_ : Params) : Obj := { cls := .type "tuple", data := .seq #[.bool true, .bool true] }
noncomputable def q465 (_ : Params) : Obj := { cls := .type "tuple", data := .seq #[] }
noncomputable def q466 (_ : Params) : Obj := { cls := .none, data := .fields #[] }
noncomputable def q467 (_ : Params) : Obj := { cls := .type "tuple", data := .seq #[.str "font" 805, .str "codes" 806, .str "left_edge" 807, .str "right_edge" 808, .str "code" 809, .str "found" 810, .str "piece" 811, .str "has_left" 812] }
noncomputable def q468 (_ : Params) : Obj := { cls := .type "tuple", data := .seq #[] }
noncomputable def q469 (_ : Params) : Obj := f0 (stm 44) "run" "run"
noncomputable def q470 (_ : Params) : Obj := { cls := .type "code", data := .fields #[.str "run" 802, .str "run" 803, .str "/claim/cut.py" 804, .int 269 0, .int 4 0, .int 0 0, .int 0 0, .int 3 0, .ref 397, .bool true, .int 181 0, .ref 398, .none, .ref 399, .ref 400, .ref 401, .int 813 0, .int 269 0, .str "/claim/cut.py" 814] }
noncomputable def q471 (_ : Params) : Obj := fo (stm 44) "run" "run" (.ref 396) (.none) (.str "gluepage.ligkern" 691) (.ref 402)
noncomputable def tA (P : Params) : BT := .node (boot_o_0 P) (.node (boot_o_1 P) (.node (q79 P) (.node (boot_o_7 P) (.node (q51 P) (.node (q67 P) .nil .nil) (.node (q86 P) .nil .nil)) (.node (q59 P) (.node (q81 P) .nil .nil) .nil)) (.node (q43 P) (.node (q55 P) (.node (q71 P) .nil .nil) (.node (q90 P) .nil .nil)) (.node (q63 P) (.node (q82 P) .nil .nil) .nil))) (.node (boot_o_5 P) (.node (boot_o_9 P) (.node (q53 P) (.node (q69 P) .nil .nil) (.node (q88 P) .nil .nil)) (.node (q61 P) (.node (q77 P) .nil .nil) .nil)) (.node (q45 P) (.node (q57 P) (.node (q73 P) .nil .nil) (.node (q92 P) .nil .nil)) (.node (q65 P) (.node (q84 P) .nil .nil) .nil)))) (.node (boot_o_2 P) (.node (boot_o_4 P) (.node (boot_o_8 P) (.node (q52 P) (.node (q68 P) .nil .nil) (.node (q87 P) .nil .nil)) (.node (q60 P) (.node (q76 P) .nil .nil) .nil)) (.node (q80 P) (.node (q56 P) (.node (q72 P) .nil .nil) (.node (q91 P) .nil .nil)) (.node (q64 P) (.node (q83 P) .nil .nil) .nil))) (.node (boot_o_6 P) (.node (boot_o_10 P) (.node (q54 P) (.node (q70 P) .nil .nil) (.node (q89 P) .nil .nil)) (.node (q62 P) (.node (q78 P) .nil .nil) .nil)) (.node (q46 P) (.node (q58 P) (.node (q74 P) .nil .nil) (.node (q93 P) .nil .nil)) (.node (q66 P) (.node (q85 P) .nil .nil) .nil))))
noncomputable def tB (P : Params) : BT := .node (boot_o_0 P) (.node (boot_o_1 P) (.node (q109 P) (.node (boot_o_7 P) (.node (q51 P) (.node (q67 P) (.node (q105 P) .nil .nil) .nil) (.node (q86 P) .nil .nil)) (.node (q59 P) (.node (q111 P) (.node (q116 P) .nil .nil) .nil) (.node (q97 P) .nil .nil))) (.node (q43 P) (.node (q55 P) (.node (q71 P) (.node (q112 P) .nil .nil) .nil) (.node (q90 P) .nil .nil)) (.node (q63 P) (.node (q82 P) (.node (q120 P) .nil .nil) .nil) (.node (q101 P) .nil .nil)))) (.node (boot_o_5 P) (.node (boot_o_9 P) (.node (q53 P) (.node (q69 P) (.node (q107 P) .nil .nil) .nil) (.node (q88 P) .nil .nil)) (.node (q61 P) (.node (q77 P) (.node (q118 P) .nil .nil) .nil) (.node (q99 P) .nil .nil))) (.node (q45 P) (.node (q57 P) (.node (q73 P) (.node (q114 P) .nil .nil) .nil) (.node (q92 P) .nil .nil)) (.node (q65 P) (.node (q84 P) (.node (q122 P) .nil .nil) .nil) (.node (q103 P) .nil .nil))))) (.node (boot_o_2 P) (.node (boot_o_4 P) (.node (boot_o_8 P) (.node (q52 P) (.node (q68 P) (.node (q106 P) .nil .nil) .nil) (.node (q87 P) .nil .nil)) (.node (q60 P) (.node (q76 P) (.node (q117 P) .nil .nil) .nil) (.node (q98 P) .nil .nil))) (.node (q110 P) (.node (q56 P) (.node (q72 P) (.node (q113 P) .nil .nil) .nil) (.node (q91 P) .nil .nil)) (.node (q64 P) (.node (q83 P) (.node (q121 P) .nil .nil) .nil) (.node (q102 P) .nil .nil)))) (.node (boot_o_6 P) (.node (boot_o_10 P) (.node (q54 P) (.node (q70 P) (.node (q108 P) .nil .nil) .nil) (.node (q89 P) .nil .nil)) (.node (q62 P) (.node (q78 P) (.node (q119 P) .nil .nil) .nil) (.node (q100 P) .nil .nil))) (.node (q46 P) (.node (q58 P) (.node (q74 P) (.node (q115 P) .nil .nil) .nil) (.node (q93 P) .nil .nil)) (.node (q66 P) (.node (q85 P) (.node (q123 P) .nil .nil) .nil) (.node (q104 P) .nil .nil)))))
noncomputable def tC (P : Params) : BT := .node (boot_o_0 P) (.node (boot_o_1 P) (.node (q124 P) (.node (boot_o_7 P) (.node (q51 P) (.node (q67 P) (.node (q105 P) .nil .nil) (.node (q143 P) .nil .nil)) (.node (q86 P) (.node (q127 P) .nil .nil) (.node (q159 P) .nil .nil))) (.node (q59 P) (.node (q126 P) (.node (q116 P) .nil .nil) (.node (q151 P) .nil .nil)) (.node (q97 P) (.node (q135 P) .nil .nil) .nil))) (.node (q43 P) (.node (q55 P) (.node (q71 P) (.node (q112 P) .nil .nil) (.node (q147 P) .nil .nil)) (.node (q90 P) (.node (q131 P) .nil .nil) .nil)) (.node (q63 P) (.node (q82 P) (.node (q120 P) .nil .nil) (.node (q155 P) .nil .nil)) (.node (q101 P) (.node (q139 P) .nil .nil) .nil)))) (.node (boot_o_5 P) (.node (boot_o_9 P) (.node (q53 P) (.node (q69 P) (.node (q107 P) .nil .nil) (.node (q145 P) .nil .nil)) (.node (q88 P) (.node (q129 P) .nil .nil) .nil)) (.node (q61 P) (.node (q77 P) (.node (q118 P) .nil .nil) (.node (q153 P) .nil .nil)) (.node (q99 P) (.node (q137 P) .nil .nil) .nil))) (.node (q45 P) (.node (q57 P) (.node (q73 P) (.node (q114 P) .nil .nil) (.node (q149 P) .nil .nil)) (.node (q92 P) (.node (q133 P) .nil .nil) .nil)) (.node (q65 P) (.node (q84 P) (.node (q122 P) .nil .nil) (.node (q157 P) .nil .nil)) (.node (q103 P) (.node (q141 P) .nil .nil) .nil))))) (.node (boot_o_2 P) (.node (boot_o_4 P) (.node (boot_o_8 P) (.node (q52 P) (.node (q68 P) (.node (q106 P) .nil .nil) (.node (q144 P) .nil .nil)) (.node (q87 P) (.node (q128 P) .nil .nil) .nil)) (.node (q60 P) (.node (q76 P) (.node (q117 P) .nil .nil) (.node (q152 P) .nil .nil)) (.node (q98 P) (.node (q136 P) .nil .nil) .nil))) (.node (q125 P) (.node (q56 P) (.node (q72 P) (.node (q113 P) .nil .nil) (.node (q148 P) .nil .nil)) (.node (q91 P) (.node (q132 P) .nil .nil) .nil)) (.node (q64 P) (.node (q83 P) (.node (q121 P) .nil .nil) (.node (q156 P) .nil .nil)) (.node (q102 P) (.node (q140 P) .nil .nil) .nil)))) (.node (boot_o_6 P) (.node (boot_o_10 P) (.node (q54 P) (.node (q70 P) (.node (q108 P) .nil .nil) (.node (q146 P) .nil .nil)) (.node (q89 P) (.node (q130 P) .nil .nil) .nil)) (.node (q62 P) (.node (q78 P) (.node (q119 P) .nil .nil) (.node (q154 P) .nil .nil)) (.node (q100 P) (.node (q138 P) .nil .nil) .nil))) (.node (q46 P) (.node (q58 P) (.node (q74 P) (.node (q115 P) .nil .nil) (.node (q150 P) .nil .nil)) (.node (q93 P) (.node (q134 P) .nil .nil) .nil)) (.node (q66 P) (.node (q85 P) (.node (q123 P) .nil .nil) (.node (q158 P) .nil .nil)) (.node (q104 P) (.node (q142 P) .nil .nil) .nil)))))
noncomputable def tD (P : Params) : BT := .node (boot_o_0 P) (.node (boot_o_1 P) (.node (q160 P) (.node (boot_o_7 P) (.node (q51 P) (.node (q67 P) (.node (q105 P) (.node (q177 P) .nil .nil) .nil) (.node (q143 P) (.node (q209 P) .nil .nil) .nil)) (.node (q86 P) (.node (q127 P) (.node (q193 P) .nil .nil) .nil) (.node (q159 P) .nil .nil))) (.node (q59 P) (.node (q126 P) (.node (q116 P) (.node (q185 P) .nil .nil) .nil) (.node (q151 P) .nil .nil)) (.node (q97 P) (.node (q135 P) (.node (q201 P) .nil .nil) .nil) (.node (q169 P) .nil .nil)))) (.node (q43 P) (.node (q55 P) (.node (q71 P) (.node (q112 P) (.node (q181 P) .nil .nil) .nil) (.node (q147 P) .nil .nil)) (.node (q90 P) (.node (q131 P) (.node (q197 P) .nil .nil) .nil) (.node (q165 P) .nil .nil))) (.node (q63 P) (.node (q82 P) (.node (q120 P) (.node (q189 P) .nil .nil) .nil) (.node (q155 P) .nil .nil)) (.node (q101 P) (.node (q139 P) (.node (q205 P) .nil .nil) .nil) (.node (q173 P) .nil .nil))))) (.node (boot_o_5 P) (.node (boot_o_9 P) (.node (q53 P) (.node (q69 P) (.node (q107 P) (.node (q179 P) .nil .nil) .nil) (.node (q145 P) (.node (q211 P) .nil .nil) .nil)) (.node (q88 P) (.node (q129 P) (.node (q195 P) .nil .nil) .nil) (.node (q163 P) .nil .nil))) (.node (q61 P) (.node (q77 P) (.node (q118 P) (.node (q187 P) .nil .nil) .nil) (.node (q153 P) .nil .nil)) (.node (q99 P) (.node (q137 P) (.node (q203 P) .nil .nil) .nil) (.node (q171 P) .nil .nil)))) (.node (q45 P) (.node (q57 P) (.node (q73 P) (.node (q114 P) (.node (q183 P) .nil .nil) .nil) (.node (q149 P) .nil .nil)) (.node (q92 P) (.node (q133 P) (.node (q199 P) .nil .nil) .nil) (.node (q167 P) .nil .nil))) (.node (q65 P) (.node (q84 P) (.node (q122 P) (.node (q191 P) .nil .nil) .nil) (.node (q157 P) .nil .nil)) (.node (q103 P) (.node (q141 P) (.node (q207 P) .nil .nil) .nil) (.node (q175 P) .nil .nil)))))) (.node (boot_o_2 P) (.node (boot_o_4 P) (.node (boot_o_8 P) (.node (q52 P) (.node (q68 P) (.node (q106 P) (.node (q178 P) .nil .nil) .nil) (.node (q144 P) (.node (q210 P) .nil .nil) .nil)) (.node (q87 P) (.node (q128 P) (.node (q194 P) .nil .nil) .nil) (.node (q162 P) .nil .nil))) (.node (q60 P) (.node (q76 P) (.node (q117 P) (.node (q186 P) .nil .nil) .nil) (.node (q152 P) .nil .nil)) (.node (q98 P) (.node (q136 P) (.node (q202 P) .nil .nil) .nil) (.node (q170 P) .nil .nil)))) (.node (q161 P) (.node (q56 P) (.node (q72 P) (.node (q113 P) (.node (q182 P) .nil .nil) .nil) (.node (q148 P) .nil .nil)) (.node (q91 P) (.node (q132 P) (.node (q198 P) .nil .nil) .nil) (.node (q166 P) .nil .nil))) (.node (q64 P) (.node (q83 P) (.node (q121 P) (.node (q190 P) .nil .nil) .nil) (.node (q156 P) .nil .nil)) (.node (q102 P) (.node (q140 P) (.node (q206 P) .nil .nil) .nil) (.node (q174 P) .nil .nil))))) (.node (boot_o_6 P) (.node (boot_o_10 P) (.node (q54 P) (.node (q70 P) (.node (q108 P) (.node (q180 P) .nil .nil) .nil) (.node (q146 P) (.node (q212 P) .nil .nil) .nil)) (.node (q89 P) (.node (q130 P) (.node (q196 P) .nil .nil) .nil) (.node (q164 P) .nil .nil))) (.node (q62 P) (.node (q78 P) (.node (q119 P) (.node (q188 P) .nil .nil) .nil) (.node (q154 P) .nil .nil)) (.node (q100 P) (.node (q138 P) (.node (q204 P) .nil .nil) .nil) (.node (q172 P) .nil .nil)))) (.node (q46 P) (.node (q58 P) (.node (q74 P) (.node (q115 P) (.node (q184 P) .nil .nil) .nil) (.node (q150 P) .nil .nil)) (.node (q93 P) (.node (q134 P) (.node (q200 P) .nil .nil) .nil) (.node (q168 P) .nil .nil))) (.node (q66 P) (.node (q85 P) (.node (q123 P) (.node (q192 P) .nil .nil) .nil) (.node (q158 P) .nil .nil)) (.node (q104 P) (.node (q142 P) (.node (q208 P) .nil .nil) .nil) (.node (q176 P) .nil .nil))))))
noncomputable def tE (P : Params) : BT := .node (boot_o_0 P) (.node (boot_o_1 P) (.node (q224 P) (.node (boot_o_7 P) (.node (q51 P) (.node (q67 P) (.node (q105 P) (.node (q177 P) (.node (q311 P) .nil .nil) .nil) (.node (q247 P) .nil .nil)) (.node (q143 P) (.node (q209 P) .nil .nil) (.node (q279 P) .nil .nil))) (.node (q86 P) (.node (q127 P) (.node (q193 P) .nil .nil) (.node (q263 P) .nil .nil)) (.node (q159 P) (.node (q231 P) .nil .nil) (.node (q295 P) .nil .nil)))) (.node (q59 P) (.node (q126 P) (.node (q116 P) (.node (q185 P) (.node (q319 P) .nil .nil) .nil) (.node (q255 P) .nil .nil)) (.node (q151 P) (.node (q221 P) .nil .nil) (.node (q287 P) .nil .nil))) (.node (q97 P) (.node (q135 P) (.node (q201 P) .nil .nil) (.node (q271 P) .nil .nil)) (.node (q169 P) (.node (q239 P) .nil .nil) (.node (q303 P) .nil .nil))))) (.node (q43 P) (.node (q55 P) (.node (q71 P) (.node (q112 P) (.node (q181 P) (.node (q315 P) .nil .nil) .nil) (.node (q251 P) .nil .nil)) (.node (q147 P) (.node (q217 P) .nil .nil) (.node (q283 P) .nil .nil))) (.node (q90 P) (.node (q131 P) (.node (q197 P) .nil .nil) (.node (q267 P) .nil .nil)) (.node (q165 P) (.node (q235 P) .nil .nil) (.node (q299 P) .nil .nil)))) (.node (q63 P) (.node (q82 P) (.node (q120 P) (.node (q189 P) .nil .nil) (.node (q259 P) .nil .nil)) (.node (q155 P) (.node (q227 P) .nil .nil) (.node (q291 P) .nil .nil))) (.node (q101 P) (.node (q139 P) (.node (q205 P) .nil .nil) (.node (q275 P) .nil .nil)) (.node (q173 P) (.node (q243 P) .nil .nil) (.node (q307 P) .nil .nil)))))) (.node (boot_o_5 P) (.node (boot_o_9 P) (.node (q53 P) (.node (q69 P) (.node (q107 P) (.node (q179 P) (.node (q313 P) .nil .nil) .nil) (.node (q249 P) .nil .nil)) (.node (q145 P) (.node (q211 P) .nil .nil) (.node (q281 P) .nil .nil))) (.node (q88 P) (.node (q129 P) (.node (q195 P) .nil .nil) (.node (q265 P) .nil .nil)) (.node (q163 P) (.node (q233 P) .nil .nil) (.node (q297 P) .nil .nil)))) (.node (q61 P) (.node (q77 P) (.node (q118 P) (.node (q187 P) .nil .nil) (.node (q257 P) .nil .nil)) (.node (q153 P) (.node (q223 P) .nil .nil) (.node (q289 P) .nil .nil))) (.node (q99 P) (.node (q137 P) (.node (q203 P) .nil .nil) (.node (q273 P) .nil .nil)) (.node (q171 P) (.node (q241 P) .nil .nil) (.node (q305 P) .nil .nil))))) (.node (q45 P) (.node (q57 P) (.node (q73 P) (.node (q114 P) (.node (q183 P) (.node (q317 P) .nil .nil) .nil) (.node (q253 P) .nil .nil)) (.node (q149 P) (.node (q219 P) .nil .nil) (.node (q285 P) .nil .nil))) (.node (q92 P) (.node (q133 P) (.node (q199 P) .nil .nil) (.node (q269 P) .nil .nil)) (.node (q167 P) (.node (q237 P) .nil .nil) (.node (q301 P) .nil .nil)))) (.node (q65 P) (.node (q84 P) (.node (q122 P) (.node (q191 P) .nil .nil) (.node (q261 P) .nil .nil)) (.node (q157 P) (.node (q229 P) .nil .nil) (.node (q293 P) .nil .nil))) (.node (q103 P) (.node (q141 P) (.node (q207 P) .nil .nil) (.node (q277 P) .nil .nil)) (.node (q175 P) (.node (q245 P) .nil .nil) (.node (q309 P) .nil .nil))))))) (.node (boot_o_2 P) (.node (boot_o_4 P) (.node (boot_o_8 P) (.node (q52 P) (.node (q68 P) (.node (q106 P) (.node (q178 P) (.node (q312 P) .nil .nil) .nil) (.node (q248 P) .nil .nil)) (.node (q144 P) (.node (q210 P) .nil .nil) (.node (q280 P) .nil .nil))) (.node (q87 P) (.node (q128 P) (.node (q194 P) .nil .nil) (.node (q264 P) .nil .nil)) (.node (q162 P) (.node (q232 P) .nil .nil) (.node (q296 P) .nil .nil)))) (.node (q60 P) (.node (q76 P) (.node (q117 P) (.node (q186 P) .nil .nil) (.node (q256 P) .nil .nil)) (.node (q152 P) (.node (q222 P) .nil .nil) (.node (q288 P) .nil .nil))) (.node (q98 P) (.node (q136 P) (.node (q202 P) .nil .nil) (.node (q272 P) .nil .nil)) (.node (q170 P) (.node (q240 P) .nil .nil) (.node (q304 P) .nil .nil))))) (.node (q225 P) (.node (q56 P) (.node (q72 P) (.node (q113 P) (.node (q182 P) (.node (q316 P) .nil .nil) .nil) (.node (q252 P) .nil .nil)) (.node (q148 P) (.node (q218 P) .nil .nil) (.node (q284 P) .nil .nil))) (.node (q91 P) (.node (q132 P) (.node (q198 P) .nil .nil) (.node (q268 P) .nil .nil)) (.node (q166 P) (.node (q236 P) .nil .nil) (.node (q300 P) .nil .nil)))) (.node (q64 P) (.node (q83 P) (.node (q121 P) (.node (q190 P) .nil .nil) (.node (q260 P) .nil .nil)) (.node (q156 P) (.node (q228 P) .nil .nil) (.node (q292 P) .nil .nil))) (.node (q102 P) (.node (q140 P) (.node (q206 P) .nil .nil) (.node (q276 P) .nil .nil)) (.node (q174 P) (.node (q244 P) .nil .nil) (.node (q308 P) .nil .nil)))))) (.node (boot_o_6 P) (.node (boot_o_10 P) (.node (q54 P) (.node (q70 P) (.node (q108 P) (.node (q180 P) (.node (q314 P) .nil .nil) .nil) (.node (q250 P) .nil .nil)) (.node (q146 P) (.node (q212 P) .nil .nil) (.node (q282 P) .nil .nil))) (.node (q89 P) (.node (q130 P) (.node (q196 P) .nil .nil) (.node (q266 P) .nil .nil)) (.node (q164 P) (.node (q234 P) .nil .nil) (.node (q298 P) .nil .nil)))) (.node (q62 P) (.node (q78 P) (.node (q119 P) (.node (q188 P) .nil .nil) (.node (q258 P) .nil .nil)) (.node (q154 P) (.node (q226 P) .nil .nil) (.node (q290 P) .nil .nil))) (.node (q100 P) (.node (q138 P) (.node (q204 P) .nil .nil) (.node (q274 P) .nil .nil)) (.node (q172 P) (.node (q242 P) .nil .nil) (.node (q306 P) .nil .nil))))) (.node (q46 P) (.node (q58 P) (.node (q74 P) (.node (q115 P) (.node (q184 P) (.node (q318 P) .nil .nil) .nil) (.node (q254 P) .nil .nil)) (.node (q150 P) (.node (q220 P) .nil .nil) (.node (q286 P) .nil .nil))) (.node (q93 P) (.node (q134 P) (.node (q200 P) .nil .nil) (.node (q270 P) .nil .nil)) (.node (q168 P) (.node (q238 P) .nil .nil) (.node (q302 P) .nil .nil)))) (.node (q66 P) (.node (q85 P) (.node (q123 P) (.node (q192 P) .nil .nil) (.node (q262 P) .nil .nil)) (.node (q158 P) (.node (q230 P) .nil .nil) (.node (q294 P) .nil .nil))) (.node (q104 P) (.node (q142 P) (.node (q208 P) .nil .nil) (.node (q278 P) .nil .nil)) (.node (q176 P) (.node (q246 P) .nil .nil) (.node (q310 P) .nil .nil)))))))
noncomputable def tF (P : Params) : BT := .node (boot_o_0 P) (.node (boot_o_1 P) (.node (q320 P) (.node (boot_o_7 P) (.node (q51 P) (.node (q67 P) (.node (q105 P) (.node (q177 P) (.node (q311 P) .nil .nil) .nil) (.node (q247 P) .nil .nil)) (.node (q143 P) (.node (q209 P) .nil .nil) (.node (q279 P) .nil .nil))) (.node (q86 P) (.node (q127 P) (.node (q193 P) (.node (q329 P) .nil .nil) .nil) (.node (q263 P) .nil .nil)) (.node (q159 P) (.node (q231 P) .nil .nil) (.node (q295 P) .nil .nil)))) (.node (q59 P) (.node (q126 P) (.node (q116 P) (.node (q185 P) (.node (q319 P) .nil .nil) .nil) (.node (q255 P) .nil .nil)) (.node (q151 P) (.node (q221 P) .nil .nil) (.node (q287 P) .nil .nil))) (.node (q97 P) (.node (q135 P) (.node (q201 P) .nil .nil) (.node (q271 P) .nil .nil)) (.node (q169 P) (.node (q239 P) .nil .nil) (.node (q303 P) .nil .nil))))) (.node (q43 P) (.node (q55 P) (.node (q71 P) (.node (q112 P) (.node (q181 P) (.node (q315 P) .nil .nil) .nil) (.node (q251 P) .nil .nil)) (.node (q147 P) (.node (q217 P) .nil .nil) (.node (q283 P) .nil .nil))) (.node (q90 P) (.node (q131 P) (.node (q197 P) (.node (q333 P) .nil .nil) .nil) (.node (q267 P) .nil .nil)) (.node (q165 P) (.node (q235 P) .nil .nil) (.node (q299 P) .nil .nil)))) (.node (q63 P) (.node (q82 P) (.node (q120 P) (.node (q189 P) (.node (q325 P) .nil .nil) .nil) (.node (q259 P) .nil .nil)) (.node (q155 P) (.node (q227 P) .nil .nil) (.node (q291 P) .nil .nil))) (.node (q101 P) (.node (q139 P) (.node (q205 P) .nil .nil) (.node (q275 P) .nil .nil)) (.node (q173 P) (.node (q243 P) .nil .nil) (.node (q307 P) .nil .nil)))))) (.node (boot_o_5 P) (.node (boot_o_9 P) (.node (q53 P) (.node (q69 P) (.node (q107 P) (.node (q179 P) (.node (q313 P) .nil .nil) .nil) (.node (q249 P) .nil .nil)) (.node (q145 P) (.node (q211 P) .nil .nil) (.node (q281 P) .nil .nil))) (.node (q88 P) (.node (q129 P) (.node (q195 P) (.node (q331 P) .nil .nil) .nil) (.node (q265 P) .nil .nil)) (.node (q163 P) (.node (q233 P) .nil .nil) (.node (q297 P) .nil .nil)))) (.node (q61 P) (.node (q77 P) (.node (q118 P) (.node (q187 P) (.node (q323 P) .nil .nil) .nil) (.node (q257 P) .nil .nil)) (.node (q153 P) (.node (q223 P) .nil .nil) (.node (q289 P) .nil .nil))) (.node (q99 P) (.node (q137 P) (.node (q203 P) .nil .nil) (.node (q273 P) .nil .nil)) (.node (q171 P) (.node (q241 P) .nil .nil) (.node (q305 P) .nil .nil))))) (.node (q45 P) (.node (q57 P) (.node (q73 P) (.node (q114 P) (.node (q183 P) (.node (q317 P) .nil .nil) .nil) (.node (q253 P) .nil .nil)) (.node (q149 P) (.node (q219 P) .nil .nil) (.node (q285 P) .nil .nil))) (.node (q92 P) (.node (q133 P) (.node (q199 P) (.node (q335 P) .nil .nil) .nil) (.node (q269 P) .nil .nil)) (.node (q167 P) (.node (q237 P) .nil .nil) (.node (q301 P) .nil .nil)))) (.node (q65 P) (.node (q84 P) (.node (q122 P) (.node (q191 P) (.node (q327 P) .nil .nil) .nil) (.node (q261 P) .nil .nil)) (.node (q157 P) (.node (q229 P) .nil .nil) (.node (q293 P) .nil .nil))) (.node (q103 P) (.node (q141 P) (.node (q207 P) .nil .nil) (.node (q277 P) .nil .nil)) (.node (q175 P) (.node (q245 P) .nil .nil) (.node (q309 P) .nil .nil))))))) (.node (boot_o_2 P) (.node (boot_o_4 P) (.node (boot_o_8 P) (.node (q52 P) (.node (q68 P) (.node (q106 P) (.node (q178 P) (.node (q312 P) .nil .nil) .nil) (.node (q248 P) .nil .nil)) (.node (q144 P) (.node (q210 P) .nil .nil) (.node (q280 P) .nil .nil))) (.node (q87 P) (.node (q128 P) (.node (q194 P) (.node (q330 P) .nil .nil) .nil) (.node (q264 P) .nil .nil)) (.node (q162 P) (.node (q232 P) .nil .nil) (.node (q296 P) .nil .nil)))) (.node (q60 P) (.node (q76 P) (.node (q117 P) (.node (q186 P) (.node (q322 P) .nil .nil) .nil) (.node (q256 P) .nil .nil)) (.node (q152 P) (.node (q222 P) .nil .nil) (.node (q288 P) .nil .nil))) (.node (q98 P) (.node (q136 P) (.node (q202 P) .nil .nil) (.node (q272 P) .nil .nil)) (.node (q170 P) (.node (q240 P) .nil .nil) (.node (q304 P) .nil .nil))))) (.node (q321 P) (.node (q56 P) (.node (q72 P) (.node (q113 P) (.node (q182 P) (.node (q316 P) .nil .nil) .nil) (.node (q252 P) .nil .nil)) (.node (q148 P) (.node (q218 P) .nil .nil) (.node (q284 P) .nil .nil))) (.node (q91 P) (.node (q132 P) (.node (q198 P) (.node (q334 P) .nil .nil) .nil) (.node (q268 P) .nil .nil)) (.node (q166 P) (.node (q236 P) .nil .nil) (.node (q300 P) .nil .nil)))) (.node (q64 P) (.node (q83 P) (.node (q121 P) (.node (q190 P) (.node (q326 P) .nil .nil) .nil) (.node (q260 P) .nil .nil)) (.node (q156 P) (.node (q228 P) .nil .nil) (.node (q292 P) .nil .nil))) (.node (q102 P) (.node (q140 P) (.node (q206 P) .nil .nil) (.node (q276 P) .nil .nil)) (.node (q174 P) (.node (q244 P) .nil .nil) (.node (q308 P) .nil .nil)))))) (.node (boot_o_6 P) (.node (boot_o_10 P) (.node (q54 P) (.node (q70 P) (.node (q108 P) (.node (q180 P) (.node (q314 P) .nil .nil) .nil) (.node (q250 P) .nil .nil)) (.node (q146 P) (.node (q212 P) .nil .nil) (.node (q282 P) .nil .nil))) (.node (q89 P) (.node (q130 P) (.node (q196 P) (.node (q332 P) .nil .nil) .nil) (.node (q266 P) .nil .nil)) (.node (q164 P) (.node (q234 P) .nil .nil) (.node (q298 P) .nil .nil)))) (.node (q62 P) (.node (q78 P) (.node (q119 P) (.node (q188 P) (.node (q324 P) .nil .nil) .nil) (.node (q258 P) .nil .nil)) (.node (q154 P) (.node (q226 P) .nil .nil) (.node (q290 P) .nil .nil))) (.node (q100 P) (.node (q138 P) (.node (q204 P) .nil .nil) (.node (q274 P) .nil .nil)) (.node (q172 P) (.node (q242 P) .nil .nil) (.node (q306 P) .nil .nil))))) (.node (q46 P) (.node (q58 P) (.node (q74 P) (.node (q115 P) (.node (q184 P) (.node (q318 P) .nil .nil) .nil) (.node (q254 P) .nil .nil)) (.node (q150 P) (.node (q220 P) .nil .nil) (.node (q286 P) .nil .nil))) (.node (q93 P) (.node (q134 P) (.node (q200 P) (.node (q336 P) .nil .nil) .nil) (.node (q270 P) .nil .nil)) (.node (q168 P) (.node (q238 P) .nil .nil) (.node (q302 P) .nil .nil)))) (.node (q66 P) (.node (q85 P) (.node (q123 P) (.node (q192 P) (.node (q328 P) .nil .nil) .nil) (.node (q262 P) .nil .nil)) (.node (q158 P) (.node (q230 P) .nil .nil) (.node (q294 P) .nil .nil))) (.node (q104 P) (.node (q142 P) (.node (q208 P) .nil .nil) (.node (q278 P) .nil .nil)) (.node (q176 P) (.node (q246 P) .nil .nil) (.node (q310 P) .nil .nil)))))))
noncomputable def tG (P : Params) : BT := .node (boot_o_0 P) (.node (boot_o_1 P) (.node (q362 P) (.node (boot_o_7 P) (.node (q51 P) (.node (q67 P) (.node (q105 P) (.node (q177 P) (.node (q311 P) .nil .nil) .nil) (.node (q247 P) (.node (q383 P) .nil .nil) .nil)) (.node (q143 P) (.node (q209 P) (.node (q349 P) .nil .nil) .nil) (.node (q279 P) .nil .nil))) (.node (q86 P) (.node (q127 P) (.node (q193 P) (.node (q329 P) .nil .nil) .nil) (.node (q263 P) .nil .nil)) (.node (q159 P) (.node (q231 P) (.node (q367 P) .nil .nil) .nil) (.node (q295 P) .nil .nil)))) (.node (q59 P) (.node (q126 P) (.node (q116 P) (.node (q185 P) (.node (q319 P) .nil .nil) .nil) (.node (q255 P) .nil .nil)) (.node (q151 P) (.node (q221 P) (.node (q357 P) .nil .nil) .nil) (.node (q287 P) .nil .nil))) (.node (q97 P) (.node (q135 P) (.node (q201 P) (.node (q341 P) .nil .nil) .nil) (.node (q271 P) .nil .nil)) (.node (q169 P) (.node (q239 P) (.node (q375 P) .nil .nil) .nil) (.node (q303 P) .nil .nil))))) (.node (q43 P) (.node (q55 P) (.node (q71 P) (.node (q112 P) (.node (q181 P) (.node (q315 P) .nil .nil) .nil) (.node (q251 P) .nil .nil)) (.node (q147 P) (.node (q217 P) (.node (q353 P) .nil .nil) .nil) (.node (q283 P) .nil .nil))) (.node (q90 P) (.node (q131 P) (.node (q197 P) (.node (q333 P) .nil .nil) .nil) (.node (q267 P) .nil .nil)) (.node (q165 P) (.node (q235 P) (.node (q371 P) .nil .nil) .nil) (.node (q299 P) .nil .nil)))) (.node (q63 P) (.node (q82 P) (.node (q120 P) (.node (q189 P) (.node (q325 P) .nil .nil) .nil) (.node (q259 P) .nil .nil)) (.node (q155 P) (.node (q227 P) (.node (q361 P) .nil .nil) .nil) (.node (q291 P) .nil .nil))) (.node (q101 P) (.node (q139 P) (.node (q205 P) (.node (q345 P) .nil .nil) .nil) (.node (q275 P) .nil .nil)) (.node (q173 P) (.node (q243 P) (.node (q379 P) .nil .nil) .nil) (.node (q307 P) .nil .nil)))))) (.node (boot_o_5 P) (.node (boot_o_9 P) (.node (q53 P) (.node (q69 P) (.node (q107 P) (.node (q179 P) (.node (q313 P) .nil .nil) .nil) (.node (q249 P) .nil .nil)) (.node (q145 P) (.node (q211 P) (.node (q351 P) .nil .nil) .nil) (.node (q281 P) .nil .nil))) (.node (q88 P) (.node (q129 P) (.node (q195 P) (.node (q331 P) .nil .nil) .nil) (.node (q265 P) .nil .nil)) (.node (q163 P) (.node (q233 P) (.node (q369 P) .nil .nil) .nil) (.node (q297 P) .nil .nil)))) (.node (q61 P) (.node (q77 P) (.node (q118 P) (.node (q187 P) (.node (q323 P) .nil .nil) .nil) (.node (q257 P) .nil .nil)) (.node (q153 P) (.node (q223 P) (.node (q359 P) .nil .nil) .nil) (.node (q289 P) .nil .nil))) (.node (q99 P) (.node (q137 P) (.node (q203 P) (.node (q343 P) .nil .nil) .nil) (.node (q273 P) .nil .nil)) (.node (q171 P) (.node (q241 P) (.node (q377 P) .nil .nil) .nil) (.node (q305 P) .nil .nil))))) (.node (q45 P) (.node (q57 P) (.node (q73 P) (.node (q114 P) (.node (q183 P) (.node (q317 P) .nil .nil) .nil) (.node (q253 P) .nil .nil)) (.node (q149 P) (.node (q219 P) (.node (q355 P) .nil .nil) .nil) (.node (q285 P) .nil .nil))) (.node (q92 P) (.node (q133 P) (.node (q199 P) (.node (q335 P) .nil .nil) .nil) (.node (q269 P) .nil .nil)) (.node (q167 P) (.node (q237 P) (.node (q373 P) .nil .nil) .nil) (.node (q301 P) .nil .nil)))) (.node (q65 P) (.node (q84 P) (.node (q122 P) (.node (q191 P) (.node (q327 P) .nil .nil) .nil) (.node (q261 P) .nil .nil)) (.node (q157 P) (.node (q229 P) (.node (q365 P) .nil .nil) .nil) (.node (q293 P) .nil .nil))) (.node (q103 P) (.node (q141 P) (.node (q207 P) (.node (q347 P) .nil .nil) .nil) (.node (q277 P) .nil .nil)) (.node (q175 P) (.node (q245 P) (.node (q381 P) .nil .nil) .nil) (.node (q309 P) .nil .nil))))))) (.node (boot_o_2 P) (.node (boot_o_4 P) (.node (boot_o_8 P) (.node (q52 P) (.node (q68 P) (.node (q106 P) (.node (q178 P) (.node (q312 P) .nil .nil) .nil) (.node (q248 P) .nil .nil)) (.node (q144 P) (.node (q210 P) (.node (q350 P) .nil .nil) .nil) (.node (q280 P) .nil .nil))) (.node (q87 P) (.node (q128 P) (.node (q194 P) (.node (q330 P) .nil .nil) .nil) (.node (q264 P) .nil .nil)) (.node (q162 P) (.node (q232 P) (.node (q368 P) .nil .nil) .nil) (.node (q296 P) .nil .nil)))) (.node (q60 P) (.node (q76 P) (.node (q117 P) (.node (q186 P) (.node (q322 P) .nil .nil) .nil) (.node (q256 P) .nil .nil)) (.node (q152 P) (.node (q222 P) (.node (q358 P) .nil .nil) .nil) (.node (q288 P) .nil .nil))) (.node (q98 P) (.node (q136 P) (.node (q202 P) (.node (q342 P) .nil .nil) .nil) (.node (q272 P) .nil .nil)) (.node (q170 P) (.node (q240 P) (.node (q376 P) .nil .nil) .nil) (.node (q304 P) .nil .nil))))) (.node (q363 P) (.node (q56 P) (.node (q72 P) (.node (q113 P) (.node (q182 P) (.node (q316 P) .nil .nil) .nil) (.node (q252 P) .nil .nil)) (.node (q148 P) (.node (q218 P) (.node (q354 P) .nil .nil) .nil) (.node (q284 P) .nil .nil))) (.node (q91 P) (.node (q132 P) (.node (q198 P) (.node (q334 P) .nil .nil) .nil) (.node (q268 P) .nil .nil)) (.node (q166 P) (.node (q236 P) (.node (q372 P) .nil .nil) .nil) (.node (q300 P) .nil .nil)))) (.node (q64 P) (.node (q83 P) (.node (q121 P) (.node (q190 P) (.node (q326 P) .nil .nil) .nil) (.node (q260 P) .nil .nil)) (.node (q156 P) (.node (q228 P) (.node (q364 P) .nil .nil) .nil) (.node (q292 P) .nil .nil))) (.node (q102 P) (.node (q140 P) (.node (q206 P) (.node (q346 P) .nil .nil) .nil) (.node (q276 P) .nil .nil)) (.node (q174 P) (.node (q244 P) (.node (q380 P) .nil .nil) .nil) (.node (q308 P) .nil .nil)))))) (.node (boot_o_6 P) (.node (boot_o_10 P) (.node (q54 P) (.node (q70 P) (.node (q108 P) (.node (q180 P) (.node (q314 P) .nil .nil) .nil) (.node (q250 P) .nil .nil)) (.node (q146 P) (.node (q212 P) (.node (q352 P) .nil .nil) .nil) (.node (q282 P) .nil .nil))) (.node (q89 P) (.node (q130 P) (.node (q196 P) (.node (q332 P) .nil .nil) .nil) (.node (q266 P) .nil .nil)) (.node (q164 P) (.node (q234 P) (.node (q370 P) .nil .nil) .nil) (.node (q298 P) .nil .nil)))) (.node (q62 P) (.node (q78 P) (.node (q119 P) (.node (q188 P) (.node (q324 P) .nil .nil) .nil) (.node (q258 P) .nil .nil)) (.node (q154 P) (.node (q226 P) (.node (q360 P) .nil .nil) .nil) (.node (q290 P) .nil .nil))) (.node (q100 P) (.node (q138 P) (.node (q204 P) (.node (q344 P) .nil .nil) .nil) (.node (q274 P) .nil .nil)) (.node (q172 P) (.node (q242 P) (.node (q378 P) .nil .nil) .nil) (.node (q306 P) .nil .nil))))) (.node (q46 P) (.node (q58 P) (.node (q74 P) (.node (q115 P) (.node (q184 P) (.node (q318 P) .nil .nil) .nil) (.node (q254 P) .nil .nil)) (.node (q150 P) (.node (q220 P) (.node (q356 P) .nil .nil) .nil) (.node (q286 P) .nil .nil))) (.node (q93 P) (.node (q134 P) (.node (q200 P) (.node (q336 P) .nil .nil) .nil) (.node (q270 P) .nil .nil)) (.node (q168 P) (.node (q238 P) (.node (q374 P) .nil .nil) .nil) (.node (q302 P) .nil .nil)))) (.node (q66 P) (.node (q85 P) (.node (q123 P) (.node (q192 P) (.node (q328 P) .nil .nil) .nil) (.node (q262 P) .nil .nil)) (.node (q158 P) (.node (q230 P) (.node (q366 P) .nil .nil) .nil) (.node (q294 P) .nil .nil))) (.node (q104 P) (.node (q142 P) (.node (q208 P) (.node (q348 P) .nil .nil) .nil) (.node (q278 P) .nil .nil)) (.node (q176 P) (.node (q246 P) (.node (q382 P) .nil .nil) .nil) (.node (q310 P) .nil .nil)))))))
noncomputable def tH (P : Params) : BT := .node (boot_o_0 P) (.node (boot_o_1 P) (.node (q384 P) (.node (boot_o_7 P) (.node (q51 P) (.node (q67 P) (.node (q105 P) (.node (q177 P) (.node (q311 P) .nil .nil) .nil) (.node (q247 P) (.node (q383 P) .nil .nil) .nil)) (.node (q143 P) (.node (q209 P) (.node (q349 P) .nil .nil) .nil) (.node (q279 P) .nil .nil))) (.node (q86 P) (.node (q127 P) (.node (q193 P) (.node (q329 P) .nil .nil) .nil) (.node (q263 P) (.node (q401 P) .nil .nil) .nil)) (.node (q159 P) (.node (q231 P) (.node (q367 P) .nil .nil) .nil) (.node (q295 P) .nil .nil)))) (.node (q59 P) (.node (q126 P) (.node (q116 P) (.node (q185 P) (.node (q319 P) .nil .nil) .nil) (.node (q255 P) (.node (q393 P) .nil .nil) .nil)) (.node (q151 P) (.node (q221 P) (.node (q357 P) .nil .nil) .nil) (.node (q287 P) .nil .nil))) (.node (q97 P) (.node (q135 P) (.node (q201 P) (.node (q341 P) .nil .nil) .nil) (.node (q271 P) (.node (q409 P) .nil .nil) .nil)) (.node (q169 P) (.node (q239 P) (.node (q375 P) .nil .nil) .nil) (.node (q303 P) .nil .nil))))) (.node (q43 P) (.node (q55 P) (.node (q71 P) (.node (q112 P) (.node (q181 P) (.node (q315 P) .nil .nil) .nil) (.node (q251 P) (.node (q389 P) .nil .nil) .nil)) (.node (q147 P) (.node (q217 P) (.node (q353 P) .nil .nil) .nil) (.node (q283 P) .nil .nil))) (.node (q90 P) (.node (q131 P) (.node (q197 P) (.node (q333 P) .nil .nil) .nil) (.node (q267 P) (.node (q405 P) .nil .nil) .nil)) (.node (q165 P) (.node (q235 P) (.node (q371 P) .nil .nil) .nil) (.node (q299 P) .nil .nil)))) (.node (q63 P) (.node (q82 P) (.node (q120 P) (.node (q189 P) (.node (q325 P) .nil .nil) .nil) (.node (q259 P) (.node (q397 P) .nil .nil) .nil)) (.node (q155 P) (.node (q227 P) (.node (q361 P) .nil .nil) .nil) (.node (q291 P) .nil .nil))) (.node (q101 P) (.node (q139 P) (.node (q205 P) (.node (q345 P) .nil .nil) .nil) (.node (q275 P) (.node (q413 P) .nil .nil) .nil)) (.node (q173 P) (.node (q243 P) (.node (q379 P) .nil .nil) .nil) (.node (q307 P) .nil .nil)))))) (.node (boot_o_5 P) (.node (boot_o_9 P) (.node (q53 P) (.node (q69 P) (.node (q107 P) (.node (q179 P) (.node (q313 P) .nil .nil) .nil) (.node (q249 P) (.node (q387 P) .nil .nil) .nil)) (.node (q145 P) (.node (q211 P) (.node (q351 P) .nil .nil) .nil) (.node (q281 P) .nil .nil))) (.node (q88 P) (.node (q129 P) (.node (q195 P) (.node (q331 P) .nil .nil) .nil) (.node (q265 P) (.node (q403 P) .nil .nil) .nil)) (.node (q163 P) (.node (q233 P) (.node (q369 P) .nil .nil) .nil) (.node (q297 P) .nil .nil)))) (.node (q61 P) (.node (q77 P) (.node (q118 P) (.node (q187 P) (.node (q323 P) .nil .nil) .nil) (.node (q257 P) (.node (q395 P) .nil .nil) .nil)) (.node (q153 P) (.node (q223 P) (.node (q359 P) .nil .nil) .nil) (.node (q289 P) .nil .nil))) (.node (q99 P) (.node (q137 P) (.node (q203 P) (.node (q343 P) .nil .nil) .nil) (.node (q273 P) (.node (q411 P) .nil .nil) .nil)) (.node (q171 P) (.node (q241 P) (.node (q377 P) .nil .nil) .nil) (.node (q305 P) .nil .nil))))) (.node (q45 P) (.node (q57 P) (.node (q73 P) (.node (q114 P) (.node (q183 P) (.node (q317 P) .nil .nil) .nil) (.node (q253 P) (.node (q391 P) .nil .nil) .nil)) (.node (q149 P) (.node (q219 P) (.node (q355 P) .nil .nil) .nil) (.node (q285 P) .nil .nil))) (.node (q92 P) (.node (q133 P) (.node (q199 P) (.node (q335 P) .nil .nil) .nil) (.node (q269 P) (.node (q407 P) .nil .nil) .nil)) (.node (q167 P) (.node (q237 P) (.node (q373 P) .nil .nil) .nil) (.node (q301 P) .nil .nil)))) (.node (q65 P) (.node (q84 P) (.node (q122 P) (.node (q191 P) (.node (q327 P) .nil .nil) .nil) (.node (q261 P) (.node (q399 P) .nil .nil) .nil)) (.node (q157 P) (.node (q229 P) (.node (q365 P) .nil .nil) .nil) (.node (q293 P) .nil .nil))) (.node (q103 P) (.node (q141 P) (.node (q207 P) (.node (q347 P) .nil .nil) .nil) (.node (q277 P) .nil .nil)) (.node (q175 P) (.node (q245 P) (.node (q381 P) .nil .nil) .nil) (.node (q309 P) .nil .nil))))))) (.node (boot_o_2 P) (.node (boot_o_4 P) (.node (boot_o_8 P) (.node (q52 P) (.node (q68 P) (.node (q106 P) (.node (q178 P) (.node (q312 P) .nil .nil) .nil) (.node (q248 P) (.node (q386 P) .nil .nil) .nil)) (.node (q144 P) (.node (q210 P) (.node (q350 P) .nil .nil) .nil) (.node (q280 P) .nil .nil))) (.node (q87 P) (.node (q128 P) (.node (q194 P) (.node (q330 P) .nil .nil) .nil) (.node (q264 P) (.node (q402 P) .nil .nil) .nil)) (.node (q162 P) (.node (q232 P) (.node (q368 P) .nil .nil) .nil) (.node (q296 P) .nil .nil)))) (.node (q60 P) (.node (q76 P) (.node (q117 P) (.node (q186 P) (.node (q322 P) .nil .nil) .nil) (.node (q256 P) (.node (q394 P) .nil .nil) .nil)) (.node (q152 P) (.node (q222 P) (.node (q358 P) .nil .nil) .nil) (.node (q288 P) .nil .nil))) (.node (q98 P) (.node (q136 P) (.node (q202 P) (.node (q342 P) .nil .nil) .nil) (.node (q272 P) (.node (q410 P) .nil .nil) .nil)) (.node (q170 P) (.node (q240 P) (.node (q376 P) .nil .nil) .nil) (.node (q304 P) .nil .nil))))) (.node (q385 P) (.node (q56 P) (.node (q72 P) (.node (q113 P) (.node (q182 P) (.node (q316 P) .nil .nil) .nil) (.node (q252 P) (.node (q390 P) .nil .nil) .nil)) (.node (q148 P) (.node (q218 P) (.node (q354 P) .nil .nil) .nil) (.node (q284 P) .nil .nil))) (.node (q91 P) (.node (q132 P) (.node (q198 P) (.node (q334 P) .nil .nil) .nil) (.node (q268 P) (.node (q406 P) .nil .nil) .nil)) (.node (q166 P) (.node (q236 P) (.node (q372 P) .nil .nil) .nil) (.node (q300 P) .nil .nil)))) (.node (q64 P) (.node (q83 P) (.node (q121 P) (.node (q190 P) (.node (q326 P) .nil .nil) .nil) (.node (q260 P) (.node (q398 P) .nil .nil) .nil)) (.node (q156 P) (.node (q228 P) (.node (q364 P) .nil .nil) .nil) (.node (q292 P) .nil .nil))) (.node (q102 P) (.node (q140 P) (.node (q206 P) (.node (q346 P) .nil .nil) .nil) (.node (q276 P) (.node (q414 P) .nil .nil) .nil)) (.node (q174 P) (.node (q244 P) (.node (q380 P) .nil .nil) .nil) (.node (q308 P) .nil .nil)))))) (.node (boot_o_6 P) (.node (boot_o_10 P) (.node (q54 P) (.node (q70 P) (.node (q108 P) (.node (q180 P) (.node (q314 P) .nil .nil) .nil) (.node (q250 P) (.node (q388 P) .nil .nil) .nil)) (.node (q146 P) (.node (q212 P) (.node (q352 P) .nil .nil) .nil) (.node (q282 P) .nil .nil))) (.node (q89 P) (.node (q130 P) (.node (q196 P) (.node (q332 P) .nil .nil) .nil) (.node (q266 P) (.node (q404 P) .nil .nil) .nil)) (.node (q164 P) (.node (q234 P) (.node (q370 P) .nil .nil) .nil) (.node (q298 P) .nil .nil)))) (.node (q62 P) (.node (q78 P) (.node (q119 P) (.node (q188 P) (.node (q324 P) .nil .nil) .nil) (.node (q258 P) (.node (q396 P) .nil .nil) .nil)) (.node (q154 P) (.node (q226 P) (.node (q360 P) .nil .nil) .nil) (.node (q290 P) .nil .nil))) (.node (q100 P) (.node (q138 P) (.node (q204 P) (.node (q344 P) .nil .nil) .nil) (.node (q274 P) (.node (q412 P) .nil .nil) .nil)) (.node (q172 P) (.node (q242 P) (.node (q378 P) .nil .nil) .nil) (.node (q306 P) .nil .nil))))) (.node (q46 P) (.node (q58 P) (.node (q74 P) (.node (q115 P) (.node (q184 P) (.node (q318 P) .nil .nil) .nil) (.node (q254 P) (.node (q392 P) .nil .nil) .nil)) (.node (q150 P) (.node (q220 P) (.node (q356 P) .nil .nil) .nil) (.node (q286 P) .nil .nil))) (.node (q93 P) (.node (q134 P) (.node (q200 P) (.node (q336 P) .nil .nil) .nil) (.node (q270 P) (.node (q408 P) .nil .nil) .nil)) (.node (q168 P) (.node (q238 P) (.node (q374 P) .nil .nil) .nil) (.node (q302 P) .nil .nil)))) (.node (q66 P) (.node (q85 P) (.node (q123 P) (.node (q192 P) (.node (q328 P) .nil .nil) .nil) (.node (q262 P) (.node (q400 P) .nil .nil) .nil)) (.node (q158 P) (.node (q230 P) (.node (q366 P) .nil .nil) .nil) (.node (q294 P) .nil .nil))) (.node (q104 P) (.node (q142 P) (.node (q208 P) (.node (q348 P) .nil .nil) .nil) (.node (q278 P) .nil .nil)) (.node (q176 P) (.node (q246 P) (.node (q382 P) .nil .nil) .nil) (.node (q310 P) .nil .nil)))))))
noncomputable def tI (P : Params) : BT := .node (boot_o_0 P) (.node (boot_o_1 P) (.node (q415 P) (.node (boot_o_7 P) (.node (q51 P) (.node (q67 P) (.node (q105 P) (.node (q177 P) (.node (q311 P) .nil .nil) (.node (q451 P) .nil .nil)) (.node (q247 P) (.node (q383 P) .nil .nil) .nil)) (.node (q143 P) (.node (q209 P) (.node (q349 P) .nil .nil) .nil) (.node (q279 P) (.node (q419 P) .nil .nil) .nil))) (.node (q86 P) (.node (q127 P) (.node (q193 P) (.node (q329 P) .nil .nil) (.node (q467 P) .nil .nil)) (.node (q263 P) (.node (q401 P) .nil .nil) .nil)) (.node (q159 P) (.node (q231 P) (.node (q367 P) .nil .nil) .nil) (.node (q295 P) (.node (q435 P) .nil .nil) .nil)))) (.node (q59 P) (.node (q126 P) (.node (q116 P) (.node (q185 P) (.node (q319 P) .nil .nil) (.node (q459 P) .nil .nil)) (.node (q255 P) (.node (q393 P) .nil .nil) .nil)) (.node (q151 P) (.node (q221 P) (.node (q357 P) .nil .nil) .nil) (.node (q287 P) (.node (q427 P) .nil .nil) .nil))) (.node (q97 P) (.node (q135 P) (.node (q201 P) (.node (q341 P) .nil .nil) .nil) (.node (q271 P) (.node (q409 P) .nil .nil) .nil)) (.node (q169 P) (.node (q239 P) (.node (q375 P) .nil .nil) .nil) (.node (q303 P) (.node (q443 P) .nil .nil) .nil))))) (.node (q43 P) (.node (q55 P) (.node (q71 P) (.node (q112 P) (.node (q181 P) (.node (q315 P) .nil .nil) (.node (q455 P) .nil .nil)) (.node (q251 P) (.node (q389 P) .nil .nil) .nil)) (.node (q147 P) (.node (q217 P) (.node (q353 P) .nil .nil) .nil) (.node (q283 P) (.node (q423 P) .nil .nil) .nil))) (.node (q90 P) (.node (q131 P) (.node (q197 P) (.node (q333 P) .nil .nil) (.node (q471 P) .nil .nil)) (.node (q267 P) (.node (q405 P) .nil .nil) .nil)) (.node (q165 P) (.node (q235 P) (.node (q371 P) .nil .nil) .nil) (.node (q299 P) (.node (q439 P) .nil .nil) .nil)))) (.node (q63 P) (.node (q82 P) (.node (q120 P) (.node (q189 P) (.node (q325 P) .nil .nil) (.node (q463 P) .nil .nil)) (.node (q259 P) (.node (q397 P) .nil .nil) .nil)) (.node (q155 P) (.node (q227 P) (.node (q361 P) .nil .nil) .nil) (.node (q291 P) (.node (q431 P) .nil .nil) .nil))) (.node (q101 P) (.node (q139 P) (.node (q205 P) (.node (q345 P) .nil .nil) .nil) (.node (q275 P) (.node (q413 P) .nil .nil) .nil)) (.node (q173 P) (.node (q243 P) (.node (q379 P) .nil .nil) .nil) (.node (q307 P) (.node (q447 P) .nil .nil) .nil)))))) (.node (boot_o_5 P) (.node (boot_o_9 P) (.node (q53 P) (.node (q69 P) (.node (q107 P) (.node (q179 P) (.node (q313 P) .nil .nil) (.node (q453 P) .nil .nil)) (.node (q249 P) (.node (q387 P) .nil .nil) .nil)) (.node (q145 P) (.node (q211 P) (.node (q351 P) .nil .nil) .nil) (.node (q281 P) (.node (q421 P) .nil .nil) .nil))) (.node (q88 P) (.node (q129 P) (.node (q195 P) (.node (q331 P) .nil .nil) (.node (q469 P) .nil .nil)) (.node (q265 P) (.node (q403 P) .nil .nil) .nil)) (.node (q163 P) (.node (q233 P) (.node (q369 P) .nil .nil) .nil) (.node (q297 P) (.node (q437 P) .nil .nil) .nil)))) (.node (q61 P) (.node (q77 P) (.node (q118 P) (.node (q187 P) (.node (q323 P) .nil .nil) (.node (q461 P) .nil .nil)) (.node (q257 P) (.node (q395 P) .nil .nil) .nil)) (.node (q153 P) (.node (q223 P) (.node (q359 P) .nil .nil) .nil) (.node (q289 P) (.node (q429 P) .nil .nil) .nil))) (.node (q99 P) (.node (q137 P) (.node (q203 P) (.node (q343 P) .nil .nil) .nil) (.node (q273 P) (.node (q411 P) .nil .nil) .nil)) (.node (q171 P) (.node (q241 P) (.node (q377 P) .nil .nil) .nil) (.node (q305 P) (.node (q445 P) .nil .nil) .nil))))) (.node (q45 P) (.node (q57 P) (.node (q73 P) (.node (q114 P) (.node (q183 P) (.node (q317 P) .nil .nil) (.node (q457 P) .nil .nil)) (.node (q253 P) (.node (q391 P) .nil .nil) .nil)) (.node (q149 P) (.node (q219 P) (.node (q355 P) .nil .nil) .nil) (.node (q285 P) (.node (q425 P) .nil .nil) .nil))) (.node (q92 P) (.node (q133 P) (.node (q199 P) (.node (q335 P) .nil .nil) .nil) (.node (q269 P) (.node (q407 P) .nil .nil) .nil)) (.node (q167 P) (.node (q237 P) (.node (q373 P) .nil .nil) .nil) (.node (q301 P) (.node (q441 P) .nil .nil) .nil)))) (.node (q65 P) (.node (q84 P) (.node (q122 P) (.node (q191 P) (.node (q327 P) .nil .nil) (.node (q465 P) .nil .nil)) (.node (q261 P) (.node (q399 P) .nil .nil) .nil)) (.node (q157 P) (.node (q229 P) (.node (q365 P) .nil .nil) .nil) (.node (q293 P) (.node (q433 P) .nil .nil) .nil))) (.node (q103 P) (.node (q141 P) (.node (q207 P) (.node (q347 P) .nil .nil) .nil) (.node (q277 P) (.node (q417 P) .nil .nil) .nil)) (.node (q175 P) (.node (q245 P) (.node (q381 P) .nil .nil) .nil) (.node (q309 P) (.node (q449 P) .nil .nil) .nil))))))) (.node (boot_o_2 P) (.node (boot_o_4 P) (.node (boot_o_8 P) (.node (q52 P) (.node (q68 P) (.node (q106 P) (.node (q178 P) (.node (q312 P) .nil .nil) (.node (q452 P) .nil .nil)) (.node (q248 P) (.node (q386 P) .nil .nil) .nil)) (.node (q144 P) (.node (q210 P) (.node (q350 P) .nil .nil) .nil) (.node (q280 P) (.node (q420 P) .nil .nil) .nil))) (.node (q87 P) (.node (q128 P) (.node (q194 P) (.node (q330 P) .nil .nil) (.node (q468 P) .nil .nil)) (.node (q264 P) (.node (q402 P) .nil .nil) .nil)) (.node (q162 P) (.node (q232 P) (.node (q368 P) .nil .nil) .nil) (.node (q296 P) (.node (q436 P) .nil .nil) .nil)))) (.node (q60 P) (.node (q76 P) (.node (q117 P) (.node (q186 P) (.node (q322 P) .nil .nil) (.node (q460 P) .nil .nil)) (.node (q256 P) (.node (q394 P) .nil .nil) .nil)) (.node (q152 P) (.node (q222 P) (.node (q358 P) .nil .nil) .nil) (.node (q288 P) (.node (q428 P) .nil .nil) .nil))) (.node (q98 P) (.node (q136 P) (.node (q202 P) (.node (q342 P) .nil .nil) .nil) (.node (q272 P) (.node (q410 P) .nil .nil) .nil)) (.node (q170 P) (.node (q240 P) (.node (q376 P) .nil .nil) .nil) (.node (q304 P) (.node (q444 P) .nil .nil) .nil))))) (.node (q416 P) (.node (q56 P) (.node (q72 P) (.node (q113 P) (.node (q182 P) (.node (q316 P) .nil .nil) (.node (q456 P) .nil .nil)) (.node (q252 P) (.node (q390 P) .nil .nil) .nil)) (.node (q148 P) (.node (q218 P) (.node (q354 P) .nil .nil) .nil) (.node (q284 P) (.node (q424 P) .nil .nil) .nil))) (.node (q91 P) (.node (q132 P) (.node (q198 P) (.node (q334 P) .nil .nil) .nil) (.node (q268 P) (.node (q406 P) .nil .nil) .nil)) (.node (q166 P) (.node (q236 P) (.node (q372 P) .nil .nil) .nil) (.node (q300 P) (.node (q440 P) .nil .nil) .nil)))) (.node (q64 P) (.node (q83 P) (.node (q121 P) (.node (q190 P) (.node (q326 P) .nil .nil) (.node (q464 P) .nil .nil)) (.node (q260 P) (.node (q398 P) .nil .nil) .nil)) (.node (q156 P) (.node (q228 P) (.node (q364 P) .nil .nil) .nil) (.node (q292 P) (.node (q432 P) .nil .nil) .nil))) (.node (q102 P) (.node (q140 P) (.node (q206 P) (.node (q346 P) .nil .nil) .nil) (.node (q276 P) (.node (q414 P) .nil .nil) .nil)) (.node (q174 P) (.node (q244 P) (.node (q380 P) .nil .nil) .nil) (.node (q308 P) (.node (q448 P) .nil .nil) .nil)))))) (.node (boot_o_6 P) (.node (boot_o_10 P) (.node (q54 P) (.node (q70 P) (.node (q108 P) (.node (q180 P) (.node (q314 P) .nil .nil) (.node (q454 P) .nil .nil)) (.node (q250 P) (.node (q388 P) .nil .nil) .nil)) (.node (q146 P) (.node (q212 P) (.node (q352 P) .nil .nil) .nil) (.node (q282 P) (.node (q422 P) .nil .nil) .nil))) (.node (q89 P) (.node (q130 P) (.node (q196 P) (.node (q332 P) .nil .nil) (.node (q470 P) .nil .nil)) (.node (q266 P) (.node (q404 P) .nil .nil) .nil)) (.node (q164 P) (.node (q234 P) (.node (q370 P) .nil .nil) .nil) (.node (q298 P) (.node (q438 P) .nil .nil) .nil)))) (.node (q62 P) (.node (q78 P) (.node (q119 P) (.node (q188 P) (.node (q324 P) .nil .nil) (.node (q462 P) .nil .nil)) (.node (q258 P) (.node (q396 P) .nil .nil) .nil)) (.node (q154 P) (.node (q226 P) (.node (q360 P) .nil .nil) .nil) (.node (q290 P) (.node (q430 P) .nil .nil) .nil))) (.node (q100 P) (.node (q138 P) (.node (q204 P) (.node (q344 P) .nil .nil) .nil) (.node (q274 P) (.node (q412 P) .nil .nil) .nil)) (.node (q172 P) (.node (q242 P) (.node (q378 P) .nil .nil) .nil) (.node (q306 P) (.node (q446 P) .nil .nil) .nil))))) (.node (q46 P) (.node (q58 P) (.node (q74 P) (.node (q115 P) (.node (q184 P) (.node (q318 P) .nil .nil) (.node (q458 P) .nil .nil)) (.node (q254 P) (.node (q392 P) .nil .nil) .nil)) (.node (q150 P) (.node (q220 P) (.node (q356 P) .nil .nil) .nil) (.node (q286 P) (.node (q426 P) .nil .nil) .nil))) (.node (q93 P) (.node (q134 P) (.node (q200 P) (.node (q336 P) .nil .nil) .nil) (.node (q270 P) (.node (q408 P) .nil .nil) .nil)) (.node (q168 P) (.node (q238 P) (.node (q374 P) .nil .nil) .nil) (.node (q302 P) (.node (q442 P) .nil .nil) .nil)))) (.node (q66 P) (.node (q85 P) (.node (q123 P) (.node (q192 P) (.node (q328 P) .nil .nil) (.node (q466 P) .nil .nil)) (.node (q262 P) (.node (q400 P) .nil .nil) .nil)) (.node (q158 P) (.node (q230 P) (.node (q366 P) .nil .nil) .nil) (.node (q294 P) (.node (q434 P) .nil .nil) .nil))) (.node (q104 P) (.node (q142 P) (.node (q208 P) (.node (q348 P) .nil .nil) .nil) (.node (q278 P) (.node (q418 P) .nil .nil) .nil)) (.node (q176 P) (.node (q246 P) (.node (q382 P) .nil .nil) .nil) (.node (q310 P) (.node (q450 P) .nil .nil) .nil)))))))
noncomputable abbrev sT (t : BT) (n tk : Nat) (os : OsState) : SharedT := ⟨t, n, {}, #[], {}, tk, os⟩
abbrev sl (a n : Nat) : List Stmt := (bp.drop a).take n
abbrev RunP (w : World) (N : Nat) (s : SharedT) (a n : Nat) (p : Pos) (s' : SharedT) (p' : Pos) : Prop := PySem.W.Fast.tw10110043849684766642 PySem.W.Fast.tw14364793385576792824 rp w 11 (some (.ref 6)) 1 N s (piecesOf (sl a n) ep cp p [topFrame p0]) = some (.next, s', cp, p')
theorem pre_twin (w : World) (os : OsState) : PySem.W.Fast.tw15667345088766844465 PySem.W.Fast.tw14364793385576792824 rp w 11 (some (.ref 6)) 12 ⟨boot_heap w.params, #[], boot_drawn, boot_toks, os⟩ (topStub rp) =
    some (⟨h15 w.params, #[], {}, 187, os⟩, ⟨PySem.W.Fast.tw11892475500146522536 PySem.W.Fast.tw14364793385576792824 cp, cp, p0, [topFrame p0]⟩) := by kernel_rfl
theorem block_twin (w : World) (os : OsState) : PySem.W.Fast.tw14374325043358763698 PySem.W.Fast.tw14364793385576792824 rp w 11 (some (.ref 6)) 1 1 ⟨h15 w.params, #[], {}, 187, os⟩ (blockOf bp ep cp p0 [topFrame p0]) =
    some (.next, (s15 w os).abs, cp, p0) := by kernel_rfl
theorem fin_any (w : World) (s : Shared) : topRun treeTable rp w 11 (some (.ref 6)) 2 s ⟨doneF .next, cp, pe, [topFrame p0]⟩ = some s := by
  cases s; rfl
theorem size_boot (w : World) : ((boot_heap w.params).isNs mainGlobals && (#[] : Array GenState).size == 0, (boot_heap w.params).objs.size, (boot_heap w.params).nsMap mainGlobals "__annotations__") = (true, 11, some (.ref 6)) := by kernel_rfl
theorem rA (w : World) (os : OsState) : RunP w 473 (sT (t15 w.params) 15 187 os) 0 4 p0 (sT (tA w.params) 55 240 os) ⟨9, 0, 10, 8⟩ := by kernel_rfl
theorem rB (w : World) (os : OsState) : RunP w 428 (sT (tA w.params) 55 240 os) 4 2 ⟨9, 0, 10, 8⟩ (sT (tB w.params) 79 272 os) ⟨13, 0, 14, 8⟩ := by kernel_rfl
theorem rC (w : World) (os : OsState) : RunP w 390 (sT (tB w.params) 79 272 os) 6 11 ⟨13, 0, 14, 8⟩ (sT (tC w.params) 112 333 os) ⟨33, 0, 33, 9⟩ := by kernel_rfl
abbrev RunD (w : World) (os : OsState) : Prop := RunP w 398 (sT (tC w.params) 112 333 os) 17 9 ⟨33, 0, 33, 9⟩ (sT (tD w.params) 163 419 os) ⟨69, 0, 87, 54⟩
theorem rD_f (w : World) (os : OsState) : RunD (wf w false) os := by kernel_rfl
theorem rD_t (w : World) (os : OsState) : RunD (wf w true) os := by kernel_rfl
theorem rE (w : World) (os : OsState) : RunP w 609 (sT (tD w.params) 163 419 os) 26 2 ⟨69, 0, 87, 54⟩ (sT (tE w.params) 264 562 os) ⟨93, 0, 152, 16⟩ := by kernel_rfl
abbrev RunF (w : World) (os : OsState) : Prop := RunP w 313 (sT (tE w.params) 264 562 os) 28 4 ⟨93, 0, 152, 16⟩ (sT (tF w.params) 279 595 os) ⟨156, 0, 159, 15⟩
theorem rF_f (w : World) (os : OsState) : RunF (wf w false) os := by kernel_rfl
theorem rF_t (w : World) (os : OsState) : RunF (wf w true) os := by kernel_rfl
theorem rG (w : World) (os : OsState) : RunP w 475 (sT (tF w.params) 279 595 os) 32 2 ⟨156, 0, 159, 15⟩ (sT (tG w.params) 320 659 os) ⟨166, 0, 174, 26⟩ := by kernel_rfl
theorem rH (w : World) (os : OsState) : RunP w 312 (sT (tG w.params) 320 659 os) 34 5 ⟨166, 0, 174, 26⟩ (sT (tH w.params) 349 720 os) ⟨186, 0, 202, 15⟩ := by kernel_rfl
theorem rI (w : World) (os : OsState) : RunP w 399 (sT (tH w.params) 349 720 os) 39 6 ⟨186, 0, 202, 15⟩ (sT (tI w.params) 404 816 os) ⟨269, 0, 284, 16⟩ := by kernel_rfl
theorem rJ (w : World) (os : OsState) : (PySem.W.Fast.tw10110043849684766642 PySem.W.Fast.tw14364793385576792824 rp w 11 (some (.ref 6)) 1 603 (sT (tI w.params) 404 816 os) (piecesOf (bp.drop 45) ep cp ⟨269, 0, 284, 16⟩ [topFrame p0])).bind (lookW w.params) =
    some ((cp, pe), true, openGood qp loose, (KH w.params).map fun p => some p.2) := by kernel_rfl
end Mine
end
section
set_option maxHeartbeats 4000000
namespace Mine
theorem seg_of {w : World} {N : Nat} {s s' : SharedT} {a n : Nat} {p p' : Pos} (h : RunP w N s a n p s' p') : segRunT treeTable rp w 11 (some (.ref 6)) 1 N s (piecesOf (sl a n) ep cp p [topFrame p0]) = some (.next, s', cp, p') := by
  rw [PySem.W.Fast.te10110043849684766642, PySem.W.Fast.te14364793385576792824]
  exact h
theorem chain {w : World} {N M : Nat} {s s' : SharedT} {a n : Nat} {p p' : Pos} {r : Shared} (h : RunP w N s a n p s' p') (k : topRun treeTable rp w 11 (some (.ref 6)) M s'.abs (restOf (bp.drop (a + n)) ep cp p' [topFrame p0]) = some r) :
    topRun treeTable rp w 11 (some (.ref 6)) (N + M) s.abs (restOf (bp.drop a) ep cp p [topFrame p0]) = some r := by
  have e : bp.drop a = sl a n ++ bp.drop (a + n) := (List.take_append_drop n (bp.drop a)).symm.trans (by rw [List.drop_drop])
  rw [e]
  exact piece_app (segRun_of (seg_of h)) k
theorem rD (w : World) (os : OsState) : RunD w os := byRow2 "special-get-raises" (P := fun w => ∀ os, RunD w os) (fun w os => rD_f w os) (fun w os => rD_t w os) w os
theorem rF (w : World) (os : OsState) : RunF w os := byRow2 "special-get-raises" (P := fun w => ∀ os, RunF w os) (fun w os => rF_f w os) (fun w os => rF_t w os) w os
theorem run_last (w : World) (os : OsState) : (segRunT treeTable rp w 11 (some (.ref 6)) 1 603 (sT (tI w.params) 404 816 os) (piecesOf (bp.drop 45) ep cp ⟨269, 0, 284, 16⟩ [topFrame p0])).bind (lookW w.params) =
    some ((cp, pe), true, openGood qp loose, (KH w.params).map fun p => some p.2) := by
  rw [PySem.W.Fast.te10110043849684766642, PySem.W.Fast.te14364793385576792824]
  exact rJ w os
theorem pre_any (w : World) (os : OsState) : topGo treeTable rp w 11 (some (.ref 6)) 12 ⟨boot_heap w.params, #[], boot_drawn, boot_toks, os⟩ (topStub rp) =
    some (⟨h15 w.params, #[], {}, 187, os⟩, ⟨denote treeTable cp, cp, p0, [topFrame p0]⟩) := by
  rw [PySem.W.Fast.te15667345088766844465, PySem.W.Fast.te11892475500146522536, PySem.W.Fast.te14364793385576792824]
  exact pre_twin w os
theorem block_any (w : World) (os : OsState) : segRun treeTable rp w 11 (some (.ref 6)) 1 1 ⟨h15 w.params, #[], {}, 187, os⟩ (blockOf bp ep cp p0 [topFrame p0]) =
    some (.next, (s15 w os).abs, cp, p0) := by
  rw [PySem.W.Fast.te14374325043358763698, PySem.W.Fast.te14364793385576792824]
  exact block_twin w os
theorem boot_rp (w : World) : (fencedOpening treeTable rp w 4415).map (fun s => (s.heap, s.gens, s.drawn, s.toks)) = some (boot_heap w.params, #[], boot_drawn, boot_toks) :=
  boot_open (p := rp) (N := 4415) (by kernel_rfl) rfl (fun s => by kernel_rfl) w
theorem left : LeftO rp qp loose Xt (fun s => KA.map s.heap.get?) (fun w => (KH w.params).map fun p => some p.2) 4415 := fun w => by
  obtain ⟨⟨h, gs, dr, k, os⟩, e, e'⟩ := Option.map_eq_some_iff.mp (boot_rp w)
  obtain ⟨rfl, rfl, rfl, rfl⟩ : h = boot_heap w.params ∧ gs = #[] ∧ dr = boot_drawn ∧ k = boot_toks := by simpa using e'
  obtain ⟨⟨f, s, c, p⟩, e1, e2⟩ := Option.bind_eq_some_iff.mp (run_last w os)
  cases f with
  | next =>
    obtain ⟨l0, l1, l2, l3⟩ : (c, p) = (cp, pe) ∧ _ = true ∧ _ = openGood qp loose ∧ _ = (KH w.params).map fun p => some p.2 := by
      have := Option.some.inj e2
      simpa only [Prod.mk.injEq] using this
    obtain ⟨rfl, rfl⟩ := Prod.mk.inj l0
    have t0 : topRun treeTable rp w 11 (some (.ref 6)) (603 + 2) (sT (tI w.params) 404 816 os).abs (restOf (bp.drop 45 ++ []) ep cp ⟨269, 0, 284, 16⟩ [topFrame p0]) = some s.abs := piece_app (segRun_of e1) (fin_any w s.abs)
    rw [List.append_nil] at t0
    have t1 := chain (rA w os) (chain (rB w os) (chain (rC w os) (chain (rD w os) (chain (rE w os) (chain (rF w os) (chain (rG w os) (chain (rH w os) (chain (rI w os) t0))))))))
    have t3 := go_top (pre_any w os) (piece_block (block_any w os) t1)
    obtain ⟨z1, z2, z3⟩ : _ ∧ _ ∧ _ := by simpa only [Prod.mk.injEq] using size_boot w
    have t : topFrom treeTable rp w 4415 ⟨boot_heap w.params, #[], boot_drawn, boot_toks, os⟩ = some s.abs := by
      unfold topFrom
      dsimp only
      rw [z1, z2, z3]
      show (Option.bind (topRun treeTable rp w 11 (some (.ref 6)) (12 + (1 + (473 + (428 + (390 + (398 + (609 + (313 + (475 + (312 + (399 + (603 + 2)))))))))))) _ _) _) = _
      rw [t3]
      show (match staticsOk (importedModules rp.main.body) (boot_heap w.params) s.abs.heap && namesBound rp s.abs.heap && gensDone s.abs && laidKept (boot_heap w.params) s.abs.heap with | true => _ | false => _) = _
      rw [l1]
    unfold openEnds
    rw [e]
    show (topFrom treeTable rp w 4415 _).map _ = _
    rw [t]
    exact congrArg some (Prod.ext l2 l3)
  | brk => cases e2
  | cont => cases e2
  | ret v => cases e2
end Mine
end
section
set_option maxHeartbeats 4000000
namespace Mine
theorem def_some : (defOf qp rr.name).isSome = true := by kernel_rfl
noncomputable def dl : DefRec × List (PySem.Str × Expr) := (defOf qp rr.name).get def_some
theorem def_is : defOf qp rr.name = some (dl.1, dl.2) := (Option.some_get def_some).symm
theorem def_law : rp.theDef rr.name = some (dl.1.params, dl.1.body, dl.1.scope) := by kernel_rfl
theorem def_kw : kwWritten? dl.1.params.kwonlyargs dl.1.params.kw_defaults = some dl.2 := by kernel_rfl
theorem def_name : dl.1.name = "law" := by kernel_rfl
theorem said : PySem.Challenge.rw_rg0156_01.wellSaid = true := by
  rw [PySem.W.Fast.te9446332074065402090]
  kernel_rfl
theorem promised : rr.toRowW.promised := by
  w_witness2
theorem own_ok : (chainsOk qp && opensWell rp && (frees rr.toRowW && rr.within.isEmpty)) = true := by kernel_rfl
theorem bare_rp : rr.prog.bare := ⟨rfl, rfl, rfl, rfl, rfl, by decide +kernel⟩
theorem head (walk : WalkO qp loose (XL qp []) (InK KH) rr.toRowW dl.1 dl.2 fun f vs => PySem.call f vs) : PySem.Challenge.rw_rg0156_01.Holds :=
  holds_law said fun said' => holds_open (r := rr) (q := qp) (loose := loose) (Xt := Xt) (XP := XL qp []) (YP := InK KH) (N := 4415) left (InK.of KA_eq) InK.keeps (fun s e => xl_of s (Bool.and_eq_true_iff.mp e).1) XL.keeps def_is def_law def_kw
    (fun s e => recFacts_of (Bool.and_eq_true_iff.mp e).2) rfl said' own_ok bare_rp promised walk
end Mine
end
section
namespace Mine
noncomputable abbrev KK : Params → Frag := KH
namespace GX
variable {C : Gd KK} {B : Bd C} {ρ : Loc} {Λ : Led} {pos : Pos} {Q : V → Led → Prop}
noncomputable def nums (l : List Int) : List V := l.map V.int

theorem PageError (h : Q (.ref 39) Λ) (hx : B.env.kindOf "PageError" = some .globalImplicit := by rfl) : Ev B ρ (.Name "PageError" pos) Λ Q := Ev.glob (v := .ref 39) (by kernel_rfl) (.ref _) h hx
theorem BadArgument (h : Q (.ref 52) Λ) (hx : B.env.kindOf "BadArgument" = some .globalImplicit := by rfl) : Ev B ρ (.Name "BadArgument" pos) Λ Q := Ev.glob (v := .ref 52) (by kernel_rfl) (.ref _) h hx
theorem Overflow (h : Q (.ref 64) Λ) (hx : B.env.kindOf "Overflow" = some .globalImplicit := by rfl) : Ev B ρ (.Name "Overflow" pos) Λ Q := Ev.glob (v := .ref 64) (by kernel_rfl) (.ref _) h hx
theorem BadFont (h : Q (.ref 76) Λ) (hx : B.env.kindOf "BadFont" = some .globalImplicit := by rfl) : Ev B ρ (.Name "BadFont" pos) Λ Q := Ev.glob (v := .ref 76) (by kernel_rfl) (.ref _) h hx
theorem TooMuch (h : Q (.ref 88) Λ) (hx : B.env.kindOf "TooMuch" = some .globalImplicit := by rfl) : Ev B ρ (.Name "TooMuch" pos) Λ Q := Ev.glob (v := .ref 88) (by kernel_rfl) (.ref _) h hx
theorem MAX_DIMEN (h : Q (.int 1073741823) Λ) (hx : B.env.kindOf "MAX_DIMEN" = some .globalImplicit := by rfl) : Ev B ρ (.Name "MAX_DIMEN" pos) Λ Q := Ev.glob (v := .int 1073741823 294) (by kernel_rfl) (.int _ _) h hx
theorem is_whole (h : Q (.ref 97) Λ) (hx : B.env.kindOf "is_whole" = some .globalImplicit := by rfl) : Ev B ρ (.Name "is_whole" pos) Λ Q := Ev.glob (v := .ref 97) (by kernel_rfl) (.ref _) h hx
theorem check_whole (h : Q (.ref 104) Λ) (hx : B.env.kindOf "check_whole" = some .globalImplicit := by rfl) : Ev B ρ (.Name "check_whole" pos) Λ Q := Ev.glob (v := .ref 104) (by kernel_rfl) (.ref _) h hx
theorem check_dimen (h : Q (.ref 111) Λ) (hx : B.env.kindOf "check_dimen" = some .globalImplicit := by rfl) : Ev B ρ (.Name "check_dimen" pos) Λ Q := Ev.glob (v := .ref 111) (by kernel_rfl) (.ref _) h hx
theorem EDGE (h : Q (.int 256) Λ) (hx : B.env.kindOf "EDGE" = some .globalImplicit := by rfl) : Ev B ρ (.Name "EDGE" pos) Λ Q := Ev.glob (v := .int 256 321) (by kernel_rfl) (.int _ _) h hx
theorem MOST_FONTS (h : Q (.int 255) Λ) (hx : B.env.kindOf "MOST_FONTS" = some .globalImplicit := by rfl) : Ev B ρ (.Name "MOST_FONTS" pos) Λ Q := Ev.glob (v := .int 255 323) (by kernel_rfl) (.int _ _) h hx
theorem MOST_PARAMS (h : Q (.int 64) Λ) (hx : B.env.kindOf "MOST_PARAMS" = some .globalImplicit := by rfl) : Ev B ρ (.Name "MOST_PARAMS" pos) Λ Q := Ev.glob (v := .int 64 325) (by kernel_rfl) (.int _ _) h hx
theorem MOST_SIZE (h : Q (.int 134217727) Λ) (hx : B.env.kindOf "MOST_SIZE" = some .globalImplicit := by rfl) : Ev B ρ (.Name "MOST_SIZE" pos) Λ Q := Ev.glob (v := .int 134217727 331) (by kernel_rfl) (.int _ _) h hx
theorem PLAIN_SORT (h : Q (.int 0) Λ) (hx : B.env.kindOf "PLAIN_SORT" = some .globalImplicit := by rfl) : Ev B ρ (.Name "PLAIN_SORT" pos) Λ Q := Ev.glob (v := .int 0 333) (by kernel_rfl) (.int _ _) h hx
theorem PROGRAM_SORT (h : Q (.int 1) Λ) (hx : B.env.kindOf "PROGRAM_SORT" = some .globalImplicit := by rfl) : Ev B ρ (.Name "PROGRAM_SORT" pos) Λ Q := Ev.glob (v := .int 1 334) (by kernel_rfl) (.int _ _) h hx
theorem LARGER_SORT (h : Q (.int 2) Λ) (hx : B.env.kindOf "LARGER_SORT" = some .globalImplicit := by rfl) : Ev B ρ (.Name "LARGER_SORT" pos) Λ Q := Ev.glob (v := .int 2 335) (by kernel_rfl) (.int _ _) h hx
theorem PIECES_SORT (h : Q (.int 3) Λ) (hx : B.env.kindOf "PIECES_SORT" = some .globalImplicit := by rfl) : Ev B ρ (.Name "PIECES_SORT" pos) Λ Q := Ev.glob (v := .int 3 336) (by kernel_rfl) (.int _ _) h hx
theorem STOP_SKIP (h : Q (.int 128) Λ) (hx : B.env.kindOf "STOP_SKIP" = some .globalImplicit := by rfl) : Ev B ρ (.Name "STOP_SKIP" pos) Λ Q := Ev.glob (v := .int 128 341) (by kernel_rfl) (.int _ _) h hx
theorem KERN_OP (h : Q (.int 128) Λ) (hx : B.env.kindOf "KERN_OP" = some .globalImplicit := by rfl) : Ev B ρ (.Name "KERN_OP" pos) Λ Q := Ev.glob (v := .int 128 342) (by kernel_rfl) (.int _ _) h hx
theorem LEAD (h : Q (.int 255) Λ) (hx : B.env.kindOf "LEAD" = some .globalImplicit := by rfl) : Ev B ρ (.Name "LEAD" pos) Λ Q := Ev.glob (v := .int 255 343) (by kernel_rfl) (.int _ _) h hx
theorem NO_CHARACTER (h : Q (.tup (nums [0, 0, 0, 0, 0, 0])) Λ) (hx : B.env.kindOf "NO_CHARACTER" = some .globalImplicit := by rfl) : Ev B ρ (.Name "NO_CHARACTER" pos) Λ Q := Ev.glob (v := .ref 120) (by kernel_rfl) (.tup (its := _) (C.KX 120 _ rfl) ⟨_, rfl⟩ ((.cons (.int _ _) (.cons (.int _ _) (.cons (.int _ _) (.cons (.int _ _) (.cons (.int _ _) (.cons (.int _ _) .nil)))))))) h hx
theorem is_size (h : Q (.ref 127) Λ) (hx : B.env.kindOf "is_size" = some .globalImplicit := by rfl) : Ev B ρ (.Name "is_size" pos) Λ Q := Ev.glob (v := .ref 127) (by kernel_rfl) (.ref _) h hx
theorem check_sizes (h : Q (.ref 134) Λ) (hx : B.env.kindOf "check_sizes" = some .globalImplicit := by rfl) : Ev B ρ (.Name "check_sizes" pos) Λ Q := Ev.glob (v := .ref 134) (by kernel_rfl) (.ref _) h hx
theorem check_pieces (h : Q (.ref 141) Λ) (hx : B.env.kindOf "check_pieces" = some .globalImplicit := by rfl) : Ev B ρ (.Name "check_pieces" pos) Λ Q := Ev.glob (v := .ref 141) (by kernel_rfl) (.ref _) h hx
theorem check_chars (h : Q (.ref 148) Λ) (hx : B.env.kindOf "check_chars" = some .globalImplicit := by rfl) : Ev B ρ (.Name "check_chars" pos) Λ Q := Ev.glob (v := .ref 148) (by kernel_rfl) (.ref _) h hx
theorem check_larger (h : Q (.ref 155) Λ) (hx : B.env.kindOf "check_larger" = some .globalImplicit := by rfl) : Ev B ρ (.Name "check_larger" pos) Λ Q := Ev.glob (v := .ref 155) (by kernel_rfl) (.ref _) h hx
theorem check_program (h : Q (.ref 162) Λ) (hx : B.env.kindOf "check_program" = some .globalImplicit := by rfl) : Ev B ρ (.Name "check_program" pos) Λ Q := Ev.glob (v := .ref 162) (by kernel_rfl) (.ref _) h hx
theorem left_start (h : Q (.ref 169) Λ) (hx : B.env.kindOf "left_start" = some .globalImplicit := by rfl) : Ev B ρ (.Name "left_start" pos) Λ Q := Ev.glob (v := .ref 169) (by kernel_rfl) (.ref _) h hx
theorem Font (h : Q (.ref 259) Λ) (hx : B.env.kindOf "Font" = some .globalImplicit := by rfl) : Ev B ρ (.Name "Font" pos) Λ Q := Ev.glob (v := .ref 259) (by kernel_rfl) (.ref _) h hx
theorem CHAR (h : Q (.int 0) Λ) (hx : B.env.kindOf "CHAR" = some .globalImplicit := by rfl) : Ev B ρ (.Name "CHAR" pos) Λ Q := Ev.glob (v := .int 0 564) (by kernel_rfl) (.int _ _) h hx
theorem LIGATURE (h : Q (.int 1) Λ) (hx : B.env.kindOf "LIGATURE" = some .globalImplicit := by rfl) : Ev B ρ (.Name "LIGATURE" pos) Λ Q := Ev.glob (v := .int 1 565) (by kernel_rfl) (.int _ _) h hx
theorem KERN (h : Q (.int 5) Λ) (hx : B.env.kindOf "KERN" = some .globalImplicit := by rfl) : Ev B ρ (.Name "KERN" pos) Λ Q := Ev.glob (v := .int 5 569) (by kernel_rfl) (.int _ _) h hx
theorem FONT_KERN (h : Q (.int 0) Λ) (hx : B.env.kindOf "FONT_KERN" = some .globalImplicit := by rfl) : Ev B ρ (.Name "FONT_KERN" pos) Λ Q := Ev.glob (v := .int 0 580) (by kernel_rfl) (.int _ _) h hx
theorem EXPLICIT (h : Q (.int 1) Λ) (hx : B.env.kindOf "EXPLICIT" = some .globalImplicit := by rfl) : Ev B ρ (.Name "EXPLICIT" pos) Λ Q := Ev.glob (v := .int 1 581) (by kernel_rfl) (.int _ _) h hx
theorem ACCENT_KERN (h : Q (.int 2) Λ) (hx : B.env.kindOf "ACCENT_KERN" = some .globalImplicit := by rfl) : Ev B ρ (.Name "ACCENT_KERN" pos) Λ Q := Ev.glob (v := .int 2 582) (by kernel_rfl) (.int _ _) h hx
theorem MU_KERN (h : Q (.int 3) Λ) (hx : B.env.kindOf "MU_KERN" = some .globalImplicit := by rfl) : Ev B ρ (.Name "MU_KERN" pos) Λ Q := Ev.glob (v := .int 3 583) (by kernel_rfl) (.int _ _) h hx
theorem check_code (h : Q (.ref 278) Λ) (hx : B.env.kindOf "check_code" = some .globalImplicit := by rfl) : Ev B ρ (.Name "check_code" pos) Λ Q := Ev.glob (v := .ref 278) (by kernel_rfl) (.ref _) h hx
theorem Char (h : Q (.ref 295) Λ) (hx : B.env.kindOf "Char" = some .globalImplicit := by rfl) : Ev B ρ (.Name "Char" pos) Λ Q := Ev.glob (v := .ref 295) (by kernel_rfl) (.ref _) h hx
theorem Ligature (h : Q (.ref 315) Λ) (hx : B.env.kindOf "Ligature" = some .globalImplicit := by rfl) : Ev B ρ (.Name "Ligature" pos) Λ Q := Ev.glob (v := .ref 315) (by kernel_rfl) (.ref _) h hx
theorem Kern (h : Q (.ref 336) Λ) (hx : B.env.kindOf "Kern" = some .globalImplicit := by rfl) : Ev B ρ (.Name "Kern" pos) Λ Q := Ev.glob (v := .ref 336) (by kernel_rfl) (.ref _) h hx
theorem KNOWN_OPS (h : Q (.tup (nums [0, 1, 2, 3, 5, 6, 7, 11])) Λ) (hx : B.env.kindOf "KNOWN_OPS" = some .globalImplicit := by rfl) : Ev B ρ (.Name "KNOWN_OPS" pos) Λ Q := Ev.glob (v := .ref 341) (by kernel_rfl) (.tup (its := _) (C.KX 341 _ rfl) ⟨_, rfl⟩ ((.cons (.int _ _) (.cons (.int _ _) (.cons (.int _ _) (.cons (.int _ _) (.cons (.int _ _) (.cons (.int _ _) (.cons (.int _ _) (.cons (.int _ _) .nil)))))))))) h hx
theorem STEPS (h : Q (.int 20) Λ) (hx : B.env.kindOf "STEPS" = some .globalImplicit := by rfl) : Ev B ρ (.Name "STEPS" pos) Λ Q := Ev.glob (v := .int 20 702) (by kernel_rfl) (.int _ _) h hx
theorem look (h : Q (.ref 348) Λ) (hx : B.env.kindOf "look" = some .globalImplicit := by rfl) : Ev B ρ (.Name "look" pos) Λ Q := Ev.glob (v := .ref 348) (by kernel_rfl) (.ref _) h hx
theorem Word (h : Q (.ref 363) Λ) (hx : B.env.kindOf "Word" = some .globalImplicit := by rfl) : Ev B ρ (.Name "Word" pos) Λ Q := Ev.glob (v := .ref 363) (by kernel_rfl) (.ref _) h hx
theorem leave (h : Q (.ref 374) Λ) (hx : B.env.kindOf "leave" = some .globalImplicit := by rfl) : Ev B ρ (.Name "leave" pos) Λ Q := Ev.glob (v := .ref 374) (by kernel_rfl) (.ref _) h hx
theorem pass_on (h : Q (.ref 381) Λ) (hx : B.env.kindOf "pass_on" = some .globalImplicit := by rfl) : Ev B ρ (.Name "pass_on" pos) Λ Q := Ev.glob (v := .ref 381) (by kernel_rfl) (.ref _) h hx
theorem put_between (h : Q (.ref 388) Λ) (hx : B.env.kindOf "put_between" = some .globalImplicit := by rfl) : Ev B ρ (.Name "put_between" pos) Λ Q := Ev.glob (v := .ref 388) (by kernel_rfl) (.ref _) h hx
theorem word_nodes (h : Q (.ref 395) Λ) (hx : B.env.kindOf "word_nodes" = some .globalImplicit := by rfl) : Ev B ρ (.Name "word_nodes" pos) Λ Q := Ev.glob (v := .ref 395) (by kernel_rfl) (.ref _) h hx
theorem run (h : Q (.ref 403) Λ) (hx : B.env.kindOf "run" = some .globalImplicit := by rfl) : Ev B ρ (.Name "run" pos) Λ Q := Ev.glob (v := .ref 403) (by kernel_rfl) (.ref _) h hx
theorem law_ops (h : Q (.tup (nums [0, 1, 2, 3, 5, 6, 7, 11, 10])) Λ) (hx : B.env.kindOf "_law_ops" = some .globalImplicit := by rfl) : Ev B ρ (.Name "_law_ops" pos) Λ Q := Ev.glob (v := .ref 404) (by kernel_rfl) (.tup (its := _) (C.KX 404 _ rfl) ⟨_, rfl⟩ ((.cons (.int _ _) (.cons (.int _ _) (.cons (.int _ _) (.cons (.int _ _) (.cons (.int _ _) (.cons (.int _ _) (.cons (.int _ _) (.cons (.int _ _) (.cons (.int _ _) .nil))))))))))) h hx
theorem law_amounts (h : Q (.tup (nums [7001, -3000])) Λ) (hx : B.env.kindOf "_law_amounts" = some .globalImplicit := by rfl) : Ev B ρ (.Name "_law_amounts" pos) Λ Q := Ev.glob (v := .ref 405) (by kernel_rfl) (.tup (its := _) (C.KX 405 _ rfl) ⟨_, rfl⟩ ((.cons (.int _ _) (.cons (.int _ _) .nil)))) h hx
theorem law_chosen (h : Q (.tup (nums [711488158898496243416696673, 1000000000000033152])) Λ) (hx : B.env.kindOf "_law_chosen" = some .globalImplicit := by rfl) : Ev B ρ (.Name "_law_chosen" pos) Λ Q := Ev.glob (v := .ref 406) (by kernel_rfl) (.tup (its := _) (C.KX 406 _ rfl) ⟨_, rfl⟩ ((.cons (.int _ _) (.cons (.int _ _) .nil)))) h hx
theorem law_cell (h : Q (.ref 413) Λ) (hx : B.env.kindOf "_law_cell" = some .globalImplicit := by rfl) : Ev B ρ (.Name "_law_cell" pos) Λ Q := Ev.glob (v := .ref 413) (by kernel_rfl) (.ref _) h hx
theorem law_bag (h : Q (.ref 420) Λ) (hx : B.env.kindOf "_law_bag" = some .globalImplicit := by rfl) : Ev B ρ (.Name "_law_bag" pos) Λ Q := Ev.glob (v := .ref 420) (by kernel_rfl) (.ref _) h hx
theorem law_draw (h : Q (.ref 427) Λ) (hx : B.env.kindOf "_law_draw" = some .globalImplicit := by rfl) : Ev B ρ (.Name "_law_draw" pos) Λ Q := Ev.glob (v := .ref 427) (by kernel_rfl) (.ref _) h hx
theorem law_row (h : Q (.ref 434) Λ) (hx : B.env.kindOf "_law_row" = some .globalImplicit := by rfl) : Ev B ρ (.Name "_law_row" pos) Λ Q := Ev.glob (v := .ref 434) (by kernel_rfl) (.ref _) h hx
theorem law_pairs (h : Q (.ref 441) Λ) (hx : B.env.kindOf "_law_pairs" = some .globalImplicit := by rfl) : Ev B ρ (.Name "_law_pairs" pos) Λ Q := Ev.glob (v := .ref 441) (by kernel_rfl) (.ref _) h hx
theorem law_tables (h : Q (.ref 448) Λ) (hx : B.env.kindOf "_law_tables" = some .globalImplicit := by rfl) : Ev B ρ (.Name "_law_tables" pos) Λ Q := Ev.glob (v := .ref 448) (by kernel_rfl) (.ref _) h hx
theorem law_looks_right (h : Q (.ref 455) Λ) (hx : B.env.kindOf "_law_looks_right" = some .globalImplicit := by rfl) : Ev B ρ (.Name "_law_looks_right" pos) Λ Q := Ev.glob (v := .ref 455) (by kernel_rfl) (.ref _) h hx
theorem law_step (h : Q (.ref 462) Λ) (hx : B.env.kindOf "_law_step" = some .globalImplicit := by rfl) : Ev B ρ (.Name "_law_step" pos) Λ Q := Ev.glob (v := .ref 462) (by kernel_rfl) (.ref _) h hx
theorem law_tape (h : Q (.ref 467) Λ) (hx : B.env.kindOf "_law_tape" = some .globalImplicit := by rfl) : Ev B ρ (.Name "_law_tape" pos) Λ Q := Ev.glob (v := .ref 467) (by kernel_rfl) (.ref _) h hx
theorem law_told (h : Q (.ref 472) Λ) (hx : B.env.kindOf "_law_told" = some .globalImplicit := by rfl) : Ev B ρ (.Name "_law_told" pos) Λ Q := Ev.glob (v := .ref 472) (by kernel_rfl) (.ref _) h hx
theorem law_whole (h : Q (.ref 479) Λ) (hx : B.env.kindOf "_law_whole" = some .globalImplicit := by rfl) : Ev B ρ (.Name "_law_whole" pos) Λ Q := Ev.glob (v := .ref 479) (by kernel_rfl) (.ref _) h hx
theorem law_node (h : Q (.ref 486) Λ) (hx : B.env.kindOf "_law_node" = some .globalImplicit := by rfl) : Ev B ρ (.Name "_law_node" pos) Λ Q := Ev.glob (v := .ref 486) (by kernel_rfl) (.ref _) h hx
theorem law_run (h : Q (.ref 491) Λ) (hx : B.env.kindOf "_law_run" = some .globalImplicit := by rfl) : Ev B ρ (.Name "_law_run" pos) Λ Q := Ev.glob (v := .ref 491) (by kernel_rfl) (.ref _) h hx
theorem law_refused (h : Q (.ref 498) Λ) (hx : B.env.kindOf "_law_refused" = some .globalImplicit := by rfl) : Ev B ρ (.Name "_law_refused" pos) Λ Q := Ev.glob (v := .ref 498) (by kernel_rfl) (.ref _) h hx
theorem law (h : Q (.ref 503) Λ) (hx : B.env.kindOf "law" = some .globalImplicit := by rfl) : Ev B ρ (.Name "law" pos) Λ Q := Ev.glob (v := .ref 503) (by kernel_rfl) (.ref _) h hx
theorem rangeT (h : Q (.typ "range") Λ) (hx : B.env.kindOf "range" = some .globalImplicit := by rfl) : Ev B ρ (.Name "range" pos) Λ Q := Ev.blt (v := .type "range") (by kernel_rfl) (by kernel_rfl) (by decide) (.typ _) h hx
theorem enumerateT (h : Q (.typ "enumerate") Λ) (hx : B.env.kindOf "enumerate" = some .globalImplicit := by rfl) : Ev B ρ (.Name "enumerate" pos) Λ Q := Ev.blt (v := .type "enumerate") (by kernel_rfl) (by kernel_rfl) (by decide) (.typ _) h hx
theorem listT (h : Q (.typ "list") Λ) (hx : B.env.kindOf "list" = some .globalImplicit := by rfl) : Ev B ρ (.Name "list" pos) Λ Q := Ev.blt (v := .type "list") (by kernel_rfl) (by kernel_rfl) (by decide) (.typ _) h hx
theorem tupleT (h : Q (.typ "tuple") Λ) (hx : B.env.kindOf "tuple" = some .globalImplicit := by rfl) : Ev B ρ (.Name "tuple" pos) Λ Q := Ev.blt (v := .type "tuple") (by kernel_rfl) (by kernel_rfl) (by decide) (.typ _) h hx
theorem dictT (h : Q (.typ "dict") Λ) (hx : B.env.kindOf "dict" = some .globalImplicit := by rfl) : Ev B ρ (.Name "dict" pos) Λ Q := Ev.blt (v := .type "dict") (by kernel_rfl) (by kernel_rfl) (by decide) (.typ _) h hx
theorem intT (h : Q (.typ "int") Λ) (hx : B.env.kindOf "int" = some .globalImplicit := by rfl) : Ev B ρ (.Name "int" pos) Λ Q := Ev.blt (v := .type "int") (by kernel_rfl) (by kernel_rfl) (by decide) (.typ _) h hx
theorem strT (h : Q (.typ "str") Λ) (hx : B.env.kindOf "str" = some .globalImplicit := by rfl) : Ev B ρ (.Name "str" pos) Λ Q := Ev.blt (v := .type "str") (by kernel_rfl) (by kernel_rfl) (by decide) (.typ _) h hx
theorem boolT (h : Q (.typ "bool") Λ) (hx : B.env.kindOf "bool" = some .globalImplicit := by rfl) : Ev B ρ (.Name "bool" pos) Λ Q := Ev.blt (v := .type "bool") (by kernel_rfl) (by kernel_rfl) (by decide) (.typ _) h hx
theorem lenB (h : Q (.bi "len") Λ) (hx : B.env.kindOf "len" = some .globalImplicit := by rfl) : Ev B ρ (.Name "len" pos) Λ Q := Ev.blt (v := .builtin "len") (by kernel_rfl) (by kernel_rfl) (by decide) (.bi _) h hx
theorem isinstanceB (h : Q (.bi "isinstance") Λ) (hx : B.env.kindOf "isinstance" = some .globalImplicit := by rfl) : Ev B ρ (.Name "isinstance" pos) Λ Q := Ev.blt (v := .builtin "isinstance") (by kernel_rfl) (by kernel_rfl) (by decide) (.bi _) h hx
theorem absB (h : Q (.bi "abs") Λ) (hx : B.env.kindOf "abs" = some .globalImplicit := by rfl) : Ev B ρ (.Name "abs" pos) Λ Q := Ev.blt (v := .builtin "abs") (by kernel_rfl) (by kernel_rfl) (by decide) (.bi _) h hx
theorem maxB (h : Q (.bi "max") Λ) (hx : B.env.kindOf "max" = some .globalImplicit := by rfl) : Ev B ρ (.Name "max" pos) Λ Q := Ev.blt (v := .builtin "max") (by kernel_rfl) (by kernel_rfl) (by decide) (.bi _) h hx
end GX
end Mine
end
section
namespace Mine
section
variable {K : Params → Frag} {C : Gd K} {B : Bd C} {ρ : Loc} {Λ : Led}
theorem ite_ {c : Bool} {P R : Prop} (ht : c = true → P) (hf : c = false → R) : if c then P else R := by cases c <;> simp_all
theorem iteT {P R : Prop} (h : P) : if (true : Bool) then P else R := by simpa using h
theorem iteF {P R : Prop} (h : R) : if (false : Bool) then P else R := by simpa using h
theorem nle {m n : Nat} (h : Nat.ble m n = true) : m ≤ n := Nat.le_of_ble_eq_true h
/-- a part that is told apart -/
theorem Ev.is {e : Expr} (v : V) {Q : V → Led → Prop} (h : Ev B ρ e Λ (QIs v Λ)) (q : Q v Λ) : Ev B ρ e Λ Q := h.mono fun a Λ' ⟨h1, h2⟩ => by rw [h1, h2]; exact q
theorem Tst.mono {e : Expr} {Q Q' : Bool → Led → Prop} (h : Tst B ρ e Λ Q) (k : ∀ a Λ', Q a Λ' → Q' a Λ') : Tst B ρ e Λ Q' := fun g s o f => wpAny_mono (h g s o f) (fun _ _ ⟨g', L, h1, h2, h3⟩ => ⟨g', L, h1, h2, k _ _ h3⟩) fun _ _ x => x
theorem Tst.is {e : Expr} (b : Bool) {Q : Bool → Led → Prop} (h : Tst B ρ e Λ (QIs b Λ)) (q : Q b Λ) : Tst B ρ e Λ Q := h.mono fun a Λ' ⟨h1, h2⟩ => by rw [h1, h2]; exact q
theorem UnS.notb {n : Nat} {b : Bool} {Q : V → Led → Prop} (q : Q (.bool (!b)) Λ) : UnS C n .Not (.bool b) Λ Q := by
  intro A E g s v hA o va; cases va; exact not_of (wpAny_truthy_bool (Post.here o (.bool _) q))
/-- low <= value <= high -/
theorem Ev.chain_le {l m r : Expr} {pos : Pos} {Q : V → Led → Prop} (h : Ev B ρ l Λ fun a Λ₁ => Ev B ρ m Λ₁ fun b Λ₂ => ∃ x y z, a = .int x ∧ b = .int y ∧ Ev B ρ r Λ₂ (fun c Λ₃ => c = .int z ∧ Λ₃ = Λ₂) ∧ Q (.bool (decide (x ≤ y) && decide (y ≤ z))) Λ₂)
    (hm : behindInMarks .LtE r = false := by with_unfolding_all rfl) : Ev B ρ (.Compare l [.LtE, .LtE] [m, r] pos) Λ Q := by
  refine Ev.chain (h.mono fun a Λ₁ h₁ => h₁.mono fun b Λ₂ ⟨x, y, z, e1, e2, h₂, q⟩ => ?_) hm
  subst e1 e2
  refine CmpS.lei (TruS.bool (ite_ (fun t => ?_) fun t => ?_))
  · rw [t, Bool.true_and] at q
    refine h₂.mono fun c Λ₃ ⟨e3, e4⟩ => ?_
    subst e3 e4
    exact CmpS.lei q
  · rw [t, Bool.false_and] at q; rw [t]; exact q
theorem Tst.chain_le {l m r : Expr} {pos : Pos} {Q : Bool → Led → Prop} (h : Ev B ρ l Λ fun a Λ₁ => Ev B ρ m Λ₁ fun b Λ₂ => ∃ x y z, a = .int x ∧ b = .int y ∧ Ev B ρ r Λ₂ (fun c Λ₃ => c = .int z ∧ Λ₃ = Λ₂) ∧ Q (decide (x ≤ y) && decide (y ≤ z)) Λ₂)
    (hm : behindInMarks .LtE r = false := by with_unfolding_all rfl) : Tst B ρ (.Compare l [.LtE, .LtE] [m, r] pos) Λ Q := by
  refine Tst.chain (h.mono fun a Λ₁ h₁ => h₁.mono fun b Λ₂ ⟨x, y, z, e1, e2, h₂, q⟩ => ?_) hm
  subst e1 e2
  refine CmpS.lei (TruS.bool (ite_ (fun t => ?_) fun t => ?_))
  · rw [t, Bool.true_and] at q
    refine h₂.mono fun c Λ₃ ⟨e3, e4⟩ => ?_
    subst e3 e4
    exact CmpS.lei (TruS.bool q)
  · rw [t, Bool.false_and] at q; exact q
theorem upd_upd (a : Addr) (x y : O) : upd (upd Λ a x) a y = upd Λ a y := by funext b; simp only [upd]; split <;> rfl
theorem upd_at (a : Addr) (x : O) : upd Λ a x a = some x := by simp [upd]
theorem upd_ne {a b : Addr} (x : O) (h : b ≠ a) : upd Λ a x b = Λ b := by simp [upd, h]
theorem drop_upd {a : Addr} (x : O) (h : Λ a = none) : drop (upd Λ a x) a = Λ := by funext b; simp only [drop, upd]; split <;> simp_all
theorem led_ne {a b : Addr} {x : O} (h : Λ b = some x) (n : Λ a = none) : b ≠ a := by first | exact opt_ne h n | exact Ne.symm (opt_ne h n) | (rintro rfl; rw [n] at h; cases h)
theorem le_upd {a : Addr} (x : O) (h : Λ a = none) : Led.le Λ (upd Λ a x) := fun b o e => by rw [upd_ne x (led_ne e h)]; exact e
theorem le_refl' : Led.le Λ Λ := fun _ _ e => e
end

variable {C : Gd KK} {B : Bd C} {ρ : Loc} {Λ : Led}
theorem call_is_whole {x lo hi : Int} {Q : V → Led → Prop} (q : Q (.bool (decide (lo ≤ x) && decide (x ≤ hi))) Λ) : FnS C 1 (.ref 97) [.int x, .int lo, .int hi] Λ Q := by
  refine FnS.def (n := 0) (names := ["value", "low", "high"]) (da := []) rfl (by kernel_rfl) (fun s vs X hl => ?_) .nil (by decide) (by decide) rfl rfl rfl rfl fun A L hA => ?_
  · exact allB 3 (fun v0 v1 v2 => BindsTo.of_eq rfl) vs hl
  refine Ex.ret ?_
  refine Ev.and ?_
  refine Ev.call 0 (GX.isinstanceB ⟨_, .bi _, keepsF_bi _, ?_⟩) (Nat.zero_le _)
  refine Evs.cons (Ev.loc rfl (Evs.cons (GX.intT (Evs.nil (CallS.isIntI (TruS.bool (iteT ?_)))))))
  refine Ev.and ?_
  refine Ev.un ?_
  refine Ev.call 0 (GX.isinstanceB ⟨_, .bi _, keepsF_bi _, ?_⟩) (Nat.zero_le _)
  refine Evs.cons (Ev.loc rfl (Evs.cons (GX.boolT (Evs.nil (CallS.isBoolI (UnS.notb (TruS.bool (iteT ?_))))))))
  refine Ev.and1 ?_
  exact Ev.chain_le (Ev.loc rfl (Ev.loc rfl ⟨_, _, _, rfl, rfl, Ev.loc rfl ⟨rfl, rfl⟩, q⟩))
theorem call_is_whole_bool {b : Bool} {lo hi : Int} {Q : V → Led → Prop} (q : Q (.bool false) Λ) : FnS C 1 (.ref 97) [.bool b, .int lo, .int hi] Λ Q := by
  refine FnS.def (n := 0) (names := ["value", "low", "high"]) (da := []) rfl (by kernel_rfl) (fun s vs X hl => ?_) .nil (by decide) (by decide) rfl rfl rfl rfl fun A L hA => ?_
  · exact allB 3 (fun v0 v1 v2 => BindsTo.of_eq rfl) vs hl
  refine Ex.ret ?_
  refine Ev.and ?_
  refine Ev.call 0 (GX.isinstanceB ⟨_, .bi _, keepsF_bi _, ?_⟩) (Nat.zero_le _)
  refine Evs.cons (Ev.loc rfl (Evs.cons (GX.intT (Evs.nil (CallS.isIntB (TruS.bool (iteT ?_)))))))
  refine Ev.and ?_
  refine Ev.un ?_
  refine Ev.call 0 (GX.isinstanceB ⟨_, .bi _, keepsF_bi _, ?_⟩) (Nat.zero_le _)
  exact Evs.cons (Ev.loc rfl (Evs.cons (GX.boolT (Evs.nil (CallS.isBoolB (UnS.notb (TruS.bool (iteF q))))))))
theorem call_check_whole {x : Int} {Q : V → Led → Prop} (q : Q (.int x) Λ) : FnS C 1 (.ref 104) [.int x] Λ Q := by
  refine FnS.def (n := 0) (names := ["value"]) (da := []) rfl (by kernel_rfl) (fun s vs X hl => ?_) .nil (by decide) (by decide) rfl rfl rfl rfl fun A L hA => ?_
  · exact allB 1 (fun v0 => BindsTo.of_eq rfl) vs hl
  refine Ex.ife (Tst.is false ?_ ?_)
  · refine Tst.bop (TstAll.or (Tst.not (Tst.val ?_)))
    refine Ev.call 0 (GX.isinstanceB ⟨_, .bi _, keepsF_bi _, ?_⟩) (Nat.zero_le _)
    refine Evs.cons (Ev.loc rfl (Evs.cons (GX.intT (Evs.nil (CallS.isIntI (TruS.bool (iteF ?_)))))))
    refine TstAll.or (Tst.val ?_)
    refine Ev.call 0 (GX.isinstanceB ⟨_, .bi _, keepsF_bi _, ?_⟩) (Nat.zero_le _)
    exact Evs.cons (Ev.loc rfl (Evs.cons (GX.boolT (Evs.nil (CallS.isBoolI (TruS.bool (iteF (TstAll.or0 ⟨rfl, rfl⟩))))))))
  · exact iteF (Ex.nil (Ex.ret (Ev.loc rfl q)))
theorem call_check_dimen {x : Int} (h : -1073741823 ≤ x ∧ x ≤ 1073741823) {Q : V → Led → Prop} (q : Q (.int x) Λ) : FnS C 2 (.ref 111) [.int x] Λ Q := by
  refine FnS.def (n := 1) (names := ["value"]) (da := []) rfl (by kernel_rfl) (fun s vs X hl => ?_) .nil (by decide) (by decide) rfl rfl rfl rfl fun A L hA => ?_
  · exact allB 1 (fun v0 => BindsTo.of_eq rfl) vs hl
  refine Ex.ife (Tst.is false ?_ ?_)
  · refine Tst.not (Tst.chain_le (Ev.un (GX.MAX_DIMEN (UnS.negi ?_))))
    refine Ev.call 1 (GX.check_whole ⟨_, .ref _, keepsF_K (by kernel_rfl), ?_⟩) (nle rfl)
    refine Evs.cons (Ev.loc rfl (Evs.nil (call_check_whole ?_).call))
    exact ⟨_, _, _, rfl, rfl, GX.MAX_DIMEN ⟨rfl, rfl⟩, by simp [h.1, h.2], rfl⟩
  · exact iteF (Ex.nil (Ex.ret (Ev.loc rfl q)))
theorem call_is_size {x : Int} (h : -1073741823 ≤ x ∧ x ≤ 1073741823) {Q : V → Led → Prop} (q : Q (.bool true) Λ) : FnS C 2 (.ref 127) [.int x] Λ Q := by
  refine FnS.def (n := 1) (names := ["value"]) (da := []) rfl (by kernel_rfl) (fun s vs X hl => ?_) .nil (by decide) (by decide) rfl rfl rfl rfl fun A L hA => ?_
  · exact allB 1 (fun v0 => BindsTo.of_eq rfl) vs hl
  refine Ex.ret ?_
  refine Ev.call 1 (GX.is_whole ⟨_, .ref _, keepsF_K (by kernel_rfl), ?_⟩) (nle rfl)
  refine Evs.cons (Ev.loc rfl (Evs.cons (Ev.un (GX.MAX_DIMEN (UnS.negi (Evs.cons (GX.MAX_DIMEN (Evs.nil (call_is_whole ?_).call))))))))
  rw [decide_eq_true h.1, decide_eq_true h.2]; exact q
theorem call_check_code {x : Int} (h : 0 ≤ x ∧ x ≤ 255) {Q : V → Led → Prop} (q : Q (.int x) Λ) : FnS C 2 (.ref 278) [.int x] Λ Q := by
  refine FnS.def (n := 1) (names := ["code"]) (da := []) rfl (by kernel_rfl) (fun s vs X hl => ?_) .nil (by decide) (by decide) rfl rfl rfl rfl fun A L hA => ?_
  · exact allB 1 (fun v0 => BindsTo.of_eq rfl) vs hl
  refine Ex.ife (Tst.is false ?_ ?_)
  · refine Tst.not (Tst.val ?_)
    refine Ev.call 1 (GX.is_whole ⟨_, .ref _, keepsF_K (by kernel_rfl), ?_⟩) (nle rfl)
    refine Evs.cons (Ev.loc rfl (Evs.cons (Ev.int (Evs.cons (Ev.int (Evs.nil (call_is_whole (TruS.bool ?_)).call))))))
    rw [decide_eq_true h.1, decide_eq_true h.2]
    exact ⟨rfl, rfl⟩
  · exact iteF (Ex.nil (Ex.ret (Ev.loc rfl q)))
end Mine
end
section
namespace Mine
/-- what a font is made of -/
structure FD where
  begins : List Int
  rows : List (Int × Int × Int × Int)
  edge : Int
noncomputable abbrev Row := Int × Int × Int × Int
noncomputable def rowV (r : Row) : V := .tup [.int r.1, .int r.2.1, .int r.2.2.1, .int r.2.2.2]
noncomputable def many (d : FD) : Int := d.rows.length
noncomputable def charRow (n k f : Int) : V := .tup [.int (65536 * k), .int 0, .int 0, .int 0, .int (if f < n then 1 else 0), .int (if f < n then f else 0)]
noncomputable def charsK (n : Int) : Int → List Int → List (Int × V)
  | _, [] => []
  | k, f :: r => (k + 1, charRow n k f) :: charsK n (k + 1) r
noncomputable def chars (d : FD) : List (Int × V) := charsK (many d) 0 d.begins
noncomputable def lastRow (d : FD) : Row := d.rows.getLastD (0, 0, 0, 0)
noncomputable def edgeStart (d : FD) : Int := if (lastRow d).1 == 255 then 256 * (lastRow d).2.2.1 + (lastRow d).2.2.2 else -1
noncomputable def fontFs (d : FD) : List (PySem.Str × V) := [("number", .int 1), ("name", .str "fa"), ("size", .int 655360), ("design", .int 655360), ("check", .int 0), ("params", .lst []), ("chars", .dct (chars d)),
  ("program", .tup (d.rows.map rowV)), ("kerns", .tup (GX.nums [7001, -3000])), ("boundary", .int d.edge), ("edge_start", .int (edgeStart d)), ("hyphen_char", .int 45), ("skew_char", .int (-1))]
noncomputable def fontV (d : FD) : V := .ins 259 (fontFs d)
noncomputable def firstOf (d : FD) (c : Int) : Option Int := if 1 ≤ c then d.begins[(c - 1).toNat]? else none
theorem getK_chars (n : Int) (c : Int) : ∀ (bs : List Int) (k : Int), getK c (charsK n k bs) = (if k + 1 ≤ c then bs[(c - k - 1).toNat]? else none).map fun f => charRow n (c - 1) f := by
  intro bs
  induction bs with
  | nil => intro k; simp [charsK, getK]
  | cons f r ih =>
    intro k
    unfold charsK getK
    by_cases q : k + 1 = c
    · subst q
      have h1 : (k + 1 - k - 1).toNat = 0 := by omega
      have h2 : k + 1 - 1 = k := by omega
      simp [h1, h2]
    · have ih' := ih (k + 1)
      unfold getK at ih'
      simp only [List.find?_cons, q, decide_false]
      rw [ih']
      by_cases p : k + 1 ≤ c
      · have p' : k + 1 + 1 ≤ c := by omega
        have e : (c - k - 1).toNat = (c - (k + 1) - 1).toNat + 1 := by omega
        simp [p, p', e]
      · have p' : ¬ k + 1 + 1 ≤ c := by omega
        simp [p, p']
theorem get_chars (d : FD) (c : Int) : getK c (chars d) = (firstOf d c).map fun f => charRow (many d) (c - 1) f := by
  unfold chars firstOf
  rw [getK_chars]
  simp
noncomputable def startsI (d : FD) (c : Int) : Int := if c == 256 then edgeStart d else match firstOf d c with
  | some f => if f < many d then f else -1
  | none => -1
noncomputable def hasB (d : FD) (c : Int) : Bool := (firstOf d c).isSome

section
variable {K : Params → Frag} {C : Gd K} {Λ : Led}
/-- what a class must say of a name that is stored -/
structure ClsF (K : Frag) (Cl : Addr) (name : PySem.Str) : Prop where
  hp : plainOver K Cl = true
  ht : takerIn K Cl name = some none
  hs : findIn K (.ref Cl) "__setattr__" = some (some (.builtin "object.__setattr__"))
  hh : hasDictIn K Cl = true
theorem SetAttrS.of {n : Nat} {a Cl dx : Addr} {name : PySem.Str} {b : V} {fs : List (PySem.Str × V)} {Q : Led → Prop} (F : ClsF (K C.w.params) Cl name) (ha : Λ a = some (.inst Cl dx)) (hd : Λ dx = some (.attrs fs)) (hz : fs.length ≤ 100)
    (q : Q (upd Λ dx (.attrs (putA name b fs)))) : SetAttrS C n (.ref a) name b Λ Q := SetAttrS.inst ha hd F.hp F.ht F.hs F.hh hz q
/-- the ledger of an object of a class under way -/
noncomputable abbrev inL (Λ : Led) (x Cl dx : Addr) (fs : List (PySem.Str × V)) : Led := upd (upd Λ dx (.attrs fs)) x (.inst Cl dx)
theorem inst_x {x Cl dx : Addr} {fs} : inL Λ x Cl dx fs x = some (.inst Cl dx) := upd_at _ _
theorem inst_d {x Cl dx : Addr} {fs} (h : x ≠ dx) : inL Λ x Cl dx fs dx = some (.attrs fs) := by rw [inL, upd_ne _ (Ne.symm h), upd_at]
theorem inst_put {x Cl dx : Addr} {fs fs'} (h : x ≠ dx) : upd (inL Λ x Cl dx fs) dx (.attrs fs') = inL Λ x Cl dx fs' := by
  funext b
  simp only [inL, upd]
  by_cases q : b = dx
  · subst q; simp [Ne.symm h]
  · simp [q]
theorem inst_drop {x Cl dx : Addr} {fs} (h : x ≠ dx) (hx : Λ x = none) (hd : Λ dx = none) : drop (drop (inL Λ x Cl dx fs) dx) x = Λ := by
  funext b
  simp only [inL, upd, drop]
  by_cases q : b = x
  · subst q; simp [hx]
  · by_cases q' : b = dx
    · subst q'; simp [hd]
    · simp [q, q']
theorem inst_le {x Cl dx : Addr} {fs} (hx : Λ x = none) (hd : Λ dx = none) : Led.le Λ (inL Λ x Cl dx fs) := fun b o e => by
  rw [inL, upd_ne _ (led_ne e hx), upd_ne _ (led_ne e hd)]; exact e
theorem SetAttrS.at {n : Nat} {x Cl dx : Addr} {name : PySem.Str} {b : V} {fs : List (PySem.Str × V)} {Q : Led → Prop} (F : ClsF (K C.w.params) Cl name) (h : x ≠ dx) (hz : fs.length ≤ 100) (q : Q (inL Λ x Cl dx (putA name b fs))) : SetAttrS C n (.ref x) name b (inL Λ x Cl dx fs) Q :=
  SetAttrS.of F inst_x (inst_d h) hz (by rw [inst_put h]; exact q)
end
variable {C : Gd KK} {B : Bd C} {ρ : Loc} {Λ : Led}
theorem ownF {name : PySem.Str} (h : findIn (KK C.w.params) (.ref 259) name = some none) : OwnName (KK C.w.params) 259 name := ⟨by kernel_rfl, by kernel_rfl, h⟩
theorem call_starts {d : FD} {c : Int} {Q : V → Led → Prop} (q : Q (.int (startsI d c)) Λ) : FnS C 1 (.ref 228) [fontV d, .int c] Λ Q := by
  refine FnS.def (n := 0) (names := ["self", "code"]) (da := []) rfl (by kernel_rfl) (fun s vs X hl => ?_) .nil (by decide) (by decide) rfl rfl rfl rfl fun A L hA => ?_
  · exact allB 2 (fun v0 v1 => BindsTo.of_eq rfl) vs hl
  refine Ex.ife (Tst.cmp (Ev.loc rfl (GX.EDGE (CmpS.eqi (TruS.bool (ite_ (fun h => ?_) fun h => ?_))))))
  · refine Ex.ret (Ev.attr (Ev.loc rfl (AttrS.ins (ownF (by kernel_rfl)) rfl rfl ?_)))
    rw [startsI, if_pos h] at q; exact q
  · refine Ex.nil (Ex.assign ?_)
    refine Ev.meth 0 (pl := _) ?_ (nle rfl)
    refine Ev.attr (Ev.loc rfl (AttrS.ins (ownF (by kernel_rfl)) rfl rfl ?_))
    refine MethS.dct PySem.F.slot_dict_get PySem.F.type_dict_get ⟨keepsF_bi _, ?_⟩
    refine Evs.cons (Ev.loc rfl (Evs.cons (GX.NO_CHARACTER (Evs.nil (CallS.get2 ?_)))))
    rw [startsI, if_neg (by rw [h]; exact Bool.false_ne_true)] at q
    rw [get_chars]
    cases e : firstOf d c with
    | none =>
      rw [e] at q
      refine Ex.ret (Ev.ife (Tst.cmp (Ev.sub (Ev.loc rfl (Ev.int (SubS.tup rfl rfl (by decide) (by decide) (GX.PROGRAM_SORT (CmpS.eqi (TruS.bool (iteF ?_))))))))))
      exact Ev.un (Ev.int (UnS.negi q))
    | some f =>
      rw [e] at q
      refine Ex.ret (Ev.ife (Tst.cmp (Ev.sub (Ev.loc rfl (Ev.int (SubS.tup rfl rfl (by decide) (by decide) (GX.PROGRAM_SORT (CmpS.eqi (TruS.bool ?_)))))))))
      by_cases p : f < many d
      · rw [if_pos p, show ((1 : Int) == 1) = true from rfl]
        refine iteT (Ev.sub (Ev.loc rfl (Ev.int (SubS.tup rfl rfl (by decide) (by decide) ?_))))
        simp only [if_pos p] at q ⊢; exact q
      · rw [if_neg p, show ((0 : Int) == 1) = false from rfl]
        refine iteF (Ev.un (Ev.int (UnS.negi ?_)))
        simp only [if_neg p] at q; exact q
theorem call_has {d : FD} {c : Int} {Q : V → Led → Prop} (q : Q (.bool (hasB d c)) Λ) : FnS C 1 (.ref 193) [fontV d, .int c] Λ Q := by
  refine FnS.def (n := 0) (names := ["self", "code"]) (da := []) rfl (by kernel_rfl) (fun s vs X hl => ?_) .nil (by decide) (by decide) rfl rfl rfl rfl fun A L hA => ?_
  · exact allB 2 (fun v0 v1 => BindsTo.of_eq rfl) vs hl
  refine Ex.ret (Ev.cmp (Ev.loc rfl (Ev.attr (Ev.loc rfl (AttrS.ins (ownF (by kernel_rfl)) rfl rfl (CmpS.inD ?_))))))
  rw [get_chars, Option.isSome_map]; exact q

-- nodes
noncomputable def charV (F : V) (c : Int) : V := .ins 295 [("font", F), ("code", .int c)]
noncomputable def kernV (w : Int) : V := .ins 336 [("width", .int w), ("sort", .int 0)]
noncomputable def ligV (F : V) (c : Int) (ps : List Int) (l r : Bool) : V := .ins 315 [("font", F), ("code", .int c), ("parts", .tup (GX.nums ps)), ("left", .bool l), ("right", .bool r)]
theorem init_Char {F : V} {c : Int} (hc : 0 ≤ c ∧ c ≤ 255) {x dx : Addr} (h : x ≠ dx) {Q : V → Led → Prop} (q : Q .none (inL Λ x 295 dx [("font", F), ("code", .int c)])) : FnS C 3 (.ref 292) [.ref x, F, .int c] (inL Λ x 295 dx []) Q := by
  refine FnS.def (n := 2) (names := ["self", "font", "code"]) (da := []) rfl (by kernel_rfl) (fun s vs X hl => ?_) .nil (by decide) (by decide) rfl rfl rfl rfl fun A L hA => ?_
  · exact allB 3 (fun v0 v1 v2 => BindsTo.of_eq rfl) vs hl
  refine Ex.setattr (Ev.loc rfl (Ev.loc rfl (SetAttrS.at ⟨by kernel_rfl, by kernel_rfl, by kernel_rfl, by kernel_rfl⟩ h (nle rfl) ?_)))
  refine Ex.setattr ?_
  refine Ev.call 2 (GX.check_code ⟨_, .ref _, keepsF_K (by kernel_rfl), ?_⟩) (nle rfl)
  refine Evs.cons (Ev.loc rfl (Evs.nil (call_check_code hc ?_).call))
  exact Ev.loc rfl (SetAttrS.at ⟨by kernel_rfl, by kernel_rfl, by kernel_rfl, by kernel_rfl⟩ h (nle rfl) (Ex.nil q))
theorem init_Kern {w : Int} (hw : -1073741823 ≤ w ∧ w ≤ 1073741823) {x dx : Addr} (h : x ≠ dx) {Q : V → Led → Prop} (q : Q .none (inL Λ x 336 dx [("width", .int w), ("sort", .int 0)])) : FnS C 3 (.ref 333) [.ref x, .int w, .int 0] (inL Λ x 336 dx []) Q := by
  refine FnS.def (n := 2) (names := ["self", "width", "sort"]) (da := []) rfl (by kernel_rfl) (fun s vs X hl => ?_) .nil (by decide) (by decide) rfl rfl rfl rfl fun A L hA => ?_
  · exact allB 3 (fun v0 v1 v2 => BindsTo.of_eq rfl) vs hl
  refine Ex.ife (Tst.is false ?_ ?_)
  · refine Tst.not (Tst.val ?_)
    refine Ev.call 1 (GX.is_whole ⟨_, .ref _, keepsF_K (by kernel_rfl), ?_⟩) (nle rfl)
    exact Evs.cons (Ev.loc rfl (Evs.cons (GX.FONT_KERN (Evs.cons (GX.MU_KERN (Evs.nil (call_is_whole (TruS.bool ⟨rfl, rfl⟩)).call))))))
  refine iteF (Ex.nil (Ex.setattr ?_))
  refine Ev.call 2 (GX.check_dimen ⟨_, .ref _, keepsF_K (by kernel_rfl), ?_⟩) (nle rfl)
  refine Evs.cons (Ev.loc rfl (Evs.nil (call_check_dimen hw ?_).call))
  refine Ev.loc rfl (SetAttrS.at ⟨by kernel_rfl, by kernel_rfl, by kernel_rfl, by kernel_rfl⟩ h (nle rfl) ?_)
  exact Ex.setattr (Ev.loc rfl (Ev.loc rfl (SetAttrS.at ⟨by kernel_rfl, by kernel_rfl, by kernel_rfl, by kernel_rfl⟩ h (nle rfl) (Ex.nil q))))
theorem nums_get (ps : List Int) (i : Nat) : (GX.nums ps)[i]? = ps[i]?.map V.int := by simp [GX.nums]
theorem init_Lig {F : V} {c : Int} {ps : List Int} {l r : Bool} (hc : 0 ≤ c ∧ c ≤ 255) (hp : ∀ p ∈ ps, 0 ≤ p ∧ p ≤ 255) (hz : ps.length ≤ sizeLine) {x dx : Addr} (h : x ≠ dx) {Q : V → Led → Prop}
    (q : Q .none (inL Λ x 315 dx [("font", F), ("code", .int c), ("parts", .tup (GX.nums ps)), ("left", .bool l), ("right", .bool r)])) : FnS C 3 (.ref 312) [.ref x, F, .int c, .tup (GX.nums ps), .bool l, .bool r] (inL Λ x 315 dx []) Q := by
  refine FnS.def (n := 2) (names := ["self", "font", "code", "parts", "left", "right"]) (da := []) rfl (by kernel_rfl) (fun s vs X hl => ?_) .nil (by decide) (by decide) rfl rfl rfl rfl fun A L hA => ?_
  · exact allB 6 (fun v0 v1 v2 v3 v4 v5 => binds_K X rfl rfl rfl rfl rfl) vs hl
  refine Ex.setattr (Ev.loc rfl (Ev.loc rfl (SetAttrS.at ⟨by kernel_rfl, by kernel_rfl, by kernel_rfl, by kernel_rfl⟩ h (nle rfl) ?_)))
  refine Ex.setattr ?_
  refine Ev.call 2 (GX.check_code ⟨_, .ref _, keepsF_K (by kernel_rfl), ?_⟩) (nle rfl)
  refine Evs.cons (Ev.loc rfl (Evs.nil (call_check_code hc ?_).call))
  refine Ev.loc rfl (SetAttrS.at ⟨by kernel_rfl, by kernel_rfl, by kernel_rfl, by kernel_rfl⟩ h (nle rfl) ?_)
  refine Ex.setattr ?_
  refine Ev.call 0 (GX.tupleT ⟨_, .typ _, keepsF_typ _, ?_⟩) (Nat.zero_le _)
  refine Evs.cons (Ev.frz ?_)
  refine Ev.comp (fun ys acc Λ' => Λ' = inL Λ x 315 dx (putA "code" (.int c) (putA "font" F [])) ∧ ∃ k, k ≤ ps.length ∧ ys = (GX.nums ps).drop k ∧ acc = (GX.nums ps).take k) (ρc := []) (cl := []) ⟨rfl, fun x c e => (nomatch e), fun x a e => (nomatch e)⟩ (by decide) rfl (by decide) rfl
    (Ev.loc rfl ⟨_, IterS.tup, by simpa [GX.nums] using hz, rfl, 0, Nat.zero_le _, rfl, rfl⟩) ?_ ?_
  · rintro Cc y ys acc Λ' ⟨rfl, k, hk, e1, rfl⟩
    refine TstF.nil (iteT ?_)
    have hk' : k < ps.length := by
      by_cases z : k < ps.length
      · exact z
      · rw [List.drop_eq_nil_of_le (by simp [GX.nums]; omega)] at e1; cases e1
    have e2 : (GX.nums ps).drop k = .int ps[k] :: (GX.nums ps).drop (k + 1) := by rw [List.drop_eq_getElem_cons (by simpa [GX.nums] using hk')]; simp [GX.nums]
    rw [e2] at e1
    cases e1
    refine Ev.call 2 (GX.check_code ⟨_, .ref _, keepsF_K (by kernel_rfl), ?_⟩) (nle rfl)
    refine Evs.cons (Ev.loc rfl (Evs.nil (call_check_code (hp _ (List.getElem_mem hk')) ?_).call))
    refine ⟨rfl, k + 1, hk', rfl, ?_⟩
    rw [List.take_add_one, nums_get, List.getElem?_eq_getElem hk']; rfl
  rintro acc Λ' D ⟨rfl, k, hk, e1, rfl⟩ nD
  have hk' : ps.length ≤ k := by
    have := congrArg List.length e1
    simp [GX.nums] at this; omega
  rw [List.take_of_length_le (by simpa [GX.nums] using hk')]
  refine ⟨D, _, rfl, upd_at _ _, Evs.nil (CallS.tupleL (by simpa [GX.nums] using hz) ?_)⟩
  rw [drop_upd _ nD]
  refine Ev.loc rfl (SetAttrS.at ⟨by kernel_rfl, by kernel_rfl, by kernel_rfl, by kernel_rfl⟩ h (nle rfl) ?_)
  refine Ex.setattr (Ev.loc rfl (Ev.loc rfl (SetAttrS.at ⟨by kernel_rfl, by kernel_rfl, by kernel_rfl, by kernel_rfl⟩ h (nle rfl) ?_)))
  exact Ex.setattr (Ev.loc rfl (Ev.loc rfl (SetAttrS.at ⟨by kernel_rfl, by kernel_rfl, by kernel_rfl, by kernel_rfl⟩ h (nle rfl) (Ex.nil q))))
end Mine
end
section
namespace Mine
section
variable {K : Params → Frag} {C : Gd K} {B : Bd C} {ρ : Loc} {Λ : Led}
theorem Sub.nil : Sub [] ρ := fun x a e => (nomatch e)
theorem Sub.cons {x : PySem.Str} {a : V} {l : Loc} (h : ρ.lookup x = some a) (t : Sub l ρ) : Sub ((x, a) :: l) ρ := fun y b e => by
  rw [List.lookup_cons] at e
  by_cases q : y = x
  · subst q; simp only [beq_self_eq_true] at e; cases e; exact h
  · have : (y == x) = false := by simpa using q
    simp only [this] at e; exact t y b e
theorem Tst.and2 {a b : Expr} {pos : Pos} {p q : Bool} (h1 : Tst B ρ a Λ (QIs p Λ)) (h2 : p = true → Tst B ρ b Λ (QIs q Λ)) : Tst B ρ (.BoolOp .And [a, b] pos) Λ (QIs (p && q) Λ) := by
  refine Tst.bop (TstAll.and (h1.mono fun c Λ' ⟨e, eL⟩ => ?_))
  subst e eL
  cases c with
  | false => exact iteF ⟨rfl, rfl⟩
  | true =>
    refine iteT (TstAll.and ((h2 rfl).mono fun c Λ' ⟨e, eL⟩ => ?_))
    subst e eL
    cases c with
    | false => exact iteF ⟨rfl, rfl⟩
    | true => exact iteT (TstAll.and0 ⟨rfl, rfl⟩)
theorem Tst.or2 {a b : Expr} {pos : Pos} {p q : Bool} (h1 : Tst B ρ a Λ (QIs p Λ)) (h2 : p = false → Tst B ρ b Λ (QIs q Λ)) : Tst B ρ (.BoolOp .Or [a, b] pos) Λ (QIs (p || q) Λ) := by
  refine Tst.bop (TstAll.or (h1.mono fun c Λ' ⟨e, eL⟩ => ?_))
  subst e eL
  cases c with
  | true => exact iteT ⟨rfl, rfl⟩
  | false =>
    refine iteF (TstAll.or ((h2 rfl).mono fun c Λ' ⟨e, eL⟩ => ?_))
    subst e eL
    cases c with
    | true => exact iteT ⟨rfl, rfl⟩
    | false => exact iteF (TstAll.or0 ⟨rfl, rfl⟩)
/-- what stands behind both arms of an if -/
noncomputable def Join {ι : Type} (P : ι → Prop) (ρJ : ι → Loc) (ΛJ : ι → Led) (Q : Fl → Loc → Led → Prop) : Fl → Loc → Led → Prop := fun fl ρ Λ => match fl with
  | .next => ∃ i, P i ∧ Sub (ρJ i) ρ ∧ Led.le (ΛJ i) Λ
  | fl => Q fl ρ Λ
theorem Ex.ifj {ι : Type} (P : ι → Prop) (ρJ : ι → Loc) (ΛJ : ι → Led) {t : Expr} {b e : List Stmt} {pos : Pos} {rest : List Stmt} {Q : Fl → Loc → Led → Prop}
    (h : Tst B ρ t Λ fun c Λ₁ => if c then Ex B b ρ Λ₁ (Join P ρJ ΛJ Q) else Ex B e ρ Λ₁ (Join P ρJ ΛJ Q)) (k : ∀ i, P i → Ex B rest (ρJ i) (ΛJ i) Q) : Ex B (.If t b e pos :: rest) ρ Λ Q := by
  have m : ∀ {ss : List Stmt} {Λ₁ : Led}, Ex B ss ρ Λ₁ (Join P ρJ ΛJ Q) → Ex B ss ρ Λ₁ (Then B rest Q) := fun z => z.mono fun fl ρ' Λ' q => by
    cases fl with
    | next => obtain ⟨i, hp, h1, h2⟩ := q; exact Ex.weaken (k i hp) h1 h2
    | brk => exact q
    | cont => exact q
    | ret a => exact q
  refine Ex.ife (h.mono fun c Λ₁ z => ?_)
  cases c with
  | false => exact iteF (m (by simpa using z))
  | true => exact iteT (m (by simpa using z))
theorem idx {vs : List V} {k : Int} {a : V} (h0 : 0 ≤ k) (hx : vs[k.toNat]? = some a) (hz : vs.length ≤ sizeLine) : seqIndex? k vs.length = some k.toNat ∧ -(2 ^ 63) ≤ k ∧ k < 2 ^ 63 := by
  have : k.toNat < vs.length := by
    by_cases q : k.toNat < vs.length
    · exact q
    · rw [List.getElem?_eq_none (by omega)] at hx; cases hx
  rw [sizeLine_eq] at hz
  exact ⟨seqIndex_pos h0 (by omega), by omega, by omega⟩
theorem SubS.tupI {n : Nat} {vs : List V} {k : Int} {a : V} {Q : V → Led → Prop} (h0 : 0 ≤ k) (hx : vs[k.toNat]? = some a) (hz : vs.length ≤ sizeLine) (q : Q a Λ) : SubS C n (.tup vs) (.int k) Λ Q :=
  SubS.tup (idx h0 hx hz).1 hx (idx h0 hx hz).2.1 (idx h0 hx hz).2.2 q
theorem SubS.lstI {n : Nat} {vs : List V} {k : Int} {a : V} {Q : V → Led → Prop} (h0 : 0 ≤ k) (hx : vs[k.toNat]? = some a) (hz : vs.length ≤ sizeLine) (q : Q a Λ) : SubS C n (.lst vs) (.int k) Λ Q :=
  SubS.lst (idx h0 hx hz).1 hx (idx h0 hx hz).2.1 (idx h0 hx hz).2.2 q
theorem inNums (l : List Int) (i : Int) : ((V.ds (GX.nums l)).any fun y => PyData.eqv y (.int i)) = l.any (· == i) := by
  induction l with
  | nil => rfl
  | cons a r ih => show (PyData.eqv (.int a) (.int i) || _) = _; rw [List.any_cons]; congr 1
theorem nums_ok (n : Nat) (l : List Int) : DsOk n (GX.nums l) := DsOk.of fun a ha => by
  obtain ⟨i, _, rfl⟩ := List.mem_map.mp ha
  exact .int
theorem CmpS.inNumsT {n : Nat} {i : Int} {l : List Int} {Q : V → Led → Prop} (q : Q (.bool (l.any (· == i))) Λ) : CmpS C n .In (.int i) (.tup (GX.nums l)) Λ Q :=
  CmpS.inT (.val .int) (nums_ok 7 l) (by show Q (.bool _) Λ; rw [show V.d (.int i) = .int i from rfl, inNums]; exact q)
end

-- what a font's program says
noncomputable def knownOp (op : Int) : Int := if [0, 1, 2, 3, 5, 6, 7, 11].any (· == op) then op else 0
noncomputable def amount (k : Int) : Int := if k == 0 then 7001 else -3000
noncomputable def scan (rows : List Row) (right : Int) : Nat → Int → Option (Int × Int)
  | 0, _ => none
  | n + 1, p => match rows[p.toNat]? with
    | none => none
    | some r => if r.2.1 == right && decide (r.1 ≤ 128) then some (r.2.2.1, r.2.2.2) else if r.1 < 128 then scan rows right n (p + r.1 + 1) else none
/-- a row that makes sense at its place -/
structure RowOK (len letters i : Int) (r : Row) : Prop where
  s0 : 0 ≤ r.1
  s1 : r.1 ≤ 255
  f0 : 0 ≤ r.2.1
  f1 : r.2.1 ≤ 255
  lead : 128 < r.1 → r.2.1 = 0 ∧ r.2.2.1 = 0 ∧ 0 ≤ r.2.2.2 ∧ r.2.2.2 < len
  step : r.1 < 128 → i + r.1 + 1 < len
  kern : 128 ≤ r.2.2.1 → r.2.2.1 = 128 ∧ (r.2.2.2 = 0 ∨ r.2.2.2 = 1)
  lig : r.1 ≤ 128 → r.2.2.1 < 128 → 0 ≤ r.2.2.1 ∧ 1 ≤ r.2.2.2 ∧ r.2.2.2 ≤ letters
  last : r.1 = 255 → i + 1 = len
structure FOK (d : FD) : Prop where
  r0 : 1 ≤ d.rows.length
  r1 : d.rows.length ≤ 100
  b0 : 1 ≤ d.begins.length
  b1 : d.begins.length ≤ 7
  beg : ∀ b ∈ d.begins, 0 ≤ b ∧ b ≤ many d
  edge : d.edge = 256 ∨ d.edge = 1 ∨ d.edge = 9
  rows : ∀ (i : Nat) (r : Row), d.rows[i]? = some r → RowOK (many d) d.begins.length i r
noncomputable def place0 (d : FD) (left : Int) : Int := match d.rows[(startsI d left).toNat]? with
  | some r => if left != 256 && decide (r.1 > 128) then 256 * r.2.2.1 + r.2.2.2 else startsI d left
  | none => 0
noncomputable def lookO (d : FD) (left right : Int) : Option (Int × Int) := if startsI d left < 0 || right == 256 then none else scan d.rows right d.rows.length (place0 d left)
noncomputable def toldV : Option (Int × Int) → V
  | none => .none
  | some (op, rest) => if op ≥ 128 then .tup [.int 0, .int (amount rest)] else .tup [.int (knownOp op + 1), .int rest]

theorem starts_lt {d : FD} (h : FOK d) (c : Int) : startsI d c < many d := by
  have h0 := h.r0
  unfold startsI
  split
  · unfold edgeStart
    split
    · rename_i q
      have e : d.rows[d.rows.length - 1]? = some (lastRow d) := by
        unfold lastRow
        rw [List.getLastD_eq_getLast?, List.getLast?_eq_getElem?]
        have : d.rows.length - 1 < d.rows.length := by omega
        rw [List.getElem?_eq_getElem this]; rfl
      have ok := h.rows _ _ e
      have q' : (lastRow d).1 = 255 := by simpa using q
      have := ok.lead (by omega)
      omega
    · unfold many; omega
  · split
    · rename_i f e
      split
      · assumption
      · unfold many; omega
    · unfold many; omega
theorem firstOf_nonneg {d : FD} (h : FOK d) {c f : Int} (e : firstOf d c = some f) : 0 ≤ f ∧ f ≤ many d := by
  unfold firstOf at e
  split at e
  · exact h.beg f (List.mem_of_getElem? e)
  · cases e
theorem rows_get {d : FD} {p : Int} (h0 : 0 ≤ p) (h1 : p < many d) : ∃ r, d.rows[p.toNat]? = some r := by
  unfold many at h1
  have : p.toNat < d.rows.length := by omega
  exact ⟨_, List.getElem?_eq_getElem this⟩

variable {C : Gd KK} {B : Bd C} {ρ : Loc} {Λ : Led}
theorem SubS.row {n : Nat} {d : FD} {p : Int} {r : Row} {Q : V → Led → Prop} (h : FOK d) (h0 : 0 ≤ p) (e : d.rows[p.toNat]? = some r) (q : Q (rowV r) Λ) : SubS C n (.tup (d.rows.map rowV)) (.int p) Λ Q :=
  SubS.tupI h0 (by rw [List.getElem?_map, e]; rfl) (by rw [List.length_map, sizeLine_eq]; have := h.r1; omega) q
theorem call_look {d : FD} (h : FOK d) {left right : Int} {Q : V → Led → Prop} (q : Q (toldV (lookO d left right)) Λ) : FnS C 2 (.ref 348) [fontV d, .int left, .int right] Λ Q := by
  refine FnS.def (n := 1) (names := ["font", "left", "right"]) (da := []) rfl (by kernel_rfl) (fun s vs X hl => ?_) .nil (by decide) (by decide) rfl rfl rfl rfl fun A L hA => ?_
  · exact allB 3 (fun v0 v1 v2 => BindsTo.of_eq rfl) vs hl
  refine Ex.assign (Ev.meth 1 (pl := _) ?_ (nle rfl))
  refine Ev.loc rfl (MethS.user (f := 228) (by kernel_rfl) (by kernel_rfl) (by kernel_rfl) (by kernel_rfl) rfl ⟨keepsF_K (by kernel_rfl), ?_⟩)
  refine Evs.cons (Ev.loc rfl (Evs.nil (call_starts ?_).call))
  refine Ex.ife (Tst.is (decide (startsI d left < 0) || right == 256) ?_ ?_)
  · exact Tst.or2 (Tst.cmp (Ev.loc rfl (Ev.int (CmpS.lti (TruS.bool ⟨rfl, rfl⟩))))) fun _ => Tst.cmp (Ev.loc rfl (GX.EDGE (CmpS.eqi (TruS.bool ⟨rfl, rfl⟩))))
  refine ite_ (fun t => ?_) fun t => ?_
  · refine Ex.ret (Ev.nothing ?_)
    rw [lookO, if_pos t] at q; exact q
  rw [lookO, if_neg (by rw [t]; exact Bool.false_ne_true)] at q
  have hp0 : 0 ≤ startsI d left := by
    simp only [Bool.or_eq_false_iff, decide_eq_false_iff_not] at t; omega
  obtain ⟨r, hr⟩ := rows_get hp0 (starts_lt h left)
  refine Ex.nil (Ex.assign (Ev.attr (Ev.loc rfl (AttrS.ins (ownF (by kernel_rfl)) rfl rfl ?_))))
  have e0 : place0 d left = if left != 256 && decide (r.1 > 128) then 256 * r.2.2.1 + r.2.2.2 else startsI d left := by unfold place0; rw [hr]
  refine Ex.ifj (ι := Unit) (fun _ => 0 ≤ place0 d left ∧ place0 d left < many d) (fun _ => [("font", fontV d), ("right", .int right), ("program", .tup (d.rows.map rowV)), ("place", .int (place0 d left))]) (fun _ => Λ) (Tst.is (left != 256 && decide (r.1 > 128)) ?_ ?_) ?_
  · exact Tst.and2 (Tst.cmp (Ev.loc rfl (GX.EDGE (CmpS.nei (TruS.bool ⟨rfl, rfl⟩))))) fun _ => Tst.cmp (Ev.sub (Ev.sub (Ev.loc rfl (Ev.loc rfl (SubS.row h hp0 hr (Ev.int (SubS.tup rfl rfl (by decide) (by decide) (GX.STOP_SKIP (CmpS.gti (TruS.bool ⟨rfl, rfl⟩))))))))))
  · refine ite_ (fun t => ?_) fun t => ?_
    · rw [if_pos t] at e0
      have ok := h.rows _ _ hr
      have t' : r.1 > 128 := by simp only [Bool.and_eq_true, decide_eq_true_eq] at t; exact t.2
      obtain ⟨l1, l2, l3, l4⟩ := ok.lead t'
      refine Ex.assign ?_
      refine Ev.bin (Ev.bin (Ev.int (Ev.sub (Ev.sub (Ev.loc rfl (Ev.loc rfl (SubS.row h hp0 hr (Ev.int (SubS.tup rfl rfl (by decide) (by decide) (BinS.muli (IntMulOk.of_left (by decide)) ?_))))))))))
      refine Ev.sub (Ev.sub (Ev.loc rfl (Ev.loc rfl (SubS.row h hp0 hr (Ev.int (SubS.tup rfl rfl (by decide) (by decide) (BinS.addi ?_)))))))
      exact Ex.nil ⟨(), ⟨by rw [e0]; omega, by rw [e0]; omega⟩, Sub.cons rfl (Sub.cons rfl (Sub.cons rfl (Sub.cons (by rw [e0]; rfl) Sub.nil))), le_refl'⟩
    · rw [if_neg (by rw [t]; exact Bool.false_ne_true)] at e0
      exact Ex.nil ⟨(), ⟨by rw [e0]; exact hp0, by rw [e0]; exact starts_lt h left⟩, Sub.cons rfl (Sub.cons rfl (Sub.cons rfl (Sub.cons (by rw [e0]; rfl) Sub.nil))), le_refl'⟩
  · rintro _ ⟨p0, p1⟩
    refine Ex.assign (Ev.bool ?_)
    refine Ex.while (ι := Nat × Int × Bool) (fun i => (i.2.2 = true → 0 ≤ i.2.1 ∧ i.2.1 < many d ∧ many d - i.2.1 ≤ i.1 ∧ scan d.rows right i.1 i.2.1 = scan d.rows right d.rows.length (place0 d left)) ∧ (i.2.2 = false → scan d.rows right d.rows.length (place0 d left) = none)) (fun i => if i.2.2 then i.1 + 1 else 0)
      (fun i => [("font", fontV d), ("right", .int right), ("program", .tup (d.rows.map rowV)), ("place", .int i.2.1), ("going", .bool i.2.2)]) (fun _ => Λ) (d.rows.length, place0 d left, true) ⟨fun _ => ⟨p0, p1, by show many d - place0 d left ≤ (d.rows.length : Int); unfold many; omega, rfl⟩, fun e => (nomatch e)⟩
      (Sub.cons rfl (Sub.cons rfl (Sub.cons rfl (Sub.cons rfl (Sub.cons rfl Sub.nil))))) (fun _ _ e => e) ?_
    rintro ⟨m, p, g⟩ ⟨i1, i2⟩
    refine Tst.val (Ev.loc rfl (TruS.bool ?_))
    cases g with
    | false =>
      refine iteF (Ex.ret (Ev.nothing ?_))
      rw [i2 rfl] at q; exact q
    | true =>
      obtain ⟨j0, j1, j2, j3⟩ := i1 rfl
      dsimp only at j0 j1 j2 j3
      obtain ⟨r, hr⟩ := rows_get j0 j1
      have ok := h.rows _ _ hr
      have m1 : ∃ m', m = m' + 1 := ⟨m - 1, by omega⟩
      obtain ⟨m', rfl⟩ := m1
      rw [scan, hr] at j3
      dsimp only at j3
      refine iteT (Ex.tup4 (Ev.sub (Ev.loc rfl (Ev.loc rfl (SubS.row h j0 hr ⟨_, _, _, _, rfl, ?_⟩)))))
      refine Ex.ife (Tst.is (r.2.1 == right && decide (r.1 ≤ 128)) ?_ ?_)
      · exact Tst.and2 (Tst.cmp (Ev.loc rfl (Ev.loc rfl (CmpS.eqi (TruS.bool ⟨rfl, rfl⟩))))) fun _ => Tst.cmp (Ev.loc rfl (GX.STOP_SKIP (CmpS.lei (TruS.bool ⟨rfl, rfl⟩))))
      refine ite_ (fun t => ?_) fun t => ?_
      · rw [if_pos t] at j3
        rw [← j3, toldV] at q
        refine Ex.ife (Tst.cmp (Ev.loc rfl (GX.KERN_OP (CmpS.gei (TruS.bool (ite_ (fun u => ?_) fun u => ?_))))))
        · have u' : r.2.2.1 ≥ 128 := by simpa using u
          rw [if_pos u'] at q
          obtain ⟨k1, k2⟩ := ok.kern u'
          refine Ex.ret (Ev.tup (Evs.cons (Ev.int (Evs.cons (Ev.sub (Ev.attr (Ev.loc rfl (AttrS.ins (ownF (by kernel_rfl)) rfl rfl ?_))))))))
          refine Ev.bin (Ev.bin (Ev.int (Ev.bin (Ev.loc rfl (GX.KERN_OP (BinS.subi (BinS.muli (IntMulOk.of_left (by decide)) (Ev.loc rfl (BinS.addi ?_)))))))))
          rw [k1]
          rcases k2 with k2 | k2
          · rw [k2] at q ⊢
            exact SubS.tup rfl rfl (by decide) (by decide) (Evs.nil ⟨nle rfl, q⟩)
          · rw [k2] at q ⊢
            exact SubS.tup rfl rfl (by decide) (by decide) (Evs.nil ⟨nle rfl, q⟩)
        · have u' : ¬ r.2.2.1 ≥ 128 := by simpa using u
          rw [if_neg u'] at q
          refine Ex.nil (Ex.ret (Ev.tup (Evs.cons (Ev.bin (Ev.is (.int (knownOp r.2.2.1)) ?_ (Ev.int (BinS.addi (Evs.cons (Ev.loc rfl (Evs.nil ⟨nle rfl, q⟩))))))))))
          refine Ev.ife (Tst.cmp (Ev.loc rfl (GX.KNOWN_OPS (CmpS.inNumsT (TruS.bool (ite_ (fun u => ?_) fun u => ?_))))))
          · exact Ev.loc rfl ⟨by unfold knownOp; rw [if_pos u], rfl⟩
          · exact Ev.int ⟨by unfold knownOp; rw [if_neg (by rw [u]; exact Bool.false_ne_true)], rfl⟩
      · rw [if_neg (by rw [t]; exact Bool.false_ne_true)] at j3
        refine Ex.nil (Ex.assign (Ev.cmp (Ev.loc rfl (GX.STOP_SKIP (CmpS.lti ?_)))))
        refine Ex.assign (Ev.bin (Ev.bin (Ev.loc rfl (Ev.loc rfl (BinS.addi (Ev.int (BinS.addi ?_)))))))
        refine Ex.nil ⟨(m', p + r.1 + 1, decide (r.1 < 128)), ⟨fun e => ?_, fun e => ?_⟩, ?_, Sub.cons rfl (Sub.cons rfl (Sub.cons rfl (Sub.cons rfl (Sub.cons rfl Sub.nil)))), fun _ _ e => e⟩
        · have e' : r.1 < 128 := by simpa using e
          rw [if_pos e'] at j3
          have := ok.step e'
          have := ok.s0
          exact ⟨by dsimp only; omega, by dsimp only; omega, by dsimp only; omega, j3⟩
        · have e' : ¬ r.1 < 128 := by simpa using e
          rw [if_neg e'] at j3
          exact j3.symm
        · show (if _ then _ else _) < (if _ then _ else _)
          rw [if_pos rfl]
          split <;> simp
end Mine
end
section
namespace Mine
section
variable {K : Params → Frag} {C : Gd K} {B : Bd C} {ρ : Loc} {Λ : Led}
theorem drop_led {a : Addr} {x : O} (h : Λ a = none) : drop (upd Λ a x) a = Λ := drop_upd x h
theorem Ev.nilL {pos : Pos} {Q : V → Led → Prop} (q : Q (.lst []) Λ) : Ev B ρ (.List [] pos) Λ Q :=
  Ev.frz (Ev.list (Evs.nil ⟨nle rfl, fun a na => ⟨a, [], rfl, upd_at _ _, by rw [drop_upd _ na]; exact q⟩⟩))
theorem eqv_nil (l : List PyData) : PyData.eqv (.list l) (.list []) = l.isEmpty := by cases l <;> rfl
theorem CmpS.eqNil {n : Nat} {r : Addr} {vs : List V} {Q : V → Led → Prop} (hr : Λ r = some (.list vs)) (hd : DsOk 7 vs) (q : Q (.bool vs.isEmpty) Λ) : CmpS C n .Eq (.ref r) (.lst []) Λ Q :=
  CmpS.eq (.led hr hd) (.val (.lst .nil)) (by show Q (.bool (PyData.eqv _ (.list []))) Λ; rw [eqv_nil]; have : (V.ds vs).isEmpty = vs.isEmpty := by cases vs <;> rfl
                                              rw [this]; exact q)
end

noncomputable abbrev Cell := Int × List Int × Bool
noncomputable def cellV (c : Cell) : V := .tup [.int c.1, .tup (GX.nums c.2.1), .bool c.2.2]
noncomputable def nowV : Option Cell → V
  | none => .none
  | some c => cellV c
inductive Node where
  | char (c : Int) | kern (w : Int) | lig (c : Int) (ps : List Int) (l r : Bool)
noncomputable def nodeV (F : V) : Node → V
  | .char c => charV F c
  | .kern w => kernV w
  | .lig c ps l r => ligV F c ps l r
structure W where
  wait : List Cell
  now : Option Cell
  edge : Int
  found : List Node
  hl : Bool
  hr : Bool
  going : Bool
noncomputable def wAttrs (F : V) (a f : Addr) (s : W) : List (PySem.Str × V) :=
  [("font", F), ("waiting", .ref a), ("now", nowV s.now), ("edge", .int s.edge), ("found", .ref f), ("hit_left", .bool s.hl), ("hit_right", .bool s.hr), ("is_going", .bool s.going)]
structure WAt (Λ : Led) (x dx a f : Addr) (F : V) (s : W) : Prop where
  hx : Λ x = some (.inst 363 dx)
  hd : Λ dx = some (.attrs (wAttrs F a f s))
  ha : Λ a = some (.list (s.wait.reverse.map cellV))
  hf : Λ f = some (.list (s.found.map (nodeV F)))
  af : a ≠ f
/-- what is not the word's own stays -/
noncomputable def Oth (dx a f : Addr) (Λ Λ' : Led) : Prop := ∀ b, b ≠ dx → b ≠ a → b ≠ f → Λ' b = Λ b
theorem Oth.refl {dx a f : Addr} {Λ : Led} : Oth dx a f Λ Λ := fun _ _ _ _ => rfl
theorem Oth.trans {dx a f : Addr} {Λ Λ' Λ'' : Led} (x : Oth dx a f Λ Λ') (y : Oth dx a f Λ' Λ'') : Oth dx a f Λ Λ'' := fun b h1 h2 h3 => (y b h1 h2 h3).trans (x b h1 h2 h3)
noncomputable def CellOK (c : Cell) : Prop := (0 ≤ c.1 ∧ c.1 ≤ 255) ∧ ∀ p ∈ c.2.1, 0 ≤ p ∧ p ≤ 255
/-- how many letters the cells stand for -/
noncomputable def weight : List Cell → Nat
  | [] => 0
  | c :: r => c.2.1.length + weight r
noncomputable def nowWeight : Option Cell → Nat
  | none => 0
  | some c => c.2.1.length
structure WOK (s : W) : Prop where
  nows : ∀ c, s.now = some c → CellOK c
  waits : ∀ c ∈ s.wait, CellOK c
  wgt : weight s.wait + nowWeight s.now ≤ 10000
noncomputable def leaveW (s : W) : W := match s.now with
  | none => s
  | some (code, ps, made) => if made then { s with found := s.found ++ [.lig code ps s.hl (s.hr && s.wait.isEmpty)], hl := false } else { s with found := s.found ++ [.char code] }
noncomputable def passW (s : W) : W := match (leaveW s).wait with
  | [] => { leaveW s with going := false }
  | c :: r => { leaveW s with now := some c, wait := r }
theorem cell_ok (c : Cell) : DOk 7 (cellV c) := .tup (.cons .int (.cons (.tup (nums_ok 5 _)) (.cons .bool .nil)))
theorem cells_ok (l : List Cell) : DsOk 7 (l.map cellV) := DsOk.of fun a ha => by
  obtain ⟨c, _, rfl⟩ := List.mem_map.mp ha
  exact cell_ok c
theorem leaveW_wait (s : W) : (leaveW s).wait = s.wait := by unfold leaveW; split; rfl; split <;> rfl
theorem leaveW_now (s : W) : (leaveW s).now = s.now := by unfold leaveW; split; rfl; split <;> rfl
theorem leaveW_len (s : W) : (leaveW s).found.length ≤ s.found.length + 1 := by unfold leaveW; split; omega; split <;> simp

variable {C : Gd KK} {B : Bd C} {ρ : Loc} {Λ : Led}
section
variable {x dx a f : Addr} {F : V} {s : W}
theorem WAt.nx (h : WAt Λ x dx a f F s) : x ≠ dx ∧ x ≠ a ∧ x ≠ f ∧ dx ≠ a ∧ dx ≠ f := by
  refine ⟨?_, ?_, ?_, ?_, ?_⟩ <;> rintro rfl
  · have := h.hd; rw [h.hx] at this; cases this
  · have := h.ha; rw [h.hx] at this; cases this
  · have := h.hf; rw [h.hx] at this; cases this
  · have := h.ha; rw [h.hd] at this; cases this
  · have := h.hf; rw [h.hd] at this; cases this
theorem ownW {name : PySem.Str} (h : findIn (KK C.w.params) (.ref 363) name = some none) : OwnName (KK C.w.params) 363 name := ⟨by kernel_rfl, by kernel_rfl, h⟩
theorem WAt.attr {n : Nat} {name : PySem.Str} {v : V} {Q : V → Led → Prop} (h : WAt Λ x dx a f F s) (hn : findIn (KK C.w.params) (.ref 363) name = some none) (hl : (wAttrs F a f s).lookup name = some v) (hb : notBi v = true) (q : Q v Λ) : AttrS C n (.ref x) name Λ Q :=
  AttrS.led (ownW hn) h.hx h.hd hl hb q
theorem WAt.setd {s' : W} (h : WAt Λ x dx a f F s) (e1 : s'.wait = s.wait) (e2 : s'.found = s.found) : WAt (upd Λ dx (.attrs (wAttrs F a f s'))) x dx a f F s' ∧ Oth dx a f Λ (upd Λ dx (.attrs (wAttrs F a f s'))) := by
  obtain ⟨n1, n2, n3, n4, n5⟩ := h.nx
  exact ⟨⟨by rw [upd_ne _ n1]; exact h.hx, upd_at _ _, by rw [upd_ne _ (Ne.symm n4), e1]; exact h.ha, by rw [upd_ne _ (Ne.symm n5), e2]; exact h.hf, h.af⟩, fun b h1 _ _ => upd_ne _ h1⟩
theorem WAt.seta {w' : List Cell} (h : WAt Λ x dx a f F s) : WAt (upd Λ a (.list (w'.reverse.map cellV))) x dx a f F { s with wait := w' } ∧ Oth dx a f Λ (upd Λ a (.list (w'.reverse.map cellV))) := by
  obtain ⟨n1, n2, n3, n4, n5⟩ := h.nx
  exact ⟨⟨by rw [upd_ne _ n2]; exact h.hx, by rw [upd_ne _ n4]; exact h.hd, upd_at _ _, by rw [upd_ne _ (Ne.symm h.af)]; exact h.hf, h.af⟩, fun b _ h2 _ => upd_ne _ h2⟩
theorem WAt.setf {f' : List Node} (h : WAt Λ x dx a f F s) : WAt (upd Λ f (.list (f'.map (nodeV F)))) x dx a f F { s with found := f' } ∧ Oth dx a f Λ (upd Λ f (.list (f'.map (nodeV F)))) := by
  obtain ⟨n1, n2, n3, n4, n5⟩ := h.nx
  exact ⟨⟨by rw [upd_ne _ n3]; exact h.hx, by rw [upd_ne _ n5]; exact h.hd, by rw [upd_ne _ h.af]; exact h.ha, upd_at _ _, h.af⟩, fun b _ _ h3 => upd_ne _ h3⟩
/-- word.name = v -/
theorem WAt.put {n : Nat} {name : PySem.Str} {v : V} {s' : W} {Q : Led → Prop} (h : WAt Λ x dx a f F s) (c : ClsF (KK C.w.params) 363 name) (hp : putA name v (wAttrs F a f s) = wAttrs F a f s') (e1 : s'.wait = s.wait) (e2 : s'.found = s.found)
    (q : ∀ Λ', WAt Λ' x dx a f F s' → Oth dx a f Λ Λ' → Q Λ') : SetAttrS C n (.ref x) name v Λ Q :=
  SetAttrS.of c h.hx h.hd (nle rfl) (by rw [hp]; exact q _ (h.setd e1 e2).1 (h.setd e1 e2).2)
/-- word.waiting == [] -/
theorem WAt.empty {p1 p2 p3 p4 : Pos} {Q : V → Led → Prop} (h : WAt Λ x dx a f F s) (hw : ρ.lookup ("word" : PySem.Str) = some (.ref x)) (q : Q (.bool s.wait.isEmpty) Λ) : Ev B ρ (.Compare (.Attribute (.Name "word" p1) "waiting" p2) [.Eq] [.List [] p3] p4) Λ Q :=
  Ev.cmp (Ev.attr (Ev.loc hw (h.attr (by kernel_rfl) rfl rfl (Ev.nilL (CmpS.eqNil h.ha (cells_ok _) (by
    have : (s.wait.reverse.map cellV).isEmpty = s.wait.isEmpty := by rw [List.isEmpty_map, List.isEmpty_reverse]
    rw [this]; exact q))))))
theorem WAt.emptyT {p1 p2 p3 p4 : Pos} {Q : Bool → Led → Prop} (h : WAt Λ x dx a f F s) (hw : ρ.lookup ("word" : PySem.Str) = some (.ref x)) (q : Q s.wait.isEmpty Λ) : Tst B ρ (.Compare (.Attribute (.Name "word" p1) "waiting" p2) [.Eq] [.List [] p3] p4) Λ Q :=
  Tst.cmp (Ev.attr (Ev.loc hw (h.attr (by kernel_rfl) rfl rfl (Ev.nilL (CmpS.eqNil h.ha (cells_ok _) (by
    have : (s.wait.reverse.map cellV).isEmpty = s.wait.isEmpty := by rw [List.isEmpty_map, List.isEmpty_reverse]
    rw [this]; exact TruS.bool q))))))
theorem isNone_now (o : Option Cell) : isNone (nowV o) = o.isNone := by cases o <;> rfl
end
theorem call_leave {x dx a f : Addr} {F : V} {s : W} (h : WAt Λ x dx a f F s) (ok : WOK s) (hF : notBi F = true) (hz : s.found.length ≤ 2 ^ 20) {Q : V → Led → Prop} (q : ∀ Λ', WAt Λ' x dx a f F (leaveW s) → Oth dx a f Λ Λ' → Q .none Λ') : FnS C 5 (.ref 374) [.ref x] Λ Q := by
  refine FnS.def (n := 4) (names := ["word"]) (da := []) rfl (by kernel_rfl) (fun s vs X hl => ?_) .nil (by decide) (by decide) rfl rfl rfl rfl fun A L hA => ?_
  · exact allB 1 (fun v0 => BindsTo.of_eq rfl) vs hl
  refine Ex.ife (Tst.cmp (Ev.attr (Ev.loc rfl (h.attr (by kernel_rfl) rfl (by cases s.now <;> rfl) (Ev.nothing (CmpS.is (TruS.bool ?_)))))))
  rw [isNone_now]
  cases e : s.now with
  | none =>
    refine iteT (Ex.ret0 (q Λ ?_ Oth.refl))
    unfold leaveW; rw [e]; exact h
  | some c =>
    obtain ⟨code, ps, made⟩ := c
    have okc := ok.nows _ e
    have hps : ps.length ≤ 10000 := by have := ok.wgt; rw [e] at this; show ps.length ≤ _; have h2 : nowWeight (some (code, ps, made)) = ps.length := rfl; omega
    refine iteF (Ex.nil (Ex.tup3 (Ev.attr (Ev.loc rfl (h.attr (by kernel_rfl) rfl (by cases s.now <;> rfl) ?_)))))
    rw [e]
    refine ⟨_, _, _, rfl, ?_⟩
    refine Ex.ife (Tst.val (Ev.loc rfl (TruS.bool ?_)))
    cases made with
    | true =>
      refine iteT (Ex.expr (Ev.meth 4 (pl := _) ?_ (nle rfl)))
      refine Ev.attr (Ev.loc rfl (h.attr (by kernel_rfl) rfl rfl ?_))
      refine MethS.list h.hf PySem.F.slot_list_append PySem.F.type_list_append ⟨keepsF_bi _, ?_⟩
      refine Evs.cons (Ev.frzI ?_)
      refine Ev.call 4 (GX.Ligature ⟨_, .ref _, keepsF_K (by kernel_rfl), ?_⟩) (nle rfl)
      refine Evs.cons (Ev.attr (Ev.loc rfl (h.attr (by kernel_rfl) rfl hF ?_)))
      refine Evs.cons (Ev.loc rfl (Evs.cons (Ev.loc rfl (Evs.cons (Ev.attr (Ev.loc rfl (h.attr (by kernel_rfl) rfl rfl ?_)))))))
      refine Evs.cons (Ev.is (.bool (s.hr && s.wait.isEmpty)) ?_ ?_)
      · refine Ev.and (Ev.attr (Ev.loc rfl (h.attr (by kernel_rfl) rfl rfl (TruS.bool ?_))))
        cases s.hr with
        | true => exact iteT (Ev.and1 (h.empty rfl ⟨by rw [Bool.true_and], rfl⟩))
        | false => exact iteF ⟨rfl, rfl⟩
      refine Evs.nil (FnS.cls (n := 2) (fI := 312) (by kernel_rfl) (by kernel_rfl) (by kernel_rfl) fun x' dx' ne nx ndx => ?_).call
      refine init_Lig okc.1 okc.2 (show ps.length ≤ sizeLine by rw [sizeLine_eq]; omega) ne ⟨rfl, x', 315, dx', _, rfl, ne, inst_x, inst_d ne, ?_⟩
      rw [inst_drop ne nx ndx]
      refine Evs.nil (CallS.append h.hf (by rw [List.length_map, sizeLine_eq]; omega) ?_)
      have e3 : (s.found ++ [Node.lig code ps s.hl (s.hr && s.wait.isEmpty)]).map (nodeV F) = s.found.map (nodeV F) ++ [ligV F code ps s.hl (s.hr && s.wait.isEmpty)] := by simp [nodeV]
      have h2 := h.setf (f' := s.found ++ [Node.lig code ps s.hl (s.hr && s.wait.isEmpty)])
      rw [e3] at h2
      refine Ex.setattr (Ev.bool (Ev.loc rfl (h2.1.put ⟨by kernel_rfl, by kernel_rfl, by kernel_rfl, by kernel_rfl⟩ (s' := leaveW s) ?_ ?_ ?_ fun Λ₂ w2 o2 => Ex.nil (Ex.nil (q _ w2 (h2.2.trans o2))))))
      all_goals (unfold leaveW; rw [e]; rfl)
    | false =>
      refine iteF (Ex.expr (Ev.meth 4 (pl := _) ?_ (nle rfl)))
      refine Ev.attr (Ev.loc rfl (h.attr (by kernel_rfl) rfl rfl ?_))
      refine MethS.list h.hf PySem.F.slot_list_append PySem.F.type_list_append ⟨keepsF_bi _, ?_⟩
      refine Evs.cons (Ev.frzI ?_)
      refine Ev.call 4 (GX.Char ⟨_, .ref _, keepsF_K (by kernel_rfl), ?_⟩) (nle rfl)
      refine Evs.cons (Ev.attr (Ev.loc rfl (h.attr (by kernel_rfl) rfl hF ?_)))
      refine Evs.cons (Ev.loc rfl (Evs.nil (FnS.cls (n := 2) (fI := 292) (by kernel_rfl) (by kernel_rfl) (by kernel_rfl) fun x' dx' ne nx ndx => ?_).call))
      refine init_Char okc.1 ne ⟨rfl, x', 295, dx', _, rfl, ne, inst_x, inst_d ne, ?_⟩
      rw [inst_drop ne nx ndx]
      refine Evs.nil (CallS.append h.hf (by rw [List.length_map, sizeLine_eq]; omega) ?_)
      have e3 : (s.found ++ [Node.char code]).map (nodeV F) = s.found.map (nodeV F) ++ [charV F code] := by simp [nodeV]
      have h2 := h.setf (f' := s.found ++ [Node.char code])
      rw [e3] at h2
      have e4 : leaveW s = { s with found := s.found ++ [Node.char code] } := by unfold leaveW; rw [e]; rfl
      exact Ex.nil (Ex.nil (q _ (by rw [e4]; exact h2.1) h2.2))

theorem call_pass_on {x dx a f : Addr} {F : V} {s : W} (h : WAt Λ x dx a f F s) (ok : WOK s) (hF : notBi F = true) (hz : s.found.length ≤ 2 ^ 20) (hw : s.wait.length ≤ 2 ^ 20) {Q : V → Led → Prop} (q : ∀ Λ', WAt Λ' x dx a f F (passW s) → Oth dx a f Λ Λ' → Q .none Λ') : FnS C 6 (.ref 381) [.ref x] Λ Q := by
  refine FnS.def (n := 5) (names := ["word"]) (da := []) rfl (by kernel_rfl) (fun s vs X hl => ?_) .nil (by decide) (by decide) rfl rfl rfl rfl fun A L hA => ?_
  · exact allB 1 (fun v0 => BindsTo.of_eq rfl) vs hl
  refine Ex.expr (Ev.call 5 (GX.leave ⟨_, .ref _, keepsF_K (by kernel_rfl), ?_⟩) (nle rfl))
  refine Evs.cons (Ev.loc rfl (Evs.nil (call_leave h ok hF hz fun Λ₁ h₁ o₁ => ?_).call))
  refine Ex.ife (h₁.emptyT rfl (ite_ (fun t => ?_) fun t => ?_))
  · have e : (leaveW s).wait = [] := by simpa using t
    refine Ex.setattr (Ev.bool (Ev.loc rfl (h₁.put ⟨by kernel_rfl, by kernel_rfl, by kernel_rfl, by kernel_rfl⟩ (s' := passW s) ?_ ?_ ?_ fun Λ₂ h₂ o₂ => Ex.nil (Ex.nil (q _ h₂ (o₁.trans o₂))))))
    · unfold passW; rw [e]; rfl
    · unfold passW; rw [e]; exact e
    · unfold passW; rw [e]
  · cases e : (leaveW s).wait with
    | nil => rw [e] at t; cases t
    | cons c r =>
      refine Ex.setattr (Ev.meth 0 (pl := _) ?_ (nle rfl))
      refine Ev.attr (Ev.loc rfl (h₁.attr (by kernel_rfl) rfl rfl ?_))
      refine MethS.list h₁.ha PySem.F.slot_list_pop PySem.F.type_list_pop ⟨keepsF_bi _, ?_⟩
      have ha := h₁.ha
      rw [e, List.reverse_cons, List.map_append] at ha
      have hl : s.wait.length = r.length + 1 := by rw [← leaveW_wait, e]; rfl
      refine Evs.nil (CallS.pop ha (by rw [List.length_map, List.length_reverse, sizeLine_eq]; omega) ?_)
      have h₂ := h₁.seta (w' := r)
      refine Ev.loc rfl (h₂.1.put ⟨by kernel_rfl, by kernel_rfl, by kernel_rfl, by kernel_rfl⟩ (s' := passW s) ?_ ?_ ?_ fun Λ₃ h₃ o₃ => Ex.nil (Ex.nil (q _ h₃ ((o₁.trans h₂.2).trans o₃))))
      · unfold passW; rw [e]; rfl
      · unfold passW; rw [e]
      · unfold passW; rw [e]
end Mine
end
section
namespace Mine
noncomputable def s1W (s : W) : W := match s.now with
  | none => { s with hl := true }
  | some _ => if s.wait.isEmpty then { s with hr := true } else s
noncomputable def keepsL (op : Int) : Bool := (op.fdiv 2).fmod 2 == 1
noncomputable def keepsR (op : Int) : Bool := op.fmod 2 == 1
noncomputable def partsN (o : Option Cell) (kl : Bool) : List Int := match o with
  | some c => if !kl then c.2.1 else []
  | none => []
noncomputable def s2W (s : W) (ps : List Int) (kr : Bool) : W × List Int := if kr then (s, ps) else match s.wait with
  | [] => ({ s with edge := 256 }, ps)
  | c :: r => ({ s with wait := r }, ps ++ c.2.1)
noncomputable def s3W (s : W) (made : Cell) (kl : Bool) : W := if kl then { s with wait := made :: s.wait } else { s with now := some made }
noncomputable def passN : Nat → W → W
  | 0, s => s
  | n + 1, s => passN n (passW s)
noncomputable def putW (s : W) (op code : Int) : W :=
  let r := s2W (s1W s) (partsN s.now (keepsL op)) (keepsR op)
  passN (op.fdiv 4).toNat (s3W r.1 (code, r.2, true) (keepsL op))

variable {C : Gd KK} {B : Bd C} {ρ : Loc} {Λ : Led}
theorem nums_app (l m : List Int) : GX.nums l ++ GX.nums m = GX.nums (l ++ m) := by simp [GX.nums]
theorem s1W_now (s : W) : (s1W s).now = s.now := by unfold s1W; split; rfl; split <;> rfl
theorem s1W_wait (s : W) : (s1W s).wait = s.wait := by unfold s1W; split; rfl; split <;> rfl
theorem s1W_found (s : W) : (s1W s).found = s.found := by unfold s1W; split; rfl; split <;> rfl
theorem WOK.s1 {s : W} (h : WOK s) : WOK (s1W s) := ⟨by rw [s1W_now]; exact h.nows, by rw [s1W_wait]; exact h.waits, by rw [s1W_wait, s1W_now]; exact h.wgt⟩
theorem parts_ok {s : W} (h : WOK s) (kl : Bool) : (∀ p ∈ partsN s.now kl, 0 ≤ p ∧ p ≤ 255) ∧ (partsN s.now kl).length ≤ nowWeight s.now := by
  cases e : s.now with
  | none => exact ⟨fun p hp => (nomatch hp), Nat.le_refl _⟩
  | some c =>
    cases kl with
    | true => exact ⟨fun p hp => (nomatch hp), Nat.zero_le _⟩
    | false => exact ⟨(h.nows c e).2, Nat.le_refl _⟩
theorem s2W_t {t : W} {P : List Int} : s2W t P true = (t, P) := by unfold s2W; rw [if_pos rfl]
theorem s2W_nil {t : W} {P : List Int} (e : t.wait = []) : s2W t P false = ({ t with edge := 256 }, P) := by unfold s2W; rw [if_neg Bool.false_ne_true, e]
theorem s2W_cons {t : W} {P : List Int} {c : Cell} {r : List Cell} (e : t.wait = c :: r) : s2W t P false = ({ t with wait := r }, P ++ c.2.1) := by unfold s2W; rw [if_neg Bool.false_ne_true, e]
noncomputable def keptW (kl : Bool) (n : Nat) : Nat := if kl then n else 0
theorem keep_ok {s : W} {t : W} {ps : List Int} {op code : Int} (hc : 0 ≤ code ∧ code ≤ 255) (tn : t.now = s.now) (hn : ∀ c, s.now = some c → CellOK c) (hw : ∀ c ∈ t.wait, CellOK c) (kl : Bool) 
    (hp : ∀ p ∈ ps, 0 ≤ p ∧ p ≤ 255) (wt : ps.length + weight t.wait + keptW kl (nowWeight s.now) ≤ 10000) : WOK (s3W t (code, ps, true) kl) := by
  cases kl with
  | true =>
    refine ⟨fun c hc' => hn c (by rw [← tn]; exact hc'), fun c hc' => ?_, ?_⟩
    · rcases List.mem_cons.mp (show c ∈ (code, ps, true) :: t.wait from hc') with rfl | hc'
      · exact ⟨hc, hp⟩
      · exact hw c hc'
    · show ps.length + weight t.wait + nowWeight t.now ≤ _
      rw [tn]; exact wt
  | false =>
    refine ⟨fun c hc' => by cases hc'; exact ⟨hc, hp⟩, hw, ?_⟩
    show weight t.wait + ps.length ≤ _
    have wt : ps.length + weight t.wait + 0 ≤ 10000 := wt
    omega
theorem put_ok {s : W} (h : WOK s) {op code : Int} (hc : 0 ≤ code ∧ code ≤ 255) : WOK (s3W (s2W (s1W s) (partsN s.now (keepsL op)) (keepsR op)).1 (code, (s2W (s1W s) (partsN s.now (keepsL op)) (keepsR op)).2, true) (keepsL op)) := by
  obtain ⟨p1, p2⟩ := parts_ok h (keepsL op)
  have wt := h.wgt
  have pz : (partsN s.now (keepsL op)).length + keptW (keepsL op) (nowWeight s.now) ≤ nowWeight s.now := by
    cases e : keepsL op with
    | true =>
      have e0 : partsN s.now true = [] := by unfold partsN; cases s.now <;> rfl
      rw [e0]; show 0 + nowWeight s.now ≤ _; omega
    | false => rw [e] at p2; exact p2
  generalize partsN s.now (keepsL op) = P at *
  cases e : keepsR op with
  | true =>
    rw [s2W_t]
    exact keep_ok (op := op) (t := s1W s) (ps := P) hc (s1W_now s) h.nows (by rw [s1W_wait]; exact h.waits) (keepsL op) p1 (by rw [s1W_wait]; omega)
  | false =>
    cases ew : s.wait with
    | nil =>
      rw [s2W_nil ((s1W_wait s).trans ew)]
      exact keep_ok (op := op) (t := { s1W s with edge := 256 }) (ps := P) hc (s1W_now s) h.nows (by show ∀ c ∈ (s1W s).wait, _; rw [s1W_wait]; exact h.waits) (keepsL op) p1 (by show _ + weight (s1W s).wait + _ ≤ _; rw [s1W_wait]; omega)
    | cons c r =>
      rw [s2W_cons ((s1W_wait s).trans ew)]
      have hw := h.waits
      rw [ew] at hw wt
      have wt' : c.2.1.length + weight r + nowWeight s.now ≤ 10000 := wt
      refine keep_ok (op := op) (t := { s1W s with wait := r }) (ps := P ++ c.2.1) hc (s1W_now s) h.nows (fun c' hc' => hw c' (by simp [show c' ∈ r from hc'])) (keepsL op) (fun p hp => ?_) ?_
      · rcases List.mem_append.mp hp with hp | hp
        · exact p1 p hp
        · exact (hw c (by simp)).2 p hp
      · show (P ++ c.2.1).length + weight r + _ ≤ _
        rw [List.length_append]; omega
theorem pass_ok {s : W} (h : WOK s) : WOK (passW s) := by
  have e1 := leaveW_wait s
  have e2 := leaveW_now s
  unfold passW
  split
  · rename_i e
    refine ⟨by rw [show ({ leaveW s with going := false } : W).now = s.now from e2]; exact h.nows, by rw [show ({ leaveW s with going := false } : W).wait = s.wait from e1]; exact h.waits, ?_⟩
    show weight (leaveW s).wait + nowWeight (leaveW s).now ≤ _
    rw [e1, e2]; exact h.wgt
  · rename_i c r e
    rw [e1] at e
    have hw := h.waits
    have wt := h.wgt
    rw [e] at hw wt
    refine ⟨fun c' hc' => by cases hc'; exact hw c (by simp), fun c' hc' => hw c' (by simp [show c' ∈ r from hc']), ?_⟩
    show weight r + c.2.1.length ≤ _
    have : c.2.1.length + weight r + nowWeight s.now ≤ 10000 := wt
    omega
theorem pass_len (s : W) : (passW s).found.length ≤ s.found.length + 1 ∧ (passW s).wait.length ≤ s.wait.length := by
  have e1 := leaveW_wait s
  have e2 := leaveW_len s
  unfold passW
  split
  · exact ⟨e2, by show (leaveW s).wait.length ≤ _; rw [e1]; exact Nat.le_refl _⟩
  · rename_i c r e
    rw [e1] at e
    exact ⟨e2, by rw [e]; exact Nat.le_succ _⟩
theorem put_len (s : W) (op code : Int) : (s3W (s2W (s1W s) (partsN s.now (keepsL op)) (keepsR op)).1 (code, (s2W (s1W s) (partsN s.now (keepsL op)) (keepsR op)).2, true) (keepsL op)).found.length = s.found.length ∧
    (s3W (s2W (s1W s) (partsN s.now (keepsL op)) (keepsR op)).1 (code, (s2W (s1W s) (partsN s.now (keepsL op)) (keepsR op)).2, true) (keepsL op)).wait.length ≤ s.wait.length + 1 := by
  have e1 := s1W_wait s
  have e2 := s1W_found s
  have z : (s2W (s1W s) (partsN s.now (keepsL op)) (keepsR op)).1.found = s.found ∧ (s2W (s1W s) (partsN s.now (keepsL op)) (keepsR op)).1.wait.length ≤ s.wait.length := by
    unfold s2W
    split
    · exact ⟨e2, by rw [e1]; exact Nat.le_refl _⟩
    · split
      · rename_i e
        exact ⟨e2, by show (s1W s).wait.length ≤ _; rw [e1]; exact Nat.le_refl _⟩
      · rename_i c r e
        rw [e1] at e
        exact ⟨e2, by rw [e]; exact Nat.le_succ _⟩
  unfold s3W
  split
  · exact ⟨by rw [show ({ (s2W (s1W s) (partsN s.now (keepsL op)) (keepsR op)).1 with wait := (code, (s2W (s1W s) (partsN s.now (keepsL op)) (keepsR op)).2, true) :: (s2W (s1W s) (partsN s.now (keepsL op)) (keepsR op)).1.wait } : W).found = _ from z.1], by
      show List.length (_ :: (s2W (s1W s) (partsN s.now (keepsL op)) (keepsR op)).1.wait) ≤ _
      rw [List.length_cons]; omega⟩
  · exact ⟨by rw [show ({ (s2W (s1W s) (partsN s.now (keepsL op)) (keepsR op)).1 with now := some (code, (s2W (s1W s) (partsN s.now (keepsL op)) (keepsR op)).2, true) } : W).found = _ from z.1], Nat.le_succ_of_le z.2⟩

structure I25 (Λ : Led) (x dx a f : Addr) (F : V) (N : Nat) (s3 : W) (ys : List V) (i : W × Led) : Prop where
  h : WAt i.2 x dx a f F i.1
  o : Oth dx a f Λ i.2
  ok : WOK i.1
  z1 : i.1.found.length ≤ 2 ^ 19 + (32 - ys.length)
  z2 : i.1.wait.length ≤ 2 ^ 19 + 1
  z3 : ys.length ≤ 32
  e : passN ys.length i.1 = passN N s3
theorem call_put_between {x dx a f : Addr} {F : V} {s : W} (h : WAt Λ x dx a f F s) (ok : WOK s) (hF : notBi F = true) (hz : s.found.length ≤ 2 ^ 19) (hw : s.wait.length ≤ 2 ^ 19) {op code : Int} (ho : 0 ≤ op ∧ op < 128) (hc : 0 ≤ code ∧ code ≤ 255)
    {Q : V → Led → Prop} (q : ∀ Λ', WAt Λ' x dx a f F (putW s op code) → Oth dx a f Λ Λ' → Q .none Λ') : FnS C 7 (.ref 388) [.ref x, .int op, .int code] Λ Q := by
  refine FnS.def (n := 6) (names := ["word", "op", "code"]) (da := []) rfl (by kernel_rfl) (fun s vs X hl => ?_) .nil (by decide) (by decide) rfl rfl rfl rfl fun A L hA => ?_
  · exact allB 3 (fun v0 v1 v2 => BindsTo.of_eq rfl) vs hl
  refine Ex.assign (Ev.attr (Ev.loc rfl (h.attr (by kernel_rfl) rfl (by cases s.now <;> rfl) ?_)))
  -- hit_left, hit_right
  refine Ex.ifj (ι := Led) (fun i => WAt i x dx a f F (s1W s) ∧ Oth dx a f Λ i) (fun _ => [("word", .ref x), ("op", .int op), ("code", .int code), ("now", nowV s.now)]) (fun i => i) (Tst.cmp (Ev.loc rfl (Ev.nothing (CmpS.is (TruS.bool ?_))))) ?_
  · rw [isNone_now]
    cases e : s.now with
    | none =>
      refine iteT (Ex.setattr (Ev.bool (Ev.loc rfl (h.put ⟨by kernel_rfl, by kernel_rfl, by kernel_rfl, by kernel_rfl⟩ (s' := s1W s) ?_ ?_ ?_ fun Λ₂ h₂ o₂ => Ex.nil ⟨Λ₂, ⟨h₂, o₂⟩, Sub.cons rfl (Sub.cons rfl (Sub.cons rfl (Sub.cons rfl Sub.nil))), le_refl'⟩))))
      · have e1 : s1W s = { s with hl := true } := by unfold s1W; rw [e]
        rw [e1]; rfl
      · exact s1W_wait s
      · exact s1W_found s
    | some c =>
      refine iteF (Ex.ife (h.emptyT rfl (ite_ (fun t => ?_) fun t => ?_)))
      · refine Ex.setattr (Ev.bool (Ev.loc rfl (h.put ⟨by kernel_rfl, by kernel_rfl, by kernel_rfl, by kernel_rfl⟩ (s' := s1W s) ?_ ?_ ?_ fun Λ₂ h₂ o₂ => Ex.nil (Ex.nil ⟨Λ₂, ⟨h₂, o₂⟩, Sub.cons rfl (Sub.cons rfl (Sub.cons rfl (Sub.cons rfl Sub.nil))), le_refl'⟩))))
        · have e1 : s1W s = { s with hr := true } := by unfold s1W; rw [e]; simp only [t, if_true]
          rw [e1]; rfl
        · exact s1W_wait s
        · exact s1W_found s
      · have e1 : s1W s = s := by unfold s1W; rw [e]; simp only [t, Bool.false_eq_true, if_false]
        exact Ex.nil (Ex.nil ⟨Λ, ⟨by rw [e1]; exact h, Oth.refl⟩, Sub.cons rfl (Sub.cons rfl (Sub.cons rfl (Sub.cons rfl Sub.nil))), le_refl'⟩)
  rintro Λ₁ ⟨h₁, o₁⟩
  -- keeps_left, keeps_right
  refine Ex.swap2 (Ev.tup ?_)
  refine Evs.cons (Ev.cmp (Ev.bin (Ev.bin (Ev.loc rfl (Ev.int (BinS.divi (by decide) (by decide) (Ev.int (BinS.modi (by decide) (Ev.int (CmpS.eqi ?_))))))))))
  refine Evs.cons (Ev.cmp (Ev.bin (Ev.loc rfl (Ev.int (BinS.modi (by decide) (Ev.int (CmpS.eqi ?_)))))))
  refine Evs.nil ⟨nle rfl, _, _, rfl, ?_⟩
  -- parts
  refine Ex.assign (Ev.is (.tup (GX.nums (partsN s.now (keepsL op)))) ?_ ?_)
  · refine Ev.ife (Tst.is (!s.now.isNone && !keepsL op) ?_ ?_)
    · refine Tst.and2 ?_ ?_
      · exact (Tst.cmp (Ev.loc rfl (Ev.nothing (CmpS.isNot (TruS.bool ⟨by rw [isNone_now], rfl⟩)))))
      · exact fun _ => (Tst.not (Tst.val (Ev.loc rfl (TruS.bool ⟨rfl, rfl⟩))))
    · cases e : s.now with
      | none => exact iteF (Ev.tup (Evs.nil ⟨nle rfl, rfl, rfl⟩))
      | some c =>
        cases e2 : keepsL op with
        | true => exact iteF (Ev.tup (Evs.nil ⟨nle rfl, rfl, rfl⟩))
        | false =>
          refine iteT (Ev.sub (Ev.loc (a := cellV c) rfl (Ev.int (SubS.tup rfl rfl (by decide) (by decide) ⟨rfl, rfl⟩))))
  -- the right side
  obtain ⟨p1, p2⟩ := parts_ok ok (keepsL op)
  have wt := ok.wgt
  refine Ex.ifj (ι := Led) (fun i => WAt i x dx a f F (s2W (s1W s) (partsN s.now (keepsL op)) (keepsR op)).1 ∧ Oth dx a f Λ i)
    (fun _ => [("word", .ref x), ("op", .int op), ("code", .int code), ("keeps_left", .bool (keepsL op)), ("parts", .tup (GX.nums (s2W (s1W s) (partsN s.now (keepsL op)) (keepsR op)).2))]) (fun i => i) (Tst.is (!keepsR op && s.wait.isEmpty) ?_ ?_) ?_
  · exact Tst.and2 (Tst.not (Tst.val (Ev.loc rfl (TruS.bool ⟨rfl, rfl⟩)))) fun _ => h₁.emptyT rfl ⟨by rw [s1W_wait], rfl⟩
  · cases e : keepsR op with
    | true =>
      have e2 : s2W (s1W s) (partsN s.now (keepsL op)) true = (s1W s, partsN s.now (keepsL op)) := s2W_t
      refine iteF (Ex.ife (Tst.not (Tst.val (Ev.loc (a := .bool true) (by rw [← e]; rfl) (TruS.bool (iteF (Ex.nil (Ex.nil ⟨Λ₁, ⟨?_, o₁⟩, Sub.cons rfl (Sub.cons rfl (Sub.cons rfl (Sub.cons rfl (Sub.cons ?_ Sub.nil)))), le_refl'⟩))))))))
      · rw [e2]; exact h₁
      · rw [e2]; rfl
    | false =>
      cases ew : s.wait with
      | nil =>
        have e2 : s2W (s1W s) (partsN s.now (keepsL op)) false = ({ s1W s with edge := 256 }, partsN s.now (keepsL op)) := s2W_nil ((s1W_wait s).trans ew)
        refine iteT (Ex.setattr (GX.EDGE (Ev.loc rfl (h₁.put ⟨by kernel_rfl, by kernel_rfl, by kernel_rfl, by kernel_rfl⟩ (s' := { s1W s with edge := 256 }) rfl rfl rfl fun Λ₂ h₂ o₂ => Ex.nil ⟨Λ₂, ⟨by rw [e2]; exact h₂, o₁.trans o₂⟩, Sub.cons rfl (Sub.cons rfl (Sub.cons rfl (Sub.cons rfl (Sub.cons ?_ Sub.nil)))), le_refl'⟩))))
        rw [e2]; rfl
      | cons c r =>
        have e2 : s2W (s1W s) (partsN s.now (keepsL op)) false = ({ s1W s with wait := r }, partsN s.now (keepsL op) ++ c.2.1) := s2W_cons ((s1W_wait s).trans ew)
        refine iteF (Ex.ife (Tst.not (Tst.val (Ev.loc (a := .bool false) (by rw [← e]; rfl) (TruS.bool (iteT ?_))))))
        refine Ex.assign (Ev.meth 0 (pl := _) ?_ (nle rfl))
        refine Ev.attr (Ev.loc rfl (h₁.attr (by kernel_rfl) rfl rfl ?_))
        refine MethS.list h₁.ha PySem.F.slot_list_pop PySem.F.type_list_pop ⟨keepsF_bi _, ?_⟩
        have ha := h₁.ha
        rw [s1W_wait, ew, List.reverse_cons, List.map_append] at ha
        rw [ew] at hw wt
        have hw' : r.length + 1 ≤ 2 ^ 19 := hw
        have wt' : c.2.1.length + weight r + nowWeight s.now ≤ 10000 := wt
        refine Evs.nil (CallS.pop ha (by rw [List.length_map, List.length_reverse, sizeLine_eq]; omega) ?_)
        have h₂ := h₁.seta (w' := r)
        refine Ex.assign (Ev.bin (Ev.loc rfl (Ev.sub (Ev.loc rfl (Ev.int (SubS.tup rfl rfl (by decide) (by decide) (BinS.addt ?_ ?_)))))))
        · simp only [GX.nums, List.length_map, sizeLine_eq]; omega
        · rw [nums_app]
          refine Ex.nil (Ex.nil ⟨_, ⟨by rw [e2]; exact h₂.1, o₁.trans h₂.2⟩, Sub.cons rfl (Sub.cons rfl (Sub.cons rfl (Sub.cons rfl (Sub.cons ?_ Sub.nil)))), le_refl'⟩)
          rw [e2]; rfl
  rintro Λ₂ ⟨h₂, o₂⟩
  have ok3 := put_ok (op := op) ok hc
  obtain ⟨l1, l2⟩ := put_len s op code
  generalize hr : s2W (s1W s) (partsN s.now (keepsL op)) (keepsR op) = r at *
  refine Ex.assign (Ev.tup (Evs.cons (Ev.loc rfl (Evs.cons (Ev.loc rfl (Evs.cons (Ev.bool (Evs.nil ⟨nle rfl, ?_⟩))))))))
  -- the made one
  have hwr : r.1.wait.length ≤ 2 ^ 19 + 1 := by
    unfold s3W at l2
    split at l2
    · have : r.1.wait.length + 1 ≤ s.wait.length + 1 := l2
      omega
    · have : r.1.wait.length ≤ s.wait.length + 1 := l2
      omega
  refine Ex.ifj (ι := Led) (fun i => WAt i x dx a f F (s3W r.1 (code, r.2, true) (keepsL op)) ∧ Oth dx a f Λ i) (fun _ => [("word", .ref x), ("op", .int op)]) (fun i => i) (Tst.val (Ev.loc rfl (TruS.bool ?_))) ?_
  · cases e : keepsL op with
    | true =>
      refine iteT (Ex.expr (Ev.meth 0 (pl := _) ?_ (nle rfl)))
      refine Ev.attr (Ev.loc rfl (h₂.attr (by kernel_rfl) rfl rfl ?_))
      refine MethS.list h₂.ha PySem.F.slot_list_append PySem.F.type_list_append ⟨keepsF_bi _, ?_⟩
      refine Evs.cons (Ev.loc rfl (Evs.nil (CallS.append h₂.ha (by rw [List.length_map, List.length_reverse, sizeLine_eq]; omega) ?_)))
      have h₃ := h₂.seta (w' := (code, r.2, true) :: r.1.wait)
      have e3 : ((code, r.2, true) :: r.1.wait).reverse.map cellV = r.1.wait.reverse.map cellV ++ [cellV (code, r.2, true)] := by simp
      rw [e3] at h₃
      exact Ex.nil ⟨_, ⟨h₃.1, o₂.trans h₃.2⟩, Sub.cons rfl (Sub.cons rfl Sub.nil), le_refl'⟩
    | false =>
      exact iteF (Ex.setattr (Ev.loc rfl (Ev.loc rfl (h₂.put ⟨by kernel_rfl, by kernel_rfl, by kernel_rfl, by kernel_rfl⟩ (s' := { r.1 with now := some (code, r.2, true) }) rfl rfl rfl fun Λ₃ h₃ o₃ => Ex.nil ⟨_, ⟨h₃, o₂.trans o₃⟩, Sub.cons rfl (Sub.cons rfl Sub.nil), le_refl'⟩))))
  rintro Λ₃ ⟨h₃, o₃⟩
  have d4 : 0 ≤ op.fdiv 4 ∧ op.fdiv 4 ≤ 32 := by rw [Int.fdiv_eq_ediv_of_nonneg _ (by decide)]; omega
  have q' : ∀ Λ', WAt Λ' x dx a f F (passN (op.fdiv 4).toNat (s3W r.1 (code, r.2, true) (keepsL op))) → Oth dx a f Λ Λ' → Q .none Λ' := fun Λ' w o => q Λ' (by unfold putW; rw [hr]; exact w) o
  generalize hs3 : s3W r.1 (code, r.2, true) (keepsL op) = s3 at *
  -- the passes
  refine Ex.for (ι := W × Led) (I25 Λ x dx a f F (op.fdiv 4).toNat s3) (fun _ _ => [("word", .ref x)]) (fun _ i => i.2) ?_ ?_ ?_
  · refine Ev.call 0 (GX.rangeT ⟨_, .typ _, keepsF_typ _, ?_⟩) (Nat.zero_le _)
    refine Evs.cons (Ev.bin (Ev.loc rfl (Ev.int (BinS.divi (by decide) (by decide) (Evs.nil (CallS.range1 ?_))))))
    refine ⟨_, (s3, Λ₃), IterS.rng (by decide) (by decide) (by omega) (by omega), ⟨h₃, o₃, ok3, ?_, ?_, ?_, ?_⟩, Sub.cons rfl Sub.nil, le_refl'⟩
    · rw [upFrom_length]; dsimp only; omega
    · dsimp only; omega
    · rw [upFrom_length]; omega
    · rw [upFrom_length]; congr 1; omega
  · rintro y ys ⟨s', Λ'⟩ ⟨i1, i2, i3, i4, i5, i6, i7⟩
    dsimp only at i1 i2 i3 i4 i5 i6 i7
    refine Ex.expr (Ev.call 6 (GX.pass_on ⟨_, .ref _, keepsF_K (by kernel_rfl), ?_⟩) (nle rfl))
    have pl := pass_len s'
    have e1 : (y :: ys).length = ys.length + 1 := rfl
    refine Evs.cons (Ev.loc rfl (Evs.nil (call_pass_on i1 i3 hF (by omega) (by omega) fun Λ₄ h₄ o₄ => Ex.nil ⟨(passW s', Λ₄), ⟨h₄, i2.trans o₄, pass_ok i3, ?_, ?_, ?_, ?_⟩, Sub.cons rfl Sub.nil, le_refl'⟩).call))
    · dsimp only; omega
    · dsimp only; omega
    · omega
    · exact i7
  · rintro ⟨s', Λ'⟩ ⟨i1, i2, _, _, _, _, i7⟩
    refine Ex.nil (q' _ ?_ i2)
    rw [← i7]; exact i1
end Mine
end
section
namespace Mine
variable {C : Gd KK} {B : Bd C} {ρ : Loc} {Λ : Led}
noncomputable def cell0 (c : Int) : Cell := (c, [c], false)
noncomputable def W0 (codes : List Int) (hl : Bool) (edge : Int) : W :=
  if hl then ⟨codes.map cell0, none, edge, [], false, false, true⟩ else ⟨(codes.map cell0).tail, (codes.map cell0).head?, edge, [], false, false, true⟩
structure IAt (Λ₀ Λ : Led) (x dx a : Addr) (fs : List (PySem.Str × V)) (cs : List V) : Prop where
  hx : Λ x = some (.inst 363 dx)
  hd : Λ dx = some (.attrs fs)
  ha : Λ a = some (.list cs)
  oth : ∀ b, b ≠ x → b ≠ dx → b ≠ a → Λ b = Λ₀ b
section
variable {Λ₀ : Led} {x dx a : Addr} {fs : List (PySem.Str × V)} {cs : List V}
theorem IAt.nx (h : IAt Λ₀ Λ x dx a fs cs) : x ≠ dx ∧ x ≠ a ∧ dx ≠ a := by
  refine ⟨?_, ?_, ?_⟩ <;> rintro rfl
  · have := h.hd; rw [h.hx] at this; cases this
  · have := h.ha; rw [h.hx] at this; cases this
  · have := h.ha; rw [h.hd] at this; cases this
theorem IAt.put {fs' : List (PySem.Str × V)} (h : IAt Λ₀ Λ x dx a fs cs) : IAt Λ₀ (upd Λ dx (.attrs fs')) x dx a fs' cs := by
  obtain ⟨n1, n2, n3⟩ := h.nx
  exact ⟨by rw [upd_ne _ n1]; exact h.hx, upd_at _ _, by rw [upd_ne _ (Ne.symm n3)]; exact h.ha, fun b h1 h2 h3 => by rw [upd_ne _ h2]; exact h.oth b h1 h2 h3⟩
theorem IAt.cut {cs' : List V} (h : IAt Λ₀ Λ x dx a fs cs) : IAt Λ₀ (upd Λ a (.list cs')) x dx a fs cs' := by
  obtain ⟨n1, n2, n3⟩ := h.nx
  exact ⟨by rw [upd_ne _ n2]; exact h.hx, by rw [upd_ne _ n3]; exact h.hd, upd_at _ _, fun b h1 h2 h3 => by rw [upd_ne _ h3]; exact h.oth b h1 h2 h3⟩
theorem IAt.set {n : Nat} {name : PySem.Str} {v : V} {Q : Led → Prop} (h : IAt Λ₀ Λ x dx a fs cs) (c : ClsF (KK C.w.params) 363 name) (hz : fs.length ≤ 100) (q : ∀ Λ', IAt Λ₀ Λ' x dx a (putA name v fs) cs → Q Λ') : SetAttrS C n (.ref x) name v Λ Q :=
  SetAttrS.of c h.hx h.hd hz (q _ h.put)
end
theorem init_Word {F : V} {codes : List Int} {hl : Bool} {edge : Int} (hF : notBi F = true) (hz : codes.length ≤ 10000) (hne : codes ≠ []) {x dx : Addr} (h : x ≠ dx) (nx : Λ x = none) (ndx : Λ dx = none) {Q : V → Led → Prop}
    (q : ∀ a f Λ', WAt Λ' x dx a f F (W0 codes hl edge) → Λ a = none → Λ f = none → (∀ b, b ≠ x → b ≠ dx → b ≠ a → b ≠ f → Λ' b = Λ b) → Q .none Λ') : FnS C 3 (.ref 360) [.ref x, F, .lst (GX.nums codes), .bool hl, .int edge] (inL Λ x 363 dx []) Q := by
  refine FnS.def (n := 2) (names := ["self", "font", "codes", "has_left", "edge"]) (da := []) rfl (by kernel_rfl) (fun s vs X hl => ?_) .nil (by decide) (by decide) rfl rfl rfl rfl fun A L hA => ?_
  · exact allB 5 (fun v0 v1 v2 v3 v4 => BindsTo.of_eq rfl) vs hl
  refine Ex.setattr (Ev.loc rfl (Ev.loc rfl (SetAttrS.at ⟨by kernel_rfl, by kernel_rfl, by kernel_rfl, by kernel_rfl⟩ h (nle rfl) ?_)))
  have hz' : (GX.nums codes).length ≤ sizeLine := by simp only [GX.nums, List.length_map, sizeLine_eq]; omega
  have er : (GX.nums codes).reverse = GX.nums codes.reverse := by simp [GX.nums]
  refine Ex.setattr ?_
  refine Ev.comp (fun ys acc Λ' => Λ' = inL Λ x 363 dx (putA "font" F []) ∧ ∃ k, k ≤ codes.length ∧ ys = (GX.nums codes.reverse).drop k ∧ acc = (codes.reverse.take k).map fun c => cellV (cell0 c)) (ρc := []) (cl := []) ⟨rfl, fun x c e => (nomatch e), fun x a e => (nomatch e)⟩ (by decide) rfl (by decide) rfl
    (Ev.slc (Ev.loc rfl (EvO.none (EvO.none (EvO.some (Ev.un (Ev.int (UnS.negi (SlcS.rev hz' ?_))))))))) ?_ ?_
  · rw [er]
    exact ⟨_, IterS.lst, by simpa [GX.nums] using hz', rfl, 0, Nat.zero_le _, rfl, rfl⟩
  · rintro Cc y ys acc Λ' ⟨rfl, k, hk, e1, rfl⟩
    refine TstF.nil (iteT ?_)
    have hk' : k < codes.reverse.length := by
      by_cases z : k < codes.reverse.length
      · exact z
      · rw [List.drop_eq_nil_of_le (by simp [GX.nums] at z ⊢; omega)] at e1; cases e1
    have e2 : (GX.nums codes.reverse).drop k = .int codes.reverse[k] :: (GX.nums codes.reverse).drop (k + 1) := by rw [List.drop_eq_getElem_cons (by simpa [GX.nums] using hk')]; simp [GX.nums]
    rw [e2] at e1
    cases e1
    refine Ev.tup (Evs.cons (Ev.loc rfl (Evs.cons (Ev.tup (Evs.cons (Ev.loc rfl (Evs.nil ⟨nle rfl, ?_⟩)))))))
    refine Evs.cons (Ev.bool (Evs.nil ⟨nle rfl, rfl, k + 1, by simp at hk'; omega, rfl, ?_⟩))
    rw [List.take_add_one, List.getElem?_eq_getElem hk', List.map_append]; rfl
  rintro acc Λ' D ⟨rfl, k, hk, e1, rfl⟩ nD
  have hk' : codes.reverse.length ≤ k := by
    have := congrArg List.length e1
    simp [GX.nums] at this; simp; omega
  rw [List.take_of_length_le hk']
  have DX : D ≠ x := by rintro rfl; rw [inst_x] at nD; cases nD
  have DD : D ≠ dx := by rintro rfl; rw [inst_d h] at nD; cases nD
  have I0 : IAt Λ (upd (inL Λ x 363 dx (putA "font" F [])) D (.list (codes.reverse.map fun c => cellV (cell0 c)))) x dx D (putA "font" F []) (codes.reverse.map fun c => cellV (cell0 c)) := by
    refine ⟨by rw [upd_ne _ (Ne.symm DX)]; exact inst_x, by rw [upd_ne _ (Ne.symm DD)]; exact inst_d h, upd_at _ _, fun b h1 h2 h3 => ?_⟩
    rw [upd_ne _ h3, inL, upd_ne _ h1, upd_ne _ h2]
  have nD' : Λ D = none := by rw [← nD, inL, upd_ne _ DX, upd_ne _ DD]
  generalize upd (inL Λ x 363 dx (putA "font" F [])) D (.list (codes.reverse.map fun c => cellV (cell0 c))) = Λ₁ at I0
  refine Ev.loc rfl (I0.set ⟨by kernel_rfl, by kernel_rfl, by kernel_rfl, by kernel_rfl⟩ (nle rfl) fun Λ₂ I2 => ?_)
  refine Ex.setattr (Ev.mono (Q := fun v Λ₃ => ∃ (w : List Cell) (nw : Option Cell), v = nowV nw ∧ IAt Λ Λ₃ x dx D [("font", F), ("waiting", .ref D)] (w.reverse.map cellV) ∧ W0 codes hl edge = ⟨w, nw, edge, [], false, false, true⟩) (Ev.ife (Tst.val (Ev.loc rfl (TruS.bool ?_)))) ?_)
  · cases hl with
    | true =>
      refine iteT (Ev.nothing ⟨codes.map cell0, none, rfl, ?_, rfl⟩)
      rw [← List.map_reverse, List.map_map]; exact I2
    | false =>
      refine iteF (Ev.meth 0 (pl := _) ?_ (nle rfl))
      refine Ev.attr (Ev.loc rfl (AttrS.led (ownW (by kernel_rfl)) I2.hx I2.hd rfl rfl ?_))
      refine MethS.list I2.ha PySem.F.slot_list_pop PySem.F.type_list_pop ⟨keepsF_bi _, ?_⟩
      obtain ⟨c, r, rfl⟩ := List.exists_cons_of_ne_nil hne
      have ha := I2.ha
      rw [List.reverse_cons, List.map_append] at ha
      refine Evs.nil (CallS.pop ha (by simp [sizeLine_eq] at hz ⊢; omega) ⟨r.map cell0, some (cell0 c), rfl, ?_, rfl⟩)
      rw [← List.map_reverse, List.map_map]; exact I2.cut
  rintro v Λ₃ ⟨w, nw, rfl, I3, e3⟩
  refine Ev.loc rfl (I3.set ⟨by kernel_rfl, by kernel_rfl, by kernel_rfl, by kernel_rfl⟩ (nle rfl) fun Λ₄ I4 => ?_)
  refine Ex.setattr (Ev.loc rfl (Ev.loc rfl (I4.set ⟨by kernel_rfl, by kernel_rfl, by kernel_rfl, by kernel_rfl⟩ (nle rfl) fun Λ₅ I5 => ?_)))
  refine Ex.setattr (Ev.list (Evs.nil ⟨nle rfl, fun f nf => ?_⟩))
  have f1 : f ≠ x := by rintro rfl; rw [I5.hx] at nf; cases nf
  have f2 : f ≠ dx := by rintro rfl; rw [I5.hd] at nf; cases nf
  have f3 : f ≠ D := by rintro rfl; rw [I5.ha] at nf; cases nf
  have f4 : Λ f = none := by rw [← I5.oth f f1 f2 f3]; exact nf
  have I6 : IAt (upd Λ f (.list [])) (upd Λ₅ f (.list [])) x dx D [("font", F), ("waiting", .ref D), ("now", nowV nw), ("edge", .int edge)] (w.reverse.map cellV) :=
    ⟨by rw [upd_ne _ (Ne.symm f1)]; exact I5.hx, by rw [upd_ne _ (Ne.symm f2)]; exact I5.hd, by rw [upd_ne _ (Ne.symm f3)]; exact I5.ha, fun b h1 h2 h3 => by
      by_cases z : b = f
      · subst z; rw [upd_at, upd_at]
      · rw [upd_ne _ z, upd_ne _ z]; exact I5.oth b h1 h2 h3⟩
  refine Ev.loc rfl (I6.set ⟨by kernel_rfl, by kernel_rfl, by kernel_rfl, by kernel_rfl⟩ (nle rfl) fun Λ₇ I7 => ?_)
  refine Ex.setattr (Ev.bool (Ev.loc rfl (I7.set ⟨by kernel_rfl, by kernel_rfl, by kernel_rfl, by kernel_rfl⟩ (nle rfl) fun Λ₈ I8 => ?_)))
  refine Ex.setattr (Ev.bool (Ev.loc rfl (I8.set ⟨by kernel_rfl, by kernel_rfl, by kernel_rfl, by kernel_rfl⟩ (nle rfl) fun Λ₉ I9 => ?_)))
  refine Ex.setattr (Ev.bool (Ev.loc rfl (I9.set ⟨by kernel_rfl, by kernel_rfl, by kernel_rfl, by kernel_rfl⟩ (nle rfl) fun Λz Iz => ?_)))
  refine Ex.nil (q D f Λz ⟨Iz.hx, ?_, ?_, ?_, Ne.symm f3⟩ nD' f4 fun b h1 h2 h3 h4 => ?_)
  · rw [e3]; exact Iz.hd
  · rw [e3]; exact Iz.ha
  · rw [e3, Iz.oth f f1 f2 f3, upd_at]; rfl
  · rw [Iz.oth b h1 h2 h3, upd_ne _ h4]
end Mine
end
section
namespace Mine
-- the word machine
noncomputable def leftW (s : W) : Int := match s.now with
  | none => 256
  | some c => c.1
noncomputable def rightW (s : W) : Int := match s.wait with
  | [] => s.edge
  | c :: _ => c.1
noncomputable def turnW (d : FD) (s : W) (k : Nat) : Option (W × Nat) := match lookO d (leftW s) (rightW s) with
  | none => some (passW s, k)
  | some (op, rest) => if op ≥ 128 then some ({ passW s with found := (passW s).found ++ [.kern (amount rest)] }, k) else if k = 0 then none else some (putW s (knownOp op) rest, k - 1)
noncomputable def goW (d : FD) : Nat → W → Nat → Option (List Node)
  | 0, s, k => none
  | n + 1, s, k => if s.going then match turnW d s k with
    | none => none
    | some (s', k') => goW d n s' k'
    else some s.found
noncomputable def muW (s : W) (k : Nat) : Nat := 2 * k + s.wait.length + if s.going then 1 else 0
noncomputable def wordO (d : FD) (codes : List Int) (hl : Bool) (edge : Int) : Option (List Node) :=
  if codes.isEmpty then some [] else goW d (2 * (20 * (codes.length + 1)) + codes.length + 2) (W0 codes (hl && decide (0 ≤ startsI d 256)) edge) (20 * (codes.length + 1))

theorem scan_ok {rows : List Row} {right : Int} : ∀ (n : Nat) (p op rest : Int), scan rows right n p = some (op, rest) → ∃ (i : Nat) (r : Row), rows[i]? = some r ∧ r.1 ≤ 128 ∧ op = r.2.2.1 ∧ rest = r.2.2.2 := by
  intro n
  induction n with
  | zero => intro p op rest e; cases e
  | succ n ih =>
    intro p op rest e
    unfold scan at e
    split at e
    · cases e
    · rename_i r hr
      split at e
      · rename_i q
        simp only [Bool.and_eq_true, decide_eq_true_eq] at q
        cases e
        exact ⟨_, r, hr, q.2, rfl, rfl⟩
      · split at e
        · exact ih _ _ _ e
        · cases e
theorem look_ok {d : FD} (h : FOK d) {l r op rest : Int} (e : lookO d l r = some (op, rest)) : (¬ op ≥ 128 → 0 ≤ rest ∧ rest ≤ 255) ∧ 0 ≤ knownOp op ∧ knownOp op ≤ 11 := by
  refine ⟨fun q => ?_, ?_⟩
  · unfold lookO at e
    split at e
    · cases e
    · obtain ⟨i, row, h1, h2, rfl, rfl⟩ := scan_ok _ _ _ _ e
      have ok := h.rows _ _ h1
      have := ok.lig h2 (by omega)
      have := h.b1
      omega
  · unfold knownOp
    split
    · rename_i q
      obtain ⟨x, hx, q⟩ := List.any_eq_true.mp q
      rw [← eq_of_beq q]
      exact (by decide : ∀ x ∈ ([0, 1, 2, 3, 5, 6, 7, 11] : List Int), 0 ≤ x ∧ x ≤ 11) x hx
    · omega
theorem passW_cases (s : W) : (s.wait = [] ∧ (passW s).wait = [] ∧ (passW s).going = false) ∨ (∃ c r, s.wait = c :: r ∧ (passW s).wait = r ∧ (passW s).going = s.going) := by
  have e1 := leaveW_wait s
  have e2 : (leaveW s).going = s.going := by unfold leaveW; split; rfl; split <;> rfl
  unfold passW
  split
  · rename_i e
    exact .inl ⟨e1 ▸ e, e, rfl⟩
  · rename_i c r e
    exact .inr ⟨c, r, e1 ▸ e, rfl, e2⟩
theorem mu_pass (s : W) (k : Nat) : muW (passW s) k ≤ muW s k ∧ (s.going = true → muW (passW s) k < muW s k) := by
  unfold muW
  rcases passW_cases s with ⟨h1, h2, h3⟩ | ⟨c, r, h1, h2, h3⟩
  · rw [h1, h2, h3]
    refine ⟨by simp, fun g => by rw [g]; simp⟩
  · rw [h1, h2, h3]
    simp only [List.length_cons]
    exact ⟨by split <;> omega, fun g => by rw [g]; simp⟩
theorem mu_passN : ∀ (n : Nat) (s : W) (k : Nat), muW (passN n s) k ≤ muW s k := by
  intro n
  induction n with
  | zero => intro s k; exact Nat.le_refl _
  | succ n ih => intro s k; exact Nat.le_trans (ih _ _) (mu_pass s k).1
theorem passN_ok : ∀ (n : Nat) {s : W}, WOK s → WOK (passN n s) := by
  intro n
  induction n with
  | zero => intro s h; exact h
  | succ n ih => intro s h; exact ih (pass_ok h)
theorem passN_found : ∀ (n : Nat) (s : W), (passN n s).found.length ≤ s.found.length + n := by
  intro n
  induction n with
  | zero => intro s; exact Nat.le_refl _
  | succ n ih => intro s; have := ih (passW s); have := (pass_len s).1; unfold passN; omega
theorem s1W_going (s : W) : (s1W s).going = s.going := by unfold s1W; split; rfl; split <;> rfl
theorem s2W_going (s : W) (P : List Int) (kr : Bool) : (s2W s P kr).1.going = s.going := by unfold s2W; split; rfl; split <;> rfl
theorem s3W_going (s : W) (c : Cell) (kl : Bool) : (s3W s c kl).going = s.going := by unfold s3W; split <;> rfl
theorem mu_put (s : W) (op code : Int) (k : Nat) : muW (putW s op code) k ≤ muW s k + 1 := by
  unfold putW
  refine Nat.le_trans (mu_passN _ _ _) ?_
  have l := (put_len s op code).2
  unfold muW
  rw [s3W_going, s2W_going, s1W_going]
  omega
theorem putW_ok {s : W} (h : WOK s) {op code : Int} (hc : 0 ≤ code ∧ code ≤ 255) : WOK (putW s op code) := passN_ok _ (put_ok h hc)
theorem putW_found (s : W) (op code : Int) (ho : 0 ≤ op ∧ op ≤ 11) : (putW s op code).found.length ≤ s.found.length + 2 := by
  unfold putW
  refine Nat.le_trans (passN_found _ _) ?_
  have l := (put_len s op code).1
  rw [l]
  have : op.fdiv 4 ≤ 2 := by rw [Int.fdiv_eq_ediv_of_nonneg _ (by decide)]; omega
  omega
theorem turn_ok {d : FD} (h : FOK d) {s : W} {k : Nat} (ok : WOK s) (g : s.going = true) {s' : W} {k' : Nat} (e : turnW d s k = some (s', k')) : WOK s' ∧ muW s' k' < muW s k ∧ s'.found.length ≤ s.found.length + 2 := by
  unfold turnW at e
  split at e
  · cases e
    exact ⟨pass_ok ok, (mu_pass s k).2 g, by have := (pass_len s).1; omega⟩
  · rename_i op rest el
    obtain ⟨l1, l2⟩ := look_ok h el
    split at e
    · cases e
      have p := pass_ok ok
      refine ⟨⟨p.nows, p.waits, p.wgt⟩, (mu_pass s k).2 g, ?_⟩
      have := (pass_len s).1
      show ((passW s).found ++ _).length ≤ _
      rw [List.length_append]; simp only [List.length_singleton]; omega
    · rename_i q
      split at e
      · cases e
      · cases e
        have := mu_put s (knownOp op) rest (k - 1)
        refine ⟨putW_ok ok (l1 q), ?_, putW_found s _ _ l2⟩
        unfold muW at this ⊢
        omega

variable {C : Gd KK} {B : Bd C} {ρ : Loc} {Λ : Led}
theorem init_exc {x Cl t : Addr} {v : V} {Q : V → Led → Prop} (hCl : Cl = 88 ∨ Cl = 52) (hx : Λ x = some (.exact (excObj Cl t none))) (q : ∀ d, Λ d = none → Q .none (upd Λ x (.exact (excObj Cl t (some d))))) : FnS C 1 (.ref 36) [.ref x, v] Λ Q := by
  refine FnS.def (n := 0) (names := ["self", "reason"]) (da := []) rfl (by kernel_rfl) (fun s vs X hl => ?_) .nil (by decide) (by decide) rfl rfl rfl rfl fun A L hA => ?_
  · exact allB 2 (fun v0 v1 => binds_K X rfl rfl rfl rfl rfl) vs hl
  rcases hCl with rfl | rfl
  · exact Ex.setattr (Ev.loc rfl (Ev.loc rfl (SetAttrS.exc hx rfl (by intro _; rfl) rfl rfl rfl (by kernel_rfl) (by kernel_rfl) fun d nd => Ex.nil (q d nd))))
  · exact Ex.setattr (Ev.loc rfl (Ev.loc rfl (SetAttrS.exc hx rfl (by intro _; rfl) rfl rfl rfl (by kernel_rfl) (by kernel_rfl) fun d nd => Ex.nil (q d nd))))
end Mine
end
section
namespace Mine
variable {C : Gd KK} {B : Bd C} {ρ : Loc} {Λ : Led}
theorem weight0 (codes : List Int) : weight (codes.map cell0) = codes.length := by
  induction codes with
  | nil => rfl
  | cons c r ih => show 1 + weight (r.map cell0) = _; rw [ih, List.length_cons]; omega
theorem W0_ok {codes : List Int} (hc : ∀ c ∈ codes, 0 ≤ c ∧ c ≤ 255) (hz : codes.length ≤ 100) (hl : Bool) (edge : Int) : WOK (W0 codes hl edge) ∧ (W0 codes hl edge).wait.length ≤ codes.length ∧ (W0 codes hl edge).found = [] ∧ (W0 codes hl edge).going = true := by
  have k : ∀ c ∈ codes, CellOK (cell0 c) := fun c h => ⟨hc c h, fun p hp => by rw [List.mem_singleton.mp hp]; exact hc c h⟩
  cases hl with
  | true =>
    refine ⟨⟨fun c e => (nomatch e), fun c h => ?_, ?_⟩, by simp [W0], rfl, rfl⟩
    · obtain ⟨c', h', rfl⟩ := List.mem_map.mp (show c ∈ codes.map cell0 from h)
      exact k _ h'
    · show weight (codes.map cell0) + 0 ≤ _; rw [weight0]; omega
  | false =>
    cases codes with
    | nil => exact ⟨⟨fun c e => (nomatch e), fun c h => (nomatch h), Nat.zero_le _⟩, Nat.le_refl _, rfl, rfl⟩
    | cons c r =>
      refine ⟨⟨fun c' e => ?_, fun c' h => ?_, ?_⟩, by simp [W0], rfl, rfl⟩
      · cases (show some (cell0 c) = some c' from e); exact k _ (by simp)
      · obtain ⟨c'', h', rfl⟩ := List.mem_map.mp (show c' ∈ r.map cell0 from h)
        exact k _ (by simp [h'])
      · show weight (r.map cell0) + 1 ≤ _; rw [weight0]; simp at hz; omega
theorem nums_len (l : List Int) : (GX.nums l).length = l.length := by simp [GX.nums]
theorem CmpS.eqNilL {n : Nat} {vs : List V} {Q : V → Led → Prop} (hd : DsOk 7 vs) (q : Q (.bool vs.isEmpty) Λ) : CmpS C n .Eq (.lst vs) (.lst []) Λ Q :=
  CmpS.eq (.val (.lst hd)) (.val (.lst .nil)) (by show Q (.bool (PyData.eqv (.list (V.ds vs)) (.list []))) Λ; rw [eqv_nil]; have : (V.ds vs).isEmpty = vs.isEmpty := by cases vs <;> rfl
                                                  rw [this]; exact q)
structure I28 (d : FD) (Λ₁ : Led) (x dx a f : Addr) (R : Option (List Node)) (i : Nat × W × Nat × Led) : Prop where
  h : WAt i.2.2.2 x dx a f (fontV d) i.2.1
  o : Oth dx a f Λ₁ i.2.2.2
  ok : WOK i.2.1
  z1 : muW i.2.1 i.2.2.1 < i.1
  z2 : i.2.1.found.length + 4 * i.1 ≤ 30000
  z3 : i.1 ≤ 5000
  e : goW d i.1 i.2.1 i.2.2.1 = R
theorem call_word_nodes {d : FD} (hd : FOK d) {codes : List Int} (hc : ∀ c ∈ codes, 0 ≤ c ∧ c ≤ 255) (hz : codes.length ≤ 100) {hl : Bool} {edge : Int} {base : Heap} {l : List Env} {Q : V → Led → Prop}
    (q : ∀ R, wordO d codes hl edge = some R → Q (.lst (R.map (nodeV (fontV d)))) Λ) : FnE C 8 base l 88 (.ref 395) [fontV d, .lst (GX.nums codes), .bool hl, .int edge] Λ Q (wordO d codes hl edge = none) := by
  refine FnE.def (n := 7) (names := ["font", "codes", "left_edge", "edge"]) (da := []) rfl (by kernel_rfl) (fun s vs X hl => ?_) .nil (by decide) (by decide) rfl rfl rfl rfl fun L A E hA hE hfr St nL hraise hpass => ?_
  · exact allB 4 (fun v0 v1 v2 v3 => BindsTo.of_eq rfl) vs hl
  refine Ex.forgets ?_
  refine Ex.ife (Tst.cmp (Ev.loc rfl (Ev.nilL (CmpS.eqNilL (nums_ok 7 _) (TruS.bool (ite_ (fun t => ?_) fun t => ?_))))))
  · refine Ex.ret (Ev.nilL ⟨Λ, le_refl', q [] ?_⟩)
    unfold wordO
    rw [if_pos (by cases codes with | nil => rfl | cons c r => cases t)]
  have hne : codes ≠ [] := by rintro rfl; cases t
  have ew : wordO d codes hl edge = goW d (2 * (20 * (codes.length + 1)) + codes.length + 2) (W0 codes (hl && decide (0 ≤ startsI d 256)) edge) (20 * (codes.length + 1)) := by
    unfold wordO
    rw [if_neg (by simpa using hne)]
  refine Ex.nil (Ex.assign ?_)
  refine Ev.call 4 (GX.Word ⟨_, .ref _, keepsF_K (by kernel_rfl), ?_⟩) (nle rfl)
  refine Evs.cons (Ev.loc rfl (Evs.cons (Ev.loc rfl (Evs.cons (Ev.is (.bool (hl && decide (0 ≤ startsI d 256))) ?_ ?_)))))
  · refine Ev.and (Ev.loc rfl (TruS.bool ?_))
    cases hl with
    | true =>
      refine iteT (Ev.and1 (Ev.cmp (Ev.meth 1 (pl := _) ?_ (nle rfl))))
      refine Ev.loc rfl (MethS.user (f := 228) (by kernel_rfl) (by kernel_rfl) (by kernel_rfl) (by kernel_rfl) rfl ⟨keepsF_K (by kernel_rfl), ?_⟩)
      exact Evs.cons (GX.EDGE (Evs.nil (call_starts (Ev.int (CmpS.gei ⟨rfl, rfl⟩))).call))
    | false => exact iteF ⟨rfl, rfl⟩
  refine Evs.cons (Ev.loc rfl (Evs.nil (FnS.cls (n := 2) (fI := 360) (by kernel_rfl) (by kernel_rfl) (by kernel_rfl) fun x dx ne nx ndx => ?_).call))
  refine init_Word rfl (by omega) hne ne nx ndx fun a f Λ₁ h₁ na nf oth => ⟨rfl, ?_⟩
  obtain ⟨w1, w2, w3, w4⟩ := W0_ok hc hz (hl && decide (0 ≤ startsI d 256)) edge
  generalize W0 codes (hl && decide (0 ≤ startsI d 256)) edge = s₀ at *
  have lek : ∀ Λ', Oth dx a f Λ₁ Λ' → Led.le Λ Λ' := fun Λ' o b ob e => by
    have bx := led_ne e nx
    have bd := led_ne e ndx
    have ba := led_ne e na
    have bf := led_ne e nf
    rw [o b bd ba bf, oth b bx bd ba bf]; exact e
  have nxe : ∀ Λ' y, Oth dx a f Λ₁ Λ' → Λ' y = none → Λ y = none := fun Λ' y o e => Led.none_of_le (lek Λ' o) e
  refine Ex.assign (Ev.is (.int ((20 * (codes.length + 1) : Nat) : Int)) ?_ ?_)
  · refine Ev.bin (GX.STEPS (Ev.bin (Ev.call 0 (GX.lenB ⟨_, .bi _, keepsF_bi _, ?_⟩) (Nat.zero_le _))))
    refine Evs.cons (Ev.loc rfl (Evs.nil (CallS.lenL (by rw [nums_len, sizeLine_eq]; omega) (Ev.int (BinS.addi (BinS.muli (IntMulOk.of_left (by decide)) ⟨?_, rfl⟩))))))
    rw [nums_len]; congr 1
  refine Ex.while (ι := Nat × W × Nat × Led) (I28 d Λ₁ x dx a f (wordO d codes hl edge)) (fun i => i.1)
    (fun i => [("font", fontV d), ("word", .ref x), ("steps", .int (i.2.2.1 : Nat))]) (fun i => i.2.2.2) (2 * (20 * (codes.length + 1)) + codes.length + 2, s₀, 20 * (codes.length + 1), Λ₁)
    ⟨h₁, Oth.refl, w1, by unfold muW; rw [w4, if_pos rfl]; dsimp only; omega, by dsimp only; rw [w3]; simp only [List.length_nil]; omega, by dsimp only; omega, ew.symm⟩
    (Sub.cons rfl (Sub.cons rfl (Sub.cons rfl Sub.nil))) le_refl' ?_
  rintro ⟨n, s, k, Λ'⟩ ⟨h, o, ok, i1, i2, i3, i4⟩
  dsimp only at h o ok i1 i2 i3 i4 ⊢
  obtain ⟨n, rfl⟩ : ∃ m, n = m + 1 := ⟨n - 1, by omega⟩
  rw [goW] at i4
  refine Tst.val (Ev.attr (Ev.loc rfl (h.attr (by kernel_rfl) rfl rfl (TruS.bool (ite_ (fun g => ?_) fun g => ?_)))))
  rotate_left
  · rw [if_neg (by rw [g]; exact Bool.false_ne_true)] at i4
    refine Ex.ret (Ev.frz (Ev.attr (Ev.loc rfl (h.attr (by kernel_rfl) rfl rfl ⟨f, _, rfl, h.hf, ?_⟩))))
    refine ⟨Λ, fun b ob e => ?_, q _ i4.symm⟩
    have bf := led_ne e nf
    show (if b = f then none else Λ' b) = some ob
    rw [if_neg bf]; exact lek _ o b ob e
  rw [if_pos g] at i4
  refine Ex.assign (Ev.is (.int (leftW s)) ?_ ?_)
  · refine Ev.ife (Tst.cmp (Ev.attr (Ev.loc rfl (h.attr (by kernel_rfl) rfl (by cases s.now <;> rfl) (Ev.nothing (CmpS.is (TruS.bool ?_)))))))
    rw [isNone_now]
    cases e : s.now with
    | none => exact iteT (GX.EDGE ⟨by unfold leftW; rw [e], rfl⟩)
    | some c => exact iteF (Ev.sub (Ev.attr (Ev.loc rfl (h.attr (v := cellV c) (by kernel_rfl) (by rw [wAttrs, e]; rfl) rfl (Ev.int (SubS.tup rfl rfl (by decide) (by decide) ⟨by unfold leftW; rw [e], rfl⟩))))))
  have hw : s.wait.length ≤ 5000 := by unfold muW at i1; omega
  refine Ex.assign (Ev.is (.int (rightW s)) ?_ ?_)
  · refine Ev.ife (h.emptyT rfl ?_)
    cases e : s.wait with
    | nil => exact iteT (Ev.attr (Ev.loc rfl (h.attr (by kernel_rfl) rfl rfl ⟨by unfold rightW; rw [e], rfl⟩)))
    | cons c r =>
      refine iteF (Ev.sub (Ev.sub (Ev.attr (Ev.loc rfl (h.attr (by kernel_rfl) rfl rfl (Ev.un (Ev.int (UnS.negi ?_))))))))
      have ha := h.ha
      rw [e, List.reverse_cons, List.map_append] at ha
      rw [e] at hw
      refine SubS.led (j := r.length) (a := cellV c) ha ?_ ?_ (by decide) (by decide) (Ev.int (SubS.tup rfl rfl (by decide) (by decide) ⟨by unfold rightW; rw [e], rfl⟩))
      · simp [seqIndex?]; omega
      · rw [List.getElem?_append_right (by simp)]; simp
  refine Ex.assign ?_
  refine Ev.call 2 (GX.look ⟨_, .ref _, keepsF_K (by kernel_rfl), ?_⟩) (nle rfl)
  refine Evs.cons (Ev.loc rfl (Evs.cons (Ev.loc rfl (Evs.cons (Ev.loc rfl (Evs.nil (call_look hd ?_).call))))))
  have fz : s.found.length ≤ 2 ^ 19 := by omega
  have tok := @turn_ok d hd s k ok g
  refine Ex.ife (Tst.cmp (Ev.loc rfl (Ev.nothing (CmpS.is (TruS.bool ?_)))))
  unfold turnW at i4 tok
  cases el : lookO d (leftW s) (rightW s) with
  | none =>
    rw [el] at i4 tok
    obtain ⟨t1, t2, t3⟩ := tok rfl
    refine iteT (Ex.expr (Ev.call 6 (GX.pass_on ⟨_, .ref _, keepsF_K (by kernel_rfl), ?_⟩) (nle rfl)))
    refine Evs.cons (Ev.loc rfl (Evs.nil (call_pass_on h ok rfl (by omega) (by omega) fun Λ₄ h₄ o₄ => Ex.nil (Ex.nil ⟨(n, passW s, k, Λ₄), ⟨h₄, o.trans o₄, t1, by dsimp only; omega, by dsimp only; omega, by dsimp only; omega, i4⟩, Nat.lt_succ_self _, Sub.cons rfl (Sub.cons rfl (Sub.cons rfl Sub.nil)), le_refl'⟩)).call))
  | some or =>
    obtain ⟨op, rest⟩ := or
    rw [el] at i4 tok
    dsimp only at i4 tok
    obtain ⟨l1, l2⟩ := look_ok hd el
    by_cases t : op ≥ 128
    · rw [if_pos t] at i4 tok
      rw [toldV, if_pos t]
      obtain ⟨t1, t2, t3⟩ := tok rfl
      refine iteF (Ex.ife (Tst.cmp (Ev.sub (Ev.loc rfl (Ev.int (SubS.tup rfl rfl (by decide) (by decide) (Ev.int (CmpS.eqi (TruS.bool (iteT ?_))))))))))
      refine Ex.expr (Ev.call 6 (GX.pass_on ⟨_, .ref _, keepsF_K (by kernel_rfl), ?_⟩) (nle rfl))
      refine Evs.cons (Ev.loc rfl (Evs.nil (call_pass_on h ok rfl (by omega) (by omega) fun Λ₄ h₄ o₄ => ?_).call))
      refine Ex.expr (Ev.meth 4 (pl := _) ?_ (nle rfl))
      refine Ev.attr (Ev.loc rfl (h₄.attr (by kernel_rfl) rfl rfl ?_))
      refine MethS.list h₄.hf PySem.F.slot_list_append PySem.F.type_list_append ⟨keepsF_bi _, ?_⟩
      refine Evs.cons (Ev.frzI ?_)
      refine Ev.call 4 (GX.Kern ⟨_, .ref _, keepsF_K (by kernel_rfl), ?_⟩) (nle rfl)
      refine Evs.cons (Ev.sub (Ev.loc rfl (Ev.int (SubS.tup rfl rfl (by decide) (by decide) ?_))))
      refine Evs.cons (GX.FONT_KERN (Evs.nil (FnS.cls (n := 2) (fI := 333) (by kernel_rfl) (by kernel_rfl) (by kernel_rfl) fun x' dx' ne' nx' ndx' => ?_).call))
      refine init_Kern (by unfold amount; split <;> omega) ne' ⟨rfl, x', 336, dx', _, rfl, ne', inst_x, inst_d ne', ?_⟩
      rw [inst_drop ne' nx' ndx']
      have pl := (pass_len s).1
      refine Evs.nil (CallS.append h₄.hf (by rw [List.length_map, sizeLine_eq]; omega) ?_)
      have e3 : ((passW s).found ++ [Node.kern (amount rest)]).map (nodeV (fontV d)) = (passW s).found.map (nodeV (fontV d)) ++ [kernV (amount rest)] := by simp [nodeV]
      have h5 := h₄.setf (f' := (passW s).found ++ [Node.kern (amount rest)])
      rw [e3] at h5
      exact Ex.nil (Ex.nil (Ex.nil ⟨(n, { passW s with found := (passW s).found ++ [.kern (amount rest)] }, k, _), ⟨h5.1, (o.trans o₄).trans h5.2, t1, by dsimp only; omega, by dsimp only at t3 ⊢; omega, by dsimp only; omega, i4⟩, Nat.lt_succ_self _, Sub.cons rfl (Sub.cons rfl (Sub.cons rfl Sub.nil)), le_refl'⟩))
    · rw [if_neg t] at i4 tok
      rw [toldV, if_neg t]
      refine iteF (Ex.ife (Tst.cmp (Ev.sub (Ev.loc rfl (Ev.int (SubS.tup rfl rfl (by decide) (by decide) (Ev.int (CmpS.eqi (TruS.bool ?_)))))))))
      rw [show (knownOp op + 1 == (0 : Int)) = false from by simp; omega]
      refine iteF (Ex.ife (Tst.cmp (Ev.loc rfl (Ev.int (CmpS.eqi (TruS.bool ?_))))))
      by_cases kz : k = 0
      · subst kz
        rw [if_pos rfl] at i4
        refine iteT (Ex.raise (Cl := 88) rfl rfl ?_)
        refine Ev.call 2 (GX.TooMuch ⟨_, .ref _, keepsF_K (by kernel_rfl), ?_⟩) (nle rfl)
        refine Evs.cons (Ev.str (Evs.nil (FnS.exc (n := 0) (fI := 36) rfl rfl rfl rfl (by kernel_rfl) (by kernel_rfl) (nle rfl) fun ex t ne => ?_).call))
        refine init_exc (.inl rfl) (upd_at _ _) fun dd nd => ⟨rfl, ex, t, some dd, rfl, upd_at _ _, fun g' s' o' F' => ?_⟩
        obtain ⟨mm, hn, _⟩ := F'.ns
        refine hraise i4.symm g' s' ex t (some dd) _ ?_ (nxe _ _ o ne) o' ⟨mm, hn⟩ (upd_at _ _)
        exact fun b ob e => by
          have e' := lek _ o b ob e
          have : b ≠ ex := led_ne e' ne
          rw [upd_ne _ this, upd_ne _ this]; exact e'
      · rw [if_neg kz] at i4 tok
        obtain ⟨t1, t2, t3⟩ := tok rfl
        rw [show (((k : Nat) : Int) == 0) = false from by simpa using kz]
        refine iteF (Ex.assign (Ev.bin (Ev.loc rfl (Ev.int (BinS.subi ?_)))))
        refine Ex.expr (Ev.call 7 (GX.put_between ⟨_, .ref _, keepsF_K (by kernel_rfl), ?_⟩) (nle rfl))
        refine Evs.cons (Ev.loc rfl (Evs.cons (Ev.bin (Ev.sub (Ev.loc rfl (Ev.int (SubS.tup rfl rfl (by decide) (by decide) (Ev.int (BinS.subi ?_)))))))))
        rw [show knownOp op + 1 - 1 = knownOp op by omega]
        refine Evs.cons (Ev.sub (Ev.loc rfl (Ev.int (SubS.tup rfl rfl (by decide) (by decide) ?_))))
        refine Evs.nil (call_put_between h ok rfl fz (by omega) (by omega) (l1 t) fun Λ₄ h₄ o₄ => ?_).call
        have ek : ((k : Nat) : Int) - 1 = ((k - 1 : Nat) : Int) := by omega
        rw [ek]
        exact Ex.nil (Ex.nil (Ex.nil (Ex.nil ⟨(n, putW s (knownOp op) rest, k - 1, Λ₄), ⟨h₄, o.trans o₄, t1, by dsimp only; omega, by dsimp only; omega, by dsimp only; omega, i4⟩, Nat.lt_succ_self _, Sub.cons rfl (Sub.cons rfl (Sub.cons rfl Sub.nil)), le_refl'⟩)))
end Mine
end
section
namespace Mine
noncomputable def runGo (d : FD) (hr : Bool) : List Int → List Int → Bool → List Node → Option (List Node)
  | [], piece, hl, found => (wordO d piece hl (if hr then d.edge else 256)).map fun R => found ++ R
  | c :: r, piece, hl, found => if hasB d c then runGo d hr r (piece ++ [c]) hl found else match wordO d piece hl 256 with
    | none => none
    | some R => runGo d hr r [] true (found ++ R)
noncomputable def runO (d : FD) (codes : List Int) (hl hr : Bool) : Option (List Node) := runGo d hr codes [] hl []
theorem go_len {d : FD} (h : FOK d) : ∀ (n : Nat) (s : W) (k : Nat) (R : List Node), WOK s → goW d n s k = some R → R.length ≤ s.found.length + 2 * n := by
  intro n
  induction n with
  | zero => intro s k R ok e; cases e
  | succ n ih =>
    intro s k R ok e
    rw [goW] at e
    split at e
    · rename_i g
      split at e
      · cases e
      · rename_i s' k' e'
        obtain ⟨t1, t2, t3⟩ := turn_ok h ok g e'
        have := ih _ _ _ t1 e
        omega
    · cases e; omega
theorem word_len {d : FD} (h : FOK d) {codes : List Int} (hc : ∀ c ∈ codes, 0 ≤ c ∧ c ≤ 255) (hz : codes.length ≤ 100) {hl : Bool} {edge : Int} {R : List Node} (e : wordO d codes hl edge = some R) : R.length ≤ 9000 := by
  unfold wordO at e
  split at e
  · cases e; exact Nat.zero_le _
  · obtain ⟨w1, w2, w3, w4⟩ := W0_ok hc hz (hl && decide (0 ≤ startsI d 256)) edge
    have := go_len h _ _ _ _ w1 e
    rw [w3] at this
    simp only [List.length_nil] at this
    omega
variable {K : Params → Frag}
theorem Rz.le {C : Gd K} {base : Heap} {l : List Env} {Cl : Addr} {Λ Λ' : Led} {e : Value} {s : Shared} (k : Led.le Λ Λ') (h : Rz C base l Cl Λ' e s) : Rz C base l Cl Λ e s := by
  obtain ⟨ea, a0, h1, h2, h3, h4⟩ := h
  exact ⟨ea, a0, h1, h2, fun L o e => h3 L o (k _ _ e), h4⟩
theorem upd_mono {Λ Λ' : Led} (k : Led.le Λ Λ') (a : Addr) (o : O) : Led.le (upd Λ a o) (upd Λ' a o) := fun b ob e => by
  by_cases q : b = a
  · subst q; rw [upd_at] at e ⊢; exact e
  · rw [upd_ne _ q] at e ⊢; exact k _ _ e
theorem le_drop {Λ Λ' : Led} (k : Led.le Λ Λ') {a : Addr} (n : Λ a = none) : Led.le Λ (drop Λ' a) := fun b ob e => by
  show (if b = a then none else Λ' b) = _
  rw [if_neg (led_ne e n)]; exact k _ _ e

variable {C : Gd KK} {B : Bd C} {ρ : Loc} {Λ : Led}
structure RI where
  rest : List Int
  piece : List Int
  hl : Bool
  found : List Node
  p : Addr
  L : Led
structure ROK (d : FD) (Λ : Led) (f : Addr) (i : RI) : Prop where
  rok : ∀ c ∈ i.rest, 0 ≤ c ∧ c ≤ 255
  pok : ∀ c ∈ i.piece, 0 ≤ c ∧ c ≤ 255
  len : i.piece.length + i.rest.length ≤ 100
  fnd : i.found.length + 9000 * (i.rest.length + 1) ≤ 910000
  hf : i.L f = some (.list (i.found.map (nodeV (fontV d))))
  hp : i.L i.p = some (.list (GX.nums i.piece))
  le : Led.le Λ i.L
  np : Λ i.p = none
  pf : i.p ≠ f
theorem call_run {d : FD} (hd : FOK d) {codes : List Int} (hc : ∀ c ∈ codes, 0 ≤ c ∧ c ≤ 255) (hz : codes.length ≤ 100) {hl hr : Bool} {base : Heap} {l : List Env} {Q : V → Led → Prop}
    (q : ∀ R, runO d codes hl hr = some R → Q (.lst (R.map (nodeV (fontV d)))) Λ) : FnE C 9 base l 88 (.ref 403) [fontV d, .lst (GX.nums codes), .bool hl, .bool hr] Λ Q (runO d codes hl hr = none) := by
  refine FnE.def (n := 8) (names := ["font", "codes", "left_edge", "right_edge"]) (da := []) rfl (by kernel_rfl) (fun s vs X hl => ?_) .nil (by decide) (by decide) rfl rfl rfl rfl fun L A E hA hE hfr St nL hraise hpass => ?_
  · exact allB 4 (fun v0 v1 v2 v3 => binds_K X rfl rfl rfl rfl rfl) vs hl
  refine Ex.forgets ?_
  refine Ex.for (ι := List Int) (fun ys i => ys = GX.nums i ∧ ∀ c ∈ i, 0 ≤ c ∧ c ≤ 255) (fun _ _ => [("font", fontV d), ("codes", .lst (GX.nums codes)), ("left_edge", .bool hl), ("right_edge", .bool hr)]) (fun _ _ => Λ) ?_ ?_ ?_
  · exact Ev.loc rfl ⟨_, codes, IterS.lst, ⟨rfl, hc⟩, Sub.cons rfl (Sub.cons rfl (Sub.cons rfl (Sub.cons rfl Sub.nil))), le_refl'⟩
  · rintro y ys i ⟨e1, e2⟩
    cases i with
    | nil => cases e1
    | cons c r =>
      cases e1
      have ec := e2 c (by simp)
      refine Ex.ife (Tst.not (Tst.val (Ev.call 1 (GX.is_whole ⟨_, .ref _, keepsF_K (by kernel_rfl), ?_⟩) (nle rfl))))
      refine Evs.cons (Ev.loc rfl (Evs.cons (Ev.int (Evs.cons (Ev.int (Evs.nil (call_is_whole (TruS.bool ?_)).call))))))
      rw [show (decide (0 ≤ c) && decide (c ≤ 255)) = true from by simp [ec]]
      exact iteF (Ex.nil (Ex.nil ⟨r, ⟨rfl, fun c h => e2 c (by simp [h])⟩, Sub.cons rfl (Sub.cons rfl (Sub.cons rfl (Sub.cons rfl Sub.nil))), le_refl'⟩))
  rintro i -
  refine Ex.assign (Ev.list (Evs.nil ⟨nle rfl, fun f nf => ?_⟩))
  refine Ex.assign (Ev.list (Evs.nil ⟨nle rfl, fun p np => ?_⟩))
  have pf : p ≠ f := by rintro rfl; rw [upd_at] at np; cases np
  have np' : Λ p = none := by rw [← np, upd_ne _ pf]
  refine Ex.assign (Ev.loc rfl ?_)
  -- a call of word_nodes, and its nodes behind what was found
  have step : ∀ (i : RI) (edge : Int), ROK d Λ f i → True := fun _ _ _ => trivial
  refine Ex.for (ι := RI) (fun ys i => ys = GX.nums i.rest ∧ ROK d Λ f i ∧ runGo d hr i.rest i.piece i.hl i.found = runO d codes hl hr) (fun _ i => [("font", fontV d), ("right_edge", .bool hr), ("found", .ref f), ("piece", .ref i.p), ("has_left", .bool i.hl)]) (fun _ i => i.L) ?_ ?_ ?_
  · refine Ev.loc rfl ⟨_, ⟨codes, [], hl, [], p, _⟩, IterS.lst, ⟨rfl, ⟨hc, fun c h => (nomatch h), by simpa using hz, by simp; omega, ?_, upd_at _ _, ?_, np', pf⟩, rfl⟩, Sub.cons rfl (Sub.cons rfl (Sub.cons rfl (Sub.cons rfl (Sub.cons rfl Sub.nil)))), le_refl'⟩
    · show upd _ p _ f = _; rw [upd_ne _ (Ne.symm pf), upd_at]; rfl
    · exact fun b ob e => by
        show upd (upd Λ f _) p _ b = _
        rw [upd_ne _ (led_ne e np'), upd_ne _ (led_ne e nf)]; exact e
  · rintro y ys ⟨rest, piece, hl', found, p, L'⟩ ⟨e1, ok, ego⟩
    dsimp only at e1 ok ego ⊢
    cases rest with
    | nil => cases e1
    | cons c r =>
      cases e1
      have ec := ok.rok c (by simp)
      have okr := ok.rok
      have okl := ok.len
      have okf := ok.fnd
      have okp := ok.pok
      dsimp only at okr okl okf okp
      rw [List.length_cons] at okl okf
      refine Ex.ife (Tst.val (Ev.meth 1 (pl := _) ?_ (nle rfl)))
      refine Ev.loc rfl (MethS.user (f := 193) (by kernel_rfl) (by kernel_rfl) (by kernel_rfl) (by kernel_rfl) rfl ⟨keepsF_K (by kernel_rfl), ?_⟩)
      refine Evs.cons (Ev.loc rfl (Evs.nil (call_has (TruS.bool ?_)).call))
      rw [runGo] at ego
      cases eh : hasB d c with
      | true =>
        rw [if_pos eh] at ego
        refine iteT (Ex.expr (Ev.meth 0 (pl := _) ?_ (nle rfl)))
        refine Ev.loc rfl (MethS.list ok.hp PySem.F.slot_list_append PySem.F.type_list_append ⟨keepsF_bi _, ?_⟩)
        refine Evs.cons (Ev.loc rfl (Evs.nil (CallS.append ok.hp (by show (GX.nums piece).length ≤ _; rw [nums_len, sizeLine_eq]; omega) ?_)))
        have e2 : GX.nums piece ++ [V.int c] = GX.nums (piece ++ [c]) := by simp [GX.nums]
        rw [show (⟨c :: r, piece, hl', found, p, L'⟩ : RI).piece = piece from rfl, e2]
        refine Ex.cont ⟨⟨r, piece ++ [c], hl', found, p, _⟩, ⟨rfl, ⟨fun c h => okr c (by simp [h]), fun c' h => ?_, by simp; omega, by dsimp only; omega, ?_, upd_at _ _, ?_, ok.np, ok.pf⟩, ego⟩, Sub.cons rfl (Sub.cons rfl (Sub.cons rfl (Sub.cons rfl (Sub.cons rfl Sub.nil)))), le_refl'⟩
        · rcases List.mem_append.mp h with h | h
          · exact okp c' h
          · rw [List.mem_singleton.mp h]; exact ec
        · show upd L' p _ f = _; rw [upd_ne _ (Ne.symm ok.pf)]; exact ok.hf
        · exact fun b ob e => by
            show upd L' p _ b = _
            rw [upd_ne _ (led_ne e ok.np)]; exact ok.le _ _ e
      | false =>
        rw [if_neg (by rw [eh]; exact Bool.false_ne_true)] at ego
        refine iteF (Ex.nil (Ex.freeze "piece" (b := p) rfl ok.hp ?_))
        refine Ex.expr (Ev.meth 8 (pl := _) ?_ (nle rfl))
        have hf : drop L' p f = some (.list (found.map (nodeV (fontV d)))) := by
          show (if f = p then none else L' f) = _
          rw [if_neg (Ne.symm ok.pf)]; exact ok.hf
        have lek : Led.le Λ (drop L' p) := le_drop ok.le ok.np
        refine Ev.loc rfl (MethS.list hf PySem.F.slot_list_extend PySem.F.type_list_extend ⟨keepsF_bi _, ?_⟩)
        refine Evs.cons (Ev.callX 8 (base := base) (l := l) (Cl := 88) (Qe := wordO d piece hl' 256 = none) hfr rfl nL ?_ (nle rfl))
        refine GX.word_nodes ⟨_, .ref _, keepsF_K (by kernel_rfl), ?_⟩
        refine Evs.cons (Ev.loc rfl (Evs.cons (Ev.loc rfl (Evs.cons (Ev.loc rfl (Evs.cons (GX.EDGE (Evs.nil ⟨St.le lek, fun qe oL e s' z => ?_, fun oL => call_word_nodes hd okp (by omega) fun R eR => ⟨rfl, ?_⟩⟩))))))))
        · refine hpass ?_ oL e s' (z.le (upd_mono lek _ _))
          rw [← ego, qe]
        · rw [eR] at ego
          have lR := word_len hd okp (by omega) eR
          refine Evs.nil (CallS.extend hf (by rw [List.length_map, List.length_map]; omega) ?_)
          rw [← List.map_append]
          refine Ex.assign (Ev.list (Evs.nil ⟨nle rfl, fun p' np' => ?_⟩))
          refine Ex.assign (Ev.bool ?_)
          have pf' : p' ≠ f := by rintro rfl; rw [upd_at] at np'; cases np'
          have n2 : Λ p' = none := Led.none_of_le lek (by rw [← np', upd_ne _ pf'])
          refine Ex.nil ⟨⟨r, [], true, found ++ R, p', _⟩, ⟨rfl, ⟨fun c h => okr c (by simp [h]), fun c h => (nomatch h), by dsimp only; simp only [List.length_nil]; omega, by dsimp only; rw [List.length_append]; omega, ?_, upd_at _ _, ?_, n2, pf'⟩, ego⟩, Sub.cons rfl (Sub.cons rfl (Sub.cons rfl (Sub.cons rfl (Sub.cons rfl Sub.nil)))), le_refl'⟩
          · show upd _ p' _ f = _; rw [upd_ne _ (Ne.symm pf'), upd_at]
          · exact fun b ob e => by
              show upd (upd (drop L' p) f _) p' _ b = _
              rw [upd_ne _ (led_ne e n2), upd_ne _ (led_ne e nf)]; exact lek _ _ e
  · rintro ⟨rest, piece, hl', found, p, L'⟩ ⟨e1, ok, ego⟩
    dsimp only at e1 ok ego ⊢
    cases rest with
    | cons c r => cases e1
    | nil =>
      have okl := ok.len
      have okf := ok.fnd
      have okp := ok.pok
      dsimp only at okl okf okp
      simp only [List.length_nil] at okl okf
      rw [runGo] at ego
      refine Ex.freeze "piece" (b := p) rfl ok.hp ?_
      refine Ex.expr (Ev.meth 8 (pl := _) ?_ (nle rfl))
      have hf : drop L' p f = some (.list (found.map (nodeV (fontV d)))) := by
        show (if f = p then none else L' f) = _
        rw [if_neg (Ne.symm ok.pf)]; exact ok.hf
      have lek : Led.le Λ (drop L' p) := le_drop ok.le ok.np
      refine Ev.loc rfl (MethS.list hf PySem.F.slot_list_extend PySem.F.type_list_extend ⟨keepsF_bi _, ?_⟩)
      refine Evs.cons (Ev.callX 8 (base := base) (l := l) (Cl := 88) (Qe := wordO d piece hl' (if hr then d.edge else 256) = none) hfr rfl nL ?_ (nle rfl))
      refine GX.word_nodes ⟨_, .ref _, keepsF_K (by kernel_rfl), ?_⟩
      refine Evs.cons (Ev.loc rfl (Evs.cons (Ev.loc rfl (Evs.cons (Ev.loc rfl (Evs.cons (Ev.is (.int (if hr then d.edge else 256)) ?_ (Evs.nil ⟨St.le lek, fun qe oL e s' z => ?_, fun oL => call_word_nodes hd okp (by omega) fun R eR => ⟨rfl, ?_⟩⟩))))))))
      · refine Ev.ife (Tst.val (Ev.loc rfl (TruS.bool ?_)))
        cases hr with
        | true => exact iteT (Ev.attr (Ev.loc rfl (AttrS.ins (ownF (by kernel_rfl)) rfl rfl ⟨rfl, rfl⟩)))
        | false => exact iteF (GX.EDGE ⟨rfl, rfl⟩)
      · refine hpass ?_ oL e s' (z.le (upd_mono lek _ _))
        rw [← ego, qe]; rfl
      · rw [eR] at ego
        have lR := word_len hd okp (by omega) eR
        refine Evs.nil (CallS.extend hf (by rw [List.length_map, List.length_map]; omega) ?_)
        rw [← List.map_append]
        refine Ex.ret (Ev.frz (Ev.loc rfl ⟨f, _, rfl, upd_at _ _, Λ, ?_, q _ ego.symm⟩))
        exact fun b ob e => by
          have bf := led_ne e nf
          show (if b = f then none else upd (drop L' p) f _ b) = _
          rw [if_neg bf, upd_ne _ bf]; exact lek _ _ e
end Mine
end
section
namespace Mine
variable {C : Gd KK} {B : Bd C} {ρ : Loc} {Λ : Led}
theorem call_run_bad {F : V} {codes : List Int} (hc : ∀ c ∈ codes, 0 ≤ c ∧ c ≤ 255) (hz : codes.length ≤ 100) {x : V} (hx : x = .int 256 ∨ x = .int (-1) ∨ x = .bool true) {base : Heap} {l : List Env} {Q : V → Led → Prop} :
    FnE C 9 base l 52 (.ref 403) [F, .lst (GX.nums codes ++ [x])] Λ Q True := by
  refine FnE.def (n := 8) (names := ["font", "codes", "left_edge", "right_edge"]) (dv := [.bool true, .bool true]) (da := [.bool true, .bool true]) rfl (by kernel_rfl) (fun s vs X hl => ?_) (.cons (.bool _) (.cons (.bool _) .nil)) (by decide) (by decide) rfl rfl rfl rfl fun L A E hA hE hfr St nL hraise hpass => ?_
  · exact allB 2 (fun v0 v1 => binds_K X rfl rfl rfl rfl rfl) vs hl
  refine Ex.forgets ?_
  refine Ex.for (ι := List Int) (fun ys i => (ys = GX.nums i ++ [x]) ∧ ∀ c ∈ i, 0 ≤ c ∧ c ≤ 255) (fun _ _ => []) (fun _ _ => Λ) ?_ ?_ ?_
  · exact Ev.loc rfl ⟨_, codes, IterS.lst, ⟨rfl, hc⟩, Sub.nil, le_refl'⟩
  · rintro y ys i ⟨e1, e2⟩
    cases i with
    | nil =>
      cases e1
      refine Ex.ife (Tst.not (Tst.val (Ev.call 1 (GX.is_whole ⟨_, .ref _, keepsF_K (by kernel_rfl), ?_⟩) (nle rfl))))
      refine Evs.cons (Ev.loc rfl (Evs.cons (Ev.int (Evs.cons (Ev.int (Evs.nil ?_))))))
      have h : FnS C 1 (.ref 97) [x, .int 0, .int 255] Λ (fun a Λ' => a = .bool false ∧ Λ' = Λ) := by
        rcases hx with rfl | rfl | rfl
        · exact call_is_whole ⟨rfl, rfl⟩
        · exact call_is_whole ⟨rfl, rfl⟩
        · exact call_is_whole_bool ⟨rfl, rfl⟩
      refine (h.mono fun a Λ' ⟨h1, h2⟩ => ?_).call
      subst h1 h2
      refine TruS.bool (iteT (Ex.raise (Cl := 52) rfl rfl ?_))
      refine Ev.call 2 (GX.BadArgument ⟨_, .ref _, keepsF_K (by kernel_rfl), ?_⟩) (nle rfl)
      refine Evs.cons (Ev.str (Evs.nil (FnS.exc (n := 0) (fI := 36) rfl rfl rfl rfl (by kernel_rfl) (by kernel_rfl) (nle rfl) fun ex t ne => ?_).call))
      refine init_exc (.inr rfl) (upd_at _ _) fun dd nd => ⟨rfl, ex, t, some dd, rfl, upd_at _ _, fun g' s' o' F' => ?_⟩
      obtain ⟨mm, hn, _⟩ := F'.ns
      refine hraise trivial g' s' ex t (some dd) _ ?_ ne o' ⟨mm, hn⟩ (upd_at _ _)
      exact fun b ob e => by
        have : b ≠ ex := led_ne e ne
        rw [upd_ne _ this, upd_ne _ this]; exact e
    | cons c r =>
      cases e1
      have ec := e2 c (by simp)
      refine Ex.ife (Tst.not (Tst.val (Ev.call 1 (GX.is_whole ⟨_, .ref _, keepsF_K (by kernel_rfl), ?_⟩) (nle rfl))))
      refine Evs.cons (Ev.loc rfl (Evs.cons (Ev.int (Evs.cons (Ev.int (Evs.nil (call_is_whole (TruS.bool ?_)).call))))))
      rw [show (decide (0 ≤ c) && decide (c ≤ 255)) = true from by simp [ec]]
      exact iteF (Ex.nil (Ex.nil ⟨r, ⟨rfl, fun c h => e2 c (by simp [h])⟩, Sub.nil, le_refl'⟩))
  rintro i ⟨e, -⟩
  have := congrArg List.length e
  simp at this
end Mine
end
section
namespace Mine
section
variable {K : Params → Frag} {C : Gd K} {B : Bd C} {ρ : Loc} {Λ : Led}
theorem Evs.mono {es : List Expr} {Q Q' : List V → Led → Prop} (h : Evs B ρ es Λ Q) (k : ∀ a Λ', Q a Λ' → Q' a Λ') : Evs B ρ es Λ Q' := fun pos g s o f =>
  wpAny_mono (h pos g s o f) (fun _ _ ⟨g', L, a, x1, x2, x3, x4⟩ => ⟨g', L, a, x1, x2, x3, k _ _ x4⟩) fun _ _ x => x
theorem TstAll.orF {e : Expr} {es : List Expr} {Q : Bool → Led → Prop} (h : Tst B ρ e Λ (QIs false Λ)) (t : TstAll B ρ .Or es Λ Q) : TstAll B ρ .Or (e :: es) Λ Q :=
  TstAll.or (h.mono fun c Λ' ⟨a, b⟩ => by subst a b; exact iteF t)
theorem orF2 {a b : Expr} {pos : Pos} (h1 : Tst B ρ a Λ (QIs false Λ)) (h2 : Tst B ρ b Λ (QIs false Λ)) : Tst B ρ (.BoolOp .Or [a, b] pos) Λ (QIs false Λ) :=
  Tst.bop (.orF h1 (.orF h2 (.or0 ⟨rfl, rfl⟩)))
theorem orF3 {a b c : Expr} {pos : Pos} (h1 : Tst B ρ a Λ (QIs false Λ)) (h2 : Tst B ρ b Λ (QIs false Λ)) (h3 : Tst B ρ c Λ (QIs false Λ)) : Tst B ρ (.BoolOp .Or [a, b, c] pos) Λ (QIs false Λ) :=
  Tst.bop (.orF h1 (.orF h2 (.orF h3 (.or0 ⟨rfl, rfl⟩))))
theorem orF4 {a b c d : Expr} {pos : Pos} (h1 : Tst B ρ a Λ (QIs false Λ)) (h2 : Tst B ρ b Λ (QIs false Λ)) (h3 : Tst B ρ c Λ (QIs false Λ)) (h4 : Tst B ρ d Λ (QIs false Λ)) :
    Tst B ρ (.BoolOp .Or [a, b, c, d] pos) Λ (QIs false Λ) :=
  Tst.bop (.orF h1 (.orF h2 (.orF h3 (.orF h4 (.or0 ⟨rfl, rfl⟩)))))
end
variable {C : Gd KK} {B : Bd C} {ρ : Loc} {Λ : Led}
theorem notWhole {es : List Expr} {p pn : Pos} {x lo hi : Int} (hx : lo ≤ x ∧ x ≤ hi) (k : 1 ≤ B.n) (hk : B.env.kindOf "is_whole" = some .globalImplicit) (he : Evs B ρ es Λ (QIs [.int x, .int lo, .int hi] Λ))
    (hp : ∀ env, (backTo pos (starEach es env)).any (·.1) = false) : Tst B ρ (.UnaryOp .Not (.Call (.Name "is_whole" p) es [] pos) pn) Λ (QIs false Λ) := by
  refine Tst.not (Tst.val (Ev.call 1 (GX.is_whole ⟨_, .ref _, keepsF_K (by kernel_rfl), ?_⟩ hk) k hp))
  refine Evs.mono he fun as Λ' ⟨h1, h2⟩ => ?_
  subst h1 h2
  refine (call_is_whole (TruS.bool ⟨?_, rfl⟩)).call
  simp [hx]
theorem call_check_sizes {l : List Int} (h : ∀ x ∈ l, -1073741823 ≤ x ∧ x ≤ 1073741823) {Q : V → Led → Prop} (q : Q .none Λ) : FnS C 3 (.ref 134) [.tup (GX.nums l)] Λ Q := by
  refine FnS.def (n := 2) (names := ["sizes"]) (da := []) rfl (by kernel_rfl) (fun s vs X hl => ?_) .nil (by decide) (by decide) rfl rfl rfl rfl fun A L hA => ?_
  · exact allB 1 (fun v0 => BindsTo.of_eq rfl) vs hl
  refine Ex.for (ι := List Int) (fun ys i => ys = GX.nums i ∧ ∀ x ∈ i, -1073741823 ≤ x ∧ x ≤ 1073741823) (fun _ _ => []) (fun _ _ => Λ) ?_ ?_ ?_
  · exact Ev.loc rfl ⟨_, l, IterS.tup, ⟨rfl, h⟩, Sub.nil, le_refl'⟩
  · rintro y ys i ⟨e1, e2⟩
    cases i with
    | nil => cases e1
    | cons c r =>
      cases e1
      refine Ex.ife (Tst.not (Tst.val (Ev.call 2 (GX.is_size ⟨_, .ref _, keepsF_K (by kernel_rfl), ?_⟩) (nle rfl))))
      refine Evs.cons (Ev.loc rfl (Evs.nil (call_is_size (e2 c (by simp)) (TruS.bool ?_)).call))
      exact iteF (Ex.nil (Ex.nil ⟨r, ⟨rfl, fun x hx => e2 x (by simp [hx])⟩, Sub.nil, le_refl'⟩))
  rintro i -
  exact Ex.nil q
theorem call_check_chars {d : FD} (h : FOK d) {Q : V → Led → Prop} (q : Q .none Λ) : FnS C 4 (.ref 148) [.dct (chars d), .int (many d)] Λ Q := by
  refine FnS.def (n := 3) (names := ["chars", "many"]) (da := []) rfl (by kernel_rfl) (fun s vs X hl => ?_) .nil (by decide) (by decide) rfl rfl rfl rfl fun A L hA => ?_
  · exact allB 2 (fun v0 v1 => BindsTo.of_eq rfl) vs hl
  have hr1 := h.r1
  have hm : many d ≤ 100 := by unfold many; omega
  refine Ex.for2 (ι := Int × List Int) (fun ys i => ys = (charsK (many d) i.1 i.2).map (fun p => (.int p.1, p.2)) ∧ (∀ x ∈ i.2, 0 ≤ x ∧ x ≤ many d) ∧ 0 ≤ i.1 ∧ i.1 + i.2.length ≤ 7) (fun _ _ => [("chars", .dct (chars d)), ("many", .int (many d))]) (fun _ _ => Λ) ?_ ?_ ?_
  · exact EvI2.items (Ev.loc rfl ⟨_, rfl, (0, d.begins), ⟨rfl, h.beg, Int.le_refl _, by have := h.b1; dsimp only; omega⟩, Sub.cons rfl (Sub.cons rfl Sub.nil), le_refl'⟩)
  · rintro y z ys ⟨k, bs⟩ ⟨e1, e2, e3, e4⟩
    cases bs with
    | nil => cases e1
    | cons f r =>
      cases e1
      have ef := e2 f (by simp)
      dsimp only at e3 e4
      rw [List.length_cons] at e4
      refine Ex.ife ((orF3 ?_ ?_ ?_).mono fun c Λ' ⟨a, b⟩ => ?_)
      · exact notWhole (by omega) (nle rfl) rfl (Evs.cons (Ev.loc rfl (Evs.cons (Ev.int (Evs.cons (Ev.int (Evs.nil ⟨rfl, rfl⟩))))))) (by intro _; rfl)
      · refine Tst.not (Tst.val (Ev.call 0 (GX.isinstanceB ⟨_, .bi _, keepsF_bi _, ?_⟩) (Nat.zero_le _)))
        exact Evs.cons (Ev.loc rfl (Evs.cons (GX.tupleT (Evs.nil (CallS.isTupT (TruS.bool ⟨rfl, rfl⟩))))))
      · refine Tst.cmp (Ev.call 0 (GX.lenB ⟨_, .bi _, keepsF_bi _, ?_⟩) (Nat.zero_le _))
        exact Evs.cons (Ev.loc rfl (Evs.nil (CallS.lenT (nle rfl) (Ev.int (CmpS.nei (TruS.bool ⟨rfl, rfl⟩))))))
      subst a b
      refine iteF (Ex.nil (Ex.expr (Ev.call 3 (GX.check_sizes ⟨_, .ref _, keepsF_K (by kernel_rfl), ?_⟩) (nle rfl))))
      refine Evs.cons (Ev.slc (Ev.loc rfl (EvO.none (EvO.some (Ev.int (EvO.none (SlcS.tupTo (b := 4) (show 4 < 6 by decide) (nle rfl) ?_)))))))
      refine Evs.nil (call_check_sizes (l := [65536 * k, 0, 0, 0]) (fun x hx => ?_) ?_).call
      · simp only [List.mem_cons, List.not_mem_nil, or_false] at hx
        omega
      refine Ex.swap2 (Ev.tup (Evs.cons (Ev.sub (Ev.loc rfl (Ev.int (SubS.tup rfl rfl (by decide) (by decide) (Evs.cons (Ev.sub (Ev.loc rfl (Ev.int (SubS.tup rfl rfl (by decide) (by decide) (Evs.nil ⟨nle rfl, _, _, rfl, ?_⟩))))))))))))
      refine Ex.ife ((notWhole (x := if f < many d then 1 else 0) (by split <;> omega) (nle rfl) rfl (Evs.cons (Ev.loc rfl (Evs.cons (GX.PLAIN_SORT (Evs.cons (GX.PIECES_SORT (Evs.nil ⟨rfl, rfl⟩))))))) (by intro _; rfl)).mono fun c Λ' ⟨a, b⟩ => ?_)
      subst a b
      refine iteF (Ex.nil (Ex.ife (Tst.cmp (Ev.loc rfl (GX.PIECES_SORT (CmpS.eqi (TruS.bool ?_)))))))
      rw [show ((if f < many d then 1 else 0 : Int) == 3) = false from by split <;> rfl]
      refine iteF (Ex.ife ((orF2 ?_ ?_).mono fun c Λ' ⟨a, b⟩ => ?_))
      · exact notWhole (x := if f < many d then f else 0) (by split <;> omega) (nle rfl) rfl (Evs.cons (Ev.loc rfl (Evs.cons (Ev.int (Evs.cons (Ev.int (Evs.nil ⟨rfl, rfl⟩))))))) (by intro _; rfl)
      · refine (Tst.and2 (p := (if f < many d then 1 else 0 : Int) == 1) (q := decide ((if f < many d then f else 0) ≥ many d)) (Tst.cmp (Ev.loc rfl (GX.PROGRAM_SORT (CmpS.eqi (TruS.bool ⟨rfl, rfl⟩))))) fun _ => Tst.cmp (Ev.loc rfl (Ev.loc rfl (CmpS.gei (TruS.bool ⟨rfl, rfl⟩))))).mono fun c Λ' ⟨a, b⟩ => ⟨?_, b⟩
        subst a
        by_cases p : f < many d
        · simp [p]
        · simp [p]
      subst a b
      refine iteF (Ex.nil (Ex.nil (Ex.nil ⟨(k + 1, r), ⟨rfl, fun x hx => e2 x (by simp [hx]), by dsimp only; omega, by dsimp only; omega⟩, Sub.cons rfl (Sub.cons rfl Sub.nil), le_refl'⟩)))
  rintro i -
  exact Ex.nil q
theorem call_check_larger {d : FD} (h : FOK d) {Q : V → Led → Prop} (q : Q .none Λ) : FnS C 1 (.ref 155) [.dct (chars d)] Λ Q := by
  refine FnS.def (n := 0) (names := ["chars"]) (da := []) rfl (by kernel_rfl) (fun s vs X hl => ?_) .nil (by decide) (by decide) rfl rfl rfl rfl fun A L hA => ?_
  · exact allB 1 (fun v0 => BindsTo.of_eq rfl) vs hl
  refine Ex.for (ι := Unit) (fun ys i => ∀ y ∈ ys, ∃ c, y = .int c) (fun _ _ => [("chars", .dct (chars d))]) (fun _ _ => Λ) ?_ ?_ ?_
  · refine Ev.loc rfl ⟨_, (), IterS.dct, fun y hy => ?_, Sub.cons rfl Sub.nil, le_refl'⟩
    obtain ⟨p, _, rfl⟩ := List.mem_map.mp hy
    exact ⟨_, rfl⟩
  · rintro y ys i e1
    obtain ⟨c, rfl⟩ := e1 y (by simp)
    refine Ex.swap2 (Ev.tup (Evs.cons (Ev.loc rfl (Evs.cons (Ev.int (Evs.nil ⟨nle rfl, _, _, rfl, ?_⟩))))))
    refine Ex.while (ι := Unit) (fun _ => True) (fun _ => 0) (fun _ => [("chars", .dct (chars d)), ("far", .int c)]) (fun _ => Λ) () trivial (Sub.cons rfl (Sub.cons rfl Sub.nil)) le_refl' ?_
    rintro - -
    refine (Tst.and2 (p := (getK c (chars d)).isSome) (q := false) (Tst.cmp (Ev.loc rfl (Ev.loc rfl (CmpS.inD (TruS.bool ⟨rfl, rfl⟩))))) fun hs => ?_).mono fun c' Λ' ⟨a, b⟩ => ?_
    · obtain ⟨v, hv⟩ := Option.isSome_iff_exists.mp hs
      have hv' := hv
      rw [get_chars] at hv'
      obtain ⟨f, _, rfl⟩ := Option.map_eq_some_iff.mp hv'
      refine Tst.cmp (Ev.sub (Ev.sub (Ev.loc rfl (Ev.loc rfl (SubS.dct hv (Ev.int (SubS.tup rfl rfl (by decide) (by decide) (GX.LARGER_SORT (CmpS.eqi (TruS.bool ⟨?_, rfl⟩))))))))))
      split <;> rfl
    rw [Bool.and_false] at a
    subst a b
    exact iteF (Ex.nil ⟨(), fun y hy => e1 y (by simp [hy]), Sub.cons rfl Sub.nil, le_refl'⟩)
  rintro i -
  exact Ex.nil q
theorem call_left_start {d : FD} (h : FOK d) {Q : V → Led → Prop} (q : Q (.int (edgeStart d)) Λ) : FnS C 1 (.ref 169) [.tup (d.rows.map rowV)] Λ Q := by
  refine FnS.def (n := 0) (names := ["program"]) (da := []) rfl (by kernel_rfl) (fun s vs X hl => ?_) .nil (by decide) (by decide) rfl rfl rfl rfl fun A L hA => ?_
  · exact allB 1 (fun v0 => BindsTo.of_eq rfl) vs hl
  have h0 := h.r0
  have h1 := h.r1
  have hz : (d.rows.map rowV).length ≤ sizeLine := by rw [List.length_map, sizeLine_eq]; omega
  refine Ex.ife (Tst.cmp (Ev.call 0 (GX.lenB ⟨_, .bi _, keepsF_bi _, ?_⟩) (Nat.zero_le _)))
  refine Evs.cons (Ev.loc rfl (Evs.nil (CallS.lenT hz (Ev.int (CmpS.eqi (TruS.bool ?_))))))
  rw [show (((d.rows.map rowV).length : Int) == 0) = false from beq_eq_false_iff_ne.mpr (by rw [List.length_map]; omega)]
  have el : d.rows[d.rows.length - 1]? = some (lastRow d) := by
    unfold lastRow
    rw [List.getLastD_eq_getLast?, List.getLast?_eq_getElem?]
    have : d.rows.length - 1 < d.rows.length := by omega
    rw [List.getElem?_eq_getElem this]; rfl
  refine iteF (Ex.nil (Ex.tup4 (Ev.sub (Ev.loc rfl (Ev.un (Ev.int (UnS.negi (SubS.tup (j := d.rows.length - 1) (a := rowV (lastRow d)) ?_ ?_ (by decide) (by decide) ⟨_, _, _, _, rfl, ?_⟩))))))))
  · rw [List.length_map]; simp [seqIndex?]; omega
  · rw [List.getElem?_map, el]; rfl
  refine Ex.ret (Ev.ife (Tst.cmp (Ev.loc rfl (GX.LEAD (CmpS.eqi (TruS.bool ?_))))))
  unfold edgeStart at q
  cases e : (lastRow d).1 == 255 with
  | true =>
    rw [if_pos e] at q
    exact iteT (Ev.bin (Ev.bin (Ev.int (Ev.loc rfl (BinS.muli (IntMulOk.of_left (by decide)) (Ev.loc rfl (BinS.addi q)))))))
  | false =>
    rw [if_neg (by rw [e]; exact Bool.false_ne_true)] at q
    exact iteF (Ev.un (Ev.int (UnS.negi q)))
end Mine
end
section
namespace Mine
variable {C : Gd KK} {B : Bd C} {ρ : Loc} {Λ : Led}
noncomputable def FollowOK (d : FD) : Prop := ∀ (i : Nat) (r : Row), d.rows[i]? = some r → r.1 ≤ 128 → r.2.1 = d.edge ∨ (1 ≤ r.2.1 ∧ r.2.1 ≤ d.begins.length)
theorem octets {d : FD} (h : FOK d) {i : Nat} {r : Row} (e : d.rows[i]? = some r) : ∀ x ∈ [r.1, r.2.1, r.2.2.1, r.2.2.2], 0 ≤ x ∧ x ≤ 255 := by
  have ok := h.rows _ _ e
  have h1 := h.r1
  have hm : many d ≤ 100 := by unfold many; omega
  have hb := h.b1
  have s0 := ok.s0
  have s1 := ok.s1
  have f0 := ok.f0
  have f1 := ok.f1
  have key : (0 ≤ r.2.2.1 ∧ r.2.2.1 ≤ 255) ∧ 0 ≤ r.2.2.2 ∧ r.2.2.2 ≤ 255 := by
    by_cases p : 128 < r.1
    · have := ok.lead p; omega
    · by_cases q : 128 ≤ r.2.2.1
      · have := ok.kern q; omega
      · have := ok.lig (by omega) (by omega); omega
  intro x hx
  simp only [List.mem_cons, List.not_mem_nil, or_false] at hx
  omega
theorem has_of {d : FD} {c : Int} (h1 : 1 ≤ c) (h2 : c ≤ d.begins.length) : (getK c (chars d)).isSome = true := by
  rw [get_chars, Option.isSome_map]
  unfold firstOf
  rw [if_pos h1, List.getElem?_eq_getElem (by omega)]; rfl
theorem call_check_program {d : FD} (h : FOK d) (hf : FollowOK d) {Q : V → Led → Prop} (q : Q .none Λ) : FnS C 2 (.ref 162) [.tup (d.rows.map rowV), .tup (GX.nums [7001, -3000]), .dct (chars d), .int d.edge] Λ Q := by
  refine FnS.def (n := 1) (names := ["program", "kerns", "chars", "boundary"]) (da := []) rfl (by kernel_rfl) (fun s vs X hl => ?_) .nil (by decide) (by decide) rfl rfl rfl rfl fun A L hA => ?_
  · exact allB 4 (fun v0 v1 v2 v3 => BindsTo.of_eq rfl) vs hl
  have h1 := h.r1
  have hz : (d.rows.map rowV).length ≤ sizeLine := by rw [List.length_map, sizeLine_eq]; omega
  refine Ex.assign (Ev.call 0 (GX.lenB ⟨_, .bi _, keepsF_bi _, ?_⟩) (Nat.zero_le _))
  refine Evs.cons (Ev.loc rfl (Evs.nil (CallS.lenT hz ?_)))
  rw [show ((d.rows.map rowV).length : Int) = many d from by rw [List.length_map]; rfl]
  refine Ex.for2 (ι := Nat × List Row) (fun ys i => ys = numbered (i.1 : Int) (i.2.map rowV) ∧ i.2 = d.rows.drop i.1) (fun _ _ => [("kerns", .tup (GX.nums [7001, -3000])), ("chars", .dct (chars d)), ("boundary", .int d.edge), ("many", .int (many d))]) (fun _ _ => Λ) ?_ ?_ ?_
  · exact EvI2.enum (GX.enumerateT ⟨rfl, Ev.loc rfl ⟨_, .inr rfl, (0, d.rows), ⟨rfl, rfl⟩, Sub.cons rfl (Sub.cons rfl (Sub.cons rfl (Sub.cons rfl Sub.nil))), le_refl'⟩⟩)
  · rintro y z ys ⟨k, rs⟩ ⟨e1, e2⟩
    dsimp only at e1 e2
    cases rs with
    | nil => cases e1
    | cons r rest =>
      cases e1
      have hk : k < d.rows.length := by
        by_cases z : k < d.rows.length
        · exact z
        · rw [List.drop_eq_nil_of_le (by omega)] at e2; cases e2
      have e3 := e2
      rw [List.drop_eq_getElem_cons hk] at e3
      obtain ⟨e4, e5⟩ := List.cons.inj e3
      have er : d.rows[k]? = some r := by rw [List.getElem?_eq_getElem hk, e4]
      have ok := h.rows _ _ er
      have ht : (((k : Nat) : Int) + 1) = ((k + 1 : Nat) : Int) := by omega
      refine Ex.ife ((orF2 ?_ ?_).mono fun c Λ' ⟨a, b⟩ => ?_)
      · refine Tst.not (Tst.val (Ev.call 0 (GX.isinstanceB ⟨_, .bi _, keepsF_bi _, ?_⟩) (Nat.zero_le _)))
        exact Evs.cons (Ev.loc rfl (Evs.cons (GX.tupleT (Evs.nil (CallS.isTupT (TruS.bool ⟨rfl, rfl⟩))))))
      · refine Tst.cmp (Ev.call 0 (GX.lenB ⟨_, .bi _, keepsF_bi _, ?_⟩) (Nat.zero_le _))
        exact Evs.cons (Ev.loc rfl (Evs.nil (CallS.lenT (nle rfl) (Ev.int (CmpS.nei (TruS.bool ⟨rfl, rfl⟩))))))
      subst a; obtain rfl := b.symm
      refine iteF (Ex.nil ?_)
      refine Ex.for (ι := List Int) (fun ys i => ys = GX.nums i ∧ ∀ x ∈ i, 0 ≤ x ∧ x ≤ 255) (fun _ _ => [("row", rowV r), ("place", .int (k : Nat)), ("kerns", .tup (GX.nums [7001, -3000])), ("chars", .dct (chars d)), ("boundary", .int d.edge), ("many", .int (many d))]) (fun _ _ => Λ) ?_ ?_ ?_
      · exact Ev.loc rfl ⟨_, [r.1, r.2.1, r.2.2.1, r.2.2.2], IterS.tup, ⟨rfl, octets h er⟩, Sub.cons rfl (Sub.cons rfl (Sub.cons rfl (Sub.cons rfl (Sub.cons rfl (Sub.cons rfl Sub.nil))))), le_refl'⟩
      · rintro y ys i ⟨e1, e2⟩
        cases i with
        | nil => cases e1
        | cons c r' =>
          cases e1
          refine Ex.ife ((notWhole (x := c) (e2 c (by simp)) (nle rfl) rfl (Evs.cons (Ev.loc rfl (Evs.cons (Ev.int (Evs.cons (Ev.int (Evs.nil ⟨rfl, rfl⟩))))))) (by intro _; rfl)).mono fun c Λ' ⟨a, b⟩ => ?_)
          subst a; obtain rfl := b.symm
          exact iteF (Ex.nil (Ex.nil ⟨r', ⟨rfl, fun x hx => e2 x (by simp [hx])⟩, Sub.cons rfl (Sub.cons rfl (Sub.cons rfl (Sub.cons rfl (Sub.cons rfl (Sub.cons rfl Sub.nil))))), le_refl'⟩))
      rintro i -
      refine Ex.tup4 (Ev.loc rfl ⟨_, _, _, _, rfl, ?_⟩)
      have fin : For2End (C := C) (fun ys (i : Nat × List Row) => ys = numbered (i.1 : Int) (i.2.map rowV) ∧ i.2 = d.rows.drop i.1) (fun _ _ => [("kerns", .tup (GX.nums [7001, -3000])), ("chars", .dct (chars d)), ("boundary", .int d.edge), ("many", .int (many d))]) (fun _ _ => Λ)
          (numbered ((k : Int) + 1) (rest.map rowV)) = For2End (C := C) (fun ys (i : Nat × List Row) => ys = numbered (i.1 : Int) (i.2.map rowV) ∧ i.2 = d.rows.drop i.1) (fun _ _ => [("kerns", .tup (GX.nums [7001, -3000])), ("chars", .dct (chars d)), ("boundary", .int d.edge), ("many", .int (many d))]) (fun _ _ => Λ)
          (numbered ((k : Int) + 1) (rest.map rowV)) := rfl
      refine Ex.ife (Tst.cmp (Ev.loc rfl (GX.STOP_SKIP (CmpS.gti (TruS.bool (ite_ (fun t => ?_) fun t => ?_))))))
      · have t' : 128 < r.1 := by simpa using t
        obtain ⟨l1, l2, l3, l4⟩ := ok.lead t'
        refine Ex.ife (Tst.cmp (Ev.bin (Ev.bin (Ev.int (Ev.loc rfl (BinS.muli (IntMulOk.of_left (by decide)) (Ev.loc rfl (BinS.addi (Ev.loc rfl (CmpS.gei (TruS.bool ?_))))))))))) 
        rw [decide_eq_false (by omega)]
        exact iteF (Ex.nil (Ex.cont ⟨(k + 1, rest), ⟨by rw [ht], e5⟩, Sub.cons rfl (Sub.cons rfl (Sub.cons rfl (Sub.cons rfl Sub.nil))), le_refl'⟩))
      have t' : r.1 ≤ 128 := by simpa using t
      refine Ex.nil (Ex.ife ((Tst.and2 (p := r.2.1 != d.edge) (q := !(getK r.2.1 (chars d)).isSome) (Tst.cmp (Ev.loc rfl (Ev.loc rfl (CmpS.nei (TruS.bool ⟨rfl, rfl⟩))))) fun _ => Tst.cmp (Ev.loc rfl (Ev.loc rfl (CmpS.notInD (TruS.bool ⟨rfl, rfl⟩))))).mono fun c Λ' ⟨a, b⟩ => ?_))
      have hq : (r.2.1 != d.edge && !(getK r.2.1 (chars d)).isSome) = false := by
        rcases hf _ _ er t' with e | ⟨e, e'⟩
        · rw [e]; simp
        · rw [has_of e e']; simp
      rw [hq] at a
      subst a; obtain rfl := b.symm
      refine iteF (Ex.nil (Ex.ife ((orF2 ?_ ?_).mono fun c Λ' ⟨a, b⟩ => ?_)))
      · refine (Tst.and2 (p := decide (r.2.2.1 < 128)) (q := !(getK r.2.2.2 (chars d)).isSome) (Tst.cmp (Ev.loc rfl (GX.KERN_OP (CmpS.lti (TruS.bool ⟨rfl, rfl⟩))))) fun _ => Tst.cmp (Ev.loc rfl (Ev.loc rfl (CmpS.notInD (TruS.bool ⟨rfl, rfl⟩))))).mono fun c Λ' ⟨a, b⟩ => ⟨?_, b⟩
        subst a
        by_cases u : r.2.2.1 < 128
        · obtain ⟨_, l1, l2⟩ := ok.lig t' u
          rw [has_of l1 l2]; simp
        · simp [u]
      · refine (Tst.and2 (p := decide (r.2.2.1 ≥ 128)) (q := decide (256 * (r.2.2.1 - 128) + r.2.2.2 ≥ 2)) (Tst.cmp (Ev.loc rfl (GX.KERN_OP (CmpS.gei (TruS.bool ⟨rfl, rfl⟩))))) fun _ => ?_).mono fun c Λ' ⟨a, b⟩ => ⟨?_, b⟩
        · refine Tst.cmp (Ev.bin (Ev.bin (Ev.int (Ev.bin (Ev.loc rfl (GX.KERN_OP (BinS.subi (BinS.muli (IntMulOk.of_left (by decide)) (Ev.loc rfl (BinS.addi ?_)))))))))) 
          refine Ev.call 0 (GX.lenB ⟨_, .bi _, keepsF_bi _, ?_⟩) (Nat.zero_le _)
          exact Evs.cons (Ev.loc rfl (Evs.nil (CallS.lenT (nle rfl) (CmpS.gei (TruS.bool ⟨rfl, rfl⟩)))))
        · subst a
          by_cases u : r.2.2.1 ≥ 128
          · obtain ⟨k1, k2⟩ := ok.kern u
            rw [k1]
            rcases k2 with k2 | k2 <;> (rw [k2]; rfl)
          · simp [u]
      subst a; obtain rfl := b.symm
      refine iteF (Ex.nil (Ex.ife ((Tst.and2 (p := decide (r.1 < 128)) (q := decide ((k : Int) + r.1 + 1 ≥ many d)) (Tst.cmp (Ev.loc rfl (GX.STOP_SKIP (CmpS.lti (TruS.bool ⟨rfl, rfl⟩))))) fun _ => ?_).mono fun c Λ' ⟨a, b⟩ => ?_)))
      · exact Tst.cmp (Ev.bin (Ev.bin (Ev.loc rfl (Ev.loc rfl (BinS.addi (Ev.int (BinS.addi (Ev.loc rfl (CmpS.gei (TruS.bool ⟨rfl, rfl⟩))))))))))
      have hq2 : (decide (r.1 < 128) && decide ((k : Int) + r.1 + 1 ≥ many d)) = false := by
        by_cases u : r.1 < 128
        · have := ok.step u
          simp [u]; omega
        · simp [u]
      rw [hq2] at a
      subst a; obtain rfl := b.symm
      exact iteF (Ex.nil (Ex.nil ⟨(k + 1, rest), ⟨by rw [ht], e5⟩, Sub.cons rfl (Sub.cons rfl (Sub.cons rfl (Sub.cons rfl Sub.nil))), le_refl'⟩))
  rintro i -
  exact Ex.nil q
end Mine
end
section
namespace Mine
variable {C : Gd KK} {B : Bd C} {ρ : Loc} {Λ : Led}
theorem init_Font {d : FD} (h : FOK d) (hf : FollowOK d) {x dx : Addr} (ne : x ≠ dx) {Q : V → Led → Prop} (q : Q .none (inL Λ x 259 dx (fontFs d))) :
    FnS C 5 (.ref 186) [.ref x, .int 1, .str "fa", .int 655360, .tup [], .dct (chars d), .tup (d.rows.map rowV), .tup (GX.nums [7001, -3000]), .int d.edge] (inL Λ x 259 dx []) Q := by
  refine FnS.def (n := 4) (names := ["self", "number", "name", "size", "params", "chars", "program", "kerns", "boundary"]) (da := []) rfl (by kernel_rfl) (fun s vs X hl => ?_) .nil (by decide) (by decide) rfl rfl rfl rfl fun A L hA => ?_
  · exact allB 9 (fun v0 v1 v2 v3 v4 v5 v6 v7 v8 => binds_K X rfl rfl rfl rfl rfl) vs hl
  have h1 := h.r1
  have hz : (d.rows.map rowV).length ≤ sizeLine := by rw [List.length_map, sizeLine_eq]; omega
  refine Ex.ife ((orF4 ?_ ?_ ?_ ?_).mono fun c Λ' ⟨a, b⟩ => ?_)
  · exact notWhole (x := 1) (by decide) (nle rfl) rfl (Evs.cons (Ev.loc rfl (Evs.cons (Ev.int (Evs.cons (GX.MOST_FONTS (Evs.nil ⟨rfl, rfl⟩))))))) (by intro _; rfl)
  · refine Tst.not (Tst.val (Ev.call 0 (GX.isinstanceB ⟨_, .bi _, keepsF_bi _, ?_⟩) (Nat.zero_le _)))
    exact Evs.cons (Ev.loc rfl (Evs.cons (GX.strT (Evs.nil (CallS.isStrS (TruS.bool ⟨rfl, rfl⟩))))))
  · exact Tst.cmp (Ev.loc rfl (Ev.str (CmpS.eqs (TruS.bool ⟨rfl, rfl⟩))))
  · exact notWhole (x := 655360) (by decide) (nle rfl) rfl (Evs.cons (Ev.loc rfl (Evs.cons (Ev.int (Evs.cons (GX.MOST_SIZE (Evs.nil ⟨rfl, rfl⟩))))))) (by intro _; rfl)
  subst a; obtain rfl := b.symm
  refine iteF (Ex.nil (Ex.ife ((orF2 ?_ ?_).mono fun c Λ' ⟨a, b⟩ => ?_)))
  · exact notWhole (x := d.edge) (by have := h.edge; omega) (nle rfl) rfl (Evs.cons (Ev.loc rfl (Evs.cons (Ev.int (Evs.cons (GX.EDGE (Evs.nil ⟨rfl, rfl⟩))))))) (by intro _; rfl)
  · refine Tst.cmp (Ev.call 0 (GX.lenB ⟨_, .bi _, keepsF_bi _, ?_⟩) (Nat.zero_le _))
    exact Evs.cons (Ev.loc rfl (Evs.nil (CallS.lenT (nle rfl) (GX.MOST_PARAMS (CmpS.gti (TruS.bool ⟨rfl, rfl⟩))))))
  subst a; obtain rfl := b.symm
  refine iteF (Ex.nil (Ex.expr (Ev.call 3 (GX.check_sizes ⟨_, .ref _, keepsF_K (by kernel_rfl), ?_⟩) (nle rfl))))
  refine Evs.cons (Ev.loc rfl (Evs.nil (call_check_sizes (l := []) (fun x hx => (nomatch hx)) ?_).call))
  refine Ex.expr (Ev.call 3 (GX.check_sizes ⟨_, .ref _, keepsF_K (by kernel_rfl), ?_⟩) (nle rfl))
  refine Evs.cons (Ev.loc rfl (Evs.nil (call_check_sizes (l := [7001, -3000]) (by decide) ?_).call))
  refine Ex.expr (Ev.call 4 (GX.check_chars ⟨_, .ref _, keepsF_K (by kernel_rfl), ?_⟩) (nle rfl))
  refine Evs.cons (Ev.loc rfl (Evs.cons (Ev.call 0 (GX.lenB ⟨_, .bi _, keepsF_bi _, ?_⟩) (Nat.zero_le _))))
  refine Evs.cons (Ev.loc rfl (Evs.nil (CallS.lenT hz ?_)))
  rw [show ((d.rows.map rowV).length : Int) = many d from by rw [List.length_map]; rfl]
  refine Evs.nil (call_check_chars h ?_).call
  refine Ex.expr (Ev.call 1 (GX.check_larger ⟨_, .ref _, keepsF_K (by kernel_rfl), ?_⟩) (nle rfl))
  refine Evs.cons (Ev.loc rfl (Evs.nil (call_check_larger h ?_).call))
  refine Ex.expr (Ev.call 2 (GX.check_program ⟨_, .ref _, keepsF_K (by kernel_rfl), ?_⟩) (nle rfl))
  refine Evs.cons (Ev.loc rfl (Evs.cons (Ev.loc rfl (Evs.cons (Ev.loc rfl (Evs.cons (Ev.loc rfl (Evs.nil (call_check_program h hf ?_).call))))))))
  refine Ex.setattr (Ev.loc rfl (Ev.loc rfl (SetAttrS.at ⟨by kernel_rfl, by kernel_rfl, by kernel_rfl, by kernel_rfl⟩ ne (nle rfl) ?_)))
  refine Ex.setattr (Ev.loc rfl (Ev.loc rfl (SetAttrS.at ⟨by kernel_rfl, by kernel_rfl, by kernel_rfl, by kernel_rfl⟩ ne (nle rfl) ?_)))
  refine Ex.setattr (Ev.loc rfl (Ev.loc rfl (SetAttrS.at ⟨by kernel_rfl, by kernel_rfl, by kernel_rfl, by kernel_rfl⟩ ne (nle rfl) ?_)))
  refine Ex.setattr (Ev.loc rfl (Ev.loc rfl (SetAttrS.at ⟨by kernel_rfl, by kernel_rfl, by kernel_rfl, by kernel_rfl⟩ ne (nle rfl) ?_)))
  refine Ex.setattr (Ev.int (Ev.loc rfl (SetAttrS.at ⟨by kernel_rfl, by kernel_rfl, by kernel_rfl, by kernel_rfl⟩ ne (nle rfl) ?_)))
  refine Ex.setattr (Ev.frz (Ev.call 0 (GX.listT ⟨_, .typ _, keepsF_typ _, ?_⟩) (Nat.zero_le _)))
  refine Evs.cons (Ev.loc rfl (Evs.nil (CallS.listT (nle rfl) fun a na => ⟨a, _, rfl, upd_at _ _, ?_⟩)))
  rw [drop_upd _ na]
  refine Ev.loc rfl (SetAttrS.at ⟨by kernel_rfl, by kernel_rfl, by kernel_rfl, by kernel_rfl⟩ ne (nle rfl) ?_)
  refine Ex.setattr (Ev.call 0 (GX.dictT ⟨_, .typ _, keepsF_typ _, ?_⟩) (Nat.zero_le _))
  have hcl : (chars d).length ≤ sizeLine := by
    have : ∀ (n : Int) (bs : List Int) (k : Int), (charsK n k bs).length = bs.length := by
      intro n bs
      induction bs with
      | nil => intro k; rfl
      | cons f r ih => intro k; rw [charsK, List.length_cons, ih, List.length_cons]
    have hb := h.b1
    unfold chars
    rw [this, sizeLine_eq]; omega
  refine Evs.cons (Ev.loc rfl (Evs.nil (CallS.dictD hcl ?_)))
  refine Ev.loc rfl (SetAttrS.at ⟨by kernel_rfl, by kernel_rfl, by kernel_rfl, by kernel_rfl⟩ ne (nle rfl) ?_)
  refine Ex.setattr (Ev.call 0 (GX.tupleT ⟨_, .typ _, keepsF_typ _, ?_⟩) (Nat.zero_le _))
  refine Evs.cons (Ev.loc rfl (Evs.nil (CallS.tupleT ?_)))
  refine Ev.loc rfl (SetAttrS.at ⟨by kernel_rfl, by kernel_rfl, by kernel_rfl, by kernel_rfl⟩ ne (nle rfl) ?_)
  refine Ex.setattr (Ev.call 0 (GX.tupleT ⟨_, .typ _, keepsF_typ _, ?_⟩) (Nat.zero_le _))
  refine Evs.cons (Ev.loc rfl (Evs.nil (CallS.tupleT ?_)))
  refine Ev.loc rfl (SetAttrS.at ⟨by kernel_rfl, by kernel_rfl, by kernel_rfl, by kernel_rfl⟩ ne (nle rfl) ?_)
  refine Ex.setattr (Ev.loc rfl (Ev.loc rfl (SetAttrS.at ⟨by kernel_rfl, by kernel_rfl, by kernel_rfl, by kernel_rfl⟩ ne (nle rfl) ?_)))
  refine Ex.setattr (Ev.call 1 (GX.left_start ⟨_, .ref _, keepsF_K (by kernel_rfl), ?_⟩) (nle rfl))
  refine Evs.cons (Ev.loc rfl (Evs.nil (call_left_start h ?_).call))
  refine Ev.loc rfl (SetAttrS.at ⟨by kernel_rfl, by kernel_rfl, by kernel_rfl, by kernel_rfl⟩ ne (nle rfl) ?_)
  refine Ex.setattr (Ev.int (Ev.loc rfl (SetAttrS.at ⟨by kernel_rfl, by kernel_rfl, by kernel_rfl, by kernel_rfl⟩ ne (nle rfl) ?_)))
  refine Ex.setattr (Ev.un (Ev.int (UnS.negi (Ev.loc rfl (SetAttrS.at ⟨by kernel_rfl, by kernel_rfl, by kernel_rfl, by kernel_rfl⟩ ne (nle rfl) ?_)))))
  exact Ex.nil q
theorem make_Font {d : FD} (h : FOK d) (hf : FollowOK d) {Q : V → Led → Prop} (q : ∀ x dx, x ≠ dx → Λ x = none → Λ dx = none → Q (.ref x) (inL Λ x 259 dx (fontFs d))) :
    FnS C 6 (.ref 259) [.int 1, .str "fa", .int 655360, .tup [], .dct (chars d), .tup (d.rows.map rowV), .tup (GX.nums [7001, -3000]), .int d.edge] Λ Q :=
  FnS.cls (n := 4) (fI := 186) (by kernel_rfl) (by kernel_rfl) (by kernel_rfl) fun x dx ne nx ndx => init_Font h hf ne ⟨rfl, q x dx ne nx ndx⟩
end Mine
end
section
namespace Mine
variable {C : Gd KK} {B : Bd C} {ρ : Loc} {Λ : Led}
theorem bits_le {x : Int} {m : Nat} (h : x.natAbs < 2 ^ m) : Builtin.Int.intBits x ≤ m := by
  unfold Builtin.Int.intBits
  split
  · exact Nat.zero_le _
  · rename_i q
    have : x.natAbs ≠ 0 := by intro e; apply q; simpa using e
    have := (Nat.log2_lt this).mpr h
    omega
theorem call_law_cell {vs : List Int} {k : Nat} (hz : vs.length ≤ 100) (hk : k < 2 ∨ k < vs.length) {Q : V → Led → Prop} (q : ∀ c : Int, 0 ≤ c → Q (.int c) Λ) : FnS C 1 (.ref 413) [.lst (GX.nums vs), .int (k : Nat)] Λ Q := by
  refine FnS.def (n := 0) (names := ["script", "k"]) (da := []) rfl (by kernel_rfl) (fun s vs X hl => ?_) .nil (by decide) (by decide) rfl rfl rfl rfl fun A L hA => ?_
  · exact allB 2 (fun v0 v1 => BindsTo.of_eq rfl) vs hl
  have hz' : (GX.nums vs).length ≤ sizeLine := by rw [nums_len, sizeLine_eq]; omega
  refine Ex.ret (Ev.ife (Tst.cmp (Ev.loc rfl (Ev.call 0 (GX.lenB ⟨_, .bi _, keepsF_bi _, ?_⟩) (Nat.zero_le _)))))
  refine Evs.cons (Ev.loc rfl (Evs.nil (CallS.lenL hz' (CmpS.lti (TruS.bool (ite_ (fun h => ?_) fun h => ?_))))))
  · have h' : k < vs.length := by
      have := of_decide_eq_true h
      rw [nums_len] at this
      omega
    refine Ev.call 0 (GX.absB ⟨_, .bi _, keepsF_bi _, ?_⟩) (Nat.zero_le _)
    refine Evs.cons (Ev.sub (Ev.loc rfl (Ev.loc rfl (SubS.lstI (a := .int vs[k]) (by omega) ?_ hz' (Evs.nil (CallS.abs (q _ ?_)))))))
    · rw [nums_get]; simp [h']
    · split <;> omega
  · have h' : ¬ k < vs.length := by
      have := of_decide_eq_false h
      rw [nums_len] at this
      omega
    have hk' : k < 2 := by omega
    refine Ev.sub (GX.law_chosen (Ev.loc rfl ?_))
    match k, hk' with
    | 0, _ => exact SubS.tup rfl rfl (by decide) (by decide) (q _ (by decide))
    | 1, _ => exact SubS.tup rfl rfl (by decide) (by decide) (q _ (by decide))
noncomputable abbrev Bag := Int × Int × Int
noncomputable def bagO (t : Bag) : O := .list [.int t.1, .int t.2.1, .int t.2.2]
structure BagOK (n : Nat) (t : Bag) : Prop where
  x0 : 0 ≤ t.1
  y0 : 0 ≤ t.2.1
  y1 : t.2.1 < 2147483629
  z0 : 0 ≤ t.2.2
  z1 : t.2.2 ≤ n
theorem BagOK.le {n m : Nat} {t : Bag} (h : BagOK n t) (k : n ≤ m) : BagOK m t := ⟨h.x0, h.y0, h.y1, h.z0, by have := h.z1; omega⟩
theorem call_law_bag {c : Int} (hc : 0 ≤ c) {Q : V → Led → Prop} (q : ∀ a t, Λ a = none → BagOK 0 t → Q (.ref a) (upd Λ a (bagO t))) : FnS C 1 (.ref 420) [.int c] Λ Q := by
  refine FnS.def (n := 0) (names := ["cell"]) (da := []) rfl (by kernel_rfl) (fun s vs X hl => ?_) .nil (by decide) (by decide) rfl rfl rfl rfl fun A L hA => ?_
  · exact allB 1 (fun v0 => BindsTo.of_eq rfl) vs hl
  have p1 : (Builtin.Int.intBits 10 : Int) * 18 ≤ 2 ^ 27 := by decide
  have p2 : (Builtin.Int.intBits 10 : Int) * 90 ≤ 2 ^ 27 := by decide
  have n2 : (10 : Int) ^ (90 : Int).toNat ≠ 0 := by decide
  refine Ex.ret (Ev.list (Evs.cons (Ev.bin (Ev.call 0 (GX.maxB ⟨_, .bi _, keepsF_bi _, ?_⟩) (Nat.zero_le _)))))
  refine Evs.cons (Ev.int (Evs.cons (Ev.bin (Ev.loc rfl (Ev.bin (Ev.int (Ev.int (BinS.powi (by decide) p1 (BinS.subi (Evs.nil (CallS.max ?_)))))))))))
  refine Ev.bin (Ev.int (Ev.int (BinS.powi (by decide) p2 (BinS.modi n2 ?_))))
  refine Evs.cons (Ev.bin (Ev.loc rfl (Ev.int (BinS.modi (by decide) ?_))))
  refine Evs.cons (Ev.int (Evs.nil ⟨nle rfl, fun a na => q a (_, _, _) na ⟨?_, ?_, ?_, Int.le_refl _, Int.le_refl _⟩⟩))
  · exact Int.fmod_nonneg (by split <;> omega) (by decide)
  · exact Int.fmod_nonneg hc (by decide)
  · exact Int.fmod_lt_of_pos _ (by decide)
theorem log2_small {x : Nat} (h : x < 2 ^ 60) : x.log2 < 9000 := by
  by_cases e : x = 0
  · subst e; decide
  · have := (Nat.log2_lt e).mpr h
    omega
theorem call_draw {a : Addr} {t : Bag} {n : Nat} {size : Int} (hs : 0 < size) (hs1 : size < 2 ^ 59) (ok : BagOK n t) (hn : n ≤ 100000) {Q : V → Led → Prop}
    (q : ∀ d t', 0 ≤ d → d < size → BagOK (n + 1) t' → Q (.int d) (upd Λ a (bagO t'))) : FnS C 1 (.ref 427) [.ref a, .int size] (upd Λ a (bagO t)) Q := by
  refine FnS.def (n := 0) (names := ["bag", "size"]) (da := []) rfl (by kernel_rfl) (fun s vs X hl => ?_) .nil (by decide) (by decide) rfl rfl rfl rfl fun A L hA => ?_
  · exact allB 2 (fun v0 v1 => BindsTo.of_eq rfl) vs hl
  obtain ⟨x, y, z⟩ := t
  obtain ⟨x0, y0, y1, z0, z1⟩ := ok
  dsimp only at x0 y0 y1 z0 z1
  have at0 : ∀ (t : Bag), upd Λ a (bagO t) a = some (.list [.int t.1, .int t.2.1, .int t.2.2]) := fun t => upd_at _ _
  refine Ex.ife (Tst.cmp (Ev.sub (Ev.loc rfl (Ev.int (SubS.led (at0 _) rfl rfl (by decide) (by decide) (Ev.int (CmpS.gti (TruS.bool (ite_ (fun h => ?_) fun h => ?_)))))))))
  · refine Ex.assign (Ev.bin (Ev.sub (Ev.loc rfl (Ev.int (SubS.led (at0 _) rfl rfl (by decide) (by decide) (Ev.loc rfl (BinS.modi (by omega) ?_)))))))
    refine Ex.setsub (Ev.bin (Ev.sub (Ev.loc rfl (Ev.int (SubS.led (at0 _) rfl rfl (by decide) (by decide) (Ev.loc rfl (BinS.divi (by omega) (log2_small (by omega)) (Ev.loc rfl (Ev.int ?_)))))))))
    refine SetSubS.list (k := 0) (at0 _) (by show 0 < 3; decide) (by decide) ?_
    rw [upd_upd]
    refine Ex.ret (Ev.loc rfl (q _ (_, y, z) (Int.fmod_nonneg x0 (by omega)) (Int.fmod_lt_of_pos _ hs) ⟨?_, y0, y1, z0, by dsimp only; omega⟩))
    show 0 ≤ x.fdiv size
    rw [Int.fdiv_eq_ediv_of_nonneg _ (by omega)]
    exact Int.ediv_nonneg x0 (by omega)
  · refine Ex.nil (Ex.setsub (Ev.bin (Ev.sub (Ev.loc rfl (Ev.int (SubS.led (at0 _) rfl rfl (by decide) (by decide) (Ev.int (BinS.addi (Ev.loc rfl (Ev.int ?_))))))))))
    refine SetSubS.list (k := 2) (at0 _) (by show 2 < 3; decide) (by decide) ?_
    rw [upd_upd]
    have at1 : upd Λ a (.list ([V.int x, V.int y, V.int z].set 2 (V.int (z + 1)))) a = some (.list [.int x, .int y, .int (z + 1)]) := upd_at _ _
    have b1 : (y + 40961 * (z + 1) + 577).natAbs < 2 ^ 33 := by omega
    have b2 := bits_le b1
    refine Ex.assign (Ev.bin (Ev.bin (Ev.bin (Ev.bin (Ev.sub (Ev.loc rfl (Ev.int (SubS.led at1 rfl rfl (by decide) (by decide) (Ev.bin (Ev.int (Ev.sub (Ev.loc rfl (Ev.int (SubS.led at1 rfl rfl (by decide) (by decide) ?_))))))))))))))
    refine BinS.muli (IntMulOk.of_left (by decide)) (BinS.addi (Ev.int (BinS.addi (Ev.int (BinS.powi (by decide) (by omega) (Ev.int (BinS.modi (by decide) ?_)))))))
    have m0 : 0 ≤ ((y + 40961 * (z + 1) + 577) ^ (5 : Int).toNat).fmod 2147483647 := Int.fmod_nonneg_of_pos _ (by decide)
    have m1 : ((y + 40961 * (z + 1) + 577) ^ (5 : Int).toNat).fmod 2147483647 < 2147483647 := Int.fmod_lt_of_pos _ (by decide)
    generalize ((y + 40961 * (z + 1) + 577) ^ (5 : Int).toNat).fmod 2147483647 = m at m0 m1
    have b3 : (m + 104729 * (z + 1)).natAbs < 2 ^ 35 := by omega
    have b4 := bits_le b3
    refine Ex.assign (Ev.bin (Ev.bin (Ev.bin (Ev.loc rfl (Ev.bin (Ev.int (Ev.sub (Ev.loc rfl (Ev.int (SubS.led at1 rfl rfl (by decide) (by decide) ?_))))))))))
    refine BinS.muli (IntMulOk.of_left (by decide)) (BinS.addi (Ev.int (BinS.powi (by decide) (by omega) (Ev.int (BinS.modi (by decide) ?_)))))
    generalize ((m + 104729 * (z + 1)) ^ (3 : Int).toNat).fmod 2147483587 = m2
    refine Ex.ret (Ev.bin (Ev.bin (Ev.loc rfl (Ev.int (BinS.divi (by decide) (by decide) (Ev.loc rfl (BinS.modi (by omega) ?_)))))))
    exact q _ (x, y, z + 1) (Int.fmod_nonneg_of_pos _ (by omega)) (Int.fmod_lt_of_pos _ hs) ⟨x0, y0, y1, by dsimp only; omega, by dsimp only; omega⟩
end Mine
end
section
namespace Mine
variable {C : Gd KK} {B : Bd C} {ρ : Loc} {Λ : Led}
theorem num_at {l : List Int} {P : Int → Prop} (h : ∀ x ∈ l, P x) {d : Int} (h0 : 0 ≤ d) (h1 : d < l.length) : ∃ x : Int, (GX.nums l)[d.toNat]? = some (.int x) ∧ P x := by
  have q : d.toNat < l.length := by omega
  exact ⟨l[d.toNat], by rw [nums_get, List.getElem?_eq_getElem q]; rfl, h _ (List.getElem_mem q)⟩
theorem op_at {d : Int} (h0 : 0 ≤ d) (h1 : d < 9) : ∃ op : Int, (GX.nums [0, 1, 2, 3, 5, 6, 7, 11, 10])[d.toNat]? = some (.int op) ∧ 0 ≤ op ∧ op ≤ 11 := num_at (P := fun op => 0 ≤ op ∧ op ≤ 11) (by decide) h0 h1
theorem jump_at {d : Int} (h0 : 0 ≤ d) (h1 : d < 4) : ∃ j : Int, ([.int 0, .int 0, .int 128, .int 1] : List V)[d.toNat]? = some (.int j) ∧ (j = 0 ∨ j = 128 ∨ j = 1) := num_at (l := [0, 0, 128, 1]) (P := fun j => j = 0 ∨ j = 128 ∨ j = 1) (by decide) h0 h1
theorem op_kern {op rest letters : Int} (h : (op = 128 ∧ (rest = 0 ∨ rest = 1)) ∨ (0 ≤ op ∧ op ≤ 11 ∧ 1 ≤ rest ∧ rest ≤ letters)) : (128 ≤ op → op = 128 ∧ (rest = 0 ∨ rest = 1)) ∧ (op < 128 → 0 ≤ op ∧ 1 ≤ rest ∧ rest ≤ letters) := by
  rcases h with ⟨a, b⟩ | ⟨a, b, c, e⟩
  · exact ⟨fun _ => ⟨a, b⟩, fun q => absurd q (by rw [a]; decide)⟩
  · exact ⟨fun q => absurd (Int.le_trans q b) (by decide), fun _ => ⟨a, c, e⟩⟩
theorem call_law_row {a : Addr} {t : Bag} {n : Nat} {place many letters edge : Int} (hp : 0 ≤ place ∧ place < many) (hm : many ≤ 100) (hl : 1 ≤ letters ∧ letters ≤ 7) (he : edge = 256 ∨ edge = 1 ∨ edge = 9) (ok : BagOK n t) (hn : n ≤ 90000) {Q : V → Led → Prop}
    (q : ∀ r t', RowOK many letters place r → (r.1 ≤ 128 → r.2.1 = edge ∨ (1 ≤ r.2.1 ∧ r.2.1 ≤ letters)) → BagOK (n + 8) t' → Q (rowV r) (upd Λ a (bagO t'))) :
    FnS C 2 (.ref 434) [.ref a, .int place, .int many, .int letters, .int edge] (upd Λ a (bagO t)) Q := by
  refine FnS.def (n := 1) (names := ["bag", "place", "many", "letters", "edge"]) (da := []) rfl (by kernel_rfl) (fun s vs X hl => ?_) .nil (by decide) (by decide) rfl rfl rfl rfl fun A L hA => ?_
  · exact allB 5 (fun v0 v1 v2 v3 v4 => BindsTo.of_eq rfl) vs hl
  refine Ex.ife (Tst.mono (Q := fun c Λ' => ∃ t', Λ' = upd Λ a (bagO t') ∧ BagOK (n + 1) t' ∧ (c = true → place + 1 = many)) ?_ ?_)
  · refine Tst.bop (TstAll.and (Tst.cmp (Ev.bin (Ev.loc rfl (Ev.int (BinS.addi (Ev.loc rfl (CmpS.eqi (TruS.bool (ite_ (fun h => ?_) fun h => ?_))))))))))
    · refine TstAll.and (Tst.cmp (Ev.call 1 (GX.law_draw ⟨_, .ref _, keepsF_K (by kernel_rfl), ?_⟩) (nle rfl)))
      refine Evs.cons (Ev.loc rfl (Evs.cons (Ev.int (Evs.nil (call_draw (by decide) (by decide) ok (by omega) fun d t' d0 d1 ok' => ?_).call))))
      refine Ev.int (CmpS.eqi (TruS.bool (ite_ (fun h' => ?_) fun h' => ?_)))
      · exact TstAll.and0 ⟨t', rfl, ok', fun _ => by simpa using h⟩
      · exact ⟨t', rfl, ok', fun e => (nomatch e)⟩
    · exact ⟨t, rfl, ok.le (Nat.le_succ _), fun e => (nomatch e)⟩
  rintro c _ ⟨t1, rfl, ok1, hc⟩
  refine ite_ (fun h => ?_) fun h => ?_
  · refine Ex.ret (Ev.tup (Evs.cons (Ev.int (Evs.cons (Ev.int (Evs.cons (Ev.int (Evs.cons (Ev.call 1 (GX.law_draw ⟨_, .ref _, keepsF_K (by kernel_rfl), ?_⟩) (nle rfl))))))))))
    refine Evs.cons (Ev.loc rfl (Evs.cons (Ev.loc rfl (Evs.nil (call_draw (by omega) (by omega) ok1 (by omega) fun d t' d0 d1 ok' => ?_).call))))
    refine Evs.nil ⟨nle rfl, q (255, 0, 0, d) t' ?_ ?_ (ok'.le (by omega))⟩
    · exact ⟨by dsimp only; omega, by dsimp only; omega, by dsimp only; omega, by dsimp only; omega, fun _ => ⟨rfl, rfl, d0, d1⟩, fun h => by dsimp only at h; omega, fun h => by dsimp only at h; omega, fun h => by dsimp only at h; omega, fun _ => hc h⟩
    · intro h; dsimp only at h; omega
  refine Ex.nil (Ex.assign (Ev.call 1 (GX.law_draw ⟨_, .ref _, keepsF_K (by kernel_rfl), ?_⟩) (nle rfl)))
  refine Evs.cons (Ev.loc rfl (Evs.cons (Ev.int (Evs.nil (call_draw (by decide) (by decide) ok1 (by omega) fun sort t2 s0 s1 ok2 => ?_).call))))
  refine Ex.ife (Tst.cmp (Ev.loc rfl (Ev.int (CmpS.eqi (TruS.bool (ite_ (fun h => ?_) fun h => ?_))))))
  · refine Ex.assign (Ev.bin (Ev.int (Ev.call 1 (GX.law_draw ⟨_, .ref _, keepsF_K (by kernel_rfl), ?_⟩) (nle rfl))))
    refine Evs.cons (Ev.loc rfl (Evs.cons (Ev.int (Evs.nil (call_draw (by decide) (by decide) ok2 (by omega) fun e t3 e0 e1 ok3 => BinS.addi ?_).call))))
    refine Ex.ret (Ev.tup (Evs.cons (Ev.loc rfl (Evs.cons (Ev.int (Evs.cons (Ev.int (Evs.cons (Ev.call 1 (GX.law_draw ⟨_, .ref _, keepsF_K (by kernel_rfl), ?_⟩) (nle rfl))))))))))
    refine Evs.cons (Ev.loc rfl (Evs.cons (Ev.loc rfl (Evs.nil (call_draw (by omega) (by omega) ok3 (by omega) fun d t' d0 d1 ok' => ?_).call))))
    refine Evs.nil ⟨nle rfl, q (129 + e, 0, 0, d) t' ?_ ?_ (ok'.le (by omega))⟩
    · exact ⟨by dsimp only; omega, by dsimp only; omega, by dsimp only; omega, by dsimp only; omega, fun _ => ⟨rfl, rfl, d0, d1⟩, fun h => by dsimp only at h; omega, fun h => by dsimp only at h; omega, fun h => by dsimp only at h; omega, fun h => by dsimp only at h; omega⟩
    · intro h; dsimp only at h; omega
  refine Ex.nil (Ex.assign (Ev.bin (Ev.int (Ev.call 1 (GX.law_draw ⟨_, .ref _, keepsF_K (by kernel_rfl), ?_⟩) (nle rfl)))))
  refine Evs.cons (Ev.loc rfl (Evs.cons (Ev.bin (Ev.loc rfl (Ev.int (BinS.addi (Evs.nil (call_draw (by omega) (by omega) ok2 (by omega) fun b t3 b0 b1 ok3 => BinS.addi ?_).call)))))))
  refine Ex.ifj (ι := Int) (fun i => (i = edge ∨ (1 ≤ i ∧ i ≤ letters)) ∧ 0 ≤ i ∧ i ≤ 255) (fun i => [("bag", .ref a), ("place", .int place), ("many", .int many), ("letters", .int letters), ("sort", .int sort), ("behind", .int i)]) (fun _ => upd Λ a (bagO t3)) (Tst.cmp (Ev.loc rfl (Ev.loc rfl (CmpS.gti (TruS.bool (ite_ (fun h => ?_) fun h => ?_)))))) ?_
  · refine Ex.assign (Ev.is (.int (if edge < 256 then edge else 1)) ?_ ?_)
    · refine Ev.ife (Tst.cmp (Ev.loc rfl (Ev.int (CmpS.lti (TruS.bool (ite_ (fun h => ?_) fun h => ?_))))))
      · exact Ev.loc rfl ⟨by rw [if_pos (of_decide_eq_true h)], rfl⟩
      · exact Ev.int ⟨by rw [if_neg (of_decide_eq_false h)], rfl⟩
    · exact Ex.nil ⟨_, by split <;> omega, Sub.cons rfl (Sub.cons rfl (Sub.cons rfl (Sub.cons rfl (Sub.cons rfl (Sub.cons rfl Sub.nil))))), le_refl'⟩
  · have h' := of_decide_eq_false h
    exact Ex.nil ⟨_, by omega, Sub.cons rfl (Sub.cons rfl (Sub.cons rfl (Sub.cons rfl (Sub.cons rfl (Sub.cons rfl Sub.nil))))), le_refl'⟩
  rintro behind ⟨f0, f1, f2⟩
  refine Ex.ifj (ι := Int × Int × Bag) (fun i => ((i.1 = 128 ∧ (i.2.1 = 0 ∨ i.2.1 = 1)) ∨ (0 ≤ i.1 ∧ i.1 ≤ 11 ∧ 1 ≤ i.2.1 ∧ i.2.1 ≤ letters)) ∧ BagOK (n + 5) i.2.2) (fun i => [("bag", .ref a), ("place", .int place), ("many", .int many), ("behind", .int behind), ("op", .int i.1), ("rest", .int i.2.1)]) (fun i => upd Λ a (bagO i.2.2))
    (Tst.cmp (Ev.loc rfl (Ev.int (CmpS.eqi (TruS.bool (ite_ (fun h => ?_) fun h => ?_)))))) ?_
  · refine Ex.swap2 (Ev.tup (Evs.cons (Ev.int (Evs.cons (Ev.call 1 (GX.law_draw ⟨_, .ref _, keepsF_K (by kernel_rfl), ?_⟩) (nle rfl))))))
    refine Evs.cons (Ev.loc rfl (Evs.cons (Ev.int (Evs.nil (call_draw (by decide) (by decide) ok3 (by omega) fun d t4 d0 d1 ok4 => ?_).call))))
    refine Evs.nil ⟨nle rfl, _, _, rfl, ?_⟩
    exact Ex.nil ⟨(128, d, t4), ⟨.inl ⟨rfl, by dsimp only; omega⟩, ok4.le (by omega)⟩, Sub.cons rfl (Sub.cons rfl (Sub.cons rfl (Sub.cons rfl (Sub.cons rfl (Sub.cons rfl Sub.nil))))), le_refl'⟩
  · refine Ex.assign (Ev.sub (GX.law_ops (Ev.call 1 (GX.law_draw ⟨_, .ref _, keepsF_K (by kernel_rfl), ?_⟩) (nle rfl))))
    refine Evs.cons (Ev.loc rfl (Evs.cons (Ev.int (Evs.nil (call_draw (by decide) (by decide) ok3 (by omega) fun d t4 d0 d1 ok4 => ?_).call))))
    obtain ⟨op, o1, o2, o3⟩ := op_at d0 d1
    refine SubS.tupI d0 o1 (nle rfl) ?_
    refine Ex.assign (Ev.bin (Ev.int (Ev.call 1 (GX.law_draw ⟨_, .ref _, keepsF_K (by kernel_rfl), ?_⟩) (nle rfl))))
    refine Evs.cons (Ev.loc rfl (Evs.cons (Ev.loc rfl (Evs.nil (call_draw (by omega) (by omega) ok4 (by omega) fun d' t5 d0' d1' ok5 => BinS.addi ?_).call))))
    exact Ex.nil ⟨(op, 1 + d', t5), ⟨.inr ⟨o2, o3, by dsimp only; omega, by dsimp only; omega⟩, ok5.le (by omega)⟩, Sub.cons rfl (Sub.cons rfl (Sub.cons rfl (Sub.cons rfl (Sub.cons rfl (Sub.cons rfl Sub.nil))))), le_refl'⟩
  rintro ⟨op, rest, t5⟩ ⟨hop, ok5⟩
  dsimp only at hop ok5 ⊢
  refine Ex.assign (Ev.sub (Ev.tup (Evs.cons (Ev.int (Evs.cons (Ev.int (Evs.cons (Ev.int (Evs.cons (Ev.int (Evs.nil ⟨nle rfl, Ev.call 1 (GX.law_draw ⟨_, .ref _, keepsF_K (by kernel_rfl), ?_⟩) (nle rfl)⟩)))))))))))
  refine Evs.cons (Ev.loc rfl (Evs.cons (Ev.int (Evs.nil (call_draw (by decide) (by decide) ok5 (by omega) fun d t6 d0 d1 ok6 => ?_).call))))
  obtain ⟨j, j1, j2⟩ := jump_at d0 d1
  refine SubS.tupI d0 j1 (nle rfl) ?_
  refine Ex.ifj (ι := Int) (fun i => (i = 0 ∨ i = 128 ∨ i = 1) ∧ (i < 128 → place + i + 1 < many)) (fun i => [("behind", .int behind), ("op", .int op), ("rest", .int rest), ("jump", .int i)]) (fun _ => upd Λ a (bagO t6))
    (Tst.cmp (Ev.bin (Ev.bin (Ev.loc rfl (Ev.loc rfl (BinS.addi (Ev.int (BinS.addi (Ev.loc rfl (CmpS.gei (TruS.bool (ite_ (fun h => ?_) fun h => ?_)))))))))))) ?_
  · exact Ex.assign (Ev.int (Ex.nil ⟨128, ⟨by decide, fun h => by omega⟩, Sub.cons rfl (Sub.cons rfl (Sub.cons rfl (Sub.cons rfl Sub.nil))), le_refl'⟩))
  · have h' := of_decide_eq_false h
    exact Ex.nil ⟨j, ⟨j2, fun h => by omega⟩, Sub.cons rfl (Sub.cons rfl (Sub.cons rfl (Sub.cons rfl Sub.nil))), le_refl'⟩
  rintro jump ⟨k1, k2⟩
  refine Ex.ret (Ev.tup (Evs.cons (Ev.loc rfl (Evs.cons (Ev.loc rfl (Evs.cons (Ev.loc rfl (Evs.cons (Ev.loc rfl (Evs.nil ⟨nle rfl, ?_⟩))))))))))
  have kj : 0 ≤ jump ∧ jump ≤ 128 := by rcases k1 with rfl | rfl | rfl <;> decide
  have ko := op_kern hop
  exact q (jump, behind, op, rest) t6 ⟨kj.1, Int.le_trans kj.2 (by decide), f1, f2, fun h => absurd kj.2 (Int.not_le.mpr h), k2, ko.1, fun _ => ko.2, fun h => absurd kj.2 (by rw [show jump = 255 from h]; decide)⟩ (fun _ => f0) (ok6.le (by omega))
end Mine
end
section
namespace Mine
section
variable {K : Params → Frag} {C : Gd K} {B : Bd C} {ρ : Loc} {Λ : Led}
theorem upFrom_all {prog : Program} {w : World} {g : FV} : ∀ (n : Nat) (a : Int) (l : List Value), l.length = n → (∀ j v, l[j]? = some v → ∃ tk, v = Value.int (a + (j : Nat)) tk) → VRs prog w g l (upFrom a n) := by
  intro n
  induction n with
  | zero => intro a l e h; rw [List.length_eq_zero_iff] at e; subst e; exact .nil
  | succ n ih =>
    intro a l e h
    cases l with
    | nil => cases e
    | cons v r =>
      obtain ⟨tk, rfl⟩ := h 0 v (by simp)
      refine .cons (by simpa using VR.int _ _) (ih (a + 1) r (by simpa using e) fun j v' e' => ?_)
      obtain ⟨tk', rfl⟩ := h (j + 1) v' (by simpa using e')
      exact ⟨tk', by congr 1; omega⟩
theorem CallS.listR {n : Nat} {a b : Int} (h1 : -(2 ^ 20) ≤ a) (h4 : a ≤ 2 ^ 20) (h5 : -(2 ^ 20) ≤ b) (h2 : b ≤ 2 ^ 20) {Q : V → Led → Prop} (q : ∀ r, Λ r = none → Q (.ref r) (upd Λ r (.list (upFrom a (b - a).toNat)))) : CallS C n (.type "list") [.rng a b] Λ Q := by
  intro A E g s ws hA o hw
  cases hw with
  | cons h r2 => cases r2; cases h with
    | @rng r _ _ t u w hg =>
      have hs := o.gin _ _ hg
      have hn : Builtin.Range.rangeSize a b 1 = ((b - a).toNat : Int) := by
        unfold Builtin.Range.rangeSize
        simp only [show (1 : Int) > 0 from by decide, if_true, Int.ediv_one]
        split <;> omega
      have hsm : Builtin.Range.small a b 1 = true := by
        unfold Builtin.Range.small
        rw [hn]
        simp only [Builtin.Range.rangeFitsLong, show (1 : Int) > 0 from by decide, if_true, Bool.and_eq_true, Bool.or_eq_true, decide_eq_true_eq, beq_iff_eq]
        refine ⟨⟨⟨⟨⟨by omega, by omega⟩, ?_⟩, ⟨by omega, by omega⟩⟩, ⟨by omega, by omega⟩⟩, ?_⟩
        · constructor <;> omega
        · exact .inr (by constructor <;> omega)
      refine call_list_range hA.hh hs hsm hn (by omega) fun h' tk acc' c' hk hS' hacc => ?_
      refine list_made (c := acc'.toList) o (upFrom_all _ _ _ (by simpa using hacc.1) fun j v hv => ?_) hk (by simpa using hS') q
      obtain ⟨tk, rfl⟩ := hacc.2 j v (by simpa using hv)
      exact ⟨tk, by rw [Int.mul_one]⟩
end
theorem find_put (k : Int) (b : V) (k' : Int) : ∀ kvs : List (Int × V), getK k' (putK k b kvs) = if k' = k then some b else getK k' kvs := by
  intro kvs
  unfold putK getK
  split
  · rename_i h
    induction kvs with
    | nil => cases h
    | cons p r ih =>
      rw [List.map_cons, List.find?_cons, List.find?_cons]
      by_cases q : p.1 = k
      · rw [if_pos q]
        by_cases q' : k' = k
        · subst q'; simp [q]
        · have : ¬ p.1 = k' := by rw [q]; exact fun e => q' e.symm
          simp only [this, decide_false, if_neg q']
          by_cases z : (r.any fun kv => decide (kv.1 = k)) = true
          · have := ih z
            rw [if_neg q'] at this
            exact this
          · have : r.map (fun kv => if kv.1 = k then (kv.1, b) else kv) = r := by
              refine (List.map_congr_left fun kv hkv => ?_).trans (List.map_id r)
              rw [if_neg]
              · rfl
              · intro e; apply z; exact List.any_eq_true.mpr ⟨kv, hkv, by simpa using e⟩
            rw [this]
      · rw [if_neg q]
        have z : (r.any fun kv => decide (kv.1 = k)) = true := by simpa [q] using h
        have := ih z
        by_cases q' : p.1 = k'
        · have : ¬ k' = k := by rw [← q']; exact q
          simp [q', this]
        · simp only [q', decide_false]; exact this
  · rename_i h
    rw [List.find?_append]
    by_cases q' : k' = k
    · subst q'
      have : kvs.find? (fun kv => decide (kv.1 = k')) = none := by
        rw [List.find?_eq_none]
        intro x hx e
        apply h
        exact List.any_eq_true.mpr ⟨x, hx, e⟩
      rw [this]; simp
    · have : ¬ k = k' := fun e => q' e.symm
      simp [q', this]
end Mine
end
section
namespace Mine
variable {C : Gd KK} {B : Bd C} {ρ : Loc} {Λ : Led}
theorem eqv_same {n : Nat} {a : V} (h : DOk n a) : PyData.eqv a.d a.d = true := PySem.SeqAt.eqv_refl _ h.lay.1
noncomputable def pairV (p : Int × Int) : V := .tup [.int p.1, .int p.2]
theorem scan_256 {d : FD} (h : FOK d) : ∀ (n : Nat) (p : Int), scan d.rows 256 n p = none := by
  intro n
  induction n with
  | zero => intro p; rfl
  | succ n ih =>
    intro p
    unfold scan
    split
    · rfl
    · rename_i r hr
      have ok := h.rows _ _ hr
      have : (r.2.1 == 256) = false := beq_eq_false_iff_ne.mpr (by have := ok.f1; omega)
      rw [this, Bool.false_and, if_neg Bool.false_ne_true, ih]
      split <;> rfl
theorem look_scan {d : FD} (h : FOK d) (left right : Int) : lookO d left right = if startsI d left < 0 then none else scan d.rows right d.rows.length (place0 d left) := by
  unfold lookO
  by_cases p : startsI d left < 0
  · simp [p]
  · by_cases q : right = 256
    · subst q; simp [p, scan_256 h]
    · simp [p, q]
theorem look_kern {d : FD} (h : FOK d) {l r op rest : Int} (e : lookO d l r = some (op, rest)) (q : op ≥ 128) : rest = 0 ∨ rest = 1 := by
  unfold lookO at e
  split at e
  · cases e
  · obtain ⟨i, row, h1, h2, rfl, rfl⟩ := scan_ok _ _ _ _ e
    exact ((h.rows _ _ h1).kern q).2
theorem putK_len (k : Int) (b : V) (kvs : List (Int × V)) : (putK k b kvs).length ≤ kvs.length + 1 := by
  unfold putK
  split
  · rw [List.length_map]; omega
  · rw [List.length_append]; exact Nat.le_refl _
theorem SubS.rowL {n : Nat} {d : FD} {p : Int} {r : Row} {Q : V → Led → Prop} (h : FOK d) (h0 : 0 ≤ p) (e : d.rows[p.toNat]? = some r) (q : Q (rowV r) Λ) : SubS C n (.lst (d.rows.map rowV)) (.int p) Λ Q :=
  SubS.lstI h0 (by rw [List.getElem?_map, e]; rfl) (by rw [List.length_map, sizeLine_eq]; have := h.r1; omega) q
structure I37 (d : FD) (first : Int) (i : Nat × Int × List (Int × V)) : Prop where
  z : i.2.2.length + i.1 ≤ 200
  p : 0 ≤ i.2.1
  m : i.2.1 < many d → many d - i.2.1 ≤ i.1
  e : ∀ right, (getK right i.2.2).or (if i.2.1 < many d then (scan d.rows right i.1 i.2.1).map pairV else none) = (scan d.rows right d.rows.length first).map pairV
theorem call_law_pairs {d : FD} (h : FOK d) {first : Int} (h0 : 0 ≤ first) (h1 : first < many d) {Q : V → Led → Prop} (q : ∀ kvs, (∀ right, getK right kvs = (scan d.rows right d.rows.length first).map pairV) → Q (.dct kvs) Λ) : FnS C 1 (.ref 441) [.lst (d.rows.map rowV), .int first] Λ Q := by
  refine FnS.def (n := 0) (names := ["rows", "first"]) (da := []) rfl (by kernel_rfl) (fun s vs X hl => ?_) .nil (by decide) (by decide) rfl rfl rfl rfl fun A L hA => ?_
  · exact allB 2 (fun v0 v1 => BindsTo.of_eq rfl) vs hl
  have hr1 := h.r1
  have hz : (d.rows.map rowV).length ≤ sizeLine := by rw [List.length_map, sizeLine_eq]; omega
  have hml : ((d.rows.map rowV).length : Int) = many d := by rw [List.length_map]; rfl
  have hm : many d ≤ 100 := by unfold many; omega
  refine Ex.assign (Ev.dict fun b nb => Ex.assign (Ev.loc rfl ?_))
  refine Ex.while (ι := Nat × Int × List (Int × V)) (I37 d first) (fun i => i.1)
    (fun i => [("rows", .lst (d.rows.map rowV)), ("found", .ref b), ("place", .int i.2.1)]) (fun i => upd Λ b (.dict i.2.2)) (d.rows.length, first, []) ⟨by simp; omega, h0, fun _ => by dsimp only; unfold many; omega, fun right => by dsimp only; rw [if_pos h1]; rfl⟩
    (Sub.cons rfl (Sub.cons rfl (Sub.cons rfl Sub.nil))) le_refl' ?_
  rintro ⟨m, p, kvs⟩ ⟨i1, i2, i3, i4⟩
  dsimp only at i1 i2 i3 i4 ⊢
  refine Tst.cmp (Ev.loc rfl (Ev.call 0 (GX.lenB ⟨_, .bi _, keepsF_bi _, ?_⟩) (Nat.zero_le _)))
  refine Evs.cons (Ev.loc rfl (Evs.nil (CallS.lenL hz (CmpS.lti (TruS.bool (ite_ (fun t => ?_) fun t => ?_))))))
  rotate_left
  · have t' := of_decide_eq_false t
    rw [hml] at t'
    refine Ex.ret (Ev.frzD (Ev.loc rfl ⟨b, kvs, rfl, upd_at _ _, ?_⟩))
    rw [drop_upd _ nb]
    refine q kvs fun right => ?_
    rw [← i4 right, if_neg t', Option.or_none]
  have t' := of_decide_eq_true t
  rw [hml] at t'
  obtain ⟨r, hr⟩ := rows_get i2 t'
  have ok := h.rows _ _ hr
  have := i3 t'
  obtain ⟨m, rfl⟩ : ∃ m', m = m' + 1 := ⟨m - 1, by omega⟩
  refine Ex.tup4 (Ev.sub (Ev.loc rfl (Ev.loc rfl (SubS.rowL h i2 hr ⟨_, _, _, _, rfl, ?_⟩))))
  refine Ex.ifj (ι := List (Int × V)) (fun k' => k'.length ≤ kvs.length + 1 ∧ ∀ right, getK right k' = (getK right kvs).or (if r.2.1 == right && decide (r.1 ≤ 128) then some (pairV (r.2.2.1, r.2.2.2)) else none))
    (fun k' => [("rows", .lst (d.rows.map rowV)), ("found", .ref b), ("place", .int p), ("jump", .int r.1)]) (fun k' => upd Λ b (.dict k')) (Tst.is (decide (r.1 < 129) && !(getK r.2.1 kvs).isSome) ?_ ?_) ?_
  · exact Tst.and2 (Tst.cmp (Ev.loc rfl (Ev.int (CmpS.lti (TruS.bool ⟨rfl, rfl⟩))))) fun _ => Tst.cmp (Ev.loc rfl (Ev.loc rfl (CmpS.notInLed (upd_at _ _) (TruS.bool ⟨rfl, rfl⟩))))
  · refine ite_ (fun u => ?_) fun u => ?_
    · simp only [Bool.and_eq_true, decide_eq_true_eq, Bool.not_eq_true', Option.isSome_eq_false_iff, Option.isNone_iff_eq_none] at u
      obtain ⟨u1, u2⟩ := u
      refine Ex.setsub (Ev.tup (Evs.cons (Ev.loc rfl (Evs.cons (Ev.loc rfl (Evs.nil ⟨nle rfl, Ev.loc rfl (Ev.loc rfl (SetSubS.dict (upd_at _ _) (by rw [sizeLine_eq]; omega) ?_))⟩))))))
      rw [upd_upd]
      refine Ex.nil ⟨_, ⟨putK_len _ _ _, fun right => ?_⟩, Sub.cons rfl (Sub.cons rfl (Sub.cons rfl (Sub.cons rfl Sub.nil))), le_refl'⟩
      rw [find_put]
      by_cases e : right = r.2.1
      · subst e
        rw [u2]
        have : r.1 ≤ 128 := by omega
        simp [this, pairV]
      · have e' : (r.2.1 == right) = false := beq_eq_false_iff_ne.mpr fun z => e z.symm
        rw [if_neg e, e', Bool.false_and, if_neg Bool.false_ne_true, Option.or_none]
    · refine Ex.nil ⟨kvs, ⟨Nat.le_succ _, fun right => ?_⟩, Sub.cons rfl (Sub.cons rfl (Sub.cons rfl (Sub.cons rfl Sub.nil))), le_refl'⟩
      cases e : getK right kvs with
      | some v => rfl
      | none =>
        rw [if_neg]
        · rfl
        · intro z
          simp only [Bool.and_eq_true, beq_iff_eq, decide_eq_true_eq] at z
          rw [z.1, e] at u
          have : r.1 < 129 := by omega
          simp [this] at u
  rintro k' ⟨l1, l2⟩
  refine Ex.assign (Ev.is (.int (if r.1 < 128 then p + r.1 + 1 else many d)) ?_ ?_)
  · refine Ev.ife (Tst.cmp (Ev.loc rfl (Ev.int (CmpS.lti (TruS.bool (ite_ (fun v => ?_) fun v => ?_))))))
    · exact Ev.bin (Ev.bin (Ev.loc rfl (Ev.loc rfl (BinS.addi (Ev.int (BinS.addi ⟨by rw [if_pos (of_decide_eq_true v)], rfl⟩))))))
    · refine Ev.call 0 (GX.lenB ⟨_, .bi _, keepsF_bi _, ?_⟩) (Nat.zero_le _)
      exact Evs.cons (Ev.loc rfl (Evs.nil (CallS.lenL hz ⟨by rw [if_neg (of_decide_eq_false v), hml], rfl⟩)))
  have k0 : p = (p.toNat : Int) := by omega
  rw [← k0] at ok
  generalize hnx : (if r.1 < 128 then p + r.1 + 1 else many d) = nx
  have s0 := ok.s0
  have hn1 : r.1 < 128 → nx = p + r.1 + 1 ∧ nx < many d := fun v => by have := ok.step v; rw [if_pos v] at hnx; omega
  have hn2 : ¬ r.1 < 128 → nx = many d := fun v => by rw [if_neg v] at hnx; omega
  refine Ex.nil ⟨(m, nx, k'), ⟨by dsimp only; omega, by dsimp only; omega, by dsimp only; omega, fun right => ?_⟩, Nat.lt_succ_self _, Sub.cons rfl (Sub.cons rfl (Sub.cons rfl Sub.nil)), le_refl'⟩
  dsimp only
  rw [← i4 right, l2 right, if_pos t', scan, hr]
  dsimp only
  cases getK right kvs with
  | some v => simp
  | none =>
    rw [Option.none_or, Option.none_or]
    by_cases e : (r.2.1 == right && decide (r.1 ≤ 128)) = true
    · rw [if_pos e, if_pos e]; rfl
    · rw [if_neg e, if_neg e, Option.none_or]
      by_cases v : r.1 < 128
      · obtain ⟨v1, v2⟩ := hn1 v
        rw [if_pos v, if_pos v2, v1]
      · rw [if_neg v, if_neg (by have := hn2 v; omega)]; rfl
end Mine
end
section
namespace Mine
variable {C : Gd KK} {B : Bd C} {ρ : Loc} {Λ : Led}
/-- tables that tell what the program says -/
noncomputable def TblOK (d : FD) (tk : List (Int × V)) : Prop := ∀ left, ∃ kvs, (getK left tk).getD (.dct []) = .dct kvs ∧ ∀ right, getK right kvs = (lookO d left right).map pairV
theorem starts_at {d : FD} {k : Nat} {f : Int} (e : d.begins[k]? = some f) (hb : d.begins.length ≤ 7) : startsI d ((k : Int) + 1) = if f < many d then f else -1 := by
  have hk : k < d.begins.length := by
    by_cases z : k < d.begins.length
    · exact z
    · rw [List.getElem?_eq_none (by omega)] at e; cases e
  unfold startsI
  rw [show (((k : Int) + 1) == 256) = false from beq_eq_false_iff_ne.mpr (by omega), if_neg Bool.false_ne_true]
  unfold firstOf
  rw [if_pos (by omega), show ((k : Int) + 1 - 1).toNat = k by omega, e]
theorem starts_none {d : FD} {c : Int} (h : c ≠ 256) (e : firstOf d c = none) : startsI d c = -1 := by
  unfold startsI
  rw [show (c == 256) = false from beq_eq_false_iff_ne.mpr h, if_neg Bool.false_ne_true, e]
structure I38 (d : FD) (ys : List (V × V)) (i : Nat × List Int × List (Int × V)) : Prop where
  e1 : ys = numbered (i.1 : Int) (GX.nums i.2.1)
  e2 : i.2.1 = d.begins.drop i.1
  z : i.2.2.length ≤ i.1
  n : getK 256 i.2.2 = none
  k : i.1 ≤ d.begins.length
  h : ∀ left, left ≠ 256 → ∃ kvs, (getK left i.2.2).getD (.dct []) = .dct kvs ∧ ∀ right, getK right kvs = (if left ≤ i.1 then lookO d left right else none).map pairV
theorem call_law_tables {d : FD} (h : FOK d) {Q : V → Led → Prop} (q : ∀ tk, TblOK d tk → Q (.dct tk) Λ) : FnS C 2 (.ref 448) [.lst (d.rows.map rowV), .lst (GX.nums d.begins)] Λ Q := by
  refine FnS.def (n := 1) (names := ["rows", "begins"]) (da := []) rfl (by kernel_rfl) (fun s vs X hl => ?_) .nil (by decide) (by decide) rfl rfl rfl rfl fun A L hA => ?_
  · exact allB 2 (fun v0 v1 => BindsTo.of_eq rfl) vs hl
  have hr1 := h.r1
  have hr0 := h.r0
  have hb1 := h.b1
  have hz : (d.rows.map rowV).length ≤ sizeLine := by rw [List.length_map, sizeLine_eq]; omega
  have hml : ((d.rows.map rowV).length : Int) = many d := by rw [List.length_map]; rfl
  have hm : many d ≤ 100 := by unfold many; omega
  refine Ex.assign (Ev.dict fun b nb => ?_)
  refine Ex.for2 (ι := Nat × List Int × List (Int × V)) (I38 d)
    (fun _ _ => [("rows", .lst (d.rows.map rowV)), ("tables", .ref b)]) (fun _ i => upd Λ b (.dict i.2.2)) ?_ ?_ ?_
  · refine EvI2.enum (GX.enumerateT ⟨rfl, Ev.loc rfl ⟨_, .inl rfl, (0, d.begins, []), ⟨rfl, rfl, Nat.le_refl _, rfl, Nat.zero_le _, fun left hl => ⟨[], rfl, fun right => ?_⟩⟩, Sub.cons rfl (Sub.cons rfl Sub.nil), le_refl'⟩⟩)
    show none = _
    split
    · have : lookO d left right = none := by
        rw [look_scan h, starts_none hl, if_pos (by decide)]
        unfold firstOf
        rw [if_neg]
        dsimp only at *
        omega
      rw [this]; rfl
    · rfl
  · rintro y z ys ⟨k, bs, kvs⟩ ⟨e1, e2, e3, e4, e5, e6⟩
    dsimp only at e1 e2 e3 e4 e5 e6 ⊢
    cases bs with
    | nil => cases e1
    | cons f rest =>
      cases e1
      have hk : k < d.begins.length := by
        by_cases z : k < d.begins.length
        · exact z
        · rw [List.drop_eq_nil_of_le (by omega)] at e2; cases e2
      have e3' := e2
      rw [List.drop_eq_getElem_cons hk] at e3'
      obtain ⟨e7, e8⟩ := List.cons.inj e3'
      have ef : d.begins[k]? = some f := by rw [List.getElem?_eq_getElem hk, e7]
      have hst := starts_at ef hb1
      have hf := h.beg f (List.mem_of_getElem? ef)
      have ht : ((k : Nat) : Int) + 1 = ((k + 1 : Nat) : Int) := by omega
      refine Ex.ifj (ι := List (Int × V)) (fun k' => k'.length ≤ kvs.length + 1 ∧ getK 256 k' = none ∧ ∀ left, left ≠ 256 → ∃ kvs, (getK left k').getD (.dct []) = .dct kvs ∧ ∀ right, getK right kvs = (if left ≤ (k + 1 : Nat) then lookO d left right else none).map pairV)
        (fun k' => [("rows", .lst (d.rows.map rowV)), ("tables", .ref b)]) (fun k' => upd Λ b (.dict k')) (Tst.cmp (Ev.loc rfl (Ev.call 0 (GX.lenB ⟨_, .bi _, keepsF_bi _, ?_⟩) (Nat.zero_le _)))) ?_
      · refine Evs.cons (Ev.loc rfl (Evs.nil (CallS.lenL hz (CmpS.lti (TruS.bool ?_)))))
        rw [hml]
        refine ite_ (fun t => ?_) fun t => ?_
        · have t' := of_decide_eq_true t
          rw [if_pos t'] at hst
          obtain ⟨r, hr⟩ := rows_get hf.1 t'
          have ok := h.rows _ _ hr
          have ep : place0 d ((k : Int) + 1) = if r.1 > 128 then r.2.2.2 else f := by
            unfold place0
            rw [hst, hr]
            dsimp only
            rw [show (((k : Int) + 1) != 256) = true from bne_iff_ne.mpr (by omega), Bool.true_and]
            by_cases u : r.1 > 128
            · have := ok.lead u
              rw [if_pos (by simpa using u), if_pos u]; omega
            · rw [if_neg (by simpa using u), if_neg u]
          have hp : 0 ≤ place0 d ((k : Int) + 1) ∧ place0 d ((k : Int) + 1) < many d := by
            rw [ep]
            split
            · rename_i u
              have := ok.lead u; omega
            · omega
          refine Ex.setsub (Ev.call 1 (GX.law_pairs ⟨_, .ref _, keepsF_K (by kernel_rfl), ?_⟩) (nle rfl))
          refine Evs.cons (Ev.loc rfl (Evs.cons (Ev.is (.int (place0 d ((k : Int) + 1))) ?_ ?_)))
          · rw [ep]
            refine Ev.ife (Tst.cmp (Ev.sub (Ev.sub (Ev.loc rfl (Ev.loc rfl (SubS.rowL h hf.1 hr (Ev.int (SubS.tup rfl rfl (by decide) (by decide) (Ev.int (CmpS.gti (TruS.bool (ite_ (fun u => ?_) fun u => ?_))))))))))))
            · rw [if_pos (of_decide_eq_true u)]
              exact Ev.sub (Ev.sub (Ev.loc rfl (Ev.loc rfl (SubS.rowL h hf.1 hr (Ev.int (SubS.tup rfl rfl (by decide) (by decide) ⟨rfl, rfl⟩))))))
            · rw [if_neg (of_decide_eq_false u)]
              exact Ev.loc rfl ⟨rfl, rfl⟩
          refine Evs.nil (call_law_pairs h hp.1 hp.2 fun kv hkv => ?_).call
          refine Ev.loc rfl (Ev.bin (Ev.loc rfl (Ev.int (BinS.addi (SetSubS.dict (upd_at _ _) (by rw [sizeLine_eq]; omega) ?_)))))
          rw [upd_upd]
          refine Ex.nil ⟨_, ⟨putK_len _ _ _, ?_, fun left hl => ?_⟩, Sub.cons rfl (Sub.cons rfl Sub.nil), le_refl'⟩
          · rw [find_put, if_neg (by omega)]; exact e4
          · rw [find_put]
            by_cases e : left = (k : Int) + 1
            · subst e
              refine ⟨kv, by rw [if_pos rfl]; rfl, fun right => ?_⟩
              rw [if_pos (by omega), look_scan h, if_neg (by omega)]
              exact hkv right
            · rw [if_neg e]
              obtain ⟨kv', a1, a2⟩ := e6 left hl
              refine ⟨kv', a1, fun right => ?_⟩
              rw [a2 right]
              by_cases u : left ≤ (k : Int)
              · rw [if_pos u, if_pos (by omega)]
              · rw [if_neg u, if_neg (by omega)]
        · have t' := of_decide_eq_false t
          rw [if_neg t'] at hst
          refine Ex.nil ⟨kvs, ⟨Nat.le_succ _, e4, fun left hl => ?_⟩, Sub.cons rfl (Sub.cons rfl Sub.nil), le_refl'⟩
          obtain ⟨kv', a1, a2⟩ := e6 left hl
          refine ⟨kv', a1, fun right => ?_⟩
          rw [a2 right]
          by_cases u : left ≤ (k : Int)
          · rw [if_pos u, if_pos (by omega)]
          · rw [if_neg u]
            by_cases u' : left = (k : Int) + 1
            · subst u'
              rw [if_pos (by omega), look_scan h, hst, if_pos (by decide)]
            · rw [if_neg (by omega)]
      rintro k' ⟨l1, l2, l3⟩
      exact Ex.nil ⟨(k + 1, rest, k'), ⟨by rw [ht]; rfl, e8, by dsimp only; omega, l2, hk, l3⟩, Sub.cons rfl (Sub.cons rfl Sub.nil), le_refl'⟩
  rintro ⟨k, bs, kvs⟩ ⟨e1, e2, e3, e4, e5, e6⟩
  dsimp only at e1 e2 e3 e4 e5 e6 ⊢
  have hk : k = d.begins.length := by
    cases bs with
    | cons f r => cases e1
    | nil =>
      have := congrArg List.length e2
      rw [List.length_drop] at this
      simp only [List.length_nil] at this
      omega
  have el : d.rows[d.rows.length - 1]? = some (lastRow d) := by
    unfold lastRow
    rw [List.getLastD_eq_getLast?, List.getLast?_eq_getElem?]
    have : d.rows.length - 1 < d.rows.length := by omega
    rw [List.getElem?_eq_getElem this]; rfl
  have ok := h.rows _ _ el
  have low : ∀ left, left ≠ 256 → ∃ kvs', (getK left kvs).getD (.dct []) = .dct kvs' ∧ ∀ right, getK right kvs' = (lookO d left right).map pairV := fun left hl => by
    obtain ⟨kv', a1, a2⟩ := e6 left hl
    refine ⟨kv', a1, fun right => ?_⟩
    rw [a2 right]
    by_cases u : left ≤ (k : Int)
    · rw [if_pos u]
    · rw [if_neg u, look_scan h, starts_none hl, if_pos (by decide)]
      unfold firstOf
      rw [List.getElem?_eq_none (by omega)]
      split <;> rfl
  have sub_last : ∀ {n : Nat} {Λ' : Led} {Q' : V → Led → Prop}, Q' (rowV (lastRow d)) Λ' → SubS C n (.lst (d.rows.map rowV)) (.int (-1)) Λ' Q' := fun {n Λ' Q'} q' =>
    SubS.lst (j := d.rows.length - 1) (by rw [List.length_map]; simp [seqIndex?]; omega) (by rw [List.getElem?_map, el]; rfl) (by decide) (by decide) q'
  refine Ex.ifj (ι := List (Int × V)) (fun k' => TblOK d k') (fun k' => [("tables", .ref b)]) (fun k' => upd Λ b (.dict k')) (Tst.cmp (Ev.sub (Ev.sub (Ev.loc rfl (Ev.un (Ev.int (UnS.negi (sub_last (Ev.int (SubS.tup rfl rfl (by decide) (by decide) (Ev.int (CmpS.eqi (TruS.bool (ite_ (fun t => ?_) fun t => ?_)))))))))))))) ?_
  · have t' : (lastRow d).1 = 255 := by simpa using t
    obtain ⟨c1, c2, c3, c4⟩ := ok.lead (by omega)
    have es : startsI d 256 = (lastRow d).2.2.2 := by
      unfold startsI edgeStart
      rw [show ((256 : Int) == 256) = true from rfl, if_pos rfl, if_pos t]; omega
    have ep : place0 d 256 = (lastRow d).2.2.2 := by
      unfold place0
      rw [es]
      obtain ⟨r, hr⟩ := rows_get c3 c4
      rw [hr]; rfl
    refine Ex.setsub (Ev.call 1 (GX.law_pairs ⟨_, .ref _, keepsF_K (by kernel_rfl), ?_⟩) (nle rfl))
    refine Evs.cons (Ev.loc rfl (Evs.cons (Ev.sub (Ev.sub (Ev.loc rfl (Ev.un (Ev.int (UnS.negi (sub_last (Ev.int (SubS.tup rfl rfl (by decide) (by decide) ?_)))))))))))
    refine Evs.nil (call_law_pairs h c3 c4 fun kv hkv => ?_).call
    refine Ev.loc rfl (Ev.int (SetSubS.dict (upd_at _ _) (by rw [sizeLine_eq]; omega) ?_))
    rw [upd_upd]
    refine Ex.nil ⟨_, fun left => ?_, Sub.cons rfl Sub.nil, le_refl'⟩
    rw [find_put]
    by_cases e : left = 256
    · subst e
      refine ⟨kv, by rw [if_pos rfl]; rfl, fun right => ?_⟩
      rw [look_scan h, if_neg (by omega), ep]
      exact hkv right
    · rw [if_neg e]; exact low left e
  · refine Ex.nil ⟨kvs, fun left => ?_, Sub.cons rfl Sub.nil, le_refl'⟩
    by_cases e : left = 256
    · subst e
      refine ⟨[], by rw [e4]; rfl, fun right => ?_⟩
      have es : startsI d 256 = -1 := by
        unfold startsI edgeStart
        rw [show ((256 : Int) == 256) = true from rfl, if_pos rfl, if_neg (by rw [t]; exact Bool.false_ne_true)]
      rw [look_scan h, es, if_pos (by decide)]; rfl
    · exact low left e
  intro k' hk'
  refine Ex.ret (Ev.frzD (Ev.loc rfl ⟨b, k', rfl, upd_at _ _, ?_⟩))
  rw [drop_upd _ nb]
  exact q k' hk'
end Mine
end
section
namespace Mine
variable {C : Gd KK} {B : Bd C} {ρ : Loc} {Λ : Led}
theorem told_ok (o : Option (Int × Int)) : DOk 8 (toldV o) := by
  unfold toldV
  split
  · exact .none
  · split <;> exact .tup (.cons .int (.cons .int .nil))
theorem upFrom_int (n : Nat) : ∀ a : Int, ∀ y ∈ upFrom a n, ∃ i, y = .int i := by
  induction n with
  | zero => intro a y h; cases h
  | succ n ih =>
    intro a y h
    rcases List.mem_cons.mp h with rfl | h
    · exact ⟨a, rfl⟩
    · exact ih _ _ h
theorem call_looks_right {d : FD} (h : FOK d) {tk : List (Int × V)} (ht : TblOK d tk) {letters : Int} (hl : 0 ≤ letters ∧ letters ≤ 7) {Q : V → Led → Prop} (q : Q (.bool true) Λ) : FnS C 3 (.ref 455) [fontV d, .dct tk, .int letters] Λ Q := by
  refine FnS.def (n := 2) (names := ["font", "tables", "letters"]) (da := []) rfl (by kernel_rfl) (fun s vs X hl => ?_) .nil (by decide) (by decide) rfl rfl rfl rfl fun A L hA => ?_
  · exact allB 3 (fun v0 v1 v2 => BindsTo.of_eq rfl) vs hl
  have hz : ∀ (t : List V), t.length ≤ 2 → (upFrom 1 (letters + 2 - 1).toNat).length + t.length ≤ sizeLine := fun t ht => by rw [upFrom_length, sizeLine_eq]; omega
  refine Ex.for (ι := Unit) (fun ys _ => ∀ y ∈ ys, ∃ i, y = .int i) (fun _ _ => [("font", fontV d), ("tables", .dct tk), ("letters", .int letters)]) (fun _ _ => Λ) ?_ ?_ ?_
  · refine Ev.frz (Ev.bin (Ev.frz (Ev.call 0 (GX.listT ⟨_, .typ _, keepsF_typ _, ?_⟩) (Nat.zero_le _))))
    refine Evs.cons (Ev.call 0 (GX.rangeT ⟨_, .typ _, keepsF_typ _, ?_⟩) (Nat.zero_le _))
    refine Evs.cons (Ev.int (Evs.cons (Ev.bin (Ev.loc rfl (Ev.int (BinS.addi (Evs.nil (CallS.range2 ?_))))))))
    refine Evs.nil (CallS.listR (by omega) (by omega) (by omega) (by omega) fun r nr => ⟨r, _, rfl, upd_at _ _, ?_⟩)
    rw [drop_upd _ nr]
    refine Ev.frz (Ev.list (Evs.cons (Ev.int (Evs.nil ⟨nle rfl, fun a na => ⟨a, _, rfl, upd_at _ _, ?_⟩⟩))))
    rw [drop_upd _ na]
    refine BinS.addl (hz _ (nle rfl)) fun a na => ⟨a, _, rfl, upd_at _ _, ?_⟩
    rw [drop_upd _ na]
    refine ⟨_, (), IterS.lst, fun y hy => ?_, Sub.cons rfl (Sub.cons rfl (Sub.cons rfl Sub.nil)), le_refl'⟩
    rcases List.mem_append.mp hy with hy | hy
    · exact upFrom_int _ _ _ hy
    · exact ⟨_, List.mem_singleton.mp hy⟩
  · rintro y ys - e1
    obtain ⟨left, rfl⟩ := e1 y (by simp)
    obtain ⟨kvs, k1, k2⟩ := ht left
    refine Ex.for (ι := Unit) (fun zs _ => ∀ y ∈ zs, ∃ i, y = .int i) (fun _ _ => [("font", fontV d), ("tables", .dct tk), ("letters", .int letters), ("left", .int left)]) (fun _ _ => Λ) ?_ ?_ ?_
    · refine Ev.frz (Ev.bin (Ev.frz (Ev.call 0 (GX.listT ⟨_, .typ _, keepsF_typ _, ?_⟩) (Nat.zero_le _))))
      refine Evs.cons (Ev.call 0 (GX.rangeT ⟨_, .typ _, keepsF_typ _, ?_⟩) (Nat.zero_le _))
      refine Evs.cons (Ev.int (Evs.cons (Ev.bin (Ev.loc rfl (Ev.int (BinS.addi (Evs.nil (CallS.range2 ?_))))))))
      refine Evs.nil (CallS.listR (by omega) (by omega) (by omega) (by omega) fun r nr => ⟨r, _, rfl, upd_at _ _, ?_⟩)
      rw [drop_upd _ nr]
      refine Ev.frz (Ev.list (Evs.cons (Ev.int (Evs.cons (Ev.int (Evs.nil ⟨nle rfl, fun a na => ⟨a, _, rfl, upd_at _ _, ?_⟩⟩))))))
      rw [drop_upd _ na]
      refine BinS.addl (hz _ (nle rfl)) fun a na => ⟨a, _, rfl, upd_at _ _, ?_⟩
      rw [drop_upd _ na]
      refine ⟨_, (), IterS.lst, fun y hy => ?_, Sub.cons rfl (Sub.cons rfl (Sub.cons rfl (Sub.cons rfl Sub.nil))), le_refl'⟩
      rcases List.mem_append.mp hy with hy | hy
      · exact upFrom_int _ _ _ hy
      · rcases List.mem_cons.mp hy with rfl | hy
        · exact ⟨_, rfl⟩
        · exact ⟨_, List.mem_singleton.mp hy⟩
    · rintro y zs - e2
      obtain ⟨right, rfl⟩ := e2 y (by simp)
      refine Ex.assign (Ev.is ((lookO d left right).map pairV |>.getD .none) ?_ ?_)
      · refine Ev.meth 0 (pl := _) ?_ (nle rfl)
        refine Ev.is (.dct kvs) ?_ ?_
        · refine Ev.meth 0 (pl := _) ?_ (nle rfl)
          refine Ev.loc rfl (MethS.dct PySem.F.slot_dict_get PySem.F.type_dict_get ⟨keepsF_bi _, ?_⟩)
          refine Evs.cons (Ev.loc rfl (Evs.cons (Ev.frzD (Ev.dict fun b nb => ⟨b, _, rfl, upd_at _ _, ?_⟩))))
          rw [drop_upd _ nb]
          exact Evs.nil (CallS.get2 ⟨k1, rfl⟩)
        refine MethS.dct PySem.F.slot_dict_get PySem.F.type_dict_get ⟨keepsF_bi _, ?_⟩
        exact Evs.cons (Ev.loc rfl (Evs.nil (CallS.get1 ⟨by rw [k2 right], rfl⟩)))
      refine Ex.ifj (ι := Unit) (fun _ => True) (fun _ => [("font", fontV d), ("tables", .dct tk), ("letters", .int letters), ("left", .int left), ("right", .int right), ("told", toldV (lookO d left right))]) (fun _ => Λ) (Tst.cmp (Ev.loc rfl (Ev.nothing (CmpS.isNot (TruS.bool ?_))))) ?_
      · cases e : lookO d left right with
        | none => exact iteF (Ex.nil ⟨(), trivial, Sub.cons rfl (Sub.cons rfl (Sub.cons rfl (Sub.cons rfl (Sub.cons rfl (Sub.cons rfl Sub.nil))))), le_refl'⟩)
        | some or =>
          obtain ⟨op, rest⟩ := or
          refine iteT (Ex.assign (Ev.is (.int (knownOp op)) ?_ ?_))
          · refine Ev.ife (Tst.cmp (Ev.sub (Ev.loc rfl (Ev.int (SubS.tup (j := 0) (a := .int op) rfl rfl (by decide) (by decide) ?_)))))
            refine Ev.slc (GX.law_ops (EvO.none (EvO.some (Ev.int (EvO.none (SlcS.tupTo (b := 8) (show 8 < 9 by decide) (nle rfl) ?_))))))
            refine CmpS.inNumsT (l := [0, 1, 2, 3, 5, 6, 7, 11]) (TruS.bool (ite_ (fun u => ?_) fun u => ?_))
            · exact Ev.sub (Ev.loc rfl (Ev.int (SubS.tup (j := 0) (a := .int op) rfl rfl (by decide) (by decide) ⟨by unfold knownOp; rw [if_pos u], rfl⟩)))
            · exact Ev.int ⟨by unfold knownOp; rw [if_neg (by rw [u]; exact Bool.false_ne_true)], rfl⟩
          refine Ex.assign (Ev.is (toldV (some (op, rest))) ?_ ?_)
          · refine Ev.ife (Tst.cmp (Ev.sub (Ev.loc rfl (Ev.int (SubS.tup (j := 0) (a := .int op) rfl rfl (by decide) (by decide) (Ev.int (CmpS.gti (TruS.bool (ite_ (fun u => ?_) fun u => ?_)))))))))
            · have u' : op ≥ 128 := by have := of_decide_eq_true u; omega
              have eT : toldV (some (op, rest)) = .tup [.int 0, .int (amount rest)] := if_pos u'
              rw [eT]
              refine Ev.tup (Evs.cons (Ev.int (Evs.cons (Ev.sub (GX.law_amounts (Ev.sub (Ev.loc rfl (Ev.int (SubS.tup (j := 1) (a := .int rest) rfl rfl (by decide) (by decide) ?_)))))))))
              rcases look_kern h e u' with rfl | rfl
              · exact SubS.tup rfl rfl (by decide) (by decide) (Evs.nil ⟨nle rfl, rfl, rfl⟩)
              · exact SubS.tup rfl rfl (by decide) (by decide) (Evs.nil ⟨nle rfl, rfl, rfl⟩)
            · have u' : ¬ op ≥ 128 := by have := of_decide_eq_false u; omega
              have eT : toldV (some (op, rest)) = .tup [.int (knownOp op + 1), .int rest] := if_neg u'
              rw [eT]
              exact Ev.tup (Evs.cons (Ev.bin (Ev.loc rfl (Ev.int (BinS.addi (Evs.cons (Ev.sub (Ev.loc rfl (Ev.int (SubS.tup (j := 1) (a := .int rest) rfl rfl (by decide) (by decide) (Evs.nil ⟨nle rfl, rfl, rfl⟩)))))))))))
          exact Ex.nil ⟨(), trivial, Sub.cons rfl (Sub.cons rfl (Sub.cons rfl (Sub.cons rfl (Sub.cons rfl (Sub.cons rfl Sub.nil))))), le_refl'⟩
      rintro - -
      refine Ex.ife (Tst.cmp (Ev.call 2 (GX.look ⟨_, .ref _, keepsF_K (by kernel_rfl), ?_⟩) (nle rfl)))
      refine Evs.cons (Ev.loc rfl (Evs.cons (Ev.loc rfl (Evs.cons (Ev.loc rfl (Evs.nil (call_look h ?_).call))))))
      refine Ev.loc rfl (CmpS.ne (.val (told_ok _)) (.val (told_ok _)) (TruS.bool ?_))
      rw [eqv_same (told_ok _)]
      exact iteF (Ex.nil (Ex.nil ⟨(), fun y hy => e2 y (by simp [hy]), Sub.cons rfl (Sub.cons rfl (Sub.cons rfl (Sub.cons rfl Sub.nil))), le_refl'⟩))
    rintro - -
    exact Ex.nil ⟨(), fun y hy => e1 y (by simp [hy]), Sub.cons rfl (Sub.cons rfl (Sub.cons rfl Sub.nil)), le_refl'⟩
  rintro - -
  exact Ex.ret (Ev.bool q)
end Mine
end
section
namespace Mine
variable {C : Gd KK} {B : Bd C} {ρ : Loc} {Λ : Led}
/-- a cell of the tape: code, parts, sort -/
noncomputable abbrev TC := Int × List Int × Int
noncomputable def tcV (c : TC) : V := .tup [.int c.1, .tup (GX.nums c.2.1), .int c.2.2]
noncomputable def madeT (left right : TC) (op rest : Int) : TC := (rest, (if keepsL op then [] else left.2.1) ++ (if keepsR op then [] else right.2.1), 2)
noncomputable def midT (left right : TC) (op rest : Int) : List TC :=
  (if keepsL op then [left] else []) ++ [madeT left right op rest] ++ (if keepsR op then [right] else if right.2.2 == 3 then [(300, [], 3)] else [])
theorem midT_t {left right : TC} {op rest : Int} (e : keepsR op = true) : midT left right op rest = (if keepsL op then [left] else []) ++ [madeT left right op rest] ++ [right] := by unfold midT; simp only [e, if_true]
theorem midT_3 {left right : TC} {op rest : Int} (e : keepsR op = false) (t : (right.2.2 == 3) = true) : midT left right op rest = (if keepsL op then [left] else []) ++ [madeT left right op rest] ++ [(300, [], 3)] := by unfold midT; simp only [e, t, if_true, Bool.false_eq_true, if_false]
theorem midT_n {left right : TC} {op rest : Int} (e : keepsR op = false) (t : (right.2.2 == 3) = false) : midT left right op rest = (if keepsL op then [left] else []) ++ [madeT left right op rest] := by unfold midT; simp only [e, t, Bool.false_eq_true, if_false, List.append_nil]
theorem midT_len (left right : TC) (op rest : Int) : (midT left right op rest).length ≤ 3 := by
  unfold midT
  cases keepsL op <;> cases keepsR op <;> cases (right.2.2 == 3) <;> simp
theorem tc_get {l : List TC} {i : Nat} {c : TC} (e : l[i]? = some c) : (l.map tcV)[i]? = some (tcV c) := by rw [List.getElem?_map, e]; rfl
theorem call_law_step {pre post : List TC} {left right : TC} {op rest : Int} (hz : pre.length + post.length ≤ 100000) (hl : left.2.1.length + right.2.1.length ≤ 100000) {Q : V → Led → Prop} (q : Q (.lst ((pre ++ midT left right op rest ++ post).map tcV)) Λ) :
    FnS C 1 (.ref 462) [.lst ((pre ++ left :: right :: post).map tcV), .int (pre.length : Nat), .int op, .int rest] Λ Q := by
  refine FnS.def (n := 0) (names := ["tape", "at", "op", "rest"]) (da := []) rfl (by kernel_rfl) (fun s vs X hl => ?_) .nil (by decide) (by decide) rfl rfl rfl rfl fun A L hA => ?_
  · exact allB 4 (fun v0 v1 v2 v3 => BindsTo.of_eq rfl) vs hl
  have hsz : ((pre ++ left :: right :: post).map tcV).length ≤ sizeLine := by simp [sizeLine_eq]; omega
  have g0 : ((pre ++ left :: right :: post).map tcV)[((pre.length : Nat) : Int).toNat]? = some (tcV left) := tc_get (by simp)
  have g1 : ((pre ++ left :: right :: post).map tcV)[(((pre.length : Nat) : Int) + 1).toNat]? = some (tcV right) := by
    rw [show (((pre.length : Nat) : Int) + 1).toNat = pre.length + 1 by omega]
    exact tc_get (by rw [List.getElem?_append_right (by omega)]; simp)
  refine Ex.swap2 (Ev.tup (Evs.cons (Ev.sub (Ev.loc rfl (Ev.loc rfl (SubS.lstI (by omega) g0 hsz ?_))))))
  refine Evs.cons (Ev.sub (Ev.loc rfl (Ev.bin (Ev.loc rfl (Ev.int (BinS.addi (SubS.lstI (by omega) g1 hsz (Evs.nil ⟨nle rfl, _, _, rfl, ?_⟩))))))))
  refine Ex.swap2 (Ev.is (.tup [.bool (keepsL op), .bool (keepsR op)]) ?_ ⟨_, _, rfl, ?_⟩)
  · refine Ev.tup (Evs.cons (Ev.cmp (Ev.bin (Ev.bin (Ev.loc rfl (Ev.int (BinS.divi (by decide) (by decide) (Ev.int (BinS.modi (by decide) (Ev.int (CmpS.eqi ?_)))))))))))
    refine Evs.cons (Ev.cmp (Ev.bin (Ev.loc rfl (Ev.int (BinS.modi (by decide) (Ev.int (CmpS.eqi ?_)))))))
    exact Evs.nil ⟨nle rfl, rfl, rfl⟩
  refine Ex.assign (Ev.list (Evs.cons (Ev.tup (Evs.cons (Ev.loc rfl (Evs.cons (Ev.bin ?_)))))))
  refine Ev.is (.tup (GX.nums (if keepsL op then [] else left.2.1))) ?_ (Ev.is (.tup (GX.nums (if keepsR op then [] else right.2.1))) ?_ (BinS.addt ?_ ?_))
  · refine Ev.ife (Tst.val (Ev.loc rfl (TruS.bool ?_)))
    cases e : keepsL op with
    | true => exact iteT (Ev.tup (Evs.nil ⟨nle rfl, rfl, rfl⟩))
    | false => exact iteF (Ev.sub (Ev.loc rfl (Ev.int (SubS.tup rfl rfl (by decide) (by decide) ⟨rfl, rfl⟩))))
  · refine Ev.ife (Tst.val (Ev.loc rfl (TruS.bool ?_)))
    cases e : keepsR op with
    | true => exact iteT (Ev.tup (Evs.nil ⟨nle rfl, rfl, rfl⟩))
    | false => exact iteF (Ev.sub (Ev.loc rfl (Ev.int (SubS.tup rfl rfl (by decide) (by decide) ⟨rfl, rfl⟩))))
  · rw [nums_len, nums_len, sizeLine_eq]
    have x1 : (if keepsL op = true then [] else left.2.1).length ≤ left.2.1.length := by split <;> simp
    have x2 : (if keepsR op = true then [] else right.2.1).length ≤ right.2.1.length := by split <;> simp
    omega
  rw [nums_app]
  refine Evs.cons (Ev.int (Evs.nil ⟨nle rfl, Evs.nil ⟨nle rfl, fun m nm => ?_⟩⟩))
  refine Ex.ifj (ι := Addr) (fun m => Λ m = none) (fun m => [("tape", .lst ((pre ++ left :: right :: post).map tcV)), ("at", .int (pre.length : Nat)), ("right", tcV right), ("keeps_right", .bool (keepsR op)), ("middle", .ref m)])
    (fun m => upd Λ m (.list (((if keepsL op then [left] else []) ++ [madeT left right op rest]).map tcV))) (Tst.val (Ev.loc rfl (TruS.bool ?_))) ?_
  · cases e : keepsL op with
    | true =>
      refine iteT (Ex.freeze "middle" (b := m) rfl (upd_at _ _) ?_)
      rw [drop_upd _ nm]
      refine Ex.assign (Ev.bin (Ev.frz (Ev.list (Evs.cons (Ev.loc rfl (Evs.nil ⟨nle rfl, fun b nb => ⟨b, _, rfl, upd_at _ _, ?_⟩⟩))))))
      rw [drop_upd _ nb]
      refine Ev.loc rfl (BinS.addl (nle rfl) fun b nb => Ex.nil ⟨b, nb, Sub.cons rfl (Sub.cons rfl (Sub.cons rfl (Sub.cons rfl (Sub.cons rfl Sub.nil)))), ?_⟩)
      rw [if_pos rfl]
      unfold madeT
      rw [e]
      exact le_refl'
    | false =>
      refine iteF (Ex.nil ⟨m, nm, Sub.cons rfl (Sub.cons rfl (Sub.cons rfl (Sub.cons rfl (Sub.cons rfl Sub.nil)))), ?_⟩)
      unfold madeT
      rw [e]
      exact le_refl'
  intro m nm
  have hm : ∀ l : List TC, ((if keepsL op then [left] else []) ++ [madeT left right op rest]).length ≤ 2 := fun _ => by split <;> simp
  refine Ex.ifj (ι := Unit) (fun _ => True) (fun _ => [("tape", .lst ((pre ++ left :: right :: post).map tcV)), ("at", .int (pre.length : Nat)), ("middle", .ref m)])
    (fun _ => upd Λ m (.list ((midT left right op rest).map tcV))) (Tst.val (Ev.loc rfl (TruS.bool ?_))) ?_
  · have app : ∀ {X : List TC} {c : TC} {cv : V} {R : V → Led → Prop} {n : Nat}, X.length ≤ 2 → cv = tcV c → R .none (upd Λ m (.list ((X ++ [c]).map tcV))) → CallS C n (.builtin "list.append") [.ref m, cv] (upd Λ m (.list (X.map tcV))) R := fun {X c cv R n} hX ec r => by
      subst ec
      refine CallS.append (upd_at _ _) (by rw [List.length_map, sizeLine_eq]; omega) ?_
      rw [List.map_append] at r
      rw [upd_upd]; exact r
    cases e : keepsR op with
    | true =>
      refine iteT (Ex.expr (Ev.meth 0 (pl := _) ?_ (nle rfl)))
      refine Ev.loc rfl (MethS.list (upd_at _ _) PySem.F.slot_list_append PySem.F.type_list_append ⟨keepsF_bi _, ?_⟩)
      refine Evs.cons (Ev.loc rfl (Evs.nil (app (c := right) (hm []) rfl (Ex.nil ⟨(), trivial, Sub.cons rfl (Sub.cons rfl (Sub.cons rfl Sub.nil)), ?_⟩))))
      show Led.le (upd Λ m _) _
      rw [midT_t e]
      exact le_refl'
    | false =>
      refine iteF (Ex.ife (Tst.cmp (Ev.sub (Ev.loc rfl (Ev.int (SubS.tup rfl rfl (by decide) (by decide) (Ev.int (CmpS.eqi (TruS.bool (ite_ (fun t => ?_) fun t => ?_))))))))))
      · refine Ex.expr (Ev.meth 0 (pl := _) ?_ (nle rfl))
        refine Ev.loc rfl (MethS.list (upd_at _ _) PySem.F.slot_list_append PySem.F.type_list_append ⟨keepsF_bi _, ?_⟩)
        refine Evs.cons (Ev.tup (Evs.cons (Ev.int (Evs.cons (Ev.tup (Evs.nil ⟨nle rfl, ?_⟩))))))
        refine Evs.cons (Ev.int (Evs.nil ⟨nle rfl, ?_⟩))
        refine Evs.nil (app (c := (300, [], 3)) (hm []) rfl (Ex.nil (Ex.nil ⟨(), trivial, Sub.cons rfl (Sub.cons rfl (Sub.cons rfl Sub.nil)), ?_⟩)))
        show Led.le (upd Λ m _) _
        rw [midT_3 e t]
        exact le_refl'
      · refine Ex.nil (Ex.nil ⟨(), trivial, Sub.cons rfl (Sub.cons rfl (Sub.cons rfl Sub.nil)), ?_⟩)
        show Led.le (upd Λ m _) _
        rw [midT_n e t]
        exact le_refl'
  rintro - -
  refine Ex.freeze "middle" (b := m) rfl (upd_at _ _) ?_
  rw [drop_upd _ nm]
  have hmid := midT_len left right op rest
  refine Ex.ret (Ev.frz (Ev.bin (Ev.frz (Ev.bin (Ev.slc (Ev.loc rfl (EvO.none (EvO.some (Ev.loc rfl (EvO.none (SlcS.upto (b := pre.length) (by simp) hsz ?_)))))))))))
  rw [show (((pre ++ left :: right :: post).map tcV).take pre.length) = pre.map tcV by simp]
  refine Ev.loc rfl (BinS.addl (by rw [List.length_map, List.length_map, sizeLine_eq]; omega) fun b nb => ⟨b, _, rfl, upd_at _ _, ?_⟩)
  rw [drop_upd _ nb]
  refine Ev.slc (Ev.loc rfl (EvO.some (Ev.is (.int ((pre.length + 2 : Nat) : Int)) ?_ (EvO.none (EvO.none (SlcS.from (a := pre.length + 2) (by simp) hsz ?_))))))
  · exact Ev.bin (Ev.loc rfl (Ev.int (BinS.addi ⟨by congr 1, rfl⟩)))
  rw [show (((pre ++ left :: right :: post).map tcV).drop (pre.length + 2)) = post.map tcV by simp [List.drop_append]]
  refine BinS.addl (by simp [sizeLine_eq]; omega) fun b nb => ⟨b, _, rfl, upd_at _ _, ?_⟩
  rw [drop_upd _ nb, ← List.map_append, ← List.map_append]
  exact q
end Mine
end
section
namespace Mine
section
variable {K : Params → Frag} {C : Gd K} {B : Bd C} {ρ : Loc} {Λ : Led}
theorem Ev.and2b {x y : Expr} {pos : Pos} {p q : Bool} (h1 : Ev B ρ x Λ (QIs (V.bool p) Λ)) (h2 : p = true → Ev B ρ y Λ (QIs (V.bool q) Λ)) : Ev B ρ (.BoolOp .And [x, y] pos) Λ (QIs (V.bool (p && q)) Λ) := by
  refine Ev.and (Ev.is (.bool p) h1 (TruS.bool ?_))
  cases p with
  | true => exact iteT (Ev.and1 (h2 rfl))
  | false => exact iteF ⟨rfl, rfl⟩
theorem CmpS.notInNumsL {n : Nat} {i : Int} {l : List Int} {Q : V → Led → Prop} (q : Q (.bool (!l.any (· == i))) Λ) : CmpS C n .NotIn (.int i) (.lst (GX.nums l)) Λ Q :=
  CmpS.notInL (.val .int) (nums_ok 7 l) (by show Q (.bool _) Λ; rw [show V.d (.int i) = .int i from rfl, inNums]; exact q)
end
noncomputable def nodeD : Node → V
  | .kern w => .tup [.int 5, .int w, .int 0]
  | .char c => .tup [.int 0, .int c]
  | .lig c ps l r => .tup [.int 1, .int c, .tup (GX.nums ps), .bool l, .bool r]
noncomputable def isLet (c : TC) : Bool := c.2.2 == 1 || c.2.2 == 2
noncomputable def nodeT (al ar seen : Bool) (c : TC) (r : List TC) : Node :=
  if c.2.2 == 4 then .kern c.1 else if c.2.2 == 1 then .char c.1 else .lig c.1 c.2.1 (al && !seen) (ar && !r.any isLet)
noncomputable def toldT (al ar : Bool) : Bool → List TC → List Node
  | _, [] => []
  | seen, c :: r => nodeT al ar seen c r :: toldT al ar (seen || c.2.2 == 2) r
noncomputable def sorts (l : List TC) : List Int := l.map fun c => c.2.2
theorem any_sorts (l : List TC) : ((!(sorts l).any (· == 1)) && !(sorts l).any (· == 2)) = !l.any isLet := by
  induction l with
  | nil => rfl
  | cons c r ih =>
    rw [List.any_cons, Bool.not_or, ← ih]
    unfold sorts isLet
    rw [List.map_cons, List.any_cons, List.any_cons]
    cases (c.2.2 == 1) <;> cases (c.2.2 == 2) <;> simp
variable {C : Gd KK} {B : Bd C} {ρ : Loc} {Λ : Led}
theorem call_law_told {cells : List TC} {al ar : Bool} (hz : cells.length ≤ 100000) {Q : V → Led → Prop} (q : Q (.lst ((toldT al ar false cells).map nodeD)) Λ) : FnS C 1 (.ref 472) [.lst (cells.map tcV), .bool al, .bool ar] Λ Q := by
  refine FnS.def (n := 0) (names := ["cells", "at_left", "at_right"]) (da := []) rfl (by kernel_rfl) (fun s vs X hl => ?_) .nil (by decide) (by decide) rfl rfl rfl rfl fun A L hA => ?_
  · exact allB 3 (fun v0 v1 v2 => BindsTo.of_eq rfl) vs hl
  have hsz : (cells.map tcV).length ≤ sizeLine := by rw [List.length_map, sizeLine_eq]; omega
  have hss : (GX.nums (sorts cells)).length ≤ sizeLine := by rw [nums_len, sorts, List.length_map, sizeLine_eq]; omega
  refine Ex.comp (fun ys acc Λ' => Λ' = Λ ∧ ∃ post, ys = post.map tcV ∧ acc ++ GX.nums (sorts post) = GX.nums (sorts cells)) (ρc := []) (cl := []) ⟨rfl, fun x c e => (nomatch e), fun x a e => (nomatch e)⟩ (by decide) rfl (by decide) rfl
    (Ev.loc rfl ⟨_, IterS.lst, hsz, rfl, cells, rfl, rfl⟩) ?_ ?_
  · rintro Cc y ys acc Λ' ⟨rfl, post, e1, e2⟩
    refine TstF.nil (iteT ?_)
    cases post with
    | nil => cases e1
    | cons c r =>
      cases e1
      refine Ev.sub (Ev.loc rfl (Ev.int (SubS.tup rfl rfl (by decide) (by decide) ⟨rfl, r, rfl, ?_⟩)))
      rw [← e2, List.append_assoc]; rfl
  rintro acc Λ' D ⟨rfl, post, e1, e2⟩ nD
  have ea : acc = GX.nums (sorts cells) := by
    cases post with
    | nil => rw [← e2]; exact (List.append_nil _).symm
    | cons c r => cases e1
  subst ea
  refine Ex.freeze "sorts" (b := D) rfl (upd_at _ _) ?_
  rw [drop_upd _ nD]
  refine Ex.assign (Ev.list (Evs.nil ⟨nle rfl, fun f nf => ?_⟩))
  refine Ex.for2 (ι := List TC × List TC × List Node) (fun ys i => ys = numbered (i.1.length : Nat) (i.2.1.map tcV) ∧ cells = i.1 ++ i.2.1 ∧ i.2.2.length ≤ i.1.length ∧ i.2.2 ++ toldT al ar (i.1.any fun c => c.2.2 == 2) i.2.1 = toldT al ar false cells)
    (fun _ _ => [("at_left", .bool al), ("at_right", .bool ar), ("sorts", .lst (GX.nums (sorts cells))), ("found", .ref f)]) (fun _ i => upd Λ' f (.list (i.2.2.map nodeD))) ?_ ?_ ?_
  · exact EvI2.enum (GX.enumerateT ⟨rfl, Ev.loc rfl ⟨_, .inl rfl, ([], cells, []), ⟨rfl, rfl, Nat.le_refl _, rfl⟩, Sub.cons rfl (Sub.cons rfl (Sub.cons rfl (Sub.cons rfl Sub.nil))), le_refl'⟩⟩)
  · rintro y z ys ⟨pre, post, acc⟩ ⟨e1, e2, e3, e4⟩
    dsimp only at e1 e2 e3 e4 ⊢
    cases post with
    | nil => cases e1
    | cons c r =>
      cases e1
      have hlen : cells.length = pre.length + (r.length + 1) := by rw [e2, List.length_append, List.length_cons]
      have fin : ∀ {R : V → Led → Prop} {n : Nat} {v : V}, v = nodeD (nodeT al ar (pre.any fun c => c.2.2 == 2) c r) → R .none (upd Λ' f (.list ((acc ++ [nodeT al ar (pre.any fun c => c.2.2 == 2) c r]).map nodeD))) → CallS C n (.builtin "list.append") [.ref f, v] (upd Λ' f (.list (acc.map nodeD))) R := fun {R n v} ev h => by
        subst ev
        refine CallS.append (upd_at _ _) (by rw [List.length_map, sizeLine_eq]; omega) ?_
        rw [List.map_append] at h
        rw [upd_upd]; exact h
      have nxt : (acc ++ [nodeT al ar (pre.any fun c => c.2.2 == 2) c r]) ++ toldT al ar ((pre ++ [c]).any fun c => c.2.2 == 2) r = toldT al ar false cells := by
        rw [← e4, toldT, List.append_assoc, List.any_append]
        simp
      have ht : ((pre.length : Nat) : Int) + 1 = ((pre ++ [c]).length : Nat) := by simp
      have e2' : cells = (pre ++ [c]) ++ r := by rw [e2]; simp
      refine Ex.ife (Tst.cmp (Ev.sub (Ev.loc rfl (Ev.int (SubS.tup (j := 2) (a := .int c.2.2) rfl rfl (by decide) (by decide) (Ev.int (CmpS.eqi (TruS.bool (ite_ (fun t => ?_) fun t => ?_)))))))))
      · refine Ex.expr (Ev.meth 0 (pl := _) ?_ (nle rfl))
        refine Ev.loc rfl (MethS.list (upd_at _ _) PySem.F.slot_list_append PySem.F.type_list_append ⟨keepsF_bi _, ?_⟩)
        refine Evs.cons (Ev.tup (Evs.cons (GX.KERN (Evs.cons (Ev.sub (Ev.loc rfl (Ev.int (SubS.tup (j := 0) (a := .int c.1) rfl rfl (by decide) (by decide) ?_))))))))
        refine Evs.cons (Ev.int (Evs.nil ⟨nle rfl, Evs.nil (fin ?_ (Ex.nil (Ex.nil ⟨(pre ++ [c], r, _), ⟨by rw [← ht], e2', by simp; omega, nxt⟩, Sub.cons rfl (Sub.cons rfl (Sub.cons rfl (Sub.cons rfl Sub.nil))), le_refl'⟩)))⟩))
        unfold nodeT
        rw [if_pos t]; rfl
      · refine Ex.ife (Tst.cmp (Ev.sub (Ev.loc rfl (Ev.int (SubS.tup (j := 2) (a := .int c.2.2) rfl rfl (by decide) (by decide) (Ev.int (CmpS.eqi (TruS.bool (ite_ (fun u => ?_) fun u => ?_)))))))))
        · refine Ex.expr (Ev.meth 0 (pl := _) ?_ (nle rfl))
          refine Ev.loc rfl (MethS.list (upd_at _ _) PySem.F.slot_list_append PySem.F.type_list_append ⟨keepsF_bi _, ?_⟩)
          refine Evs.cons (Ev.tup (Evs.cons (GX.CHAR (Evs.cons (Ev.sub (Ev.loc rfl (Ev.int (SubS.tup (j := 0) (a := .int c.1) rfl rfl (by decide) (by decide) ?_))))))))
          refine Evs.nil ⟨nle rfl, Evs.nil (fin ?_ (Ex.nil (Ex.nil (Ex.nil ⟨(pre ++ [c], r, _), ⟨by rw [← ht], e2', by simp; omega, nxt⟩, Sub.cons rfl (Sub.cons rfl (Sub.cons rfl (Sub.cons rfl Sub.nil))), le_refl'⟩))))⟩
          unfold nodeT
          rw [if_neg (by rw [t]; exact Bool.false_ne_true), if_pos u]; rfl
        · have sfrom : ∀ {n : Nat} {R : V → Led → Prop} {Λ₁ : Led}, R (.lst (GX.nums (sorts r))) Λ₁ → SlcS C n (.lst (GX.nums (sorts cells))) (.int ((pre.length + 1 : Nat) : Int)) .none .none Λ₁ R := fun {n R Λ₁} h => by
            refine SlcS.from (a := pre.length + 1) (by rw [nums_len, sorts, List.length_map]; omega) hss ?_
            rw [show (GX.nums (sorts cells)).drop (pre.length + 1) = GX.nums (sorts r) by rw [e2']; simp [sorts, GX.nums, List.drop_append]]
            exact h
          have supto : ∀ {n : Nat} {R : V → Led → Prop} {Λ₁ : Led}, R (.lst (GX.nums (sorts pre))) Λ₁ → SlcS C n (.lst (GX.nums (sorts cells))) .none (.int ((pre.length : Nat) : Int)) .none Λ₁ R := fun {n R Λ₁} h => by
            refine SlcS.upto (b := pre.length) (by rw [nums_len, sorts, List.length_map]; omega) hss ?_
            rw [show (GX.nums (sorts cells)).take pre.length = GX.nums (sorts pre) by rw [e2]; simp [sorts, GX.nums]]
            exact h
          refine Ex.assign (Ev.is (.bool (!r.any isLet)) ?_ ?_)
          · rw [← any_sorts]
            refine Ev.and2b (Ev.cmp (Ev.int (Ev.slc (Ev.loc rfl (EvO.some (Ev.is (.int ((pre.length + 1 : Nat) : Int)) ?_ (EvO.none (EvO.none (sfrom (CmpS.notInNumsL ⟨rfl, rfl⟩))))))))) ) fun _ => (Ev.cmp (Ev.int (Ev.slc (Ev.loc rfl (EvO.some (Ev.is (.int ((pre.length + 1 : Nat) : Int)) ?_ (EvO.none (EvO.none (sfrom (CmpS.notInNumsL ⟨rfl, rfl⟩))))))))))
            · exact Ev.bin (Ev.loc rfl (Ev.int (BinS.addi ⟨by congr 1, rfl⟩)))
            · exact Ev.bin (Ev.loc rfl (Ev.int (BinS.addi ⟨by congr 1, rfl⟩)))
          refine Ex.expr (Ev.meth 0 (pl := _) ?_ (nle rfl))
          refine Ev.loc rfl (MethS.list (upd_at _ _) PySem.F.slot_list_append PySem.F.type_list_append ⟨keepsF_bi _, ?_⟩)
          refine Evs.cons (Ev.tup (Evs.cons (GX.LIGATURE (Evs.cons (Ev.sub (Ev.loc rfl (Ev.int (SubS.tup (j := 0) (a := .int c.1) rfl rfl (by decide) (by decide) ?_))))))))
          refine Evs.cons (Ev.sub (Ev.loc rfl (Ev.int (SubS.tup (j := 1) (a := .tup (GX.nums c.2.1)) rfl rfl (by decide) (by decide) ?_))))
          refine Evs.cons (Ev.is (.bool (al && !(sorts pre).any (· == 2))) (Ev.and2b (Ev.loc rfl ⟨rfl, rfl⟩) fun _ => Ev.cmp (Ev.int (Ev.slc (Ev.loc rfl (EvO.none (EvO.some (Ev.loc rfl (EvO.none (supto (CmpS.notInNumsL ⟨rfl, rfl⟩)))))))))) ?_)
          refine Evs.cons (Ev.is (.bool (ar && !r.any isLet)) (Ev.and2b (Ev.loc rfl ⟨rfl, rfl⟩) fun _ => Ev.loc rfl ⟨rfl, rfl⟩) ?_)
          refine Evs.nil ⟨nle rfl, Evs.nil (fin ?_ (Ex.nil (Ex.nil (Ex.nil ⟨(pre ++ [c], r, _), ⟨by rw [← ht], e2', by simp; omega, nxt⟩, Sub.cons rfl (Sub.cons rfl (Sub.cons rfl (Sub.cons rfl Sub.nil))), le_refl'⟩))))⟩
          unfold nodeT
          rw [if_neg (by rw [t]; exact Bool.false_ne_true), if_neg (by rw [u]; exact Bool.false_ne_true)]
          show _ = V.tup _
          rw [sorts, List.any_map]; rfl
  rintro ⟨pre, post, acc⟩ ⟨e1, e2, e3, e4⟩
  dsimp only at e1 e2 e3 e4 ⊢
  cases post with
  | cons c r => cases e1
  | nil =>
    refine Ex.ret (Ev.frz (Ev.loc rfl ⟨f, _, rfl, upd_at _ _, ?_⟩))
    rw [drop_upd _ nf]
    rw [toldT, List.append_nil] at e4
    rw [e4]; exact q
end Mine
end
section
namespace Mine
-- the word machine and the tape: the plain law
noncomputable def keep124 (c : TC) : Bool := [1, 2, 4].any (· == c.2.2)
noncomputable def is2 (c : TC) : Bool := c.2.2 == 2
noncomputable def cellT (c : Cell) : TC := (c.1, c.2.1, if c.2.2 then 2 else 1)
noncomputable def curT : Option Cell → TC
  | none => (256, [], 0)
  | some c => cellT c
theorem node_false (al seen : Bool) (c : TC) (r r' : List TC) : nodeT al false seen c r = nodeT al false seen c r' := by unfold nodeT; simp
theorem told_snoc (al : Bool) (c : TC) : ∀ (xs : List TC) (seen : Bool), toldT al false seen (xs ++ [c]) = toldT al false seen xs ++ [nodeT al false (seen || xs.any is2) c []] := by
  intro xs
  induction xs with
  | nil => intro seen; simp [toldT]
  | cons x r ih =>
    intro seen
    rw [List.cons_append, toldT, toldT, ih, node_false al seen x (r ++ [c]) r, List.cons_append, List.any_cons, Bool.or_assoc]; rfl
theorem told_last (al ar : Bool) (c : TC) (hc : isLet c = true) : ∀ (xs : List TC) (seen : Bool), toldT al ar seen (xs ++ [c]) = toldT al false seen xs ++ [nodeT al ar (seen || xs.any is2) c []] := by
  intro xs
  induction xs with
  | nil => intro seen; simp [toldT]
  | cons x r ih =>
    intro seen
    have e : nodeT al ar seen x (r ++ [c]) = nodeT al false seen x r := by
      unfold nodeT
      have : (r ++ [c]).any isLet = true := by simp [hc]
      rw [this]; simp
    rw [List.cons_append, toldT, toldT, ih, e, List.cons_append, List.any_cons, Bool.or_assoc]; rfl
theorem told_kern (al ar : Bool) (w : Int) : ∀ (xs : List TC) (seen : Bool), toldT al ar seen (xs ++ [(w, [], 4)]) = toldT al ar seen xs ++ [.kern w] := by
  intro xs
  induction xs with
  | nil => intro seen; rfl
  | cons x r ih =>
    intro seen
    have e : nodeT al ar seen x (r ++ [(w, [], 4)]) = nodeT al ar seen x r := by
      unfold nodeT
      have : (r ++ [((w, [], 4) : TC)]).any isLet = r.any isLet := by rw [List.any_append]; simp [isLet]
      rw [this]
    rw [List.cons_append, toldT, toldT, ih, e, List.cons_append]
theorem any_filter2 (l : List TC) : (l.filter keep124).any is2 = l.any is2 := by
  induction l with
  | nil => rfl
  | cons c r ih =>
    rw [List.filter_cons]
    by_cases k : keep124 c = true
    · rw [if_pos k, List.any_cons, List.any_cons, ih]
    · rw [if_neg k, List.any_cons, ih]
      have : is2 c = false := by
        cases e : is2 c with
        | false => rfl
        | true =>
          exfalso; apply k
          unfold keep124
          unfold is2 at e
          have e' : c.2.2 = 2 := by simpa using e
          rw [e']; rfl
      rw [this, Bool.false_or]
theorem cell_sort (c : Cell) : isLet (cellT c) = true ∧ keep124 (cellT c) = true ∧ ((cellT c).2.2 == 0) = false ∧ ((cellT c).2.2 == 3) = false ∧ ((cellT c).2.2 == 4) = false := by
  unfold isLet keep124 cellT
  cases c.2.2 <;> exact ⟨rfl, rfl, rfl, rfl, rfl⟩
structure SimG (s : W) (pre : List TC) (e' : Int) (al ar : Bool) : Prop where
  going : s.going = true
  edge : s.edge = e' ∨ (s.edge = 256 ∧ e' = 300)
  start : s.now = none → pre = [] ∧ s.wait ≠ []
  found : s.found = toldT al false false (pre.filter keep124)
  hl : s.hl = (al && !pre.any is2)
  hr : s.hr = ar
noncomputable def restT (s : W) (e' : Int) : List TC := s.wait.map cellT ++ [(e', [], 3)]
inductive Sim (s : W) (pre post : List TC) (al ar : Bool) : Prop
  | go {e' : Int} (g : SimG s pre e' al ar) (h : post = curT s.now :: restT s e')
  | fin {e' : Int} (g : s.going = false) (h : post = [(e', [], 3)]) (f : s.found = toldT al ar false (pre.filter keep124))
theorem look_300 {d : FD} (h : FOK d) (left e : Int) (he : e = 256 ∨ e = 300) : lookO d left e = none := by
  rw [look_scan h]
  split
  · rfl
  · have : ∀ (n : Nat) (p : Int), scan d.rows e n p = none := by
      intro n
      induction n with
      | zero => intro p; rfl
      | succ n ih =>
        intro p
        unfold scan
        split
        · rfl
        · rename_i r hr
          have ok := h.rows _ _ hr
          have : (r.2.1 == e) = false := beq_eq_false_iff_ne.mpr (by have := ok.f1; omega)
          rw [this, Bool.false_and, if_neg Bool.false_ne_true, ih]
          split <;> rfl
    exact this _ _
theorem sim_shape {d : FD} (h : FOK d) {s : W} {pre post : List TC} {al ar : Bool} (S : Sim s pre post al ar) (g : s.going = true) : ∃ right post'', post = curT s.now :: right :: post'' ∧ lookO d (leftW s) (rightW s) = lookO d (curT s.now).1 right.1 ∧ ((curT s.now).2.2 == 3) = false := by
  cases S with
  | fin g' => rw [g] at g'; cases g'
  | @go e' G hp =>
    have hl : leftW s = (curT s.now).1 := by unfold leftW curT; cases s.now <;> rfl
    have hc : ((curT s.now).2.2 == 3) = false := by
      cases s.now with
      | none => rfl
      | some c => exact (cell_sort c).2.2.2.1
    unfold restT at hp
    cases e : s.wait with
    | nil =>
      rw [e] at hp
      refine ⟨_, [], hp, ?_, hc⟩
      rw [hl]
      unfold rightW
      rw [e]
      rcases G.edge with z | ⟨z1, z2⟩
      · show lookO d _ s.edge = lookO d _ e'
        rw [z]
      · show lookO d _ s.edge = lookO d _ e'
        rw [z1, z2, look_300 h _ 256 (.inl rfl), look_300 h _ 300 (.inr rfl)]
    | cons c r =>
      rw [e] at hp
      refine ⟨_, _, hp, ?_, hc⟩
      rw [hl]
      unfold rightW
      rw [e]; rfl
theorem sim_pass {s : W} {pre post' : List TC} {c0 : TC} {al ar : Bool} (S : Sim s pre (c0 :: post') al ar) (g : s.going = true) : Sim (passW s) (pre ++ [c0]) post' al ar ∧ ((passW s).going = true → (passW s).now ≠ none) := by
  cases S with
  | fin g' => rw [g] at g'; cases g'
  | @go e' G hp =>
    obtain ⟨hc0, hpost⟩ := List.cons.inj hp
    -- what leave does
    have L : (leaveW s).wait = s.wait := leaveW_wait s
    have leave : s.now ≠ none → (leaveW s).found = toldT al false false (pre.filter keep124) ++ [nodeT al (ar && s.wait.isEmpty) (pre.any is2) c0 []] ∧ (leaveW s).hl = (al && !(pre ++ [c0]).any is2) ∧ (leaveW s).hr = s.hr ∧ (leaveW s).edge = s.edge ∧ (leaveW s).going = s.going := by
      intro hn
      cases e : s.now with
      | none => exact absurd e hn
      | some c =>
        obtain ⟨code, ps, made⟩ := c
        rw [e] at hc0
        rw [hc0, G.found.symm]
        unfold leaveW
        rw [e]
        cases made with
        | true =>
          have hh := G.hl
          have hr := G.hr
          refine ⟨?_, ?_, rfl, rfl, rfl⟩
          · show s.found ++ [Node.lig code ps s.hl (s.hr && s.wait.isEmpty)] = _
            rw [hh, hr]
            unfold nodeT curT cellT
            simp
          · show false = _
            rw [List.any_append]
            simp [curT, cellT, is2]
        | false =>
          refine ⟨rfl, ?_, rfl, rfl, rfl⟩
          show s.hl = _
          rw [G.hl, List.any_append]
          simp [curT, cellT, is2]
    cases ew : s.wait with
    | nil =>
      have hn : s.now ≠ none := fun e => (G.start e).2 ew
      obtain ⟨f1, f2, f3, f4, f5⟩ := leave hn
      have ep : passW s = { leaveW s with going := false } := by unfold passW; rw [L, ew]
      rw [ep]
      refine ⟨.fin (e' := e') rfl (by rw [hpost, restT, ew]; rfl) ?_, fun e => (nomatch e)⟩
      show (leaveW s).found = _
      have k : keep124 c0 = true ∧ isLet c0 = true := by
        rw [hc0]
        cases e : s.now with
        | none => exact absurd e hn
        | some c => exact ⟨(cell_sort c).2.1, (cell_sort c).1⟩
      rw [f1, List.filter_append, List.filter_cons, if_pos k.1, List.filter_nil, told_last al ar c0 k.2, any_filter2, ew]
      simp
    | cons c r =>
      have ep : passW s = { leaveW s with now := some c, wait := r } := by unfold passW; rw [L, ew]
      rw [ep]
      refine ⟨.go (e' := e') ?_ (by rw [hpost, restT, ew]; rfl), fun _ e => (nomatch e)⟩
      by_cases hn : s.now = none
      · obtain ⟨p1, _⟩ := G.start hn
        subst p1
        have el : leaveW s = s := by unfold leaveW; rw [hn]
        rw [el]
        have hc1 : c0 = (256, [], 0) := by rw [hc0, hn]; rfl
        refine ⟨G.going, G.edge, fun e => (nomatch e), ?_, ?_, G.hr⟩
        · show s.found = _
          rw [G.found, hc1]; rfl
        · show s.hl = _
          rw [G.hl, hc1]; rfl
      · obtain ⟨f1, f2, f3, f4, f5⟩ := leave hn
        have k : keep124 c0 = true ∧ isLet c0 = true := by
          rw [hc0]
          cases e : s.now with
          | none => exact absurd e hn
          | some c => exact ⟨(cell_sort c).2.1, (cell_sort c).1⟩
        refine ⟨by show (leaveW s).going = true; rw [f5]; exact G.going, by show (leaveW s).edge = e' ∨ ((leaveW s).edge = 256 ∧ e' = 300); rw [f4]; exact G.edge, fun e => (nomatch e), ?_, f2, by show (leaveW s).hr = ar; rw [f3]; exact G.hr⟩
        show (leaveW s).found = _
        rw [f1, List.filter_append, List.filter_cons, if_pos k.1, List.filter_nil, told_snoc, any_filter2, ew]
        simp
theorem sim_kern {s : W} {pre post : List TC} {al ar : Bool} (S : Sim s pre post al ar) (hn : s.going = true → s.now ≠ none) (w : Int) : Sim { s with found := s.found ++ [.kern w] } (pre ++ [(w, [], 4)]) post al ar := by
  cases S with
  | @fin e' g h f =>
    refine .fin (e' := e') g h ?_
    show s.found ++ [Node.kern w] = _
    rw [f, List.filter_append, show [((w, [], 4) : TC)].filter keep124 = [(w, [], 4)] from rfl, told_kern]
  | @go e' G h =>
    refine .go (e' := e') ⟨G.going, G.edge, fun e => absurd e (hn G.going), ?_, ?_, G.hr⟩ h
    · show s.found ++ [Node.kern w] = _
      rw [G.found, List.filter_append, show [((w, [], 4) : TC)].filter keep124 = [(w, [], 4)] from rfl, told_kern]
    · show s.hl = _
      rw [G.hl, List.any_append]
      simp [is2]
end Mine
end
section
namespace Mine
theorem parts_cur (o : Option Cell) (kl : Bool) : partsN o kl = if kl then [] else (curT o).2.1 := by
  unfold partsN curT cellT
  cases o <;> cases kl <;> rfl
structure SimH (t : W) (pre : List TC) (e' : Int) (al ar : Bool) : Prop where
  going : t.going = true
  edge : t.edge = e' ∨ (t.edge = 256 ∧ e' = 300)
  start : t.now = none → pre = []
  found : t.found = toldT al false false (pre.filter keep124)
  hl : t.hl = (al && !pre.any is2)
  hr : t.hr = ar
theorem sim_s3 {t : W} {pre : List TC} {e' : Int} {al ar : Bool} (G : SimH t pre e' al ar) (made : Cell) (kl : Bool) : Sim (s3W t made kl) pre ((if kl then [curT t.now] else []) ++ cellT made :: restT t e') al ar ∧ (s3W t made kl).going = true ∧ (kl = true → (s3W t made kl).wait ≠ []) := by
  cases kl with
  | true => exact ⟨.go (e' := e') ⟨G.going, G.edge, fun e => ⟨G.start e, fun z => (nomatch z)⟩, G.found, G.hl, G.hr⟩ rfl, G.going, fun _ z => (nomatch z)⟩
  | false => exact ⟨.go (e' := e') ⟨G.going, G.edge, fun e => (nomatch e), G.found, G.hl, G.hr⟩ rfl, G.going, fun z => (nomatch z)⟩
theorem sim_s1 {s : W} {pre : List TC} {e' : Int} {al ar : Bool} (G : SimG s pre e' al ar) : SimH (s1W s) pre e' (al || ((curT s.now).2.2 == 0)) (ar || (!((curT s.now).2.2 == 0) && s.wait.isEmpty)) := by
  cases e : s.now with
  | none =>
    obtain ⟨p1, p2⟩ := G.start e
    subst p1
    have e1 : s1W s = { s with hl := true } := by unfold s1W; rw [e]
    rw [e1]
    refine ⟨G.going, G.edge, fun _ => rfl, ?_, ?_, ?_⟩
    · show s.found = _
      rw [G.found]; rfl
    · show true = _
      simp [curT]
    · show s.hr = _
      rw [G.hr]; simp [curT]
  | some c =>
    have k := (cell_sort c).2.2.1
    have k' : ((curT (some c)).2.2 == 0) = false := k
    cases ew : s.wait with
    | nil =>
      have e1 : s1W s = { s with hr := true } := by unfold s1W; rw [e, ew]; rfl
      rw [e1, k']
      refine ⟨G.going, G.edge, fun z => (by rw [show ({ s with hr := true } : W).now = s.now from rfl, e] at z; cases z), ?_, ?_, ?_⟩
      · show s.found = _
        rw [G.found, Bool.or_false]
      · show s.hl = _
        rw [G.hl, Bool.or_false]
      · show true = _
        simp
    | cons c1 r =>
      have e1 : s1W s = s := by unfold s1W; rw [e, ew]; rfl
      rw [e1, k']
      refine ⟨G.going, G.edge, fun z => (by rw [e] at z; cases z), ?_, ?_, ?_⟩
      · rw [G.found, Bool.or_false]
      · rw [G.hl, Bool.or_false]
      · rw [G.hr]; simp
theorem sim_mid {s : W} {pre post'' : List TC} {right : TC} {al ar : Bool} (S : Sim s pre (curT s.now :: right :: post'') al ar) (g : s.going = true) (op code : Int) :
    let r := s2W (s1W s) (partsN s.now (keepsL op)) (keepsR op)
    let s3 := s3W r.1 (code, r.2, true) (keepsL op)
    Sim s3 pre (midT (curT s.now) right op code ++ post'') (al || ((curT s.now).2.2 == 0)) (ar || (!((curT s.now).2.2 == 0) && (right.2.2 == 3))) ∧ s3.going = true ∧ (keepsL op = true → s3.wait ≠ []) := by
  cases S with
  | fin g' => rw [g] at g'; cases g'
  | @go e' G hp =>
    have hp' := (List.cons.inj hp).2
    have H := sim_s1 G
    intro r s3
    cases ew : s.wait with
    | nil =>
      rw [restT, ew] at hp'
      obtain ⟨h1, h2⟩ := List.cons.inj hp'
      rw [ew] at H
      have hr3 : (right.2.2 == 3) = true := by rw [h1]; rfl
      rw [hr3]
      cases kr : keepsR op with
      | true =>
        have er : r = (s1W s, partsN s.now (keepsL op)) := by show s2W _ _ (keepsR op) = _; rw [kr, s2W_t]
        have es : s3 = s3W (s1W s) (code, partsN s.now (keepsL op), true) (keepsL op) := by show s3W r.1 (code, r.2, true) _ = _; rw [er]
        rw [es]
        have Z := sim_s3 H (code, partsN s.now (keepsL op), true) (keepsL op)
        have em : midT (curT s.now) right op code ++ post'' = (if keepsL op then [curT (s1W s).now] else []) ++ cellT (code, partsN s.now (keepsL op), true) :: restT (s1W s) e' := by
          rw [midT_t kr, s1W_now, parts_cur, restT, s1W_wait, ew, h1, h2]
          unfold madeT
          rw [kr]
          simp [cellT]
        rw [em]; exact Z
      | false =>
        have er : r = ({ s1W s with edge := 256 }, partsN s.now (keepsL op)) := by show s2W _ _ (keepsR op) = _; rw [kr, s2W_nil ((s1W_wait s).trans ew)]
        have es : s3 = s3W { s1W s with edge := 256 } (code, partsN s.now (keepsL op), true) (keepsL op) := by show s3W r.1 (code, r.2, true) _ = _; rw [er]
        rw [es]
        have H' : SimH { s1W s with edge := 256 } pre 300 (al || ((curT s.now).2.2 == 0)) (ar || (!((curT s.now).2.2 == 0) && ([] : List Cell).isEmpty)) := ⟨H.going, .inr ⟨rfl, rfl⟩, H.start, H.found, H.hl, H.hr⟩
        have Z := sim_s3 H' (code, partsN s.now (keepsL op), true) (keepsL op)
        have em : midT (curT s.now) right op code ++ post'' = (if keepsL op then [curT ({ s1W s with edge := 256 } : W).now] else []) ++ cellT (code, partsN s.now (keepsL op), true) :: restT { s1W s with edge := 256 } 300 := by
          rw [midT_3 kr hr3, show ({ s1W s with edge := 256 } : W).now = s.now from s1W_now s, parts_cur, restT, show ({ s1W s with edge := 256 } : W).wait = s.wait from s1W_wait s, ew, h1, h2]
          unfold madeT
          rw [kr]
          simp [cellT]
        rw [em]; exact Z
    | cons c w =>
      rw [restT, ew] at hp'
      obtain ⟨h1, h2⟩ := List.cons.inj hp'
      rw [ew] at H
      have hr3 : (right.2.2 == 3) = false := by rw [h1]; exact (cell_sort c).2.2.2.1
      rw [hr3]
      cases kr : keepsR op with
      | true =>
        have er : r = (s1W s, partsN s.now (keepsL op)) := by show s2W _ _ (keepsR op) = _; rw [kr, s2W_t]
        have es : s3 = s3W (s1W s) (code, partsN s.now (keepsL op), true) (keepsL op) := by show s3W r.1 (code, r.2, true) _ = _; rw [er]
        rw [es]
        have Z := sim_s3 H (code, partsN s.now (keepsL op), true) (keepsL op)
        have em : midT (curT s.now) right op code ++ post'' = (if keepsL op then [curT (s1W s).now] else []) ++ cellT (code, partsN s.now (keepsL op), true) :: restT (s1W s) e' := by
          rw [midT_t kr, s1W_now, parts_cur, restT, s1W_wait, ew, h1, h2]
          unfold madeT
          rw [kr]
          simp [cellT]
        rw [em]; exact Z
      | false =>
        have er : r = ({ s1W s with wait := w }, partsN s.now (keepsL op) ++ c.2.1) := by show s2W _ _ (keepsR op) = _; rw [kr, s2W_cons ((s1W_wait s).trans ew)]
        have es : s3 = s3W { s1W s with wait := w } (code, partsN s.now (keepsL op) ++ c.2.1, true) (keepsL op) := by show s3W r.1 (code, r.2, true) _ = _; rw [er]
        rw [es]
        have H' : SimH { s1W s with wait := w } pre e' (al || ((curT s.now).2.2 == 0)) (ar || (!((curT s.now).2.2 == 0) && (c :: w).isEmpty)) := ⟨H.going, H.edge, H.start, H.found, H.hl, H.hr⟩
        have Z := sim_s3 H' (code, partsN s.now (keepsL op) ++ c.2.1, true) (keepsL op)
        have em : midT (curT s.now) right op code ++ post'' = (if keepsL op then [curT ({ s1W s with wait := w } : W).now] else []) ++ cellT (code, partsN s.now (keepsL op) ++ c.2.1, true) :: restT { s1W s with wait := w } e' := by
          rw [midT_n kr hr3, show ({ s1W s with wait := w } : W).now = s.now from s1W_now s, parts_cur, restT, h1, h2]
          unfold madeT
          rw [kr]
          simp [cellT]
        rw [em]; exact Z
theorem sim_cons {s : W} {pre post : List TC} {al ar : Bool} (S : Sim s pre post al ar) : ∃ c0 post', post = c0 :: post' := by
  cases S with
  | go g h => exact ⟨_, _, h⟩
  | fin g h f => exact ⟨_, _, h⟩
theorem sim_put {s : W} {pre post'' : List TC} {right : TC} {al ar : Bool} (S : Sim s pre (curT s.now :: right :: post'') al ar) (g : s.going = true) (o code : Int) :
    Sim (putW s (knownOp o) code) (pre ++ (midT (curT s.now) right (knownOp o) code ++ post'').take ((knownOp o).fdiv 4).toNat) ((midT (curT s.now) right (knownOp o) code ++ post'').drop ((knownOp o).fdiv 4).toNat)
      (al || ((curT s.now).2.2 == 0)) (ar || (!((curT s.now).2.2 == 0) && (right.2.2 == 3))) ∧ ((knownOp o).fdiv 4).toNat ≤ (midT (curT s.now) right (knownOp o) code ++ post'').length := by
  have hk : ((knownOp o).fdiv 4).toNat = 0 ∨ ((knownOp o).fdiv 4).toNat = 1 ∨ (((knownOp o).fdiv 4).toNat = 2 ∧ keepsL (knownOp o) = true) := by
    unfold knownOp
    split
    · rename_i q
      simp only [List.any_cons, List.any_nil, Bool.or_false, Bool.or_eq_true, beq_iff_eq] at q
      rcases q with rfl | rfl | rfl | rfl | rfl | rfl | rfl | rfl
      · exact .inl rfl
      · exact .inl rfl
      · exact .inl rfl
      · exact .inl rfl
      · exact .inr (.inl rfl)
      · exact .inr (.inl rfl)
      · exact .inr (.inl rfl)
      · exact .inr (.inr ⟨rfl, rfl⟩)
    · exact .inl rfl
  obtain ⟨M, gm, wm⟩ := sim_mid S g (knownOp o) code
  unfold putW
  dsimp only
  generalize s3W _ _ (keepsL (knownOp o)) = s3 at M gm wm ⊢
  generalize midT (curT s.now) right (knownOp o) code ++ post'' = X at M ⊢
  obtain ⟨c0, X', rfl⟩ := sim_cons M
  rcases hk with hk | hk | ⟨hk, hl⟩
  · rw [hk]
    exact ⟨by simpa [passN] using M, Nat.zero_le _⟩
  · rw [hk]
    exact ⟨(sim_pass M gm).1, by simp⟩
  · rw [hk]
    have P := (sim_pass M gm).1
    obtain ⟨c1, X'', rfl⟩ := sim_cons P
    have g2 : (passW s3).going = true := by
      rcases passW_cases s3 with ⟨h1, _, _⟩ | ⟨c, r, _, _, h3⟩
      · exact absurd h1 (wm hl)
      · rw [h3]; exact gm
    have P2 := (sim_pass P g2).1
    rw [List.append_assoc] at P2
    exact ⟨P2, by simp⟩
end Mine
end
section
namespace Mine
section
variable {K : Params → Frag} {C : Gd K} {B : Bd C} {ρ : Loc} {Λ : Led}
theorem Ev.or {x y : Expr} {rest : List Expr} {pos : Pos} {Q : V → Led → Prop} (h : Ev B ρ x Λ fun a Λ₁ => TruS C B.n a Λ₁ fun c Λ₂ => if c then Q a Λ₂ else Ev B ρ (.BoolOp .Or (y :: rest) pos) Λ₂ Q) : Ev B ρ (.BoolOp .Or (x :: y :: rest) pos) Λ Q := fun g s o f => by
  show wpAny _ _ (do
    let v ← eval x B.env
    standAt pos
    let t ← holding [v] (truthy v)
    match BoolOp.Or, t with
    | .And, false | .Or, true => pure v
    | _, _ => boolOp pos .Or (evalEach (y :: rest) B.env)) _ _ s
  refine wpAny_bind (wp_then (h g s o f) fun v s₁ g₁ Λ₁ a o₁ x₁ va h₁ => wpAny_bind (wpAny_standAt (wpAny_bind (wpAny_holding (wpAny_mono (h₁ B.A B.E g₁ s₁ v B.hA o₁ va) (fun c s₂ ⟨g₂, Λ₂, o₂, x₂, h₂⟩ => ?_) fun _ _ x => x)))))
  cases c with
  | false => exact wpAny_mono (h₂ g₂ s₂ o₂ (f.step (x₁.trans x₂))) (fun _ _ => Post.after (x₁.trans x₂)) fun _ _ x => x
  | true => exact wpAny_pure ⟨g₂, Λ₂, a, o₂, x₁.trans x₂, va.mono x₂.gle, h₂⟩
theorem Ev.or1 {x : Expr} {pos : Pos} {Q : V → Led → Prop} (h : Ev B ρ x Λ Q) : Ev B ρ (.BoolOp .Or [x] pos) Λ Q := fun g s o f => h g s o f
theorem Ev.or2b {x y : Expr} {pos : Pos} {p q : Bool} (h1 : Ev B ρ x Λ (QIs (V.bool p) Λ)) (h2 : p = false → Ev B ρ y Λ (QIs (V.bool q) Λ)) : Ev B ρ (.BoolOp .Or [x, y] pos) Λ (QIs (V.bool (p || q)) Λ) := by
  refine Ev.or (Ev.is (.bool p) h1 (TruS.bool ?_))
  cases p with
  | false => exact iteF (Ev.or1 (h2 rfl))
  | true => exact iteT ⟨rfl, rfl⟩
end
theorem sim_parts {s : W} {pre post'' : List TC} {right : TC} {al ar : Bool} (S : Sim s pre (curT s.now :: right :: post'') al ar) (g : s.going = true) (ok : WOK s) : (curT s.now).2.1.length + right.2.1.length ≤ 10000 := by
  have h1 : (curT s.now).2.1.length = nowWeight s.now := by cases s.now <;> rfl
  have wt := ok.wgt
  cases S with
  | fin g' => rw [g] at g'; cases g'
  | @go e' G hp =>
    have hp' := (List.cons.inj hp).2
    cases ew : s.wait with
    | nil =>
      rw [restT, ew] at hp'
      rw [(List.cons.inj hp').1]
      show _ + 0 ≤ _
      omega
    | cons c w =>
      rw [restT, ew] at hp'
      rw [(List.cons.inj hp').1]
      rw [ew] at wt
      have : c.2.1.length + weight w + nowWeight s.now ≤ 10000 := wt
      show _ + c.2.1.length ≤ _
      omega
noncomputable def toldRes : Option (List Node) → V
  | none => .none
  | some R => .lst (R.map nodeD)
theorem tail_drop {codes : List Int} : codes.map (fun c => ((c, [c], 1) : TC)) = (codes.map cell0).map cellT := by
  rw [List.map_map]; rfl
/-- how the tape begins -/
theorem sim_start {codes : List Int} (hne : codes ≠ []) (h : Bool) {edge e' : Int} (he : edge = e' ∨ (edge = 256 ∧ e' = 300)) :
    Sim (W0 codes h edge) (if h then [] else [(256, [], 0)]) (if h then (256, [], 0) :: (codes.map (fun c => ((c, [c], 1) : TC)) ++ [(e', [], 3)]) else codes.map (fun c => ((c, [c], 1) : TC)) ++ [(e', [], 3)]) false false := by
  rw [tail_drop]
  cases h with
  | true =>
    refine .go (e' := e') ⟨rfl, he, fun _ => ⟨rfl, ?_⟩, rfl, rfl, rfl⟩ rfl
    show codes.map cell0 ≠ []
    simpa using hne
  | false =>
    obtain ⟨c, r, rfl⟩ := List.exists_cons_of_ne_nil hne
    exact .go (e' := e') ⟨rfl, he, fun e => (nomatch e), rfl, rfl, rfl⟩ rfl
end Mine
end
section
set_option maxHeartbeats 4000000
namespace Mine
variable {C : Gd KK} {B : Bd C} {ρ : Loc} {Λ : Led}
structure TI where
  n : Nat
  s : W
  k : Nat
  pre : List TC
  post : List TC
  al : Bool
  ar : Bool
  steps : Nat
  early : Bool
structure TOK (d : FD) (N : Nat) (R : Option (List Node)) (i : TI) : Prop where
  main : i.early = false → Sim i.s i.pre i.post i.al i.ar
  earl : i.early = true → i.pre = [] ∧ i.al = false ∧ i.ar = false ∧ i.s.going = true ∧ startsI d 256 < 0 ∧ ∃ P, i.post = (256, [], 0) :: P ∧ Sim i.s [(256, [], 0)] P false false
  ok : WOK i.s
  mu : muW i.s i.k < i.n
  len : i.pre.length + i.post.length + i.n ≤ 10000
  res : goW d i.n i.s i.k = R
  cnt : i.steps + i.k = N
theorem call_law_tape {d : FD} (hd : FOK d) {tk : List (Int × V)} (ht : TblOK d tk) {codes : List Int} (hc : ∀ c ∈ codes, 0 ≤ c ∧ c ≤ 255) (hz : codes.length ≤ 100) (hne : codes ≠ []) {hl : Bool} {edge e' : Int} (he : edge = e' ∨ (edge = 256 ∧ e' = 300)) {Q : V → Led → Prop}
    (q : Q (toldRes (wordO d codes hl edge)) Λ) : FnS C 2 (.ref 467) [.dct tk, .lst (GX.nums codes), .bool hl, .int e'] Λ Q := by
  refine FnS.def (n := 1) (names := ["tables", "codes", "has_left", "edge"]) (da := []) rfl (by kernel_rfl) (fun s vs X hl => ?_) .nil (by decide) (by decide) rfl rfl rfl rfl fun A L hA => ?_
  · exact allB 4 (fun v0 v1 v2 v3 => BindsTo.of_eq rfl) vs hl
  have hcz : (GX.nums codes).length ≤ sizeLine := by rw [nums_len, sizeLine_eq]; omega
  -- the tape
  refine Ex.assign (Ev.is (.lst (((256, [], 0) :: (codes.map (fun c => ((c, [c], 1) : TC)) ++ [(e', [], 3)])).map tcV)) ?_ ?_)
  · refine Ev.frz ?_
    refine Ev.bin ?_
    refine Ev.frz ?_
    refine Ev.bin ?_
    refine Ev.frz ?_
    refine Ev.list ?_
    refine Evs.cons ?_
    refine Ev.tup ?_
    refine Evs.cons (Ev.int ?_)
    refine Evs.cons (Ev.tup ?_)
    refine Evs.nil ⟨nle rfl, ?_⟩
    refine Evs.cons (Ev.int (Evs.nil ⟨nle rfl, ?_⟩))
    refine Evs.nil ?_
    refine ⟨?_, ?_⟩
    · exact nle rfl
    intro a na
    refine ⟨a, [tcV (256, [], 0)], rfl, upd_at _ _, ?_⟩
    rw [drop_upd _ na]
    refine Ev.frz (Ev.comp (fun ys acc Λ' => Λ' = Λ ∧ ∃ r, ys = GX.nums r ∧ acc ++ (r.map fun c => tcV (c, [c], 1)) = codes.map fun c => tcV (c, [c], 1)) (ρc := []) (cl := []) ⟨rfl, fun x c e => (nomatch e), fun x a e => (nomatch e)⟩ (by decide) rfl (by decide) rfl
      (Ev.loc rfl ⟨_, IterS.lst, hcz, rfl, codes, rfl, rfl⟩) ?_ ?_)
    · rintro Cc y ys acc Λ' ⟨rfl, r, e1, e2⟩
      refine TstF.nil (iteT ?_)
      cases r with
      | nil => cases e1
      | cons c r =>
        cases e1
        refine Ev.tup (Evs.cons (Ev.loc rfl (Evs.cons (Ev.tup (Evs.cons (Ev.loc rfl (Evs.nil ⟨nle rfl, ?_⟩)))))))
        refine Evs.cons (Ev.int (Evs.nil ⟨nle rfl, rfl, r, rfl, ?_⟩))
        rw [← e2, List.append_assoc]; rfl
    rintro acc Λ' D ⟨rfl, r, e1, e2⟩ nD
    have ea : acc = codes.map fun c => tcV (c, [c], 1) := by
      cases r with
      | nil => rw [← e2]; exact (List.append_nil _).symm
      | cons c r => cases e1
    subst ea
    refine ⟨D, _, rfl, upd_at _ _, ?_⟩
    rw [drop_upd _ nD]
    refine BinS.addl (by simp [sizeLine_eq]; omega) fun a na => ⟨a, _, rfl, upd_at _ _, ?_⟩
    rw [drop_upd _ na]
    refine Ev.frz (Ev.list (Evs.cons (Ev.tup (Evs.cons (Ev.loc rfl (Evs.cons (Ev.tup (Evs.nil ⟨nle rfl, ?_⟩))))))))
    refine Evs.cons (Ev.int (Evs.nil ⟨nle rfl, ?_⟩))
    refine Evs.nil ⟨nle rfl, fun a na => ?_⟩
    refine ⟨a, [tcV (e', [], 3)], rfl, upd_at _ _, ?_⟩
    rw [drop_upd _ na]
    refine BinS.addl (by simp [sizeLine_eq]; omega) fun a na => ⟨a, _, rfl, upd_at _ _, ?_⟩
    rw [drop_upd _ na]
    refine ⟨?_, rfl⟩
    rw [List.map_cons, List.map_append, List.map_map]
    rfl
  refine Ex.tup4 (Ev.tup (Evs.cons (Ev.is (.int ((if hl then 0 else 1 : Nat) : Int)) ?_ ?_)))
  · refine Ev.ife (Tst.val (Ev.loc rfl (TruS.bool ?_)))
    cases hl with
    | true => exact iteT (Ev.int ⟨rfl, rfl⟩)
    | false => exact iteF (Ev.int ⟨rfl, rfl⟩)
  refine Evs.cons (Ev.int (Evs.cons (Ev.bool (Evs.cons (Ev.bool (Evs.nil ⟨nle rfl, _, _, _, _, rfl, ?_⟩))))))
  obtain ⟨w1, w2, w3, w4⟩ := W0_ok hc hz (hl && decide (0 ≤ startsI d 256)) edge
  have st := sim_start hne (hl && decide (0 ≤ startsI d 256)) he
  have ew : goW d (2 * (20 * (codes.length + 1)) + codes.length + 2) (W0 codes (hl && decide (0 ≤ startsI d 256)) edge) (20 * (codes.length + 1)) = wordO d codes hl edge := by
    unfold wordO
    rw [if_neg (by simpa using hne)]
  have m0 : muW (W0 codes (hl && decide (0 ≤ startsI d 256)) edge) (20 * (codes.length + 1)) < 2 * (20 * (codes.length + 1)) + codes.length + 2 := by
    unfold muW; rw [w4, if_pos rfl]; omega
  generalize hs0 : W0 codes (hl && decide (0 ≤ startsI d 256)) edge = s₀ at *
  have init : ∃ i : TI, TOK d (20 * (codes.length + 1)) (wordO d codes hl edge) i ∧ i.pre ++ i.post = (256, [], 0) :: (codes.map (fun c => ((c, [c], 1) : TC)) ++ [(e', [], 3)]) ∧ i.pre.length = (if hl then 0 else 1) ∧ i.al = false ∧ i.ar = false ∧ i.steps = 0 := by
    cases hl with
    | false =>
      refine ⟨⟨_, s₀, 20 * (codes.length + 1), [(256, [], 0)], codes.map (fun c => ((c, [c], 1) : TC)) ++ [(e', [], 3)], false, false, 0, false⟩, ⟨fun _ => ?_, fun e => (nomatch e), w1, m0, ?_, ew, by simp⟩, rfl, rfl, rfl, rfl, rfl⟩
      · simpa using st
      · simp; omega
    | true =>
      by_cases p : 0 ≤ startsI d 256
      · refine ⟨⟨_, s₀, 20 * (codes.length + 1), [], (256, [], 0) :: (codes.map (fun c => ((c, [c], 1) : TC)) ++ [(e', [], 3)]), false, false, 0, false⟩, ⟨fun _ => ?_, fun e => (nomatch e), w1, m0, ?_, ew, by simp⟩, rfl, rfl, rfl, rfl, rfl⟩
        · simpa [p] using st
        · simp; omega
      · refine ⟨⟨_, s₀, 20 * (codes.length + 1), [], (256, [], 0) :: (codes.map (fun c => ((c, [c], 1) : TC)) ++ [(e', [], 3)]), false, false, 0, true⟩, ⟨fun e => (nomatch e), fun _ => ⟨rfl, rfl, rfl, w4, by omega, _, rfl, ?_⟩, w1, m0, ?_, ew, by simp⟩, rfl, rfl, rfl, rfl, rfl⟩
        · simpa [p] using st
        · simp; omega
  obtain ⟨i₀, t0, t1, t2, t3, t4, t5⟩ := init
  refine Ex.while (ι := TI) (fun i => TOK d (20 * (codes.length + 1)) (wordO d codes hl edge) i) (fun i => i.n + if i.early then 1 else 0)
    (fun i => [("tables", .dct tk), ("codes", .lst (GX.nums codes)), ("tape", .lst ((i.pre ++ i.post).map tcV)), ("at", .int (i.pre.length : Nat)), ("steps", .int (i.steps : Nat)), ("at_left", .bool i.al), ("at_right", .bool i.ar)]) (fun _ => Λ) i₀ t0
    (Sub.cons rfl (Sub.cons rfl (Sub.cons (by rw [t1]; rfl) (Sub.cons (by rw [t2]; rfl) (Sub.cons (by rw [t5]; rfl) (Sub.cons (by rw [t3]; rfl) (Sub.cons (by rw [t4]; rfl) Sub.nil))))))) le_refl' ?_
  clear t0 t1 t2 t3 t4 t5 i₀ m0 ew st w1 w2 w3 w4 hs0 s₀
  rintro ⟨n, s, k, pre, post, al, ar, steps, early⟩ T
  have Tm := T.main
  have Te := T.earl
  have ok := T.ok
  have Tmu := T.mu
  have Tl := T.len
  have Tr := T.res
  have Tc := T.cnt
  dsimp only at Tm Te ok Tmu Tl Tr Tc ⊢
  obtain ⟨n, rfl⟩ : ∃ m, n = m + 1 := ⟨n - 1, by omega⟩
  have hsz : ∀ c0 P, post = c0 :: P → ((pre ++ post).map tcV).length ≤ sizeLine := fun _ _ _ => by rw [List.length_map, List.length_append, sizeLine_eq]; omega
  have hsz' : ((pre ++ post).map tcV).length ≤ sizeLine := by rw [List.length_map, List.length_append, sizeLine_eq]; omega
  have g0 : ∀ {c0 P}, post = c0 :: P → ((pre ++ post).map tcV)[((pre.length : Nat) : Int).toNat]? = some (tcV c0) := fun {c0 P} e => tc_get (by rw [e]; simp)
  have g1 : ∀ {c0 c1 P}, post = c0 :: c1 :: P → ((pre ++ post).map tcV)[(((pre.length : Nat) : Int) + 1).toNat]? = some (tcV c1) := fun {c0 c1 P} e => by
    rw [show (((pre.length : Nat) : Int) + 1).toNat = pre.length + 1 by omega]
    exact tc_get (by rw [e, List.getElem?_append_right (by omega)]; simp)
  -- what stands at the place
  refine Tst.cmp (Ev.sub ?_)
  have head : ∃ c0 P, post = c0 :: P := by
    cases early with
    | false => exact sim_cons (Tm rfl)
    | true => obtain ⟨_, _, _, _, _, P, e, _⟩ := Te rfl; exact ⟨_, P, e⟩
  obtain ⟨c0, P, hpost⟩ := head
  refine Ev.sub (Ev.loc rfl (Ev.loc rfl (SubS.lstI (by omega) (g0 hpost) hsz' ?_)))
  refine Ev.int (SubS.tup (j := 2) (a := .int c0.2.2) rfl rfl (by decide) (by decide) ?_)
  refine Ev.int (CmpS.nei (TruS.bool ?_))
  -- the end
  have fin : s.going = false → early = false → (c0.2.2 == 3) = true ∧ s.found = toldT al ar false ((pre ++ post).filter keep124) := by
    intro g ge
    cases Tm ge with
    | @go e1 G hp => rw [G.going] at g; cases g
    | @fin e1 g' hp f =>
      rw [hpost] at hp
      obtain ⟨h1, h2⟩ := List.cons.inj hp
      refine ⟨by rw [h1]; rfl, ?_⟩
      rw [f, hpost, h1, h2, List.filter_append]
      show _ = toldT al ar false (pre.filter keep124 ++ [])
      rw [List.append_nil]
  have go : s.going = true → early = false → ∃ right P', P = right :: P' ∧ c0 = curT s.now ∧ lookO d (leftW s) (rightW s) = lookO d c0.1 right.1 ∧ (c0.2.2 == 3) = false := by
    intro g ge
    obtain ⟨right, P', h1, h2, h3⟩ := sim_shape hd (Tm ge) g
    rw [hpost] at h1
    obtain ⟨h4, h5⟩ := List.cons.inj h1
    exact ⟨right, P', h5, h4, by rw [h4]; exact h2, by rw [h4]; exact h3⟩
  by_cases hend : s.going = false ∧ early = false
  · obtain ⟨f1, f2⟩ := fin hend.1 hend.2
    rw [goW, if_neg (by rw [hend.1]; exact Bool.false_ne_true)] at Tr
    rw [show (c0.2.2 != 3) = false from by rw [bne, f1]; rfl]
    refine iteF (Ex.ret ?_)
    refine Ev.call 1 (GX.law_told ⟨_, .ref _, keepsF_K (by kernel_rfl), ?_⟩) (nle rfl)
    refine Evs.cons (Ev.frz ?_)
    refine Ev.comp (fun ys acc Λ' => Λ' = Λ ∧ ∃ r : List TC, ys = r.map tcV ∧ acc ++ (r.filter keep124).map tcV = ((pre ++ post).filter keep124).map tcV) (ρc := []) (cl := []) ⟨rfl, fun x c e => (nomatch e), fun x a e => (nomatch e)⟩ (by decide) rfl (by decide) rfl
      (Ev.loc rfl ⟨_, IterS.lst, hsz', rfl, _, rfl, rfl⟩) ?_ ?_
    · rintro Cc y ys acc Λ' ⟨rfl, r, e1, e2⟩
      cases r with
      | nil => cases e1
      | cons c r =>
        cases e1
        refine TstF.one (Tst.cmp (Ev.sub (Ev.loc rfl (Ev.int (SubS.tup (j := 2) (a := .int c.2.2) rfl rfl (by decide) (by decide) ?_)))))
        refine Ev.tup (Evs.cons (Ev.int (Evs.cons (Ev.int (Evs.cons (Ev.int (Evs.nil ⟨nle rfl, ?_⟩)))))))
        refine CmpS.inNumsT (l := [1, 2, 4]) (TruS.bool ?_)
        cases t : [1, 2, 4].any (fun x => x == c.2.2) with
        | true =>
          have t' : keep124 c = true := t
          refine iteT (Ev.loc rfl ⟨rfl, r, rfl, ?_⟩)
          rw [← e2, List.filter_cons, if_pos t', List.map_cons, List.append_assoc]; rfl
        | false =>
          have t' : keep124 c = false := t
          refine iteF ⟨rfl, r, rfl, ?_⟩
          rw [← e2, List.filter_cons, if_neg (by rw [t']; exact Bool.false_ne_true)]
    rintro acc Λ' D ⟨rfl, r, e1, e2⟩ nD
    have ea : acc = ((pre ++ post).filter keep124).map tcV := by
      cases r with
      | nil => rw [← e2]; exact (List.append_nil _).symm
      | cons c r => cases e1
    subst ea
    refine ⟨D, _, rfl, upd_at _ _, ?_⟩
    rw [drop_upd _ nD]
    have fl : ((pre ++ post).filter keep124).length ≤ 100000 := by
      have := List.length_filter_le keep124 (pre ++ post)
      rw [List.length_append] at this
      omega
    refine Evs.cons (Ev.loc rfl (Evs.cons (Ev.loc rfl (Evs.nil (call_law_told fl ?_).call))))
    rw [← f2]
    rw [← Tr] at q
    exact q
  -- a turn
  have mid : ∃ right P', P = right :: P' ∧ (c0.2.2 == 3) = false ∧ (early = true → lookO d c0.1 right.1 = none) ∧ (early = false → s.going = true ∧ c0 = curT s.now ∧ lookO d (leftW s) (rightW s) = lookO d c0.1 right.1) := by
    cases he : early with
    | false =>
      have g : s.going = true := by
        cases z : s.going with
        | true => rfl
        | false => exact absurd ⟨z, he⟩ hend
      obtain ⟨right, P', h1, h2, h3, h4⟩ := go g he
      exact ⟨right, P', h1, h4, fun e => (nomatch e), fun _ => ⟨g, h2, h3⟩⟩
    | true =>
      obtain ⟨_, _, _, g, sn, P1, e, S1⟩ := Te he
      rw [hpost] at e
      obtain ⟨h1, h2⟩ := List.cons.inj e
      obtain ⟨right, P', h3⟩ := sim_cons S1
      refine ⟨right, P', by rw [h2, h3], by rw [h1]; rfl, fun _ => ?_, fun e => (nomatch e)⟩
      rw [h1, look_scan hd, if_pos sn]
  obtain ⟨right, P', hP, hn3, hearly, hgo⟩ := mid
  subst hP
  rw [show (c0.2.2 != 3) = true from by rw [bne, hn3]; rfl]
  refine iteT ?_
  refine Ex.swap2 (Ev.tup (Evs.cons (Ev.sub (Ev.loc rfl (Ev.loc rfl (SubS.lstI (by omega) (g0 hpost) hsz' ?_))))))
  refine Evs.cons (Ev.sub (Ev.loc rfl (Ev.bin (Ev.loc rfl (Ev.int (BinS.addi (SubS.lstI (by omega) (g1 hpost) hsz' ?_)))))))
  refine Evs.nil ⟨nle rfl, _, _, rfl, ?_⟩
  obtain ⟨kvs, k1, k2⟩ := ht c0.1
  refine Ex.assign (Ev.is ((lookO d c0.1 right.1).map pairV |>.getD .none) ?_ ?_)
  · refine Ev.meth 0 (pl := _) ?_ (nle rfl)
    refine Ev.is (.dct kvs) ?_ ?_
    · refine Ev.meth 0 (pl := _) ?_ (nle rfl)
      refine Ev.loc rfl (MethS.dct PySem.F.slot_dict_get PySem.F.type_dict_get ⟨keepsF_bi _, ?_⟩)
      refine Evs.cons (Ev.sub (Ev.loc rfl (Ev.int (SubS.tup (j := 0) (a := .int c0.1) rfl rfl (by decide) (by decide) ?_))))
      refine Evs.cons (Ev.frzD (Ev.dict fun b nb => ⟨b, _, rfl, upd_at _ _, ?_⟩))
      rw [drop_upd _ nb]
      exact Evs.nil (CallS.get2 ⟨k1, rfl⟩)
    refine MethS.dct PySem.F.slot_dict_get PySem.F.type_dict_get ⟨keepsF_bi _, ?_⟩
    refine Evs.cons (Ev.sub (Ev.loc rfl (Ev.int (SubS.tup (j := 0) (a := .int right.1) rfl rfl (by decide) (by decide) ?_))))
    exact Evs.nil (CallS.get1 ⟨by rw [k2 right.1], rfl⟩)
  refine Ex.ife (Tst.cmp (Ev.loc rfl (Ev.nothing (CmpS.is (TruS.bool ?_)))))
  cases el : lookO d c0.1 right.1 with
  | none =>
    have hat : ((pre.length : Nat) : Int) + 1 = ((pre ++ [c0]).length : Nat) := by simp
    have htape : pre ++ post = (pre ++ [c0]) ++ (right :: P') := by rw [hpost]; simp
    have hlen : pre.length + post.length = (pre ++ [c0]).length + (right :: P').length := by rw [← List.length_append, ← List.length_append, htape]
    refine iteT (Ex.assign (Ev.bin (Ev.loc rfl (Ev.int (BinS.addi ?_)))))
    cases he : early with
    | true =>
      obtain ⟨p1, p2, p3, p4, p5, P1, e, S1⟩ := Te he
      rw [hpost] at e
      obtain ⟨h1, h2⟩ := List.cons.inj e
      subst p1
      refine Ex.nil (Ex.nil ⟨⟨n + 1, s, k, [] ++ [c0], right :: P', al, ar, steps, false⟩, ⟨fun _ => ?_, fun e => (nomatch e), ok, Tmu, by dsimp only; omega, Tr, Tc⟩, ?_, Sub.cons rfl (Sub.cons rfl (Sub.cons (by rw [← htape]; rfl) (Sub.cons (by rw [← hat]; rfl) (Sub.cons rfl (Sub.cons rfl (Sub.cons rfl Sub.nil)))))), le_refl'⟩)
      · show Sim s ([] ++ [c0]) (right :: P') al ar
        rw [h1, h2, p2, p3]; exact S1
      · show n + 1 + 0 < n + 1 + 1
        omega
    | false =>
      obtain ⟨g, hc0, hlk⟩ := hgo he
      obtain ⟨t1, t2, t3⟩ := turn_ok hd (s := s) (k := k) ok g (s' := passW s) (k' := k) (by unfold turnW; rw [hlk, el])
      rw [goW, if_pos g, turnW, hlk, el] at Tr
      dsimp only at Tr
      have S := Tm he
      rw [hpost] at S
      refine Ex.nil (Ex.nil ⟨⟨n, passW s, k, pre ++ [c0], right :: P', al, ar, steps, false⟩, ⟨fun _ => (sim_pass S g).1, fun e => (nomatch e), t1, by dsimp only; omega, by dsimp only; omega, Tr, Tc⟩, ?_, Sub.cons rfl (Sub.cons rfl (Sub.cons (by rw [← htape]; rfl) (Sub.cons (by rw [← hat]; rfl) (Sub.cons rfl (Sub.cons rfl (Sub.cons rfl Sub.nil)))))), le_refl'⟩)
      show n + 0 < n + 1 + 0
      omega
  | some or =>
    obtain ⟨op, rest⟩ := or
    have he : early = false := by
      cases z : early with
      | false => rfl
      | true => rw [hearly z] at el; cases el
    subst he
    obtain ⟨g, hc0, hlk⟩ := hgo rfl
    have S := Tm rfl
    rw [hpost] at S
    obtain ⟨l1, l2⟩ := look_ok hd el
    rw [goW, if_pos g, turnW, hlk, el] at Tr
    dsimp only at Tr
    have htok := @turn_ok d hd s k ok g
    unfold turnW at htok
    rw [hlk, el] at htok
    dsimp only at htok
    refine iteF (Ex.ife (Tst.cmp (Ev.sub (Ev.loc rfl (Ev.int (SubS.tup (j := 0) (a := .int op) rfl rfl (by decide) (by decide) (Ev.int (CmpS.gti (TruS.bool ?_)))))))))
    by_cases u : op ≥ 128
    · rw [if_pos u] at Tr htok
      obtain ⟨t1, t2, t3⟩ := htok rfl
      rw [decide_eq_true (by omega)]
      have hpl : ((pre.length : Nat) : Int) + 1 = ((pre.length + 1 : Nat) : Int) := by omega
      have htk : ((pre ++ post).map tcV).take (pre.length + 1) = (pre ++ [c0]).map tcV := by
        rw [hpost, ← List.map_take]
        congr 1
        rw [show pre ++ c0 :: right :: P' = (pre ++ [c0]) ++ (right :: P') by simp, List.take_left' (by simp)]
      have hdr : ((pre ++ post).map tcV).drop (pre.length + 1) = (right :: P').map tcV := by
        rw [hpost, ← List.map_drop]
        congr 1
        rw [show pre ++ c0 :: right :: P' = (pre ++ [c0]) ++ (right :: P') by simp, List.drop_left' (by simp)]
      have hpp : post.length = P'.length + 2 := by rw [hpost]; rfl
      refine iteT (Ex.assign (Ev.is (.lst ((((pre ++ [c0]) ++ [(amount rest, [], 4)]) ++ (right :: P')).map tcV)) ?_ ?_))
      · refine Ev.frz ?_
        refine Ev.bin ?_
        refine Ev.frz ?_
        refine Ev.bin ?_
        refine Ev.slc (Ev.loc rfl (EvO.none (EvO.some (Ev.bin (Ev.loc rfl (Ev.int (BinS.addi ?_)))))))
        rw [hpl]
        refine EvO.none (SlcS.upto (b := pre.length + 1) (by rw [List.length_map, List.length_append]; omega) hsz' ?_)
        rw [htk]
        refine Ev.frz ?_
        refine Ev.list ?_
        refine Evs.cons ?_
        refine Ev.tup ?_
        refine Evs.cons (Ev.is (.int (amount rest)) ?_ ?_)
        · refine Ev.sub (GX.law_amounts (Ev.sub (Ev.loc rfl (Ev.int (SubS.tup (j := 1) (a := .int rest) rfl rfl (by decide) (by decide) ?_)))))
          rcases look_kern hd el u with rfl | rfl
          · exact SubS.tup rfl rfl (by decide) (by decide) ⟨rfl, rfl⟩
          · exact SubS.tup rfl rfl (by decide) (by decide) ⟨rfl, rfl⟩
        refine Evs.cons (Ev.tup ?_)
        refine Evs.nil ⟨nle rfl, ?_⟩
        refine Evs.cons (Ev.int (Evs.nil ⟨nle rfl, ?_⟩))
        refine Evs.nil ⟨nle rfl, fun a na => ?_⟩
        refine ⟨a, [tcV (amount rest, [], 4)], rfl, upd_at _ _, ?_⟩
        rw [drop_upd _ na]
        refine BinS.addl (by simp [sizeLine_eq]; omega) fun a na => ⟨a, _, rfl, upd_at _ _, ?_⟩
        rw [drop_upd _ na]
        refine Ev.slc (Ev.loc rfl (EvO.some (Ev.bin (Ev.loc rfl (Ev.int (BinS.addi ?_))))))
        rw [hpl]
        refine EvO.none (EvO.none (SlcS.from (a := pre.length + 1) (by rw [List.length_map, List.length_append]; omega) hsz' ?_))
        rw [hdr]
        refine BinS.addl (by simp [sizeLine_eq]; omega) fun a na => ⟨a, _, rfl, upd_at _ _, ?_⟩
        rw [drop_upd _ na]
        refine ⟨?_, rfl⟩
        rw [List.map_append (l₂ := right :: P'), List.map_append (l₂ := [(amount rest, [], 4)])]
        rfl
      refine Ex.assign (Ev.bin (Ev.loc rfl (Ev.int (BinS.addi ?_))))
      have hat : ((pre.length : Nat) : Int) + 2 = (((pre ++ [c0]) ++ [(amount rest, [], 4)]).length : Nat) := by simp
      have SP := sim_pass S g
      refine Ex.nil (Ex.nil (Ex.nil ⟨⟨n, { passW s with found := (passW s).found ++ [.kern (amount rest)] }, k, (pre ++ [c0]) ++ [(amount rest, [], 4)], right :: P', al, ar, steps, false⟩, ⟨fun _ => sim_kern SP.1 SP.2 _, fun e => (nomatch e), t1, by dsimp only; omega, by simp; omega, Tr, Tc⟩, ?_, Sub.cons rfl (Sub.cons rfl (Sub.cons rfl (Sub.cons (by rw [← hat]; rfl) (Sub.cons rfl (Sub.cons rfl (Sub.cons rfl Sub.nil)))))), le_refl'⟩))
      show n + 0 < n + 1 + 0
      omega
    · rw [if_neg u] at Tr htok
      rw [decide_eq_false (by omega)]
      refine iteF (Ex.ife (Tst.cmp (Ev.loc rfl (Ev.bin (Ev.int (Ev.bin (Ev.call 0 (GX.lenB ⟨_, .bi _, keepsF_bi _, ?_⟩) (Nat.zero_le _))))))))
      refine Evs.cons (Ev.loc rfl (Evs.nil (CallS.lenL hcz (Ev.int (BinS.addi (BinS.muli (IntMulOk.of_left (by decide)) (CmpS.eqi (TruS.bool ?_))))))))
      rw [nums_len]
      by_cases kz : k = 0
      · rw [if_pos kz] at Tr
        rw [show (((steps : Nat) : Int) == 20 * ((codes.length : Int) + 1)) = true from beq_iff_eq.mpr (by omega)]
        refine iteT (Ex.ret (Ev.nothing ?_))
        rw [← Tr] at q
        exact q
      · rw [if_neg kz] at Tr htok
        obtain ⟨t1, t2, t3⟩ := htok rfl
        rw [show (((steps : Nat) : Int) == 20 * ((codes.length : Int) + 1)) = false from beq_eq_false_iff_ne.mpr (by omega)]
        refine iteF (Ex.assign (Ev.bin (Ev.loc rfl (Ev.int (BinS.addi ?_)))))
        refine Ex.assign (Ev.is (.int (knownOp op)) ?_ ?_)
        · refine Ev.ife (Tst.cmp (Ev.sub (Ev.loc rfl (Ev.int (SubS.tup (j := 0) (a := .int op) rfl rfl (by decide) (by decide) ?_)))))
          refine Ev.slc (GX.law_ops (EvO.none (EvO.some (Ev.int (EvO.none (SlcS.tupTo (b := 8) (show 8 < 9 by decide) (nle rfl) ?_))))))
          refine CmpS.inNumsT (l := [0, 1, 2, 3, 5, 6, 7, 11]) (TruS.bool (ite_ (fun v => ?_) fun v => ?_))
          · exact Ev.sub (Ev.loc rfl (Ev.int (SubS.tup (j := 0) (a := .int op) rfl rfl (by decide) (by decide) ⟨by unfold knownOp; rw [if_pos v], rfl⟩)))
          · exact Ev.int ⟨by unfold knownOp; rw [if_neg (by rw [v]; exact Bool.false_ne_true)], rfl⟩
        have hpp : post.length = P'.length + 2 := by rw [hpost]; rfl
        have hparts := sim_parts (hc0 ▸ S) g ok
        rw [← hc0] at hparts
        obtain ⟨SP, ln⟩ := sim_put (hc0 ▸ S) g op rest
        rw [← hc0] at SP ln
        have ml := midT_len c0 right (knownOp op) rest
        refine Ex.assign (Ev.call 1 (GX.law_step ⟨_, .ref _, keepsF_K (by kernel_rfl), ?_⟩) (nle rfl))
        refine Evs.cons (Ev.loc rfl (Evs.cons (Ev.loc rfl (Evs.cons (Ev.loc rfl (Evs.cons (Ev.sub (Ev.loc rfl (Ev.int (SubS.tup (j := 1) (a := .int rest) rfl rfl (by decide) (by decide) ?_))))))))))
        refine Evs.nil ?_
        rw [hpost]
        refine (call_law_step (by omega) (by omega) ?_).call
        refine Ex.assign (Ev.is (.bool (al || (c0.2.2 == 0))) (Ev.or2b (Ev.loc rfl ⟨rfl, rfl⟩) fun _ => Ev.cmp (Ev.sub (Ev.loc rfl (Ev.int (SubS.tup (j := 2) (a := .int c0.2.2) rfl rfl (by decide) (by decide) (Ev.int (CmpS.eqi ⟨rfl, rfl⟩))))))) ?_)
        refine Ex.assign (Ev.is (.bool (ar || (!(c0.2.2 == 0) && (right.2.2 == 3)))) (Ev.or2b (Ev.loc rfl ⟨rfl, rfl⟩) fun _ => ?_) ?_)
        · refine Ev.and2b ?_ fun _ => ?_
          · exact Ev.cmp (Ev.sub (Ev.loc rfl (Ev.int (SubS.tup (j := 2) (a := .int c0.2.2) rfl rfl (by decide) (by decide) (Ev.int (CmpS.nei ⟨rfl, rfl⟩))))))
          · exact Ev.cmp (Ev.sub (Ev.loc rfl (Ev.int (SubS.tup (j := 2) (a := .int right.2.2) rfl rfl (by decide) (by decide) (Ev.int (CmpS.eqi ⟨rfl, rfl⟩))))))
        refine Ex.assign (Ev.bin (Ev.loc rfl (Ev.bin (Ev.loc rfl (Ev.int (BinS.divi (by decide) (by decide) (BinS.addi ?_)))))))
        generalize hX : midT c0 right (knownOp op) rest ++ P' = X at SP ln
        have hXl : X.length ≤ 3 + P'.length := by rw [← hX, List.length_append]; omega
        have f0 : 0 ≤ (knownOp op).fdiv 4 := by rw [Int.fdiv_eq_ediv_of_nonneg _ (by decide)]; omega
        have hat : ((pre.length : Nat) : Int) + (knownOp op).fdiv 4 = ((pre ++ X.take ((knownOp op).fdiv 4).toNat).length : Nat) := by
          rw [List.length_append, List.length_take]; omega
        have htp : (pre ++ midT c0 right (knownOp op) rest ++ P') = (pre ++ X.take ((knownOp op).fdiv 4).toNat) ++ X.drop ((knownOp op).fdiv 4).toNat := by
          rw [List.append_assoc, List.append_assoc, List.take_append_drop, hX]
        have hst : ((steps : Nat) : Int) + 1 = ((steps + 1 : Nat) : Int) := by omega
        refine Ex.nil (Ex.nil (Ex.nil (Ex.nil ⟨⟨n, putW s (knownOp op) rest, k - 1, pre ++ X.take ((knownOp op).fdiv 4).toNat, X.drop ((knownOp op).fdiv 4).toNat, al || (c0.2.2 == 0), ar || (!(c0.2.2 == 0) && (right.2.2 == 3)), steps + 1, false⟩, ⟨fun _ => SP, fun e => (nomatch e), t1, by dsimp only; omega, ?_, Tr, by dsimp only; omega⟩, ?_,
          Sub.cons rfl (Sub.cons rfl (Sub.cons (by rw [← htp]; rfl) (Sub.cons (by rw [← hat]; rfl) (Sub.cons (by rw [← hst]; rfl) (Sub.cons rfl (Sub.cons rfl Sub.nil)))))), le_refl'⟩)))
        · dsimp only
          rw [List.length_append, List.length_take, List.length_drop]; omega
        · show n + 0 < n + 1 + 0
          omega
end Mine
end
section
namespace Mine
/-- the parts of a text -/
noncomputable def splitO (letters : Int) : List Int → List Int → List (List Int)
  | [], p => [p]
  | c :: r, p => if c > letters then p :: splitO letters r [] else splitO letters r (p ++ [c])
noncomputable def wholeO (d : FD) (hr : Bool) : List (List Int) → Bool → List Node → Option (List Node)
  | [], _, found => some found
  | p :: rest, hl, found => match wordO d p hl (if hr && rest.isEmpty then d.edge else 256) with
    | none => none
    | some R => wholeO d hr rest true (found ++ R)
theorem split_ne (letters : Int) : ∀ (codes p : List Int), (splitO letters codes p).isEmpty = false := by
  intro codes
  induction codes with
  | nil => intro p; rfl
  | cons c r ih => intro p; unfold splitO; split <;> first | rfl | exact ih _
theorem run_whole (d : FD) (hr : Bool) : ∀ (codes piece : List Int) (hl : Bool) (found : List Node), (∀ c ∈ codes, 1 ≤ c) → runGo d hr codes piece hl found = wholeO d hr (splitO d.begins.length codes piece) hl found := by
  intro codes
  induction codes with
  | nil =>
    intro piece hl found _
    rw [runGo, splitO, wholeO, show (hr && ([] : List (List Int)).isEmpty) = hr by simp]
    cases wordO d piece hl (if hr = true then d.edge else 256) <;> rfl
  | cons c r ih =>
    intro piece hl found h
    have hc := h c (by simp)
    have hb : hasB d c = decide (c ≤ d.begins.length) := by
      unfold hasB firstOf
      rw [if_pos hc]
      by_cases q : c ≤ d.begins.length
      · rw [List.getElem?_eq_getElem (by omega), decide_eq_true q]; rfl
      · rw [List.getElem?_eq_none (by omega), decide_eq_false q]; rfl
    rw [runGo, splitO, hb]
    by_cases q : c ≤ d.begins.length
    · rw [if_pos (by simpa using q), if_neg (by omega)]
      exact ih _ _ _ fun c' h' => h c' (by simp [h'])
    · rw [if_neg (by simpa using q), if_pos (by omega), wholeO, split_ne, Bool.and_false, if_neg Bool.false_ne_true]
      cases wordO d piece hl 256 with
      | none => rfl
      | some R => exact ih _ _ _ fun c' h' => h c' (by simp [h'])
end Mine
end
section
namespace Mine
variable {C : Gd KK} {B : Bd C} {ρ : Loc} {Λ : Led}
noncomputable abbrev PL := Addr × List Int
structure PW (Λ L : Led) (b : Addr) (ps : List PL) : Prop where
  each : ∀ x ∈ ps, L x.1 = some (.list (GX.nums x.2)) ∧ Λ x.1 = none ∧ x.1 ≠ b
  dis : (ps.map (·.1)).Nodup
  le : Led.le Λ L
  nb : Λ b = none
theorem PW.push {L : Led} {b a : Addr} {ps : List PL} (h : PW Λ L b ps) (hb : L b = some (.list (ps.map fun x : PL => V.ref x.1))) (na : L a = none) : PW Λ (upd (upd L a (.list (GX.nums []))) b (.list ((ps ++ [(a, [])]).map fun x : PL => V.ref x.1))) b (ps ++ [(a, [])]) := by
  have ab : a ≠ b := by rintro rfl; rw [hb] at na; cases na
  have nl : Λ a = none := Led.none_of_le h.le na
  have no : ∀ x ∈ ps, x.1 ≠ a := fun x hx e => by have := (h.each x hx).1; rw [e, na] at this; cases this
  refine ⟨fun x hx => ?_, ?_, fun c o e => ?_, h.nb⟩
  · rcases List.mem_append.mp hx with hx | hx
    · obtain ⟨h1, h2, h3⟩ := h.each x hx
      exact ⟨by rw [upd_ne _ h3, upd_ne _ (no x hx)]; exact h1, h2, h3⟩
    · rw [List.mem_singleton.mp hx]
      exact ⟨by rw [upd_ne _ ab, upd_at], nl, ab⟩
  · rw [List.map_append, List.nodup_append]
    refine ⟨h.dis, by simp, fun x hx y hy => ?_⟩
    simp only [List.map_cons, List.map_nil, List.mem_singleton] at hy
    obtain ⟨z, hz, rfl⟩ := List.mem_map.mp hx
    rw [hy]; exact no z hz
  · rw [upd_ne _ (led_ne e h.nb), upd_ne _ (led_ne e nl)]; exact h.le _ _ e
theorem PW.grow {L : Led} {b : Addr} {ps : List PL} {p : Addr} {l l' : List Int} (h : PW Λ L b (ps ++ [(p, l)])) : PW Λ (upd L p (.list (GX.nums l'))) b (ps ++ [(p, l')]) := by
  obtain ⟨h1, h2, h3⟩ := h.each (p, l) (by simp)
  have hd := h.dis
  rw [List.map_append, List.nodup_append] at hd
  refine ⟨fun x hx => ?_, by simpa using h.dis, fun c o e => ?_, h.nb⟩
  · rcases List.mem_append.mp hx with hx | hx
    · obtain ⟨k1, k2, k3⟩ := h.each x (by simp [hx])
      have : x.1 ≠ p := hd.2.2 x.1 (List.mem_map_of_mem hx) p (by simp)
      exact ⟨by rw [upd_ne _ this]; exact k1, k2, k3⟩
    · rw [List.mem_singleton.mp hx]
      exact ⟨upd_at _ _, h2, h3⟩
  · rw [upd_ne _ (led_ne e h2)]; exact h.le _ _ e
end Mine
end
section
set_option maxHeartbeats 4000000
namespace Mine
variable {C : Gd KK} {B : Bd C} {ρ : Loc} {Λ : Led}
noncomputable def refsV (ps : List PL) : List V := ps.map fun x : PL => V.ref x.1
theorem toldRes_none (o : Option (List Node)) : isNone (toldRes o) = o.isNone := by cases o <;> rfl
structure WI where
  rest : List Int
  ps : List PL
  p : Addr
  l : List Int
  L : Led
structure I48 (Λ : Led) (b : Addr) (letters : Int) (codes : List Int) (ys : List V) (i : WI) : Prop where
  e1 : ys = GX.nums i.rest
  pw : PW Λ i.L b (i.ps ++ [(i.p, i.l)])
  hb : i.L b = some (.list (refsV (i.ps ++ [(i.p, i.l)])))
  rok : ∀ c ∈ i.rest, 0 ≤ c ∧ c ≤ 255
  pok : ∀ x ∈ i.ps ++ [(i.p, i.l)], ∀ c ∈ x.2, 0 ≤ c ∧ c ≤ 255
  plen : ∀ x ∈ i.ps ++ [(i.p, i.l)], x.2.length + i.rest.length ≤ 20
  pz : i.ps.length + i.rest.length ≤ 20
  e2 : i.ps.map (·.2) ++ splitO letters i.rest i.l = splitO letters codes []
structure J48 (d : FD) (hr hl : Bool) (Λ : Led) (f : Addr) (all : List PL) (R : Option (List Node)) (ys : List (V × V)) (i : Nat × List PL × List Node × Led) : Prop where
  e1 : ys = numbered (i.1 : Int) (refsV i.2.1)
  e3 : i.1 + i.2.1.length = all.length
  hw : ∀ x ∈ i.2.1, i.2.2.2 x.1 = some (.list (GX.nums x.2)) ∧ Λ x.1 = none ∧ x.1 ≠ f
  nd : (i.2.1.map (·.1)).Nodup
  hf : i.2.2.2 f = some (.list (i.2.2.1.map nodeD))
  le : Led.le Λ i.2.2.2
  rb : ∀ x ∈ i.2.1, (∀ c ∈ x.2, 0 ≤ c ∧ c ≤ 255) ∧ x.2.length ≤ 20
  fz : i.2.2.1.length + 9000 * i.2.1.length ≤ 200000
  ego : wholeO d hr (i.2.1.map (·.2)) (hl || decide ((i.1 : Int) > 0)) i.2.2.1 = R
theorem call_law_whole {d : FD} (hd : FOK d) {tk : List (Int × V)} (ht : TblOK d tk) {codes : List Int} (hc : ∀ c ∈ codes, 0 ≤ c ∧ c ≤ 255) (hz : codes.length ≤ 20) {hl hr : Bool} {Q : V → Led → Prop}
    (q : Q (toldRes (wholeO d hr (splitO d.begins.length codes []) hl [])) Λ) : FnS C 3 (.ref 479) [.dct tk, .lst (GX.nums codes), .int (d.begins.length : Nat), .bool hl, .bool hr, .int d.edge] Λ Q := by
  refine FnS.def (n := 2) (names := ["tables", "codes", "letters", "has_left", "has_right", "edge"]) (da := []) rfl (by kernel_rfl) (fun s vs X hl => ?_) .nil (by decide) (by decide) rfl rfl rfl rfl fun A L hA => ?_
  · exact allB 6 (fun v0 v1 v2 v3 v4 v5 => BindsTo.of_eq rfl) vs hl
  refine Ex.forgets ?_
  refine Ex.assign (Ev.list (Evs.cons (Ev.list (Evs.nil ⟨nle rfl, fun a na => ?_⟩))))
  refine Evs.nil ⟨nle rfl, fun b nb => ?_⟩
  have ba : a ≠ b := by rintro rfl; rw [upd_at] at nb; cases nb
  have nb' : Λ b = none := by rw [← nb, upd_ne _ (Ne.symm ba)]
  refine Ex.for (ι := WI) (I48 Λ b d.begins.length codes)
    (fun _ _ => [("tables", .dct tk), ("letters", .int (d.begins.length : Nat)), ("has_left", .bool hl), ("has_right", .bool hr), ("edge", .int d.edge), ("parts", .ref b)]) (fun _ i => i.L) ?_ ?_ ?_
  · refine Ev.loc rfl ⟨_, ⟨codes, [], a, [], _⟩, IterS.lst, ⟨rfl, ⟨fun x hx => ?_, by simp, ?_, nb'⟩, upd_at _ _, hc, fun x hx => ?_, fun x hx => ?_, by simpa using hz, rfl⟩, Sub.cons rfl (Sub.cons rfl (Sub.cons rfl (Sub.cons rfl (Sub.cons rfl (Sub.cons rfl Sub.nil))))), le_refl'⟩
    · rw [List.mem_singleton.mp hx]
      refine ⟨?_, na, ba⟩
      show upd (upd Λ a _) b _ a = _
      rw [upd_ne _ ba, upd_at]; rfl
    · exact fun c o e => by
        show upd (upd Λ a _) b _ c = _
        rw [upd_ne _ (led_ne e nb'), upd_ne _ (led_ne e na)]; exact e
    · rw [List.mem_singleton.mp hx]; exact fun c h => (nomatch h)
    · rw [List.mem_singleton.mp hx]; simpa using hz
  · rintro y ys ⟨rest, ps, p, l, L'⟩ ⟨e1, pw, hb, rok, pok, plen, pz, e2⟩
    dsimp only at e1 pw hb rok pok plen pz e2 ⊢
    cases rest with
    | nil => cases e1
    | cons c r =>
      cases e1
      rw [splitO] at e2
      refine Ex.ife (Tst.cmp (Ev.loc rfl (Ev.loc rfl (CmpS.gti (TruS.bool (ite_ (fun t => ?_) fun t => ?_))))))
      · have t' := of_decide_eq_true t
        rw [if_pos (by simpa using t')] at e2
        refine Ex.expr (Ev.meth 0 (pl := _) ?_ (nle rfl))
        refine Ev.loc rfl (MethS.list hb PySem.F.slot_list_append PySem.F.type_list_append ⟨keepsF_bi _, ?_⟩)
        refine Evs.cons (Ev.list (Evs.nil ⟨nle rfl, fun x nx => ?_⟩))
        have xb : x ≠ b := by rintro rfl; rw [hb] at nx; cases nx
        refine Evs.nil (CallS.append (by rw [upd_ne _ (Ne.symm xb)]; exact hb) (by simp [refsV, sizeLine_eq]; simp at pz; omega) ?_)
        have P2 := pw.push hb nx
        refine Ex.nil (Ex.nil ⟨⟨r, ps ++ [(p, l)], x, [], upd (upd L' x (.list (GX.nums []))) b (.list (refsV ((ps ++ [(p, l)]) ++ [(x, [])])))⟩, ⟨rfl, ?_, upd_at _ _, fun c h => rok c (by simp [h]), fun y hy => ?_, fun y hy => ?_, by simp at pz ⊢; omega, ?_⟩, Sub.cons rfl (Sub.cons rfl (Sub.cons rfl (Sub.cons rfl (Sub.cons rfl (Sub.cons rfl Sub.nil))))), ?_⟩)
        · exact P2
        · rcases List.mem_append.mp hy with hy | hy
          · exact pok y hy
          · rw [List.mem_singleton.mp hy]; exact fun c h => (nomatch h)
        · rcases List.mem_append.mp hy with hy | hy
          · have := plen y hy; simp at this ⊢; omega
          · rw [List.mem_singleton.mp hy]; simp at pz ⊢; omega
        · rw [← e2]; simp
        · have : refsV (ps ++ [(p, l)]) ++ [V.ref x] = refsV ((ps ++ [(p, l)]) ++ [(x, [])]) := by simp [refsV]
          rw [this]; exact le_refl'
      · have t' := of_decide_eq_false t
        rw [if_neg (by simpa using t')] at e2
        obtain ⟨k1, k2, k3⟩ := pw.each (p, l) (by simp)
        refine Ex.expr (Ev.meth 0 (pl := _) ?_ (nle rfl))
        have hle : (refsV (ps ++ [(p, l)])).length = ps.length + 1 := by simp [refsV]
        refine Ev.sub (Ev.loc rfl (Ev.un (Ev.int (UnS.negi (SubS.led (j := ps.length) (a := .ref p) hb ?_ ?_ (by decide) (by decide) ?_)))))
        · rw [hle]; simp [seqIndex?]; omega
        · simp [refsV]
        refine MethS.list k1 PySem.F.slot_list_append PySem.F.type_list_append ⟨keepsF_bi _, ?_⟩
        have pl0 : l.length + (c :: r).length ≤ 20 := plen (p, l) (by simp)
        rw [List.length_cons] at pl0
        refine Evs.cons (Ev.loc rfl (Evs.nil (CallS.append k1 (by show (GX.nums l).length ≤ _; rw [nums_len, sizeLine_eq]; omega) ?_)))
        show Ex _ _ _ (upd L' p (.list (GX.nums l ++ [V.int c]))) _
        have en : GX.nums l ++ [V.int c] = GX.nums (l ++ [c]) := by simp [GX.nums]
        rw [en]
        refine Ex.nil (Ex.nil ⟨⟨r, ps, p, l ++ [c], upd L' p (.list (GX.nums (l ++ [c])))⟩, ⟨rfl, pw.grow, ?_, fun c h => rok c (by simp [h]), fun y hy => ?_, fun y hy => ?_, by simp at pz ⊢; omega, e2⟩, Sub.cons rfl (Sub.cons rfl (Sub.cons rfl (Sub.cons rfl (Sub.cons rfl (Sub.cons rfl Sub.nil))))), le_refl'⟩)
        · show upd L' p _ b = _
          rw [upd_ne _ (Ne.symm k3), hb]; simp [refsV]
        · rcases List.mem_append.mp hy with hy | hy
          · exact pok y (by simp [hy])
          · rw [List.mem_singleton.mp hy]
            intro c' h'
            rcases List.mem_append.mp h' with h' | h'
            · exact pok (p, l) (by simp) c' h'
            · rw [List.mem_singleton.mp h']; exact rok c (by simp)
        · rcases List.mem_append.mp hy with hy | hy
          · have := plen y (by simp [hy]); simp at this ⊢; omega
          · rw [List.mem_singleton.mp hy]; simp; omega
  rintro ⟨rest, ps, p, l, L'⟩ ⟨e1, pw, hb, rok, pok, plen, pz, e2⟩
  dsimp only at e1 pw hb rok pok plen pz e2 ⊢
  cases rest with
  | cons c r => cases e1
  | nil =>
    have ea : (ps ++ [(p, l)]).map (·.2) = splitO d.begins.length codes [] := by rw [← e2, splitO]; simp
    have al : (ps ++ [(p, l)]).length ≤ 21 := by simp at pz ⊢; omega
    generalize ps ++ [(p, l)] = all at *
    refine Ex.freeze "parts" (b := b) rfl hb ?_
    refine Ex.assign (Ev.list (Evs.nil ⟨nle rfl, fun f nf => ?_⟩))
    have fb : Λ f = none := Led.none_of_le (le_drop pw.le pw.nb) nf
    have nof : ∀ x ∈ all, x.1 ≠ f := fun x hx e => by
      have h1 := (pw.each x hx).1
      have h3 := (pw.each x hx).2.2
      have : drop L' b x.1 = L' x.1 := if_neg h3
      rw [e] at this h1
      rw [← this, nf] at h1; cases h1
    refine Ex.for2 (ι := Nat × List PL × List Node × Led) (J48 d hr hl Λ f all (wholeO d hr (splitO d.begins.length codes []) hl []))
      (fun _ _ => [("tables", .dct tk), ("has_left", .bool hl), ("has_right", .bool hr), ("edge", .int d.edge), ("parts", .lst (refsV all)), ("found", .ref f)]) (fun _ i => i.2.2.2) ?_ ?_ ?_
    · refine EvI2.enum (GX.enumerateT ⟨rfl, Ev.loc rfl ⟨_, .inl rfl, (0, all, [], _), ⟨rfl, Nat.zero_add _, fun x hx => ?_, pw.dis, upd_at _ _, ?_, fun x hx => ⟨pok x hx, by have := plen x hx; omega⟩, by dsimp only; simp only [List.length_nil]; omega, by rw [ea]; simp⟩, Sub.cons rfl (Sub.cons rfl (Sub.cons rfl (Sub.cons rfl (Sub.cons rfl (Sub.cons rfl Sub.nil))))), le_refl'⟩⟩)
      · obtain ⟨h1, h2, h3⟩ := pw.each x hx
        refine ⟨?_, h2, nof x hx⟩
        show upd (drop L' b) f _ x.1 = _
        rw [upd_ne _ (nof x hx)]
        exact (if_neg h3).trans h1
      · exact fun c o e => by
          show upd (drop L' b) f _ c = _
          rw [upd_ne _ (led_ne e fb)]; exact le_drop pw.le pw.nb _ _ e
    · rintro y z ys ⟨k, rem, found, L₂⟩ ⟨e1, e3, hw, nd, hf, le, rb, fz, ego⟩
      dsimp only at e1 e3 hw nd hf le rb fz ego ⊢
      cases rem with
      | nil => cases e1
      | cons x r =>
        obtain ⟨p1, l1⟩ := x
        cases e1
        obtain ⟨h1, h2, h3⟩ := hw (p1, l1) (by simp)
        obtain ⟨rb1, rb2⟩ := rb (p1, l1) (by simp)
        dsimp only at h1 h2 h3 rb1 rb2
        rw [List.map_cons, List.nodup_cons] at nd
        rw [List.length_cons] at e3 fz
        have hk1 : ((k : Nat) : Int) + 1 = ((k + 1 : Nat) : Int) := by omega
        have dl : ∀ c, c ≠ p1 → drop L₂ p1 c = L₂ c := fun c hc => if_neg hc
        rw [List.map_cons, wholeO] at ego
        refine Ex.ife (Tst.cmp (Ev.loc rfl (Ev.nilL ?_)))
        refine CmpS.ne (.led h1 (nums_ok 7 _)) (.val (.lst .nil)) (TruS.bool ?_)
        have en : PyData.eqv (.list (V.ds (GX.nums l1))) (V.d (.lst [])) = l1.isEmpty := by
          rw [show V.d (.lst []) = PyData.list [] from rfl, eqv_nil]
          cases l1 <;> rfl
        rw [en]
        cases l1 with
        | nil =>
          have w0 : ∀ hl' e, wordO d [] hl' e = some [] := fun _ _ => rfl
          dsimp only at ego
          rw [w0] at ego
          dsimp only at ego
          rw [List.append_nil] at ego
          refine iteF (Ex.nil (Ex.nil ⟨(k + 1, r, found, L₂), ⟨by rw [← hk1]; rfl, by dsimp only; omega, fun x hx => hw x (by simp [hx]), nd.2, hf, le, fun x hx => rb x (by simp [hx]), by dsimp only; omega, ?_⟩, Sub.cons rfl (Sub.cons rfl (Sub.cons rfl (Sub.cons rfl (Sub.cons rfl (Sub.cons rfl Sub.nil))))), le_refl'⟩))
          dsimp only
          rw [show (hl || decide (((k + 1 : Nat) : Int) > 0)) = true from by rw [decide_eq_true (by omega), Bool.or_true]]
          exact ego
        | cons c cs =>
          refine iteT ?_
          refine Ex.freeze "part" (b := p1) rfl h1 ?_
          have hf1 : drop L₂ p1 f = some (.list (found.map nodeD)) := (dl f (Ne.symm h3)).trans hf
          have le1 : Led.le Λ (drop L₂ p1) := le_drop le h2
          have ev : (hr && (r.map (·.2)).isEmpty) = (hr && r.isEmpty) := by cases r <;> rfl
          have alz : (refsV all).length ≤ sizeLine := by simp [refsV, sizeLine_eq]; omega
          refine Ex.assign (Ev.call 2 (GX.law_tape ⟨_, .ref _, keepsF_K (by kernel_rfl), ?_⟩) (nle rfl))
          refine Evs.cons (Ev.loc rfl (Evs.cons (Ev.loc rfl ?_)))
          refine Evs.cons (Ev.is (.bool (hl || decide ((k : Int) > 0))) (Ev.or2b (Ev.loc rfl ⟨rfl, rfl⟩) fun _ => Ev.cmp (Ev.loc rfl (Ev.int (CmpS.gti ⟨rfl, rfl⟩)))) ?_)
          refine Evs.cons (Ev.is (.int (if (hr && r.isEmpty) = true then d.edge else 300)) ?_ ?_)
          · refine Ev.ife (Tst.is (hr && r.isEmpty) (Tst.and2 (Tst.val (Ev.loc rfl (TruS.bool ⟨rfl, rfl⟩))) fun _ => ?_) ?_)
            · refine Tst.cmp (Ev.bin (Ev.loc rfl (Ev.int (BinS.addi (Ev.call 0 (GX.lenB ⟨_, .bi _, keepsF_bi _, ?_⟩) (Nat.zero_le _))))))
              refine Evs.cons (Ev.loc rfl (Evs.nil (CallS.lenL alz (CmpS.eqi (TruS.bool ⟨?_, rfl⟩)))))
              have : (refsV all).length = all.length := by simp [refsV]
              rw [this]
              cases r with
              | nil => exact beq_iff_eq.mpr (by simp at e3; omega)
              | cons x r => exact beq_eq_false_iff_ne.mpr (by simp at e3; omega)
            · refine ite_ (fun t => ?_) fun t => ?_
              · exact Ev.loc rfl ⟨by rw [if_pos t], rfl⟩
              · exact Ev.int ⟨by rw [if_neg (by rw [t]; exact Bool.false_ne_true)], rfl⟩
          refine Evs.nil ((call_law_tape (e' := if (hr && r.isEmpty) = true then d.edge else 300) (edge := if (hr && r.isEmpty) = true then d.edge else 256) hd ht rb1 (by omega) (by simp) ?_ ?_).call)
          · cases (hr && r.isEmpty)
            · exact .inr ⟨rfl, rfl⟩
            · exact .inl rfl
          rw [ev] at ego
          refine Ex.ife (Tst.cmp (Ev.loc rfl (Ev.nothing (CmpS.is (TruS.bool ?_)))))
          rw [toldRes_none]
          cases ew : wordO d (c :: cs) (hl || decide ((k : Int) > 0)) (if (hr && r.isEmpty) = true then d.edge else 256) with
          | none =>
            rw [ew] at ego
            refine iteT (Ex.ret (Ev.nothing ⟨Λ, le1, ?_⟩))
            rw [← ego] at q
            exact q
          | some R =>
            rw [ew] at ego
            dsimp only at ego
            have lR := word_len hd rb1 (by omega) ew
            refine iteF (Ex.nil (Ex.expr (Ev.meth 0 (pl := _) ?_ (nle rfl))))
            refine Ev.loc rfl (MethS.list hf1 PySem.F.slot_list_extend PySem.F.type_list_extend ⟨keepsF_bi _, ?_⟩)
            refine Evs.cons (Ev.loc rfl (Evs.nil (CallS.extend hf1 (by rw [List.length_map, List.length_map]; omega) ?_)))
            rw [← List.map_append]
            refine Ex.nil (Ex.nil ⟨(k + 1, r, found ++ R, upd (drop L₂ p1) f (.list ((found ++ R).map nodeD))), ⟨by rw [← hk1]; rfl, by dsimp only; omega, fun x hx => ?_, nd.2, upd_at _ _, ?_, fun x hx => rb x (by simp [hx]), by dsimp only; rw [List.length_append]; omega, ?_⟩, Sub.cons rfl (Sub.cons rfl (Sub.cons rfl (Sub.cons rfl (Sub.cons rfl (Sub.cons rfl Sub.nil))))), le_refl'⟩)
            · obtain ⟨k1, k2, k3⟩ := hw x (by simp [hx])
              have xp : x.1 ≠ p1 := fun e => by
                have : x.1 ∈ r.map (·.1) := List.mem_map_of_mem (f := fun x : PL => x.1) hx
                rw [e] at this
                exact nd.1 this
              refine ⟨?_, k2, k3⟩
              show upd (drop L₂ p1) f _ x.1 = _
              rw [upd_ne _ k3, dl _ xp]; exact k1
            · exact fun c o e => by
                show upd (drop L₂ p1) f _ c = _
                rw [upd_ne _ (led_ne e fb)]; exact le1 _ _ e
            · dsimp only
              rw [show (hl || decide (((k + 1 : Nat) : Int) > 0)) = true from by rw [decide_eq_true (by omega), Bool.or_true]]
              exact ego
    · rintro ⟨k, rem, found, L₂⟩ ⟨e1, e3, hw, nd, hf, le, rb, fz, ego⟩
      dsimp only at e1 e3 hw nd hf le rb fz ego ⊢
      cases rem with
      | cons x r => cases e1
      | nil =>
        refine Ex.ret (Ev.frz (Ev.loc rfl ⟨f, _, rfl, hf, Λ, le_drop le fb, ?_⟩))
        rw [← ego] at q
        exact q
end Mine
end
section
set_option maxHeartbeats 4000000
namespace Mine
variable {C : Gd KK} {B : Bd C} {ρ : Loc} {Λ : Led}
/-- _law_node -/
theorem call_law_node {F : V} {n : Node} {Q : V → Led → Prop} (q : Q (nodeD n) Λ) : FnS C 1 (.ref 486) [nodeV F n] Λ Q := by
  refine FnS.def (n := 0) (names := ["node"]) (da := []) rfl (by kernel_rfl) (fun s vs X hl => ?_) .nil (by decide) (by decide) rfl rfl rfl rfl fun A L hA => ?_
  · exact allB 1 (fun v0 => BindsTo.of_eq rfl) vs hl
  cases n with
  | char c =>
    refine Ex.ife (Tst.cmp (Ev.attr (Ev.loc rfl (AttrS.cls (a := .int 0 564) (b := .int 0) (by kernel_rfl) (by kernel_rfl) (by kernel_rfl) (by kernel_rfl) rfl (by decide) rfl (.int _ _) (GX.CHAR (CmpS.eqi (TruS.bool (iteT ?_))))))))
    exact Ex.ret (Ev.tup (Evs.cons (GX.CHAR (Evs.cons (Ev.attr (Ev.loc rfl (AttrS.ins ⟨by kernel_rfl, by kernel_rfl, by kernel_rfl⟩ rfl rfl (Evs.nil ⟨nle rfl, q⟩))))))))
  | lig c ps l r =>
    refine Ex.ife (Tst.cmp (Ev.attr (Ev.loc rfl (AttrS.cls (a := .int 1 565) (b := .int 1) (by kernel_rfl) (by kernel_rfl) (by kernel_rfl) (by kernel_rfl) rfl (by decide) rfl (.int _ _) (GX.CHAR (CmpS.eqi (TruS.bool (iteF (Ex.nil ?_)))))))))
    refine Ex.ife (Tst.cmp (Ev.attr (Ev.loc rfl (AttrS.cls (a := .int 1 565) (b := .int 1) (by kernel_rfl) (by kernel_rfl) (by kernel_rfl) (by kernel_rfl) rfl (by decide) rfl (.int _ _) (GX.LIGATURE (CmpS.eqi (TruS.bool (iteT ?_))))))))
    refine Ex.ret (Ev.tup (Evs.cons (GX.LIGATURE (Evs.cons (Ev.attr (Ev.loc rfl (AttrS.ins ⟨by kernel_rfl, by kernel_rfl, by kernel_rfl⟩ rfl rfl ?_)))))))
    refine Evs.cons (Ev.attr (Ev.loc rfl (AttrS.ins ⟨by kernel_rfl, by kernel_rfl, by kernel_rfl⟩ rfl rfl ?_)))
    refine Evs.cons (Ev.attr (Ev.loc rfl (AttrS.ins ⟨by kernel_rfl, by kernel_rfl, by kernel_rfl⟩ rfl rfl ?_)))
    refine Evs.cons (Ev.attr (Ev.loc rfl (AttrS.ins ⟨by kernel_rfl, by kernel_rfl, by kernel_rfl⟩ rfl rfl (Evs.nil ⟨nle rfl, q⟩))))
  | kern w =>
    refine Ex.ife (Tst.cmp (Ev.attr (Ev.loc rfl (AttrS.cls (a := .int 5 569) (b := .int 5) (by kernel_rfl) (by kernel_rfl) (by kernel_rfl) (by kernel_rfl) rfl (by decide) rfl (.int _ _) (GX.CHAR (CmpS.eqi (TruS.bool (iteF (Ex.nil ?_)))))))))
    refine Ex.ife (Tst.cmp (Ev.attr (Ev.loc rfl (AttrS.cls (a := .int 5 569) (b := .int 5) (by kernel_rfl) (by kernel_rfl) (by kernel_rfl) (by kernel_rfl) rfl (by decide) rfl (.int _ _) (GX.LIGATURE (CmpS.eqi (TruS.bool (iteF (Ex.nil ?_)))))))))
    refine Ex.ret (Ev.tup (Evs.cons (Ev.attr (Ev.loc rfl (AttrS.cls (a := .int 5 569) (b := .int 5) (by kernel_rfl) (by kernel_rfl) (by kernel_rfl) (by kernel_rfl) rfl (by decide) rfl (.int _ _) ?_)))))
    refine Evs.cons (Ev.attr (Ev.loc rfl (AttrS.ins ⟨by kernel_rfl, by kernel_rfl, by kernel_rfl⟩ rfl rfl ?_)))
    exact Evs.cons (Ev.attr (Ev.loc rfl (AttrS.ins ⟨by kernel_rfl, by kernel_rfl, by kernel_rfl⟩ rfl rfl (Evs.nil ⟨nle rfl, q⟩))))
end Mine
end
section
set_option maxHeartbeats 4000000
namespace Mine
variable {C : Gd KK} {B : Bd C} {ρ : Loc} {Λ : Led}
theorem runGo_len {d : FD} (h : FOK d) (hr : Bool) : ∀ (codes piece : List Int) (hl : Bool) (found R : List Node), (∀ c ∈ codes, 0 ≤ c ∧ c ≤ 255) → (∀ c ∈ piece, 0 ≤ c ∧ c ≤ 255) → piece.length + codes.length ≤ 100 →
    runGo d hr codes piece hl found = some R → R.length ≤ found.length + 9000 * (codes.length + 1) := by
  intro codes
  induction codes with
  | nil =>
    intro piece hl found R _ hp hz e
    rw [runGo] at e
    cases ew : wordO d piece hl (if hr = true then d.edge else 256) with
    | none => rw [ew] at e; cases e
    | some S =>
      rw [ew] at e
      have := word_len h hp (by simpa using hz) ew
      cases e
      simp
      omega
  | cons c r ih =>
    intro piece hl found R hc hp hz e
    rw [List.length_cons] at hz ⊢
    rw [runGo] at e
    split at e
    · have := ih _ _ _ _ (fun c' h' => hc c' (by simp [h'])) (fun c' h' => ?_) (by simp; omega) e
      · omega
      · rcases List.mem_append.mp h' with h' | h'
        · exact hp c' h'
        · rw [List.mem_singleton.mp h']; exact hc c (by simp)
    · cases ew : wordO d piece hl 256 with
      | none => rw [ew] at e; cases e
      | some S =>
        rw [ew] at e
        dsimp only at e
        have l1 := word_len h hp (by omega) ew
        have := ih [] true (found ++ S) R (fun c' h' => hc c' (by simp [h'])) (fun c' h' => (nomatch h')) (by simp; omega) e
        rw [List.length_append] at this
        omega
/-- _law_run -/
theorem call_law_run {d : FD} (hd : FOK d) {codes : List Int} (hc : ∀ c ∈ codes, 0 ≤ c ∧ c ≤ 255) (hz : codes.length ≤ 100) {hl hr : Bool} {l : List Env} {Q : V → Led → Prop}
    (q : Q (toldRes (runO d codes hl hr)) Λ) : FnT C 10 l (.ref 491) [fontV d, .lst (GX.nums codes), .bool hl, .bool hr] Λ Q := by
  refine FnT.def (n := 9) (names := ["font", "codes", "has_left", "has_right"]) (da := []) rfl (by kernel_rfl) (fun s vs X hl => ?_) .nil (by decide) (by decide) rfl rfl rfl rfl fun A L hA hfr hlL => ?_
  · exact allB 4 (fun v0 v1 v2 v3 => BindsTo.of_eq rfl) vs hl
  refine Ex.tryAssign (Cl := 88) (l := l) (Qn := fun a => ∃ R, runO d codes hl hr = some R ∧ a = .lst (R.map (nodeV (fontV d)))) (Qe := runO d codes hl hr = none) 9 hfr rfl hlL rfl rfl (by kernel_rfl) Gives.none ?_ (nle rfl) ?_ ?_
  · refine GX.run ⟨rfl, _, .ref _, keepsF_K (by kernel_rfl), ?_⟩
    exact Evs.cons (Ev.loc rfl (Evs.cons (Ev.loc rfl (Evs.cons (Ev.loc rfl (Evs.cons (Ev.loc rfl (Evs.nil ⟨rfl, fun g h base Λ' => call_run hd hc hz fun R e => ⟨rfl, R, e, rfl⟩⟩))))))))
  · rintro a ⟨R, e, rfl⟩
    rw [e] at q
    have lR : R.length ≤ 909000 := by
      have := runGo_len hd hr codes [] hl [] R hc (fun c h => (nomatch h)) (by simpa using hz) e
      simp at this; omega
    refine Ex.ret (Ev.frz (Ev.comp (fun ys acc Λ' => Λ' = Λ ∧ ∃ r : List Node, ys = r.map (nodeV (fontV d)) ∧ acc ++ r.map nodeD = R.map nodeD) (ρc := []) (cl := []) ⟨rfl, fun x c e => (nomatch e), fun x a e => (nomatch e)⟩ (by decide) rfl (by decide) rfl
      (Ev.loc rfl ⟨_, IterS.lst, by rw [List.length_map, sizeLine_eq]; omega, rfl, R, rfl, rfl⟩) ?_ ?_))
    · rintro Cc y ys acc Λ' ⟨rfl, r, e1, e2⟩
      refine TstF.nil (iteT ?_)
      cases r with
      | nil => cases e1
      | cons n r =>
        cases e1
        refine Ev.call 1 (GX.law_node ⟨_, .ref _, keepsF_K (by kernel_rfl), ?_⟩) (nle rfl)
        refine Evs.cons (Ev.loc rfl (Evs.nil (call_law_node ?_).call))
        refine ⟨rfl, r, rfl, ?_⟩
        rw [← e2, List.append_assoc]; rfl
    rintro acc Λ' D ⟨rfl, r, e1, e2⟩ nD
    have ea : acc = R.map nodeD := by
      cases r with
      | nil => rw [← e2]; exact (List.append_nil _).symm
      | cons c r => cases e1
    subst ea
    refine ⟨D, _, rfl, upd_at _ _, ?_⟩
    rw [drop_upd _ nD]
    exact q
  · intro e
    rw [e] at q
    exact q
/-- _law_refused -/
theorem call_law_refused {F : V} {codes : List Int} (hc : ∀ c ∈ codes, 0 ≤ c ∧ c ≤ 255) (hz : codes.length ≤ 100) {x : V} (hx : x = .int 256 ∨ x = .int (-1) ∨ x = .bool true) {l : List Env} {Q : V → Led → Prop}
    (q : Q (.bool true) Λ) : FnT C 10 l (.ref 498) [F, .lst (GX.nums codes ++ [x])] Λ Q := by
  refine FnT.def (n := 9) (names := ["font", "codes"]) (da := []) rfl (by kernel_rfl) (fun s vs X hl => ?_) .nil (by decide) (by decide) rfl rfl rfl rfl fun A L hA hfr hlL => ?_
  · exact allB 2 (fun v0 v1 => BindsTo.of_eq rfl) vs hl
  refine Ex.tryExpr (Cl := 52) (l := l) (Qn := fun a => False) (Qe := True) 9 hfr rfl hlL rfl rfl (by kernel_rfl) (Gives.bool true) ?_ (nle rfl) ?_ ?_
  · refine GX.run ⟨rfl, _, .ref _, keepsF_K (by kernel_rfl), ?_⟩
    exact Evs.cons (Ev.loc rfl (Evs.cons (Ev.loc rfl (Evs.nil ⟨rfl, fun g h base Λ' => call_run_bad hc hz hx⟩))))
  · exact fun a h => h.elim
  · exact fun _ => q
end Mine
end
section
set_option maxHeartbeats 4000000
namespace Mine
section
variable {K : Params → Frag} {C : Gd K} {B : Bd C} {ρ : Loc} {Λ : Led}
/-- the outermost call: a function of one argument, with cells -/
theorem call_outer {n : Nat} {f : Addr} {oc : Value} {od an : Option Addr} {osl : Array (Option Value)} {name qual : PySem.Str} {params : Arguments} {body : List Stmt} {scope : Scope} {dV kV doc pm cdv ct : Value} {a : V} {x : PySem.Str} {Q : V → Led → Prop}
    (ho : (K C.w.params).lookup f = some ⟨oc, od, .func (fnOf name qual params body scope dV kV doc pm an cdv ct), osl⟩) (hcd : codeIn (K C.w.params) cdv qual = true)
    (hb : ∀ v, bindArgs (fnOf name qual params body scope dV kV doc pm an cdv ct) ⟨[v], []⟩ = pure [(x, v)]) (hloc : scope.names.lookup x = some .local)
    (hk : scope.kind = .function) (hco : scope.isCoroutine = false) (hgen : scope.isGenerator = false)
    (h : ∀ A L (hA : AOK A n), A.frames = some [callEnvC (fnOf name qual params body scope dV kV doc pm an cdv ct) L f] →
      Ex (C := C) ⟨callEnvC (fnOf name qual params body scope dV kV doc pm an cdv ct) L f, A, fun _ _ => False, n, hA, PassesOwn.never⟩ body [(x, a)] Λ fun fl _ Λ' => Q (retOf fl) Λ') :
    ∀ A g s v (R : Result → Shared → Prop), AOK A (n + 1) → A.frames = some [] → Ok C g Λ s → VR C.prog C.w g v a → (∀ v s', Post C g Λ s Q v s' → R (.ok (.ret v)) s') → codeAny (model C.prog C.w) A (.call (.ref f) ⟨[v], []⟩) R s := by
  intro A g s v R hA hfr o hv hR
  have X := Gd.kIn o
  refine codeAny_call_cells (fd := fnOf name qual params body scope dV kV doc pm an cdv ct) (by have := hA.dep; omega) (X _ _ ho) rfl (C.T.nolimit.keeps o.stays) (codeRec_of X hcd) rfl (hb v) rfl (fun y hy => .inl ?_) (fun s₁ I => ?_) hco hgen hk
  · rw [List.mem_singleton.mp hy]; exact hloc
  obtain ⟨h₁, tk, rfl, kp⟩ := I.done
  have nL : s.heap.get? s.heap.objs.size = none := get_fresh _ (Nat.le_refl _)
  have fr := o.fresh nL
  have o₁ := o.grow (t := tk) kp
  have x₁ := Step.grow g Λ s (t := tk) kp
  have nc : ∀ y c, (callEnvC (fnOf name qual params body scope dV kV doc pm an cdv ct) s.heap.objs.size f).cells.lookup y = some c → s.heap.get? c = none := fun y c e => get_fresh _ (Nat.le_of_lt (I.above y c (mem_of_lookup e)))
  refine wpAny_mono (h _ s.heap.objs.size (hA.deeper _) (by show A.frames.map _ = _; rw [hfr]; rfl) g _ o₁ ?_) (fun fl s' ⟨g', Λ', ρ', fl', o', F', x', hf, q⟩ => ?_) fun _ _ x => x.elim
  · refine ⟨hk, rfl, rfl, fr, fun y c e => ?_, fun y z c e1 e2 => ?_, _, I.toInCall.ns, fun y b e => ?_⟩
    · obtain ⟨oc, h1, h2⟩ := I.cell y c e
      have := o.fresh (nc y c e)
      exact ⟨oc, _, h1, h2, this.1, this.2⟩
    · exact name_of_addr I.apart (mem_of_lookup e1) (mem_of_lookup e2)
    · have hl : (callEnvC (fnOf name qual params body scope dV kV doc pm an cdv ct) s.heap.objs.size f).kindOf x = some .local := hloc
      rw [List.lookup_cons] at e
      cases q : y == x with
      | false => rw [q] at e; cases e
      | true =>
        rw [q] at e
        cases e
        have := eq_of_beq q
        subst this
        refine .inl ⟨hl, v, ?_, hv⟩
        simp only [bindL]
        rw [if_pos hl]
        simp
  · have st : Step g Λ s g' Λ' s' := by
      refine ⟨x'.gle, fun b ob hb hl => ?_, fun b hb => x'.live b (x₁.live b hb), x'.gens, x'.drawn, x'.os⟩
      have nb : b ≠ s.heap.objs.size := by first | exact opt_ne hb nL | exact Ne.symm (opt_ne hb nL) | (rintro rfl; rw [nL] at hb; cases hb)
      refine x'.keep b ob (kp _ _ hb) hl ?_
      rintro (q | ⟨y, q, _⟩)
      · exact nb q
      · rw [nc y b q] at hb; cases hb
    cases hf with
    | ret va => exact hR _ _ ⟨g', Λ', _, o', st, va, q⟩
    | next => exact hR _ _ ⟨g', Λ', _, o', st, .none, q⟩
    | brk => exact hR _ _ ⟨g', Λ', _, o', st, .none, q⟩
    | cont => exact hR _ _ ⟨g', Λ', _, o', st, .none, q⟩
theorem putK_new {k : Int} {b : V} {kvs : List (Int × V)} (h : ∀ x ∈ kvs, x.1 ≠ k) : putK k b kvs = kvs ++ [(k, b)] := by
  unfold putK
  rw [if_neg]
  intro e
  obtain ⟨x, hx, e⟩ := List.any_eq_true.mp e
  exact h x hx (of_decide_eq_true e)
end
theorem charsK_app (n : Int) : ∀ (l : List Int) (k f : Int), charsK n k (l ++ [f]) = charsK n k l ++ [(k + l.length + 1, charRow n (k + l.length) f)] := by
  intro l
  induction l with
  | nil => intro k f; simp [charsK]
  | cons c r ih =>
    intro k f
    rw [List.cons_append, charsK, charsK, ih, List.cons_append, List.length_cons]
    rw [show k + 1 + (r.length : Int) = k + ((r.length + 1 : Nat) : Int) by omega]
theorem charsK_keys (n : Int) : ∀ (l : List Int) (k : Int), ∀ x ∈ charsK n k l, x.1 ≤ k + l.length := by
  intro l
  induction l with
  | nil => intro k x h; cases h
  | cons c r ih =>
    intro k x h
    rw [charsK] at h
    rw [List.length_cons]
    rcases List.mem_cons.mp h with rfl | h
    · show k + 1 ≤ _; omega
    · have := ih _ _ h; omega
theorem charsK_len (n : Int) : ∀ (l : List Int) (k : Int), (charsK n k l).length = l.length := by
  intro l
  induction l with
  | nil => intro k; rfl
  | cons c r ih => intro k; rw [charsK, List.length_cons, ih, List.length_cons]
theorem nodeD_ok (n : Node) : DOk 7 (nodeD n) := by
  cases n with
  | char c => exact .tup (.cons .int (.cons .int .nil))
  | kern w => exact .tup (.cons .int (.cons .int (.cons .int .nil)))
  | lig c ps l r => exact .tup (.cons .int (.cons .int (.cons (.tup (nums_ok 5 _)) (.cons .bool (.cons .bool .nil)))))
theorem told_res_ok (o : Option (List Node)) : DOk 8 (toldRes o) := by
  cases o with
  | none => exact .none
  | some R => exact .lst (DsOk.of fun a h => by
      obtain ⟨n, _, rfl⟩ := List.mem_map.mp h
      exact nodeD_ok n)
end Mine
end
section
set_option maxHeartbeats 8000000
namespace Mine
variable {C : Gd KK} {B : Bd C} {ρ : Loc} {Λ : Led}
theorem lookup_all {β : Type} {P : PySem.Str → β → Prop} {l : List (PySem.Str × β)} (h : ∀ p ∈ l, P p.1 p.2) : ∀ x b, l.lookup x = some b → P x b := fun x b e => h (x, b) (mem_of_lookup e)
theorem upFrom_cons {a : Int} {n : Nat} {y : V} {ys : List V} (e : y :: ys = upFrom a n) : ∃ m, n = m + 1 ∧ y = .int a ∧ ys = upFrom (a + 1) m := by
  cases n with
  | zero => cases e
  | succ m => cases e; exact ⟨m, rfl, rfl, rfl⟩
theorem upFrom_nil {a : Int} {n : Nat} (e : [] = upFrom a n) : n = 0 := by
  cases n with
  | zero => rfl
  | succ m => cases e
theorem edge_at {d : Int} (h0 : 0 ≤ d) (h1 : d < 3) : ∃ e : Int, ([.int 256, .int 1, .int 9] : List V)[d.toNat]? = some (.int e) ∧ (e = 256 ∨ e = 1 ∨ e = 9) := by
  have : d = 0 ∨ d = 1 ∨ d = 2 := by omega
  rcases this with rfl | rfl | rfl
  · exact ⟨256, rfl, .inl rfl⟩
  · exact ⟨1, rfl, .inr (.inl rfl)⟩
  · exact ⟨9, rfl, .inr (.inr rfl)⟩
theorem bad_at {d : Int} (h0 : 0 ≤ d) (h1 : d < 3) : ∃ x : V, ([.int 256, .int (-1), .bool true] : List V)[d.toNat]? = some x ∧ (x = .int 256 ∨ x = .int (-1) ∨ x = .bool true) := by
  have : d = 0 ∨ d = 1 ∨ d = 2 := by omega
  rcases this with rfl | rfl | rfl
  · exact ⟨_, rfl, .inl rfl⟩
  · exact ⟨_, rfl, .inr (.inl rfl)⟩
  · exact ⟨_, rfl, .inr (.inr rfl)⟩
inductive RowsI (Λ : Led) (a : Addr) (mn lt : Nat) (edge : Int) (ys acc : List V) (Λ' : Led) : Prop
  | mk (pre : List Row) (t : Bag) (m : Nat) (e : Λ' = upd Λ a (bagO t)) (e1 : ys = upFrom (pre.length : Nat) m) (e2 : pre.length + m = mn) (e3 : acc = pre.map rowV) (bk : BagOK (3 + 8 * pre.length) t)
      (hr : ∀ (i : Nat) (r : Row), pre[i]? = some r → RowOK mn lt i r ∧ (r.1 ≤ 128 → r.2.1 = edge ∨ (1 ≤ r.2.1 ∧ r.2.1 ≤ (lt : Int)))) : RowsI Λ a mn lt edge ys acc Λ'
inductive BegI (Λ : Led) (a : Addr) (lt mn : Nat) (ys acc : List V) (Λ' : Led) : Prop
  | mk (pre : List Int) (t : Bag) (m : Nat) (e : Λ' = upd Λ a (bagO t)) (e1 : ys = upFrom (pre.length : Nat) m) (e2 : pre.length + m = lt) (e3 : acc = GX.nums pre) (bk : BagOK (100 + pre.length) t) (hb : ∀ b ∈ pre, 0 ≤ b ∧ b ≤ (mn : Int)) : BegI Λ a lt mn ys acc Λ'
inductive CodI (Λ : Led) (a : Addr) (lt : Nat) (ys acc : List V) (Λ' : Led) : Prop
  | mk (pre : List Int) (t : Bag) (e : Λ' = upd Λ a (bagO t)) (e1 : pre.length + ys.length ≤ 5) (e3 : acc = GX.nums pre) (bk : BagOK (1 + pre.length) t) (hc : ∀ c ∈ pre, 1 ≤ c ∧ c ≤ (lt : Int) + 1) : CodI Λ a lt ys acc Λ'
structure TxtI (n : Nat) (ys : List V) (i : Nat × Nat) : Prop where
  e1 : ys = upFrom (i.1 : Nat) i.2
  k1 : 1 ≤ i.1
  e2 : i.1 + i.2 = (if 2 < n then 3 else 2)
/-- the law -/
theorem call_law {vs : List Int} (hz : vs.length ≤ 63) : ∀ A g s v (R : Result → Shared → Prop), AOK A 12 → A.frames = some [] → Ok C g Λ s → VR C.prog C.w g v (.lst (GX.nums vs)) → (∀ v s', Post C g Λ s (fun a _ => a = .bool true) v s' → R (.ok (.ret v)) s') →
    codeAny (model C.prog C.w) A (.call (.ref 503) ⟨[v], []⟩) R s := by
  refine call_outer (n := 11) (x := "script") rfl (by kernel_rfl) (fun v => rfl) rfl rfl rfl rfl fun A L hA hfr => ?_
  have hzs : (GX.nums vs).length ≤ sizeLine := by rw [nums_len, sizeLine_eq]; omega
  -- bag, letters, many, edge
  refine Ex.assign (Ev.call 1 (GX.law_bag ⟨_, .ref _, keepsF_K (by kernel_rfl), ?_⟩) (nle rfl)) (.inr ⟨rfl, rfl⟩)
  refine Evs.cons (Ev.call 1 (GX.law_cell ⟨_, .ref _, keepsF_K (by kernel_rfl), ?_⟩) (nle rfl))
  refine Evs.cons (Ev.loc rfl (Evs.cons (Ev.int (Evs.nil (call_law_cell (k := 0) (by omega) (.inl (by decide)) fun c hc => ?_).call))))
  refine Evs.nil (call_law_bag hc fun a t na bk => ?_).call
  refine Ex.assign (Ev.bin (Ev.int (Ev.call 1 (GX.law_draw ⟨_, .ref _, keepsF_K (by kernel_rfl), ?_⟩) (nle rfl)))) (.inr ⟨rfl, rfl⟩)
  refine Evs.cons (Ev.loc rfl (Evs.cons (Ev.int (Evs.nil (call_draw (by decide) (by decide) bk (by decide) fun d1 t1 d10 d11 bk1 => BinS.addi ?_).call))))
  refine Ex.assign (Ev.bin (Ev.int (Ev.call 1 (GX.law_draw ⟨_, .ref _, keepsF_K (by kernel_rfl), ?_⟩) (nle rfl)))) (.inr ⟨rfl, rfl⟩)
  refine Evs.cons (Ev.loc rfl (Evs.cons (Ev.int (Evs.nil (call_draw (by decide) (by decide) bk1 (by decide) fun d2 t2 d20 d21 bk2 => BinS.addi ?_).call))))
  refine Ex.assign (Ev.sub ?_) (.inr ⟨rfl, rfl⟩)
  refine Ev.tup (Evs.cons (Ev.int (Evs.cons (Ev.int (Evs.cons (Ev.int (Evs.nil ⟨nle rfl, ?_⟩)))))))
  refine Ev.call 1 (GX.law_draw ⟨_, .ref _, keepsF_K (by kernel_rfl), ?_⟩) (nle rfl)
  refine Evs.cons (Ev.loc rfl (Evs.cons (Ev.int (Evs.nil (call_draw (by decide) (by decide) bk2 (by decide) fun d3 t3 d30 d31 bk3 => ?_).call))))
  obtain ⟨edge, he1, he2⟩ := edge_at d30 d31
  refine SubS.tupI d30 he1 (nle rfl) ?_
  obtain ⟨lt, hlt⟩ : ∃ n : Nat, (2 + d1 : Int) = n := ⟨(2 + d1).toNat, by omega⟩
  obtain ⟨mn, hmn⟩ : ∃ n : Nat, (2 + d2 : Int) = n := ⟨(2 + d2).toNat, by omega⟩
  rw [hlt, hmn]
  have lt1 : 2 ≤ lt ∧ lt ≤ 4 := by omega
  have mn1 : 2 ≤ mn ∧ mn ≤ 7 := by omega
  clear hlt hmn d10 d11 d20 d21 d30 d31 he1 bk bk1 bk2
  -- rows
  refine Ex.comp (RowsI Λ a mn lt edge)
    (ρc := [("bag", .ref a), ("many", .int (mn : Nat)), ("letters", .int (lt : Nat)), ("edge", .int edge)]) (cl := [("many", L + 1 + 1 + 1), ("letters", L + 1 + 1), ("edge", L + 1 + 1 + 1 + 1), ("bag", L + 1)])
    ⟨rfl, lookup_all ?_, lookup_all ?_⟩ (by decide) rfl (by decide) rfl ?_ ?_ ?_
  · exact List.forall_mem_cons.mpr ⟨rfl, List.forall_mem_cons.mpr ⟨rfl, List.forall_mem_cons.mpr ⟨rfl, List.forall_mem_cons.mpr ⟨rfl, fun _ h => (nomatch h)⟩⟩⟩⟩
  · exact List.forall_mem_cons.mpr ⟨⟨rfl, rfl, .inl rfl, .inl rfl⟩, List.forall_mem_cons.mpr ⟨⟨rfl, rfl, .inl rfl, .inl rfl⟩, List.forall_mem_cons.mpr ⟨⟨rfl, rfl, .inl rfl, .inl rfl⟩, List.forall_mem_cons.mpr ⟨⟨rfl, rfl, .inl rfl, .inl rfl⟩, fun _ h => (nomatch h)⟩⟩⟩⟩
  · refine Ev.call 0 (GX.rangeT ⟨_, .typ _, keepsF_typ _, ?_⟩) (Nat.zero_le _)
    refine Evs.cons (Ev.loc rfl (Evs.nil (CallS.range1 ⟨_, IterS.rng (by decide) (by decide) (by omega) (by omega), ?_, [], t3, mn, rfl, ?_, ?_, rfl, bk3.le (by omega), fun i r e => (nomatch e)⟩)))
    · rw [upFrom_length, sizeLine_eq]; omega
    · show upFrom 0 _ = upFrom 0 _; congr 1
    · exact Nat.zero_add _
  · rintro Cc y ys acc Λ' ⟨pre, t, m, rfl, e1, e2, rfl, bk, hr⟩
    refine TstF.nil (iteT ?_)
    obtain ⟨m, rfl, rfl, rfl⟩ := upFrom_cons e1
    refine Ev.call 2 (GX.law_row ⟨_, .ref _, keepsF_K (by kernel_rfl), ?_⟩) (nle rfl)
    refine Evs.cons (Ev.loc rfl (Evs.cons (Ev.loc rfl (Evs.cons (Ev.loc rfl (Evs.cons (Ev.loc rfl (Evs.cons (Ev.loc rfl (Evs.nil ?_))))))))))
    refine (call_law_row (n := 3 + 8 * pre.length) (by omega) (by omega) (by omega) he2 bk (by omega) fun r t' ok fo bk' => ?_).call
    refine ⟨pre ++ [r], t', m, rfl, ?_, by simp; omega, by simp, bk'.le (by simp; omega), fun i q e => ?_⟩
    · simp
    · by_cases h : i < pre.length
      · rw [List.getElem?_append_left h] at e; exact hr i q e
      · rw [List.getElem?_append_right (by omega)] at e
        have : i = pre.length := by
          by_cases h2 : i - pre.length = 0
          · omega
          · rw [List.getElem?_eq_none (by simp; omega)] at e; cases e
        subst this
        simp at e
        subst e
        exact ⟨ok, fo⟩
  rintro acc Λ' D ⟨rows, t4, m, rfl, e1, e2, rfl, bk4, hr⟩ nD
  have := upFrom_nil e1
  subst this
  obtain rfl : rows.length = mn := by omega
  clear e1 e2
  refine Ex.freeze "rows" (b := D) rfl (upd_at _ _) ?_
  rw [drop_upd _ nD]
  have bk5 : BagOK 100 t4 := bk4.le (by omega)
  clear bk4 bk3
  -- begins
  refine Ex.comp (BegI Λ a lt rows.length)
    (ρc := [("bag", .ref a), ("many", .int (rows.length : Nat))]) (cl := [("many", L + 1 + 1 + 1), ("bag", L + 1)])
    ⟨rfl, lookup_all ?_, lookup_all ?_⟩ (by decide) rfl (by decide) rfl ?_ ?_ ?_
  · exact List.forall_mem_cons.mpr ⟨rfl, List.forall_mem_cons.mpr ⟨rfl, fun _ h => (nomatch h)⟩⟩
  · exact List.forall_mem_cons.mpr ⟨⟨rfl, rfl, .inl rfl, .inl rfl⟩, List.forall_mem_cons.mpr ⟨⟨rfl, rfl, .inl rfl, .inl rfl⟩, fun _ h => (nomatch h)⟩⟩
  · refine Ev.call 0 (GX.rangeT ⟨_, .typ _, keepsF_typ _, ?_⟩) (Nat.zero_le _)
    refine Evs.cons (Ev.loc rfl (Evs.nil (CallS.range1 ⟨_, IterS.rng (by decide) (by decide) (by omega) (by omega), ?_, [], t4, lt, rfl, ?_, ?_, rfl, bk5, fun i h => (nomatch h)⟩)))
    · rw [upFrom_length, sizeLine_eq]; omega
    · show upFrom 0 _ = upFrom 0 _; congr 1
    · exact Nat.zero_add _
  · rintro Cc y ys acc Λ' ⟨pre, t, m, rfl, e1, e2, rfl, bk, hr'⟩
    refine TstF.nil (iteT ?_)
    obtain ⟨m, rfl, rfl, rfl⟩ := upFrom_cons e1
    refine Ev.call 1 (GX.law_draw ⟨_, .ref _, keepsF_K (by kernel_rfl), ?_⟩) (nle rfl)
    refine Evs.cons (Ev.loc rfl (Evs.cons (Ev.bin (Ev.loc rfl (Ev.int (BinS.addi (Evs.nil ?_)))))))
    refine (call_draw (n := 100 + pre.length) (by omega) (by omega) bk (by omega) fun f t' f0 f1 bk' => ?_).call
    refine ⟨pre ++ [f], t', m, rfl, ?_, by simp; omega, by simp [GX.nums], bk'.le (by simp; omega), fun b hb => ?_⟩
    · simp
    · rcases List.mem_append.mp hb with hb | hb
      · exact hr' b hb
      · rw [List.mem_singleton.mp hb]; omega
  rintro acc Λ' D ⟨begins, t5, m, rfl, e1, e2, rfl, bk6, hbg⟩ nD
  have := upFrom_nil e1
  subst this
  obtain rfl : begins.length = lt := by omega
  clear e1 e2
  refine Ex.freeze "begins" (b := D) rfl (upd_at _ _) ?_
  rw [drop_upd _ nD]
  clear bk6 bk5
  let d : FD := ⟨begins, rows, edge⟩
  have hd : FOK d := ⟨by show 1 ≤ rows.length; omega, by show rows.length ≤ 100; omega, by show 1 ≤ begins.length; omega, by show begins.length ≤ 7; omega, hbg, he2, fun i r e => (hr i r e).1⟩
  have hf : FollowOK d := fun i r e h => (hr i r e).2 h
  -- chars
  refine Ex.assign (Ev.dict fun b nb => ?_)
  have ba : b ≠ a := by rintro rfl; rw [upd_at] at nb; cases nb
  have nb' : Λ b = none := by rw [← nb, upd_ne _ ba]
  refine Ex.for2 (ι := List Int × List Int) (fun ys i => ys = numbered (i.1.length : Nat) (GX.nums i.2) ∧ begins = i.1 ++ i.2)
    (fun _ _ => [("script", .lst (GX.nums vs)), ("bag", .ref a), ("letters", .int (begins.length : Nat)), ("many", .int (rows.length : Nat)), ("edge", .int edge), ("rows", .lst (rows.map rowV)), ("begins", .lst (GX.nums begins)), ("chars", .ref b)])
    (fun _ i => upd (upd Λ a (bagO t5)) b (.dict (charsK (many d) 0 i.1))) ?_ ?_ ?_
  · exact EvI2.enum (GX.enumerateT ⟨rfl, Ev.loc rfl ⟨_, .inl rfl, ([], begins), ⟨rfl, rfl⟩, Sub.cons rfl (Sub.cons rfl (Sub.cons rfl (Sub.cons rfl (Sub.cons rfl (Sub.cons rfl (Sub.cons rfl (Sub.cons rfl Sub.nil))))))), le_refl'⟩⟩)
  · rintro y z ys ⟨pre, post⟩ ⟨e1, e2⟩
    dsimp only at e1 e2 ⊢
    cases post with
    | nil => cases e1
    | cons f r =>
      cases e1
      have ek : (pre.length : Int) + 1 = ((pre ++ [f]).length : Nat) := by simp
      refine Ex.setsub (Ev.tup ?_)
      refine Evs.cons (Ev.bin (Ev.int (Ev.loc rfl (BinS.muli (IntMulOk.of_left (by decide)) ?_))))
      refine Evs.cons (Ev.int (Evs.cons (Ev.int (Evs.cons (Ev.int ?_)))))
      refine Evs.cons (Ev.is (.int (if f < many d then 1 else 0)) ?_ ?_)
      · refine Ev.ife (Tst.cmp (Ev.loc rfl (Ev.loc rfl (CmpS.lti (TruS.bool (ite_ (fun h => ?_) fun h => ?_))))))
        · exact Ev.int ⟨by rw [if_pos (show f < many d from of_decide_eq_true h)], rfl⟩
        · exact Ev.int ⟨by rw [if_neg (show ¬ f < many d from of_decide_eq_false h)], rfl⟩
      refine Evs.cons (Ev.is (.int (if f < many d then f else 0)) ?_ ?_)
      · refine Ev.ife (Tst.cmp (Ev.loc rfl (Ev.loc rfl (CmpS.lti (TruS.bool (ite_ (fun h => ?_) fun h => ?_))))))
        · exact Ev.loc rfl ⟨by rw [if_pos (show f < many d from of_decide_eq_true h)], rfl⟩
        · exact Ev.int ⟨by rw [if_neg (show ¬ f < many d from of_decide_eq_false h)], rfl⟩
      refine Evs.nil ⟨nle rfl, Ev.loc rfl (Ev.bin (Ev.loc rfl (Ev.int (BinS.addi (SetSubS.dict (upd_at _ _) ?_ ?_)))))⟩
      · rw [charsK_len, sizeLine_eq]
        have : begins.length = pre.length + (r.length + 1) := by rw [e2]; simp
        omega
      have ep : putK ((pre.length : Int) + 1) (charRow (many d) (pre.length : Nat) f) (charsK (many d) 0 pre) = charsK (many d) 0 (pre ++ [f]) := by
        rw [putK_new, charsK_app, Int.zero_add]
        intro x hx
        have := charsK_keys _ _ _ x hx
        omega
      refine Ex.nil ⟨(pre ++ [f], r), ⟨by rw [← ek]; rfl, by rw [e2]; simp⟩, Sub.cons rfl (Sub.cons rfl (Sub.cons rfl (Sub.cons rfl (Sub.cons rfl (Sub.cons rfl (Sub.cons rfl (Sub.cons rfl Sub.nil))))))), ?_⟩
      rw [upd_upd]
      dsimp only
      rw [← ep]
      exact le_refl'
  rintro ⟨pre, post⟩ ⟨e1, e2⟩
  dsimp only at e1 e2 ⊢
  cases post with
  | cons f r => cases e1
  | nil =>
    obtain rfl : begins = pre := by rw [e2]; simp
    refine Ex.freezeD "chars" (b := b) rfl (upd_at _ _) ?_
    rw [drop_upd _ nb]
    -- font, tables
    refine Ex.assign (Ev.frzI (Ev.call 6 (GX.Font ⟨_, .ref _, keepsF_K (by kernel_rfl), ?_⟩) (nle rfl)))
    refine Evs.cons (Ev.int (Evs.cons (Ev.str (Evs.cons (Ev.int (Evs.cons (Ev.tup (Evs.nil ⟨nle rfl, ?_⟩))))))))
    refine Evs.cons (Ev.loc rfl (Evs.cons (Ev.call 0 (GX.tupleT ⟨_, .typ _, keepsF_typ _, ?_⟩) (Nat.zero_le _))))
    refine Evs.cons (Ev.loc rfl (Evs.nil (CallS.tupleL (by rw [List.length_map, sizeLine_eq]; omega) ?_)))
    refine Evs.cons (GX.law_amounts (Evs.cons (Ev.loc rfl (Evs.nil (make_Font hd hf fun x dx ne nx ndx => ⟨x, 259, dx, _, rfl, ne, inst_x, inst_d ne, ?_⟩).call))))
    rw [inst_drop ne nx ndx]
    refine Ex.assign (Ev.call 2 (GX.law_tables ⟨_, .ref _, keepsF_K (by kernel_rfl), ?_⟩) (nle rfl))
    refine Evs.cons (Ev.loc rfl (Evs.cons (Ev.loc rfl (Evs.nil (call_law_tables hd fun tk ht => ?_).call))))
    refine Ex.ife (Tst.not (Tst.val (Ev.call 3 (GX.law_looks_right ⟨_, .ref _, keepsF_K (by kernel_rfl), ?_⟩) (nle rfl))))
    refine Evs.cons (Ev.loc rfl (Evs.cons (Ev.loc rfl (Evs.cons (Ev.loc rfl (Evs.nil (call_looks_right hd ht (by omega) (TruS.bool ?_)).call))))))
    refine iteF (Ex.nil ?_)
    -- the texts
    refine Ex.for (ι := Nat × Nat) (TxtI vs.length)
      (fun _ _ => [("script", .lst (GX.nums vs)), ("letters", .int (begins.length : Nat)), ("edge", .int edge), ("font", fontV d), ("tables", .dct tk)]) (fun _ _ => Λ) ?_ ?_ ?_
    · refine Ev.call 0 (GX.rangeT ⟨_, .typ _, keepsF_typ _, ?_⟩) (Nat.zero_le _)
      refine Evs.cons (Ev.int (Evs.cons (Ev.bin (Ev.int (Ev.call 0 (GX.intT ⟨_, .typ _, keepsF_typ _, ?_⟩) (Nat.zero_le _))))))
      refine Evs.cons (Ev.cmp (Ev.call 0 (GX.lenB ⟨_, .bi _, keepsF_bi _, ?_⟩) (Nat.zero_le _)))
      refine Evs.cons (Ev.loc rfl (Evs.nil (CallS.lenL hzs (Ev.int (CmpS.gti (Evs.nil (CallS.intB (BinS.addi (Evs.nil (CallS.range2 ?_))))))))))
      have er : (2 + (if decide ((2 : Int) < ((GX.nums vs).length : Nat)) = true then (1 : Int) else 0)) = ((if 2 < vs.length then 3 else 2 : Nat) : Int) := by
        rw [nums_len]
        by_cases q : 2 < vs.length
        · rw [if_pos q, decide_eq_true (by omega)]; rfl
        · rw [if_neg q, decide_eq_false (by omega)]; rfl
      rw [er]
      have e3 : (if 2 < vs.length then 3 else 2 : Nat) ≤ 3 := by split <;> omega
      refine ⟨_, (1, (if 2 < vs.length then 2 else 1)), IterS.rng (by decide) (by decide) (by omega) (by omega), ⟨?_, Nat.le_refl _, ?_⟩, Sub.cons rfl (Sub.cons rfl (Sub.cons rfl (Sub.cons rfl (Sub.cons rfl Sub.nil)))), le_upd _ na⟩
      · dsimp only
        congr 1
        split <;> omega
      · dsimp only
        split <;> omega
    · rintro y ys ⟨k, m⟩ ⟨e1, k1, e2⟩
      dsimp only at e1 k1 e2 ⊢
      obtain ⟨m, rfl, rfl, rfl⟩ := upFrom_cons e1
      have hk : k < 2 ∨ k < vs.length := by split at e2 <;> omega
      refine Ex.assign (Ev.call 1 (GX.law_bag ⟨_, .ref _, keepsF_K (by kernel_rfl), ?_⟩) (nle rfl)) (.inr ⟨rfl, rfl⟩)
      refine Evs.cons (Ev.call 1 (GX.law_cell ⟨_, .ref _, keepsF_K (by kernel_rfl), ?_⟩) (nle rfl))
      refine Evs.cons (Ev.loc rfl (Evs.cons (Ev.loc rfl (Evs.nil (call_law_cell (k := k) (by omega) hk fun c hc => ?_).call))))
      refine Evs.nil (call_law_bag hc fun a t na bk => ?_).call
      -- codes
      refine Ex.comp (CodI Λ a begins.length)
        (ρc := [("bag", .ref a), ("letters", .int (begins.length : Nat))]) (cl := [("letters", L + 1 + 1), ("bag", L + 1)])
        ⟨rfl, lookup_all ?_, lookup_all ?_⟩ (by decide) rfl (by decide) rfl ?_ ?_ ?_
      · exact List.forall_mem_cons.mpr ⟨rfl, List.forall_mem_cons.mpr ⟨rfl, fun _ h => (nomatch h)⟩⟩
      · exact List.forall_mem_cons.mpr ⟨⟨rfl, rfl, .inl rfl, .inl rfl⟩, List.forall_mem_cons.mpr ⟨⟨rfl, rfl, .inl rfl, .inl rfl⟩, fun _ h => (nomatch h)⟩⟩
      · refine Ev.call 0 (GX.rangeT ⟨_, .typ _, keepsF_typ _, ?_⟩) (Nat.zero_le _)
        refine Evs.cons (Ev.bin (Ev.int (Ev.call 1 (GX.law_draw ⟨_, .ref _, keepsF_K (by kernel_rfl), ?_⟩) (nle rfl))))
        refine Evs.cons (Ev.loc rfl (Evs.cons (Ev.int (Evs.nil (call_draw (by decide) (by decide) bk (by decide) fun d1 t1 d10 d11 bk1 => ?_).call))))
        refine BinS.addi (Evs.nil (CallS.range1 ⟨_, IterS.rng (by decide) (by decide) (by omega) (by omega), ?_, [], t1, rfl, ?_, rfl, bk1, fun i h => (nomatch h)⟩))
        · rw [upFrom_length, sizeLine_eq]; omega
        · rw [upFrom_length]; simp; omega
      · rintro Cc y ys acc Λ' ⟨pre, t, rfl, e2, rfl, bk, hc⟩
        refine TstF.nil (iteT ?_)
        rw [List.length_cons] at e2
        refine Ev.bin (Ev.int (Ev.call 1 (GX.law_draw ⟨_, .ref _, keepsF_K (by kernel_rfl), ?_⟩) (nle rfl)))
        refine Evs.cons (Ev.loc rfl (Evs.cons (Ev.bin (Ev.loc rfl (Ev.int (BinS.addi (Evs.nil ?_)))))))
        refine (call_draw (n := 1 + pre.length) (by omega) (by omega) bk (by omega) fun f t' f0 f1 bk' => ?_).call
        refine BinS.addi ⟨pre ++ [1 + f], t', rfl, by simp; omega, by simp [GX.nums], bk'.le (by simp; omega), fun b hb => ?_⟩
        rcases List.mem_append.mp hb with hb | hb
        · exact hc b hb
        · rw [List.mem_singleton.mp hb]; omega
      rintro acc Λ' D ⟨codes, t1, rfl, e3, rfl, bk1, hcd⟩ nD
      have bk2 : BagOK 10 t1 := bk1.le (by simp at e3; omega)
      have cz : codes.length ≤ 5 := by simpa using e3
      refine Ex.freeze "codes" (b := D) rfl (upd_at _ _) ?_
      rw [drop_upd _ nD]
      have c255 : ∀ c ∈ codes, 0 ≤ c ∧ c ≤ 255 := fun c h => by have := hcd c h; omega
      have hzc : (GX.nums codes).length ≤ sizeLine := by rw [nums_len, sizeLine_eq]; omega
      -- the edges, what is handed in
      refine Ex.swap2 (Ev.tup (Evs.cons (Ev.cmp (Ev.call 1 (GX.law_draw ⟨_, .ref _, keepsF_K (by kernel_rfl), ?_⟩) (nle rfl)))))
      refine Evs.cons (Ev.loc rfl (Evs.cons (Ev.int (Evs.nil (call_draw (by decide) (by decide) bk2 (by decide) fun d2 t2 d20 d21 bk3 => Ev.int (CmpS.gti ?_)).call))))
      refine Evs.cons (Ev.cmp (Ev.call 1 (GX.law_draw ⟨_, .ref _, keepsF_K (by kernel_rfl), ?_⟩) (nle rfl)))
      refine Evs.cons (Ev.loc rfl (Evs.cons (Ev.int (Evs.nil (call_draw (by decide) (by decide) bk3 (by decide) fun d3 t3 d30 d31 bk4 => Ev.int (CmpS.gti ?_)).call))))
      refine Evs.nil ⟨nle rfl, _, _, rfl, ?_⟩
      generalize decide ((0 : Int) < d2) = hl
      generalize decide ((0 : Int) < d3) = hr
      refine Ex.assign (Ev.frz (Ev.call 0 (GX.listT ⟨_, .typ _, keepsF_typ _, ?_⟩) (Nat.zero_le _)))
      refine Evs.cons (Ev.loc rfl (Evs.nil (CallS.listL hzc fun r nr => ⟨r, _, rfl, upd_at _ _, ?_⟩)))
      rw [drop_upd _ nr]
      -- run and the law's own reckoning
      refine Ex.ife (Tst.bop (TstAll.or (Tst.cmp (Ev.callT 10 (l := []) hfr rfl (GX.law_run ⟨_, .ref _, keepsF_K (by kernel_rfl), ?_⟩) (nle rfl)))))
      refine Evs.cons (Ev.loc rfl (Evs.cons (Ev.loc rfl (Evs.cons (Ev.loc rfl (Evs.cons (Ev.loc rfl (Evs.nil ⟨fun env h => (nomatch h), fun oL => call_law_run hd c255 (by omega) ⟨rfl, ?_⟩⟩))))))))
      refine Ev.call 3 (GX.law_whole ⟨_, .ref _, keepsF_K (by kernel_rfl), ?_⟩) (nle rfl)
      refine Evs.cons (Ev.loc rfl (Evs.cons (Ev.loc rfl (Evs.cons (Ev.loc rfl (Evs.cons (Ev.loc rfl (Evs.cons (Ev.loc rfl (Evs.cons (Ev.loc rfl (Evs.nil ?_))))))))))))
      refine (call_law_whole hd ht c255 (by omega) ?_).call
      rw [← run_whole d hr codes [] hl [] fun c h => (hcd c h).1]
      refine CmpS.ne (.val (told_res_ok _)) (.val (told_res_ok _)) (TruS.bool ?_)
      rw [show runGo d hr codes [] hl [] = runO d codes hl hr from rfl, eqv_same (told_res_ok _)]
      refine iteF (TstAll.or (Tst.cmp (Ev.loc rfl (Ev.loc rfl (CmpS.ne (.val (.lst (nums_ok 7 _))) (.val (.lst (nums_ok 7 _))) (TruS.bool ?_))))))
      rw [eqv_same (n := 8) (.lst (nums_ok 7 _))]
      refine iteF (TstAll.or0 (iteF (Ex.nil ?_)))
      -- what is refused
      refine Ex.ife (Tst.not (Tst.val (Ev.callT 10 (l := []) hfr rfl (GX.law_refused ⟨_, .ref _, keepsF_K (by kernel_rfl), ?_⟩) (nle rfl))))
      refine Evs.cons (Ev.loc rfl ?_)
      refine Evs.cons (Ev.frz (Ev.bin (Ev.loc rfl (Ev.frz (Ev.list ?_)))))
      refine Evs.cons (Ev.sub ?_)
      refine Ev.tup (Evs.cons (Ev.int (Evs.cons (Ev.un (Ev.int (UnS.negi ?_))))))
      refine Evs.cons (Ev.bool (Evs.nil ⟨nle rfl, ?_⟩))
      refine Ev.call 1 (GX.law_draw ⟨_, .ref _, keepsF_K (by kernel_rfl), ?_⟩) (nle rfl)
      refine Evs.cons (Ev.loc rfl (Evs.cons (Ev.int (Evs.nil (call_draw (by decide) (by decide) bk4 (by decide) fun d4 t4 d40 d41 bk5 => ?_).call))))
      obtain ⟨x, hx1, hx2⟩ := bad_at d40 d41
      refine SubS.tupI d40 hx1 (nle rfl) ?_
      refine Evs.nil ⟨nle rfl, fun p np => ⟨p, [x], rfl, upd_at _ _, ?_⟩⟩
      rw [drop_upd _ np]
      refine BinS.addl (by rw [nums_len, sizeLine_eq]; simp; omega) fun p np => ⟨p, _, rfl, upd_at _ _, ?_⟩
      rw [drop_upd _ np]
      refine Evs.nil ⟨fun env h => (nomatch h), fun oL => call_law_refused c255 (by omega) hx2 ⟨rfl, TruS.bool (iteF (Ex.nil (Ex.nil ?_)))⟩⟩
      exact ⟨(k + 1, m), ⟨by simp, by dsimp only; omega, by dsimp only; omega⟩, Sub.cons rfl (Sub.cons rfl (Sub.cons rfl (Sub.cons rfl (Sub.cons rfl Sub.nil)))), le_upd _ na⟩
    · rintro i -
      exact Ex.ret (Ev.bool rfl)
end Mine
end
section
set_option maxHeartbeats 8000000
namespace Mine
theorem wellInts {prog : Program} {w : World} {P : Params} {h : Heap} {g : FV} : ∀ {l : List Int} {vs : List Value}, WellAll P h vs (ofPys (l.map PyData.int)) → VRs prog w g vs (GX.nums l)
  | [], vs, x => by cases x; exact .nil
  | i :: r, vs, x => by
    cases x with
    | cons a b =>
      cases a
      exact .cons (.int _ _) (wellInts b)
end Mine
set_option maxHeartbeats 8000000 in
theorem PySem.Challenge.cw_rg0156_01_holds : PySem.Challenge.rw_rg0156_01.Holds :=
  Mine.head (by
  intro w s₀ s₁ mg mb G Y fa o pm cd doc dV kV ho hd hcd hD hmg hg args vals as hpre hlay hrd hwl hlo
  have KX : (Mine.KH w.params).In s₁.heap := Y
  revert hpre hlay hrd hwl hlo
  clear hcd hD
  refine Ground.open G ?_
  intro T B D TE TW hpre hlay hrd hwl hlo
  clear D TE TW B G Y
  clear hd ho
  have hfa : mg "law" = some (.ref fa) := hmg
  clear hmg
  wrow_args hpre hlay hrd hwl hlo
  rename_i l _ _ _ _ _ _ _ a _ _ _ _ W _ _ _ hlen _
  have h63 : l.length ≤ 63 := by omega
  refine enter_call ?_
  refine codeAny_mono ?_ (fun _ _ g => GoodW.toG g)
  let C : Mine.Gd Mine.KK := ⟨PySem.Challenge.rw_rg0156_01.row.prog, w, s₁.heap, _, _, mg, mb, KX, topRead_of T, s₁.heap.get?, fun _ _ e => e, s₁.gens, s₁.os, s₁.drawn, ?_⟩
  · have e5 : mg "law" = some (.ref 503) := mg_of KX T.g (by kernel_rfl)
    have e : fa = 503 := by
      rw [e5] at hfa
      injection hfa with hfa
      injection hfa with hfa
      exact hfa.symm
    subst e
    refine Mine.call_law (C := C) (Λ := fun _ => none) h63 callerA s₁.heap.get? s₁ (.ref a) _ ⟨rfl, by decide, by decide⟩ rfl ⟨fun _ _ e => e, fun _ _ e => e, fun _ _ e => (nomatch e), rfl, rfl, rfl⟩ ?_ ?_
    · cases W with
      | list h x => exact .lst h ⟨_, rfl⟩ (Mine.wellInts x)
    · rintro v s' ⟨g', Λ', b, o', x', hv, rfl⟩
      cases hv
      refine ⟨.inl ⟨_, .bool true, [], rfl, ?_, .bool true, ?_, fun _ => ⟨.nil, fun _ h => (nomatch h)⟩⟩, fun b o e => o'.gin _ _ (o'.low _ _ e), o'.rest.2.1, ?_⟩
      · skip
        exact raisesW_false (by wrow_none_raised)
      · wrow_post
      · exact o'.rest.1.trans hg
  · exact ⟨503, _, by decide, KX 503 _ rfl⟩)
end
