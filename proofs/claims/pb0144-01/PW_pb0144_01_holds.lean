import PyProof.Rows.All
import Wide.All
import OpenK.AllK
import Wide.FinOn
import KE.KPairComp
import PySem.Challenge.RW_pb0144_01
open PySem PySem.W PyProof.Rows
set_option Elab.async false
set_option genSizeOf false
set_option genInjectivity false
set_option linter.unusedVariables false
set_option linter.unusedSimpArgs false

section
set_option maxRecDepth 100000
namespace Mine

inductive AV where
  | d (x : PyData)
  | ref (a : Addr)
  | v (x : Value)
  | rng (a b c : Int)

noncomputable def schema : Addr → List Str
  | 217 => ["tree", "items"]
  | 322 => ["tree", "items"]
  | 439 => ["kinds", "spaces", "names", "attrs", "texts", "parents", "children", "contents"]
  | 517 => ["rules", "tree", "stack", "formatting", "mode", "original", "modes", "head", "form", "owners", "is_frameset_ok", "is_scripting", "is_foster", "context", "quirks", "errors", "pending", "wish", "is_skipping", "is_acknowledged", "is_done"]
  | _ => []

inductive AO where
  | list (xs : List AV)
  | inst (C dx : Addr)
  | ns (C : Addr) (as : List AV)
  | dct (x : Str) (a : AV)
  | cell (v : Option AV)
  | fr (names : List Str) (l : List (Option AV))
  | is (p : Obj → Prop)

noncomputable abbrev Store := Addr → Option AO

inductive VR (F : Heap) : AV → Value → Prop
  | d {x v as} : Reads F v x as → VR F (.d x) v
  | ref (a) : VR F (.ref a) (.ref a)
  | v (x) : VR F (.v x) x
  | rng {a b c t u w r} : IsRange F r a b c t u w → VR F (.rng a b c) (.ref r)

inductive VRs (F : Heap) : List AV → List Value → Prop
  | nil : VRs F [] []
  | cons {a v as vs} : VR F a v → VRs F as vs → VRs F (a :: as) (v :: vs)

inductive EntR (F : Heap) : List (Str × AV) → List DictEntry → Prop
  | nil : EntR F [] []
  | cons {x a h t v as es} : VR F a v → EntR F as es → EntR F ((x, a) :: as) (⟨h, .str x t, v⟩ :: es)

noncomputable def OR (F : Heap) : AO → Obj → Prop
  | .list xs, o => ∃ vs n, o = { cls := .type "list", data := .seq vs n } ∧ VRs F xs vs.toList
  | .inst C dx, o => o = instObj C dx
  | .ns C as, o => ∃ es n, o = dictOf es n ∧ as.length ≤ (schema C).length ∧ EntR F ((schema C).zip as) es
  | .dct x a, o => ∃ es n, o = dictOf es n ∧ EntR F [(x, a)] es
  | .cell none, o => o.data = .cell none
  | .cell (some a), o => ∃ v, o.data = .cell (some v) ∧ VR F a v
  | .fr names l, o => ∃ es ep, o.data = .dict es ep ∧ StrKeys es ∧ ∀ (i : Nat) x a, names[i]? = some x → l[i]? = some (some a) → ∃ v, nsFind es x = some v ∧ VR F a v
  | .is p, o => p o ∧ o.isFreed = false

theorem VR.mono {F F' : Heap} (k : F.StaysIn F') : ∀ {a : AV} {v : Value}, VR F a v → VR F' a v
  | _, _, .d h => .d (Reads.keeps k h)
  | _, _, .ref a => .ref a
  | _, _, .v x => .v x
  | _, _, .rng h => .rng (k _ _ h)
theorem VRs.mono {F F' : Heap} (k : F.StaysIn F') : ∀ {a : List AV} {v : List Value}, VRs F a v → VRs F' a v
  | _, _, .nil => .nil
  | _, _, .cons h r => .cons (h.mono k) (r.mono k)
theorem EntR.mono {F F' : Heap} (k : F.StaysIn F') : ∀ {a : List (Str × AV)} {v : List DictEntry}, EntR F a v → EntR F' a v
  | _, _, .nil => .nil
  | _, _, .cons h r => .cons (h.mono k) (r.mono k)
theorem OR.mono {F F' : Heap} (k : F.StaysIn F') : ∀ {a : AO} {o : Obj}, OR F a o → OR F' a o
  | .list _, _, ⟨vs, n, e, h⟩ => ⟨vs, n, e, h.mono k⟩
  | .inst _ _, _, h => h
  | .ns _ _, _, ⟨es, n, e, l, h⟩ => ⟨es, n, e, l, h.mono k⟩
  | .dct _ _, _, ⟨es, n, e, h⟩ => ⟨es, n, e, h.mono k⟩
  | .cell none, _, h => h
  | .cell (some _), _, ⟨v, e, h⟩ => ⟨v, e, h.mono k⟩
  | .fr _ _, _, ⟨es, ep, e, hk, h⟩ => ⟨es, ep, e, hk, fun i x a hx hl => let ⟨v, e, h⟩ := h i x a hx hl; ⟨v, e, h.mono k⟩⟩
  | .is _, _, h => h
theorem OR.alive {F : Heap} : ∀ {a : AO} {o : Obj}, OR F a o → o.isFreed = false
  | .list _, _, ⟨_, _, e, _⟩ => by subst e; rfl
  | .inst _ _, _, h => by cases h; rfl
  | .ns _ _, _, ⟨_, _, e, _⟩ => by subst e; rfl
  | .dct _ _, _, ⟨_, _, e, _⟩ => by subst e; rfl
  | .cell none, o, h => by obtain ⟨c, d, dt, sl⟩ := o; cases h; rfl
  | .cell (some _), o, ⟨v, e, h⟩ => by obtain ⟨c, d, dt, sl⟩ := o; cases e; rfl
  | .fr _ _, o, ⟨es, ep, e, hk, h⟩ => by obtain ⟨c, d, dt, sl⟩ := o; cases e; rfl
  | .is _, _, h => h.2

structure R (F : Heap) (σ : Store) (h : Heap) : Prop where
  fx : F.StaysIn h
  st : ∀ a ao, σ a = some ao → F.get? a = none ∧ ∃ o, h.get? a = some o ∧ OR F ao o

noncomputable def Store.set (σ : Store) (a : Addr) (o : AO) : Store := fun b => if b = a then some o else σ b
noncomputable def Store.del (σ : Store) (a : Addr) : Store := fun b => if b = a then none else σ b
theorem Store.set_self (σ : Store) (a : Addr) (o : AO) : σ.set a o a = some o := by simp [Store.set]
theorem Store.set_ne (σ : Store) {a b : Addr} (o : AO) (h : b ≠ a) : σ.set a o b = σ b := by simp [Store.set, h]
theorem Store.set_set (σ : Store) (a : Addr) (o o' : AO) : (σ.set a o).set a o' = σ.set a o' := by
  funext b; by_cases e : b = a
  · subst e; rw [Store.set_self, Store.set_self]
  · rw [Store.set_ne _ _ e, Store.set_ne _ _ e, Store.set_ne _ _ e]

noncomputable def mkHeap (n : Nat) (f : Nat → Option Obj) : Heap := ⟨((List.range n).map fun i => (f i).getD { cls := .none, data := .freed }).toArray, {}⟩
theorem mkHeap_get {n : Nat} {f : Nat → Option Obj} (hf : ∀ i o, f i = some o → o.isFreed = false ∧ i < n) (a : Nat) : (mkHeap n f).get? a = f a := by
  have e : (mkHeap n f).objs[a]? = if a < n then some ((f a).getD { cls := .none, data := .freed }) else none := by
    unfold mkHeap
    rw [List.getElem?_toArray, List.getElem?_map]
    by_cases h : a < n
    · rw [List.getElem?_range h, if_pos h]; rfl
    · rw [List.getElem?_eq_none (by rw [List.length_range]; omega), if_neg h]; rfl
  unfold Heap.get?
  rw [e]
  cases q : f a with
  | none => by_cases h : a < n <;> simp [h]
  | some o =>
    obtain ⟨h1, h2⟩ := hf a o q
    rw [if_pos h2]
    obtain ⟨c, d, dt, sl⟩ := o
    cases dt <;> first | rfl | cases h1
theorem get_alive {h : Heap} {a : Addr} {o : Obj} (e : h.get? a = some o) : o.isFreed = false := by
  unfold Heap.get? at e
  obtain ⟨c, d, dt, sl⟩ := o
  cases dt <;> first | rfl | (exfalso; revert e; split <;> simp_all)

section
variable {F : Heap} {σ : Store} {h : Heap}
theorem R.lt (r : R F σ h) {a : Addr} {ao : AO} (e : σ a = some ao) : a < h.objs.size := by
  obtain ⟨_, o, ho, _⟩ := r.st a ao e; exact Heap.lt_size ho
theorem R.fresh (r : R F σ h) : σ h.objs.size = none := by
  cases e : σ h.objs.size with
  | none => rfl
  | some ao => exact absurd (r.lt e) (Nat.lt_irrefl _)
theorem R.freshF (r : R F σ h) : F.get? h.objs.size = none := by
  cases e : F.get? h.objs.size with
  | none => rfl
  | some ao => exact absurd (Heap.lt_size (r.fx _ _ e)) (Nat.lt_irrefl _)
theorem R.push (r : R F σ h) (o : Obj) : R F σ (h.push o) :=
  ⟨fun b o' e => Heap.get?_push_of_some _ (r.fx b o' e), fun a ao e => let ⟨h1, o', h2, h3⟩ := r.st a ao e; ⟨h1, o', Heap.get?_push_of_some _ h2, h3⟩⟩
theorem R.keeps (r : R F σ h) {h' : Heap} (k : ∀ b o, h.get? b = some o → h'.get? b = some o) : R F σ h' :=
  ⟨fun b o' e => k _ _ (r.fx b o' e), fun a ao e => let ⟨h1, o', h2, h3⟩ := r.st a ao e; ⟨h1, o', k _ _ h2, h3⟩⟩
theorem R.pushM (r : R F σ h) {o : Obj} {ao : AO} (x : OR F ao o) : R F (σ.set h.objs.size ao) (h.push o) := by
  refine ⟨(r.push o).fx, fun a ao' e => ?_⟩
  by_cases q : a = h.objs.size
  · subst q
    rw [Store.set_self] at e; cases e
    exact ⟨r.freshF, o, Heap.get?_push_size _ x.alive, x⟩
  · rw [Store.set_ne _ _ q] at e; exact (r.push o).st a ao' e
theorem R.same (r : R F σ h) {a : Addr} {ao ao' : AO} {h' : Heap} {o' : Obj} (e : σ a = some ao) (hs : Heap.SameBut a h h') (ho : h'.get? a = some o') (x : OR F ao' o') : R F (σ.set a ao') h' := by
  have hF := (r.st a ao e).1
  refine ⟨fun b o q => ?_, fun b ao'' q => ?_⟩
  · have : b ≠ a := fun z => by subst z; rw [hF] at q; cases q
    exact (hs.2 b this).trans (r.fx b o q)
  · by_cases z : b = a
    · subst z; rw [Store.set_self] at q; cases q; exact ⟨hF, o', ho, x⟩
    · rw [Store.set_ne _ _ z] at q
      obtain ⟨h1, o, h2, h3⟩ := r.st b _ q
      exact ⟨h1, o, (hs.2 b z).trans h2, h3⟩
theorem R.mono (r : R F σ h) {σ' : Store} (k : ∀ a ao, σ' a = some ao → σ a = some ao) : R F σ' h := ⟨r.fx, fun a ao e => r.st a ao (k a ao e)⟩
theorem R.freeze (r : R F σ h) {h' : Heap} {a : Addr} {o : Obj} (ho : h'.get? a = some o) (k : ∀ b o, h.get? b = some o → h'.get? b = some o) (hn : σ a = none) :
    ∃ F', F.StaysIn F' ∧ F'.get? a = some o ∧ R F' σ h' := by
  have g : ∀ i o', (if i = a then some o else F.get? i) = some o' → o'.isFreed = false ∧ i < h'.objs.size := by
    intro i o' e
    split at e
    · rename_i q; subst q; cases e; exact ⟨get_alive ho, Heap.lt_size ho⟩
    · exact ⟨get_alive e, Heap.lt_size (k _ _ (r.fx _ _ e))⟩
  have G : ∀ b, (mkHeap h'.objs.size (fun i => if i = a then some o else F.get? i)).get? b = if b = a then some o else F.get? b := fun b => mkHeap_get g b
  have ks : F.StaysIn (mkHeap h'.objs.size (fun i => if i = a then some o else F.get? i)) := fun b o' e => by
    rw [G]
    by_cases q : b = a
    · subst q
      rw [if_pos rfl, ← e, ← ho]; exact (k _ _ (r.fx _ _ e)).trans e.symm
    · rw [if_neg q]; exact e
  refine ⟨_, ks, by rw [G, if_pos rfl], fun b o' e => ?_, fun b ao e => ?_⟩
  · rw [G] at e
    split at e
    · rename_i q; subst q; cases e; exact ho
    · exact k _ _ (r.fx _ _ e)
  · obtain ⟨h1, o', h2, h3⟩ := r.st b ao e
    refine ⟨?_, o', k _ _ h2, h3.mono ks⟩
    rw [G, if_neg (fun q => by subst q; rw [hn] at e; cases e)]; exact h1
theorem R.pushF (r : R F σ h) {o : Obj} (x : o.isFreed = false) : ∃ F', F.StaysIn F' ∧ F'.get? h.objs.size = some o ∧ R F' σ (h.push o) :=
  r.freeze (Heap.get?_push_size _ x) (fun _ _ e => Heap.get?_push_of_some _ e) r.fresh
end

noncomputable def un (σ ρ : Store) : Store := fun a => match σ a with | some x => some x | none => ρ a
noncomputable def Disj (σ ρ : Store) : Prop := ∀ a, σ a = none ∨ ρ a = none
theorem un_left {σ ρ : Store} {a : Addr} {o : AO} (e : σ a = some o) : un σ ρ a = some o := by simp [un, e]
theorem un_right {σ ρ : Store} {a : Addr} {o : AO} (D : Disj σ ρ) (e : ρ a = some o) : un σ ρ a = some o := by
  rcases D a with q | q
  · simp [un, q, e]
  · rw [q] at e; cases e
theorem un_none {σ ρ : Store} {a : Addr} (e : un σ ρ a = none) : σ a = none ∧ ρ a = none := by
  unfold un at e; cases q : σ a <;> simp_all
theorem un_setL (σ ρ : Store) (a : Addr) (o : AO) : un (σ.set a o) ρ = (un σ ρ).set a o := by
  funext b
  by_cases e : b = a
  · subst e; simp [un, Store.set]
  · simp [un, Store.set, e]
theorem un_setR {σ ρ : Store} {a : Addr} (o : AO) (h : σ a = none) : un σ (ρ.set a o) = (un σ ρ).set a o := by
  funext b
  by_cases e : b = a
  · subst e; simp [un, Store.set, h]
  · simp [un, Store.set, e]
theorem Disj.setL {σ ρ : Store} {a : Addr} {o : AO} (D : Disj σ ρ) (h : ρ a = none) : Disj (σ.set a o) ρ := fun b => by
  by_cases e : b = a
  · subst e; exact .inr h
  · rw [Store.set_ne _ _ e]; exact D b
theorem Disj.setL' {σ ρ : Store} {a : Addr} {o o' : AO} (D : Disj σ ρ) (h : σ a = some o') : Disj (σ.set a o) ρ := fun b => by
  by_cases e : b = a
  · subst e
    rcases D b with q | q
    · rw [h] at q; cases q
    · exact .inr q
  · rw [Store.set_ne _ _ e]; exact D b
theorem Disj.setR {σ ρ : Store} {a : Addr} {o : AO} (D : Disj σ ρ) (h : σ a = none) : Disj σ (ρ.set a o) := fun b => by
  by_cases e : b = a
  · subst e; exact .inl h
  · rw [Store.set_ne _ _ e]; exact D b
theorem Disj.setR' {σ ρ : Store} {a : Addr} {o o' : AO} (D : Disj σ ρ) (h : ρ a = some o') : Disj σ (ρ.set a o) := D.setR (by
  rcases D a with q | q
  · exact q
  · rw [h] at q; cases q)

structure St (F : Heap) (σ ρ : Store) (h : Heap) : Prop where
  dj : Disj σ ρ
  r : R F (un σ ρ) h
section
variable {F : Heap} {σ ρ : Store} {h : Heap}
theorem St.left (x : St F σ ρ h) {a : Addr} {ao : AO} (e : σ a = some ao) : F.get? a = none ∧ ∃ o, h.get? a = some o ∧ OR F ao o := x.r.st a ao (un_left e)
theorem St.right (x : St F σ ρ h) {a : Addr} {ao : AO} (e : ρ a = some ao) : F.get? a = none ∧ ∃ o, h.get? a = some o ∧ OR F ao o := x.r.st a ao (un_right x.dj e)
theorem St.keeps (x : St F σ ρ h) {h' : Heap} (k : ∀ b o, h.get? b = some o → h'.get? b = some o) : St F σ ρ h' := ⟨x.dj, x.r.keeps k⟩
theorem St.push (x : St F σ ρ h) (o : Obj) : St F σ ρ (h.push o) := ⟨x.dj, x.r.push o⟩
theorem St.fresh (x : St F σ ρ h) : σ h.objs.size = none ∧ ρ h.objs.size = none := un_none x.r.fresh
theorem St.pushM (x : St F σ ρ h) {o : Obj} {ao : AO} (y : OR F ao o) : St F (σ.set h.objs.size ao) ρ (h.push o) :=
  ⟨x.dj.setL x.fresh.2, by rw [un_setL]; exact x.r.pushM y⟩
theorem St.pushR (x : St F σ ρ h) {o : Obj} {ao : AO} (y : OR F ao o) : St F σ (ρ.set h.objs.size ao) (h.push o) :=
  ⟨x.dj.setR x.fresh.1, by rw [un_setR _ x.fresh.1]; exact x.r.pushM y⟩
theorem St.pushF (x : St F σ ρ h) {o : Obj} (y : o.isFreed = false) : ∃ F', F.StaysIn F' ∧ F'.get? h.objs.size = some o ∧ St F' σ ρ (h.push o) :=
  let ⟨F', a, b, c⟩ := x.r.pushF y; ⟨F', a, b, x.dj, c⟩
theorem St.sameL (x : St F σ ρ h) {a : Addr} {ao ao' : AO} {h' : Heap} {o' : Obj} (e : σ a = some ao) (hs : Heap.SameBut a h h') (ho : h'.get? a = some o') (y : OR F ao' o') : St F (σ.set a ao') ρ h' :=
  ⟨x.dj.setL' e, by rw [un_setL]; exact x.r.same (un_left e) hs ho y⟩
theorem St.sameR (x : St F σ ρ h) {a : Addr} {ao ao' : AO} {h' : Heap} {o' : Obj} (e : ρ a = some ao) (hs : Heap.SameBut a h h') (ho : h'.get? a = some o') (y : OR F ao' o') : St F σ (ρ.set a ao') h' := by
  have hn : σ a = none := by
    rcases x.dj a with q | q
    · exact q
    · rw [e] at q; cases q
  exact ⟨x.dj.setR' e, by rw [un_setR _ hn]; exact x.r.same (un_right x.dj e) hs ho y⟩
theorem St.updL (x : St F σ ρ h) {a : Addr} {ao ao' : AO} {o : Obj} {f : Obj → Obj} (e : σ a = some ao) (ho : h.get? a = some o) (y : OR F ao' (f o)) : St F (σ.set a ao') ρ (h.update a f) :=
  x.sameL e (Heap.SameBut.update ..) (Heap.get?_update_self _ ho y.alive) y
theorem St.monoL (x : St F σ ρ h) {σ' : Store} (k : ∀ a ao, σ' a = some ao → σ a = some ao) : St F σ' ρ h := by
  have D : Disj σ' ρ := fun a => by
    rcases x.dj a with q | q
    · left; cases z : σ' a with
      | none => rfl
      | some ao => rw [k a ao z] at q; cases q
    · exact .inr q
  refine ⟨D, x.r.mono fun a ao e => ?_⟩
  cases q : σ' a with
  | some y => rw [un_left q] at e; cases e; exact un_left (k a _ q)
  | none => simp only [un, q] at e; exact un_right x.dj e
end
end Mine
end

section
set_option maxRecDepth 100000
namespace Mine

structure Cfg where
  prog : Program
  w : World
  K : Frag
  p : Program
  loose : List Str
  mg : Str → Option Value
  mb : Str → Option Value

noncomputable def Gd (C : Cfg) (F : Heap) : Prop := C.K.In F ∧ TopRead C.p C.loose C.mg C.mb F
theorem Gd.keeps {C : Cfg} {F F' : Heap} (g : Gd C F) (k : F.StaysIn F') : Gd C F' := ⟨g.1.keeps k, g.2.keeps k⟩

structure OkA (A : Around) (n : Nat) : Prop where
  handled : A.handled = none
  depth : A.depth + n < recursionLimit
  units : A.units + 70 + 8 * n < cLine
theorem OkA.room {A : Around} {n : Nat} (o : OkA A n) : A.units < cLine := by have := o.units; omega
theorem OkA.room64 {A : Around} {n : Nat} (o : OkA A n) : A.units + 64 < cLine := by have := o.units; omega
theorem OkA.le {A : Around} {n m : Nat} (o : OkA A n) (h : m ≤ n) : OkA A m := ⟨o.handled, by have := o.depth; omega, by have := o.units; omega⟩
theorem OkA.deeper {A : Around} {n : Nat} (o : OkA A (n + 1)) (env : Env) : OkA (A.deeper env) n :=
  ⟨o.handled, by have := o.depth; show A.depth + 1 + n < _; omega, by have := o.units; show A.units + 3 + 70 + 8 * n < _; omega⟩

inductive Fin (F : Heap) (s : Shared) (ρ : Store) (P : AV → Store → Prop) (v : Value) (s' : Shared) : Prop
  | mk (F' : Heap) (σ' : Store) (a : AV) (h' : Heap) (tk' : Nat) : s' = { s with heap := h', toks := tk' } → F.StaysIn F' → St F' σ' ρ h' → VR F' a v → P a σ' → Fin F s ρ P v s'
inductive FinL (F : Heap) (s : Shared) (ρ : Store) (P : List AV → Store → Prop) (v : List Value) (s' : Shared) : Prop
  | mk (F' : Heap) (σ' : Store) (a : List AV) (h' : Heap) (tk' : Nat) : s' = { s with heap := h', toks := tk' } → F.StaysIn F' → St F' σ' ρ h' → VRs F' a v → P a σ' → FinL F s ρ P v s'
inductive FinB (F : Heap) (s : Shared) (ρ : Store) (P : Bool → Store → Prop) (b : Bool) (s' : Shared) : Prop
  | mk (F' : Heap) (σ' : Store) (h' : Heap) (tk' : Nat) : s' = { s with heap := h', toks := tk' } → F.StaysIn F' → St F' σ' ρ h' → P b σ' → FinB F s ρ P b s'
theorem stays_refl (F : Heap) : F.StaysIn F := fun _ _ e => e
theorem stays_trans {F F' F'' : Heap} (a : F.StaysIn F') (b : F'.StaysIn F'') : F.StaysIn F'' := fun _ _ e => b _ _ (a _ _ e)

theorem Fin.lift {F F1 : Heap} {s : Shared} {h1 : Heap} {tk1 : Nat} {ρ : Store} {P : AV → Store → Prop} {v : Value} {s' : Shared} (k : F.StaysIn F1) (x : Fin F1 { s with heap := h1, toks := tk1 } ρ P v s') : Fin F s ρ P v s' :=
  let ⟨F', σ', a, h', tk', e, k', r, y, q⟩ := x; ⟨F', σ', a, h', tk', e, stays_trans k k', r, y, q⟩
theorem FinL.lift {F F1 : Heap} {s : Shared} {h1 : Heap} {tk1 : Nat} {ρ : Store} {P : List AV → Store → Prop} {v : List Value} {s' : Shared} (k : F.StaysIn F1) (x : FinL F1 { s with heap := h1, toks := tk1 } ρ P v s') : FinL F s ρ P v s' :=
  let ⟨F', σ', a, h', tk', e, k', r, y, q⟩ := x; ⟨F', σ', a, h', tk', e, stays_trans k k', r, y, q⟩
theorem FinB.lift {F F1 : Heap} {s : Shared} {h1 : Heap} {tk1 : Nat} {ρ : Store} {P : Bool → Store → Prop} {v : Bool} {s' : Shared} (k : F.StaysIn F1) (x : FinB F1 { s with heap := h1, toks := tk1 } ρ P v s') : FinB F s ρ P v s' :=
  let ⟨F', σ', h', tk', e, k', r, q⟩ := x; ⟨F', σ', h', tk', e, stays_trans k k', r, q⟩

noncomputable abbrev Bot : Value → Shared → Prop := fun _ _ => False
noncomputable abbrev Wp (C : Cfg) (A : Around) (t : Sem Value) (F : Heap) (ρ : Store) (P : AV → Store → Prop) (s : Shared) : Prop := wpAny (model C.prog C.w) A t (Fin F s ρ P) Bot s
noncomputable abbrev WpL (C : Cfg) (A : Around) (t : Sem (List Value)) (F : Heap) (ρ : Store) (P : List AV → Store → Prop) (s : Shared) : Prop := wpAny (model C.prog C.w) A t (FinL F s ρ P) Bot s
noncomputable abbrev WpB (C : Cfg) (A : Around) (t : Sem Bool) (F : Heap) (ρ : Store) (P : Bool → Store → Prop) (s : Shared) : Prop := wpAny (model C.prog C.w) A t (FinB F s ρ P) Bot s

section
variable {C : Cfg} {A : Around} {F : Heap} {ρ σ : Store} {s : Shared}

theorem Wp.then {t : Sem Value} {P : AV → Store → Prop} {Q : Value → Shared → Prop} (h : Wp C A t F ρ P s)
    (n : ∀ F' σ' a v h' tk', F.StaysIn F' → St F' σ' ρ h' → VR F' a v → P a σ' → Q v { s with heap := h', toks := tk' }) :
    wpAny (model C.prog C.w) A t Q Bot s :=
  wpAny_mono h (fun v s' ⟨F', σ', a, h', tk', e, k', r, x, p⟩ => by subst e; exact n F' σ' a v h' tk' k' r x p) fun _ _ e => e
theorem WpL.then {t : Sem (List Value)} {P : List AV → Store → Prop} {Q : List Value → Shared → Prop} (h : WpL C A t F ρ P s)
    (n : ∀ F' σ' a v h' tk', F.StaysIn F' → St F' σ' ρ h' → VRs F' a v → P a σ' → Q v { s with heap := h', toks := tk' }) :
    wpAny (model C.prog C.w) A t Q Bot s :=
  wpAny_mono h (fun v s' ⟨F', σ', a, h', tk', e, k', r, x, p⟩ => by subst e; exact n F' σ' a v h' tk' k' r x p) fun _ _ e => e
theorem Fin.now {a : AV} {v : Value} {P : AV → Store → Prop} {tk : Nat} (r : St F σ ρ s.heap) (x : VR F a v) (p : P a σ) : Fin F s ρ P v { s with toks := tk } := ⟨F, σ, a, s.heap, tk, rfl, stays_refl F, r, x, p⟩
theorem Fin.here {a : AV} {v : Value} {P : AV → Store → Prop} (r : St F σ ρ s.heap) (x : VR F a v) (p : P a σ) : Fin F s ρ P v s := ⟨F, σ, a, s.heap, s.toks, rfl, stays_refl F, r, x, p⟩
theorem FinB.here {b : Bool} {P : Bool → Store → Prop} (r : St F σ ρ s.heap) (p : P b σ) : FinB F s ρ P b s := ⟨F, σ, s.heap, s.toks, rfl, stays_refl F, r, p⟩
theorem FinL.here {a : List AV} {v : List Value} {P : List AV → Store → Prop} (r : St F σ ρ s.heap) (x : VRs F a v) (p : P a σ) : FinL F s ρ P v s := ⟨F, σ, a, s.heap, s.toks, rfl, stays_refl F, r, x, p⟩
theorem Fin.lifts {F1 : Heap} {h1 : Heap} {tk1 : Nat} {P : AV → Store → Prop} {t : Sem Value} (k : F.StaysIn F1) (x : Wp C A t F1 ρ P { s with heap := h1, toks := tk1 }) : wpAny (model C.prog C.w) A t (Fin F s ρ P) Bot { s with heap := h1, toks := tk1 } :=
  wpAny_mono x (fun _ _ y => y.lift k) fun _ _ e => e
end

structure Cx where
  kinds : List (Str × NameKind)
  names : List Str
  cells : List Str
inductive GV where
  | ref (a : Addr)
  | v (x : Value)
noncomputable def GV.av : GV → AV
  | .ref a => .ref a
  | .v x => .v x
noncomputable def GV.val : GV → Value
  | .ref a => .ref a
  | .v x => x
structure EnvOk (cx : Cx) (env : Env) (cs : List Addr) : Prop where
  fn : env.scope.kind = .function
  names : env.scope.names = cx.kinds
  glob : env.globals = mainGlobals
  blt : env.builtins = builtinsNs
  cells : ∀ (i : Nat) x c, cx.cells[i]? = some x → cs[i]? = some c → env.cells.lookup x = some c
  nodup : cx.names.Nodup
  len : cs.length = cx.cells.length
theorem EnvOk.kindOf {cx : Cx} {env : Env} {cs : List Addr} (e : EnvOk cx env cs) (x : Str) : env.kindOf x = cx.kinds.lookup x := by
  show env.scope.names.lookup x = _; rw [e.names]

noncomputable def GlobOk (C : Cfg) (x : Str) : GV → Prop
  | .ref a => nsIn C.K mainGlobals x = some (some (.ref a))
  | .v y => (nsIn C.K mainGlobals x = some (some y) ) ∨ (nsIn C.K mainGlobals x = some none ∧ bootBuiltins x = some y ∧ x ≠ "__name__")

section
variable {C : Cfg} {A : Around} {F : Heap} {ρ σ : Store} {s : Shared} {cx : Cx} {env : Env} {cs : List Addr} {l : List (Option AV)} {P : AV → Store → Prop}

theorem fr_ns {names : List Str} {h : Heap} {L : Addr} (r : St F σ ρ h) (hl : ρ L = some (.fr names l)) :
    ∃ m, h.Ns L m ∧ ∀ (i : Nat) x a, names[i]? = some x → l[i]? = some (some a) → ∃ v, m x = some v ∧ VR F a v := by
  obtain ⟨_, o, ho, es, ep, hd, hk, hv⟩ := r.right hl
  exact ⟨_, ⟨o, es, ep, ho, hd, hk, fun _ => rfl⟩, hv⟩
theorem fr_of {names : List Str} {h : Heap} {L : Addr} {m : Str → Option Value} (hn : h.Ns L m) (hv : ∀ (i : Nat) x a, names[i]? = some x → l[i]? = some (some a) → ∃ v, m x = some v ∧ VR F a v) :
    ∃ o, h.get? L = some o ∧ OR F (.fr names l) o := by
  obtain ⟨o, es, ep, ho, hd, hk, hf⟩ := hn
  exact ⟨o, ho, es, ep, hd, hk, fun i x a h1 h2 => by obtain ⟨v, h3, h4⟩ := hv i x a h1 h2; exact ⟨v, (hf x).trans h3, h4⟩⟩

theorem TE_var {x : Str} {pos : Pos} {i : Nat} {a : AV} (E : EnvOk cx env cs) (hx : cx.kinds.lookup x = some .local) (hi : cx.names[i]? = some x) (hd : (x == ("__debug__" : Str)) = false)
    (hl : ρ env.locals = some (.fr cx.names l)) (r : St F σ ρ s.heap) (ha : l[i]? = some (some a)) (p : P a σ) : Wp C A (eval (.Name x pos) env) F ρ P s := by
  obtain ⟨m, hn, hv⟩ := fr_ns r hl
  obtain ⟨v, h1, h2⟩ := hv i x a hi ha
  exact wpAny_Name (wpAny_loadName_local E.fn ((E.kindOf x).trans hx) hn h1 (Fin.here r h2 p)) hd
theorem cell_at {h : Heap} {c : Addr} {a : AV} (r : St F σ ρ h) (hc : σ c = some (.cell (some a))) : ∃ v, h.IsCell c (some v) ∧ VR F a v := by
  obtain ⟨_, o, ho, v, hd, hv⟩ := r.left hc
  exact ⟨v, ⟨o, ho, hd⟩, hv⟩
theorem TE_cel {x : Str} {pos : Pos} {i : Nat} {c : Addr} {a : AV} (E : EnvOk cx env cs) (hx : cx.kinds.lookup x = some .cell ∨ cx.kinds.lookup x = some .free) (hi : cx.cells[i]? = some x) (hd : (x == ("__debug__" : Str)) = false) (hd2 : (x == ("__classdict__" : Str)) = false)
    (r : St F σ ρ s.heap) (hc : cs[i]? = some c) (hs : σ c = some (.cell (some a))) (p : P a σ) : Wp C A (eval (.Name x pos) env) F ρ P s := by
  obtain ⟨v, h1, h2⟩ := cell_at r hs
  rcases hx with hx | hx
  · exact wpAny_Name (wpAny_loadName_cell E.fn ((E.kindOf x).trans hx) (E.cells i x c hi hc) h1 (Fin.here r h2 p)) hd
  · exact wpAny_Name (wpAny_loadName_free E.fn ((E.kindOf x).trans hx) (E.cells i x c hi hc) h1 (Fin.here r h2 p) hd2) hd
theorem TE_glob {x : Str} {pos : Pos} {g : GV} (E : EnvOk cx env cs) (hx : cx.kinds.lookup x = some .globalImplicit) (hg : GlobOk C x g) (hd : (x == ("__debug__" : Str)) = false)
    (G : Gd C F) (r : St F σ ρ s.heap) (p : P g.av σ) : Wp C A (eval (.Name x pos) env) F ρ P s := by
  obtain ⟨X, T⟩ := G
  have k := r.r.fx
  have hgl : s.heap.Ns env.globals C.mg := by rw [E.glob]; exact T.g.keeps k
  have hbl : s.heap.Ns env.builtins C.mb := by rw [E.blt]; exact T.b.keeps k
  refine Calls.Name_function_global E.fn ((E.kindOf x).trans hx) ?_ hd
  cases g with
  | ref a => exact Calls.loadGlobal_global hgl (mg_of X T.g hg) (Fin.here r (.ref a) p)
  | v y =>
    rcases hg with hg | ⟨h1, h2, h3⟩
    · exact Calls.loadGlobal_global hgl (mg_of X T.g hg) (Fin.here r (.v y) p)
    · exact Calls.loadGlobal_builtin hgl (mg_none_of X T.g h1) hbl ((T.builtins x h3).trans h2) (Fin.here r (.v y) p)

noncomputable def constD : Const → Option PyData
  | .none => some .none
  | .bool b => some (.bool b)
  | .int i => some (.int i)
  | .str x => some (.str x)
  | _ => none
theorem TE_const {c : Const} {k : Nat} {pos : Pos} {x : PyData} (hc : constD c = some x) (r : St F σ ρ s.heap) (p : P (.d x) σ) : Wp C A (eval (.Constant c k pos) env) F ρ P s := by
  cases c <;> cases hc
  · exact wpAny_pure (Fin.here r (.d .none) p)
  · exact wpAny_pure (Fin.here r (.d (.bool _)) p)
  · exact wpAny_Constant_int (Fin.now r (.d (.int _ _)) p)
  · exact Calls.Constant_str (Fin.now r (.d (.str _ _)) p)
end
end Mine
end

section
set_option maxRecDepth 100000
namespace Mine

theorem R.freeze' {F : Heap} {σ : Store} {h : Heap} (r : R F σ h) {a : Addr} {o : Obj} (ho : h.get? a = some o) (hn : σ a = none) : ∃ F', F.StaysIn F' ∧ F'.get? a = some o ∧ R F' σ h :=
  r.freeze ho (fun _ _ e => e) hn
theorem R.add {F : Heap} {σ : Store} {h : Heap} (r : R F σ h) {a : Addr} {o : Obj} {ao : AO} (ho : h.get? a = some o) (hF : F.get? a = none) (x : OR F ao o) : R F (σ.set a ao) h := by
  refine ⟨r.fx, fun b ao' e => ?_⟩
  by_cases q : b = a
  · subst q; rw [Store.set_self] at e; cases e; exact ⟨hF, o, ho, x⟩
  · rw [Store.set_ne _ _ q] at e; exact r.st b ao' e
section
variable {F : Heap} {σ ρ : Store} {h h' : Heap} {a : Addr} {o : Obj} {ao : AO}
theorem St.freeze (x : St F σ ρ h) (ho : h.get? a = some o) (h1 : σ a = none) (h2 : ρ a = none) : ∃ F', F.StaysIn F' ∧ F'.get? a = some o ∧ St F' σ ρ h :=
  let ⟨F', a, b, c⟩ := x.r.freeze' ho (by simp [un, h1, h2]); ⟨F', a, b, x.dj, c⟩
theorem St.addL (x : St F σ ρ h) (ho : h.get? a = some o) (hF : F.get? a = none) (h2 : ρ a = none) (y : OR F ao o) : St F (σ.set a ao) ρ h :=
  ⟨x.dj.setL h2, by rw [un_setL]; exact x.r.add ho hF y⟩
theorem St.addR (x : St F σ ρ h) (ho : h.get? a = some o) (hF : F.get? a = none) (h1 : σ a = none) (y : OR F ao o) : St F σ (ρ.set a ao) h :=
  ⟨x.dj.setR h1, by rw [un_setR _ h1]; exact x.r.add ho hF y⟩
end

noncomputable def allNews (h : Heap) (L : Addr) : List (Addr × Obj) := (List.range h.objs.size).filterMap fun a => if a = L then none else (h.get? a).map fun o => (a, o)
theorem mem_allNews {h : Heap} {L a : Addr} {o : Obj} : (a, o) ∈ allNews h L ↔ a ≠ L ∧ h.get? a = some o := by
  unfold allNews
  rw [List.mem_filterMap]
  constructor
  · rintro ⟨b, hb, e⟩
    split at e
    · cases e
    · rename_i hn
      cases q : h.get? b with
      | none => rw [q] at e; cases e
      | some o' => rw [q] at e; cases e; exact ⟨hn, q⟩
  · rintro ⟨hn, e⟩
    exact ⟨a, List.mem_range.mpr (Heap.lt_size e), by rw [if_neg hn, e]; rfl⟩
theorem allNews_news (h : Heap) (L : Addr) : News {} L h (allNews h L) := fun p hp => by
  obtain ⟨a, o⟩ := p
  obtain ⟨h1, h2⟩ := mem_allNews.mp hp
  exact ⟨h2, h1, rfl⟩

structure Lent (F : Heap) (σ ρ : Store) (h : Heap) (L : Addr) (m : Str → Option Value) : Prop where
  fr : Fr {} L h m
  back : ∀ h', Fr {} L h' m → News {} L h' (allNews h L) → St F σ ρ h'
  own : ∀ {h' names l}, ρ L = some (.fr names l) → Fr {} L h' m → ∃ o, h'.get? L = some o ∧ OR F (.fr names l) o

section
variable {F : Heap} {σ ρ : Store} {h : Heap} {L : Addr}
theorem St.lend {names : List Str} {l : List (Option AV)} (x : St F σ ρ h) (hl : ρ L = some (.fr names l)) : ∃ m, Lent F σ ρ h L m := by
  obtain ⟨m, hn, hv⟩ := fr_ns x hl
  have hFL := (x.right hl).1
  refine ⟨m, ⟨hn, fun b o e => (by have : ({} : Heap).get? b = none := rfl; rw [this] at e; cases e), Nat.zero_le _⟩, fun h' Fr' N' => ⟨x.dj, fun b o e => ?_, fun b ao e => ?_⟩, fun e Fr' => by rw [hl] at e; cases e; exact fr_of Fr'.ns hv⟩
  · have : b ≠ L := fun q => by rw [q, hFL] at e; cases e
    exact (N' _ (mem_allNews.mpr ⟨this, x.r.fx b o e⟩)).1
  · by_cases q : b = L
    · subst q
      rw [un_right x.dj hl] at e; cases e
      obtain ⟨o, ho, y⟩ := fr_of Fr'.ns hv
      exact ⟨hFL, o, ho, y⟩
    · obtain ⟨h1, o, h2, h3⟩ := x.r.st b ao e
      exact ⟨h1, o, (N' _ (mem_allNews.mpr ⟨q, h2⟩)).1, h3⟩
theorem News.tail {h₀ h : Heap} {p : Addr × Obj} {news : List (Addr × Obj)} (N : News h₀ L h (p :: news)) : News h₀ L h news := fun q hq => N q (.tail _ hq)
theorem Lent.news {m : Str → Option Value} (_ : Lent F σ ρ h L m) : News {} L h (allNews h L) := allNews_news h L
end

noncomputable def allD : List AV → Option (List PyData)
  | [] => some []
  | .d x :: r => (allD r).map (x :: ·)
  | _ :: _ => none
theorem reads_of {F : Heap} : ∀ {as : List AV} {vs : List Value} {ds : List PyData}, VRs F as vs → allD as = some ds → ∃ bs, ReadsAll F vs ds bs
  | _, _, _, .nil, e => by cases e; exact ⟨_, .nil⟩
  | .d x :: as, _, ds, .cons h r, e => by
    cases q : allD as with
    | none => simp [allD, q] at e
    | some ds' =>
      simp only [allD, q, Option.map_some, Option.some.injEq] at e
      subst e
      cases h with | d h =>
      obtain ⟨bs, y⟩ := reads_of r q
      exact ⟨_, .cons h y⟩
  | .ref _ :: _, _, _, .cons _ _, e => by simp [allD] at e
  | .v _ :: _, _, _, .cons _ _, e => by simp [allD] at e
  | .rng _ _ _ :: _, _, _, .cons _ _, e => by simp [allD] at e
theorem VRs.length {F : Heap} : ∀ {as : List AV} {vs : List Value}, VRs F as vs → as.length = vs.length
  | _, _, .nil => rfl
  | _, _, .cons _ r => by simp [r.length]
theorem allD_length : ∀ {as : List AV} {ds : List PyData}, allD as = some ds → as.length = ds.length
  | [], _, e => by cases e; rfl
  | .d _ :: as, ds, e => by
    cases q : allD as with
    | none => simp [allD, q] at e
    | some ds' => simp only [allD, q, Option.map_some, Option.some.injEq] at e; subst e; simp [allD_length q]
  | .ref _ :: _, _, e => by simp [allD] at e
  | .v _ :: _, _, e => by simp [allD] at e
  | .rng _ _ _ :: _, _, e => by simp [allD] at e

noncomputable def notStar : Expr → Bool
  | .Starred _ _ => false
  | _ => true
theorem starEach_cons {e : Expr} {rest : List Expr} {env : Env} (h : notStar e = true) : starEach (e :: rest) env = (false, eval e env) :: starEach rest env := by
  cases e <;> first | rfl | cases h
noncomputable abbrev spl (pos : Pos) (es : List Expr) (env : Env) : Sem (List Value) := spliced (backTo pos (starEach es env))
section
variable {C : Cfg} {A : Around} {F : Heap} {ρ σ : Store} {s : Shared} {env : Env} {pos : Pos}
theorem WpL_nil {P : List AV → Store → Prop} (r : St F σ ρ s.heap) (p : P [] σ) : WpL C A (spl pos [] env) F ρ P s := Calls.spliced_nil (FinL.here r .nil p)
theorem WpL_cons {e : Expr} {rest : List Expr} {P1 : AV → Store → Prop} {P : List AV → Store → Prop} (hn : notStar e = true) (h : Wp C A (eval e env) F ρ P1 s)
    (n : ∀ F' σ' a h' tk', F.StaysIn F' → St F' σ' ρ h' → P1 a σ' → WpL C A (spl pos rest env) F' ρ (fun as τ => P (a :: as) τ) { s with heap := h', toks := tk' }) : WpL C A (spl pos (e :: rest) env) F ρ P s := by
  show wpAny _ _ (spliced (backTo pos (starEach (e :: rest) env))) _ _ _
  rw [starEach_cons hn]
  refine Calls.spliced_cons (h.then fun F' σ' a v h' tk' k x y p => ?_)
  refine wpAny_mono (n F' σ' a h' tk' k x p) (fun vs s₂ z => ?_) fun _ _ z => z
  obtain ⟨F2, σ2, as, h2, tk2, rfl, k2, r2, y2, p2⟩ := z
  exact ⟨F2, σ2, a :: as, h2, tk2, rfl, stays_trans k k2, r2, .cons (y.mono k2) y2, p2⟩

theorem Fin.new {L : Addr} {o : Obj} {x : PyData} {P : AV → Store → Prop} (r : St F σ ρ s.heap) {m : Str → Option Value} (T : Lent F σ ρ s.heap L m) {h' : Heap} (Fr' : Fr {} L h' m) (N' : News {} L h' ((s.heap.objs.size, o) :: allNews s.heap L))
    (y : ∀ F', F.StaysIn F' → F'.get? s.heap.objs.size = some o → VR F' (.d x) (.ref s.heap.objs.size)) (p : P (.d x) σ) {tk : Nat} : Fin F s ρ P (.ref s.heap.objs.size) { s with heap := h', toks := tk } := by
  have r' := T.back h' Fr' (News.tail N')
  obtain ⟨F', k, g, r''⟩ := r'.freeze (N' _ (.head _)).1 r.fresh.1 r.fresh.2
  exact ⟨F', σ, _, h', tk, rfl, k, r'', y F' k g, p⟩
theorem newTuple_W {L : Addr} {names : List Str} {l : List (Option AV)} {as : List AV} {vs : List Value} {ds : List PyData} {P : AV → Store → Prop} (hl : ρ L = some (.fr names l)) (r : St F σ ρ s.heap) (y : VRs F as vs) (e : allD as = some ds) (hz : ds.length ≤ sizeLine) (p : P (.d (.tuple ds)) σ) :
    Wp C A (newTuple vs) F ρ P s := by
  obtain ⟨m, T⟩ := r.lend hl
  have hlen : vs.length ≤ sizeLine := by rw [← y.length, allD_length e]; exact hz
  obtain ⟨bs, q⟩ := reads_of y e
  exact newTuple_N T.fr T.news (fun h' Fr' N' => Fin.new r T Fr' N' (fun F' k g => .d (reads_tuple_at g rfl rfl (by simpa using ReadsAll.keeps k q))) p) hlen
theorem newList_W {L : Addr} {names : List Str} {l : List (Option AV)} {as : List AV} {vs : List Value} {ds : List PyData} {P : AV → Store → Prop} (hl : ρ L = some (.fr names l)) (r : St F σ ρ s.heap) (y : VRs F as vs) (e : allD as = some ds) (hz : ds.length ≤ sizeLine) (p : P (.d (.list ds)) σ) :
    Wp C A (newList vs) F ρ P s := by
  obtain ⟨m, T⟩ := r.lend hl
  have hlen : vs.length ≤ sizeLine := by rw [← y.length, allD_length e]; exact hz
  obtain ⟨bs, q⟩ := reads_of y e
  exact newList_N T.fr T.news (fun h' Fr' N' => Fin.new r T Fr' N' (fun F' k g => .d (reads_list_at g rfl rfl (by simpa using ReadsAll.keeps k q))) p) hlen
theorem newList_M {L : Addr} {names : List Str} {l : List (Option AV)} {as : List AV} {vs : List Value} {P : AV → Store → Prop} (hl : ρ L = some (.fr names l)) (r : St F σ ρ s.heap) (y : VRs F as vs) (hz : as.length ≤ sizeLine) (p : ∀ a, σ a = none → P (.ref a) (σ.set a (.list as))) :
    Wp C A (newList vs) F ρ P s := by
  obtain ⟨m, T⟩ := r.lend hl
  have hlen : vs.length ≤ sizeLine := by rw [← y.length]; exact hz
  refine newList_N T.fr T.news (fun h' Fr' N' => ?_) hlen
  have r' := T.back h' Fr' (News.tail N')
  refine ⟨F, σ.set s.heap.objs.size (.list as), .ref _, h', s.toks, rfl, stays_refl F, r'.addL (N' _ (.head _)).1 r.r.freshF r.fresh.2 ⟨vs.toArray, 0, rfl, by simpa using y⟩, .ref _, p _ r.fresh.1⟩

theorem TE_tuple {L : Addr} {names : List Str} {l : List (Option AV)} {es : List Expr} {k : Nat} {P1 : List AV → Store → Prop} {P : AV → Store → Prop} (hl : ρ L = some (.fr names l)) (h : WpL C A (spl pos es env) F ρ P1 s)
    (p : ∀ as τ, P1 as τ → ∃ ds, allD as = some ds ∧ ds.length ≤ sizeLine ∧ P (.d (.tuple ds)) τ) : Wp C A (eval (.Tuple es k pos) env) F ρ P s := by
  refine Tuple_ (h.then fun F' σ' as vs h' tk' k x y q => ?_)
  obtain ⟨ds, e, hz, z⟩ := p as σ' q
  exact Fin.lifts k (newTuple_W (s := { s with heap := h', toks := tk' }) hl x y e hz z)
theorem TE_list {L : Addr} {names : List Str} {l : List (Option AV)} {es : List Expr} {P1 : List AV → Store → Prop} {P : AV → Store → Prop} (hl : ρ L = some (.fr names l)) (h : WpL C A (spl pos es env) F ρ P1 s)
    (p : ∀ as τ, P1 as τ → ∃ ds, allD as = some ds ∧ ds.length ≤ sizeLine ∧ P (.d (.list ds)) τ) : Wp C A (eval (.List es pos) env) F ρ P s := by
  refine List_ (h.then fun F' σ' as vs h' tk' k x y q => ?_)
  obtain ⟨ds, e, hz, z⟩ := p as σ' q
  exact Fin.lifts k (newList_W (s := { s with heap := h', toks := tk' }) hl x y e hz z)
theorem TE_listM {L : Addr} {names : List Str} {l : List (Option AV)} {es : List Expr} {P1 : List AV → Store → Prop} {P : AV → Store → Prop} (hl : ρ L = some (.fr names l)) (h : WpL C A (spl pos es env) F ρ P1 s)
    (p : ∀ as τ, P1 as τ → as.length ≤ sizeLine ∧ ∀ a, τ a = none → P (.ref a) (τ.set a (.list as))) : Wp C A (eval (.List es pos) env) F ρ P s := by
  refine List_ (h.then fun F' σ' as vs h' tk' k x y q => ?_)
  obtain ⟨hz, z⟩ := p as σ' q
  exact Fin.lifts k (newList_M (s := { s with heap := h', toks := tk' }) hl x y hz z)
end
end Mine
end

section
set_option maxRecDepth 100000
namespace Mine

section
variable {F h : Heap} {σ ρ : Store} {v : Value} {xs : List PyData}
theorem VR.int {i : Int} (x : VR F (.d (.int i)) v) : ∃ t, v = .int i t := by cases x with | d x => cases x; exact ⟨_, rfl⟩
theorem VR.str {i : Str} (x : VR F (.d (.str i)) v) : ∃ t, v = .str i t := by cases x with | d x => cases x; exact ⟨_, rfl⟩
theorem VR.bool {i : Bool} (x : VR F (.d (.bool i)) v) : v = .bool i := by cases x with | d x => cases x; rfl
theorem VR.none (x : VR F (.d .none) v) : v = .none := by cases x with | d x => cases x; rfl
theorem VR.toRef {a : Addr} (x : VR F (.ref a) v) : v = .ref a := by cases x; rfl
theorem VRs.of_reads : ∀ {vs : List Value} {xs : List PyData} {as : List Addr}, ReadsAll F vs xs as → VRs F (xs.map .d) vs
  | _, _, _, .nil => .nil
  | _, _, _, .cons h r => .cons (.d h) (VRs.of_reads r)
theorem VRs.to_reads : ∀ {vs : List Value} {xs : List PyData}, VRs F (xs.map .d) vs → ∃ as, ReadsAll F vs xs as
  | _, [], .nil => ⟨_, .nil⟩
  | _, _ :: _, .cons (.d h) r => let ⟨_, q⟩ := VRs.to_reads r; ⟨_, .cons h q⟩
theorem VR.list (x : VR F (.d (.list xs)) v) : ∃ a vs, v = .ref a ∧ F.IsList a vs ∧ VRs F (xs.map .d) vs.toList := by
  cases x with | d x => cases x with | list h1 h2 h3 h4 => exact ⟨_, _, rfl, ⟨_, h1, h2, _, h3⟩, VRs.of_reads h4⟩
theorem VR.tuple (x : VR F (.d (.tuple xs)) v) : ∃ a vs, v = .ref a ∧ IsTup F a vs ∧ VRs F (xs.map .d) vs.toList := by
  cases x with | d x => cases x with | tuple h1 h2 h3 h4 => exact ⟨_, _, rfl, ⟨_, h1, h2, _, h3⟩, VRs.of_reads h4⟩
theorem isList_keeps {h' : Heap} {a : Addr} {vs : Array Value} (k : F.StaysIn h') (x : F.IsList a vs) : h'.IsList a vs := let ⟨o, ho, r⟩ := x; ⟨o, k _ _ ho, r⟩
theorem isTup_keeps {h' : Heap} {a : Addr} {vs : Array Value} (k : F.StaysIn h') (x : IsTup F a vs) : IsTup h' a vs := let ⟨o, ho, r⟩ := x; ⟨o, k _ _ ho, r⟩
theorem VRs.append {as bs : List AV} {vs ws : List Value} (x : VRs F as vs) (y : VRs F bs ws) : VRs F (as ++ bs) (vs ++ ws) := by
  induction x with
  | nil => exact y
  | cons h _ ih => exact .cons h ih
theorem VRs.get : ∀ {as : List AV} {vs : List Value} (_ : VRs F as vs) (i : Nat), (as[i]? = none ∧ vs[i]? = none) ∨ ∃ a v, as[i]? = some a ∧ vs[i]? = some v ∧ VR F a v
  | _, _, .nil, i => .inl (by simp)
  | _, _, .cons h r, 0 => .inr ⟨_, _, rfl, rfl, h⟩
  | _, _, .cons h r, i + 1 => by simpa using VRs.get r i
theorem VRs.pick {as : List AV} {vs : List Value} (x : VRs F as vs) (is : List Nat) : VRs F (is.filterMap (as[·]?)) (is.filterMap (vs[·]?)) := by
  induction is with
  | nil => exact .nil
  | cons i is ih =>
    rcases x.get i with ⟨h1, h2⟩ | ⟨a, v, h1, h2, h3⟩
    · rw [List.filterMap_cons_none h1, List.filterMap_cons_none h2]; exact ih
    · rw [List.filterMap_cons_some h1, List.filterMap_cons_some h2]; exact .cons h3 ih
end

noncomputable def seqOf (σ : Store) : AV → Option (List AV)
  | .d (.list xs) => some (xs.map .d)
  | .d (.tuple xs) => some (xs.map .d)
  | .ref a => match σ a with | some (.list xs) => some xs | _ => none
  | _ => none
noncomputable def listOf? (σ : Store) : AV → Option (List AV)
  | .d (.list xs) => some (xs.map .d)
  | .ref a => match σ a with | some (.list xs) => some xs | _ => none
  | _ => none
theorem nosome {α : Type} {a : α} {P : Prop} (q : (none : Option α) = some a) : P := nomatch q
theorem list_at {F h : Heap} {σ ρ : Store} {a : AV} {v : Value} {as : List AV} (r : St F σ ρ h) (x : VR F a v) (e : listOf? σ a = some as) : ∃ b vs, v = .ref b ∧ h.IsList b vs ∧ VRs F as vs.toList := by
  cases a with
  | d d =>
    cases d with
    | list xs =>
      cases e
      obtain ⟨b, vs, rfl, h1, h2⟩ := x.list
      exact ⟨b, vs, rfl, isList_keeps r.r.fx h1, h2⟩
    | _ => exact nosome e
  | ref c =>
    obtain rfl := x.toRef
    simp only [listOf?] at e
    split at e
    · rename_i xs hs
      cases e
      obtain ⟨_, o, ho, vs, n, rfl, hv⟩ := r.left hs
      exact ⟨c, vs, rfl, ⟨_, ho, rfl, _, rfl⟩, hv⟩
    · exact nosome e
  | _ => exact nosome e
noncomputable def snap1 (σ : Store) : AV → Option PyData
  | .d x => some x
  | .ref a => match σ a with | some (.list xs) => (allD xs).map .list | _ => none
  | _ => none
noncomputable def snapAll (σ : Store) : List AV → Option (List PyData)
  | [] => some []
  | a :: r => match snap1 σ a, snapAll σ r with | some x, some xs => some (x :: xs) | _, _ => none
noncomputable def snap (σ : Store) : AV → Option PyData
  | .d x => some x
  | .ref a => match σ a with | some (.list xs) => (snapAll σ xs).map .list | _ => none
  | _ => none
theorem snap1_at {F h : Heap} {σ ρ : Store} {a : AV} {v : Value} {x : PyData} (r : St F σ ρ h) (y : VR F a v) (e : snap1 σ a = some x) : ∃ as, Reads h v x as := by
  cases a with
  | d d => cases e; cases y with | d y => exact ⟨_, Reads.keeps r.r.fx y⟩
  | ref c =>
    obtain rfl := y.toRef
    simp only [snap1] at e
    split at e
    · rename_i xs hs
      obtain ⟨_, o, ho, vs, n, rfl, hv⟩ := r.left hs
      cases q : allD xs with
      | none => rw [q] at e; cases e
      | some ds =>
        rw [q] at e; cases e
        obtain ⟨bs, z⟩ := reads_of hv q
        exact ⟨_, .list ho rfl rfl (ReadsAll.keeps r.r.fx z)⟩
    · cases e
  | _ => exact nosome e
theorem snapAll_at {F h : Heap} {σ ρ : Store} (r : St F σ ρ h) : ∀ {as : List AV} {vs : List Value} {xs : List PyData}, VRs F as vs → snapAll σ as = some xs → ∃ bs, ReadsAll h vs xs bs
  | _, _, _, .nil, e => by cases e; exact ⟨_, .nil⟩
  | a :: as, _, xs, .cons y z, e => by
    simp only [snapAll] at e
    split at e
    · rename_i x xs' h1 h2
      cases e
      obtain ⟨_, q1⟩ := snap1_at r y h1
      obtain ⟨_, q2⟩ := snapAll_at r z h2
      exact ⟨_, .cons q1 q2⟩
    · cases e
theorem snap_at {F h : Heap} {σ ρ : Store} {a : AV} {v : Value} {x : PyData} (r : St F σ ρ h) (y : VR F a v) (e : snap σ a = some x) : ∃ as, Reads h v x as := by
  cases a with
  | d d => cases e; cases y with | d y => exact ⟨_, Reads.keeps r.r.fx y⟩
  | ref c =>
    obtain rfl := y.toRef
    simp only [snap] at e
    split at e
    · rename_i xs hs
      obtain ⟨_, o, ho, vs, n, rfl, hv⟩ := r.left hs
      cases q : snapAll σ xs with
      | none => rw [q] at e; cases e
      | some ds =>
        rw [q] at e; cases e
        obtain ⟨bs, z⟩ := snapAll_at r hv q
        exact ⟨_, .list ho rfl rfl z⟩
    · cases e
  | _ => exact nosome e

theorem Fin.newIs {F : Heap} {σ ρ : Store} {s : Shared} {L : Addr} {a : Addr} {x : PyData} {P : AV → Store → Prop} {m : Str → Option Value} (r : St F σ ρ s.heap) (T : Lent F σ ρ s.heap L m) {h' : Heap} (Fr' : Fr {} L h' m) (N' : News {} L h' (allNews s.heap L))
    (y : ∃ o, h'.get? a = some o ∧ ∀ F', F.StaysIn F' → F'.get? a = some o → VR F' (.d x) (.ref a)) (hn : s.heap.objs.size ≤ a) (p : P (.d x) σ) {tk : Nat} : Fin F s ρ P (.ref a) { s with heap := h', toks := tk } := by
  have r' := T.back h' Fr' N'
  obtain ⟨o, ho, y⟩ := y
  have nn : ∀ τ : Store, (∀ b ao, τ b = some ao → b < s.heap.objs.size) → τ a = none := fun τ k => by
    cases e : τ a with
    | none => rfl
    | some ao => exact absurd (k _ _ e) (Nat.not_lt.mpr hn)
  have n1 : σ a = none := nn σ fun b ao e => r.r.lt (un_left e)
  have n2 : ρ a = none := nn ρ fun b ao e => r.r.lt (un_right r.dj e)
  obtain ⟨F', k, g, r''⟩ := r'.freeze ho n1 n2
  exact ⟨F', σ, _, h', tk, rfl, k, r'', y F' k g, p⟩

noncomputable def pickL {α : Type} (xs : List α) (lo hi : Option Int) : List α :=
  (sliceRange (sliceBounds lo hi none xs.length).1 (sliceBounds lo hi none xs.length).2.1 (sliceBounds lo hi none xs.length).2.2).filterMap (xs[·]?)
theorem VRs.pickL {F : Heap} {as : List AV} {vs : Array Value} (x : VRs F as vs.toList) (lo hi : Option Int) : VRs F (Mine.pickL as lo hi) (slicePick vs lo hi none).toList := by
  have e : vs.size = as.length := by rw [x.length]; simp
  unfold slicePick Mine.pickL
  rw [e]
  have := x.pick (sliceRange (sliceBounds lo hi none as.length).1 (sliceBounds lo hi none as.length).2.1 (sliceBounds lo hi none as.length).2.2)
  simpa using this
end Mine
end

section
open PySem PySem.W PyProof.Rows PySem.SeqAt
set_option maxRecDepth 100000
namespace Mine

noncomputable def isAtom : PyData → Bool
  | .none | .bool _ | .int _ | .str _ => true
  | _ => false
theorem carried_of {F : Heap} {d : PyData} {v : Value} (h : isAtom d = true) (x : VR F (.d d) v) : Carried v d := by
  cases x with | d x =>
  cases x <;> first | exact .none | exact .bool _ | exact .int _ _ | exact .str _ _ | cases h
theorem carriedAll_of {F : Heap} : ∀ {ds : List PyData} {vs : List Value}, ds.all isAtom = true → VRs F (ds.map .d) vs → CarriedAll vs ds
  | [], _, _, .nil => .nil
  | d :: ds, _, h, .cons x r => by
    rw [List.all_cons, Bool.and_eq_true] at h
    exact .cons (carried_of h.1 x) (carriedAll_of h.2 r)
theorem VRs.of_carried {F : Heap} : ∀ {ds : List PyData} {vs : List Value}, CarriedAll vs ds → VRs F (ds.map .d) vs
  | [], _, .nil => .nil
  | _ :: _, _, .cons x r => .cons (by cases x <;> first | exact .d .none | exact .d (.bool _) | exact .d (.int _ _) | exact .d (.str _ _)) (VRs.of_carried r)
theorem allD_map : ∀ xs : List PyData, allD (xs.map .d) = some xs
  | [] => rfl
  | x :: r => by simp [allD, allD_map r]
theorem allD_eq : ∀ {as : List AV} {xs : List PyData}, allD as = some xs → as = xs.map .d
  | [], _, e => by cases e; rfl
  | .d x :: as, _, e => by
    cases q : allD as with
    | none => simp [allD, q] at e
    | some ds => simp only [allD, q, Option.map_some, Option.some.injEq] at e; subst e; rw [allD_eq q]; rfl
  | .ref _ :: _, _, e => by simp [allD] at e
  | .v _ :: _, _, e => by simp [allD] at e
  | .rng _ _ _ :: _, _, e => by simp [allD] at e

noncomputable def addLists (σ : Store) (a b : AV) : Option PyData :=
  match listOf? σ a, listOf? σ b with
  | some xs, some ys => if xs.length + ys.length ≤ sizeLine then (allD (xs ++ ys)).map .list else none
  | _, _ => none
noncomputable def ints2 : AV → AV → Option (Int × Int)
  | .d (.int a), .d (.int b) => some (a, b)
  | _, _ => none
noncomputable def strs2 : AV → AV → Option (Str × Str)
  | .d (.str a), .d (.str b) => some (a, b)
  | _, _ => none
theorem ints2_eq {a b : AV} {p : Int × Int} (h : ints2 a b = some p) : a = .d (.int p.1) ∧ b = .d (.int p.2) := by
  unfold ints2 at h
  split at h <;> cases h
  exact ⟨rfl, rfl⟩
theorem strs2_eq {a b : AV} {p : Str × Str} (h : strs2 a b = some p) : a = .d (.str p.1) ∧ b = .d (.str p.2) := by
  unfold strs2 at h
  split at h <;> cases h
  exact ⟨rfl, rfl⟩
noncomputable def mulA (a b : AV) : Option PyData := match a, b with
  | .d (.list xs), .d (.int n) => if xs.all isAtom = true ∧ n.natAbs ≤ 16777216 ∧ xs.length * n.toNat ≤ 16777216 then some (.list (List.replicate n.toNat xs).flatten) else none
  | _, _ => none
noncomputable def binA (σ : Store) (op : Operator) (a b : AV) : Option PyData := match op with
  | .Add => (match ints2 a b with
    | some p => some (.int (p.1 + p.2))
    | none => (match strs2 a b with
      | some p => if p.1.length + p.2.length ≤ sizeLine then some (.str (p.1 ++ p.2)) else none
      | none => addLists σ a b))
  | .Sub => (ints2 a b).map fun p => .int (p.1 - p.2)
  | .Mod => (ints2 a b).bind fun p => if p.2 = 0 then none else some (.int (p.1.fmod p.2))
  | .FloorDiv => (ints2 a b).bind fun p => if p.2 = 0 ∨ ¬ p.2.natAbs < 1073741824 then none else some (.int (p.1.fdiv p.2))
  | .Pow => (ints2 a b).bind fun p => if 0 ≤ p.2 ∧ p.2 ≤ 1000000 ∧ p.1.natAbs < 2 ^ 64 then some (.int (p.1 ^ p.2.toNat)) else none
  | .Mult => mulA a b
  | _ => none

section
variable {C : Cfg} {A : Around} {F : Heap} {ρ σ : Store} {s : Shared} {L : Addr} {names : List Str} {l : List (Option AV)} {P : AV → Store → Prop} {v w : Value} {a b : AV} {x : PyData}

theorem addLists_W (hl : ρ L = some (.fr names l)) (r : St F σ ρ s.heap) (ya : VR F a v) (yb : VR F b w) (e : addLists σ a b = some x) (p : P (.d x) σ) : Wp C A (binaryOp .Add v w) F ρ P s := by
  obtain ⟨m, T⟩ := r.lend hl
  unfold addLists at e
  split at e
  · rename_i xs ys h1 h2
    split at e
    · rename_i hz
      obtain ⟨la, vs, rfl, i1, j1⟩ := list_at r ya h1
      obtain ⟨lb, ws, rfl, i2, j2⟩ := list_at r yb h2
      cases q : allD (xs ++ ys) with
      | none => rw [q] at e; cases e
      | some ds =>
        rw [q] at e; cases e
        obtain ⟨bs, z⟩ := reads_of (j1.append j2) q
        refine add_lists (vs := vs.toList) (ws := ws.toList) T.fr T.news (by simpa using i1) (by simpa using i2) (fun h' Fr' N' => Fin.new r T Fr' N' (fun F' k g => .d (reads_list_at g rfl rfl (by simpa using ReadsAll.keeps k z))) p) ?_
        rw [← j1.length, ← j2.length]; exact hz
    · cases e
  · cases e
theorem bin_W {op : Operator} (hl : ρ L = some (.fr names l)) (r : St F σ ρ s.heap) (ya : VR F a v) (yb : VR F b w) (e : binA σ op a b = some x) (p : P (.d x) σ) : Wp C A (binaryOp op v w) F ρ P s := by
  have two : ∀ {q : Int × Int}, ints2 a b = some q → ∃ t u, v = .int q.1 t ∧ w = .int q.2 u := fun h => by
    obtain ⟨rfl, rfl⟩ := ints2_eq h
    obtain ⟨t, rfl⟩ := ya.int
    obtain ⟨u, rfl⟩ := yb.int
    exact ⟨t, u, rfl, rfl⟩
  cases op with
  | Add =>
    change (match ints2 a b with | some p => _ | none => _) = _ at e
    cases h : ints2 a b with
    | some q =>
      rw [h] at e; cases e
      obtain ⟨t, u, rfl, rfl⟩ := two h
      exact PyProof.Rows.add_int (Fin.now r (.d (.int _ _)) p)
    | none =>
      rw [h] at e
      change (match strs2 a b with | some p => _ | none => _) = _ at e
      cases h2 : strs2 a b with
      | some q =>
        rw [h2] at e
        change (if _ then _ else _) = _ at e
        split at e
        · rename_i hz
          cases e
          obtain ⟨rfl, rfl⟩ := strs2_eq h2
          obtain ⟨t, rfl⟩ := ya.str
          obtain ⟨u, rfl⟩ := yb.str
          exact PyProof.Rows.add_str (fun t' tk => Fin.now r (.d (.str _ _)) p) hz
        · cases e
      | none =>
        rw [h2] at e
        exact addLists_W hl r ya yb e p
  | Sub =>
    change (ints2 a b).map _ = _ at e
    cases h : ints2 a b with
    | none => rw [h] at e; cases e
    | some q =>
      rw [h] at e; cases e
      obtain ⟨t, u, rfl, rfl⟩ := two h
      exact PyProof.Rows.sub_int (Fin.now r (.d (.int _ _)) p)
  | Mod =>
    change (ints2 a b).bind _ = _ at e
    cases h : ints2 a b with
    | none => rw [h] at e; cases e
    | some q =>
      rw [h] at e
      change (if _ then _ else _) = _ at e
      split at e
      · cases e
      · rename_i hz
        cases e
        obtain ⟨t, u, rfl, rfl⟩ := two h
        exact PyProof.Rows.mod_int' hz (Fin.now r (.d (.int _ _)) p)
  | FloorDiv =>
    change (ints2 a b).bind _ = _ at e
    cases h : ints2 a b with
    | none => rw [h] at e; cases e
    | some q =>
      rw [h] at e
      change (if _ then _ else _) = _ at e
      split at e
      · cases e
      · rename_i hz
        cases e
        obtain ⟨t, u, rfl, rfl⟩ := two h
        exact PyProof.Rows.floordiv_int (fun h => hz (.inl h)) (Fin.now r (.d (.int _ _)) p) (.inl (PyProof.noPylong_small (by omega)))
  | Pow =>
    change (ints2 a b).bind _ = _ at e
    cases h : ints2 a b with
    | none => rw [h] at e; cases e
    | some q =>
      rw [h] at e
      change (if _ then _ else _) = _ at e
      split at e
      · rename_i hz
        cases e
        obtain ⟨t, u, rfl, rfl⟩ := two h
        exact PyProof.Rows.pow_int_small hz.1 hz.2.1 hz.2.2 (Fin.now r (.d (.int _ _)) p)
      · cases e
  | Mult =>
    change mulA a b = _ at e
    unfold mulA at e
    split at e
    · rename_i xs n
      split at e
      · rename_i hz
        cases e
        obtain ⟨m, T⟩ := r.lend hl
        obtain ⟨u, rfl⟩ := yb.int
        obtain ⟨la, vs, rfl, i1, j1⟩ := ya.list
        refine mul_list_is (vs := vs.toList) (ds := xs) T.fr T.news (by simpa using isList_keeps r.r.fx i1) (carriedAll_of hz.1 j1) (by omega) (by omega) (by rw [← j1.length, List.length_map]; exact hz.2.2) fun h' Fr' N' _ il cc => ?_
        refine Fin.newIs r T Fr' N' ?_ (Nat.le_refl _) p
        obtain ⟨o, ho, h1, n', h2⟩ := il
        refine ⟨o, ho, fun F' k g => ?_⟩
        obtain ⟨as, z⟩ := (VRs.of_carried (F := F') cc).to_reads
        exact .d (reads_list_at g h1 h2 (by simpa using z))
      · cases e
    · cases e
  | _ => cases e

/-! comparisons -/
noncomputable def laid (x : PyData) : Bool := x.canLay0 && decide (x.depth ≤ 62)
noncomputable def inD (x : PyData) : PyData → Option Bool
  | .list xs => if laid x = true ∧ PyData.canLayAll0 xs = true then some (xs.any fun y => PyData.eqv y x) else none
  | .tuple xs => if laid x = true ∧ PyData.canLayAll0 xs = true then some (xs.any fun y => PyData.eqv y x) else none
  | _ => none
noncomputable def eqA (σ : Store) (a b : AV) : Option Bool := match snap σ a, snap σ b with
  | some x, some y => if shaped x = true ∧ shaped y = true then some (PyData.eqv x y) else none
  | _, _ => none
noncomputable def inA (σ : Store) (a b : AV) : Option Bool := match snap σ a, snap σ b with
  | some x, some y => inD x y
  | _, _ => none
noncomputable def isNone? : AV → Option Bool
  | .d .none => some true
  | .d (.str _) => some false
  | _ => none
noncomputable def isNoneV : AV → Bool
  | .d .none => true
  | _ => false
theorem isNoneV_eq {b : AV} (h : isNoneV b = true) : b = .d .none := by
  unfold isNoneV at h
  split at h <;> first | rfl | cases h
noncomputable def cmpA (σ : Store) (op : CmpOp) (a b : AV) : Option Bool := match op with
  | .Eq => eqA σ a b
  | .NotEq => (eqA σ a b).map (!·)
  | .In => inA σ a b
  | .NotIn => (inA σ a b).map (!·)
  | .Lt => (ints2 a b).map fun p => decide (p.1 < p.2)
  | .Gt => (ints2 a b).map fun p => decide (p.2 < p.1)
  | .LtE => (strs2 a b).map fun p => !(decide (p.2.cps.toList < p.1.cps.toList))
  | .Is => if isNoneV b = true then isNone? a else none
  | .IsNot => if isNoneV b = true then (isNone? a).map (!·) else none
  | _ => none
inductive EqS (h : Heap) (v w : Value) (y : Bool) : Prop
  | mk (da db : PyData) (as bs : List Addr) : Reads h v da as → Reads h w db bs → shaped da = true → shaped db = true → PyData.eqv da db = y → EqS h v w y
inductive InS (h : Heap) (v w : Value) (y : Bool) : Prop
  | list (da : PyData) (as bs : List Addr) (xs : List PyData) : Reads h v da as → laid da = true → PyData.canLayAll0 xs = true → (xs.any fun z => PyData.eqv z da) = y → Reads h w (.list xs) bs → InS h v w y
  | tuple (da : PyData) (as bs : List Addr) (xs : List PyData) : Reads h v da as → laid da = true → PyData.canLayAll0 xs = true → (xs.any fun z => PyData.eqv z da) = y → Reads h w (.tuple xs) bs → InS h v w y
theorem eqS_at (r : St F σ ρ s.heap) (ya : VR F a v) (yb : VR F b w) {y : Bool} (e : eqA σ a b = some y) : EqS s.heap v w y := by
  unfold eqA at e
  split at e
  · rename_i x' y' h1 h2
    split at e
    · rename_i hz
      cases e
      obtain ⟨as, q1⟩ := snap_at r ya h1
      obtain ⟨bs, q2⟩ := snap_at r yb h2
      exact ⟨_, _, _, _, q1, q2, hz.1, hz.2, rfl⟩
    · cases e
  · cases e
theorem inS_at (r : St F σ ρ s.heap) (ya : VR F a v) (yb : VR F b w) {y : Bool} (e : inA σ a b = some y) : InS s.heap v w y := by
  unfold inA at e
  split at e
  · rename_i x' y' h1 h2
    obtain ⟨as, q1⟩ := snap_at r ya h1
    obtain ⟨bs, q2⟩ := snap_at r yb h2
    unfold inD at e
    split at e
    · split at e
      · rename_i hz; cases e; exact .list _ _ _ _ q1 hz.1 hz.2 rfl q2
      · cases e
    · split at e
      · rename_i hz; cases e; exact .tuple _ _ _ _ q1 hz.1 hz.2 rfl q2
      · cases e
    · cases e
  · cases e
theorem cmp_W {op : CmpOp} {n : Nat} (o : OkA A n) (r : St F σ ρ s.heap) (ya : VR F a v) (yb : VR F b w) {x : Bool} (e : cmpA σ op a b = some x) (p : P (.d (.bool x)) σ) : Wp C A (compareOp op v w) F ρ P s := by
  have fin : ∀ {y}, y = x → Fin F s ρ P (.bool y) s := fun q => by subst q; exact Fin.here r (.d (.bool _)) p
  have room : ∀ {d : PyData} {n : Nat}, laid d = true → A.units + 1 + min n d.depth < cLine := by
    intro d n h
    have h2 := of_decide_eq_true (Bool.and_eq_true_iff.mp h).2
    have := o.units
    have := Nat.min_le_right n d.depth
    omega
  have lay : ∀ {d : PyData}, laid d = true → d.canLay0 = true := fun h => (Bool.and_eq_true_iff.mp h).1
  have nones : ∀ {y}, isNone? a = some y → (v == .none) = y := by
    intro y e
    unfold isNone? at e
    split at e
    · cases e; rw [ya.none]; rfl
    · cases e; obtain ⟨t, rfl⟩ := ya.str; rfl
    · cases e
  have two : ∀ {q : Int × Int}, ints2 a b = some q → ∃ t u, v = .int q.1 t ∧ w = .int q.2 u := fun h => by
    obtain ⟨rfl, rfl⟩ := ints2_eq h
    obtain ⟨t, rfl⟩ := ya.int
    obtain ⟨u, rfl⟩ := yb.int
    exact ⟨t, u, rfl, rfl⟩
  cases op with
  | Eq =>
    obtain ⟨da, db, as, bs, q1, q2, h1, h2, h3⟩ := eqS_at r ya yb e
    exact compareEq_shaped q1 q2 h1 h2 o.room64 (fin h3)
  | NotEq =>
    obtain ⟨y, q, rfl⟩ := Option.map_eq_some_iff.mp (e : (eqA σ a b).map (!·) = some x)
    obtain ⟨da, db, as, bs, q1, q2, h1, h2, h3⟩ := eqS_at r ya yb q
    exact compareNe_shaped q1 q2 h1 h2 o.room64 (fin (by rw [h3]))
  | In =>
    obtain ⟨da, as, bs, xs, q1, h1, h2, h3, q2⟩ | ⟨da, as, bs, xs, q1, h1, h2, h3, q2⟩ := inS_at r ya yb e
    · exact SeqAt.in_list_reads q2 q1 h2 (lay h1) (room h1) (fin h3)
    · exact SeqAt.in_tuple_reads q2 q1 h2 (lay h1) (room h1) (fin h3)
  | NotIn =>
    obtain ⟨y, q, rfl⟩ := Option.map_eq_some_iff.mp (e : (inA σ a b).map (!·) = some x)
    obtain ⟨da, as, bs, xs, q1, h1, h2, h3, q2⟩ | ⟨da, as, bs, xs, q1, h1, h2, h3, q2⟩ := inS_at r ya yb q
    · exact SeqAt.notIn_list_reads q2 q1 h2 (lay h1) (room h1) (fin (by rw [h3]))
    · exact SeqAt.notIn_tuple_reads q2 q1 h2 (lay h1) (room h1) (fin (by rw [h3]))
  | Lt =>
    obtain ⟨q, h, rfl⟩ := Option.map_eq_some_iff.mp (e : (ints2 a b).map _ = some x)
    obtain ⟨t, u, rfl, rfl⟩ := two h
    exact PyProof.Rows.lt_int (fin rfl)
  | Gt =>
    obtain ⟨q, h, rfl⟩ := Option.map_eq_some_iff.mp (e : (ints2 a b).map _ = some x)
    obtain ⟨t, u, rfl, rfl⟩ := two h
    exact PyProof.Rows.gt_int (fin rfl)
  | LtE =>
    obtain ⟨q, h, rfl⟩ := Option.map_eq_some_iff.mp (e : (strs2 a b).map _ = some x)
    obtain ⟨rfl, rfl⟩ := strs2_eq h
    obtain ⟨t, rfl⟩ := ya.str
    obtain ⟨u, rfl⟩ := yb.str
    exact PySem.P.le_str (fin rfl)
  | Is =>
    change (if _ then _ else _) = _ at e
    split at e
    · rename_i hb
      rw [isNoneV_eq hb] at yb
      rw [yb.none]
      exact is_none_gen (fin (nones e))
    · cases e
  | IsNot =>
    change (if _ then _ else _) = _ at e
    split at e
    · rename_i hb
      rw [isNoneV_eq hb] at yb
      obtain ⟨y, q, rfl⟩ := Option.map_eq_some_iff.mp e
      rw [yb.none]
      exact isnot_none_gen (fin (by rw [nones q]))
    · cases e
  | _ => cases e
end
end Mine
end

section
set_option maxRecDepth 100000
namespace Mine

theorem subscripted_is (slice : Expr) (o i : Value) : ∃ ops, subscripted slice false o i = operate ops (getItem o i) := by
  cases slice <;> first | exact ⟨_, rfl⟩ | skip
  rename_i a b c d
  cases c <;> exact ⟨_, rfl⟩

section
variable {prog : Program} {w : World} {A : Around} {E : Value → Shared → Prop} {s : Shared}
theorem tail_of {value slice : Expr} {o i : Value} {T id : String} {Q : Value → Shared → Prop} (hT : s.TypeIs o T)
    (hl : typeLookup (.type T) "__getitem__" = pure (some (.builtin id))) (h : wpAny (model prog w) A (getItem o i) Q E s) : wpAny (model prog w) A (subscriptTail value slice o i) Q E s :=
  let ⟨_, hs⟩ := subscripted_is slice o i
  tail_any hT hl h hs

theorem sliceApplied_upto {sl : Addr} {b n : Nat} {u : Tok} {Q : Int × Int × Nat → Shared → Prop} (hs : s.heap.IsSliceOf sl .none (.int b u) .none) (hb : b ≤ n) (h : Q (0, 1, b) s) :
    wpAny (model prog w) A (Builtin.Slice.sliceApplied (.ref sl) (pure (n : Int))) Q E s := by
  obtain ⟨os, hos, hcs, hds⟩ := id hs
  unfold Builtin.Slice.sliceApplied Builtin.Slice.sliceFields
  refine wpAny_bind (wpAny_bind (wpAny_field hos hds (x := .none) rfl (wpAny_bind (wpAny_field hos hds (x := .int b u) rfl (wpAny_bind (wpAny_field hos hds (x := .none) rfl (wpAny_pure ?_)))))))
  refine wpAny_bind (slicePart_none ?_)
  show wpAny _ _ (if ((1 : Int) == 0) = true then _ else _) _ _ s
  rw [if_neg (by decide)]
  refine wpAny_bind (slicePart_none (wpAny_bind (slicePart_int (wpAny_bind (wpAny_pure ?_)))))
  have e1 : Builtin.Slice.sliceAdjust none (some (b : Int)) 1 (n : Int) = ((0 : Int), (b : Int)) := by
    unfold Builtin.Slice.sliceAdjust
    have h1 : ¬ ((1 : Int) < 0) := by omega
    have h2 : ¬ ((b : Int) < 0) := by omega
    simp only [h1, h2, if_false]
    congr 1
    omega
  have e2 : Builtin.Slice.slicePlaces (0 : Int) (b : Int) 1 = b := by
    unfold Builtin.Slice.slicePlaces
    have h1 : (1 : Int) > 0 := by omega
    simp only [h1, if_true, Int.ediv_one]
    split <;> omega
  show wpAny _ _ (match Builtin.Slice.sliceAdjust none (some (b : Int)) 1 (n : Int) with | (lo, hi) => pure (lo, (1 : Int), Builtin.Slice.slicePlaces lo hi 1)) _ _ s
  rw [e1]
  show wpAny _ _ (pure ((0 : Int), (1 : Int), Builtin.Slice.slicePlaces (0 : Int) (b : Int) 1)) _ _ s
  rw [e2]
  exact wpAny_pure h
theorem pick_upto (xs : Array Value) (b : Nat) (_hb : b ≤ xs.size) : ((List.range b).filterMap fun (k : Nat) => xs[((0 : Int) + (k : Int) * 1).toNat]?).toArray = (xs.toList.take b).toArray := by
  have e : (fun (k : Nat) => xs[((0 : Int) + (k : Int) * 1).toNat]?) = fun k => xs[0 + k]? := by
    funext k
    have : ((0 : Int) + (k : Int) * 1).toNat = 0 + k := by omega
    rw [this]
  rw [e]
  have := pick_run xs 0 b
  rw [List.filterMap_map] at this
  have e2 : ((fun x => xs[x]?) ∘ fun x => 0 + x) = fun k => xs[0 + k]? := rfl
  rw [e2] at this
  rw [this, List.drop_zero]
theorem getItem_tuple_upto {t sl : Addr} {items : Array Value} {b : Nat} {u : Tok} {Q : Value → Shared → Prop} (ht : IsTup s.heap t items) (hs : s.heap.IsSliceOf sl .none (.int b u) .none) (hb : b < items.size)
    (h : Q (.ref s.heap.objs.size) { s with heap := s.heap.push { cls := .type "tuple", data := .seq (items.toList.take b).toArray } })
    (hsz : items.size ≤ sizeLine) : wpAny (model prog w) A (getItem (.ref t) (.ref sl)) Q E s := by
  have hdrop : sizeOk (.seq (items.toList.take b).toArray) := by
    show (items.toList.take b).toArray.size ≤ sizeLine
    rw [List.size_toArray, List.length_take, Array.length_toList]
    omega
  obtain ⟨os, hos, hcs, hds⟩ := id hs
  have hTs : s.TypeIs (.ref sl) "slice" := ⟨os, hos, hcs⟩
  unfold getItem
  try with_reducible refine wpAny_holding ?_
  first | refine wpAny_bind (wpAny_pure ?_) | skip
  refine wpAny_bind (wpAny_sequenceKey ht.typeIs (by decide) ?_)
  refine wpAny_bind (wpAny_callSpecial?_slot (name := Str.ofString "__getitem__") ht.typeIs slot_tuple_getitem
    (wpAny_call_entry slot_tuple_getitem ht.typeIs entry_tuple_getitem ?_ (args_tuple_getitem _ _)))
  show wpAny _ _ (Builtin.Tuple.tupleItemsOf (.ref t) >>= _) _ _ s
  refine wpAny_bind (tupleItemsOf_ ht ?_)
  refine wpAny_bind (wpAny_typeOf hTs ?_)
  rw [if_pos (by decide)]
  refine wpAny_bind (sliceApplied_upto hs (Nat.le_of_lt hb) ?_)
  have hno : ¬ (((0 : Int) == 0 && (1 : Int) == 1 && b == items.size) = true) := by
    have : (b == items.size) = false := by rw [beq_eq_false_iff_ne]; omega
    rw [this]; simp
  show wpAny _ _ (if ((0 : Int) == 0 && (1 : Int) == 1 && b == items.size) = true then _ else _) _ _ s
  rw [if_neg hno, pick_upto items b (Nat.le_of_lt hb)]
  first
    | exact wpAny_bind (m := Builtin.Tuple.tupleExact _) (wpAny_newObj_type (wpAny_pure ⟨_, rfl, wpAny_pure h⟩) hdrop)
    | exact wpAny_bind (m := Builtin.Tuple.tupleExact _) (wpAny_newObj_type (wpAny_bind (wpAny_pure (wpAny_pure ⟨_, rfl, wpAny_pure h⟩))) hdrop)
    | exact wpAny_bind (wpAny_bind (m := Builtin.Tuple.tupleExact _) (wpAny_newObj_type (wpAny_pure (wpAny_pure ⟨_, rfl, wpAny_pure h⟩)) hdrop))
    | exact wpAny_bind (wpAny_bind (m := Builtin.Tuple.tupleExact _) (wpAny_newObj_type (wpAny_pure ⟨_, rfl, wpAny_pure h⟩) hdrop))
end

noncomputable def subA (σ : Store) (a b : AV) : Option AV :=
  match seqOf σ a, b with
  | some xs, .d (.int k) => if k.natAbs ≤ 16777216 then (seqIndex? k xs.length).bind (xs[·]?) else none
  | _, _ => none

section
variable {C : Cfg} {A : Around} {F : Heap} {ρ σ : Store} {s : Shared} {L : Addr} {names : List Str} {l : List (Option AV)} {P : AV → Store → Prop} {v w : Value} {a b : AV} {x : AV}

theorem VR.seq (r : St F σ ρ s.heap) (y : VR F a v) {xs : List AV} (e : seqOf σ a = some xs) : ∃ c vs, v = .ref c ∧ (s.heap.IsList c vs ∨ IsTup s.heap c vs) ∧ VRs F xs vs.toList := by
  cases a with
  | d d =>
    cases d with
    | list ys =>
      obtain ⟨c, vs, h1, h2, h3⟩ := list_at r y (as := ys.map .d) rfl
      cases e
      exact ⟨c, vs, h1, .inl h2, h3⟩
    | tuple ys =>
      cases e
      obtain ⟨c, vs, rfl, h1, h2⟩ := y.tuple
      exact ⟨c, vs, rfl, .inr (isTup_keeps r.r.fx h1), h2⟩
    | _ => exact nosome e
  | ref c =>
    obtain ⟨c, vs, h1, h2, h3⟩ := list_at r y (as := xs) e
    exact ⟨c, vs, h1, .inl h2, h3⟩
  | _ => exact nosome e
theorem sub_W {value slice : Expr} (r : St F σ ρ s.heap) (ya : VR F a v) (yb : VR F b w) (e : subA σ a b = some x) (p : P x σ) : Wp C A (subscriptTail value slice v w) F ρ P s := by
  unfold subA at e
  split at e
  · rename_i xs k h1
    split at e
    · rename_i hk0
      have hk : -(2 ^ 63) ≤ k ∧ k < 2 ^ 63 := ⟨by omega, by omega⟩
      obtain ⟨u, rfl⟩ := yb.int
      obtain ⟨c, vs, rfl, h2, h3⟩ := ya.seq r h1
      cases q : seqIndex? k xs.length with
      | none => rw [q] at e; cases e
      | some j =>
        rw [q] at e
        simp only [Option.bind_some] at e
        have hlen : xs.length = vs.size := by rw [h3.length]; simp
        have hx : ∃ y, vs[j]? = some y ∧ VR F x y := by
          rcases h3.get j with ⟨z1, _⟩ | ⟨x', y, z1, z2, z3⟩
          · rw [z1] at e; cases e
          · rw [z1] at e; cases e; exact ⟨y, by simpa using z2, z3⟩
        obtain ⟨y, hy, yx⟩ := hx
        have fin : Fin F s ρ P y s := Fin.here r yx p
        rcases h2 with h2 | h2
        · refine tail_of h2.typeIs slot_list_getitem.lookup ?_
          by_cases h0 : k < 0
          · have q' : (if (decide (0 ≤ k + (xs.length : Int)) && decide (k + (xs.length : Int) < xs.length)) = true then some (k + (xs.length : Int)).toNat else none) = some j := by
              rw [← q]; unfold seqIndex?; rw [if_pos h0]
            split at q'
            · rename_i hj
              simp only [Bool.and_eq_true, decide_eq_true_eq] at hj
              cases q'
              exact wpAny_getItem_list_neg h2 h0 (by omega) hk.1 (by rw [← hlen]; exact hy) fin
            · cases q'
          · have q' : (if (decide (0 ≤ k) && decide (k < (xs.length : Int))) = true then some k.toNat else none) = some j := by
              rw [← q]; unfold seqIndex?; rw [if_neg h0]
            split at q'
            · rename_i hj
              simp only [Bool.and_eq_true, decide_eq_true_eq] at hj
              cases q'
              exact wpAny_getItem_list h2 (by omega) hk.2 hy fin
            · cases q'
        · exact tail_of h2.typeIs slot_tuple_getitem.lookup (getItem_tuple h2 hk.1 hk.2 (by rw [← hlen]; exact q) hy fin)
    · cases e
  · cases e

/-! slices -/
noncomputable def partA : AV → Option (Option Int)
  | .d (.int i) => some (some i)
  | .d .none => some none
  | _ => none
theorem VR.part {p : Option Int} (y : VR F a v) (e : partA a = some p) : IsPart v p := by
  unfold partA at e
  split at e
  · cases e; obtain ⟨t, rfl⟩ := y.int; exact .int _ _
  · cases e; rw [y.none]; exact .none
  · cases e
noncomputable def sliceA (σ : Store) (a : AV) (lo hi : Option Int) : Option PyData :=
  match a, lo, hi with
  | .d (.tuple xs), none, some k => if 0 ≤ k ∧ k.toNat < xs.length ∧ xs.length ≤ sizeLine then some (.tuple (xs.take k.toNat)) else none
  | a, lo, hi => match listOf? σ a with
    | some xs => if xs.length ≤ sizeLine then (allD (pickL xs lo hi)).map .list else none
    | none => none
theorem slice_W {value slice : Expr} {vl vu : Value} {lo hi : Option Int} {y : PyData} (r : St F σ ρ s.heap) (ya : VR F a v) (pl : IsPart vl lo) (pu : IsPart vu hi) (e : sliceA σ a lo hi = some y) (p : P (.d y) σ) :
    wpAny (model C.prog C.w) A (subscriptTail value slice v (.ref s.heap.objs.size)) (Fin F s ρ P) Bot { s with heap := s.heap.push { cls := .type "slice", data := .fields #[vl, vu, .none] } } := by
  have r1 : St F σ ρ (s.heap.push { cls := .type "slice", data := .fields #[vl, vu, .none] }) := r.push _
  unfold sliceA at e
  split at e
  · rename_i xs k
    split at e
    · rename_i hk
      cases e
      obtain ⟨c, vs, rfl, h1, h2⟩ := ya.tuple
      have hlen : vs.size = xs.length := by have := h2.length; simpa using this.symm
      cases pl
      cases pu with | int _ t =>
      have ek : ((k.toNat : Nat) : Int) = k := Int.toNat_of_nonneg hk.1
      have ht : IsTup (s.heap.push { cls := .type "slice", data := .fields #[.none, .int k t, .none] }) c vs := isTup_keeps r1.r.fx h1
      refine tail_of (s := { s with heap := s.heap.push { cls := .type "slice", data := .fields #[.none, .int k t, .none] } }) ht.typeIs slot_tuple_getitem.lookup ?_
      refine getItem_tuple_upto (b := k.toNat) (u := t) ht (by rw [ek]; exact Heap.IsSliceOf.new ..) (by omega) ?_ (by omega)
      obtain ⟨F', k', g, r2⟩ := r1.pushF (o := { cls := .type "tuple", data := .seq (vs.toList.take k.toNat).toArray }) rfl
      have h3 : VRs F' ((xs.take k.toNat).map .d) (vs.toList.take k.toNat) := by
        have := (h2.mono k').pick (List.range k.toNat)
        have t1 : ∀ {α : Type} (ys : List α) (n : Nat), (List.range n).filterMap (ys[·]?) = ys.take n := by
          intro α ys n
          have := pick_run ys.toArray 0 n
          simpa [List.filterMap_map, Function.comp_def] using this
        rw [t1, t1, ← List.map_take] at this
        exact this
      obtain ⟨as, z⟩ := h3.to_reads
      exact ⟨F', σ, _, _, _, rfl, k', r2, .d (reads_tuple_at g rfl rfl (by simpa using z)), p⟩
    · cases e
  · split at e
    · rename_i xs h1
      split at e
      · rename_i hk
        cases q : allD (pickL xs lo hi) with
        | none => rw [q] at e; cases e
        | some ds =>
          rw [q] at e; cases e
          obtain ⟨c, vs, rfl, h2, h3⟩ := list_at r1 ya h1
          have hlen : vs.size = xs.length := by have := h3.length; simpa using this.symm
          refine tail_of (s := { s with heap := s.heap.push { cls := .type "slice", data := .fields #[vl, vu, .none] } }) h2.typeIs slot_list_getitem.lookup ?_
          refine wpAny_getItem_list_slice h2 (Heap.IsSliceOf.new ..) pl pu .none (by simp) ?_ (by omega)
          obtain ⟨F', k', g, r2⟩ := r1.pushF (o := { cls := .type "list", data := .seq (slicePick vs lo hi none) }) rfl
          obtain ⟨as, z⟩ := reads_of ((h3.pickL lo hi).mono k') q
          exact ⟨F', σ, _, _, _, rfl, k', r2, .d (reads_list_at g rfl rfl z), p⟩
      · cases e
    · cases e
theorem slice_M {value slice : Expr} {vl vu : Value} {lo hi : Option Int} {xs : List AV} (r : St F σ ρ s.heap) (ya : VR F a v) (pl : IsPart vl lo) (pu : IsPart vu hi) (e : listOf? σ a = some xs) (hz : xs.length ≤ sizeLine)
    (p : ∀ a, σ a = none → P (.ref a) (σ.set a (.list (pickL xs lo hi)))) :
    wpAny (model C.prog C.w) A (subscriptTail value slice v (.ref s.heap.objs.size)) (Fin F s ρ P) Bot { s with heap := s.heap.push { cls := .type "slice", data := .fields #[vl, vu, .none] } } := by
  have r1 : St F σ ρ (s.heap.push { cls := .type "slice", data := .fields #[vl, vu, .none] }) := r.push _
  obtain ⟨c, vs, rfl, h2, h3⟩ := list_at r1 ya e
  have hlen : vs.size = xs.length := by have := h3.length; simpa using this.symm
  refine tail_of (s := { s with heap := s.heap.push { cls := .type "slice", data := .fields #[vl, vu, .none] } }) h2.typeIs slot_list_getitem.lookup ?_
  refine wpAny_getItem_list_slice h2 (Heap.IsSliceOf.new ..) pl pu .none (by simp) ?_ (by omega)
  exact ⟨F, _, _, _, _, rfl, stays_refl F, r1.pushM (ao := .list (pickL xs lo hi)) ⟨slicePick vs lo hi none, _, rfl, h3.pickL lo hi⟩, .ref _, p _ r1.fresh.1⟩
end
end Mine
end

section
open PySem PySem.W PyProof.Rows PySem.Builtin PySem.Builtin.Str
set_option maxRecDepth 100000
namespace Mine

noncomputable def KeepsF (C : Cfg) (f : Value) : Prop := ∀ h, C.K.In h → ∃ k, (k = Keeper.frame ∨ k = Keeper.machine ∨ k = Keeper.boundFrame) ∧ Looks (model C.prog C.w) h (keeperOf f) k
theorem keepsF_builtin (C : Cfg) (id : String) : KeepsF C (.builtin id) := fun _ _ => ⟨.machine, .inr (.inl rfl), Looks.of_pure rfl⟩
theorem keepsF_type (C : Cfg) (id : String) : KeepsF C (.type id) := fun _ _ => ⟨.machine, .inr (.inl rfl), Looks.of_pure rfl⟩
theorem keepsF_K {C : Cfg} {f : Value} (h : keepIn C.K f = true) : KeepsF C f := keeps_K h
theorem noStars {pos : Pos} {env : Env} : ∀ {args : List Expr}, args.all notStar = true → (backTo pos (starEach args env)).any (·.1) = false
  | [], _ => rfl
  | e :: r, h => by
    rw [List.all_cons, Bool.and_eq_true] at h
    rw [starEach_cons h.1]
    have := noStars (pos := pos) (env := env) h.2
    show (false || (backTo pos (starEach r env)).any (·.1)) = false
    rw [this]; rfl

section
variable {C : Cfg} {A : Around} {F : Heap} {ρ σ : Store} {s : Shared} {L : Addr} {names : List Str} {l : List (Option AV)} {P : AV → Store → Prop} {v w : Value} {a b : AV} {env : Env} {pos : Pos}

theorem call_args {f : Value} {first : List Value} {args : List Expr} {P1 : List AV → Store → Prop} {Q : Value → Shared → Prop} (hk : KeepsF C f) (hn : args.all notStar = true) (G : Gd C F) (h : WpL C A (spl pos args env) F ρ P1 s)
    (n : ∀ F' σ' as vs h' tk', F.StaysIn F' → St F' σ' ρ h' → VRs F' as vs → P1 as σ' → wpAny (model C.prog C.w) A (call f (first ++ vs)) Q Bot { s with heap := h', toks := tk' }) :
    wpAny (model C.prog C.w) A (callWith pos f first (backTo pos (starEach args env)) []) Q Bot s := by
  have hp := noStars (pos := pos) (env := env) hn
  have h2 : wpAny (model C.prog C.w) A (spl pos args env) (fun vs s₁ => C.K.In s₁.heap ∧ wpAny (model C.prog C.w) A (call f (first ++ vs)) Q Bot s₁) Bot s :=
    h.then fun F' σ' as vs h' tk' k x y q => ⟨(G.keeps k).1.keeps x.r.fx, n F' σ' as vs h' tk' k x y q⟩
  refine callWith_of (P := C.K.In) (by rw [hp]; rfl) hk ?_
  cases args with
  | nil =>
    unfold evalArgs
    show wpAny _ A (spliced [] >>= _) _ _ s
    refine wpAny_bind (wpAny_mono h2 (fun vs s' h' => wpAny_bind (wpAny_pure ?_)) fun _ _ x => x)
    refine wpAny_holding ?_
    exact wpAny_bind (wpAny_pure (wpAny_bind (wpAny_pure (wpAny_pure h'))))
  | cons e rest =>
    rw [List.all_cons, Bool.and_eq_true] at hn
    unfold spl at h2
    rw [starEach_cons hn.1] at h2 ⊢
    exact Calls.evalArgs_plain h2
end
end Mine
end

section
open PySem PySem.W PyProof.Rows PySem.Builtin PySem.Builtin.Str
set_option maxRecDepth 100000
namespace Mine

noncomputable def strsD : List PyData → Option (List Str)
  | [] => some []
  | .str x :: r => (strsD r).map (x :: ·)
  | _ :: _ => none
noncomputable def intsD : List PyData → Option (List Int)
  | [] => some []
  | .int x :: r => (intsD r).map (x :: ·)
  | _ :: _ => none
noncomputable def maxI : Int → List Int → Int
  | a, [] => a
  | a, b :: r => maxI (if a < b then b else a) r
theorem maxI_mem : ∀ (r : List Int) (a : Int), maxI a r ∈ a :: r
  | [], a => by simp [maxI]
  | b :: r, a => by
    unfold maxI
    have := maxI_mem r (if a < b then b else a)
    rcases List.mem_cons.mp this with h | h
    · rw [h]; by_cases q : a < b
      · rw [if_pos q]; exact .tail _ (.head _)
      · rw [if_neg q]; exact .head _
    · exact .tail _ (.tail _ h)
theorem maxI_ge : ∀ (r : List Int) (a : Int), ∀ x ∈ a :: r, x ≤ maxI a r
  | [], a, x, h => by simp at h; simp [maxI, h]
  | b :: r, a, x, h => by
    have ih := maxI_ge r (if a < b then b else a)
    unfold maxI
    have h0 := ih _ (.head _)
    simp only [List.mem_cons] at h
    rcases h with h | h | h
    · subst h; split at h0 <;> rename_i q <;> simp only [q, if_true, if_false] <;> omega
    · subst h; split at h0 <;> rename_i q <;> simp only [q, if_true, if_false] <;> omega
    · exact ih x (.tail _ h)

section
variable {F : Heap}
theorem strsAre_of : ∀ {ds : List PyData} {vs : List Value} {xs : List Str}, VRs F (ds.map .d) vs → strsD ds = some xs → StrsAre vs xs
  | [], _, _, .nil, e => by cases e; exact .nil
  | .str x :: ds, _, _, .cons y r, e => by
    cases q : strsD ds with
    | none => simp [strsD, q] at e
    | some ys =>
      simp only [strsD, q, Option.map_some, Option.some.injEq] at e; subst e
      obtain ⟨t, rfl⟩ := y.str
      exact .cons _ _ (strsAre_of r q)
  | .none :: _, _, _, _, e => by simp [strsD] at e
  | .bool _ :: _, _, _, _, e => by simp [strsD] at e
  | .int _ :: _, _, _, _, e => by simp [strsD] at e
  | .list _ :: _, _, _, _, e => by simp [strsD] at e
  | .tuple _ :: _, _, _, _, e => by simp [strsD] at e
  | .dict _ :: _, _, _, _, e => by simp [strsD] at e
theorem intsAre_of : ∀ {ds : List PyData} {vs : List Value} {xs : List Int}, VRs F (ds.map .d) vs → intsD ds = some xs → IntsAre vs xs
  | [], _, _, .nil, e => by cases e; exact .nil
  | .int x :: ds, _, _, .cons y r, e => by
    cases q : intsD ds with
    | none => simp [intsD, q] at e
    | some ys =>
      simp only [intsD, q, Option.map_some, Option.some.injEq] at e; subst e
      obtain ⟨t, rfl⟩ := y.int
      exact .cons _ _ (intsAre_of r q)
  | .none :: _, _, _, _, e => by simp [intsD] at e
  | .bool _ :: _, _, _, _, e => by simp [intsD] at e
  | .str _ :: _, _, _, _, e => by simp [intsD] at e
  | .list _ :: _, _, _, _, e => by simp [intsD] at e
  | .tuple _ :: _, _, _, _, e => by simp [intsD] at e
  | .dict _ :: _, _, _, _, e => by simp [intsD] at e
theorem intsD_eq : ∀ {ds : List PyData} {xs : List Int}, intsD ds = some xs → ds = xs.map .int := by
  intro ds
  induction ds with
  | nil => intro xs e; cases e; rfl
  | cons d r ih =>
    intro xs e
    cases d with
    | int x =>
      obtain ⟨ys, h1, h2⟩ := Option.map_eq_some_iff.mp (e : (intsD r).map (x :: ·) = some xs)
      subst h2
      rw [ih h1]; rfl
    | _ => exact nosome e
theorem ints_of {as : List AV} {xs : List Int} (h : (allD as).bind intsD = some xs) : as = xs.map fun x => .d (.int x) := by
  obtain ⟨ds, h1, h2⟩ := Option.bind_eq_some_iff.mp h
  rw [allD_eq h1, intsD_eq h2, List.map_map]; rfl
theorem strsD_map : ∀ xs : List Str, strsD (xs.map .str) = some xs
  | [] => rfl
  | x :: r => by simp [strsD, strsD_map r]
theorem intsD_map : ∀ xs : List Int, intsD (xs.map .int) = some xs
  | [] => rfl
  | x :: r => by simp [intsD, intsD_map r]
theorem vrs_strValues : ∀ {l : List (Str × Tok)}, VRs F ((l.map (·.1)).map fun x => AV.d (.str x)) (strValues l)
  | [] => .nil
  | (_, _) :: r => .cons (.d (.str _ _)) (vrs_strValues (l := r))
end

noncomputable def lenA (σ : Store) (a : AV) : Option PyData := match seqOf σ a with
  | some xs => if xs.length ≤ 16777216 then some (.int xs.length) else none
  | none => none
noncomputable def listOfA (σ : Store) (a : AV) : Option PyData := match seqOf σ a with
  | some xs => if xs.length ≤ sizeLine then (allD xs).map .list else none
  | none => none
noncomputable def tupleOfA (σ : Store) (a : AV) : Option PyData := match listOf? σ a with
  | some xs => if xs.length ≤ sizeLine then (allD xs).map .tuple else none
  | none => none
noncomputable def maxA (a : AV) : Option PyData := match a with
  | .d (.list xs) => match intsD xs with
    | some (x :: r) => some (.int (maxI x r))
    | _ => none
  | _ => none
noncomputable def chrA : AV → Option PyData
  | .d (.int i) => if 0 ≤ i ∧ i.toNat ≤ 500 then some (.str ⟨#[i.toNat]⟩) else none
  | _ => none
noncomputable def ordA : AV → Option PyData
  | .d (.str ⟨⟨[c]⟩⟩) => some (.int c)
  | _ => none
noncomputable def lowerA : AV → Option PyData
  | .d (.str x) => if tooLong (PySem.Txt.lower x).length = false then some (.str (PySem.Txt.lower x)) else none
  | _ => none
noncomputable def splitA : AV → Option PyData
  | .d (.str x) => if x.length ≤ sizeLine ∧ (spaceWords x (x.length + 1)).length ≤ sizeLine then some (.list ((PySem.Txt.words x).map .str)) else none
  | _ => none
noncomputable def joinA (σ : Store) (x : Str) (a : AV) : Option PyData := match listOf? σ a with
  | some xs => match allD xs with
    | some ds => match strsD ds with
      | some ys => if (ys.map (·.length)).sum + ys.length * x.length ≤ 16777216 then some (.str (PySem.Txt.join x ys)) else none
      | none => none
    | none => none
  | none => none

section
variable {C : Cfg} {A : Around} {F : Heap} {ρ σ : Store} {s : Shared} {L : Addr} {names : List Str} {l : List (Option AV)} {P : AV → Store → Prop} {v w : Value} {a b : AV} {x : PyData}

theorem len_W (r : St F σ ρ s.heap) (y : VR F a v) (e : lenA σ a = some x) (p : P (.d x) σ) : Wp C A (call (.builtin "len") [v]) F ρ P s := by
  unfold lenA at e
  split at e
  · rename_i xs h1
    split at e
    · rename_i hz0
      have hz : (xs.length : Int) < 2 ^ 63 := by omega
      cases e
      obtain ⟨c, vs, rfl, h2, h3⟩ := y.seq r h1
      have hlen : vs.size = xs.length := by have := h3.length; simpa using this.symm
      rcases h2 with h2 | h2
      · exact len_list h2 (by rw [hlen]; exact hz) (Fin.now r (by rw [hlen]; exact .d (.int _ _)) p)
      · exact len_tuple h2 (by rw [hlen]; exact hz) (Fin.now r (by rw [hlen]; exact .d (.int _ _)) p)
    · cases e
  · cases e
theorem listOf_W (hl : ρ L = some (.fr names l)) (r : St F σ ρ s.heap) (y : VR F a v) (e : listOfA σ a = some x) (p : P (.d x) σ) : Wp C A (call (.type "list") [v]) F ρ P s := by
  unfold listOfA at e
  split at e
  · rename_i xs h1
    split at e
    · rename_i hz
      cases q : allD xs with
      | none => rw [q] at e; cases e
      | some ds =>
        rw [q] at e; cases e
        obtain ⟨c, vs, rfl, h2, h3⟩ := y.seq r h1
        have hlen : vs.size = xs.length := by have := h3.length; simpa using this.symm
        obtain ⟨bs, z⟩ := reads_of h3 q
        obtain ⟨m, T⟩ := r.lend hl
        have fin : ∀ D c' h', Fr {} L h' m → News {} L h' ((D, listOf vs c') :: allNews s.heap L) → (∀ q ∈ allNews s.heap L, q.1 < D) → (s.heap.objs.size ≤ D) → Fin F s ρ P (.ref D) { s with heap := h' } := fun D c' h' F' N' _ hD =>
          Fin.newIs r T F' (News.tail N') ⟨_, (N' _ (.head _)).1, fun F'' k g => .d (reads_list_at g rfl rfl (ReadsAll.keeps k z))⟩ hD p
        rcases h2 with h2 | h2
        · obtain ⟨o, ho, hc, n, hd⟩ := h2
          exact call_list_seq (hsz := by omega) c (.inl rfl) ho hc hd fun h' c' hk hD => fin _ c' h' (T.fr.keeps hk) (news_pushed T.fr T.news hk hD rfl) (fun q hq => Heap.lt_size (T.news q hq).1) (Nat.le_refl _)
        · obtain ⟨o, ho, hc, n, hd⟩ := h2
          exact call_list_seq (hsz := by omega) c (.inr rfl) ho hc hd fun h' c' hk hD => fin _ c' h' (T.fr.keeps hk) (news_pushed T.fr T.news hk hD rfl) (fun q hq => Heap.lt_size (T.news q hq).1) (Nat.le_refl _)
    · cases e
  · cases e
theorem tupleOf_W (r : St F σ ρ s.heap) (y : VR F a v) (e : tupleOfA σ a = some x) (p : P (.d x) σ) : Wp C A (call (.type "tuple") [v]) F ρ P s := by
  unfold tupleOfA at e
  split at e
  · rename_i xs h1
    split at e
    · rename_i hz
      cases q : allD xs with
      | none => rw [q] at e; cases e
      | some ds =>
        rw [q] at e; cases e
        obtain ⟨c, vs, rfl, h2, h3⟩ := list_at r y h1
        have hlen : vs.size = xs.length := by have := h3.length; simpa using this.symm
        obtain ⟨bs, z⟩ := reads_of h3 q
        refine call_tuple_list h2 (fun h' hk => ?_) (by omega)
        obtain ⟨F', k', g, r2⟩ := (r.keeps hk).pushF (o := { cls := .type "tuple", data := .seq vs }) rfl
        exact ⟨F', σ, _, _, _, rfl, k', r2, .d (reads_tuple_at g rfl rfl (ReadsAll.keeps k' z)), p⟩
    · cases e
  · cases e
theorem max_W {n : Nat} (o : OkA A n) (hl : ρ L = some (.fr names l)) (r : St F σ ρ s.heap) (y : VR F a v) (e : maxA a = some x) (p : P (.d x) σ) : Wp C A (call (.builtin "max") [v]) F ρ P s := by
  unfold maxA at e
  split at e
  · rename_i xs
    split at e
    · rename_i i ri q
      cases e
      obtain ⟨c, vs, rfl, h2, h3⟩ := y.list
      obtain ⟨m, T⟩ := r.lend hl
      refine max_list_N (vs := vs.toList) o.handled T.fr T.news (by simpa using isList_keeps r.r.fx h2) (intsAre_of h3 q) (by simp) fun h' M t tk F' N' hm hg => ?_
      have e : M = maxI i ri := by
        have h1 := maxI_ge ri i M hm
        have h2 := hg _ (maxI_mem ri i)
        omega
      subst e
      exact ⟨F, σ, _, h', tk, rfl, stays_refl F, T.back h' F' N', .d (.int _ _), p⟩
    · cases e
  · cases e
theorem chr_W (r : St F σ ρ s.heap) (y : VR F a v) (e : chrA a = some x) (p : P (.d x) σ) : Wp C A (call (.builtin "chr") [v]) F ρ P s := by
  unfold chrA at e
  split at e
  · split at e
    · rename_i h
      cases e
      obtain ⟨t, rfl⟩ := y.int
      exact PySem.P.chr_of_int (by simp; omega) (Fin.now r (.d (.str _ _)) p)
    · cases e
  · cases e
theorem ord_W (r : St F σ ρ s.heap) (y : VR F a v) (e : ordA a = some x) (p : P (.d x) σ) : Wp C A (call (.builtin "ord") [v]) F ρ P s := by
  unfold ordA at e
  split at e
  · cases e
    obtain ⟨t, rfl⟩ := y.str
    exact PySem.P.ord_of_char (Fin.now r (.d (.int _ _)) p)
  · cases e
theorem lower_W (r : St F σ ρ s.heap) (y : VR F a v) (e : lowerA a = some x) (p : P (.d x) σ) : Wp C A (call (.builtin "str.lower") [v]) F ρ P s := by
  unfold lowerA at e
  split at e
  · split at e
    · rename_i h
      cases e
      obtain ⟨t, rfl⟩ := y.str
      exact SC.lower h (Fin.now r (.d (.str _ _)) p)
    · cases e
  · cases e
theorem split_W (hl : ρ L = some (.fr names l)) (r : St F σ ρ s.heap) (y : VR F a v) (e : splitA a = some x) (p : P (.d x) σ) : Wp C A (call (.builtin "str.split") [v]) F ρ P s := by
  unfold splitA at e
  split at e
  · rename_i x
    split at e
    · rename_i h
      cases e
      obtain ⟨t, rfl⟩ := y.str
      have fin : ∀ (lv : List (Str × Tok)) tk, lv.map (·.1) = PySem.Txt.words x → Fin F s ρ P (.ref s.heap.objs.size) { s with toks := tk, heap := s.heap.push { cls := .type "list", data := .seq (strValues lv).toArray } } := fun lv tk hw => by
        obtain ⟨F', k', g, r2⟩ := r.pushF (o := { cls := .type "list", data := .seq (strValues lv).toArray }) rfl
        have z0 : VRs F' ((((PySem.Txt.words x).map PyData.str)).map AV.d) (strValues lv) := by
          have := vrs_strValues (F := F') (l := lv)
          rw [hw] at this
          simpa [Function.comp_def] using this
        obtain ⟨bs, z⟩ := z0.to_reads
        exact ⟨F', σ, _, _, tk, rfl, k', r2, .d (reads_list_at g rfl rfl (by simpa using z)), p⟩
      refine call_meets PySem.F.slot_str_split (typeIs_str _ _ _) PySem.F.entry_str_split (PySem.F.args_str_split_1 _) (meets_str_split_space x t h.1 h.2) ?_
      cases hw : spaceWords x (x.length + 1) == [(0, x.length)]
      · simp only [Bool.false_eq_true, if_false]
        rw [strsFrom_eq]
        exact fin (numbered s.toks (PySem.wordsOf x)) _ ((numbered_texts _ _).trans (if_neg (ne_true_of_eq_false hw)).symm)
      · simp only [if_true]
        exact fin [(x, t)] _ (if_pos hw).symm
    · cases e
  · cases e
theorem join_W {sep : Str} {t : Tok} (r : St F σ ρ s.heap) (y : VR F a v) (e : joinA σ sep a = some x) (p : P (.d x) σ) : Wp C A (call (.builtin "str.join") [.str sep t, v]) F ρ P s := by
  unfold joinA at e
  split at e
  · rename_i xs h1
    split at e
    · rename_i ds h2
      split at e
      · rename_i ys h3
        split at e
        · rename_i hz
          cases e
          obtain ⟨c, vs, rfl, i1, j1⟩ := list_at r y h1
          rw [allD_eq h2] at j1
          exact join_list i1 (strsAre_of j1 h3) hz fun t' k => Fin.now r (.d (.str _ _)) p
        · cases e
      · cases e
    · cases e
  · cases e

theorem fits_of {k : Int} (h0 : 0 ≤ k) (h1 : k < 2 ^ 63) : Builtin.List.listFitsIndex k = true := by
  unfold Builtin.List.listFitsIndex
  simp only [Bool.and_eq_true, decide_eq_true_eq]
  omega
/-! lists that change -/
theorem mut_at {c : Addr} {xs : List AV} (r : St F σ ρ s.heap) (h : σ c = some (.list xs)) : ∃ vs n, s.heap.get? c = some { cls := .type "list", data := .seq vs n } ∧ VRs F xs vs.toList := by
  obtain ⟨_, o, ho, vs, n, rfl, y⟩ := r.left h
  exact ⟨vs, n, ho, y⟩
theorem append_W {c : Addr} {xs : List AV} (r : St F σ ρ s.heap) (h : σ c = some (.list xs)) (y : VR F a v) (hz : xs.length ≤ sizeLine) (p : P (.d .none) (σ.set c (.list (xs ++ [a])))) : Wp C A (call (.builtin "list.append") [.ref c, v]) F ρ P s := by
  obtain ⟨vs, n, ho, z⟩ := mut_at r h
  have hlen : vs.size = xs.length := by have := z.length; simpa using this.symm
  refine append_at ho (fun h' hs ho' => ?_) (by omega)
  exact ⟨F, _, _, h', s.toks, rfl, stays_refl F, r.sameL (ao' := .list (xs ++ [a])) h hs ho' ⟨_, _, rfl, by simpa using z.append (.cons y .nil)⟩, .d .none, p⟩
theorem VRs.snoc {as : List AV} : ∀ {vs : List Value}, VRs F (as ++ [a]) vs → ∃ ws w, vs = ws ++ [w] ∧ VRs F as ws ∧ VR F a w := by
  induction as with
  | nil => intro vs h; cases h with | cons x r => cases r; exact ⟨[], _, rfl, .nil, x⟩
  | cons b as ih => intro vs h; cases h with | cons x r => obtain ⟨ws, w, rfl, h1, h2⟩ := ih r; exact ⟨_ :: ws, w, rfl, .cons x h1, h2⟩
theorem pop_W {c : Addr} {xs : List AV} (r : St F σ ρ s.heap) (h : σ c = some (.list (xs ++ [a]))) (hz : xs.length < sizeLine) (p : P a (σ.set c (.list xs))) : Wp C A (call (.builtin "list.pop") [.ref c]) F ρ P s := by
  obtain ⟨vs, n, ho, z⟩ := mut_at r h
  have hlen : vs.size = xs.length + 1 := by have := z.length; simpa using this.symm
  obtain ⟨ws, w, e, h1, h2⟩ := z.snoc
  have e' : vs = (ws ++ [w]).toArray := by rw [← e, Array.toArray_toList]
  subst e'
  have hl : ws.length = xs.length := by simpa using hlen
  refine call_meets PySem.F.slot_list_pop ⟨_, ho, rfl⟩ PySem.F.entry_list_pop (PySem.F.args_list_pop_1 _) (PySem.MeetsSeq.list_pop_last c (ws ++ [w]).toArray n w (by simp) (by simp; omega)) ⟨ho, ?_⟩
  refine ⟨F, _, _, _, s.toks, rfl, stays_refl F, r.updL (ao' := .list xs) h ho ⟨ws.toArray, n + 1, ?_, by simpa using h1⟩, h2, p⟩
  have e1 : (ws ++ [w]).eraseIdx ws.length = ws := by rw [List.eraseIdx_append_of_length_le (Nat.le_refl _)]; simp
  unfold Obj.mapSeq
  simp [Array.eraseIdxIfInBounds, e1]
theorem insert_W {c : Addr} {xs : List AV} {k : Int} {t : Tok} (r : St F σ ρ s.heap) (h : σ c = some (.list xs)) (y : VR F a v) (hk : k = (xs.length : Int)) (hz : xs.length ≤ sizeLine) (p : P (.d .none) (σ.set c (.list (xs ++ [a])))) : Wp C A (call (.builtin "list.insert") [.ref c, .int k t, v]) F ρ P s := by
  obtain ⟨vs, n, ho, z⟩ := mut_at r h
  have hlen : vs.size = xs.length := by have := z.length; simpa using this.symm
  have hf : Builtin.List.listFitsIndex k = true := by
    have : (xs.length : Int) < 2 ^ 63 := Int.lt_of_le_of_lt (Int.ofNat_le.mpr hz) (by decide)
    exact fits_of (by omega) (by omega)
  have hf' : ¬(!Builtin.List.listFitsIndex k) = true := by rw [hf]; exact Bool.false_ne_true
  have hz' : vs.size ≤ sizeLine := by omega
  refine call_meets PySem.F.slot_list_insert ⟨_, ho, rfl⟩ PySem.F.entry_list_insert (PySem.F.args_list_insert_3 _ _ _) (PySem.AutoSeq1.list_insert_list_int_val_1 c vs n k t v hf' hz') ⟨ho, ?_⟩
  subst hk
  refine ⟨F, _, _, _, s.toks, rfl, stays_refl F, r.updL (ao' := .list (xs ++ [a])) h ho ⟨vs.push v, n + 1, ?_, by simpa using z.append (.cons y .nil)⟩, .d .none, p⟩
  unfold Obj.mapSeq
  have e1 : ¬ ((vs.size : Int) < 0) := by omega
  simp only [← hlen]
  simp [e1]
end
end Mine
end

section
set_option maxRecDepth 100000
namespace Mine

noncomputable def AV.notV : AV → Bool
  | .v _ => false
  | _ => true
noncomputable def putA (x : Str) (a : AV) : List (Str × AV) → List (Str × AV)
  | [] => [(x, a)]
  | p :: r => if p.1 == x then (p.1, a) :: r else p :: putA x a r
section
variable {F : Heap}
theorem EntR.get_some {x : Str} {as : List (Str × AV)} {es : List DictEntry} {y : Str} {a : AV} (k : EntR F as es) : as.find? (·.1 == x) = some (y, a) → ∃ v, getL x es = some (some v) ∧ VR F a v := by
  induction k with
  | nil => intro q; cases q
  | @cons z b hs t v as es h r ih =>
    intro q
    unfold getL
    rw [List.find?_cons] at q ⊢
    cases zx : (z == x) with
    | true =>
      rw [show ({ hash := hs, key := Value.str z t, val := v } : DictEntry).key.isStr x = true from zx]
      simp only [zx] at q; cases q; exact ⟨v, rfl, h⟩
    | false =>
      rw [show ({ hash := hs, key := Value.str z t, val := v } : DictEntry).key.isStr x = false from zx]
      simp only [zx] at q
      obtain ⟨v', h1, h2⟩ := ih q
      refine ⟨v', ?_, h2⟩
      unfold getL at h1
      cases w : es.find? (·.key.isStr x) with
      | some e => rw [w] at h1; exact h1
      | none =>
        rw [w] at h1
        simp only at h1
        split at h1 <;> cases h1
theorem EntR.get_none {x : Str} {as : List (Str × AV)} {es : List DictEntry} (h : EntR F as es) (q : ∀ p ∈ as, (p.1 == x) = false) : getL x es = some none := by
  have h1 : es.find? (·.key.isStr x) = none ∧ es.any (·.refKey) = false := by
    induction h with
    | nil => exact ⟨rfl, rfl⟩
    | @cons z a hs t v as es y r ih =>
      obtain ⟨i1, i2⟩ := ih fun p hp => q p (.tail _ hp)
      have e : (DictEntry.mk hs (.str z t) v).key.isStr x = false := q (z, a) (.head _)
      refine ⟨?_, ?_⟩
      · rw [List.find?_cons, e]; exact i1
      · rw [List.any_cons, i2]; rfl
  unfold getL
  rw [h1.1, h1.2]; rfl
theorem EntR.length {as : List (Str × AV)} {es : List DictEntry} (h : EntR F as es) : es.length = as.length := by
  induction h with
  | nil => rfl
  | cons _ _ ih => simp [ih]
theorem EntR.get_is {x : Str} {as : List (Str × AV)} {es : List DictEntry} (h : EntR F as es) : (getL x es).isSome = true := by
  cases q : as.find? (·.1 == x) with
  | some p => obtain ⟨v, h1, _⟩ := h.get_some (y := p.1) (a := p.2) q; rw [h1]; rfl
  | none => rw [h.get_none fun p hp => by simpa using List.find?_eq_none.mp q p hp]; rfl
theorem EntR.put {x : Str} {a : AV} {v : Value} {hs : Int} {t : Tok} : ∀ {as : List (Str × AV)} {es : List DictEntry}, EntR F as es → VR F a v → EntR F (putA x a as) (putL x hs (.str x t) v es)
  | _, _, .nil, y => .cons y .nil
  | (z, b) :: as, _, .cons (h := hs') (t := t') h r, y => by
    show EntR F (if (z == x) then _ else _) (if (z == x) then _ else _)
    cases zx : (z == x) with
    | true => exact .cons y r
    | false => exact .cons h (EntR.put r y)
end
theorem zip_find {x : Str} {a : AV} : ∀ {ns : List Str} {vs : List AV} {i : Nat}, ns.Nodup → ns[i]? = some x → vs[i]? = some a → (ns.zip vs).find? (·.1 == x) = some (x, a)
  | [], _, _, _, h, _ => by simp at h
  | _ :: _, [], _, _, _, h => by simp at h
  | n :: ns, v :: vs, 0, _, h, q => by simp at h q; subst h; subst q; simp
  | n :: ns, v :: vs, i + 1, nd, h, q => by
    have h' : ns[i]? = some x := by simpa using h
    have hm : x ∈ ns := List.mem_of_getElem? h'
    have hne : (n == x) = false := by
      rw [beq_eq_false_iff_ne]; intro e; subst e; exact (List.nodup_cons.mp nd).1 hm
    rw [List.zip_cons_cons, List.find?_cons, hne]
    exact zip_find (List.nodup_cons.mp nd).2 h' (by simpa using q)
theorem zip_put {x : Str} {a : AV} : ∀ {ns : List Str} {vs : List AV} {i : Nat}, ns.Nodup → ns[i]? = some x → i < vs.length → putA x a (ns.zip vs) = ns.zip (vs.set i a)
  | [], _, _, _, h, _ => by simp at h
  | _ :: _, [], _, _, _, h => by simp at h
  | n :: ns, v :: vs, 0, _, h, _ => by simp at h; subst h; simp [putA]
  | n :: ns, v :: vs, i + 1, nd, h, q => by
    have h' : ns[i]? = some x := by simpa using h
    have hm : x ∈ ns := List.mem_of_getElem? h'
    have hne : (n == x) = false := by
      rw [beq_eq_false_iff_ne]; intro e; subst e; exact (List.nodup_cons.mp nd).1 hm
    rw [List.zip_cons_cons, List.set_cons_succ, List.zip_cons_cons]
    show (if (n == x) = true then _ else _) = _
    rw [hne]
    have := zip_put (a := a) (List.nodup_cons.mp nd).2 h' (by simpa using q)
    simp only [Bool.false_eq_true, if_false, this]
theorem zip_add {x : Str} {a : AV} : ∀ {ns : List Str} {vs : List AV}, ns.Nodup → ns[vs.length]? = some x → putA x a (ns.zip vs) = ns.zip (vs ++ [a])
  | [], _, _, h => by simp at h
  | n :: ns, [], _, h => by simp at h; subst h; simp [putA]
  | n :: ns, v :: vs, nd, h => by
    have h' : ns[vs.length]? = some x := by simpa using h
    have hm : x ∈ ns := List.mem_of_getElem? h'
    have hne : (n == x) = false := by
      rw [beq_eq_false_iff_ne]; intro e; subst e; exact (List.nodup_cons.mp nd).1 hm
    rw [List.zip_cons_cons, List.cons_append, List.zip_cons_cons]
    show (if (n == x) = true then _ else _) = _
    rw [hne]
    have := zip_add (a := a) (List.nodup_cons.mp nd).2 h'
    simp only [Bool.false_eq_true, if_false, this]

noncomputable def attrIn (K : Frag) (c : Addr) (x : Str) : Bool := (findIn K (.ref c) x == some none) && (takerIn K c x == some none)
noncomputable def clsOk (K : Frag) (c : Addr) : Bool := plainGet K c "" && hasDictIn K c && plainOver K c && (findIn K (.ref c) "__setattr__" == some (some (.builtin "object.__setattr__"))) && (schema c).all (attrIn K c) && decide (schema c).Nodup && decide ((schema c).length ≤ 900)
noncomputable def methIn (K : Frag) (c : Addr) (x : Str) (f : Addr) : Bool := (findIn K (.ref c) x == some (some (.ref f))) && isFn K (.ref f) && keepIn K (.ref f) && !(schema c).contains x
structure ClsOk (K : Frag) (c : Addr) : Prop where
  get : ∀ x, plainGet K c x = true
  dict : hasDictIn K c = true
  over : plainOver K c = true
  set : findIn K (.ref c) "__setattr__" = some (some (.builtin "object.__setattr__"))
  attr : ∀ x ∈ schema c, findIn K (.ref c) x = some none ∧ takerIn K c x = some none
  nodup : (schema c).Nodup
  small : (schema c).length ≤ 900
theorem ClsOk.of {K : Frag} {c : Addr} (h : clsOk K c = true) : ClsOk K c := by
  unfold clsOk at h
  simp only [Bool.and_eq_true, decide_eq_true_eq, beq_iff_eq] at h
  obtain ⟨⟨⟨⟨⟨⟨h1, h2⟩, h3⟩, h4⟩, h5⟩, h6⟩, h7⟩ := h
  refine ⟨fun _ => h1, h2, h3, h4, fun x hx => ?_, h6, h7⟩
  have := List.all_eq_true.mp h5 x hx
  unfold attrIn at this
  simpa using this

section
variable {C : Cfg} {A : Around} {F : Heap} {ρ σ : Store} {s : Shared} {L : Addr} {names : List Str} {l : List (Option AV)} {P : AV → Store → Prop} {v w : Value} {a b : AV} {c x dx : Addr} {as : List AV} {name : Str} {i : Nat}

theorem inst_at (r : St F σ ρ s.heap) (h1 : σ x = some (.inst c dx)) (h2 : σ dx = some (.ns c as)) : ∃ es n, InstAt s.heap x (instObj c dx) c (some (dictOf es n)) ∧ s.heap.get? dx = some (dictOf es n) ∧ as.length ≤ (schema c).length ∧ EntR F ((schema c).zip as) es := by
  obtain ⟨_, o, ho, y⟩ := r.left h1
  obtain ⟨_, o2, ho2, es, n, rfl, hl, z⟩ := r.left h2
  cases y
  exact ⟨es, n, ⟨ho, rfl, rfl, ho2⟩, ho2, hl, z⟩
theorem attr_W {e : Bool} (G : Gd C F) (K : ClsOk C.K c) (hl : ρ L = some (.fr names l)) (r : St F σ ρ s.heap) (h1 : σ x = some (.inst c dx)) (h2 : σ dx = some (.ns c as)) (hx : (schema c)[i]? = some name) (ha : as[i]? = some a) (nv : a.notV = true) (p : P a σ) :
    Wp C A (getAttr (.ref x) name e) F ρ P s := by
  obtain ⟨es, n, I, _, _, z⟩ := inst_at r h1 h2
  obtain ⟨v, q1, q2⟩ := z.get_some (zip_find K.nodup hx ha)
  obtain ⟨m, T⟩ := r.lend hl
  have X := G.1.keeps r.r.fx
  have hv : handedIn v = true := by
    cases q2 with
    | d q => cases q <;> rfl
    | ref => rfl
    | v => cases nv
    | rng => rfl
  exact PySem.W.get_value X I (plainGet_of (K.get name)).1 (findObj_own K.dict (K.attr _ (List.mem_of_getElem? hx)).1 rfl q1) hv (Fin.now r q2 p)
theorem setAttr_W (G : Gd C F) (K : ClsOk C.K c) (hl : ρ L = some (.fr names l)) (r : St F σ ρ s.heap) (h1 : σ x = some (.inst c dx)) (h2 : σ dx = some (.ns c as)) (hx : (schema c)[i]? = some name) (y : VR F a v) {as' : List AV}
    (hi : (i < as.length ∧ as' = as.set i a) ∨ (i = as.length ∧ as' = as ++ [a])) {Q : Unit → Shared → Prop}
    (p : ∀ h' tk', St F (σ.set dx (.ns c as')) ρ h' → Q () { s with heap := h', toks := tk' }) :
    wpAny (model C.prog C.w) A (setAttr (.ref x) name v) Q Bot s := by
  obtain ⟨es, n, I, hd, hlen, z⟩ := inst_at r h1 h2
  obtain ⟨m, T⟩ := r.lend hl
  have hFd := (r.left h2).1
  have hdL : dx ≠ L := fun q => by
    subst q
    rcases r.dj dx with q | q
    · rw [h2] at q; cases q
    · rw [hl] at q; cases q
  have N2 : News {} L s.heap ((dx, dictOf es n) :: (allNews s.heap L).filter (fun p => decide (p.1 ≠ dx))) := fun p hp => by
    rcases List.mem_cons.mp hp with rfl | hp
    · exact ⟨hd, hdL, rfl⟩
    · exact T.news p (List.mem_filter.mp hp).1
  have U : Upd dx (dictOf es n) (dictOf (putL name (PyData.keyHash C.w.params name) (.str name (s.toks + 1)) v es) (putN name es n)) ((dx, dictOf es n) :: (allNews s.heap L).filter (fun p => decide (p.1 ≠ dx)))
      ((dx, dictOf (putL name (PyData.keyHash C.w.params name) (.str name (s.toks + 1)) v es) (putN name es n)) :: (allNews s.heap L).filter (fun p => decide (p.1 ≠ dx))) :=
    .head fun p hp => of_decide_eq_true (List.mem_filter.mp hp).2
  have z2 := z.put (x := name) (hs := PyData.keyHash C.w.params name) (t := s.toks + 1) y
  have e2 : putA name a ((schema c).zip as) = (schema c).zip as' := by
    rcases hi with ⟨hi, rfl⟩ | ⟨rfl, rfl⟩
    · exact zip_put K.nodup hx hi
    · exact zip_add K.nodup hx
  have hi2 : i < (schema c).length := (List.getElem?_eq_some_iff.mp hx).1
  have hl2 : as'.length ≤ (schema c).length := by
    rcases hi with ⟨hi, rfl⟩ | ⟨rfl, rfl⟩
    · simpa using hlen
    · simp; omega
  rw [e2] at z2
  have X := G.1.keeps r.r.fx
  have N3 : News {} L s.heap ([] ++ (dx, dictOf es n) :: (allNews s.heap L).filter (fun p => decide (p.1 ≠ dx))) := N2
  refine set_plain X I K.set (osa_dict (s := { s with toks := s.toks + 1 }) T.fr N3 X I rfl K.over (K.attr _ (List.mem_of_getElem? hx)).2 K.dict z.get_is (fun _ h => nomatch h) (fun p hp => of_decide_eq_true (List.mem_filter.mp hp).2)
    (by rw [putName_dict]) rfl (by rw [z2.length]; simp; have := K.small; omega) fun h' Fr' N' => p _ _ ?_)
  have at' : ∀ b o, b ≠ dx → b ≠ L → s.heap.get? b = some o → h'.get? b = some o := fun b o h3 h4 e => (N' (b, o) (List.mem_append.mpr (.inr (.tail _ (List.mem_filter.mpr ⟨mem_allNews.mpr ⟨h4, e⟩, decide_eq_true h3⟩))))).1
  have hn : ρ dx = none := by
    rcases r.dj dx with q | q
    · rw [h2] at q; cases q
    · exact q
  refine ⟨r.dj.setL' h2, ?_⟩
  rw [un_setL]
  refine ⟨fun b o e => ?_, fun b ao e => ?_⟩
  · have h3 : b ≠ dx := fun q => by rw [q, hFd] at e; cases e
    have h4 : b ≠ L := fun q => by rw [q, (r.right hl).1] at e; cases e
    exact at' b o h3 h4 (r.r.fx b o e)
  · by_cases q : b = dx
    · subst q
      rw [Store.set_self] at e; cases e
      exact ⟨hFd, _, (N' _ (List.mem_append.mpr (.inr (.head _)))).1, _, _, rfl, hl2, z2⟩
    · rw [Store.set_ne _ _ q] at e
      by_cases q2 : b = L
      · subst q2
        rw [un_right r.dj hl] at e; cases e
        exact ⟨(r.right hl).1, T.own hl Fr'⟩
      · obtain ⟨h5, o, h6, h7⟩ := r.r.st b ao e
        exact ⟨h5, o, at' b o q q2 h6, h7⟩
end
end Mine
end

section
set_option maxRecDepth 100000
namespace Mine

noncomputable def rngLen (a b c : Int) : Nat := (Builtin.Range.rangeSize a b c).toNat
noncomputable def iterA : AV → Option (List AV)
  | .d (.list xs) => if xs.length ≤ sizeLine then some (xs.map .d) else none
  | .d (.tuple xs) => if xs.length ≤ sizeLine then some (xs.map .d) else none
  | .d (.str x) => if x.length ≤ sizeLine then some (x.cps.toList.map fun c => .d (.str ⟨#[c]⟩)) else none
  | .rng a b c => if Builtin.Range.small a b c = true ∧ c ≠ 0 ∧ 0 ≤ Builtin.Range.rangeSize a b c ∧ rngLen a b c ≤ sizeLine then some ((List.range (rngLen a b c)).map fun (i : Nat) => .d (.int (a + i * c))) else none
  | _ => none

noncomputable def ownless (o : Obj) : Prop := ∃ n, o.cls = .type n ∧ ["enumerate", "zip", "dict_itemiterator", "dict_reverseitemiterator", "odict_iterator", "itertools.zip_longest", "itertools.pairwise"].contains n = false
structure Its (C : Cfg) (F : Heap) (I : Addr) (items : List AV) (Stt : Nat → Heap → Prop) : Prop where
  walks : ∃ fp P, (∀ A : Around, A.handled = none → Walks C.prog C.w A I fp [I] items.length P Stt) ∧ (∀ b ∈ fp, b = I ∨ ∃ o, F.get? b = some o) ∧ (∀ i v, P i v → ∃ a, items[i]? = some a ∧ VR F a v)
  alive : ∀ i h, Stt i h → ∃ o, h.get? I = some o ∧ ownless o
theorem Its.mono {C : Cfg} {F F' : Heap} {I : Addr} {items : List AV} {Stt : Nat → Heap → Prop} (x : Its C F I items Stt) (k : F.StaysIn F') : Its C F' I items Stt := by
  obtain ⟨⟨fp, P, h1, h2, h3⟩, h4⟩ := x
  exact ⟨⟨fp, P, h1, fun b hb => (h2 b hb).imp id fun ⟨o, e⟩ => ⟨o, k _ _ e⟩, fun i v hv => let ⟨a, e, y⟩ := h3 i v hv; ⟨a, e, y.mono k⟩⟩, h4⟩

theorem walks_lt {prog : Program} {w : World} {A : Around} {I : Addr} {fp wr : List Addr} {n : Nat} {P : Nat → Value → Prop} {St : Nat → Heap → Prop} (W : Walks prog w A I fp wr n P St) : Walks prog w A I fp wr n (fun i v => i < n ∧ P i v) St :=
  { W with item := fun i s Q E hi st hQ => W.item i s Q E hi st fun v h' tk hp => hQ v h' tk ⟨hi, hp⟩ }

section
variable {C : Cfg} {A : Around} {F : Heap} {ρ σ : Store} {s : Shared} {v : Value} {a : AV} {items : List AV}

noncomputable def Begun (C : Cfg) (F : Heap) (σ ρ : Store) (s : Shared) (items : List AV) (it : Value) (s' : Shared) : Prop :=
  ∃ I h' oI Stt, it = .ref I ∧ s' = { s with heap := h' } ∧ Its C F I items Stt ∧ Stt 0 h' ∧ St F σ (ρ.set I (.is (· = oI))) h' ∧ σ I = none ∧ ρ I = none ∧ F.get? I = none

theorem begun_push {o : Obj} {Stt : Nat → Heap → Prop} (r : St F σ ρ s.heap) (ho : o.isFreed = false) (h1 : Its C F s.heap.objs.size items Stt) (h2 : Stt 0 (s.heap.push o)) : Begun C F σ ρ s items (.ref s.heap.objs.size) { s with heap := s.heap.push o } :=
  ⟨_, _, o, Stt, rfl, rfl, h1, h2, r.pushR ⟨rfl, ho⟩, r.fresh.1, r.fresh.2, r.r.freshF⟩

theorem iter_W {n : Nat} (_o : OkA A n) (r : St F σ ρ s.heap) (y : VR F a v) (e : iterA a = some items) : wpAny (model C.prog C.w) A (pyIter v) (Begun C F σ ρ s items) Bot s := by
  unfold iterA at e
  split at e
  · rename_i xs
    split at e
    · rename_i hz
      cases e
      obtain ⟨c, vs, rfl, h1, h2⟩ := y.list
      have hl := isList_keeps r.r.fx h1
      have hc : c ≠ s.heap.objs.size := by
        obtain ⟨o, ho, _⟩ := hl; exact Nat.ne_of_lt (Heap.lt_size ho)
      have hlen : vs.size = (xs.map AV.d).length := by have := h2.length; simpa using this.symm
      refine wpAny_pyIter_list hl (begun_push (Stt := fun i h => h.IsListIter s.heap.objs.size c i ∧ h.IsList c vs) r rfl ⟨⟨_, _, fun A' hA => hlen ▸ Walks.list hA _ c hc vs, ?_, ?_⟩, fun i h ⟨⟨o, ho, hc, _⟩, _⟩ => ⟨o, ho, _, hc, by decide⟩⟩ ⟨⟨_, Heap.get?_push_size _ rfl, rfl, rfl⟩, hl.push _⟩)
      · intro b hb
        simp only [List.mem_cons, List.not_mem_nil, or_false] at hb
        rcases hb with rfl | rfl
        · exact .inl rfl
        · obtain ⟨o, ho, _⟩ := h1; exact .inr ⟨o, ho⟩
      · intro i v hv
        rcases h2.get i with ⟨_, q⟩ | ⟨a, v', q1, q2, q3⟩
        · have : vs.toList[i]? = some v := by simpa using hv
          rw [q] at this; cases this
        · have : vs.toList[i]? = some v := by simpa using hv
          rw [q2] at this; cases this; exact ⟨a, q1, q3⟩
    · cases e
  · rename_i xs
    split at e
    · rename_i hz
      cases e
      obtain ⟨c, vs, rfl, h1, h2⟩ := y.tuple
      have hl : s.heap.IsTuple c vs := isTup_keeps r.r.fx h1
      have hc : c ≠ s.heap.objs.size := by
        obtain ⟨o, ho, _⟩ := hl; exact Nat.ne_of_lt (Heap.lt_size ho)
      have hlen : vs.size = (xs.map AV.d).length := by have := h2.length; simpa using this.symm
      refine wpAny_pyIter_tuple hl (begun_push (Stt := fun i h => h.IsTupleIter s.heap.objs.size c i ∧ h.IsTuple c vs) r rfl ⟨⟨_, _, fun A' hA => hlen ▸ Walks.tuple hA _ c hc vs, ?_, ?_⟩, fun i h ⟨⟨o, ho, hc, _⟩, _⟩ => ⟨o, ho, _, hc, by decide⟩⟩ ⟨⟨_, Heap.get?_push_size _ rfl, rfl, rfl⟩, hl.push _⟩)
      · intro b hb
        simp only [List.mem_cons, List.not_mem_nil, or_false] at hb
        rcases hb with rfl | rfl
        · exact .inl rfl
        · obtain ⟨o, ho, _⟩ := h1; exact .inr ⟨o, ho⟩
      · intro i v hv
        rcases h2.get i with ⟨_, q⟩ | ⟨a, v', q1, q2, q3⟩
        · have : vs.toList[i]? = some v := by simpa using hv
          rw [q] at this; cases this
        · have : vs.toList[i]? = some v := by simpa using hv
          rw [q2] at this; cases this; exact ⟨a, q1, q3⟩
    · cases e
  · rename_i x
    split at e
    · cases e
      obtain ⟨t, rfl⟩ := y.str
      have hlen : x.cps.size = (x.cps.toList.map fun c => AV.d (.str ⟨#[c]⟩)).length := by simp
      have fp : ∀ b ∈ [s.heap.objs.size], b = s.heap.objs.size ∨ ∃ o, F.get? b = some o := fun b hb => .inl (by simpa using hb)
      have pv : ∀ i v, SignAt x i v → ∃ a, (x.cps.toList.map fun c => AV.d (.str ⟨#[c]⟩))[i]? = some a ∧ VR F a v := fun i v ⟨c, u, h1, h2⟩ => by
        subst h2
        exact ⟨.d (.str ⟨#[c]⟩), by simp only [List.getElem?_map, Array.getElem?_toList, h1]; rfl, .d (.str _ _)⟩
      cases ha : x.cps.all (· < 128)
      · exact wpAny_pyIter_wide ha (begun_push r rfl ⟨⟨_, _, fun A' hA => hlen ▸ Walks.strWide hA _ x t, fp, pv⟩, fun i h ⟨o, ho, hc, _⟩ => ⟨o, ho, _, hc, by decide⟩⟩ ⟨_, Heap.get?_push_size _ rfl, rfl, rfl⟩)
      · exact wpAny_pyIter_ascii ha (begun_push r rfl ⟨⟨_, _, fun A' hA => hlen ▸ Walks.strAscii hA _ x t, fp, pv⟩, fun i h ⟨o, ho, hc, _⟩ => ⟨o, ho, _, hc, by decide⟩⟩ ⟨_, Heap.get?_push_size _ rfl, rfl, rfl⟩)
    · cases e
  · rename_i b c d
    split at e
    · rename_i hz
      cases e
      cases y with | rng y =>
      have hr := r.r.fx _ _ y
      have hn : ((rngLen b c d : Nat) : Int) = Builtin.Range.rangeSize b c d := Int.toNat_of_nonneg hz.2.2.1
      have hlen : rngLen b c d = ((List.range (rngLen b c d)).map fun (i : Nat) => AV.d (.int (b + i * d))).length := by simp
      refine wpAny_pyIter_range hr hz.1 (begun_push (Stt := fun i h => IsRangeIter h s.heap.objs.size (b + (i : Nat) * d) (((rngLen b c d : Nat) : Int) - (i : Nat)) d) r rfl ⟨⟨[s.heap.objs.size], fun i v => i < rngLen b c d ∧ ∃ t, v = .int (b + i * d) t, fun A' hA => ?_, ?_, ?_⟩, fun i h q => ⟨_, q, _, rfl, by decide⟩⟩ ?_)
      · have W := walks_lt (Walks.range (prog := C.prog) (w := C.w) hA s.heap.objs.size b d (rngLen b c d))
        rw [← hlen]
        exact W
      · intro b hb; exact .inl (by simpa using hb)
      · intro i v ⟨hi, t, hv⟩
        subst hv
        exact ⟨.d (.int (b + i * d)), by simp [hi], .d (.int _ _)⟩
      · show Heap.get? _ _ = _
        rw [hn]
        simpa using Heap.get?_push_size s.heap (o := { cls := .type "range_iterator", data := .fields #[rawInt b, rawInt (Builtin.Range.rangeSize b c d), rawInt d] }) rfl
    · cases e
  · cases e
end
end Mine
end

section
set_option maxRecDepth 100000
namespace Mine

section
variable {F : Heap} {σ ρ : Store} {h h' : Heap} {a : Addr} {ao ao' : AO} {o' : Obj}
theorem St.chR (x : St F σ ρ h) (e : ρ a = some ao) (k : ∀ b o, b ≠ a → h.get? b = some o → h'.get? b = some o) (ho : h'.get? a = some o') (y : OR F ao' o') : St F σ (ρ.set a ao') h' := by
  have hn : σ a = none := by
    rcases x.dj a with q | q
    · exact q
    · rw [e] at q; cases q
  have hF := (x.right e).1
  refine ⟨x.dj.setR' e, ?_⟩
  rw [un_setR _ hn]
  refine ⟨fun b o q => k b o (fun z => by rw [z, hF] at q; cases q) (x.r.fx b o q), fun b ao'' q => ?_⟩
  by_cases z : b = a
  · subst z; rw [Store.set_self] at q; cases q; exact ⟨hF, o', ho, y⟩
  · rw [Store.set_ne _ _ z] at q
    obtain ⟨h1, o, h2, h3⟩ := x.r.st b _ q
    exact ⟨h1, o, k b o z h2, h3⟩
theorem St.dropR (x : St F σ ρ h) (e : ρ a = some ao) (k : ∀ b o, b ≠ a → h.get? b = some o → h'.get? b = some o) : St F σ (ρ.del a) h' := by
  have hn : σ a = none := by
    rcases x.dj a with q | q
    · exact q
    · rw [e] at q; cases q
  have hF := (x.right e).1
  refine ⟨fun b => ?_, fun b o q => k b o (fun z => by rw [z, hF] at q; cases q) (x.r.fx b o q), fun b ao'' q => ?_⟩
  · rcases x.dj b with q | q
    · exact .inl q
    · right; unfold Store.del; split; rfl; exact q
  · have hb : b ≠ a := fun z => by
      subst z; unfold un Store.del at q; rw [hn] at q; simp at q
    have q' : un σ ρ b = some ao'' := by
      rw [← q]; unfold un Store.del; simp [hb]
    obtain ⟨h1, o, h2, h3⟩ := x.r.st b _ q'
    exact ⟨h1, o, k b o hb h2, h3⟩
end
theorem Store.del_set {ρ : Store} {a : Addr} {o : AO} (h : ρ a = none) : (ρ.set a o).del a = ρ := by
  funext b; unfold Store.del Store.set
  by_cases e : b = a
  · subst e; simp [h]
  · simp [e]
theorem Store.set_comm {ρ : Store} {a b : Addr} {o p : AO} (h : a ≠ b) : (ρ.set a o).set b p = (ρ.set b p).set a o := by
  funext c; unfold Store.set
  by_cases e : c = a
  · subst e; simp [h]
  · simp [e]
theorem Store.del_setne {ρ : Store} {a b : Addr} {o : AO} (h : a ≠ b) : (ρ.set a o).del b = (ρ.del b).set a o := by
  funext c; unfold Store.del Store.set
  by_cases e : c = a
  · subst e; simp [h]
  · simp [e]

section
variable {C : Cfg} {A : Around} {F : Heap} {ρ σ : Store} {s : Shared} {v : Value} {a : AV} {items : List AV} {I : Addr} {oI : Obj} {Stt : Nat → Heap → Prop} {i n : Nat}

theorem next_W (o : OkA A n) (X : Its C F I items Stt) (hI : ρ I = some (.is (· = oI))) (st : Stt i s.heap) (r : St F σ ρ s.heap) {Q : Option Value → Shared → Prop} {E : Value → Shared → Prop}
    (hs : ∀ a v h' tk' oI', items[i]? = some a → VR F a v → Stt (i + 1) h' → h'.get? I = some oI' → ownless oI' → St F σ (ρ.set I (.is (· = oI'))) h' → Q (some v) { s with heap := h', toks := tk' })
    (hn : i = items.length → ∀ h' tk', St F σ (ρ.del I) h' → Q none { s with heap := h', toks := tk' }) (hi : i ≤ items.length) :
    wpAny (model C.prog C.w) A (pyNext (.ref I)) Q E s := by
  obtain ⟨⟨fp, P, h1, h2, h3⟩, h4⟩ := X
  have W := h1 A o.handled
  by_cases q : i < items.length
  · refine W.item i s Q E q st fun v h' tk hp st' hk => ?_
    obtain ⟨a, e, y⟩ := h3 i v hp
    obtain ⟨o', ho', hw⟩ := h4 _ _ st'
    exact hs a v h' tk o' e y st' ho' hw (r.chR hI (fun b o hb e => hk b o (by simpa using hb) e) ho' ⟨rfl, get_alive ho'⟩)
  · have e : i = items.length := by omega
    subst e
    exact W.done s Q E st fun h' tk hk => hn rfl h' tk (r.dropR hI fun b o hb e => hk b o (by simpa using hb) e)
theorem Its.frame (X : Its C F I items Stt) (A : Around) (hA : A.handled = none) {h h' : Heap} (st : Stt i h) (k : F.StaysIn h') (e : h.get? I = some oI) (e' : h'.get? I = some oI) (k0 : F.StaysIn h) : Stt i h' := by
  obtain ⟨⟨fp, P, h1, h2, h3⟩, h4⟩ := X
  refine (h1 A hA).frame i h h' st fun b hb o eo => ?_
  rcases h2 b hb with rfl | ⟨o', ho'⟩
  · rw [e] at eo; cases eo; exact e'
  · have := k0 _ _ ho'
    rw [this] at eo; cases eo
    exact k _ _ ho'
end
end Mine
end

section
set_option maxRecDepth 100000
namespace Mine

section
variable {C : Cfg} {A : Around} {F : Heap} {ρ σ : Store} {s : Shared} {v : Value} {a : AV} {items : List AV} {I : Addr} {oI : Obj} {Stt : Nat → Heap → Prop} {i n : Nat}
theorem letOwned_W {target : Expr} {o : Obj} {Q : Unit → Shared → Prop} {E : Value → Shared → Prop} (ho : s.heap.get? I = some o) (hw : ownless o) (h : Q () s) : wpAny (model C.prog C.w) A (letOwnedTupleGo target (.ref I) v) Q E s := by
  obtain ⟨nm, hc, hn⟩ := hw
  unfold letOwnedTupleGo
  have fin : wpAny (model C.prog C.w) A (do
      let (.ref r, .ref a) := (Value.ref I, v) | return
      let o ← load r
      match o.cls, o.data with
      | .type n, .fields vs =>
        if ["enumerate", "zip", "dict_itemiterator", "dict_reverseitemiterator", "odict_iterator", "itertools.zip_longest", "itertools.pairwise"].contains n && vs[0]? == some (rawInt a) then
          rule "for.unpacks-the-owned-tuple"
          updateField r 0 .none
      | _, _ => pure () : Sem Unit) Q E s := by
    cases v <;> first | exact wpAny_pure h | skip
    refine wpAny_bind (wpAny_load ho ?_)
    rw [hc]
    cases o.data <;> try exact wpAny_pure h
    simp only [hn, Bool.false_and, Bool.false_eq_true, if_false]
    exact wpAny_pure h
  cases target <;> first | exact fin | exact wpAny_pure h

theorem compLoop_rule {elt target iter : Expr} {ifs : List Expr} {scope : Scope} {pos : Pos} {it acc : Value} {env : Env} {R : Result → Shared → Prop} (J : Nat → Shared → Prop)
    (turn : ∀ n s, J n s → wpAny (model C.prog C.w) A (pyNext it) (fun r s₁ => match r with
      | none => R (.ok .next) s₁
      | some v => wpAny (model C.prog C.w) A (letOwnedTupleGo target it v) (fun _ s₁' => wpAny (model C.prog C.w) A (assign target env v) (fun _ s₂ =>
          wpAny (model C.prog C.w) A (forIn ifs true fun c r => if r = true then do let ok ← isTrue c env (eval c env); pure (ForInStep.yield ok) else pure (ForInStep.yield r)) (fun ok s₃ =>
            if ok = true then wpAny (model C.prog C.w) A (eval elt env) (fun x s₄ =>
              wpAny (model C.prog C.w) A (call (.builtin "list.append") [acc, x]) (fun _ s₅ => ∃ m, m < n ∧ J m s₅) Bot s₄) Bot s₃
            else ∃ m, m < n ∧ J m s₃) Bot s₂) Bot s₁') Bot s₁) Bot s)
    (n : Nat) (h : J n s) : codeAny (model C.prog C.w) A (.compLoop (.ListComp elt [⟨target, iter, ifs, 0⟩] scope pos) 0 it acc env) R s := by
  refine codeAny_loop rfl J (fun n s hI => ?_) n h
  show wpAny _ A ((compTurn (.ListComp elt [⟨target, iter, ifs, 0⟩] scope pos) 0 it acc env).onRaise (fun x => do noteFrame x env; theTreesLotGoes x)) _ _ s
  refine wpAny_noted ?_
  rw [compTurn_list]
  have B : ∀ (E : Value → Shared → Prop) (v : Value) (s : Shared), Bot v s → E v s := fun _ _ _ e => e.elim
  refine wpAny_bind (wpAny_standAt (wpAny_bind (wpAny_mono (turn n s hI) (fun r s₁ h₁ => ?_) (B _))))
  cases r with
  | none => exact wpAny_pure h₁
  | some v =>
    refine wpAny_bind (wpAny_mono h₁ (fun _ s₁' h₁' => ?_) (B _))
    refine wpAny_bind (wpAny_mono h₁' (fun _ s₂ h₂ => wpAny_bind (wpAny_mono h₂ (fun ok s₃ h₃ => ?_) (B _))) (B _))
    cases ok with
    | false =>
      simp only [Bool.false_eq_true, if_false] at h₃ ⊢
      exact wpAny_pure ⟨rfl, h₃⟩
    | true =>
      simp only [if_true] at h₃ ⊢
      exact wpAny_bind (wpAny_bind (wpAny_mono h₃ (fun x s₄ h₄ => wpAny_bind (wpAny_mono h₄ (fun _ s₅ h₅ => wpAny_pure (wpAny_pure ⟨rfl, h₅⟩)) (B _))) (B _)))
end
end Mine
end

section
set_option maxRecDepth 100000
namespace Mine

noncomputable abbrev StepP := AV → Store → (Option AV → Store → Prop) → Prop
noncomputable def compP (step : StepP) : List AV → List AV → Store → (List AV → Store → Prop) → Prop
  | [], acc, σ, Q => Q acc σ
  | a :: r, acc, σ, Q => step a σ (fun o τ => compP step r (acc ++ o.toList) τ Q)

inductive FinE (F : Heap) (s : Shared) (ρ : Store) (Cc : Addr) (nm : List Str) (R : Option AV → Store → Prop) (x : Value) (s' : Shared) : Prop
  | mk (F' : Heap) (σ' : Store) (a : AV) (l' : List (Option AV)) (h' : Heap) (tk' : Nat) : s' = { s with heap := h', toks := tk' } → F.StaysIn F' → St F' σ' (ρ.set Cc (.fr nm l')) h' → VR F' a x → R (some a) σ' → FinE F s ρ Cc nm R x s'
inductive FinN (F : Heap) (s : Shared) (ρ : Store) (Cc : Addr) (nm : List Str) (R : Option AV → Store → Prop) (s' : Shared) : Prop
  | mk (F' : Heap) (σ' : Store) (l' : List (Option AV)) (h' : Heap) (tk' : Nat) : s' = { s with heap := h', toks := tk' } → F.StaysIn F' → St F' σ' (ρ.set Cc (.fr nm l')) h' → R none σ' → FinN F s ρ Cc nm R s'
inductive InvC (step : StepP) (items : List AV) (I D Cc : Addr) (nm : List Str) (Stt : Nat → Heap → Prop) (K : List AV → Store → Prop) (F : Heap) (s : Shared) (ρ : Store) (k : Nat) (s' : Shared) : Prop
  | mk (F' : Heap) (σ' : Store) (acc : List AV) (l' : List (Option AV)) (h' : Heap) (tk' : Nat) (oI' : Obj) (i : Nat) : s' = { s with heap := h', toks := tk' } → F.StaysIn F' → St F' σ' (((ρ.set I (.is (· = oI'))).set D (.list acc)).set Cc (.fr nm l')) h' → Stt i h' →
    compP step (items.drop i) acc σ' K → acc.length ≤ i → i ≤ items.length → k = items.length + 1 - i → InvC step items I D Cc nm Stt K F s ρ k s'

theorem append_R {C : Cfg} {A : Around} {F : Heap} {ρ σ : Store} {s : Shared} {v : Value} {a : AV} {c : Addr} {xs : List AV} {E : Value → Shared → Prop} {Q : Value → Shared → Prop} (r : St F σ ρ s.heap) (h : ρ c = some (.list xs)) (y : VR F a v) (hz : xs.length ≤ sizeLine)
    (p : ∀ h', St F σ (ρ.set c (.list (xs ++ [a]))) h' → (∀ b o, b ≠ c → s.heap.get? b = some o → h'.get? b = some o) → Q .none { s with heap := h' }) : wpAny (model C.prog C.w) A (call (.builtin "list.append") [.ref c, v]) Q E s := by
  obtain ⟨_, o, ho, vs, n, rfl, z⟩ := r.right h
  have hlen : vs.size = xs.length := by have := z.length; simpa using this.symm
  refine append_at ho (fun h' hs ho' => ?_) (by omega)
  exact p h' (r.sameR (ao' := .list (xs ++ [a])) h hs ho' ⟨_, _, rfl, by simpa using z.append (.cons y .nil)⟩) fun b o hb e => hs.extBut b o hb e

section
variable {C : Cfg} {A : Around} {F : Heap} {ρ σ : Store} {s : Shared} {items : List AV} {I D Cc : Addr} {oI : Obj} {Stt : Nat → Heap → Prop} {n : Nat} {nm : List Str} {step : StepP} {K : List AV → Store → Prop}

theorem comp_loop {elt target iter : Expr} {ifs : List Expr} {scope : Scope} {pos : Pos} {cenv : Env} {R : Result → Shared → Prop} {l0 : List (Option AV)} (o : OkA A n) (X : Its C F I items Stt) (hz : items.length ≤ sizeLine)
    (hI : ρ I = none) (hD : ρ D = none) (hC : ρ Cc = none) (hID : I ≠ D) (hIC : I ≠ Cc) (hDC : D ≠ Cc)
    (hstep : ∀ a v F' σ' ρ' (s' : Shared) l' RR, step a σ' RR → F.StaysIn F' → (∀ b x, b ≠ I → b ≠ D → ρ b = some x → ρ' b = some x) → ρ' Cc = none → VR F' a v → St F' σ' (ρ'.set Cc (.fr nm l')) s'.heap →
      wpAny (model C.prog C.w) A (assign target cenv v) (fun _ s₂ => wpAny (model C.prog C.w) A (forIn ifs true fun c r => if r = true then do let ok ← isTrue c cenv (eval c cenv); pure (ForInStep.yield ok) else pure (ForInStep.yield r)) (fun ok s₃ =>
            if ok = true then wpAny (model C.prog C.w) A (eval elt cenv) (FinE F' s' ρ' Cc nm RR) Bot s₃ else FinN F' s' ρ' Cc nm RR s₃) Bot s₂) Bot s')
    (fin : ∀ F' σ' acc l' h' tk', F.StaysIn F' → St F' σ' ((ρ.set D (.list acc)).set Cc (.fr nm l')) h' → acc.length ≤ items.length → K acc σ' → R (.ok .next) { s with heap := h', toks := tk' })
    (r : St F σ (((ρ.set I (.is (· = oI))).set D (.list [])).set Cc (.fr nm l0)) s.heap) (st : Stt 0 s.heap) (hP : compP step items [] σ K) :
    codeAny (model C.prog C.w) A (.compLoop (.ListComp elt [⟨target, iter, ifs, 0⟩] scope pos) 0 (.ref I) (.ref D) cenv) R s := by
  refine compLoop_rule (InvC step items I D Cc nm Stt K F s ρ) ?_ (items.length + 1) ⟨F, σ, [], l0, s.heap, s.toks, oI, 0, rfl, stays_refl F, r, st, hP, Nat.le_refl _, Nat.zero_le _, rfl⟩
  rintro k s' ⟨F', σ', acc, l', h', tk', oI', i, rfl, kF, r', st', hP', hacc, hi, rfl⟩
  have atI : ∀ (p q : AO) (x : AO), (((ρ.set I x).set D p).set Cc q) I = some x := fun p q x => by
    rw [Store.set_ne _ _ hIC, Store.set_ne _ _ hID, Store.set_self]
  have chI : ∀ (p q x y : AO), (((ρ.set I x).set D p).set Cc q).set I y = (((ρ.set I y).set D p).set Cc q) := fun p q x y => by
    rw [Store.set_comm (Ne.symm hIC), Store.set_comm (Ne.symm hID), Store.set_set]
  have dlI : ∀ (p q x : AO), (((ρ.set I x).set D p).set Cc q).del I = ((ρ.set D p).set Cc q) := fun p q x => by
    rw [Store.del_setne (Ne.symm hIC), Store.del_setne (Ne.symm hID), Store.del_set hI]
  refine next_W (s := { s with heap := h', toks := tk' }) o (X.mono kF) (atI _ _ _) st' r' (fun a v h1 tk1 oI1 ea yv st1 hg1 hw1 r1 => ?_) (fun e h1 tk1 r1 => ?_) hi
  · rw [chI] at r1
    have hi' : i < items.length := (List.getElem?_eq_some_iff.mp ea).1
    have hd : items.drop i = a :: items.drop (i + 1) := by
      rw [List.drop_eq_getElem_cons hi']
      congr 1
      exact Option.some.inj ((List.getElem?_eq_getElem hi').symm.trans ea)
    rw [hd] at hP'
    refine letOwned_W (s := { s with heap := h1, toks := tk1 }) hg1 hw1 ?_
    have hρ' : ((ρ.set I (.is (· = oI1))).set D (.list acc)) Cc = none := by
      rw [Store.set_ne _ _ (Ne.symm hDC), Store.set_ne _ _ (Ne.symm hIC)]; exact hC
    have S := hstep a v F' σ' ((ρ.set I (.is (· = oI1))).set D (.list acc)) { s with heap := h1, toks := tk1 } l' _ hP' kF
      (fun b x h2 h3 e => by rw [Store.set_ne _ _ h3, Store.set_ne _ _ h2]; exact e) hρ' yv r1
    refine wpAny_mono S (fun _ s₂ h₂ => wpAny_mono h₂ (fun ok s₃ h₃ => ?_) fun _ _ e => e) fun _ _ e => e
    have next : ∀ {F2 σ2 acc2 l2 h2 tk2}, F'.StaysIn F2 → St F2 σ2 (((ρ.set I (.is (· = oI1))).set D (.list acc2)).set Cc (.fr nm l2)) h2 → compP step (items.drop (i + 1)) acc2 σ2 K → acc2.length ≤ i + 1 →
        ∃ m, m < items.length + 1 - i ∧ InvC step items I D Cc nm Stt K F s ρ m { s with heap := h2, toks := tk2 } := by
      intro F2 σ2 acc2 l2 h2 tk2 k2 r2 p2 hl2
      have e1 : ∃ ob, h1.get? I = some ob ∧ OR F' (.is (· = oI1)) ob := (r1.right (atI _ _ _)).2
      have e2 : ∃ ob, h2.get? I = some ob ∧ OR F2 (.is (· = oI1)) ob := (r2.right (atI _ _ _)).2
      obtain ⟨ob1, g1, q1, _⟩ := e1
      obtain ⟨ob2, g2, q2, _⟩ := e2
      subst q1
      have q2' : ob2 = ob1 := q2
      rw [q2'] at g2
      have st2 : Stt (i + 1) h2 := X.frame A o.handled st1 (stays_trans kF (stays_trans k2 r2.r.fx)) g1 g2 (stays_trans kF r1.r.fx)
      exact ⟨items.length + 1 - (i + 1), by omega, F2, σ2, acc2, l2, h2, tk2, ob1, i + 1, rfl, stays_trans kF k2, r2, st2, p2, hl2, hi', rfl⟩
    cases ok with
    | false =>
      simp only [Bool.false_eq_true, if_false] at h₃ ⊢
      obtain ⟨F2, σ2, l2, h2, tk2, rfl, k2, r2, p2⟩ := h₃
      exact next k2 r2 (by simpa using p2) (by omega)
    | true =>
      simp only [if_true] at h₃ ⊢
      refine wpAny_mono h₃ (fun x s₄ h₄ => ?_) fun _ _ e => e
      obtain ⟨F2, σ2, b, l2, h2, tk2, rfl, k2, r2, y2, p2⟩ := h₄
      refine append_R (s := { s with heap := h2, toks := tk2 }) r2 (c := D) (xs := acc) (by rw [Store.set_ne _ _ hDC, Store.set_self]) y2 (by omega) fun h3 r3 k3 => ?_
      rw [Store.set_comm (Ne.symm hDC), Store.set_set] at r3
      exact next k2 r3 p2 (by simp; omega)
  · rw [dlI] at r1
    subst e
    rw [List.drop_length] at hP'
    exact fin F' σ' acc l' h1 tk1 kF r1 hacc hP'
end
end Mine
end

section
set_option maxRecDepth 100000
namespace Mine

noncomputable def freesOf (scope : Scope) : List Str := (scope.names.filter fun p => p.2 == .free).map (·.1)
theorem closure_is {scope : Scope} {env : Env} {f : Str → Addr} (h : ∀ x ∈ freesOf scope, env.cells.lookup x = some (f x)) : closureFor scope env = pure ((freesOf scope).reverse.map fun x => (x, f x)) := by
  have key : ∀ (l : List (Str × NameKind)) (acc : List (Str × Addr)), (∀ p ∈ l, p.2 = .free → env.cells.lookup p.1 = some (f p.1)) →
      (forIn l acc (fun p cs => if (p.2 == .free) = true then do let c ← cellOf env p.1; pure (ForInStep.yield ((p.1, c) :: cs)) else pure (ForInStep.yield cs)) : Sem (List (Str × Addr))) = pure ((((l.filter fun p => p.2 == .free).map (·.1)).reverse.map fun x => (x, f x)) ++ acc) := by
    intro l
    induction l with
    | nil => intro acc _; rfl
    | cons p l ih =>
      intro acc hl
      rw [List.forIn_cons]
      cases q : (p.2 == NameKind.free) with
      | true =>
        have e := hl p (.head _) (by simpa using q)
        have e2 : cellOf env p.1 = pure (f p.1) := by unfold cellOf; rw [e]
        simp only [if_true, e2, pure_bind]
        rw [ih _ fun p' hp' => hl p' (.tail _ hp'), List.filter_cons_of_pos (by exact q)]
        simp
      | false =>
        simp only [Bool.false_eq_true, if_false, pure_bind]
        rw [ih _ fun p' hp' => hl p' (.tail _ hp'), List.filter_cons_of_neg (by rw [q]; decide)]
  have e : closureFor scope env = (forIn scope.names ([] : List (Str × Addr)) (fun p cs => if (p.2 == .free) = true then do let c ← cellOf env p.1; pure (ForInStep.yield ((p.1, c) :: cs)) else pure (ForInStep.yield cs)) : Sem (List (Str × Addr))) >>= pure := by
    unfold closureFor; rfl
  rw [e, key scope.names [] fun p hp q => h p.1 (List.mem_map.mpr ⟨p, List.mem_filter.mpr ⟨hp, by simpa using q⟩, rfl⟩)]
  simp [freesOf]
theorem closure_look {f : Str → Addr} {x : Str} : ∀ {l : List Str}, x ∈ l → (l.map fun y => (y, f y)).lookup x = some (f x)
  | y :: l, h => by
    rw [List.map_cons, List.lookup_cons]
    by_cases q : x = y
    · subst q; simp
    · have : (x == y) = false := by simpa using q
      rw [this]; exact closure_look (by simpa [q] using h)

theorem St.move {F : Heap} {σ ρ : Store} {h : Heap} {a : Addr} {o : AO} (x : St F σ (ρ.set a o) h) (hr : ρ a = none) : St F (σ.set a o) ρ h := by
  have hs : σ a = none := by
    rcases x.dj a with q | q
    · exact q
    · rw [Store.set_self] at q; cases q
  refine ⟨fun b => ?_, ?_⟩
  · by_cases e : b = a
    · subst e; exact .inr hr
    · rw [Store.set_ne _ _ e]
      have := x.dj b
      rwa [Store.set_ne _ _ e] at this
  · have := x.r
    rw [un_setR _ hs] at this
    rw [un_setL]; exact this

section
variable {C : Cfg} {A : Around} {F : Heap} {ρ σ : Store} {s : Shared} {n : Nat} {nm : List Str} {step : StepP} {K : List AV → Store → Prop} {env : Env}

theorem fr_new {h h' : Heap} {o : Obj} (r : St F σ ρ h) (ho : o.isFreed = false) (hn : h'.Ns h.objs.size (fun x => ([] : List (Str × Value)).reverse.lookup x)) (hs : Heap.SameBut h.objs.size (h.push o) h') {l0 : List (Option AV)} (hl : ∀ (i : Nat) (a : AV), l0[i]? ≠ some (some a)) :
    St F σ (ρ.set h.objs.size (.fr nm l0)) h' := by
  have r1 : St F σ (ρ.set h.objs.size (.is fun _ => True)) (h.push o) := r.pushR ⟨trivial, ho⟩
  obtain ⟨o', ho', y⟩ := fr_of (F := F) (names := nm) (l := l0) hn fun i x a _ q => absurd q (hl i a)
  have := r1.chR (Store.set_self ..) (fun b o'' hb e => hs.extBut b o'' hb e) ho' y
  rwa [Store.set_set] at this

theorem comp_full {elt target iter : Expr} {ifs : List Expr} {scope : Scope} {pos pos' : Pos} {use : Option (Value → Sem Unit)} {Q : Value → Shared → Prop} {P1 : AV → Store → Prop} {f : Str → Addr} {l0 : List (Option AV)}
    (hl0 : ∀ (i : Nat) (a : AV), l0[i]? ≠ some (some a)) (o : OkA A n)
    (hclos : ∀ x ∈ freesOf scope, env.cells.lookup x = some (f x)) (hcell : ∀ x ∈ scope.names, x.2 ≠ .cell) (hkind : scope.kind = .function) (hnames : ∀ x ∈ scope.names, x.2 = .local → scope.names.lookup x.1 = some .local)
    (hset : ∀ x, foldedSetIterable iter env x = pure x)
    (hit : Wp C A (eval iter env) F ρ P1 s)
    (hP1 : ∀ a τ, P1 a τ → ∃ items, iterA a = some items ∧ items.length ≤ sizeLine ∧ compP step items [] τ K)
    (hstep : ∀ Cc a v F' σ' ρ' (s' : Shared) l' RR, step a σ' RR → F.StaysIn F' → ρ' Cc = none → VR F' a v → St F' σ' (ρ'.set Cc (.fr nm l')) s'.heap →
      wpAny (model C.prog C.w) A (assign target (compEnvC scope ((freesOf scope).reverse.map fun x => (x, f x)) Cc env) v) (fun _ s₂ => wpAny (model C.prog C.w) A (forIn ifs true fun c r => if r = true then do let ok ← isTrue c (compEnvC scope ((freesOf scope).reverse.map fun x => (x, f x)) Cc env) (eval c (compEnvC scope ((freesOf scope).reverse.map fun x => (x, f x)) Cc env)); pure (ForInStep.yield ok) else pure (ForInStep.yield r)) (fun ok s₃ =>
            if ok = true then wpAny (model C.prog C.w) A (eval elt (compEnvC scope ((freesOf scope).reverse.map fun x => (x, f x)) Cc env)) (FinE F' s' ρ' Cc nm RR) Bot s₃ else FinN F' s' ρ' Cc nm RR s₃) Bot s₂) Bot s')
    (fin : ∀ F' σ' acc l' D Cc h' tk', F.StaysIn F' → St F' σ' ((ρ.set D (.list acc)).set Cc (.fr nm l')) h' → D ≠ Cc → ρ D = none → ρ Cc = none → K acc σ' →
      compPost (model C.prog C.w) A Bot use Q (.ref D) Cc (.ok .next) { s with heap := h', toks := tk' }) :
    wpAny (model C.prog C.w) A (comprehension (.ListComp elt [⟨target, iter, ifs, 0⟩] scope pos) scope env pos' (newList []) false (eval iter env) use) Q Bot s := by
  refine wpAny_comprehension_free (cl := (freesOf scope).reverse.map fun x => (x, f x)) rfl hset (closure_is hclos) hkind hnames (hit.then fun F1 σ1 a v h1 tk1 k1 r1 y1 q1 => ?_)
  obtain ⟨items, hi, hz, hP⟩ := hP1 a σ1 q1
  refine wpAny_mono (iter_W (s := { s with heap := h1, toks := tk1 }) o r1 y1 hi) (fun it s2 hb => ?_) fun _ _ e => e
  obtain ⟨I, h2, oI, Stt, rfl, rfl, X, st, r2, hI1, hI2, hI3⟩ := hb
  refine wpAny_newObj_type (wpAny_newFunctionEnv hcell (by intro y hy; simp at hy) (fun h3 hn3 hs3 => ?_) hkind)
  dsimp only at hn3 hs3 ⊢
  have r3 : St F1 σ1 ((ρ.set I (.is (· = oI))).set h2.objs.size (.list [])) (h2.push { cls := .type "list", dict := none, data := .seq ([] : List Value).toArray }) := r2.pushR ⟨#[], 0, rfl, .nil⟩
  have r4 := fr_new (nm := nm) (l0 := l0) r3 rfl hn3 hs3 hl0
  have fD := r2.fresh.2
  have fC := r3.fresh.2
  have hID : I ≠ h2.objs.size := fun q => by rw [q, Store.set_self] at fD; cases fD
  have hDC : h2.objs.size ≠ (h2.push { cls := .type "list", dict := none, data := .seq ([] : List Value).toArray }).objs.size := fun q => by rw [← q, Store.set_self] at fC; cases fC
  have hIC : I ≠ (h2.push { cls := .type "list", dict := none, data := .seq ([] : List Value).toArray }).objs.size := fun q => by rw [← q, Store.set_ne _ _ hID, Store.set_self] at fC; cases fC
  have fD' : ρ h2.objs.size = none := by rwa [Store.set_ne _ _ (Ne.symm hID)] at fD
  have fC' : ρ (h2.push { cls := .type "list", dict := none, data := .seq ([] : List Value).toArray }).objs.size = none := by rwa [Store.set_ne _ _ (Ne.symm hDC), Store.set_ne _ _ (Ne.symm hIC)] at fC
  have st3 : Stt 0 h3 := by
    have g2 : ∃ ob, h2.get? I = some ob ∧ OR F1 (.is (· = oI)) ob := (r2.right (Store.set_self ..)).2
    have g4 : ∃ ob, h3.get? I = some ob ∧ OR F1 (.is (· = oI)) ob := (r4.right (by rw [Store.set_ne _ _ hIC, Store.set_ne _ _ hID, Store.set_self])).2
    obtain ⟨ob1, g1, q1, _⟩ := g2
    obtain ⟨ob2, g2, q2, _⟩ := g4
    have q1' : ob1 = oI := q1
    have q2' : ob2 = oI := q2
    subst q1'
    rw [q2'] at g2
    exact X.frame A o.handled st r4.r.fx g1 g2 r2.r.fx
  have loop : codeAny (model C.prog C.w) A (.compLoop (.ListComp elt [⟨target, iter, ifs, 0⟩] scope pos) 0 (.ref I) (.ref h2.objs.size) (compEnvC scope ((freesOf scope).reverse.map fun x => (x, f x)) (h2.push { cls := .type "list", dict := none, data := .seq ([] : List Value).toArray }).objs.size env))
      (compPost (model C.prog C.w) A Bot use Q (.ref h2.objs.size) (h2.push { cls := .type "list", dict := none, data := .seq ([] : List Value).toArray }).objs.size) { s with heap := h3, toks := tk1 + ([] : List (Str × Value)).length } := by
    refine comp_loop (s := { s with heap := h3, toks := tk1 + ([] : List (Str × Value)).length }) o X hz hI2 fD' fC' hID hIC hDC (fun a v F' σ' ρ' s' l' RR hst kF _ hc y r => hstep _ a v F' σ' ρ' s' l' RR hst (stays_trans k1 kF) hc y r) (fun F' σ' acc l' h' tk' kF r _ hK => ?_) r4 st3 hP
    exact fin F' σ' acc l' _ _ h' tk' (stays_trans k1 kF) r hDC fD' fC' hK
  have self : ∀ (E : Value → Shared → Prop), wpAny (model C.prog C.w) A (pyIter (.ref I)) (fun it' s' => codeAny (model C.prog C.w) A (.compLoop (.ListComp elt [⟨target, iter, ifs, 0⟩] scope pos) 0 it' (.ref h2.objs.size) (compEnvC scope ((freesOf scope).reverse.map fun x => (x, f x)) (h2.push { cls := .type "list", dict := none, data := .seq ([] : List Value).toArray }).objs.size env))
      (compPost (model C.prog C.w) A Bot use Q (.ref h2.objs.size) (h2.push { cls := .type "list", dict := none, data := .seq ([] : List Value).toArray }).objs.size) s') E { s with heap := h3, toks := tk1 + ([] : List (Str × Value)).length } := fun E => by
    obtain ⟨⟨fp, P, w1, w2, w3⟩, w4⟩ := X
    exact (w1 A o.handled).self 0 _ _ _ st3 loop
  exact codeAny_compStart_list loop (self _)
end
end Mine
end

section
set_option maxRecDepth 100000
namespace Mine

inductive Bi where
  | len | list | tuple | max | chr | ord
inductive Me where
  | split | lower
inductive CE where
  | var (i : Nat) | cel (i : Nat) | glob (g : Addr) | k (x : PyData)
  | bin (op : Operator) (a b : CE)
  | neg (a : CE) | notE (a : CE) | and (a b : CE) | or (a b : CE) | ite (t a b : CE)
  | cmp (op : CmpOp) (a b : CE) | chain (o p : CmpOp) (a b c : CE)
  | attr (c : Addr) (i : Nat) (e : CE)
  | sub (a b : CE) | slc (a lo hi : CE)
  | tup (es : CE) | lst (es : CE) | nil | cons (a b : CE)
  | call (f : Addr) (es : CE) | mcall (c f : Addr) (e es : CE)
  | bi (b : Bi) (e : CE) | meth (m : Me) (e : CE) | join (x : Str) (e : CE)
  | rng (es : CE)
  | comp (two : Bool) (fs : List Nat) (it elt cond : CE)
  | hin (a b : CE) | hat (a b : CE)
noncomputable def CE.isNil : CE → Bool
  | .nil => true
  | _ => false

structure Tb where
  globs : List (Str × Addr)
  meths : List ((Addr × Str) × Addr)

noncomputable def Bi.name : Bi → Str
  | .len => "len" | .list => "list" | .tuple => "tuple" | .max => "max" | .chr => "chr" | .ord => "ord"
noncomputable def Bi.val : Bi → Value
  | .len => .builtin "len" | .list => .type "list" | .tuple => .type "tuple" | .max => .builtin "max" | .chr => .builtin "chr" | .ord => .builtin "ord"
noncomputable def Me.name : Me → Str
  | .split => "split" | .lower => "lower"
noncomputable def constIs : Const → PyData → Bool
  | .none, .none => true
  | .bool b, .bool c => b == c
  | .int i, .int j => i == j
  | .str x, .str y => x == y
  | _, _ => false
noncomputable def notSlice : Expr → Bool
  | .Slice .. => false
  | _ => true
noncomputable def notSet : Expr → Bool
  | .Set .. => false
  | _ => true
noncomputable def innerKinds (cx : Cx) (scope : Scope) : List (Str × NameKind) := scope.names.map fun p => if (p.2 == .free && cx.kinds.lookup p.1 == some .cell) then (p.1, .cell) else p
noncomputable def innerCx (cx : Cx) (scope : Scope) (nm : List Str) : Cx := ⟨innerKinds cx scope, nm, freesOf scope⟩
noncomputable def scopeOk (cx : Cx) (scope : Scope) (nm : List Str) (fs : List Nat) : Bool :=
  scope.kind == .function && scope.names.all (fun p => p.2 != .cell) && scope.names.all (fun p => p.2 != .local || scope.names.lookup p.1 == some .local) && nm.all (fun x => scope.names.lookup x == some .local) &&
  (fs.map (cx.cells[·]?) == (freesOf scope).map some)
noncomputable def isGlob (cx : Cx) (x : Str) : Bool := cx.kinds.lookup x == some .globalImplicit && !(x == ("__debug__" : Str))

noncomputable def baseOk : Expr → Bool
  | .Call (.Name id _) [] [] _ => id != "super"
  | _ => true
noncomputable def mOk (o : Expr) (args : List Expr) (apos pos : Pos) : Bool := baseOk o && apos.endLine == pos.line && args.all notStar && decide (args.length < 30)
theorem any_eq {α : Type} {f : α → Bool} : ∀ {o : Option α}, o.any f = true → ∃ a, o = some a ∧ f a = true
  | some a, h => ⟨a, rfl, h⟩
  | none, h => absurd h Bool.false_ne_true
/-! views of an expression -/
noncomputable def asName : Expr → Option Str
  | .Name x _ => some x
  | _ => none
noncomputable def asConst : Expr → Option Const
  | .Constant c _ _ => some c
  | _ => none
noncomputable def asBin : Expr → Option (Expr × Operator × Expr)
  | .BinOp l o r _ => some (l, o, r)
  | _ => none
noncomputable def asUn : Expr → Option (UnaryOp × Expr)
  | .UnaryOp o x _ => some (o, x)
  | _ => none
noncomputable def asBool : Expr → Option (BoolOp × Expr × Expr)
  | .BoolOp o [a, b] _ => some (o, a, b)
  | _ => none
noncomputable def asIf : Expr → Option (Expr × Expr × Expr)
  | .IfExp t a b _ => some (t, a, b)
  | _ => none
noncomputable def asCmp1 : Expr → Option (Expr × CmpOp × Expr)
  | .Compare l [o] [r] _ => some (l, o, r)
  | _ => none
noncomputable def asCmp2 : Expr → Option (Expr × CmpOp × CmpOp × Expr × Expr)
  | .Compare l [o, p] [r, q] _ => some (l, o, p, r, q)
  | _ => none
noncomputable def asAttr : Expr → Option (Expr × Str × Pos)
  | .Attribute v x p => some (v, x, p)
  | _ => none
noncomputable def asSub : Expr → Option (Expr × Expr)
  | .Subscript v s _ => some (v, s)
  | _ => none
noncomputable def asSlc : Expr → Option (Option Expr × Option Expr)
  | .Slice l h none _ => some (l, h)
  | _ => none
noncomputable def asTup : Expr → Option (List Expr)
  | .Tuple xs _ _ => some xs
  | _ => none
noncomputable def asLst : Expr → Option (List Expr)
  | .List xs _ => some xs
  | _ => none
noncomputable def asCall : Expr → Option (Expr × List Expr × Pos)
  | .Call f xs [] p => some (f, xs, p)
  | _ => none
noncomputable def asListC : Expr → Option (Expr × Comprehension × Scope)
  | .ListComp e [g] sc _ => some (e, g, sc)
  | _ => none
noncomputable def asDict1 : Expr → Option (Expr × Expr)
  | .Dict [some k] [v] _ => some (k, v)
  | _ => none
noncomputable def asDict0 : Expr → Bool
  | .Dict [] [] _ => true
  | _ => false
section
variable {x : Expr}
theorem asName_eq {y} (q : asName x = some y) : ∃ p, x = .Name y p := by cases x <;> first | exact nosome q | (cases q; exact ⟨_, rfl⟩)
theorem asConst_eq {c} (q : asConst x = some c) : ∃ k p, x = .Constant c k p := by cases x <;> first | exact nosome q | (cases q; exact ⟨_, _, rfl⟩)
theorem asBin_eq {l o r} (q : asBin x = some (l, o, r)) : ∃ p, x = .BinOp l o r p := by cases x <;> first | exact nosome q | (cases q; exact ⟨_, rfl⟩)
theorem asUn_eq {o y} (q : asUn x = some (o, y)) : ∃ p, x = .UnaryOp o y p := by cases x <;> first | exact nosome q | (cases q; exact ⟨_, rfl⟩)
theorem asBool_eq {o a b} (q : asBool x = some (o, a, b)) : ∃ p, x = .BoolOp o [a, b] p := by
  cases x <;> first | exact nosome q | skip
  rename_i o xs p
  obtain _ | ⟨a, _ | ⟨b, _ | ⟨c, xs⟩⟩⟩ := xs <;> first | exact nosome q | (cases q; exact ⟨_, rfl⟩)
theorem asIf_eq {t a b} (q : asIf x = some (t, a, b)) : ∃ p, x = .IfExp t a b p := by cases x <;> first | exact nosome q | (cases q; exact ⟨_, rfl⟩)
theorem asCmp1_eq {l o r} (q : asCmp1 x = some (l, o, r)) : ∃ p, x = .Compare l [o] [r] p := by
  cases x <;> first | exact nosome q | skip
  rename_i l os rs p
  obtain _ | ⟨o, _ | ⟨o2, os⟩⟩ := os <;> first | exact nosome q | skip
  obtain _ | ⟨r, _ | ⟨r2, rs⟩⟩ := rs <;> first | exact nosome q | (cases q; exact ⟨_, rfl⟩)
theorem asCmp2_eq {l o o' r r'} (q : asCmp2 x = some (l, o, o', r, r')) : ∃ p, x = .Compare l [o, o'] [r, r'] p := by
  cases x <;> first | exact nosome q | skip
  rename_i l os rs p
  obtain _ | ⟨o, _ | ⟨o2, _ | ⟨o3, os⟩⟩⟩ := os <;> first | exact nosome q | skip
  obtain _ | ⟨r, _ | ⟨r2, _ | ⟨r3, rs⟩⟩⟩ := rs <;> first | exact nosome q | (cases q; exact ⟨_, rfl⟩)
theorem asAttr_eq {v y p} (q : asAttr x = some (v, y, p)) : x = .Attribute v y p := by cases x <;> first | exact nosome q | (cases q; exact rfl)
theorem asSub_eq {v s} (q : asSub x = some (v, s)) : ∃ p, x = .Subscript v s p := by cases x <;> first | exact nosome q | (cases q; exact ⟨_, rfl⟩)
theorem asSlc_eq {l h} (q : asSlc x = some (l, h)) : ∃ p, x = .Slice l h none p := by
  cases x <;> first | exact nosome q | skip
  rename_i l h k p
  cases k <;> first | exact nosome q | (cases q; exact ⟨_, rfl⟩)
theorem asTup_eq {ys} (q : asTup x = some ys) : ∃ k p, x = .Tuple ys k p := by cases x <;> first | exact nosome q | (cases q; exact ⟨_, _, rfl⟩)
theorem asLst_eq {ys} (q : asLst x = some ys) : ∃ p, x = .List ys p := by cases x <;> first | exact nosome q | (cases q; exact ⟨_, rfl⟩)
theorem asCall_eq {f ys p} (q : asCall x = some (f, ys, p)) : x = .Call f ys [] p := by
  cases x <;> first | exact nosome q | skip
  rename_i f ys ks p
  cases ks <;> first | exact nosome q | (cases q; exact rfl)
theorem asListC_eq {e g sc} (q : asListC x = some (e, g, sc)) : ∃ p, x = .ListComp e [g] sc p := by
  cases x <;> first | exact nosome q | skip
  rename_i e gs sc p
  obtain _ | ⟨g, _ | ⟨g2, gs⟩⟩ := gs <;> first | exact nosome q | (cases q; exact ⟨_, rfl⟩)
theorem asDict1_eq {k v} (q : asDict1 x = some (k, v)) : ∃ p, x = .Dict [some k] [v] p := by
  cases x <;> first | exact nosome q | skip
  rename_i ks vs p
  obtain _ | ⟨_ | k, _ | ⟨k2, ks⟩⟩ := ks <;> first | exact nosome q | skip
  obtain _ | ⟨v, _ | ⟨v2, vs⟩⟩ := vs <;> first | exact nosome q | (cases q; exact ⟨_, rfl⟩)
theorem asDict0_eq (q : asDict0 x = true) : ∃ p, x = .Dict [] [] p := by
  cases x <;> first | exact absurd q Bool.false_ne_true | skip
  rename_i ks vs p
  cases ks <;> first | exact absurd q Bool.false_ne_true | skip
  cases vs <;> first | exact absurd q Bool.false_ne_true | exact ⟨_, rfl⟩
end
noncomputable def asCallN (x : Expr) : Option (Str × List Expr) := (asCall x).bind fun q => (asName q.1).map fun y => (y, q.2.1)
noncomputable def asCallA (x : Expr) : Option (Expr × Str × Pos × List Expr × Pos) := (asCall x).bind fun q => (asAttr q.1).map fun y => (y.1, y.2.1, y.2.2, q.2.1, q.2.2)
noncomputable def one? {α : Type} : List α → Option α
  | [a] => some a
  | _ => none
theorem one?_eq {α : Type} {l : List α} {a : α} (h : one? l = some a) : l = [a] := by
  obtain _ | ⟨b, _ | ⟨c, l⟩⟩ := l <;> first | exact nosome h | (cases h; rfl)
noncomputable def two? {α : Type} : List α → Option (α × α)
  | [a, b] => some (a, b)
  | _ => none
theorem two?_eq {α : Type} {l : List α} {a b : α} (h : two? l = some (a, b)) : l = [a, b] := by
  obtain _ | ⟨c, _ | ⟨d, _ | ⟨e, l⟩⟩⟩ := l <;> first | exact nosome h | (cases h; rfl)
noncomputable def asComp (x : Expr) : Option (Expr × Expr × Expr × List Expr × Scope) := (asListC x).bind fun q => if q.2.1.is_async = 0 then some (q.1, q.2.1.target, q.2.1.iter, q.2.1.ifs, q.2.2) else none
noncomputable def asSlice (x : Expr) : Option (Expr × Option Expr × Option Expr) := (asSub x).bind fun q => (asSlc q.2).map fun y => (q.1, y)
theorem asCallN_eq {x : Expr} {y xs} (q : asCallN x = some (y, xs)) : ∃ p p', x = .Call (.Name y p) xs [] p' := by
  obtain ⟨⟨f, ys, p⟩, hx, q⟩ := Option.bind_eq_some_iff.mp q
  obtain ⟨z, hz, e⟩ := Option.map_eq_some_iff.mp q
  cases e
  obtain rfl := asCall_eq hx
  obtain ⟨p, rfl⟩ := asName_eq hz
  exact ⟨_, _, rfl⟩
theorem asCallA_eq {x : Expr} {v y ap xs p} (q : asCallA x = some (v, y, ap, xs, p)) : x = .Call (.Attribute v y ap) xs [] p := by
  obtain ⟨⟨f, ys, p⟩, hx, q⟩ := Option.bind_eq_some_iff.mp q
  obtain ⟨⟨a, b, c⟩, hz, e⟩ := Option.map_eq_some_iff.mp q
  cases e
  obtain rfl := asCall_eq hx
  obtain rfl := asAttr_eq hz
  rfl
theorem asComp_eq {x : Expr} {e t i fs sc} (q : asComp x = some (e, t, i, fs, sc)) : ∃ p, x = .ListComp e [⟨t, i, fs, 0⟩] sc p := by
  obtain ⟨⟨e, ⟨t, i, fs, k⟩, sc⟩, hx, q2⟩ := Option.bind_eq_some_iff.mp q
  clear q
  obtain ⟨p, rfl⟩ := asListC_eq hx
  by_cases hk : k = 0
  · subst hk; cases q2; exact ⟨_, rfl⟩
  · rw [if_neg hk] at q2; cases q2
theorem asSlice_eq {x : Expr} {v l h} (q : asSlice x = some (v, l, h)) : ∃ p p', x = .Subscript v (.Slice l h none p) p' := by
  obtain ⟨⟨v, s⟩, hx, q⟩ := Option.bind_eq_some_iff.mp q
  obtain ⟨⟨a, b⟩, hz, e⟩ := Option.map_eq_some_iff.mp q
  cases e
  obtain ⟨p, rfl⟩ := asSub_eq hx
  obtain ⟨p, rfl⟩ := asSlc_eq hz
  exact ⟨_, _, rfl⟩
noncomputable def okPart (lo : CE) (f : Expr → Bool) : Option Expr → Bool
  | none => lo.isNil
  | some e => !lo.isNil && f e
noncomputable def okTests (cond : CE) (f : Expr → Bool) : List Expr → Bool
  | [] => cond.isNil
  | [i] => !cond.isNil && f i
  | _ => false
noncomputable def targetNames (two : Bool) (t : Expr) : Option (List Str) := match two with
  | false => (asName t).map fun x => [x]
  | true => match asTup t with
    | some [a, b] => (match asName a, asName b with
      | some x, some y => if x == y then none else some [x, y]
      | _, _ => none)
    | _ => none
mutual
noncomputable def chk (tb : Tb) : CE → Cx → Expr → Bool
  | .var i, cx, x => (asName x).any fun x => cx.kinds.lookup x == some .local && cx.names[i]? == some x && !(x == ("__debug__" : Str))
  | .cel i, cx, x => (asName x).any fun x => (cx.kinds.lookup x == some .cell || cx.kinds.lookup x == some .free) && cx.cells[i]? == some x && !(x == ("__debug__" : Str)) && !(x == ("__classdict__" : Str))
  | .glob g, cx, x => (asName x).any fun x => isGlob cx x && tb.globs.lookup x == some g
  | .k d, _, x => (asConst x).any fun c => constIs c d
  | .bin op a b, cx, x => (asBin x).any fun q => op == q.2.1 && chk tb a cx q.1 && chk tb b cx q.2.2
  | .neg a, cx, x => (asUn x).any fun q => q.1 == .USub && chk tb a cx q.2
  | .notE a, cx, x => (asUn x).any fun q => q.1 == .Not && chk tb a cx q.2
  | .and a b, cx, x => (asBool x).any fun q => q.1 == .And && (chk tb a cx q.2.1 && chk tb b cx q.2.2)
  | .or a b, cx, x => (asBool x).any fun q => q.1 == .Or && (chk tb a cx q.2.1 && chk tb b cx q.2.2)
  | .ite t a b, cx, x => (asIf x).any fun q => chk tb t cx q.1 && chk tb a cx q.2.1 && chk tb b cx q.2.2
  | .cmp op a b, cx, x => (asCmp1 x).any fun q => op == q.2.1 && chk tb a cx q.1 && chk tb b cx q.2.2 && !(behindInMarks q.2.1 q.2.2)
  | .chain o p a b c, cx, x => (asCmp2 x).any fun q => o == q.2.1 && p == q.2.2.1 && chk tb a cx q.1 && chk tb b cx q.2.2.2.1 && chk tb c cx q.2.2.2.2 && !(lastMarks [q.2.1, q.2.2.1] [q.2.2.2.1, q.2.2.2.2])
  | .attr c i e, cx, x => (asAttr x).any fun q => (schema c)[i]? == some q.2.1 && chk tb e cx q.1 && baseOk q.1
  | .sub a b, cx, x => (asSub x).any fun q => chk tb a cx q.1 && chk tb b cx q.2 && notSlice q.2
  | .slc a lo hi, cx, x => (asSlice x).any fun q => chk tb a cx q.1 && okPart lo (chk tb lo cx) q.2.1 && okPart hi (chk tb hi cx) q.2.2
  | .tup es, cx, x => (asTup x).any fun xs => chks tb es cx xs
  | .lst es, cx, x => (asLst x).any fun xs => chks tb es cx xs
  | .nil, _, _ => false
  | .cons _ _, _, _ => false
  | .call f es, cx, x => (asCallN x).any fun q => isGlob cx q.1 && tb.globs.lookup q.1 == some f && chks tb es cx q.2
  | .mcall c f e es, cx, x => (asCallA x).any fun q => tb.meths.lookup (c, q.2.1) == some f && chk tb e cx q.1 && chks tb es cx q.2.2.2.1 && mOk q.1 q.2.2.2.1 q.2.2.1 q.2.2.2.2
  | .bi b e, cx, x => (asCallN x).any fun q => (one? q.2).any fun y => isGlob cx q.1 && b.name == q.1 && chk tb e cx y && notStar y
  | .meth m e, cx, x => (asCallA x).any fun q => q.2.2.2.1.isEmpty && m.name == q.2.1 && chk tb e cx q.1 && mOk q.1 [] q.2.2.1 q.2.2.2.2
  | .join sep e, cx, x => (asCallA x).any fun q => (one? q.2.2.2.1).any fun y => asConst q.1 == some (.str sep) && q.2.1 == ("join" : Str) && chk tb e cx y && notStar y && q.2.2.1.endLine == q.2.2.2.2.line
  | .rng es, cx, x => (asCallN x).any fun q => isGlob cx q.1 && q.1 == ("range" : Str) && chks tb es cx q.2
  | .comp two fs it elt cond, cx, x => (asComp x).any fun q => (targetNames two q.2.1).any fun nm => scopeOk cx q.2.2.2.2 nm fs && chk tb it cx q.2.2.1 && notSet q.2.2.1 && chk tb elt (innerCx cx q.2.2.2.2 nm) q.1 && okTests cond (chk tb cond (innerCx cx q.2.2.2.2 nm)) q.2.2.2.1
  | .hin a b, cx, x => (asCmp1 x).any fun q => q.2.1 == .NotIn && (chk tb a cx q.1 && (chk tb b cx q.2.2 && !(behindInMarks .NotIn q.2.2)))
  | .hat a b, cx, x => (asSub x).any fun q => chk tb a cx q.1 && chk tb b cx q.2 && notSlice q.2
noncomputable def chks (tb : Tb) : CE → Cx → List Expr → Bool
  | .nil, _, xs => xs.isEmpty
  | .cons a b, cx, xs => match xs with
    | e :: es => chk tb a cx e && notStar e && chks tb b cx es
    | [] => false
  | _, _, _ => false
end

noncomputable abbrev Lo := List (Option AV)
noncomputable abbrev Tab := Addr → List AV → Store → Option AV
noncomputable def tru : Option AV → Option Bool
  | some (.d (.bool b)) => some b
  | _ => none
noncomputable def negA : AV → Option AV
  | .d (.int i) => some (.d (.int (-i)))
  | _ => none
noncomputable def instA (σ : Store) (c : Addr) : AV → Option (List AV)
  | .ref a => match σ a with
    | some (.inst c' dx) => match σ dx with
      | some (.ns c'' as) => if c' = c ∧ c'' = c then some as else none
      | _ => none
    | _ => none
  | _ => none
noncomputable def attrA (σ : Store) (c : Addr) (i : Nat) (v : AV) : Option AV := match instA σ c v with
  | some as => match as[i]? with
    | some a => if a.notV then some a else none
    | none => none
  | none => none
noncomputable def rngA (as : List AV) : Option AV := match (allD as).bind intsD with
  | some [n] => some (.rng 0 n 1)
  | some [a, b] => some (.rng a b 1)
  | some [a, b, c] => if c ≠ 0 ∧ c.natAbs < 1073741824 then some (.rng a b c) else none
  | _ => none
noncomputable def biA (σ : Store) : Bi → AV → Option PyData
  | .len, a => lenA σ a
  | .list, a => listOfA σ a
  | .tuple, a => tupleOfA σ a
  | .max, a => maxA a
  | .chr, a => chrA a
  | .ord, a => ordA a
noncomputable def meA : Me → AV → Option PyData
  | .split, a => splitA a
  | .lower, a => lowerA a
noncomputable def bindT : Bool → AV → Option Lo
  | false, a => some [some a]
  | true, .d (.tuple [x, y]) => some [some (.d x), some (.d y)]
  | true, _ => none
noncomputable def goC (f : AV → Option (Option AV)) : List AV → Option (List AV)
  | [] => some []
  | a :: r => match f a, goC f r with
    | some o, some as => some (o.toList ++ as)
    | _, _ => none
noncomputable def mkD (g : List PyData → PyData) (as : List AV) : Option AV := match allD as with
  | some ds => if ds.length ≤ sizeLine then some (.d (g ds)) else none
  | none => none
noncomputable def selC (fs : List Nat) (cs : List Addr) : List Addr := fs.map fun j => cs.getD j 0

mutual
noncomputable def ev (I : Tab) (σ : Store) : CE → Lo → List Addr → Option AV
  | .var i, l, _ => match l[i]? with | some (some a) => some a | _ => none
  | .cel i, _, cs => match cs[i]? with | some c => (match σ c with | some (.cell (some a)) => some a | _ => none) | none => none
  | .glob g, _, _ => some (.ref g)
  | .k x, _, _ => some (.d x)
  | .bin op a b, l, cs => match ev I σ a l cs, ev I σ b l cs with | some x, some y => (binA σ op x y).map .d | _, _ => none
  | .neg a, l, cs => (ev I σ a l cs).bind negA
  | .notE a, l, cs => (tru (ev I σ a l cs)).map fun b => .d (.bool (!b))
  | .and a b, l, cs => match tru (ev I σ a l cs) with | some true => ev I σ b l cs | some false => some (.d (.bool false)) | none => none
  | .or a b, l, cs => match tru (ev I σ a l cs) with | some false => ev I σ b l cs | some true => some (.d (.bool true)) | none => none
  | .ite t a b, l, cs => match tru (ev I σ t l cs) with | some true => ev I σ a l cs | some false => ev I σ b l cs | none => none
  | .cmp op a b, l, cs => match ev I σ a l cs, ev I σ b l cs with | some x, some y => (cmpA σ op x y).map fun r => .d (.bool r) | _, _ => none
  | .chain o p a b c, l, cs => match ev I σ a l cs, ev I σ b l cs with
    | some x, some y => (match cmpA σ o x y with
      | some true => (match ev I σ c l cs with | some z => (cmpA σ p y z).map fun r => .d (.bool r) | none => none)
      | some false => some (.d (.bool false))
      | none => none)
    | _, _ => none
  | .attr c i e, l, cs => (ev I σ e l cs).bind (attrA σ c i)
  | .sub a b, l, cs => match ev I σ a l cs, ev I σ b l cs with | some x, some y => subA σ x y | _, _ => none
  | .slc a lo hi, l, cs => match ev I σ a l cs, (if lo.isNil then some none else (ev I σ lo l cs).bind partA), (if hi.isNil then some none else (ev I σ hi l cs).bind partA) with
    | some x, some p, some q => (sliceA σ x p q).map .d
    | _, _, _ => none
  | .tup es, l, cs => (evs I σ es l cs).bind (mkD .tuple)
  | .lst es, l, cs => (evs I σ es l cs).bind (mkD .list)
  | .nil, _, _ => none
  | .cons _ _, _, _ => none
  | .call f es, l, cs => if 2 ≤ f then (evs I σ es l cs).bind fun as => I f as σ else none
  | .mcall c f e es, l, cs => match ev I σ e l cs with
    | some v => (match instA σ c v with | some _ => if 2 ≤ f then (evs I σ es l cs).bind fun as => I f (v :: as) σ else none | none => none)
    | none => none
  | .bi b e, l, cs => (ev I σ e l cs).bind fun x => (biA σ b x).map .d
  | .meth m e, l, cs => (ev I σ e l cs).bind fun x => (meA m x).map .d
  | .join sep e, l, cs => (ev I σ e l cs).bind fun x => (joinA σ sep x).map .d
  | .rng es, l, cs => (evs I σ es l cs).bind rngA
  | .comp two fs it elt cond, l, cs => match ev I σ it l cs with
    | some a => (match iterA a with
      | some items => (match goC (fun x => match bindT two x with
          | some l' => (match (if cond.isNil then some true else tru (ev I σ cond l' (selC fs cs))) with
            | some true => (ev I σ elt l' (selC fs cs)).map some
            | some false => some none
            | none => none)
          | none => none) items with
        | some as => mkD .list as
        | none => none)
      | none => none)
    | none => none
  | .hin a b, l, cs => match ev I σ a l cs, ev I σ b l cs with | some x, some y => (tru (I 0 [x, y] σ)).map fun b => .d (.bool b) | _, _ => none
  | .hat a b, l, cs => match ev I σ a l cs, ev I σ b l cs with | some x, some y => I 1 [x, y] σ | _, _ => none
noncomputable def evs (I : Tab) (σ : Store) : CE → Lo → List Addr → Option (List AV)
  | .nil, _, _ => some []
  | .cons a b, l, cs => match ev I σ a l cs, evs I σ b l cs with | some x, some xs => some (x :: xs) | _, _ => none
  | _, _, _ => none
end
section
variable {tb : Tb}
theorem chk_var {i cx x} : chk tb (.var i) cx x = ((asName x).any fun x => cx.kinds.lookup x == some .local && cx.names[i]? == some x && !(x == ("__debug__" : Str))) := rfl
theorem chk_cel {i cx x} : chk tb (.cel i) cx x = ((asName x).any fun x => (cx.kinds.lookup x == some .cell || cx.kinds.lookup x == some .free) && cx.cells[i]? == some x && !(x == ("__debug__" : Str)) && !(x == ("__classdict__" : Str))) := rfl
theorem chk_glob {g cx x} : chk tb (.glob g) cx x = ((asName x).any fun x => isGlob cx x && tb.globs.lookup x == some g) := rfl
theorem chk_k {d u x} : chk tb (.k d) u x = ((asConst x).any fun c => constIs c d) := rfl
theorem chk_bin {op a b cx x} : chk tb (.bin op a b) cx x = ((asBin x).any fun q => op == q.2.1 && chk tb a cx q.1 && chk tb b cx q.2.2) := rfl
theorem chk_neg {a cx x} : chk tb (.neg a) cx x = ((asUn x).any fun q => q.1 == .USub && chk tb a cx q.2) := rfl
theorem chk_notE {a cx x} : chk tb (.notE a) cx x = ((asUn x).any fun q => q.1 == .Not && chk tb a cx q.2) := rfl
theorem chk_and {a b cx x} : chk tb (.and a b) cx x = ((asBool x).any fun q => q.1 == .And && (chk tb a cx q.2.1 && chk tb b cx q.2.2)) := rfl
theorem chk_or {a b cx x} : chk tb (.or a b) cx x = ((asBool x).any fun q => q.1 == .Or && (chk tb a cx q.2.1 && chk tb b cx q.2.2)) := rfl
theorem chk_ite {t a b cx x} : chk tb (.ite t a b) cx x = ((asIf x).any fun q => chk tb t cx q.1 && chk tb a cx q.2.1 && chk tb b cx q.2.2) := rfl
theorem chk_cmp {op a b cx x} : chk tb (.cmp op a b) cx x = ((asCmp1 x).any fun q => op == q.2.1 && chk tb a cx q.1 && chk tb b cx q.2.2 && !(behindInMarks q.2.1 q.2.2)) := rfl
theorem chk_chain {o p a b c cx x} : chk tb (.chain o p a b c) cx x = ((asCmp2 x).any fun q => o == q.2.1 && p == q.2.2.1 && chk tb a cx q.1 && chk tb b cx q.2.2.2.1 && chk tb c cx q.2.2.2.2 && !(lastMarks [q.2.1, q.2.2.1] [q.2.2.2.1, q.2.2.2.2])) := rfl
theorem chk_attr {c i e cx x} : chk tb (.attr c i e) cx x = ((asAttr x).any fun q => (schema c)[i]? == some q.2.1 && chk tb e cx q.1 && baseOk q.1) := rfl
theorem chk_sub {a b cx x} : chk tb (.sub a b) cx x = ((asSub x).any fun q => chk tb a cx q.1 && chk tb b cx q.2 && notSlice q.2) := rfl
theorem chk_slc {a lo hi cx x} : chk tb (.slc a lo hi) cx x = ((asSlice x).any fun q => chk tb a cx q.1 && okPart lo (chk tb lo cx) q.2.1 && okPart hi (chk tb hi cx) q.2.2) := rfl
theorem chk_tup {es cx x} : chk tb (.tup es) cx x = ((asTup x).any fun xs => chks tb es cx xs) := rfl
theorem chk_lst {es cx x} : chk tb (.lst es) cx x = ((asLst x).any fun xs => chks tb es cx xs) := rfl
theorem chk_call {f es cx x} : chk tb (.call f es) cx x = ((asCallN x).any fun q => isGlob cx q.1 && tb.globs.lookup q.1 == some f && chks tb es cx q.2) := rfl
theorem chk_mcall {c f e es cx x} : chk tb (.mcall c f e es) cx x = ((asCallA x).any fun q => tb.meths.lookup (c, q.2.1) == some f && chk tb e cx q.1 && chks tb es cx q.2.2.2.1 && mOk q.1 q.2.2.2.1 q.2.2.1 q.2.2.2.2) := rfl
theorem chk_bi {b e cx x} : chk tb (.bi b e) cx x = ((asCallN x).any fun q => (one? q.2).any fun y => isGlob cx q.1 && b.name == q.1 && chk tb e cx y && notStar y) := rfl
theorem chk_meth {m e cx x} : chk tb (.meth m e) cx x = ((asCallA x).any fun q => q.2.2.2.1.isEmpty && m.name == q.2.1 && chk tb e cx q.1 && mOk q.1 [] q.2.2.1 q.2.2.2.2) := rfl
theorem chk_join {sep e cx x} : chk tb (.join sep e) cx x = ((asCallA x).any fun q => (one? q.2.2.2.1).any fun y => asConst q.1 == some (.str sep) && q.2.1 == ("join" : Str) && chk tb e cx y && notStar y && q.2.2.1.endLine == q.2.2.2.2.line) := rfl
theorem chk_rng {es cx x} : chk tb (.rng es) cx x = ((asCallN x).any fun q => isGlob cx q.1 && q.1 == ("range" : Str) && chks tb es cx q.2) := rfl
theorem chk_comp {two fs it elt cond cx x} : chk tb (.comp two fs it elt cond) cx x = ((asComp x).any fun q => (targetNames two q.2.1).any fun nm => scopeOk cx q.2.2.2.2 nm fs && chk tb it cx q.2.2.1 && notSet q.2.2.1 && chk tb elt (innerCx cx q.2.2.2.2 nm) q.1 && okTests cond (chk tb cond (innerCx cx q.2.2.2.2 nm)) q.2.2.2.1) := rfl
theorem chk_hin {a b cx x} : chk tb (.hin a b) cx x = ((asCmp1 x).any fun q => q.2.1 == .NotIn && (chk tb a cx q.1 && (chk tb b cx q.2.2 && !(behindInMarks .NotIn q.2.2)))) := rfl
theorem chk_hat {a b cx x} : chk tb (.hat a b) cx x = ((asSub x).any fun q => chk tb a cx q.1 && chk tb b cx q.2 && notSlice q.2) := rfl
theorem chks_nil {u xs} : chks tb .nil u xs = xs.isEmpty := rfl
theorem chks_cons {a b cx xs} : chks tb (.cons a b) cx xs = (match xs with
    | e :: es => chk tb a cx e && notStar e && chks tb b cx es
    | [] => false) := rfl
end
section
variable {I : Tab} {σ : Store}
theorem eve_var {i l u1} : ev I σ (.var i) l u1 = (match l[i]? with | some (some a) => some a | _ => none) := rfl
theorem eve_cel {i u1 cs} : ev I σ (.cel i) u1 cs = (match cs[i]? with | some c => (match σ c with | some (.cell (some a)) => some a | _ => none) | none => none) := rfl
theorem eve_glob {g u1 u2} : ev I σ (.glob g) u1 u2 = (some (.ref g)) := rfl
theorem eve_k {x u1 u2} : ev I σ (.k x) u1 u2 = (some (.d x)) := rfl
theorem eve_bin {op a b l cs} : ev I σ (.bin op a b) l cs = (match ev I σ a l cs, ev I σ b l cs with | some x, some y => (binA σ op x y).map .d | _, _ => none) := rfl
theorem eve_neg {a l cs} : ev I σ (.neg a) l cs = ((ev I σ a l cs).bind negA) := rfl
theorem eve_notE {a l cs} : ev I σ (.notE a) l cs = ((tru (ev I σ a l cs)).map fun b => .d (.bool (!b))) := rfl
theorem eve_and {a b l cs} : ev I σ (.and a b) l cs = (match tru (ev I σ a l cs) with | some true => ev I σ b l cs | some false => some (.d (.bool false)) | none => none) := rfl
theorem eve_or {a b l cs} : ev I σ (.or a b) l cs = (match tru (ev I σ a l cs) with | some false => ev I σ b l cs | some true => some (.d (.bool true)) | none => none) := rfl
theorem eve_ite {t a b l cs} : ev I σ (.ite t a b) l cs = (match tru (ev I σ t l cs) with | some true => ev I σ a l cs | some false => ev I σ b l cs | none => none) := rfl
theorem eve_cmp {op a b l cs} : ev I σ (.cmp op a b) l cs = (match ev I σ a l cs, ev I σ b l cs with | some x, some y => (cmpA σ op x y).map fun r => .d (.bool r) | _, _ => none) := rfl
theorem eve_chain {o p a b c l cs} : ev I σ (.chain o p a b c) l cs = (match ev I σ a l cs, ev I σ b l cs with
    | some x, some y => (match cmpA σ o x y with
      | some true => (match ev I σ c l cs with | some z => (cmpA σ p y z).map fun r => .d (.bool r) | none => none)
      | some false => some (.d (.bool false))
      | none => none)
    | _, _ => none) := rfl
theorem eve_attr {c i e l cs} : ev I σ (.attr c i e) l cs = ((ev I σ e l cs).bind (attrA σ c i)) := rfl
theorem eve_sub {a b l cs} : ev I σ (.sub a b) l cs = (match ev I σ a l cs, ev I σ b l cs with | some x, some y => subA σ x y | _, _ => none) := rfl
theorem eve_slc {a lo hi l cs} : ev I σ (.slc a lo hi) l cs = (match ev I σ a l cs, (if lo.isNil then some none else (ev I σ lo l cs).bind partA), (if hi.isNil then some none else (ev I σ hi l cs).bind partA) with
    | some x, some p, some q => (sliceA σ x p q).map .d
    | _, _, _ => none) := rfl
theorem eve_tup {es l cs} : ev I σ (.tup es) l cs = ((evs I σ es l cs).bind (mkD .tuple)) := rfl
theorem eve_lst {es l cs} : ev I σ (.lst es) l cs = ((evs I σ es l cs).bind (mkD .list)) := rfl
theorem eve_call {f es l cs} : ev I σ (.call f es) l cs = (if 2 ≤ f then (evs I σ es l cs).bind fun as => I f as σ else none) := rfl
theorem eve_mcall {c f e es l cs} : ev I σ (.mcall c f e es) l cs = (match ev I σ e l cs with
    | some v => (match instA σ c v with | some _ => if 2 ≤ f then (evs I σ es l cs).bind fun as => I f (v :: as) σ else none | none => none)
    | none => none) := rfl
theorem eve_bi {b e l cs} : ev I σ (.bi b e) l cs = ((ev I σ e l cs).bind fun x => (biA σ b x).map .d) := rfl
theorem eve_meth {m e l cs} : ev I σ (.meth m e) l cs = ((ev I σ e l cs).bind fun x => (meA m x).map .d) := rfl
theorem eve_join {sep e l cs} : ev I σ (.join sep e) l cs = ((ev I σ e l cs).bind fun x => (joinA σ sep x).map .d) := rfl
theorem eve_rng {es l cs} : ev I σ (.rng es) l cs = ((evs I σ es l cs).bind rngA) := rfl
theorem eve_comp {two fs it elt cond l cs} : ev I σ (.comp two fs it elt cond) l cs = (match ev I σ it l cs with
    | some a => (match iterA a with
      | some items => (match goC (fun x => match bindT two x with
          | some l' => (match (if cond.isNil then some true else tru (ev I σ cond l' (selC fs cs))) with
            | some true => (ev I σ elt l' (selC fs cs)).map some
            | some false => some none
            | none => none)
          | none => none) items with
        | some as => mkD .list as
        | none => none)
      | none => none)
    | none => none) := rfl
theorem eve_hin {a b l cs} : ev I σ (.hin a b) l cs = (match ev I σ a l cs, ev I σ b l cs with | some x, some y => (tru (I 0 [x, y] σ)).map fun b => .d (.bool b) | _, _ => none) := rfl
theorem eve_hat {a b l cs} : ev I σ (.hat a b) l cs = (match ev I σ a l cs, ev I σ b l cs with | some x, some y => I 1 [x, y] σ | _, _ => none) := rfl
theorem evs_nil {u1 u2} : evs I σ .nil u1 u2 = (some []) := rfl
theorem evs_cons {a b l cs} : evs I σ (.cons a b) l cs = (match ev I σ a l cs, evs I σ b l cs with | some x, some xs => some (x :: xs) | _, _ => none) := rfl
end
end Mine
end

section
set_option maxRecDepth 100000
namespace Mine

noncomputable def TC (C : Cfg) (n : Nat) (f : Value) (as : List AV) (σ : Store) (Q : AV → Store → Prop) : Prop :=
  ∀ (A : Around) (F : Heap) (ρ : Store) (s : Shared) (vs : List Value), OkA A n → Gd C F → St F σ ρ s.heap → VRs F as vs → Wp C A (call f vs) F ρ Q s
noncomputable def Is (a : AV) (σ : Store) : AV → Store → Prop := fun b τ => b = a ∧ τ = σ
structure IOk (C : Cfg) (n : Nat) (I : Tab) : Prop where
  call : ∀ f as σ a, 2 ≤ f → I f as σ = some a → TC C n (.ref f) as σ (Is a σ)
  hin : ∀ a b σ c, I 0 [a, b] σ = some (.d (.bool c)) → ∀ (A : Around) (F : Heap) (ρ : Store) (s : Shared) v w, OkA A n → Gd C F → St F σ ρ s.heap → VR F a v → VR F b w → Wp C A (compareOp .NotIn v w) F ρ (Is (.d (.bool c)) σ) s
  hat : ∀ a b σ c, I 1 [a, b] σ = some c → ∀ (A : Around) (F : Heap) (ρ : Store) (s : Shared) v w value slice, OkA A n → Gd C F → St F σ ρ s.heap → VR F a v → VR F b w → Wp C A (subscriptTail value slice v w) F ρ (Is c σ) s
structure TabOk (C : Cfg) (tb : Tb) : Prop where
  globs : ∀ x g, tb.globs.lookup x = some g → GlobOk C x (.ref g) ∧ keepIn C.K (.ref g) = true
  bi : ∀ b : Bi, GlobOk C b.name (.v b.val)
  range : GlobOk C "range" (.v (.type "range"))
  meths : ∀ c x f, tb.meths.lookup (c, x) = some f → ClsOk C.K c ∧ methIn C.K c x f = true
  cls : ∀ (c : Addr) (i : Nat) x, (schema c)[i]? = some x → ClsOk C.K c

section
variable {C : Cfg} {A : Around} {F : Heap} {ρ σ : Store} {s : Shared} {a b c : AV}
theorem one {ta : Sem Value} {T : Value → Shared → Prop} (ha : Wp C A ta F ρ (Is a σ) s)
    (n : ∀ F' v h' tk', F.StaysIn F' → St F' σ ρ h' → VR F' a v → T v { s with heap := h', toks := tk' }) :
    wpAny (model C.prog C.w) A ta T Bot s :=
  ha.then fun F' σ' a' v h' tk' k r y q => by obtain ⟨rfl, rfl⟩ := q; exact n F' v h' tk' k r y
theorem two {ta tb : Sem Value} {T : Value → Value → Shared → Prop} (ha : Wp C A ta F ρ (Is a σ) s)
    (hb : ∀ F' h' tk', F.StaysIn F' → St F' σ ρ h' → Wp C A tb F' ρ (Is b σ) { s with heap := h', toks := tk' })
    (n : ∀ F' v w h' tk', F.StaysIn F' → St F' σ ρ h' → VR F' a v → VR F' b w → T v w { s with heap := h', toks := tk' }) :
    wpAny (model C.prog C.w) A ta (fun v s₁ => wpAny (model C.prog C.w) A tb (T v) Bot s₁) Bot s :=
  ha.then fun F' σ' a' v h' tk' k r y q => by
    obtain ⟨rfl, rfl⟩ := q
    exact (hb F' h' tk' k r).then fun F2 σ2 b' w h2 tk2 k2 r2 y2 q2 => by
      obtain ⟨rfl, rfl⟩ := q2
      exact n F2 v w h2 tk2 (stays_trans k k2) r2 (y.mono k2) y2

theorem store_W {env : Env} {nm : List Str} {l : Lo} {x : Str} {v : Value} {i : Nat} {Q : Unit → Shared → Prop} (hf : env.scope.kind = .function) (hk : env.kindOf x = some .local) (nd : nm.Nodup) (hx : nm[i]? = some x)
    (hL : ρ env.locals = some (.fr nm l)) (r : St F σ ρ s.heap) (y : VR F a v) (p : ∀ h' tk', St F σ (ρ.set env.locals (.fr nm (l.set i (some a)))) h' → Q () { s with heap := h', toks := tk' }) :
    wpAny (model C.prog C.w) A (storeName env x v) Q Bot s := by
  obtain ⟨m, hn, hv⟩ := fr_ns r hL
  refine wpAny_storeName_local hk hn (fun h' hn' hs' => ?_) (by rw [hf]; rfl)
  obtain ⟨o, ho, z⟩ := fr_of (F := F) (names := nm) (l := l.set i (some a)) hn' fun j x' a' h1 h2 => by
    by_cases q : i = j
    · subst q
      rw [hx] at h1; cases h1
      by_cases hi : i < l.length
      · rw [List.getElem?_set_self hi] at h2; cases h2
        exact ⟨v, by simp, y⟩
      · rw [List.getElem?_eq_none (by simp; omega)] at h2; cases h2
    · rw [List.getElem?_set_ne q] at h2
      obtain ⟨v', h3, h4⟩ := hv j x' a' h1 h2
      have hne : x' ≠ x := fun e => by
        subst e
        have hi : i < nm.length := (List.getElem?_eq_some_iff.mp hx).1
        exact q ((List.getElem?_inj hi nd).mp (hx.trans h1.symm))
      exact ⟨v', by simp [hne, h3], h4⟩
  exact p h' _ (r.sameR hL hs' ho z)

theorem targetNames_nodup {two : Bool} {target : Expr} {nm : List Str} (h : targetNames two target = some nm) : nm.Nodup := by
  unfold targetNames at h
  split at h
  · obtain ⟨x, _, rfl⟩ := Option.map_eq_some_iff.mp h; simp
  · split at h
    · split at h
      · split at h
        · cases h
        · rename_i q; cases h
          simp only [List.nodup_cons, List.mem_singleton, List.not_mem_nil, not_false_eq_true, List.nodup_nil, and_true]
          intro e; subst e; simp at q
      · cases h
    · cases h
theorem bindT_true {a : AV} {l' : Lo} (h : bindT true a = some l') : ∃ d e, a = .d (.tuple [d, e]) ∧ l' = [some (.d d), some (.d e)] := by
  unfold bindT at h
  split at h
  · rename_i q; cases q
  · cases h; exact ⟨_, _, rfl, rfl⟩
  · cases h
theorem bind_W {n : Nat} {two : Bool} {target : Expr} {nm : List Str} {cenv : Env} {Cc : Addr} {v : Value} {l0 l' : Lo} {ρ' : Store} {Q : Unit → Shared → Prop} (o : OkA A n) (ht : targetNames two target = some nm) (hf : cenv.scope.kind = .function) (hk : ∀ x ∈ nm, cenv.kindOf x = some .local)
    (hC : cenv.locals = Cc) (hb : bindT two a = some l') (y : VR F a v) (r : St F σ (ρ'.set Cc (.fr nm l0)) s.heap) (p : ∀ h' tk', St F σ (ρ'.set Cc (.fr nm l')) h' → Q () { s with heap := h', toks := tk' }) :
    wpAny (model C.prog C.w) A (assign target cenv v) Q Bot s := by
  subst hC
  unfold targetNames at ht
  split at ht
  · obtain ⟨x, hx, rfl⟩ := Option.map_eq_some_iff.mp ht
    obtain ⟨_, rfl⟩ := asName_eq hx
    cases hb
    obtain ⟨m, hn, _⟩ := fr_ns r (Store.set_self ..)
    refine wpAny_assign_Name (wpAny_storeName_local (hk _ (.head _)) hn (fun h' hn' hs' => ?_) (by rw [hf]; rfl))
    obtain ⟨o, ho, z⟩ := fr_of (F := F) (names := [x]) (l := [some a]) hn' fun j x' a' h1 h2 => by
      cases j with
      | zero => cases h1; cases h2; exact ⟨v, by simp, y⟩
      | succ j => simp at h1
    have := r.sameR (Store.set_self ..) hs' ho z
    rw [Store.set_set] at this
    exact p h' _ this
  · split at ht
    · rename_i a1 a2 hx
      obtain ⟨_, _, rfl⟩ := asTup_eq hx
      split at ht
      · rename_i x x2 h1 h2
        obtain ⟨_, rfl⟩ := asName_eq h1
        obtain ⟨_, rfl⟩ := asName_eq h2
        split at ht
        · cases ht
        · rename_i q
          cases ht
          obtain ⟨d, e, rfl, rfl⟩ := bindT_true hb
          · obtain ⟨t, vs, rfl, h1, h2⟩ := y.tuple
            obtain ⟨m, hn, _⟩ := fr_ns r (Store.set_self ..)
            have hvs : ∃ v1 v2, vs = #[v1, v2] ∧ VR F (.d d) v1 ∧ VR F (.d e) v2 := by
              obtain ⟨l⟩ := vs
              cases h2 with | cons y1 h2 => cases h2 with | cons y2 h2 => cases h2; exact ⟨_, _, rfl, y1, y2⟩
            obtain ⟨v1, v2, rfl, y1, y2⟩ := hvs
            refine kcp_assign o.handled (isTup_keeps r.r.fx h1) (hk _ (.head _)) (hk _ (.tail _ (.head _))) (by rw [hf]; rfl) hn fun h' tk' hn' hkeep => ?_
            have hne : ¬ x = x2 := by intro e; subst e; simp at q
            obtain ⟨o, ho, z⟩ := fr_of (F := F) (names := [x, x2]) (l := [some (.d d), some (.d e)]) hn' fun j x' a' h1 h2 => by
              match j, h1, h2 with
              | 0, h1, h2 => cases h1; cases h2; exact ⟨v1, by simp [hne], y1⟩
              | 1, h1, h2 => cases h1; cases h2; exact ⟨v2, by simp, y2⟩
              | j + 2, h1, _ => simp at h1
            have := r.chR (Store.set_self ..) hkeep ho z
            rw [Store.set_set] at this
            exact p h' _ this
      · cases ht
    · cases ht
end
end Mine
end

section
set_option maxRecDepth 100000
namespace Mine

structure Pre (C : Cfg) (n : Nat) (cx : Cx) (env : Env) (cs : List Addr) (l : Lo) (A : Around) (F : Heap) (ρ : Store) : Prop where
  E : EnvOk cx env cs
  hl : ρ env.locals = some (.fr cx.names l)
  o : OkA A n
  g : Gd C F
theorem Pre.keeps {C : Cfg} {n : Nat} {cx : Cx} {env : Env} {cs : List Addr} {l : Lo} {A : Around} {F F' : Heap} {ρ : Store} (p : Pre C n cx env cs l A F ρ) (k : F.StaysIn F') : Pre C n cx env cs l A F' ρ := ⟨p.E, p.hl, p.o, p.g.keeps k⟩

noncomputable def SE (C : Cfg) (n : Nat) (I : Tab) (tb : Tb) (c : CE) : Prop := ∀ (cx : Cx) (x : Expr) (env : Env) (cs : List Addr) (l : Lo) (σ ρ : Store) (F : Heap) (s : Shared) (A : Around) (a : AV),
  Pre C n cx env cs l A F ρ → chk tb c cx x = true → St F σ ρ s.heap → ev I σ c l cs = some a → Wp C A (eval x env) F ρ (Is a σ) s
noncomputable def SB (C : Cfg) (n : Nat) (I : Tab) (tb : Tb) (c : CE) : Prop := ∀ (cx : Cx) (x : Expr) (env : Env) (cs : List Addr) (l : Lo) (σ ρ : Store) (F : Heap) (s : Shared) (A : Around) (b : Bool) (Q : Bool → Shared → Prop),
  Pre C n cx env cs l A F ρ → chk tb c cx x = true → St F σ ρ s.heap → tru (ev I σ c l cs) = some b → (∀ F' h' tk', F.StaysIn F' → St F' σ ρ h' → Q b { s with heap := h', toks := tk' }) → wpAny (model C.prog C.w) A (isTrue x env (eval x env)) Q Bot s
noncomputable def SL (C : Cfg) (n : Nat) (I : Tab) (tb : Tb) (c : CE) : Prop := ∀ (cx : Cx) (xs : List Expr) (env : Env) (cs : List Addr) (l : Lo) (σ ρ : Store) (F : Heap) (s : Shared) (A : Around) (pos : Pos) (as : List AV),
  Pre C n cx env cs l A F ρ → chks tb c cx xs = true → St F σ ρ s.heap → evs I σ c l cs = some as → WpL C A (spl pos xs env) F ρ (fun bs τ => bs = as ∧ τ = σ) s

noncomputable def plainT : Expr → Bool
  | .UnaryOp .Not _ _ | .BoolOp .. | .IfExp .. | .Compare .. => false
  | _ => true
theorem isTrue_eq_plain {x : Expr} {env : Env} {whole : Sem Value} (h : plainT x = true) : isTrue x env whole = (do let v ← whole; standAt x.pos; holding [v] (truthy v)) := by
  cases x <;> first | rfl | (cases h; done) | skip
  rename_i op _ _
  cases op <;> first | rfl | cases h
theorem tru_some {o : Option AV} {b : Bool} (h : tru o = some b) : o = some (.d (.bool b)) := by
  unfold tru at h
  split at h
  · cases h; rfl
  · cases h
noncomputable def plainC : CE → Bool
  | .notE _ | .and .. | .or .. | .ite .. | .cmp .. | .chain .. | .hin .. => false
  | _ => true
theorem plain_of {tb : Tb} {e : CE} {cx : Cx} {x : Expr} (he : plainC e = true) (h : chk tb e cx x = true) : plainT x = true := by
  cases x with
  | BoolOp o xs p => cases e <;> first | exact absurd h Bool.false_ne_true | exact absurd he Bool.false_ne_true
  | UnaryOp o y p => cases o <;> first | rfl | (cases e <;> first | exact absurd h Bool.false_ne_true | exact absurd he Bool.false_ne_true)
  | IfExp a b c p => cases e <;> first | exact absurd h Bool.false_ne_true | exact absurd he Bool.false_ne_true
  | Compare l os rs p => cases e <;> first | exact absurd h Bool.false_ne_true | exact absurd he Bool.false_ne_true
  | _ => rfl
section
variable {C : Cfg} {n : Nat} {I : Tab} {tb : Tb}
theorem SB_plain {c : CE} (h : SE C n I tb c) (hp : ∀ cx x, chk tb c cx x = true → plainT x = true) : SB C n I tb c := by
  intro cx x env cs l σ ρ F s A b Q p hc r e q
  refine isTrue_plain ?_ (isTrue_eq_plain (hp cx x hc))
  refine (h cx x env cs l σ ρ F s A _ p hc r (tru_some e)).then fun F' σ' a v h' tk' k r' y z => ?_
  obtain ⟨rfl, rfl⟩ := z
  rw [y.bool]
  exact wpAny_truthy_bool (q F' h' tk' k r')

theorem SE_var (i : Nat) : SE C n I tb (.var i) := by
  intro cx x env cs l σ ρ F s A a p h r e
  replace h := any_eq (chk_var.symm.trans h)
  obtain ⟨_, hx, h⟩ := h
  obtain ⟨_, rfl⟩ := asName_eq hx
  simp only [Bool.and_eq_true, beq_iff_eq, Bool.not_eq_true'] at h
  rw [eve_var] at e
  split at e
  · rename_i a' ha
    cases e
    exact TE_var p.E h.1.1 h.1.2 h.2 p.hl r ha ⟨rfl, rfl⟩
  · cases e
theorem SE_cel (i : Nat) : SE C n I tb (.cel i) := by
  intro cx x env cs l σ ρ F s A a p h r e
  replace h := any_eq (chk_cel.symm.trans h)
  obtain ⟨_, hx, h⟩ := h
  obtain ⟨_, rfl⟩ := asName_eq hx
  simp only [Bool.and_eq_true, beq_iff_eq, Bool.not_eq_true', Bool.or_eq_true] at h
  rw [eve_cel] at e
  split at e
  · rename_i c hc
    split at e
    · rename_i a' ha
      cases e
      exact TE_cel p.E h.1.1.1 h.1.1.2 h.1.2 h.2 r hc ha ⟨rfl, rfl⟩
    · cases e
  · cases e
theorem glob_E (T : TabOk C tb) {cx : Cx} {x : Str} {g : GV} {env : Env} {cs : List Addr} {l : Lo} {σ ρ : Store} {F : Heap} {s : Shared} {A : Around} {pos : Pos} (p : Pre C n cx env cs l A F ρ) (h : isGlob cx x = true) (hg : GlobOk C x g) (r : St F σ ρ s.heap) :
    Wp C A (eval (.Name x pos) env) F ρ (Is g.av σ) s := by
  unfold isGlob at h
  simp only [Bool.and_eq_true, beq_iff_eq, Bool.not_eq_true'] at h
  exact TE_glob p.E h.1 hg h.2 p.g r ⟨rfl, rfl⟩
theorem SE_glob (T : TabOk C tb) (g : Addr) : SE C n I tb (.glob g) := by
  intro cx x env cs l σ ρ F s A a p h r e
  replace h := any_eq (chk_glob.symm.trans h)
  obtain ⟨_, hx, h⟩ := h
  obtain ⟨_, rfl⟩ := asName_eq hx
  simp only [Bool.and_eq_true, beq_iff_eq] at h
  cases e
  exact glob_E T p h.1 (g := .ref g) (T.globs _ _ h.2).1 r
theorem constIs_D {c : Const} {d : PyData} (h : constIs c d = true) : constD c = some d := by
  unfold constIs at h
  split at h <;> first | rfl | (simp only [beq_iff_eq] at h; subst h; rfl) | cases h
theorem SE_k (d : PyData) : SE C n I tb (.k d) := by
  intro cx x env cs l σ ρ F s A a p h r e
  replace h := any_eq (chk_k.symm.trans h)
  obtain ⟨_, hx, h⟩ := h
  obtain ⟨_, _, rfl⟩ := asConst_eq hx
  cases e
  exact TE_const (constIs_D h) r ⟨rfl, rfl⟩
theorem SE_bin {op : Operator} {a b : CE} (ha : SE C n I tb a) (hb : SE C n I tb b) : SE C n I tb (.bin op a b) := by
  intro cx x env cs l σ ρ F s A v p h r e
  replace h := any_eq (chk_bin.symm.trans h)
  obtain ⟨⟨_, _, _⟩, hx, h⟩ := h
  dsimp only at h
  obtain ⟨_, rfl⟩ := asBin_eq hx
  simp only [Bool.and_eq_true, beq_iff_eq] at h
  obtain ⟨⟨rfl, h1⟩, h2⟩ := h
  rw [eve_bin] at e
  split at e
  · rename_i va vb e1 e2
    cases q : binA σ op va vb with
    | none => rw [q] at e; cases e
    | some d =>
      rw [q] at e; cases e
      exact wpAny_BinOp (two (ha _ _ _ _ _ _ _ _ _ _ _ p h1 r e1) (fun F' h' tk' k r' => hb _ _ _ _ _ _ _ _ _ _ _ (p.keeps k) h2 r' e2)
        fun F' v w h' tk' k r' y z => Fin.lifts k (bin_W (s := { s with heap := h', toks := tk' }) p.hl r' y z q ⟨rfl, rfl⟩))
  · cases e
theorem SE_neg {a : CE} (ha : SE C n I tb a) : SE C n I tb (.neg a) := by
  intro cx x env cs l σ ρ F s A v p h r e
  replace h := any_eq (chk_neg.symm.trans h)
  obtain ⟨⟨_, _⟩, hx, h⟩ := h
  dsimp only at h
  rw [Bool.and_eq_true, beq_iff_eq] at h
  obtain ⟨ho, h⟩ := h
  subst ho
  obtain ⟨_, rfl⟩ := asUn_eq hx
  rw [eve_neg] at e
  cases q : ev I σ a l cs with
  | none => rw [q] at e; cases e
  | some va =>
    rw [q] at e
    simp only [Option.bind_some, negA] at e
    split at e
    · cases e
      refine UnaryOp_ (one (ha _ _ _ _ _ _ _ _ _ _ _ p h r q) fun F' v h' tk' k r' y => ?_)
      obtain ⟨t, rfl⟩ := y.int
      exact PyProof.Rows.neg_int ⟨F', σ, _, h', tk' + 1, rfl, k, r', .d (.int _ _), rfl, rfl⟩
    · cases e
theorem SB_not {a : CE} (ha : SB C n I tb a) : SB C n I tb (.notE a) := by
  intro cx x env cs l σ ρ F s A b Q p h r e q
  replace h := any_eq (chk_notE.symm.trans h)
  obtain ⟨⟨_, _⟩, hx, h⟩ := h
  dsimp only at h
  rw [Bool.and_eq_true, beq_iff_eq] at h
  obtain ⟨ho, h⟩ := h
  subst ho
  obtain ⟨_, rfl⟩ := asUn_eq hx
  rw [eve_notE] at e
  cases q1 : tru (ev I σ a l cs) with
  | none => rw [q1] at e; cases e
  | some va =>
    rw [q1] at e
    have e' : (!va) = b := by simpa [tru] using e
    subst e'
    exact isTrue_not (ha _ _ _ _ _ _ _ _ _ _ _ _ p h r q1 q)
theorem SE_not {a : CE} (ha : SE C n I tb a) : SE C n I tb (.notE a) := by
  intro cx x env cs l σ ρ F s A v p h r e
  replace h := any_eq (chk_notE.symm.trans h)
  obtain ⟨⟨_, _⟩, hx, h⟩ := h
  dsimp only at h
  rw [Bool.and_eq_true, beq_iff_eq] at h
  obtain ⟨ho, h⟩ := h
  subst ho
  obtain ⟨_, rfl⟩ := asUn_eq hx
  rw [eve_notE] at e
  cases q : tru (ev I σ a l cs) with
  | none => rw [q] at e; cases e
  | some va =>
    rw [q] at e; cases e
    refine UnaryOp_ (one (ha _ _ _ _ _ _ _ _ _ _ _ p h r (tru_some q)) fun F' v h' tk' k r' y => ?_)
    rw [y.bool]
    exact not_of (wpAny_truthy_bool ⟨F', σ, _, h', tk', rfl, k, r', .d (.bool _), rfl, rfl⟩)
theorem SE_and {a b : CE} (ha : SE C n I tb a) (hb : SE C n I tb b) : SE C n I tb (.and a b) := by
  intro cx x env cs l σ ρ F s A v p h r e
  replace h := any_eq (chk_and.symm.trans h)
  obtain ⟨⟨_, _, _⟩, hx, h⟩ := h
  dsimp only at h
  rw [Bool.and_eq_true, beq_iff_eq] at h
  obtain ⟨ho, h⟩ := h
  subst ho
  obtain ⟨_, rfl⟩ := asBool_eq hx
  simp only [Bool.and_eq_true] at h
  rw [eve_and] at e
  split at e
  · rename_i q
    refine BoolOp_and (one (ha _ _ _ _ _ _ _ _ _ _ _ p h.1 r (tru_some q)) fun F' v h' tk' k r' y => ?_)
    rw [y.bool]
    refine wpAny_truthy_bool ?_
    simp only [if_true]
    exact BoolOp_one (Fin.lifts k (hb _ _ _ _ _ _ _ _ _ _ _ (p.keeps k) h.2 r' e))
  · rename_i q
    cases e
    refine BoolOp_and (one (ha _ _ _ _ _ _ _ _ _ _ _ p h.1 r (tru_some q)) fun F' v h' tk' k r' y => ?_)
    rw [y.bool]
    refine wpAny_truthy_bool ?_
    simp only [Bool.false_eq_true, if_false]
    exact ⟨F', σ, _, h', tk', rfl, k, r', .d (.bool _), rfl, rfl⟩
  · cases e
theorem SE_or {a b : CE} (ha : SE C n I tb a) (hb : SE C n I tb b) : SE C n I tb (.or a b) := by
  intro cx x env cs l σ ρ F s A v p h r e
  replace h := any_eq (chk_or.symm.trans h)
  obtain ⟨⟨_, _, _⟩, hx, h⟩ := h
  dsimp only at h
  rw [Bool.and_eq_true, beq_iff_eq] at h
  obtain ⟨ho, h⟩ := h
  subst ho
  obtain ⟨_, rfl⟩ := asBool_eq hx
  simp only [Bool.and_eq_true] at h
  rw [eve_or] at e
  split at e
  · rename_i q
    refine BoolOp_or (one (ha _ _ _ _ _ _ _ _ _ _ _ p h.1 r (tru_some q)) fun F' v h' tk' k r' y => ?_)
    rw [y.bool]
    refine wpAny_truthy_bool ?_
    simp only [Bool.false_eq_true, if_false]
    exact BoolOp_one (Fin.lifts k (hb _ _ _ _ _ _ _ _ _ _ _ (p.keeps k) h.2 r' e))
  · rename_i q
    cases e
    refine BoolOp_or (one (ha _ _ _ _ _ _ _ _ _ _ _ p h.1 r (tru_some q)) fun F' v h' tk' k r' y => ?_)
    rw [y.bool]
    refine wpAny_truthy_bool ?_
    simp only [if_true]
    exact ⟨F', σ, _, h', tk', rfl, k, r', .d (.bool _), rfl, rfl⟩
  · cases e
theorem SB_and {a b : CE} (ha : SB C n I tb a) (hb : SB C n I tb b) : SB C n I tb (.and a b) := by
  intro cx x env cs l σ ρ F s A v Q p h r e q
  replace h := any_eq (chk_and.symm.trans h)
  obtain ⟨⟨_, _, _⟩, hx, h⟩ := h
  dsimp only at h
  rw [Bool.and_eq_true, beq_iff_eq] at h
  obtain ⟨ho, h⟩ := h
  subst ho
  obtain ⟨_, rfl⟩ := asBool_eq hx
  simp only [Bool.and_eq_true] at h
  rw [eve_and] at e
  split at e
  · rename_i q1
    refine isTrue_and (ha _ _ _ _ _ _ _ _ _ _ _ _ p h.1 r q1 fun F' h' tk' k r' => ?_)
    simp only [if_true]
    refine isTrue_and (hb _ _ _ _ _ _ _ _ _ _ _ _ (p.keeps k) h.2 r' e fun F2 h2 tk2 k2 r2 => ?_)
    cases v
    · exact q F2 h2 tk2 (stays_trans k k2) r2
    · exact isTrue_and_nil (q F2 h2 tk2 (stays_trans k k2) r2)
  · rename_i q1
    cases e
    refine isTrue_and (ha _ _ _ _ _ _ _ _ _ _ _ _ p h.1 r q1 fun F' h' tk' k r' => ?_)
    simp only [Bool.false_eq_true, if_false]
    exact q F' h' tk' k r'
  · cases e
theorem SB_or {a b : CE} (ha : SB C n I tb a) (hb : SB C n I tb b) : SB C n I tb (.or a b) := by
  intro cx x env cs l σ ρ F s A v Q p h r e q
  replace h := any_eq (chk_or.symm.trans h)
  obtain ⟨⟨_, _, _⟩, hx, h⟩ := h
  dsimp only at h
  rw [Bool.and_eq_true, beq_iff_eq] at h
  obtain ⟨ho, h⟩ := h
  subst ho
  obtain ⟨_, rfl⟩ := asBool_eq hx
  simp only [Bool.and_eq_true] at h
  rw [eve_or] at e
  split at e
  · rename_i q1
    refine isTrue_or (ha _ _ _ _ _ _ _ _ _ _ _ _ p h.1 r q1 fun F' h' tk' k r' => ?_)
    simp only [Bool.false_eq_true, if_false]
    refine isTrue_or (hb _ _ _ _ _ _ _ _ _ _ _ _ (p.keeps k) h.2 r' e fun F2 h2 tk2 k2 r2 => ?_)
    cases v
    · exact isTrue_or_nil (q F2 h2 tk2 (stays_trans k k2) r2)
    · exact q F2 h2 tk2 (stays_trans k k2) r2
  · rename_i q1
    cases e
    refine isTrue_or (ha _ _ _ _ _ _ _ _ _ _ _ _ p h.1 r q1 fun F' h' tk' k r' => ?_)
    simp only [if_true]
    exact q F' h' tk' k r'
  · cases e
theorem SE_ite {t a b : CE} (ht : SB C n I tb t) (ha : SE C n I tb a) (hb : SE C n I tb b) : SE C n I tb (.ite t a b) := by
  intro cx x env cs l σ ρ F s A v p h r e
  replace h := any_eq (chk_ite.symm.trans h)
  obtain ⟨⟨_, _, _⟩, hx, h⟩ := h
  dsimp only at h
  obtain ⟨_, rfl⟩ := asIf_eq hx
  simp only [Bool.and_eq_true] at h
  rw [eve_ite] at e
  split at e
  · rename_i q1
    refine IfExp_ (ht _ _ _ _ _ _ _ _ _ _ _ _ p h.1.1 r q1 fun F' h' tk' k r' => ?_)
    simp only [if_true]
    exact Fin.lifts k (ha _ _ _ _ _ _ _ _ _ _ _ (p.keeps k) h.1.2 r' e)
  · rename_i q1
    refine IfExp_ (ht _ _ _ _ _ _ _ _ _ _ _ _ p h.1.1 r q1 fun F' h' tk' k r' => ?_)
    simp only [Bool.false_eq_true, if_false]
    exact Fin.lifts k (hb _ _ _ _ _ _ _ _ _ _ _ (p.keeps k) h.2 r' e)
  · cases e
theorem SB_ite {t a b : CE} (ht : SB C n I tb t) (ha : SB C n I tb a) (hb : SB C n I tb b) : SB C n I tb (.ite t a b) := by
  intro cx x env cs l σ ρ F s A v Q p h r e q
  replace h := any_eq (chk_ite.symm.trans h)
  obtain ⟨⟨_, _, _⟩, hx, h⟩ := h
  dsimp only at h
  obtain ⟨_, rfl⟩ := asIf_eq hx
  simp only [Bool.and_eq_true] at h
  rw [eve_ite] at e
  split at e
  · rename_i q1
    refine isTrue_IfExp (ht _ _ _ _ _ _ _ _ _ _ _ _ p h.1.1 r q1 fun F' h' tk' k r' => ?_)
    simp only [if_true]
    exact ha _ _ _ _ _ _ _ _ _ _ _ _ (p.keeps k) h.1.2 r' e fun F2 h2 tk2 k2 r2 => q F2 h2 tk2 (stays_trans k k2) r2
  · rename_i q1
    refine isTrue_IfExp (ht _ _ _ _ _ _ _ _ _ _ _ _ p h.1.1 r q1 fun F' h' tk' k r' => ?_)
    simp only [Bool.false_eq_true, if_false]
    exact hb _ _ _ _ _ _ _ _ _ _ _ _ (p.keeps k) h.2 r' e fun F2 h2 tk2 k2 r2 => q F2 h2 tk2 (stays_trans k k2) r2
  · cases e
theorem cmp_ev {op : CmpOp} {a b : CE} {σ : Store} {l : Lo} {cs : List Addr} {v : AV} (e : ev I σ (.cmp op a b) l cs = some v) : ∃ va vb d, ev I σ a l cs = some va ∧ ev I σ b l cs = some vb ∧ cmpA σ op va vb = some d ∧ v = .d (.bool d) := by
  rw [eve_cmp] at e
  split at e
  · rename_i va vb e1 e2
    cases q : cmpA σ op va vb with
    | none => rw [q] at e; cases e
    | some d => rw [q] at e; cases e; exact ⟨va, vb, d, e1, e2, q, rfl⟩
  · cases e
theorem SE_cmp {op : CmpOp} {a b : CE} (ha : SE C n I tb a) (hb : SE C n I tb b) : SE C n I tb (.cmp op a b) := by
  intro cx x env cs l σ ρ F s A v p h r e
  replace h := any_eq (chk_cmp.symm.trans h)
  obtain ⟨⟨_, _, _⟩, hx, h⟩ := h
  dsimp only at h
  obtain ⟨_, rfl⟩ := asCmp1_eq hx
  simp only [Bool.and_eq_true, beq_iff_eq, Bool.not_eq_true'] at h
  obtain ⟨⟨⟨rfl, h1⟩, h2⟩, h3⟩ := h
  obtain ⟨va, vb, d, e1, e2, q, rfl⟩ := cmp_ev e
  exact wpAny_Compare1 (two (ha _ _ _ _ _ _ _ _ _ _ _ p h1 r e1) (fun F' h' tk' k r' => hb _ _ _ _ _ _ _ _ _ _ _ (p.keeps k) h2 r' e2)
    fun F' v w h' tk' k r' y z => Fin.lifts k (cmp_W (s := { s with heap := h', toks := tk' }) p.o r' y z q ⟨rfl, rfl⟩)) h3
theorem SB_cmp {op : CmpOp} {a b : CE} (ha : SE C n I tb a) (hb : SE C n I tb b) : SB C n I tb (.cmp op a b) := by
  intro cx x env cs l σ ρ F s A v Q p h r e qq
  replace h := any_eq (chk_cmp.symm.trans h)
  obtain ⟨⟨_, _, _⟩, hx, h⟩ := h
  dsimp only at h
  obtain ⟨_, rfl⟩ := asCmp1_eq hx
  simp only [Bool.and_eq_true, beq_iff_eq, Bool.not_eq_true'] at h
  obtain ⟨⟨⟨rfl, h1⟩, h2⟩, h3⟩ := h
  obtain ⟨va, vb, d, e1, e2, q, e3⟩ := cmp_ev (tru_some e)
  cases e3
  refine wpAny_isTrue_Compare1 (two (ha _ _ _ _ _ _ _ _ _ _ _ p h1 r e1) (fun F' h' tk' k r' => hb _ _ _ _ _ _ _ _ _ _ _ (p.keeps k) h2 r' e2)
    fun F' v w h' tk' k r' y z => ?_) h3
  refine (cmp_W (P := Is _ σ) (s := { s with heap := h', toks := tk' }) p.o r' y z q ⟨rfl, rfl⟩).then fun F2 σ2 a2 v2 h2 tk2 k2 r2 y2 q2 => ?_
  obtain ⟨rfl, rfl⟩ := q2
  rw [y2.bool]
  exact wpAny_truthy_bool (qq F2 h2 tk2 (stays_trans k k2) r2)
theorem SE_chain {o' p' : CmpOp} {a b c : CE} (ha : SE C n I tb a) (hb : SE C n I tb b) (hc : SE C n I tb c) : SE C n I tb (.chain o' p' a b c) := by
  intro cx x env cs l σ ρ F s A v p h r e
  replace h := any_eq (chk_chain.symm.trans h)
  obtain ⟨⟨_, _, _, _, _⟩, hx, h⟩ := h
  dsimp only at h
  obtain ⟨_, rfl⟩ := asCmp2_eq hx
  simp only [Bool.and_eq_true, beq_iff_eq, Bool.not_eq_true'] at h
  obtain ⟨⟨⟨⟨⟨rfl, rfl⟩, h1⟩, h2⟩, h3⟩, h4⟩ := h
  rw [eve_chain] at e
  split at e
  · rename_i va vb e1 e2
    refine Compare_chain (one (ha _ _ _ _ _ _ _ _ _ _ _ p h1 r e1) fun F' v1 h' tk' k r' y1 => ?_) h4
    refine chain_link ?_
    refine one (hb _ _ _ _ _ _ _ _ _ _ _ (p.keeps k) h2 r' e2) fun F2 v2 h2' tk2 k2 r2 y2 => ?_
    split at e
    · rename_i q
      refine (cmp_W (P := Is _ σ) (s := { s with heap := h2', toks := tk2 }) p.o r2 (y1.mono k2) y2 q ⟨rfl, rfl⟩).then fun F3 σ3 a3 v3 h3' tk3 k3 r3 y3 q3 => ?_
      obtain ⟨rfl, rfl⟩ := q3
      rw [y3.bool]
      refine wpAny_truthy_bool ?_
      simp only [if_true]
      split at e
      · rename_i vc e3
        cases q4 : cmpA σ3 p' vb vc with
        | none => rw [q4] at e; cases e
        | some d =>
          rw [q4] at e; cases e
          refine chain_last ?_
          refine one (hc _ _ _ _ _ _ _ _ _ _ _ (p.keeps (stays_trans k (stays_trans k2 k3))) h3 r3 e3) fun F4 v4 h4' tk4 k4 r4 y4 => ?_
          exact Fin.lifts (stays_trans k (stays_trans k2 (stays_trans k3 k4))) (cmp_W (s := { s with heap := h4', toks := tk4 }) p.o r4 (y2.mono (stays_trans k3 k4)) y4 q4 ⟨rfl, rfl⟩)
      · cases e
    · rename_i q
      cases e
      refine (cmp_W (P := Is _ σ) (s := { s with heap := h2', toks := tk2 }) p.o r2 (y1.mono k2) y2 q ⟨rfl, rfl⟩).then fun F3 σ3 a3 v3 h3' tk3 k3 r3 y3 q3 => ?_
      obtain ⟨rfl, rfl⟩ := q3
      rw [y3.bool]
      refine wpAny_truthy_bool ?_
      simp only [Bool.false_eq_true, if_false]
      exact ⟨F3, _, _, h3', tk3, rfl, stays_trans k (stays_trans k2 k3), r3, .d (.bool _), rfl, rfl⟩
    · cases e
  · cases e
end
end Mine
end

section
set_option maxRecDepth 100000
namespace Mine

theorem instA_some {σ : Store} {c : Addr} {v : AV} {as : List AV} (h : instA σ c v = some as) : ∃ x dx, v = .ref x ∧ σ x = some (.inst c dx) ∧ σ dx = some (.ns c as) := by
  unfold instA at h
  split at h
  · rename_i x
    split at h
    · rename_i c' dx h1
      split at h
      · rename_i c'' as' h2
        split at h
        · rename_i q
          obtain ⟨rfl, rfl⟩ := q
          cases h
          exact ⟨x, dx, rfl, h1, h2⟩
        · cases h
      · cases h
    · cases h
  · cases h
theorem base_eq {o : Expr} {name : Str} {env : Env} {whole : Sem Value} (h : baseOk o = true) : attributeBase o name env whole = whole := by
  cases o <;> first | rfl | skip
  rename_i f xs ks p
  cases f <;> first | rfl | skip
  cases xs <;> first | rfl | skip
  cases ks <;> first | rfl | skip
  rename_i id p2
  have e : (id != ("super" : Str)) = true := h
  unfold attributeBase
  dsimp only
  rw [e]
  rfl
theorem attr_eq {v : Expr} {x : Str} {pos : Pos} {env : Env} (h : baseOk v = true) : eval (.Attribute v x pos) env = (do
      let o ← eval v env
      standAt pos.atName
      let r ← holding [o] (getAttr o x true)
      letTemporaryGo v o r
      pure r) := by
  have e : eval (.Attribute v x pos) env = (do
      let o ← attributeBase v x env (eval v env)
      standAt pos.atName
      let r ← holding [o] (getAttr o x true)
      letTemporaryGo v o r
      pure r) := rfl
  rw [e, base_eq h]
theorem allStars {pos : Pos} {env : Env} : ∀ {args : List Expr}, args.all notStar = true → (backTo pos (starEach args env)).all (fun x => !x.1) = true
  | [], _ => rfl
  | e :: r, h => by
    rw [List.all_cons, Bool.and_eq_true] at h
    rw [starEach_cons h.1]
    have := allStars (pos := pos) (env := env) h.2
    show (!false && (backTo pos (starEach r env)).all (fun x => !x.1)) = true
    rw [this]; rfl
theorem meth_eq {o : Expr} {name : Str} {apos pos : Pos} {args : List Expr} {env : Env} (h : mOk o args apos pos = true) : eval (.Call (.Attribute o name apos) args [] pos) env = (do
      let ov ← eval o env
      standAt apos.atName
      let (f, first) ← holding [ov] (getMethod ov name (do return (← importBound o env).getD true))
      callWith pos f first (backTo pos (starEach args env)) (backToKw pos (keywordEach [] env))) := by
  unfold mOk at h
  simp only [Bool.and_eq_true, decide_eq_true_eq] at h
  obtain ⟨⟨⟨h1, h2⟩, h3⟩, h4⟩ := h
  have hf : methodCallForm (args.length + ([] : List Keyword).length) (backTo pos (starEach args env)) (backToKw pos (keywordEach [] env)) = true := by
    unfold methodCallForm
    rw [allStars h3]
    show (true && true && decide (args.length + 0 + 0 < 30)) = true
    simp only [Bool.and_self, Bool.true_and, decide_eq_true_eq]; omega
  have hpos : methodCallPos true o env apos pos = pure pos := by unfold methodCallPos; simp [h2]
  rw [arm_eval_Call, base_eq h1]
  unfold methodCall
  rw [hf, hpos]
  rfl
section
variable {C : Cfg} {n : Nat} {I : Tab} {tb : Tb}

theorem VRs.is1 {F : Heap} {a : AV} {vs : List Value} (h : VRs F [a] vs) : ∃ v, vs = [v] ∧ VR F a v := by
  cases h with | cons y h => cases h; exact ⟨_, rfl, y⟩
theorem VRs.is2 {F : Heap} {a b : AV} {vs : List Value} (h : VRs F [a, b] vs) : ∃ v w, vs = [v, w] ∧ VR F a v ∧ VR F b w := by
  cases h with | cons y h => obtain ⟨w, rfl, z⟩ := h.is1; exact ⟨_, w, rfl, y, z⟩
theorem VRs.is3 {F : Heap} {a b c : AV} {vs : List Value} (h : VRs F [a, b, c] vs) : ∃ v w u, vs = [v, w, u] ∧ VR F a v ∧ VR F b w ∧ VR F c u := by
  cases h with | cons y h => obtain ⟨w, u, rfl, z⟩ := h.is2; exact ⟨_, w, u, rfl, y, z⟩
theorem SL_nil : SL C n I tb .nil := by
  intro cx xs env cs l σ ρ F s A pos as p h r e
  obtain rfl := List.isEmpty_iff.mp (chks_nil.symm.trans h)
  cases e; exact WpL_nil r ⟨rfl, rfl⟩
theorem SL_cons {a b : CE} (ha : SE C n I tb a) (hb : SL C n I tb b) : SL C n I tb (.cons a b) := by
  intro cx xs env cs l σ ρ F s A pos as p h r e
  rw [chks_cons] at h
  split at h
  · simp only [Bool.and_eq_true] at h
    rw [evs_cons] at e
    split at e
    · rename_i va vs e1 e2
      cases e
      refine WpL_cons h.1.2 (ha _ _ _ _ _ _ _ _ _ _ _ p h.1.1 r e1) fun F' σ' a' h' tk' k r' q => ?_
      obtain ⟨rfl, rfl⟩ := q
      exact (hb _ _ _ _ _ _ _ _ _ _ pos _ (p.keeps k) h.2 r' e2).then fun F2 σ2 as2 vs2 h2 tk2 k2 r2 y2 q2 => by
        obtain ⟨rfl, rfl⟩ := q2
        exact ⟨F2, _, _, h2, tk2, rfl, k2, r2, y2, rfl, rfl⟩
    · cases e
  · cases h
theorem notStars_of {es : CE} {cx : Cx} : ∀ {xs : List Expr}, chks tb es cx xs = true → xs.all notStar = true := by
  induction es <;> intro xs h <;> first | exact absurd h Bool.false_ne_true | rw [chks_nil] at h | rw [chks_cons] at h
  · obtain rfl := List.isEmpty_iff.mp h
    rfl
  · rename_i ih
    split at h
    · simp only [Bool.and_eq_true] at h
      rw [List.all_cons, h.1.2, ih h.2]; rfl
    · cases h

theorem SE_attr (T : TabOk C tb) {c : Addr} {i : Nat} {e : CE} (he : SE C n I tb e) : SE C n I tb (.attr c i e) := by
  intro cx x env cs l σ ρ F s A v p h r ee
  replace h := any_eq (chk_attr.symm.trans h)
  obtain ⟨⟨_, _, _⟩, hx, h⟩ := h
  dsimp only at h
  obtain rfl := asAttr_eq hx
  simp only [Bool.and_eq_true, beq_iff_eq] at h
  rw [eve_attr] at ee
  cases q : ev I σ e l cs with
  | none => rw [q] at ee; cases ee
  | some va =>
    rw [q] at ee
    simp only [Option.bind_some, attrA] at ee
    split at ee
    · rename_i as h1
      split at ee
      · rename_i a h2
        split at ee
        · rename_i h3
          cases ee
          obtain ⟨x, dx, rfl, h4, h5⟩ := instA_some h1
          refine Attribute_any_ (one (he _ _ _ _ _ _ _ _ _ _ _ p h.1.2 r q) fun F' v h' tk' k r' y => ?_) (attr_eq h.2)
          cases y
          exact Fin.lifts k (attr_W (s := { s with heap := h', toks := tk' }) (p.g.keeps k) (T.cls _ _ _ h.1.1) p.hl r' h4 h5 h.1.1 h2 h3 ⟨rfl, rfl⟩)
        · cases ee
      · cases ee
    · cases ee
theorem SE_sub {a b : CE} (ha : SE C n I tb a) (hb : SE C n I tb b) : SE C n I tb (.sub a b) := by
  intro cx x env cs l σ ρ F s A v p h r e
  replace h := any_eq (chk_sub.symm.trans h)
  obtain ⟨⟨_, _⟩, hx, h⟩ := h
  dsimp only at h
  obtain ⟨_, rfl⟩ := asSub_eq hx
  simp only [Bool.and_eq_true] at h
  rw [eve_sub] at e
  split at e
  · rename_i va vb e1 e2
    exact Subscript_ (two (ha _ _ _ _ _ _ _ _ _ _ _ p h.1.1 r e1) (fun F' h' tk' k r' => hb _ _ _ _ _ _ _ _ _ _ _ (p.keeps k) h.1.2 r' e2)
      fun F' v w h' tk' k r' y z => Fin.lifts k (sub_W (s := { s with heap := h', toks := tk' }) r' y z e ⟨rfl, rfl⟩))
  · cases e
theorem part_E {lo : CE} (hlo : SE C n I tb lo) {cx : Cx} {ol : Option Expr} {env : Env} {cs : List Addr} {l : Lo} {σ ρ : Store} {F : Heap} {s : Shared} {A : Around} {q : Option Int} {T : Value → Shared → Prop}
    (p : Pre C n cx env cs l A F ρ) (h : okPart lo (chk tb lo cx) ol = true) (r : St F σ ρ s.heap) (e : (if lo.isNil then some none else (ev I σ lo l cs).bind partA) = some q)
    (k : ∀ F' v h' tk', F.StaysIn F' → St F' σ ρ h' → IsPart v q → T v { s with heap := h', toks := tk' }) : wpAny (model C.prog C.w) A (evalPart ol env) T Bot s := by
  cases ol with
  | none =>
    rw [show lo.isNil = true from h] at e
    simp only [if_true] at e
    cases e
    rw [evalPart_none]
    exact wpAny_pure (k F .none s.heap s.toks (stays_refl F) r .none)
  | some x =>
    simp only [okPart, Bool.and_eq_true, Bool.not_eq_true'] at h
    rw [h.1] at e
    simp only [Bool.false_eq_true, if_false] at e
    cases q1 : ev I σ lo l cs with
    | none => rw [q1] at e; cases e
    | some va =>
      rw [q1] at e
      rw [evalPart_some]
      exact one (hlo _ _ _ _ _ _ _ _ _ _ _ p h.2 r q1) fun F' v h' tk' k' r' y => k F' v h' tk' k' r' (y.part e)
theorem SE_slc {a lo hi : CE} (ha : SE C n I tb a) (hlo : SE C n I tb lo) (hhi : SE C n I tb hi) : SE C n I tb (.slc a lo hi) := by
  intro cx x env cs l σ ρ F s A v p h r e
  replace h := any_eq (chk_slc.symm.trans h)
  obtain ⟨⟨_, _, _⟩, hx, h⟩ := h
  dsimp only at h
  obtain ⟨_, _, rfl⟩ := asSlice_eq hx
  simp only [Bool.and_eq_true] at h
  rw [eve_slc] at e
  split at e
  · rename_i va pl pu e1 e2 e3
    cases q : sliceA σ va pl pu with
    | none => rw [q] at e; cases e
    | some d =>
      rw [q] at e; cases e
      refine Subscript_ (one (ha _ _ _ _ _ _ _ _ _ _ _ p h.1.1 r e1) fun F1 v1 h1 tk1 k1 r1 y1 => ?_)
      refine wpAny_Slice (part_E (s := { s with heap := h1, toks := tk1 }) hlo (p.keeps k1) h.1.2 r1 e2 fun F2 v2 h2 tk2 k2 r2 i2 => ?_)
      refine part_E (s := { s with heap := h2, toks := tk2 }) hhi (p.keeps (stays_trans k1 k2)) h.2 r2 e3 fun F3 v3 h3 tk3 k3 r3 i3 => ?_
      rw [evalPart_none]
      refine wpAny_pure ?_
      exact wpAny_mono (slice_W (A := A) (C := C) (s := { s with heap := h3, toks := tk3 }) (P := Is (.d d) σ) r3 (y1.mono (stays_trans k2 k3)) i2 i3 q ⟨rfl, rfl⟩) (fun _ _ z => z.lift (stays_trans k1 (stays_trans k2 k3))) fun _ _ z => z
  · cases e
theorem mkD_some {g : List PyData → PyData} {as : List AV} {a : AV} (h : mkD g as = some a) : ∃ ds, allD as = some ds ∧ ds.length ≤ sizeLine ∧ a = .d (g ds) := by
  unfold mkD at h
  split at h
  · rename_i ds q
    split at h
    · rename_i z; cases h; exact ⟨ds, q, z, rfl⟩
    · cases h
  · cases h
theorem SE_tup {es : CE} (h1 : SL C n I tb es) : SE C n I tb (.tup es) := by
  intro cx x env cs l σ ρ F s A v p h r e
  replace h := any_eq (chk_tup.symm.trans h)
  obtain ⟨_, hx, h⟩ := h
  obtain ⟨_, _, rfl⟩ := asTup_eq hx
  rw [eve_tup] at e
  cases q : evs I σ es l cs with
  | none => rw [q] at e; cases e
  | some as =>
    rw [q] at e
    obtain ⟨ds, e1, e2, rfl⟩ := mkD_some e
    exact TE_tuple p.hl (h1 _ _ _ _ _ _ _ _ _ _ _ _ p h r q) fun as' τ z => by obtain ⟨rfl, rfl⟩ := z; exact ⟨ds, e1, e2, rfl, rfl⟩
theorem SE_lst {es : CE} (h1 : SL C n I tb es) : SE C n I tb (.lst es) := by
  intro cx x env cs l σ ρ F s A v p h r e
  replace h := any_eq (chk_lst.symm.trans h)
  obtain ⟨_, hx, h⟩ := h
  obtain ⟨_, rfl⟩ := asLst_eq hx
  rw [eve_lst] at e
  cases q : evs I σ es l cs with
  | none => rw [q] at e; cases e
  | some as =>
    rw [q] at e
    obtain ⟨ds, e1, e2, rfl⟩ := mkD_some e
    exact TE_list p.hl (h1 _ _ _ _ _ _ _ _ _ _ _ _ p h r q) fun as' τ z => by obtain ⟨rfl, rfl⟩ := z; exact ⟨ds, e1, e2, rfl, rfl⟩

theorem call_E (T : TabOk C tb) {f : Addr} {es : CE} (h1 : SL C n I tb es) {cx : Cx} {x : Str} {args : List Expr} {env : Env} {cs : List Addr} {l : Lo} {σ ρ : Store} {F : Heap} {s : Shared} {A : Around} {as : List AV} {pos pos' : Pos} {Q : AV → Store → Prop}
    (p : Pre C n cx env cs l A F ρ) (h : (isGlob cx x && tb.globs.lookup x == some f && chks tb es cx args) = true) (r : St F σ ρ s.heap) (e : evs I σ es l cs = some as) (t : TC C n (.ref f) as σ Q) :
    Wp C A (eval (.Call (.Name x pos) args [] pos') env) F ρ Q s := by
  simp only [Bool.and_eq_true, beq_iff_eq] at h
  obtain ⟨hg, hk⟩ := T.globs _ _ h.1.2
  refine Call_ (one (glob_E T p h.1.1 (g := .ref f) hg r) fun F' v h' tk' k r' y => ?_)
  cases y
  refine call_args (s := { s with heap := h', toks := tk' }) (keepsF_K hk) (notStars_of h.2) (p.g.keeps k) (h1 _ _ _ _ _ _ _ _ _ _ _ _ (p.keeps k) h.2 r' e) fun F2 σ2 as2 vs2 h2 tk2 k2 r2 y2 q2 => ?_
  obtain ⟨rfl, rfl⟩ := q2
  exact Fin.lifts (stays_trans k k2) (t A F2 ρ { s with heap := h2, toks := tk2 } vs2 p.o (p.g.keeps (stays_trans k k2)) r2 y2)
theorem SE_call (T : TabOk C tb) (hI : IOk C n I) {f : Addr} {es : CE} (h1 : SL C n I tb es) : SE C n I tb (.call f es) := by
  intro cx x env cs l σ ρ F s A v p h r e
  replace h := any_eq (chk_call.symm.trans h)
  obtain ⟨⟨_, _⟩, hx, h⟩ := h
  dsimp only at h
  obtain ⟨_, _, rfl⟩ := asCallN_eq hx
  rw [eve_call] at e
  split at e
  · rename_i hf
    cases q : evs I σ es l cs with
    | none => rw [q] at e; cases e
    | some as =>
      rw [q] at e
      exact call_E T h1 p h r q (hI.call _ _ _ _ hf e)
  · cases e
theorem mcall_E (T : TabOk C tb) {c f : Addr} {o es : CE} (ho : SE C n I tb o) (h1 : SL C n I tb es) {cx : Cx} {ox : Expr} {x : Str} {args : List Expr} {env : Env} {cs : List Addr} {l : Lo} {σ ρ : Store} {F : Heap} {s : Shared} {A : Around} {v : AV} {as ns : List AV} {pos pos' : Pos} {Q : AV → Store → Prop}
    (p : Pre C n cx env cs l A F ρ) (h : (tb.meths.lookup (c, x) == some f && chk tb o cx ox && chks tb es cx args && mOk ox args pos pos') = true) (r : St F σ ρ s.heap) (e0 : ev I σ o l cs = some v) (e1 : instA σ c v = some ns) (e : evs I σ es l cs = some as) (t : TC C n (.ref f) (v :: as) σ Q) :
    Wp C A (eval (.Call (.Attribute ox x pos) args [] pos') env) F ρ Q s := by
  simp only [Bool.and_eq_true, beq_iff_eq] at h
  obtain ⟨K, hm⟩ := T.meths _ _ _ h.1.1.1
  unfold methIn at hm
  simp only [Bool.and_eq_true, beq_iff_eq, Bool.not_eq_true'] at hm
  obtain ⟨a, dx, rfl, h4, h5⟩ := instA_some e1
  refine methodCall_KW (one (ho _ _ _ _ _ _ _ _ _ _ _ p h.1.1.2 r e0) fun F' v h' tk' k r' y => ?_) (meth_eq h.2)
  cases y
  obtain ⟨es', n', I', hd, hl, z⟩ := inst_at (s := { s with heap := h', toks := tk' }) r' h4 h5
  have X := (p.g.keeps k).1.keeps r'.r.fx
  refine method_fn (s := { s with heap := h', toks := tk' }) X I' (plainGet_of (K.get x)).1 (plainGet_of (K.get x)).2 hm.1.1.1 (beq_iff_eq.mp hm.1.1.2) ?_ ?_
  · show (lookIn x (dictOf es' n')).map _ = _
    rw [lookIn_dict, z.get_none fun q hq => ?_]
    · rfl
    · have : q.1 ∈ schema c := (List.of_mem_zip hq).1
      rw [beq_eq_false_iff_ne]
      intro e; subst e
      have := List.contains_iff_mem.mpr this
      rw [this] at hm; exact absurd hm.2 (by decide)
  · refine call_args (s := { s with heap := h', toks := tk' }) (keepsF_K hm.1.2) (notStars_of h.1.2) (p.g.keeps k) (h1 _ _ _ _ _ _ _ _ _ _ _ _ (p.keeps k) h.1.2 r' e) fun F2 σ2 as2 vs2 h2 tk2 k2 r2 y2 q2 => ?_
    obtain ⟨rfl, rfl⟩ := q2
    exact Fin.lifts (stays_trans k k2) (t A F2 ρ { s with heap := h2, toks := tk2 } (.ref a :: vs2) p.o (p.g.keeps (stays_trans k k2)) r2 (.cons (.ref a) y2))
theorem SE_mcall (T : TabOk C tb) (hI : IOk C n I) {c f : Addr} {o es : CE} (ho : SE C n I tb o) (h1 : SL C n I tb es) : SE C n I tb (.mcall c f o es) := by
  intro cx x env cs l σ ρ F s A v p h r e
  replace h := any_eq (chk_mcall.symm.trans h)
  obtain ⟨⟨_, _, _, _, _⟩, hx, h⟩ := h
  dsimp only at h
  obtain rfl := asCallA_eq hx
  rw [eve_mcall] at e
  split at e
  · rename_i vo e0
    split at e
    · rename_i ns e1
      split at e
      · rename_i hf
        cases q : evs I σ es l cs with
        | none => rw [q] at e; cases e
        | some as =>
          rw [q] at e
          exact mcall_E T ho h1 p h r e0 e1 q (hI.call _ _ _ _ hf e)
      · cases e
    · cases e
  · cases e
theorem hin_ev {a b : CE} {σ : Store} {l : Lo} {cs : List Addr} {v : AV} (e : ev I σ (.hin a b) l cs = some v) : ∃ va vb d, ev I σ a l cs = some va ∧ ev I σ b l cs = some vb ∧ I 0 [va, vb] σ = some (.d (.bool d)) ∧ v = .d (.bool d) := by
  rw [eve_hin] at e
  split at e
  · rename_i va vb e1 e2
    cases q : tru (I 0 [va, vb] σ) with
    | none => rw [q] at e; cases e
    | some d => rw [q] at e; cases e; exact ⟨va, vb, d, e1, e2, tru_some q, rfl⟩
  · cases e
theorem SE_hin (hI : IOk C n I) {a b : CE} (ha : SE C n I tb a) (hb : SE C n I tb b) : SE C n I tb (.hin a b) := by
  intro cx x env cs l σ ρ F s A v p h r e
  replace h := any_eq (chk_hin.symm.trans h)
  obtain ⟨⟨_, _, _⟩, hx, h⟩ := h
  dsimp only at h
  rw [Bool.and_eq_true, beq_iff_eq] at h
  obtain ⟨ho, h⟩ := h
  subst ho
  obtain ⟨_, rfl⟩ := asCmp1_eq hx
  simp only [Bool.and_eq_true, Bool.not_eq_true'] at h
  obtain ⟨va, vb, d, e1, e2, q, rfl⟩ := hin_ev e
  exact wpAny_Compare1 (two (ha _ _ _ _ _ _ _ _ _ _ _ p h.1 r e1) (fun F' h' tk' k r' => hb _ _ _ _ _ _ _ _ _ _ _ (p.keeps k) h.2.1 r' e2)
    fun F' v w h' tk' k r' y z => Fin.lifts k (hI.hin _ _ _ _ q A F' ρ { s with heap := h', toks := tk' } v w p.o (p.g.keeps k) r' y z)) h.2.2
theorem SB_hin (hI : IOk C n I) {a b : CE} (ha : SE C n I tb a) (hb : SE C n I tb b) : SB C n I tb (.hin a b) := by
  intro cx x env cs l σ ρ F s A v Q p h r e qq
  replace h := any_eq (chk_hin.symm.trans h)
  obtain ⟨⟨_, _, _⟩, hx, h⟩ := h
  dsimp only at h
  rw [Bool.and_eq_true, beq_iff_eq] at h
  obtain ⟨ho, h⟩ := h
  subst ho
  obtain ⟨_, rfl⟩ := asCmp1_eq hx
  simp only [Bool.and_eq_true, Bool.not_eq_true'] at h
  obtain ⟨va, vb, d, e1, e2, q, e3⟩ := hin_ev (tru_some e)
  cases e3
  refine wpAny_isTrue_Compare1 (two (ha _ _ _ _ _ _ _ _ _ _ _ p h.1 r e1) (fun F' h' tk' k r' => hb _ _ _ _ _ _ _ _ _ _ _ (p.keeps k) h.2.1 r' e2)
    fun F' v w h' tk' k r' y z => ?_) h.2.2
  refine (hI.hin _ _ _ _ q A F' ρ { s with heap := h', toks := tk' } v w p.o (p.g.keeps k) r' y z).then fun F2 σ2 a2 v2 h2 tk2 k2 r2 y2 q2 => ?_
  obtain ⟨rfl, rfl⟩ := q2
  rw [y2.bool]
  exact wpAny_truthy_bool (qq F2 h2 tk2 (stays_trans k k2) r2)
theorem SE_hat (hI : IOk C n I) {a b : CE} (ha : SE C n I tb a) (hb : SE C n I tb b) : SE C n I tb (.hat a b) := by
  intro cx x env cs l σ ρ F s A v p h r e
  replace h := any_eq (chk_hat.symm.trans h)
  obtain ⟨⟨_, _⟩, hx, h⟩ := h
  dsimp only at h
  obtain ⟨_, rfl⟩ := asSub_eq hx
  simp only [Bool.and_eq_true] at h
  rw [eve_hat] at e
  split at e
  · rename_i va vb e1 e2
    exact Subscript_ (two (ha _ _ _ _ _ _ _ _ _ _ _ p h.1.1 r e1) (fun F' h' tk' k r' => hb _ _ _ _ _ _ _ _ _ _ _ (p.keeps k) h.1.2 r' e2)
      fun F' v w h' tk' k r' y z => Fin.lifts k (hI.hat _ _ _ _ e A F' ρ { s with heap := h', toks := tk' } v w _ _ p.o (p.g.keeps k) r' y z))
  · cases e
theorem keeps_bi (b : Bi) : KeepsF C b.val := by cases b <;> first | exact keepsF_builtin C _ | exact keepsF_type C _
theorem bi_W {A : Around} {F : Heap} {ρ σ : Store} {s : Shared} {L : Addr} {names : List Str} {l : List (Option AV)} {P : AV → Store → Prop} {v : Value} {a : AV} {x : PyData} {b : Bi} (o : OkA A n) (hl : ρ L = some (.fr names l)) (r : St F σ ρ s.heap) (y : VR F a v) (e : biA σ b a = some x) (p : P (.d x) σ) : Wp C A (call b.val [v]) F ρ P s := by
  cases b
  · exact len_W r y e p
  · exact listOf_W hl r y e p
  · exact tupleOf_W r y e p
  · exact max_W o hl r y e p
  · exact chr_W r y e p
  · exact ord_W r y e p
theorem SE_bi (T : TabOk C tb) {b : Bi} {a : CE} (ha : SE C n I tb a) : SE C n I tb (.bi b a) := by
  intro cx x env cs l σ ρ F s A v p h r e
  replace h := any_eq (chk_bi.symm.trans h)
  obtain ⟨⟨_, _⟩, hx, h⟩ := h
  dsimp only at h
  replace h := any_eq h
  obtain ⟨y, hy, h⟩ := h
  obtain rfl := one?_eq hy
  obtain ⟨_, _, rfl⟩ := asCallN_eq hx
  simp only [Bool.and_eq_true, beq_iff_eq] at h
  obtain ⟨⟨⟨h1, rfl⟩, h2⟩, h3⟩ := h
  rw [eve_bi] at e
  cases q : ev I σ a l cs with
  | none => rw [q] at e; cases e
  | some va =>
    rw [q] at e
    simp only [Option.bind_some] at e
    cases q2 : biA σ b va with
    | none => rw [q2] at e; cases e
    | some d =>
      rw [q2] at e; cases e
      refine Call_ (one (glob_E T p h1 (g := .v b.val) (T.bi b) r) fun F' v h' tk' k r' y => ?_)
      cases y
      refine call_args (s := { s with heap := h', toks := tk' }) (P1 := fun as τ => as = [va] ∧ τ = σ) (keeps_bi b) (by simp [h3]) (p.g.keeps k) (WpL_cons h3 (ha _ _ _ _ _ _ _ _ _ _ _ (p.keeps k) h2 r' q) fun F2 σ2 a2 h2 tk2 k2 r2 q2 => ?_) fun F2 σ2 as2 vs2 h2 tk2 k2 r2 y2 q2' => ?_
      · obtain ⟨rfl, rfl⟩ := q2
        exact WpL_nil r2 ⟨rfl, rfl⟩
      · obtain ⟨rfl, rfl⟩ := q2'
        obtain ⟨v2, rfl, y5⟩ := y2.is1
        exact Fin.lifts (stays_trans k k2) (bi_W (s := { s with heap := h2, toks := tk2 }) p.o p.hl r2 y5 q2 ⟨rfl, rfl⟩)
theorem splitA_str {a : AV} {d : PyData} (h : splitA a = some d) : ∃ z, a = .d (.str z) := by
  unfold splitA at h
  split at h
  · exact ⟨_, rfl⟩
  · cases h
theorem lowerA_str {a : AV} {d : PyData} (h : lowerA a = some d) : ∃ z, a = .d (.str z) := by
  unfold lowerA at h
  split at h
  · exact ⟨_, rfl⟩
  · cases h
theorem SE_meth {m : Me} {a : CE} (ha : SE C n I tb a) : SE C n I tb (.meth m a) := by
  intro cx x env cs l σ ρ F s A v p h r e
  replace h := any_eq (chk_meth.symm.trans h)
  obtain ⟨⟨_, _, _, _, _⟩, hx, h⟩ := h
  dsimp only at h
  obtain rfl := asCallA_eq hx
  simp only [Bool.and_eq_true, beq_iff_eq] at h
  obtain ⟨⟨⟨h0, rfl⟩, h2⟩, h9⟩ := h
  obtain rfl := List.isEmpty_iff.mp h0
  rw [eve_meth] at e
  cases q : ev I σ a l cs with
  | none => rw [q] at e; cases e
  | some va =>
    rw [q] at e
    simp only [Option.bind_some] at e
    cases q2 : meA m va with
    | none => rw [q2] at e; cases e
    | some d =>
      rw [q2] at e; cases e
      refine methodCall_KW (one (ha _ _ _ _ _ _ _ _ _ _ _ p h2 r q) fun F' v h' tk' k r' y => ?_) (meth_eq h9)
      have isS : ∃ z, va = .d (.str z) := by
        cases m
        · exact splitA_str q2
        · exact lowerA_str q2
      obtain ⟨z, rfl⟩ := isS
      obtain ⟨t, rfl⟩ := y.str
      cases m
      · refine GM.split ?_
        refine call_args (s := { s with heap := h', toks := tk' }) (args := []) (P1 := fun as τ => as = [] ∧ τ = σ) (keepsF_builtin C _) rfl (p.g.keeps k) (WpL_nil r' ⟨rfl, rfl⟩) fun F2 σ2 as2 vs2 h2 tk2 k2 r2 y2 q2' => ?_
        obtain ⟨rfl, rfl⟩ := q2'
        cases y2
        exact Fin.lifts (stays_trans k k2) (split_W (s := { s with heap := h2, toks := tk2 }) p.hl r2 (y.mono k2) q2 ⟨rfl, rfl⟩)
      · refine GM.lower ?_
        refine call_args (s := { s with heap := h', toks := tk' }) (args := []) (P1 := fun as τ => as = [] ∧ τ = σ) (keepsF_builtin C _) rfl (p.g.keeps k) (WpL_nil r' ⟨rfl, rfl⟩) fun F2 σ2 as2 vs2 h2 tk2 k2 r2 y2 q2' => ?_
        obtain ⟨rfl, rfl⟩ := q2'
        cases y2
        exact Fin.lifts (stays_trans k k2) (lower_W (s := { s with heap := h2, toks := tk2 }) r2 (y.mono k2) q2 ⟨rfl, rfl⟩)
theorem SE_join {sep : Str} {a : CE} (ha : SE C n I tb a) : SE C n I tb (.join sep a) := by
  intro cx x env cs l σ ρ F s A v p h r e
  replace h := any_eq (chk_join.symm.trans h)
  obtain ⟨⟨_, _, _, _, _⟩, hx, h⟩ := h
  dsimp only at h
  replace h := any_eq h
  obtain ⟨y, hy, h⟩ := h
  obtain rfl := one?_eq hy
  obtain rfl := asCallA_eq hx
  simp only [Bool.and_eq_true, beq_iff_eq] at h
  obtain ⟨⟨⟨⟨hv, rfl⟩, h2⟩, h3⟩, h9⟩ := h
  obtain ⟨_, _, rfl⟩ := asConst_eq hv
  rw [eve_join] at e
  cases q : ev I σ a l cs with
  | none => rw [q] at e; cases e
  | some va =>
    rw [q] at e
    simp only [Option.bind_some] at e
    cases q2 : joinA σ sep va with
    | none => rw [q2] at e; cases e
    | some d =>
      rw [q2] at e; cases e
      refine methodCall_KW (one (TE_const (P := Is (.d (.str sep)) σ) (x := .str sep) rfl r ⟨rfl, rfl⟩) fun F' v h' tk' k r' y => ?_) (meth_eq (by unfold mOk baseOk; simp [h9, h3]))
      obtain ⟨t, rfl⟩ := y.str
      refine GM.join ?_
      refine call_args (s := { s with heap := h', toks := tk' }) (P1 := fun as τ => as = [va] ∧ τ = σ) (keepsF_builtin C _) (by simp [h3]) (p.g.keeps k) (WpL_cons h3 (ha _ _ _ _ _ _ _ _ _ _ _ (p.keeps k) h2 r' q) fun F2 σ2 a2 h2 tk2 k2 r2 q2 => ?_) fun F2 σ2 as2 vs2 h2 tk2 k2 r2 y2 q2' => ?_
      · obtain ⟨rfl, rfl⟩ := q2
        exact WpL_nil r2 ⟨rfl, rfl⟩
      · obtain ⟨rfl, rfl⟩ := q2'
        obtain ⟨v2, rfl, y5⟩ := y2.is1
        exact Fin.lifts (stays_trans k k2) (join_W (s := { s with heap := h2, toks := tk2 }) r2 y5 q2 ⟨rfl, rfl⟩)
theorem rng_W {A : Around} {F : Heap} {ρ σ : Store} {s : Shared} {as : List AV} {vs : List Value} {a : AV} {P : AV → Store → Prop} (r : St F σ ρ s.heap) (y : VRs F as vs) (e : rngA as = some a) (p : P a σ) : Wp C A (call (.type "range") vs) F ρ P s := by
  have fin : ∀ {b c d : Int} {t u w : Tok} {tk : Nat}, P (.rng b c d) σ → Fin F s ρ P (.ref s.heap.objs.size) { s with heap := s.heap.push { cls := .type "range", data := .fields #[.int b t, .int c u, .int d w] }, toks := tk } := fun {b c d t u w tk} q => by
    obtain ⟨F', k, g, r'⟩ := r.pushF (o := { cls := .type "range", data := .fields #[.int b t, .int c u, .int d w] }) rfl
    exact ⟨F', σ, _, _, tk, rfl, k, r', .rng g, q⟩
  unfold rngA at e
  split at e
  · rename_i hx
    obtain rfl := ints_of hx
    cases e
    obtain ⟨_, rfl, y1⟩ := y.is1
    obtain ⟨t, rfl⟩ := y1.int
    exact call_range_1 (fin p)
  · rename_i hx
    obtain rfl := ints_of hx
    cases e
    obtain ⟨_, _, rfl, y1, y2⟩ := y.is2
    obtain ⟨t, rfl⟩ := y1.int
    obtain ⟨u, rfl⟩ := y2.int
    exact call_range_2 (fin p)
  · rename_i hx
    obtain rfl := ints_of hx
    split at e
    · rename_i hc
      cases e
      obtain ⟨_, _, _, rfl, y1, y2, y3⟩ := y.is3
      obtain ⟨t, rfl⟩ := y1.int
      obtain ⟨u, rfl⟩ := y2.int
      obtain ⟨w, rfl⟩ := y3.int
      exact call_range_3 hc.1 (fin p) (.inl (PyProof.noPylong_small hc.2))
    · cases e
  · cases e
theorem SE_rng (T : TabOk C tb) {es : CE} (h1 : SL C n I tb es) : SE C n I tb (.rng es) := by
  intro cx x env cs l σ ρ F s A v p h r e
  replace h := any_eq (chk_rng.symm.trans h)
  obtain ⟨⟨_, _⟩, hx, h⟩ := h
  dsimp only at h
  obtain ⟨_, _, rfl⟩ := asCallN_eq hx
  simp only [Bool.and_eq_true, beq_iff_eq] at h
  obtain ⟨⟨h2, rfl⟩, h3⟩ := h
  rw [eve_rng] at e
  cases q : evs I σ es l cs with
  | none => rw [q] at e; cases e
  | some as =>
    rw [q] at e
    simp only [Option.bind_some] at e
    refine Call_ (one (glob_E T p h2 (g := .v (.type "range")) T.range r) fun F' v h' tk' k r' y => ?_)
    cases y
    refine call_args (s := { s with heap := h', toks := tk' }) (keepsF_type C _) (notStars_of h3) (p.g.keeps k) (h1 _ _ _ _ _ _ _ _ _ _ _ _ (p.keeps k) h3 r' q) fun F2 σ2 as2 vs2 h2 tk2 k2 r2 y2 q2 => ?_
    obtain ⟨rfl, rfl⟩ := q2
    exact Fin.lifts (stays_trans k k2) (rng_W (s := { s with heap := h2, toks := tk2 }) r2 y2 e ⟨rfl, rfl⟩)
end
end Mine
end

section
set_option maxRecDepth 100000
namespace Mine

theorem sel_ok {cx : Cx} {env : Env} {cs : List Addr} (E : EnvOk cx env cs) : ∀ {fs : List Nat} {frees : List Str}, fs.map (cx.cells[·]?) = frees.map some →
    (∀ x ∈ frees, env.cells.lookup x = some ((env.cells.lookup x).getD 0)) ∧ selC fs cs = frees.map fun x => (env.cells.lookup x).getD 0
  | [], [], _ => ⟨by simp, rfl⟩
  | [], _ :: _, h => by simp at h
  | _ :: _, [], h => by simp at h
  | j :: fs, x :: frees, h => by
    simp only [List.map_cons, List.cons.injEq] at h
    obtain ⟨h1, h2⟩ := h
    obtain ⟨i1, i2⟩ := sel_ok E h2
    have hj : j < cs.length := by rw [E.len]; exact (List.getElem?_eq_some_iff.mp h1).1
    have e := E.cells j x cs[j] h1 (List.getElem?_eq_getElem hj)
    refine ⟨fun y hy => ?_, ?_⟩
    · rcases List.mem_cons.mp hy with rfl | hy
      · rw [e]; rfl
      · exact i1 y hy
    · show cs.getD j 0 :: selC fs cs = _
      rw [i2, List.map_cons, e]
      congr 1
      simp [List.getD_eq_getElem?_getD, List.getElem?_eq_getElem hj]

structure ScopeOk (cx : Cx) (scope : Scope) (nm : List Str) (fs : List Nat) : Prop where
  kind : scope.kind = .function
  cell : ∀ x ∈ scope.names, x.2 ≠ .cell
  loc : ∀ x ∈ scope.names, x.2 = .local → scope.names.lookup x.1 = some .local
  nm : ∀ x ∈ nm, scope.names.lookup x = some .local
  fs : fs.map (cx.cells[·]?) = (freesOf scope).map some
theorem ScopeOk.of {cx : Cx} {scope : Scope} {nm : List Str} {fs : List Nat} (h : scopeOk cx scope nm fs = true) : ScopeOk cx scope nm fs := by
  unfold scopeOk at h
  simp only [Bool.and_eq_true, beq_iff_eq, List.all_eq_true, Bool.or_eq_true, bne_iff_ne, ne_eq] at h
  obtain ⟨⟨⟨⟨h1, h2⟩, h3⟩, h4⟩, h5⟩ := h
  exact ⟨h1, h2, fun x hx e => (h3 x hx).resolve_left (fun q => q e), h4, h5⟩
theorem innerEnv {cx : Cx} {env : Env} {cs : List Addr} {scope : Scope} {nm : List Str} {fs : List Nat} {Cc : Addr} (E : EnvOk cx env cs) (S : ScopeOk cx scope nm fs) (nd : nm.Nodup) :
    EnvOk (innerCx cx scope nm) (compEnvC scope ((freesOf scope).reverse.map fun x => (x, (env.cells.lookup x).getD 0)) Cc env) (selC fs cs) := by
  obtain ⟨h1, h2⟩ := sel_ok E S.fs
  refine ⟨S.kind, ?_, E.glob, E.blt, fun i x c hx hc => ?_, nd, ?_⟩
  · show (relabel scope env).names = innerKinds cx scope
    unfold relabel innerKinds
    apply List.map_congr_left
    rintro ⟨x, k⟩ _
    simp only [E.kindOf, E.fn, beq_self_eq_true, Bool.and_true]
  · show List.lookup x _ = _
    have hx' : (freesOf scope)[i]? = some x := hx
    rw [h2, List.getElem?_map, hx'] at hc
    cases hc
    exact closure_look (List.mem_reverse.mpr (List.mem_of_getElem? hx'))
  · rw [h2]; simp [innerCx]

theorem goC_P {f : AV → Option (Option AV)} {step : StepP} {σ : Store} (hs : ∀ a o RR, f a = some o → RR o σ → step a σ RR) : ∀ {items : List AV} {as acc : List AV}, goC f items = some as → compP step items acc σ fun bs τ => bs = acc ++ as ∧ τ = σ
  | [], as, acc, h => by cases h; exact ⟨by simp, rfl⟩
  | a :: r, as, acc, h => by
    unfold goC at h
    split at h
    · rename_i o bs h1 h2
      cases h
      refine hs a o _ h1 ?_
      have := goC_P hs (acc := acc ++ o.toList) h2
      rw [List.append_assoc] at this
      exact this
    · cases h
theorem iterA_len {a : AV} {items : List AV} (h : iterA a = some items) : items.length ≤ sizeLine := by
  unfold iterA at h
  split at h <;> (try split at h) <;> first | (cases h; simp; omega) | (cases h; simp; rename_i q; exact q.2.2.2) | (cases h; rename_i q; rw [List.length_map, Array.length_toList]; exact q) | cases h
theorem set_pure {iter : Expr} {env : Env} (h : notSet iter = true) : ∀ x, foldedSetIterable iter env x = pure x := by
  intro x
  cases iter <;> first | rfl | cases h
theorem letGo_keep {h h' : Heap} {a : Addr} (hs : Heap.SameBut a h h') : ∀ b o, b ≠ a → h.get? b = some o → h'.get? b = some o := fun b o hb e => hs.extBut b o hb e

section
variable {C : Cfg} {n : Nat} {I : Tab} {tb : Tb}
noncomputable def stepE (I : Tab) (σ : Store) (two : Bool) (elt cond : CE) (cs : List Addr) : StepP := fun a τ RR => ∃ l', bindT two a = some l' ∧ τ = σ ∧
  (((if cond.isNil then some true else tru (ev I σ cond l' cs)) = some true ∧ ∃ b, ev I σ elt l' cs = some b ∧ RR (some b) σ) ∨ ((if cond.isNil then some true else tru (ev I σ cond l' cs)) = some false ∧ RR none σ))

theorem pre_in {A : Around} {F : Heap} {ρ : Store} {cx : Cx} {env : Env} {cs : List Addr} {l l2 : Lo} {scope : Scope} {nm : List Str} {fs : List Nat} {Cc : Addr} {F' : Heap} {ρ' : Store} (p : Pre C n cx env cs l A F ρ) (S : ScopeOk cx scope nm fs) (nd : nm.Nodup) (k : F.StaysIn F') :
    Pre C n (innerCx cx scope nm) (compEnvC scope ((freesOf scope).reverse.map fun x => (x, (env.cells.lookup x).getD 0)) Cc env) (selC fs cs) l2 A F' (ρ'.set Cc (.fr nm l2)) :=
  ⟨innerEnv p.E S nd, Store.set_self .., p.o, p.g.keeps k⟩

theorem tests_E {cond : CE} (hc : SB C n I tb cond) {A : Around} {F : Heap} {ρ σ : Store} {s : Shared} {cx : Cx} {env : Env} {cs : List Addr} {l : Lo} {ifs : List Expr} {b : Bool} {Q : Bool → Shared → Prop} (p : Pre C n cx env cs l A F ρ)
    (h : okTests cond (chk tb cond cx) ifs = true) (r : St F σ ρ s.heap) (e : (if cond.isNil then some true else tru (ev I σ cond l cs)) = some b)
    (q : ∀ F' h' tk', F.StaysIn F' → St F' σ ρ h' → Q b { s with heap := h', toks := tk' }) :
    wpAny (model C.prog C.w) A (forIn ifs true fun c r => if r = true then do let ok ← isTrue c env (eval c env); pure (ForInStep.yield ok) else pure (ForInStep.yield r)) Q Bot s := by
  obtain _ | ⟨i, _ | ⟨j, ifs⟩⟩ := ifs
  · rw [show cond.isNil = true from h] at e; cases e
    exact wpAny_tests_nil (q F s.heap s.toks (stays_refl F) r)
  · simp only [okTests, Bool.and_eq_true, Bool.not_eq_true'] at h
    rw [h.1] at e
    exact wpAny_tests_one (hc _ _ _ _ _ _ _ _ _ _ _ _ p h.2 r e q)
  · cases h

theorem comp_end {F F' : Heap} {σ' ρ : Store} {acc : List AV} {l' : Lo} {D Cc : Addr} {nm : List Str} {h' : Heap} {ds : List PyData} (r' : St F' σ' ((ρ.set D (.list acc)).set Cc (.fr nm l')) h') (hDC : D ≠ Cc) (hD : ρ D = none) (d1 : allD acc = some ds) :
    ∃ F3, F'.StaysIn F3 ∧ St F3 σ' (ρ.set Cc (.fr nm l')) h' ∧ VR F3 (.d (.list ds)) (.ref D) := by
  rw [Store.set_comm hDC] at r'
  obtain ⟨_, o, ho, vs, n', rfl, z⟩ := r'.right (Store.set_self ..)
  have r3 := r'.dropR (Store.set_self ..) (fun _ _ _ e => e)
  rw [Store.del_set (by rw [Store.set_ne _ _ hDC]; exact hD)] at r3
  have hσ : σ' D = none := by
    rcases r'.dj D with q | q
    · exact q
    · rw [Store.set_self] at q; cases q
  obtain ⟨F3, k3, g3, r4⟩ := r3.freeze ho hσ (by rw [Store.set_ne _ _ hDC]; exact hD)
  obtain ⟨bs, rr⟩ := reads_of (z.mono k3) d1
  exact ⟨F3, k3, r4, .d (reads_list_at g3 rfl rfl rr)⟩

theorem comp_endN {A : Around} {F F' : Heap} {σ' ρ : Store} {s : Shared} {acc : List AV} {l' : Lo} {D Cc : Addr} {nm : List Str} {h' : Heap} {tk' : Nat} {ds : List PyData} {P : AV → Store → Prop} (kF : F.StaysIn F') (r' : St F' σ' ((ρ.set D (.list acc)).set Cc (.fr nm l')) h') (hDC : D ≠ Cc) (hD : ρ D = none) (hC : ρ Cc = none) (d1 : allD acc = some ds) (q : P (.d (.list ds)) σ') :
    compPost (model C.prog C.w) A Bot none (Fin F s ρ P) (.ref D) Cc (.ok .next) { s with heap := h', toks := tk' } := by
  obtain ⟨F3, k3, r4, y⟩ := comp_end (F := F) r' hDC hD d1
  obtain ⟨m, hn, _⟩ := fr_ns r4 (Store.set_self ..)
  refine ⟨m, hn, fun h'' hs => ?_⟩
  have r2 := r4.dropR (Store.set_self ..) (letGo_keep hs)
  rw [Store.del_set hC] at r2
  exact ⟨F3, σ', _, h'', tk', rfl, stays_trans kF k3, r2, y, q⟩
theorem comp_x {two : Bool} {fs : List Nat} {it elt cond : CE} {cx : Cx} {x : Expr} (h : chk tb (.comp two fs it elt cond) cx x = true) : ∃ e t i fs sc p, x = .ListComp e [⟨t, i, fs, 0⟩] sc p := by
  obtain ⟨⟨_, _, _, _, _⟩, hx, _⟩ := any_eq (chk_comp.symm.trans h)
  obtain ⟨p, e⟩ := asComp_eq hx
  exact ⟨_, _, _, _, _, p, e⟩
theorem comp_E {two : Bool} {fs : List Nat} {it elt cond : CE} (hi : SE C n I tb it) (he : SE C n I tb elt) (hc : SB C n I tb cond) {cx : Cx} {env : Env} {cs : List Addr} {l : Lo} {σ ρ : Store} {F : Heap} {s : Shared} {A : Around} {e' target iter : Expr} {ifs : List Expr} {scope : Scope} {pos pos' : Pos} {use : Option (Value → Sem Unit)} {Q : Value → Shared → Prop} {v : AV}
    (p : Pre C n cx env cs l A F ρ) (h : chk tb (.comp two fs it elt cond) cx (.ListComp e' [⟨target, iter, ifs, 0⟩] scope pos) = true) (r : St F σ ρ s.heap) (e : ev I σ (.comp two fs it elt cond) l cs = some v)
    (fin : ∀ F' acc l' D Cc nm h' tk' ds, F.StaysIn F' → St F' σ ((ρ.set D (.list acc)).set Cc (.fr nm l')) h' → D ≠ Cc → ρ D = none → ρ Cc = none → allD acc = some ds → v = .d (.list ds) →
      compPost (model C.prog C.w) A Bot use Q (.ref D) Cc (.ok .next) { s with heap := h', toks := tk' }) :
    wpAny (model C.prog C.w) A (comprehension (.ListComp e' [⟨target, iter, ifs, 0⟩] scope pos) scope env pos' (newList []) false (eval iter env) use) Q Bot s := by
  obtain ⟨q, hx, h⟩ := any_eq (chk_comp.symm.trans h)
  obtain rfl : (e', target, iter, ifs, scope) = q := Option.some.inj hx
  obtain ⟨nm, ht, h⟩ := any_eq h
  simp only [Bool.and_eq_true] at h
  obtain ⟨⟨⟨⟨h1, h2⟩, h3⟩, h4⟩, h5⟩ := h
  have S := ScopeOk.of h1
  have nd := targetNames_nodup ht
  obtain ⟨c1, c2⟩ := sel_ok p.E S.fs
  rw [eve_comp] at e
  split at e
  · rename_i a ea
    split at e
    · rename_i items ei
      split at e
      · rename_i as eg
        obtain ⟨ds, d1, d2, hv⟩ := mkD_some e
        refine comp_full (use := use) (nm := nm) (l0 := []) (f := fun x => (env.cells.lookup x).getD 0) (step := stepE I σ two elt cond (selC fs cs)) (K := fun bs τ => bs = as ∧ τ = σ) (by simp) p.o c1 S.cell S.kind S.loc (set_pure h3) (hi _ _ _ _ _ _ _ _ _ _ _ p h2 r ea) ?_ ?_ ?_
        · rintro a' τ ⟨rfl, rfl⟩
          refine ⟨items, ei, iterA_len ei, ?_⟩
          have := goC_P (acc := []) (step := stepE I τ two elt cond (selC fs cs)) (σ := τ) (fun a o RR hf hr => ?_) eg
          · simpa using this
          · split at hf
            · rename_i l' hb
              split at hf
              · rename_i q
                cases q2 : ev I τ elt l' (selC fs cs) with
                | none => rw [q2] at hf; cases hf
                | some b => rw [q2] at hf; cases hf; exact ⟨l', hb, rfl, .inl ⟨q, b, q2, hr⟩⟩
              · rename_i q; cases hf; exact ⟨l', hb, rfl, .inr ⟨q, hr⟩⟩
              · cases hf
            · cases hf
        · rintro Cc a v F' σ' ρ' s' l' RR ⟨l2, hb, rfl, hcase⟩ kF hC y r'
          refine bind_W p.o ht S.kind (fun x hx => lookup_relabel_local (S.nm x hx)) rfl hb y r' fun h' tk' r2 => ?_
          have p2 : ∀ F2, F'.StaysIn F2 → Pre C n (innerCx cx scope nm) (compEnvC scope ((freesOf scope).reverse.map fun x => (x, (env.cells.lookup x).getD 0)) Cc env) (selC fs cs) l2 A F2 (ρ'.set Cc (.fr nm l2)) := fun F2 k2 => pre_in p S nd (stays_trans kF k2)
          rcases hcase with ⟨q, b, q2, hr⟩ | ⟨q, hr⟩
          · refine tests_E (s := { s' with heap := h', toks := tk' }) hc (p2 F' (stays_refl _)) h5 r2 q fun F2 h2' tk2 k2 r3 => ?_
            simp only [if_true]
            refine (he _ _ _ _ _ _ _ _ { s' with heap := h2', toks := tk2 } _ _ (p2 F2 k2) h4 r3 q2).then fun F3 σ3 a3 v3 h3' tk3 k3 r4 y3 q3 => ?_
            obtain ⟨rfl, rfl⟩ := q3
            exact ⟨F3, _, _, l2, h3', tk3, rfl, stays_trans k2 k3, r4, y3, hr⟩
          · refine tests_E (s := { s' with heap := h', toks := tk' }) hc (p2 F' (stays_refl _)) h5 r2 q fun F2 h2' tk2 k2 r3 => ?_
            simp only [Bool.false_eq_true, if_false]
            exact ⟨F2, _, l2, h2', tk2, rfl, k2, r3, hr⟩
        · rintro F' σ' acc l' D Cc h' tk' kF r' hDC hD hC ⟨rfl, rfl⟩
          exact fin F' _ _ _ _ _ _ _ _ kF r' hDC hD hC d1 hv
      · cases e
    · cases e
  · cases e
theorem SE_comp {two : Bool} {fs : List Nat} {it elt cond : CE} (hi : SE C n I tb it) (he : SE C n I tb elt) (hc : SB C n I tb cond) : SE C n I tb (.comp two fs it elt cond) := by
  intro cx x env cs l σ ρ F s A v p h r e
  obtain ⟨_, _, _, _, _, _, rfl⟩ := comp_x h
  rw [eval_ListComp]
  exact comp_E hi he hc p h r e fun F' acc l' D Cc nm h' tk' ds kF r' hDC hD hC d1 hv => comp_endN kF r' hDC hD hC d1 ⟨hv.symm, rfl⟩

theorem SB_chain {o' p' : CmpOp} {a b c : CE} (ha : SE C n I tb a) (hb : SE C n I tb b) (hc : SE C n I tb c) : SB C n I tb (.chain o' p' a b c) := by
  intro cx x env cs l σ ρ F s A v Q p h r e qq
  have e := tru_some e
  replace h := any_eq (chk_chain.symm.trans h)
  obtain ⟨⟨_, _, _, _, _⟩, hx, h⟩ := h
  dsimp only at h
  obtain ⟨_, rfl⟩ := asCmp2_eq hx
  simp only [Bool.and_eq_true, beq_iff_eq, Bool.not_eq_true'] at h
  obtain ⟨⟨⟨⟨⟨rfl, rfl⟩, h1⟩, h2⟩, h3⟩, h4⟩ := h
  rw [eve_chain] at e
  split at e
  · rename_i va vb e1 e2
    refine isTrue_chain (one (ha _ _ _ _ _ _ _ _ _ _ _ p h1 r e1) fun F' v1 h' tk' k r' y1 => ?_) h4
    refine test_link ?_
    refine one (hb _ _ _ _ _ _ _ _ _ _ _ (p.keeps k) h2 r' e2) fun F2 v2 h2' tk2 k2 r2 y2 => ?_
    split at e
    · rename_i q
      refine (cmp_W (P := Is _ σ) (s := { s with heap := h2', toks := tk2 }) p.o r2 (y1.mono k2) y2 q ⟨rfl, rfl⟩).then fun F3 σ3 a3 v3 h3' tk3 k3 r3 y3 q3 => ?_
      obtain ⟨rfl, rfl⟩ := q3
      rw [y3.bool]
      refine wpAny_truthy_bool ?_
      simp only [if_true]
      split at e
      · rename_i vc e3
        cases q4 : cmpA σ3 p' vb vc with
        | none => rw [q4] at e; cases e
        | some d =>
          rw [q4] at e; cases e
          refine test_last ?_
          refine one (hc _ _ _ _ _ _ _ _ _ _ _ (p.keeps (stays_trans k (stays_trans k2 k3))) h3 r3 e3) fun F4 v4 h4' tk4 k4 r4 y4 => ?_
          refine (cmp_W (P := Is _ σ3) (s := { s with heap := h4', toks := tk4 }) p.o r4 (y2.mono (stays_trans k3 k4)) y4 q4 ⟨rfl, rfl⟩).then fun F5 σ5 a5 v5 h5' tk5 k5 r5 y5 q5 => ?_
          obtain ⟨rfl, rfl⟩ := q5
          rw [y5.bool]
          exact wpAny_truthy_bool (qq F5 h5' tk5 (stays_trans k (stays_trans k2 (stays_trans k3 (stays_trans k4 k5)))) r5)
      · cases e
    · rename_i q
      cases e
      refine (cmp_W (P := Is _ σ) (s := { s with heap := h2', toks := tk2 }) p.o r2 (y1.mono k2) y2 q ⟨rfl, rfl⟩).then fun F3 σ3 a3 v3 h3' tk3 k3 r3 y3 q3 => ?_
      obtain ⟨rfl, rfl⟩ := q3
      rw [y3.bool]
      refine wpAny_truthy_bool ?_
      simp only [Bool.false_eq_true, if_false]
      exact qq F3 h3' tk3 (stays_trans k (stays_trans k2 k3)) r3
    · cases e
  · cases e

theorem ev_ok (T : TabOk C tb) (hI : IOk C n I) : ∀ c : CE, SE C n I tb c ∧ SB C n I tb c ∧ SL C n I tb c := by
  have noL : ∀ {c : CE}, (∀ cx xs, chks tb c cx xs = false) → SL C n I tb c := fun h cx xs env cs l σ ρ F s A pos as p hc => by rw [h] at hc; cases hc
  have plain : ∀ {c : CE}, SE C n I tb c → (∀ cx x, chk tb c cx x = true → plainT x = true) → (∀ cx xs, chks tb c cx xs = false) → SE C n I tb c ∧ SB C n I tb c ∧ SL C n I tb c := fun h hp hl => ⟨h, SB_plain h hp, noL hl⟩
  have pl : ∀ {c : CE} {cx : Cx} {x : Expr}, (chk tb c cx x = true → plainT x = true) → chk tb c cx x = true → plainT x = true := fun h => h
  intro c
  induction c with
  | var i => exact plain (SE_var i) (fun cx x h => plain_of rfl h) fun _ _ => rfl
  | cel i => exact plain (SE_cel i) (fun cx x h => plain_of rfl h) fun _ _ => rfl
  | glob g => exact plain (SE_glob T g) (fun cx x h => plain_of rfl h) fun _ _ => rfl
  | k d => exact plain (SE_k d) (fun cx x h => plain_of rfl h) fun _ _ => rfl
  | bin op a b iha ihb => exact plain (SE_bin iha.1 ihb.1) (fun cx x h => plain_of rfl h) fun _ _ => rfl
  | neg a iha => exact plain (SE_neg iha.1) (fun cx x h => plain_of rfl h) fun _ _ => rfl
  | notE a iha => exact ⟨SE_not iha.1, SB_not iha.2.1, noL fun _ _ => rfl⟩
  | and a b iha ihb => exact ⟨SE_and iha.1 ihb.1, SB_and iha.2.1 ihb.2.1, noL fun _ _ => rfl⟩
  | or a b iha ihb => exact ⟨SE_or iha.1 ihb.1, SB_or iha.2.1 ihb.2.1, noL fun _ _ => rfl⟩
  | ite t a b iht iha ihb => exact ⟨SE_ite iht.2.1 iha.1 ihb.1, SB_ite iht.2.1 iha.2.1 ihb.2.1, noL fun _ _ => rfl⟩
  | cmp op a b iha ihb => exact ⟨SE_cmp iha.1 ihb.1, SB_cmp iha.1 ihb.1, noL fun _ _ => rfl⟩
  | chain o p a b c iha ihb ihc => exact ⟨SE_chain iha.1 ihb.1 ihc.1, SB_chain iha.1 ihb.1 ihc.1, noL fun _ _ => rfl⟩
  | attr c i e ih => exact plain (SE_attr T ih.1) (fun cx x h => plain_of rfl h) fun _ _ => rfl
  | sub a b iha ihb => exact plain (SE_sub iha.1 ihb.1) (fun cx x h => plain_of rfl h) fun _ _ => rfl
  | slc a b c iha ihb ihc => exact plain (SE_slc iha.1 ihb.1 ihc.1) (fun cx x h => plain_of rfl h) fun _ _ => rfl
  | tup es ih => exact plain (SE_tup ih.2.2) (fun cx x h => plain_of rfl h) fun _ _ => rfl
  | lst es ih => exact plain (SE_lst ih.2.2) (fun cx x h => plain_of rfl h) fun _ _ => rfl
  | nil => exact ⟨fun cx x env cs l σ ρ F s A a p h => absurd h Bool.false_ne_true, fun cx x env cs l σ ρ F s A b Q p h => absurd h Bool.false_ne_true, SL_nil⟩
  | cons a b iha ihb => exact ⟨fun cx x env cs l σ ρ F s A a p h => absurd h Bool.false_ne_true, fun cx x env cs l σ ρ F s A b Q p h => absurd h Bool.false_ne_true, SL_cons iha.1 ihb.2.2⟩
  | call f es ih => exact plain (SE_call T hI ih.2.2) (fun cx x h => plain_of rfl h) fun _ _ => rfl
  | mcall c f e es ihe ih => exact plain (SE_mcall T hI ihe.1 ih.2.2) (fun cx x h => plain_of rfl h) fun _ _ => rfl
  | bi b e ih => exact plain (SE_bi T ih.1) (fun cx x h => plain_of rfl h) fun _ _ => rfl
  | meth m e ih => exact plain (SE_meth ih.1) (fun cx x h => plain_of rfl h) fun _ _ => rfl
  | join sep e ih => exact plain (SE_join ih.1) (fun cx x h => plain_of rfl h) fun _ _ => rfl
  | rng es ih => exact plain (SE_rng T ih.2.2) (fun cx x h => plain_of rfl h) fun _ _ => rfl
  | hin a b iha ihb => exact ⟨SE_hin hI iha.1 ihb.1, SB_hin hI iha.1 ihb.1, noL fun _ _ => rfl⟩
  | hat a b iha ihb => exact plain (SE_hat hI iha.1 ihb.1) (fun cx x h => plain_of rfl h) fun _ _ => rfl
  | comp two fs it elt cond ihi ihe ihc => exact plain (SE_comp ihi.1 ihe.1 ihc.2.1) (fun cx x h => plain_of rfl h) fun _ _ => rfl
end
end Mine
end

section
set_option maxRecDepth 100000
namespace Mine

inductive XE where
  | pe (e : CE)
  | listM (es : CE)
  | sliceM (a lo hi : CE)
  | call (f : Addr) (es : CE)
  | mcall (c f : Addr) (e es : CE)
  | vcall (g es : CE)
  | append (l : CE) (x : XE)
  | pop (l : CE)
  | insert (l k x : CE)
  | dct (k v : CE)
  | dct0
  | compM (two : Bool) (fs : List Nat) (it : CE) (elt : XE)
  | iteX (t : CE) (a b : XE)
  | addM (a b : CE)
  | call1 (f : Addr) (x : XE)

noncomputable def chkX (tb : Tb) : XE → Cx → Expr → Bool
  | .pe e, cx, x => chk tb e cx x
  | .listM es, cx, x => (asLst x).any fun xs => chks tb es cx xs
  | .sliceM a lo hi, cx, x => (asSlice x).any fun q => chk tb a cx q.1 && okPart lo (chk tb lo cx) q.2.1 && okPart hi (chk tb hi cx) q.2.2
  | .call f es, cx, x => (asCallN x).any fun q => isGlob cx q.1 && tb.globs.lookup q.1 == some f && chks tb es cx q.2
  | .mcall c f e es, cx, x => (asCallA x).any fun q => tb.meths.lookup (c, q.2.1) == some f && chk tb e cx q.1 && chks tb es cx q.2.2.2.1 && mOk q.1 q.2.2.2.1 q.2.2.1 q.2.2.2.2
  | .vcall g es, cx, x => (asCall x).any fun q => (asName q.1).isSome && chk tb g cx q.1 && chks tb es cx q.2.1
  | .append l y, cx, x => (asCallA x).any fun q => (one? q.2.2.2.1).any fun z => q.2.1 == ("append" : Str) && chk tb l cx q.1 && chkX tb y cx z && notStar z && mOk q.1 [z] q.2.2.1 q.2.2.2.2
  | .pop l, cx, x => (asCallA x).any fun q => q.2.2.2.1.isEmpty && q.2.1 == ("pop" : Str) && chk tb l cx q.1 && mOk q.1 [] q.2.2.1 q.2.2.2.2
  | .insert l k y, cx, x => (asCallA x).any fun q => (two? q.2.2.2.1).any fun z => q.2.1 == ("insert" : Str) && chk tb l cx q.1 && chk tb k cx z.1 && chk tb y cx z.2 && notStar z.1 && notStar z.2 && mOk q.1 [z.1, z.2] q.2.2.1 q.2.2.2.2
  | .dct k v, cx, x => (asDict1 x).any fun q => chk tb k cx q.1 && chk tb v cx q.2
  | .dct0, _, x => asDict0 x
  | .compM two fs it elt, cx, x => (asComp x).any fun q => (targetNames two q.2.1).any fun nm => q.2.2.2.1.isEmpty && scopeOk cx q.2.2.2.2 nm fs && chk tb it cx q.2.2.1 && notSet q.2.2.1 && chkX tb elt (innerCx cx q.2.2.2.2 nm) q.1
  | .iteX t a b, cx, x => (asIf x).any fun q => chk tb t cx q.1 && chkX tb a cx q.2.1 && chkX tb b cx q.2.2
  | .addM a b, cx, x => (asBin x).any fun q => q.2.1 == .Add && (chk tb a cx q.1 && chk tb b cx q.2.2)
  | .call1 f y, cx, x => (asCallN x).any fun q => (one? q.2).any fun z => isGlob cx q.1 && tb.globs.lookup q.1 == some f && chkX tb y cx z && notStar z

noncomputable def dictIs (C : Cfg) (x : Str) (f : Addr) (o : Obj) : Prop := ∀ (h : Heap) (d : Addr), h.get? d = some o → h.DictOf (strKind C.prog C.w) d [(x, .ref f)]

noncomputable def wpX (C : Cfg) (n : Nat) (I : Tab) : XE → Lo → List Addr → Store → (AV → Store → Prop) → Prop
  | .pe e, l, cs, σ, Q => match ev I σ e l cs with | some a => Q a σ | none => False
  | .listM es, l, cs, σ, Q => match evs I σ es l cs with | some as => as.length ≤ sizeLine ∧ ∀ a, σ a = none → Q (.ref a) (σ.set a (.list as)) | none => False
  | .sliceM a lo hi, l, cs, σ, Q => match ev I σ a l cs, (if lo.isNil then some none else (ev I σ lo l cs).bind partA), (if hi.isNil then some none else (ev I σ hi l cs).bind partA) with
    | some x, some p, some q => (match listOf? σ x with
      | some xs => xs.length ≤ sizeLine ∧ ∀ b, σ b = none → Q (.ref b) (σ.set b (.list (pickL xs p q)))
      | none => False)
    | _, _, _ => False
  | .call f es, l, cs, σ, Q => match evs I σ es l cs with | some as => TC C n (.ref f) as σ Q | none => False
  | .mcall c f e es, l, cs, σ, Q => match ev I σ e l cs with
    | some v => (match instA σ c v with
      | some _ => (match evs I σ es l cs with | some as => TC C n (.ref f) (v :: as) σ Q | none => False)
      | none => False)
    | none => False
  | .vcall g es, l, cs, σ, Q => match ev I σ g l cs with
    | some (.ref f) => keepIn C.K (.ref f) = true ∧ (match evs I σ es l cs with | some as => TC C n (.ref f) as σ Q | none => False)
    | _ => False
  | .append o x, l, cs, σ, Q => match ev I σ o l cs with
    | some (.ref a) => (∃ xs, σ a = some (.list xs)) ∧ wpX C n I x l cs σ fun v τ => ∃ xs, τ a = some (.list xs) ∧ xs.length ≤ sizeLine ∧ Q (.d .none) (τ.set a (.list (xs ++ [v])))
    | _ => False
  | .pop o, l, cs, σ, Q => match ev I σ o l cs with
    | some (.ref a) => ∃ xs b, σ a = some (.list (xs ++ [b])) ∧ xs.length < sizeLine ∧ Q b (σ.set a (.list xs))
    | _ => False
  | .insert o k x, l, cs, σ, Q => match ev I σ o l cs, ev I σ k l cs, ev I σ x l cs with
    | some (.ref a), some (.d (.int i)), some b => ∃ xs, σ a = some (.list xs) ∧ i = (xs.length : Int) ∧ xs.length ≤ sizeLine ∧ Q (.d .none) (σ.set a (.list (xs ++ [b])))
    | _, _, _ => False
  | .dct k v, l, cs, σ, Q => match ev I σ k l cs, ev I σ v l cs with
    | some (.d (.str x)), some (.ref f) => ∀ a, a ≠ 1 → σ a = none → Q (.ref a) (σ.set a (.is (dictIs C x f)))
    | _, _ => False
  | .dct0, _, _, σ, Q => ∀ a, Q (.ref a) σ
  | .compM two fs it elt, l, cs, σ, Q => match ev I σ it l cs with
    | some a => (match iterA a with
      | some items => compP (fun a τ RR => match bindT two a with | some l' => wpX C n I elt l' (selC fs cs) τ (fun b τ' => RR (some b) τ') | none => False) items [] σ fun as τ => ∃ ds, allD as = some ds ∧ Q (.d (.list ds)) τ
      | none => False)
    | none => False
  | .iteX t a b, l, cs, σ, Q => match tru (ev I σ t l cs) with
    | some true => wpX C n I a l cs σ Q
    | some false => wpX C n I b l cs σ Q
    | none => False
  | .addM a b, l, cs, σ, Q => match ev I σ a l cs, ev I σ b l cs with
    | some x, some y => (match listOf? σ x, listOf? σ y with
      | some xs, some ys => xs.length + ys.length ≤ sizeLine ∧ ∀ c, σ c = none → Q (.ref c) (σ.set c (.list (xs ++ ys)))
      | _, _ => False)
    | _, _ => False
  | .call1 f x, l, cs, σ, Q => wpX C n I x l cs σ fun a τ => TC C n (.ref f) [a] τ Q

section
variable {tb : Tb} {C : Cfg} {n : Nat} {I : Tab}
theorem chkX_listM {es cx x} : chkX tb (.listM es) cx x = ((asLst x).any fun xs => chks tb es cx xs) := rfl
theorem chkX_sliceM {a lo hi cx x} : chkX tb (.sliceM a lo hi) cx x = ((asSlice x).any fun q => chk tb a cx q.1 && okPart lo (chk tb lo cx) q.2.1 && okPart hi (chk tb hi cx) q.2.2) := rfl
theorem chkX_call {f es cx x} : chkX tb (.call f es) cx x = ((asCallN x).any fun q => isGlob cx q.1 && tb.globs.lookup q.1 == some f && chks tb es cx q.2) := rfl
theorem chkX_mcall {c f e es cx x} : chkX tb (.mcall c f e es) cx x = ((asCallA x).any fun q => tb.meths.lookup (c, q.2.1) == some f && chk tb e cx q.1 && chks tb es cx q.2.2.2.1 && mOk q.1 q.2.2.2.1 q.2.2.1 q.2.2.2.2) := rfl
theorem chkX_vcall {g es cx x} : chkX tb (.vcall g es) cx x = ((asCall x).any fun q => (asName q.1).isSome && chk tb g cx q.1 && chks tb es cx q.2.1) := rfl
theorem chkX_append {l y cx x} : chkX tb (.append l y) cx x = ((asCallA x).any fun q => (one? q.2.2.2.1).any fun z => q.2.1 == ("append" : Str) && chk tb l cx q.1 && chkX tb y cx z && notStar z && mOk q.1 [z] q.2.2.1 q.2.2.2.2) := rfl
theorem chkX_pop {l cx x} : chkX tb (.pop l) cx x = ((asCallA x).any fun q => q.2.2.2.1.isEmpty && q.2.1 == ("pop" : Str) && chk tb l cx q.1 && mOk q.1 [] q.2.2.1 q.2.2.2.2) := rfl
theorem chkX_insert {l k y cx x} : chkX tb (.insert l k y) cx x = ((asCallA x).any fun q => (two? q.2.2.2.1).any fun z => q.2.1 == ("insert" : Str) && chk tb l cx q.1 && chk tb k cx z.1 && chk tb y cx z.2 && notStar z.1 && notStar z.2 && mOk q.1 [z.1, z.2] q.2.2.1 q.2.2.2.2) := rfl
theorem chkX_dct {k v cx x} : chkX tb (.dct k v) cx x = ((asDict1 x).any fun q => chk tb k cx q.1 && chk tb v cx q.2) := rfl
theorem chkX_dct0 {u x} : chkX tb .dct0 u x = (asDict0 x) := rfl
theorem chkX_compM {two fs it elt cx x} : chkX tb (.compM two fs it elt) cx x = ((asComp x).any fun q => (targetNames two q.2.1).any fun nm => q.2.2.2.1.isEmpty && scopeOk cx q.2.2.2.2 nm fs && chk tb it cx q.2.2.1 && notSet q.2.2.1 && chkX tb elt (innerCx cx q.2.2.2.2 nm) q.1) := rfl
theorem chkX_iteX {t a b cx x} : chkX tb (.iteX t a b) cx x = ((asIf x).any fun q => chk tb t cx q.1 && chkX tb a cx q.2.1 && chkX tb b cx q.2.2) := rfl
theorem chkX_addM {a b cx x} : chkX tb (.addM a b) cx x = ((asBin x).any fun q => q.2.1 == .Add && (chk tb a cx q.1 && chk tb b cx q.2.2)) := rfl
theorem chkX_call1 {f y cx x} : chkX tb (.call1 f y) cx x = ((asCallN x).any fun q => (one? q.2).any fun z => isGlob cx q.1 && tb.globs.lookup q.1 == some f && chkX tb y cx z && notStar z) := rfl
theorem wpX_pe {e l cs σ Q} : wpX C n I (.pe e) l cs σ Q = (match ev I σ e l cs with | some a => Q a σ | none => False) := rfl
theorem wpX_listM {es l cs σ Q} : wpX C n I (.listM es) l cs σ Q = (match evs I σ es l cs with | some as => as.length ≤ sizeLine ∧ ∀ a, σ a = none → Q (.ref a) (σ.set a (.list as)) | none => False) := rfl
theorem wpX_sliceM {a lo hi l cs σ Q} : wpX C n I (.sliceM a lo hi) l cs σ Q = (match ev I σ a l cs, (if lo.isNil then some none else (ev I σ lo l cs).bind partA), (if hi.isNil then some none else (ev I σ hi l cs).bind partA) with
    | some x, some p, some q => (match listOf? σ x with
      | some xs => xs.length ≤ sizeLine ∧ ∀ b, σ b = none → Q (.ref b) (σ.set b (.list (pickL xs p q)))
      | none => False)
    | _, _, _ => False) := rfl
theorem wpX_call {f es l cs σ Q} : wpX C n I (.call f es) l cs σ Q = (match evs I σ es l cs with | some as => TC C n (.ref f) as σ Q | none => False) := rfl
theorem wpX_mcall {c f e es l cs σ Q} : wpX C n I (.mcall c f e es) l cs σ Q = (match ev I σ e l cs with
    | some v => (match instA σ c v with
      | some _ => (match evs I σ es l cs with | some as => TC C n (.ref f) (v :: as) σ Q | none => False)
      | none => False)
    | none => False) := rfl
theorem wpX_vcall {g es l cs σ Q} : wpX C n I (.vcall g es) l cs σ Q = (match ev I σ g l cs with
    | some (.ref f) => keepIn C.K (.ref f) = true ∧ (match evs I σ es l cs with | some as => TC C n (.ref f) as σ Q | none => False)
    | _ => False) := rfl
theorem wpX_append {o x l cs σ Q} : wpX C n I (.append o x) l cs σ Q = (match ev I σ o l cs with
    | some (.ref a) => (∃ xs, σ a = some (.list xs)) ∧ wpX C n I x l cs σ fun v τ => ∃ xs, τ a = some (.list xs) ∧ xs.length ≤ sizeLine ∧ Q (.d .none) (τ.set a (.list (xs ++ [v])))
    | _ => False) := rfl
theorem wpX_pop {o l cs σ Q} : wpX C n I (.pop o) l cs σ Q = (match ev I σ o l cs with
    | some (.ref a) => ∃ xs b, σ a = some (.list (xs ++ [b])) ∧ xs.length < sizeLine ∧ Q b (σ.set a (.list xs))
    | _ => False) := rfl
theorem wpX_insert {o k x l cs σ Q} : wpX C n I (.insert o k x) l cs σ Q = (match ev I σ o l cs, ev I σ k l cs, ev I σ x l cs with
    | some (.ref a), some (.d (.int i)), some b => ∃ xs, σ a = some (.list xs) ∧ i = (xs.length : Int) ∧ xs.length ≤ sizeLine ∧ Q (.d .none) (σ.set a (.list (xs ++ [b])))
    | _, _, _ => False) := rfl
theorem wpX_dct {k v l cs σ Q} : wpX C n I (.dct k v) l cs σ Q = (match ev I σ k l cs, ev I σ v l cs with
    | some (.d (.str x)), some (.ref f) => ∀ a, a ≠ 1 → σ a = none → Q (.ref a) (σ.set a (.is (dictIs C x f)))
    | _, _ => False) := rfl
theorem wpX_dct0 {u1 u2 σ Q} : wpX C n I .dct0 u1 u2 σ Q = (∀ a, Q (.ref a) σ) := rfl
theorem wpX_compM {two fs it elt l cs σ Q} : wpX C n I (.compM two fs it elt) l cs σ Q = (match ev I σ it l cs with
    | some a => (match iterA a with
      | some items => compP (fun a τ RR => match bindT two a with | some l' => wpX C n I elt l' (selC fs cs) τ (fun b τ' => RR (some b) τ') | none => False) items [] σ fun as τ => ∃ ds, allD as = some ds ∧ Q (.d (.list ds)) τ
      | none => False)
    | none => False) := rfl
theorem wpX_iteX {t a b l cs σ Q} : wpX C n I (.iteX t a b) l cs σ Q = (match tru (ev I σ t l cs) with
    | some true => wpX C n I a l cs σ Q
    | some false => wpX C n I b l cs σ Q
    | none => False) := rfl
theorem wpX_addM {a b l cs σ Q} : wpX C n I (.addM a b) l cs σ Q = (match ev I σ a l cs, ev I σ b l cs with
    | some x, some y => (match listOf? σ x, listOf? σ y with
      | some xs, some ys => xs.length + ys.length ≤ sizeLine ∧ ∀ c, σ c = none → Q (.ref c) (σ.set c (.list (xs ++ ys)))
      | _, _ => False)
    | _, _ => False) := rfl
theorem wpX_call1 {f x l cs σ Q} : wpX C n I (.call1 f x) l cs σ Q = (wpX C n I x l cs σ fun a τ => TC C n (.ref f) [a] τ Q) := rfl
end
noncomputable def SX (C : Cfg) (n : Nat) (I : Tab) (tb : Tb) (x : XE) : Prop := ∀ (cx : Cx) (e : Expr) (env : Env) (cs : List Addr) (l : Lo) (σ ρ : Store) (F : Heap) (s : Shared) (A : Around) (Q : AV → Store → Prop),
  Pre C n cx env cs l A F ρ → chkX tb x cx e = true → St F σ ρ s.heap → wpX C n I x l cs σ Q → Wp C A (eval e env) F ρ Q s

section
variable {C : Cfg} {n : Nat} {I : Tab} {tb : Tb}
theorem list_method {A : Around} {F : Heap} {σ ρ : Store} {s : Shared} {a : Addr} {xs : List AV} {name : Str} {id : String} {pl : Sem Bool} {Q : Value × List Value → Shared → Prop} {E : Value → Shared → Prop} (r : St F σ ρ s.heap) (h : σ a = some (.list xs)) (slot : Slot "list" name id) (hty : typeOf (.builtin id) = pure (.type "method_descriptor"))
    (q : Q (.builtin id, [.ref a]) s) : wpAny (model C.prog C.w) A (getMethod (.ref a) name pl) Q E s := by
  obtain ⟨vs, k, ho, _⟩ := mut_at r h
  exact getMethod_builtin ⟨_, ho, rfl⟩ PySem.F.plainAttrs_list slot hty (fun b e => by cases e; exact ⟨_, ho, rfl⟩) q

theorem SX_pe (T : TabOk C tb) (hI : IOk C n I) (e : CE) : SX C n I tb (.pe e) := by
  intro cx x env cs l σ ρ F s A Q p h r w
  rw [wpX_pe] at w
  split at w
  · rename_i a ea
    exact one ((ev_ok T hI e).1 _ _ _ _ _ _ _ _ _ _ _ p h r ea) fun F' v h' tk' k r' y => ⟨F', σ, a, h', tk', rfl, k, r', y, w⟩
  · cases w
theorem SX_listM (T : TabOk C tb) (hI : IOk C n I) (es : CE) : SX C n I tb (.listM es) := by
  intro cx x env cs l σ ρ F s A Q p h r w
  replace h := any_eq (chkX_listM.symm.trans h)
  obtain ⟨_, hvw, h⟩ := h
  obtain ⟨_, rfl⟩ := asLst_eq hvw
  rw [wpX_listM] at w
  split at w
  · rename_i as ea
    exact TE_listM p.hl ((ev_ok T hI es).2.2 _ _ _ _ _ _ _ _ _ _ _ _ p h r ea) fun as' τ z => by obtain ⟨rfl, rfl⟩ := z; exact w
  · cases w
theorem SX_sliceM (T : TabOk C tb) (hI : IOk C n I) (a lo hi : CE) : SX C n I tb (.sliceM a lo hi) := by
  intro cx x env cs l σ ρ F s A Q p h r w
  replace h := any_eq (chkX_sliceM.symm.trans h)
  obtain ⟨⟨_, _, _⟩, hvw, h⟩ := h
  dsimp only at h
  obtain ⟨_, _, rfl⟩ := asSlice_eq hvw
  simp only [Bool.and_eq_true] at h
  rw [wpX_sliceM] at w
  split at w
  · rename_i va pl pu e1 e2 e3
    split at w
    · rename_i xs e4
      refine Subscript_ (one ((ev_ok T hI a).1 _ _ _ _ _ _ _ _ _ _ _ p h.1.1 r e1) fun F1 v1 h1 tk1 k1 r1 y1 => ?_)
      refine wpAny_Slice (part_E (s := { s with heap := h1, toks := tk1 }) (ev_ok T hI lo).1 (p.keeps k1) h.1.2 r1 e2 fun F2 v2 h2 tk2 k2 r2 i2 => ?_)
      refine part_E (s := { s with heap := h2, toks := tk2 }) (ev_ok T hI hi).1 (p.keeps (stays_trans k1 k2)) h.2 r2 e3 fun F3 v3 h3 tk3 k3 r3 i3 => ?_
      rw [evalPart_none]
      refine wpAny_pure ?_
      exact wpAny_mono (slice_M (A := A) (C := C) (s := { s with heap := h3, toks := tk3 }) (P := Q) r3 (y1.mono (stays_trans k2 k3)) i2 i3 e4 w.1 w.2) (fun _ _ z => z.lift (stays_trans k1 (stays_trans k2 k3))) fun _ _ z => z
    · cases w
  · cases w
theorem SX_call (T : TabOk C tb) (hI : IOk C n I) (f : Addr) (es : CE) : SX C n I tb (.call f es) := by
  intro cx x env cs l σ ρ F s A Q p h r w
  replace h := any_eq (chkX_call.symm.trans h)
  obtain ⟨⟨_, _⟩, hvw, h⟩ := h
  dsimp only at h
  obtain ⟨_, _, rfl⟩ := asCallN_eq hvw
  rw [wpX_call] at w
  split at w
  · rename_i as ea
    exact call_E T (ev_ok T hI es).2.2 p h r ea w
  · cases w
theorem SX_mcall (T : TabOk C tb) (hI : IOk C n I) (c f : Addr) (o es : CE) : SX C n I tb (.mcall c f o es) := by
  intro cx x env cs l σ ρ F s A Q p h r w
  replace h := any_eq (chkX_mcall.symm.trans h)
  obtain ⟨⟨_, _, _, _, _⟩, hvw, h⟩ := h
  dsimp only at h
  obtain rfl := asCallA_eq hvw
  rw [wpX_mcall] at w
  split at w
  · rename_i v e0
    split at w
    · rename_i ns e1
      split at w
      · rename_i as ea
        exact mcall_E T (ev_ok T hI o).1 (ev_ok T hI es).2.2 p h r e0 e1 ea w
      · cases w
    · cases w
  · cases w
theorem SX_vcall (T : TabOk C tb) (hI : IOk C n I) (g es : CE) : SX C n I tb (.vcall g es) := by
  intro cx x env cs l σ ρ F s A Q p h r w
  replace h := any_eq (chkX_vcall.symm.trans h)
  obtain ⟨⟨_, _, _⟩, hvw, h⟩ := h
  dsimp only at h
  obtain rfl := asCall_eq hvw
  simp only [Bool.and_eq_true] at h
  obtain ⟨⟨hn, hh1⟩, hh2⟩ := h
  obtain ⟨y, hy⟩ := Option.isSome_iff_exists.mp hn
  obtain ⟨_, rfl⟩ := asName_eq hy
  have h := And.intro hh1 hh2
  rw [wpX_vcall] at w
  split at w
  · rename_i f e0
    obtain ⟨hk, w⟩ := w
    split at w
    · rename_i as ea
      refine Call_ (one ((ev_ok T hI g).1 _ _ _ _ _ _ _ _ _ _ _ p h.1 r e0) fun F' v h' tk' k r' y => ?_)
      cases y
      refine call_args (s := { s with heap := h', toks := tk' }) (keepsF_K hk) (notStars_of h.2) (p.g.keeps k) ((ev_ok T hI es).2.2 _ _ _ _ _ _ _ _ _ _ _ _ (p.keeps k) h.2 r' ea) fun F2 σ2 as2 vs2 h2 tk2 k2 r2 y2 q2 => ?_
      obtain ⟨rfl, rfl⟩ := q2
      exact Fin.lifts (stays_trans k k2) (w A F2 ρ { s with heap := h2, toks := tk2 } vs2 p.o (p.g.keeps (stays_trans k k2)) r2 y2)
    · cases w
  · cases w
theorem SX_append (T : TabOk C tb) (hI : IOk C n I) (o : CE) {x : XE} (hx : SX C n I tb x) : SX C n I tb (.append o x) := by
  intro cx e env cs l σ ρ F s A Q p h r w
  replace h := any_eq (chkX_append.symm.trans h)
  obtain ⟨⟨_, _, _, _, _⟩, hvw, h⟩ := h
  dsimp only at h
  replace h := any_eq h
  obtain ⟨z, hz, h⟩ := h
  obtain rfl := one?_eq hz
  obtain rfl := asCallA_eq hvw
  simp only [Bool.and_eq_true, beq_iff_eq] at h
  obtain ⟨⟨⟨⟨rfl, h1⟩, h2⟩, h3⟩, h4⟩ := h
  rw [wpX_append] at w
  split at w
  · rename_i a e0
    obtain ⟨⟨xs0, w0⟩, w⟩ := w
    refine methodCall_KW (one ((ev_ok T hI o).1 _ _ _ _ _ _ _ _ _ _ _ p h1 r e0) fun F' v h' tk' k r' y => ?_) (meth_eq h4)
    cases y
    refine list_method (s := { s with heap := h', toks := tk' }) r' w0 PySem.F.slot_list_append PySem.F.type_list_append ?_
    refine call_args (s := { s with heap := h', toks := tk' }) (P1 := fun as τ => ∃ v, as = [v] ∧ ∃ xs, τ a = some (.list xs) ∧ xs.length ≤ sizeLine ∧ Q (.d .none) (τ.set a (.list (xs ++ [v])))) (keepsF_builtin C _) (by simp [h3]) (p.g.keeps k)
      (WpL_cons h3 (hx _ _ _ _ _ _ _ _ { s with heap := h', toks := tk' } _ _ (p.keeps k) h2 r' w) fun F2 σ2 a2 h2' tk2 k2 r2 q2 => WpL_nil r2 ⟨a2, rfl, q2⟩) fun F2 σ2 as2 vs2 h2' tk2 k2 r2 y2 q2' => ?_
    obtain ⟨v, rfl, xs, q1, q2, q3⟩ := q2'
    obtain ⟨v2, rfl, y5⟩ := y2.is1
    exact Fin.lifts (stays_trans k k2) (append_W (s := { s with heap := h2', toks := tk2 }) r2 q1 y5 q2 q3)
  · cases w
theorem SX_pop (T : TabOk C tb) (hI : IOk C n I) (o : CE) : SX C n I tb (.pop o) := by
  intro cx e env cs l σ ρ F s A Q p h r w
  replace h := any_eq (chkX_pop.symm.trans h)
  obtain ⟨⟨_, _, _, _, _⟩, hvw, h⟩ := h
  dsimp only at h
  obtain rfl := asCallA_eq hvw
  simp only [Bool.and_eq_true, beq_iff_eq] at h
  obtain ⟨⟨⟨h0, rfl⟩, h1⟩, h4⟩ := h
  obtain rfl := List.isEmpty_iff.mp h0
  rw [wpX_pop] at w
  split at w
  · rename_i a e0
    obtain ⟨xs, b, w1, w2, w3⟩ := w
    refine methodCall_KW (one ((ev_ok T hI o).1 _ _ _ _ _ _ _ _ _ _ _ p h1 r e0) fun F' v h' tk' k r' y => ?_) (meth_eq h4)
    cases y
    refine list_method (s := { s with heap := h', toks := tk' }) r' w1 PySem.F.slot_list_pop PySem.F.type_list_pop ?_
    refine call_args (s := { s with heap := h', toks := tk' }) (args := []) (P1 := fun as τ => as = [] ∧ τ = σ) (keepsF_builtin C _) rfl (p.g.keeps k) (WpL_nil r' ⟨rfl, rfl⟩) fun F2 σ2 as2 vs2 h2' tk2 k2 r2 y2 q2' => ?_
    obtain ⟨rfl, rfl⟩ := q2'
    cases y2
    exact Fin.lifts (stays_trans k k2) (pop_W (s := { s with heap := h2', toks := tk2 }) r2 w1 w2 w3)
  · cases w
theorem SX_insert (T : TabOk C tb) (hI : IOk C n I) (o i x : CE) : SX C n I tb (.insert o i x) := by
  intro cx e env cs l σ ρ F s A Q p h r w
  replace h := any_eq (chkX_insert.symm.trans h)
  obtain ⟨⟨_, _, _, _, _⟩, hvw, h⟩ := h
  dsimp only at h
  replace h := any_eq h
  obtain ⟨⟨z1, z2⟩, hz, h⟩ := h
  obtain rfl := two?_eq hz
  obtain rfl := asCallA_eq hvw
  simp only [Bool.and_eq_true, beq_iff_eq] at h
  obtain ⟨⟨⟨⟨⟨⟨rfl, h1⟩, h2⟩, h3⟩, h4⟩, h5⟩, h6⟩ := h
  rw [wpX_insert] at w
  split at w
  · rename_i a j b e0 e1 e2
    obtain ⟨xs, w1, w2, w3, w4⟩ := w
    refine methodCall_KW (one ((ev_ok T hI o).1 _ _ _ _ _ _ _ _ _ _ _ p h1 r e0) fun F' v h' tk' k r' y => ?_) (meth_eq h6)
    cases y
    refine list_method (s := { s with heap := h', toks := tk' }) r' w1 PySem.F.slot_list_insert PySem.F.type_list_insert ?_
    refine call_args (s := { s with heap := h', toks := tk' }) (P1 := fun as τ => as = [.d (.int j), b] ∧ τ = σ) (keepsF_builtin C _) (by simp [h4, h5]) (p.g.keeps k)
      (WpL_cons h4 ((ev_ok T hI i).1 _ _ _ _ _ _ _ _ { s with heap := h', toks := tk' } _ _ (p.keeps k) h2 r' e1) fun F2 σ2 a2 h2' tk2 k2 r2 q2 => ?_) fun F2 σ2 as2 vs2 h2' tk2 k2 r2 y2 q2' => ?_
    · obtain ⟨rfl, rfl⟩ := q2
      refine WpL_cons h5 ((ev_ok T hI x).1 _ _ _ _ _ _ _ _ { s with heap := h2', toks := tk2 } _ _ (p.keeps (stays_trans k k2)) h3 r2 e2) fun F3 σ3 a3 h3' tk3 k3 r3 q3 => ?_
      obtain ⟨rfl, rfl⟩ := q3
      exact WpL_nil r3 ⟨rfl, rfl⟩
    · obtain ⟨rfl, rfl⟩ := q2'
      obtain ⟨v1, v2, rfl, y5, y6⟩ := y2.is2
      obtain ⟨t, rfl⟩ := y5.int
      exact Fin.lifts (stays_trans k k2) (insert_W (s := { s with heap := h2', toks := tk2 }) r2 w1 y6 w2 w3 w4)
  · cases w
theorem SX_dct0 : SX C n I tb .dct0 := by
  intro cx e env cs l σ ρ F s A Q p h r w
  obtain ⟨_, rfl⟩ := asDict0_eq (chkX_dct0.symm.trans h)
  exact wpAny_Dict_empty ⟨F, σ, .ref _, _, _, rfl, stays_refl F, r.push _, .ref _, w _⟩
theorem addM_W {A : Around} {F : Heap} {ρ σ : Store} {s : Shared} {L : Addr} {names : List Str} {l : List (Option AV)} {P : AV → Store → Prop} {v w : Value} {a b : AV} {xs ys : List AV} (hl : ρ L = some (.fr names l)) (r : St F σ ρ s.heap) (ya : VR F a v) (yb : VR F b w) (h1 : listOf? σ a = some xs) (h2 : listOf? σ b = some ys) (hz : xs.length + ys.length ≤ sizeLine)
    (p : ∀ c, σ c = none → P (.ref c) (σ.set c (.list (xs ++ ys)))) : Wp C A (binaryOp .Add v w) F ρ P s := by
  obtain ⟨m, T⟩ := r.lend hl
  obtain ⟨la, vs, rfl, i1, j1⟩ := list_at r ya h1
  obtain ⟨lb, ws, rfl, i2, j2⟩ := list_at r yb h2
  refine add_lists (vs := vs.toList) (ws := ws.toList) T.fr T.news (by simpa using i1) (by simpa using i2) (fun h' Fr' N' => ?_) (by rw [← j1.length, ← j2.length]; exact hz)
  have r' := T.back h' Fr' (News.tail N')
  exact ⟨F, σ.set s.heap.objs.size (.list (xs ++ ys)), .ref _, h', s.toks, rfl, stays_refl F, r'.addL (N' _ (.head _)).1 r.r.freshF r.fresh.2 ⟨_, 0, rfl, by simpa using j1.append j2⟩, .ref _, p _ r.fresh.1⟩
theorem SX_addM (T : TabOk C tb) (hI : IOk C n I) (a b : CE) : SX C n I tb (.addM a b) := by
  intro cx x env cs l σ ρ F s A Q p h r w
  replace h := any_eq (chkX_addM.symm.trans h)
  obtain ⟨⟨_, _, _⟩, hx, h⟩ := h
  dsimp only at h
  rw [Bool.and_eq_true, beq_iff_eq] at h
  obtain ⟨ho, h⟩ := h
  subst ho
  obtain ⟨_, rfl⟩ := asBin_eq hx
  simp only [Bool.and_eq_true] at h
  rw [wpX_addM] at w
  split at w
  · rename_i va vb e1 e2
    split at w
    · rename_i xs ys e3 e4
      exact wpAny_BinOp (two ((ev_ok T hI a).1 _ _ _ _ _ _ _ _ _ _ _ p h.1 r e1) (fun F' h' tk' k r' => (ev_ok T hI b).1 _ _ _ _ _ _ _ _ { s with heap := h', toks := tk' } _ _ (p.keeps k) h.2 r' e2)
        fun F' v w' h' tk' k r' y z => Fin.lifts k (addM_W (s := { s with heap := h', toks := tk' }) p.hl r' y z e3 e4 w.1 w.2))
    · cases w
  · cases w
theorem SX_call1 (T : TabOk C tb) {f : Addr} {x : XE} (hx : SX C n I tb x) : SX C n I tb (.call1 f x) := by
  intro cx e env cs l σ ρ F s A Q p h r w
  replace h := any_eq (chkX_call1.symm.trans h)
  obtain ⟨⟨_, _⟩, hvw, h⟩ := h
  dsimp only at h
  replace h := any_eq h
  obtain ⟨z, hz, h⟩ := h
  obtain rfl := one?_eq hz
  obtain ⟨_, _, rfl⟩ := asCallN_eq hvw
  simp only [Bool.and_eq_true, beq_iff_eq] at h
  obtain ⟨⟨⟨h1, h2⟩, h3⟩, h4⟩ := h
  rw [wpX_call1] at w
  obtain ⟨hg, hk⟩ := T.globs _ _ h2
  refine Call_ (one (glob_E T p h1 (g := .ref f) hg r) fun F' v h' tk' k r' y => ?_)
  cases y
  refine call_args (s := { s with heap := h', toks := tk' }) (P1 := fun as τ => ∃ a, as = [a] ∧ TC C n (.ref f) [a] τ Q) (keepsF_K hk) (by simp [h4]) (p.g.keeps k)
    (WpL_cons h4 (hx _ _ _ _ _ _ _ _ { s with heap := h', toks := tk' } _ _ (p.keeps k) h3 r' w) fun F2 σ2 a2 h2' tk2 k2 r2 q2 => WpL_nil r2 ⟨a2, rfl, q2⟩) fun F2 σ2 as2 vs2 h2' tk2 k2 r2 y2 q2 => ?_
  obtain ⟨a, rfl, q2⟩ := q2
  exact Fin.lifts (stays_trans k k2) (q2 A F2 ρ { s with heap := h2', toks := tk2 } vs2 p.o (p.g.keeps (stays_trans k k2)) r2 y2)
theorem SX_iteX (T : TabOk C tb) (hI : IOk C n I) (t : CE) {a b : XE} (ha : SX C n I tb a) (hb : SX C n I tb b) : SX C n I tb (.iteX t a b) := by
  intro cx e env cs l σ ρ F s A Q p h r w
  replace h := any_eq (chkX_iteX.symm.trans h)
  obtain ⟨⟨_, _, _⟩, hvw, h⟩ := h
  dsimp only at h
  obtain ⟨_, rfl⟩ := asIf_eq hvw
  simp only [Bool.and_eq_true] at h
  rw [wpX_iteX] at w
  split at w
  · rename_i q1
    refine IfExp_ ((ev_ok T hI t).2.1 _ _ _ _ _ _ _ _ _ _ _ _ p h.1.1 r q1 fun F' h' tk' k r' => ?_)
    simp only [if_true]
    exact Fin.lifts k (ha _ _ _ _ _ _ _ _ { s with heap := h', toks := tk' } _ _ (p.keeps k) h.1.2 r' w)
  · rename_i q1
    refine IfExp_ ((ev_ok T hI t).2.1 _ _ _ _ _ _ _ _ _ _ _ _ p h.1.1 r q1 fun F' h' tk' k r' => ?_)
    simp only [Bool.false_eq_true, if_false]
    exact Fin.lifts k (hb _ _ _ _ _ _ _ _ { s with heap := h', toks := tk' } _ _ (p.keeps k) h.2 r' w)
  · cases w
end
end Mine
end

section
set_option maxRecDepth 100000
namespace Mine

section
variable {C : Cfg} {n : Nat} {I : Tab} {tb : Tb}
theorem SX_dct (T : TabOk C tb) (hI : IOk C n I) (k v : CE) : SX C n I tb (.dct k v) := by
  intro cx e env cs l σ ρ F s A Q p h r w
  replace h := any_eq (chkX_dct.symm.trans h)
  obtain ⟨⟨ke, ve⟩, hx, h⟩ := h
  dsimp only at h
  obtain ⟨pos, rfl⟩ := asDict1_eq hx
  simp only [Bool.and_eq_true] at h
  rw [wpX_dct] at w
  split at w
  · rename_i x f e1 e2
    refine wpAny_Dict_walk (knd := strKind C.prog C.w) rfl rfl (by simp) (by simp) ?_
    have fD := r.fresh
    have r1 : St F σ (ρ.set s.heap.objs.size (.is (· = { cls := .type "dict", data := .dict #[] }))) (s.heap.push { cls := .type "dict", data := .dict #[] }) := r.pushR ⟨rfl, rfl⟩
    have hne : env.locals ≠ s.heap.objs.size := fun q => by have := p.hl; rw [q, fD.2] at this; cases this
    have p1 : Pre C n cx env cs l A F (ρ.set s.heap.objs.size (.is (· = { cls := .type "dict", data := .dict #[] }))) := ⟨p.E, by rw [Store.set_ne _ _ hne]; exact p.hl, p.o, p.g⟩
    refine pairTrees_cons_walk (two (s := { s with heap := s.heap.push { cls := .type "dict", data := .dict #[] } }) ((ev_ok T hI k).1 _ _ _ _ _ _ _ _ _ _ _ p1 h.1 r1 e1) (fun F' h' tk' k' r' => (ev_ok T hI v).1 _ _ _ _ _ _ _ _ { s with heap := h', toks := tk' } _ _ (p1.keeps k') h.2 r' e2) fun F' v1 v2 h' tk' k' r' y1 y2 => ?_)
    refine pairTrees_nil_walk ?_
    obtain ⟨t, rfl⟩ := y1.str
    cases y2
    obtain ⟨_, o, ho, (hq : o = _), _⟩ := r'.right (Store.set_self ..)
    subst hq
    have hd0 : h'.DictOf (strKind C.prog C.w) s.heap.objs.size [] := by
      obtain ⟨o', es, ep, g, rest⟩ := Heap.DictOf.new (knd := strKind C.prog C.w) s.heap
      rw [Heap.get?_push_size _ rfl] at g
      cases g
      exact ⟨_, es, ep, ho, rest⟩
    refine ⟨[(x, .ref f)], ⟨strKind_is C.prog C.w x t, rfl, trivial⟩, hd0, fun h'' hd hs => ?_⟩
    have hd1 : h''.DictOf (strKind C.prog C.w) s.heap.objs.size [(x, .ref f)] := hd
    obtain ⟨o2, es2, ep2, g2, rest2⟩ := id hd1
    have r2 := r'.sameR (ao' := .is (dictIs C x f)) (Store.set_self ..) hs g2 ⟨fun hh dd g => ⟨o2, es2, ep2, g, rest2⟩, get_alive g2⟩
    rw [Store.set_set] at r2
    exact ⟨F', _, .ref _, h'', _, rfl, k', r2.move fD.2, .ref _, w _ (fun q => by have := Heap.Ns.lt (p.g.keeps r.r.fx).2.g; rw [q] at this; exact absurd this (by decide)) fD.1⟩
  · cases w

theorem compM_x {two : Bool} {fs : List Nat} {it : CE} {elt : XE} {cx : Cx} {x : Expr} (h : chkX tb (.compM two fs it elt) cx x = true) : ∃ e t i sc p, x = .ListComp e [⟨t, i, [], 0⟩] sc p := by
  obtain ⟨⟨_, _, _, _, _⟩, hx, h⟩ := any_eq (chkX_compM.symm.trans h)
  obtain ⟨nm, ht, h⟩ := any_eq h
  simp only [Bool.and_eq_true] at h
  obtain rfl := List.isEmpty_iff.mp h.1.1.1.1
  obtain ⟨p, e⟩ := asComp_eq hx
  exact ⟨_, _, _, _, p, e⟩
theorem comp_M (T : TabOk C tb) (hI : IOk C n I) {two : Bool} {fs : List Nat} {it : CE} {elt : XE} (he : SX C n I tb elt) {cx : Cx} {env : Env} {cs : List Addr} {l : Lo} {σ ρ : Store} {F : Heap} {s : Shared} {A : Around} {e' target iter : Expr} {scope : Scope} {pos pos' : Pos} {use : Option (Value → Sem Unit)} {Q : Value → Shared → Prop} {Q0 : AV → Store → Prop}
    (p : Pre C n cx env cs l A F ρ) (h : chkX tb (.compM two fs it elt) cx (.ListComp e' [⟨target, iter, [], 0⟩] scope pos) = true) (r : St F σ ρ s.heap) (w : wpX C n I (.compM two fs it elt) l cs σ Q0)
    (fin : ∀ F' σ' acc l' D Cc nm h' tk' ds, F.StaysIn F' → St F' σ' ((ρ.set D (.list acc)).set Cc (.fr nm l')) h' → D ≠ Cc → ρ D = none → ρ Cc = none → allD acc = some ds → Q0 (.d (.list ds)) σ' →
      compPost (model C.prog C.w) A Bot use Q (.ref D) Cc (.ok .next) { s with heap := h', toks := tk' }) :
    wpAny (model C.prog C.w) A (comprehension (.ListComp e' [⟨target, iter, [], 0⟩] scope pos) scope env pos' (newList []) false (eval iter env) use) Q Bot s := by
  obtain ⟨q, hx, h⟩ := any_eq (chkX_compM.symm.trans h)
  obtain rfl : (e', target, iter, [], scope) = q := Option.some.inj hx
  obtain ⟨nm, ht, h⟩ := any_eq h
  simp only [Bool.and_eq_true] at h
  obtain ⟨⟨⟨⟨_, h1⟩, h2⟩, h3⟩, h4⟩ := h
  have S := ScopeOk.of h1
  have nd := targetNames_nodup ht
  obtain ⟨c1, c2⟩ := sel_ok p.E S.fs
  rw [wpX_compM] at w
  split at w
  · rename_i a ea
    split at w
    · rename_i items ei
      refine comp_full (use := use) (nm := nm) (l0 := []) (f := fun x => (env.cells.lookup x).getD 0)
        (step := fun a τ RR => match bindT two a with | some l' => wpX C n I elt l' (selC fs cs) τ (fun b τ' => RR (some b) τ') | none => False)
        (K := fun as τ => ∃ ds, allD as = some ds ∧ Q0 (.d (.list ds)) τ) (by simp) p.o c1 S.cell S.kind S.loc (set_pure h3) ((ev_ok T hI it).1 _ _ _ _ _ _ _ _ _ _ _ p h2 r ea) ?_ ?_ ?_
      · rintro a' τ ⟨rfl, rfl⟩
        exact ⟨items, ei, iterA_len ei, w⟩
      · intro Cc a v F' σ' ρ' s' l' RR hst kF hC y r'
        split at hst
        · rename_i l2 hb
          refine bind_W p.o ht S.kind (fun x hx => lookup_relabel_local (S.nm x hx)) rfl hb y r' fun h' tk' r2 => ?_
          refine wpAny_tests_nil ?_
          simp only [if_true]
          refine wpAny_mono (he _ _ _ _ _ _ _ _ { s' with heap := h', toks := tk' } _ _ (pre_in p S nd kF) h4 r2 hst) (fun v3 s3 z => ?_) fun _ _ z => z
          obtain ⟨F3, σ3, a3, h3', tk3, rfl, k3, r4, y3, q3⟩ := z
          exact ⟨F3, σ3, a3, l2, h3', tk3, rfl, k3, r4, y3, q3⟩
        · cases hst
      · rintro F' σ' acc l' D Cc h' tk' kF r' hDC hD hC ⟨ds, d1, hQ⟩
        exact fin F' _ _ _ _ _ _ _ _ _ kF r' hDC hD hC d1 hQ
    · cases w
  · cases w
theorem SX_compM (T : TabOk C tb) (hI : IOk C n I) {two : Bool} {fs : List Nat} {it : CE} {elt : XE} (he : SX C n I tb elt) : SX C n I tb (.compM two fs it elt) := by
  intro cx x env cs l σ ρ F s A Q p h r w
  obtain ⟨_, _, _, _, _, rfl⟩ := compM_x h
  rw [eval_ListComp]
  exact comp_M T hI he p h r w fun F' σ' acc l' D Cc nm h' tk' ds kF r' hDC hD hC d1 hQ => comp_endN kF r' hDC hD hC d1 hQ

theorem wpX_ok (T : TabOk C tb) (hI : IOk C n I) : ∀ x : XE, SX C n I tb x := by
  intro x
  induction x with
  | pe e => exact SX_pe T hI e
  | listM es => exact SX_listM T hI es
  | sliceM a lo hi => exact SX_sliceM T hI a lo hi
  | call f es => exact SX_call T hI f es
  | mcall c f e es => exact SX_mcall T hI c f e es
  | vcall g es => exact SX_vcall T hI g es
  | append l x ih => exact SX_append T hI l ih
  | pop l => exact SX_pop T hI l
  | insert l k x => exact SX_insert T hI l k x
  | dct k v => exact SX_dct T hI k v
  | dct0 => exact SX_dct0
  | compM two fs it elt ih => exact SX_compM T hI ih
  | iteX t a b iha ihb => exact SX_iteX T hI t iha ihb
  | addM a b => exact SX_addM T hI a b
  | call1 f x ih => exact SX_call1 T ih
end
end Mine
end

section
set_option maxRecDepth 100000
namespace Mine

theorem mapSeq_is {vs : Array Value} {n : Nat} {f : Array Value → Array Value} : ∃ n', Obj.mapSeq f { cls := .type "list", data := .seq vs n } = { cls := .type "list", data := .seq (f vs) n' } := by
  unfold Obj.mapSeq
  exact ⟨_, rfl⟩

section
variable {C : Cfg} {A : Around} {F : Heap} {ρ σ : Store} {s : Shared} {v : Value} {a : AV}
theorem VRs.set : ∀ {as : List AV} {vs : List Value} {j : Nat}, VRs F as vs → VR F a v → VRs F (as.set j a) (vs.set j v)
  | _, _, _, .nil, _ => .nil
  | _, _, 0, .cons _ r, y => .cons y r
  | _, _, _ + 1, .cons h r, y => .cons h (VRs.set r y)
theorem setItem_W {c : Addr} {xs : List AV} {j : Nat} {t : Tok} {Q : Unit → Shared → Prop} {E : Value → Shared → Prop} (r : St F σ ρ s.heap) (h : σ c = some (.list xs)) (y : VR F a v) (hj : j < xs.length) (hz : xs.length ≤ sizeLine) {k : Int} (hk : k = (j : Int))
    (p : ∀ h', St F (σ.set c (.list (xs.set j a))) ρ h' → Q () { s with heap := h' }) : wpAny (model C.prog C.w) A (setItem (.ref c) (.int k t) v) Q E s := by
  obtain ⟨items, n, ho, z⟩ := mut_at r h
  have hlen : items.size = xs.length := by have := z.length; simpa using this.symm
  have hl : s.heap.IsList c items := ⟨_, ho, rfl, n, rfl⟩
  have hfit : k < 2 ^ 63 := hk ▸ Int.lt_of_lt_of_le (Int.ofNat_lt.mpr (Nat.lt_of_lt_of_le hj hz)) (by decide)
  unfold setItem
  try with_reducible refine wpAny_holding ?_
  first | refine wpAny_bind (wpAny_pure ?_) | skip
  refine wpAny_bind (wpAny_sequenceKey hl.typeIs (by decide) ?_)
  refine wpAny_bind (wpAny_callSpecial?_slot (name := Str.ofString "__setitem__") hl.typeIs slot_list_setitem
    (wpAny_call_entry slot_list_setitem hl.typeIs entry_list_setitem ?_ (args_list_setitem _ _ _)))
  show wpAny _ _ (Builtin.List.listSubscript? (.int k t) >>= _) _ _ s
  refine wpAny_bind (wpAny_listSubscript_int (fitsIndex_of (by omega) hfit) ?_)
  subst hk
  have hx' : items[j]? = some items[j] := Array.getElem?_eq_getElem (by omega)
  show wpAny _ _ ((seqItemAt c j >>= fun r => pure (r.map (j, ·))) >>= _) _ _ s
  refine wpAny_bind (wpAny_bind (wpAny_seqItemAt ho rfl (wpAny_pure ?_)))
  rw [hx']
  show wpAny _ _ (setSeqItemAt c j v >>= _) _ _ s
  obtain ⟨n', hm⟩ := mapSeq_is (vs := items) (n := n) (f := (·.setIfInBounds j v))
  have r2 := r.updL (ao' := .list (xs.set j a)) (f := Obj.mapSeq (·.setIfInBounds j v)) h ho ⟨items.setIfInBounds j v, n', hm, by simpa using z.set y⟩
  refine wpAny_bind (wpAny_setSeqItemAt ho rfl ?_)
  first
    | exact wpAny_bind (wpAny_pure (wpAny_pure ⟨.none, rfl, wpAny_pure (p _ r2)⟩))
    | exact wpAny_pure ⟨.none, rfl, wpAny_pure (p _ r2)⟩
end

/-! a comprehension whose value is stored at once -/
section
variable {C : Cfg} {n : Nat} {I : Tab} {tb : Tb}
noncomputable def isComp : Expr → Bool
  | .ListComp .. => true
  | _ => false
noncomputable def useGoal (C : Cfg) (A : Around) (F : Heap) (s : Shared) (ρ : Store) (use : Value → Sem Unit) (Q : AV → Store → Prop) (T : Value → Shared → Prop) : Prop :=
  ∀ F' σ' a v Cc nm l' h' tk', F.StaysIn F' → ρ Cc = none → St F' σ' (ρ.set Cc (.fr nm l')) h' → VR F' a v → Q a σ' →
    wpAny (model C.prog C.w) A (use v) (fun _ s'' => ∃ m, s''.heap.Ns Cc m ∧ ∀ h'', Heap.SameBut Cc s''.heap h'' → T .none { s'' with heap := h'' }) Bot { s with heap := h', toks := tk' }

noncomputable def compE : CE → Bool
  | .comp .. => true
  | _ => false
theorem compE_of {e : CE} {cx : Cx} {a : Expr} {gs : List Comprehension} {sc : Scope} {p : Pos} (h : chk tb e cx (.ListComp a gs sc p) = true) : compE e = true := by
  cases e <;> first | rfl | exact absurd h Bool.false_ne_true
theorem compE_eq {e : CE} (h : compE e = true) : ∃ two fs it e2 cond, e = .comp two fs it e2 cond := by
  cases e <;> first | exact absurd h Bool.false_ne_true | exact ⟨_, _, _, _, _, rfl⟩
theorem compX_of {x : XE} {cx : Cx} {a : Expr} {gs : List Comprehension} {sc : Scope} {p : Pos} (h : chkX tb x cx (.ListComp a gs sc p) = true) : (∃ e, x = .pe e) ∨ ∃ two fs it e2, x = .compM two fs it e2 := by
  cases x <;> first | exact absurd h Bool.false_ne_true | exact .inl ⟨_, rfl⟩ | exact .inr ⟨_, _, _, _, rfl⟩
theorem comp_shape {two : Bool} {fs : List Nat} {it e2 cond : CE} {cx : Cx} {a : Expr} {gs : List Comprehension} {sc : Scope} {p : Pos} (h : chk tb (.comp two fs it e2 cond) cx (.ListComp a gs sc p) = true) : ∃ t i fs k, gs = [⟨t, i, fs, k⟩] := by
  obtain ⟨_, _, _, _, _, _, e⟩ := comp_x h
  cases e; exact ⟨_, _, _, _, rfl⟩
theorem compM_shape {two : Bool} {fs : List Nat} {it : CE} {e2 : XE} {cx : Cx} {a : Expr} {gs : List Comprehension} {sc : Scope} {p : Pos} (h : chkX tb (.compM two fs it e2) cx (.ListComp a gs sc p) = true) : ∃ t i fs k, gs = [⟨t, i, fs, k⟩] := by
  obtain ⟨_, _, _, _, _, e⟩ := compM_x h
  cases e; exact ⟨_, _, _, _, rfl⟩
theorem use_pe (T : TabOk C tb) (hI : IOk C n I) {e : CE} {cx : Cx} {env : Env} {cs : List Addr} {l : Lo} {σ ρ : Store} {F : Heap} {s : Shared} {A : Around} {Q : AV → Store → Prop} {elt target iter : Expr} {ifs : List Expr} {scope : Scope} {pos pos' : Pos} {k : Int} {use : Value → Sem Unit} {TT : Value → Shared → Prop}
    (p : Pre C n cx env cs l A F ρ) (h : chk tb e cx (.ListComp elt [⟨target, iter, ifs, k⟩] scope pos) = true) (r : St F σ ρ s.heap) (w : wpX C n I (.pe e) l cs σ Q) (g : useGoal C A F s ρ use Q TT) :
    k = 0 ∧ wpAny (model C.prog C.w) A (comprehension (.ListComp elt [⟨target, iter, ifs, 0⟩] scope pos) scope env pos' (newList []) false (eval iter env) (some use)) TT Bot s := by
  obtain ⟨two, fs, it, elt', cond, rfl⟩ := compE_eq (compE_of h)
  obtain ⟨_, _, _, _, _, _, hx⟩ := comp_x h
  cases hx
  refine ⟨rfl, ?_⟩
  rw [wpX_pe] at w
  split at w
  · rename_i v e
    refine comp_E (ev_ok T hI it).1 (ev_ok T hI elt').1 (ev_ok T hI cond).2.1 p h r e fun F' acc l' D Cc nm h' tk' ds kF r' hDC hD hC d1 hv => ?_
    obtain ⟨F3, k3, r4, y⟩ := comp_end (F := F) r' hDC hD d1
    subst hv
    exact g F3 _ _ _ Cc nm l' h' tk' (stays_trans kF k3) hC r4 y w
  · cases w
theorem use_compM (T : TabOk C tb) (hI : IOk C n I) {two : Bool} {fs : List Nat} {it : CE} {x : XE} {cx : Cx} {env : Env} {cs : List Addr} {l : Lo} {σ ρ : Store} {F : Heap} {s : Shared} {A : Around} {Q : AV → Store → Prop} {elt target iter : Expr} {ifs : List Expr} {scope : Scope} {pos pos' : Pos} {k : Int} {use : Value → Sem Unit} {TT : Value → Shared → Prop}
    (p : Pre C n cx env cs l A F ρ) (h : chkX tb (.compM two fs it x) cx (.ListComp elt [⟨target, iter, ifs, k⟩] scope pos) = true) (r : St F σ ρ s.heap) (w : wpX C n I (.compM two fs it x) l cs σ Q) (g : useGoal C A F s ρ use Q TT) :
    k = 0 ∧ wpAny (model C.prog C.w) A (comprehension (.ListComp elt [⟨target, iter, ifs, 0⟩] scope pos) scope env pos' (newList []) false (eval iter env) (some use)) TT Bot s := by
  obtain ⟨_, _, _, _, _, hx⟩ := compM_x h
  cases hx
  refine ⟨rfl, ?_⟩
  refine comp_M T hI (wpX_ok T hI x) p h r w fun F' σ' acc l' D Cc nm h' tk' ds kF r' hDC hD hC d1 hQ => ?_
  obtain ⟨F3, k3, r4, y⟩ := comp_end (F := F) r' hDC hD d1
  exact g F3 _ _ _ Cc nm l' h' tk' (stays_trans kF k3) hC r4 y hQ
end
end Mine
end

section
set_option maxRecDepth 100000
namespace Mine

inductive CS where
  | done
  | asg (i : Nat) (x : XE) (r : CS)
  | asgC (i : Nat) (x : XE) (r : CS)
  | setA (o : CE) (c : Addr) (i : Nat) (x : XE) (r : CS)
  | setS (o k x : CE) (r : CS)
  | dec (i : Nat) (x : CE) (r : CS)
  | exp (x : XE) (r : CS)
  | ife (t : CE) (a b : CS) (r : CS)
  | ifn (x : XE) (a b : CS) (r : CS)
  | whl (t : CE) (b : CS) (r : CS)
  | for1 (i : Nat) (it : CE) (b : CS) (r : CS)
  | ret (x : XE)
  | retN
  | any

noncomputable def isLd : Expr → Bool
  | .ListComp .. | .SetComp .. | .DictComp .. => true
  | _ => false
noncomputable def notSD : Expr → Bool
  | .SetComp .. | .DictComp .. => false
  | _ => true
theorem ld_of {v : Expr} (h : notSD v = true) (hc : isComp v = false) : isLd v = false := by
  cases v <;> first | rfl | exact absurd h Bool.false_ne_true | exact absurd hc.symm Bool.false_ne_true
/-! views of a statement -/
noncomputable def stAssign : Stmt → Option (Expr × Expr)
  | .Assign [t] v _ => some (t, v)
  | _ => none
noncomputable def stAug : Stmt → Option (Expr × Operator × Expr)
  | .AugAssign t o v _ => some (t, o, v)
  | _ => none
noncomputable def stExpr : Stmt → Option Expr
  | .Expr v _ => some v
  | _ => none
noncomputable def stIf : Stmt → Option (Expr × List Stmt × List Stmt)
  | .If t a b _ => some (t, a, b)
  | _ => none
noncomputable def stWhile : Stmt → Option (Expr × List Stmt)
  | .While t b [] _ => some (t, b)
  | _ => none
noncomputable def stFor : Stmt → Option (Expr × Expr × List Stmt)
  | .For t i b [] _ => some (t, i, b)
  | _ => none
noncomputable def stRet : Stmt → Option Expr
  | .Return (some v) _ => some v
  | _ => none
noncomputable def stRetN : Stmt → Option Unit
  | .Return none _ => some ()
  | _ => none
section
variable {x : Stmt}
theorem stAssign_eq {t v} (q : stAssign x = some (t, v)) : ∃ p, x = .Assign [t] v p := by
  cases x <;> first | exact nosome q | skip
  rename_i ts v p
  obtain _ | ⟨t, _ | ⟨t2, ts⟩⟩ := ts <;> first | exact nosome q | (cases q; exact ⟨_, rfl⟩)
theorem stAug_eq {t o v} (q : stAug x = some (t, o, v)) : ∃ p, x = .AugAssign t o v p := by cases x <;> first | exact nosome q | (cases q; exact ⟨_, rfl⟩)
theorem stExpr_eq {v} (q : stExpr x = some v) : ∃ p, x = .Expr v p := by cases x <;> first | exact nosome q | (cases q; exact ⟨_, rfl⟩)
theorem stIf_eq {t a b} (q : stIf x = some (t, a, b)) : ∃ p, x = .If t a b p := by cases x <;> first | exact nosome q | (cases q; exact ⟨_, rfl⟩)
theorem stWhile_eq {t b} (q : stWhile x = some (t, b)) : ∃ p, x = .While t b [] p := by
  cases x <;> first | exact nosome q | skip
  rename_i t b e p
  cases e <;> first | exact nosome q | (cases q; exact ⟨_, rfl⟩)
theorem stFor_eq {t i b} (q : stFor x = some (t, i, b)) : ∃ p, x = .For t i b [] p := by
  cases x <;> first | exact nosome q | skip
  rename_i t i b e p
  cases e <;> first | exact nosome q | (cases q; exact ⟨_, rfl⟩)
theorem stRet_eq {v} (q : stRet x = some v) : ∃ p, x = .Return (some v) p := by
  cases x <;> first | exact nosome q | skip
  rename_i v p
  cases v <;> first | exact nosome q | (cases q; exact ⟨_, rfl⟩)
theorem stRetN_eq {u} (q : stRetN x = some u) : ∃ p, x = .Return none p := by
  cases x <;> first | exact nosome q | skip
  rename_i v p
  cases v <;> first | exact nosome q | exact ⟨_, rfl⟩
end
noncomputable def hdS {α : Type} (f : Stmt → Option α) : List Stmt → Option (α × List Stmt)
  | s :: rest => (f s).map fun y => (y, rest)
  | [] => none
theorem hdS_eq {α : Type} {f : Stmt → Option α} {ss : List Stmt} {y rest} (q : hdS f ss = some (y, rest)) : ∃ s, ss = s :: rest ∧ f s = some y := by
  cases ss with
  | nil => cases q
  | cons s r =>
    obtain ⟨z, hz, e⟩ := Option.map_eq_some_iff.mp (q : (f s).map _ = _)
    cases e
    exact ⟨_, rfl, hz⟩
noncomputable def asgN (ss : List Stmt) : Option (Str × Expr × List Stmt) := (hdS stAssign ss).bind fun q => (asName q.1.1).map fun y => (y, q.1.2, q.2)
noncomputable def asgA (ss : List Stmt) : Option (Expr × Str × Expr × List Stmt) := (hdS stAssign ss).bind fun q => (asAttr q.1.1).map fun y => (y.1, y.2.1, q.1.2, q.2)
noncomputable def asgS (ss : List Stmt) : Option (Expr × Expr × Expr × List Stmt) := (hdS stAssign ss).bind fun q => (asSub q.1.1).map fun y => (y.1, y.2, q.1.2, q.2)
noncomputable def augN (ss : List Stmt) : Option (Str × Operator × Expr × List Stmt) := (hdS stAug ss).bind fun q => (asName q.1.1).map fun y => (y, q.1.2.1, q.1.2.2, q.2)
noncomputable def forN (ss : List Stmt) : Option (Str × Expr × List Stmt × List Stmt) := (hdS stFor ss).bind fun q => (asName q.1.1).map fun y => (y, q.1.2.1, q.1.2.2, q.2)
theorem asgN_eq {ss : List Stmt} {y v rest} (q : asgN ss = some (y, v, rest)) : ∃ p p', ss = .Assign [.Name y p] v p' :: rest := by
  obtain ⟨⟨⟨a, b⟩, r⟩, hx, q⟩ := Option.bind_eq_some_iff.mp q
  obtain ⟨z, hz, e⟩ := Option.map_eq_some_iff.mp q
  cases e
  obtain ⟨s, rfl, hs⟩ := hdS_eq hx
  obtain ⟨_, rfl⟩ := stAssign_eq hs
  obtain ⟨_, rfl⟩ := asName_eq hz
  exact ⟨_, _, rfl⟩
theorem asgA_eq {ss : List Stmt} {o y v rest} (q : asgA ss = some (o, y, v, rest)) : ∃ p p', ss = .Assign [.Attribute o y p] v p' :: rest := by
  obtain ⟨⟨⟨a, b⟩, r⟩, hx, q⟩ := Option.bind_eq_some_iff.mp q
  obtain ⟨⟨_, _, _⟩, hz, e⟩ := Option.map_eq_some_iff.mp q
  cases e
  obtain ⟨s, rfl, hs⟩ := hdS_eq hx
  obtain ⟨_, rfl⟩ := stAssign_eq hs
  obtain rfl := asAttr_eq hz
  exact ⟨_, _, rfl⟩
theorem asgS_eq {ss : List Stmt} {o k v rest} (q : asgS ss = some (o, k, v, rest)) : ∃ p p', ss = .Assign [.Subscript o k p] v p' :: rest := by
  obtain ⟨⟨⟨a, b⟩, r⟩, hx, q⟩ := Option.bind_eq_some_iff.mp q
  obtain ⟨⟨_, _⟩, hz, e⟩ := Option.map_eq_some_iff.mp q
  cases e
  obtain ⟨s, rfl, hs⟩ := hdS_eq hx
  obtain ⟨_, rfl⟩ := stAssign_eq hs
  obtain ⟨_, rfl⟩ := asSub_eq hz
  exact ⟨_, _, rfl⟩
theorem augN_eq {ss : List Stmt} {y o v rest} (q : augN ss = some (y, o, v, rest)) : ∃ p p', ss = .AugAssign (.Name y p) o v p' :: rest := by
  obtain ⟨⟨⟨a, b, c⟩, r⟩, hx, q⟩ := Option.bind_eq_some_iff.mp q
  obtain ⟨z, hz, e⟩ := Option.map_eq_some_iff.mp q
  cases e
  obtain ⟨s, rfl, hs⟩ := hdS_eq hx
  obtain ⟨_, rfl⟩ := stAug_eq hs
  obtain ⟨_, rfl⟩ := asName_eq hz
  exact ⟨_, _, rfl⟩
theorem forN_eq {ss : List Stmt} {y i b rest} (q : forN ss = some (y, i, b, rest)) : ∃ p p', ss = .For (.Name y p) i b [] p' :: rest := by
  obtain ⟨⟨⟨a, b, c⟩, r⟩, hx, q⟩ := Option.bind_eq_some_iff.mp q
  obtain ⟨z, hz, e⟩ := Option.map_eq_some_iff.mp q
  cases e
  obtain ⟨s, rfl, hs⟩ := hdS_eq hx
  obtain ⟨_, rfl⟩ := stFor_eq hs
  obtain ⟨_, rfl⟩ := asName_eq hz
  exact ⟨_, _, rfl⟩
noncomputable def chkS (tb : Tb) : CS → Cx → List Stmt → Bool
  | .done, _, ss => ss.isEmpty
  | .asg i x r, cx, ss => (asgN ss).any fun q => cx.kinds.lookup q.1 == some .local && cx.names[i]? == some q.1 && chkX tb x cx q.2.1 && notSD q.2.1 && chkS tb r cx q.2.2
  | .asgC i x r, cx, ss => (asgN ss).any fun q => cx.kinds.lookup q.1 == some .cell && cx.cells[i]? == some q.1 && chkX tb x cx q.2.1 && chkS tb r cx q.2.2
  | .setA o c i x r, cx, ss => (asgA ss).any fun q => (schema c)[i]? == some q.2.1 && chk tb o cx q.1 && chkX tb x cx q.2.2.1 && !(isLd q.2.2.1) && chkS tb r cx q.2.2.2
  | .setS o k x r, cx, ss => (asgS ss).any fun q => chk tb o cx q.1 && chk tb k cx q.2.1 && chk tb x cx q.2.2.1 && !(isLd q.2.2.1) && chkS tb r cx q.2.2.2
  | .dec i x r, cx, ss => (augN ss).any fun q => q.2.1 == .Sub && (cx.kinds.lookup q.1 == some .local && cx.names[i]? == some q.1 && chk tb x cx q.2.2.1 && chkS tb r cx q.2.2.2)
  | .exp x r, cx, ss => (hdS stExpr ss).any fun q => chkX tb x cx q.1 && !(isLd q.1) && chkS tb r cx q.2
  | .ife t a b r, cx, ss => (hdS stIf ss).any fun q => chk tb t cx q.1.1 && chkS tb a cx q.1.2.1 && chkS tb b cx q.1.2.2 && chkS tb r cx q.2
  | .ifn x a b r, cx, ss => (hdS stIf ss).any fun q => (asUn q.1.1).any fun u => u.1 == .Not && (chkX tb x cx u.2 && plainT u.2 && chkS tb a cx q.1.2.1 && chkS tb b cx q.1.2.2 && chkS tb r cx q.2)
  | .whl t b r, cx, ss => (hdS stWhile ss).any fun q => chk tb t cx q.1.1 && chkS tb b cx q.1.2 && chkS tb r cx q.2
  | .for1 i it b r, cx, ss => (forN ss).any fun q => cx.kinds.lookup q.1 == some .local && cx.names[i]? == some q.1 && chk tb it cx q.2.1 && notSet q.2.1 && chkS tb b cx q.2.2.1 && chkS tb r cx q.2.2.2
  | .ret x, cx, ss => (hdS stRet ss).any fun q => chkX tb x cx q.1
  | .retN, _, ss => (hdS stRetN ss).isSome
  | .any, _, _ => true

inductive Out where
  | next
  | ret (a : AV)
noncomputable abbrev PostS := Out → Lo → Store → Prop
noncomputable def thenS (k : Lo → Store → Prop) (Q : PostS) : PostS := fun o l τ => match o with
  | .next => k l τ
  | .ret v => Q (.ret v) l τ
noncomputable def forP (body : AV → Lo → Store → PostS → Prop) : List AV → Lo → Store → PostS → Prop
  | [], l, σ, K => K .next l σ
  | a :: r, l, σ, K => body a l σ (thenS (fun l τ => forP body r l τ K) K)
noncomputable def whlP (test : Lo → Store → Option Bool) (body : Lo → Store → PostS → Prop) : Nat → Lo → Store → PostS → Prop
  | 0, _, _, _ => False
  | k + 1, l, σ, K => match test l σ with
    | some true => body l σ (thenS (fun l τ => whlP test body k l τ K) K)
    | some false => K .next l σ
    | none => False
noncomputable def atomA : AV → Bool
  | .d d => isAtom d
  | _ => false

noncomputable def wpS (C : Cfg) (n : Nat) (I : Tab) : CS → List Addr → Lo → Store → PostS → Prop
  | .done, _, l, σ, Q => Q .next l σ
  | .asg i x r, cs, l, σ, Q => wpX C n I x l cs σ fun a τ => wpS C n I r cs (l.set i (some a)) τ Q
  | .asgC i x r, cs, l, σ, Q => wpX C n I x l cs σ fun a τ => match cs[i]? with
    | some c => (∃ v, τ c = some (.cell v)) ∧ wpS C n I r cs l (τ.set c (.cell (some a))) Q
    | none => False
  | .setA o c i x r, cs, l, σ, Q => wpX C n I x l cs σ fun a τ => match ev I τ o l cs with
    | some (.ref b) => ∃ dx as, τ b = some (.inst c dx) ∧ τ dx = some (.ns c as) ∧ i ≤ as.length ∧ wpS C n I r cs l (τ.set dx (.ns c (if i < as.length then as.set i a else as ++ [a]))) Q
    | _ => False
  | .setS o k x r, cs, l, σ, Q => match ev I σ x l cs, ev I σ o l cs, ev I σ k l cs with
    | some a, some (.ref b), some (.d (.int j)) => ∃ xs, σ b = some (.list xs) ∧ 0 ≤ j ∧ j.toNat < xs.length ∧ xs.length ≤ sizeLine ∧ wpS C n I r cs l (σ.set b (.list (xs.set j.toNat a))) Q
    | _, _, _ => False
  | .dec i x r, cs, l, σ, Q => match l[i]?, ev I σ x l cs with
    | some (some (.d (.int a))), some (.d (.int b)) => wpS C n I r cs (l.set i (some (.d (.int (a - b))))) σ Q
    | _, _ => False
  | .exp x r, cs, l, σ, Q => wpX C n I x l cs σ fun a τ => atomA a = true ∧ wpS C n I r cs l τ Q
  | .ife t a b r, cs, l, σ, Q => match tru (ev I σ t l cs) with
    | some true => wpS C n I a cs l σ (thenS (fun l τ => wpS C n I r cs l τ Q) Q)
    | some false => wpS C n I b cs l σ (thenS (fun l τ => wpS C n I r cs l τ Q) Q)
    | none => False
  | .ifn x a b r, cs, l, σ, Q => wpX C n I x l cs σ fun v τ => match tru (some v) with
    | some false => wpS C n I a cs l τ (thenS (fun l τ => wpS C n I r cs l τ Q) Q)
    | some true => wpS C n I b cs l τ (thenS (fun l τ => wpS C n I r cs l τ Q) Q)
    | none => False
  | .whl t b r, cs, l, σ, Q => ∃ k, whlP (fun l τ => tru (ev I τ t l cs)) (fun l τ K => wpS C n I b cs l τ K) k l σ (thenS (fun l τ => wpS C n I r cs l τ Q) Q)
  | .for1 i it b r, cs, l, σ, Q => match ev I σ it l cs with
    | some a => (match iterA a with
      | some items => forP (fun a l τ K => wpS C n I b cs (l.set i (some a)) τ K) items l σ (thenS (fun l τ => wpS C n I r cs l τ Q) Q)
      | none => False)
    | none => False
  | .ret x, cs, l, σ, Q => wpX C n I x l cs σ fun a τ => Q (.ret a) l τ
  | .retN, _, l, σ, Q => Q (.ret (.d .none)) l σ
  | .any, _, _, _, _ => False

section
variable {tb : Tb} {C : Cfg} {n : Nat} {I : Tab}
theorem chkS_done {u ss} : chkS tb .done u ss = (ss.isEmpty) := rfl
theorem chkS_asg {i x r cx ss} : chkS tb (.asg i x r) cx ss = ((asgN ss).any fun q => cx.kinds.lookup q.1 == some .local && cx.names[i]? == some q.1 && chkX tb x cx q.2.1 && notSD q.2.1 && chkS tb r cx q.2.2) := rfl
theorem chkS_asgC {i x r cx ss} : chkS tb (.asgC i x r) cx ss = ((asgN ss).any fun q => cx.kinds.lookup q.1 == some .cell && cx.cells[i]? == some q.1 && chkX tb x cx q.2.1 && chkS tb r cx q.2.2) := rfl
theorem chkS_setA {o c i x r cx ss} : chkS tb (.setA o c i x r) cx ss = ((asgA ss).any fun q => (schema c)[i]? == some q.2.1 && chk tb o cx q.1 && chkX tb x cx q.2.2.1 && !(isLd q.2.2.1) && chkS tb r cx q.2.2.2) := rfl
theorem chkS_setS {o k x r cx ss} : chkS tb (.setS o k x r) cx ss = ((asgS ss).any fun q => chk tb o cx q.1 && chk tb k cx q.2.1 && chk tb x cx q.2.2.1 && !(isLd q.2.2.1) && chkS tb r cx q.2.2.2) := rfl
theorem chkS_dec {i x r cx ss} : chkS tb (.dec i x r) cx ss = ((augN ss).any fun q => q.2.1 == .Sub && (cx.kinds.lookup q.1 == some .local && cx.names[i]? == some q.1 && chk tb x cx q.2.2.1 && chkS tb r cx q.2.2.2)) := rfl
theorem chkS_exp {x r cx ss} : chkS tb (.exp x r) cx ss = ((hdS stExpr ss).any fun q => chkX tb x cx q.1 && !(isLd q.1) && chkS tb r cx q.2) := rfl
theorem chkS_ife {t a b r cx ss} : chkS tb (.ife t a b r) cx ss = ((hdS stIf ss).any fun q => chk tb t cx q.1.1 && chkS tb a cx q.1.2.1 && chkS tb b cx q.1.2.2 && chkS tb r cx q.2) := rfl
theorem chkS_ifn {x a b r cx ss} : chkS tb (.ifn x a b r) cx ss = ((hdS stIf ss).any fun q => (asUn q.1.1).any fun u => u.1 == .Not && (chkX tb x cx u.2 && plainT u.2 && chkS tb a cx q.1.2.1 && chkS tb b cx q.1.2.2 && chkS tb r cx q.2)) := rfl
theorem chkS_whl {t b r cx ss} : chkS tb (.whl t b r) cx ss = ((hdS stWhile ss).any fun q => chk tb t cx q.1.1 && chkS tb b cx q.1.2 && chkS tb r cx q.2) := rfl
theorem chkS_for1 {i it b r cx ss} : chkS tb (.for1 i it b r) cx ss = ((forN ss).any fun q => cx.kinds.lookup q.1 == some .local && cx.names[i]? == some q.1 && chk tb it cx q.2.1 && notSet q.2.1 && chkS tb b cx q.2.2.1 && chkS tb r cx q.2.2.2) := rfl
theorem chkS_ret {x cx ss} : chkS tb (.ret x) cx ss = ((hdS stRet ss).any fun q => chkX tb x cx q.1) := rfl
theorem chkS_retN {u ss} : chkS tb .retN u ss = ((hdS stRetN ss).isSome) := rfl
theorem wpS_done {u1 l σ Q} : wpS C n I .done u1 l σ Q = (Q .next l σ) := rfl
theorem wpS_asg {i x r cs l σ Q} : wpS C n I (.asg i x r) cs l σ Q = (wpX C n I x l cs σ fun a τ => wpS C n I r cs (l.set i (some a)) τ Q) := rfl
theorem wpS_asgC {i x r cs l σ Q} : wpS C n I (.asgC i x r) cs l σ Q = (wpX C n I x l cs σ fun a τ => match cs[i]? with
    | some c => (∃ v, τ c = some (.cell v)) ∧ wpS C n I r cs l (τ.set c (.cell (some a))) Q
    | none => False) := rfl
theorem wpS_setA {o c i x r cs l σ Q} : wpS C n I (.setA o c i x r) cs l σ Q = (wpX C n I x l cs σ fun a τ => match ev I τ o l cs with
    | some (.ref b) => ∃ dx as, τ b = some (.inst c dx) ∧ τ dx = some (.ns c as) ∧ i ≤ as.length ∧ wpS C n I r cs l (τ.set dx (.ns c (if i < as.length then as.set i a else as ++ [a]))) Q
    | _ => False) := rfl
theorem wpS_setS {o k x r cs l σ Q} : wpS C n I (.setS o k x r) cs l σ Q = (match ev I σ x l cs, ev I σ o l cs, ev I σ k l cs with
    | some a, some (.ref b), some (.d (.int j)) => ∃ xs, σ b = some (.list xs) ∧ 0 ≤ j ∧ j.toNat < xs.length ∧ xs.length ≤ sizeLine ∧ wpS C n I r cs l (σ.set b (.list (xs.set j.toNat a))) Q
    | _, _, _ => False) := rfl
theorem wpS_dec {i x r cs l σ Q} : wpS C n I (.dec i x r) cs l σ Q = (match l[i]?, ev I σ x l cs with
    | some (some (.d (.int a))), some (.d (.int b)) => wpS C n I r cs (l.set i (some (.d (.int (a - b))))) σ Q
    | _, _ => False) := rfl
theorem wpS_exp {x r cs l σ Q} : wpS C n I (.exp x r) cs l σ Q = (wpX C n I x l cs σ fun a τ => atomA a = true ∧ wpS C n I r cs l τ Q) := rfl
theorem wpS_ife {t a b r cs l σ Q} : wpS C n I (.ife t a b r) cs l σ Q = (match tru (ev I σ t l cs) with
    | some true => wpS C n I a cs l σ (thenS (fun l τ => wpS C n I r cs l τ Q) Q)
    | some false => wpS C n I b cs l σ (thenS (fun l τ => wpS C n I r cs l τ Q) Q)
    | none => False) := rfl
theorem wpS_ifn {x a b r cs l σ Q} : wpS C n I (.ifn x a b r) cs l σ Q = (wpX C n I x l cs σ fun v τ => match tru (some v) with
    | some false => wpS C n I a cs l τ (thenS (fun l τ => wpS C n I r cs l τ Q) Q)
    | some true => wpS C n I b cs l τ (thenS (fun l τ => wpS C n I r cs l τ Q) Q)
    | none => False) := rfl
theorem wpS_whl {t b r cs l σ Q} : wpS C n I (.whl t b r) cs l σ Q = (∃ k, whlP (fun l τ => tru (ev I τ t l cs)) (fun l τ K => wpS C n I b cs l τ K) k l σ (thenS (fun l τ => wpS C n I r cs l τ Q) Q)) := rfl
theorem wpS_for1 {i it b r cs l σ Q} : wpS C n I (.for1 i it b r) cs l σ Q = (match ev I σ it l cs with
    | some a => (match iterA a with
      | some items => forP (fun a l τ K => wpS C n I b cs (l.set i (some a)) τ K) items l σ (thenS (fun l τ => wpS C n I r cs l τ Q) Q)
      | none => False)
    | none => False) := rfl
theorem wpS_ret {x cs l σ Q} : wpS C n I (.ret x) cs l σ Q = (wpX C n I x l cs σ fun a τ => Q (.ret a) l τ) := rfl
theorem wpS_retN {u1 l σ Q} : wpS C n I .retN u1 l σ Q = (Q (.ret (.d .none)) l σ) := rfl
end
noncomputable def OutIs (F : Heap) (Q : PostS) (l : Lo) (σ : Store) : Flow → Prop
  | .next => Q .next l σ
  | .ret v => ∃ a, VR F a v ∧ Q (.ret a) l σ
  | _ => False
inductive FinS (F : Heap) (s : Shared) (ρ : Store) (L : Addr) (names : List Str) (Q : PostS) (f : Flow) (s' : Shared) : Prop
  | mk (F' : Heap) (σ' : Store) (l' : Lo) (h' : Heap) (tk' : Nat) : s' = { s with heap := h', toks := tk' } → F.StaysIn F' → St F' σ' (ρ.set L (.fr names l')) h' → OutIs F' Q l' σ' f → FinS F s ρ L names Q f s'
theorem FinS.lift {F F1 : Heap} {s : Shared} {h1 : Heap} {tk1 : Nat} {ρ : Store} {L : Addr} {names : List Str} {Q : PostS} {f : Flow} {s' : Shared} (k : F.StaysIn F1) (x : FinS F1 { s with heap := h1, toks := tk1 } ρ L names Q f s') : FinS F s ρ L names Q f s' :=
  let ⟨F', σ', l', h', tk', e, k', r, y⟩ := x; ⟨F', σ', l', h', tk', e, stays_trans k k', r, y⟩

structure PreS (C : Cfg) (n : Nat) (cx : Cx) (env : Env) (cs : List Addr) (A : Around) (F : Heap) : Prop where
  E : EnvOk cx env cs
  o : OkA A n
  g : Gd C F
theorem PreS.keeps {C : Cfg} {n : Nat} {cx : Cx} {env : Env} {cs : List Addr} {A : Around} {F F' : Heap} (p : PreS C n cx env cs A F) (k : F.StaysIn F') : PreS C n cx env cs A F' := ⟨p.E, p.o, p.g.keeps k⟩
theorem PreS.pre {C : Cfg} {n : Nat} {cx : Cx} {env : Env} {cs : List Addr} {A : Around} {F : Heap} (p : PreS C n cx env cs A F) (l : Lo) (ρ : Store) : Pre C n cx env cs l A F (ρ.set env.locals (.fr cx.names l)) := ⟨p.E, Store.set_self .., p.o, p.g⟩

noncomputable def SS (C : Cfg) (n : Nat) (I : Tab) (tb : Tb) (c : CS) : Prop := ∀ (cx : Cx) (ss : List Stmt) (env : Env) (cs : List Addr) (l : Lo) (σ ρ : Store) (F : Heap) (s : Shared) (A : Around) (Q : PostS),
  PreS C n cx env cs A F → chkS tb c cx ss = true → St F σ (ρ.set env.locals (.fr cx.names l)) s.heap → wpS C n I c cs l σ Q → wpAny (model C.prog C.w) A (execs ss env) (FinS F s ρ env.locals cx.names Q) Bot s

section
variable {C : Cfg} {n : Nat} {I : Tab} {tb : Tb}
theorem swaps_of {v : Expr} {t : Option Expr} {ln : Nat} {env : Env} (h : isLd v = false) : swapsWith v t ln env = pure false := by
  cases v <;> first | rfl | cases h
theorem lift_end {ss : List Stmt} {env : Env} {A : Around} {F F1 : Heap} {s : Shared} {h1 : Heap} {tk1 : Nat} {ρ : Store} {names : List Str} {Q : PostS} (k : F.StaysIn F1)
    (x : wpAny (model C.prog C.w) A (execs ss env) (FinS F1 { s with heap := h1, toks := tk1 } ρ env.locals names Q) Bot { s with heap := h1, toks := tk1 }) :
    wpAny (model C.prog C.w) A (execs ss env) (FinS F s ρ env.locals names Q) Bot { s with heap := h1, toks := tk1 } := wpAny_mono x (fun _ _ z => z.lift k) fun _ _ z => z

theorem SS_done : SS C n I tb .done := by
  intro cx ss env cs l σ ρ F s A Q p h r w
  obtain rfl := List.isEmpty_iff.mp (chkS_done.symm.trans h)
  exact wpAny_execs_nil ⟨F, σ, l, s.heap, s.toks, rfl, stays_refl F, r, w⟩
theorem SS_asg (T : TabOk C tb) (hI : IOk C n I) (i : Nat) (x : XE) {c : CS} (hc : SS C n I tb c) : SS C n I tb (.asg i x c) := by
  intro cx ss env cs l σ ρ F s A Q p h r w
  replace h := any_eq (chkS_asg.symm.trans h)
  obtain ⟨⟨y, v, rest⟩, hvw, h⟩ := h
  dsimp only at h
  obtain ⟨yp, spos, rfl⟩ := asgN_eq hvw
  simp only [Bool.and_eq_true, beq_iff_eq] at h
  obtain ⟨⟨⟨⟨h1, h2⟩, h3⟩, h0⟩, h4⟩ := h
  rw [wpS_asg] at w
  have hk : env.kindOf y = some .local := (p.E.kindOf y).trans h1
  refine wpAny_execs_cons ?_
  have store : ∀ F' σ' a v' h' tk', F.StaysIn F' → St F' σ' (ρ.set env.locals (.fr cx.names l)) h' → VR F' a v' → wpS C n I c cs (l.set i (some a)) σ' Q →
      wpAny (model C.prog C.w) A (storeName env y v') (fun _ s' => wpAny (model C.prog C.w) A (execs rest env) (FinS F s ρ env.locals cx.names Q) Bot s') Bot { s with heap := h', toks := tk' } := fun F' σ' a v' h' tk' k r' y' q => by
    refine store_W (s := { s with heap := h', toks := tk' }) p.E.fn hk p.E.nodup h2 (Store.set_self ..) r' y' fun h2' tk2 r2 => ?_
    rw [Store.set_set] at r2
    exact lift_end k (hc _ _ _ _ _ _ _ _ { s with heap := h2', toks := tk2 } _ _ (p.keeps k) h4 r2 q)
  have normal : swapsWith v (some (.Name y yp)) spos.line env = pure false → wpAny (model C.prog C.w) A (exec (.Assign [.Name y yp] v spos) env) (fun f s' => match f with | .next => wpAny (model C.prog C.w) A (execs rest env) (FinS F s ρ env.locals cx.names Q) Bot s' | f => FinS F s ρ env.locals cx.names Q f s') Bot s := fun hs =>
    wpAny_Assign_Name ((wpX_ok T hI x _ _ _ _ _ _ _ _ _ _ _ (p.pre l ρ) h3 r w).then fun F' σ' a v' h' tk' k r' y' q => store F' σ' a v' h' tk' k r' y' q) hs
  cases hcomp : isComp v with
  | false => exact normal (swaps_of (ld_of h0 hcomp))
  | true =>
    cases v <;> first | cases hcomp | skip
    rename_i elt gens scope cpos
    have hb : ∃ b, swapsWith (.ListComp elt gens scope cpos) (some (.Name y yp)) spos.line env = pure b := ⟨_, rfl⟩
    obtain ⟨b, hb⟩ := hb
    cases b with
    | false => exact normal hb
    | true =>
      rw [exec_Assign_Name_used _ _ _ _ hb]
      refine wpAny_bind (wpAny_standAt (wpAny_bind ?_))
      have ug : useGoal C A F s (ρ.set env.locals (.fr cx.names l)) (assign (.Name y yp) env) (fun a τ => wpS C n I c cs (l.set i (some a)) τ Q) (fun _ s' => wpAny (model C.prog C.w) A (execs rest env) (FinS F s ρ env.locals cx.names Q) Bot s') := by
        intro F' σ' a v Cc nm l' h' tk' kF hC r' y' q
        have hne : env.locals ≠ Cc := fun e => by rw [← e, Store.set_self] at hC; cases hC
        refine wpAny_assign_Name (store_W (s := { s with heap := h', toks := tk' }) p.E.fn hk p.E.nodup h2 (by rw [Store.set_ne _ _ hne, Store.set_self]) r' y' fun h2' tk2 r2 => ?_)
        rw [Store.set_comm (Ne.symm hne), Store.set_set] at r2
        obtain ⟨m, hn, _⟩ := fr_ns r2 (Store.set_self ..)
        refine ⟨m, hn, fun h'' hs => ?_⟩
        have r3 := r2.dropR (Store.set_self ..) (letGo_keep hs)
        rw [Store.del_set (by rw [Store.set_ne _ _ (Ne.symm hne)]; rw [Store.set_ne _ _ (Ne.symm hne)] at hC; exact hC)] at r3
        exact lift_end kF (hc _ _ _ _ _ _ _ _ { s with heap := h'', toks := tk2 } _ _ (p.keeps kF) h4 r3 q)
      have shape : ∃ target iter ifs k, gens = [⟨target, iter, ifs, k⟩] := by
        rcases compX_of h3 with ⟨e, rfl⟩ | ⟨two, fs, it, e2, rfl⟩
        · have h3 : chk tb e cx (.ListComp elt gens scope cpos) = true := h3
          obtain ⟨two, fs, it, e2, cond, rfl⟩ := compE_eq (compE_of h3)
          exact comp_shape h3
        · exact compM_shape h3
      obtain ⟨target, iter, ifs, k, rfl⟩ := shape
      have fin : k = 0 ∧ wpAny (model C.prog C.w) A (comprehension (.ListComp elt [⟨target, iter, ifs, 0⟩] scope cpos) scope env (firstIterPos [⟨target, iter, ifs, 0⟩] cpos) (newList []) false (eval iter env) (some (assign (.Name y yp) env))) (fun _ s' => wpAny (model C.prog C.w) A (execs rest env) (FinS F s ρ env.locals cx.names Q) Bot s') Bot s := by
        rcases compX_of h3 with ⟨e, rfl⟩ | ⟨two, fs, it, e2, rfl⟩
        · exact use_pe T hI (p.pre l ρ) h3 r w ug
        · exact use_compM T hI (p.pre l ρ) h3 r w ug
      obtain ⟨rfl, fin⟩ := fin
      show wpAny _ A (do let _ ← comprehension (.ListComp elt [⟨target, iter, ifs, 0⟩] scope cpos) scope env _ (newList []) false (eval iter env) (some (assign (.Name y yp) env))) _ _ s
      exact wpAny_bind (wpAny_mono fin (fun _ s' hq => wpAny_pure (wpAny_pure hq)) fun _ _ e => e)
end
end Mine
end

section
set_option maxRecDepth 100000
namespace Mine

section
variable {C : Cfg} {n : Nat} {I : Tab} {tb : Tb}

theorem SS_asgC (T : TabOk C tb) (hI : IOk C n I) (i : Nat) (x : XE) {c : CS} (hc : SS C n I tb c) : SS C n I tb (.asgC i x c) := by
  intro cx ss env cs l σ ρ F s A Q p h r w
  replace h := any_eq (chkS_asgC.symm.trans h)
  obtain ⟨⟨y, v, rest⟩, hvw, h⟩ := h
  dsimp only at h
  obtain ⟨yp, spos, rfl⟩ := asgN_eq hvw
  simp only [Bool.and_eq_true, beq_iff_eq] at h
  obtain ⟨⟨⟨h1, h2⟩, h3⟩, h4⟩ := h
  rw [wpS_asgC] at w
  have hk : env.kindOf y = some .cell := (p.E.kindOf y).trans h1
  have hs : swapsWith v (some (.Name y yp)) spos.line env = pure false := by
    cases v <;> first | rfl | skip
    · show (pure (env.blockKind == .function && env.kindOf y == some .local && _ && _) : Sem Bool) = _
      rw [show (env.kindOf y == some NameKind.local) = false by rw [hk]; rfl]
      simp
    · show (pure (env.blockKind == .function && env.kindOf y == some .local && _ && _) : Sem Bool) = _
      rw [show (env.kindOf y == some NameKind.local) = false by rw [hk]; rfl]
      simp
    · show (pure (env.blockKind == .function && env.kindOf y == some .local && _ && _) : Sem Bool) = _
      rw [show (env.kindOf y == some NameKind.local) = false by rw [hk]; rfl]
      simp
  refine wpAny_execs_cons (wpAny_Assign_Name ((wpX_ok T hI x _ _ _ _ _ _ _ _ _ _ _ (p.pre l ρ) h3 r w).then fun F' σ' a v' h' tk' k r' y' q => ?_) hs)
  split at q
  · rename_i ca hca
    obtain ⟨⟨v0, q1⟩, q2⟩ := q
    obtain ⟨_, o, ho, yo⟩ := r'.left q1
    have hic : ∃ v1, h'.IsCell ca v1 := by
      cases v0 with
      | none => exact ⟨_, o, ho, yo⟩
      | some a0 => obtain ⟨v1, hd, _⟩ := yo; exact ⟨_, o, ho, hd⟩
    obtain ⟨v1, hic⟩ := hic
    refine wpAny_storeName_cell (s := { s with heap := h', toks := tk' }) p.E.fn hk (p.E.cells i y ca h2 hca) hic fun h2' hc2 hs2 => ?_
    obtain ⟨o2, ho2, hd2⟩ := hc2
    have r2 := r'.sameL (ao' := .cell (some a)) q1 hs2 ho2 ⟨v', hd2, y'⟩
    exact lift_end k (hc _ _ _ _ _ _ _ _ { s with heap := h2', toks := tk' } _ _ (p.keeps k) h4 r2 q2)
  · cases q
theorem SS_setA (T : TabOk C tb) (hI : IOk C n I) (o : CE) (ca : Addr) (i : Nat) (x : XE) {c : CS} (hc : SS C n I tb c) : SS C n I tb (.setA o ca i x c) := by
  intro cx ss env cs l σ ρ F s A Q p h r w
  replace h := any_eq (chkS_setA.symm.trans h)
  obtain ⟨⟨_, _, _, _⟩, hvw, h⟩ := h
  dsimp only at h
  obtain ⟨_, _, rfl⟩ := asgA_eq hvw
  simp only [Bool.and_eq_true, beq_iff_eq, Bool.not_eq_true'] at h
  obtain ⟨⟨⟨⟨h1, h2⟩, h3⟩, h4⟩, h5⟩ := h
  rw [wpS_setA] at w
  refine wpAny_execs_cons (plainObj_wpAny_Assign_Attribute ((wpX_ok T hI x _ _ _ _ _ _ _ _ _ _ _ (p.pre l ρ) h3 r w).then fun F' σ' a v' h' tk' k r' y' q => ?_) (swaps_of h4))
  split at q
  · rename_i b eb
    obtain ⟨dx, as, q1, q2, q3, q4⟩ := q
    refine one (s := { s with heap := h', toks := tk' }) ((ev_ok T hI o).1 _ _ _ _ _ _ _ _ { s with heap := h', toks := tk' } _ _ ((p.keeps k).pre l ρ) h2 r' eb) fun F2 v2 h2' tk2 k2 r2 y2 => ?_
    cases y2
    refine setAttr_W (s := { s with heap := h2', toks := tk2 }) (p.g.keeps (stays_trans k k2)) (T.cls _ _ _ h1) (Store.set_self ..) r2 q1 q2 h1 (y'.mono k2) (as' := if i < as.length then as.set i a else as ++ [a]) ?_ fun h3' tk3 r3 => ?_
    · by_cases z : i < as.length
      · exact .inl ⟨z, by rw [if_pos z]⟩
      · exact .inr ⟨by omega, by rw [if_neg z]⟩
    · exact lift_end (stays_trans k k2) (hc _ _ _ _ _ _ _ _ { s with heap := h3', toks := tk3 } _ _ (p.keeps (stays_trans k k2)) h5 r3 q4)
  · cases q
theorem SS_setS (T : TabOk C tb) (hI : IOk C n I) (o ki x : CE) {c : CS} (hc : SS C n I tb c) : SS C n I tb (.setS o ki x c) := by
  intro cx ss env cs l σ ρ F s A Q p h r w
  replace h := any_eq (chkS_setS.symm.trans h)
  obtain ⟨⟨_, _, _, _⟩, hvw, h⟩ := h
  dsimp only at h
  obtain ⟨_, _, rfl⟩ := asgS_eq hvw
  simp only [Bool.and_eq_true, Bool.not_eq_true'] at h
  obtain ⟨⟨⟨⟨h1, h2⟩, h3⟩, h4⟩, h5⟩ := h
  rw [wpS_setS] at w
  split at w
  · rename_i a b j e1 e2 e3
    obtain ⟨xs, w1, w2, w3, w4, w5⟩ := w
    refine wpAny_execs_cons (wpAny_Assign_Subscript (one ((ev_ok T hI x).1 _ _ _ _ _ _ _ _ _ _ _ (p.pre l ρ) h3 r e1) fun F1 v1 h1' tk1 k1 r1 y1 => ?_) (swaps_of h4))
    refine two (s := { s with heap := h1', toks := tk1 }) ((ev_ok T hI o).1 _ _ _ _ _ _ _ _ { s with heap := h1', toks := tk1 } _ _ ((p.keeps k1).pre l ρ) h1 r1 e2)
      (fun F2 h2' tk2 k2 r2 => (ev_ok T hI ki).1 _ _ _ _ _ _ _ _ { s with heap := h2', toks := tk2 } _ _ ((p.keeps (stays_trans k1 k2)).pre l ρ) h2 r2 e3) fun F3 v2 v3 h3' tk3 k3 r3 y2 y3 => ?_
    cases y2
    obtain ⟨t, rfl⟩ := y3.int
    refine setItem_W (s := { s with heap := h3', toks := tk3 }) r3 w1 (y1.mono k3) w3 w4 (Int.toNat_of_nonneg w2).symm fun h4' r4 => ?_
    exact lift_end (stays_trans k1 k3) (hc _ _ _ _ _ _ _ _ { s with heap := h4', toks := tk3 } _ _ (p.keeps (stays_trans k1 k3)) h5 r4 w5)
  · cases w
theorem SS_dec (T : TabOk C tb) (hI : IOk C n I) (i : Nat) (x : CE) {c : CS} (hc : SS C n I tb c) : SS C n I tb (.dec i x c) := by
  intro cx ss env cs l σ ρ F s A Q p h r w
  replace h := any_eq (chkS_dec.symm.trans h)
  obtain ⟨⟨_, _, _, _⟩, hvw, h⟩ := h
  dsimp only at h
  rw [Bool.and_eq_true, beq_iff_eq] at h
  obtain ⟨ho, h⟩ := h
  subst ho
  obtain ⟨_, _, rfl⟩ := augN_eq hvw
  simp only [Bool.and_eq_true, beq_iff_eq] at h
  obtain ⟨⟨⟨h1, h2⟩, h3⟩, h4⟩ := h
  rw [wpS_dec] at w
  split at w
  · rename_i a b e1 e2
    have hk := (p.E.kindOf _).trans h1
    obtain ⟨m, hn, hv⟩ := fr_ns r (Store.set_self ..)
    obtain ⟨v0, g1, g2⟩ := hv i _ _ h2 e1
    refine wpAny_execs_cons (wpAny_AugAssign_Name (wpAny_loadName_local p.E.fn hk hn g1 ?_))
    obtain ⟨t0, rfl⟩ := g2.int
    refine one ((ev_ok T hI x).1 _ _ _ _ _ _ _ _ _ _ _ (p.pre l ρ) h3 r e2) fun F1 v1 h1' tk1 k1 r1 y1 => ?_
    obtain ⟨t1, rfl⟩ := y1.int
    refine PySem.P.isub_int ?_
    refine store_W (s := { s with heap := h1', toks := tk1 + 1 }) (a := .d (.int (a - b))) p.E.fn hk p.E.nodup h2 (Store.set_self ..) r1 (.d (.int _ _)) fun h2' tk2 r2 => ?_
    rw [Store.set_set] at r2
    exact lift_end k1 (hc _ _ _ _ _ _ _ _ { s with heap := h2', toks := tk2 } _ _ (p.keeps k1) h4 r2 w)
  · cases w
theorem SS_exp (T : TabOk C tb) (hI : IOk C n I) (x : XE) {c : CS} (hc : SS C n I tb c) : SS C n I tb (.exp x c) := by
  intro cx ss env cs l σ ρ F s A Q p h r w
  replace h := any_eq (chkS_exp.symm.trans h)
  obtain ⟨⟨_, _⟩, hvw, h⟩ := h
  dsimp only at h
  obtain ⟨_, rfl, hvx⟩ := hdS_eq hvw
  obtain ⟨_, rfl⟩ := stExpr_eq hvx
  simp only [Bool.and_eq_true, Bool.not_eq_true'] at h
  obtain ⟨⟨h1, h2⟩, h3⟩ := h
  rw [wpS_exp] at w
  have hi : interactive env = false := by unfold interactive; rw [p.E.fn]; rfl
  refine wpAny_execs_cons (wpAny_Expr ((wpX_ok T hI x _ _ _ _ _ _ _ _ _ _ _ (p.pre l ρ) h1 r w).then fun F' σ' a v' h' tk' k r' y' q => ?_) hi (swaps_of h2))
  obtain ⟨q1, q2⟩ := q
  have nx := lift_end (s := s) k (hc _ _ _ _ _ _ _ _ { s with heap := h', toks := tk' } _ _ (p.keeps k) h3 r' q2)
  cases y' with
  | d y' => cases y' <;> first | exact nx | cases q1
  | _ => cases q1
theorem then_K {ss : List Stmt} {env : Env} {A : Around} {F F1 : Heap} {s : Shared} {h1 : Heap} {tk1 : Nat} {ρ : Store} {cx : Cx} {cs : List Addr} {Q : PostS} {c : CS} {rest : List Stmt} (p : PreS C n cx env cs A F) (hc : SS C n I tb c) (hch : chkS tb c cx rest = true) (k : F.StaysIn F1)
    (x : wpAny (model C.prog C.w) A (execs ss env) (FinS F1 { s with heap := h1, toks := tk1 } ρ env.locals cx.names (thenS (fun l τ => wpS C n I c cs l τ Q) Q)) Bot { s with heap := h1, toks := tk1 }) :
    wpAny (model C.prog C.w) A (execs ss env) (fun f s' => match f with | .next => wpAny (model C.prog C.w) A (execs rest env) (FinS F s ρ env.locals cx.names Q) Bot s' | f => FinS F s ρ env.locals cx.names Q f s') Bot { s with heap := h1, toks := tk1 } := by
  refine wpAny_mono x (fun f s' z => ?_) fun _ _ z => z
  obtain ⟨F', σ', l', h', tk', rfl, k', r', z⟩ := z
  cases f with
  | next => exact lift_end (stays_trans k k') (hc _ _ _ _ _ _ _ _ { s with heap := h', toks := tk' } _ _ (p.keeps (stays_trans k k')) hch r' z)
  | ret v => obtain ⟨a, y, z⟩ := z; exact ⟨F', σ', l', h', tk', rfl, stays_trans k k', r', a, y, z⟩
  | _ => cases z
theorem SS_ife (T : TabOk C tb) (hI : IOk C n I) (t : CE) {a b c : CS} (ha : SS C n I tb a) (hb : SS C n I tb b) (hc : SS C n I tb c) : SS C n I tb (.ife t a b c) := by
  intro cx ss env cs l σ ρ F s A Q p h r w
  replace h := any_eq (chkS_ife.symm.trans h)
  obtain ⟨⟨⟨_, _, _⟩, _⟩, hvw, h⟩ := h
  dsimp only at h
  obtain ⟨_, rfl, hvx⟩ := hdS_eq hvw
  obtain ⟨_, rfl⟩ := stIf_eq hvx
  simp only [Bool.and_eq_true] at h
  obtain ⟨⟨⟨h1, h2⟩, h3⟩, h4⟩ := h
  rw [wpS_ife] at w
  refine wpAny_execs_cons (wpAny_If ?_)
  split at w
  · rename_i q
    refine (ev_ok T hI t).2.1 _ _ _ _ _ _ _ _ _ _ _ _ (p.pre l ρ) h1 r q fun F1 h1' tk1 k1 r1 => ?_
    simp only [if_true]
    exact then_K p hc h4 k1 (ha _ _ _ _ _ _ _ _ { s with heap := h1', toks := tk1 } _ _ (p.keeps k1) h2 r1 w)
  · rename_i q
    refine (ev_ok T hI t).2.1 _ _ _ _ _ _ _ _ _ _ _ _ (p.pre l ρ) h1 r q fun F1 h1' tk1 k1 r1 => ?_
    simp only [Bool.false_eq_true, if_false]
    exact then_K p hc h4 k1 (hb _ _ _ _ _ _ _ _ { s with heap := h1', toks := tk1 } _ _ (p.keeps k1) h3 r1 w)
  · cases w
theorem SS_ifn (T : TabOk C tb) (hI : IOk C n I) (x : XE) {a b c : CS} (ha : SS C n I tb a) (hb : SS C n I tb b) (hc : SS C n I tb c) : SS C n I tb (.ifn x a b c) := by
  intro cx ss env cs l σ ρ F s A Q p h r w
  replace h := any_eq (chkS_ifn.symm.trans h)
  obtain ⟨⟨⟨_, _, _⟩, _⟩, hvw, h⟩ := h
  dsimp only at h
  replace h := any_eq h
  obtain ⟨⟨_, _⟩, hvy, h⟩ := h
  dsimp only at h
  obtain ⟨_, rfl, hvx⟩ := hdS_eq hvw
  obtain ⟨_, rfl⟩ := stIf_eq hvx
  rw [Bool.and_eq_true, beq_iff_eq] at h
  obtain ⟨ho, h⟩ := h
  subst ho
  obtain ⟨_, rfl⟩ := asUn_eq hvy
  simp only [Bool.and_eq_true] at h
  obtain ⟨⟨⟨⟨h1, h0⟩, h2⟩, h3⟩, h4⟩ := h
  rw [wpS_ifn] at w
  refine wpAny_execs_cons (wpAny_If (isTrue_not (isTrue_plain ?_ (isTrue_eq_plain h0))))
  refine (wpX_ok T hI x _ _ _ _ _ _ _ _ _ _ _ (p.pre l ρ) h1 r w).then fun F1 σ1 a1 v1 h1' tk1 k1 r1 y1 q => ?_
  split at q
  · rename_i q1
    have e := tru_some q1
    cases e
    rw [y1.bool]
    refine wpAny_truthy_bool ?_
    simp only [Bool.not_false, if_true]
    exact then_K p hc h4 k1 (ha _ _ _ _ _ _ _ _ { s with heap := h1', toks := tk1 } _ _ (p.keeps k1) h2 r1 q)
  · rename_i q1
    have e := tru_some q1
    cases e
    rw [y1.bool]
    refine wpAny_truthy_bool ?_
    simp only [Bool.not_true, Bool.false_eq_true, if_false]
    exact then_K p hc h4 k1 (hb _ _ _ _ _ _ _ _ { s with heap := h1', toks := tk1 } _ _ (p.keeps k1) h3 r1 q)
  · cases q
inductive InvW (L : Addr) (names : List Str) (test : Lo → Store → Option Bool) (body : Lo → Store → PostS → Prop) (K : PostS) (F : Heap) (s : Shared) (ρ : Store) (k : Nat) (s' : Shared) : Prop
  | mk (F' : Heap) (σ' : Store) (l' : Lo) (h' : Heap) (tk' : Nat) : s' = { s with heap := h', toks := tk' } → F.StaysIn F' → St F' σ' (ρ.set L (.fr names l')) h' → whlP test body k l' σ' K → InvW L names test body K F s ρ k s'
theorem whl_loop (T : TabOk C tb) (hI : IOk C n I) (t : CE) {b : CS} (hb : SS C n I tb b) {cx : Cx} {env : Env} {cs : List Addr} {ρ : Store} {F : Heap} {s : Shared} {A : Around} {K : PostS} {tv : Expr} {bv : List Stmt} {R : Result → Shared → Prop}
    (p : PreS C n cx env cs A F) (h1 : chk tb t cx tv = true) (h2 : chkS tb b cx bv = true)
    (fin : ∀ f s', FinS F s ρ env.locals cx.names K f s' → R (.ok f) s')
    {k : Nat} {l : Lo} {σ : Store} (r : St F σ (ρ.set env.locals (.fr cx.names l)) s.heap) (w : whlP (fun l τ => tru (ev I τ t l cs)) (fun l τ K => wpS C n I b cs l τ K) k l σ K) :
    codeAny (model C.prog C.w) A (.whileLoop tv bv [] env) R s := by
  refine codeAny_whileLoop (InvW env.locals cx.names (fun l τ => tru (ev I τ t l cs)) (fun l τ K => wpS C n I b cs l τ K) K F s ρ) ?_ k ⟨F, σ, l, s.heap, s.toks, rfl, stays_refl F, r, w⟩
  rintro k s' ⟨F', σ', l', h', tk', rfl, kF, r', w'⟩
  have B : ∀ (E : Value → Shared → Prop) (v : Value) (s : Shared), Bot v s → E v s := fun _ _ _ e => e.elim
  cases k with
  | zero => cases w'
  | succ k =>
    unfold whlP at w'
    split at w'
    · rename_i q
      refine wpAny_mono ((ev_ok T hI t).2.1 _ _ _ _ _ _ _ _ { s with heap := h', toks := tk' } _ _ (fun b s₂ => if b = true then _ else _) ((p.keeps kF).pre l' ρ) h1 r' q fun F1 h1' tk1 k1 r1 => ?_) (fun _ _ z => z) (B _)
      simp only [if_true]
      refine wpAny_mono (hb _ _ _ _ _ _ _ _ { s with heap := h1', toks := tk1 } _ _ (p.keeps (stays_trans kF k1)) h2 r1 w') (fun f s3 z => ?_) (B _)
      obtain ⟨F3, σ3, l3, h3, tk3, rfl, k3, r3, z⟩ := z
      cases f with
      | next => exact ⟨k, by omega, F3, σ3, l3, h3, tk3, rfl, stays_trans kF (stays_trans k1 k3), r3, z⟩
      | ret v => obtain ⟨a, y, z⟩ := z; exact fin _ _ ⟨F3, σ3, l3, h3, tk3, rfl, stays_trans kF (stays_trans k1 k3), r3, a, y, z⟩
      | _ => cases z
    · rename_i q
      refine wpAny_mono ((ev_ok T hI t).2.1 _ _ _ _ _ _ _ _ { s with heap := h', toks := tk' } _ _ (fun b s₂ => if b = true then _ else _) ((p.keeps kF).pre l' ρ) h1 r' q fun F1 h1' tk1 k1 r1 => ?_) (fun _ _ z => z) (B _)
      simp only [Bool.false_eq_true, if_false]
      exact wpAny_execs_nil (fin _ _ ⟨F1, σ', l', h1', tk1, rfl, stays_trans kF k1, r1, w'⟩)
    · cases w'
theorem SS_whl (T : TabOk C tb) (hI : IOk C n I) (t : CE) {b c : CS} (hb : SS C n I tb b) (hc : SS C n I tb c) : SS C n I tb (.whl t b c) := by
  intro cx ss env cs l σ ρ F s A Q p h r w
  replace h := any_eq (chkS_whl.symm.trans h)
  obtain ⟨⟨⟨_, _⟩, _⟩, hvw, h⟩ := h
  dsimp only at h
  obtain ⟨_, rfl, hvx⟩ := hdS_eq hvw
  obtain ⟨_, rfl⟩ := stWhile_eq hvx
  simp only [Bool.and_eq_true] at h
  obtain ⟨⟨h1, h2⟩, h3⟩ := h
  rw [wpS_whl] at w
  obtain ⟨k, w⟩ := w
  refine wpAny_execs_cons (wpAny_While (whl_loop T hI t hb (s := s) (K := thenS (fun l τ => wpS C n I c cs l τ Q) Q) p h1 h2 (fun f s' z => ?_) r w))
  obtain ⟨F', σ', l', h', tk', rfl, k', r', z⟩ := z
  cases f with
  | next => exact lift_end k' (hc _ _ _ _ _ _ _ _ { s with heap := h', toks := tk' } _ _ (p.keeps k') h3 r' z)
  | ret v => obtain ⟨a, y, z⟩ := z; exact ⟨F', σ', l', h', tk', rfl, k', r', a, y, z⟩
  | _ => cases z
end
end Mine
end

section
set_option maxRecDepth 100000
namespace Mine

section
variable {C : Cfg} {n : Nat} {I : Tab} {tb : Tb}

inductive InvF (It L : Addr) (names : List Str) (items : List AV) (body : AV → Lo → Store → PostS → Prop) (Stt : Nat → Heap → Prop) (K : PostS) (F : Heap) (s : Shared) (ρ : Store) (k : Nat) (s' : Shared) : Prop
  | mk (F' : Heap) (σ' : Store) (l' : Lo) (h' : Heap) (tk' : Nat) (oI' : Obj) (i : Nat) : s' = { s with heap := h', toks := tk' } → F.StaysIn F' → St F' σ' ((ρ.set It (.is (· = oI'))).set L (.fr names l')) h' → Stt i h' → forP body (items.drop i) l' σ' K → i ≤ items.length → k = items.length + 1 - i → InvF It L names items body Stt K F s ρ k s'
theorem SS_for1 (T : TabOk C tb) (hI : IOk C n I) (j : Nat) (it : CE) {b c : CS} (hb : SS C n I tb b) (hc : SS C n I tb c) : SS C n I tb (.for1 j it b c) := by
  intro cx ss env cs l σ ρ F s A Q p h r w
  replace h := any_eq (chkS_for1.symm.trans h)
  obtain ⟨⟨y, iv, bv, rest⟩, hvw, h⟩ := h
  dsimp only at h
  obtain ⟨yp, fp, rfl⟩ := forN_eq hvw
  simp only [Bool.and_eq_true, beq_iff_eq] at h
  obtain ⟨⟨⟨⟨⟨h1, h2⟩, h3⟩, h4⟩, h5⟩, h6⟩ := h
  rw [wpS_for1] at w
  split at w
  · rename_i a ea
    split at w
    · rename_i items ei
      have hk : env.kindOf y = some .local := (p.E.kindOf y).trans h1
      have B : ∀ (E : Value → Shared → Prop) (v : Value) (s : Shared), Bot v s → E v s := fun _ _ _ e => e.elim
      refine wpAny_execs_cons (wpAny_For (one ((ev_ok T hI it).1 _ _ _ _ _ _ _ _ _ _ _ (p.pre l ρ) h3 r ea) fun F1 v1 h1' tk1 k1 r1 y1 => ?_) (set_pure h4))
      refine wpAny_mono (iter_W (s := { s with heap := h1', toks := tk1 }) p.o r1 y1 ei) (fun itv s2 hbg => ?_) fun _ _ e => e
      obtain ⟨It, h2', oI, Stt, rfl, rfl, X, st, r2, hI1, hI2, hI3⟩ := hbg
      have hne : env.locals ≠ It := fun e => by rw [← e, Store.set_self] at hI2; cases hI2
      have hI2' : ρ It = none := by rwa [Store.set_ne _ _ (Ne.symm hne)] at hI2
      rw [Store.set_comm hne] at r2
      have fin : ∀ f s', FinS F s ρ env.locals cx.names (thenS (fun l τ => wpS C n I c cs l τ Q) Q) f s' →
          (match f with | .next => wpAny (model C.prog C.w) A (execs rest env) (FinS F s ρ env.locals cx.names Q) Bot s' | f => FinS F s ρ env.locals cx.names Q f s') := by
        intro f s' z
        obtain ⟨F', σ', l', h', tk', rfl, k', r', z⟩ := z
        cases f with
        | next => exact lift_end k' (hc _ _ _ _ _ _ _ _ { s with heap := h', toks := tk' } _ _ (p.keeps k') h6 r' z)
        | ret v => obtain ⟨a, y, z⟩ := z; exact ⟨F', σ', l', h', tk', rfl, k', r', a, y, z⟩
        | _ => cases z
      generalize hK : thenS (fun l τ => wpS C n I c cs l τ Q) Q = K at w fin
      refine codeAny_forLoop (InvF It env.locals cx.names items (fun a l τ K => wpS C n I b cs (l.set j (some a)) τ K) Stt K F1 s ρ) ?_ (items.length + 1) ⟨F1, σ, l, h2', tk1, oI, 0, rfl, stays_refl _, r2, st, w, Nat.zero_le _, rfl⟩
      rintro k s' ⟨F', σ', l', h', tk', oI', i, rfl, kF, r', st', w', hi, rfl⟩
      have atI : ∀ (q x : AO), ((ρ.set It x).set env.locals q) It = some x := fun q x => by rw [Store.set_ne _ _ (Ne.symm hne), Store.set_self]
      have dlI : ∀ (q x : AO), ((ρ.set It x).set env.locals q).del It = ρ.set env.locals q := fun q x => by rw [Store.del_setne hne, Store.del_set hI2']
      refine next_W (s := { s with heap := h', toks := tk' }) p.o (X.mono kF) (atI _ _) st' r' (fun a v h1 tk1 oI1 ea yv st1 hg1 hw1 r1 => ?_) (fun e h1 tk1 r1 => ?_) hi
      · rw [Store.set_comm hne, Store.set_set] at r1
        have hi' : i < items.length := (List.getElem?_eq_some_iff.mp ea).1
        have hd : items.drop i = a :: items.drop (i + 1) := by
          rw [List.drop_eq_getElem_cons hi']
          congr 1
          exact Option.some.inj ((List.getElem?_eq_getElem hi').symm.trans ea)
        rw [hd] at w'
        refine wpAny_mono (E := Bot) (wpAny_assign_Name (store_W (s := { s with heap := h1, toks := tk1 }) p.E.fn hk p.E.nodup h2 (Store.set_self ..) r1 yv fun h2' tk2 r2 => ?_)) (fun _ _ z => z) (B _)
        rw [Store.set_set] at r2
        refine wpAny_mono (hb _ _ _ _ _ _ _ _ { s with heap := h2', toks := tk2 } _ _ (p.keeps (stays_trans k1 kF)) h5 r2 w') (fun f s3 z => ?_) (B _)
        obtain ⟨F3, σ3, l3, h3', tk3, rfl, k3, r3, z⟩ := z
        cases f with
        | next =>
          have e1 : ∃ ob, h1.get? It = some ob ∧ OR F' (.is (· = oI1)) ob := (r1.right (atI _ _)).2
          have e2 : ∃ ob, h3'.get? It = some ob ∧ OR F3 (.is (· = oI1)) ob := (r3.right (atI _ _)).2
          obtain ⟨ob1, g1, q1, _⟩ := e1
          obtain ⟨ob2, g2, q2, _⟩ := e2
          subst q1
          have q2' : ob2 = ob1 := q2
          rw [q2'] at g2
          have st2 : Stt (i + 1) h3' := X.frame A p.o.handled st1 (stays_trans kF (stays_trans k3 r3.r.fx)) g1 g2 (stays_trans kF r1.r.fx)
          exact ⟨items.length + 1 - (i + 1), by omega, F3, σ3, l3, h3', tk3, ob1, i + 1, rfl, stays_trans kF k3, r3, st2, z, hi', rfl⟩
        | ret v =>
          obtain ⟨a, y, z⟩ := z
          have r4 := r3.dropR (atI _ _) (fun _ _ _ e => e)
          rw [dlI] at r4
          exact fin (.ret v) _ ⟨F3, σ3, l3, h3', tk3, rfl, stays_trans k1 (stays_trans kF k3), r4, a, y, z⟩
        | _ => cases z
      · rw [dlI] at r1
        subst e
        rw [List.drop_length] at w'
        exact wpAny_execs_nil (fin .next _ ⟨F', σ', l', h1, tk1, rfl, stays_trans k1 kF, r1, w'⟩)
    · cases w
  · cases w
theorem SS_ret (T : TabOk C tb) (hI : IOk C n I) (x : XE) : SS C n I tb (.ret x) := by
  intro cx ss env cs l σ ρ F s A Q p h r w
  replace h := any_eq (chkS_ret.symm.trans h)
  obtain ⟨⟨_, _⟩, hvw, h⟩ := h
  dsimp only at h
  obtain ⟨_, rfl, hvx⟩ := hdS_eq hvw
  obtain ⟨_, rfl⟩ := stRet_eq hvx
  rw [wpS_ret] at w
  exact wpAny_execs_cons (wpAny_Return_some ((wpX_ok T hI x _ _ _ _ _ _ _ _ _ _ _ (p.pre l ρ) h r w).then fun F' σ' a v' h' tk' k r' y' q => ⟨F', σ', l, h', tk', rfl, k, r', a, y', q⟩))
theorem SS_retN : SS C n I tb .retN := by
  intro cx ss env cs l σ ρ F s A Q p h r w
  obtain ⟨⟨_, _⟩, hvw⟩ := Option.isSome_iff_exists.mp (chkS_retN.symm.trans h)
  obtain ⟨_, rfl, hvx⟩ := hdS_eq hvw
  obtain ⟨_, rfl⟩ := stRetN_eq hvx
  exact wpAny_execs_cons (wpAny_Return_none ⟨F, σ, l, s.heap, s.toks, rfl, stays_refl F, r, _, .d .none, w⟩)
theorem wpS_ok (T : TabOk C tb) (hI : IOk C n I) : ∀ c : CS, SS C n I tb c := by
  intro c
  induction c with
  | done => exact SS_done
  | asg i x r ih => exact SS_asg T hI i x ih
  | asgC i x r ih => exact SS_asgC T hI i x ih
  | setA o c i x r ih => exact SS_setA T hI o c i x ih
  | setS o k x r ih => exact SS_setS T hI o k x ih
  | dec i x r ih => exact SS_dec T hI i x ih
  | exp x r ih => exact SS_exp T hI x ih
  | ife t a b r iha ihb ih => exact SS_ife T hI t iha ihb ih
  | ifn x a b r iha ihb ih => exact SS_ifn T hI x iha ihb ih
  | whl t b r ihb ih => exact SS_whl T hI t ihb ih
  | for1 i it b r ihb ih => exact SS_for1 T hI i it ihb ih
  | ret x => exact SS_ret T hI x
  | retN => exact SS_retN
  | any => intro cx ss env cs l σ ρ F s A Q p h r w; cases w
end
end Mine
end

section
set_option maxRecDepth 100000
namespace Mine

noncomputable def setCells (σ : Store) : List Addr → List (Option AV) → Store
  | c :: cs, v :: vs => setCells (σ.set c (.cell v)) cs vs
  | _, _ => σ
noncomputable def initL (cx : Cx) (pn : List Str) (as : List AV) : Lo := cx.names.map fun x => if cx.kinds.lookup x == some .local then (pn.zip as).lookup x else none
noncomputable def initC (cx : Cx) (pn : List Str) (as : List AV) : List (Option AV) := cx.cells.map fun x => (pn.zip as).lookup x
structure CxOk (cx : Cx) (scope : Scope) (pn : List Str) : Prop where
  kinds : cx.kinds = scope.names
  cells : cx.cells = (cellsFrom 0 scope.names []).map (·.1)
  ncells : cx.cells.Nodup
  nnames : cx.names.Nodup
  kind : scope.kind = .function
  co : scope.isCoroutine = false
  gen : scope.isGenerator = false
  npn : pn.Nodup
  par : ∀ x ∈ pn, scope.names.lookup x = some .local ∨ (scope.names.lookup x = some .cell ∧ x ∈ cx.cells)
  notLoc : ∀ x ∈ cx.cells, scope.names.lookup x = some .cell
noncomputable def cxOk (cx : Cx) (scope : Scope) (pn : List Str) : Bool :=
  cx.kinds == scope.names && cx.cells == (cellsFrom 0 scope.names []).map (·.1) && decide cx.cells.Nodup && decide cx.names.Nodup && scope.kind == .function && !scope.isCoroutine && !scope.isGenerator && decide pn.Nodup &&
  pn.all (fun x => scope.names.lookup x == some .local || (scope.names.lookup x == some .cell && cx.cells.contains x)) && cx.cells.all fun x => scope.names.lookup x == some .cell
theorem CxOk.of {cx : Cx} {scope : Scope} {pn : List Str} (h : cxOk cx scope pn = true) : CxOk cx scope pn := by
  unfold cxOk at h
  simp only [Bool.and_eq_true, beq_iff_eq, decide_eq_true_eq, Bool.not_eq_true', List.all_eq_true, Bool.or_eq_true, List.contains_iff_mem] at h
  obtain ⟨⟨⟨⟨⟨⟨⟨⟨⟨h1, h2⟩, h3⟩, h4⟩, h5⟩, h6⟩, h7⟩, h8⟩, h9⟩, h10⟩ := h
  exact ⟨h1, h2, h3, h4, h5, h6, h7, h8, h9, h10⟩

theorem bindL_skip {kindOf : Str → Option NameKind} {y : Str} : ∀ {b : List (Str × Value)} {m : Str → Option Value}, (∀ p ∈ b, p.1 ≠ y) → bindL kindOf b m y = m y
  | [], _, _ => rfl
  | (n, v) :: r, m, h => by
    unfold bindL
    rw [bindL_skip fun p hp => h p (.tail _ hp)]
    have : y ≠ n := fun e => h (n, v) (.head _) e.symm
    split
    · simp [this]
    · rfl
theorem bindC_skip {kindOf : Str → Option NameKind} {y : Str} : ∀ {b : List (Str × Value)} {m : Str → Option Value}, (∀ p ∈ b, p.1 ≠ y) → bindC kindOf b m y = m y
  | [], _, _ => rfl
  | (n, v) :: r, m, h => by
    unfold bindC
    rw [bindC_skip fun p hp => h p (.tail _ hp)]
    have : y ≠ n := fun e => h (n, v) (.head _) e.symm
    split
    · rfl
    · simp [this]
theorem bindL_at {kindOf : Str → Option NameKind} {y : Str} {v : Value} (hk : kindOf y = some .local) : ∀ {b : List (Str × Value)} {m : Str → Option Value}, (b.map (·.1)).Nodup → (y, v) ∈ b → bindL kindOf b m y = some v
  | (n, w) :: r, m, nd, h => by
    rw [List.map_cons, List.nodup_cons] at nd
    unfold bindL
    rcases List.mem_cons.mp h with e | h
    · cases e
      rw [bindL_skip fun p hp e => nd.1 (List.mem_map.mpr ⟨p, hp, e⟩), if_pos hk]; simp
    · exact bindL_at hk nd.2 h
theorem bindC_at {kindOf : Str → Option NameKind} {y : Str} {v : Value} (hk : kindOf y ≠ some .local) : ∀ {b : List (Str × Value)} {m : Str → Option Value}, (b.map (·.1)).Nodup → (y, v) ∈ b → bindC kindOf b m y = some v
  | (n, w) :: r, m, nd, h => by
    rw [List.map_cons, List.nodup_cons] at nd
    unfold bindC
    rcases List.mem_cons.mp h with e | h
    · cases e
      rw [bindC_skip fun p hp e => nd.1 (List.mem_map.mpr ⟨p, hp, e⟩), if_neg hk]; simp
    · exact bindC_at hk nd.2 h
theorem zip_look {F : Heap} {x : Str} {a : AV} : ∀ {pn : List Str} {as : List AV} {b : List (Str × Value)}, b.map (·.1) = pn → VRs F as (b.map (·.2)) → (pn.zip as).lookup x = some a → ∃ v, (x, v) ∈ b ∧ VR F a v
  | [], _, _, _, _, h => by simp at h
  | _ :: _, [], _, _, _, h => by simp at h
  | p :: pn, c :: as, [], e, _, _ => by simp at e
  | p :: pn, c :: as, (n, w) :: b, e, y, h => by
    simp only [List.map_cons, List.cons.injEq] at e
    obtain ⟨rfl, e⟩ := e
    cases y with
    | cons y0 y =>
    rw [List.zip_cons_cons, List.lookup_cons] at h
    by_cases q : x = n
    · subst q; simp at h; subst h; exact ⟨w, .head _, y0⟩
    · rw [show (x == n) = false by simpa using q] at h
      obtain ⟨v, h1, h2⟩ := zip_look e y h
      exact ⟨v, .tail _ h1, h2⟩
theorem zip_none {x : Str} : ∀ {pn : List Str} {as : List AV}, pn.length = as.length → (pn.zip as).lookup x = none → x ∉ pn
  | [], _, _, _ => by simp
  | p :: pn, [], h, _ => by simp at h
  | p :: pn, a :: as, hl, h => by
    rw [List.zip_cons_cons, List.lookup_cons] at h
    by_cases q : x = p
    · subst q; simp at h
    · rw [show (x == p) = false by simpa using q] at h
      have := zip_none (by simpa using hl) h
      simp [q, this]

theorem setCells_St {F : Heap} {ρ : Store} {h : Heap} : ∀ {cs : List Addr} {vs : List (Option AV)} {σ : Store}, St F σ ρ h → (∀ c ∈ cs, F.get? c = none ∧ ρ c = none) → (∀ (i : Nat) c v, cs[i]? = some c → vs[i]? = some v → ∃ o, h.get? c = some o ∧ OR F (.cell v) o) → St F (setCells σ cs vs) ρ h
  | [], _, _, r, _, _ => by unfold setCells; exact r
  | _ :: _, [], _, r, _, _ => by unfold setCells; exact r
  | c :: cs, v :: vs, σ, r, h1, h2 => by
    unfold setCells
    obtain ⟨o, ho, y⟩ := h2 0 c v rfl rfl
    exact setCells_St (r.addL ho (h1 c (.head _)).1 (h1 c (.head _)).2 y) (fun c' hc' => h1 c' (.tail _ hc')) fun i c' v' e1 e2 => h2 (i + 1) c' v' (by simpa using e1) (by simpa using e2)

noncomputable def Out.val : Out → AV
  | .next => .d .none
  | .ret a => a
noncomputable def Fewer (τ' τ : Store) : Prop := ∀ a ao, τ' a = some ao → τ a = some ao
noncomputable def retP (Q : AV → Store → Prop) : PostS := fun o _ τ => ∃ τ', Fewer τ' τ ∧ Q o.val τ'

inductive FnOk (C : Cfg) (f : Addr) (body : List Stmt) (scope : Scope) (pn : List Str) : Prop
  | mk (fo : Obj) (name qual : Str) (params : Arguments) (dV kV doc pm : Value) (an : Option Addr) (cdv ct : Value) : C.K.lookup f = some fo → fo.data = .func (fnX name qual params body scope [] dV kV doc pm an cdv ct) → codeIn C.K cdv qual = true → FnOk C f body scope pn
noncomputable def Binds (C : Cfg) (f : Addr) (pn : List Str) (as as' : List AV) : Prop :=
  ∀ (F : Heap) (s : Shared) (vs : List Value) (fd : FuncData) (fo : Obj), C.K.In F → F.StaysIn s.heap → C.K.lookup f = some fo → fo.data = .func fd → VRs F as vs → ∃ b, BindsTo s fd ⟨vs, []⟩ b ∧ b.map (·.1) = pn ∧ VRs F as' (b.map (·.2))

noncomputable def TCc (C : Cfg) (n : Nat) (f : Value) (as : List AV) (σ : Store) (Q : AV → Store → Prop) : Prop :=
  ∀ (A : Around) (F : Heap) (ρ : Store) (s : Shared) (vs : List Value), OkA A n → Gd C F → St F σ ρ s.heap → VRs F as vs → codeAny (model C.prog C.w) A (.call f ⟨vs, []⟩) (fun r s' => match r with | .ok (.ret v) => Fin F s ρ Q v s' | _ => False) s
theorem TCc.tc {C : Cfg} {n : Nat} {f : Value} {as : List AV} {σ : Store} {Q : AV → Store → Prop} (h : TCc C n f as σ Q) : TC C n f as σ Q := fun A F ρ s vs o g r y =>
  wpAny_call (codeAny_mono (h A F ρ s vs o g r y) fun r s' z => by
    match r, z with
    | .ok (.ret v), z => exact z)
section
variable {C : Cfg} {n : Nat} {I : Tab} {tb : Tb}
theorem TC_gen (T : TabOk C tb) (hI : IOk C n I) {f : Addr} {body : List Stmt} {scope : Scope} {pn : List Str} {cx : Cx} {c : CS} {as as' : List AV} {σ : Store} {Q P : AV → Store → Prop} {l0 : Lo} {v0 : List (Option AV)}
    (hf : FnOk C f body scope pn) (hcx : CxOk cx scope pn) (hchk : chkS tb c cx body = true) (hb : Binds C f pn as as') (hlen : pn.length = as'.length) (hl0 : l0 = initL cx pn as') (hv0 : v0 = initC cx pn as')
    (w : ∀ cs : List Addr, cs.length = cx.cells.length → cs.Nodup → (∀ c ∈ cs, σ c = none) → wpS C n I c cs l0 (setCells σ cs v0) (fun o _ τ => P o.val τ)) (hP : ∀ (F' : Heap) (ρ τ : Store) (h' : Heap) (a : AV) (v : Value), P a τ → St F' τ ρ h' → VR F' a v → ∃ F2 τ2 a2, F'.StaysIn F2 ∧ St F2 τ2 ρ h' ∧ VR F2 a2 v ∧ Q a2 τ2) : TCc C (n + 1) (.ref f) as σ Q := by
  intro A F ρ s vs o g r y
  obtain ⟨fo, name, qual, params, dV, kV, doc, pm, an, cdv, ct, k1, k2, k3⟩ := hf
  have X := g.1.keeps r.r.fx
  obtain ⟨b, b1, b2, b3⟩ := hb F s vs _ fo g.1 r.r.fx k1 k2 y
  have hroom : A.depth < recursionLimit := by have := o.depth; omega
  refine codeAny_call_function hroom (X _ _ k1) k2 hcx.co hcx.gen rfl (codeRec_of X k3) (b1 _ _ _ _ ?_)
  have cnames : ∀ m, (cellsFrom m scope.names []).map (·.1) = cx.cells := fun m => by rw [hcx.cells]; exact cellsFrom_names _ _ _ _ _ rfl
  have look : ∀ m x, x ∈ cx.cells → ((cellsFrom m scope.names []).lookup x).isSome = true := fun m x hx => by
    rw [← cnames m] at hx
    obtain ⟨p, hp, rfl⟩ := List.mem_map.mp hx
    rw [lookup_of_mem_nodup (n := p.1) (c := p.2) (by rw [cnames]; exact hcx.ncells) hp]; rfl
  refine wpAny_newFunctionEnv_cells hcx.kind (fun x hx => ?_) fun env he s' x => ?_
  · have hm : x.1 ∈ pn := b2 ▸ List.mem_map_of_mem hx
    exact (hcx.par _ hm).imp id fun ⟨q1, q2⟩ => ⟨q1, look _ _ q2⟩
  subst he
  obtain ⟨h1, tk, rfl, hk⟩ := x.done
  refine ⟨(g.2.keeps r.r.fx).nolimit.keeps hk, codeAny_func ?_⟩
  let env : Env := newEnv scope s.heap.objs.size mainGlobals (cellsFrom (s.heap.objs.size + 1) scope.names []) (qual ++ ".<locals>.") (some f) cdv none builtinsNs
  let cs : List Addr := (cellsFrom (s.heap.objs.size + 1) scope.names []).map (·.2)
  have hnd : ((cellsFrom (s.heap.objs.size + 1) scope.names []).map (·.1)).Nodup := by rw [cnames]; exact hcx.ncells
  have hat : ∀ (i : Nat) z c, cx.cells[i]? = some z → cs[i]? = some c → (z, c) ∈ cellsFrom (s.heap.objs.size + 1) scope.names [] := fun i z c e1 e2 => by
    rw [← cnames (s.heap.objs.size + 1), List.getElem?_map] at e1
    have e2' : ((cellsFrom (s.heap.objs.size + 1) scope.names [])[i]?).map (·.2) = some c := by rw [← List.getElem?_map]; exact e2
    cases q : (cellsFrom (s.heap.objs.size + 1) scope.names [])[i]? with
    | none => rw [q] at e1; cases e1
    | some p => rw [q] at e1 e2'; cases e1; cases e2'; exact List.mem_of_getElem? q
  have hcs : ∀ c ∈ cs, ∃ z, (z, c) ∈ cellsFrom (s.heap.objs.size + 1) scope.names [] := fun c hc => by
    obtain ⟨p, hp, rfl⟩ := List.mem_map.mp hc
    exact ⟨p.1, hp⟩
  have E : EnvOk cx env cs := ⟨hcx.kind, hcx.kinds.symm, rfl, rfl, fun i z c e1 e2 => lookup_of_mem_nodup hnd (hat i z c e1 e2), hcx.nnames, by
    show List.length (List.map _ _) = _
    rw [List.length_map, ← cnames (s.heap.objs.size + 1), List.length_map]⟩
  have kindOf : ∀ z, env.kindOf z = scope.names.lookup z := fun z => rfl
  have bnd : (b.map (·.1)).Nodup := b2 ▸ hcx.npn
  -- the state at the body's start
  have hfresh : ∀ τ : Store, (∀ a ao, τ a = some ao → a < s.heap.objs.size) → ∀ a, s.heap.objs.size ≤ a → τ a = none := fun τ k a ha => by
    cases e : τ a with
    | none => rfl
    | some ao => exact absurd (k _ _ e) (Nat.not_lt.mpr ha)
  have fσ := hfresh σ fun a ao e => r.r.lt (un_left e)
  have fρ := hfresh ρ fun a ao e => r.r.lt (un_right r.dj e)
  have fF : ∀ a, s.heap.objs.size ≤ a → F.get? a = none := fun a ha => by
    cases e : F.get? a with
    | none => rfl
    | some o => exact absurd (Heap.lt_size (r.r.fx _ _ e)) (Nat.not_lt.mpr ha)
  have abv : ∀ c ∈ cs, s.heap.objs.size < c := fun c hc => let ⟨z, hz⟩ := hcs c hc; x.above z c hz
  have r1 : St F σ ρ h1 := r.keeps hk
  have r2 : St F σ (ρ.set env.locals (.fr cx.names l0)) h1 := by
    obtain ⟨oL, hoL, yL⟩ := fr_of (F := F) (names := cx.names) (l := l0) x.toInCall.ns fun i z a e1 e2 => by
      rw [hl0] at e2
      unfold initL at e2
      rw [List.getElem?_map, e1] at e2
      simp only [Option.map_some, Option.some.injEq] at e2
      split at e2
      · rename_i q
        obtain ⟨v, h3, h4⟩ := zip_look b2 b3 e2
        exact ⟨v, bindL_at (by rw [kindOf, ← hcx.kinds]; exact beq_iff_eq.mp q) bnd h3, h4⟩
      · cases e2
    exact r1.addR hoL (fF _ (Nat.le_refl _)) (fσ _ (Nat.le_refl _)) yL
  have r3 : St F (setCells σ cs v0) (ρ.set env.locals (.fr cx.names l0)) h1 := by
    refine setCells_St r2 (fun c hc => ⟨fF c (Nat.le_of_lt (abv c hc)), ?_⟩) fun i c v e1 e2 => ?_
    · exact (Store.set_ne _ _ (Nat.ne_of_gt (abv c hc) : c ≠ env.locals)).trans (fρ c (Nat.le_of_lt (abv c hc)))
    · rw [hv0] at e2
      unfold initC at e2
      rw [List.getElem?_map] at e2
      cases q : cx.cells[i]? with
      | none => rw [q] at e2; cases e2
      | some z =>
        rw [q] at e2
        simp only [Option.map_some, Option.some.injEq] at e2
        have hzc : z ∈ cx.cells := List.mem_of_getElem? q
        have hl := lookup_of_mem_nodup hnd (hat i z c q e1)
        obtain ⟨oc, hoc, hdc⟩ := x.cell z c hl
        have hnl : env.kindOf z ≠ some .local := by rw [kindOf, hcx.notLoc z hzc]; simp
        subst e2
        refine ⟨oc, hoc, ?_⟩
        cases q2 : (pn.zip as').lookup z with
        | none =>
          have hz : z ∉ pn := zip_none hlen q2
          show oc.data = _
          rw [hdc]
          have := bindC_skip (kindOf := env.kindOf) (y := z) (b := b) (m := fun _ => none) fun p hp e => hz (b2 ▸ List.mem_map.mpr ⟨p, hp, e⟩)
          exact congrArg Data.cell this
        | some a =>
          obtain ⟨v, h3, h4⟩ := zip_look b2 b3 q2
          exact ⟨v, by rw [hdc, bindC_at hnl bnd h3], h4⟩
  have csn : cs.Nodup := by
    have := x.apart
    show (List.map _ _).Nodup
    rw [List.Nodup, List.pairwise_map]
    exact this
  have W := w cs (by rw [E.len]) csn fun c hc => fσ c (Nat.le_of_lt (abv c hc))
  have fL : ρ env.locals = none := fρ _ (Nat.le_refl _)
  refine wpAny_mono (wpS_ok T hI c cx body env cs l0 _ ρ F { s with heap := h1, toks := tk } _ _ ⟨E, OkA.deeper o env, g⟩ hchk r3 W) (fun fl s2 z => ?_) fun _ _ z => z.elim
  obtain ⟨F', σ', l', h', tk', rfl, k', r', z⟩ := z
  have r4 := r'.dropR (Store.set_self ..) (fun _ _ _ e => e)
  rw [Store.del_set fL] at r4
  have done : ∀ a v, VR F' a v → P a σ' → Fin F s ρ Q v { s with heap := h', toks := tk' } := fun a v yv z => by
    obtain ⟨F2, τ2, a2, k2, r5, y2, q2⟩ := hP F' ρ σ' h' a v z r4 yv
    exact ⟨F2, τ2, a2, h', tk', rfl, stays_trans k' k2, r5, y2, q2⟩
  cases fl with
  | next => exact done _ _ (.d .none) z
  | ret v => obtain ⟨a, yv, z⟩ := z; exact done _ _ yv z
  | _ => cases z
theorem TC_fun (T : TabOk C tb) (hI : IOk C n I) {f : Addr} {body : List Stmt} {scope : Scope} {pn : List Str} {cx : Cx} {c : CS} {as as' : List AV} {σ : Store} {Q : AV → Store → Prop} {l0 : Lo} {v0 : List (Option AV)}
    (hf : FnOk C f body scope pn) (hcx : CxOk cx scope pn) (hchk : chkS tb c cx body = true) (hb : Binds C f pn as as') (hlen : pn.length = as'.length) (hl0 : l0 = initL cx pn as') (hv0 : v0 = initC cx pn as')
    (w : ∀ cs : List Addr, cs.length = cx.cells.length → cs.Nodup → (∀ c ∈ cs, σ c = none) → wpS C n I c cs l0 (setCells σ cs v0) (retP Q)) : TCc C (n + 1) (.ref f) as σ Q :=
  TC_gen T hI (P := fun a τ => ∃ τ', Fewer τ' τ ∧ Q a τ') hf hcx hchk hb hlen hl0 hv0 w fun F' ρ τ h' a v ⟨τ', q1, q2⟩ r y => ⟨F', τ', a, stays_refl F', r.monoL q1, y, q2⟩
noncomputable def retZ (Q : AV → Store → Prop) (a : AV) (τ : Store) : Prop := ∃ c xs ds τ', a = .ref c ∧ τ c = some (.list xs) ∧ allD xs = some ds ∧ Fewer τ' τ ∧ τ' c = none ∧ Q (.d (.list ds)) τ'
theorem TC_funZ (T : TabOk C tb) (hI : IOk C n I) {f : Addr} {body : List Stmt} {scope : Scope} {pn : List Str} {cx : Cx} {c : CS} {as as' : List AV} {σ : Store} {Q : AV → Store → Prop} {l0 : Lo} {v0 : List (Option AV)}
    (hf : FnOk C f body scope pn) (hcx : CxOk cx scope pn) (hchk : chkS tb c cx body = true) (hb : Binds C f pn as as') (hlen : pn.length = as'.length) (hl0 : l0 = initL cx pn as') (hv0 : v0 = initC cx pn as')
    (w : ∀ cs : List Addr, cs.length = cx.cells.length → cs.Nodup → (∀ c ∈ cs, σ c = none) → wpS C n I c cs l0 (setCells σ cs v0) (fun o _ τ => retZ Q o.val τ)) : TCc C (n + 1) (.ref f) as σ Q :=
  TC_gen T hI (P := retZ Q) hf hcx hchk hb hlen hl0 hv0 w fun F' ρ τ h' a v ⟨c, xs, ds, τ', e1, e2, e3, e4, e5, e6⟩ r y => by
    subst e1
    cases y
    obtain ⟨_, o, ho, vs, k, rfl, z⟩ := r.left e2
    have hρ : ρ c = none := by
      rcases r.dj c with q | q
      · rw [e2] at q; cases q
      · exact q
    obtain ⟨F2, k2, g2, r2⟩ := (r.monoL e4).freeze ho e5 hρ
    obtain ⟨bs, rr⟩ := reads_of (z.mono k2) e3
    exact ⟨F2, τ', _, k2, r2, .d (reads_list_at g2 rfl rfl rr), e6⟩
end
end Mine
end

section
set_option maxRecDepth 100000
namespace Mine

theorem units_le (A : Around) (c : Addr) (vs : List Value) : (A.under (.builtin "type.__call__" ⟨.ref c :: vs, []⟩)).units ≤ A.units + 4 := by
  first
    | exact Nat.le_of_eq (show (A.under (.builtin "type.__call__" ⟨.ref c :: vs, []⟩)).units = A.units + 4 by rfl)
    | exact Nat.le_trans (Nat.le_of_eq (show (A.under (.builtin "type.__call__" ⟨.ref c :: vs, []⟩)).units = A.units + 1 by rfl)) (by omega)
theorem OkA.under {A : Around} {n : Nat} (o : OkA A (n + 1)) (c : Addr) (vs : List Value) : OkA (A.under (.builtin "type.__call__" ⟨.ref c :: vs, []⟩)) n :=
  ⟨o.handled, by have := o.depth; show A.depth + 1 + n < _; omega, by have := o.units; have := units_le A c vs; omega⟩
section
variable {C : Cfg} {n : Nat} {I : Tab} {tb : Tb}
theorem TC_new {c fI : Addr} {as : List AV} {σ : Store} {Q : AV → Store → Prop} (hm : makesIn C.K c = true) (hi : findIn C.K (.ref c) "__init__" = some (some (.ref fI))) (hf : typeIn C.K (.ref fI) = some (.type "function"))
    (h : ∀ x dx, σ x = none → σ dx = none → x ≠ dx → TCc C n (.ref fI) (.ref x :: as) ((σ.set dx (.ns c [])).set x (.inst c dx)) (fun a τ => a = .d .none ∧ Q (.ref x) τ)) : TCc C (n + 1) (.ref c) as σ Q := by
  intro A F ρ s vs o g r y
  have X := g.1.keeps r.r.fx
  obtain ⟨hh, gg, d, t, os⟩ := s
  refine make_core (makes_of X hm) (looks_findIn X hi) (fun self => bind_fn X self hf) (.inl rfl) ?_
  have r1 : St F (σ.set hh.objs.size (.ns c [])) ρ (hh.push emptyDict) := r.pushM ⟨[], 0, rfl, Nat.zero_le _, by simpa using EntR.nil⟩
  have r2 : St F ((σ.set hh.objs.size (.ns c [])).set (hh.objs.size + 1) (.inst c hh.objs.size)) ρ ((hh.push emptyDict).push (instObj c hh.objs.size)) := by
    have := r1.pushM (o := instObj c hh.objs.size) (ao := .inst c hh.objs.size) rfl
    rwa [Heap.size_push] at this
  have f1 : σ hh.objs.size = none := r.fresh.1
  have f2 : σ (hh.objs.size + 1) = none := by
    have := r1.fresh.1
    rw [Heap.size_push, Store.set_ne _ _ (Nat.succ_ne_self _)] at this
    exact this
  have k : ∀ b o, hh.get? b = some o → ((hh.push emptyDict).push (instObj c hh.objs.size)).get? b = some o := fun b o e => Heap.get?_push_of_some _ (Heap.get?_push_of_some _ e)
  refine codeAny_mono (h (hh.objs.size + 1) hh.objs.size f2 f1 (Nat.succ_ne_self _) _ F ρ ⟨(hh.push emptyDict).push (instObj c hh.objs.size), gg, d, t, os⟩ (.ref (hh.objs.size + 1) :: vs) (o.under c vs) g r2 (.cons (.ref _) y)) fun r s' z => ?_
  match r, z with
  | .ok (.ret v), z =>
    obtain ⟨F', σ', a, h', tk', rfl, k', r', yv, rfl, q⟩ := z
    exact ⟨yv.none, F', σ', .ref _, h', tk', rfl, k', r', .ref _, q⟩
end
end Mine
end

section
set_option maxRecDepth 100000
namespace Mine
noncomputable abbrev pw : Program := PySem.Challenge.pw_pb0144_01
noncomputable abbrev q (l : List Nat) : Str := ⟨⟨l⟩⟩
structure Fun where
  args : Arguments
  body : List Stmt
  scope : Scope
noncomputable def fnAt (ss : List Stmt) (i : Nat) : Fun := match ss[i]? with
  | some (.FunctionDef _ a b _ _ _ sc _ _ _) => ⟨a, b, sc⟩
  | _ => ⟨⟨[], [], none, [], [], none, []⟩, [], ⟨.module, [], false, false, []⟩⟩
noncomputable def clsAt (ss : List Stmt) (i : Nat) : List Stmt := match ss[i]? with
  | some (.ClassDef _ _ _ b _ _ _ _ _ _ _) => b
  | _ => []
noncomputable def tb : Tb := ⟨[("is_breakout_name", 28), ("is_upper", 35), ("lower", 42), ("lower_text", 49), ("is_math_point", 56), ("is_html_point", 63), ("value_of", 70), ("is_breakout", 77), ("holds_html", 84), ("break_out", 91), ("foreign_end", 98), ("is_script_end", 105), ("above", 450), ("_law_digit", 528), ("_law_shapes", 533), ("_law_holds", 538), ("_law_breakouts_hold", 543), ("_law_rule", 550), ("_law_set", 557), ("_law_script_holds", 562), ("_law_end_holds", 567), ("_law_break_holds", 572), ("_law_is_kept", 577), ("law", 582), ("Formatting", 217), ("OpenStack", 322), ("Tree", 439), ("Builder", 517)],
 [((217, "__init__"), 151), ((322, "__init__"), 235), ((322, "pop"), 249), ((322, "current"), 256), ((322, "many"), 263), ((439, "__init__"), 340), ((439, "add"), 349), ((439, "element"), 358), ((439, "insert"), 387), ((439, "append"), 394), ((439, "remove"), 401), ((439, "value"), 429), ((517, "__init__"), 465), ((517, "error"), 472), ((517, "to"), 479), ((517, "use"), 486)]⟩
noncomputable def x_is_breakout_name : Fun := fnAt pw.main.body 2
noncomputable def cx_is_breakout_name : Cx := ⟨x_is_breakout_name.scope.names, ["name", "words"], []⟩
noncomputable def c_is_breakout_name : CS := (.asg 1 (.pe (.k (.str (q [98, 32, 98, 105, 103, 32, 98, 108, 111, 99, 107, 113, 117, 111, 116, 101, 32, 98, 111, 100, 121, 32, 98, 114, 32, 99, 101, 110, 116, 101, 114, 32, 99, 111, 100, 101, 32, 100, 100, 32, 100, 105, 118, 32, 100, 108, 32, 100, 116, 32, 101, 109, 32, 101, 109, 98, 101, 100, 32, 104, 49, 32, 104, 50, 32, 104, 51, 32, 104, 52, 32, 104, 53, 32, 104, 54, 32, 104, 101, 97, 100, 32, 104, 114, 32, 105, 32, 105, 109, 103, 32, 108, 105]))))
 (.asg 1 (.pe (.bin .Add (.var 1) (.k (.str (q [32, 108, 105, 115, 116, 105, 110, 103, 32, 109, 101, 110, 117, 32, 109, 101, 116, 97, 32, 110, 111, 98, 114, 32, 111, 108, 32, 112, 32, 112, 114, 101, 32, 114, 117, 98, 121, 32, 115, 32, 115, 109, 97, 108, 108, 32, 115, 112, 97, 110, 32, 115, 116, 114, 111, 110, 103, 32, 115, 116, 114, 105, 107, 101, 32, 115, 117, 98, 32, 115, 117, 112, 32, 116, 97, 98, 108, 101, 32, 116, 116, 32, 117, 32, 117, 108, 32, 118, 97, 114])))))
 (.ret (.pe (.cmp .In (.var 0) (.meth .split (.var 1)))))))
noncomputable def p_is_breakout_name : List Str := ["name"]
theorem k_is_breakout_name : chkS tb c_is_breakout_name cx_is_breakout_name x_is_breakout_name.body = true := by decide +kernel
theorem o_is_breakout_name : cxOk cx_is_breakout_name x_is_breakout_name.scope p_is_breakout_name = true := by decide +kernel

noncomputable def x_is_upper : Fun := fnAt pw.main.body 4
noncomputable def cx_is_upper : Cx := ⟨x_is_upper.scope.names, ["c"], []⟩
noncomputable def c_is_upper : CS := (.ret (.pe (.chain .LtE .LtE (.k (.str (q [65]))) (.var 0) (.k (.str (q [90]))))))
noncomputable def p_is_upper : List Str := ["c"]
theorem k_is_upper : chkS tb c_is_upper cx_is_upper x_is_upper.body = true := by decide +kernel
theorem o_is_upper : cxOk cx_is_upper x_is_upper.scope p_is_upper = true := by decide +kernel

noncomputable def x_lower : Fun := fnAt pw.main.body 5
noncomputable def cx_lower : Cx := ⟨x_lower.scope.names, ["c"], []⟩
noncomputable def c_lower : CS := (.ife (.call 35 (.cons (.var 0) .nil))
 (.ret (.pe (.bi .chr (.bin .Add (.bi .ord (.var 0)) (.k (.int 32)))))) .done
 (.ret (.pe (.var 0))))
noncomputable def p_lower : List Str := ["c"]
theorem k_lower : chkS tb c_lower cx_lower x_lower.body = true := by decide +kernel
theorem o_lower : cxOk cx_lower x_lower.scope p_lower = true := by decide +kernel

noncomputable def x_lower_text : Fun := fnAt pw.main.body 6
noncomputable def cx_lower_text : Cx := ⟨x_lower_text.scope.names, ["text", "out", "c"], []⟩
noncomputable def c_lower_text : CS := (.asg 1 (.listM .nil)
 (.for1 2 (.var 0)
 (.exp (.append (.var 1) (.pe (.call 42 (.cons (.var 2) .nil))))
 .done)
 (.ret (.pe (.join (q []) (.var 1))))))
noncomputable def p_lower_text : List Str := ["text"]
theorem k_lower_text : chkS tb c_lower_text cx_lower_text x_lower_text.body = true := by decide +kernel
theorem o_lower_text : cxOk cx_lower_text x_lower_text.scope p_lower_text = true := by decide +kernel

noncomputable def x_is_math_point : Fun := fnAt pw.main.body 8
noncomputable def cx_is_math_point : Cx := ⟨x_is_math_point.scope.names, ["tree", "node"], []⟩
noncomputable def c_is_math_point : CS := (.ret (.pe (.and (.cmp .Eq (.sub (.attr 439 1 (.var 0)) (.var 1)) (.k (.str (q [109, 97, 116, 104])))) (.cmp .In (.sub (.attr 439 2 (.var 0)) (.var 1)) (.tup (.cons (.k (.str (q [109, 105]))) (.cons (.k (.str (q [109, 111]))) (.cons (.k (.str (q [109, 110]))) (.cons (.k (.str (q [109, 115]))) (.cons (.k (.str (q [109, 116, 101, 120, 116]))) .nil))))))))))
noncomputable def p_is_math_point : List Str := ["tree", "node"]
theorem k_is_math_point : chkS tb c_is_math_point cx_is_math_point x_is_math_point.body = true := by decide +kernel
theorem o_is_math_point : cxOk cx_is_math_point x_is_math_point.scope p_is_math_point = true := by decide +kernel

noncomputable def x_is_html_point : Fun := fnAt pw.main.body 9
noncomputable def cx_is_html_point : Cx := ⟨x_is_html_point.scope.names, ["tree", "node", "encoding"], []⟩
noncomputable def c_is_html_point : CS := (.ife (.cmp .Eq (.sub (.attr 439 1 (.var 0)) (.var 1)) (.k (.str (q [115, 118, 103]))))
 (.ret (.pe (.cmp .In (.sub (.attr 439 2 (.var 0)) (.var 1)) (.tup (.cons (.k (.str (q [102, 111, 114, 101, 105, 103, 110, 79, 98, 106, 101, 99, 116]))) (.cons (.k (.str (q [100, 101, 115, 99]))) (.cons (.k (.str (q [116, 105, 116, 108, 101]))) .nil))))))) .done
 (.ife (.or (.cmp .NotEq (.sub (.attr 439 1 (.var 0)) (.var 1)) (.k (.str (q [109, 97, 116, 104])))) (.cmp .NotEq (.sub (.attr 439 2 (.var 0)) (.var 1)) (.k (.str (q [97, 110, 110, 111, 116, 97, 116, 105, 111, 110, 45, 120, 109, 108])))))
 (.ret (.pe (.k (.bool false)))) .done
 (.asg 2 (.pe (.mcall 439 429 (.var 0) (.cons (.var 1) (.cons (.k (.str (q [101, 110, 99, 111, 100, 105, 110, 103]))) .nil))))
 (.ret (.pe (.and (.cmp .IsNot (.var 2) (.k .none)) (.cmp .In (.call 49 (.cons (.var 2) .nil)) (.tup (.cons (.k (.str (q [116, 101, 120, 116, 47, 104, 116, 109, 108]))) (.cons (.k (.str (q [97, 112, 112, 108, 105, 99, 97, 116, 105, 111, 110, 47, 120, 104, 116, 109, 108, 43, 120, 109, 108]))) .nil))))))))))
noncomputable def p_is_html_point : List Str := ["tree", "node"]
theorem k_is_html_point : chkS tb c_is_html_point cx_is_html_point x_is_html_point.body = true := by decide +kernel
theorem o_is_html_point : cxOk cx_is_html_point x_is_html_point.scope p_is_html_point = true := by decide +kernel

noncomputable def x_value_of : Fun := fnAt pw.main.body 11
noncomputable def cx_value_of : Cx := ⟨x_value_of.scope.names, ["token", "name", "pair"], []⟩
noncomputable def c_value_of : CS := (.for1 2 (.sub (.var 0) (.k (.int 2)))
 (.ife (.cmp .Eq (.sub (.var 2) (.k (.int 0))) (.var 1))
 (.ret (.pe (.sub (.var 2) (.k (.int 1))))) .done
 .done)
 (.ret (.pe (.k .none))))
noncomputable def p_value_of : List Str := ["token", "name"]
theorem k_value_of : chkS tb c_value_of cx_value_of x_value_of.body = true := by decide +kernel
theorem o_value_of : cxOk cx_value_of x_value_of.scope p_value_of = true := by decide +kernel

noncomputable def x_is_breakout : Fun := fnAt pw.main.body 13
noncomputable def cx_is_breakout : Cx := ⟨x_is_breakout.scope.names, ["token", "name", "attr"], []⟩
noncomputable def c_is_breakout : CS := (.ife (.cmp .NotEq (.sub (.var 0) (.k (.int 0))) (.k (.str (q [115, 116, 97, 114, 116]))))
 (.ret (.pe (.and (.cmp .Eq (.sub (.var 0) (.k (.int 0))) (.k (.str (q [101, 110, 100])))) (.cmp .In (.sub (.var 0) (.k (.int 1))) (.tup (.cons (.k (.str (q [98, 114]))) (.cons (.k (.str (q [112]))) .nil))))))) .done
 (.asg 1 (.pe (.sub (.var 0) (.k (.int 1))))
 (.ife (.cmp .Eq (.var 1) (.k (.str (q [102, 111, 110, 116]))))
 (.for1 2 (.tup (.cons (.k (.str (q [99, 111, 108, 111, 114]))) (.cons (.k (.str (q [102, 97, 99, 101]))) (.cons (.k (.str (q [115, 105, 122, 101]))) .nil))))
 (.ife (.cmp .IsNot (.call 70 (.cons (.var 0) (.cons (.var 2) .nil))) (.k .none))
 (.ret (.pe (.k (.bool true)))) .done
 .done)
 (.ret (.pe (.k (.bool false))))) .done
 (.ret (.pe (.call 28 (.cons (.var 1) .nil)))))))
noncomputable def p_is_breakout : List Str := ["token"]
theorem k_is_breakout : chkS tb c_is_breakout cx_is_breakout x_is_breakout.body = true := by decide +kernel
theorem o_is_breakout : cxOk cx_is_breakout x_is_breakout.scope p_is_breakout = true := by decide +kernel

noncomputable def x_holds_html : Fun := fnAt pw.main.body 14
noncomputable def cx_holds_html : Cx := ⟨x_holds_html.scope.names, ["tree", "node"], []⟩
noncomputable def c_holds_html : CS := (.ife (.cmp .Eq (.sub (.attr 439 1 (.var 0)) (.var 1)) (.k (.str (q [104, 116, 109, 108]))))
 (.ret (.pe (.k (.bool true)))) .done
 (.ret (.pe (.or (.call 56 (.cons (.var 0) (.cons (.var 1) .nil))) (.call 63 (.cons (.var 0) (.cons (.var 1) .nil)))))))
noncomputable def p_holds_html : List Str := ["tree", "node"]
theorem k_holds_html : chkS tb c_holds_html cx_holds_html x_holds_html.body = true := by decide +kernel
theorem o_holds_html : cxOk cx_holds_html x_holds_html.scope p_holds_html = true := by decide +kernel

noncomputable def x_break_out : Fun := fnAt pw.main.body 15
noncomputable def cx_break_out : Cx := ⟨x_break_out.scope.names, ["builder", "token", "stack"], []⟩
noncomputable def c_break_out : CS := (.ife (.cmp .Eq (.sub (.var 1) (.k (.int 0))) (.k (.str (q [101, 110, 100]))))
 (.exp (.mcall 517 472 (.var 0) (.cons (.k (.str (q [117, 110, 101, 120, 112, 101, 99, 116, 101, 100, 45, 101, 110, 100, 45, 116, 97, 103]))) .nil))
 .done) (.exp (.mcall 517 472 (.var 0) (.cons (.k (.str (q [117, 110, 101, 120, 112, 101, 99, 116, 101, 100, 45, 115, 116, 97, 114, 116, 45, 116, 97, 103]))) .nil))
 .done)
 (.asg 2 (.pe (.attr 517 2 (.var 0)))
 (.whl (.and (.cmp .Gt (.mcall 322 263 (.var 2) .nil) (.k (.int 0))) (.notE (.call 84 (.cons (.attr 517 1 (.var 0)) (.cons (.mcall 322 256 (.var 2) .nil) .nil)))))
 (.exp (.mcall 322 249 (.var 2) .nil)
 .done)
 (.exp (.mcall 517 486 (.var 0) (.cons (.attr 517 4 (.var 0)) (.cons (.var 1) .nil)))
 .done))))
noncomputable def p_break_out : List Str := ["builder", "token"]
theorem k_break_out : chkS tb c_break_out cx_break_out x_break_out.body = true := by decide +kernel
theorem o_break_out : cxOk cx_break_out x_break_out.scope p_break_out = true := by decide +kernel

noncomputable def x_foreign_end : Fun := fnAt pw.main.body 16
noncomputable def cx_foreign_end : Cx := ⟨x_foreign_end.scope.names, ["builder", "token", "tree", "stack", "place", "name"], []⟩
noncomputable def c_foreign_end : CS := (.asg 2 (.pe (.attr 517 1 (.var 0)))
 (.asg 3 (.pe (.attr 517 2 (.var 0)))
 (.asg 4 (.pe (.bin .Sub (.mcall 322 263 (.var 3) .nil) (.k (.int 1))))
 (.asg 5 (.pe (.sub (.var 1) (.k (.int 1))))
 (.ife (.cmp .NotEq (.call 49 (.cons (.sub (.attr 439 2 (.var 2)) (.mcall 322 256 (.var 3) .nil)) .nil)) (.var 5))
 (.exp (.mcall 517 472 (.var 0) (.cons (.k (.str (q [117, 110, 101, 120, 112, 101, 99, 116, 101, 100, 45, 101, 110, 100, 45, 116, 97, 103]))) .nil))
 .done) .done
 (.whl (.cmp .Gt (.var 4) (.k (.int 0)))
 (.ife (.cmp .Eq (.call 49 (.cons (.sub (.attr 439 2 (.var 2)) (.sub (.attr 322 1 (.var 3)) (.var 4))) .nil)) (.var 5))
 (.whl (.cmp .Gt (.mcall 322 263 (.var 3) .nil) (.var 4))
 (.exp (.mcall 322 249 (.var 3) .nil)
 .done)
 .retN) .done
 (.dec 4 (.k (.int 1))
 (.ife (.cmp .Eq (.sub (.attr 439 1 (.var 2)) (.sub (.attr 322 1 (.var 3)) (.var 4))) (.k (.str (q [104, 116, 109, 108]))))
 (.exp (.mcall 517 486 (.var 0) (.cons (.attr 517 4 (.var 0)) (.cons (.var 1) .nil)))
 .retN) .done
 .done)))
 .done))))))
noncomputable def p_foreign_end : List Str := ["builder", "token"]
theorem k_foreign_end : chkS tb c_foreign_end cx_foreign_end x_foreign_end.body = true := by decide +kernel
theorem o_foreign_end : cxOk cx_foreign_end x_foreign_end.scope p_foreign_end = true := by decide +kernel

noncomputable def x_is_script_end : Fun := fnAt pw.main.body 17
noncomputable def cx_is_script_end : Cx := ⟨x_is_script_end.scope.names, ["builder", "token", "node"], []⟩
noncomputable def c_is_script_end : CS := (.ife (.or (.cmp .NotEq (.sub (.var 1) (.k (.int 0))) (.k (.str (q [101, 110, 100])))) (.cmp .NotEq (.sub (.var 1) (.k (.int 1))) (.k (.str (q [115, 99, 114, 105, 112, 116])))))
 (.ret (.pe (.k (.bool false)))) .done
 (.asg 2 (.pe (.mcall 322 256 (.attr 517 2 (.var 0)) .nil))
 (.ife (.cmp .Lt (.var 2) (.k (.int 0)))
 (.ret (.pe (.k (.bool false)))) .done
 (.ret (.pe (.and (.cmp .Eq (.sub (.attr 439 1 (.attr 517 1 (.var 0))) (.var 2)) (.k (.str (q [115, 118, 103])))) (.cmp .Eq (.sub (.attr 439 2 (.attr 517 1 (.var 0))) (.var 2)) (.k (.str (q [115, 99, 114, 105, 112, 116]))))))))))
noncomputable def p_is_script_end : List Str := ["builder", "token"]
theorem k_is_script_end : chkS tb c_is_script_end cx_is_script_end x_is_script_end.body = true := by decide +kernel
theorem o_is_script_end : cxOk cx_is_script_end x_is_script_end.scope p_is_script_end = true := by decide +kernel

noncomputable def x_Formatting_init : Fun := fnAt (clsAt pw.main.body 22) 0
noncomputable def cx_Formatting_init : Cx := ⟨x_Formatting_init.scope.names, ["self", "tree"], []⟩
noncomputable def c_Formatting_init : CS := (.setA (.var 0) 217 0 (.pe (.var 1))
 (.setA (.var 0) 217 1 (.listM .nil)
 .done))
noncomputable def p_Formatting_init : List Str := ["self", "tree"]
theorem k_Formatting_init : chkS tb c_Formatting_init cx_Formatting_init x_Formatting_init.body = true := by decide +kernel
theorem o_Formatting_init : cxOk cx_Formatting_init x_Formatting_init.scope p_Formatting_init = true := by decide +kernel

noncomputable def x_OpenStack_init : Fun := fnAt (clsAt pw.main.body 24) 0
noncomputable def cx_OpenStack_init : Cx := ⟨x_OpenStack_init.scope.names, ["self", "tree"], []⟩
noncomputable def c_OpenStack_init : CS := (.setA (.var 0) 322 0 (.pe (.var 1))
 (.setA (.var 0) 322 1 (.listM .nil)
 .done))
noncomputable def p_OpenStack_init : List Str := ["self", "tree"]
theorem k_OpenStack_init : chkS tb c_OpenStack_init cx_OpenStack_init x_OpenStack_init.body = true := by decide +kernel
theorem o_OpenStack_init : cxOk cx_OpenStack_init x_OpenStack_init.scope p_OpenStack_init = true := by decide +kernel

noncomputable def x_OpenStack_pop : Fun := fnAt (clsAt pw.main.body 24) 2
noncomputable def cx_OpenStack_pop : Cx := ⟨x_OpenStack_pop.scope.names, ["self"], []⟩
noncomputable def c_OpenStack_pop : CS := (.ife (.cmp .Eq (.bi .len (.attr 322 1 (.var 0))) (.k (.int 0)))
 (.ret (.pe (.neg (.k (.int 1))))) .done
 (.ret (.pop (.attr 322 1 (.var 0)))))
noncomputable def p_OpenStack_pop : List Str := ["self"]
theorem k_OpenStack_pop : chkS tb c_OpenStack_pop cx_OpenStack_pop x_OpenStack_pop.body = true := by decide +kernel
theorem o_OpenStack_pop : cxOk cx_OpenStack_pop x_OpenStack_pop.scope p_OpenStack_pop = true := by decide +kernel

noncomputable def x_OpenStack_current : Fun := fnAt (clsAt pw.main.body 24) 3
noncomputable def cx_OpenStack_current : Cx := ⟨x_OpenStack_current.scope.names, ["self"], []⟩
noncomputable def c_OpenStack_current : CS := (.ife (.cmp .Eq (.bi .len (.attr 322 1 (.var 0))) (.k (.int 0)))
 (.ret (.pe (.neg (.k (.int 1))))) .done
 (.ret (.pe (.sub (.attr 322 1 (.var 0)) (.bin .Sub (.bi .len (.attr 322 1 (.var 0))) (.k (.int 1)))))))
noncomputable def p_OpenStack_current : List Str := ["self"]
theorem k_OpenStack_current : chkS tb c_OpenStack_current cx_OpenStack_current x_OpenStack_current.body = true := by decide +kernel
theorem o_OpenStack_current : cxOk cx_OpenStack_current x_OpenStack_current.scope p_OpenStack_current = true := by decide +kernel

noncomputable def x_OpenStack_many : Fun := fnAt (clsAt pw.main.body 24) 4
noncomputable def cx_OpenStack_many : Cx := ⟨x_OpenStack_many.scope.names, ["self"], []⟩
noncomputable def c_OpenStack_many : CS := (.ret (.pe (.bi .len (.attr 322 1 (.var 0)))))
noncomputable def p_OpenStack_many : List Str := ["self"]
theorem k_OpenStack_many : chkS tb c_OpenStack_many cx_OpenStack_many x_OpenStack_many.body = true := by decide +kernel
theorem o_OpenStack_many : cxOk cx_OpenStack_many x_OpenStack_many.scope p_OpenStack_many = true := by decide +kernel

noncomputable def x_Tree_init : Fun := fnAt (clsAt pw.main.body 26) 0
noncomputable def cx_Tree_init : Cx := ⟨x_Tree_init.scope.names, ["self"], []⟩
noncomputable def c_Tree_init : CS := (.setA (.var 0) 439 0 (.listM .nil)
 (.setA (.var 0) 439 1 (.listM .nil)
 (.setA (.var 0) 439 2 (.listM .nil)
 (.setA (.var 0) 439 3 (.listM .nil)
 (.setA (.var 0) 439 4 (.listM .nil)
 (.setA (.var 0) 439 5 (.listM .nil)
 (.setA (.var 0) 439 6 (.listM .nil)
 (.setA (.var 0) 439 7 .dct0
 (.exp (.mcall 439 349 (.var 0) (.cons (.k (.str (q [100, 111, 99, 117, 109, 101, 110, 116]))) .nil))
 .done)))))))))
noncomputable def p_Tree_init : List Str := ["self"]
theorem k_Tree_init : chkS tb c_Tree_init cx_Tree_init x_Tree_init.body = true := by decide +kernel
theorem o_Tree_init : cxOk cx_Tree_init x_Tree_init.scope p_Tree_init = true := by decide +kernel

noncomputable def x_Tree_add : Fun := fnAt (clsAt pw.main.body 26) 1
noncomputable def cx_Tree_add : Cx := ⟨x_Tree_add.scope.names, ["self", "kind", "space", "name", "attrs", "text"], []⟩
noncomputable def c_Tree_add : CS := (.exp (.append (.attr 439 0 (.var 0)) (.pe (.var 1)))
 (.exp (.append (.attr 439 1 (.var 0)) (.pe (.var 2)))
 (.exp (.append (.attr 439 2 (.var 0)) (.pe (.var 3)))
 (.exp (.append (.attr 439 3 (.var 0)) (.pe (.bi .list (.var 4))))
 (.exp (.append (.attr 439 4 (.var 0)) (.pe (.var 5)))
 (.exp (.append (.attr 439 5 (.var 0)) (.pe (.neg (.k (.int 1)))))
 (.exp (.append (.attr 439 6 (.var 0)) (.listM .nil))
 (.ret (.pe (.bin .Sub (.bi .len (.attr 439 0 (.var 0))) (.k (.int 1))))))))))))
noncomputable def p_Tree_add : List Str := ["self", "kind", "space", "name", "attrs", "text"]
theorem k_Tree_add : chkS tb c_Tree_add cx_Tree_add x_Tree_add.body = true := by decide +kernel
theorem o_Tree_add : cxOk cx_Tree_add x_Tree_add.scope p_Tree_add = true := by decide +kernel

noncomputable def x_Tree_element : Fun := fnAt (clsAt pw.main.body 26) 2
noncomputable def cx_Tree_element : Cx := ⟨x_Tree_element.scope.names, ["self", "name", "space", "attrs", "node"], []⟩
noncomputable def c_Tree_element : CS := (.asg 4 (.mcall 439 349 (.var 0) (.cons (.k (.str (q [101, 108, 101, 109, 101, 110, 116]))) (.cons (.var 2) (.cons (.var 1) (.cons (.var 3) .nil)))))
 (.ife (.and (.cmp .Eq (.var 2) (.k (.str (q [104, 116, 109, 108])))) (.cmp .Eq (.var 1) (.k (.str (q [116, 101, 109, 112, 108, 97, 116, 101])))))
 .any .done
 (.ret (.pe (.var 4)))))
noncomputable def p_Tree_element : List Str := ["self", "name", "space", "attrs"]
theorem k_Tree_element : chkS tb c_Tree_element cx_Tree_element x_Tree_element.body = true := by decide +kernel
theorem o_Tree_element : cxOk cx_Tree_element x_Tree_element.scope p_Tree_element = true := by decide +kernel

noncomputable def x_Tree_insert : Fun := fnAt (clsAt pw.main.body 26) 6
noncomputable def cx_Tree_insert : Cx := ⟨x_Tree_insert.scope.names, ["self", "parent", "node", "before", "at"], []⟩
noncomputable def c_Tree_insert : CS := (.ife (.or (.cmp .Eq (.var 2) (.var 1)) (.cmp .In (.var 2) (.call 450 (.cons (.var 0) (.cons (.var 1) .nil)))))
 .any .done
 (.ife (.and (.cmp .NotEq (.var 3) (.neg (.k (.int 1)))) (.cmp .NotIn (.var 3) (.sub (.attr 439 6 (.var 0)) (.var 1))))
 .any .done
 (.ife (.cmp .Eq (.var 3) (.var 2))
 .retN .done
 (.exp (.mcall 439 401 (.var 0) (.cons (.var 2) .nil))
 (.asg 4 (.pe (.bi .len (.sub (.attr 439 6 (.var 0)) (.var 1))))
 (.ife (.cmp .NotEq (.var 3) (.neg (.k (.int 1))))
 .any .done
 (.exp (.insert (.sub (.attr 439 6 (.var 0)) (.var 1)) (.var 4) (.var 2))
 (.setS (.attr 439 5 (.var 0)) (.var 2) (.var 1)
 .done))))))))
noncomputable def p_Tree_insert : List Str := ["self", "parent", "node", "before"]
theorem k_Tree_insert : chkS tb c_Tree_insert cx_Tree_insert x_Tree_insert.body = true := by decide +kernel
theorem o_Tree_insert : cxOk cx_Tree_insert x_Tree_insert.scope p_Tree_insert = true := by decide +kernel

noncomputable def x_Tree_append : Fun := fnAt (clsAt pw.main.body 26) 7
noncomputable def cx_Tree_append : Cx := ⟨x_Tree_append.scope.names, ["self", "parent", "node"], []⟩
noncomputable def c_Tree_append : CS := (.exp (.mcall 439 387 (.var 0) (.cons (.var 1) (.cons (.var 2) .nil)))
 .done)
noncomputable def p_Tree_append : List Str := ["self", "parent", "node"]
theorem k_Tree_append : chkS tb c_Tree_append cx_Tree_append x_Tree_append.body = true := by decide +kernel
theorem o_Tree_append : cxOk cx_Tree_append x_Tree_append.scope p_Tree_append = true := by decide +kernel

noncomputable def x_Tree_remove : Fun := fnAt (clsAt pw.main.body 26) 8
noncomputable def cx_Tree_remove : Cx := ⟨x_Tree_remove.scope.names, ["self", "node"], []⟩
noncomputable def c_Tree_remove : CS := (.ife (.cmp .NotEq (.sub (.attr 439 5 (.var 0)) (.var 1)) (.neg (.k (.int 1))))
 .any .done
 .done)
noncomputable def p_Tree_remove : List Str := ["self", "node"]
theorem k_Tree_remove : chkS tb c_Tree_remove cx_Tree_remove x_Tree_remove.body = true := by decide +kernel
theorem o_Tree_remove : cxOk cx_Tree_remove x_Tree_remove.scope p_Tree_remove = true := by decide +kernel

noncomputable def x_Tree_value : Fun := fnAt (clsAt pw.main.body 26) 12
noncomputable def cx_Tree_value : Cx := ⟨x_Tree_value.scope.names, ["self", "node", "name", "pair"], []⟩
noncomputable def c_Tree_value : CS := (.for1 3 (.sub (.attr 439 3 (.var 0)) (.var 1))
 (.ife (.cmp .Eq (.sub (.var 3) (.k (.int 0))) (.var 2))
 (.ret (.pe (.sub (.var 3) (.k (.int 1))))) .done
 .done)
 (.ret (.pe (.k .none))))
noncomputable def p_Tree_value : List Str := ["self", "node", "name"]
theorem k_Tree_value : chkS tb c_Tree_value cx_Tree_value x_Tree_value.body = true := by decide +kernel
theorem o_Tree_value : cxOk cx_Tree_value x_Tree_value.scope p_Tree_value = true := by decide +kernel

noncomputable def x_above : Fun := fnAt pw.main.body 27
noncomputable def cx_above : Cx := ⟨x_above.scope.names, ["tree", "node", "out", "up"], []⟩
noncomputable def c_above : CS := (.asg 2 (.listM .nil)
 (.asg 3 (.pe (.sub (.attr 439 5 (.var 0)) (.var 1)))
 (.whl (.cmp .NotEq (.var 3) (.neg (.k (.int 1))))
 (.exp (.append (.var 2) (.pe (.var 3)))
 (.asg 3 (.pe (.sub (.attr 439 5 (.var 0)) (.var 3)))
 .done))
 (.ret (.pe (.var 2))))))
noncomputable def p_above : List Str := ["tree", "node"]
theorem k_above : chkS tb c_above cx_above x_above.body = true := by decide +kernel
theorem o_above : cxOk cx_above x_above.scope p_above = true := by decide +kernel

noncomputable def x_Builder_init : Fun := fnAt (clsAt pw.main.body 29) 0
noncomputable def cx_Builder_init : Cx := ⟨x_Builder_init.scope.names, ["self", "rules", "is_scripting"], []⟩
noncomputable def c_Builder_init : CS := (.setA (.var 0) 517 0 (.pe (.var 1))
 (.setA (.var 0) 517 1 (.call 439 .nil)
 (.setA (.var 0) 517 2 (.call 322 (.cons (.attr 517 1 (.var 0)) .nil))
 (.setA (.var 0) 517 3 (.call 217 (.cons (.attr 517 1 (.var 0)) .nil))
 (.setA (.var 0) 517 4 (.pe (.k (.str (q [105, 110, 105, 116, 105, 97, 108]))))
 (.setA (.var 0) 517 5 (.pe (.k (.str (q []))))
 (.setA (.var 0) 517 6 (.listM .nil)
 (.setA (.var 0) 517 7 (.pe (.neg (.k (.int 1))))
 (.setA (.var 0) 517 8 (.pe (.neg (.k (.int 1))))
 (.setA (.var 0) 517 9 .dct0
 (.setA (.var 0) 517 10 (.pe (.k (.bool true)))
 (.setA (.var 0) 517 11 (.pe (.var 2))
 (.setA (.var 0) 517 12 (.pe (.k (.bool false)))
 (.setA (.var 0) 517 13 (.pe (.neg (.k (.int 1))))
 (.setA (.var 0) 517 14 (.pe (.k (.str (q [110, 111, 45, 113, 117, 105, 114, 107, 115]))))
 (.setA (.var 0) 517 15 (.listM .nil)
 (.setA (.var 0) 517 16 (.listM .nil)
 (.setA (.var 0) 517 17 (.pe (.k (.str (q []))))
 (.setA (.var 0) 517 18 (.pe (.k (.bool false)))
 (.setA (.var 0) 517 19 (.pe (.k (.bool false)))
 (.setA (.var 0) 517 20 (.pe (.k (.bool false)))
 .done)))))))))))))))))))))
noncomputable def p_Builder_init : List Str := ["self", "rules", "is_scripting"]
theorem k_Builder_init : chkS tb c_Builder_init cx_Builder_init x_Builder_init.body = true := by decide +kernel
theorem o_Builder_init : cxOk cx_Builder_init x_Builder_init.scope p_Builder_init = true := by decide +kernel

noncomputable def x_Builder_error : Fun := fnAt (clsAt pw.main.body 29) 1
noncomputable def cx_Builder_error : Cx := ⟨x_Builder_error.scope.names, ["self", "word"], []⟩
noncomputable def c_Builder_error : CS := (.exp (.append (.attr 517 15 (.var 0)) (.pe (.tup (.cons (.var 1) (.cons (.attr 517 4 (.var 0)) .nil)))))
 .done)
noncomputable def p_Builder_error : List Str := ["self", "word"]
theorem k_Builder_error : chkS tb c_Builder_error cx_Builder_error x_Builder_error.body = true := by decide +kernel
theorem o_Builder_error : cxOk cx_Builder_error x_Builder_error.scope p_Builder_error = true := by decide +kernel

noncomputable def x_Builder_to : Fun := fnAt (clsAt pw.main.body 29) 2
noncomputable def cx_Builder_to : Cx := ⟨x_Builder_to.scope.names, ["self", "mode"], []⟩
noncomputable def c_Builder_to : CS := (.setA (.var 0) 517 4 (.pe (.var 1))
 .done)
noncomputable def p_Builder_to : List Str := ["self", "mode"]
theorem k_Builder_to : chkS tb c_Builder_to cx_Builder_to x_Builder_to.body = true := by decide +kernel
theorem o_Builder_to : cxOk cx_Builder_to x_Builder_to.scope p_Builder_to = true := by decide +kernel

noncomputable def x_Builder_use : Fun := fnAt (clsAt pw.main.body 29) 3
noncomputable def cx_Builder_use : Cx := ⟨x_Builder_use.scope.names, ["self", "name", "token", "rule"], []⟩
noncomputable def c_Builder_use : CS := (.ife (.hin (.var 1) (.attr 517 0 (.var 0)))
 .any .done
 (.asg 3 (.pe (.hat (.attr 517 0 (.var 0)) (.var 1)))
 (.exp (.vcall (.var 3) (.cons (.var 0) (.cons (.var 2) .nil)))
 .done)))
noncomputable def p_Builder_use : List Str := ["self", "name", "token"]
theorem k_Builder_use : chkS tb c_Builder_use cx_Builder_use x_Builder_use.body = true := by decide +kernel
theorem o_Builder_use : cxOk cx_Builder_use x_Builder_use.scope p_Builder_use = true := by decide +kernel

noncomputable def x_law_digit : Fun := fnAt pw.main.body 31
noncomputable def cx_law_digit : Cx := ⟨x_law_digit.scope.names, ["script", "place", "usual"], []⟩
noncomputable def c_law_digit : CS := (.asg 2 (.pe (.tup (.cons (.k (.int 0)) (.cons (.k (.int 0)) (.cons (.k (.int 1)) (.cons (.k (.int 3)) (.cons (.k (.int 0)) (.cons (.k (.int 2)) (.cons (.k (.int 4)) (.cons (.k (.int 7)) (.cons (.k (.int 0)) (.cons (.k (.int 0)) (.cons (.k (.int 1)) (.cons (.k (.int 513)) (.cons (.k (.int 6)) (.cons (.k (.int 1048)) .nil))))))))))))))))
 (.ret (.pe (.ite (.cmp .Lt (.var 1) (.bi .len (.var 0))) (.sub (.var 0) (.var 1)) (.sub (.var 2) (.var 1))))))
noncomputable def p_law_digit : List Str := ["script", "place"]
theorem k_law_digit : chkS tb c_law_digit cx_law_digit x_law_digit.body = true := by decide +kernel
theorem o_law_digit : cxOk cx_law_digit x_law_digit.scope p_law_digit = true := by decide +kernel

noncomputable def x_law_shapes : Fun := fnAt pw.main.body 32
noncomputable def cx_law_shapes : Cx := ⟨x_law_shapes.scope.names, ["rows", "told"], []⟩
noncomputable def c_law_shapes : CS := (.asg 0 (.pe (.lst (.cons (.tup (.cons (.k (.str (q [115, 118, 103]))) (.cons (.k (.str (q [115, 99, 114, 105, 112, 116]))) (.cons (.tup .nil) .nil)))) (.cons (.tup (.cons (.k (.str (q [104, 116, 109, 108]))) (.cons (.k (.str (q [115, 99, 114, 105, 112, 116]))) (.cons (.tup .nil) .nil)))) (.cons (.tup (.cons (.k (.str (q [109, 97, 116, 104]))) (.cons (.k (.str (q [115, 99, 114, 105, 112, 116]))) (.cons (.tup .nil) .nil)))) (.cons (.tup (.cons (.k (.str (q [115, 118, 103]))) (.cons (.k (.str (q [103]))) (.cons (.tup .nil) .nil)))) .nil))))))
 (.asg 0 (.addM (.var 0) (.lst (.cons (.tup (.cons (.k (.str (q [115, 118, 103]))) (.cons (.k (.str (q [102, 111, 114, 101, 105, 103, 110, 79, 98, 106, 101, 99, 116]))) (.cons (.tup .nil) .nil)))) (.cons (.tup (.cons (.k (.str (q [109, 97, 116, 104]))) (.cons (.k (.str (q [109, 105]))) (.cons (.tup .nil) .nil)))) (.cons (.tup (.cons (.k (.str (q [104, 116, 109, 108]))) (.cons (.k (.str (q [112]))) (.cons (.tup .nil) .nil)))) (.cons (.tup (.cons (.k (.str (q [115, 118, 103]))) (.cons (.k (.str (q [99, 108, 105, 112, 80, 97, 116, 104]))) (.cons (.tup .nil) .nil)))) .nil))))))
 (.for1 1 (.tup (.cons (.k (.str (q [84, 101, 120, 116, 47, 72, 84, 77, 76]))) (.cons (.k (.str (q [97, 112, 112, 108, 105, 99, 97, 116, 105, 111, 110, 47, 88, 72, 84, 77, 76, 43, 120, 109, 108]))) (.cons (.k (.str (q [116, 101, 120, 116, 47, 104, 116, 109]))) (.cons (.k (.str (q []))) .nil)))))
 (.exp (.append (.var 0) (.pe (.tup (.cons (.k (.str (q [109, 97, 116, 104]))) (.cons (.k (.str (q [97, 110, 110, 111, 116, 97, 116, 105, 111, 110, 45, 120, 109, 108]))) (.cons (.tup (.cons (.tup (.cons (.k (.str (q [105, 100]))) (.cons (.k (.str (q [116, 101, 120, 116, 47, 104, 116, 109, 108]))) .nil))) (.cons (.tup (.cons (.k (.str (q [101, 110, 99, 111, 100, 105, 110, 103]))) (.cons (.var 1) .nil))) .nil))) .nil))))))
 .done)
 (.asg 0 (.pe (.bin .Add (.var 0) (.lst (.cons (.tup (.cons (.k (.str (q [109, 97, 116, 104]))) (.cons (.k (.str (q [97, 110, 110, 111, 116, 97, 116, 105, 111, 110, 45, 120, 109, 108]))) (.cons (.tup .nil) .nil)))) (.cons (.tup (.cons (.k (.str (q [115, 118, 103]))) (.cons (.k (.str (q [97, 110, 110, 111, 116, 97, 116, 105, 111, 110, 45, 120, 109, 108]))) (.cons (.tup (.cons (.tup (.cons (.k (.str (q [101, 110, 99, 111, 100, 105, 110, 103]))) (.cons (.k (.str (q [116, 101, 120, 116, 47, 104, 116, 109, 108]))) .nil))) .nil)) .nil)))) .nil)))))
 (.asg 0 (.pe (.bin .Add (.var 0) (.lst (.cons (.tup (.cons (.k (.str (q [115, 118, 103]))) (.cons (.k (.str (q [83, 99, 114, 105, 112, 116]))) (.cons (.tup .nil) .nil)))) (.cons (.tup (.cons (.k (.str (q [115, 118, 103]))) (.cons (.k (.str (q [116, 105, 116, 108, 101]))) (.cons (.tup .nil) .nil)))) (.cons (.tup (.cons (.k (.str (q [115, 118, 103]))) (.cons (.k (.str (q [100, 101, 115, 99]))) (.cons (.tup .nil) .nil)))) (.cons (.tup (.cons (.k (.str (q [115, 118, 103]))) (.cons (.k (.str (q [109, 105]))) (.cons (.tup .nil) .nil)))) .nil)))))))
 (.asg 0 (.pe (.bin .Add (.var 0) (.comp false [] (.tup (.cons (.k (.str (q [109, 111]))) (.cons (.k (.str (q [109, 110]))) (.cons (.k (.str (q [109, 115]))) (.cons (.k (.str (q [109, 116, 101, 120, 116]))) (.cons (.k (.str (q [109, 114, 111, 119]))) (.cons (.k (.str (q [116, 105, 116, 108, 101]))) (.cons (.k (.str (q [102, 111, 114, 101, 105, 103, 110, 79, 98, 106, 101, 99, 116]))) .nil)))))))) (.tup (.cons (.k (.str (q [109, 97, 116, 104]))) (.cons (.var 0) (.cons (.tup .nil) .nil)))) .nil)))
 (.ret (.pe (.bin .Add (.var 0) (.lst (.cons (.tup (.cons (.k (.str (q [104, 116, 109, 108]))) (.cons (.k (.str (q [100, 101, 115, 99]))) (.cons (.tup .nil) .nil)))) (.cons (.tup (.cons (.k (.str (q [104, 116, 109, 108]))) (.cons (.k (.str (q [104, 116, 109, 108]))) (.cons (.tup .nil) .nil)))) (.cons (.tup (.cons (.k (.str (q [115, 118, 103]))) (.cons (.k (.str (q [115, 118, 103]))) (.cons (.tup .nil) .nil)))) (.cons (.tup (.cons (.k (.str (q [109, 97, 116, 104]))) (.cons (.k (.str (q [109, 97, 116, 104]))) (.cons (.tup .nil) .nil)))) .nil))))))))))))))
noncomputable def p_law_shapes : List Str := []
theorem k_law_shapes : chkS tb c_law_shapes cx_law_shapes x_law_shapes.body = true := by decide +kernel
theorem o_law_shapes : cxOk cx_law_shapes x_law_shapes.scope p_law_shapes = true := by decide +kernel

noncomputable def x_law_holds : Fun := fnAt pw.main.body 33
noncomputable def cx_law_holds : Cx := ⟨x_law_holds.scope.names, ["kind", "told", "points"], []⟩
noncomputable def c_law_holds : CS := (.ife (.cmp .Eq (.slc (.var 0) .nil (.k (.int 2))) (.tup (.cons (.k (.str (q [109, 97, 116, 104]))) (.cons (.k (.str (q [97, 110, 110, 111, 116, 97, 116, 105, 111, 110, 45, 120, 109, 108]))) .nil))))
 (.asg 1 (.pe (.comp true [] (.sub (.var 0) (.k (.int 2))) (.meth .lower (.var 1)) (.cmp .Eq (.var 0) (.k (.str (q [101, 110, 99, 111, 100, 105, 110, 103]))))))
 (.ret (.pe (.cmp .In (.var 1) (.lst (.cons (.lst (.cons (.k (.str (q [116, 101, 120, 116, 47, 104, 116, 109, 108]))) .nil)) (.cons (.lst (.cons (.k (.str (q [97, 112, 112, 108, 105, 99, 97, 116, 105, 111, 110, 47, 120, 104, 116, 109, 108, 43, 120, 109, 108]))) .nil)) .nil))))))) .done
 (.asg 2 (.pe (.k (.str (q [109, 97, 116, 104, 58, 109, 105, 32, 109, 97, 116, 104, 58, 109, 111, 32, 109, 97, 116, 104, 58, 109, 110, 32, 109, 97, 116, 104, 58, 109, 115, 32, 109, 97, 116, 104, 58, 109, 116, 101, 120, 116, 32, 115, 118, 103, 58, 102, 111, 114, 101, 105, 103, 110, 79, 98, 106, 101, 99, 116, 32, 115, 118, 103, 58, 100, 101, 115, 99, 32, 115, 118, 103, 58, 116, 105, 116, 108, 101]))))
 (.ret (.pe (.or (.cmp .Eq (.sub (.var 0) (.k (.int 0))) (.k (.str (q [104, 116, 109, 108])))) (.cmp .In (.bin .Add (.bin .Add (.sub (.var 0) (.k (.int 0))) (.k (.str (q [58])))) (.sub (.var 0) (.k (.int 1)))) (.meth .split (.var 2))))))))
noncomputable def p_law_holds : List Str := ["kind"]
theorem k_law_holds : chkS tb c_law_holds cx_law_holds x_law_holds.body = true := by decide +kernel
theorem o_law_holds : cxOk cx_law_holds x_law_holds.scope p_law_holds = true := by decide +kernel

noncomputable def x_law_breakouts_hold : Fun := fnAt pw.main.body 34
noncomputable def cx_law_breakouts_hold : Cx := ⟨x_law_breakouts_hold.scope.names, ["script", "leaving", "staying", "told", "other", "k", "pairs", "due"], ["digit", "keys"]⟩
noncomputable def c_law_breakouts_hold : CS := (.asg 1 (.pe (.meth .split (.k (.str (q [98, 32, 98, 105, 103, 32, 99, 111, 100, 101, 32, 101, 109, 32, 105, 32, 110, 111, 98, 114, 32, 115, 32, 115, 109, 97, 108, 108, 32, 115, 112, 97, 110, 32, 115, 116, 114, 105, 107, 101, 32, 115, 116, 114, 111, 110, 103, 32, 115, 117, 98, 32, 115, 117, 112, 32, 116, 116, 32, 117, 32, 118, 97, 114, 32, 98, 111, 100, 121, 32, 98, 114, 32, 101, 109, 98, 101, 100, 32, 104, 101, 97, 100, 32, 105, 109, 103, 32, 109, 101, 116, 97])))))
 (.asg 1 (.pe (.bin .Add (.var 1) (.meth .split (.k (.str (q [98, 108, 111, 99, 107, 113, 117, 111, 116, 101, 32, 99, 101, 110, 116, 101, 114, 32, 100, 105, 118, 32, 100, 108, 32, 100, 100, 32, 100, 116, 32, 104, 114, 32, 108, 105, 32, 108, 105, 115, 116, 105, 110, 103, 32, 109, 101, 110, 117, 32, 111, 108, 32, 112, 32, 112, 114, 101, 32, 114, 117, 98, 121, 32, 116, 97, 98, 108, 101, 32, 117, 108]))))))
 (.asg 1 (.pe (.bin .Add (.var 1) (.lst (.cons (.k (.str (q [104, 49]))) (.cons (.k (.str (q [104, 50]))) (.cons (.k (.str (q [104, 51]))) (.cons (.k (.str (q [104, 52]))) (.cons (.k (.str (q [104, 53]))) (.cons (.k (.str (q [104, 54]))) .nil)))))))))
 (.asg 2 (.pe (.k (.str (q [97, 32, 102, 111, 110, 116, 32, 115, 118, 103, 32, 109, 97, 116, 104, 32, 103, 32, 115, 99, 114, 105, 112, 116, 32, 116, 105, 116, 108, 101, 32, 100, 101, 115, 99, 32, 114, 116, 32, 104, 55, 32, 104, 116, 109, 108, 32, 116, 100, 32, 116, 114, 32, 116, 104, 101, 97, 100, 32, 108, 97, 98, 101, 108, 32, 104, 32, 105, 109, 97, 103, 101, 32, 105, 110, 112, 117, 116, 32, 102, 111, 114, 101, 105, 103, 110, 111, 98, 106, 101, 99, 116, 32, 120, 32, 98, 98]))))
 (.asg 2 (.pe (.bin .Add (.meth .split (.var 2)) (.lst (.cons (.k (.str (q []))) .nil))))
 (.asg 3 (.pe (.comp false [] (.bin .Add (.var 1) (.var 2)) (.call 77 (.cons (.tup (.cons (.k (.str (q [115, 116, 97, 114, 116]))) (.cons (.var 0) (.cons (.tup .nil) (.cons (.k (.bool false)) .nil))))) .nil)) .nil))
 (.ife (.cmp .NotEq (.var 3) (.bin .Add (.bin .Mult (.lst (.cons (.k (.bool true)) .nil)) (.bi .len (.var 1))) (.bin .Mult (.lst (.cons (.k (.bool false)) .nil)) (.bi .len (.var 2)))))
 (.ret (.pe (.k (.bool false)))) .done
 (.ife (.cmp .NotEq (.comp false [] (.bin .Add (.var 1) (.var 2)) (.var 0) (.call 77 (.cons (.tup (.cons (.k (.str (q [101, 110, 100]))) (.cons (.var 0) (.cons (.tup (.cons (.tup (.cons (.k (.str (q [99, 111, 108, 111, 114]))) (.cons (.k (.str (q []))) .nil))) .nil)) (.cons (.k (.bool true)) .nil))))) .nil))) (.lst (.cons (.k (.str (q [98, 114]))) (.cons (.k (.str (q [112]))) .nil))))
 (.ret (.pe (.k (.bool false)))) .done
 (.for1 4 (.tup (.cons (.tup (.cons (.k (.str (q [99, 104, 97, 114]))) (.cons (.k (.str (q [112]))) .nil))) (.cons (.tup (.cons (.k (.str (q [99, 111, 109, 109, 101, 110, 116]))) (.cons (.k (.str (q [112]))) .nil))) (.cons (.tup (.cons (.k (.str (q [100, 111, 99, 116, 121, 112, 101]))) (.cons (.k (.str (q [112]))) (.cons (.k .none) (.cons (.k .none) (.cons (.k (.bool false)) .nil)))))) (.cons (.tup (.cons (.k (.str (q [101, 111, 102]))) .nil)) .nil)))))
 (.ife (.call 77 (.cons (.var 4) .nil))
 (.ret (.pe (.k (.bool false)))) .done
 .done)
 (.asgC 1 (.pe (.tup (.cons (.k (.str (q [105, 100]))) (.cons (.k (.str (q [99, 111, 108, 111, 114]))) (.cons (.k (.str (q [115, 116, 121, 108, 101]))) (.cons (.k (.str (q [102, 97, 99, 101]))) (.cons (.k (.str (q [102, 111, 110, 116]))) (.cons (.k (.str (q [115, 105, 122, 101]))) (.cons (.k (.str (q [99, 111, 108, 111, 117, 114]))) (.cons (.k (.str (q [115, 105, 122, 101, 115]))) .nil))))))))))
 (.for1 5 (.tup (.cons (.k (.int 11)) (.cons (.k (.int 12)) (.cons (.k (.int 13)) .nil))))
 (.asgC 0 (.pe (.call 528 (.cons (.var 0) (.cons (.var 5) .nil))))
 (.asg 6 (.pe (.bi .tuple (.comp false [0, 1] (.rng (.cons (.bin .Mod (.bin .FloorDiv (.cel 0) (.k (.int 512))) (.k (.int 4))) .nil)) (.tup (.cons (.sub (.cel 1) (.bin .Mod (.bin .FloorDiv (.cel 0) (.bin .Pow (.k (.int 8)) (.var 0))) (.k (.int 8)))) (.cons (.sub (.tup (.cons (.k (.str (q []))) (.cons (.k (.str (q [49]))) .nil))) (.bin .Mod (.var 0) (.k (.int 2)))) .nil))) .nil)))
 (.ife (.and (.cmp .Gt (.var 5) (.k (.int 11))) (.cmp .Eq (.bin .Mod (.bin .FloorDiv (.cel 0) (.k (.int 512))) (.k (.int 4))) (.k (.int 0))))
 (.asg 6 (.pe (.tup (.cons (.tup (.cons (.sub (.cel 1) (.bin .Mod (.cel 0) (.k (.int 8)))) (.cons (.k (.str (q []))) .nil))) .nil)))
 .done) .done
 (.asg 7 (.pe (.cmp .NotEq (.comp false [] (.var 6) (.var 0) (.cmp .In (.sub (.var 0) (.k (.int 0))) (.tup (.cons (.k (.str (q [99, 111, 108, 111, 114]))) (.cons (.k (.str (q [102, 97, 99, 101]))) (.cons (.k (.str (q [115, 105, 122, 101]))) .nil)))))) (.lst .nil)))
 (.ife (.or (.cmp .NotEq (.call 77 (.cons (.tup (.cons (.k (.str (q [115, 116, 97, 114, 116]))) (.cons (.k (.str (q [102, 111, 110, 116]))) (.cons (.var 6) (.cons (.k (.bool false)) .nil))))) .nil)) (.var 7)) (.call 77 (.cons (.tup (.cons (.k (.str (q [115, 116, 97, 114, 116]))) (.cons (.k (.str (q [103]))) (.cons (.var 6) (.cons (.k (.bool false)) .nil))))) .nil)))
 (.ret (.pe (.k (.bool false)))) .done
 .done)))))
 (.ret (.pe (.k (.bool true)))))))))))))))
noncomputable def p_law_breakouts_hold : List Str := ["script"]
theorem k_law_breakouts_hold : chkS tb c_law_breakouts_hold cx_law_breakouts_hold x_law_breakouts_hold.body = true := by decide +kernel
theorem o_law_breakouts_hold : cxOk cx_law_breakouts_hold x_law_breakouts_hold.scope p_law_breakouts_hold = true := by decide +kernel

noncomputable def x_law_rule : Fun := fnAt pw.main.body 35
noncomputable def cx_law_rule : Cx := ⟨x_law_rule.scope.names, ["builder", "token"], []⟩
noncomputable def c_law_rule : CS := (.exp (.append (.attr 517 15 (.var 0)) (.pe (.tup (.cons (.k (.str (q [104, 97, 110, 100, 101, 100]))) (.cons (.var 1) .nil)))))
 .done)
noncomputable def p_law_rule : List Str := ["builder", "token"]
theorem k_law_rule : chkS tb c_law_rule cx_law_rule x_law_rule.body = true := by decide +kernel
theorem o_law_rule : cxOk cx_law_rule x_law_rule.scope p_law_rule = true := by decide +kernel

noncomputable def x_law_set : Fun := fnAt pw.main.body 36
noncomputable def cx_law_set : Cx := ⟨x_law_set.scope.names, ["builder", "nodes", "many"], []⟩
noncomputable def c_law_set : CS := (.setA (.attr 517 2 (.var 0)) 322 1 (.sliceM (.var 1) .nil (.var 2))
 (.setA (.var 0) 517 15 (.listM .nil)
 .done))
noncomputable def p_law_set : List Str := ["builder", "nodes", "many"]
theorem k_law_set : chkS tb c_law_set cx_law_set x_law_set.body = true := by decide +kernel
theorem o_law_set : cxOk cx_law_set x_law_set.scope p_law_set = true := by decide +kernel

noncomputable def x_law_script_holds : Fun := fnAt pw.main.body 37
noncomputable def cx_law_script_holds : Cx := ⟨x_law_script_holds.scope.names, ["kinds", "nodes", "many", "word", "ends", "others", "is_top", "told"], ["builder"]⟩
noncomputable def c_law_script_holds : CS := (.exp (.call 557 (.cons (.cel 0) (.cons (.var 1) (.cons (.var 2) .nil))))
 (.asg 4 (.pe (.lst (.cons (.tup (.cons (.k (.str (q [101, 110, 100]))) (.cons (.k (.str (q [115, 99, 114, 105, 112, 116]))) (.cons (.tup .nil) (.cons (.k (.bool false)) .nil))))) (.cons (.tup (.cons (.k (.str (q [101, 110, 100]))) (.cons (.k (.str (q [115, 99, 114, 105, 112, 116]))) (.cons (.tup (.cons (.tup (.cons (.k (.str (q [115, 99, 114, 105, 112, 116]))) (.cons (.k (.str (q [115, 99, 114, 105, 112, 116]))) .nil))) .nil)) (.cons (.k (.bool true)) .nil))))) .nil))))
 (.asg 5 (.pe (.lst (.cons (.tup (.cons (.k (.str (q [101, 110, 100]))) (.cons (.bin .Add (.var 3) (.k (.str (q [115])))) (.cons (.tup (.cons (.tup (.cons (.k (.str (q [115, 99, 114, 105, 112, 116]))) (.cons (.k (.str (q [115, 99, 114, 105, 112, 116]))) .nil))) .nil)) (.cons (.k (.bool false)) .nil))))) (.cons (.tup (.cons (.k (.str (q [115, 116, 97, 114, 116]))) (.cons (.k (.str (q [115, 99, 114, 105, 112, 116]))) (.cons (.tup .nil) (.cons (.k (.bool false)) .nil))))) .nil))))
 (.asg 5 (.pe (.bin .Add (.var 5) (.lst (.cons (.tup (.cons (.k (.str (q [99, 111, 109, 109, 101, 110, 116]))) (.cons (.k (.str (q [115, 99, 114, 105, 112, 116]))) .nil))) (.cons (.tup (.cons (.k (.str (q [99, 104, 97, 114]))) (.cons (.k (.str (q [115]))) .nil))) (.cons (.tup (.cons (.k (.str (q [100, 111, 99, 116, 121, 112, 101]))) (.cons (.k (.str (q [115, 99, 114, 105, 112, 116]))) (.cons (.k .none) (.cons (.k .none) (.cons (.k (.bool false)) .nil)))))) (.cons (.tup (.cons (.k (.str (q [101, 111, 102]))) .nil)) .nil)))))))
 (.asg 6 (.pe (.cmp .Eq (.slc (.comp false [] (.slc (.var 0) .nil (.var 2)) (.slc (.var 0) .nil (.k (.int 2))) .nil) (.neg (.k (.int 1))) .nil) (.lst (.cons (.tup (.cons (.k (.str (q [115, 118, 103]))) (.cons (.k (.str (q [115, 99, 114, 105, 112, 116]))) .nil))) .nil))))
 (.asg 7 (.pe (.comp false [0] (.bin .Add (.var 4) (.var 5)) (.call 105 (.cons (.cel 0) (.cons (.var 0) .nil))) .nil))
 (.ife (.cmp .NotEq (.var 7) (.lst (.cons (.var 6) (.cons (.var 6) (.cons (.k (.bool false)) (.cons (.k (.bool false)) (.cons (.k (.bool false)) (.cons (.k (.bool false)) (.cons (.k (.bool false)) (.cons (.k (.bool false)) .nil))))))))))
 (.ret (.pe (.k (.bool false)))) .done
 (.ret (.pe (.and (.cmp .Eq (.attr 322 1 (.attr 517 2 (.cel 0))) (.slc (.var 1) .nil (.var 2))) (.cmp .Eq (.attr 517 15 (.cel 0)) (.lst .nil))))))))))))
noncomputable def p_law_script_holds : List Str := ["builder", "kinds", "nodes", "many", "word"]
theorem k_law_script_holds : chkS tb c_law_script_holds cx_law_script_holds x_law_script_holds.body = true := by decide +kernel
theorem o_law_script_holds : cxOk cx_law_script_holds x_law_script_holds.scope p_law_script_holds = true := by decide +kernel

noncomputable def x_law_end_holds : Fun := fnAt pw.main.body 38
noncomputable def cx_law_end_holds : Cx := ⟨x_law_end_holds.scope.names, ["builder", "nodes", "many", "token", "below", "named", "notes", "left"], ["small", "word", "kinds"]⟩
noncomputable def c_law_end_holds : CS := (.exp (.call 557 (.cons (.var 0) (.cons (.var 1) (.cons (.var 2) .nil))))
 (.asg 3 (.pe (.tup (.cons (.k (.str (q [101, 110, 100]))) (.cons (.cel 1) (.cons (.tup .nil) (.cons (.k (.bool false)) .nil))))))
 (.exp (.call 98 (.cons (.var 0) (.cons (.var 3) .nil)))
 (.asgC 0 (.pe (.comp false [] (.slc (.cel 2) .nil (.var 2)) (.meth .lower (.sub (.var 0) (.k (.int 1)))) .nil))
 (.asg 4 (.pe (.comp false [2] (.rng (.cons (.bin .Sub (.var 2) (.k (.int 1))) .nil)) (.var 0) (.cmp .Eq (.sub (.sub (.cel 0) (.var 0)) (.k (.int 0))) (.k (.str (q [104, 116, 109, 108]))))))
 (.asg 5 (.pe (.comp false [0, 1] (.rng (.cons (.bin .Add (.bi .max (.bin .Add (.lst (.cons (.k (.int 0)) .nil)) (.var 4))) (.k (.int 1))) (.cons (.var 2) .nil))) (.var 0) (.cmp .Eq (.sub (.cel 0) (.var 0)) (.cel 1))))
 (.asg 6 (.iteX (.cmp .NotEq (.sub (.cel 0) (.neg (.k (.int 1)))) (.cel 1)) (.listM (.cons (.tup (.cons (.k (.str (q [117, 110, 101, 120, 112, 101, 99, 116, 101, 100, 45, 101, 110, 100, 45, 116, 97, 103]))) (.cons (.attr 517 4 (.var 0)) .nil))) .nil)) (.listM .nil))
 (.ife (.and (.cmp .Eq (.var 5) (.lst .nil)) (.cmp .NotEq (.var 4) (.lst .nil)))
 (.exp (.append (.var 6) (.pe (.tup (.cons (.k (.str (q [104, 97, 110, 100, 101, 100]))) (.cons (.var 3) .nil)))))
 .done) .done
 (.asg 7 (.pe (.ite (.cmp .NotEq (.var 5) (.lst .nil)) (.sub (.var 5) (.neg (.k (.int 1)))) (.var 2)))
 (.ret (.pe (.and (.cmp .Eq (.attr 322 1 (.attr 517 2 (.var 0))) (.slc (.var 1) .nil (.var 7))) (.cmp .Eq (.attr 517 15 (.var 0)) (.var 6))))))))))))))
noncomputable def p_law_end_holds : List Str := ["builder", "kinds", "nodes", "many", "word"]
theorem k_law_end_holds : chkS tb c_law_end_holds cx_law_end_holds x_law_end_holds.body = true := by decide +kernel
theorem o_law_end_holds : cxOk cx_law_end_holds x_law_end_holds.scope p_law_end_holds = true := by decide +kernel

noncomputable def x_law_break_holds : Fun := fnAt pw.main.body 39
noncomputable def cx_law_break_holds : Cx := ⟨x_law_break_holds.scope.names, ["builder", "nodes", "many", "token", "kept", "notes"], ["holds"]⟩
noncomputable def c_law_break_holds : CS := (.exp (.call 557 (.cons (.var 0) (.cons (.var 1) (.cons (.var 2) .nil))))
 (.exp (.call 91 (.cons (.var 0) (.cons (.var 3) .nil)))
 (.asg 4 (.pe (.comp false [0] (.rng (.cons (.var 2) .nil)) (.bin .Add (.var 0) (.k (.int 1))) (.sub (.cel 0) (.var 0))))
 (.asg 5 (.pe (.lst (.cons (.tup (.cons (.bin .Add (.bin .Add (.k (.str (q [117, 110, 101, 120, 112, 101, 99, 116, 101, 100, 45]))) (.sub (.var 3) (.k (.int 0)))) (.k (.str (q [45, 116, 97, 103])))) (.cons (.attr 517 4 (.var 0)) .nil))) (.cons (.tup (.cons (.k (.str (q [104, 97, 110, 100, 101, 100]))) (.cons (.var 3) .nil))) .nil))))
 (.ret (.pe (.and (.cmp .Eq (.attr 322 1 (.attr 517 2 (.var 0))) (.slc (.var 1) .nil (.bi .max (.bin .Add (.lst (.cons (.k (.int 0)) .nil)) (.var 4))))) (.cmp .Eq (.attr 517 15 (.var 0)) (.var 5)))))))))
noncomputable def p_law_break_holds : List Str := ["builder", "holds", "nodes", "many", "token"]
theorem k_law_break_holds : chkS tb c_law_break_holds cx_law_break_holds x_law_break_holds.body = true := by decide +kernel
theorem o_law_break_holds : cxOk cx_law_break_holds x_law_break_holds.scope p_law_break_holds = true := by decide +kernel

noncomputable def x_law_is_kept : Fun := fnAt pw.main.body 40
noncomputable def cx_law_is_kept : Cx := ⟨x_law_is_kept.scope.names, ["tree", "kinds", "nodes"], []⟩
noncomputable def c_law_is_kept : CS := (.ife (.or (.cmp .NotEq (.attr 439 2 (.var 0)) (.bin .Add (.lst (.cons (.k (.str (q []))) .nil)) (.comp false [] (.var 1) (.sub (.var 0) (.k (.int 1))) .nil))) (.cmp .NotEq (.attr 439 1 (.var 0)) (.bin .Add (.lst (.cons (.k (.str (q []))) .nil)) (.comp false [] (.var 1) (.sub (.var 0) (.k (.int 0))) .nil))))
 (.ret (.pe (.k (.bool false)))) .done
 (.ife (.or (.cmp .NotEq (.attr 439 3 (.var 0)) (.bin .Add (.lst (.cons (.lst .nil) .nil)) (.comp false [] (.var 1) (.bi .list (.sub (.var 0) (.k (.int 2)))) .nil))) (.cmp .NotEq (.attr 439 5 (.var 0)) (.bin .Add (.lst (.cons (.neg (.k (.int 1))) (.cons (.k (.int 0)) .nil))) (.slc (.var 2) .nil (.neg (.k (.int 1)))))))
 (.ret (.pe (.k (.bool false)))) .done
 (.ret (.pe (.cmp .Eq (.attr 439 6 (.var 0)) (.bin .Add (.comp false [] (.var 2) (.lst (.cons (.var 0) .nil)) .nil) (.lst (.cons (.lst .nil) .nil))))))))
noncomputable def p_law_is_kept : List Str := ["tree", "kinds", "nodes"]
theorem k_law_is_kept : chkS tb c_law_is_kept cx_law_is_kept x_law_is_kept.body = true := by decide +kernel
theorem o_law_is_kept : cxOk cx_law_is_kept x_law_is_kept.scope p_law_is_kept = true := by decide +kernel

noncomputable def x_law : Fun := fnAt pw.main.body 41
noncomputable def cx_law : Cx := ⟨x_law.scope.names, ["head", "mode", "k", "kinds", "builder", "nodes", "holds", "words", "first", "many", "token", "second"], ["tree", "shapes", "script"]⟩
noncomputable def c_law : CS := (.asg 0 (.pe (.call 528 (.cons (.cel 2) (.cons (.k (.int 0)) .nil))))
 (.asg 1 (.pe (.sub (.tup (.cons (.k (.str (q [105, 110, 32, 98, 111, 100, 121]))) (.cons (.k (.str (q [105, 110, 32, 99, 101, 108, 108]))) .nil))) (.bin .Mod (.bin .FloorDiv (.var 0) (.k (.int 8))) (.k (.int 2)))))
 (.asgC 1 (.pe (.call 533 .nil))
 (.asg 3 (.pe (.comp false [2, 1] (.rng (.cons (.k (.int 1)) (.cons (.bin .Sub (.k (.int 9)) (.bin .Mod (.var 0) (.k (.int 8)))) .nil))) (.sub (.cel 1) (.bin .Mod (.call 528 (.cons (.cel 0) (.cons (.var 0) .nil))) (.bi .len (.cel 1)))) .nil))
 (.asg 4 (.call1 517 (.dct (.var 1) (.glob 550)))
 (.exp (.mcall 517 479 (.var 4) (.cons (.var 1) .nil))
 (.asgC 0 (.pe (.attr 517 1 (.var 4)))
 (.asg 5 (.compM false [0] (.var 3) (.mcall 439 358 (.cel 0) (.cons (.sub (.var 0) (.k (.int 1))) (.cons (.sub (.var 0) (.k (.int 0))) (.cons (.sub (.var 0) (.k (.int 2))) .nil)))))
 (.for1 2 (.rng (.cons (.bin .Sub (.bi .len (.var 5)) (.k (.int 1))) (.cons (.k (.int 0)) (.cons (.neg (.k (.int 1))) .nil))))
 (.exp (.mcall 439 394 (.cel 0) (.cons (.sub (.var 5) (.bin .Sub (.var 2) (.k (.int 1)))) (.cons (.sub (.var 5) (.var 2)) .nil)))
 .done)
 (.exp (.mcall 439 394 (.cel 0) (.cons (.k (.int 0)) (.cons (.sub (.var 5) (.k (.int 0))) .nil)))
 (.asg 6 (.pe (.comp false [] (.var 3) (.call 538 (.cons (.var 0) .nil)) .nil))
 (.ife (.or (.cmp .NotEq (.comp false [0] (.var 5) (.call 84 (.cons (.cel 0) (.cons (.var 0) .nil))) .nil) (.var 6)) (.notE (.call 543 (.cons (.cel 2) .nil))))
 (.ret (.pe (.k (.bool false)))) .done
 (.asg 7 (.pe (.meth .split (.k (.str (q [115, 99, 114, 105, 112, 116, 32, 103, 32, 102, 111, 114, 101, 105, 103, 110, 111, 98, 106, 101, 99, 116, 32, 99, 108, 105, 112, 112, 97, 116, 104, 32, 112, 32, 109, 105, 32, 97, 110, 110, 111, 116, 97, 116, 105, 111, 110, 45, 120, 109, 108, 32, 104, 116, 109, 108, 32, 120, 32, 98, 114, 32, 115, 118, 103, 32, 109, 97, 116, 104])))))
 (.asg 8 (.pe (.sub (.var 7) (.bin .Mod (.call 528 (.cons (.cel 2) (.cons (.k (.int 9)) .nil))) (.bi .len (.var 7)))))
 (.for1 9 (.rng (.cons (.bin .Add (.bi .len (.var 5)) (.k (.int 1))) .nil))
 (.asg 10 (.pe (.sub (.tup (.cons (.tup (.cons (.k (.str (q [115, 116, 97, 114, 116]))) (.cons (.k (.str (q [112]))) (.cons (.tup .nil) (.cons (.k (.bool false)) .nil))))) (.cons (.tup (.cons (.k (.str (q [101, 110, 100]))) (.cons (.k (.str (q [98, 114]))) (.cons (.tup .nil) (.cons (.k (.bool false)) .nil))))) .nil))) (.bin .Mod (.bin .Add (.var 9) (.bin .FloorDiv (.var 0) (.k (.int 16)))) (.k (.int 2)))))
 (.ifn (.call 562 (.cons (.var 4) (.cons (.var 3) (.cons (.var 5) (.cons (.var 9) (.cons (.var 8) .nil))))))
 (.ret (.pe (.k (.bool false)))) .done
 (.ifn (.call 572 (.cons (.var 4) (.cons (.var 6) (.cons (.var 5) (.cons (.var 9) (.cons (.var 10) .nil))))))
 (.ret (.pe (.k (.bool false)))) .done
 (.ife (.cmp .Gt (.var 9) (.k (.int 0)))
 (.asg 11 (.pe (.meth .lower (.sub (.sub (.var 3) (.bin .Mod (.bin .Sub (.bin .Sub (.var 9) (.k (.int 1))) (.call 528 (.cons (.cel 2) (.cons (.k (.int 10)) .nil)))) (.var 9))) (.k (.int 1)))))
 (.ifn (.call 567 (.cons (.var 4) (.cons (.var 3) (.cons (.var 5) (.cons (.var 9) (.cons (.var 8) .nil))))))
 (.ret (.pe (.k (.bool false)))) .done
 (.ifn (.call 567 (.cons (.var 4) (.cons (.var 3) (.cons (.var 5) (.cons (.var 9) (.cons (.var 11) .nil))))))
 (.ret (.pe (.k (.bool false)))) .done
 .done))) .done
 .done))))
 (.ret (.pe (.call 577 (.cons (.cel 0) (.cons (.var 3) (.cons (.var 5) .nil)))))))))))))))))))))
noncomputable def p_law : List Str := ["script"]
theorem k_law : chkS tb c_law cx_law x_law.body = true := by decide +kernel
theorem o_law : cxOk cx_law x_law.scope p_law = true := by decide +kernel
end Mine
end

section
set_option maxRecDepth 100000
namespace Mine

noncomputable def forE (body : AV → Lo → Option (Out × Lo)) : List AV → Lo → Option (Out × Lo)
  | [], l => some (.next, l)
  | a :: r, l => match body a l with
    | some (.next, l') => forE body r l'
    | some (.ret v, l') => some (.ret v, l')
    | none => none
noncomputable def evS (I : Tab) (σ : Store) : CS → List Addr → Lo → Option (Out × Lo)
  | .done, _, l => some (.next, l)
  | .asg i x r, cs, l => match x with
    | .pe e => (match ev I σ e l cs with | some a => evS I σ r cs (l.set i (some a)) | none => none)
    | _ => none
  | .ife t a b r, cs, l => match tru (ev I σ t l cs) with
    | some true => (match evS I σ a cs l with | some (.next, l') => evS I σ r cs l' | some (.ret v, l') => some (.ret v, l') | none => none)
    | some false => (match evS I σ b cs l with | some (.next, l') => evS I σ r cs l' | some (.ret v, l') => some (.ret v, l') | none => none)
    | none => none
  | .for1 i it b r, cs, l => match ev I σ it l cs with
    | some a => (match iterA a with
      | some items => (match forE (fun a l => evS I σ b cs (l.set i (some a))) items l with | some (.next, l') => evS I σ r cs l' | some (.ret v, l') => some (.ret v, l') | none => none)
      | none => none)
    | none => none
  | .ret x, cs, l => match x with
    | .pe e => (match ev I σ e l cs with | some a => some (.ret a, l) | none => none)
    | _ => none
  | .retN, _, l => some (.ret (.d .none), l)
  | _, _, _ => none

section
variable {I : Tab} {σ : Store}
theorem eqS_done {u1 l} : evS I σ .done u1 l = (some (.next, l)) := rfl
theorem eqS_asg {i x r cs l} : evS I σ (.asg i x r) cs l = (match x with
    | .pe e => (match ev I σ e l cs with | some a => evS I σ r cs (l.set i (some a)) | none => none)
    | _ => none) := rfl
theorem eqS_ife {t a b r cs l} : evS I σ (.ife t a b r) cs l = (match tru (ev I σ t l cs) with
    | some true => (match evS I σ a cs l with | some (.next, l') => evS I σ r cs l' | some (.ret v, l') => some (.ret v, l') | none => none)
    | some false => (match evS I σ b cs l with | some (.next, l') => evS I σ r cs l' | some (.ret v, l') => some (.ret v, l') | none => none)
    | none => none) := rfl
theorem eqS_for1 {i it b r cs l} : evS I σ (.for1 i it b r) cs l = (match ev I σ it l cs with
    | some a => (match iterA a with
      | some items => (match forE (fun a l => evS I σ b cs (l.set i (some a))) items l with | some (.next, l') => evS I σ r cs l' | some (.ret v, l') => some (.ret v, l') | none => none)
      | none => none)
    | none => none) := rfl
theorem eqS_ret {x cs l} : evS I σ (.ret x) cs l = (match x with
    | .pe e => (match ev I σ e l cs with | some a => some (.ret a, l) | none => none)
    | _ => none) := rfl
theorem eqS_retN {u1 l} : evS I σ .retN u1 l = (some (.ret (.d .none), l)) := rfl
end
section
variable {C : Cfg} {n : Nat} {I : Tab}
theorem forE_ok {body : AV → Lo → Option (Out × Lo)} {wb : AV → Lo → Store → PostS → Prop} {σ : Store} (hb : ∀ a l o l' K, body a l = some (o, l') → K o l' σ → wb a l σ K) : ∀ {items : List AV} {l l' : Lo} {o : Out} {K : PostS}, forE body items l = some (o, l') → K o l' σ → forP wb items l σ K
  | [], l, l', o, K, h, k => by cases h; exact k
  | a :: r, l, l', o, K, h, k => by
    unfold forE at h
    unfold forP
    split at h
    · rename_i l1 h1
      exact hb a l .next l1 _ h1 (forE_ok hb h k)
    · rename_i v l1 h1
      cases h
      exact hb a l _ _ _ h1 k
    · cases h
theorem evS_ok {σ : Store} : ∀ {c : CS} {cs : List Addr} {l l' : Lo} {o : Out} {Q : PostS}, evS I σ c cs l = some (o, l') → Q o l' σ → wpS C n I c cs l σ Q := by
  intro c
  induction c with
  | done => intro cs l l' o Q h k; cases h; exact k
  | asg i x r ih =>
    intro cs l l' o Q h k
    rw [eqS_asg] at h
    split at h
    · rename_i e
      split at h
      · rename_i a ea
        rw [wpS_asg, wpX_pe]
        try rw [ea]
        exact ih h k
      · cases h
    · cases h
  | ife t a b r iha ihb ih =>
    intro cs l l' o Q h k
    rw [eqS_ife] at h
    rw [wpS_ife]
    split at h
    · rename_i q
      try rw [q]
      split at h
      · rename_i l1 h1; exact iha h1 (ih h k)
      · rename_i v l1 h1; cases h; exact iha h1 k
      · cases h
    · rename_i q
      try rw [q]
      split at h
      · rename_i l1 h1; exact ihb h1 (ih h k)
      · rename_i v l1 h1; cases h; exact ihb h1 k
      · cases h
    · cases h
  | for1 i it b r ihb ih =>
    intro cs l l' o Q h k
    rw [eqS_for1] at h
    rw [wpS_for1]
    split at h
    · rename_i a ea
      try rw [ea]
      split at h
      · rename_i items ei
        try simp only [ei]
        split at h
        · rename_i l1 h1; exact forE_ok (fun a l o l' K hh hk => ihb hh hk) h1 (ih h k)
        · rename_i v l1 h1; cases h; exact forE_ok (fun a l o l' K hh hk => ihb hh hk) h1 k
        · cases h
      · cases h
    · cases h
  | ret x =>
    intro cs l l' o Q h k
    rw [eqS_ret] at h
    split at h
    · split at h
      · rename_i a ea
        cases h
        rw [wpS_ret, wpX_pe]
        rw [ea]; exact k
      · cases h
    · cases h
  | retN => intro cs l l' o Q h k; cases h; exact k
  | _ => intro cs l l' o Q h k; cases h
end
noncomputable def lo0 (as : List AV) (m : Nat) : Lo := as.map some ++ List.replicate m none
noncomputable def runP (I : Tab) (c : CS) (m k : Nat) (as : List AV) (σ : Store) : Option AV := if as.length = k then (match evS I σ c [] (lo0 as m) with | some (o, _) => some o.val | none => none) else none

noncomputable def fnsL : List (Addr × Fun × List Str) := [
    (28, x_is_breakout_name, p_is_breakout_name), (35, x_is_upper, p_is_upper), (42, x_lower, p_lower), (49, x_lower_text, p_lower_text), (56, x_is_math_point, p_is_math_point), (63, x_is_html_point, p_is_html_point), (70, x_value_of, p_value_of),
    (77, x_is_breakout, p_is_breakout), (84, x_holds_html, p_holds_html), (91, x_break_out, p_break_out), (98, x_foreign_end, p_foreign_end), (105, x_is_script_end, p_is_script_end), (151, x_Formatting_init, p_Formatting_init), (235, x_OpenStack_init, p_OpenStack_init),
    (249, x_OpenStack_pop, p_OpenStack_pop), (256, x_OpenStack_current, p_OpenStack_current), (263, x_OpenStack_many, p_OpenStack_many), (340, x_Tree_init, p_Tree_init), (349, x_Tree_add, p_Tree_add), (358, x_Tree_element, p_Tree_element), (387, x_Tree_insert, p_Tree_insert),
    (394, x_Tree_append, p_Tree_append), (401, x_Tree_remove, p_Tree_remove), (429, x_Tree_value, p_Tree_value), (450, x_above, p_above), (465, x_Builder_init, p_Builder_init), (472, x_Builder_error, p_Builder_error), (479, x_Builder_to, p_Builder_to), (486, x_Builder_use, p_Builder_use),
    (528, x_law_digit, p_law_digit), (533, x_law_shapes, p_law_shapes), (538, x_law_holds, p_law_holds), (543, x_law_breakouts_hold, p_law_breakouts_hold), (550, x_law_rule, p_law_rule), (557, x_law_set, p_law_set), (562, x_law_script_holds, p_law_script_holds),
    (567, x_law_end_holds, p_law_end_holds), (572, x_law_break_holds, p_law_break_holds), (577, x_law_is_kept, p_law_is_kept), (582, x_law, p_law)]
structure KOk (C : Cfg) : Prop where
  tab : TabOk C tb
  fn : ∀ {f : Addr} {x : Fun} {pn : List Str}, (f, x, pn) ∈ fnsL → FnOk C f x.body x.scope pn ∧ ∀ as : List AV, as.length = pn.length → Binds C f pn as as
  add2 : ∀ a b : AV, Binds C 349 p_Tree_add [a, b] [a, b, .d (.str (q [])), .d (.str (q [])), .d (.tuple []), .d (.str (q []))]
  add5 : ∀ a b c d e : AV, Binds C 349 p_Tree_add [a, b, c, d, e] [a, b, c, d, e, .d (.str (q []))]
  ins3 : ∀ a b c : AV, Binds C 387 p_Tree_insert [a, b, c] [a, b, c, .d (.int (-1))]
  bld2 : ∀ a b : AV, Binds C 465 p_Builder_init [a, b] [a, b, .d (.bool false)]
  cls : ∀ {c f : Addr}, (c, f) ∈ ([(217, 151), (322, 235), (439, 340), (517, 465)] : List (Addr × Addr)) → ClsOk C.K c ∧ makesIn C.K c = true ∧ findIn C.K (.ref c) "__init__" = some (some (.ref f)) ∧ typeIn C.K (.ref f) = some (.type "function")
  rule : keepIn C.K (.ref 550) = true

theorem KOk.fnI {C : Cfg} (H : KOk C) (i : Nat) {f : Addr} {x : Fun} {pn : List Str} (h : fnsL[i]? = some (f, x, pn)) : FnOk C f x.body x.scope pn ∧ ∀ as : List AV, as.length = pn.length → Binds C f pn as as := H.fn (List.mem_of_getElem? h)
section
variable {C : Cfg} {n : Nat} {I : Tab}
theorem cells_nil {cs : List Addr} {cx : Cx} (h : cx.cells = []) (e : cs.length = cx.cells.length) : cs = [] := by
  rw [h] at e; exact List.eq_nil_of_length_eq_zero e
theorem Fewer.refl (σ : Store) : Fewer σ σ := fun _ _ e => e
theorem TC_pure (hI : IOk C n I) {f : Addr} {x : Fun} {pn : List Str} {cx : Cx} {c : CS} {m k : Nat} {as : List AV} {σ : Store} {a : AV} (T : TabOk C tb)
    (hf : FnOk C f x.body x.scope pn ∧ ∀ as : List AV, as.length = pn.length → Binds C f pn as as) (hcx : cxOk cx x.scope pn = true) (hchk : chkS tb c cx x.body = true) (hk : pn.length = k) (hc : cx.cells = [])
    (hl : ∀ as : List AV, as.length = k → initL cx pn as = lo0 as m) (h : runP I c m k as σ = some a) : TC C (n + 1) (.ref f) as σ (Is a σ) := by
  unfold runP at h
  split at h
  · rename_i hlen
    split at h
    · rename_i o l' he
      cases h
      refine (TC_fun T hI hf.1 (CxOk.of hcx) hchk (hf.2 as (by rw [hlen, hk])) (by rw [hlen, hk]) (hl as hlen).symm rfl fun cs h1 _ _ => ?_).tc
      have := cells_nil hc h1
      subst this
      exact evS_ok he ⟨σ, Fewer.refl σ, rfl, rfl⟩
    · cases h
  · cases h
end
end Mine
end

section
set_option maxRecDepth 100000
namespace Mine

theorem len1 {α : Type} : ∀ {l : List α}, l.length = 1 → ∃ x, l = [x]
  | [x], _ => ⟨x, rfl⟩
theorem len2 {α : Type} : ∀ {l : List α}, l.length = 2 → ∃ x y, l = [x, y]
  | [x, y], _ => ⟨x, y, rfl⟩
theorem len3 {α : Type} : ∀ {l : List α}, l.length = 3 → ∃ x y z, l = [x, y, z]
  | [x, y, z], _ => ⟨x, y, z, rfl⟩
noncomputable def I0 : Tab := fun _ _ _ => none
noncomputable def addT (I : Tab) (f : Addr) (g : List AV → Store → Option AV) : Tab := fun f' as σ => if f' = f then g as σ else I f' as σ
theorem TC.le {C : Cfg} {n m : Nat} {f : Value} {as : List AV} {σ : Store} {Q : AV → Store → Prop} (h : TC C n f as σ Q) (k : n ≤ m) : TC C m f as σ Q := fun A F ρ s vs o g r y => h A F ρ s vs (o.le k) g r y
theorem IOk.up {C : Cfg} {n m : Nat} {I : Tab} (h : IOk C n I) (k : n ≤ m) : IOk C m I :=
  ⟨fun f as σ a hf e => (h.call f as σ a hf e).le k, fun a b σ c e A F ρ s v w o => h.hin a b σ c e A F ρ s v w (o.le k), fun a b σ c e A F ρ s v w x y o => h.hat a b σ c e A F ρ s v w x y (o.le k)⟩
theorem I0_ok (C : Cfg) : IOk C 0 I0 := ⟨fun _ _ _ _ _ e => (by cases e), fun _ _ _ _ e => (by cases e), fun _ _ _ _ e => (by cases e)⟩
theorem IOk.add {C : Cfg} {n : Nat} {I : Tab} {f : Addr} {g : List AV → Store → Option AV} (h : IOk C n I) (hf : 2 ≤ f) (hg : ∀ as σ a, g as σ = some a → TC C n (.ref f) as σ (Is a σ)) : IOk C n (addT I f g) :=
  ⟨fun f' as σ a hf' e => by
    unfold addT at e
    split at e
    · rename_i q; subst q; exact hg as σ a e
    · exact h.call f' as σ a hf' e,
   fun a b σ c e => h.hin a b σ c (by unfold addT at e; rwa [if_neg (show ¬ ((0 : Nat) = f) from fun q => by rw [← q] at hf; exact absurd hf (by decide))] at e),
   fun a b σ c e => h.hat a b σ c (by unfold addT at e; rwa [if_neg (show ¬ ((1 : Nat) = f) from fun q => by rw [← q] at hf; exact absurd hf (by decide))] at e)⟩

noncomputable def g28 := runP I0 c_is_breakout_name 1 1
noncomputable def g35 := runP I0 c_is_upper 0 1
noncomputable def g56 := runP I0 c_is_math_point 0 2
noncomputable def g70 := runP I0 c_value_of 1 2
noncomputable def g256 := runP I0 c_OpenStack_current 0 1
noncomputable def g263 := runP I0 c_OpenStack_many 0 1
noncomputable def g429 := runP I0 c_Tree_value 1 3
noncomputable def g528 := runP I0 c_law_digit 1 2
noncomputable def g538 := runP I0 c_law_holds 2 1
noncomputable def g577 := runP I0 c_law_is_kept 0 3
noncomputable def I1 : Tab := addT (addT (addT (addT (addT (addT (addT (addT (addT (addT I0 28 g28) 35 g35) 56 g56) 70 g70) 256 g256) 263 g263) 429 g429) 528 g528) 538 g538) 577 g577
section
variable {C : Cfg} (H : KOk C)
include H
theorem I1_ok : IOk C 1 I1 := by
  have T := H.tab
  have h0 := (I0_ok C).up (Nat.zero_le 1)
  refine (((((((((h0.add ?_ ?_).add ?_ ?_).add ?_ ?_).add ?_ ?_).add ?_ ?_).add ?_ ?_).add ?_ ?_).add ?_ ?_).add ?_ ?_).add ?_ ?_
  all_goals first | decide | skip
  · exact fun as σ a e => TC_pure (I0_ok C) T (H.fnI 0 rfl) o_is_breakout_name k_is_breakout_name rfl rfl (fun as h => by obtain ⟨x, rfl⟩ := len1 h; rfl) e
  · exact fun as σ a e => TC_pure (I0_ok C) T (H.fnI 1 rfl) o_is_upper k_is_upper rfl rfl (fun as h => by obtain ⟨x, rfl⟩ := len1 h; rfl) e
  · exact fun as σ a e => TC_pure (I0_ok C) T (H.fnI 4 rfl) o_is_math_point k_is_math_point rfl rfl (fun as h => by obtain ⟨x, y, rfl⟩ := len2 h; rfl) e
  · exact fun as σ a e => TC_pure (I0_ok C) T (H.fnI 6 rfl) o_value_of k_value_of rfl rfl (fun as h => by obtain ⟨x, y, rfl⟩ := len2 h; rfl) e
  · exact fun as σ a e => TC_pure (I0_ok C) T (H.fnI 15 rfl) o_OpenStack_current k_OpenStack_current rfl rfl (fun as h => by obtain ⟨x, rfl⟩ := len1 h; rfl) e
  · exact fun as σ a e => TC_pure (I0_ok C) T (H.fnI 16 rfl) o_OpenStack_many k_OpenStack_many rfl rfl (fun as h => by obtain ⟨x, rfl⟩ := len1 h; rfl) e
  · exact fun as σ a e => TC_pure (I0_ok C) T (H.fnI 23 rfl) o_Tree_value k_Tree_value rfl rfl (fun as h => by obtain ⟨x, y, z, rfl⟩ := len3 h; rfl) e
  · exact fun as σ a e => TC_pure (I0_ok C) T (H.fnI 29 rfl) o_law_digit k_law_digit rfl rfl (fun as h => by obtain ⟨x, y, rfl⟩ := len2 h; rfl) e
  · exact fun as σ a e => TC_pure (I0_ok C) T (H.fnI 31 rfl) o_law_holds k_law_holds rfl rfl (fun as h => by obtain ⟨x, rfl⟩ := len1 h; rfl) e
  · exact fun as σ a e => TC_pure (I0_ok C) T (H.fnI 38 rfl) o_law_is_kept k_law_is_kept rfl rfl (fun as h => by obtain ⟨x, y, z, rfl⟩ := len3 h; rfl) e
end
end Mine
end

section
set_option maxRecDepth 100000
namespace Mine

theorem sz : sizeLine = 16777216 := rfl
theorem instA_of {σ : Store} {c x dx : Addr} {as : List AV} (h1 : σ x = some (.inst c dx)) (h2 : σ dx = some (.ns c as)) : instA σ c (.ref x) = some as := by
  unfold instA; simp only [h1, h2, and_self, if_true]
theorem attrA_of {σ : Store} {c x dx : Addr} {as : List AV} {i : Nat} {a : AV} (h1 : σ x = some (.inst c dx)) (h2 : σ dx = some (.ns c as)) (h3 : as[i]? = some a) (nv : a.notV = true) : attrA σ c i (.ref x) = some a := by
  unfold attrA; rw [instA_of h1 h2]; simp only [h3, nv, if_true]
theorem seqOf_ref {σ : Store} {a : Addr} {xs : List AV} (h : σ a = some (.list xs)) : seqOf σ (.ref a) = some xs := by unfold seqOf; simp only [h]
theorem listOf_ref {σ : Store} {a : Addr} {xs : List AV} (h : σ a = some (.list xs)) : listOf? σ (.ref a) = some xs := by unfold listOf?; simp only [h]
theorem lenA_ref {σ : Store} {a : Addr} {xs : List AV} (h : σ a = some (.list xs)) (hz : xs.length ≤ 1000) : lenA σ (.ref a) = some (.int xs.length) := by
  unfold lenA; rw [seqOf_ref h]; simp only; rw [if_pos (by omega)]
theorem subA_nat {σ : Store} {a : AV} {xs : List AV} {k : Int} {i : Nat} {x : AV} (h : seqOf σ a = some xs) (hk : k = (i : Int)) (hz : xs.length ≤ 1000) (hx : xs[i]? = some x) : subA σ a (.d (.int k)) = some x := by
  subst hk
  have hi : i < xs.length := (List.getElem?_eq_some_iff.mp hx).1
  have h3 : seqIndex? (i : Int) xs.length = some i := by
    unfold seqIndex?
    rw [if_neg (show ¬ ((i : Int) < 0) by omega)]
    simp [hi]
  unfold subA
  rw [h]
  simp only
  rw [if_pos (by omega), h3]
  exact hx

section
variable {C : Cfg} (H : KOk C) {n : Nat} {Q : AV → Store → Prop} {σ : Store}
include H
theorem fun_W {I : Tab} (hI : IOk C n I) {f : Addr} {x : Fun} {pn : List Str} {cx : Cx} {c : CS} {m : Nat} {as as' : List AV}
    (hf : FnOk C f x.body x.scope pn) (hb : Binds C f pn as as') (hcx : cxOk cx x.scope pn = true) (hchk : chkS tb c cx x.body = true) (hlen : pn.length = as'.length) (hc : cx.cells = []) (hl : initL cx pn as' = lo0 as' m)
    (w : wpS C n I c [] (lo0 as' m) σ (retP Q)) : TCc C (n + 1) (.ref f) as σ Q := by
  refine TC_fun H.tab hI hf (CxOk.of hcx) hchk hb hlen hl.symm rfl fun cs h1 _ _ => ?_
  have := cells_nil hc h1
  subst this
  exact w
theorem fun_E {I : Tab} (hI : IOk C n I) {f : Addr} {x : Fun} {pn : List Str} {cx : Cx} {c : CS} {m : Nat} {as : List AV}
    (hf : FnOk C f x.body x.scope pn ∧ ∀ as : List AV, as.length = pn.length → Binds C f pn as as) (hcx : cxOk cx x.scope pn = true) (hchk : chkS tb c cx x.body = true) (hlen : pn.length = as.length) (hc : cx.cells = []) (hl : initL cx pn as = lo0 as m)
    (w : wpS C n I c [] (lo0 as m) σ (retP Q)) : TCc C (n + 1) (.ref f) as σ Q := fun_W H hI hf.1 (hf.2 as hlen.symm) hcx hchk hlen hc hl w

theorem error_T {b db e : Addr} {as xs : List AV} {w mode : PyData} (h1 : σ b = some (.inst 517 db)) (h2 : σ db = some (.ns 517 as)) (h3 : as[4]? = some (.d mode)) (h4 : as[15]? = some (.ref e)) (h5 : σ e = some (.list xs)) (hz : xs.length ≤ 1000)
    (q : Q (.d .none) (σ.set e (.list (xs ++ [.d (.tuple [w, mode])])))) : TC C 1 (.ref 472) [.ref b, .d w] σ Q := by
  refine (fun_E H (I0_ok C) (H.fnI 26 rfl) o_Builder_error k_Builder_error rfl rfl (m := 0) rfl ?_).tc
  unfold c_Builder_error
  simp only [wpS_done, wpS_asg, wpS_asgC, wpS_setA, wpS_setS, wpS_dec, wpS_exp, wpS_ife, wpS_ifn, wpS_whl, wpS_for1, wpS_ret, wpS_retN, wpX_pe, wpX_listM, wpX_sliceM, wpX_call, wpX_mcall, wpX_vcall, wpX_append, wpX_pop, wpX_insert, wpX_dct, wpX_dct0, wpX_compM, wpX_iteX, wpX_addM, wpX_call1, eve_var, eve_cel, eve_glob, eve_k, eve_bin, eve_neg, eve_notE, eve_and, eve_or, eve_ite, eve_cmp, eve_chain, eve_attr, eve_sub, eve_slc, eve_tup, eve_lst, eve_call, eve_mcall, eve_bi, eve_meth, eve_join, eve_rng, eve_comp, eve_hin, eve_hat, evs_nil, evs_cons, lo0, List.map, List.replicate, List.append_nil, List.getElem?_cons_zero, List.getElem?_cons_succ, attrA_of h1 h2 h4 rfl, attrA_of h1 h2 h3 rfl, Option.bind_some, mkD, allD, Option.map_some, sz, List.length_cons, List.length_nil, Nat.zero_add, Nat.reduceAdd, Nat.reduceLeDiff, if_true]
  exact ⟨⟨_, h5⟩, xs, h5, by omega, rfl, _, Fewer.refl _, q⟩
theorem to_T {b db : Addr} {as : List AV} {mode : PyData} (h1 : σ b = some (.inst 517 db)) (h2 : σ db = some (.ns 517 as)) (h3 : 4 < as.length)
    (q : Q (.d .none) (σ.set db (.ns 517 (as.set 4 (.d mode))))) : TC C 1 (.ref 479) [.ref b, .d mode] σ Q := by
  refine (fun_E H (I0_ok C) (H.fnI 27 rfl) o_Builder_to k_Builder_to rfl rfl (m := 0) rfl ?_).tc
  unfold c_Builder_to
  simp only [wpS_done, wpS_asg, wpS_asgC, wpS_setA, wpS_setS, wpS_dec, wpS_exp, wpS_ife, wpS_ifn, wpS_whl, wpS_for1, wpS_ret, wpS_retN, wpX_pe, wpX_listM, wpX_sliceM, wpX_call, wpX_mcall, wpX_vcall, wpX_append, wpX_pop, wpX_insert, wpX_dct, wpX_dct0, wpX_compM, wpX_iteX, wpX_addM, wpX_call1, eve_var, eve_cel, eve_glob, eve_k, eve_bin, eve_neg, eve_notE, eve_and, eve_or, eve_ite, eve_cmp, eve_chain, eve_attr, eve_sub, eve_slc, eve_tup, eve_lst, eve_call, eve_mcall, eve_bi, eve_meth, eve_join, eve_rng, eve_comp, eve_hin, eve_hat, evs_nil, evs_cons, lo0, List.map, List.replicate, List.append_nil, List.getElem?_cons_zero, List.getElem?_cons_succ]
  exact ⟨db, as, h1, h2, by omega, _, Fewer.refl _, by rw [if_pos h3]; exact q⟩
theorem rule_T {b db e : Addr} {as xs : List AV} {w : PyData} (h1 : σ b = some (.inst 517 db)) (h2 : σ db = some (.ns 517 as)) (h4 : as[15]? = some (.ref e)) (h5 : σ e = some (.list xs)) (hz : xs.length ≤ 1000)
    (q : Q (.d .none) (σ.set e (.list (xs ++ [.d (.tuple [.str (PySem.Str.ofString "handed"), w])])))) : TC C 1 (.ref 550) [.ref b, .d w] σ Q := by
  refine (fun_E H (I0_ok C) (H.fnI 33 rfl) o_law_rule k_law_rule rfl rfl (m := 0) rfl ?_).tc
  unfold c_law_rule
  simp only [wpS_done, wpS_asg, wpS_asgC, wpS_setA, wpS_setS, wpS_dec, wpS_exp, wpS_ife, wpS_ifn, wpS_whl, wpS_for1, wpS_ret, wpS_retN, wpX_pe, wpX_listM, wpX_sliceM, wpX_call, wpX_mcall, wpX_vcall, wpX_append, wpX_pop, wpX_insert, wpX_dct, wpX_dct0, wpX_compM, wpX_iteX, wpX_addM, wpX_call1, eve_var, eve_cel, eve_glob, eve_k, eve_bin, eve_neg, eve_notE, eve_and, eve_or, eve_ite, eve_cmp, eve_chain, eve_attr, eve_sub, eve_slc, eve_tup, eve_lst, eve_call, eve_mcall, eve_bi, eve_meth, eve_join, eve_rng, eve_comp, eve_hin, eve_hat, evs_nil, evs_cons, lo0, List.map, List.replicate, List.append_nil, List.getElem?_cons_zero, List.getElem?_cons_succ, attrA_of h1 h2 h4 rfl, Option.bind_some, mkD, allD, Option.map_some, sz, List.length_cons, List.length_nil, Nat.zero_add, Nat.reduceAdd, Nat.reduceLeDiff, if_true]
  exact ⟨⟨_, h5⟩, xs, h5, by omega, rfl, _, Fewer.refl _, q⟩
theorem pop_T {s ds it : Addr} {t b : AV} {xs : List AV} (h1 : σ s = some (.inst 322 ds)) (h2 : σ ds = some (.ns 322 [t, .ref it])) (h5 : σ it = some (.list (xs ++ [b]))) (hz : xs.length ≤ 900)
    (q : Q b (σ.set it (.list xs))) : TC C 1 (.ref 249) [.ref s] σ Q := by
  refine (fun_E H (I0_ok C) (H.fnI 14 rfl) o_OpenStack_pop k_OpenStack_pop rfl rfl (m := 0) rfl ?_).tc
  unfold c_OpenStack_pop
  have e1 : attrA σ 322 1 (.ref s) = some (.ref it) := attrA_of h1 h2 rfl rfl
  have e2 : lenA σ (.ref it) = some (.int ((xs ++ [b]).length : Nat)) := lenA_ref h5 (by simp; omega)
  have e3 : cmpA σ .Eq (.d (.int ((xs ++ [b]).length : Nat))) (.d (.int 0)) = some false := by
    have : PyData.eqv (.int ((xs ++ [b]).length : Nat)) (.int 0) = false := by
      simp [PyData.eqv]; omega
    unfold cmpA eqA snap
    simp only [this]
    rfl
  simp only [wpS_done, wpS_asg, wpS_asgC, wpS_setA, wpS_setS, wpS_dec, wpS_exp, wpS_ife, wpS_ifn, wpS_whl, wpS_for1, wpS_ret, wpS_retN, wpX_pe, wpX_listM, wpX_sliceM, wpX_call, wpX_mcall, wpX_vcall, wpX_append, wpX_pop, wpX_insert, wpX_dct, wpX_dct0, wpX_compM, wpX_iteX, wpX_addM, wpX_call1, eve_var, eve_cel, eve_glob, eve_k, eve_bin, eve_neg, eve_notE, eve_and, eve_or, eve_ite, eve_cmp, eve_chain, eve_attr, eve_sub, eve_slc, eve_tup, eve_lst, eve_call, eve_mcall, eve_bi, eve_meth, eve_join, eve_rng, eve_comp, eve_hin, eve_hat, evs_nil, evs_cons, lo0, List.map, List.replicate, List.append_nil, List.getElem?_cons_zero, List.getElem?_cons_succ, e1, biA, Option.bind_some, e2, Option.map_some, e3, tru]
  simp only [thenS, wpS_done, wpS_asg, wpS_asgC, wpS_setA, wpS_setS, wpS_dec, wpS_exp, wpS_ife, wpS_ifn, wpS_whl, wpS_for1, wpS_ret, wpS_retN, wpX_pe, wpX_listM, wpX_sliceM, wpX_call, wpX_mcall, wpX_vcall, wpX_append, wpX_pop, wpX_insert, wpX_dct, wpX_dct0, wpX_compM, wpX_iteX, wpX_addM, wpX_call1, eve_var, eve_cel, eve_glob, eve_k, eve_bin, eve_neg, eve_notE, eve_and, eve_or, eve_ite, eve_cmp, eve_chain, eve_attr, eve_sub, eve_slc, eve_tup, eve_lst, eve_call, eve_mcall, eve_bi, eve_meth, eve_join, eve_rng, eve_comp, eve_hin, eve_hat, List.getElem?_cons_zero, Option.bind_some, e1]
  exact ⟨xs, b, h5, by rw [sz]; omega, _, Fewer.refl _, q⟩
theorem set_T {b db s ds : Addr} {as : List AV} {t u : AV} {ns : List PyData} {many : Nat} (h1 : σ b = some (.inst 517 db)) (h2 : σ db = some (.ns 517 as)) (h3 : as[2]? = some (.ref s)) (h4 : σ s = some (.inst 322 ds)) (h5 : σ ds = some (.ns 322 [t, u])) (hl : 15 < as.length) (hz : ns.length ≤ 1000)
    (q : ∀ it e, σ it = none → ((σ.set it (.list ((pickL ns none (some (many : Int))).map .d))).set ds (.ns 322 [t, .ref it])) e = none → Q (.d .none) ((((σ.set it (.list ((pickL ns none (some (many : Int))).map .d))).set ds (.ns 322 [t, .ref it])).set e (.list [])).set db (.ns 517 (as.set 15 (.ref e))))) :
    TC C 1 (.ref 557) [.ref b, .d (.list ns), .d (.int many)] σ Q := by
  refine (fun_E H (I0_ok C) (H.fnI 34 rfl) o_law_set k_law_set rfl rfl (m := 0) rfl ?_).tc
  unfold c_law_set
  simp only [wpS_done, wpS_asg, wpS_asgC, wpS_setA, wpS_setS, wpS_dec, wpS_exp, wpS_ife, wpS_ifn, wpS_whl, wpS_for1, wpS_ret, wpS_retN, wpX_pe, wpX_listM, wpX_sliceM, wpX_call, wpX_mcall, wpX_vcall, wpX_append, wpX_pop, wpX_insert, wpX_dct, wpX_dct0, wpX_compM, wpX_iteX, wpX_addM, wpX_call1, eve_var, eve_cel, eve_glob, eve_k, eve_bin, eve_neg, eve_notE, eve_and, eve_or, eve_ite, eve_cmp, eve_chain, eve_attr, eve_sub, eve_slc, eve_tup, eve_lst, eve_call, eve_mcall, eve_bi, eve_meth, eve_join, eve_rng, eve_comp, eve_hin, eve_hat, evs_nil, evs_cons, lo0, List.map, List.replicate, List.append_nil, List.getElem?_cons_zero, List.getElem?_cons_succ, CE.isNil, if_true, Bool.false_eq_true, if_false, Option.bind_some, partA, listOf?]
  refine ⟨by rw [sz, List.length_map]; omega, fun it hit => ?_⟩
  have n1 : b ≠ it := fun e => by rw [← e, h1] at hit; cases hit
  have n2 : db ≠ it := fun e => by rw [← e, h2] at hit; cases hit
  have n3 : s ≠ it := fun e => by rw [← e, h4] at hit; cases hit
  have n4 : ds ≠ it := fun e => by rw [← e, h5] at hit; cases hit
  have m1 : b ≠ ds := fun e => by rw [e, h5] at h1; cases h1
  have m2 : db ≠ ds := fun e => by rw [e, h5] at h2; cases h2
  have ep : pickL (ns.map AV.d) none (some (many : Int)) = (pickL ns none (some (many : Int))).map AV.d := by
    unfold pickL
    rw [List.length_map, List.map_filterMap]
    congr 1
    funext i
    rw [List.getElem?_map]
  rw [ep]
  have a1 : attrA (σ.set it (.list ((pickL ns none (some (many : Int))).map .d))) 517 2 (.ref b) = some (.ref s) := attrA_of (by rw [Store.set_ne _ _ n1]; exact h1) (by rw [Store.set_ne _ _ n2]; exact h2) h3 rfl
  rw [a1]
  refine ⟨ds, [t, u], by rw [Store.set_ne _ _ n3]; exact h4, by rw [Store.set_ne _ _ n4]; exact h5, by simp, Nat.zero_le _, fun e he => ?_⟩
  have k1 : b ≠ e := fun z => by rw [← z, Store.set_ne _ _ m1, Store.set_ne _ _ n1, h1] at he; cases he
  have k2 : db ≠ e := fun z => by rw [← z, Store.set_ne _ _ m2, Store.set_ne _ _ n2, h2] at he; cases he
  refine ⟨db, as, by rw [Store.set_ne _ _ k1, Store.set_ne _ _ m1, Store.set_ne _ _ n1]; exact h1, by rw [Store.set_ne _ _ k2, Store.set_ne _ _ m2, Store.set_ne _ _ n2]; exact h2, by omega, _, Fewer.refl _, ?_⟩
  rw [if_pos hl]
  exact q it e hit he

/-! pure methods of the stack -/
omit H in
theorem many_is {s ds it : Addr} {t : AV} {xs : List AV} (h1 : σ s = some (.inst 322 ds)) (h2 : σ ds = some (.ns 322 [t, .ref it])) (h3 : σ it = some (.list xs)) (hz : xs.length ≤ 1000) : g263 [.ref s] σ = some (.d (.int xs.length)) := by
  have e1 : attrA σ 322 1 (.ref s) = some (.ref it) := attrA_of h1 h2 rfl rfl
  unfold g263 runP c_OpenStack_many
  simp only [List.length_cons, List.length_nil, Nat.zero_add, if_true, eqS_done, eqS_asg, eqS_ife, eqS_for1, eqS_ret, eqS_retN, eve_var, eve_cel, eve_glob, eve_k, eve_bin, eve_neg, eve_notE, eve_and, eve_or, eve_ite, eve_cmp, eve_chain, eve_attr, eve_sub, eve_slc, eve_tup, eve_lst, eve_call, eve_mcall, eve_bi, eve_meth, eve_join, eve_rng, eve_comp, eve_hin, eve_hat, lo0, List.map, List.replicate, List.append_nil, List.getElem?_cons_zero, Option.bind_some, e1, biA, lenA_ref h3 hz, Option.map_some, Out.val]
omit H in
theorem current_is {s ds it : Addr} {t x : AV} {xs : List AV} (h1 : σ s = some (.inst 322 ds)) (h2 : σ ds = some (.ns 322 [t, .ref it])) (h3 : σ it = some (.list (xs ++ [x]))) (hz : xs.length ≤ 900) : g256 [.ref s] σ = some x := by
  have e1 : attrA σ 322 1 (.ref s) = some (.ref it) := attrA_of h1 h2 rfl rfl
  have e2 : lenA σ (.ref it) = some (.int ((xs ++ [x]).length : Nat)) := lenA_ref h3 (by simp; omega)
  have e3 : cmpA σ .Eq (.d (.int ((xs ++ [x]).length : Nat))) (.d (.int 0)) = some false := by
    have : PyData.eqv (.int ((xs ++ [x]).length : Nat)) (.int 0) = false := by
      simp [PyData.eqv]; omega
    unfold cmpA eqA snap
    simp only [this]
    rfl
  have e4 : subA σ (.ref it) (.d (.int (((xs ++ [x]).length : Nat) - 1 : Int))) = some x := subA_nat (i := xs.length) (seqOf_ref h3) (by simp) (by simp; omega) (by simp)
  unfold g256 runP c_OpenStack_current
  simp only [List.length_cons, List.length_nil, Nat.zero_add, if_true, eqS_done, eqS_asg, eqS_ife, eqS_for1, eqS_ret, eqS_retN, eve_var, eve_cel, eve_glob, eve_k, eve_bin, eve_neg, eve_notE, eve_and, eve_or, eve_ite, eve_cmp, eve_chain, eve_attr, eve_sub, eve_slc, eve_tup, eve_lst, eve_call, eve_mcall, eve_bi, eve_meth, eve_join, eve_rng, eve_comp, eve_hin, eve_hat, lo0, List.map, List.replicate, List.append_nil, List.getElem?_cons_zero, Option.bind_some, e1, biA, e2, Option.map_some, e3, tru, binA, ints2, Option.map_some, e4, Out.val]
omit H in
theorem current_nil {s ds it : Addr} {t : AV} (h1 : σ s = some (.inst 322 ds)) (h2 : σ ds = some (.ns 322 [t, .ref it])) (h3 : σ it = some (.list [])) : g256 [.ref s] σ = some (.d (.int (-1))) := by
  have e1 : attrA σ 322 1 (.ref s) = some (.ref it) := attrA_of h1 h2 rfl rfl
  have e2 : lenA σ (.ref it) = some (.int 0) := lenA_ref h3 (by simp)
  have e3 : cmpA σ .Eq (.d (.int 0)) (.d (.int 0)) = some true := rfl
  unfold g256 runP c_OpenStack_current
  simp only [List.length_cons, List.length_nil, Nat.zero_add, if_true, eqS_done, eqS_asg, eqS_ife, eqS_for1, eqS_ret, eqS_retN, eve_var, eve_cel, eve_glob, eve_k, eve_bin, eve_neg, eve_notE, eve_and, eve_or, eve_ite, eve_cmp, eve_chain, eve_attr, eve_sub, eve_slc, eve_tup, eve_lst, eve_call, eve_mcall, eve_bi, eve_meth, eve_join, eve_rng, eve_comp, eve_hin, eve_hat, lo0, List.map, List.replicate, List.append_nil, List.getElem?_cons_zero, Option.bind_some, e1, biA, e2, Option.map_some, e3, tru, negA, Out.val]
end

/-! the rules' dictionary -/
open Classical in
noncomputable def useTab (C : Cfg) (y : Str) (f d : Addr) : Tab := fun k as σ =>
  if k = 0 ∧ as = [.d (.str y), .ref d] ∧ σ d = some (.is (dictIs C y f)) ∧ d ≠ 1 then some (.d (.bool false))
  else if k = 1 ∧ as = [.ref d, .d (.str y)] ∧ σ d = some (.is (dictIs C y f)) then some (.ref f) else none
theorem useTab_ok (C : Cfg) (y : Str) (f d : Addr) : IOk C 0 (useTab C y f d) := by
  refine ⟨fun k as σ a hk e => ?_, fun a b σ c e A F ρ s v w o g r ya yb => ?_, fun a b σ c e A F ρ s v w value slice o g r ya yb => ?_⟩
  · unfold useTab at e
    have n0 : ¬ (k = 0) := fun q => by rw [q] at hk; exact absurd hk (by decide)
    have n1 : ¬ (k = 1) := fun q => by rw [q] at hk; exact absurd hk (by decide)
    rw [if_neg fun q => n0 q.1, if_neg fun q => n1 q.1] at e
    cases e
  · unfold useTab at e
    split at e
    · rename_i q
      cases e
      obtain ⟨_, q1, q2, q3⟩ := q
      simp only [List.cons.injEq, and_true] at q1
      obtain ⟨rfl, rfl⟩ := q1
      obtain ⟨t, rfl⟩ := ya.str
      cases yb
      obtain ⟨_, od, ho, hd, _⟩ := r.left q2
      have hd' := hd s.heap d ho
      refine wpAny_notIn_of (knd := strKind C.prog C.w) (strKind_is C.prog C.w y t) (by simpa [sysModules] using q3) hd'.mapOf ?_
      have e : valueAt [(y, Value.ref f)] y = some (.ref f) := by simp [valueAt]
      rw [e]
      exact Fin.now r (.d (.bool _)) ⟨rfl, rfl⟩
    · split at e
      · rename_i q; exact absurd q.1 (by decide)
      · cases e
  · unfold useTab at e
    split at e
    · rename_i q; exact absurd q.1 (by decide)
    · split at e
      · rename_i q
        cases e
        obtain ⟨_, q1, q2⟩ := q
        simp only [List.cons.injEq, and_true] at q1
        obtain ⟨rfl, rfl⟩ := q1
        obtain ⟨t, rfl⟩ := yb.str
        cases ya
        obtain ⟨_, od, ho, hd, _⟩ := r.left q2
        have hd' := hd s.heap d ho
        exact tail_of hd'.typeIs slot_dict_getitem.lookup (wpAny_getItem_of (knd := strKind C.prog C.w) (v := .ref f) (strKind_is C.prog C.w y t) hd'.mapOf (by simp [valueAt]) (Fin.now r (.ref _) ⟨rfl, rfl⟩))
      · cases e
section
variable {C : Cfg} (H : KOk C) {n : Nat} {Q : AV → Store → Prop} {σ : Store}
include H
theorem use_T {b db d e : Addr} {as xs : List AV} {mode : Str} {w : PyData} (h1 : σ b = some (.inst 517 db)) (h2 : σ db = some (.ns 517 as)) (h3 : as[0]? = some (.ref d)) (h4 : as[15]? = some (.ref e)) (h5 : σ e = some (.list xs)) (hd : σ d = some (.is (dictIs C mode 550))) (hd1 : d ≠ 1) (hz : xs.length ≤ 1000)
    (q : Q (.d .none) (σ.set e (.list (xs ++ [.d (.tuple [.str (PySem.Str.ofString "handed"), w])])))) : TC C 2 (.ref 486) [.ref b, .d (.str mode), .d w] σ Q := by
  refine (fun_E H ((useTab_ok C mode 550 d).up (Nat.zero_le 1)) (H.fnI 28 rfl) o_Builder_use k_Builder_use rfl rfl (m := 1) rfl ?_).tc
  have t0 : useTab C mode 550 d 0 [.d (.str mode), .ref d] σ = some (.d (.bool false)) := by unfold useTab; rw [if_pos ⟨rfl, rfl, hd, hd1⟩]
  have t1 : useTab C mode 550 d 1 [.ref d, .d (.str mode)] σ = some (.ref 550) := by unfold useTab; rw [if_neg (fun q => absurd q.1 (by decide)), if_pos ⟨rfl, rfl, hd⟩]
  unfold c_Builder_use
  simp only [wpS_done, wpS_asg, wpS_asgC, wpS_setA, wpS_setS, wpS_dec, wpS_exp, wpS_ife, wpS_ifn, wpS_whl, wpS_for1, wpS_ret, wpS_retN, wpX_pe, wpX_listM, wpX_sliceM, wpX_call, wpX_mcall, wpX_vcall, wpX_append, wpX_pop, wpX_insert, wpX_dct, wpX_dct0, wpX_compM, wpX_iteX, wpX_addM, wpX_call1, eve_var, eve_cel, eve_glob, eve_k, eve_bin, eve_neg, eve_notE, eve_and, eve_or, eve_ite, eve_cmp, eve_chain, eve_attr, eve_sub, eve_slc, eve_tup, eve_lst, eve_call, eve_mcall, eve_bi, eve_meth, eve_join, eve_rng, eve_comp, eve_hin, eve_hat, evs_nil, evs_cons, lo0, List.map, List.replicate, List.cons_append, List.nil_append, List.getElem?_cons_zero, List.getElem?_cons_succ, attrA_of h1 h2 h3 rfl, Option.bind_some, t0, tru, Option.map_some, thenS, t1, List.set_cons_succ, List.set_cons_zero]
  exact ⟨H.rule, (rule_T H h1 h2 h4 h5 hz ⟨rfl, _, Fewer.refl _, q⟩)⟩
end
end Mine
end

section
set_option maxRecDepth 100000
namespace Mine

noncomputable def Has (σ : Store) (E : List (Addr × AO)) : Prop := (E.map (·.1)).Nodup ∧ ∀ p ∈ E, σ p.1 = some p.2
section
variable {σ : Store} {E : List (Addr × AO)} {a : Addr} {o o' : AO}
theorem Has.get (h : Has σ E) (k : Nat) (e : E[k]? = some (a, o)) : σ a = some o := h.2 _ (List.mem_of_getElem? e)
theorem map_fst_set {k : Nat} (e : E[k]? = some (a, o)) : (E.set k (a, o')).map (·.1) = E.map (·.1) := by
  rw [List.map_set]
  apply List.ext_getElem?
  intro i
  rw [List.getElem?_set]
  split
  · rename_i q
    subst q
    rw [List.getElem?_map, e]
    split
    · rfl
    · rename_i q
      rw [List.length_map] at q
      rw [List.getElem?_eq_none (by omega)] at e
      cases e
  · rfl
theorem Has.set (h : Has σ E) (k : Nat) (e : E[k]? = some (a, o)) (o' : AO) : Has (σ.set a o') (E.set k (a, o')) := by
  refine ⟨by rw [map_fst_set e]; exact h.1, fun p hp => ?_⟩
  obtain ⟨j, hj⟩ := List.getElem?_of_mem hp
  rw [List.getElem?_set] at hj
  split at hj
  · split at hj
    · cases hj; exact Store.set_self ..
    · cases hj
  · rename_i q
    have hne : p.1 ≠ a := fun z => by
      have e1 : (E.map (·.1))[k]? = some a := by rw [List.getElem?_map, e]; rfl
      have e2 : (E.map (·.1))[j]? = some a := by rw [List.getElem?_map, hj]; exact congrArg some z
      exact q ((List.getElem?_inj (List.getElem?_eq_some_iff.mp e1).1 h.1).mp (e1.trans e2.symm))
    rw [Store.set_ne _ _ hne]
    exact h.2 p (List.mem_of_getElem? hj)
theorem Has.notMem (h : Has σ E) (ha : σ a = none) : a ∉ E.map (·.1) := fun q => by
  obtain ⟨p, hp, rfl⟩ := List.mem_map.mp q
  rw [h.2 p hp] at ha; cases ha
theorem Has.add (h : Has σ E) (ha : σ a = none) (o : AO) : Has (σ.set a o) ((a, o) :: E) := by
  refine ⟨List.nodup_cons.mpr ⟨h.notMem ha, h.1⟩, fun p hp => ?_⟩
  rcases List.mem_cons.mp hp with rfl | hp
  · exact Store.set_self ..
  · have hne : p.1 ≠ a := fun z => h.notMem ha (z ▸ List.mem_map_of_mem hp)
    rw [Store.set_ne _ _ hne]; exact h.2 p hp
theorem Has.perm {E' : List (Addr × AO)} (h : Has σ E) (k : E'.Perm E) : Has σ E' := ⟨(k.map _).nodup_iff.mpr h.1, fun p hp => h.2 p (k.subset hp)⟩
theorem Has.sub {E' : List (Addr × AO)} (h : Has σ E) (k : E'.Sublist E) : Has σ E' := ⟨h.1.sublist (k.map _), fun p hp => h.2 p (k.subset hp)⟩
theorem Has.nil (σ : Store) : Has σ [] := ⟨List.nodup_nil, fun _ h => nomatch h⟩
end

structure TA where
  t : Addr
  d : Addr
  k : Addr
  s : Addr
  n : Addr
  a : Addr
  x : Addr
  p : Addr
  c : Addr
  co : Addr
structure TS where
  kinds : List PyData
  spaces : List PyData
  names : List PyData
  attrs : List PyData
  texts : List PyData
  parents : List PyData
  cl : List Addr
  chs : List (List PyData)
noncomputable def dl (xs : List PyData) : AO := .list (xs.map .d)
noncomputable def treeE (A : TA) (S : TS) (R : List (Addr × AO)) : List (Addr × AO) :=
  (A.t, .inst 439 A.d) :: (A.d, .ns 439 [.ref A.k, .ref A.s, .ref A.n, .ref A.a, .ref A.x, .ref A.p, .ref A.c, .ref A.co]) :: (A.k, dl S.kinds) :: (A.s, dl S.spaces) :: (A.n, dl S.names) :: (A.a, dl S.attrs) :: (A.x, dl S.texts) :: (A.p, dl S.parents) :: (A.c, .list (S.cl.map .ref)) :: (S.cl.zip (S.chs.map dl) ++ R)
noncomputable def TS.add (S : TS) (kind space name : PyData) (attrs : List PyData) (text : PyData) (c : Addr) : TS :=
  ⟨S.kinds ++ [kind], S.spaces ++ [space], S.names ++ [name], S.attrs ++ [.list attrs], S.texts ++ [text], S.parents ++ [.int (-1)], S.cl ++ [c], S.chs ++ [[]]⟩
structure TS.Ok (S : TS) (n : Nat) : Prop where
  hk : S.kinds.length = n
  hs : S.spaces.length = n
  hn : S.names.length = n
  ha : S.attrs.length = n
  hx : S.texts.length = n
  hp : S.parents.length = n
  hl : S.cl.length = n
  hc : S.chs.length = n
theorem TS.Ok.add {S : TS} {n : Nat} (h : S.Ok n) (kind space name : PyData) (attrs : List PyData) (text : PyData) (c : Addr) : (S.add kind space name attrs text c).Ok (n + 1) := by
  unfold TS.add
  exact ⟨by simp [h.hk], by simp [h.hs], by simp [h.hn], by simp [h.ha], by simp [h.hx], by simp [h.hp], by simp [h.hl], by simp [h.hc]⟩
theorem dl_app (xs : List PyData) (y : PyData) : AO.list (xs.map AV.d ++ [AV.d y]) = dl (xs ++ [y]) := by simp [dl]

section
variable {C : Cfg} {n : Nat} {I : Tab} {Q : PostS} {σ : Store}
theorem app_step {c i t d a : Addr} {as xs : List AV} {e : CE} {r : CS} {l : Lo} {v : AV} (h1 : σ t = some (.inst c d)) (h2 : σ d = some (.ns c as)) (h3 : as[i]? = some (.ref a)) (h4 : σ a = some (.list xs)) (hl : l[0]? = some (some (.ref t))) (hv : ev I σ e l [] = some v) (hz : xs.length ≤ 1000)
    (k : wpS C n I r [] l (σ.set a (.list (xs ++ [v]))) Q) : wpS C n I (.exp (.append (.attr c i (.var 0)) (.pe e)) r) [] l σ Q := by
  simp only [wpS_done, wpS_asg, wpS_asgC, wpS_setA, wpS_setS, wpS_dec, wpS_exp, wpS_ife, wpS_ifn, wpS_whl, wpS_for1, wpS_ret, wpS_retN, wpX_pe, wpX_listM, wpX_sliceM, wpX_call, wpX_mcall, wpX_vcall, wpX_append, wpX_pop, wpX_insert, wpX_dct, wpX_dct0, wpX_compM, wpX_iteX, wpX_addM, wpX_call1, eve_var, eve_cel, eve_glob, eve_k, eve_bin, eve_neg, eve_notE, eve_and, eve_or, eve_ite, eve_cmp, eve_chain, eve_attr, eve_sub, eve_slc, eve_tup, eve_lst, eve_call, eve_mcall, eve_bi, eve_meth, eve_join, eve_rng, eve_comp, eve_hin, eve_hat, hl, Option.bind_some, attrA_of h1 h2 h3 rfl, hv]
  exact ⟨⟨_, h4⟩, xs, h4, by rw [sz]; omega, rfl, k⟩
end
section
variable {C : Cfg} (H : KOk C) {n : Nat} {Q : AV → Store → Prop} {σ : Store}
include H
theorem add_T {A : TA} {S : TS} {R : List (Addr × AO)} {m : Nat} {kind space name text : PyData} {attrs : List PyData} {as : List AV} (hb : Binds C 349 p_Tree_add as [.ref A.t, .d kind, .d space, .d name, .d (.tuple attrs), .d text])
    (h : Has σ (treeE A S R)) (ok : S.Ok m) (hm : m ≤ 100) (hz : attrs.length ≤ 1000)
    (q : ∀ σ' c, Has σ' (treeE A (S.add kind space name attrs text c) R) → Q (.d (.int m)) σ') : TC C 1 (.ref 349) as σ Q := by
  refine (fun_W H (I0_ok C) (H.fnI (f := 349) (x := x_Tree_add) (pn := p_Tree_add) 18 rfl).1 hb o_Tree_add k_Tree_add rfl rfl (m := 0) rfl ?_).tc
  unfold c_Tree_add
  refine app_step (h.get 0 rfl) (h.get 1 rfl) (a := A.k) rfl (h.get 2 rfl) rfl (v := .d kind) rfl (by rw [List.length_map, ok.hk]; omega) ?_
  rw [dl_app]
  have h := h.set 2 rfl (dl (S.kinds ++ [kind]))
  refine app_step (h.get 0 rfl) (h.get 1 rfl) (a := A.s) rfl (h.get 3 rfl) rfl (v := .d space) rfl (by rw [List.length_map, ok.hs]; omega) ?_
  rw [dl_app]
  have h := h.set 3 rfl (dl (S.spaces ++ [space]))
  refine app_step (h.get 0 rfl) (h.get 1 rfl) (a := A.n) rfl (h.get 4 rfl) rfl (v := .d name) rfl (by rw [List.length_map, ok.hn]; omega) ?_
  rw [dl_app]
  have h := h.set 4 rfl (dl (S.names ++ [name]))
  refine app_step (h.get 0 rfl) (h.get 1 rfl) (a := A.a) rfl (h.get 5 rfl) rfl (v := .d (.list attrs)) (by
    simp only [eve_var, eve_cel, eve_glob, eve_k, eve_bin, eve_neg, eve_notE, eve_and, eve_or, eve_ite, eve_cmp, eve_chain, eve_attr, eve_sub, eve_slc, eve_tup, eve_lst, eve_call, eve_mcall, eve_bi, eve_meth, eve_join, eve_rng, eve_comp, eve_hin, eve_hat, lo0, List.map, List.replicate, List.append_nil, List.getElem?_cons_zero, List.getElem?_cons_succ, Option.bind_some, biA, listOfA, seqOf, allD_map, Option.map_some, List.length_map]
    rw [if_pos (by rw [sz]; omega)]; rfl) (by rw [List.length_map, ok.ha]; omega) ?_
  rw [dl_app]
  have h := h.set 5 rfl (dl (S.attrs ++ [.list attrs]))
  refine app_step (h.get 0 rfl) (h.get 1 rfl) (a := A.x) rfl (h.get 6 rfl) rfl (v := .d text) rfl (by rw [List.length_map, ok.hx]; omega) ?_
  rw [dl_app]
  have h := h.set 6 rfl (dl (S.texts ++ [text]))
  refine app_step (h.get 0 rfl) (h.get 1 rfl) (a := A.p) rfl (h.get 7 rfl) rfl (v := .d (.int (-1))) rfl (by rw [List.length_map, ok.hp]; omega) ?_
  rw [dl_app]
  have h := h.set 7 rfl (dl (S.parents ++ [.int (-1)]))
  generalize (((((σ.set A.k (dl (S.kinds ++ [kind]))).set A.s (dl (S.spaces ++ [space]))).set A.n (dl (S.names ++ [name]))).set A.a (dl (S.attrs ++ [.list attrs]))).set A.x (dl (S.texts ++ [text]))).set A.p (dl (S.parents ++ [.int (-1)])) = σ' at h
  have a1 : attrA σ' 439 6 (.ref A.t) = some (.ref A.c) := attrA_of (h.get 0 rfl) (h.get 1 rfl) rfl rfl
  simp only [wpS_done, wpS_asg, wpS_asgC, wpS_setA, wpS_setS, wpS_dec, wpS_exp, wpS_ife, wpS_ifn, wpS_whl, wpS_for1, wpS_ret, wpS_retN, wpX_pe, wpX_listM, wpX_sliceM, wpX_call, wpX_mcall, wpX_vcall, wpX_append, wpX_pop, wpX_insert, wpX_dct, wpX_dct0, wpX_compM, wpX_iteX, wpX_addM, wpX_call1, eve_var, eve_cel, eve_glob, eve_k, eve_bin, eve_neg, eve_notE, eve_and, eve_or, eve_ite, eve_cmp, eve_chain, eve_attr, eve_sub, eve_slc, eve_tup, eve_lst, eve_call, eve_mcall, eve_bi, eve_meth, eve_join, eve_rng, eve_comp, eve_hin, eve_hat, evs_nil, evs_cons, lo0, List.map, List.replicate, List.append_nil, List.getElem?_cons_zero, Option.bind_some, a1]
  refine ⟨⟨_, h.get 8 rfl⟩, Nat.zero_le _, fun c hc => ?_⟩
  have h2 := h.add hc (.list [])
  refine ⟨_, h2.get 9 rfl, by rw [List.length_map, ok.hl, sz]; omega, rfl, ?_⟩
  have h3 := h2.set 9 rfl (.list (S.cl.map .ref ++ [.ref c]))
  have e2 : attrA ((σ'.set c (.list [])).set A.c (.list (S.cl.map .ref ++ [.ref c]))) 439 0 (.ref A.t) = some (.ref A.k) := attrA_of (h3.get 1 rfl) (h3.get 2 rfl) rfl rfl
  have e3 : lenA ((σ'.set c (.list [])).set A.c (.list (S.cl.map .ref ++ [.ref c]))) (.ref A.k) = some (.int (m + 1 : Nat)) := by
    have := lenA_ref (h3.get 3 rfl : _ = some (AO.list ((S.kinds ++ [kind]).map .d))) (by simp [ok.hk]; omega)
    rw [this]; simp [ok.hk]
  simp only [e2, Option.bind_some, biA, e3, Option.map_some, binA, ints2]
  refine ⟨_, Fewer.refl _, ?_⟩
  have e4 : ((m + 1 : Nat) : Int) - 1 = (m : Int) := by omega
  rw [e4]
  refine q _ c (h3.perm ?_)
  show (treeE A (S.add kind space name attrs text c) R).Perm ((c, AO.list []) :: _)
  have ez : (S.cl ++ [c]).zip ((S.chs ++ [[]]).map dl) = S.cl.zip (S.chs.map dl) ++ [(c, AO.list [])] := by
    rw [List.map_append, List.zip_append (by simp [ok.hl, ok.hc])]; rfl
  unfold treeE TS.add
  simp only
  rw [ez]
  have p : ∀ (x1 x2 x3 x4 x5 x6 x7 x8 x9 : Addr × AO) (y : Addr × AO) (l r : List (Addr × AO)), (x1 :: x2 :: x3 :: x4 :: x5 :: x6 :: x7 :: x8 :: x9 :: (l ++ [y] ++ r)).Perm (y :: x1 :: x2 :: x3 :: x4 :: x5 :: x6 :: x7 :: x8 :: x9 :: (l ++ r)) := by
    intro x1 x2 x3 x4 x5 x6 x7 x8 x9 y l r
    have := (List.perm_middle (a := y) (l₁ := x1 :: x2 :: x3 :: x4 :: x5 :: x6 :: x7 :: x8 :: x9 :: l) (l₂ := r))
    simpa using this
  have em : AO.list (S.cl.map AV.ref ++ [AV.ref c]) = AO.list ((S.cl ++ [c]).map .ref) := by simp
  rw [em]
  exact p _ _ _ _ _ _ _ _ _ _ _ _
end
end Mine
end

section
set_option maxRecDepth 100000
namespace Mine

noncomputable def shapesL : List PyData := [.tuple [.str (q [115, 118, 103]), .str (q [115, 99, 114, 105, 112, 116]), .tuple []],
  .tuple [.str (q [104, 116, 109, 108]), .str (q [115, 99, 114, 105, 112, 116]), .tuple []],
  .tuple [.str (q [109, 97, 116, 104]), .str (q [115, 99, 114, 105, 112, 116]), .tuple []],
  .tuple [.str (q [115, 118, 103]), .str (q [103]), .tuple []],
  .tuple [.str (q [115, 118, 103]), .str (q [102, 111, 114, 101, 105, 103, 110, 79, 98, 106, 101, 99, 116]), .tuple []],
  .tuple [.str (q [109, 97, 116, 104]), .str (q [109, 105]), .tuple []],
  .tuple [.str (q [104, 116, 109, 108]), .str (q [112]), .tuple []],
  .tuple [.str (q [115, 118, 103]), .str (q [99, 108, 105, 112, 80, 97, 116, 104]), .tuple []],
  .tuple [.str (q [109, 97, 116, 104]), .str (q [97, 110, 110, 111, 116, 97, 116, 105, 111, 110, 45, 120, 109, 108]), .tuple [.tuple [.str (q [105, 100]), .str (q [116, 101, 120, 116, 47, 104, 116, 109, 108])], .tuple [.str (q [101, 110, 99, 111, 100, 105, 110, 103]), .str (q [84, 101, 120, 116, 47, 72, 84, 77, 76])]]],
  .tuple [.str (q [109, 97, 116, 104]), .str (q [97, 110, 110, 111, 116, 97, 116, 105, 111, 110, 45, 120, 109, 108]), .tuple [.tuple [.str (q [105, 100]), .str (q [116, 101, 120, 116, 47, 104, 116, 109, 108])], .tuple [.str (q [101, 110, 99, 111, 100, 105, 110, 103]), .str (q [97, 112, 112, 108, 105, 99, 97, 116, 105, 111, 110, 47, 88, 72, 84, 77, 76, 43, 120, 109, 108])]]],
  .tuple [.str (q [109, 97, 116, 104]), .str (q [97, 110, 110, 111, 116, 97, 116, 105, 111, 110, 45, 120, 109, 108]), .tuple [.tuple [.str (q [105, 100]), .str (q [116, 101, 120, 116, 47, 104, 116, 109, 108])], .tuple [.str (q [101, 110, 99, 111, 100, 105, 110, 103]), .str (q [116, 101, 120, 116, 47, 104, 116, 109])]]],
  .tuple [.str (q [109, 97, 116, 104]), .str (q [97, 110, 110, 111, 116, 97, 116, 105, 111, 110, 45, 120, 109, 108]), .tuple [.tuple [.str (q [105, 100]), .str (q [116, 101, 120, 116, 47, 104, 116, 109, 108])], .tuple [.str (q [101, 110, 99, 111, 100, 105, 110, 103]), .str (q [])]]],
  .tuple [.str (q [109, 97, 116, 104]), .str (q [97, 110, 110, 111, 116, 97, 116, 105, 111, 110, 45, 120, 109, 108]), .tuple []],
  .tuple [.str (q [115, 118, 103]), .str (q [97, 110, 110, 111, 116, 97, 116, 105, 111, 110, 45, 120, 109, 108]), .tuple [.tuple [.str (q [101, 110, 99, 111, 100, 105, 110, 103]), .str (q [116, 101, 120, 116, 47, 104, 116, 109, 108])]]],
  .tuple [.str (q [115, 118, 103]), .str (q [83, 99, 114, 105, 112, 116]), .tuple []],
  .tuple [.str (q [115, 118, 103]), .str (q [116, 105, 116, 108, 101]), .tuple []],
  .tuple [.str (q [115, 118, 103]), .str (q [100, 101, 115, 99]), .tuple []],
  .tuple [.str (q [115, 118, 103]), .str (q [109, 105]), .tuple []],
  .tuple [.str (q [109, 97, 116, 104]), .str (q [109, 111]), .tuple []],
  .tuple [.str (q [109, 97, 116, 104]), .str (q [109, 110]), .tuple []],
  .tuple [.str (q [109, 97, 116, 104]), .str (q [109, 115]), .tuple []],
  .tuple [.str (q [109, 97, 116, 104]), .str (q [109, 116, 101, 120, 116]), .tuple []],
  .tuple [.str (q [109, 97, 116, 104]), .str (q [109, 114, 111, 119]), .tuple []],
  .tuple [.str (q [109, 97, 116, 104]), .str (q [116, 105, 116, 108, 101]), .tuple []],
  .tuple [.str (q [109, 97, 116, 104]), .str (q [102, 111, 114, 101, 105, 103, 110, 79, 98, 106, 101, 99, 116]), .tuple []],
  .tuple [.str (q [104, 116, 109, 108]), .str (q [100, 101, 115, 99]), .tuple []],
  .tuple [.str (q [104, 116, 109, 108]), .str (q [104, 116, 109, 108]), .tuple []],
  .tuple [.str (q [115, 118, 103]), .str (q [115, 118, 103]), .tuple []],
  .tuple [.str (q [109, 97, 116, 104]), .str (q [109, 97, 116, 104]), .tuple []]]

noncomputable def lowerC (c : Nat) : Nat := if 65 ≤ c ∧ c ≤ 90 then c + 32 else c
noncomputable def lowerS (x : Str) : Str := ⟨⟨x.cps.toList.map lowerC⟩⟩
noncomputable def g450 (as : List AV) (σ : Store) : Option AV := match as with
  | [t, k] => match attrA σ 439 5 t with
    | some p => match subA σ p k with
      | some (.d (.int i)) => if i = -1 then some (.d (.list [])) else none
      | _ => none
    | none => none
  | _ => none
noncomputable def g533 (as : List AV) (_ : Store) : Option AV := match as with
  | [] => some (.d (.list shapesL))
  | _ => none
noncomputable def g49 (as : List AV) (_ : Store) : Option AV := match as with
  | [.d (.str x)] => if x.length ≤ 1000 ∧ x.cps.toList.all (· < 400) = true then some (.d (.str (lowerS x))) else none
  | _ => none
theorem lt_one (a b : Nat) : decide ([a] < [b]) = decide (a < b) := by
  by_cases h : a < b
  · rw [decide_eq_true h, decide_eq_true]; exact List.Lex.rel h
  · rw [decide_eq_false h, decide_eq_false]
    intro q
    cases q with
    | rel q => exact h q
    | cons q => cases q
theorem g35_is (c : Nat) (σ : Store) : g35 [.d (.str ⟨⟨[c]⟩⟩)] σ = some (.d (.bool (decide (65 ≤ c ∧ c ≤ 90)))) := by
  unfold g35 runP c_is_upper
  simp only [List.length_cons, List.length_nil, Nat.zero_add, if_true, eqS_done, eqS_asg, eqS_ife, eqS_for1, eqS_ret, eqS_retN, eve_var, eve_cel, eve_glob, eve_k, eve_bin, eve_neg, eve_notE, eve_and, eve_or, eve_ite, eve_cmp, eve_chain, eve_attr, eve_sub, eve_slc, eve_tup, eve_lst, eve_call, eve_mcall, eve_bi, eve_meth, eve_join, eve_rng, eve_comp, eve_hin, eve_hat, lo0, List.map, List.replicate, List.append_nil, List.getElem?_cons_zero]
  have e1 : cmpA σ .LtE (.d (.str (q [65]))) (.d (.str ⟨⟨[c]⟩⟩)) = some (!(decide (c < 65))) := by
    show some (!(decide (([c] : List Nat) < [65]))) = _; rw [lt_one]
  have e2 : cmpA σ .LtE (.d (.str ⟨⟨[c]⟩⟩)) (.d (.str (q [90]))) = some (!(decide (90 < c))) := by
    show some (!(decide (([90] : List Nat) < [c]))) = _; rw [lt_one]
  rw [e1]
  by_cases h1 : c < 65
  · have hf : decide (65 ≤ c ∧ c ≤ 90) = false := decide_eq_false (by omega)
    rw [hf]
    simp [h1, Out.val]
  · simp only [h1, decide_false, Bool.not_false, e2, Option.map_some, Out.val]
    congr 3
    by_cases h2 : 90 < c
    · simp [h2]; try omega
    · simp [h2]; try omega
theorem chrA_int (i : Int) : chrA (.d (.int i)) = if 0 ≤ i ∧ i.toNat ≤ 500 then some (.str ⟨#[i.toNat]⟩) else none := by unfold chrA; rfl
theorem chrA_nat (c : Nat) (hc : c < 400) : chrA (.d (.int ((c : Int) + 32))) = some (.str ⟨⟨[c + 32]⟩⟩) := by
  rw [chrA_int]
  have : ((c : Int) + 32).toNat = c + 32 := by omega
  rw [this]
  exact if_pos ⟨by omega, by omega⟩
theorem I1_35 (as : List AV) (σ : Store) : I1 35 as σ = g35 as σ := by simp only [I1, addT, Nat.reduceEqDiff, if_false, if_true]
noncomputable def g42 := runP I1 c_lower 0 1
theorem g42_is (c : Nat) (hc : c < 400) (σ : Store) : g42 [.d (.str ⟨⟨[c]⟩⟩)] σ = some (.d (.str ⟨⟨[lowerC c]⟩⟩)) := by
  have e0 : I1 35 [.d (.str ⟨⟨[c]⟩⟩)] σ = some (.d (.bool (decide (65 ≤ c ∧ c ≤ 90)))) := by rw [I1_35, g35_is]
  unfold g42 runP c_lower
  simp only [List.length_cons, List.length_nil, Nat.zero_add, if_true, eqS_done, eqS_asg, eqS_ife, eqS_for1, eqS_ret, eqS_retN, eve_var, eve_cel, eve_glob, eve_k, eve_bin, eve_neg, eve_notE, eve_and, eve_or, eve_ite, eve_cmp, eve_chain, eve_attr, eve_sub, eve_slc, eve_tup, eve_lst, eve_call, eve_mcall, eve_bi, eve_meth, eve_join, eve_rng, eve_comp, eve_hin, eve_hat, evs_nil, evs_cons, lo0, List.map, List.replicate, List.append_nil, List.getElem?_cons_zero, Option.bind_some, e0, tru, Nat.reduceLeDiff]
  unfold lowerC
  by_cases h : 65 ≤ c ∧ c ≤ 90
  · have e1 : chrA (.d (.int ((c : Int) + 32))) = some (.str ⟨⟨[c + 32]⟩⟩) := chrA_nat c hc
    simp only [h, and_self, decide_true, Option.bind_some, biA, ordA, Option.map_some, binA, ints2, e1, if_true, Out.val]
  · simp only [h, decide_false, if_false, Out.val]

noncomputable def g77 := runP I1 c_is_breakout 2 1
noncomputable def g105 := runP I1 c_is_script_end 1 2
noncomputable def I2 : Tab := addT (addT (addT (addT (addT I1 42 g42) 77 g77) 105 g105) 450 g450) 533 g533
theorem Fewer.setN {σ : Store} {a : Addr} {o : AO} (h : σ a = none) : Fewer σ (σ.set a o) := fun b x e => by
  have : b ≠ a := fun q => by rw [q, h] at e; cases e
  rw [Store.set_ne _ _ this]; exact e
theorem instA_mono {σ τ : Store} {c : Addr} {v : AV} {as : List AV} (k : Fewer σ τ) (h : instA σ c v = some as) : instA τ c v = some as := by
  obtain ⟨x, dx, rfl, h1, h2⟩ := instA_some h
  exact instA_of (k _ _ h1) (k _ _ h2)
theorem attrA_mono {σ τ : Store} {c : Addr} {i : Nat} {v a : AV} (k : Fewer σ τ) (h : attrA σ c i v = some a) : attrA τ c i v = some a := by
  unfold attrA at h ⊢
  split at h
  · rename_i as h1; rw [instA_mono k h1]; exact h
  · cases h
theorem seqOf_mono {σ τ : Store} {v : AV} {xs : List AV} (k : Fewer σ τ) (h : seqOf σ v = some xs) : seqOf τ v = some xs := by
  unfold seqOf at h ⊢
  split at h
  · exact h
  · exact h
  · rename_i a
    split at h
    · rename_i ys h1; simp only [k _ _ h1]; exact h
    · cases h
  · cases h
theorem subA_mono {σ τ : Store} {v w a : AV} (k : Fewer σ τ) (h : subA σ v w = some a) : subA τ v w = some a := by
  unfold subA at h ⊢
  split at h
  · rename_i xs i h1; rw [seqOf_mono k h1]; exact h
  · cases h

section
variable {C : Cfg} {n : Nat} {I : Tab} {Q : PostS} {σ : Store}
theorem asg_pe {e : CE} {a : AV} {r : CS} {cs : List Addr} {l : Lo} {i : Nat} (h : ev I σ e l cs = some a) (k : wpS C n I r cs (l.set i (some a)) σ Q) : wpS C n I (.asg i (.pe e) r) cs l σ Q := by
  rw [wpS_asg, wpX_pe, h]; exact k
theorem ret_pe {e : CE} {a : AV} {cs : List Addr} {l : Lo} (h : ev I σ e l cs = some a) (k : Q (.ret a) l σ) : wpS C n I (.ret (.pe e)) cs l σ Q := by
  rw [wpS_ret, wpX_pe, h]; exact k
theorem addM_step {a b : CE} {x y : AV} {xs ys : List AV} {r : CS} {cs : List Addr} {l : Lo} {i : Nat} (ha : ev I σ a l cs = some x) (hb : ev I σ b l cs = some y) (h1 : listOf? σ x = some xs) (h2 : listOf? σ y = some ys) (hz : xs.length + ys.length ≤ 10000)
    (k : ∀ c, σ c = none → wpS C n I r cs (l.set i (some (.ref c))) (σ.set c (.list (xs ++ ys))) Q) : wpS C n I (.asg i (.addM a b) r) cs l σ Q := by
  rw [wpS_asg, wpX_addM]
  simp only [ha, hb, h1, h2]
  exact ⟨by rw [sz]; omega, k⟩
theorem for_step {it : CE} {x : AV} {items : List AV} {b r : CS} {cs : List Addr} {l : Lo} {i : Nat} (h : ev I σ it l cs = some x) (h1 : iterA x = some items) (k : forP (fun a l τ K => wpS C n I b cs (l.set i (some a)) τ K) items l σ (thenS (fun l τ => wpS C n I r cs l τ Q) Q)) : wpS C n I (.for1 i it b r) cs l σ Q := by
  rw [wpS_for1]
  simp only [h, h1]
  exact k
theorem app_var {o e : CE} {a : Addr} {v : AV} {xs : List AV} {r : CS} {cs : List Addr} {l : Lo} (ho : ev I σ o l cs = some (.ref a)) (h : σ a = some (.list xs)) (he : ev I σ e l cs = some v) (hz : xs.length ≤ 10000) (k : wpS C n I r cs l (σ.set a (.list (xs ++ [v]))) Q) : wpS C n I (.exp (.append o (.pe e)) r) cs l σ Q := by
  rw [wpS_exp, wpX_append]
  rw [ho]
  refine ⟨⟨_, h⟩, ?_⟩
  rw [wpX_pe]
  rw [he]
  exact ⟨xs, h, by rw [sz]; omega, rfl, k⟩
theorem add_ref {a b : CE} {c : Addr} {xs : List AV} {ys zs : List PyData} {l : Lo} {cs : List Addr} (ha : ev I σ a l cs = some (.ref c)) (h : σ c = some (.list (xs))) (hx : xs = zs.map .d) (hb : ev I σ b l cs = some (.d (.list ys))) (hz : zs.length + ys.length ≤ 10000) : ev I σ (.bin .Add a b) l cs = some (.d (.list (zs ++ ys))) := by
  subst hx
  rw [eve_bin]
  rw [ha, hb]
  have e1 : binA σ .Add (.ref c) (.d (.list ys)) = addLists σ (.ref c) (.d (.list ys)) := rfl
  simp only [e1]
  unfold addLists
  rw [listOf_ref h]
  simp only [listOf?]
  rw [if_pos (by rw [List.length_map, List.length_map, sz]; omega), ← List.map_append, allD_map]
  rfl
theorem add_dd {a b : CE} {xs ys : List PyData} {l : Lo} {cs : List Addr} (ha : ev I σ a l cs = some (.d (.list xs))) (hb : ev I σ b l cs = some (.d (.list ys))) (hz : xs.length + ys.length ≤ 10000) : ev I σ (.bin .Add a b) l cs = some (.d (.list (xs ++ ys))) := by
  rw [eve_bin]
  rw [ha, hb]
  have e1 : binA σ .Add (.d (.list xs)) (.d (.list ys)) = addLists σ (.d (.list xs)) (.d (.list ys)) := rfl
  simp only [e1]
  unfold addLists
  simp only [listOf?]
  rw [if_pos (by rw [List.length_map, List.length_map, sz]; omega), ← List.map_append, allD_map]
  rfl
end
section
variable {C : Cfg} (H : KOk C) {n : Nat} {Q : AV → Store → Prop} {σ : Store}
include H
theorem fun_Z {I : Tab} (hI : IOk C n I) {f : Addr} {x : Fun} {pn : List Str} {cx : Cx} {c : CS} {m : Nat} {as : List AV}
    (hf : FnOk C f x.body x.scope pn ∧ ∀ as : List AV, as.length = pn.length → Binds C f pn as as) (hcx : cxOk cx x.scope pn = true) (hchk : chkS tb c cx x.body = true) (hlen : pn.length = as.length) (hc : cx.cells = []) (hl : initL cx pn as = lo0 as m)
    (w : wpS C n I c [] (lo0 as m) σ (fun o _ τ => retZ Q o.val τ)) : TCc C (n + 1) (.ref f) as σ Q := by
  refine TC_funZ H.tab hI hf.1 (CxOk.of hcx) hchk (hf.2 as hlen.symm) hlen hl.symm rfl fun cs h1 _ _ => ?_
  have := cells_nil hc h1
  subst this
  exact w
theorem above_T {as : List AV} {a : AV} (h : g450 as σ = some a) : TC C 1 (.ref 450) as σ (Is a σ) := by
  unfold g450 at h
  split at h
  · rename_i t k
    split at h
    · rename_i p h1
      split at h
      · rename_i i h2
        split at h
        · rename_i h3
          subst h3
          cases h
          refine (fun_Z H (I0_ok C) (H.fnI 24 rfl) o_above k_above rfl rfl (m := 2) rfl ?_).tc
          unfold c_above
          simp only [wpS_done, wpS_asg, wpS_asgC, wpS_setA, wpS_setS, wpS_dec, wpS_exp, wpS_ife, wpS_ifn, wpS_whl, wpS_for1, wpS_ret, wpS_retN, wpX_pe, wpX_listM, wpX_sliceM, wpX_call, wpX_mcall, wpX_vcall, wpX_append, wpX_pop, wpX_insert, wpX_dct, wpX_dct0, wpX_compM, wpX_iteX, wpX_addM, wpX_call1, eve_var, eve_cel, eve_glob, eve_k, eve_bin, eve_neg, eve_notE, eve_and, eve_or, eve_ite, eve_cmp, eve_chain, eve_attr, eve_sub, eve_slc, eve_tup, eve_lst, eve_call, eve_mcall, eve_bi, eve_meth, eve_join, eve_rng, eve_comp, eve_hin, eve_hat, evs_nil, evs_cons, lo0, List.map, List.replicate, List.cons_append, List.nil_append, List.getElem?_cons_zero, List.getElem?_cons_succ, List.set_cons_succ, List.set_cons_zero, List.length_nil, Nat.zero_le, true_and]
          intro c hc
          have k1 := Fewer.setN (o := .list []) hc
          simp only [Option.bind_some, attrA_mono k1 h1, subA_mono k1 h2]
          refine ⟨1, ?_⟩
          have e1 : cmpA (σ.set c (.list [])) .NotEq (.d (.int (-1))) (.d (.int (-1))) = some false := rfl
          simp only [whlP, negA, Option.bind_some, e1, Option.map_some, tru, thenS]
          exact ⟨c, [], [], σ, rfl, Store.set_self .., rfl, k1, hc, rfl, rfl⟩
        · cases h
      · cases h
    · cases h
  · cases h
theorem shapes_T {as : List AV} {a : AV} (h : g533 as σ = some a) : TC C 1 (.ref 533) as σ (Is a σ) := by
  unfold g533 at h
  split at h
  · cases h
    refine (fun_E H (I0_ok C) (H.fnI 30 rfl) o_law_shapes k_law_shapes rfl rfl (m := 2) rfl ?_).tc
    unfold c_law_shapes
    refine asg_pe (a := .d (.list (shapesL.take 4))) rfl ?_
    refine addM_step (x := .d (.list (shapesL.take 4))) (y := .d (.list ((shapesL.drop 4).take 4))) rfl rfl rfl rfl (by decide) fun c hc => ?_
    refine for_step (x := .d (.tuple [.str (q [84, 101, 120, 116, 47, 72, 84, 77, 76]), .str (q [97, 112, 112, 108, 105, 99, 97, 116, 105, 111, 110, 47, 88, 72, 84, 77, 76, 43, 120, 109, 108]), .str (q [116, 101, 120, 116, 47, 104, 116, 109]), .str (q [])])) rfl rfl ?_
    have fw : ∀ o, Fewer σ (σ.set c o) := fun o => Fewer.setN hc
    generalize hx0 : (List.map AV.d (List.take 4 shapesL) ++ List.map AV.d (List.take 4 (List.drop 4 shapesL))) = x0
    have hl0 : x0 = (shapesL.take 8).map .d := by rw [← hx0]; rfl
    refine app_var (a := c) (xs := x0) (v := .d (shapesL.getD 8 .none)) rfl (Store.set_self ..) rfl (by rw [hl0]; decide) ?_
    rw [Store.set_set]
    change forP _ _ _ _ _
    refine app_var (a := c) (xs := x0 ++ [.d (shapesL.getD 8 .none)]) (v := .d (shapesL.getD 9 .none)) rfl (Store.set_self ..) rfl (by rw [hl0]; decide) ?_
    rw [Store.set_set]
    change forP _ _ _ _ _
    refine app_var (a := c) (xs := x0 ++ [.d (shapesL.getD 8 .none)] ++ [.d (shapesL.getD 9 .none)]) (v := .d (shapesL.getD 10 .none)) rfl (Store.set_self ..) rfl (by rw [hl0]; decide) ?_
    rw [Store.set_set]
    change forP _ _ _ _ _
    refine app_var (a := c) (xs := x0 ++ [.d (shapesL.getD 8 .none)] ++ [.d (shapesL.getD 9 .none)] ++ [.d (shapesL.getD 10 .none)]) (v := .d (shapesL.getD 11 .none)) rfl (Store.set_self ..) rfl (by rw [hl0]; decide) ?_
    rw [Store.set_set]
    change wpS C 0 I0 _ [] _ _ _
    generalize hx1 : x0 ++ [AV.d (shapesL.getD 8 .none)] ++ [AV.d (shapesL.getD 9 .none)] ++ [AV.d (shapesL.getD 10 .none)] ++ [AV.d (shapesL.getD 11 .none)] = x1
    have hl1 : x1 = (shapesL.take 12).map .d := by rw [← hx1, hl0]; rfl
    refine asg_pe (add_ref (c := c) (xs := x1) (zs := shapesL.take 12) (ys := (shapesL.drop 12).take 2) rfl (Store.set_self ..) hl1 rfl (by decide)) ?_
    refine asg_pe (add_dd (xs := shapesL.take 12 ++ (shapesL.drop 12).take 2) (ys := (shapesL.drop 14).take 4) rfl rfl (by decide)) ?_
    refine asg_pe (add_dd (xs := shapesL.take 12 ++ (shapesL.drop 12).take 2 ++ (shapesL.drop 14).take 4) (ys := (shapesL.drop 18).take 7) rfl rfl (by decide)) ?_
    refine ret_pe (add_dd (xs := shapesL.take 12 ++ (shapesL.drop 12).take 2 ++ (shapesL.drop 14).take 4 ++ (shapesL.drop 18).take 7) (ys := (shapesL.drop 25)) rfl rfl (by decide)) ?_
    exact ⟨σ, fw _, rfl, rfl⟩
  · cases h
theorem I2_ok : IOk C 2 I2 := by
  have T := H.tab
  have h0 := (I1_ok H).up (Nat.le_succ 1)
  refine ((((h0.add ?_ ?_).add ?_ ?_).add ?_ ?_).add ?_ ?_).add ?_ ?_
  all_goals first | decide | skip
  · exact fun as σ a e => TC_pure (I1_ok H) T (H.fnI 2 rfl) o_lower k_lower rfl rfl (fun as h => by obtain ⟨x, rfl⟩ := len1 h; rfl) e
  · exact fun as σ a e => TC_pure (I1_ok H) T (H.fnI 7 rfl) o_is_breakout k_is_breakout rfl rfl (fun as h => by obtain ⟨x, rfl⟩ := len1 h; rfl) e
  · exact fun as σ a e => TC_pure (I1_ok H) T (H.fnI 11 rfl) o_is_script_end k_is_script_end rfl rfl (fun as h => by obtain ⟨x, y, rfl⟩ := len2 h; rfl) e
  · exact fun as σ a e => (above_T H e).le (by omega)
  · exact fun as σ a e => (shapes_T H e).le (by omega)
end
end Mine
end

section
set_option maxRecDepth 100000
namespace Mine

noncomputable def chr1 (c : Nat) : AV := .d (.str ⟨⟨[c]⟩⟩)
theorem I2_42 (as : List AV) (σ : Store) : I2 42 as σ = g42 as σ := by simp only [I2, addT, Nat.reduceEqDiff, if_false, if_true]
theorem join_chars (cs : List Nat) : PySem.Txt.join (q []) (cs.map fun c => ⟨⟨[c]⟩⟩) = ⟨⟨cs⟩⟩ := by
  have h := join_closes (sep := q []) (sep' := q []) (ys := cs.map fun c => (⟨⟨[c]⟩⟩ : Str)) rfl
  rw [beq_iff_eq] at h
  rw [h]
  exact join_nil_signs ⟨⟨cs⟩⟩
section
variable {C : Cfg} (H : KOk C) {n : Nat} {Q : AV → Store → Prop} {σ : Store}
include H
omit H in
theorem lower_loop {c : Addr} {K : PostS} {tx : AV} : ∀ (cs : List Nat) (acc : List Nat) (x : Option AV), cs.all (· < 400) = true → acc.length + cs.length ≤ 1000 →
    (∀ x, K .next [some tx, some (.ref c), x] (σ.set c (.list ((acc ++ cs.map lowerC).map chr1)))) →
    forP (fun a l τ K => wpS C 2 I2 (.exp (.append (.var 1) (.pe (.call 42 (.cons (.var 2) .nil)))) .done) [] (l.set 2 (some a)) τ K) (cs.map chr1) [some tx, some (.ref c), x] (σ.set c (.list (acc.map chr1))) K
  | [], acc, x, _, _, k => by
    have := k x
    rw [List.map_nil, List.append_nil] at this
    exact this
  | a :: r, acc, x, h, hz, k => by
    rw [List.all_cons, Bool.and_eq_true] at h
    simp only [List.length_cons] at hz
    have ha : a < 400 := of_decide_eq_true h.1
    have e1 : ev I2 (σ.set c (.list (acc.map chr1))) (.call 42 (.cons (.var 2) .nil)) [some tx, some (.ref c), some (chr1 a)] [] = some (chr1 (lowerC a)) := by
      simp only [eve_var, eve_cel, eve_glob, eve_k, eve_bin, eve_neg, eve_notE, eve_and, eve_or, eve_ite, eve_cmp, eve_chain, eve_attr, eve_sub, eve_slc, eve_tup, eve_lst, eve_call, eve_mcall, eve_bi, eve_meth, eve_join, eve_rng, eve_comp, eve_hin, eve_hat, evs_nil, evs_cons, List.getElem?_cons_zero, List.getElem?_cons_succ, Nat.reduceLeDiff, if_true, Option.bind_some, I2_42]
      exact g42_is a ha _
    show wpS C 2 I2 _ [] [some tx, some (.ref c), some (chr1 a)] _ _
    refine app_var (a := c) (xs := acc.map chr1) (v := chr1 (lowerC a)) rfl (Store.set_self ..) e1 (by rw [List.length_map]; omega) ?_
    rw [Store.set_set]
    change forP _ _ _ _ _
    have ea : acc.map chr1 ++ [chr1 (lowerC a)] = (acc ++ [lowerC a]).map chr1 := by simp
    rw [ea]
    refine lower_loop r (acc ++ [lowerC a]) (some (chr1 a)) h.2 (by simp; omega) fun x => ?_
    have := k x
    rw [List.map_cons] at this
    simpa using this
theorem lower_T {as : List AV} {a : AV} (h : g49 as σ = some a) : TC C 3 (.ref 49) as σ (Is a σ) := by
  unfold g49 at h
  split at h
  · rename_i x
    split at h
    · rename_i hz
      cases h
      refine (fun_E H (I2_ok H) (H.fnI 3 rfl) o_lower_text k_lower_text rfl rfl (m := 2) rfl ?_).tc
      unfold c_lower_text
      rw [wpS_asg, wpX_listM]
      refine ⟨Nat.zero_le _, fun c hc => ?_⟩
      have hsz : x.cps.size ≤ 1000 := hz.1
      have hl : x.cps.toList.length ≤ 1000 := by have := hz.1; simpa [PySem.Str.length] using this
      refine for_step (x := .d (.str x)) (items := x.cps.toList.map chr1) rfl ?_ ?_
      · show (if x.length ≤ sizeLine then some _ else none) = _
        rw [if_pos (Nat.le_trans hz.1 (by decide))]; rfl
      · refine lower_loop x.cps.toList [] none hz.2 (by simpa using hl) fun y => ?_
        have e1 : joinA (σ.set c (.list (([] ++ x.cps.toList.map lowerC).map chr1))) (q []) (.ref c) = some (.str (lowerS x)) := by
          unfold joinA
          rw [listOf_ref (Store.set_self ..)]
          have e2 : allD (([] ++ x.cps.toList.map lowerC).map chr1) = some ((x.cps.toList.map lowerC).map fun c => .str ⟨⟨[c]⟩⟩) := by
            have := allD_map ((x.cps.toList.map lowerC).map fun c => PyData.str ⟨⟨[c]⟩⟩)
            rw [List.map_map] at this
            exact this
          have e3 : strsD ((x.cps.toList.map lowerC).map fun c => PyData.str ⟨⟨[c]⟩⟩) = some ((x.cps.toList.map lowerC).map fun c => ⟨⟨[c]⟩⟩) := by
            have := strsD_map ((x.cps.toList.map lowerC).map fun c => (⟨⟨[c]⟩⟩ : Str))
            rw [List.map_map] at this
            exact this
          simp only [e2, e3]
          have e4 : ∀ l : List Nat, ((l.map fun c => (⟨⟨[c]⟩⟩ : Str)).map (·.length)).sum = l.length := by
            intro l
            induction l with
            | nil => rfl
            | cons a r ih => rw [List.map_cons, List.map_cons, List.sum_cons, ih, List.length_cons]; show 1 + _ = _; omega
          rw [if_pos (by rw [e4]; simp [PySem.Str.length]; omega), join_chars]
          rfl
        show wpS C 2 I2 (.ret _) [] _ _ _
        refine ret_pe (a := .d (.str (lowerS x))) ?_ ⟨σ, Fewer.setN hc, rfl, rfl⟩
        show (ev I2 _ (.var 1) _ []).bind _ = _
        show Option.map AV.d (joinA _ (q []) (.ref c)) = _
        rw [e1]; rfl
    · cases h
  · cases h

noncomputable def g63 := runP (addT I2 49 g49) c_is_html_point 1 2
noncomputable def I3 : Tab := addT I2 49 g49
noncomputable def I4 : Tab := addT I3 63 g63
noncomputable def g84 := runP I4 c_holds_html 0 2
noncomputable def I5 : Tab := addT I4 84 g84
theorem I3_ok : IOk C 3 I3 := ((I2_ok H).up (by omega)).add (by decide) fun as σ a e => lower_T H e
theorem I4_ok : IOk C 4 I4 := ((I3_ok H).up (by omega)).add (by decide) fun as σ a e => TC_pure (I3_ok H) H.tab (H.fnI 5 rfl) o_is_html_point k_is_html_point rfl rfl (fun as h => by obtain ⟨x, y, rfl⟩ := len2 h; rfl) e
theorem I5_ok : IOk C 5 I5 := ((I4_ok H).up (by omega)).add (by decide) fun as σ a e => TC_pure (I4_ok H) H.tab (H.fnI 8 rfl) o_holds_html k_holds_html rfl rfl (fun as h => by obtain ⟨x, y, rfl⟩ := len2 h; rfl) e
end
end Mine
end

section
set_option maxRecDepth 100000
namespace Mine

section
variable {C : Cfg} {n : Nat} {I : Tab} {Q : PostS} {σ : Store}
theorem ife_step {t : CE} {a b r : CS} {cs : List Addr} {l : Lo} (v : Bool) (h : tru (ev I σ t l cs) = some v) (k : wpS C n I (if v then a else b) cs l σ (thenS (fun l τ => wpS C n I r cs l τ Q) Q)) : wpS C n I (.ife t a b r) cs l σ Q := by
  rw [wpS_ife]
  rw [h]
  cases v <;> exact k
theorem ife_skip {t : CE} {a r : CS} {cs : List Addr} {l : Lo} (h : tru (ev I σ t l cs) = some false) (k : wpS C n I r cs l σ Q) : wpS C n I (.ife t a .done r) cs l σ Q := ife_step false h k
theorem call_step {x : XE} {r : CS} {cs : List Addr} {l : Lo} (h : wpX C n I x l cs σ fun a τ => atomA a = true ∧ wpS C n I r cs l τ Q) : wpS C n I (.exp x r) cs l σ Q := by rw [wpS_exp]; exact h
theorem mcall_is {c f : Addr} {e es : CE} {l : Lo} {cs : List Addr} {v : AV} {ns as : List AV} {P : AV → Store → Prop} (h1 : ev I σ e l cs = some v) (h2 : instA σ c v = some ns) (h3 : evs I σ es l cs = some as) (h : TC C n (.ref f) (v :: as) σ P) : wpX C n I (.mcall c f e es) l cs σ P := by
  rw [wpX_mcall]
  simp only [h1, h2, h3]
  exact h
theorem call_is {f : Addr} {es : CE} {l : Lo} {cs : List Addr} {as : List AV} {P : AV → Store → Prop} (h3 : evs I σ es l cs = some as) (h : TC C n (.ref f) as σ P) : wpX C n I (.call f es) l cs σ P := by
  rw [wpX_call]
  simp only [h3]
  exact h
end
theorem eq_int (σ : Store) (a b : Int) : cmpA σ .Eq (.d (.int a)) (.d (.int b)) = some (a == b) := rfl
theorem ne_int (σ : Store) (a b : Int) : cmpA σ .NotEq (.d (.int a)) (.d (.int b)) = some (!(a == b)) := rfl
theorem zip_at {cl : List Addr} {chs : List (List PyData)} {R : List (Addr × AO)} {i : Nat} {c : Addr} {x : List PyData} (h1 : cl[i]? = some c) (h2 : chs[i]? = some x) : (cl.zip (chs.map dl) ++ R)[i]? = some (c, dl x) := by
  have hz : (cl.zip (chs.map dl))[i]? = some (c, dl x) := by
    rw [List.getElem?_zip_eq_some, List.getElem?_map, h2]; exact ⟨h1, rfl⟩
  rw [List.getElem?_append_left (List.getElem?_eq_some_iff.mp hz).1]
  exact hz
theorem zip_set {cl : List Addr} {chs : List (List PyData)} {R : List (Addr × AO)} {i : Nat} {c : Addr} {x y : List PyData} (h1 : cl[i]? = some c) (h2 : chs[i]? = some x) : (cl.zip (chs.map dl) ++ R).set i (c, dl y) = cl.zip ((chs.set i y).map dl) ++ R := by
  have hz : (cl.zip (chs.map dl))[i]? = some (c, dl x) := by
    rw [List.getElem?_zip_eq_some, List.getElem?_map, h2]; exact ⟨h1, rfl⟩
  rw [List.set_append_left _ _ (List.getElem?_eq_some_iff.mp hz).1]
  congr 1
  apply List.ext_getElem?
  intro j
  rw [List.getElem?_set]
  by_cases q : i = j
  · subst q
    rw [if_pos rfl, if_pos (List.getElem?_eq_some_iff.mp hz).1]
    symm
    rw [List.getElem?_zip_eq_some, List.getElem?_map, List.getElem?_set_self (List.getElem?_eq_some_iff.mp h2).1]
    exact ⟨h1, rfl⟩
  · rw [if_neg q, List.map_set, List.zip, List.getElem?_zipWith, List.getElem?_zipWith, List.getElem?_set_ne q]
theorem tree_at (A : TA) (S : TS) (R : List (Addr × AO)) (p : Nat) : (treeE A S R)[9 + p]? = (S.cl.zip (S.chs.map dl) ++ R)[p]? := by
  rw [show 9 + p = p + 1 + 1 + 1 + 1 + 1 + 1 + 1 + 1 + 1 by omega]; rfl
noncomputable def TS.link (S : TS) (p v : Nat) : TS := { S with parents := S.parents.set v (.int p), chs := S.chs.set p [.int v] }
theorem TS.Ok.link {S : TS} {m : Nat} (h : S.Ok m) (p v : Nat) : (S.link p v).Ok m := by
  unfold TS.link
  exact ⟨h.hk, h.hs, h.hn, h.ha, h.hx, by simp [h.hp], h.hl, by simp [h.hc]⟩

section
variable {C : Cfg} (H : KOk C) {n : Nat} {Q : AV → Store → Prop} {σ : Store}
include H
theorem element_T {A : TA} {S : TS} {R : List (Addr × AO)} {m : Nat} {space name : PyData} {attrs : List PyData}
    (h : Has σ (treeE A S R)) (ok : S.Ok m) (hm : m ≤ 100) (hz : attrs.length ≤ 1000) (e1 : ∀ τ, ∃ b, cmpA τ .Eq (.d space) (.d (.str (q [104, 116, 109, 108]))) = some b) (e2 : ∀ τ, cmpA τ .Eq (.d name) (.d (.str (q [116, 101, 109, 112, 108, 97, 116, 101]))) = some false)
    (k : ∀ σ' c, Has σ' (treeE A (S.add (.str (q [101, 108, 101, 109, 101, 110, 116])) space name attrs (.str (q [])) c) R) → Q (.d (.int m)) σ') : TC C 2 (.ref 358) [.ref A.t, .d name, .d space, .d (.tuple attrs)] σ Q := by
  refine (fun_E H ((I0_ok C).up (Nat.zero_le 1)) (H.fnI 19 rfl) o_Tree_element k_Tree_element rfl rfl (m := 1) rfl ?_).tc
  unfold c_Tree_element
  rw [wpS_asg]
  refine mcall_is (as := [.d (.str (q [101, 108, 101, 109, 101, 110, 116])), .d space, .d name, .d (.tuple attrs)]) rfl (instA_of (h.get 0 rfl) (h.get 1 rfl)) rfl (add_T H (H.add5 _ _ _ _ _) h ok hm hz fun σ' c h' => ?_)
  refine ife_skip ?_ ?_
  · obtain ⟨b, eb⟩ := e1 σ'
    have e3 := e2 σ'
    simp only [eve_var, eve_cel, eve_glob, eve_k, eve_bin, eve_neg, eve_notE, eve_and, eve_or, eve_ite, eve_cmp, eve_chain, eve_attr, eve_sub, eve_slc, eve_tup, eve_lst, eve_call, eve_mcall, eve_bi, eve_meth, eve_join, eve_rng, eve_comp, eve_hin, eve_hat, lo0, List.map, List.replicate, List.cons_append, List.nil_append, List.getElem?_cons_zero, List.getElem?_cons_succ, List.set_cons_succ, List.set_cons_zero, eb, e3, Option.map_some, tru]
    cases b <;> rfl
  · exact ret_pe (a := .d (.int m)) rfl ⟨σ', Fewer.refl _, k σ' c h'⟩
theorem remove_T {A : TA} {S : TS} {R : List (Addr × AO)} {m v : Nat} (h : Has σ (treeE A S R)) (ok : S.Ok m) (hm : m ≤ 100) (hv : S.parents[v]? = some (.int (-1))) (k : Q (.d .none) σ) : TC C 1 (.ref 401) [.ref A.t, .d (.int v)] σ Q := by
  refine (fun_E H (I0_ok C) (H.fnI 22 rfl) o_Tree_remove k_Tree_remove rfl rfl (m := 0) rfl ?_).tc
  unfold c_Tree_remove
  refine ife_skip ?_ ⟨σ, Fewer.refl _, k⟩
  have a1 : attrA σ 439 5 (.ref A.t) = some (.ref A.p) := attrA_of (h.get 0 rfl) (h.get 1 rfl) rfl rfl
  have a2 : subA σ (.ref A.p) (.d (.int v)) = some (.d (.int (-1))) := subA_nat (xs := S.parents.map .d) (i := v) (seqOf_ref (h.get 7 rfl)) rfl (by rw [List.length_map, ok.hp]; omega) (by rw [List.getElem?_map, hv]; rfl)
  simp only [eve_var, eve_cel, eve_glob, eve_k, eve_bin, eve_neg, eve_notE, eve_and, eve_or, eve_ite, eve_cmp, eve_chain, eve_attr, eve_sub, eve_slc, eve_tup, eve_lst, eve_call, eve_mcall, eve_bi, eve_meth, eve_join, eve_rng, eve_comp, eve_hin, eve_hat, lo0, List.map, List.replicate, List.append_nil, List.getElem?_cons_zero, List.getElem?_cons_succ, Option.bind_some, a1, a2, negA, ne_int, Option.map_some, tru]
  rfl
omit H in
theorem I2_450 (as : List AV) (σ : Store) : I2 450 as σ = g450 as σ := by simp only [I2, addT, Nat.reduceEqDiff, if_false, if_true]
theorem insert_T {A : TA} {S : TS} {R : List (Addr × AO)} {m p v : Nat} {c : Addr} (h : Has σ (treeE A S R)) (ok : S.Ok m) (hm : m ≤ 100) (hpv : p ≠ v) (hp : S.parents[p]? = some (.int (-1))) (hv : S.parents[v]? = some (.int (-1))) (hc : S.cl[p]? = some c) (hch : S.chs[p]? = some [])
    (k : ∀ σ', Has σ' (treeE A (S.link p v) R) → Q (.d .none) σ') : TC C 3 (.ref 387) [.ref A.t, .d (.int p), .d (.int v)] σ Q := by
  refine (fun_W H (I2_ok H) (H.fnI (f := 387) (x := x_Tree_insert) (pn := p_Tree_insert) 20 rfl).1 (H.ins3 (.ref A.t) (.d (.int p)) (.d (.int v))) o_Tree_insert k_Tree_insert rfl rfl (m := 1) rfl ?_).tc
  unfold c_Tree_insert
  have hv' : v < S.parents.length := (List.getElem?_eq_some_iff.mp hv).1
  have a5 : attrA σ 439 5 (.ref A.t) = some (.ref A.p) := attrA_of (h.get 0 rfl) (h.get 1 rfl) rfl rfl
  have a6 : attrA σ 439 6 (.ref A.t) = some (.ref A.c) := attrA_of (h.get 0 rfl) (h.get 1 rfl) rfl rfl
  have s5 : subA σ (.ref A.p) (.d (.int p)) = some (.d (.int (-1))) := subA_nat (xs := S.parents.map .d) (i := p) (seqOf_ref (h.get 7 rfl)) rfl (by rw [List.length_map, ok.hp]; omega) (by rw [List.getElem?_map, hp]; rfl)
  have s6 : subA σ (.ref A.c) (.d (.int p)) = some (.ref c) := subA_nat (xs := S.cl.map .ref) (i := p) (seqOf_ref (h.get 8 rfl)) rfl (by rw [List.length_map, ok.hl]; omega) (by rw [List.getElem?_map, hc]; rfl)
  have gc : σ c = some (dl []) := h.get (9 + p) ((tree_at A S R p).trans (zip_at hc hch))
  have lc : lenA σ (.ref c) = some (.int 0) := lenA_ref (xs := []) gc (by simp)
  have ab : I2 450 [.ref A.t, .d (.int p)] σ = some (.d (.list [])) := by
    rw [I2_450]; unfold g450; simp only [a5, s5, if_true]
  have n1 : ((v : Int) == (p : Int)) = false := by
    rw [beq_eq_false_iff_ne]; intro e; exact hpv (Int.ofNat.inj e).symm
  have n2 : (((-1 : Int)) == (v : Int)) = false := by rw [beq_eq_false_iff_ne]; omega
  have in0 : cmpA σ .In (.d (.int v)) (.d (.list [])) = some false := rfl
  refine ife_skip ?_ ?_
  · simp only [eve_var, eve_cel, eve_glob, eve_k, eve_bin, eve_neg, eve_notE, eve_and, eve_or, eve_ite, eve_cmp, eve_chain, eve_attr, eve_sub, eve_slc, eve_tup, eve_lst, eve_call, eve_mcall, eve_bi, eve_meth, eve_join, eve_rng, eve_comp, eve_hin, eve_hat, evs_nil, evs_cons, lo0, List.map, List.replicate, List.cons_append, List.nil_append, List.getElem?_cons_zero, List.getElem?_cons_succ, eq_int, n1, Option.map_some, tru, Nat.reduceLeDiff, if_true, Option.bind_some, ab, in0]
  refine ife_skip ?_ ?_
  · simp only [eve_var, eve_cel, eve_glob, eve_k, eve_bin, eve_neg, eve_notE, eve_and, eve_or, eve_ite, eve_cmp, eve_chain, eve_attr, eve_sub, eve_slc, eve_tup, eve_lst, eve_call, eve_mcall, eve_bi, eve_meth, eve_join, eve_rng, eve_comp, eve_hin, eve_hat, lo0, List.map, List.replicate, List.cons_append, List.nil_append, List.getElem?_cons_zero, List.getElem?_cons_succ, Option.bind_some, negA, ne_int, Option.map_some, tru]; rfl
  refine ife_skip ?_ ?_
  · simp only [eve_var, eve_cel, eve_glob, eve_k, eve_bin, eve_neg, eve_notE, eve_and, eve_or, eve_ite, eve_cmp, eve_chain, eve_attr, eve_sub, eve_slc, eve_tup, eve_lst, eve_call, eve_mcall, eve_bi, eve_meth, eve_join, eve_rng, eve_comp, eve_hin, eve_hat, lo0, List.map, List.replicate, List.cons_append, List.nil_append, List.getElem?_cons_zero, List.getElem?_cons_succ, eq_int, n2, Option.map_some, tru]
  refine call_step (mcall_is (as := [.d (.int v)]) rfl (instA_of (h.get 0 rfl) (h.get 1 rfl)) rfl ((remove_T H h ok hm hv ⟨rfl, ?_⟩).le (by omega)))
  refine asg_pe (a := .d (.int 0)) ?_ ?_
  · simp only [eve_var, eve_cel, eve_glob, eve_k, eve_bin, eve_neg, eve_notE, eve_and, eve_or, eve_ite, eve_cmp, eve_chain, eve_attr, eve_sub, eve_slc, eve_tup, eve_lst, eve_call, eve_mcall, eve_bi, eve_meth, eve_join, eve_rng, eve_comp, eve_hin, eve_hat, lo0, List.map, List.replicate, List.cons_append, List.nil_append, List.getElem?_cons_zero, List.getElem?_cons_succ, Option.bind_some, a6, s6, biA, lc, Option.map_some]
  refine ife_skip ?_ ?_
  · simp only [eve_var, eve_cel, eve_glob, eve_k, eve_bin, eve_neg, eve_notE, eve_and, eve_or, eve_ite, eve_cmp, eve_chain, eve_attr, eve_sub, eve_slc, eve_tup, eve_lst, eve_call, eve_mcall, eve_bi, eve_meth, eve_join, eve_rng, eve_comp, eve_hin, eve_hat, lo0, List.map, List.replicate, List.cons_append, List.nil_append, List.getElem?_cons_zero, List.getElem?_cons_succ, List.set_cons_succ, List.set_cons_zero, Option.bind_some, negA, ne_int, Option.map_some, tru]; rfl
  have h2 := h.set (9 + p) ((tree_at A S R p).trans (zip_at hc hch)) (dl [.int v])
  have eset : (treeE A S R).set (9 + p) (c, dl [.int v]) = treeE A { S with chs := S.chs.set p [.int v] } R := by
    show (_ :: _ :: _ :: _ :: _ :: _ :: _ :: _ :: _ :: (S.cl.zip (S.chs.map dl) ++ R)).set (9 + p) _ = _
    rw [show 9 + p = p + 1 + 1 + 1 + 1 + 1 + 1 + 1 + 1 + 1 by omega]
    dsimp only [List.set_cons_succ]
    rw [zip_set hc hch]
    rfl
  rw [eset] at h2
  rw [wpS_exp]
  have ins : ∀ P : AV → Store → Prop, P (.d .none) (σ.set c (dl [.int v])) → wpX C 2 I2 (.insert (.sub (.attr 439 6 (.var 0)) (.var 1)) (.var 4) (.var 2)) [some (.ref A.t), some (.d (.int p)), some (.d (.int v)), some (.d (.int (-1))), some (.d (.int 0))] [] σ P := fun P hP => by
    simp only [wpX_pe, wpX_listM, wpX_sliceM, wpX_call, wpX_mcall, wpX_vcall, wpX_append, wpX_pop, wpX_insert, wpX_dct, wpX_dct0, wpX_compM, wpX_iteX, wpX_addM, wpX_call1, eve_var, eve_cel, eve_glob, eve_k, eve_bin, eve_neg, eve_notE, eve_and, eve_or, eve_ite, eve_cmp, eve_chain, eve_attr, eve_sub, eve_slc, eve_tup, eve_lst, eve_call, eve_mcall, eve_bi, eve_meth, eve_join, eve_rng, eve_comp, eve_hin, eve_hat, List.getElem?_cons_zero, List.getElem?_cons_succ, Option.bind_some, a6, s6]
    exact ⟨[], gc, rfl, by simp, hP⟩
  refine ins _ ⟨rfl, ?_⟩
  have b5 : attrA (σ.set c (dl [.int v])) 439 5 (.ref A.t) = some (.ref A.p) := attrA_of (h2.get 0 rfl) (h2.get 1 rfl) rfl rfl
  rw [wpS_setS]
  have sets : ev I2 (σ.set c (dl [.int v])) (.attr 439 5 (.var 0)) [some (.ref A.t), some (.d (.int p)), some (.d (.int v)), some (.d (.int (-1))), some (.d (.int 0))] [] = some (.ref A.p) := by
    simp only [eve_var, eve_cel, eve_glob, eve_k, eve_bin, eve_neg, eve_notE, eve_and, eve_or, eve_ite, eve_cmp, eve_chain, eve_attr, eve_sub, eve_slc, eve_tup, eve_lst, eve_call, eve_mcall, eve_bi, eve_meth, eve_join, eve_rng, eve_comp, eve_hin, eve_hat, List.getElem?_cons_zero, Option.bind_some, b5]
  show (match ev I2 (σ.set c (dl [.int v])) (.var 1) [some (.ref A.t), some (.d (.int p)), some (.d (.int v)), some (.d (.int (-1))), some (.d (.int 0))] [], ev I2 (σ.set c (dl [.int v])) (.attr 439 5 (.var 0)) [some (.ref A.t), some (.d (.int p)), some (.d (.int v)), some (.d (.int (-1))), some (.d (.int 0))] [], ev I2 (σ.set c (dl [.int v])) (.var 2) [some (.ref A.t), some (.d (.int p)), some (.d (.int v)), some (.d (.int (-1))), some (.d (.int 0))] [] with
    | some a, some (.ref b), some (.d (.int j)) => _
    | _, _, _ => False)
  rw [sets]
  have h3 := h2.set 7 rfl (dl (S.parents.set v (.int p)))
  refine ⟨S.parents.map .d, h2.get 7 rfl, by omega, by simp; omega, by rw [List.length_map, ok.hp, sz]; omega, _, Fewer.refl _, ?_⟩
  have ev' : (S.parents.map AV.d).set (Int.toNat (v : Int)) (.d (.int p)) = (S.parents.set v (.int p)).map .d := by rw [List.map_set]; rfl
  rw [ev']
  exact k _ h3
theorem append_T {A : TA} {S : TS} {R : List (Addr × AO)} {m p v : Nat} {c : Addr} (h : Has σ (treeE A S R)) (ok : S.Ok m) (hm : m ≤ 100) (hpv : p ≠ v) (hp : S.parents[p]? = some (.int (-1))) (hv : S.parents[v]? = some (.int (-1))) (hc : S.cl[p]? = some c) (hch : S.chs[p]? = some [])
    (k : ∀ σ', Has σ' (treeE A (S.link p v) R) → Q (.d .none) σ') : TC C 4 (.ref 394) [.ref A.t, .d (.int p), .d (.int v)] σ Q := by
  refine (fun_E H ((I0_ok C).up (Nat.zero_le 3)) (H.fnI 21 rfl) o_Tree_append k_Tree_append rfl rfl (m := 0) rfl ?_).tc
  unfold c_Tree_append
  exact call_step (mcall_is (as := [.d (.int p), .d (.int v)]) rfl (instA_of (h.get 0 rfl) (h.get 1 rfl)) rfl (insert_T H h ok hm hpv hp hv hc hch fun σ' h' => ⟨rfl, σ', Fewer.refl _, k σ' h'⟩))
end
end Mine
end

section
set_option maxRecDepth 100000
namespace Mine

theorem TC.mono {C : Cfg} {n : Nat} {f : Value} {as : List AV} {σ : Store} {P Q : AV → Store → Prop} (h : TC C n f as σ P) (k : ∀ a τ, P a τ → Q a τ) : TC C n f as σ Q := fun A F ρ s vs o g r y =>
  wpAny_mono (h A F ρ s vs o g r y) (fun _ _ ⟨F', σ', a, h', tk', e, k', r', y', p⟩ => ⟨F', σ', a, h', tk', e, k', r', y', k _ _ p⟩) fun _ _ e => e
theorem compP_mono {step : StepP} (hs : ∀ a σ R R', (∀ o τ, R o τ → R' o τ) → step a σ R → step a σ R') : ∀ {items acc : List AV} {σ : Store} {Q Q' : List AV → Store → Prop}, (∀ as τ, Q as τ → Q' as τ) → compP step items acc σ Q → compP step items acc σ Q'
  | [], _, _, _, _, h, w => h _ _ w
  | a :: r, acc, σ, Q, Q', h, w => hs a σ _ _ (fun o τ w' => compP_mono hs h w') w
theorem wpX_mono {C : Cfg} {n : Nat} {I : Tab} {x : XE} : ∀ {l : Lo} {cs : List Addr} {σ : Store} {P Q : AV → Store → Prop}, (∀ v τ, P v τ → Q v τ) → wpX C n I x l cs σ P → wpX C n I x l cs σ Q := by
  induction x with
  | pe e => intro l cs σ P Q h w; rw [wpX_pe] at w ⊢; split at w <;> first | exact h _ _ w | cases w
  | listM es => intro l cs σ P Q h w; rw [wpX_listM] at w ⊢; split at w <;> first | exact ⟨w.1, fun a ha => h _ _ (w.2 a ha)⟩ | cases w
  | sliceM a lo hi =>
    intro l cs σ P Q h w; rw [wpX_sliceM] at w ⊢
    split at w
    · rename_i x p q e1 e2 e3
      split at w
      · rename_i xs e4; exact ⟨w.1, fun a ha => h _ _ (w.2 a ha)⟩
      · cases w
    · cases w
  | call f es => intro l cs σ P Q h w; rw [wpX_call] at w ⊢; split at w <;> first | exact TC.mono w h | cases w
  | mcall c f e es =>
    intro l cs σ P Q h w; rw [wpX_mcall] at w ⊢
    split at w
    · rename_i v e1
      split at w
      · rename_i ns e2
        split at w
        · rename_i as e3; exact TC.mono w h
        · cases w
      · cases w
    · cases w
  | vcall g es =>
    intro l cs σ P Q h w; rw [wpX_vcall] at w ⊢
    split at w
    · rename_i f e1
      obtain ⟨w1, w2⟩ := w
      refine ⟨w1, ?_⟩
      split at w2
      · exact TC.mono w2 h
      · cases w2
    · cases w
  | append o x ih =>
    intro l cs σ P Q h w; rw [wpX_append] at w ⊢
    split at w
    · exact ⟨w.1, ih (fun v τ ⟨xs, e1, e2, e3⟩ => ⟨xs, e1, e2, h _ _ e3⟩) w.2⟩
    · cases w
  | pop o =>
    intro l cs σ P Q h w; rw [wpX_pop] at w ⊢
    split at w
    · obtain ⟨xs, b, w1, w2, w3⟩ := w; exact ⟨xs, b, w1, w2, h _ _ w3⟩
    · cases w
  | insert o k x =>
    intro l cs σ P Q h w; rw [wpX_insert] at w ⊢
    split at w
    · obtain ⟨xs, w1, w2, w3, w4⟩ := w; exact ⟨xs, w1, w2, w3, h _ _ w4⟩
    · cases w
  | dct k v => intro l cs σ P Q h w; rw [wpX_dct] at w ⊢; split at w <;> first | exact fun a a1 ha => h _ _ (w a a1 ha) | cases w
  | dct0 => intro l cs σ P Q h w; rw [wpX_dct0] at w ⊢; exact fun a => h _ _ (w a)
  | compM two fs it elt ih =>
    intro l cs σ P Q h w; rw [wpX_compM] at w ⊢
    split at w
    · rename_i a e1
      split at w
      · rename_i items e2
        refine compP_mono (fun a τ R R' hR w' => ?_) (fun as τ ⟨ds, e3, e4⟩ => ⟨ds, e3, h _ _ e4⟩) w
        split at w'
        · exact ih (fun b τ' w2 => hR _ _ w2) w'
        · cases w'
      · cases w
    · cases w
  | iteX t a b iha ihb =>
    intro l cs σ P Q h w; rw [wpX_iteX] at w ⊢
    split at w
    · exact iha h w
    · exact ihb h w
    · cases w
  | addM a b =>
    intro l cs σ P Q h w; rw [wpX_addM] at w ⊢
    split at w
    · split at w
      · exact ⟨w.1, fun c hc => h _ _ (w.2 c hc)⟩
      · cases w
    · cases w
  | call1 f x ih =>
    intro l cs σ P Q h w; rw [wpX_call1] at w ⊢
    exact ih (fun a τ w' => TC.mono w' h) w

section
variable {C : Cfg} {n : Nat} {I : Tab} {Q : PostS} {σ : Store} {E : List (Addr × AO)} {x d c : Addr} {as : List AV} {i j : Nat} {l : Lo} {r : CS}
theorem init_any {X : XE} (hl : l[0]? = some (some (.ref x))) (hX : wpX C n I X l [] σ fun v τ => ∃ E' j as, Has τ E' ∧ E'[j]? = some (x, .inst c d) ∧ E'[j + 1]? = some (d, .ns c as) ∧ i = as.length ∧ ∀ σ', Has σ' (E'.set (j + 1) (d, .ns c (as ++ [v]))) → wpS C n I r [] l σ' Q) :
    wpS C n I (.setA (.var 0) c i X r) [] l σ Q := by
  rw [wpS_setA]
  refine wpX_mono (fun v τ w => ?_) hX
  obtain ⟨E', j, as, h, e1, e2, rfl, k⟩ := w
  have ev0 : ev I τ (.var 0) l [] = some (.ref x) := by rw [eve_var, hl]
  rw [ev0]
  refine ⟨d, as, h.get j e1, h.get (j + 1) e2, Nat.le_refl _, ?_⟩
  rw [if_neg (Nat.lt_irrefl _)]
  exact k _ (h.set (j + 1) e2 _)
theorem init_list (h : Has σ E) (e1 : E[j]? = some (x, .inst c d)) (e2 : E[j + 1]? = some (d, .ns c as)) (hi : i = as.length) (hl : l[0]? = some (some (.ref x))) (k : ∀ a σ', Has σ' ((a, .list []) :: E.set (j + 1) (d, .ns c (as ++ [.ref a]))) → wpS C n I r [] l σ' Q) :
    wpS C n I (.setA (.var 0) c i (.listM .nil) r) [] l σ Q := by
  refine init_any (d := d) hl ?_
  rw [wpX_listM]
  exact ⟨Nat.zero_le _, fun a ha => ⟨(a, .list []) :: E, j + 1, as, h.add ha _, e1, e2, hi, fun σ' h' => k a σ' h'⟩⟩
theorem init_val {e : CE} {v : AV} (h : Has σ E) (e1 : E[j]? = some (x, .inst c d)) (e2 : E[j + 1]? = some (d, .ns c as)) (hi : i = as.length) (hl : l[0]? = some (some (.ref x))) (he : ev I σ e l [] = some v) (k : ∀ σ', Has σ' (E.set (j + 1) (d, .ns c (as ++ [v]))) → wpS C n I r [] l σ' Q) :
    wpS C n I (.setA (.var 0) c i (.pe e) r) [] l σ Q := by
  refine init_any (d := d) hl ?_
  rw [wpX_pe]
  rw [he]
  exact ⟨E, j, as, h, e1, e2, hi, k⟩
theorem init_dct (h : Has σ E) (e1 : E[j]? = some (x, .inst c d)) (e2 : E[j + 1]? = some (d, .ns c as)) (hi : i = as.length) (hl : l[0]? = some (some (.ref x))) (k : ∀ a σ', Has σ' (E.set (j + 1) (d, .ns c (as ++ [.ref a]))) → wpS C n I r [] l σ' Q) :
    wpS C n I (.setA (.var 0) c i .dct0 r) [] l σ Q := by
  refine init_any (d := d) hl ?_
  rw [wpX_dct0]
  exact fun a => ⟨E, j, as, h, e1, e2, hi, k a⟩
end
noncomputable def S0 (c : Addr) : TS := ⟨[.str (q [100, 111, 99, 117, 109, 101, 110, 116])], [.str (q [])], [.str (q [])], [.list []], [.str (q [])], [.int (-1)], [c], [[]]⟩
section
variable {C : Cfg} (H : KOk C) {n : Nat} {Q : AV → Store → Prop} {σ : Store}
include H
theorem stack_init_T {x d : Addr} {t : AV} {R : List (Addr × AO)} (h : Has σ ((x, .inst 322 d) :: (d, .ns 322 []) :: R)) (k : ∀ σ' a, Has σ' ((x, .inst 322 d) :: (d, .ns 322 [t, .ref a]) :: (a, .list []) :: R) → Q (.d .none) σ') : TCc C 1 (.ref 235) [.ref x, t] σ Q := by
  refine fun_E H (I0_ok C) (H.fnI 13 rfl) o_OpenStack_init k_OpenStack_init rfl rfl (m := 0) rfl ?_
  unfold c_OpenStack_init
  refine init_val (j := 0) h rfl rfl rfl rfl rfl fun σ1 h1 => ?_
  refine init_list (j := 0) h1 rfl rfl rfl rfl fun a σ2 h2 => ?_
  refine ⟨σ2, Fewer.refl _, k σ2 a (h2.perm ?_)⟩
  exact (List.perm_middle (a := (a, AO.list [])) (l₁ := [(x, .inst 322 d), (d, .ns 322 [t, .ref a])]) (l₂ := R))
theorem form_init_T {x d : Addr} {t : AV} {R : List (Addr × AO)} (h : Has σ ((x, .inst 217 d) :: (d, .ns 217 []) :: R)) (k : ∀ σ', Has σ' R → Q (.d .none) σ') : TCc C 1 (.ref 151) [.ref x, t] σ Q := by
  refine fun_E H (I0_ok C) (H.fnI 12 rfl) o_Formatting_init k_Formatting_init rfl rfl (m := 0) rfl ?_
  unfold c_Formatting_init
  refine init_val (j := 0) h rfl rfl rfl rfl rfl fun σ1 h1 => ?_
  refine init_list (j := 0) h1 rfl rfl rfl rfl fun a σ2 h2 => ?_
  refine ⟨σ2, Fewer.refl _, k σ2 (h2.sub ?_)⟩
  exact ((List.Sublist.refl R).cons _).cons _ |>.cons _
theorem tree_init_T {x d : Addr} {R : List (Addr × AO)} (h : Has σ ((x, .inst 439 d) :: (d, .ns 439 []) :: R)) (k : ∀ σ' A c, A.t = x → Has σ' (treeE A (S0 c) R) → Q (.d .none) σ') : TCc C 2 (.ref 340) [.ref x] σ Q := by
  refine fun_E H ((I0_ok C).up (Nat.zero_le 1)) (H.fnI 17 rfl) o_Tree_init k_Tree_init rfl rfl (m := 0) rfl ?_
  unfold c_Tree_init
  refine init_list (j := 0) h rfl rfl rfl rfl fun a0 σ h => ?_
  refine init_list (j := 1) h rfl rfl rfl rfl fun a1 σ h => ?_
  refine init_list (j := 2) h rfl rfl rfl rfl fun a2 σ h => ?_
  refine init_list (j := 3) h rfl rfl rfl rfl fun a3 σ h => ?_
  refine init_list (j := 4) h rfl rfl rfl rfl fun a4 σ h => ?_
  refine init_list (j := 5) h rfl rfl rfl rfl fun a5 σ h => ?_
  refine init_list (j := 6) h rfl rfl rfl rfl fun a6 σ h => ?_
  refine init_dct (j := 7) h rfl rfl rfl rfl fun a7 σ h => ?_
  have h' : Has σ (treeE ⟨x, d, a0, a1, a2, a3, a4, a5, a6, a7⟩ ⟨[], [], [], [], [], [], [], []⟩ R) := by
    refine h.perm ?_
    show ([(x, AO.inst 439 d), (d, AO.ns 439 [.ref a0, .ref a1, .ref a2, .ref a3, .ref a4, .ref a5, .ref a6, .ref a7]), (a0, .list []), (a1, .list []), (a2, .list []), (a3, .list []), (a4, .list []), (a5, .list []), (a6, .list [])] ++ R).Perm
      ([(a6, AO.list []), (a5, .list []), (a4, .list []), (a3, .list []), (a2, .list []), (a1, .list []), (a0, .list []), (x, .inst 439 d), (d, .ns 439 [.ref a0, .ref a1, .ref a2, .ref a3, .ref a4, .ref a5, .ref a6, .ref a7])] ++ R)
    refine List.Perm.append_right R ?_
    have p : ∀ (a b : Addr × AO) (l : List (Addr × AO)), (a :: b :: l).Perm (l.reverse ++ [a, b]) := fun a b l =>
      (List.perm_append_comm (l₁ := [a, b]) (l₂ := l)).trans (List.Perm.append_right _ l.reverse_perm.symm)
    exact p _ _ [(a0, .list []), (a1, .list []), (a2, .list []), (a3, .list []), (a4, .list []), (a5, .list []), (a6, .list [])]
  refine call_step (mcall_is (as := [.d (.str (q [100, 111, 99, 117, 109, 101, 110, 116]))]) rfl (instA_of (h'.get 0 rfl) (h'.get 1 rfl)) rfl (add_T H (H.add2 _ _) h' ⟨rfl, rfl, rfl, rfl, rfl, rfl, rfl, rfl⟩ (Nat.zero_le _) (Nat.zero_le _) fun σ' c h2 => ⟨rfl, σ', Fewer.refl _, k σ' _ c rfl h2⟩))
theorem new_tree_T {R : List (Addr × AO)} (h : Has σ R) (k : ∀ σ' A c, Has σ' (treeE A (S0 c) R) → Q (.ref A.t) σ') : TC C 3 (.ref 439) [] σ Q := by
  obtain ⟨_, m1, m2, m3⟩ := H.cls (c := 439) (f := 340) (.tail _ (.tail _ (.head _)))
  refine (TC_new (σ := σ) m1 m2 m3 fun x dx hx hd hne => tree_init_T H ((h.add hd _).add (by rw [Store.set_ne _ _ hne]; exact hx) _) fun σ' A c e h' => ⟨rfl, by rw [← e]; exact k σ' A c h'⟩).tc
end
end Mine
end

section
set_option maxRecDepth 100000
set_option maxHeartbeats 400000
namespace Mine

structure BW where
  b : Addr
  db : Addr
  st : Addr
  ds : Addr
  it : Addr
  er : Addr
  rd : Addr
  A : TA
  as : List AV
noncomputable def bE (C : Cfg) (W : BW) (mode : Str) (items errs : List PyData) (S : TS) (R : List (Addr × AO)) : List (Addr × AO) :=
  (W.b, .inst 517 W.db) :: (W.db, .ns 517 W.as) :: (W.st, .inst 322 W.ds) :: (W.ds, .ns 322 [.ref W.A.t, .ref W.it]) :: (W.it, dl items) :: (W.er, dl errs) :: (W.rd, .is (dictIs C mode 550)) :: treeE W.A S R
structure BW.Ok (W : BW) (mode : PyData) : Prop where
  len : W.as.length = 21
  r : W.as[0]? = some (.ref W.rd)
  t : W.as[1]? = some (.ref W.A.t)
  s : W.as[2]? = some (.ref W.st)
  m : W.as[4]? = some (.d mode)
  e : W.as[15]? = some (.ref W.er)
  n1 : W.rd ≠ 1

theorem tree_perm (A : TA) (S : TS) (X R : List (Addr × AO)) : (X ++ treeE A S R).Perm (treeE A S (X ++ R)) := by
  have e : ∀ R, treeE A S R = treeE A S [] ++ R := fun R => by unfold treeE; simp
  rw [e R, e (X ++ R), ← List.append_assoc, ← List.append_assoc]
  exact List.perm_append_comm.append_right _
theorem bE_perm {T : List (Addr × AO)} (e s d i b n r : Addr × AO) : (b :: n :: s :: d :: i :: e :: r :: T).Perm (e :: s :: d :: i :: b :: n :: r :: T) := by
  have h : ([b, n, s, d, i, e] ++ (r :: T)).Perm ([e, s, d, i, b, n] ++ (r :: T)) := List.Perm.append_right _ (by
    have h1 : ([b, n] ++ [s, d, i, e]).Perm ([s, d, i, e] ++ [b, n]) := List.perm_append_comm
    have h2 : ([s, d, i] ++ [e]).Perm ([e] ++ [s, d, i]) := List.perm_append_comm
    exact h1.trans (h2.append_right [b, n]))
  exact h
section
variable {C : Cfg} (H : KOk C) {n : Nat} {Q : AV → Store → Prop} {σ : Store}
include H
theorem new_stack_T {t : AV} {R : List (Addr × AO)} (h : Has σ R) (k : ∀ σ' x d a, Has σ' ((x, .inst 322 d) :: (d, .ns 322 [t, .ref a]) :: (a, .list []) :: R) → Q (.ref x) σ') : TC C 2 (.ref 322) [t] σ Q := by
  obtain ⟨_, m1, m2, m3⟩ := H.cls (c := 322) (f := 235) (.tail _ (.head _))
  refine (TC_new (σ := σ) m1 m2 m3 fun x dx hx hd hne => stack_init_T H ((h.add hd _).add (by rw [Store.set_ne _ _ hne]; exact hx) _) fun σ' a h' => ⟨rfl, k σ' x dx a h'⟩).tc
theorem new_form_T {t : AV} {R : List (Addr × AO)} (h : Has σ R) (k : ∀ σ' x, Has σ' R → Q (.ref x) σ') : TC C 2 (.ref 217) [t] σ Q := by
  obtain ⟨_, m1, m2, m3⟩ := H.cls (c := 217) (f := 151) (.head _)
  refine (TC_new (σ := σ) m1 m2 m3 fun x dx hx hd hne => form_init_T H ((h.add hd _).add (by rw [Store.set_ne _ _ hne]; exact hx) _) fun σ' h' => ⟨rfl, k σ' x h'⟩).tc
theorem builder_init_T {b db rd : Addr} {mode : Str} {R : List (Addr × AO)} (h1 : rd ≠ 1) (h : Has σ ((b, .inst 517 db) :: (db, .ns 517 []) :: (rd, .is (dictIs C mode 550)) :: R))
    (k : ∀ σ' W c, W.b = b → W.Ok (.str (q [105, 110, 105, 116, 105, 97, 108])) → Has σ' (bE C W mode [] [] (S0 c) R) → Q (.d .none) σ') : TCc C 4 (.ref 465) [.ref b, .ref rd] σ Q := by
  refine fun_W H ((I0_ok C).up (Nat.zero_le 3)) (H.fnI (f := 465) (x := x_Builder_init) (pn := p_Builder_init) 25 rfl).1 (H.bld2 _ _) o_Builder_init k_Builder_init rfl rfl (m := 0) rfl ?_
  unfold c_Builder_init
  refine init_val (j := 0) h rfl rfl rfl rfl rfl fun σ h => ?_
  dsimp only [List.set_cons_succ, List.set_cons_zero, List.cons_append, List.nil_append] at h
  refine init_any (d := db) rfl (call_is (as := []) rfl (new_tree_T H h fun σ A c h => ?_))
  have h := h.perm (tree_perm A (S0 c) [(b, .inst 517 db), (db, .ns 517 [.ref rd]), (rd, .is (dictIs C mode 550))] R)
  refine ⟨_, 0, _, h, rfl, rfl, rfl, fun σ h => ?_⟩
  dsimp only [List.set_cons_succ, List.set_cons_zero, List.cons_append, List.nil_append] at h
  refine init_any (d := db) rfl (call_is (as := [.ref A.t]) (by
    simp only [evs_nil, evs_cons, eve_var, eve_cel, eve_glob, eve_k, eve_bin, eve_neg, eve_notE, eve_and, eve_or, eve_ite, eve_cmp, eve_chain, eve_attr, eve_sub, eve_slc, eve_tup, eve_lst, eve_call, eve_mcall, eve_bi, eve_meth, eve_join, eve_rng, eve_comp, eve_hin, eve_hat, lo0, List.map, List.replicate, List.append_nil, List.getElem?_cons_zero, Option.bind_some, attrA_of (h.get 0 rfl) (h.get 1 rfl) (i := 1) rfl rfl]) (TC.le (new_stack_T H h fun σ st ds it h => ?_) (by decide)))
  refine ⟨_, 3, _, h, rfl, rfl, rfl, fun σ h => ?_⟩
  dsimp only [List.set_cons_succ, List.set_cons_zero, List.cons_append, List.nil_append] at h
  refine init_any (d := db) rfl (call_is (as := [.ref A.t]) (by
    simp only [evs_nil, evs_cons, eve_var, eve_cel, eve_glob, eve_k, eve_bin, eve_neg, eve_notE, eve_and, eve_or, eve_ite, eve_cmp, eve_chain, eve_attr, eve_sub, eve_slc, eve_tup, eve_lst, eve_call, eve_mcall, eve_bi, eve_meth, eve_join, eve_rng, eve_comp, eve_hin, eve_hat, lo0, List.map, List.replicate, List.append_nil, List.getElem?_cons_zero, Option.bind_some, attrA_of (h.get 3 rfl) (h.get 4 rfl) (i := 1) rfl rfl]) (TC.le (new_form_T H h fun σ fo h => ?_) (by decide)))
  refine ⟨_, 3, _, h, rfl, rfl, rfl, fun σ h => ?_⟩
  dsimp only [List.set_cons_succ, List.set_cons_zero, List.cons_append, List.nil_append] at h
  refine init_val (j := 3) h rfl rfl rfl rfl rfl fun σ h => ?_
  dsimp only [List.set_cons_succ, List.set_cons_zero, List.cons_append, List.nil_append] at h
  refine init_val (j := 3) h rfl rfl rfl rfl rfl fun σ h => ?_
  dsimp only [List.set_cons_succ, List.set_cons_zero, List.cons_append, List.nil_append] at h
  refine init_list (j := 3) h rfl rfl rfl rfl fun a6 σ h => ?_
  dsimp only [List.set_cons_succ, List.set_cons_zero, List.cons_append, List.nil_append] at h
  refine init_val (j := 4) h rfl rfl rfl rfl rfl fun σ h => ?_
  dsimp only [List.set_cons_succ, List.set_cons_zero, List.cons_append, List.nil_append] at h
  refine init_val (j := 4) h rfl rfl rfl rfl rfl fun σ h => ?_
  dsimp only [List.set_cons_succ, List.set_cons_zero, List.cons_append, List.nil_append] at h
  refine init_dct (j := 4) h rfl rfl rfl rfl fun a9 σ h => ?_
  dsimp only [List.set_cons_succ, List.set_cons_zero, List.cons_append, List.nil_append] at h
  refine init_val (j := 4) h rfl rfl rfl rfl rfl fun σ h => ?_
  dsimp only [List.set_cons_succ, List.set_cons_zero, List.cons_append, List.nil_append] at h
  refine init_val (j := 4) h rfl rfl rfl rfl rfl fun σ h => ?_
  dsimp only [List.set_cons_succ, List.set_cons_zero, List.cons_append, List.nil_append] at h
  refine init_val (j := 4) h rfl rfl rfl rfl rfl fun σ h => ?_
  dsimp only [List.set_cons_succ, List.set_cons_zero, List.cons_append, List.nil_append] at h
  refine init_val (j := 4) h rfl rfl rfl rfl rfl fun σ h => ?_
  dsimp only [List.set_cons_succ, List.set_cons_zero, List.cons_append, List.nil_append] at h
  refine init_val (j := 4) h rfl rfl rfl rfl rfl fun σ h => ?_
  dsimp only [List.set_cons_succ, List.set_cons_zero, List.cons_append, List.nil_append] at h
  refine init_list (j := 4) h rfl rfl rfl rfl fun a15 σ h => ?_
  dsimp only [List.set_cons_succ, List.set_cons_zero, List.cons_append, List.nil_append] at h
  refine init_list (j := 5) h rfl rfl rfl rfl fun a16 σ h => ?_
  dsimp only [List.set_cons_succ, List.set_cons_zero, List.cons_append, List.nil_append] at h
  refine init_val (j := 6) h rfl rfl rfl rfl rfl fun σ h => ?_
  dsimp only [List.set_cons_succ, List.set_cons_zero, List.cons_append, List.nil_append] at h
  refine init_val (j := 6) h rfl rfl rfl rfl rfl fun σ h => ?_
  dsimp only [List.set_cons_succ, List.set_cons_zero, List.cons_append, List.nil_append] at h
  refine init_val (j := 6) h rfl rfl rfl rfl rfl fun σ h => ?_
  dsimp only [List.set_cons_succ, List.set_cons_zero, List.cons_append, List.nil_append] at h
  refine init_val (j := 6) h rfl rfl rfl rfl rfl fun σ h => ?_
  dsimp only [List.set_cons_succ, List.set_cons_zero, List.cons_append, List.nil_append] at h
  have hh := Has.perm (h.sub (((List.Sublist.refl _).cons₂ (a15, AO.list [])).trans (List.Sublist.cons _ (List.Sublist.cons₂ _ (List.Sublist.cons _ (List.Sublist.refl _)))))) (bE_perm _ _ _ _ _ _ _)
  refine ⟨σ, Fewer.refl _, ?_⟩
  refine k σ ⟨b, db, st, ds, it, a15, rd, A, _⟩ c rfl ?_ hh
  exact ⟨rfl, rfl, rfl, rfl, rfl, rfl, h1⟩
theorem new_builder_T {rd : Addr} {mode : Str} {R : List (Addr × AO)} (h1 : rd ≠ 1) (h : Has σ ((rd, .is (dictIs C mode 550)) :: R))
    (k : ∀ σ' W c, W.Ok (.str (q [105, 110, 105, 116, 105, 97, 108])) → Has σ' (bE C W mode [] [] (S0 c) R) → Q (.ref W.b) σ') : TC C 5 (.ref 517) [.ref rd] σ Q := by
  obtain ⟨_, m1, m2, m3⟩ := H.cls (c := 517) (f := 465) (.tail _ (.tail _ (.tail _ (.head _))))
  refine (TC_new (σ := σ) m1 m2 m3 fun x dx hx hd hne => builder_init_T H h1 ((h.add hd _).add (by rw [Store.set_ne _ _ hne]; exact hx) _) fun σ' W c e o h' => ⟨rfl, by rw [← e]; exact k σ' W c o h'⟩).tc
end
end Mine
end

section
set_option maxRecDepth 100000
namespace Mine

noncomputable def runK (I : Tab) (σ : Store) : Nat → CS → List Addr → Lo → Option (CS × Lo)
  | 0, c, _, l => some (c, l)
  | k + 1, .asg i (.pe e) r, cs, l => match ev I σ e l cs with | some a => runK I σ k r cs (l.set i (some a)) | none => none
  | k + 1, .ife t a b r, cs, l => match evS I σ (.ife t a b .done) cs l with | some (.next, l') => runK I σ k r cs l' | _ => none
  | k + 1, .for1 i it b r, cs, l => match evS I σ (.for1 i it b .done) cs l with | some (.next, l') => runK I σ k r cs l' | _ => none
  | _, _, _, _ => none
section
variable {C : Cfg} {n : Nat} {I : Tab} {σ : Store} {Q : PostS}
theorem ife_ev {t : CE} {a b r : CS} {cs : List Addr} {l l' : Lo} (h : evS I σ (.ife t a b .done) cs l = some (.next, l')) (k : wpS C n I r cs l' σ Q) : wpS C n I (.ife t a b r) cs l σ Q := by
  rw [eqS_ife] at h
  rw [wpS_ife]
  split at h
  · rename_i q
    try rw [q]
    split at h
    · rename_i l1 h1; cases h; exact evS_ok h1 k
    · cases h
    · cases h
  · rename_i q
    try rw [q]
    split at h
    · rename_i l1 h1; cases h; exact evS_ok h1 k
    · cases h
    · cases h
  · cases h
theorem for_ev {i : Nat} {it : CE} {b r : CS} {cs : List Addr} {l l' : Lo} (h : evS I σ (.for1 i it b .done) cs l = some (.next, l')) (k : wpS C n I r cs l' σ Q) : wpS C n I (.for1 i it b r) cs l σ Q := by
  rw [eqS_for1] at h
  rw [wpS_for1]
  split at h
  · rename_i a ea
    try rw [ea]
    split at h
    · rename_i items ei
      try simp only [ei]
      split at h
      · rename_i l1 h1; cases h; exact forE_ok (fun a l o l' K hh hk => evS_ok hh hk) h1 k
      · cases h
      · cases h
    · cases h
  · cases h
theorem runK_ok : ∀ {k : Nat} {c c' : CS} {cs : List Addr} {l l' : Lo}, runK I σ k c cs l = some (c', l') → wpS C n I c' cs l' σ Q → wpS C n I c cs l σ Q := by
  intro k
  induction k with
  | zero => intro c c' cs l l' h w; unfold runK at h; cases h; exact w
  | succ k ih =>
    intro c c' cs l l' h w
    unfold runK at h
    split at h
    · cases h; exact w
    · rename_i e; cases e
      split at h
      · rename_i a ea; exact asg_pe ea (ih h w)
      · cases h
    · rename_i e; cases e
      split at h
      · rename_i l1 e1; exact ife_ev e1 (ih h w)
      · cases h
    · rename_i e; cases e
      split at h
      · rename_i l1 e1; exact for_ev e1 (ih h w)
      · cases h
    · cases h
end

theorem evS_asg {I : Tab} {σ : Store} {i : Nat} {e : CE} {r : CS} {cs : List Addr} {l : Lo} {a : AV} (h : ev I σ e l cs = some a) : evS I σ (.asg i (.pe e) r) cs l = evS I σ r cs (l.set i (some a)) := by
  rw [eqS_asg]; simp only [h]
theorem evS_ret {I : Tab} {σ : Store} {e : CE} {cs : List Addr} {l : Lo} {a : AV} (h : ev I σ e l cs = some a) : evS I σ (.ret (.pe e)) cs l = some (.ret a, l) := by
  rw [eqS_ret]; simp only [h]
noncomputable def usualL : List Int := [0, 0, 1, 3, 0, 2, 4, 7, 0, 0, 1, 513, 6, 1048]
noncomputable def digitL (xs : List Int) (k : Nat) : Int := if k < xs.length then xs.getD k 0 else usualL.getD k 0
noncomputable def scr (xs : List Int) : AV := .d (.list (xs.map .int))
theorem digit_is {xs : List Int} (hz : xs.length ≤ 63) {k : Nat} (hk : k < 14) (σ : Store) : g528 [scr xs, .d (.int k)] σ = some (.d (.int (digitL xs k))) := by
  have e1 : lenA σ (scr xs) = some (.int xs.length) := by
    unfold lenA scr
    simp only [seqOf, List.length_map]
    rw [if_pos (by omega)]
  have e2 : cmpA σ .Lt (.d (.int k)) (.d (.int xs.length)) = some (decide (k < xs.length)) := by
    show some (decide ((k : Int) < (xs.length : Int))) = _
    simp only [Int.ofNat_lt]
  have e3 : k < xs.length → subA σ (scr xs) (.d (.int k)) = some (.d (.int (xs.getD k 0))) := fun h => subA_nat (xs := xs.map fun x => .d (.int x)) (by simp only [scr, seqOf, List.map_map]; rfl) rfl (by rw [List.length_map]; omega) (by rw [List.getElem?_map, List.getElem?_eq_getElem h, List.getD_eq_getElem?_getD, List.getElem?_eq_getElem h]; rfl)
  have e4 : subA σ (.d (.tuple (usualL.map .int))) (.d (.int k)) = some (.d (.int (usualL.getD k 0))) := subA_nat (xs := usualL.map fun x => .d (.int x)) (by simp only [seqOf, List.map_map]; rfl) rfl (by decide) (by
    have h : k < usualL.length := hk
    rw [List.getElem?_map, List.getElem?_eq_getElem h, List.getD_eq_getElem?_getD, List.getElem?_eq_getElem h]; rfl)
  unfold g528 runP c_law_digit
  have h2 : [scr xs, AV.d (PyData.int k)].length = 2 := rfl
  rw [if_pos h2]
  have h0 : ev I0 σ (.tup (.cons (.k (.int 0)) (.cons (.k (.int 0)) (.cons (.k (.int 1)) (.cons (.k (.int 3)) (.cons (.k (.int 0)) (.cons (.k (.int 2)) (.cons (.k (.int 4)) (.cons (.k (.int 7)) (.cons (.k (.int 0)) (.cons (.k (.int 0)) (.cons (.k (.int 1)) (.cons (.k (.int 513)) (.cons (.k (.int 6)) (.cons (.k (.int 1048)) .nil))))))))))))))) (lo0 [scr xs, .d (.int k)] 1) [] = some (.d (.tuple (usualL.map .int))) := by kernel_rfl
  rw [evS_asg h0, evS_ret (a := .d (.int (digitL xs k)))]
  · rfl
  simp only [eve_var, eve_cel, eve_glob, eve_k, eve_bin, eve_neg, eve_notE, eve_and, eve_or, eve_ite, eve_cmp, eve_chain, eve_attr, eve_sub, eve_slc, eve_tup, eve_lst, eve_call, eve_mcall, eve_bi, eve_meth, eve_join, eve_rng, eve_comp, eve_hin, eve_hat, lo0, List.map, List.replicate, List.cons_append, List.nil_append, List.set_cons_succ, List.set_cons_zero, List.getElem?_cons_zero, List.getElem?_cons_succ, Option.bind_some, biA, e1, Option.map_some, e2, tru]
  unfold digitL
  by_cases h : k < xs.length
  · rw [if_pos h, decide_eq_true h]; simp only [e3 h]
  · rw [if_neg h, decide_eq_false h]
    exact e4

noncomputable def keysL : List Str := [q [105, 100], q [99, 111, 108, 111, 114], q [115, 116, 121, 108, 101], q [102, 97, 99, 101], q [102, 111, 110, 116], q [115, 105, 122, 101], q [99, 111, 108, 111, 117, 114], q [115, 105, 122, 101, 115]]
noncomputable def bo2 : CS := (.asgC 1 (.pe (.tup (.cons (.k (.str (q [105, 100]))) (.cons (.k (.str (q [99, 111, 108, 111, 114]))) (.cons (.k (.str (q [115, 116, 121, 108, 101]))) (.cons (.k (.str (q [102, 97, 99, 101]))) (.cons (.k (.str (q [102, 111, 110, 116]))) (.cons (.k (.str (q [115, 105, 122, 101]))) (.cons (.k (.str (q [99, 111, 108, 111, 117, 114]))) (.cons (.k (.str (q [115, 105, 122, 101, 115]))) .nil))))))))))
 (.for1 5 (.tup (.cons (.k (.int 11)) (.cons (.k (.int 12)) (.cons (.k (.int 13)) .nil))))
 (.asgC 0 (.pe (.call 528 (.cons (.var 0) (.cons (.var 5) .nil))))
 (.asg 6 (.pe (.bi .tuple (.comp false [0, 1] (.rng (.cons (.bin .Mod (.bin .FloorDiv (.cel 0) (.k (.int 512))) (.k (.int 4))) .nil)) (.tup (.cons (.sub (.cel 1) (.bin .Mod (.bin .FloorDiv (.cel 0) (.bin .Pow (.k (.int 8)) (.var 0))) (.k (.int 8)))) (.cons (.sub (.tup (.cons (.k (.str (q []))) (.cons (.k (.str (q [49]))) .nil))) (.bin .Mod (.var 0) (.k (.int 2)))) .nil))) .nil)))
 (.ife (.and (.cmp .Gt (.var 5) (.k (.int 11))) (.cmp .Eq (.bin .Mod (.bin .FloorDiv (.cel 0) (.k (.int 512))) (.k (.int 4))) (.k (.int 0))))
 (.asg 6 (.pe (.tup (.cons (.tup (.cons (.sub (.cel 1) (.bin .Mod (.cel 0) (.k (.int 8)))) (.cons (.k (.str (q []))) .nil))) .nil)))
 .done) .done
 (.asg 7 (.pe (.cmp .NotEq (.comp false [] (.var 6) (.var 0) (.cmp .In (.sub (.var 0) (.k (.int 0))) (.tup (.cons (.k (.str (q [99, 111, 108, 111, 114]))) (.cons (.k (.str (q [102, 97, 99, 101]))) (.cons (.k (.str (q [115, 105, 122, 101]))) .nil)))))) (.lst .nil)))
 (.ife (.or (.cmp .NotEq (.call 77 (.cons (.tup (.cons (.k (.str (q [115, 116, 97, 114, 116]))) (.cons (.k (.str (q [102, 111, 110, 116]))) (.cons (.var 6) (.cons (.k (.bool false)) .nil))))) .nil)) (.var 7)) (.call 77 (.cons (.tup (.cons (.k (.str (q [115, 116, 97, 114, 116]))) (.cons (.k (.str (q [103]))) (.cons (.var 6) (.cons (.k (.bool false)) .nil))))) .nil)))
 (.ret (.pe (.k (.bool false)))) .done
 .done)))))
 (.ret (.pe (.k (.bool true))))))
noncomputable def bo3 : CS := (.asgC 0 (.pe (.call 528 (.cons (.var 0) (.cons (.var 5) .nil))))
 (.asg 6 (.pe (.bi .tuple (.comp false [0, 1] (.rng (.cons (.bin .Mod (.bin .FloorDiv (.cel 0) (.k (.int 512))) (.k (.int 4))) .nil)) (.tup (.cons (.sub (.cel 1) (.bin .Mod (.bin .FloorDiv (.cel 0) (.bin .Pow (.k (.int 8)) (.var 0))) (.k (.int 8)))) (.cons (.sub (.tup (.cons (.k (.str (q []))) (.cons (.k (.str (q [49]))) .nil))) (.bin .Mod (.var 0) (.k (.int 2)))) .nil))) .nil)))
 (.ife (.and (.cmp .Gt (.var 5) (.k (.int 11))) (.cmp .Eq (.bin .Mod (.bin .FloorDiv (.cel 0) (.k (.int 512))) (.k (.int 4))) (.k (.int 0))))
 (.asg 6 (.pe (.tup (.cons (.tup (.cons (.sub (.cel 1) (.bin .Mod (.cel 0) (.k (.int 8)))) (.cons (.k (.str (q []))) .nil))) .nil)))
 .done) .done
 (.asg 7 (.pe (.cmp .NotEq (.comp false [] (.var 6) (.var 0) (.cmp .In (.sub (.var 0) (.k (.int 0))) (.tup (.cons (.k (.str (q [99, 111, 108, 111, 114]))) (.cons (.k (.str (q [102, 97, 99, 101]))) (.cons (.k (.str (q [115, 105, 122, 101]))) .nil)))))) (.lst .nil)))
 (.ife (.or (.cmp .NotEq (.call 77 (.cons (.tup (.cons (.k (.str (q [115, 116, 97, 114, 116]))) (.cons (.k (.str (q [102, 111, 110, 116]))) (.cons (.var 6) (.cons (.k (.bool false)) .nil))))) .nil)) (.var 7)) (.call 77 (.cons (.tup (.cons (.k (.str (q [115, 116, 97, 114, 116]))) (.cons (.k (.str (q [103]))) (.cons (.var 6) (.cons (.k (.bool false)) .nil))))) .nil)))
 (.ret (.pe (.k (.bool false)))) .done
 .done)))))
noncomputable def bo5 : CS := (.ife (.and (.cmp .Gt (.var 5) (.k (.int 11))) (.cmp .Eq (.bin .Mod (.bin .FloorDiv (.cel 0) (.k (.int 512))) (.k (.int 4))) (.k (.int 0))))
 (.asg 6 (.pe (.tup (.cons (.tup (.cons (.sub (.cel 1) (.bin .Mod (.cel 0) (.k (.int 8)))) (.cons (.k (.str (q []))) .nil))) .nil)))
 .done) .done
 (.asg 7 (.pe (.cmp .NotEq (.comp false [] (.var 6) (.var 0) (.cmp .In (.sub (.var 0) (.k (.int 0))) (.tup (.cons (.k (.str (q [99, 111, 108, 111, 114]))) (.cons (.k (.str (q [102, 97, 99, 101]))) (.cons (.k (.str (q [115, 105, 122, 101]))) .nil)))))) (.lst .nil)))
 (.ife (.or (.cmp .NotEq (.call 77 (.cons (.tup (.cons (.k (.str (q [115, 116, 97, 114, 116]))) (.cons (.k (.str (q [102, 111, 110, 116]))) (.cons (.var 6) (.cons (.k (.bool false)) .nil))))) .nil)) (.var 7)) (.call 77 (.cons (.tup (.cons (.k (.str (q [115, 116, 97, 114, 116]))) (.cons (.k (.str (q [103]))) (.cons (.var 6) (.cons (.k (.bool false)) .nil))))) .nil)))
 (.ret (.pe (.k (.bool false)))) .done
 .done)))
noncomputable def bo7 : CS := (.asg 7 (.pe (.cmp .NotEq (.comp false [] (.var 6) (.var 0) (.cmp .In (.sub (.var 0) (.k (.int 0))) (.tup (.cons (.k (.str (q [99, 111, 108, 111, 114]))) (.cons (.k (.str (q [102, 97, 99, 101]))) (.cons (.k (.str (q [115, 105, 122, 101]))) .nil)))))) (.lst .nil)))
 (.ife (.or (.cmp .NotEq (.call 77 (.cons (.tup (.cons (.k (.str (q [115, 116, 97, 114, 116]))) (.cons (.k (.str (q [102, 111, 110, 116]))) (.cons (.var 6) (.cons (.k (.bool false)) .nil))))) .nil)) (.var 7)) (.call 77 (.cons (.tup (.cons (.k (.str (q [115, 116, 97, 114, 116]))) (.cons (.k (.str (q [103]))) (.cons (.var 6) (.cons (.k (.bool false)) .nil))))) .nil)))
 (.ret (.pe (.k (.bool false)))) .done
 .done))
noncomputable def boPairs : CE := (.bi .tuple (.comp false [0, 1] (.rng (.cons (.bin .Mod (.bin .FloorDiv (.cel 0) (.k (.int 512))) (.k (.int 4))) .nil)) (.tup (.cons (.sub (.cel 1) (.bin .Mod (.bin .FloorDiv (.cel 0) (.bin .Pow (.k (.int 8)) (.var 0))) (.k (.int 8)))) (.cons (.sub (.tup (.cons (.k (.str (q []))) (.cons (.k (.str (q [49]))) .nil))) (.bin .Mod (.var 0) (.k (.int 2)))) .nil))) .nil))
noncomputable def boElt : CE := (.tup (.cons (.sub (.cel 1) (.bin .Mod (.bin .FloorDiv (.cel 0) (.bin .Pow (.k (.int 8)) (.var 0))) (.k (.int 8)))) (.cons (.sub (.tup (.cons (.k (.str (q []))) (.cons (.k (.str (q [49]))) .nil))) (.bin .Mod (.var 0) (.k (.int 2)))) .nil)))
noncomputable def boOne : CE := (.tup (.cons (.tup (.cons (.sub (.cel 1) (.bin .Mod (.cel 0) (.k (.int 8)))) (.cons (.k (.str (q []))) .nil))) .nil))
noncomputable def boDue : CE := (.cmp .NotEq (.comp false [] (.var 6) (.var 0) (.cmp .In (.sub (.var 0) (.k (.int 0))) (.tup (.cons (.k (.str (q [99, 111, 108, 111, 114]))) (.cons (.k (.str (q [102, 97, 99, 101]))) (.cons (.k (.str (q [115, 105, 122, 101]))) .nil)))))) (.lst .nil))
noncomputable def boTest : CE := (.or (.cmp .NotEq (.call 77 (.cons (.tup (.cons (.k (.str (q [115, 116, 97, 114, 116]))) (.cons (.k (.str (q [102, 111, 110, 116]))) (.cons (.var 6) (.cons (.k (.bool false)) .nil))))) .nil)) (.var 7)) (.call 77 (.cons (.tup (.cons (.k (.str (q [115, 116, 97, 114, 116]))) (.cons (.k (.str (q [103]))) (.cons (.var 6) (.cons (.k (.bool false)) .nil))))) .nil)))
noncomputable def boKeys : CE := (.tup (.cons (.k (.str (q [105, 100]))) (.cons (.k (.str (q [99, 111, 108, 111, 114]))) (.cons (.k (.str (q [115, 116, 121, 108, 101]))) (.cons (.k (.str (q [102, 97, 99, 101]))) (.cons (.k (.str (q [102, 111, 110, 116]))) (.cons (.k (.str (q [115, 105, 122, 101]))) (.cons (.k (.str (q [99, 111, 108, 111, 117, 114]))) (.cons (.k (.str (q [115, 105, 122, 101, 115]))) .nil)))))))))
end Mine
end

section
set_option maxRecDepth 100000
namespace Mine

noncomputable def keysA : AV := .d (.tuple (keysL.map .str))
noncomputable def valL (j : Nat) : Str := if j % 2 = 0 then q [] else q [49]
noncomputable def pr (a j : Nat) : PyData := .tuple [.str (keysL.getD a (q [])), .str (valL j)]
noncomputable def shortP : List (List PyData) := [[]] ++ (List.range 8).map (fun a => [pr a 0]) ++ ((List.range 8).flatMap fun a => (List.range 8).map fun b => [pr a 0, pr b 1])
noncomputable def blockP (a : Nat) : List (List PyData) := (List.range 8).flatMap fun b => (List.range 8).map fun c => [pr a 0, pr b 1, pr c 2]
noncomputable def allP : List (List PyData) := shortP ++ (List.range 8).flatMap blockP
theorem key_is (σ : Store) (d : Int) : ∃ a, a < 8 ∧ subA σ keysA (.d (.int (d.fmod 8))) = some (.d (.str (keysL.getD a (q [])))) := by
  have h1 : 0 ≤ d.fmod 8 := Int.fmod_nonneg_of_pos _ (by decide)
  have h2 : d.fmod 8 < 8 := Int.fmod_lt_of_pos _ (by decide)
  have h3 : (d.fmod 8).toNat < 8 := by omega
  refine ⟨(d.fmod 8).toNat, h3, subA_nat (xs := keysL.map fun x => .d (.str x)) (by simp only [keysA, seqOf, List.map_map]; rfl) (Int.toNat_of_nonneg h1).symm (by decide) ?_⟩
  have h4 : (d.fmod 8).toNat < keysL.length := h3
  rw [List.getElem?_map, List.getElem?_eq_getElem h4, List.getD_eq_getElem?_getD, List.getElem?_eq_getElem h4]; rfl
noncomputable def itF (I : Tab) (σ : Store) (two : Bool) (fs : List Nat) (elt cond : CE) (cs : List Addr) (x : AV) : Option (Option AV) := match bindT two x with
  | some l' => (match (if cond.isNil then some true else tru (ev I σ cond l' (selC fs cs))) with
    | some true => (ev I σ elt l' (selC fs cs)).map some
    | some false => some none
    | none => none)
  | none => none
theorem ev_comp {I : Tab} {σ : Store} {two : Bool} {fs : List Nat} {it elt cond : CE} {cs : List Addr} {l : Lo} {a : AV} {items as : List AV} {r : Option AV} (h : ev I σ it l cs = some a) (h2 : iterA a = some items) (h3 : goC (itF I σ two fs elt cond cs) items = some as) (h4 : mkD .list as = r) : ev I σ (.comp two fs it elt cond) l cs = r := by
  rw [eve_comp, h]
  simp only [h2]
  change (match goC (itF I σ two fs elt cond cs) items with | some as => mkD .list as | none => none) = _
  rw [h3]
  exact h4
section
variable {σ : Store} {c0 c1 : Addr} {d : Int}
theorem elt_is (h0 : σ c0 = some (.cell (some (.d (.int d))))) (h1 : σ c1 = some (.cell (some keysA))) {j : Nat} (hj : j < 3) : ∃ a, a < 8 ∧ ev I2 σ boElt [some (.d (.int j))] [c0, c1] = some (.d (pr a j)) := by
  obtain ⟨a, ha, e⟩ := key_is σ (d.fdiv (8 ^ j))
  refine ⟨a, ha, ?_⟩
  have p1 : binA σ .Pow (.d (.int 8)) (.d (.int j)) = some (.int (8 ^ j)) := by
    have c : j = 0 ∨ j = 1 ∨ j = 2 := by omega
    rcases c with rfl | rfl | rfl <;> kernel_rfl
  have p2 : binA σ .FloorDiv (.d (.int d)) (.d (.int (8 ^ j))) = some (.int (d.fdiv (8 ^ j))) := by
    have c : j = 0 ∨ j = 1 ∨ j = 2 := by omega
    rcases c with rfl | rfl | rfl <;> kernel_rfl
  have p3 : binA σ .Mod (.d (.int (d.fdiv (8 ^ j)))) (.d (.int 8)) = some (.int ((d.fdiv (8 ^ j)).fmod 8)) := rfl
  have p4 : ev I2 σ (.sub (.tup (.cons (.k (.str (q []))) (.cons (.k (.str (q [49]))) .nil))) (.bin .Mod (.var 0) (.k (.int 2)))) [some (.d (.int j))] [c0, c1] = some (.d (.str (valL j))) := by
    have c : j = 0 ∨ j = 1 ∨ j = 2 := by omega
    rcases c with rfl | rfl | rfl <;> kernel_rfl
  unfold boElt
  rw [eve_tup, evs_cons, evs_cons, evs_nil, p4]
  simp only [eve_var, eve_cel, eve_glob, eve_k, eve_bin, eve_neg, eve_notE, eve_and, eve_or, eve_ite, eve_cmp, eve_chain, eve_attr, eve_sub, eve_slc, eve_tup, eve_lst, eve_call, eve_mcall, eve_bi, eve_meth, eve_join, eve_rng, eve_comp, eve_hin, eve_hat, List.getElem?_cons_zero, List.getElem?_cons_succ, h0, h1, p1, Option.map_some, p2, p3, e, Option.bind_some, mkD, allD]
  rfl
theorem item_is (h0 : σ c0 = some (.cell (some (.d (.int d))))) (h1 : σ c1 = some (.cell (some keysA))) {j : Nat} (hj : j < 3) : ∃ a, a < 8 ∧ itF I2 σ false [0, 1] boElt .nil [c0, c1] (.d (.int j)) = some (some (.d (pr a j))) := by
  obtain ⟨a, ha, e⟩ := elt_is h0 h1 hj
  refine ⟨a, ha, ?_⟩
  show (ev I2 σ boElt [some (.d (.int j))] [c0, c1]).map some = _
  rw [e]; rfl
theorem mem_allP {ps : List PyData} : (ps = [] ∨ (∃ a, a < 8 ∧ ps = [pr a 0]) ∨ (∃ a b, a < 8 ∧ b < 8 ∧ ps = [pr a 0, pr b 1]) ∨ (∃ a b c, a < 8 ∧ b < 8 ∧ c < 8 ∧ ps = [pr a 0, pr b 1, pr c 2])) → ps ∈ allP := by
  intro h
  unfold allP shortP blockP
  simp only [List.mem_append, List.mem_singleton, List.mem_map, List.mem_flatMap, List.mem_range]
  rcases h with h | ⟨a, ha, h⟩ | ⟨a, b, ha, hb, h⟩ | ⟨a, b, c, ha, hb, hc, h⟩
  · exact .inl (.inl (.inl h))
  · exact .inl (.inl (.inr ⟨a, ha, h.symm⟩))
  · exact .inl (.inr ⟨a, ha, b, hb, h.symm⟩)
  · exact .inr ⟨a, ha, b, hb, c, hc, h.symm⟩
theorem pairs_is (h0 : σ c0 = some (.cell (some (.d (.int d))))) (h1 : σ c1 = some (.cell (some keysA))) (l : Lo) : ∃ ps, ps ∈ allP ∧ ev I2 σ boPairs l [c0, c1] = some (.d (.tuple ps)) := by
  have hr : ev I2 σ (.rng (.cons (.bin .Mod (.bin .FloorDiv (.cel 0) (.k (.int 512))) (.k (.int 4))) .nil)) l [c0, c1] = some (.rng 0 ((d.fdiv 512).fmod 4) 1) := by
    have p2 : binA σ .FloorDiv (.d (.int d)) (.d (.int 512)) = some (.int (d.fdiv 512)) := rfl
    have p3 : binA σ .Mod (.d (.int (d.fdiv 512))) (.d (.int 4)) = some (.int ((d.fdiv 512).fmod 4)) := rfl
    simp only [eve_var, eve_cel, eve_glob, eve_k, eve_bin, eve_neg, eve_notE, eve_and, eve_or, eve_ite, eve_cmp, eve_chain, eve_attr, eve_sub, eve_slc, eve_tup, eve_lst, eve_call, eve_mcall, eve_bi, eve_meth, eve_join, eve_rng, eve_comp, eve_hin, eve_hat, evs_nil, evs_cons, List.getElem?_cons_zero, h0, p2, Option.map_some, p3, Option.bind_some, rngA, allD, intsD, Option.map_some, Option.bind_some]
  obtain ⟨a0, l0, e0⟩ := item_is h0 h1 (j := 0) (by omega)
  obtain ⟨a1, l1, e1⟩ := item_is h0 h1 (j := 1) (by omega)
  obtain ⟨a2, l2, e2⟩ := item_is h0 h1 (j := 2) (by omega)
  have g1 : 0 ≤ (d.fdiv 512).fmod 4 := Int.fmod_nonneg_of_pos _ (by decide)
  have g2 : (d.fdiv 512).fmod 4 < 4 := Int.fmod_lt_of_pos _ (by decide)
  have key : ∀ (t : Int) (ps : List PyData), (d.fdiv 512).fmod 4 = t → ps.length ≤ 3 → (∃ items, iterA (.rng 0 t 1) = some items ∧ goC (itF I2 σ false [0, 1] boElt .nil [c0, c1]) items = some (ps.map .d)) → ev I2 σ boPairs l [c0, c1] = some (.d (.tuple ps)) := by
    rintro t ps ht hl ⟨items, k1, k2⟩
    rw [ht] at hr
    have k3 : mkD .list (ps.map .d) = some (.d (.list ps)) := by
      unfold mkD; rw [allD_map]; simp only; rw [if_pos (by rw [sz]; omega)]
    have k4 : tupleOfA σ (.d (.list ps)) = some (.tuple ps) := by
      unfold tupleOfA
      have : listOf? σ (.d (.list ps)) = some (ps.map .d) := rfl
      simp only [this, List.length_map]
      rw [if_pos (by rw [sz]; omega), allD_map]; rfl
    unfold boPairs
    rw [eve_bi]
    have k5 := ev_comp (two := false) (fs := [0, 1]) hr k1 k2 k3
    unfold boElt at k5
    rw [k5]
    simp only [Option.bind_some, biA, k4, Option.map_some]
  have c : (d.fdiv 512).fmod 4 = 0 ∨ (d.fdiv 512).fmod 4 = 1 ∨ (d.fdiv 512).fmod 4 = 2 ∨ (d.fdiv 512).fmod 4 = 3 := by omega
  rcases c with c | c | c | c
  · exact ⟨[], mem_allP (.inl rfl), key 0 [] c (by decide) ⟨[], by kernel_rfl, rfl⟩⟩
  · exact ⟨[pr a0 0], mem_allP (.inr (.inl ⟨_, l0, rfl⟩)), key 1 _ c (by simp) ⟨[.d (.int 0)], by kernel_rfl, by simp only [goC]; rw [show (AV.d (.int 0)) = .d (.int (0 : Nat)) from rfl, e0]; rfl⟩⟩
  · exact ⟨[pr a0 0, pr a1 1], mem_allP (.inr (.inr (.inl ⟨_, _, l0, l1, rfl⟩))), key 2 _ c (by simp) ⟨[.d (.int (0 : Nat)), .d (.int (1 : Nat))], by kernel_rfl, by simp only [goC, e0, e1]; rfl⟩⟩
  · exact ⟨[pr a0 0, pr a1 1, pr a2 2], mem_allP (.inr (.inr (.inr ⟨_, _, _, l0, l1, l2, rfl⟩))), key 3 _ c (by simp) ⟨[.d (.int (0 : Nat)), .d (.int (1 : Nat)), .d (.int (2 : Nat))], by kernel_rfl, by simp only [goC, e0, e1, e2]; rfl⟩⟩
noncomputable def dueV (ps : List PyData) : Bool := ps.any fun p => match p with | .tuple [.str k, _] => k == q [99, 111, 108, 111, 114] || k == q [102, 97, 99, 101] || k == q [115, 105, 122, 101] | _ => false
noncomputable def DueAt (l : List (List PyData)) : Prop := ∀ (σ : Store) (cs : List Addr) (x0 x1 x2 x3 x4 x5 x7 : Option AV),
    (l.map fun ps => evS I2 σ bo7 cs [x0, x1, x2, x3, x4, x5, some (.d (.tuple ps)), x7]) = l.map fun ps => some (.next, [x0, x1, x2, x3, x4, x5, some (.d (.tuple ps)), some (.d (.bool (dueV ps)))])
noncomputable def DueIn (l : List (List PyData)) : Prop := ∀ (σ : Store) (cs : List Addr) (x0 x1 x2 x3 x4 x5 x7 : Option AV) (ps : List PyData), ps ∈ l → evS I2 σ bo7 cs [x0, x1, x2, x3, x4, x5, some (.d (.tuple ps)), x7] = some (.next, [x0, x1, x2, x3, x4, x5, some (.d (.tuple ps)), some (.d (.bool (dueV ps)))])
theorem DueAt.l {l m : List (List PyData)} (h : DueAt (l ++ m)) : DueIn l := fun σ cs x0 x1 x2 x3 x4 x5 x7 ps q => List.map_inj_left.mp (h σ cs x0 x1 x2 x3 x4 x5 x7) ps (List.mem_append_left _ q)
theorem DueAt.r {l m : List (List PyData)} (h : DueAt (l ++ m)) : DueIn m := fun σ cs x0 x1 x2 x3 x4 x5 x7 ps q => List.map_inj_left.mp (h σ cs x0 x1 x2 x3 x4 x5 x7) ps (List.mem_append_right _ q)
theorem due_s : DueAt (shortP ++ []) := fun _ _ _ _ _ _ _ _ _ => by kernel_rfl
theorem due_0 : DueAt (blockP 0 ++ blockP 1) := fun _ _ _ _ _ _ _ _ _ => by kernel_rfl
theorem due_1 : DueAt (blockP 2 ++ blockP 3) := fun _ _ _ _ _ _ _ _ _ => by kernel_rfl
theorem due_2 : DueAt (blockP 4 ++ blockP 5) := fun _ _ _ _ _ _ _ _ _ => by kernel_rfl
theorem due_3 : DueAt (blockP 6 ++ blockP 7) := fun _ _ _ _ _ _ _ _ _ => by kernel_rfl
theorem due_b : ∀ a : Nat, a < 8 → DueIn (blockP a)
  | 0, _ => due_0.l
  | 1, _ => due_0.r
  | 2, _ => due_1.l
  | 3, _ => due_1.r
  | 4, _ => due_2.l
  | 5, _ => due_2.r
  | 6, _ => due_3.l
  | 7, _ => due_3.r
  | n + 8, h => absurd h (by omega)
theorem due_is {ps : List PyData} (h : ps ∈ allP) (cs : List Addr) (x0 x1 x2 x3 x4 x5 x7 : Option AV) : evS I2 σ bo7 cs [x0, x1, x2, x3, x4, x5, some (.d (.tuple ps)), x7] = some (.next, [x0, x1, x2, x3, x4, x5, some (.d (.tuple ps)), some (.d (.bool (dueV ps)))]) := by
  rcases List.mem_append.mp h with h | h
  · exact due_s.l σ cs x0 x1 x2 x3 x4 x5 x7 ps h
  · obtain ⟨a, ha, h⟩ := List.mem_flatMap.mp h
    exact due_b a (List.mem_range.mp ha) σ cs x0 x1 x2 x3 x4 x5 x7 ps h
end
end Mine
end

section
set_option maxRecDepth 100000
namespace Mine

theorem I2_528 (as : List AV) (σ : Store) : I2 528 as σ = g528 as σ := by simp only [I2, I1, addT, Nat.reduceEqDiff, if_false, if_true]
noncomputable def boL : Lo := ((runK I2 (fun _ => none) 9 c_law_breakouts_hold [] (lo0 [scr []] 7)).map (·.2)).getD []
noncomputable def bx (i : Nat) : Option AV := boL.getD i none
theorem bo_run (σ : Store) (cs : List Addr) (x : Option AV) : runK I2 σ 9 c_law_breakouts_hold cs [x, none, none, none, none, none, none, none] = some (bo2, [x, bx 1, bx 2, bx 3, bx 4, none, none, none]) := by kernel_rfl
section
variable {C : Cfg} {n : Nat} {σ : Store} {c0 c1 : Addr} {Q : PostS}
theorem bo_body {xs : List Int} (hz : xs.length ≤ 63) {k : Nat} (hk : k < 14) {x1 x2 x3 x4 x6 x7 : Option AV} (hne : c0 ≠ c1) {v : Option AV} (h0 : σ c0 = some (.cell v)) (h1 : σ c1 = some (.cell (some keysA)))
    (q : ∀ y6 y7 d, Q .next [some (scr xs), x1, x2, x3, x4, some (.d (.int k)), y6, y7] (σ.set c0 (.cell (some (.d (.int d)))))) :
    wpS C n I2 bo3 [c0, c1] [some (scr xs), x1, x2, x3, x4, some (.d (.int k)), x6, x7] σ Q := by
  unfold bo3
  rw [wpS_asgC, wpX_pe]
  have e1 : ev I2 σ (.call 528 (.cons (.var 0) (.cons (.var 5) .nil))) [some (scr xs), x1, x2, x3, x4, some (.d (.int k)), x6, x7] [c0, c1] = some (.d (.int (digitL xs k))) := by
    simp only [eve_var, eve_cel, eve_glob, eve_k, eve_bin, eve_neg, eve_notE, eve_and, eve_or, eve_ite, eve_cmp, eve_chain, eve_attr, eve_sub, eve_slc, eve_tup, eve_lst, eve_call, eve_mcall, eve_bi, eve_meth, eve_join, eve_rng, eve_comp, eve_hin, eve_hat, evs_nil, evs_cons, List.getElem?_cons_zero, List.getElem?_cons_succ, Option.bind_some, I2_528, digit_is hz hk]
    rfl
  rw [e1]
  refine ⟨⟨_, h0⟩, ?_⟩
  generalize digitL xs k = d at *
  have g0 : (σ.set c0 (.cell (some (.d (.int d))))) c0 = some (.cell (some (.d (.int d)))) := Store.set_self ..
  have g1 : (σ.set c0 (.cell (some (.d (.int d))))) c1 = some (.cell (some keysA)) := by rw [Store.set_ne _ _ (Ne.symm hne)]; exact h1
  have q' := fun y6 y7 => q y6 y7 d
  generalize σ.set c0 (.cell (some (.d (.int d)))) = τ at *
  obtain ⟨ps, hps, e2⟩ := pairs_is g0 g1 [some (scr xs), x1, x2, x3, x4, some (.d (.int k)), x6, x7]
  refine asg_pe e2 ?_
  have fin : ∀ ps, ps ∈ allP → wpS C n I2 bo7 [c0, c1] [some (scr xs), x1, x2, x3, x4, some (.d (.int k)), some (.d (.tuple ps)), x7] τ Q := fun ps h => evS_ok (due_is h _ _ _ _ _ _ _ _) (q' _ _)
  have e3 : ∃ b, tru (ev I2 τ (.and (.cmp .Gt (.var 5) (.k (.int 11))) (.cmp .Eq (.bin .Mod (.bin .FloorDiv (.cel 0) (.k (.int 512))) (.k (.int 4))) (.k (.int 0)))) [some (scr xs), x1, x2, x3, x4, some (.d (.int k)), some (.d (.tuple ps)), x7] [c0, c1]) = some b := by
    have p2 : binA τ .FloorDiv (.d (.int d)) (.d (.int 512)) = some (.int (d.fdiv 512)) := by kernel_rfl
    have p3 : binA τ .Mod (.d (.int (d.fdiv 512))) (.d (.int 4)) = some (.int ((d.fdiv 512).fmod 4)) := by kernel_rfl
    have p4 : cmpA τ .Gt (.d (.int k)) (.d (.int 11)) = some (decide ((11 : Int) < k)) := rfl
    simp only [eve_var, eve_cel, eve_glob, eve_k, eve_bin, eve_neg, eve_notE, eve_and, eve_or, eve_ite, eve_cmp, eve_chain, eve_attr, eve_sub, eve_slc, eve_tup, eve_lst, eve_call, eve_mcall, eve_bi, eve_meth, eve_join, eve_rng, eve_comp, eve_hin, eve_hat, List.getElem?_cons_zero, List.getElem?_cons_succ, g0, p2, Option.map_some, p3, eq_int, p4, tru]
    by_cases hh : (11 : Int) < k
    · rw [decide_eq_true hh]; exact ⟨_, rfl⟩
    · rw [decide_eq_false hh]; exact ⟨_, rfl⟩
  obtain ⟨b, e3⟩ := e3
  refine ife_step b e3 ?_
  cases b with
  | false => exact fin ps hps
  | true =>
    obtain ⟨a, ha, e4⟩ := key_is τ d
    refine asg_pe (a := .d (.tuple [pr a 0])) ?_ (fin _ (mem_allP (.inr (.inl ⟨a, ha, rfl⟩))))
    have p3 : binA τ .Mod (.d (.int d)) (.d (.int 8)) = some (.int (d.fmod 8)) := by kernel_rfl
    simp only [eve_var, eve_cel, eve_glob, eve_k, eve_bin, eve_neg, eve_notE, eve_and, eve_or, eve_ite, eve_cmp, eve_chain, eve_attr, eve_sub, eve_slc, eve_tup, eve_lst, eve_call, eve_mcall, eve_bi, eve_meth, eve_join, eve_rng, eve_comp, eve_hin, eve_hat, evs_nil, evs_cons, List.getElem?_cons_zero, List.getElem?_cons_succ, g0, g1, p3, Option.map_some, e4, Option.bind_some, mkD, allD]
    rfl
end
section
variable {C : Cfg} (H : KOk C) {n : Nat} {Q : AV → Store → Prop} {σ : Store}
include H
theorem breakouts_T {xs : List Int} (hz : xs.length ≤ 63) (q : Q (.d (.bool true)) σ) : TCc C 3 (.ref 543) [scr xs] σ Q := by
  have hf := H.fnI (f := 543) (x := x_law_breakouts_hold) (pn := p_law_breakouts_hold) 32 rfl
  refine TC_fun H.tab (I2_ok H) hf.1 (CxOk.of o_law_breakouts_hold) k_law_breakouts_hold (hf.2 [scr xs] rfl) rfl (l0 := [some (scr xs), none, none, none, none, none, none, none]) (by rfl) (v0 := [none, none]) (by rfl) fun cs h1 h2 h3 => ?_
  obtain ⟨c0, c1, rfl⟩ : ∃ c0 c1, cs = [c0, c1] := by
    match cs, h1 with
    | [a, b], _ => exact ⟨a, b, rfl⟩
  have hne : c0 ≠ c1 := fun e => by rw [e] at h2; simp at h2
  have f0 : σ c0 = none := h3 c0 (by simp)
  have f1 : σ c1 = none := h3 c1 (by simp)
  refine runK_ok (bo_run _ _ _) ?_
  have g0 : (setCells σ [c0, c1] [none, none]) c0 = some (.cell none) := by
    show ((σ.set c0 (.cell none)).set c1 (.cell none)) c0 = _
    rw [Store.set_ne _ _ hne]; exact Store.set_self ..
  have g1 : (setCells σ [c0, c1] [none, none]) c1 = some (.cell none) := by
    show ((σ.set c0 (.cell none)).set c1 (.cell none)) c1 = _
    exact Store.set_self ..
  have gf : ∀ a o, σ a = some o → (setCells σ [c0, c1] [none, none]) a = some o := fun a o e => by
    show ((σ.set c0 (.cell none)).set c1 (.cell none)) a = _
    have n0 : a ≠ c0 := fun q => by rw [q, f0] at e; cases e
    have n1 : a ≠ c1 := fun q => by rw [q, f1] at e; cases e
    rw [Store.set_ne _ _ n1, Store.set_ne _ _ n0]; exact e
  generalize setCells σ [c0, c1] [none, none] = τ at *
  unfold bo2
  rw [wpS_asgC, wpX_pe]
  have ek : ev I2 τ boKeys [some (scr xs), bx 1, bx 2, bx 3, bx 4, none, none, none] [c0, c1] = some keysA := by kernel_rfl
  unfold boKeys at ek
  rw [ek]
  refine ⟨⟨_, g1⟩, ?_⟩
  have k0 : (τ.set c1 (.cell (some keysA))) c0 = some (.cell none) := by rw [Store.set_ne _ _ hne]; exact g0
  have k1 : (τ.set c1 (.cell (some keysA))) c1 = some (.cell (some keysA)) := Store.set_self ..
  have kf : Fewer σ (τ.set c1 (.cell (some keysA))) := fun a o e => by
    have n1 : a ≠ c1 := fun q => by rw [q, f1] at e; cases e
    rw [Store.set_ne _ _ n1]; exact gf a o e
  generalize τ.set c1 (.cell (some keysA)) = τ at *
  have st : ∀ {τ : Store} {d : Int}, Fewer σ τ → Fewer σ (τ.set c0 (.cell (some (.d (.int d))))) := fun k a o e => by
    have n0 : a ≠ c0 := fun q => by rw [q, f0] at e; cases e
    rw [Store.set_ne _ _ n0]; exact k a o e
  have sk : ∀ {τ : Store} {d : Int}, τ c1 = some (.cell (some keysA)) → (τ.set c0 (.cell (some (.d (.int d))))) c1 = some (.cell (some keysA)) := fun k => by rw [Store.set_ne _ _ (Ne.symm hne)]; exact k
  refine for_step (x := .d (.tuple [.int 11, .int 12, .int 13])) (items := [.d (.int (11 : Nat)), .d (.int (12 : Nat)), .d (.int (13 : Nat))]) (by kernel_rfl) (by kernel_rfl) ?_
  refine bo_body hz (k := 11) (by decide) hne k0 k1 fun y6 y7 d1 => ?_
  refine bo_body hz (k := 12) (by decide) hne (Store.set_self ..) (sk k1) fun y6 y7 d2 => ?_
  refine bo_body hz (k := 13) (by decide) hne (Store.set_self ..) (sk (sk k1)) fun y6 y7 d3 => ?_
  exact ⟨σ, st (st (st kf)), q⟩
end
end Mine
end

section
set_option maxRecDepth 100000
namespace Mine

theorem I3_429 (as : List AV) (σ : Store) : I3 429 as σ = g429 as σ := by simp only [I3, I2, I1, addT, Nat.reduceEqDiff, if_false, if_true]
theorem I4_56 (as : List AV) (σ : Store) : I4 56 as σ = g56 as σ := by simp only [I4, I3, I2, I1, addT, Nat.reduceEqDiff, if_false, if_true]
theorem I4_63 (as : List AV) (σ : Store) : I4 63 as σ = g63 as σ := by simp only [I4, addT, if_true]
theorem a3_429 (as : List AV) (σ : Store) : addT I2 49 g49 429 as σ = g429 as σ := I3_429 as σ
structure At (σ : Store) (t : Addr) (i : Nat) (s n a : PyData) : Prop where
  ex : ∃ x1 x2 x3 as, attrA σ 439 1 (.ref t) = some (.ref x1) ∧ attrA σ 439 2 (.ref t) = some (.ref x2) ∧ attrA σ 439 3 (.ref t) = some (.ref x3) ∧ instA σ 439 (.ref t) = some as ∧
    subA σ (.ref x1) (.d (.int i)) = some (.d s) ∧ subA σ (.ref x2) (.d (.int i)) = some (.d n) ∧ subA σ (.ref x3) (.d (.int i)) = some (.d a)
noncomputable def outV (x : Option (Out × Lo)) : Option AV := match x with | some (o, _) => some o.val | none => none
noncomputable def d56 (s n : PyData) : CS := (.ret (.pe (.and (.cmp .Eq (.k s) (.k (.str (q [109, 97, 116, 104])))) (.cmp .In (.k n) (.tup (.cons (.k (.str (q [109, 105]))) (.cons (.k (.str (q [109, 111]))) (.cons (.k (.str (q [109, 110]))) (.cons (.k (.str (q [109, 115]))) (.cons (.k (.str (q [109, 116, 101, 120, 116]))) .nil))))))))))
noncomputable def F56 (σ : Store) (t i : AV) (s n : PyData) : Option AV := outV (evS I0 σ (d56 s n) [] (lo0 [t, i] 0))
noncomputable def d429 (a : PyData) : CS := (.for1 3 (.k a)
 (.ife (.cmp .Eq (.sub (.var 3) (.k (.int 0))) (.var 2))
 (.ret (.pe (.sub (.var 3) (.k (.int 1))))) .done
 .done)
 (.ret (.pe (.k .none))))
noncomputable def F429 (σ : Store) (t i x : AV) (a : PyData) : Option AV := outV (evS I0 σ (d429 a) [] (lo0 [t, i, x] 1))
noncomputable def J63 (t i x : AV) (a : PyData) : Tab := fun f as σ => if f = 429 then F429 σ t i x a else I3 f as σ
noncomputable def d63 (s n : PyData) : CS := (.ife (.cmp .Eq (.k s) (.k (.str (q [115, 118, 103]))))
 (.ret (.pe (.cmp .In (.k n) (.tup (.cons (.k (.str (q [102, 111, 114, 101, 105, 103, 110, 79, 98, 106, 101, 99, 116]))) (.cons (.k (.str (q [100, 101, 115, 99]))) (.cons (.k (.str (q [116, 105, 116, 108, 101]))) .nil))))))) .done
 (.ife (.or (.cmp .NotEq (.k s) (.k (.str (q [109, 97, 116, 104])))) (.cmp .NotEq (.k n) (.k (.str (q [97, 110, 110, 111, 116, 97, 116, 105, 111, 110, 45, 120, 109, 108])))))
 (.ret (.pe (.k (.bool false)))) .done
 (.asg 2 (.pe (.call 429 (.cons (.var 0) (.cons (.var 1) (.cons (.k (.str (q [101, 110, 99, 111, 100, 105, 110, 103]))) .nil)))))
 (.ret (.pe (.and (.cmp .IsNot (.var 2) (.k .none)) (.cmp .In (.call 49 (.cons (.var 2) .nil)) (.tup (.cons (.k (.str (q [116, 101, 120, 116, 47, 104, 116, 109, 108]))) (.cons (.k (.str (q [97, 112, 112, 108, 105, 99, 97, 116, 105, 111, 110, 47, 120, 104, 116, 109, 108, 43, 120, 109, 108]))) .nil))))))))))
noncomputable def F63 (σ : Store) (t i : AV) (s n a : PyData) : Option AV := outV (evS (J63 t i (.d (.str (q [101, 110, 99, 111, 100, 105, 110, 103]))) a) σ (d63 s n) [] (lo0 [t, i] 1))
noncomputable def J84 (t i : AV) (s n a : PyData) : Tab := fun f as σ => if f = 56 then F56 σ t i s n else if f = 63 then F63 σ t i s n a else none
noncomputable def d84 (s : PyData) : CS := (.ife (.cmp .Eq (.k s) (.k (.str (q [104, 116, 109, 108]))))
 (.ret (.pe (.k (.bool true)))) .done
 (.ret (.pe (.or (.call 56 (.cons (.var 0) (.cons (.var 1) .nil))) (.call 63 (.cons (.var 0) (.cons (.var 1) .nil)))))))
noncomputable def F84 (σ : Store) (t i : AV) (s n a : PyData) : Option AV := outV (evS (J84 t i s n a) σ (d84 s) [] (lo0 [t, i] 0))
section
variable {σ : Store} {t : Addr} {i : Nat} {s n a : PyData}
theorem evS_retM {I : Tab} {e : CE} {cs : List Addr} {l : Lo} : evS I σ (.ret (.pe e)) cs l = match ev I σ e l cs with | some a => some (.ret a, l) | none => none := by rw [eqS_ret]; try rfl
theorem evS_asgM {I : Tab} {e : CE} {k : Nat} {r : CS} {cs : List Addr} {l : Lo} : evS I σ (.asg k (.pe e) r) cs l = match ev I σ e l cs with | some a => evS I σ r cs (l.set k (some a)) | none => none := by rw [eqS_asg]; try rfl
theorem evS_ifr {I : Tab} {u e : CE} {r : CS} {cs : List Addr} {l : Lo} : evS I σ (.ife u (.ret (.pe e)) .done r) cs l = match tru (ev I σ u l cs) with | some true => (match ev I σ e l cs with | some a => some (.ret a, l) | none => none) | some false => evS I σ r cs l | none => none := by
  rw [eqS_ife, evS_retM, eqS_done]
  cases tru (ev I σ u l cs) with
  | none => rfl
  | some b =>
    cases b with
    | false => rfl
    | true => cases ev I σ e l cs <;> rfl
theorem ret_run (x : Option AV) (l : Lo) : outV (match x with | some a => some (Out.ret a, l) | none => none) = x := by cases x <;> rfl
theorem run2 {I : Tab} {c : CS} {m : Nat} {x y : AV} : runP I c m 2 [x, y] σ = outV (evS I σ c [] (lo0 [x, y] m)) := by unfold runP outV; rw [if_pos (show [x, y].length = 2 from rfl)]; try rfl
theorem run3 {I : Tab} {c : CS} {m : Nat} {x y z : AV} : runP I c m 3 [x, y, z] σ = outV (evS I σ c [] (lo0 [x, y, z] m)) := by unfold runP outV; rw [if_pos (show [x, y, z].length = 3 from rfl)]; try rfl
theorem g56_is (h : At σ t i s n a) : g56 [.ref t, .d (.int i)] σ = F56 σ (.ref t) (.d (.int i)) s n := by
  obtain ⟨x1, x2, x3, as, e1, e2, e3, e4, e5, e6, e7⟩ := h.ex
  unfold g56 F56
  rw [run2]
  unfold c_is_math_point d56
  simp only [evS_ifr, evS_asgM, evS_retM, eve_var, eve_cel, eve_glob, eve_k, eve_bin, eve_neg, eve_notE, eve_and, eve_or, eve_ite, eve_cmp, eve_chain, eve_attr, eve_sub, eve_slc, eve_tup, eve_lst, eve_call, eve_mcall, eve_bi, eve_meth, eve_join, eve_rng, eve_comp, eve_hin, eve_hat, evs_nil, evs_cons, lo0, List.map, List.replicate, List.append_nil, List.cons_append, List.nil_append, List.getElem?_cons_zero, List.getElem?_cons_succ, List.set_cons_zero, List.set_cons_succ, Option.bind_some, Nat.reduceLeDiff, if_true, e1, e2, e5, e6]
theorem g429_is (h : At σ t i s n a) (x : AV) : g429 [.ref t, .d (.int i), x] σ = F429 σ (.ref t) (.d (.int i)) x a := by
  obtain ⟨x1, x2, x3, as, e1, e2, e3, e4, e5, e6, e7⟩ := h.ex
  unfold g429 F429
  rw [run3]
  unfold c_Tree_value d429
  rw [eqS_for1, eqS_for1]
  simp only [eve_var, eve_cel, eve_glob, eve_k, eve_bin, eve_neg, eve_notE, eve_and, eve_or, eve_ite, eve_cmp, eve_chain, eve_attr, eve_sub, eve_slc, eve_tup, eve_lst, eve_call, eve_mcall, eve_bi, eve_meth, eve_join, eve_rng, eve_comp, eve_hin, eve_hat, lo0, List.map, List.replicate, List.append_nil, List.cons_append, List.nil_append, List.getElem?_cons_zero, List.getElem?_cons_succ, Option.bind_some, e3, e7]
theorem g63_is (h : At σ t i s n a) : g63 [.ref t, .d (.int i)] σ = F63 σ (.ref t) (.d (.int i)) s n a := by
  have h429 := g429_is h
  obtain ⟨x1, x2, x3, as, e1, e2, e3, e4, e5, e6, e7⟩ := h.ex
  unfold g63 F63
  rw [run2]
  unfold c_is_html_point d63
  simp only [evS_ifr, evS_asgM, evS_retM, eve_var, eve_cel, eve_glob, eve_k, eve_bin, eve_neg, eve_notE, eve_and, eve_or, eve_ite, eve_cmp, eve_chain, eve_attr, eve_sub, eve_slc, eve_tup, eve_lst, eve_call, eve_mcall, eve_bi, eve_meth, eve_join, eve_rng, eve_comp, eve_hin, eve_hat, evs_nil, evs_cons, lo0, List.map, List.replicate, List.append_nil, List.cons_append, List.nil_append, List.getElem?_cons_zero, List.getElem?_cons_succ, List.set_cons_zero, List.set_cons_succ, Option.bind_some, Nat.reduceLeDiff, if_true, e1, e2, e4, e5, e6, I3_429, a3_429, h429, J63, Nat.reduceEqDiff, if_false]
  rfl
theorem g84_is (h : At σ t i s n a) : g84 [.ref t, .d (.int i)] σ = F84 σ (.ref t) (.d (.int i)) s n a := by
  have h56 := g56_is h
  have h63 := g63_is h
  obtain ⟨x1, x2, x3, as, e1, e2, e3, e4, e5, e6, e7⟩ := h.ex
  unfold g84 F84
  rw [run2]
  unfold c_holds_html d84
  simp only [evS_ifr, evS_asgM, evS_retM, eve_var, eve_cel, eve_glob, eve_k, eve_bin, eve_neg, eve_notE, eve_and, eve_or, eve_ite, eve_cmp, eve_chain, eve_attr, eve_sub, eve_slc, eve_tup, eve_lst, eve_call, eve_mcall, eve_bi, eve_meth, eve_join, eve_rng, eve_comp, eve_hin, eve_hat, evs_nil, evs_cons, lo0, List.map, List.replicate, List.append_nil, List.cons_append, List.nil_append, List.getElem?_cons_zero, List.getElem?_cons_succ, List.set_cons_zero, List.set_cons_succ, Option.bind_some, Nat.reduceLeDiff, if_true, e1, e5, I4_56, I4_63, h56, h63, J84, Nat.reduceEqDiff, if_false]
end
noncomputable def spk (kd : PyData) : PyData := match kd with | .tuple [s, _, _] => s | _ => .none
noncomputable def nmk (kd : PyData) : PyData := match kd with | .tuple [_, n, _] => n | _ => .none
noncomputable def atk (kd : PyData) : List PyData := match kd with | .tuple [_, _, .tuple a] => a | _ => []
noncomputable def holdsB (kd : PyData) : Bool := match g538 [.d kd] (fun _ => none) with | some (.d (.bool b)) => b | _ => false
theorem holds_all (σ : Store) : shapesL.map (fun kd => g538 [.d kd] σ) = shapesL.map fun kd => some (.d (.bool (holdsB kd))) := by kernel_rfl
theorem holds_is {σ : Store} {kd : PyData} (h : kd ∈ shapesL) : g538 [.d kd] σ = some (.d (.bool (holdsB kd))) := List.map_inj_left.mp (holds_all σ) kd h
theorem html_all (σ : Store) (t i : AV) : shapesL.map (fun kd => F84 σ t i (spk kd) (nmk kd) (.list (atk kd))) = shapesL.map fun kd => some (.d (.bool (holdsB kd))) := by kernel_rfl
theorem html_is {σ : Store} {t : Addr} {i : Nat} {kd : PyData} (h : kd ∈ shapesL) (at' : At σ t i (spk kd) (nmk kd) (.list (atk kd))) : g84 [.ref t, .d (.int i)] σ = some (.d (.bool (holdsB kd))) := by
  rw [g84_is at']
  exact List.map_inj_left.mp (html_all σ _ _) kd h
end Mine
end

section
set_option maxRecDepth 100000
namespace Mine

theorem pickL_plain {α : Type} (xs : List α) (lo hi : Option Int) : pickL xs lo hi = (xs.drop (lo.elim 0 (clipAt xs.length))).take (hi.elim xs.length (clipAt xs.length) - lo.elim 0 (clipAt xs.length)) := by
  unfold pickL
  rw [sliceBounds_plain]
  simp only [sliceRange_one]
  have := pick_run xs.toArray (lo.elim 0 (clipAt xs.length)) (hi.elim xs.length (clipAt xs.length) - lo.elim 0 (clipAt xs.length))
  simpa using this
theorem pickL_upto {α : Type} (xs : List α) (b : Nat) : pickL xs none (some (b : Int)) = xs.take b := by
  rw [pickL_plain]
  simp only [Option.elim, clipAt_nat, List.drop_zero, Nat.sub_zero]
  rcases Nat.le_total b xs.length with h | h
  · rw [Nat.min_eq_left h]
  · rw [Nat.min_eq_right h, List.take_of_length_le (by simp), List.take_of_length_le (by simpa using h)]
theorem pickL_last {α : Type} (xs : List α) : pickL xs (some (-1)) none = xs.drop (xs.length - 1) := by
  rw [pickL_plain]
  have e : clipAt xs.length (-1) = xs.length - 1 := clipAt_neg _ 1 (by decide)
  simp only [Option.elim, e]
  rw [List.take_of_length_le (by simp)]
theorem pickL_butLast {α : Type} (xs : List α) : pickL xs none (some (-1)) = xs.take (xs.length - 1) := by
  rw [pickL_plain]
  have e : clipAt xs.length (-1) = xs.length - 1 := clipAt_neg _ 1 (by decide)
  simp only [Option.elim, e, List.drop_zero, Nat.sub_zero]

section
variable {C : Cfg} {σ : Store} {W : BW} {mode : Str} {md : PyData} {items errs : List PyData} {S : TS} {R : List (Addr × AO)}
structure Wd (σ : Store) (W : BW) (mode : Str) (items errs : List PyData) : Prop where
  i : instA σ 517 (.ref W.b) = some W.as
  a1 : attrA σ 517 1 (.ref W.b) = some (.ref W.A.t)
  a2 : attrA σ 517 2 (.ref W.b) = some (.ref W.st)
  a4 : attrA σ 517 4 (.ref W.b) = some (.d (.str mode))
  a15 : attrA σ 517 15 (.ref W.b) = some (.ref W.er)
  s1 : attrA σ 322 1 (.ref W.st) = some (.ref W.it)
  si : instA σ 322 (.ref W.st) = some [.ref W.A.t, .ref W.it]
  it : σ W.it = some (dl items)
  er : σ W.er = some (dl errs)
  br : σ W.b = some (.inst 517 W.db)
  bd : σ W.db = some (.ns 517 W.as)
  sr : σ W.st = some (.inst 322 W.ds)
  sd : σ W.ds = some (.ns 322 [.ref W.A.t, .ref W.it])
theorem Has.wd (h : Has σ (bE C W mode items errs S R)) (ok : W.Ok (.str mode)) : Wd σ W mode items errs :=
  ⟨instA_of (h.get 0 rfl) (h.get 1 rfl), attrA_of (h.get 0 rfl) (h.get 1 rfl) ok.t rfl, attrA_of (h.get 0 rfl) (h.get 1 rfl) ok.s rfl, attrA_of (h.get 0 rfl) (h.get 1 rfl) ok.m rfl, attrA_of (h.get 0 rfl) (h.get 1 rfl) ok.e rfl,
    attrA_of (h.get 2 rfl) (h.get 3 rfl) rfl rfl, instA_of (h.get 2 rfl) (h.get 3 rfl), h.get 4 rfl, h.get 5 rfl, h.get 0 rfl, h.get 1 rfl, h.get 2 rfl, h.get 3 rfl⟩
theorem dl_at {x : Addr} {xs : List PyData} {i : Nat} {d : PyData} (h : σ x = some (dl xs)) (hz : xs.length ≤ 1000) (hd : xs[i]? = some d) : subA σ (.ref x) (.d (.int i)) = some (.d d) :=
  subA_nat (seqOf_ref h) rfl (by rw [List.length_map]; exact hz) (by rw [List.getElem?_map, hd]; rfl)
theorem Has.at (h : Has σ (bE C W mode items errs S R)) {n : Nat} (hok : S.Ok n) (hn : n ≤ 100) {i : Nat} {s n' a : PyData} (h1 : S.spaces[i]? = some s) (h2 : S.names[i]? = some n') (h3 : S.attrs[i]? = some a) : At σ W.A.t i s n' a :=
  ⟨W.A.s, W.A.n, W.A.a, _, attrA_of (h.get 7 rfl) (h.get 8 rfl) rfl rfl, attrA_of (h.get 7 rfl) (h.get 8 rfl) rfl rfl, attrA_of (h.get 7 rfl) (h.get 8 rfl) rfl rfl, instA_of (h.get 7 rfl) (h.get 8 rfl),
    dl_at (h.get 10 rfl) (by rw [hok.hs]; omega) h1, dl_at (h.get 11 rfl) (by rw [hok.hn]; omega) h2, dl_at (h.get 12 rfl) (by rw [hok.ha]; omega) h3⟩
end
end Mine
end

section
set_option maxRecDepth 100000
namespace Mine

theorem I1_256 (as : List AV) (σ : Store) : I1 256 as σ = g256 as σ := by simp only [I1, addT, Nat.reduceEqDiff, if_false, if_true]
noncomputable def d105 (cur s n : PyData) : CS := (.ife (.or (.cmp .NotEq (.sub (.var 1) (.k (.int 0))) (.k (.str (q [101, 110, 100])))) (.cmp .NotEq (.sub (.var 1) (.k (.int 1))) (.k (.str (q [115, 99, 114, 105, 112, 116])))))
 (.ret (.pe (.k (.bool false)))) .done
 (.asg 2 (.pe (.k cur))
 (.ife (.cmp .Lt (.var 2) (.k (.int 0)))
 (.ret (.pe (.k (.bool false)))) .done
 (.ret (.pe (.and (.cmp .Eq (.k s) (.k (.str (q [115, 118, 103])))) (.cmp .Eq (.k n) (.k (.str (q [115, 99, 114, 105, 112, 116]))))))))))
noncomputable def F105 (σ : Store) (b t : AV) (cur s n : PyData) : Option AV := outV (evS I1 σ (d105 cur s n) [] (lo0 [b, t] 1))
section
variable {σ : Store} {W : BW} {mode : Str} {items errs : List PyData} {s n a : PyData}
theorem g105_top {i : Nat} {xs : List PyData} (w : Wd σ W mode items errs) (hi : items = xs ++ [.int i]) (hz : xs.length ≤ 900) (t : AV) (h : At σ W.A.t i s n a) : g105 [.ref W.b, t] σ = F105 σ (.ref W.b) t (.int i) s n := by
  have h256 : g256 [.ref W.st] σ = some (.d (.int i)) := by
    refine current_is w.sr w.sd (xs := xs.map .d) ?_ (by rw [List.length_map]; exact hz)
    rw [w.it, hi, dl, List.map_append]; rfl
  obtain ⟨x1, x2, x3, as, e1, e2, e3, e4, e5, e6, e7⟩ := h.ex
  unfold g105 F105
  rw [run2]
  unfold c_is_script_end d105
  simp only [evS_ifr, evS_asgM, evS_retM, eve_var, eve_cel, eve_glob, eve_k, eve_bin, eve_neg, eve_notE, eve_and, eve_or, eve_ite, eve_cmp, eve_chain, eve_attr, eve_sub, eve_slc, eve_tup, eve_lst, eve_call, eve_mcall, eve_bi, eve_meth, eve_join, eve_rng, eve_comp, eve_hin, eve_hat, evs_nil, evs_cons, lo0, List.map, List.replicate, List.append_nil, List.cons_append, List.nil_append, List.getElem?_cons_zero, List.getElem?_cons_succ, List.set_cons_zero, List.set_cons_succ, Option.bind_some, Nat.reduceLeDiff, if_true, w.a1, w.a2, w.si, e1, e2, e4, e5, e6, I1_256, h256]
theorem g105_nil (w : Wd σ W mode [] errs) (t : AV) : g105 [.ref W.b, t] σ = F105 σ (.ref W.b) t (.int (-1)) .none .none := by
  have h256 : g256 [.ref W.st] σ = some (.d (.int (-1))) := current_nil w.sr w.sd w.it
  unfold g105 F105
  rw [run2]
  unfold c_is_script_end d105
  simp only [evS_ifr, evS_asgM, evS_retM, eve_var, eve_cel, eve_glob, eve_k, eve_bin, eve_neg, eve_notE, eve_and, eve_or, eve_ite, eve_cmp, eve_chain, eve_attr, eve_sub, eve_slc, eve_tup, eve_lst, eve_call, eve_mcall, eve_bi, eve_meth, eve_join, eve_rng, eve_comp, eve_hin, eve_hat, evs_nil, evs_cons, lo0, List.map, List.replicate, List.append_nil, List.cons_append, List.nil_append, List.getElem?_cons_zero, List.getElem?_cons_succ, List.set_cons_zero, List.set_cons_succ, Option.bind_some, Nat.reduceLeDiff, if_true, w.a1, w.a2, w.si, I1_256, h256]
  have e : cmpA σ .Lt (.d (.int (-1))) (.d (.int 0)) = some true := rfl
  simp only [e, Option.map_some, tru]
end
end Mine
end

section
set_option maxRecDepth 100000
namespace Mine

section
variable {C : Cfg} (H : KOk C) {n : Nat} {Q : AV → Store → Prop} {σ : Store} {W : BW} {mode : Str} {items errs : List PyData} {S : TS} {R : List (Addr × AO)}
include H
theorem set_W {ns : List PyData} {many : Nat} (h : Has σ (bE C W mode items errs S R)) (ok : W.Ok (.str mode)) (hz : ns.length ≤ 1000)
    (q : ∀ σ' W', W'.b = W.b → W'.A = W.A → W'.Ok (.str mode) → Has σ' (bE C W' mode (ns.take many) [] S R) → Q (.d .none) σ') : TC C 1 (.ref 557) [.ref W.b, .d (.list ns), .d (.int many)] σ Q := by
  refine set_T H (h.get 0 rfl) (h.get 1 rfl) ok.s (h.get 2 rfl) (h.get 3 rfl) (by rw [ok.len]; decide) hz fun it e hit he => ?_
  rw [pickL_upto] at *
  have h1 := (h.add hit (.list ((ns.take many).map .d))).set 4 rfl (.ns 322 [.ref W.A.t, .ref it])
  have h2 := (h1.add he (.list [])).set 3 rfl (.ns 517 (W.as.set 15 (.ref e)))
  simp only [bE, List.set_cons_succ, List.set_cons_zero] at h2
  refine q _ ⟨W.b, W.db, W.st, W.ds, it, e, W.rd, W.A, W.as.set 15 (.ref e)⟩ rfl rfl ⟨?_, ?_, ?_, ?_, ?_, ?_, ok.n1⟩ ?_
  · simp [ok.len]
  · rw [List.getElem?_set_ne (by decide)]; exact ok.r
  · rw [List.getElem?_set_ne (by decide)]; exact ok.t
  · rw [List.getElem?_set_ne (by decide)]; exact ok.s
  · rw [List.getElem?_set_ne (by decide)]; exact ok.m
  · rw [List.getElem?_set_self (by rw [ok.len]; decide)]
  · have h3 := h2.sub (E' := (e, AO.list []) :: (it, dl (ns.take many)) :: (W.b, .inst 517 W.db) :: (W.db, .ns 517 (W.as.set 15 (.ref e))) :: (W.st, .inst 322 W.ds) :: (W.ds, .ns 322 [.ref W.A.t, .ref it]) :: (W.rd, .is (dictIs C mode 550)) :: treeE W.A S R)
      (((((((List.Sublist.refl _).cons _).cons _).cons_cons _).cons_cons _).cons_cons _).cons_cons _ |>.cons_cons _ |>.cons_cons _)
    refine h3.perm ?_
    have p : ([(W.b, AO.inst 517 W.db), (W.db, .ns 517 (W.as.set 15 (.ref e))), (W.st, .inst 322 W.ds), (W.ds, .ns 322 [.ref W.A.t, .ref it])] ++ [(it, dl (ns.take many)), (e, dl [])]).Perm ([(e, dl [])] ++ ([(it, dl (ns.take many))] ++ [(W.b, .inst 517 W.db), (W.db, .ns 517 (W.as.set 15 (.ref e))), (W.st, .inst 322 W.ds), (W.ds, .ns 322 [.ref W.A.t, .ref it])])) :=
      List.perm_append_comm.trans ((List.Perm.swap _ _ _))
    exact p.append_right _
end
end Mine
end

section
set_option maxRecDepth 100000
namespace Mine

noncomputable def words12 : List Str := [q [115, 99, 114, 105, 112, 116], q [103], q [102, 111, 114, 101, 105, 103, 110, 111, 98, 106, 101, 99, 116], q [99, 108, 105, 112, 112, 97, 116, 104], q [112], q [109, 105], q [97, 110, 110, 111, 116, 97, 116, 105, 111, 110, 45, 120, 109, 108], q [104, 116, 109, 108], q [120], q [98, 114], q [115, 118, 103], q [109, 97, 116, 104]]
noncomputable def tok4 (k n : Str) (as : List PyData) (b : Bool) : PyData := .tuple [.str k, .str n, .tuple as, .bool b]
noncomputable def wEnd : Str := q [101, 110, 100]
noncomputable def wStart : Str := q [115, 116, 97, 114, 116]
noncomputable def wScript : Str := q [115, 99, 114, 105, 112, 116]
noncomputable def ssP : PyData := .tuple [.str wScript, .str wScript]
noncomputable def endsL : List PyData := [tok4 wEnd wScript [] false, tok4 wEnd wScript [ssP] true]
noncomputable def othersL (w : Str) : List PyData := [tok4 wEnd (w ++ q [115]) [ssP] false, tok4 wStart wScript [] false, .tuple [.str (q [99, 111, 109, 109, 101, 110, 116]), .str wScript], .tuple [.str (q [99, 104, 97, 114]), .str (q [115])], .tuple [.str (q [100, 111, 99, 116, 121, 112, 101]), .str wScript, .none, .none, .bool false], .tuple [.str (q [101, 111, 102])]]
noncomputable def tokL (w : Str) : List PyData := endsL ++ othersL w
noncomputable def topB (kd : PyData) : Bool := match spk kd, nmk kd with | .str s, .str n => s == q [115, 118, 103] && n == wScript | _, _ => false
noncomputable def answers (b : Bool) : List PyData := [.bool b, .bool b, .bool false, .bool false, .bool false, .bool false, .bool false, .bool false]
theorem told_all (σ : Store) (b : AV) : (words12.map fun w => shapesL.map fun kd => (tokL w).map fun t => F105 σ b (.d t) (.int 0) (spk kd) (nmk kd)) = words12.map fun w => shapesL.map fun kd => (answers (topB kd)).map fun x => some (.d x) := by kernel_rfl
theorem told_nil (σ : Store) (b : AV) : (words12.map fun w => (tokL w).map fun t => F105 σ b (.d t) (.int (-1)) .none .none) = words12.map fun w => (answers false).map fun x => some (.d x) := by kernel_rfl
theorem lt_nat (σ : Store) (i : Nat) : cmpA σ .Lt (.d (.int i)) (.d (.int 0)) = some false := by
  show some (decide ((i : Int) < 0)) = _
  rw [decide_eq_false (by omega)]
theorem F105_nat (σ : Store) (b t : AV) (i : Nat) (s n : PyData) : F105 σ b t (.int i) s n = F105 σ b t (.int 0) s n := by
  have h0 := lt_nat σ 0
  have h1 := lt_nat σ i
  unfold F105 d105
  simp only [evS_ifr, evS_asgM, evS_retM, eve_var, eve_cel, eve_glob, eve_k, eve_bin, eve_neg, eve_notE, eve_and, eve_or, eve_ite, eve_cmp, eve_chain, eve_attr, eve_sub, eve_slc, eve_tup, eve_lst, eve_call, eve_mcall, eve_bi, eve_meth, eve_join, eve_rng, eve_comp, eve_hin, eve_hat, evs_nil, evs_cons, lo0, List.map, List.replicate, List.append_nil, List.cons_append, List.nil_append, List.getElem?_cons_zero, List.getElem?_cons_succ, List.set_cons_zero, List.set_cons_succ, Option.bind_some, Nat.reduceLeDiff, if_true, h1, show cmpA σ .Lt (.d (.int 0)) (.d (.int 0)) = some false from h0, Option.map_some, show tru (some (.d (.bool false))) = some false from rfl]
  generalize tru _ = o1
  cases o1 with
  | none => rfl
  | some x => cases x with
    | true => rfl
    | false => exact (ret_run _ _).trans (ret_run _ _).symm
end Mine
end

section
set_option maxRecDepth 100000
namespace Mine

theorem bE_move (C : Cfg) (W : BW) (mode : Str) (items errs : List PyData) (S : TS) (X R : List (Addr × AO)) : (X ++ bE C W mode items errs S R).Perm (bE C W mode items errs S (X ++ R)) := by
  have e : ∀ R, bE C W mode items errs S R = bE C W mode items errs S [] ++ R := fun R => by unfold bE treeE; simp
  rw [e R, e (X ++ R), ← List.append_assoc, ← List.append_assoc]
  exact List.perm_append_comm.append_right _
theorem bE_sub (C : Cfg) (W : BW) (mode : Str) (items errs : List PyData) (S : TS) {R R' : List (Addr × AO)} (h : R'.Sublist R) : (bE C W mode items errs S R').Sublist (bE C W mode items errs S R) := by
  have e : ∀ R, bE C W mode items errs S R = bE C W mode items errs S [] ++ R := fun R => by unfold bE treeE; simp
  rw [e R, e R']
  exact List.Sublist.append (List.Sublist.refl _) h
theorem Has.inR {C : Cfg} {σ : Store} {W : BW} {mode : Str} {items errs : List PyData} {S : TS} {R : List (Addr × AO)} {p : Addr × AO} (h : Has σ (bE C W mode items errs S R)) (hp : p ∈ R) : σ p.1 = some p.2 := by
  refine h.2 p ?_
  unfold bE treeE
  simp [hp]
noncomputable def topE : CE := (.cmp .Eq (.slc (.comp false [] (.slc (.var 0) .nil (.var 2)) (.slc (.var 0) .nil (.k (.int 2))) .nil) (.neg (.k (.int 1))) .nil) (.lst (.cons (.tup (.cons (.k (.str (q [115, 118, 103]))) (.cons (.k (.str (q [115, 99, 114, 105, 112, 116]))) .nil))) .nil)))
theorem goC_map {I : Tab} {σ : Store} {fs : List Nat} {elt : CE} {cs : List Addr} {f : PyData → PyData} : ∀ {xs : List PyData}, (∀ x ∈ xs, ev I σ elt [some (.d x)] (selC fs cs) = some (.d (f x))) → goC (itF I σ false fs elt .nil cs) (xs.map .d) = some ((xs.map f).map .d)
  | [], _ => rfl
  | x :: xs, h => by
    have e1 : itF I σ false fs elt .nil cs (.d x) = some (some (.d (f x))) := by
      show (ev I σ elt [some (.d x)] (selC fs cs)).map some = _
      rw [h x (by simp)]; rfl
    have e2 := goC_map (fs := fs) (cs := cs) fun y hy => h y (List.mem_cons_of_mem _ hy)
    simp only [List.map_cons, goC, e1, e2]
    rfl
theorem iter_list {xs : List PyData} (h : xs.length ≤ 1000) : iterA (.d (.list xs)) = some (xs.map .d) := by
  show (if xs.length ≤ sizeLine then _ else _) = _
  rw [if_pos (by rw [sz]; omega)]
theorem mkD_list {xs : List PyData} (h : xs.length ≤ 1000) : mkD .list (xs.map .d) = some (.d (.list xs)) := by
  unfold mkD; rw [allD_map]; simp only; rw [if_pos (by rw [sz]; omega)]
theorem slice_up {σ : Store} {xs : List PyData} {k : Nat} (h : xs.length ≤ 1000) : sliceA σ (.d (.list xs)) none (some (k : Int)) = some (.list (xs.take k)) := by
  have e : listOf? σ (.d (.list xs)) = some (xs.map .d) := rfl
  unfold sliceA
  simp only [e, List.length_map]
  rw [if_pos (by rw [sz]; omega), pickL_upto, ← List.map_take, allD_map]; rfl
theorem slice_last {σ : Store} {xs : List PyData} (h : xs.length ≤ 1000) : sliceA σ (.d (.list xs)) (some (-1)) none = some (.list (xs.drop (xs.length - 1))) := by
  have e : listOf? σ (.d (.list xs)) = some (xs.map .d) := rfl
  unfold sliceA
  simp only [e, List.length_map]
  rw [if_pos (by rw [sz]; omega), pickL_last, List.length_map, ← List.map_drop, allD_map]; rfl
noncomputable def pairK (kd : PyData) : PyData := .tuple [spk kd, nmk kd]
theorem pair_all (I : Tab) (σ : Store) (cs : List Addr) : (shapesL.map fun kd => ev I σ (.slc (.var 0) .nil (.k (.int 2))) [some (.d kd)] cs) = shapesL.map fun kd => some (.d (pairK kd)) := by kernel_rfl
theorem topq_all (σ : Store) : (shapesL.map fun kd => cmpA σ .Eq (.d (.list [pairK kd])) (.d (.list [.tuple [.str (q [115, 118, 103]), .str (q [115, 99, 114, 105, 112, 116])]]))) = shapesL.map fun kd => some (topB kd) := by kernel_rfl
theorem top_is {I : Tab} {σ : Store} {ks : List PyData} {many : Nat} (hk : ∀ kd ∈ ks, kd ∈ shapesL) (hm : many ≤ ks.length) (hz : ks.length ≤ 100) {l : Lo} {cs : List Addr} (h0 : l[0]? = some (some (.d (.list ks)))) (h2 : l[2]? = some (some (.d (.int many)))) :
    ev I σ topE l cs = some (.d (.bool (match (ks.take many).getLast? with | some kd => topB kd | none => false))) := by
  have hl : (ks.take many).length ≤ 100 := by rw [List.length_take]; omega
  have e1 : ev I σ (.slc (.var 0) .nil (.var 2)) l cs = some (.d (.list (ks.take many))) := by
    simp only [eve_var, eve_cel, eve_glob, eve_k, eve_bin, eve_neg, eve_notE, eve_and, eve_or, eve_ite, eve_cmp, eve_chain, eve_attr, eve_sub, eve_slc, eve_tup, eve_lst, eve_call, eve_mcall, eve_bi, eve_meth, eve_join, eve_rng, eve_comp, eve_hin, eve_hat, h0, h2, CE.isNil, if_true, Bool.false_eq_true, if_false, Option.bind_some, partA, slice_up (show ks.length ≤ 1000 by omega), Option.map_some]
  have e2 : ev I σ (.comp false [] (.slc (.var 0) .nil (.var 2)) (.slc (.var 0) .nil (.k (.int 2))) .nil) l cs = some (.d (.list ((ks.take many).map pairK))) :=
    ev_comp e1 (iter_list (by omega)) (goC_map fun x hx => List.map_inj_left.mp (pair_all I σ _) x (hk x (List.mem_of_mem_take hx))) (mkD_list (by rw [List.length_map]; omega))
  have e3 : ev I σ (.lst (.cons (.tup (.cons (.k (.str (q [115, 118, 103]))) (.cons (.k (.str (q [115, 99, 114, 105, 112, 116]))) .nil))) .nil)) l cs = some (.d (.list [.tuple [.str (q [115, 118, 103]), .str (q [115, 99, 114, 105, 112, 116])]])) := by kernel_rfl
  have e4 : ev I σ (.neg (.k (.int 1))) l cs = some (.d (.int (-1))) := by kernel_rfl
  unfold topE
  rw [eve_cmp, e3, eve_slc, e2, e4]
  simp only [CE.isNil, Bool.false_eq_true, if_false, if_true, Option.bind_some, partA, slice_last (show ((ks.take many).map pairK).length ≤ 1000 by rw [List.length_map]; omega), Option.map_some]
  rcases List.eq_nil_or_concat (ks.take many) with e | ⟨r, x, e⟩
  · rw [e]; kernel_rfl
  · rw [List.concat_eq_append] at e
    have hx : x ∈ shapesL := hk x (List.mem_of_mem_take (by rw [e]; simp : x ∈ ks.take many))
    rw [e, List.map_append, List.getLast?_concat]
    have e5 : ((r.map pairK) ++ [x].map pairK).drop (((r.map pairK) ++ [x].map pairK).length - 1) = [pairK x] := by
      rw [List.drop_append_of_le_length (by simp)]; simp
    rw [e5, List.map_inj_left.mp (topq_all σ) x hx]; rfl
end Mine
end

section
set_option maxRecDepth 100000
namespace Mine

theorem I5_105 (as : List AV) (σ : Store) : I5 105 as σ = g105 as σ := by simp only [I5, I4, I3, I2, addT, Nat.reduceEqDiff, if_false, if_true]
noncomputable def sc4 : CS := (.asg 4 (.pe (.lst (.cons (.tup (.cons (.k (.str (q [101, 110, 100]))) (.cons (.k (.str (q [115, 99, 114, 105, 112, 116]))) (.cons (.tup .nil) (.cons (.k (.bool false)) .nil))))) (.cons (.tup (.cons (.k (.str (q [101, 110, 100]))) (.cons (.k (.str (q [115, 99, 114, 105, 112, 116]))) (.cons (.tup (.cons (.tup (.cons (.k (.str (q [115, 99, 114, 105, 112, 116]))) (.cons (.k (.str (q [115, 99, 114, 105, 112, 116]))) .nil))) .nil)) (.cons (.k (.bool true)) .nil))))) .nil))))
 (.asg 5 (.pe (.lst (.cons (.tup (.cons (.k (.str (q [101, 110, 100]))) (.cons (.bin .Add (.var 3) (.k (.str (q [115])))) (.cons (.tup (.cons (.tup (.cons (.k (.str (q [115, 99, 114, 105, 112, 116]))) (.cons (.k (.str (q [115, 99, 114, 105, 112, 116]))) .nil))) .nil)) (.cons (.k (.bool false)) .nil))))) (.cons (.tup (.cons (.k (.str (q [115, 116, 97, 114, 116]))) (.cons (.k (.str (q [115, 99, 114, 105, 112, 116]))) (.cons (.tup .nil) (.cons (.k (.bool false)) .nil))))) .nil))))
 (.asg 5 (.pe (.bin .Add (.var 5) (.lst (.cons (.tup (.cons (.k (.str (q [99, 111, 109, 109, 101, 110, 116]))) (.cons (.k (.str (q [115, 99, 114, 105, 112, 116]))) .nil))) (.cons (.tup (.cons (.k (.str (q [99, 104, 97, 114]))) (.cons (.k (.str (q [115]))) .nil))) (.cons (.tup (.cons (.k (.str (q [100, 111, 99, 116, 121, 112, 101]))) (.cons (.k (.str (q [115, 99, 114, 105, 112, 116]))) (.cons (.k .none) (.cons (.k .none) (.cons (.k (.bool false)) .nil)))))) (.cons (.tup (.cons (.k (.str (q [101, 111, 102]))) .nil)) .nil)))))))
 (.asg 6 (.pe (.cmp .Eq (.slc (.comp false [] (.slc (.var 0) .nil (.var 2)) (.slc (.var 0) .nil (.k (.int 2))) .nil) (.neg (.k (.int 1))) .nil) (.lst (.cons (.tup (.cons (.k (.str (q [115, 118, 103]))) (.cons (.k (.str (q [115, 99, 114, 105, 112, 116]))) .nil))) .nil))))
 (.asg 7 (.pe (.comp false [0] (.bin .Add (.var 4) (.var 5)) (.call 105 (.cons (.cel 0) (.cons (.var 0) .nil))) .nil))
 (.ife (.cmp .NotEq (.var 7) (.lst (.cons (.var 6) (.cons (.var 6) (.cons (.k (.bool false)) (.cons (.k (.bool false)) (.cons (.k (.bool false)) (.cons (.k (.bool false)) (.cons (.k (.bool false)) (.cons (.k (.bool false)) .nil))))))))))
 (.ret (.pe (.k (.bool false)))) .done
 (.ret (.pe (.and (.cmp .Eq (.attr 322 1 (.attr 517 2 (.cel 0))) (.slc (.var 1) .nil (.var 2))) (.cmp .Eq (.attr 517 15 (.cel 0)) (.lst .nil)))))))))))
noncomputable def sc6 : CS := (.asg 6 (.pe (.cmp .Eq (.slc (.comp false [] (.slc (.var 0) .nil (.var 2)) (.slc (.var 0) .nil (.k (.int 2))) .nil) (.neg (.k (.int 1))) .nil) (.lst (.cons (.tup (.cons (.k (.str (q [115, 118, 103]))) (.cons (.k (.str (q [115, 99, 114, 105, 112, 116]))) .nil))) .nil))))
 (.asg 7 (.pe (.comp false [0] (.bin .Add (.var 4) (.var 5)) (.call 105 (.cons (.cel 0) (.cons (.var 0) .nil))) .nil))
 (.ife (.cmp .NotEq (.var 7) (.lst (.cons (.var 6) (.cons (.var 6) (.cons (.k (.bool false)) (.cons (.k (.bool false)) (.cons (.k (.bool false)) (.cons (.k (.bool false)) (.cons (.k (.bool false)) (.cons (.k (.bool false)) .nil))))))))))
 (.ret (.pe (.k (.bool false)))) .done
 (.ret (.pe (.and (.cmp .Eq (.attr 322 1 (.attr 517 2 (.cel 0))) (.slc (.var 1) .nil (.var 2))) (.cmp .Eq (.attr 517 15 (.cel 0)) (.lst .nil))))))))
noncomputable def sc7 : CS := (.asg 7 (.pe (.comp false [0] (.bin .Add (.var 4) (.var 5)) (.call 105 (.cons (.cel 0) (.cons (.var 0) .nil))) .nil))
 (.ife (.cmp .NotEq (.var 7) (.lst (.cons (.var 6) (.cons (.var 6) (.cons (.k (.bool false)) (.cons (.k (.bool false)) (.cons (.k (.bool false)) (.cons (.k (.bool false)) (.cons (.k (.bool false)) (.cons (.k (.bool false)) .nil))))))))))
 (.ret (.pe (.k (.bool false)))) .done
 (.ret (.pe (.and (.cmp .Eq (.attr 322 1 (.attr 517 2 (.cel 0))) (.slc (.var 1) .nil (.var 2))) (.cmp .Eq (.attr 517 15 (.cel 0)) (.lst .nil)))))))
noncomputable def scFin : CE := (.and (.cmp .Eq (.attr 322 1 (.attr 517 2 (.cel 0))) (.slc (.var 1) .nil (.var 2))) (.cmp .Eq (.attr 517 15 (.cel 0)) (.lst .nil)))
noncomputable def scComp : CE := (.comp false [0] (.bin .Add (.var 4) (.var 5)) (.call 105 (.cons (.cel 0) (.cons (.var 0) .nil))) .nil)
theorem sc_run (I : Tab) (σ : Store) (cs : List Addr) (k n m x6 x7 : Option AV) : words12.map (fun w => runK I σ 3 sc4 cs [k, n, m, some (.d (.str w)), none, none, x6, x7]) = words12.map fun w => some (sc6, [k, n, m, some (.d (.str w)), some (.d (.list endsL)), some (.d (.list (othersL w))), x6, x7]) := by kernel_rfl

noncomputable def nodesL (n : Nat) : List PyData := (List.range n).map fun i => .int ((i + 1 : Nat) : Int)
theorem nodesL_len (n : Nat) : (nodesL n).length = n := by simp [nodesL]
theorem nodesL_take {n m : Nat} (h : m ≤ n) : (nodesL n).take m = nodesL m := by
  unfold nodesL
  rw [← List.map_take, List.take_range, Nat.min_eq_left h]
theorem nodesL_succ (m : Nat) : nodesL (m + 1) = nodesL m ++ [.int ((m + 1 : Nat) : Int)] := by
  unfold nodesL
  rw [List.range_succ, List.map_append]; rfl
structure TreeOk (S : TS) (ks : List PyData) : Prop where
  ok : S.Ok (ks.length + 1)
  sp : S.spaces = .str (q []) :: ks.map spk
  nm : S.names = .str (q []) :: ks.map nmk
  at' : S.attrs = .list [] :: ks.map fun kd => .list (atk kd)
theorem TreeOk.at {C : Cfg} {σ : Store} {W : BW} {mode : Str} {items errs : List PyData} {S : TS} {R : List (Addr × AO)} {ks : List PyData} (t : TreeOk S ks) (hn : ks.length ≤ 8) (h : Has σ (bE C W mode items errs S R)) {i : Nat} {kd : PyData} (hi : ks[i]? = some kd) : At σ W.A.t (i + 1) (spk kd) (nmk kd) (.list (atk kd)) :=
  h.at t.ok (by omega) (by rw [t.sp, List.getElem?_cons_succ, List.getElem?_map, hi]; rfl) (by rw [t.nm, List.getElem?_cons_succ, List.getElem?_map, hi]; rfl) (by rw [t.at', List.getElem?_cons_succ, List.getElem?_map, hi]; rfl)
end Mine
end

section
set_option maxRecDepth 100000
namespace Mine

section
variable {C : Cfg} {σ : Store} {W : BW} {mode : Str} {items errs : List PyData} {S : TS} {R : List (Addr × AO)} {ks : List PyData}
noncomputable def topOf (ks : List PyData) (many : Nat) : Bool := match (ks.take many).getLast? with | some kd => topB kd | none => false
theorem told_is (h : Has σ (bE C W mode (nodesL many) errs S R)) (ok : W.Ok (.str mode)) (t : TreeOk S ks) (hk : ∀ kd ∈ ks, kd ∈ shapesL) (hn : ks.length ≤ 8) (hm : many ≤ ks.length) {w : Str} (hw : w ∈ words12) :
    (tokL w).map (fun x => g105 [.ref W.b, .d x] σ) = (answers (topOf ks many)).map fun x => some (.d x) := by
  have wd := h.wd ok
  cases many with
  | zero =>
    have e : ∀ x, g105 [.ref W.b, .d x] σ = F105 σ (.ref W.b) (.d x) (.int (-1)) .none .none := fun x => g105_nil wd _
    simp only [e]
    exact List.map_inj_left.mp (told_nil σ (.ref W.b)) w hw
  | succ m =>
    obtain ⟨kd, hkd⟩ : ∃ kd, ks[m]? = some kd := ⟨ks[m], List.getElem?_eq_getElem (by omega)⟩
    have a := t.at hn h hkd
    have e : ∀ x, g105 [.ref W.b, .d x] σ = F105 σ (.ref W.b) (.d x) (.int 0) (spk kd) (nmk kd) := fun x => by
      rw [← F105_nat σ (.ref W.b) (.d x) (m + 1)]
      exact g105_top wd (nodesL_succ m) (by rw [nodesL_len]; omega) _ a
    have e2 : topOf ks (m + 1) = topB kd := by
      unfold topOf
      rw [List.take_add_one, hkd]
      simp
    rw [e2]
    simp only [e]
    exact List.map_inj_left.mp (List.map_inj_left.mp (told_all σ (.ref W.b)) w hw) kd (hk kd (List.mem_of_getElem? hkd))
end
end Mine
end

section
set_option maxRecDepth 100000
namespace Mine

noncomputable def fine (k : Nat) (d : PyData) : Prop := d.canLay0 = true ∧ d.depth ≤ k
theorem fine.le {k m : Nat} {d : PyData} (h : fine k d) (hk : k ≤ m) : fine m d := ⟨h.1, Nat.le_trans h.2 hk⟩
theorem fine.shaped {k : Nat} {d : PyData} (h : fine k d) (hk : k ≤ 60) : SeqAt.shaped d = true := by
  unfold SeqAt.shaped; rw [h.1, Bool.true_and]; exact decide_eq_true (Nat.le_trans h.2 (by omega))
theorem fine_all {k : Nat} : ∀ {xs : List PyData}, (∀ x ∈ xs, fine k x) → PyData.canLayAll0 xs = true ∧ PyData.depthAll xs ≤ k
  | [], _ => ⟨rfl, Nat.zero_le _⟩
  | x :: xs, h => by
    obtain ⟨h1, h2⟩ := fine_all (xs := xs) fun y hy => h y (List.mem_cons_of_mem _ hy)
    obtain ⟨h3, h4⟩ := h x (by simp)
    exact ⟨by simp [PyData.canLayAll0, h1, h3], Nat.max_le.mpr ⟨h4, h2⟩⟩
theorem fine_list {k : Nat} {xs : List PyData} (h : ∀ x ∈ xs, fine k x) : fine (k + 1) (.list xs) := by
  obtain ⟨h1, h2⟩ := fine_all h
  exact ⟨h1, Nat.succ_le_succ h2⟩
theorem fine_tuple {k : Nat} {xs : List PyData} (h : ∀ x ∈ xs, fine k x) : fine (k + 1) (.tuple xs) := by
  obtain ⟨h1, h2⟩ := fine_all h
  exact ⟨h1, Nat.succ_le_succ h2⟩
theorem fine_int (i : Int) : fine 0 (.int i) := ⟨rfl, Nat.le_refl _⟩
theorem snapAll_d {σ : Store} : ∀ xs : List PyData, snapAll σ (xs.map .d) = some xs
  | [] => rfl
  | x :: xs => by
    show (match snap1 σ (.d x), snapAll σ (xs.map .d) with | some x, some xs => some (x :: xs) | _, _ => none) = _
    rw [snapAll_d xs]; rfl
theorem snap_dl {σ : Store} {x : Addr} {xs : List PyData} (h : σ x = some (dl xs)) : snap σ (.ref x) = some (.list xs) := by
  simp only [snap, h, dl, snapAll_d, Option.map_some]
theorem eqA_snap {σ : Store} {a b : AV} {x : PyData} {k : Nat} (h1 : snap σ a = some x) (h2 : snap σ b = some x) (hx : fine k x) (hk : k ≤ 60) : eqA σ a b = some true := by
  unfold eqA
  rw [h1, h2]
  simp only
  rw [if_pos ⟨hx.shaped hk, hx.shaped hk⟩, SeqAt.eqv_refl x hx.1]
theorem eq_snap {σ : Store} {a b : AV} {x : PyData} {k : Nat} (h1 : snap σ a = some x) (h2 : snap σ b = some x) (hx : fine k x) (hk : k ≤ 60) : cmpA σ .Eq a b = some true := by
  have e : cmpA σ .Eq a b = eqA σ a b := by cases a <;> cases b <;> rfl
  rw [e]; exact eqA_snap h1 h2 hx hk
theorem ne_snap {σ : Store} {a b : AV} {x : PyData} {k : Nat} (h1 : snap σ a = some x) (h2 : snap σ b = some x) (hx : fine k x) (hk : k ≤ 60) : cmpA σ .NotEq a b = some false := by
  have e : cmpA σ .NotEq a b = (eqA σ a b).map (!·) := by cases a <;> cases b <;> rfl
  rw [e, eqA_snap h1 h2 hx hk]; rfl
theorem nodes_fine (n : Nat) : fine 1 (.list (nodesL n)) := fine_list fun x hx => by
  obtain ⟨i, _, rfl⟩ := List.mem_map.mp hx
  exact fine_int _
end Mine
end

section
set_option maxRecDepth 100000
namespace Mine

theorem add12 (σ : Store) : words12.map (fun w => binA σ .Add (.d (.list endsL)) (.d (.list (othersL w)))) = words12.map fun w => some (.list (tokL w)) := by kernel_rfl
theorem goC_two {I : Tab} {σ : Store} {fs : List Nat} {elt : CE} {cs : List Addr} : ∀ {xs ys : List PyData}, (xs.map fun x => ev I σ elt [some (.d x)] (selC fs cs)) = (ys.map fun y => some (.d y)) → goC (itF I σ false fs elt .nil cs) (xs.map .d) = some (ys.map .d)
  | [], [], _ => rfl
  | [], _ :: _, h => by cases h
  | _ :: _, [], h => by cases h
  | x :: xs, y :: ys, h => by
    simp only [List.map_cons, List.cons.injEq] at h
    have e1 : itF I σ false fs elt .nil cs (.d x) = some (some (.d y)) := by
      show (ev I σ elt [some (.d x)] (selC fs cs)).map some = _
      rw [h.1]; rfl
    have e2 := goC_two (fs := fs) (cs := cs) h.2
    simp only [List.map_cons, goC, e1, e2]
    rfl
theorem answers_fine (b : Bool) : fine 1 (.list (answers b)) := by cases b <;> exact ⟨rfl, by decide⟩
theorem answers_ev (I : Tab) (σ : Store) (b : Bool) (cs : List Addr) (x0 x1 x2 x3 x4 x5 x7 : Option AV) : ev I σ (.lst (.cons (.var 6) (.cons (.var 6) (.cons (.k (.bool false)) (.cons (.k (.bool false)) (.cons (.k (.bool false)) (.cons (.k (.bool false)) (.cons (.k (.bool false)) (.cons (.k (.bool false)) .nil))))))))) [x0, x1, x2, x3, x4, x5, some (.d (.bool b)), x7] cs = some (.d (.list (answers b))) := by
  cases b <;> kernel_rfl
section
variable {C : Cfg} (H : KOk C) {n : Nat} {Q : AV → Store → Prop} {σ : Store} {W : BW} {mode : Str} {items errs : List PyData} {S : TS} {R : List (Addr × AO)} {ks : List PyData} {many : Nat} {w : Str}
include H
theorem script_T (h : Has σ (bE C W mode items errs S R)) (ok : W.Ok (.str mode)) (t : TreeOk S ks) (hk : ∀ kd ∈ ks, kd ∈ shapesL) (hn : ks.length ≤ 8) (hm : many ≤ ks.length) (hw : w ∈ words12)
    (q : ∀ σ' W' items errs, W'.b = W.b → W'.A = W.A → W'.Ok (.str mode) → Has σ' (bE C W' mode items errs S R) → Q (.d (.bool true)) σ') : TC C 6 (.ref 562) [.ref W.b, .d (.list ks), .d (.list (nodesL ks.length)), .d (.int many), .d (.str w)] σ Q := by
  have hf := H.fnI (f := 562) (x := x_law_script_holds) (pn := p_law_script_holds) 35 rfl
  refine (TC_fun H.tab (I5_ok H) hf.1 (CxOk.of o_law_script_holds) k_law_script_holds (hf.2 _ rfl) rfl (l0 := [some (.d (.list ks)), some (.d (.list (nodesL ks.length))), some (.d (.int many)), some (.d (.str w)), none, none, none, none]) (by rfl) (v0 := [some (.ref W.b)]) (by rfl) fun cs h1 h2 h3 => ?_).tc
  obtain ⟨c0, rfl⟩ : ∃ c0, cs = [c0] := by
    match cs, h1 with
    | [a], _ => exact ⟨a, rfl⟩
  have f0 : σ c0 = none := h3 c0 (by simp)
  have h := (h.add f0 (.cell (some (.ref W.b)))).perm (bE_move C W mode items errs S [(c0, .cell (some (.ref W.b)))] R).symm
  change wpS C 5 I5 c_law_script_holds [c0] _ (σ.set c0 (.cell (some (.ref W.b)))) _
  generalize σ.set c0 (.cell (some (.ref W.b))) = σ at h
  have g0 : σ c0 = some (.cell (some (.ref W.b))) := h.inR (p := (c0, .cell (some (.ref W.b)))) (by simp)
  unfold c_law_script_holds
  refine call_step (call_is (as := [.ref W.b, .d (.list (nodesL ks.length)), .d (.int many)]) ?_ ((set_W H h ok (by rw [nodesL_len]; omega) fun σ W' b1 b2 ok h => ⟨rfl, ?_⟩).le (by decide)))
  · simp only [evs_nil, evs_cons, eve_var, eve_cel, eve_glob, eve_k, eve_bin, eve_neg, eve_notE, eve_and, eve_or, eve_ite, eve_cmp, eve_chain, eve_attr, eve_sub, eve_slc, eve_tup, eve_lst, eve_call, eve_mcall, eve_bi, eve_meth, eve_join, eve_rng, eve_comp, eve_hin, eve_hat, List.getElem?_cons_zero, List.getElem?_cons_succ, g0]
  rw [nodesL_take hm] at h
  have g0 : σ c0 = some (.cell (some (.ref W'.b))) := by rw [b1]; exact h.inR (p := (c0, .cell (some (.ref W.b)))) (by simp)
  have wd := h.wd ok
  refine runK_ok (List.map_inj_left.mp (sc_run I5 σ [c0] _ _ _ _ _) w hw) ?_
  unfold sc6
  refine asg_pe (a := .d (.bool (topOf ks many))) (top_is hk hm (by omega) rfl rfl) ?_
  have told := told_is h ok t hk hn hm hw
  have e1 : ev I5 σ (.comp false [0] (.bin .Add (.var 4) (.var 5)) (.call 105 (.cons (.cel 0) (.cons (.var 0) .nil))) .nil) [some (.d (.list ks)), some (.d (.list (nodesL ks.length))), some (.d (.int many)), some (.d (.str w)), some (.d (.list endsL)), some (.d (.list (othersL w))), some (.d (.bool (topOf ks many))), none] [c0] = some (.d (.list (answers (topOf ks many)))) := by
    refine ev_comp (a := .d (.list (tokL w))) (items := (tokL w).map .d) ?_ (iter_list (by simp [tokL, endsL, othersL])) (goC_two (ys := answers (topOf ks many)) ?_) (mkD_list (by simp [answers]))
    · rw [eve_bin, eve_var, eve_var]
      simp only [List.getElem?_cons_zero, List.getElem?_cons_succ]
      rw [List.map_inj_left.mp (add12 σ) w hw]; rfl
    · rw [← told]
      refine List.map_congr_left fun x _ => ?_
      simp only [eve_var, eve_cel, eve_glob, eve_k, eve_bin, eve_neg, eve_notE, eve_and, eve_or, eve_ite, eve_cmp, eve_chain, eve_attr, eve_sub, eve_slc, eve_tup, eve_lst, eve_call, eve_mcall, eve_bi, eve_meth, eve_join, eve_rng, eve_comp, eve_hin, eve_hat, evs_nil, evs_cons, selC, List.map_cons, List.map_nil, List.getD_cons_zero, List.getElem?_cons_zero, g0, Nat.reduceLeDiff, if_true, Option.bind_some, I5_105]
  refine asg_pe e1 ?_
  dsimp only [List.set_cons_succ, List.set_cons_zero]
  refine ife_skip ?_ ?_
  · rw [eve_cmp, answers_ev, eve_var]
    simp only [List.getElem?_cons_zero, List.getElem?_cons_succ]
    rw [ne_snap (x := .list (answers (topOf ks many))) rfl rfl (answers_fine _) (by decide)]; rfl
  refine ret_pe (a := .d (.bool true)) ?_ ?_
  · have e2 : ev I5 σ (.cmp .Eq (.attr 322 1 (.attr 517 2 (.cel 0))) (.slc (.var 1) .nil (.var 2))) [some (.d (.list ks)), some (.d (.list (nodesL ks.length))), some (.d (.int many)), some (.d (.str w)), some (.d (.list endsL)), some (.d (.list (othersL w))), some (.d (.bool (topOf ks many))), some (.d (.list (answers (topOf ks many))))] [c0] = some (.d (.bool true)) := by
      simp only [eve_var, eve_cel, eve_glob, eve_k, eve_bin, eve_neg, eve_notE, eve_and, eve_or, eve_ite, eve_cmp, eve_chain, eve_attr, eve_sub, eve_slc, eve_tup, eve_lst, eve_call, eve_mcall, eve_bi, eve_meth, eve_join, eve_rng, eve_comp, eve_hin, eve_hat, List.getElem?_cons_zero, List.getElem?_cons_succ, g0, Option.bind_some, wd.a2, wd.s1, CE.isNil, if_true, Bool.false_eq_true, if_false, partA, slice_up (show (nodesL ks.length).length ≤ 1000 by rw [nodesL_len]; omega), Option.map_some, nodesL_take hm]
      rw [eq_snap (x := .list (nodesL many)) (snap_dl wd.it) rfl (nodes_fine _) (by decide)]; rfl
    have e3 : ev I5 σ (.cmp .Eq (.attr 517 15 (.cel 0)) (.lst .nil)) [some (.d (.list ks)), some (.d (.list (nodesL ks.length))), some (.d (.int many)), some (.d (.str w)), some (.d (.list endsL)), some (.d (.list (othersL w))), some (.d (.bool (topOf ks many))), some (.d (.list (answers (topOf ks many))))] [c0] = some (.d (.bool true)) := by
      have : mkD PyData.list [] = some (.d (.list [])) := rfl
      simp only [eve_var, eve_cel, eve_glob, eve_k, eve_bin, eve_neg, eve_notE, eve_and, eve_or, eve_ite, eve_cmp, eve_chain, eve_attr, eve_sub, eve_slc, eve_tup, eve_lst, eve_call, eve_mcall, eve_bi, eve_meth, eve_join, eve_rng, eve_comp, eve_hin, eve_hat, evs_nil, evs_cons, List.getElem?_cons_zero, List.getElem?_cons_succ, g0, Option.bind_some, wd.a15, this]
      rw [eq_snap (x := .list []) (snap_dl wd.er) rfl (k := 1) (fine_list (by simp)) (by decide)]; rfl
    rw [eve_and, e2, e3]; rfl
  · exact ⟨σ, Fewer.refl _, q σ W' _ _ b1 b2 ok (h.sub (bE_sub C W' mode _ _ S (List.sublist_cons_self _ _)))⟩
end
end Mine
end

section
set_option maxRecDepth 100000
namespace Mine

section
variable {C : Cfg} (H : KOk C) {n : Nat} {Q : AV → Store → Prop} {σ : Store} {W : BW} {mode : Str} {items errs : List PyData} {S : TS} {R : List (Addr × AO)} {ks : List PyData} {many : Nat} {w : Str}
include H
theorem popB_T {m : Nat} (h : Has σ (bE C W mode (nodesL (m + 1)) errs S R)) (hm : m ≤ 100) (q : ∀ σ', Has σ' (bE C W mode (nodesL m) errs S R) → Q (.d (.int ((m + 1 : Nat) : Int))) σ') : TC C 1 (.ref 249) [.ref W.st] σ Q := by
  refine pop_T H (h.get 2 rfl) (h.get 3 rfl) (xs := (nodesL m).map .d) (b := .d (.int ((m + 1 : Nat) : Int))) ?_ (by rw [List.length_map, nodesL_len]; omega) (q _ ?_)
  · rw [h.get 4 rfl, nodesL_succ, dl, List.map_append]; rfl
  · exact h.set 4 rfl (dl (nodesL m))
theorem errB_T {w : PyData} (h : Has σ (bE C W mode items errs S R)) (ok : W.Ok (.str mode)) (hz : errs.length ≤ 1000) (q : ∀ σ', Has σ' (bE C W mode items (errs ++ [.tuple [w, .str mode]]) S R) → Q (.d .none) σ') : TC C 1 (.ref 472) [.ref W.b, .d w] σ Q := by
  refine error_T H (h.get 0 rfl) (h.get 1 rfl) ok.m ok.e (h.get 5 rfl) (by rw [List.length_map]; exact hz) (q _ ?_)
  rw [dl_app]
  exact h.set 5 rfl (dl (errs ++ [.tuple [w, .str mode]]))
theorem useB_T {tok : PyData} (h : Has σ (bE C W mode items errs S R)) (ok : W.Ok (.str mode)) (hz : errs.length ≤ 1000) (q : ∀ σ', Has σ' (bE C W mode items (errs ++ [.tuple [.str (PySem.Str.ofString "handed"), tok]]) S R) → Q (.d .none) σ') : TC C 2 (.ref 486) [.ref W.b, .d (.str mode), .d tok] σ Q := by
  refine use_T H (h.get 0 rfl) (h.get 1 rfl) ok.r ok.e (h.get 5 rfl) (h.get 6 rfl) ok.n1 (by rw [List.length_map]; exact hz) (q _ ?_)
  rw [dl_app]
  exact h.set 5 rfl (dl (errs ++ [.tuple [.str (PySem.Str.ofString "handed"), tok]]))
end

noncomputable def keepN (ks : List PyData) : Nat → Nat
  | 0 => 0
  | m + 1 => if holdsB (ks.getD m .none) then m + 1 else keepN ks m
theorem I5_263 (as : List AV) (σ : Store) : I5 263 as σ = g263 as σ := by simp only [I5, I4, I3, I2, I1, addT, Nat.reduceEqDiff, if_false, if_true]
theorem I5_256 (as : List AV) (σ : Store) : I5 256 as σ = g256 as σ := by simp only [I5, I4, I3, I2, I1, addT, Nat.reduceEqDiff, if_false, if_true]
theorem I5_84 (as : List AV) (σ : Store) : I5 84 as σ = g84 as σ := by simp only [I5, addT, if_true]
theorem I5_49 (as : List AV) (σ : Store) : I5 49 as σ = g49 as σ := by simp only [I5, I4, I3, addT, Nat.reduceEqDiff, if_false, if_true]
theorem gt_nat (σ : Store) (a b : Nat) : cmpA σ .Gt (.d (.int a)) (.d (.int b)) = some (decide (b < a)) := by
  show some (decide ((b : Int) < (a : Int))) = _
  rw [decide_eq_decide.mpr Int.ofNat_lt]
section
variable {C : Cfg} {σ : Store} {W : BW} {mode : Str} {errs : List PyData} {S : TS} {R : List (Addr × AO)} {ks : List PyData}
theorem many_W {m : Nat} (w : Wd σ W mode (nodesL m) errs) (hm : m ≤ 100) : g263 [.ref W.st] σ = some (.d (.int m)) := by
  have := many_is w.sr w.sd (xs := (nodesL m).map .d) w.it (by rw [List.length_map, nodesL_len]; omega)
  rw [List.length_map, nodesL_len] at this
  exact this
theorem cur_W {m : Nat} (w : Wd σ W mode (nodesL (m + 1)) errs) (hm : m ≤ 100) : g256 [.ref W.st] σ = some (.d (.int ((m + 1 : Nat) : Int))) :=
  current_is w.sr w.sd (xs := (nodesL m).map .d) (by rw [w.it, nodesL_succ, dl, List.map_append]; rfl) (by rw [List.length_map, nodesL_len]; omega)
end
noncomputable def brk : CE := (.and (.cmp .Gt (.mcall 322 263 (.var 2) .nil) (.k (.int 0))) (.notE (.call 84 (.cons (.attr 517 1 (.var 0)) (.cons (.mcall 322 256 (.var 2) .nil) .nil)))))
section
variable {C : Cfg} (H : KOk C) {n : Nat} {W : BW} {mode : Str} {items errs : List PyData} {S : TS} {R : List (Addr × AO)} {ks : List PyData} {w : Str}
omit H in
theorem brk_is {σ : Store} {tok : AV} (ok : W.Ok (.str mode)) (t : TreeOk S ks) (hk : ∀ kd ∈ ks, kd ∈ shapesL) (hn : ks.length ≤ 8) {m : Nat} (hm : m ≤ ks.length) (h : Has σ (bE C W mode (nodesL m) errs S R)) :
    tru (ev I5 σ brk [some (.ref W.b), some tok, some (.ref W.st)] []) = some (match m with | 0 => false | m + 1 => !holdsB (ks.getD m .none)) := by
  have wd := h.wd ok
  unfold brk
  cases m with
  | zero => 
    simp only [eve_var, eve_cel, eve_glob, eve_k, eve_bin, eve_neg, eve_notE, eve_and, eve_or, eve_ite, eve_cmp, eve_chain, eve_attr, eve_sub, eve_slc, eve_tup, eve_lst, eve_call, eve_mcall, eve_bi, eve_meth, eve_join, eve_rng, eve_comp, eve_hin, eve_hat, evs_nil, evs_cons, List.getElem?_cons_zero, List.getElem?_cons_succ, wd.si, Nat.reduceLeDiff, if_true, Option.bind_some, I5_263, many_W wd (by omega : (0:Nat) ≤ 100)]
    rfl
  | succ m =>
    obtain ⟨kd, hkd⟩ : ∃ kd, ks[m]? = some kd := ⟨ks[m], List.getElem?_eq_getElem (by omega)⟩
    have e0 : ks.getD m .none = kd := by rw [List.getD_eq_getElem?_getD, hkd]; rfl
    have e1 := gt_nat σ (m + 1) 0
    have e2 : g84 [.ref W.A.t, .d (.int ((m + 1 : Nat) : Int))] σ = some (.d (.bool (holdsB kd))) := html_is (hk kd (List.mem_of_getElem? hkd)) (t.at hn h hkd)
    rw [show ((0 : Nat) : Int) = 0 from rfl, decide_eq_true (by omega)] at e1
    simp only [eve_var, eve_cel, eve_glob, eve_k, eve_bin, eve_neg, eve_notE, eve_and, eve_or, eve_ite, eve_cmp, eve_chain, eve_attr, eve_sub, eve_slc, eve_tup, eve_lst, eve_call, eve_mcall, eve_bi, eve_meth, eve_join, eve_rng, eve_comp, eve_hin, eve_hat, evs_nil, evs_cons, List.getElem?_cons_zero, List.getElem?_cons_succ, wd.si, wd.a1, Nat.reduceLeDiff, if_true, Option.bind_some, I5_263, I5_256, I5_84, many_W wd (by omega : m + 1 ≤ 100), cur_W wd (by omega : m ≤ 100), e1, e2, Option.map_some, tru, e0]
include H
theorem brk_loop {tok : AV} {Q : PostS} (ok : W.Ok (.str mode)) (t : TreeOk S ks) (hk : ∀ kd ∈ ks, kd ∈ shapesL) (hn : ks.length ≤ 8) : ∀ {m : Nat} {σ : Store}, m ≤ ks.length → Has σ (bE C W mode (nodesL m) errs S R) →
    (∀ σ', Has σ' (bE C W mode (nodesL (keepN ks m)) errs S R) → Q .next [some (.ref W.b), some tok, some (.ref W.st)] σ') →
    whlP (fun l τ => tru (ev I5 τ brk l [])) (fun l τ K => wpS C 5 I5 (.exp (.mcall 322 249 (.var 2) .nil) .done) [] l τ K) (m + 1) [some (.ref W.b), some tok, some (.ref W.st)] σ Q
  | 0, σ, hm, h, q => by
      unfold whlP
      simp only [brk_is (tok := tok) ok t hk hn hm h]
      exact q σ h
  | m + 1, σ, hm, h, q => by
      have e := brk_is (tok := tok) ok t hk hn hm h
      unfold whlP
      simp only [e]
      unfold keepN at q
      cases hh : holdsB (ks.getD m .none) with
      | true =>
        rw [hh, if_pos rfl] at q
        exact q σ h
      | false =>
        rw [hh, if_neg (by decide)] at q
        refine call_step (mcall_is (as := []) rfl (h.wd ok).si rfl ((popB_T H h (by omega) fun σ' h' => ⟨rfl, ?_⟩).le (by decide)))
        exact brk_loop ok t hk hn (by omega) h' q
theorem brk_rest {tok e1 : PyData} {σ : Store} {Q : AV → Store → Prop} {m : Nat} (ok : W.Ok (.str mode)) (t : TreeOk S ks) (hk : ∀ kd ∈ ks, kd ∈ shapesL) (hn : ks.length ≤ 8) (hm : m ≤ ks.length) (h : Has σ (bE C W mode (nodesL m) [e1] S R))
    (k : ∀ σ', Has σ' (bE C W mode (nodesL (keepN ks m)) [e1, .tuple [.str (PySem.Str.ofString "handed"), tok]] S R) → Q (.d .none) σ') :
    wpS C 5 I5 (.asg 2 (.pe (.attr 517 2 (.var 0))) (.whl brk (.exp (.mcall 322 249 (.var 2) .nil) .done) (.exp (.mcall 517 486 (.var 0) (.cons (.attr 517 4 (.var 0)) (.cons (.var 1) .nil))) .done))) [] [some (.ref W.b), some (.d tok), none] σ (retP Q) := by
  refine asg_pe (a := .ref W.st) ?_ ?_
  · simp only [eve_var, eve_cel, eve_glob, eve_k, eve_bin, eve_neg, eve_notE, eve_and, eve_or, eve_ite, eve_cmp, eve_chain, eve_attr, eve_sub, eve_slc, eve_tup, eve_lst, eve_call, eve_mcall, eve_bi, eve_meth, eve_join, eve_rng, eve_comp, eve_hin, eve_hat, List.getElem?_cons_zero, Option.bind_some, (h.wd ok).a2]
  dsimp only [List.set_cons_succ, List.set_cons_zero]
  rw [wpS_whl]
  refine ⟨m + 1, brk_loop H (tok := .d tok) ok t hk hn hm h fun σ' h' => ?_⟩
  have wd := h'.wd ok
  refine call_step (mcall_is (as := [.d (.str mode), .d tok]) rfl wd.i ?_ ((useB_T H h' ok (by simp) fun σ2 h2 => ⟨rfl, σ2, Fewer.refl _, k σ2 h2⟩).le (by decide)))
  simp only [evs_nil, evs_cons, eve_var, eve_cel, eve_glob, eve_k, eve_bin, eve_neg, eve_notE, eve_and, eve_or, eve_ite, eve_cmp, eve_chain, eve_attr, eve_sub, eve_slc, eve_tup, eve_lst, eve_call, eve_mcall, eve_bi, eve_meth, eve_join, eve_rng, eve_comp, eve_hin, eve_hat, List.getElem?_cons_zero, List.getElem?_cons_succ, Option.bind_some, wd.a4]
noncomputable def brTok (b : Bool) : PyData := if b then tok4 wEnd (q [98, 114]) [] false else tok4 wStart (q [112]) [] false
noncomputable def brWord (b : Bool) : Str := if b then q [117, 110, 101, 120, 112, 101, 99, 116, 101, 100, 45, 101, 110, 100, 45, 116, 97, 103] else q [117, 110, 101, 120, 112, 101, 99, 116, 101, 100, 45, 115, 116, 97, 114, 116, 45, 116, 97, 103]
theorem break_T {b : Bool} {σ : Store} {Q : AV → Store → Prop} {m : Nat} 
    (ok : W.Ok (.str mode)) (t : TreeOk S ks) (hk : ∀ kd ∈ ks, kd ∈ shapesL) (hn : ks.length ≤ 8) (hm : m ≤ ks.length) (h : Has σ (bE C W mode (nodesL m) [] S R))
    (k : ∀ σ', Has σ' (bE C W mode (nodesL (keepN ks m)) [.tuple [.str (brWord b), .str mode], .tuple [.str (PySem.Str.ofString "handed"), brTok b]] S R) → Q (.d .none) σ') : TC C 6 (.ref 91) [.ref W.b, .d (brTok b)] σ Q := by
  refine (fun_E H (I5_ok H) (H.fnI 9 rfl) o_break_out k_break_out rfl rfl (m := 1) rfl ?_).tc
  unfold c_break_out
  cases b with
  | true =>
    refine ife_step true (by kernel_rfl) ?_
    exact call_step (mcall_is (as := [.d (.str (brWord true))]) rfl (h.wd ok).i rfl ((errB_T H h ok (by simp) fun σ2 h2 => ⟨rfl, brk_rest H ok t hk hn hm h2 k⟩).le (by decide)))
  | false =>
    refine ife_step false (by kernel_rfl) ?_
    exact call_step (mcall_is (as := [.d (.str (brWord false))]) rfl (h.wd ok).i rfl ((errB_T H h ok (by simp) fun σ2 h2 => ⟨rfl, brk_rest H ok t hk hn hm h2 k⟩).le (by decide)))
end
end Mine
end

section
set_option maxRecDepth 100000
namespace Mine

theorem rng_all : ∀ a < 10, ∀ m < 10, (Builtin.Range.small (Int.ofNat a) (Int.ofNat m) 1 = true ∧ (1 : Int) ≠ 0 ∧ 0 ≤ Builtin.Range.rangeSize (Int.ofNat a) (Int.ofNat m) 1 ∧ rngLen (Int.ofNat a) (Int.ofNat m) 1 ≤ sizeLine) ∧ rngLen (Int.ofNat a) (Int.ofNat m) 1 = m - a := by decide +kernel
theorem rng_is {a m : Nat} (ha : a < 10) (hm : m < 10) : iterA (.rng (a : Int) (m : Int) 1) = some (((List.range (m - a)).map (a + ·)).map fun (i : Nat) => AV.d (.int (i : Int))) := by
  obtain ⟨h1, h2⟩ := rng_all a ha m hm
  change (if Builtin.Range.small (Int.ofNat a) (Int.ofNat m) 1 = true ∧ (1 : Int) ≠ 0 ∧ 0 ≤ Builtin.Range.rangeSize (Int.ofNat a) (Int.ofNat m) 1 ∧ rngLen (Int.ofNat a) (Int.ofNat m) 1 ≤ sizeLine then some ((List.range (rngLen (Int.ofNat a) (Int.ofNat m) 1)).map fun (i : Nat) => AV.d (.int (Int.ofNat a + i * 1))) else none) = _
  rw [if_pos h1, h2, List.map_map]
  congr 1
  refine List.map_congr_left fun i _ => ?_
  show AV.d (.int ((a : Int) + i * 1)) = AV.d (.int ((a + i : Nat) : Int))
  congr 2
  omega
theorem rng_up {m : Nat} (hm : m < 10) : iterA (.rng 0 (m : Int) 1) = some ((List.range m).map fun (i : Nat) => AV.d (.int (i : Int))) := by
  have h := rng_is (a := 0) (by decide) hm
  simpa using h
theorem goC_fm {α : Type} {g : AV → Option (Option AV)} (c : α → AV) (f : α → Option PyData) : ∀ {xs : List α}, (∀ x ∈ xs, g (c x) = some ((f x).map .d)) → goC g (xs.map c) = some ((xs.filterMap f).map .d)
  | [], _ => rfl
  | x :: xs, h => by
    have e1 := h x (by simp)
    have e2 := goC_fm c f (xs := xs) fun y hy => h y (List.mem_cons_of_mem _ hy)
    simp only [List.map_cons, goC, e1, e2]
    cases hx : f x with
    | none => simp [hx]
    | some d => simp [hx]
theorem add_list {σ : Store} {xs ys : List PyData} (h1 : xs.length ≤ 1000) (h2 : ys.length ≤ 1000) : binA σ .Add (.d (.list xs)) (.d (.list ys)) = some (.list (xs ++ ys)) := by
  show addLists σ (.d (.list xs)) (.d (.list ys)) = _
  have e : ∀ zs, listOf? σ (.d (.list zs)) = some (zs.map .d) := fun _ => rfl
  unfold addLists
  simp only [e, List.length_map]
  rw [if_pos (by rw [sz]; omega), ← List.map_append, allD_map]; rfl
theorem maxI_snoc : ∀ (l : List Int) (a b : Int), maxI a (l ++ [b]) = if maxI a l < b then b else maxI a l
  | [], a, b => rfl
  | x :: l, a, b => by
    show maxI (if a < x then x else a) (l ++ [b]) = _
    rw [maxI_snoc l]; rfl
theorem keepN_le (ks : List PyData) : ∀ m, keepN ks m ≤ m
  | 0 => Nat.le_refl _
  | m + 1 => by
    unfold keepN
    split
    · exact Nat.le_refl _
    · exact Nat.le_succ_of_le (keepN_le ks m)
noncomputable def keptF (ks : List PyData) (k : Nat) : Option Int := if holdsB (ks.getD k .none) then some ((k + 1 : Nat) : Int) else none
theorem kept_max (ks : List PyData) : ∀ m, maxI 0 ((List.range m).filterMap (keptF ks)) = (keepN ks m : Int)
  | 0 => rfl
  | m + 1 => by
    rw [List.range_succ, List.filterMap_append]
    have ih := kept_max ks m
    have hl := keepN_le ks m
    cases hh : holdsB (ks.getD m .none) with
    | true =>
      have e : [m].filterMap (keptF ks) = [((m + 1 : Nat) : Int)] := by simp [keptF, ← List.getD_eq_getElem?_getD, hh]
      rw [e, maxI_snoc, ih, if_pos (by omega), keepN, if_pos hh]
    | false =>
      have e : [m].filterMap (keptF ks) = [] := by simp [keptF, ← List.getD_eq_getElem?_getD, hh]
      rw [e, List.append_nil, ih, keepN, if_neg (by rw [hh]; decide)]
theorem max_ints {l : List Int} : maxA (.d (.list ([.int 0] ++ l.map .int))) = some (.int (maxI 0 l)) := by
  unfold maxA
  have e : intsD ([PyData.int 0] ++ l.map .int) = some (0 :: l) := intsD_map (0 :: l)
  simp only [e]
theorem at_list {σ : Store} {xs : List PyData} {i : Nat} {d : PyData} (hz : xs.length ≤ 1000) (hd : xs[i]? = some d) : subA σ (.d (.list xs)) (.d (.int i)) = some (.d d) :=
  subA_nat (xs := xs.map .d) (by rfl) rfl (by rw [List.length_map]; exact hz) (by rw [List.getElem?_map, hd]; rfl)
theorem ev_cmp {I : Tab} {σ : Store} {op : CmpOp} {a b : CE} {l : Lo} {cs : List Addr} {x y : AV} {r : Bool} (h1 : ev I σ a l cs = some x) (h2 : ev I σ b l cs = some y) (h3 : cmpA σ op x y = some r) : ev I σ (.cmp op a b) l cs = some (.d (.bool r)) := by
  rw [eve_cmp, h1, h2]; simp only [h3, Option.map_some]
theorem ev_and {I : Tab} {σ : Store} {a b : CE} {l : Lo} {cs : List Addr} {x y : Bool} (h1 : ev I σ a l cs = some (.d (.bool x))) (h2 : ev I σ b l cs = some (.d (.bool y))) : ev I σ (.and a b) l cs = some (.d (.bool (x && y))) := by
  rw [eve_and, h1, h2]; cases x <;> rfl
theorem ev_or {I : Tab} {σ : Store} {a b : CE} {l : Lo} {cs : List Addr} {x y : Bool} (h1 : ev I σ a l cs = some (.d (.bool x))) (h2 : ev I σ b l cs = some (.d (.bool y))) : ev I σ (.or a b) l cs = some (.d (.bool (x || y))) := by
  rw [eve_or, h1, h2]; cases x <;> rfl
theorem ev_up {I : Tab} {σ : Store} {a b : CE} {l : Lo} {cs : List Addr} {xs : List PyData} {k : Nat} (h1 : ev I σ a l cs = some (.d (.list xs))) (h2 : ev I σ b l cs = some (.d (.int k))) (hb : b.isNil = false) (hz : xs.length ≤ 1000) : ev I σ (.slc a .nil b) l cs = some (.d (.list (xs.take k))) := by
  rw [eve_slc, h1, h2, hb]
  simp only [CE.isNil, if_true, Bool.false_eq_true, if_false, Option.bind_some, partA, slice_up hz, Option.map_some]
theorem ev_sub {I : Tab} {σ : Store} {a b : CE} {l : Lo} {cs : List Addr} {x y z : AV} (h1 : ev I σ a l cs = some x) (h2 : ev I σ b l cs = some y) (h3 : subA σ x y = some z) : ev I σ (.sub a b) l cs = some z := by
  rw [eve_sub, h1, h2]; exact h3
theorem ev_bin {I : Tab} {σ : Store} {op : Operator} {a b : CE} {l : Lo} {cs : List Addr} {x y : AV} {z : PyData} (h1 : ev I σ a l cs = some x) (h2 : ev I σ b l cs = some y) (h3 : binA σ op x y = some z) : ev I σ (.bin op a b) l cs = some (.d z) := by
  rw [eve_bin, h1, h2]; simp only [h3, Option.map_some]
theorem ev_attr {I : Tab} {σ : Store} {c : Addr} {i : Nat} {a : CE} {l : Lo} {cs : List Addr} {x y : AV} (h1 : ev I σ a l cs = some x) (h2 : attrA σ c i x = some y) : ev I σ (.attr c i a) l cs = some y := by
  rw [eve_attr, h1]; exact h2
theorem evsC {I : Tab} {σ : Store} {a b : CE} {l : Lo} {cs : List Addr} {x : AV} {xs : List AV} (h1 : ev I σ a l cs = some x) (h2 : evs I σ b l cs = some xs) : evs I σ (.cons a b) l cs = some (x :: xs) := by rw [evs_cons, h1, h2]
theorem ev_tupE {I : Tab} {σ : Store} {es : CE} {l : Lo} {cs : List Addr} {as : List AV} {r : AV} (h : evs I σ es l cs = some as) (h2 : mkD .tuple as = some r) : ev I σ (.tup es) l cs = some r := by rw [eve_tup, h]; exact h2
theorem ev_celE {I : Tab} {σ : Store} {i : Nat} {l : Lo} {cs : List Addr} {c : Addr} {a : AV} (hc : cs[i]? = some c) (g : σ c = some (.cell (some a))) : ev I σ (.cel i) l cs = some a := by rw [eve_cel, hc]; simp only [g]
theorem fine_tok (b : Bool) : fine 2 (brTok b) := by cases b <;> exact ⟨by kernel_rfl, by decide⟩
theorem fine_word (b : Bool) : fine 0 (.str (brWord b)) := by cases b <;> exact ⟨by kernel_rfl, by decide⟩
theorem fine_handed : fine 0 (.str (PySem.Str.ofString "handed")) := ⟨by kernel_rfl, by decide⟩
theorem keepN_lt {ks : List PyData} (hn : ks.length ≤ 8) {m : Nat} (hm : m ≤ ks.length) : keepN ks m ≤ 8 := Nat.le_trans (keepN_le ks m) (by omega)
noncomputable def holdsL (ks : List PyData) : List PyData := ks.map fun kd => .bool (holdsB kd)
section
variable {C : Cfg} (H : KOk C) {n : Nat} {W : BW} {mode : Str} {items errs : List PyData} {S : TS} {R : List (Addr × AO)} {ks : List PyData} {w : Str} {many : Nat} {Q : AV → Store → Prop} {σ : Store}
include H
theorem breakHolds_T {b : Bool} (hmode : fine 0 (.str mode)) (h : Has σ (bE C W mode items errs S R)) (ok : W.Ok (.str mode)) (t : TreeOk S ks) (hk : ∀ kd ∈ ks, kd ∈ shapesL) (hn : ks.length ≤ 8) (hm : many ≤ ks.length)
    (q' : ∀ σ' W' items errs, W'.b = W.b → W'.A = W.A → W'.Ok (.str mode) → Has σ' (bE C W' mode items errs S R) → Q (.d (.bool true)) σ') : TC C 7 (.ref 572) [.ref W.b, .d (.list (holdsL ks)), .d (.list (nodesL ks.length)), .d (.int many), .d (brTok b)] σ Q := by
  have hf := H.fnI (f := 572) (x := x_law_break_holds) (pn := p_law_break_holds) 37 rfl
  refine (TC_fun H.tab ((I5_ok H).up (by decide : 5 ≤ 6)) hf.1 (CxOk.of o_law_break_holds) k_law_break_holds (hf.2 _ rfl) rfl (l0 := [some (.ref W.b), some (.d (.list (nodesL ks.length))), some (.d (.int many)), some (.d (brTok b)), none, none]) (by rfl) (v0 := [some (.d (.list (holdsL ks)))]) (by rfl) fun cs h1 h2 h3 => ?_).tc
  obtain ⟨c0, rfl⟩ : ∃ c0, cs = [c0] := by
    match cs, h1 with
    | [a], _ => exact ⟨a, rfl⟩
  have f0 : σ c0 = none := h3 c0 (by simp)
  have h := (h.add f0 (.cell (some (.d (.list (holdsL ks)))))).perm (bE_move C W mode items errs S [(c0, .cell (some (.d (.list (holdsL ks)))))] R).symm
  change wpS C 6 I5 c_law_break_holds [c0] _ (σ.set c0 (.cell (some (.d (.list (holdsL ks)))))) _
  generalize σ.set c0 (.cell (some (.d (.list (holdsL ks))))) = σ at h
  unfold c_law_break_holds
  refine call_step (call_is (as := [.ref W.b, .d (.list (nodesL ks.length)), .d (.int many)]) rfl ((set_W H h ok (by rw [nodesL_len]; omega) fun σ W' b1 b2 ok h => ⟨rfl, ?_⟩).le (by decide)))
  rw [nodesL_take hm] at h
  rw [← b1]
  obtain ⟨mv, hmv⟩ : ∃ mv, mv = AV.d (.int (many : Int)) := ⟨_, rfl⟩
  rw [← hmv]
  refine call_step (call_is (as := [.ref W'.b, .d (brTok b)]) rfl (break_T H (b := b) ok t hk hn hm h fun σ h => ⟨rfl, ?_⟩))
  have g0 : σ c0 = some (.cell (some (.d (.list (holdsL ks))))) := h.inR (p := (c0, .cell (some (.d (.list (holdsL ks)))))) (by simp)
  have wd := h.wd ok
  have hkeep : keepN ks many ≤ 8 := keepN_lt hn hm
  have e4 : ev I5 σ (.comp false [0] (.rng (.cons (.var 2) .nil)) (.bin .Add (.var 0) (.k (.int 1))) (.sub (.cel 0) (.var 0))) [some (.ref W'.b), some (.d (.list (nodesL ks.length))), some mv, some (.d (brTok b)), none, none] [c0] = some (.d (.list (((List.range many).filterMap (keptF ks)).map .int))) := by
    subst hmv
    have hlen : (((List.range many).filterMap (keptF ks)).map PyData.int).length ≤ 1000 := by
      rw [List.length_map]
      have := List.length_filterMap_le (keptF ks) (List.range many)
      rw [List.length_range] at this
      omega
    refine ev_comp (a := .rng 0 many 1) rfl (rng_up (by omega)) (goC_fm _ (fun k => (keptF ks k).map .int) fun k hk' => ?_) ?_
    · have hkm : k < many := List.mem_range.mp hk'
      obtain ⟨kd, hkd⟩ : ∃ kd, ks[k]? = some kd := ⟨ks[k], List.getElem?_eq_getElem (by omega)⟩
      have e0 : ks.getD k .none = kd := by rw [List.getD_eq_getElem?_getD, hkd]; rfl
      have e1 : subA σ (.d (.list (holdsL ks))) (.d (.int k)) = some (.d (.bool (holdsB kd))) := at_list (by simp [holdsL]; omega) (by simp [holdsL, hkd])
      have e2 : ev I5 σ (.sub (.cel 0) (.var 0)) [some (.d (.int k))] (selC [0] [c0]) = some (.d (.bool (holdsB kd))) := by
        simp only [eve_var, eve_cel, eve_glob, eve_k, eve_bin, eve_neg, eve_notE, eve_and, eve_or, eve_ite, eve_cmp, eve_chain, eve_attr, eve_sub, eve_slc, eve_tup, eve_lst, eve_call, eve_mcall, eve_bi, eve_meth, eve_join, eve_rng, eve_comp, eve_hin, eve_hat, selC, List.map_cons, List.map_nil, List.getD_cons_zero, List.getElem?_cons_zero, g0, e1]
      have e3 : ev I5 σ (.bin .Add (.var 0) (.k (.int 1))) [some (.d (.int k))] (selC [0] [c0]) = some (.d (.int ((k + 1 : Nat) : Int))) := rfl
      unfold itF bindT
      simp only [CE.isNil, Bool.false_eq_true, if_false, e2, e3, tru, keptF, e0]
      cases holdsB kd <;> rfl
    · rw [show (fun k => Option.map PyData.int (keptF ks k)) = fun k => Option.map PyData.int (keptF ks k) from rfl, ← List.map_filterMap]
      exact mkD_list hlen
  generalize hl4 : (((List.range many).filterMap (keptF ks)).map PyData.int) = kl at e4
  refine asg_pe e4 ?_
  dsimp only [List.set_cons_succ, List.set_cons_zero]
  refine asg_pe (a := .d (.list [.tuple [.str (brWord b), .str mode], .tuple [.str (PySem.Str.ofString "handed"), brTok b]])) ?_ ?_
  · have e1 : ∀ l4 l5, ev I5 σ (.bin .Add (.bin .Add (.k (.str (q [117, 110, 101, 120, 112, 101, 99, 116, 101, 100, 45]))) (.sub (.var 3) (.k (.int 0)))) (.k (.str (q [45, 116, 97, 103])))) [some (.ref W'.b), some (.d (.list (nodesL ks.length))), some mv, some (.d (brTok b)), l4, l5] [c0] = some (.d (.str (brWord b))) := fun l4 l5 => by cases b <;> kernel_rfl
    have e3 : ∀ l4 l5, ev I5 σ (.tup (.cons (.k (.str (q [104, 97, 110, 100, 101, 100]))) (.cons (.var 3) .nil))) [some (.ref W'.b), some (.d (.list (nodesL ks.length))), some mv, some (.d (brTok b)), l4, l5] [c0] = some (.d (.tuple [.str (PySem.Str.ofString "handed"), brTok b])) := fun l4 l5 => by cases b <;> kernel_rfl
    rw [eve_lst, evs_cons, evs_cons, evs_nil, e3, eve_tup, evs_cons, evs_cons, evs_nil, e1]
    simp only [eve_var, eve_cel, eve_glob, eve_k, eve_bin, eve_neg, eve_notE, eve_and, eve_or, eve_ite, eve_cmp, eve_chain, eve_attr, eve_sub, eve_slc, eve_tup, eve_lst, eve_call, eve_mcall, eve_bi, eve_meth, eve_join, eve_rng, eve_comp, eve_hin, eve_hat, List.getElem?_cons_zero, Option.bind_some, wd.a4]
    rfl
  dsimp only [List.set_cons_succ, List.set_cons_zero]
  refine ret_pe (a := .d (.bool true)) ?_ ?_
  · have hkl : kl.length ≤ 8 := by
      rw [← hl4, List.length_map]
      have := List.length_filterMap_le (keptF ks) (List.range many)
      rw [List.length_range] at this
      omega
    have e5 : ∀ l5, ev I5 σ (.bi .max (.bin .Add (.lst (.cons (.k (.int 0)) .nil)) (.var 4))) [some (.ref W'.b), some (.d (.list (nodesL ks.length))), some mv, some (.d (brTok b)), some (.d (.list kl)), l5] [c0] = some (.d (.int (keepN ks many : Nat))) := fun l5 => by
      have m0 : mkD PyData.list [.d (.int 0)] = some (.d (.list [.int 0])) := rfl
      have m1 : maxA (.d (.list ([.int 0] ++ kl))) = some (.int (keepN ks many : Nat)) := by rw [← hl4, max_ints, kept_max]
      simp only [eve_var, eve_cel, eve_glob, eve_k, eve_bin, eve_neg, eve_notE, eve_and, eve_or, eve_ite, eve_cmp, eve_chain, eve_attr, eve_sub, eve_slc, eve_tup, eve_lst, eve_call, eve_mcall, eve_bi, eve_meth, eve_join, eve_rng, eve_comp, eve_hin, eve_hat, evs_nil, evs_cons, List.getElem?_cons_zero, List.getElem?_cons_succ, Option.bind_some, m0, add_list (show [PyData.int 0].length ≤ 1000 by decide) (show kl.length ≤ 1000 by omega), Option.map_some, biA, m1]
    have e6 : ∀ l5, ev I5 σ (.cmp .Eq (.attr 322 1 (.attr 517 2 (.var 0))) (.slc (.var 1) .nil (.bi .max (.bin .Add (.lst (.cons (.k (.int 0)) .nil)) (.var 4))))) [some (.ref W'.b), some (.d (.list (nodesL ks.length))), some mv, some (.d (brTok b)), some (.d (.list kl)), l5] [c0] = some (.d (.bool true)) := fun l5 => by
      refine ev_cmp (x := .ref W'.it) (y := .d (.list (nodesL (keepN ks many)))) (ev_attr (ev_attr rfl wd.a2) wd.s1) ?_ (eq_snap (x := .list (nodesL (keepN ks many))) (snap_dl wd.it) rfl (nodes_fine _) (by decide))
      have := ev_up (I := I5) (σ := σ) (cs := [c0]) (a := .var 1) (xs := nodesL ks.length) rfl (e5 l5) rfl (by rw [nodesL_len]; omega)
      rwa [nodesL_take (Nat.le_trans (keepN_le ks many) hm)] at this
    have e7 : ∀ d, fine 4 (.list d) → σ W'.er = some (dl d) → ev I5 σ (.cmp .Eq (.attr 517 15 (.var 0)) (.var 5)) [some (.ref W'.b), some (.d (.list (nodesL ks.length))), some mv, some (.d (brTok b)), some (.d (.list kl)), some (.d (.list d))] [c0] = some (.d (.bool true)) := fun d hd hs => by
      simp only [eve_var, eve_cel, eve_glob, eve_k, eve_bin, eve_neg, eve_notE, eve_and, eve_or, eve_ite, eve_cmp, eve_chain, eve_attr, eve_sub, eve_slc, eve_tup, eve_lst, eve_call, eve_mcall, eve_bi, eve_meth, eve_join, eve_rng, eve_comp, eve_hin, eve_hat, List.getElem?_cons_zero, List.getElem?_cons_succ, Option.bind_some, wd.a15]
      rw [eq_snap (x := .list d) (snap_dl hs) rfl hd (by decide)]; rfl
    rw [eve_and, e6, e7 _ ?_ wd.er]
    · rfl
    · refine fine_list fun x hx => ?_
      simp only [List.mem_cons, List.not_mem_nil, or_false] at hx
      rcases hx with rfl | rfl
      · refine fine_tuple fun x hx => ?_
        simp only [List.mem_cons, List.not_mem_nil, or_false] at hx
        rcases hx with rfl | rfl
        · exact (fine_word b).le (by decide)
        · exact hmode.le (by decide)
      · refine fine_tuple fun x hx => ?_
        simp only [List.mem_cons, List.not_mem_nil, or_false] at hx
        rcases hx with rfl | rfl
        · exact fine_handed.le (by decide)
        · exact (fine_tok b)
  · exact ⟨σ, Fewer.refl _, q' σ W' _ _ b1 b2 ok (h.sub (bE_sub C W' mode _ _ S (List.sublist_cons_self _ _)))⟩
end
end Mine
end

section
set_option maxRecDepth 100000
namespace Mine

/-! plain: what foreign_end leaves -/
noncomputable def feR (P H : Nat → Bool) (M : Nat) : Nat → Nat × Bool
  | 0 => (M, false)
  | p + 1 => if P (p + 1) then (p + 1, false) else if H p then (M, true) else feR P H M p
noncomputable def lastH (H : Nat → Bool) : Nat → Nat
  | 0 => 0
  | p + 1 => if H p then p else lastH H p
noncomputable def hasH (H : Nat → Bool) : Nat → Bool
  | 0 => false
  | p + 1 => H p || hasH H p
noncomputable def rngN (a b : Nat) : List Nat := (List.range (b - a)).map (a + ·)
theorem rngN_succ {a b : Nat} (h : a ≤ b) : rngN a (b + 1) = rngN a b ++ [b] := by
  unfold rngN
  rw [show b + 1 - a = (b - a) + 1 by omega, List.range_succ, List.map_append]
  have : a + (b - a) = b := by omega
  simp [this]
theorem rngN_self (a : Nat) : rngN a a = [] := by unfold rngN; simp
theorem lastH_le (H : Nat → Bool) : ∀ p, lastH H p ≤ p
  | 0 => Nat.le_refl _
  | p + 1 => by
    unfold lastH
    split
    · exact Nat.le_succ p
    · exact Nat.le_succ_of_le (lastH_le H p)
theorem fe_plain (P H : Nat → Bool) (M : Nat) : ∀ p, feR P H M p = match ((rngN (lastH H p + 1) (p + 1)).filter P).getLast? with | some k => (k, false) | none => (M, hasH H p)
  | 0 => by
    show (M, false) = _
    rw [show rngN (lastH H 0 + 1) (0 + 1) = [] from rngN_self 1]; rfl
  | p + 1 => by
    have ih := fe_plain P H M p
    have hl := lastH_le H (p + 1)
    have hl' : lastH H (p + 1) ≤ p := by
      have := lastH_le H p
      unfold lastH; split <;> omega
    rw [rngN_succ (by omega : lastH H (p + 1) + 1 ≤ p + 1), List.filter_append]
    unfold feR
    by_cases hP : P (p + 1) = true
    · rw [if_pos hP]
      simp [hP]
    · rw [if_neg hP]
      have e : [p + 1].filter P = [] := by simp [hP]
      rw [e, List.append_nil]
      by_cases hH : H p = true
      · rw [if_pos hH]
        have e2 : lastH H (p + 1) = p := by unfold lastH; rw [if_pos hH]
        rw [e2, rngN_self]
        simp [hasH, hH]
      · rw [if_neg hH, ih]
        have e2 : lastH H (p + 1) = lastH H p := by rw [lastH, if_neg hH]
        have e3 : hasH H (p + 1) = hasH H p := by rw [hasH]; simp [hH]
        rw [e2, e3]
noncomputable def belF (H : Nat → Bool) (k : Nat) : Option Int := if H k then some (k : Int) else none
theorem bel_max (H : Nat → Bool) : ∀ m, maxI 0 ((List.range m).filterMap (belF H)) = (lastH H m : Int)
  | 0 => rfl
  | m + 1 => by
    rw [List.range_succ, List.filterMap_append]
    have ih := bel_max H m
    have hl := lastH_le H m
    cases hh : H m with
    | true =>
      have e : [m].filterMap (belF H) = [(m : Int)] := by simp [belF, hh]
      rw [e, maxI_snoc, ih, lastH, if_pos hh]
      split
      · rfl
      · omega
    | false =>
      have e : [m].filterMap (belF H) = [] := by simp [belF, hh]
      rw [e, List.append_nil, ih, lastH, if_neg (by rw [hh]; decide)]
theorem bel_nil (H : Nat → Bool) : ∀ m, ((List.range m).filterMap (belF H)).isEmpty = !hasH H m
  | 0 => rfl
  | m + 1 => by
    rw [List.range_succ, List.filterMap_append]
    have ih := bel_nil H m
    cases hh : H m with
    | true =>
      have e : [m].filterMap (belF H) = [(m : Int)] := by simp [belF, hh]
      rw [e, hasH, hh]
      cases (List.range m).filterMap (belF H) <;> rfl
    | false =>
      have e : [m].filterMap (belF H) = [] := by simp [belF, hh]
      rw [e, List.append_nil, ih, hasH, hh]; rfl

/-! the names and spaces of the shapes -/
noncomputable def lowK (kd : PyData) : Str := match nmk kd with | .str s => lowerS s | _ => q []
noncomputable def htmlB (kd : PyData) : Bool := match spk kd with | .str s => s == q [104, 116, 109, 108] | _ => false
theorem low_all (σ : Store) : (shapesL.map fun kd => g49 [.d (nmk kd)] σ) = shapesL.map fun kd => some (.d (.str (lowK kd))) := by kernel_rfl
theorem low2_all (I : Tab) (σ : Store) (cs : List Addr) : (shapesL.map fun kd => ev I σ (.meth .lower (.sub (.var 0) (.k (.int 1)))) [some (.d kd)] cs) = shapesL.map fun kd => some (.d (.str (lowK kd))) := by kernel_rfl
theorem sp_all (I : Tab) (σ : Store) : (shapesL.map fun kd => cmpA σ .Eq (.d (spk kd)) (.d (.str (q [104, 116, 109, 108])))) = shapesL.map fun kd => some (htmlB kd) := by kernel_rfl
theorem sub0_all (σ : Store) : (shapesL.map fun kd => subA σ (.d kd) (.d (.int 0))) = shapesL.map fun kd => some (.d (spk kd)) := by kernel_rfl
theorem lowOk_all : (shapesL.map fun kd => (PyData.str (lowK kd)).canLay0) = shapesL.map fun _ => true := by kernel_rfl
theorem wordOk_all : (words12.map fun w => (PyData.str w).canLay0) = words12.map fun _ => true := by kernel_rfl
theorem fine_low {kd : PyData} (h : kd ∈ shapesL) : fine 0 (.str (lowK kd)) := ⟨List.map_inj_left.mp lowOk_all kd h, Nat.le_refl _⟩
theorem fine_w12 {w : Str} (h : w ∈ words12) : fine 0 (.str w) := ⟨List.map_inj_left.mp wordOk_all w h, Nat.le_refl _⟩
theorem eqA_fine {σ : Store} {a b : AV} {x y : PyData} {k : Nat} (h1 : snap σ a = some x) (h2 : snap σ b = some y) (hx : fine k x) (hy : fine k y) (hk : k ≤ 60) : eqA σ a b = some (PyData.eqv x y) := by
  unfold eqA
  rw [h1, h2]
  simp only
  rw [if_pos ⟨hx.shaped hk, hy.shaped hk⟩]
theorem eq_fine {σ : Store} {a b : AV} {x y : PyData} {k : Nat} (h1 : snap σ a = some x) (h2 : snap σ b = some y) (hx : fine k x) (hy : fine k y) (hk : k ≤ 60) : cmpA σ .Eq a b = some (PyData.eqv x y) := by
  have e : cmpA σ .Eq a b = eqA σ a b := by cases a <;> cases b <;> rfl
  rw [e]; exact eqA_fine h1 h2 hx hy hk
theorem ne_fine {σ : Store} {a b : AV} {x y : PyData} {k : Nat} (h1 : snap σ a = some x) (h2 : snap σ b = some y) (hx : fine k x) (hy : fine k y) (hk : k ≤ 60) : cmpA σ .NotEq a b = some (!PyData.eqv x y) := by
  have e : cmpA σ .NotEq a b = (eqA σ a b).map (!·) := by cases a <;> cases b <;> rfl
  rw [e, eqA_fine h1 h2 hx hy hk]; rfl
theorem eqv_str (a b : Str) : PyData.eqv (.str a) (.str b) = (a == b) := by simp [PyData.eqv]
theorem eqv_nil (xs : List PyData) : PyData.eqv (.list xs) (.list []) = xs.isEmpty := by
  rw [PyData.eqv]
  cases xs <;> rfl
theorem eq_strs {σ : Store} {a b : Str} (ha : fine 0 (.str a)) (hb : fine 0 (.str b)) : cmpA σ .Eq (.d (.str a)) (.d (.str b)) = some (a == b) := by
  rw [eq_fine (x := .str a) (y := .str b) rfl rfl ha hb (by decide), eqv_str]
theorem ne_strs {σ : Store} {a b : Str} (ha : fine 0 (.str a)) (hb : fine 0 (.str b)) : cmpA σ .NotEq (.d (.str a)) (.d (.str b)) = some (!(a == b)) := by
  rw [ne_fine (x := .str a) (y := .str b) rfl rfl ha hb (by decide), eqv_str]
end Mine
end

section
set_option maxRecDepth 100000
namespace Mine

noncomputable def lowP (ks : List PyData) (w : Str) (k : Nat) : Bool := lowK (ks.getD k .none) == w
noncomputable def htmlH (ks : List PyData) (k : Nat) : Bool := htmlB (ks.getD k .none)
noncomputable def handedE (tok : PyData) : PyData := .tuple [.str (PySem.Str.ofString "handed"), tok]
noncomputable def uTag : Str := q [117, 110, 101, 120, 112, 101, 99, 116, 101, 100, 45, 101, 110, 100, 45, 116, 97, 103]
noncomputable def fePop : CS := (.whl (.cmp .Gt (.mcall 322 263 (.var 3) .nil) (.var 4)) (.exp (.mcall 322 249 (.var 3) .nil) .done) .retN)
noncomputable def feLow : CE := (.cmp .Eq (.call 49 (.cons (.sub (.attr 439 2 (.var 2)) (.sub (.attr 322 1 (.var 3)) (.var 4))) .nil)) (.var 5))
noncomputable def feSp : CE := (.cmp .Eq (.sub (.attr 439 1 (.var 2)) (.sub (.attr 322 1 (.var 3)) (.var 4))) (.k (.str (q [104, 116, 109, 108]))))
noncomputable def feBody : CS := (.ife feLow fePop .done (.dec 4 (.k (.int 1)) (.ife feSp (.exp (.mcall 517 486 (.var 0) (.cons (.attr 517 4 (.var 0)) (.cons (.var 1) .nil))) .retN) .done .done)))
theorem getD_of {ks : List PyData} {k : Nat} {kd : PyData} (h : ks[k]? = some kd) : ks.getD k .none = kd := by rw [List.getD_eq_getElem?_getD, h]; rfl
section
variable {C : Cfg} (H : KOk C) {W : BW} {mode : Str} {items errs : List PyData} {S : TS} {R : List (Addr × AO)} {ks : List PyData} {w : Str}
noncomputable def feLo (W : BW) (tok : PyData) (p : Nat) (w : Str) : Lo := [some (.ref W.b), some (.d tok), some (.ref W.A.t), some (.ref W.st), some (.d (.int p)), some (.d (.str w))]
theorem item_at {σ : Store} {m p : Nat} (wd : Wd σ W mode (nodesL m) errs) (hp : p < m) (hm : m ≤ 100) : subA σ (.ref W.it) (.d (.int p)) = some (.d (.int ((p + 1 : Nat) : Int))) :=
  dl_at wd.it (by rw [nodesL_len]; omega) (by simp [nodesL, hp])
theorem feLow_is {σ : Store} {tok : PyData} (ok : W.Ok (.str mode)) (t : TreeOk S ks) (hk : ∀ kd ∈ ks, kd ∈ shapesL) (hn : ks.length ≤ 8) (hw : fine 0 (.str w)) {m p : Nat} (hm : m ≤ ks.length) (hp : p < m) (h : Has σ (bE C W mode (nodesL m) errs S R)) :
    ev I5 σ feLow (feLo W tok p w) [] = some (.d (.bool (lowP ks w p))) := by
  have wd := h.wd ok
  obtain ⟨kd, hkd⟩ : ∃ kd, ks[p]? = some kd := ⟨ks[p], List.getElem?_eq_getElem (by omega)⟩
  have hs := hk kd (List.mem_of_getElem? hkd)
  obtain ⟨x1, x2, x3, as, e1, e2, e3, e4, e5, e6, e7⟩ := (t.at hn h hkd).ex
  have e8 : ev I5 σ (.call 49 (.cons (.sub (.attr 439 2 (.var 2)) (.sub (.attr 322 1 (.var 3)) (.var 4))) .nil)) (feLo W tok p w) [] = some (.d (.str (lowK kd))) := by
    simp only [eve_var, eve_cel, eve_glob, eve_k, eve_bin, eve_neg, eve_notE, eve_and, eve_or, eve_ite, eve_cmp, eve_chain, eve_attr, eve_sub, eve_slc, eve_tup, eve_lst, eve_call, eve_mcall, eve_bi, eve_meth, eve_join, eve_rng, eve_comp, eve_hin, eve_hat, evs_nil, evs_cons, feLo, List.getElem?_cons_zero, List.getElem?_cons_succ, Option.bind_some, e2, wd.s1, item_at wd hp (by omega), e6, Nat.reduceLeDiff, if_true, I5_49]
    exact List.map_inj_left.mp (low_all σ) kd hs
  unfold lowP
  rw [getD_of hkd]
  exact ev_cmp e8 rfl (eq_strs (fine_low hs) hw)
theorem feSp_is {σ : Store} {tok : PyData} (ok : W.Ok (.str mode)) (t : TreeOk S ks) (hk : ∀ kd ∈ ks, kd ∈ shapesL) (hn : ks.length ≤ 8) {m p : Nat} (hm : m ≤ ks.length) (hp : p < m) (h : Has σ (bE C W mode (nodesL m) errs S R)) :
    ev I5 σ feSp (feLo W tok p w) [] = some (.d (.bool (htmlH ks p))) := by
  have wd := h.wd ok
  obtain ⟨kd, hkd⟩ : ∃ kd, ks[p]? = some kd := ⟨ks[p], List.getElem?_eq_getElem (by omega)⟩
  have hs := hk kd (List.mem_of_getElem? hkd)
  obtain ⟨x1, x2, x3, as, e1, e2, e3, e4, e5, e6, e7⟩ := (t.at hn h hkd).ex
  have e8 : ev I5 σ (.sub (.attr 439 1 (.var 2)) (.sub (.attr 322 1 (.var 3)) (.var 4))) (feLo W tok p w) [] = some (.d (spk kd)) := by
    simp only [eve_var, eve_cel, eve_glob, eve_k, eve_bin, eve_neg, eve_notE, eve_and, eve_or, eve_ite, eve_cmp, eve_chain, eve_attr, eve_sub, eve_slc, eve_tup, eve_lst, eve_call, eve_mcall, eve_bi, eve_meth, eve_join, eve_rng, eve_comp, eve_hin, eve_hat, evs_nil, evs_cons, feLo, List.getElem?_cons_zero, List.getElem?_cons_succ, Option.bind_some, e1, wd.s1, item_at wd hp (by omega), e5]
  unfold htmlH
  rw [getD_of hkd]
  exact ev_cmp e8 rfl (List.map_inj_left.mp (sp_all I5 σ) kd hs)
theorem feMany_is {σ : Store} {tok : PyData} (ok : W.Ok (.str mode)) {m p : Nat} (hm : m ≤ 100) (h : Has σ (bE C W mode (nodesL m) errs S R)) : ev I5 σ (.cmp .Gt (.mcall 322 263 (.var 3) .nil) (.var 4)) (feLo W tok p w) [] = some (.d (.bool (decide (p < m)))) := by
  have wd := h.wd ok
  refine ev_cmp (x := .d (.int m)) (y := .d (.int p)) ?_ rfl (gt_nat σ m p)
  simp only [eve_var, eve_cel, eve_glob, eve_k, eve_bin, eve_neg, eve_notE, eve_and, eve_or, eve_ite, eve_cmp, eve_chain, eve_attr, eve_sub, eve_slc, eve_tup, eve_lst, eve_call, eve_mcall, eve_bi, eve_meth, eve_join, eve_rng, eve_comp, eve_hin, eve_hat, evs_nil, evs_cons, feLo, List.getElem?_cons_zero, List.getElem?_cons_succ, wd.si, Nat.reduceLeDiff, if_true, Option.bind_some, I5_263, many_W wd hm]
include H
theorem fePop_loop {tok : PyData} {p : Nat} {Q : PostS} (ok : W.Ok (.str mode)) : ∀ {d : Nat} {σ : Store}, p + d ≤ 90 → Has σ (bE C W mode (nodesL (p + d)) errs S R) → (∀ σ', Has σ' (bE C W mode (nodesL p) errs S R) → Q .next (feLo W tok p w) σ') →
    whlP (fun l τ => tru (ev I5 τ (.cmp .Gt (.mcall 322 263 (.var 3) .nil) (.var 4)) l [])) (fun l τ K => wpS C 5 I5 (.exp (.mcall 322 249 (.var 3) .nil) .done) [] l τ K) (d + 1) (feLo W tok p w) σ Q
  | 0, σ, hd, h, q => by
    unfold whlP
    simp only [feMany_is (tok := tok) (p := p) (w := w) ok (by omega) h]
    rw [decide_eq_false (by omega)]
    exact q σ h
  | d + 1, σ, hd, h, q => by
    unfold whlP
    simp only [feMany_is (tok := tok) (p := p) (w := w) ok (by omega) h]
    rw [decide_eq_true (by omega)]
    refine call_step (mcall_is (as := []) rfl (h.wd ok).si rfl ((popB_T H (m := p + d) h (by omega) fun σ' h' => ⟨rfl, ?_⟩).le (by decide)))
    exact fePop_loop ok (by omega) h' q
noncomputable def feE (tok : PyData) (b : Bool) : List PyData := if b then [handedE tok] else []
theorem fe_loop {tok : PyData} {Q : PostS} {m : Nat} (ok : W.Ok (.str mode)) (t : TreeOk S ks) (hk : ∀ kd ∈ ks, kd ∈ shapesL) (hn : ks.length ≤ 8) (hw : fine 0 (.str w)) (hm : m < ks.length) (he : errs.length ≤ 10) {σ : Store} (h : Has σ (bE C W mode (nodesL (m + 1)) errs S R)) : ∀ {p : Nat}, p ≤ m →
    (∀ o l σ', (o = .next ∨ o = .ret (.d .none)) → Has σ' (bE C W mode (nodesL (feR (lowP ks w) (htmlH ks) (m + 1) p).1) (errs ++ feE tok (feR (lowP ks w) (htmlH ks) (m + 1) p).2) S R) → Q o l σ') →
    whlP (fun l τ => tru (ev I5 τ (.cmp .Gt (.var 4) (.k (.int 0))) l [])) (fun l τ K => wpS C 5 I5 feBody [] l τ K) (p + 1) (feLo W tok p w) σ Q
  | 0, hp, q => by
    unfold whlP
    have e : ev I5 σ (.cmp .Gt (.var 4) (.k (.int 0))) (feLo W tok 0 w) [] = some (.d (.bool false)) := ev_cmp rfl rfl (gt_nat σ 0 0)
    simp only [e, tru]
    refine q _ _ σ (.inl rfl) ?_
    show Has σ (bE C W mode (nodesL (m + 1)) (errs ++ []) S R)
    rw [List.append_nil]; exact h
  | p + 1, hp, q => by
    unfold whlP
    have e : ev I5 σ (.cmp .Gt (.var 4) (.k (.int 0))) (feLo W tok (p + 1) w) [] = some (.d (.bool true)) := by
      have := gt_nat σ (p + 1) 0
      rw [decide_eq_true (by omega)] at this
      exact ev_cmp rfl rfl this
    simp only [e, tru]
    unfold feBody
    refine ife_step (lowP ks w (p + 1)) (by rw [feLow_is ok t hk hn hw (by omega) (by omega) h]; rfl) ?_
    unfold feR at q
    cases hP : lowP ks w (p + 1) with
    | true =>
      rw [hP, if_pos rfl] at q
      rw [if_pos rfl]
      unfold fePop; rw [wpS_whl]
      obtain ⟨d, hd⟩ : ∃ d, m + 1 = (p + 1) + d := ⟨m - p, by omega⟩
      rw [hd] at h
      refine ⟨d + 1, fePop_loop H ok (by omega) h fun σ' h' => q _ _ σ' (.inr rfl) ?_⟩
      show Has σ' (bE C W mode (nodesL (p + 1)) (errs ++ []) S R)
      rw [List.append_nil]; exact h'
    | false =>
      rw [hP, if_neg (by decide)] at q
      rw [if_neg (by decide)]
      show wpS C 5 I5 (.dec 4 (.k (.int 1)) _) [] (feLo W tok (p + 1) w) σ _
      have edec : ∀ {r : CS} {Q : PostS}, wpS C 5 I5 r [] (feLo W tok p w) σ Q → wpS C 5 I5 (.dec 4 (.k (.int 1)) r) [] (feLo W tok (p + 1) w) σ Q := fun k => by
        rw [wpS_dec]
        have e1 : ((p + 1 : Nat) : Int) - 1 = (p : Int) := by omega
        show wpS C 5 I5 _ [] [some (.ref W.b), some (.d tok), some (.ref W.A.t), some (.ref W.st), some (.d (.int (((p + 1 : Nat) : Int) - 1))), some (.d (.str w))] σ _
        rw [e1]; exact k
      refine edec (ife_step (htmlH ks p) (by rw [feSp_is ok t hk hn (by omega) (by omega) h]; rfl) ?_)
      cases hH : htmlH ks p with
      | true =>
        rw [hH, if_pos rfl] at q
        rw [if_pos rfl]
        have wd := h.wd ok
        refine call_step (mcall_is (as := [.d (.str mode), .d tok]) rfl wd.i ?_ ((useB_T H h ok (by omega) fun σ2 h2 => ⟨rfl, q _ _ σ2 (.inr rfl) h2⟩).le (by decide)))
        simp only [evs_nil, evs_cons, eve_var, eve_cel, eve_glob, eve_k, eve_bin, eve_neg, eve_notE, eve_and, eve_or, eve_ite, eve_cmp, eve_chain, eve_attr, eve_sub, eve_slc, eve_tup, eve_lst, eve_call, eve_mcall, eve_bi, eve_meth, eve_join, eve_rng, eve_comp, eve_hin, eve_hat, feLo, List.getElem?_cons_zero, List.getElem?_cons_succ, Option.bind_some, wd.a4]
      | false =>
        rw [hH, if_neg (by decide)] at q
        rw [if_neg (by decide)]
        exact fe_loop ok t hk hn hw hm he h (by omega) q
noncomputable def tokE (w : Str) : PyData := tok4 wEnd w [] false
noncomputable def feErr (ks : List PyData) (w mode : Str) (m : Nat) : List PyData := if lowP ks w m then [] else [.tuple [.str uTag, .str mode]]
theorem foreign_T {σ : Store} {Q : AV → Store → Prop} {m : Nat} (ok : W.Ok (.str mode)) (t : TreeOk S ks) (hk : ∀ kd ∈ ks, kd ∈ shapesL) (hn : ks.length ≤ 8) (hw : fine 0 (.str w)) (hm : m < ks.length) (h : Has σ (bE C W mode (nodesL (m + 1)) [] S R))
    (k : ∀ σ', Has σ' (bE C W mode (nodesL (feR (lowP ks w) (htmlH ks) (m + 1) m).1) (feErr ks w mode m ++ feE (tokE w) (feR (lowP ks w) (htmlH ks) (m + 1) m).2) S R) → Q (.d .none) σ') : TC C 6 (.ref 98) [.ref W.b, .d (tokE w)] σ Q := by
  refine (fun_E H (I5_ok H) (H.fnI 10 rfl) o_foreign_end k_foreign_end rfl rfl (m := 4) rfl ?_).tc
  unfold c_foreign_end
  have wd := h.wd ok
  refine asg_pe (a := .ref W.A.t) (ev_attr rfl wd.a1) ?_
  refine asg_pe (a := .ref W.st) (ev_attr rfl wd.a2) ?_
  refine asg_pe (a := .d (.int m)) ?_ ?_
  · have e1 : ((m + 1 : Nat) : Int) - 1 = (m : Int) := by omega
    refine ev_bin (x := .d (.int (m + 1 : Nat))) (y := .d (.int 1)) ?_ rfl (by rw [← e1]; rfl)
    simp only [eve_var, eve_cel, eve_glob, eve_k, eve_bin, eve_neg, eve_notE, eve_and, eve_or, eve_ite, eve_cmp, eve_chain, eve_attr, eve_sub, eve_slc, eve_tup, eve_lst, eve_call, eve_mcall, eve_bi, eve_meth, eve_join, eve_rng, eve_comp, eve_hin, eve_hat, evs_nil, evs_cons, lo0, List.map, List.replicate, List.cons_append, List.nil_append, List.set_cons_succ, List.set_cons_zero, List.getElem?_cons_zero, List.getElem?_cons_succ, wd.si, Nat.reduceLeDiff, if_true, Option.bind_some, I5_263, many_W wd (show m + 1 ≤ 100 by omega)]
  refine asg_pe (a := .d (.str w)) (by rfl) ?_
  change wpS C 5 I5 _ [] (feLo W (tokE w) m w) σ _
  have main : ∀ σ errs, errs.length ≤ 10 → errs = feErr ks w mode m → Has σ (bE C W mode (nodesL (m + 1)) errs S R) → wpS C 5 I5 (.whl (.cmp .Gt (.var 4) (.k (.int 0))) feBody .done) [] (feLo W (tokE w) m w) σ (retP Q) := fun σ errs he e h => by
    rw [wpS_whl]
    refine ⟨m + 1, fe_loop H ok t hk hn hw hm he h (Nat.le_refl _) fun o l σ' ho h' => ?_⟩
    rw [e] at h'
    rcases ho with rfl | rfl
    · exact ⟨σ', Fewer.refl _, k σ' h'⟩
    · exact ⟨σ', Fewer.refl _, k σ' h'⟩
  refine ife_step (!lowP ks w m) ?_ ?_
  · obtain ⟨kd, hkd⟩ : ∃ kd, ks[m]? = some kd := ⟨ks[m], List.getElem?_eq_getElem hm⟩
    have hs := hk kd (List.mem_of_getElem? hkd)
    obtain ⟨x1, x2, x3, as, e1, e2, e3, e4, e5, e6, e7⟩ := (t.at hn h hkd).ex
    have e8 : ev I5 σ (.call 49 (.cons (.sub (.attr 439 2 (.var 2)) (.mcall 322 256 (.var 3) .nil)) .nil)) (feLo W (tokE w) m w) [] = some (.d (.str (lowK kd))) := by
      simp only [eve_var, eve_cel, eve_glob, eve_k, eve_bin, eve_neg, eve_notE, eve_and, eve_or, eve_ite, eve_cmp, eve_chain, eve_attr, eve_sub, eve_slc, eve_tup, eve_lst, eve_call, eve_mcall, eve_bi, eve_meth, eve_join, eve_rng, eve_comp, eve_hin, eve_hat, evs_nil, evs_cons, feLo, List.getElem?_cons_zero, List.getElem?_cons_succ, Option.bind_some, e2, wd.si, cur_W wd (show m ≤ 100 by omega), e6, Nat.reduceLeDiff, if_true, I5_49, I5_256]
      exact List.map_inj_left.mp (low_all σ) kd hs
    unfold lowP
    rw [getD_of hkd, ev_cmp e8 rfl (ne_strs (fine_low hs) hw)]; rfl
  cases hP : lowP ks w m with
  | true =>
    exact main σ [] (by simp) (by unfold feErr; rw [if_pos hP]) h
  | false =>
    exact call_step (mcall_is (as := [.d (.str uTag)]) rfl wd.i rfl ((errB_T H h ok (by simp) fun σ2 h2 => ⟨rfl, main σ2 _ (by simp) (by unfold feErr; rw [hP]; rfl) h2⟩).le (by decide)))
end
end Mine
end

section
set_option maxRecDepth 100000
namespace Mine

section
variable {C : Cfg} {n : Nat} {I : Tab} {σ : Store} {l : Lo} {cs : List Addr}
theorem iteX_is {t : CE} {a b : XE} {P : AV → Store → Prop} (v : Bool) (h : tru (ev I σ t l cs) = some v) (k : wpX C n I (if v then a else b) l cs σ P) : wpX C n I (.iteX t a b) l cs σ P := by
  rw [wpX_iteX]
  rw [h]
  cases v <;> exact k
theorem listM_is {es : CE} {as : List AV} {P : AV → Store → Prop} (h : evs I σ es l cs = some as) (hz : as.length ≤ 1000) (k : ∀ a, σ a = none → P (.ref a) (σ.set a (.list as))) : wpX C n I (.listM es) l cs σ P := by
  rw [wpX_listM]
  rw [h]
  exact ⟨by rw [sz]; omega, k⟩
theorem asg_X {x : XE} {i : Nat} {r : CS} {Q : PostS} (h : wpX C n I x l cs σ fun a τ => wpS C n I r cs (l.set i (some a)) τ Q) : wpS C n I (.asg i x r) cs l σ Q := by rw [wpS_asg]; exact h
theorem asgC_pe {e : CE} {a : AV} {i : Nat} {c : Addr} {v : Option AV} {r : CS} {Q : PostS} (h : ev I σ e l cs = some a) (hc : cs[i]? = some c) (hv : σ c = some (.cell v)) (k : wpS C n I r cs l (σ.set c (.cell (some a))) Q) : wpS C n I (.asgC i (.pe e) r) cs l σ Q := by
  rw [wpS_asgC, wpX_pe]
  rw [h]
  simp only [hc]
  exact ⟨⟨_, hv⟩, k⟩
end
theorem at_last {σ : Store} {xs : List PyData} {d : PyData} (hz : xs.length ≤ 1000) : subA σ (.d (.list (xs ++ [d]))) (.d (.int (-1))) = some (.d d) := by
  have h3 : seqIndex? (-1) ((xs ++ [d]).map AV.d).length = some xs.length := by
    unfold seqIndex?
    simp
    omega
  have e : seqOf σ (.d (.list (xs ++ [d]))) = some ((xs ++ [d]).map .d) := rfl
  unfold subA
  rw [e]
  simp only
  rw [if_pos (by decide), h3]
  simp
theorem filterMap_if {α β : Type} (P : α → Bool) (g : α → β) : ∀ xs : List α, xs.filterMap (fun k => if P k then some (g k) else none) = (xs.filter P).map g
  | [] => rfl
  | x :: xs => by
    have ih := filterMap_if P g xs
    cases h : P x with
    | true => simp [h, ih]
    | false => simp [h, ih]
theorem mem_rngN {a b k : Nat} (h : k ∈ rngN a b) : a ≤ k ∧ k < b := by
  unfold rngN at h
  obtain ⟨i, hi, rfl⟩ := List.mem_map.mp h
  have := List.mem_range.mp hi
  omega
theorem rngN_len (a b : Nat) : (rngN a b).length = b - a := by unfold rngN; simp
noncomputable def intsL (l : List Nat) : List PyData := l.map fun (k : Nat) => .int (k : Int)
theorem fine_ints (l : List Nat) : fine 1 (.list (intsL l)) := fine_list fun x hx => by
  obtain ⟨i, _, rfl⟩ := List.mem_map.mp hx
  exact fine_int _
theorem fine_intI (l : List Int) : fine 1 (.list (l.map .int)) := fine_list fun x hx => by
  obtain ⟨i, _, rfl⟩ := List.mem_map.mp hx
  exact fine_int _
theorem fine_tokE {w : Str} (hw : fine 0 (.str w)) : fine 2 (tokE w) := fine_tuple fun x hx => by
  simp only [List.mem_cons, List.not_mem_nil, or_false] at hx
  rcases hx with rfl | rfl | rfl | rfl
  · exact ⟨by kernel_rfl, by decide⟩
  · exact hw.le (by decide)
  · exact ⟨rfl, by decide⟩
  · exact ⟨rfl, by decide⟩
theorem fine_notes {ks : List PyData} {w mode : Str} {m : Nat} {b : Bool} (hw : fine 0 (.str w)) (hm : fine 0 (.str mode)) : fine 4 (.list (feErr ks w mode m ++ feE (tokE w) b)) := fine_list fun x hx => by
  rcases List.mem_append.mp hx with h | h
  · unfold feErr at h
    split at h
    · cases h
    · simp only [List.mem_cons, List.not_mem_nil, or_false] at h
      subst h
      refine fine_tuple fun x hx => ?_
      simp only [List.mem_cons, List.not_mem_nil, or_false] at hx
      rcases hx with rfl | rfl
      · exact ⟨by kernel_rfl, by decide⟩
      · exact hm.le (by decide)
  · unfold feE at h
    split at h
    · simp only [List.mem_cons, List.not_mem_nil, or_false] at h
      subst h
      refine fine_tuple fun x hx => ?_
      simp only [List.mem_cons, List.not_mem_nil, or_false] at hx
      rcases hx with rfl | rfl
      · exact fine_handed.le (by decide)
      · exact fine_tokE hw
    · cases h
noncomputable def smallL (ks : List PyData) (many : Nat) : List PyData := (ks.take many).map fun kd => .str (lowK kd)
section
variable {C : Cfg} {n : Nat} {I : Tab} {σ : Store} {l : Lo} {cs : List Addr} {ks : List PyData} {m : Nat} {w : Str}
theorem below_is (hn : ks.length ≤ 8) (hm : m < ks.length) (hk : ∀ kd ∈ ks, kd ∈ shapesL) {c2 : Addr} (h2 : l[2]? = some (some (.d (.int ((m + 1 : Nat) : Int))))) (hc : cs[2]? = some c2) (g2 : σ c2 = some (.cell (some (.d (.list ks))))) :
    ev I σ (.comp false [2] (.rng (.cons (.bin .Sub (.var 2) (.k (.int 1))) .nil)) (.var 0) (.cmp .Eq (.sub (.sub (.cel 0) (.var 0)) (.k (.int 0))) (.k (.str (q [104, 116, 109, 108]))))) l cs = some (.d (.list (((List.range m).filterMap (belF (htmlH ks))).map .int))) := by
  have e1 : ((m + 1 : Nat) : Int) - 1 = (m : Int) := by omega
  have e0 : ev I σ (.bin .Sub (.var 2) (.k (.int 1))) l cs = some (.d (.int m)) := ev_bin (x := .d (.int (m + 1 : Nat))) (y := .d (.int 1)) (by rw [eve_var, h2]) rfl (by rw [← e1]; rfl)
  refine ev_comp (a := .rng 0 m 1) (by rw [eve_rng, evs_cons, evs_nil, e0]; rfl) (rng_up (by omega)) (goC_fm _ (fun k => (belF (htmlH ks) k).map .int) fun k hk' => ?_) ?_
  · have hkm : k < m := List.mem_range.mp hk'
    obtain ⟨kd, hkd⟩ : ∃ kd, ks[k]? = some kd := ⟨ks[k], List.getElem?_eq_getElem (by omega)⟩
    have hs := hk kd (List.mem_of_getElem? hkd)
    have es : selC [2] cs = [c2] := by simp [selC, List.getD_eq_getElem?_getD, hc]
    have e2 : ev I σ (.cmp .Eq (.sub (.sub (.cel 0) (.var 0)) (.k (.int 0))) (.k (.str (q [104, 116, 109, 108])))) [some (.d (.int k))] (selC [2] cs) = some (.d (.bool (htmlH ks k))) := by
      unfold htmlH
      rw [getD_of hkd, es]
      refine ev_cmp (ev_sub (ev_sub (x := .d (.list ks)) (y := .d (.int k)) ?_ rfl (at_list (by omega) hkd)) rfl (List.map_inj_left.mp (sub0_all σ) kd hs)) rfl (List.map_inj_left.mp (sp_all I σ) kd hs)
      simp only [eve_var, eve_cel, eve_glob, eve_k, eve_bin, eve_neg, eve_notE, eve_and, eve_or, eve_ite, eve_cmp, eve_chain, eve_attr, eve_sub, eve_slc, eve_tup, eve_lst, eve_call, eve_mcall, eve_bi, eve_meth, eve_join, eve_rng, eve_comp, eve_hin, eve_hat, List.getElem?_cons_zero, g2]
    unfold itF bindT
    simp only [CE.isNil, Bool.false_eq_true, if_false, e2, tru, belF]
    cases htmlH ks k <;> rfl
  · rw [← List.map_filterMap]
    refine mkD_list ?_
    rw [List.length_map]
    have := List.length_filterMap_le (belF (htmlH ks)) (List.range m)
    rw [List.length_range] at this
    omega
theorem named_is (hn : ks.length ≤ 8) (hm : m < ks.length) (hk : ∀ kd ∈ ks, kd ∈ shapesL) (hw : fine 0 (.str w)) {c0 c1 : Addr} (h2 : l[2]? = some (some (.d (.int ((m + 1 : Nat) : Int))))) (h4 : l[4]? = some (some (.d (.list (((List.range m).filterMap (belF (htmlH ks))).map .int))))) (hc0 : cs[0]? = some c0) (hc1 : cs[1]? = some c1)
    (g0 : σ c0 = some (.cell (some (.d (.list (smallL ks (m + 1))))))) (g1 : σ c1 = some (.cell (some (.d (.str w))))) :
    ev I σ (.comp false [0, 1] (.rng (.cons (.bin .Add (.bi .max (.bin .Add (.lst (.cons (.k (.int 0)) .nil)) (.var 4))) (.k (.int 1))) (.cons (.var 2) .nil))) (.var 0) (.cmp .Eq (.sub (.cel 0) (.var 0)) (.cel 1))) l cs = some (.d (.list (intsL ((rngN (lastH (htmlH ks) m + 1) (m + 1)).filter (lowP ks w))))) := by
  have hl := lastH_le (htmlH ks) m
  have hb : ((List.range m).filterMap (belF (htmlH ks))).length ≤ 8 := by
    have := List.length_filterMap_le (belF (htmlH ks)) (List.range m)
    rw [List.length_range] at this
    omega
  have e0 : ev I σ (.bin .Add (.bi .max (.bin .Add (.lst (.cons (.k (.int 0)) .nil)) (.var 4))) (.k (.int 1))) l cs = some (.d (.int ((lastH (htmlH ks) m + 1 : Nat) : Int))) := by
    have m0 : mkD PyData.list [.d (.int 0)] = some (.d (.list [.int 0])) := rfl
    have m1 : maxA (.d (.list ([.int 0] ++ ((List.range m).filterMap (belF (htmlH ks))).map .int))) = some (.int (lastH (htmlH ks) m : Nat)) := by rw [max_ints, bel_max]
    refine ev_bin (x := .d (.int (lastH (htmlH ks) m : Nat))) (y := .d (.int 1)) ?_ rfl rfl
    simp only [eve_var, eve_cel, eve_glob, eve_k, eve_bin, eve_neg, eve_notE, eve_and, eve_or, eve_ite, eve_cmp, eve_chain, eve_attr, eve_sub, eve_slc, eve_tup, eve_lst, eve_call, eve_mcall, eve_bi, eve_meth, eve_join, eve_rng, eve_comp, eve_hin, eve_hat, evs_nil, evs_cons, h4, Option.bind_some, m0, add_list (show [PyData.int 0].length ≤ 1000 by decide) (show (((List.range m).filterMap (belF (htmlH ks))).map PyData.int).length ≤ 1000 by rw [List.length_map]; omega), Option.map_some, biA, m1]
  refine ev_comp (a := .rng ((lastH (htmlH ks) m + 1 : Nat) : Int) ((m + 1 : Nat) : Int) 1) (by rw [eve_rng, evs_cons, evs_cons, evs_nil, e0, eve_var, h2]; rfl) (rng_is (by omega) (by omega)) (goC_fm _ (fun k => if lowP ks w k then some (.int (k : Int)) else none) fun k hk' => ?_) ?_
  · have hkm := mem_rngN hk'
    obtain ⟨kd, hkd⟩ : ∃ kd, ks[k]? = some kd := ⟨ks[k], List.getElem?_eq_getElem (by omega)⟩
    have hs := hk kd (List.mem_of_getElem? hkd)
    have es : selC [0, 1] cs = [c0, c1] := by simp [selC, List.getD_eq_getElem?_getD, hc0, hc1]
    have e2 : ev I σ (.cmp .Eq (.sub (.cel 0) (.var 0)) (.cel 1)) [some (.d (.int k))] (selC [0, 1] cs) = some (.d (.bool (lowP ks w k))) := by
      unfold lowP
      rw [getD_of hkd, es]
      refine ev_cmp (ev_sub (x := .d (.list (smallL ks (m + 1)))) (y := .d (.int k)) ?_ rfl (at_list (d := .str (lowK kd)) (by simp [smallL]; omega) ?_)) (y := .d (.str w)) ?_ (eq_strs (fine_low hs) hw)
      · simp only [eve_var, eve_cel, eve_glob, eve_k, eve_bin, eve_neg, eve_notE, eve_and, eve_or, eve_ite, eve_cmp, eve_chain, eve_attr, eve_sub, eve_slc, eve_tup, eve_lst, eve_call, eve_mcall, eve_bi, eve_meth, eve_join, eve_rng, eve_comp, eve_hin, eve_hat, List.getElem?_cons_zero, g0]
      · unfold smallL
        rw [List.getElem?_map, List.getElem?_take, if_pos (by omega), hkd]; rfl
      · simp only [eve_var, eve_cel, eve_glob, eve_k, eve_bin, eve_neg, eve_notE, eve_and, eve_or, eve_ite, eve_cmp, eve_chain, eve_attr, eve_sub, eve_slc, eve_tup, eve_lst, eve_call, eve_mcall, eve_bi, eve_meth, eve_join, eve_rng, eve_comp, eve_hin, eve_hat, List.getElem?_cons_succ, List.getElem?_cons_zero, g1]
    unfold itF bindT
    simp only [CE.isNil, Bool.false_eq_true, if_false, e2, tru]
    cases lowP ks w k <;> rfl
  · rw [filterMap_if]
    change mkD PyData.list ((intsL ((rngN (lastH (htmlH ks) m + 1) (m + 1)).filter (lowP ks w))).map .d) = _
    refine mkD_list ?_
    unfold intsL
    rw [List.length_map]
    have := List.length_filter_le (lowP ks w) (rngN (lastH (htmlH ks) m + 1) (m + 1))
    rw [rngN_len] at this
    omega
theorem small_is (hn : ks.length ≤ 8) (hk : ∀ kd ∈ ks, kd ∈ shapesL) {many : Nat} {c2 : Addr} (h2 : l[2]? = some (some (.d (.int (many : Int))))) (hc : cs[2]? = some c2) (g2 : σ c2 = some (.cell (some (.d (.list ks))))) :
    ev I σ (.comp false [] (.slc (.cel 2) .nil (.var 2)) (.meth .lower (.sub (.var 0) (.k (.int 1)))) .nil) l cs = some (.d (.list (smallL ks many))) := by
  have e1 : ev I σ (.slc (.cel 2) .nil (.var 2)) l cs = some (.d (.list (ks.take many))) := ev_up (by simp only [eve_var, eve_cel, eve_glob, eve_k, eve_bin, eve_neg, eve_notE, eve_and, eve_or, eve_ite, eve_cmp, eve_chain, eve_attr, eve_sub, eve_slc, eve_tup, eve_lst, eve_call, eve_mcall, eve_bi, eve_meth, eve_join, eve_rng, eve_comp, eve_hin, eve_hat, hc, g2]) (by rw [eve_var, h2]) rfl (by omega)
  refine ev_comp e1 (iter_list (by rw [List.length_take]; omega)) (goC_map (f := fun kd => .str (lowK kd)) fun x hx => List.map_inj_left.mp (low2_all I σ _) x (hk x (List.mem_of_mem_take hx))) (mkD_list (by simp; omega))
end
end Mine
end

section
set_option maxRecDepth 100000
namespace Mine

noncomputable def namedN (ks : List PyData) (w : Str) (m : Nat) : List Nat := (rngN (lastH (htmlH ks) m + 1) (m + 1)).filter (lowP ks w)
theorem snoc_of {α : Type} (l : List α) : l = [] ∨ ∃ r x, l = r ++ [x] := by
  rcases List.eq_nil_or_concat l with h | ⟨r, x, h⟩
  · exact .inl h
  · exact .inr ⟨r, x, by rw [h, List.concat_eq_append]⟩
section
variable {C : Cfg} (H : KOk C) {n : Nat} {W : BW} {mode : Str} {items errs : List PyData} {S : TS} {R : List (Addr × AO)} {ks : List PyData} {w : Str} {m : Nat} {Q : AV → Store → Prop} {σ : Store}
include H
theorem endHolds_T (hmode : fine 0 (.str mode)) (hw : fine 0 (.str w)) (h : Has σ (bE C W mode items errs S R)) (ok : W.Ok (.str mode)) (t : TreeOk S ks) (hk : ∀ kd ∈ ks, kd ∈ shapesL) (hn : ks.length ≤ 8) (hm : m < ks.length)
    (q' : ∀ σ' W' items errs, W'.b = W.b → W'.A = W.A → W'.Ok (.str mode) → Has σ' (bE C W' mode items errs S R) → Q (.d (.bool true)) σ') : TC C 7 (.ref 567) [.ref W.b, .d (.list ks), .d (.list (nodesL ks.length)), .d (.int ((m + 1 : Nat) : Int)), .d (.str w)] σ Q := by
  have hf := H.fnI (f := 567) (x := x_law_end_holds) (pn := p_law_end_holds) 36 rfl
  refine (TC_fun H.tab ((I5_ok H).up (by decide : 5 ≤ 6)) hf.1 (CxOk.of o_law_end_holds) k_law_end_holds (hf.2 _ rfl) rfl (l0 := [some (.ref W.b), some (.d (.list (nodesL ks.length))), some (.d (.int ((m + 1 : Nat) : Int))), none, none, none, none, none]) (by rfl) (v0 := [none, some (.d (.str w)), some (.d (.list ks))]) (by rfl) fun cs h1 h2 h3 => ?_).tc
  obtain ⟨c0, c1, c2, rfl⟩ : ∃ c0 c1 c2, cs = [c0, c1, c2] := by
    match cs, h1 with
    | [a, b, c], _ => exact ⟨a, b, c, rfl⟩
  simp only [List.nodup_cons, List.mem_cons, List.not_mem_nil, or_false, not_or] at h2
  obtain ⟨⟨n01, n02⟩, n12, _⟩ := h2
  have f0 : σ c0 = none := h3 c0 (by simp)
  have f1 : σ c1 = none := h3 c1 (by simp)
  have f2 : σ c2 = none := h3 c2 (by simp)
  have h := ((h.add f0 (.cell none)).add (a := c1) (by rw [Store.set_ne _ _ (Ne.symm n01)]; exact f1) (.cell (some (.d (.str w))))).add (a := c2) (by rw [Store.set_ne _ _ (Ne.symm n12), Store.set_ne _ _ (Ne.symm n02)]; exact f2) (.cell (some (.d (.list ks))))
  change wpS C 6 I5 c_law_end_holds [c0, c1, c2] _ (((σ.set c0 (.cell none)).set c1 (.cell (some (.d (.str w))))).set c2 (.cell (some (.d (.list ks))))) _
  generalize ((σ.set c0 (.cell none)).set c1 (.cell (some (.d (.str w))))).set c2 (.cell (some (.d (.list ks)))) = σ at h
  have h := h.perm (bE_move C W mode items errs S [(c2, .cell (some (.d (.list ks)))), (c1, .cell (some (.d (.str w)))), (c0, .cell none)] R).symm
  unfold c_law_end_holds
  refine call_step (call_is (as := [.ref W.b, .d (.list (nodesL ks.length)), .d (.int ((m + 1 : Nat) : Int))]) rfl ((set_W H h ok (by rw [nodesL_len]; omega) fun σ W' b1 b2 ok h => ⟨rfl, ?_⟩).le (by decide)))
  rw [nodesL_take hm] at h
  rw [← b1]
  obtain ⟨mv, hmv⟩ : ∃ mv, mv = AV.d (.int ((m + 1 : Nat) : Int)) := ⟨_, rfl⟩
  rw [← hmv]
  have g1 : σ c1 = some (.cell (some (.d (.str w)))) := h.inR (p := (c1, .cell (some (.d (.str w))))) (by simp)
  refine asg_pe (a := .d (tokE w)) ?_ ?_
  · exact ev_tupE (evsC rfl (evsC (ev_celE rfl g1) (evsC (ev_tupE rfl rfl) (evsC rfl rfl)))) rfl
  dsimp only [List.set_cons_succ, List.set_cons_zero]
  refine call_step (call_is (as := [.ref W'.b, .d (tokE w)]) rfl (foreign_T H ok t hk hn hw hm h fun σ h => ⟨rfl, ?_⟩))
  have h := h.perm (bE_move C W' mode _ _ S [(c2, .cell (some (.d (.list ks)))), (c1, .cell (some (.d (.str w)))), (c0, .cell none)] R)
  dsimp only [List.cons_append, List.nil_append] at h
  refine asgC_pe (c := c0) (v := none) (small_is (many := m + 1) hn hk (by rw [hmv]; rfl) rfl (h.get 0 rfl)) rfl (h.get 2 rfl) ?_
  have h := h.set 2 rfl (.cell (some (.d (.list (smallL ks (m + 1))))))
  dsimp only [List.set_cons_succ, List.set_cons_zero] at h
  generalize σ.set c0 (.cell (some (.d (.list (smallL ks (m + 1)))))) = σ at h
  refine asg_pe (below_is (m := m) hn hm hk (by rw [hmv]; rfl) rfl (h.get 0 rfl)) ?_
  refine asg_pe (named_is (m := m) (w := w) hn hm hk hw (by rw [hmv]; rfl) rfl rfl rfl (h.get 2 rfl) (h.get 1 rfl)) ?_
  dsimp only [List.set_cons_succ, List.set_cons_zero]
  change wpS C 6 I5 _ [c0, c1, c2] [some (.ref W'.b), some (.d (.list (nodesL ks.length))), some mv, some (.d (tokE w)), some (.d (.list (((List.range m).filterMap (belF (htmlH ks))).map .int))), some (.d (.list (intsL (namedN ks w m)))), none, none] σ _
  generalize hbl : ((List.range m).filterMap (belF (htmlH ks))).map PyData.int = bl
  have hbe : bl.isEmpty = !hasH (htmlH ks) m := by
    rw [← hbl, ← bel_nil]
    cases (List.range m).filterMap (belF (htmlH ks)) <;> rfl
  have hbf : fine 1 (.list bl) := by rw [← hbl]; exact fine_intI _
  have hnf : fine 1 (.list (intsL (namedN ks w m))) := fine_ints _
  have n0 : fine 1 (.list []) := fine_list (by simp)
  obtain ⟨kd, hkd⟩ : ∃ kd, ks[m]? = some kd := ⟨ks[m], List.getElem?_eq_getElem hm⟩
  have hs := hk kd (List.mem_of_getElem? hkd)
  have hsm : smallL ks (m + 1) = smallL ks m ++ [.str (lowK kd)] := by
    unfold smallL
    rw [List.take_add_one, hkd, List.map_append]; rfl
  have wd := (h.sub ((List.sublist_append_right [(c2, AO.cell (some (.d (.list ks)))), (c1, .cell (some (.d (.str w)))), (c0, .cell (some (.d (.list (smallL ks (m + 1))))))] _))).wd ok
  have e6 : tru (ev I5 σ (.cmp .NotEq (.sub (.cel 0) (.neg (.k (.int 1)))) (.cel 1)) [some (.ref W'.b), some (.d (.list (nodesL ks.length))), some mv, some (.d (tokE w)), some (.d (.list bl)), some (.d (.list (intsL (namedN ks w m)))), none, none] [c0, c1, c2]) = some (!lowP ks w m) := by
    unfold lowP
    rw [getD_of hkd]
    have g0 : σ c0 = _ := h.get 2 rfl
    have g1 : σ c1 = _ := h.get 1 rfl
    rw [ev_cmp (ev_sub (x := .d (.list (smallL ks (m + 1)))) (y := .d (.int (-1))) (z := .d (.str (lowK kd))) (ev_celE rfl g0) rfl (by rw [hsm]; exact at_last (by simp [smallL]; omega))) (y := .d (.str w)) (ev_celE rfl g1) (ne_strs (fine_low hs) hw)]
    rfl
  refine asg_X (iteX_is _ e6 ?_)
  have main : ∀ c, σ c = none → wpS C 6 I5 (.ife (.and (.cmp .Eq (.var 5) (.lst .nil)) (.cmp .NotEq (.var 4) (.lst .nil)))
      (.exp (.append (.var 6) (.pe (.tup (.cons (.k (.str (q [104, 97, 110, 100, 101, 100]))) (.cons (.var 3) .nil))))) .done) .done
      (.asg 7 (.pe (.ite (.cmp .NotEq (.var 5) (.lst .nil)) (.sub (.var 5) (.neg (.k (.int 1)))) (.var 2)))
      (.ret (.pe (.and (.cmp .Eq (.attr 322 1 (.attr 517 2 (.var 0))) (.slc (.var 1) .nil (.var 7))) (.cmp .Eq (.attr 517 15 (.var 0)) (.var 6))))))) [c0, c1, c2]
      [some (.ref W'.b), some (.d (.list (nodesL ks.length))), some mv, some (.d (tokE w)), some (.d (.list bl)), some (.d (.list (intsL (namedN ks w m)))), some (.ref c), none] (σ.set c (dl (feErr ks w mode m))) (retP Q) := by
    intro c hc
    have h := h.add hc (dl (feErr ks w mode m))
    generalize σ.set c (dl (feErr ks w mode m)) = σ at h
    have fp := fe_plain (lowP ks w) (htmlH ks) (m + 1) m
    change _ = match (namedN ks w m).getLast? with | some k => (k, false) | none => (m + 1, hasH (htmlH ks) m) at fp
    have fin : ∀ {σ : Store} {left : Nat} {notes : List PyData} {x2 x3 x4 x5 : Option AV}, fine 4 (.list notes) → left ≤ ks.length → Has σ ((c, dl notes) :: (c2, AO.cell (some (.d (.list ks)))) :: (c1, .cell (some (.d (.str w)))) :: (c0, .cell (some (.d (.list (smallL ks (m + 1)))))) :: bE C W' mode (nodesL left) notes S R) →
        wpS C 6 I5 (.ret (.pe (.and (.cmp .Eq (.attr 322 1 (.attr 517 2 (.var 0))) (.slc (.var 1) .nil (.var 7))) (.cmp .Eq (.attr 517 15 (.var 0)) (.var 6))))) [c0, c1, c2] [some (.ref W'.b), some (.d (.list (nodesL ks.length))), x2, x3, x4, x5, some (.ref c), some (.d (.int left))] σ (retP Q) := by
      intro σ left notes x2 x3 x4 x5 hf hl h
      have hB := h.sub (E' := bE C W' mode (nodesL left) notes S R) (List.sublist_append_right [(c, dl notes), (c2, AO.cell (some (.d (.list ks)))), (c1, .cell (some (.d (.str w)))), (c0, .cell (some (.d (.list (smallL ks (m + 1))))))] _)
      have wd := hB.wd ok
      refine ret_pe (a := .d (.bool true)) ?_ ⟨σ, Fewer.refl _, q' σ W' _ _ b1 b2 ok hB⟩
      refine ev_and (x := true) (y := true) ?_ ?_
      · refine ev_cmp (x := .ref W'.it) (y := .d (.list (nodesL left))) (ev_attr (ev_attr rfl wd.a2) wd.s1) ?_ (eq_snap (x := .list (nodesL left)) (snap_dl wd.it) rfl (nodes_fine _) (by decide))
        have := ev_up (I := I5) (σ := σ) (cs := [c0, c1, c2]) (l := [some (.ref W'.b), some (.d (.list (nodesL ks.length))), x2, x3, x4, x5, some (.ref c), some (.d (.int left))]) (a := .var 1) (b := .var 7) (xs := nodesL ks.length) rfl rfl rfl (by rw [nodesL_len]; omega)
        rwa [nodesL_take hl] at this
      · exact ev_cmp (x := .ref W'.er) (y := .ref c) (ev_attr rfl wd.a15) rfl (eq_snap (x := .list notes) (snap_dl wd.er) (snap_dl (h.get 0 rfl)) hf (by decide))
    have t1 : ∀ {σ : Store} {x6 x7 : Option AV}, ev I5 σ (.cmp .Eq (.var 5) (.lst .nil)) [some (.ref W'.b), some (.d (.list (nodesL ks.length))), some mv, some (.d (tokE w)), some (.d (.list bl)), some (.d (.list (intsL (namedN ks w m)))), x6, x7] [c0, c1, c2] = some (.d (.bool (namedN ks w m).isEmpty)) := fun {σ x6 x7} => by
      refine ev_cmp (x := .d (.list (intsL (namedN ks w m)))) (y := .d (.list [])) rfl rfl ?_
      rw [eq_fine (x := .list (intsL (namedN ks w m))) (y := .list []) rfl rfl hnf n0 (by decide), eqv_nil]
      cases namedN ks w m <;> rfl
    have t2 : ∀ {σ : Store} {x6 x7 : Option AV}, ev I5 σ (.cmp .NotEq (.var 4) (.lst .nil)) [some (.ref W'.b), some (.d (.list (nodesL ks.length))), some mv, some (.d (tokE w)), some (.d (.list bl)), some (.d (.list (intsL (namedN ks w m)))), x6, x7] [c0, c1, c2] = some (.d (.bool (hasH (htmlH ks) m))) := fun {σ x6 x7} => by
      refine ev_cmp (x := .d (.list bl)) (y := .d (.list [])) rfl rfl ?_
      rw [ne_fine (x := .list bl) (y := .list []) rfl rfl hbf n0 (by decide), eqv_nil, hbe, Bool.not_not]
    have t3 : ∀ {σ : Store} {x6 x7 : Option AV}, ev I5 σ (.cmp .NotEq (.var 5) (.lst .nil)) [some (.ref W'.b), some (.d (.list (nodesL ks.length))), some mv, some (.d (tokE w)), some (.d (.list bl)), some (.d (.list (intsL (namedN ks w m)))), x6, x7] [c0, c1, c2] = some (.d (.bool (!(namedN ks w m).isEmpty))) := fun {σ x6 x7} => by
      refine ev_cmp (x := .d (.list (intsL (namedN ks w m)))) (y := .d (.list [])) rfl rfl ?_
      rw [ne_fine (x := .list (intsL (namedN ks w m))) (y := .list []) rfl rfl hnf n0 (by decide), eqv_nil]
      cases namedN ks w m <;> rfl
    have te := fun {σ x6 x7} => ev_and (t1 (σ := σ) (x6 := x6) (x7 := x7)) (t2 (σ := σ) (x6 := x6) (x7 := x7))
    refine ife_step ((namedN ks w m).isEmpty && hasH (htmlH ks) m) (by rw [te]; rfl) ?_
    rcases snoc_of (namedN ks w m) with hN | ⟨r, k, hN⟩
    · have fp : feR (lowP ks w) (htmlH ks) (m + 1) m = (m + 1, hasH (htmlH ks) m) := by rw [fp, hN]; rfl
      rw [fp] at h
      have left : ∀ {σ : Store} {x6 : Option AV} {x7 : Option AV}, ev I5 σ (.ite (.cmp .NotEq (.var 5) (.lst .nil)) (.sub (.var 5) (.neg (.k (.int 1)))) (.var 2)) [some (.ref W'.b), some (.d (.list (nodesL ks.length))), some mv, some (.d (tokE w)), some (.d (.list bl)), some (.d (.list (intsL (namedN ks w m)))), x6, x7] [c0, c1, c2] = some (.d (.int ((m + 1 : Nat) : Int))) := fun {σ x6 x7} => by
        rw [eve_ite, t3, hN]
        show ev I5 σ (.var 2) _ _ = _
        rw [hmv]; rfl
      rw [hN, List.isEmpty_nil, Bool.true_and]
      rw [hN] at left
      cases hH : hasH (htmlH ks) m with
      | true =>
        rw [hH] at h
        rw [if_pos rfl]
        refine app_var (a := c) (xs := (feErr ks w mode m).map .d) (v := .d (handedE (tokE w))) rfl (h.get 0 rfl) ?_ ?_ ?_
        · rfl
        · unfold feErr; split <;> simp
        · rw [dl_app]
          exact asg_pe left (fin (fine_notes (b := true) hw hmode) hm (h.set 0 rfl (dl (feErr ks w mode m ++ [handedE (tokE w)]))))
      | false =>
        rw [hH] at h
        rw [if_neg (by decide)]
        have e : feErr ks w mode m ++ feE (tokE w) false = feErr ks w mode m := List.append_nil _
        rw [e] at h
        exact asg_pe left (fin (e ▸ fine_notes (b := false) hw hmode) hm h)
    · have hkm : k ≤ m := by
        have : k ∈ namedN ks w m := by rw [hN]; simp
        have := mem_rngN (List.mem_filter.mp this).1
        omega
      have fp : feR (lowP ks w) (htmlH ks) (m + 1) m = (k, false) := by rw [fp, hN, List.getLast?_concat]
      rw [fp] at h
      have left : ∀ {σ : Store} {x6 : Option AV} {x7 : Option AV}, ev I5 σ (.ite (.cmp .NotEq (.var 5) (.lst .nil)) (.sub (.var 5) (.neg (.k (.int 1)))) (.var 2)) [some (.ref W'.b), some (.d (.list (nodesL ks.length))), some mv, some (.d (tokE w)), some (.d (.list bl)), some (.d (.list (intsL (namedN ks w m)))), x6, x7] [c0, c1, c2] = some (.d (.int (k : Int))) := fun {σ x6 x7} => by
        have e0 : (r ++ [k]).isEmpty = false := by simp
        rw [eve_ite, t3, hN, e0]
        show ev I5 σ (.sub (.var 5) (.neg (.k (.int 1)))) _ _ = _
        have e1 : intsL (r ++ [k]) = intsL r ++ [.int (k : Int)] := by simp [intsL]
        rw [e1]
        refine ev_sub (x := .d (.list (intsL r ++ [.int (k : Int)]))) (y := .d (.int (-1))) rfl rfl (at_last ?_)
        have h1 := List.length_filter_le (lowP ks w) (rngN (lastH (htmlH ks) m + 1) (m + 1))
        rw [rngN_len, show (rngN (lastH (htmlH ks) m + 1) (m + 1)).filter (lowP ks w) = r ++ [k] from hN, List.length_append] at h1
        unfold intsL
        rw [List.length_map]
        omega
      have e0 : ((namedN ks w m).isEmpty && hasH (htmlH ks) m) = false := by rw [hN]; simp
      rw [e0, if_neg (by decide)]
      have e : feErr ks w mode m ++ feE (tokE w) false = feErr ks w mode m := List.append_nil _
      rw [e] at h
      exact asg_pe left (fin (e ▸ fine_notes (b := false) hw hmode) (by omega) h)
  cases hP : lowP ks w m with
  | true =>
    refine listM_is (as := []) rfl (by simp) fun c hc => ?_
    have := main c hc
    rw [feErr, if_pos hP] at this
    exact this
  | false =>
    refine listM_is (as := [.d (.tuple [.str uTag, .str mode])]) ?_ (by simp) fun c hc => ?_
    · exact evsC (ev_tupE (evsC rfl (evsC (ev_attr rfl wd.a4) rfl)) rfl) rfl
    · have := main c hc
      rw [feErr, hP] at this
      exact this
end
end Mine
end

section
set_option maxRecDepth 100000
namespace Mine

theorem sub1_all (I : Tab) (σ : Store) (cs : List Addr) : (shapesL.map fun kd => ev I σ (.sub (.var 0) (.k (.int 1))) [some (.d kd)] cs) = shapesL.map fun kd => some (.d (nmk kd)) := by kernel_rfl
theorem sub0e_all (I : Tab) (σ : Store) (cs : List Addr) : (shapesL.map fun kd => ev I σ (.sub (.var 0) (.k (.int 0))) [some (.d kd)] cs) = shapesL.map fun kd => some (.d (spk kd)) := by kernel_rfl
theorem sub2_all (I : Tab) (σ : Store) (cs : List Addr) : (shapesL.map fun kd => ev I σ (.bi .list (.sub (.var 0) (.k (.int 2)))) [some (.d kd)] cs) = shapesL.map fun kd => some (.d (.list (atk kd))) := by kernel_rfl
noncomputable def laidB (k : Nat) (d : PyData) : Bool := d.canLay0 && Nat.ble d.depth k
theorem laidB_fine {k : Nat} {d : PyData} (h : laidB k d = true) : fine k d := by
  unfold laidB at h
  rw [Bool.and_eq_true] at h
  exact ⟨h.1, Nat.le_of_ble_eq_true h.2⟩
theorem nm_ok : (shapesL.map fun kd => laidB 0 (nmk kd)) = shapesL.map fun _ => true := by kernel_rfl
theorem sp_ok : (shapesL.map fun kd => laidB 0 (spk kd)) = shapesL.map fun _ => true := by kernel_rfl
theorem at_ok : (shapesL.map fun kd => laidB 3 (.list (atk kd))) = shapesL.map fun _ => true := by kernel_rfl
theorem slice_but {σ : Store} {xs : List PyData} (h : xs.length ≤ 1000) : sliceA σ (.d (.list xs)) none (some (-1)) = some (.list (xs.take (xs.length - 1))) := by
  have e : listOf? σ (.d (.list xs)) = some (xs.map .d) := rfl
  unfold sliceA
  simp only [e, List.length_map]
  rw [if_pos (by rw [sz]; omega), pickL_butLast, List.length_map, ← List.map_take, allD_map]; rfl
theorem snap_refs {σ : Store} : ∀ {cl : List Addr} {chs : List (List PyData)}, cl.length = chs.length → (∀ p ∈ cl.zip (chs.map dl), σ p.1 = some p.2) → snapAll σ (cl.map .ref) = some (chs.map .list)
  | [], [], _, _ => rfl
  | [], _ :: _, h, _ => by cases h
  | _ :: _, [], h, _ => by cases h
  | c :: cl, x :: chs, h, g => by
    have e1 : snap1 σ (.ref c) = some (.list x) := by
      have := g (c, dl x) (by simp)
      simp only [snap1, this, dl, allD_map, Option.map_some]
    have e2 := snap_refs (σ := σ) (cl := cl) (chs := chs) (by simpa using h) fun p hp => g p (by simp [hp])
    simp only [List.map_cons, snapAll, e1, e2]
structure Done (S : TS) (ks : List PyData) : Prop where
  t : TreeOk S ks
  p : S.parents = [.int (-1), .int 0] ++ nodesL (ks.length - 1)
  c : S.chs = (nodesL ks.length).map (fun x => [x]) ++ [[]]
section
variable {σ : Store} {A : TA} {S : TS} {R : List (Addr × AO)} {ks : List PyData}
theorem kept_is (h : Has σ (treeE A S R)) (d : Done S ks) (hk : ∀ kd ∈ ks, kd ∈ shapesL) (hn : ks.length ≤ 8) : g577 [.ref A.t, .d (.list ks), .d (.list (nodesL ks.length))] σ = some (.d (.bool true)) := by
  unfold g577
  rw [run3]
  unfold c_law_is_kept
  have hl : lo0 [.ref A.t, .d (.list ks), .d (.list (nodesL ks.length))] 0 = [some (.ref A.t), some (.d (.list ks)), some (.d (.list (nodesL ks.length)))] := rfl
  rw [hl]
  generalize hL : [some (AV.ref A.t), some (AV.d (.list ks)), some (AV.d (.list (nodesL ks.length)))] = L
  have l0 : ev I0 σ (.var 0) L [] = some (.ref A.t) := by rw [← hL]; rfl
  have l1 : ev I0 σ (.var 1) L [] = some (.d (.list ks)) := by rw [← hL]; rfl
  have l2 : ev I0 σ (.var 2) L [] = some (.d (.list (nodesL ks.length))) := by rw [← hL]; rfl
  have a1 : attrA σ 439 1 (.ref A.t) = some (.ref A.s) := attrA_of (h.get 0 rfl) (h.get 1 rfl) rfl rfl
  have a2 : attrA σ 439 2 (.ref A.t) = some (.ref A.n) := attrA_of (h.get 0 rfl) (h.get 1 rfl) rfl rfl
  have a3 : attrA σ 439 3 (.ref A.t) = some (.ref A.a) := attrA_of (h.get 0 rfl) (h.get 1 rfl) rfl rfl
  have a5 : attrA σ 439 5 (.ref A.t) = some (.ref A.p) := attrA_of (h.get 0 rfl) (h.get 1 rfl) rfl rfl
  have a6 : attrA σ 439 6 (.ref A.t) = some (.ref A.c) := attrA_of (h.get 0 rfl) (h.get 1 rfl) rfl rfl
  have s1 : snap σ (.ref A.s) = some (.list S.spaces) := snap_dl (h.get 3 rfl)
  have s2 : snap σ (.ref A.n) = some (.list S.names) := snap_dl (h.get 4 rfl)
  have s3 : snap σ (.ref A.a) = some (.list S.attrs) := snap_dl (h.get 5 rfl)
  have s5 : snap σ (.ref A.p) = some (.list S.parents) := snap_dl (h.get 7 rfl)
  have s6 : snap σ (.ref A.c) = some (.list (S.chs.map .list)) := by
    have e := snap_refs (σ := σ) (cl := S.cl) (chs := S.chs) (by rw [d.t.ok.hl, d.t.ok.hc]) fun p hp => h.2 p (by unfold treeE; simp [hp])
    have e0 : σ A.c = some (.list (S.cl.map .ref)) := h.get 8 rfl
    simp only [snap, e0, e, Option.map_some]
  have comp1 : ∀ (e : CE) (f : PyData → PyData), (∀ kd ∈ shapesL, ev I0 σ e [some (.d kd)] (selC [] []) = some (.d (f kd))) → ev I0 σ (.comp false [] (.var 1) e .nil) L [] = some (.d (.list (ks.map f))) := fun e f he =>
    ev_comp l1 (iter_list (by omega)) (goC_map fun x hx => he x (hk x hx)) (mkD_list (by rw [List.length_map]; omega))
  have m1 : ∀ x : PyData, mkD PyData.list [.d x] = some (.d (.list [x])) := fun x => rfl
  have m0 : mkD PyData.list [] = some (.d (.list [])) := rfl
  have m2 : ∀ x y : PyData, mkD PyData.list [.d x, .d y] = some (.d (.list [x, y])) := fun x y => rfl
  have hm : ∀ f : PyData → PyData, (ks.map f).length ≤ 1000 := fun f => by rw [List.length_map]; omega
  have n1 : ev I0 σ (.cmp .NotEq (.attr 439 2 (.var 0)) (.bin .Add (.lst (.cons (.k (.str (q []))) .nil)) (.comp false [] (.var 1) (.sub (.var 0) (.k (.int 1))) .nil))) L [] = some (.d (.bool false)) :=
    ev_cmp (ev_attr l0 a2) (ev_bin (x := .d (.list [.str (q [])])) (y := .d (.list (ks.map nmk))) rfl (comp1 _ _ fun kd hkd => List.map_inj_left.mp (sub1_all I0 σ _) kd hkd) (add_list (by simp) (hm _))) (ne_snap (k := 1) s2 (by rw [d.t.nm]; rfl) (by
      rw [d.t.nm]
      refine fine_list fun x hx => ?_
      rcases List.mem_cons.mp hx with rfl | hx
      · exact ⟨by kernel_rfl, by decide⟩
      · obtain ⟨kd, hkd, rfl⟩ := List.mem_map.mp hx
        exact laidB_fine (List.map_inj_left.mp nm_ok kd (hk kd hkd))) (by decide))
  have n2 : ev I0 σ (.cmp .NotEq (.attr 439 1 (.var 0)) (.bin .Add (.lst (.cons (.k (.str (q []))) .nil)) (.comp false [] (.var 1) (.sub (.var 0) (.k (.int 0))) .nil))) L [] = some (.d (.bool false)) :=
    ev_cmp (ev_attr l0 a1) (ev_bin (x := .d (.list [.str (q [])])) (y := .d (.list (ks.map spk))) rfl (comp1 _ _ fun kd hkd => List.map_inj_left.mp (sub0e_all I0 σ _) kd hkd) (add_list (by simp) (hm _))) (ne_snap (k := 1) s1 (by rw [d.t.sp]; rfl) (by
      rw [d.t.sp]
      refine fine_list fun x hx => ?_
      rcases List.mem_cons.mp hx with rfl | hx
      · exact ⟨by kernel_rfl, by decide⟩
      · obtain ⟨kd, hkd, rfl⟩ := List.mem_map.mp hx
        exact laidB_fine (List.map_inj_left.mp sp_ok kd (hk kd hkd))) (by decide))
  have n3 : ev I0 σ (.cmp .NotEq (.attr 439 3 (.var 0)) (.bin .Add (.lst (.cons (.lst .nil) .nil)) (.comp false [] (.var 1) (.bi .list (.sub (.var 0) (.k (.int 2)))) .nil))) L [] = some (.d (.bool false)) :=
    ev_cmp (ev_attr l0 a3) (ev_bin (x := .d (.list [.list []])) (y := .d (.list (ks.map fun kd => .list (atk kd)))) rfl (comp1 _ _ fun kd hkd => List.map_inj_left.mp (sub2_all I0 σ _) kd hkd) (add_list (by simp) (hm _))) (ne_snap (k := 4) s3 (by rw [d.t.at']; rfl) (by
      rw [d.t.at']
      refine fine_list fun x hx => ?_
      rcases List.mem_cons.mp hx with rfl | hx
      · exact ⟨by kernel_rfl, by decide⟩
      · obtain ⟨kd, hkd, rfl⟩ := List.mem_map.mp hx
        exact laidB_fine (List.map_inj_left.mp at_ok kd (hk kd hkd))) (by decide))
  have n5 : ev I0 σ (.cmp .NotEq (.attr 439 5 (.var 0)) (.bin .Add (.lst (.cons (.neg (.k (.int 1))) (.cons (.k (.int 0)) .nil))) (.slc (.var 2) .nil (.neg (.k (.int 1)))))) L [] = some (.d (.bool false)) := by
    refine ev_cmp (ev_attr l0 a5) (ev_bin (x := .d (.list [.int (-1), .int 0])) (y := .d (.list (nodesL (ks.length - 1)))) rfl ?_ (add_list (by simp) (by rw [nodesL_len]; omega))) (ne_snap (k := 1) s5 (by rw [d.p]; rfl) (by
      rw [d.p]
      refine fine_list fun x hx => ?_
      rcases List.mem_append.mp hx with hx | hx
      · simp only [List.mem_cons, List.not_mem_nil, or_false] at hx
        rcases hx with rfl | rfl <;> exact fine_int _
      · obtain ⟨i, _, rfl⟩ := List.mem_map.mp hx
        exact fine_int _) (by decide))
    have e4 : ev I0 σ (.neg (.k (.int 1))) L [] = some (.d (.int (-1))) := by kernel_rfl
    rw [eve_slc, l2, e4]
    simp only [CE.isNil, Bool.false_eq_true, if_false, if_true, Option.bind_some, partA, slice_but (show (nodesL ks.length).length ≤ 1000 by rw [nodesL_len]; omega), Option.map_some, nodesL_len, nodesL_take (show ks.length - 1 ≤ ks.length by omega)]
  have n6 : ev I0 σ (.cmp .Eq (.attr 439 6 (.var 0)) (.bin .Add (.comp false [] (.var 2) (.lst (.cons (.var 0) .nil)) .nil) (.lst (.cons (.lst .nil) .nil)))) L [] = some (.d (.bool true)) := by
    have ec : ev I0 σ (.comp false [] (.var 2) (.lst (.cons (.var 0) .nil)) .nil) L [] = some (.d (.list ((nodesL ks.length).map fun x => .list [x]))) :=
      ev_comp l2 (iter_list (by rw [nodesL_len]; omega)) (goC_map fun x _ => rfl) (mkD_list (by rw [List.length_map, nodesL_len]; omega))
    refine ev_cmp (ev_attr l0 a6) (ev_bin ec (y := .d (.list [.list []])) rfl (add_list (by rw [List.length_map, nodesL_len]; omega) (by simp))) (eq_snap (k := 2) s6 (by rw [d.c, List.map_append, List.map_map]; rfl) (by
      rw [d.c, List.map_append, List.map_map]
      refine fine_list fun x hx => ?_
      rcases List.mem_append.mp hx with hx | hx
      · obtain ⟨y, hy, rfl⟩ := List.mem_map.mp hx
        obtain ⟨i, _, rfl⟩ := List.mem_map.mp hy
        exact fine_list fun z hz => by
          simp only [List.mem_cons, List.not_mem_nil, or_false] at hz
          rw [hz]; exact fine_int _
      · simp only [List.map_cons, List.map_nil, List.mem_cons, List.not_mem_nil, or_false] at hx
        rw [hx]; exact fine_list (by simp)) (by decide))
  rw [evS_ifr, ev_or n1 n2]
  show outV (evS I0 σ (.ife _ _ .done _) [] L) = _
  rw [evS_ifr, ev_or n3 n5]
  show outV (evS I0 σ (.ret (.pe _)) [] L) = _
  rw [evS_retM, n6]; rfl
end
end Mine
end

section
set_option maxRecDepth 100000
namespace Mine

noncomputable def g543 (as : List AV) (_ : Store) : Option AV := match as with
  | [.d (.list ds)] => (match intsD ds with
    | some xs => if xs.length ≤ 63 then some (.d (.bool true)) else none
    | none => none)
  | _ => none
noncomputable def I6 : Tab := addT I5 543 g543
theorem I6_ok {C : Cfg} (H : KOk C) : IOk C 5 I6 := (I5_ok H).add (by decide) fun as σ a e => by
  unfold g543 at e
  split at e
  · split at e
    · rename_i ds xs hx
      split at e
      · rename_i hz
        cases e
        rw [intsD_eq hx]
        exact ((breakouts_T H hz ⟨rfl, rfl⟩).tc).le (by decide)
      · cases e
    · cases e
  · cases e
theorem I6_528 (as : List AV) (σ : Store) : I6 528 as σ = g528 as σ := by simp only [I6, I5, I4, I3, I2, I1, addT, Nat.reduceEqDiff, if_false, if_true]
theorem I6_538 (as : List AV) (σ : Store) : I6 538 as σ = g538 as σ := by simp only [I6, I5, I4, I3, I2, I1, addT, Nat.reduceEqDiff, if_false, if_true]
theorem I6_577 (as : List AV) (σ : Store) : I6 577 as σ = g577 as σ := by simp only [I6, I5, I4, I3, I2, I1, addT, Nat.reduceEqDiff, if_false, if_true]
theorem I6_533 (as : List AV) (σ : Store) : I6 533 as σ = g533 as σ := by simp only [I6, I5, I4, I3, I2, I1, addT, Nat.reduceEqDiff, if_false, if_true]
theorem I6_84 (as : List AV) (σ : Store) : I6 84 as σ = g84 as σ := by simp only [I6, I5, addT, Nat.reduceEqDiff, if_false, if_true]
theorem I6_543 {xs : List Int} (hz : xs.length ≤ 63) (σ : Store) : I6 543 [scr xs] σ = some (.d (.bool true)) := by
  simp only [I6, addT, if_true, g543, scr, intsD_map]
  rw [if_pos hz]

theorem fmod_lt (a : Int) {b : Int} (h : 0 < b) : 0 ≤ a.fmod b ∧ a.fmod b < b := ⟨Int.fmod_nonneg_of_pos a h, Int.fmod_lt_of_pos a h⟩
theorem pick_mod {σ : Store} {a : AV} {xs : List PyData} {L : Int} (h : seqOf σ a = some (xs.map .d)) (hL : L = (xs.length : Int)) (h0 : 0 < xs.length) (hz : xs.length ≤ 1000) (d : Int) : xs.getD (d.fmod L).toNat .none ∈ xs ∧ subA σ a (.d (.int (d.fmod L))) = some (.d (xs.getD (d.fmod L).toNat .none)) := by
  subst hL
  obtain ⟨h1, h2⟩ := fmod_lt d (b := (xs.length : Int)) (by omega)
  have h3 : (d.fmod xs.length).toNat < xs.length := by omega
  have e : xs[(d.fmod xs.length).toNat]? = some (xs.getD (d.fmod xs.length).toNat .none) := by
    rw [List.getD_eq_getElem?_getD, List.getElem?_eq_getElem h3]; rfl
  refine ⟨List.mem_of_getElem? e, subA_nat h (Int.toNat_of_nonneg h1).symm (by rw [List.length_map]; exact hz) ?_⟩
  rw [List.getElem?_map, e]; rfl
theorem shapes_len : shapesL.length = 29 := by kernel_rfl
noncomputable def kindAt (xs : List Int) (k : Nat) : PyData := shapesL.getD ((digitL xs k).fmod 29).toNat .none
noncomputable def kindsL (xs : List Int) (j : Nat) : List PyData := (rngN 1 j).map (kindAt xs)
section
variable {σ : Store} {xs : List Int} {c1 c2 : Addr} {cs : List Addr} {l : Lo}
theorem kindAt_is (hz : xs.length ≤ 63) {k : Nat} (hk : k < 14) (g1 : σ c1 = some (.cell (some (.d (.list shapesL))))) (g2 : σ c2 = some (.cell (some (scr xs)))) :
    kindAt xs k ∈ shapesL ∧ ev I6 σ (.sub (.cel 1) (.bin .Mod (.call 528 (.cons (.cel 0) (.cons (.var 0) .nil))) (.bi .len (.cel 1)))) [some (.d (.int k))] [c2, c1] = some (.d (kindAt xs k)) := by
  obtain ⟨h1, h2⟩ := pick_mod (σ := σ) (a := .d (.list shapesL)) (xs := shapesL) (L := 29) rfl (by rw [shapes_len]; rfl) (by rw [shapes_len]; decide) (by rw [shapes_len]; decide) (digitL xs k)
  refine ⟨h1, ev_sub (x := .d (.list shapesL)) (y := .d (.int ((digitL xs k).fmod 29))) (by simp only [eve_var, eve_cel, eve_glob, eve_k, eve_bin, eve_neg, eve_notE, eve_and, eve_or, eve_ite, eve_cmp, eve_chain, eve_attr, eve_sub, eve_slc, eve_tup, eve_lst, eve_call, eve_mcall, eve_bi, eve_meth, eve_join, eve_rng, eve_comp, eve_hin, eve_hat, List.getElem?_cons_succ, List.getElem?_cons_zero, g1]) (ev_bin (x := .d (.int (digitL xs k))) (y := .d (.int 29)) ?_ ?_ (by kernel_rfl)) h2⟩
  · simp only [eve_var, eve_cel, eve_glob, eve_k, eve_bin, eve_neg, eve_notE, eve_and, eve_or, eve_ite, eve_cmp, eve_chain, eve_attr, eve_sub, eve_slc, eve_tup, eve_lst, eve_call, eve_mcall, eve_bi, eve_meth, eve_join, eve_rng, eve_comp, eve_hin, eve_hat, evs_nil, evs_cons, List.getElem?_cons_zero, g2, Nat.reduceLeDiff, if_true, Option.bind_some, I6_528, digit_is hz hk σ]
  · simp only [eve_var, eve_cel, eve_glob, eve_k, eve_bin, eve_neg, eve_notE, eve_and, eve_or, eve_ite, eve_cmp, eve_chain, eve_attr, eve_sub, eve_slc, eve_tup, eve_lst, eve_call, eve_mcall, eve_bi, eve_meth, eve_join, eve_rng, eve_comp, eve_hin, eve_hat, List.getElem?_cons_succ, List.getElem?_cons_zero, g1, Option.bind_some]
    kernel_rfl
theorem kinds_is (hz : xs.length ≤ 63) {d : Int} (h0 : l[0]? = some (some (.d (.int d)))) (hc1 : cs[1]? = some c1) (hc2 : cs[2]? = some c2) (g1 : σ c1 = some (.cell (some (.d (.list shapesL))))) (g2 : σ c2 = some (.cell (some (scr xs)))) :
    ∃ ks : List PyData, 1 ≤ ks.length ∧ ks.length ≤ 8 ∧ (∀ kd ∈ ks, kd ∈ shapesL) ∧ ev I6 σ (.comp false [2, 1] (.rng (.cons (.k (.int 1)) (.cons (.bin .Sub (.k (.int 9)) (.bin .Mod (.var 0) (.k (.int 8)))) .nil))) (.sub (.cel 1) (.bin .Mod (.call 528 (.cons (.cel 0) (.cons (.var 0) .nil))) (.bi .len (.cel 1)))) .nil) l cs = some (.d (.list ks)) := by
  obtain ⟨q1, q2⟩ := fmod_lt d (b := 8) (by decide)
  obtain ⟨j, hj⟩ : ∃ j : Nat, (9 : Int) - d.fmod 8 = (j : Int) := ⟨(9 - d.fmod 8).toNat, by omega⟩
  have es : selC [2, 1] cs = [c2, c1] := by simp [selC, List.getD_eq_getElem?_getD, hc1, hc2]
  have e1 : ev I6 σ (.bin .Sub (.k (.int 9)) (.bin .Mod (.var 0) (.k (.int 8)))) l cs = some (.d (.int (j : Int))) := by
    refine ev_bin (x := .d (.int 9)) (y := .d (.int (d.fmod 8))) rfl (ev_bin (x := .d (.int d)) (y := .d (.int 8)) (by rw [eve_var, h0]) rfl (by kernel_rfl)) ?_
    rw [← hj]; rfl
  have hjl : 2 ≤ j ∧ j ≤ 9 := by omega
  have hlen : (kindsL xs j).length = j - 1 := by unfold kindsL; rw [List.length_map, rngN_len]
  refine ⟨kindsL xs j, by omega, by omega, fun kd hkd => ?_, ?_⟩
  · obtain ⟨k, hk, rfl⟩ := List.mem_map.mp hkd
    have := mem_rngN hk
    exact (kindAt_is hz (show k < 14 by omega) g1 g2).1
  · have e2 : ev I6 σ (.rng (.cons (.k (.int 1)) (.cons (.bin .Sub (.k (.int 9)) (.bin .Mod (.var 0) (.k (.int 8)))) .nil))) l cs = some (.rng ((1 : Nat) : Int) (j : Int) 1) := by
      rw [eve_rng, evs_cons, evs_cons, evs_nil, e1]; rfl
    refine ev_comp e2 (rng_is (by decide) (by omega)) (goC_fm (xs := rngN 1 j) (fun (i : Nat) => AV.d (.int (i : Int))) (fun k => some (kindAt xs k)) fun k hk => ?_) ?_
    · have hkm := mem_rngN hk
      have e3 := (kindAt_is hz (show k < 14 by omega) g1 g2).2
      unfold itF bindT
      simp only [CE.isNil, if_true, es, e3]
      rfl
    · rw [show (fun k => some (kindAt xs k)) = some ∘ kindAt xs from rfl, List.filterMap_eq_map]
      exact mkD_list (xs := kindsL xs j) (by omega)
theorem mode_is {d : Int} (h0 : l[0]? = some (some (.d (.int d)))) : ∃ mode : Str, fine 0 (.str mode) ∧ ev I6 σ (.sub (.tup (.cons (.k (.str (q [105, 110, 32, 98, 111, 100, 121]))) (.cons (.k (.str (q [105, 110, 32, 99, 101, 108, 108]))) .nil))) (.bin .Mod (.bin .FloorDiv (.var 0) (.k (.int 8))) (.k (.int 2)))) l cs = some (.d (.str mode)) := by
  obtain ⟨h1, h2⟩ := pick_mod (σ := σ) (a := .d (.tuple [.str (q [105, 110, 32, 98, 111, 100, 121]), .str (q [105, 110, 32, 99, 101, 108, 108])])) (xs := [.str (q [105, 110, 32, 98, 111, 100, 121]), .str (q [105, 110, 32, 99, 101, 108, 108])]) (L := 2) rfl rfl (by decide) (by decide) (d.fdiv 8)
  have e : ev I6 σ (.sub (.tup (.cons (.k (.str (q [105, 110, 32, 98, 111, 100, 121]))) (.cons (.k (.str (q [105, 110, 32, 99, 101, 108, 108]))) .nil))) (.bin .Mod (.bin .FloorDiv (.var 0) (.k (.int 8))) (.k (.int 2)))) l cs = _ :=
    ev_sub (y := .d (.int ((d.fdiv 8).fmod 2))) rfl (ev_bin (x := .d (.int (d.fdiv 8))) (y := .d (.int 2)) (ev_bin (x := .d (.int d)) (y := .d (.int 8)) (by rw [eve_var, h0]) rfl (by kernel_rfl)) rfl (by kernel_rfl)) h2
  simp only [List.mem_cons, List.not_mem_nil, or_false] at h1
  rcases h1 with h1 | h1 <;> rw [h1] at e
  · exact ⟨_, ⟨by kernel_rfl, by decide⟩, e⟩
  · exact ⟨_, ⟨by kernel_rfl, by decide⟩, e⟩
theorem first_is (hz : xs.length ≤ 63) (h7 : l[7]? = some (some (.d (.list (words12.map .str))))) (hc2 : cs[2]? = some c2) (g2 : σ c2 = some (.cell (some (scr xs)))) :
    ∃ w ∈ words12, ev I6 σ (.sub (.var 7) (.bin .Mod (.call 528 (.cons (.cel 2) (.cons (.k (.int 9)) .nil))) (.bi .len (.var 7)))) l cs = some (.d (.str w)) := by
  obtain ⟨h1, h2⟩ := pick_mod (σ := σ) (a := .d (.list (words12.map .str))) (xs := words12.map .str) (L := 12) rfl (by kernel_rfl) (by decide) (by decide) (digitL xs 9)
  have e : ev I6 σ (.sub (.var 7) (.bin .Mod (.call 528 (.cons (.cel 2) (.cons (.k (.int 9)) .nil))) (.bi .len (.var 7)))) l cs = some (.d ((words12.map PyData.str).getD ((digitL xs 9).fmod 12).toNat .none)) := by
    refine ev_sub (y := .d (.int ((digitL xs 9).fmod 12))) (by rw [eve_var, h7]) (ev_bin (x := .d (.int (digitL xs 9))) (y := .d (.int 12)) ?_ ?_ (by kernel_rfl)) h2
    · have := digit_is hz (k := 9) (by decide) σ
      simp only [eve_var, eve_cel, eve_glob, eve_k, eve_bin, eve_neg, eve_notE, eve_and, eve_or, eve_ite, eve_cmp, eve_chain, eve_attr, eve_sub, eve_slc, eve_tup, eve_lst, eve_call, eve_mcall, eve_bi, eve_meth, eve_join, eve_rng, eve_comp, eve_hin, eve_hat, evs_nil, evs_cons, hc2, g2, Nat.reduceLeDiff, if_true, Option.bind_some, I6_528]
      exact this
    · rw [eve_bi, eve_var, h7]; kernel_rfl
  obtain ⟨w, hw, hw2⟩ := List.mem_map.mp h1
  exact ⟨w, hw, by rw [e, hw2]⟩
theorem token_is {d : Int} {many : Nat} (h0 : l[0]? = some (some (.d (.int d)))) (h9 : l[9]? = some (some (.d (.int (many : Int))))) : ∃ b, ev I6 σ (.sub (.tup (.cons (.tup (.cons (.k (.str (q [115, 116, 97, 114, 116]))) (.cons (.k (.str (q [112]))) (.cons (.tup .nil) (.cons (.k (.bool false)) .nil))))) (.cons (.tup (.cons (.k (.str (q [101, 110, 100]))) (.cons (.k (.str (q [98, 114]))) (.cons (.tup .nil) (.cons (.k (.bool false)) .nil))))) .nil))) (.bin .Mod (.bin .Add (.var 9) (.bin .FloorDiv (.var 0) (.k (.int 16)))) (.k (.int 2)))) l cs = some (.d (brTok b)) := by
  obtain ⟨h1, h2⟩ := pick_mod (σ := σ) (a := .d (.tuple [brTok false, brTok true])) (xs := [brTok false, brTok true]) (L := 2) rfl rfl (by decide) (by decide) ((many : Int) + d.fdiv 16)
  have e : ev I6 σ (.sub (.tup (.cons (.tup (.cons (.k (.str (q [115, 116, 97, 114, 116]))) (.cons (.k (.str (q [112]))) (.cons (.tup .nil) (.cons (.k (.bool false)) .nil))))) (.cons (.tup (.cons (.k (.str (q [101, 110, 100]))) (.cons (.k (.str (q [98, 114]))) (.cons (.tup .nil) (.cons (.k (.bool false)) .nil))))) .nil))) (.bin .Mod (.bin .Add (.var 9) (.bin .FloorDiv (.var 0) (.k (.int 16)))) (.k (.int 2)))) l cs = _ :=
    ev_sub (x := .d (.tuple [brTok false, brTok true])) (y := .d (.int (((many : Int) + d.fdiv 16).fmod 2))) (by kernel_rfl) (ev_bin (x := .d (.int ((many : Int) + d.fdiv 16))) (y := .d (.int 2)) (ev_bin (x := .d (.int many)) (y := .d (.int (d.fdiv 16))) (by rw [eve_var, h9]) (ev_bin (x := .d (.int d)) (y := .d (.int 16)) (by rw [eve_var, h0]) rfl (by kernel_rfl)) rfl) rfl (by kernel_rfl)) h2
  simp only [List.mem_cons, List.not_mem_nil, or_false] at h1
  rcases h1 with h1 | h1 <;> rw [h1] at e
  · exact ⟨_, e⟩
  · exact ⟨_, e⟩
theorem second_is (hz : xs.length ≤ 63) {ks : List PyData} {m : Nat} (hk : ∀ kd ∈ ks, kd ∈ shapesL) (hn : ks.length ≤ 8) (hm : m < ks.length) (h3 : l[3]? = some (some (.d (.list ks)))) (h9 : l[9]? = some (some (.d (.int ((m + 1 : Nat) : Int))))) (hc2 : cs[2]? = some c2) (g2 : σ c2 = some (.cell (some (scr xs)))) :
    ∃ w, fine 0 (.str w) ∧ ev I6 σ (.meth .lower (.sub (.sub (.var 3) (.bin .Mod (.bin .Sub (.bin .Sub (.var 9) (.k (.int 1))) (.call 528 (.cons (.cel 2) (.cons (.k (.int 10)) .nil)))) (.var 9))) (.k (.int 1)))) l cs = some (.d (.str w)) := by
  obtain ⟨q1, q2⟩ := fmod_lt (((m + 1 : Nat) : Int) - 1 - digitL xs 10) (b := ((m + 1 : Nat) : Int)) (by omega)
  generalize hx : (((m + 1 : Nat) : Int) - 1 - digitL xs 10).fmod ((m + 1 : Nat) : Int) = x at q1 q2
  obtain ⟨kd, hkd⟩ : ∃ kd, ks[x.toNat]? = some kd := ⟨ks[x.toNat]'(by omega), List.getElem?_eq_getElem _⟩
  have hs := hk kd (List.mem_of_getElem? hkd)
  have e0 : ev I6 σ (.call 528 (.cons (.cel 2) (.cons (.k (.int 10)) .nil))) l cs = some (.d (.int (digitL xs 10))) := by
    have := digit_is hz (k := 10) (by decide) σ
    simp only [eve_var, eve_cel, eve_glob, eve_k, eve_bin, eve_neg, eve_notE, eve_and, eve_or, eve_ite, eve_cmp, eve_chain, eve_attr, eve_sub, eve_slc, eve_tup, eve_lst, eve_call, eve_mcall, eve_bi, eve_meth, eve_join, eve_rng, eve_comp, eve_hin, eve_hat, evs_nil, evs_cons, hc2, g2, Nat.reduceLeDiff, if_true, Option.bind_some, I6_528]
    exact this
  have e1 : ev I6 σ (.bin .Mod (.bin .Sub (.bin .Sub (.var 9) (.k (.int 1))) (.call 528 (.cons (.cel 2) (.cons (.k (.int 10)) .nil)))) (.var 9)) l cs = some (.d (.int (x.toNat : Int))) := by
    refine ev_bin (x := .d (.int (((m + 1 : Nat) : Int) - 1 - digitL xs 10))) (y := .d (.int ((m + 1 : Nat) : Int))) (ev_bin (x := .d (.int (((m + 1 : Nat) : Int) - 1))) (ev_bin (x := .d (.int ((m + 1 : Nat) : Int))) (by rw [eve_var, h9]) rfl rfl) e0 rfl) (by rw [eve_var, h9]) ?_
    show (if ((m + 1 : Nat) : Int) = 0 then none else some (PyData.int ((((m + 1 : Nat) : Int) - 1 - digitL xs 10).fmod ((m + 1 : Nat) : Int)))) = _
    rw [if_neg (by omega), hx, Int.toNat_of_nonneg q1]
  have e2 : ev I6 σ (.sub (.var 3) (.bin .Mod (.bin .Sub (.bin .Sub (.var 9) (.k (.int 1))) (.call 528 (.cons (.cel 2) (.cons (.k (.int 10)) .nil)))) (.var 9))) l cs = some (.d kd) := ev_sub (by rw [eve_var, h3]) e1 (at_list (by omega) hkd)
  refine ⟨lowK kd, fine_low hs, ?_⟩
  have e3 := List.map_inj_left.mp (low2_all I6 σ []) kd hs
  rw [eve_meth, eve_sub, e2]
  rw [eve_meth, eve_sub] at e3
  exact e3
end
end Mine
end

section
set_option maxRecDepth 100000
namespace Mine

theorem nt_all (τ : Store) : (shapesL.map fun kd => cmpA τ .Eq (.d (nmk kd)) (.d (.str (q [116, 101, 109, 112, 108, 97, 116, 101])))) = shapesL.map fun _ => some false := by kernel_rfl
theorem sub2t_all (I : Tab) (σ : Store) (cs : List Addr) : (shapesL.map fun kd => ev I σ (.sub (.var 0) (.k (.int 2))) [some (.d kd)] cs) = shapesL.map fun kd => some (.d (.tuple (atk kd))) := by kernel_rfl
theorem atl_all : (shapesL.map fun kd => Nat.ble (atk kd).length 3) = shapesL.map fun _ => true := by kernel_rfl
theorem atl {kd : PyData} (h : kd ∈ shapesL) : (atk kd).length ≤ 1000 := Nat.le_trans (Nat.le_of_ble_eq_true (List.map_inj_left.mp atl_all kd h)) (by decide)
noncomputable def upL (k d : Nat) : List PyData := (List.range d).map fun (i : Nat) => .int ((k + i : Nat) : Int)
theorem upL_cons (k d : Nat) : upL k (d + 1) = .int (k : Int) :: upL (k + 1) d := by
  unfold upL
  rw [List.range_succ_eq_map, List.map_cons, List.map_map]
  congr 1
  refine List.map_congr_left fun i _ => ?_
  show PyData.int ((k + (i + 1) : Nat) : Int) = PyData.int ((k + 1 + i : Nat) : Int)
  congr 2; omega
noncomputable def chL (k d : Nat) : List (List PyData) := (List.range d).map fun (i : Nat) => [.int ((k + i + 1 : Nat) : Int)]
theorem chL_cons (k d : Nat) : chL k (d + 1) = [.int ((k + 1 : Nat) : Int)] :: chL (k + 1) d := by
  unfold chL
  rw [List.range_succ_eq_map, List.map_cons, List.map_map]
  congr 1
  refine List.map_congr_left fun i _ => ?_
  show [PyData.int ((k + (i + 1) + 1 : Nat) : Int)] = [PyData.int ((k + 1 + i + 1 : Nat) : Int)]
  have : k + (i + 1) + 1 = k + 1 + i + 1 := by omega
  rw [this]
structure Lk (S : TS) (ks : List PyData) (k d : Nat) : Prop where
  t : TreeOk S ks
  n : ks.length = k + d
  p : S.parents = List.replicate (k + 1) (.int (-1)) ++ upL k d
  c : S.chs = List.replicate k [] ++ chL k d ++ [[]]
theorem Lk.done {S : TS} {ks : List PyData} (h : Lk S ks 0 ks.length) (h1 : 1 ≤ ks.length) : Done S ks := by
  refine ⟨h.t, ?_, ?_⟩
  · rw [h.p]
    obtain ⟨n, hn⟩ : ∃ n, ks.length = n + 1 := ⟨ks.length - 1, by omega⟩
    rw [hn, upL_cons]
    show [PyData.int (-1)] ++ (PyData.int 0 :: upL 1 n) = [.int (-1), .int 0] ++ nodesL n
    have : upL 1 n = nodesL n := by
      unfold upL nodesL
      refine List.map_congr_left fun i _ => ?_
      rw [Nat.add_comm 1 i]
    rw [this]; rfl
  · rw [h.c]
    show chL 0 ks.length ++ [[]] = _
    have : chL 0 ks.length = (nodesL ks.length).map fun x => [x] := by
      unfold chL nodesL
      rw [List.map_map]
      refine List.map_congr_left fun i _ => ?_
      show [PyData.int ((0 + i + 1 : Nat) : Int)] = _
      rw [Nat.zero_add]; rfl
    rw [this]
theorem TreeOk.link {S : TS} {ks : List PyData} (h : TreeOk S ks) (p v : Nat) : TreeOk (S.link p v) ks := ⟨h.ok.link p v, h.sp, h.nm, h.at'⟩
theorem Lk.link {S : TS} {ks : List PyData} {k d : Nat} (h : Lk S ks (k + 1) d) : Lk (S.link k (k + 1)) ks k (d + 1) := by
  refine ⟨h.t.link _ _, by have := h.n; omega, ?_, ?_⟩
  · show S.parents.set (k + 1) (.int (k : Int)) = _
    rw [h.p, upL_cons, List.replicate_succ' (n := k + 1), List.append_assoc, List.set_append_right _ _ (by simp)]
    simp
  · show S.chs.set k [.int ((k + 1 : Nat) : Int)] = _
    rw [h.c, chL_cons, List.replicate_succ' (n := k), List.append_assoc, List.append_assoc, List.set_append_right _ _ (by simp)]
    simp
theorem Lk.pat {S : TS} {ks : List PyData} {k d i : Nat} (h : Lk S ks k d) (hi : i ≤ k) : S.parents[i]? = some (.int (-1)) := by
  rw [h.p, List.getElem?_append_left (by simp; omega), List.getElem?_replicate, if_pos (by omega)]
theorem Lk.cat {S : TS} {ks : List PyData} {k d i : Nat} (h : Lk S ks k d) (hi : i < k) : S.chs[i]? = some [] := by
  rw [h.c, List.append_assoc, List.getElem?_append_left (by simp; omega), List.getElem?_replicate, if_pos hi]
noncomputable def b7 (C : Cfg) (W : BW) (mode : Str) (items errs : List PyData) : List (Addr × AO) :=
  [(W.b, .inst 517 W.db), (W.db, .ns 517 W.as), (W.st, .inst 322 W.ds), (W.ds, .ns 322 [.ref W.A.t, .ref W.it]), (W.it, dl items), (W.er, dl errs), (W.rd, .is (dictIs C mode 550))]
theorem bE_tree (C : Cfg) (W : BW) (mode : Str) (items errs : List PyData) (S : TS) (R : List (Addr × AO)) : (bE C W mode items errs S R).Perm (treeE W.A S (b7 C W mode items errs ++ R)) :=
  tree_perm W.A S (b7 C W mode items errs) R
section
variable {C : Cfg} (H : KOk C) {W : BW} {mode : Str} {items errs : List PyData} {S : TS} {R : List (Addr × AO)} {ks : List PyData} {σ : Store} {Q : AV → Store → Prop}
include H
theorem appB_T {k d : Nat} (l : Lk S ks (k + 1) d) (hn : ks.length ≤ 8) (h : Has σ (bE C W mode items errs S R)) (q : ∀ σ' S', Lk S' ks k (d + 1) → Has σ' (bE C W mode items errs S' R) → Q (.d .none) σ') :
    TC C 4 (.ref 394) [.ref W.A.t, .d (.int (k : Int)), .d (.int ((k + 1 : Nat) : Int))] σ Q := by
  have hnk := l.n
  have hc : S.cl[k]? = some (S.cl[k]'(by rw [l.t.ok.hl]; omega)) := List.getElem?_eq_getElem _
  refine append_T H (h.perm (bE_tree C W mode items errs S R).symm) l.t.ok (by omega) (by omega) (l.pat (by omega)) (l.pat (Nat.le_refl _)) hc (l.cat (by omega)) fun σ' h' => q σ' _ l.link (h'.perm (bE_tree C W mode items errs _ R))
theorem elemB_T {kd : PyData} (l : Lk S ks ks.length 0) (hn : ks.length ≤ 8) (hk : kd ∈ shapesL) (h : Has σ (bE C W mode items errs S R)) (kk : ∀ σ' S', Lk S' (ks ++ [kd]) (ks ++ [kd]).length 0 → Has σ' (bE C W mode items errs S' R) → Q (.d (.int ((ks.length + 1 : Nat) : Int))) σ') :
    TC C 2 (.ref 358) [.ref W.A.t, .d (nmk kd), .d (spk kd), .d (.tuple (atk kd))] σ Q := by
  refine element_T H (h.perm (bE_tree C W mode items errs S R).symm) l.t.ok (by omega) (atl hk) (fun τ => ⟨_, List.map_inj_left.mp (sp_all I6 τ) kd hk⟩) (fun τ => List.map_inj_left.mp (nt_all τ) kd hk) fun σ' c h' => kk σ' _ ?_ (h'.perm (bE_tree C W mode items errs _ R))
  refine ⟨⟨?_, ?_, ?_, ?_⟩, by simp, ?_, ?_⟩
  · have := l.t.ok.add (.str (q [101, 108, 101, 109, 101, 110, 116])) (spk kd) (nmk kd) (atk kd) (.str (q [])) c
    rw [List.length_append]
    exact this
  · show S.spaces ++ [spk kd] = _
    rw [l.t.sp]; simp
  · show S.names ++ [nmk kd] = _
    rw [l.t.nm]; simp
  · show S.attrs ++ [.list (atk kd)] = _
    rw [l.t.at']; simp
  · show S.parents ++ [.int (-1)] = _
    rw [l.p, List.length_append]
    have : upL ks.length 0 = [] := rfl
    have e2 : upL (ks.length + [kd].length) 0 = [] := rfl
    rw [this, e2, List.append_nil, List.append_nil, ← List.replicate_succ' (n := ks.length + 1)]; rfl
  · show S.chs ++ [[]] = _
    rw [l.c, List.length_append]
    have : chL ks.length 0 = [] := rfl
    have e2 : chL (ks.length + [kd].length) 0 = [] := rfl
    rw [this, e2, List.append_nil, List.append_nil, show ks.length + [kd].length = ks.length + 1 from rfl, List.replicate_succ' (n := ks.length)]
theorem nodes_loop {c0 : Addr} (hc : (c0, AO.cell (some (.ref W.A.t))) ∈ R) {QQ : List AV → Store → Prop} : ∀ {k2 k1 : List PyData} {S : TS} {σ : Store}, (∀ kd ∈ k2, kd ∈ shapesL) → (k1 ++ k2).length ≤ 8 → Lk S k1 k1.length 0 → Has σ (bE C W mode items errs S R) →
    (∀ σ' S', Lk S' (k1 ++ k2) (k1 ++ k2).length 0 → Has σ' (bE C W mode items errs S' R) → QQ ((nodesL (k1 ++ k2).length).map .d) σ') →
    compP (fun a τ RR => match bindT false a with | some l' => wpX C 7 I6 (.mcall 439 358 (.cel 0) (.cons (.sub (.var 0) (.k (.int 1))) (.cons (.sub (.var 0) (.k (.int 0))) (.cons (.sub (.var 0) (.k (.int 2))) .nil)))) l' [c0] τ (fun b τ' => RR (some b) τ') | none => False) (k2.map .d) ((nodesL k1.length).map .d) σ QQ
  | [], k1, S, σ, _, _, l, h, q => by
    have := q σ S (by rw [List.append_nil]; exact l) h
    rw [List.append_nil] at this
    exact this
  | kd :: k2, k1, S, σ, hk, hz, l, h, q => by
    have hkd := hk kd (by simp)
    have g0 : σ c0 = some (.cell (some (.ref W.A.t))) := h.inR hc
    have hin : instA σ 439 (.ref W.A.t) = some [.ref W.A.k, .ref W.A.s, .ref W.A.n, .ref W.A.a, .ref W.A.x, .ref W.A.p, .ref W.A.c, .ref W.A.co] := instA_of (h.get 7 rfl) (h.get 8 rfl)
    simp only [List.length_append, List.length_cons] at hz
    rw [List.map_cons]
    show wpX C 7 I6 _ [some (.d kd)] [c0] σ _
    refine mcall_is (v := .ref W.A.t) (as := [.d (nmk kd), .d (spk kd), .d (.tuple (atk kd))]) ?_ hin ?_ ((elemB_T H l (by omega) hkd h fun σ' S' l' h' => ?_).le (by decide))
    · simp only [eve_var, eve_cel, eve_glob, eve_k, eve_bin, eve_neg, eve_notE, eve_and, eve_or, eve_ite, eve_cmp, eve_chain, eve_attr, eve_sub, eve_slc, eve_tup, eve_lst, eve_call, eve_mcall, eve_bi, eve_meth, eve_join, eve_rng, eve_comp, eve_hin, eve_hat, List.getElem?_cons_zero, g0]
    · have e1 := List.map_inj_left.mp (sub1_all I6 σ [c0]) kd hkd
      have e0 := List.map_inj_left.mp (sub0e_all I6 σ [c0]) kd hkd
      have e2 := List.map_inj_left.mp (sub2t_all I6 σ [c0]) kd hkd
      rw [evs_cons, evs_cons, evs_cons, evs_nil, e1, e0, e2]
    · have e : (nodesL k1.length).map AV.d ++ (some (AV.d (.int ((k1.length + 1 : Nat) : Int)))).toList = (nodesL (k1 ++ [kd]).length).map .d := by
        rw [List.length_append]
        show _ = (nodesL (k1.length + 1)).map AV.d
        rw [nodesL_succ, List.map_append]; rfl
      show compP _ (k2.map .d) ((nodesL k1.length).map AV.d ++ (some (AV.d (.int ((k1.length + 1 : Nat) : Int)))).toList) σ' QQ
      rw [e]
      refine nodes_loop hc (fun x hx => hk x (by simp [hx])) (by simp; omega) l' h' fun σ2 S2 l2 h2 => ?_
      rw [List.append_assoc] at l2 ⊢
      exact q σ2 S2 l2 h2
noncomputable def downL : Nat → List Nat
  | 0 => []
  | j + 1 => (j + 1) :: downL j
omit H in
theorem down_all : ∀ j < 10, (Builtin.Range.small (Int.ofNat j) 0 (-1) = true ∧ (-1 : Int) ≠ 0 ∧ 0 ≤ Builtin.Range.rangeSize (Int.ofNat j) 0 (-1) ∧ rngLen (Int.ofNat j) 0 (-1) ≤ sizeLine) ∧ ((List.range (rngLen (Int.ofNat j) 0 (-1))).map fun (i : Nat) => Int.ofNat j + i * (-1)) = (downL j).map Int.ofNat := by decide +kernel
omit H in
theorem down_is {j : Nat} (hj : j < 10) : iterA (.rng (j : Int) 0 (-1)) = some ((downL j).map fun (i : Nat) => AV.d (.int (i : Int))) := by
  obtain ⟨h1, h2⟩ := down_all j hj
  change (if Builtin.Range.small (Int.ofNat j) 0 (-1) = true ∧ (-1 : Int) ≠ 0 ∧ 0 ≤ Builtin.Range.rangeSize (Int.ofNat j) 0 (-1) ∧ rngLen (Int.ofNat j) 0 (-1) ≤ sizeLine then some ((List.range (rngLen (Int.ofNat j) 0 (-1))).map fun (i : Nat) => AV.d (.int (Int.ofNat j + i * (-1)))) else none) = _
  rw [if_pos h1]
  have h3 := congrArg (fun l : List Int => l.map fun x => AV.d (.int x)) h2
  simp only [List.map_map] at h3
  congr 1
theorem link_loop {c0 : Addr} {cs : List Addr} (hc0 : cs[0]? = some c0) (hc : (c0, AO.cell (some (.ref W.A.t))) ∈ R) (hn : ks.length ≤ 8) {K : PostS} {lo : Option AV → Lo} (hl : ∀ x a, (lo x).set 2 (some a) = lo (some a)) (h2 : ∀ x, (lo x)[2]? = some x) (h5 : ∀ x, (lo x)[5]? = some (some (.d (.list (nodesL ks.length))))) : ∀ {j d : Nat} {S : TS} {σ : Store} {x : Option AV}, Lk S ks (j + 1) d → Has σ (bE C W mode items errs S R) →
    (∀ σ' S' d x, Lk S' ks 1 d → Has σ' (bE C W mode items errs S' R) → K .next (lo x) σ') →
    forP (fun a l τ K => wpS C 7 I6 (.exp (.mcall 439 394 (.cel 0) (.cons (.sub (.var 5) (.bin .Sub (.var 2) (.k (.int 1)))) (.cons (.sub (.var 5) (.var 2)) .nil))) .done) cs (l.set 2 (some a)) τ K) ((downL j).map fun (i : Nat) => AV.d (.int (i : Int))) (lo x) σ K
  | 0, d, S, σ, x, l, h, k => k σ S d x l h
  | j + 1, d, S, σ, x, l, h, k => by
    have hnk := l.n
    have g0 : σ c0 = some (.cell (some (.ref W.A.t))) := h.inR hc
    have hin : instA σ 439 (.ref W.A.t) = some [.ref W.A.k, .ref W.A.s, .ref W.A.n, .ref W.A.a, .ref W.A.x, .ref W.A.p, .ref W.A.c, .ref W.A.co] := instA_of (h.get 7 rfl) (h.get 8 rfl)
    show wpS C 7 I6 _ cs ((lo x).set 2 (some (.d (.int ((j + 1 : Nat) : Int))))) σ _
    rw [hl]
    have e1 : ((j + 1 : Nat) : Int) - 1 = (j : Int) := by omega
    refine call_step (mcall_is (v := .ref W.A.t) (as := [.d (.int ((j + 1 : Nat) : Int)), .d (.int ((j + 1 + 1 : Nat) : Int))]) ?_ hin ?_ ((appB_T H (k := j + 1) l hn h fun σ' S' l' h' => ⟨rfl, ?_⟩).le (by decide)))
    · simp only [eve_var, eve_cel, eve_glob, eve_k, eve_bin, eve_neg, eve_notE, eve_and, eve_or, eve_ite, eve_cmp, eve_chain, eve_attr, eve_sub, eve_slc, eve_tup, eve_lst, eve_call, eve_mcall, eve_bi, eve_meth, eve_join, eve_rng, eve_comp, eve_hin, eve_hat, hc0, g0]
    · have a1 : ev I6 σ (.sub (.var 5) (.bin .Sub (.var 2) (.k (.int 1)))) (lo (some (.d (.int ((j + 1 : Nat) : Int))))) cs = some (.d (.int ((j + 1 : Nat) : Int))) :=
        ev_sub (x := .d (.list (nodesL ks.length))) (y := .d (.int (j : Int))) (by rw [eve_var, h5]) (ev_bin (x := .d (.int ((j + 1 : Nat) : Int))) (y := .d (.int 1)) (by rw [eve_var, h2]) rfl (by rw [← e1]; rfl)) (at_list (by rw [nodesL_len]; omega) (by unfold nodesL; rw [List.getElem?_map, List.getElem?_range (by omega)]; rfl))
      have a2 : ev I6 σ (.sub (.var 5) (.var 2)) (lo (some (.d (.int ((j + 1 : Nat) : Int))))) cs = some (.d (.int ((j + 1 + 1 : Nat) : Int))) :=
        ev_sub (x := .d (.list (nodesL ks.length))) (y := .d (.int ((j + 1 : Nat) : Int))) (by rw [eve_var, h5]) (by rw [eve_var, h2]) (at_list (by rw [nodesL_len]; omega) (by unfold nodesL; rw [List.getElem?_map, List.getElem?_range (by omega)]; rfl))
      rw [evs_cons, evs_cons, evs_nil, a1, a2]
    · exact link_loop hc0 hc hn hl h2 h5 l' h' k
end
end Mine
end

section
set_option maxRecDepth 100000
namespace Mine

noncomputable def lawBody : CS := (.asg 10 (.pe (.sub (.tup (.cons (.tup (.cons (.k (.str (q [115, 116, 97, 114, 116]))) (.cons (.k (.str (q [112]))) (.cons (.tup .nil) (.cons (.k (.bool false)) .nil))))) (.cons (.tup (.cons (.k (.str (q [101, 110, 100]))) (.cons (.k (.str (q [98, 114]))) (.cons (.tup .nil) (.cons (.k (.bool false)) .nil))))) .nil))) (.bin .Mod (.bin .Add (.var 9) (.bin .FloorDiv (.var 0) (.k (.int 16)))) (.k (.int 2)))))
 (.ifn (.call 562 (.cons (.var 4) (.cons (.var 3) (.cons (.var 5) (.cons (.var 9) (.cons (.var 8) .nil))))))
 (.ret (.pe (.k (.bool false)))) .done
 (.ifn (.call 572 (.cons (.var 4) (.cons (.var 6) (.cons (.var 5) (.cons (.var 9) (.cons (.var 10) .nil))))))
 (.ret (.pe (.k (.bool false)))) .done
 (.ife (.cmp .Gt (.var 9) (.k (.int 0)))
 (.asg 11 (.pe (.meth .lower (.sub (.sub (.var 3) (.bin .Mod (.bin .Sub (.bin .Sub (.var 9) (.k (.int 1))) (.call 528 (.cons (.cel 2) (.cons (.k (.int 10)) .nil)))) (.var 9))) (.k (.int 1)))))
 (.ifn (.call 567 (.cons (.var 4) (.cons (.var 3) (.cons (.var 5) (.cons (.var 9) (.cons (.var 8) .nil))))))
 (.ret (.pe (.k (.bool false)))) .done
 (.ifn (.call 567 (.cons (.var 4) (.cons (.var 3) (.cons (.var 5) (.cons (.var 9) (.cons (.var 11) .nil))))))
 (.ret (.pe (.k (.bool false)))) .done
 .done))) .done
 .done))))
noncomputable def lawTail : CS := (.asg 6 (.pe (.comp false [] (.var 3) (.call 538 (.cons (.var 0) .nil)) .nil))
 (.ife (.or (.cmp .NotEq (.comp false [0] (.var 5) (.call 84 (.cons (.cel 0) (.cons (.var 0) .nil))) .nil) (.var 6)) (.notE (.call 543 (.cons (.cel 2) .nil))))
 (.ret (.pe (.k (.bool false)))) .done
 (.asg 7 (.pe (.meth .split (.k (.str (q [115, 99, 114, 105, 112, 116, 32, 103, 32, 102, 111, 114, 101, 105, 103, 110, 111, 98, 106, 101, 99, 116, 32, 99, 108, 105, 112, 112, 97, 116, 104, 32, 112, 32, 109, 105, 32, 97, 110, 110, 111, 116, 97, 116, 105, 111, 110, 45, 120, 109, 108, 32, 104, 116, 109, 108, 32, 120, 32, 98, 114, 32, 115, 118, 103, 32, 109, 97, 116, 104])))))
 (.asg 8 (.pe (.sub (.var 7) (.bin .Mod (.call 528 (.cons (.cel 2) (.cons (.k (.int 9)) .nil))) (.bi .len (.var 7)))))
 (.for1 9 (.rng (.cons (.bin .Add (.bi .len (.var 5)) (.k (.int 1))) .nil))
 lawBody
 (.ret (.pe (.call 577 (.cons (.cel 0) (.cons (.var 3) (.cons (.var 5) .nil)))))))))))
theorem holdsL_eq (ks : List PyData) : holdsL ks = (List.range ks.length).map fun i => .bool (holdsB (ks.getD i .none)) := by
  refine List.ext_getElem (by simp [holdsL]) fun i h1 h2 => ?_
  have h3 : i < ks.length := by simpa [holdsL] using h1
  simp [holdsL, List.getD_eq_getElem?_getD, List.getElem?_eq_getElem h3]
theorem words_split (I : Tab) (σ : Store) (l : Lo) (cs : List Addr) : ev I σ (.meth .split (.k (.str (q [115, 99, 114, 105, 112, 116, 32, 103, 32, 102, 111, 114, 101, 105, 103, 110, 111, 98, 106, 101, 99, 116, 32, 99, 108, 105, 112, 112, 97, 116, 104, 32, 112, 32, 109, 105, 32, 97, 110, 110, 111, 116, 97, 116, 105, 111, 110, 45, 120, 109, 108, 32, 104, 116, 109, 108, 32, 120, 32, 98, 114, 32, 115, 118, 103, 32, 109, 97, 116, 104])))) l cs = some (.d (.list (words12.map .str))) := by kernel_rfl
section
variable {C : Cfg} {n : Nat} {I : Tab} {σ : Store} {l : Lo} {cs : List Addr}
theorem ifn_T {x : XE} {a r : CS} {Q : PostS} (h : wpX C n I x l cs σ fun v τ => v = .d (.bool true) ∧ wpS C n I r cs l τ Q) : wpS C n I (.ifn x a .done r) cs l σ Q := by
  rw [wpS_ifn]
  refine wpX_mono ?_ h
  rintro v τ ⟨rfl, h⟩
  exact h
end
noncomputable def lawLo (d : Int) (md : AV) (xk : Option AV) (ks : List PyData) (b : Addr) (wd : Option AV) (w : Option AV) (x9 x10 x11 : Option AV) : Lo := [some (.d (.int d)), some md, xk, some (.d (.list ks)), some (.ref b), some (.d (.list (nodesL ks.length))), some (.d (.list (holdsL ks))), wd, w, x9, x10, x11]
section
variable {C : Cfg} (H : KOk C) {mode : Str} {S : TS} {R : List (Addr × AO)} {ks : List PyData} {xs : List Int} {c0 c1 c2 b : Addr} {A : TA}
noncomputable def Inv (C : Cfg) (b : Addr) (A : TA) (mode : Str) (S : TS) (R : List (Addr × AO)) (σ : Store) : Prop := ∃ W items errs, W.b = b ∧ W.A = A ∧ W.Ok (.str mode) ∧ Has σ (bE C W mode items errs S R)
include H
theorem body_T (hz : xs.length ≤ 63) (hmode : fine 0 (.str mode)) (t : TreeOk S ks) (hk : ∀ kd ∈ ks, kd ∈ shapesL) (hn : ks.length ≤ 8) (hc2 : (c2, AO.cell (some (scr xs))) ∈ R) {w : Str} (hw : w ∈ words12) {d : Int} {md : AV} {xk wd x10 x11 : Option AV} {many : Nat} (hm : many ≤ ks.length) {σ : Store} (i : Inv C b A mode S R σ) {Q : PostS}
    (q' : ∀ σ' x10 x11, Inv C b A mode S R σ' → Q .next (lawLo d md xk ks b wd (some (.d (.str w))) (some (.d (.int many))) x10 x11) σ') :
    wpS C 7 I6 lawBody [c0, c1, c2] (lawLo d md xk ks b wd (some (.d (.str w))) (some (.d (.int many))) x10 x11) σ Q := by
  unfold lawBody
  obtain ⟨W, items, errs, hb, hA, ok, h⟩ := i
  obtain ⟨bt, ebt⟩ := token_is (σ := σ) (cs := [c0, c1, c2]) (l := lawLo d md xk ks b wd (some (.d (.str w))) (some (.d (.int many))) x10 x11) (d := d) (many := many) rfl rfl
  refine asg_pe ebt ?_
  change wpS C 7 I6 _ [c0, c1, c2] (lawLo d md xk ks b wd (some (.d (.str w))) (some (.d (.int many))) (some (.d (brTok bt))) x11) σ _
  clear ebt
  refine ifn_T (call_is (as := [.ref W.b, .d (.list ks), .d (.list (nodesL ks.length)), .d (.int many), .d (.str w)]) (by rw [hb]; rfl) ((script_T H h ok t hk hn hm hw fun σ W2 items errs b2 A2 ok h => ⟨rfl, ?_⟩).le (by decide)))
  have hb := b2.trans hb
  have hA := A2.trans hA
  clear b2 A2
  refine ifn_T (call_is (as := [.ref W2.b, .d (.list (holdsL ks)), .d (.list (nodesL ks.length)), .d (.int many), .d (brTok bt)]) (by rw [hb]; rfl) ((breakHolds_T H hmode h ok t hk hn hm fun σ W3 items errs b2 A2 ok h => ⟨rfl, ?_⟩).le (by decide)))
  have hb := b2.trans hb
  have hA := A2.trans hA
  clear b2 A2
  refine ife_step (decide (0 < many)) (by rw [ev_cmp (x := .d (.int many)) (y := .d (.int (0 : Nat))) rfl rfl (gt_nat σ many 0)]; rfl) ?_
  by_cases hm0 : 0 < many
  · rw [decide_eq_true hm0, if_pos rfl]
    obtain ⟨m, rfl⟩ : ∃ m, many = m + 1 := ⟨many - 1, by omega⟩
    obtain ⟨w2, hw2, e2⟩ := second_is (σ := σ) (xs := xs) (c2 := c2) (cs := [c0, c1, c2]) (l := lawLo d md xk ks b wd (some (.d (.str w))) (some (.d (.int ((m + 1 : Nat) : Int)))) (some (.d (brTok bt))) x11) hz (ks := ks) (m := m) hk hn hm rfl rfl rfl (h.inR hc2)
    refine asg_pe e2 ?_
    change wpS C 7 I6 _ [c0, c1, c2] (lawLo d md xk ks b wd (some (.d (.str w))) (some (.d (.int ((m + 1 : Nat) : Int)))) (some (.d (brTok bt))) (some (.d (.str w2)))) σ _
    clear e2
    refine ifn_T (call_is (as := [.ref W3.b, .d (.list ks), .d (.list (nodesL ks.length)), .d (.int ((m + 1 : Nat) : Int)), .d (.str w)]) (by rw [hb]; rfl) (endHolds_T H hmode (fine_w12 hw) h ok t hk hn hm fun σ W4 items errs b2 A2 ok h => ⟨rfl, ?_⟩))
    have hb := b2.trans hb
    have hA := A2.trans hA
    clear b2 A2
    refine ifn_T (call_is (as := [.ref W4.b, .d (.list ks), .d (.list (nodesL ks.length)), .d (.int ((m + 1 : Nat) : Int)), .d (.str w2)]) (by rw [hb]; rfl) (endHolds_T H hmode hw2 h ok t hk hn hm fun σ W5 items errs b2 A2 ok h => ⟨rfl, ?_⟩))
    exact q' σ _ _ ⟨W5, items, errs, b2.trans hb, A2.trans hA, ok, h⟩
  · rw [decide_eq_false hm0, if_neg (by decide)]
    exact q' σ _ _ ⟨W3, items, errs, hb, hA, ok, h⟩
theorem law_loop (hz : xs.length ≤ 63) (hmode : fine 0 (.str mode)) (t : TreeOk S ks) (hk : ∀ kd ∈ ks, kd ∈ shapesL) (hn : ks.length ≤ 8) (hc2 : (c2, AO.cell (some (scr xs))) ∈ R) {w : Str} (hw : w ∈ words12) {d : Int} {md : AV} {xk wd : Option AV} {Q : PostS}
    (q' : ∀ σ' x9 x10 x11, Inv C b A mode S R σ' → Q .next (lawLo d md xk ks b wd (some (.d (.str w))) x9 x10 x11) σ') : ∀ {ms : List Nat} {x9 x10 x11 : Option AV} {σ : Store}, (∀ m ∈ ms, m ≤ ks.length) → Inv C b A mode S R σ →
    forP (fun a l τ K => wpS C 7 I6 lawBody [c0, c1, c2] (l.set 9 (some a)) τ K) (ms.map fun (i : Nat) => AV.d (.int (i : Int))) (lawLo d md xk ks b wd (some (.d (.str w))) x9 x10 x11) σ Q
  | [], x9, x10, x11, σ, _, i => q' σ _ _ _ i
  | m :: ms, x9, x10, x11, σ, hms, i => by
    show wpS C 7 I6 lawBody [c0, c1, c2] (lawLo d md xk ks b wd (some (.d (.str w))) (some (.d (.int (m : Int)))) x10 x11) σ _
    exact body_T H hz hmode t hk hn hc2 hw (hms m (by simp)) i fun σ' x10 x11 i' => law_loop hz hmode t hk hn hc2 hw q' (fun x hx => hms x (by simp [hx])) i'
theorem tail_T (hz : xs.length ≤ 63) (hmode : fine 0 (.str mode)) (dn : Done S ks) (hk : ∀ kd ∈ ks, kd ∈ shapesL) (hn : ks.length ≤ 8) (hc0 : (c0, AO.cell (some (.ref A.t))) ∈ R) (hc2 : (c2, AO.cell (some (scr xs))) ∈ R) {d : Int} {md : AV} {xk x6 x7 x8 x9 x10 x11 : Option AV} {σ : Store} (i : Inv C b A mode S R σ) {Q : PostS}
    (q' : ∀ l σ', Q (.ret (.d (.bool true))) l σ') :
    wpS C 7 I6 lawTail [c0, c1, c2] [some (.d (.int d)), some md, xk, some (.d (.list ks)), some (.ref b), some (.d (.list (nodesL ks.length))), x6, x7, x8, x9, x10, x11] σ Q := by
  unfold lawTail
  obtain ⟨W, items, errs, hb, hA, ok, h⟩ := i
  have g0 : σ c0 = some (.cell (some (.ref W.A.t))) := by rw [hA]; exact h.inR hc0
  have g2 : σ c2 = some (.cell (some (scr xs))) := h.inR hc2
  have e6 : ev I6 σ (.comp false [] (.var 3) (.call 538 (.cons (.var 0) .nil)) .nil) [some (.d (.int d)), some md, xk, some (.d (.list ks)), some (.ref b), some (.d (.list (nodesL ks.length))), x6, x7, x8, x9, x10, x11] [c0, c1, c2] = some (.d (.list (holdsL ks))) := by
    refine ev_comp (a := .d (.list ks)) rfl (iter_list (by omega)) (goC_map (f := fun kd => .bool (holdsB kd)) fun x hx => ?_) (mkD_list (by rw [List.length_map]; omega))
    simp only [eve_var, eve_cel, eve_glob, eve_k, eve_bin, eve_neg, eve_notE, eve_and, eve_or, eve_ite, eve_cmp, eve_chain, eve_attr, eve_sub, eve_slc, eve_tup, eve_lst, eve_call, eve_mcall, eve_bi, eve_meth, eve_join, eve_rng, eve_comp, eve_hin, eve_hat, evs_nil, evs_cons, List.getElem?_cons_zero, Nat.reduceLeDiff, if_true, Option.bind_some, I6_538]
    exact holds_is (hk x hx)
  refine asg_pe e6 ?_
  change wpS C 7 I6 _ [c0, c1, c2] (lawLo d md xk ks b x7 x8 x9 x10 x11) σ _
  refine ife_skip ?_ ?_
  · have e1 : ev I6 σ (.comp false [0] (.var 5) (.call 84 (.cons (.cel 0) (.cons (.var 0) .nil))) .nil) (lawLo d md xk ks b x7 x8 x9 x10 x11) [c0, c1, c2] = some (.d (.list (holdsL ks))) := by
      rw [holdsL_eq]
      refine ev_comp (a := .d (.list (nodesL ks.length))) rfl (iter_list (by rw [nodesL_len]; omega)) (as := ((List.range ks.length).map fun i => PyData.bool (holdsB (ks.getD i .none))).map .d) ?_ (mkD_list (by simp; omega))
      have := goC_fm (g := itF I6 σ false [0] (.call 84 (.cons (.cel 0) (.cons (.var 0) .nil))) .nil [c0, c1, c2]) (fun (i : Nat) => AV.d (.int ((i + 1 : Nat) : Int))) (fun i => some (.bool (holdsB (ks.getD i .none)))) (xs := List.range ks.length) fun i hi => ?_
      · rw [show (fun i => some (PyData.bool (holdsB (ks.getD i .none)))) = some ∘ fun i => PyData.bool (holdsB (ks.getD i .none)) from rfl, List.filterMap_eq_map] at this
        rw [← this]
        unfold nodesL
        rw [List.map_map]; rfl
      · have hi' := List.mem_range.mp hi
        obtain ⟨kd, hkd⟩ : ∃ kd, ks[i]? = some kd := ⟨ks[i], List.getElem?_eq_getElem hi'⟩
        have e2 : g84 [.ref W.A.t, .d (.int ((i + 1 : Nat) : Int))] σ = some (.d (.bool (holdsB kd))) := html_is (hk kd (List.mem_of_getElem? hkd)) (dn.t.at hn h hkd)
        have e3 : ev I6 σ (.call 84 (.cons (.cel 0) (.cons (.var 0) .nil))) [some (.d (.int ((i + 1 : Nat) : Int)))] (selC [0] [c0, c1, c2]) = some (.d (.bool (holdsB kd))) := by
          simp only [eve_var, eve_cel, eve_glob, eve_k, eve_bin, eve_neg, eve_notE, eve_and, eve_or, eve_ite, eve_cmp, eve_chain, eve_attr, eve_sub, eve_slc, eve_tup, eve_lst, eve_call, eve_mcall, eve_bi, eve_meth, eve_join, eve_rng, eve_comp, eve_hin, eve_hat, evs_nil, evs_cons, selC, List.map_cons, List.map_nil, List.getD_cons_zero, List.getElem?_cons_zero, g0, Nat.reduceLeDiff, if_true, Option.bind_some, I6_84]
          exact e2
        unfold itF bindT
        simp only [CE.isNil, if_true, e3, getD_of hkd]
        rfl
    have e2 : ev I6 σ (.cmp .NotEq (.comp false [0] (.var 5) (.call 84 (.cons (.cel 0) (.cons (.var 0) .nil))) .nil) (.var 6)) (lawLo d md xk ks b x7 x8 x9 x10 x11) [c0, c1, c2] = some (.d (.bool false)) :=
      ev_cmp e1 (y := .d (.list (holdsL ks))) rfl (ne_snap (x := .list (holdsL ks)) (k := 1) rfl rfl (fine_list fun x hx => by
        obtain ⟨kd, _, rfl⟩ := List.mem_map.mp hx
        exact ⟨rfl, Nat.le_refl _⟩) (by decide))
    have e3 : ev I6 σ (.notE (.call 543 (.cons (.cel 2) .nil))) (lawLo d md xk ks b x7 x8 x9 x10 x11) [c0, c1, c2] = some (.d (.bool false)) := by
      simp only [eve_var, eve_cel, eve_glob, eve_k, eve_bin, eve_neg, eve_notE, eve_and, eve_or, eve_ite, eve_cmp, eve_chain, eve_attr, eve_sub, eve_slc, eve_tup, eve_lst, eve_call, eve_mcall, eve_bi, eve_meth, eve_join, eve_rng, eve_comp, eve_hin, eve_hat, evs_nil, evs_cons, List.getElem?_cons_zero, List.getElem?_cons_succ, g2, Nat.reduceLeDiff, if_true, Option.bind_some, I6_543 hz]
      rfl
    rw [ev_or e2 e3]; rfl
  refine asg_pe (words_split _ _ _ _) ?_
  change wpS C 7 I6 _ [c0, c1, c2] (lawLo d md xk ks b (some (.d (.list (words12.map .str)))) x8 x9 x10 x11) σ _
  obtain ⟨w, hw, ew⟩ := first_is (σ := σ) (xs := xs) (c2 := c2) (cs := [c0, c1, c2]) (l := lawLo d md xk ks b (some (.d (.list (words12.map .str)))) x8 x9 x10 x11) hz rfl rfl g2
  refine asg_pe ew ?_
  change wpS C 7 I6 _ [c0, c1, c2] (lawLo d md xk ks b (some (.d (.list (words12.map .str)))) (some (.d (.str w))) x9 x10 x11) σ _
  generalize hwd : some (AV.d (.list (words12.map .str))) = wd
  obtain ⟨n1, hn1⟩ : ∃ n1, n1 = ks.length + 1 := ⟨_, rfl⟩
  have e9 : ev I6 σ (.rng (.cons (.bin .Add (.bi .len (.var 5)) (.k (.int 1))) .nil)) (lawLo d md xk ks b wd (some (.d (.str w))) x9 x10 x11) [c0, c1, c2] = some (.rng 0 (n1 : Int) 1) := by
    have e : ev I6 σ (.bin .Add (.bi .len (.var 5)) (.k (.int 1))) (lawLo d md xk ks b wd (some (.d (.str w))) x9 x10 x11) [c0, c1, c2] = some (.d (.int (n1 : Int))) := by
      refine ev_bin (x := .d (.int (ks.length : Int))) (y := .d (.int 1)) ?_ rfl (by rw [hn1]; rfl)
      have el : lenA σ (.d (.list (nodesL ks.length))) = some (.int (ks.length : Int)) := by
        show (if ((nodesL ks.length).map AV.d).length ≤ 16777216 then some (PyData.int ((nodesL ks.length).map AV.d).length) else none) = _
        rw [List.length_map, nodesL_len, if_pos (by omega)]
      rw [eve_bi]
      show (some (AV.d (.list (nodesL ks.length)))).bind (fun x => (lenA σ x).map AV.d) = _
      rw [Option.bind_some, el]; rfl
    rw [eve_rng, evs_cons, evs_nil, e]; rfl
  refine for_step e9 (rng_up (by omega)) (law_loop H (A := A) hz hmode dn.t hk hn hc2 hw (fun σ' x9 x10 x11 i' => ?_) (fun m hm => by have := List.mem_range.mp hm; omega) ⟨W, items, errs, hb, hA, ok, h⟩)
  obtain ⟨W, items, errs, hb, hA, ok, h⟩ := i'
  show wpS C 7 I6 (.ret (.pe (.call 577 (.cons (.cel 0) (.cons (.var 3) (.cons (.var 5) .nil)))))) [c0, c1, c2] _ σ' _
  have g0 : σ' c0 = some (.cell (some (.ref W.A.t))) := by rw [hA]; exact h.inR hc0
  refine ret_pe (a := .d (.bool true)) ?_ (q' _ _)
  have e := kept_is (h.perm (bE_tree C W mode items errs S R).symm) dn hk hn
  simp only [eve_var, eve_cel, eve_glob, eve_k, eve_bin, eve_neg, eve_notE, eve_and, eve_or, eve_ite, eve_cmp, eve_chain, eve_attr, eve_sub, eve_slc, eve_tup, eve_lst, eve_call, eve_mcall, eve_bi, eve_meth, eve_join, eve_rng, eve_comp, eve_hin, eve_hat, evs_nil, evs_cons, lawLo, List.getElem?_cons_zero, List.getElem?_cons_succ, g0, Nat.reduceLeDiff, if_true, Option.bind_some, I6_577]
  exact e
end
end Mine
end

section
set_option maxRecDepth 100000
namespace Mine

theorem compM_is {C : Cfg} {n : Nat} {I : Tab} {σ : Store} {l : Lo} {cs : List Addr} {two : Bool} {fs : List Nat} {it : CE} {elt : XE} {a : AV} {items : List AV} {Q : AV → Store → Prop} (h : ev I σ it l cs = some a) (h2 : iterA a = some items)
    (k : compP (fun a τ RR => match bindT two a with | some l' => wpX C n I elt l' (selC fs cs) τ (fun b τ' => RR (some b) τ') | none => False) items [] σ fun as τ => ∃ ds, allD as = some ds ∧ Q (.d (.list ds)) τ) : wpX C n I (.compM two fs it elt) l cs σ Q := by
  rw [wpX_compM]
  simp only [h, h2]
  exact k
theorem Lk0 (c : Addr) : Lk (S0 c) [] 0 0 := ⟨⟨⟨rfl, rfl, rfl, rfl, rfl, rfl, rfl, rfl⟩, rfl, rfl, rfl⟩, rfl, rfl, rfl⟩
section
variable {C : Cfg} (H : KOk C) {xs : List Int} {σ : Store}
include H
theorem law_T (hz : xs.length ≤ 63) : TCc C 8 (.ref 582) [scr xs] σ (fun a _ => a = .d (.bool true)) := by
  have hf := H.fnI (f := 582) (x := x_law) (pn := p_law) 39 rfl
  refine TC_fun H.tab ((I6_ok H).up (by decide : 5 ≤ 7)) hf.1 (CxOk.of o_law) k_law (hf.2 _ rfl) rfl (l0 := [none, none, none, none, none, none, none, none, none, none, none, none]) (by rfl) (v0 := [none, none, some (scr xs)]) (by rfl) fun cs h1 h2 h3 => ?_
  obtain ⟨c0, c1, c2, rfl⟩ : ∃ c0 c1 c2, cs = [c0, c1, c2] := by
    match cs, h1 with
    | [a, b, c], _ => exact ⟨a, b, c, rfl⟩
  simp only [List.nodup_cons, List.mem_cons, List.not_mem_nil, or_false, not_or] at h2
  obtain ⟨⟨n01, n02⟩, n12, _⟩ := h2
  have f0 : σ c0 = none := h3 c0 (by simp)
  have f1 : σ c1 = none := h3 c1 (by simp)
  have f2 : σ c2 = none := h3 c2 (by simp)
  have h := (((Has.nil σ).add f0 (.cell none)).add (a := c1) (by rw [Store.set_ne _ _ (Ne.symm n01)]; exact f1) (.cell none)).add (a := c2) (by rw [Store.set_ne _ _ (Ne.symm n12), Store.set_ne _ _ (Ne.symm n02)]; exact f2) (.cell (some (scr xs)))
  change wpS C 7 I6 c_law [c0, c1, c2] _ (((σ.set c0 (.cell none)).set c1 (.cell none)).set c2 (.cell (some (scr xs)))) _
  generalize ((σ.set c0 (.cell none)).set c1 (.cell none)).set c2 (.cell (some (scr xs))) = σ at h
  clear f0 f1 f2 h3
  unfold c_law
  have g2 : σ c2 = some (.cell (some (scr xs))) := h.get 0 rfl
  refine asg_pe (a := .d (.int (digitL xs 0))) ?_ ?_
  · have := digit_is hz (k := 0) (by decide) σ
    simp only [eve_var, eve_cel, eve_glob, eve_k, eve_bin, eve_neg, eve_notE, eve_and, eve_or, eve_ite, eve_cmp, eve_chain, eve_attr, eve_sub, eve_slc, eve_tup, eve_lst, eve_call, eve_mcall, eve_bi, eve_meth, eve_join, eve_rng, eve_comp, eve_hin, eve_hat, evs_nil, evs_cons, List.getElem?_cons_zero, List.getElem?_cons_succ, g2, Nat.reduceLeDiff, if_true, Option.bind_some, I6_528]
    exact this
  dsimp only [List.set_cons_succ, List.set_cons_zero]
  generalize digitL xs 0 = d
  obtain ⟨dv, hdv⟩ : ∃ dv, dv = AV.d (.int d) := ⟨_, rfl⟩
  rw [← hdv]
  obtain ⟨mode, hmode, em⟩ := mode_is (σ := σ) (cs := [c0, c1, c2]) (d := d) (l := [some dv, none, none, none, none, none, none, none, none, none, none, none]) (by rw [hdv]; rfl)
  refine asg_pe em ?_
  dsimp only [List.set_cons_succ, List.set_cons_zero]
  refine asgC_pe (a := .d (.list shapesL)) (c := c1) (v := none) ?_ rfl (h.get 1 rfl) ?_
  · simp only [eve_var, eve_cel, eve_glob, eve_k, eve_bin, eve_neg, eve_notE, eve_and, eve_or, eve_ite, eve_cmp, eve_chain, eve_attr, eve_sub, eve_slc, eve_tup, eve_lst, eve_call, eve_mcall, eve_bi, eve_meth, eve_join, eve_rng, eve_comp, eve_hin, eve_hat, evs_nil, evs_cons, Nat.reduceLeDiff, if_true, Option.bind_some, I6_533]
    rfl
  have h := h.set 1 rfl (.cell (some (.d (.list shapesL))))
  dsimp only [List.set_cons_succ, List.set_cons_zero] at h
  generalize σ.set c1 (.cell (some (.d (.list shapesL)))) = σ at h
  obtain ⟨ks, hk1, hn, hk, ek⟩ := kinds_is (σ := σ) (xs := xs) (cs := [c0, c1, c2]) (c1 := c1) (c2 := c2) (d := d) (l := [some dv, some (.d (.str mode)), none, none, none, none, none, none, none, none, none, none]) hz (by rw [hdv]; rfl) rfl rfl (h.get 1 rfl) (h.get 0 rfl)
  refine asg_pe ek ?_
  dsimp only [List.set_cons_succ, List.set_cons_zero]
  refine asg_X ?_
  show ∀ a, a ≠ 1 → σ a = none → TC C 7 (.ref 517) [.ref a] (σ.set a (.is (dictIs C mode 550))) _
  intro rd hrd1 hrd
  refine (new_builder_T H hrd1 (h.add hrd (.is (dictIs C mode 550))) fun σ W c ok h => ?_).le (by decide)
  dsimp only [List.set_cons_succ, List.set_cons_zero]
  refine call_step (mcall_is (as := [.d (.str mode)]) rfl (instA_of (h.get 0 rfl) (h.get 1 rfl)) rfl ((to_T H (h.get 0 rfl) (h.get 1 rfl) (by rw [ok.len]; decide) ⟨rfl, ?_⟩).le (by decide)))
  have h := h.set 1 rfl (.ns 517 (W.as.set 4 (.d (.str mode))))
  generalize σ.set W.db (.ns 517 (W.as.set 4 (.d (.str mode)))) = σ at h
  obtain ⟨W2, hW2⟩ : ∃ W2 : BW, W2 = { W with as := W.as.set 4 (.d (.str mode)) } := ⟨_, rfl⟩
  have ok2 : W2.Ok (.str mode) := by
    subst hW2
    refine ⟨?_, ?_, ?_, ?_, ?_, ?_, ok.n1⟩
    · simp [ok.len]
    · show (W.as.set 4 _)[0]? = _
      rw [List.getElem?_set_ne (by decide)]; exact ok.r
    · show (W.as.set 4 _)[1]? = _
      rw [List.getElem?_set_ne (by decide)]; exact ok.t
    · show (W.as.set 4 _)[2]? = _
      rw [List.getElem?_set_ne (by decide)]; exact ok.s
    · show (W.as.set 4 _)[4]? = _
      rw [List.getElem?_set_self (by rw [ok.len]; decide)]
    · show (W.as.set 4 _)[15]? = _
      rw [List.getElem?_set_ne (by decide)]; exact ok.e
  have h : Has σ (bE C W2 mode [] [] (S0 c) [(c2, AO.cell (some (scr xs))), (c1, .cell (some (.d (.list shapesL)))), (c0, .cell none)]) := by subst hW2; exact h
  have hb : W.b = W2.b := by subst hW2; rfl
  rw [hb]
  clear hW2 hb ok
  refine asgC_pe (a := .ref W2.A.t) (c := c0) (v := none) (ev_attr rfl (h.wd ok2).a1) rfl (h.inR (p := (c0, AO.cell none)) (by simp)) ?_
  have h := (h.perm (bE_move C W2 mode [] [] (S0 c) [(c2, AO.cell (some (scr xs))), (c1, .cell (some (.d (.list shapesL)))), (c0, .cell none)] [])).set 2 rfl (.cell (some (.ref W2.A.t)))
  generalize σ.set c0 (.cell (some (.ref W2.A.t))) = σ at h
  dsimp only [List.set_cons_succ, List.set_cons_zero, List.cons_append, List.nil_append] at h
  have h := h.perm (bE_move C W2 mode [] [] (S0 c) [(c2, AO.cell (some (scr xs))), (c1, .cell (some (.d (.list shapesL)))), (c0, .cell (some (.ref W2.A.t)))] []).symm
  refine asg_X (compM_is (a := .d (.list ks)) (items := ks.map .d) rfl (iter_list (by omega)) ?_)
  refine nodes_loop H (c0 := c0) (k1 := []) (by simp) hk hn (Lk0 c) h fun σ S l h => ?_
  rw [List.nil_append] at l
  refine ⟨nodesL ks.length, by rw [allD_map]; rfl, ?_⟩
  dsimp only [List.set_cons_succ, List.set_cons_zero]
  obtain ⟨n, hnn⟩ : ∃ n, ks.length = n + 1 := ⟨ks.length - 1, by omega⟩
  have er : ev I6 σ (.rng (.cons (.bin .Sub (.bi .len (.var 5)) (.k (.int 1))) (.cons (.k (.int 0)) (.cons (.neg (.k (.int 1))) .nil)))) [some dv, some (.d (.str mode)), none, some (.d (.list ks)), some (.ref W2.b), some (.d (.list (nodesL ks.length))), none, none, none, none, none, none] [c0, c1, c2] = some (.rng (n : Int) 0 (-1)) := by
    have el : lenA σ (.d (.list (nodesL ks.length))) = some (.int (ks.length : Int)) := by
      show (if ((nodesL ks.length).map AV.d).length ≤ 16777216 then some (PyData.int ((nodesL ks.length).map AV.d).length) else none) = _
      rw [List.length_map, nodesL_len, if_pos (by omega)]
    have e1 : ev I6 σ (.bi .len (.var 5)) [some dv, some (.d (.str mode)), none, some (.d (.list ks)), some (.ref W2.b), some (.d (.list (nodesL ks.length))), none, none, none, none, none, none] [c0, c1, c2] = some (.d (.int (ks.length : Int))) := by
      rw [eve_bi]
      show (some (AV.d (.list (nodesL ks.length)))).bind (fun x => (lenA σ x).map AV.d) = _
      rw [Option.bind_some, el]; rfl
    have e2 : ev I6 σ (.bin .Sub (.bi .len (.var 5)) (.k (.int 1))) [some dv, some (.d (.str mode)), none, some (.d (.list ks)), some (.ref W2.b), some (.d (.list (nodesL ks.length))), none, none, none, none, none, none] [c0, c1, c2] = some (.d (.int (n : Int))) := by
      refine ev_bin (x := .d (.int (ks.length : Int))) (y := .d (.int 1)) e1 rfl ?_
      show some (PyData.int ((ks.length : Int) - 1)) = _
      congr 2; omega
    rw [eve_rng, evs_cons, evs_cons, evs_cons, evs_nil, e2]; rfl
  refine for_step er (down_is (by omega)) ?_
  refine link_loop H (c0 := c0) (W := W2) (mode := mode) (S := S) (items := []) (errs := []) (ks := ks) rfl (by simp) hn (lo := fun x => [some dv, some (.d (.str mode)), x, some (.d (.list ks)), some (.ref W2.b), some (.d (.list (nodesL ks.length))), none, none, none, none, none, none]) (fun _ _ => rfl) (fun _ => rfl) (fun _ => rfl) (j := n) (d := 0) (by rw [hnn] at l; exact l) h fun σ S d2 x l h => ?_
  show wpS C 7 I6 (.exp (.mcall 439 394 (.cel 0) (.cons (.k (.int 0)) (.cons (.sub (.var 5) (.k (.int 0))) .nil))) _) _ _ σ _
  have g0 : σ c0 = some (.cell (some (.ref W2.A.t))) := h.inR (p := (c0, AO.cell (some (.ref W2.A.t)))) (by simp)
  have hin : instA σ 439 (.ref W2.A.t) = some [.ref W2.A.k, .ref W2.A.s, .ref W2.A.n, .ref W2.A.a, .ref W2.A.x, .ref W2.A.p, .ref W2.A.c, .ref W2.A.co] := instA_of (h.get 7 rfl) (h.get 8 rfl)
  refine call_step (mcall_is (v := .ref W2.A.t) (as := [.d (.int ((0 : Nat) : Int)), .d (.int ((0 + 1 : Nat) : Int))]) ?_ hin ?_ ((appB_T H (k := 0) l hn h fun σ S l h => ⟨rfl, ?_⟩).le (by decide)))
  · simp only [eve_var, eve_cel, eve_glob, eve_k, eve_bin, eve_neg, eve_notE, eve_and, eve_or, eve_ite, eve_cmp, eve_chain, eve_attr, eve_sub, eve_slc, eve_tup, eve_lst, eve_call, eve_mcall, eve_bi, eve_meth, eve_join, eve_rng, eve_comp, eve_hin, eve_hat, List.getElem?_cons_zero, g0]
  · have a2 : ev I6 σ (.sub (.var 5) (.k (.int 0))) [some dv, some (.d (.str mode)), x, some (.d (.list ks)), some (.ref W2.b), some (.d (.list (nodesL ks.length))), none, none, none, none, none, none] [c0, c1, c2] = some (.d (.int ((0 + 1 : Nat) : Int))) :=
      ev_sub (x := .d (.list (nodesL ks.length))) (y := .d (.int ((0 : Nat) : Int))) rfl rfl (at_list (by rw [nodesL_len]; omega) (by unfold nodesL; rw [List.getElem?_map, List.getElem?_range (by omega)]; rfl))
    rw [evs_cons, evs_cons, evs_nil, a2]; rfl
  have e : d2 + 1 = ks.length := by have := l.n; omega
  rw [e] at l
  subst hdv
  exact tail_T H (b := W2.b) (A := W2.A) (c0 := c0) (c1 := c1) (c2 := c2) hz hmode (l.done hk1) hk hn (by simp) (by simp) ⟨W2, [], [], rfl, rfl, ok2, h⟩ fun l σ' => ⟨σ', Fewer.refl _, rfl⟩
end
end Mine
end

section
set_option maxRecDepth 1000000
namespace Mine

/-! the top's run, over the library's tree of objects -/
noncomputable def topRunT (tb : String → Option Builtin) (p : Program) (w : World) (n₀ : Nat) (ann : Option Value) : Nat → SharedT → Thread → Option SharedT
  | 0, _, _ => none
  | n + 1, s, t => match through t with
    | true => some s
    | false => match stepOk n₀ ann t with
      | false => none
      | true => match stepT (denote tb) p w s t with
        | some (s', t') => topRunT tb p w n₀ ann n s' t'
        | none => none
theorem topRun_of {tb : String → Option Builtin} {p : Program} {w : World} {n₀ : Nat} {ann : Option Value} : ∀ {n : Nat} {s s' : SharedT} {t : Thread}, topRunT tb p w n₀ ann n s t = some s' → topRun tb p w n₀ ann n s.abs t = some s'.abs
  | 0, _, _, _, h => by cases h
  | n + 1, s, s', t, h => by
    unfold topRunT at h
    unfold topRun
    cases he : through t with
    | true => rw [he] at h; cases h; rfl
    | false =>
      rw [he] at h
      cases hk : stepOk n₀ ann t with
      | false => rw [hk] at h; cases h
      | true =>
        rw [hk] at h
        cases hs : stepT (denote tb) p w s t with
        | none => rw [hs] at h; cases h
        | some r => obtain ⟨s₂, t₂⟩ := r; rw [hs] at h; dsimp only at h ⊢; rw [stepT_spec hs]; exact topRun_of h
noncomputable def treeOf (l : List Obj) : BT := ((List.range l.length).zip l).foldl (fun t x => t.ins x.1 x.2) .nil
noncomputable def St0 (w : World) (os : OsState) : SharedT := ⟨treeOf (boot_heap w.params).objs.toList, (boot_heap w.params).objs.size, (boot_heap w.params).life, #[], boot_drawn, boot_toks, os⟩
theorem St0_abs (w : World) (os : OsState) : (St0 w os).abs = ⟨boot_heap w.params, Array.mk [], boot_drawn, boot_toks, os⟩ := by kernel_rfl
noncomputable def annA (w : World) : Option Value := (boot_heap w.params).nsMap mainGlobals "__annotations__"

/-! what is looked at behind the top -/
noncomputable def qv : Program := view pw [41]
noncomputable def looseL : List Str := pw.boundNames.filter fun x => x != ("law" : Str)
noncomputable def addrsK : List Addr := [mainGlobals, 217, 216, 322, 321, 439, 438, 517, 516, 341, 342, 351, 380, 458] ++ (fnsL.map (·.1)) ++ fnsL.map fun x => x.1 - 1
noncomputable def fragK (h : Heap) : Frag := addrsK.filterMap fun a => (h.get? a).map fun o => (a, o)
theorem frag_in {h : Heap} : ∀ {l : List Addr}, Frag.In (l.filterMap fun a => (h.get? a).map fun o => (a, o)) h
  | [], a, o, e => by cases e
  | b :: l, a, o, e => by
    cases hb : h.get? b with
    | none => simp only [List.filterMap_cons, hb, Option.map_none] at e; exact frag_in (l := l) a o e
    | some ob =>
      simp only [List.filterMap_cons, hb, Option.map_some, List.lookup_cons] at e
      split at e
      · rename_i q; cases e; rw [beq_iff_eq] at q; rw [q]; exact hb
      · exact frag_in (l := l) a o e
noncomputable def fragT (s : SharedT) : Frag := addrsK.filterMap fun a => match Nat.blt a s.n with
  | true => (alive ((s.tree.get a).getD default)).map fun o => (a, o)
  | false => none
theorem frag_abs (s : SharedT) : fragK s.abs.heap = fragT s := by
  unfold fragK fragT
  refine congrArg (fun f => addrsK.filterMap f) (funext fun a => ?_)
  cases e : Nat.blt a s.n with
  | false => rw [show s.abs.heap.get? a = none from abs_get_none (fun h => by rw [Nat.blt_eq.mpr h] at e; cases e)]; rfl
  | true =>
    have : s.abs.heap.get? a = alive ((s.tree.get a).getD default) := by
      show (absHeap s.tree s.n s.life).get? a = _
      unfold Heap.get?
      rw [absHeap_at, if_pos (Nat.blt_eq.mp e)]
      obtain ⟨c, d, dt, sl⟩ := (s.tree.get a).getD default
      cases dt <;> rfl
    rw [this]
noncomputable abbrev FnV := FuncBody × Scope × Arguments × Addr × List (Str × Addr) × Addr × Value × Value × Bool
noncomputable def fnView (K : Frag) (f : Addr) : Option FnV := match K.lookup f with
  | some ⟨_, _, .func fd, _⟩ => some (fd.body, fd.scope, fd.params, fd.globals, fd.closure, fd.builtins, fd.defaults, fd.kwdefaults, codeIn K fd.code fd.qualname)
  | _ => none
noncomputable def dfltOf : Addr → Value
  | 349 => .ref 342
  | 358 => .ref 351
  | 387 => .ref 380
  | 465 => .ref 458
  | _ => .none
noncomputable def tupView (K : Frag) (a : Addr) : Option (Value × List Value) := match K.lookup a with
  | some ⟨c, _, .seq xs _, _⟩ => some (c, xs.toList)
  | _ => none
noncomputable def chkK (K : Frag) : Bool :=
  (tb.globs.all fun p => nsIn K mainGlobals p.1 == some (some (.ref p.2)) && keepIn K (.ref p.2)) &&
  ((["len", "list", "tuple", "max", "chr", "ord", "range"] : List Str).all fun x => nsIn K mainGlobals x == some none) &&
  (tb.meths.all fun p => methIn K p.1.1 p.1.2 p.2) &&
  (([(217, 151), (322, 235), (439, 340), (517, 465)] : List (Addr × Addr)).all fun p => clsOk K p.1 && makesIn K p.1 && findIn K (.ref p.1) "__init__" == some (some (.ref p.2)) && typeIn K (.ref p.2) == some (.type "function")) &&
  keepIn K (.ref 550)
noncomputable abbrev ObsK := Bool × List (Option FnV) × List (Option (Value × List Value))
noncomputable def obsF (K : Frag) : ObsK := (chkK K, fnsL.map (fun x => fnView K x.1), [342, 341, 351, 380, 458].map (tupView K))
noncomputable def valK : ObsK := (true, fnsL.map (fun x => some (.stmts x.2.1.body, x.2.1.scope, x.2.1.args, mainGlobals, [], builtinsNs, dfltOf x.1, .none, true)),
  [some (.type "tuple", [.str (q []) 606, .str (q []) 607, .ref 341, .str (q []) 608]), some (.type "tuple", []), some (.type "tuple", [.str (q [104, 116, 109, 108]) 621, .ref 350]), some (.type "tuple", [.int (-1) 660]), some (.type "tuple", [.bool false])])
end Mine
end

section
set_option maxRecDepth 100000
namespace Mine
/-! the heap of the top's run between two statements (printed by mid.py) -/
noncomputable def sV (s : String) (t : Nat) : Value := .str (Str.ofString s) t
noncomputable def iV (i : Int) : Value := .int i 0
noncomputable def tupO (vs : List Value) : Obj := { cls := .type "tuple", data := .seq vs.toArray }
noncomputable def fldO (c : Value) (vs : List Value) : Obj := { cls := c, data := .fields vs.toArray }
noncomputable def dE (P : Params) (s : String) (t : Nat) (v : Value) : DictEntry := { hash := PyData.keyHash P (Str.ofString s), key := sV s t, val := v }
noncomputable def dctO (c : Value) (es : List DictEntry) (n : Nat) : Obj := { cls := c, data := .dict es.toArray n }
noncomputable abbrev FD3 := Arguments × FuncBody × Scope
noncomputable def fdAt : Option Stmt → FD3
  | some (.FunctionDef _ a b _ _ _ sc _ _ _) => (a, .stmts b, sc)
  | _ => (default, default, default)
noncomputable def topF (i : Nat) : FD3 := fdAt pw.main.body[i]?
noncomputable def inF (i j : Nat) : FD3 := match pw.main.body[i]? with
  | some (.ClassDef _ _ _ b _ _ _ _ _ _ _) => fdAt b[j]?
  | _ => fdAt none
noncomputable def fnO (c : Value) (nm qn : String) (f : FD3) (g : Nat) (d md cd : Value) (b : Nat) : Obj :=
  { cls := c, data := .func { name := Str.ofString nm, qualname := Str.ofString qn, params := f.1, body := f.2.1, scope := f.2.2, globals := g, closure := [], defaults := d, kwdefaults := .none, pyModule := md, code := cd, builtins := b } }
noncomputable def strsV : List String → Nat → List Value
  | [], _ => []
  | s :: r, t => sV s t :: strsV r (t + 1)
noncomputable def fnB (a : Nat) (nm qn : String) (f : FD3) (t : Nat) (line argc flags : Int) (vars : List String) (d md : Value) : List Obj :=
  [tupO [], fldO .none [], tupO (strsV vars (t + 3)), tupO [], fnO .none nm qn f 0 .none .none .none 0,
    fldO (.type "code") [sV nm t, sV qn (t + 1), sV "/claim/cut.py" (t + 2), iV line, iV argc, iV 0, iV 0, iV flags, .ref a, .bool true, iV 181, .ref (a + 1), .none, .ref (a + 2), .ref (a + 3), .ref (a + 4),
      iV (t + 3 + vars.length : Nat), iV line, sV "/claim/cut.py" (t + 3 + vars.length + 1)],
    fnO (.type "function") nm qn f 3 d md (.ref (a + 5)) 0]
noncomputable def midNA : Nat := 222
noncomputable def midKA : Nat := 23
noncomputable def midToksA : Nat := 459
noncomputable def midN : Nat := 444
noncomputable def midK : Nat := 27
noncomputable def midToks : Nat := 749
noncomputable def posA : Pos := ⟨93,0,127,16⟩
noncomputable def posB : Pos := ⟨181,0,261,17⟩
noncomputable def midS0 (P : Params) : List (List Obj) := [
  [boot_o_0 P,
    boot_o_1 P,
    dctO .none [dE P "type.__subclasses__.Exception.0" 335 (iV 122), dE P "type.__subclasses__.Exception.n" 336 (iV 1)] 2]]
noncomputable def midA1 (P : Params) : List (List Obj) := [
  [dctO (.type "dict") [dE P "__name__" 165 (sV "htmltree.formatting" 355), dE P "__doc__" 166 .none, dE P "__package__" 167 .none, dE P "__loader__" 168 (.builtin "__main__.__loader__#opaque"), dE P "__spec__" 169 .none, dE P "__annotations__" 170 (.ref 6), dE P "__builtins__" 171 (.ref 4), dE P "__file__" 173 (sV "/claim/cut.py" 172), dE P "__cached__" 174 .none, dE P "_wall" 193 (.ref 21), dE P "is_breakout_name" 203 (.ref 28), dE P "is_upper" 212 (.ref 35), dE P "lower" 219 (.ref 42), dE P "lower_text" 228 (.ref 49), dE P "is_math_point" 238 (.ref 56), dE P "is_html_point" 247 (.ref 63), dE P "value_of" 258 (.ref 70), dE P "is_breakout" 269 (.ref 77), dE P "holds_html" 277 (.ref 84), dE P "break_out" 286 (.ref 91), dE P "foreign_end" 298 (.ref 98), dE P "is_script_end" 307 (.ref 105), dE P "HtmlFault" 338 (.ref 122), dE P "Misused" 354 (.ref 135), dE P "Formatting" 458 (.ref 217)] 25]]
noncomputable def midB1 (P : Params) : List (List Obj) := [
  [dctO (.type "dict") [dE P "__name__" 165 (sV "htmltree.tree" 585), dE P "__doc__" 166 .none, dE P "__package__" 167 .none, dE P "__loader__" 168 (.builtin "__main__.__loader__#opaque"), dE P "__spec__" 169 .none, dE P "__annotations__" 170 (.ref 6), dE P "__builtins__" 171 (.ref 4), dE P "__file__" 173 (sV "/claim/cut.py" 172), dE P "__cached__" 174 .none, dE P "_wall" 193 (.ref 21), dE P "is_breakout_name" 203 (.ref 28), dE P "is_upper" 212 (.ref 35), dE P "lower" 219 (.ref 42), dE P "lower_text" 228 (.ref 49), dE P "is_math_point" 238 (.ref 56), dE P "is_html_point" 247 (.ref 63), dE P "value_of" 258 (.ref 70), dE P "is_breakout" 269 (.ref 77), dE P "holds_html" 277 (.ref 84), dE P "break_out" 286 (.ref 91), dE P "foreign_end" 298 (.ref 98), dE P "is_script_end" 307 (.ref 105), dE P "HtmlFault" 338 (.ref 122), dE P "Misused" 354 (.ref 135), dE P "Formatting" 458 (.ref 217), dE P "OpenStack" 584 (.ref 322), dE P "Tree" 748 (.ref 439)] 27]]
noncomputable def midS2 (P : Params) : List (List Obj) := [
  [boot_o_4 P,
    boot_o_5 P,
    boot_o_6 P,
    boot_o_7 P,
    boot_o_8 P,
    boot_o_9 P,
    boot_o_10 P,
    tupO []]]
noncomputable def midA3 (P : Params) : List (List Obj) := [
  [fldO .none [iV 1, iV 0, .ref 20, iV 5, iV 0, .ref 27, iV 10, iV 0, .ref 34, iV 12, iV 0, .ref 41, iV 16, iV 0, .ref 48, iV 22, iV 0, .ref 55, iV 24, iV 0, .ref 62, iV 32, iV 0, .ref 69, iV 38, iV 0, .ref 76, iV 48, iV 0, .ref 83, iV 52, iV 0, .ref 90, iV 61, iV 0, .ref 97, iV 77, iV 0, .ref 104, iV 85, iV 0, .ref 111, iV 90, iV 0, .ref 131, iV 93, iV 0, .ref 143]]]
noncomputable def midB3 (P : Params) : List (List Obj) := [
  [fldO .none [iV 1, iV 0, .ref 20, iV 5, iV 0, .ref 27, iV 10, iV 0, .ref 34, iV 12, iV 0, .ref 41, iV 16, iV 0, .ref 48, iV 22, iV 0, .ref 55, iV 24, iV 0, .ref 62, iV 32, iV 0, .ref 69, iV 38, iV 0, .ref 76, iV 48, iV 0, .ref 83, iV 52, iV 0, .ref 90, iV 61, iV 0, .ref 97, iV 77, iV 0, .ref 104, iV 85, iV 0, .ref 111, iV 90, iV 0, .ref 131, iV 93, iV 0, .ref 143, iV 129, iV 0, .ref 227, iV 181, iV 0, .ref 332]]]
noncomputable def midS4 (P : Params) : List (List Obj) := [
  [fldO (.type "code") [sV "<module>" 182, sV "<module>" 183, sV "/claim/cut.py" 184, iV 1, iV 0, iV 0, iV 0, iV 0, .ref 11, .bool false, iV 181, .ref 12, .none, .none, .none, .none, iV 185, iV 1, sV "/claim/cut.py" 186],
    { cls := .type "frame", dict := none, slots := #[some (.ref 13), some (.ref 3), some (.ref 3), .none, some (sV "__main__" 164), .none, some (.ref 0)] }],
  fnB 15 "_wall" "_wall" (topF 0) 187 1 1 3 ["k"] .none (sV "__main__" 164),
  fnB 22 "is_breakout_name" "is_breakout_name" (topF 2) 196 5 1 3 ["name", "words"] .none (sV "htmltree.foreignnames" 194),
  fnB 29 "is_upper" "is_upper" (topF 4) 206 10 1 3 ["c"] .none (sV "htmltree.signs" 204),
  fnB 36 "lower" "lower" (topF 5) 213 12 1 3 ["c"] .none (sV "htmltree.signs" 204),
  fnB 43 "lower_text" "lower_text" (topF 6) 220 16 1 3 ["text", "out", "c"] .none (sV "htmltree.signs" 204),
  fnB 50 "is_math_point" "is_math_point" (topF 8) 231 22 2 3 ["tree", "node"] .none (sV "htmltree.names" 229),
  fnB 57 "is_html_point" "is_html_point" (topF 9) 239 24 2 3 ["tree", "node", "encoding"] .none (sV "htmltree.names" 229),
  fnB 64 "value_of" "value_of" (topF 11) 250 32 2 3 ["token", "name", "pair"] .none (sV "htmltree.tokens" 248),
  fnB 71 "is_breakout" "is_breakout" (topF 13) 261 38 1 3 ["token", "name", "attr"] .none (sV "htmltree.foreign" 259),
  fnB 78 "holds_html" "holds_html" (topF 14) 270 48 2 3 ["tree", "node"] .none (sV "htmltree.foreign" 259)]
noncomputable def midS5 (P : Params) : List (List Obj) := [
  fnB 85 "break_out" "break_out" (topF 15) 278 52 2 3 ["builder", "token", "stack"] .none (sV "htmltree.foreign" 259),
  fnB 92 "foreign_end" "foreign_end" (topF 16) 287 61 2 3 ["builder", "token", "tree", "stack", "place", "name"] .none (sV "htmltree.foreign" 259),
  fnB 99 "is_script_end" "is_script_end" (topF 17) 299 77 2 3 ["builder", "token", "node"] .none (sV "htmltree.foreign" 259),
  [tupO [.type "Exception"],
    fldO (.type "builtin_function_or_method") [.builtin "type.__prepare__", .type "type"],
    dctO (.type "dict") [dE P "__module__" 317 (sV "htmltree.faults" 308), dE P "__qualname__" 319 (sV "HtmlFault" 318), dE P "__firstlineno__" 321 (.int 85 320), dE P "__init__" 329 (.ref 119), dE P "__static_attributes__" 331 (.ref 120)] 5,
    tupO [],
    fldO .none [iV 87, iV 4, .ref 118],
    fldO (.type "code") [sV "HtmlFault" 312, sV "HtmlFault" 313, sV "/claim/cut.py" 314, iV 85, iV 0, iV 0, iV 0, iV 0, .ref 109, .bool false, iV 181, .ref 110, .none, .none, .none, .none, iV 315, iV 85, sV "/claim/cut.py" 316],
    { cls := .type "frame", dict := none, slots := #[some (.ref 111), some (.ref 3), some (.ref 108), .none, some (sV "htmltree.faults" 308), .none, some (.ref 0)] }],
  fnB 113 "__init__" "HtmlFault.__init__" (inF 19 0) 322 87 2 3 ["self", "why"] .none (sV "htmltree.faults" 308),
  [tupO [sV "why" 330]]]
noncomputable def midS6 (P : Params) : List (List Obj) := [
  [dctO (.type "dict") [dE P "__module__" 317 (sV "htmltree.faults" 308), dE P "__firstlineno__" 321 (.int 85 320), dE P "__init__" 329 (.ref 119), dE P "__static_attributes__" 331 (.ref 120), dE P "__weakref__" 333 (.ref 123), dE P "__doc__" 334 .none] 3,
    { cls := .type "type", data := .cls { name := Str.ofString "HtmlFault", bases := [.type "Exception"], mro := [.ref 122, .type "Exception", .type "BaseException", .type "object"], ns := 121, qualname := Str.ofString "HtmlFault", subclasses := [.ref 135] }, slots := #[some (.ref 106), .none, some (sV "HtmlFault" 310), some (sV "HtmlFault" 318), some (.builtin "Exception.__new__"), some (.bool true)] },
    fldO (.type "getset_descriptor") [sV "__weakref__" 332, .ref 122, .builtin "ExceptionGroup.__weakref__", .none],
    fldO (.type "super") [.ref 122, .ref 122, .ref 122],
    fldO (.type "builtin_function_or_method") [.builtin "object.__init_subclass__", .ref 122],
    tupO [.ref 122],
    fldO (.type "builtin_function_or_method") [.builtin "type.__prepare__", .type "type"],
    dctO (.type "dict") [dE P "__module__" 346 (sV "htmltree.faults" 308), dE P "__qualname__" 348 (sV "Misused" 347), dE P "__firstlineno__" 350 (.int 90 349), dE P "__static_attributes__" 351 (.ref 133)] 4,
    tupO [],
    fldO .none [],
    fldO (.type "code") [sV "Misused" 341, sV "Misused" 342, sV "/claim/cut.py" 343, iV 90, iV 0, iV 0, iV 0, iV 0, .ref 129, .bool false, iV 181, .ref 130, .none, .none, .none, .none, iV 344, iV 90, sV "/claim/cut.py" 345],
    { cls := .type "frame", dict := none, slots := #[some (.ref 131), some (.ref 3), some (.ref 128), .none, some (sV "htmltree.faults" 308), .none, some (.ref 0)] }]]
noncomputable def midS7 (P : Params) : List (List Obj) := [
  [tupO [],
    dctO (.type "dict") [dE P "__module__" 346 (sV "htmltree.faults" 308), dE P "__firstlineno__" 350 (.int 90 349), dE P "__static_attributes__" 351 (.ref 133), dE P "__doc__" 352 .none] 2,
    { cls := .type "type", data := .cls { name := Str.ofString "Misused", bases := [.ref 122], mro := [.ref 135, .ref 122, .type "Exception", .type "BaseException", .type "object"], ns := 134, qualname := Str.ofString "Misused", subclasses := [] }, slots := #[some (.ref 126), .none, some (sV "Misused" 339), some (sV "Misused" 347), some (.builtin "Exception.__new__"), some (.bool true)] },
    fldO (.type "super") [.ref 135, .ref 135, .ref 135],
    fldO (.type "builtin_function_or_method") [.builtin "object.__init_subclass__", .ref 135],
    tupO [],
    fldO (.type "builtin_function_or_method") [.builtin "type.__prepare__", .type "type"],
    dctO (.type "dict") [dE P "__module__" 364 (sV "htmltree.formatting" 355), dE P "__qualname__" 366 (sV "Formatting" 365), dE P "__firstlineno__" 368 (.int 93 367), dE P "__init__" 376 (.ref 151), dE P "push" 384 (.ref 158), dE P "mark" 391 (.ref 165), dE P "clear_to_mark" 398 (.ref 172), dE P "find" 406 (.ref 179), dE P "has" 414 (.ref 186), dE P "place" 422 (.ref 193), dE P "remove" 430 (.ref 200), dE P "replace" 439 (.ref 207), dE P "put_at" 448 (.ref 214), dE P "__static_attributes__" 451 (.ref 215)] 14,
    tupO [],
    fldO .none [iV 95, iV 4, .ref 150, iV 99, iV 4, .ref 157, iV 102, iV 4, .ref 164, iV 105, iV 4, .ref 171, iV 108, iV 4, .ref 178, iV 111, iV 4, .ref 185, iV 114, iV 4, .ref 192, iV 119, iV 4, .ref 199, iV 123, iV 4, .ref 206, iV 126, iV 4, .ref 213],
    fldO (.type "code") [sV "Formatting" 359, sV "Formatting" 360, sV "/claim/cut.py" 361, iV 93, iV 0, iV 0, iV 0, iV 0, .ref 141, .bool false, iV 181, .ref 142, .none, .none, .none, .none, iV 362, iV 93, sV "/claim/cut.py" 363],
    { cls := .type "frame", dict := none, slots := #[some (.ref 143), some (.ref 3), some (.ref 140), .none, some (sV "htmltree.formatting" 355), .none, some (.ref 0)] }]]
noncomputable def midS8 (P : Params) : List (List Obj) := [
  fnB 145 "__init__" "Formatting.__init__" (inF 22 0) 369 95 2 3 ["self", "tree"] .none (sV "htmltree.formatting" 355),
  fnB 152 "push" "Formatting.push" (inF 22 1) 377 99 2 3 ["self", "node"] .none (sV "htmltree.formatting" 355),
  fnB 159 "mark" "Formatting.mark" (inF 22 2) 385 102 1 3 ["self"] .none (sV "htmltree.formatting" 355),
  fnB 166 "clear_to_mark" "Formatting.clear_to_mark" (inF 22 3) 392 105 1 3 ["self"] .none (sV "htmltree.formatting" 355),
  fnB 173 "find" "Formatting.find" (inF 22 4) 399 108 2 3 ["self", "name"] .none (sV "htmltree.formatting" 355),
  fnB 180 "has" "Formatting.has" (inF 22 5) 407 111 2 3 ["self", "node"] .none (sV "htmltree.formatting" 355),
  fnB 187 "place" "Formatting.place" (inF 22 6) 415 114 2 3 ["self", "node"] .none (sV "htmltree.formatting" 355),
  fnB 194 "remove" "Formatting.remove" (inF 22 7) 423 119 2 3 ["self", "node"] .none (sV "htmltree.formatting" 355),
  fnB 201 "replace" "Formatting.replace" (inF 22 8) 431 123 3 3 ["self", "old", "new"] .none (sV "htmltree.formatting" 355),
  fnB 208 "put_at" "Formatting.put_at" (inF 22 9) 440 126 3 3 ["self", "place", "node"] .none (sV "htmltree.formatting" 355),
  [tupO [sV "items" 449, sV "tree" 450],
    dctO (.type "dict") [dE P "__module__" 364 (sV "htmltree.formatting" 355), dE P "__firstlineno__" 368 (.int 93 367), dE P "__init__" 376 (.ref 151), dE P "push" 384 (.ref 158), dE P "mark" 391 (.ref 165), dE P "clear_to_mark" 398 (.ref 172), dE P "find" 406 (.ref 179), dE P "has" 414 (.ref 186), dE P "place" 422 (.ref 193), dE P "remove" 430 (.ref 200), dE P "replace" 439 (.ref 207), dE P "put_at" 448 (.ref 214), dE P "__static_attributes__" 451 (.ref 215), dE P "__dict__" 453 (.ref 218), dE P "__weakref__" 455 (.ref 219), dE P "__doc__" 456 .none] 4]]
noncomputable def midS9 (P : Params) : List (List Obj) := [
  [{ cls := .type "type", data := .cls { name := Str.ofString "Formatting", bases := [.type "object"], mro := [.ref 217, .type "object"], ns := 216, qualname := Str.ofString "Formatting", subclasses := [] }, slots := #[.none, .none, some (sV "Formatting" 357), some (sV "Formatting" 365), some (.builtin "object.__new__"), some (.bool true)] },
    fldO (.type "getset_descriptor") [sV "__dict__" 452, .ref 217, .builtin "function.__dict__", .builtin "function.__dict__#set"],
    fldO (.type "getset_descriptor") [sV "__weakref__" 454, .ref 217, .builtin "ExceptionGroup.__weakref__", .none],
    fldO (.type "super") [.ref 217, .ref 217, .ref 217],
    fldO (.type "builtin_function_or_method") [.builtin "object.__init_subclass__", .ref 217]]]
noncomputable def midB10 (P : Params) : List (List Obj) := [
  [tupO [],
    fldO (.type "builtin_function_or_method") [.builtin "type.__prepare__", .type "type"],
    dctO (.type "dict") [dE P "__module__" 468 (sV "htmltree.openstack" 459), dE P "__qualname__" 470 (sV "OpenStack" 469), dE P "__firstlineno__" 472 (.int 129 471), dE P "__init__" 480 (.ref 235), dE P "push" 488 (.ref 242), dE P "pop" 495 (.ref 249), dE P "current" 502 (.ref 256), dE P "many" 509 (.ref 263), dE P "has" 517 (.ref 270), dE P "remove" 525 (.ref 277), dE P "place" 533 (.ref 284), dE P "put_at" 542 (.ref 291), dE P "name" 550 (.ref 298), dE P "has_name" 558 (.ref 305), dE P "pop_until" 566 (.ref 312), dE P "pop_to" 574 (.ref 319), dE P "__static_attributes__" 577 (.ref 320)] 17,
    tupO [],
    fldO .none [iV 131, iV 4, .ref 234, iV 135, iV 4, .ref 241, iV 138, iV 4, .ref 248, iV 143, iV 4, .ref 255, iV 148, iV 4, .ref 262, iV 151, iV 4, .ref 269, iV 154, iV 4, .ref 276, iV 158, iV 4, .ref 283, iV 163, iV 4, .ref 290, iV 166, iV 4, .ref 297, iV 172, iV 4, .ref 304, iV 175, iV 4, .ref 311, iV 178, iV 4, .ref 318],
    fldO (.type "code") [sV "OpenStack" 463, sV "OpenStack" 464, sV "/claim/cut.py" 465, iV 129, iV 0, iV 0, iV 0, iV 0, .ref 225, .bool false, iV 181, .ref 226, .none, .none, .none, .none, iV 466, iV 129, sV "/claim/cut.py" 467],
    { cls := .type "frame", dict := none, slots := #[some (.ref 227), some (.ref 3), some (.ref 224), .none, some (sV "htmltree.openstack" 459), .none, some (.ref 0)] }],
  fnB 229 "__init__" "OpenStack.__init__" (inF 24 0) 473 131 2 3 ["self", "tree"] .none (sV "htmltree.openstack" 459),
  fnB 236 "push" "OpenStack.push" (inF 24 1) 481 135 2 3 ["self", "node"] .none (sV "htmltree.openstack" 459),
  fnB 243 "pop" "OpenStack.pop" (inF 24 2) 489 138 1 3 ["self"] .none (sV "htmltree.openstack" 459),
  fnB 250 "current" "OpenStack.current" (inF 24 3) 496 143 1 3 ["self"] .none (sV "htmltree.openstack" 459),
  fnB 257 "many" "OpenStack.many" (inF 24 4) 503 148 1 3 ["self"] .none (sV "htmltree.openstack" 459)]
noncomputable def midB11 (P : Params) : List (List Obj) := [
  fnB 264 "has" "OpenStack.has" (inF 24 5) 510 151 2 3 ["self", "node"] .none (sV "htmltree.openstack" 459),
  fnB 271 "remove" "OpenStack.remove" (inF 24 6) 518 154 2 3 ["self", "node"] .none (sV "htmltree.openstack" 459),
  fnB 278 "place" "OpenStack.place" (inF 24 7) 526 158 2 3 ["self", "node"] .none (sV "htmltree.openstack" 459),
  fnB 285 "put_at" "OpenStack.put_at" (inF 24 8) 534 163 3 3 ["self", "place", "node"] .none (sV "htmltree.openstack" 459),
  fnB 292 "name" "OpenStack.name" (inF 24 9) 543 166 1 3 ["self", "node"] .none (sV "htmltree.openstack" 459),
  fnB 299 "has_name" "OpenStack.has_name" (inF 24 10) 551 172 2 3 ["self", "name"] .none (sV "htmltree.openstack" 459),
  fnB 306 "pop_until" "OpenStack.pop_until" (inF 24 11) 559 175 2 3 ["self", "names"] .none (sV "htmltree.openstack" 459),
  fnB 313 "pop_to" "OpenStack.pop_to" (inF 24 12) 567 178 2 3 ["self", "names"] .none (sV "htmltree.openstack" 459),
  [tupO [sV "items" 575, sV "tree" 576],
    dctO (.type "dict") [dE P "__module__" 468 (sV "htmltree.openstack" 459), dE P "__firstlineno__" 472 (.int 129 471), dE P "__init__" 480 (.ref 235), dE P "push" 488 (.ref 242), dE P "pop" 495 (.ref 249), dE P "current" 502 (.ref 256), dE P "many" 509 (.ref 263), dE P "has" 517 (.ref 270), dE P "remove" 525 (.ref 277), dE P "place" 533 (.ref 284), dE P "put_at" 542 (.ref 291), dE P "name" 550 (.ref 298), dE P "has_name" 558 (.ref 305), dE P "pop_until" 566 (.ref 312), dE P "pop_to" 574 (.ref 319), dE P "__static_attributes__" 577 (.ref 320), dE P "__dict__" 579 (.ref 323), dE P "__weakref__" 581 (.ref 324), dE P "__doc__" 582 .none] 4,
    { cls := .type "type", data := .cls { name := Str.ofString "OpenStack", bases := [.type "object"], mro := [.ref 322, .type "object"], ns := 321, qualname := Str.ofString "OpenStack", subclasses := [] }, slots := #[.none, .none, some (sV "OpenStack" 461), some (sV "OpenStack" 469), some (.builtin "object.__new__"), some (.bool true)] },
    fldO (.type "getset_descriptor") [sV "__dict__" 578, .ref 322, .builtin "function.__dict__", .builtin "function.__dict__#set"]]]
noncomputable def midB12 (P : Params) : List (List Obj) := [
  [fldO (.type "getset_descriptor") [sV "__weakref__" 580, .ref 322, .builtin "ExceptionGroup.__weakref__", .none],
    fldO (.type "super") [.ref 322, .ref 322, .ref 322],
    fldO (.type "builtin_function_or_method") [.builtin "object.__init_subclass__", .ref 322],
    tupO [],
    fldO (.type "builtin_function_or_method") [.builtin "type.__prepare__", .type "type"],
    dctO (.type "dict") [dE P "__module__" 594 (sV "htmltree.tree" 585), dE P "__qualname__" 596 (sV "Tree" 595), dE P "__firstlineno__" 598 (.int 181 597), dE P "__init__" 605 (.ref 340), dE P "add" 620 (.ref 349), dE P "element" 632 (.ref 358), dE P "text" 640 (.ref 365), dE P "comment" 648 (.ref 372), dE P "doctype" 658 (.ref 379), dE P "insert" 671 (.ref 387), dE P "append" 680 (.ref 394), dE P "remove" 688 (.ref 401), dE P "move_children" 697 (.ref 408), dE P "place" 705 (.ref 415), dE P "last" 713 (.ref 422), dE P "value" 723 (.ref 429), dE P "is_html" 732 (.ref 436), dE P "__static_attributes__" 741 (.ref 437)] 18,
    tupO [],
    fldO .none [iV 183, iV 4, .ref 339, iV 194, iV 4, .ref 348, iV 204, iV 4, .ref 357, iV 210, iV 4, .ref 364, iV 213, iV 4, .ref 371, iV 216, iV 4, .ref 378, iV 219, iV 4, .ref 386, iV 233, iV 4, .ref 393, iV 236, iV 4, .ref 400, iV 241, iV 4, .ref 407, iV 244, iV 4, .ref 414, iV 249, iV 4, .ref 421, iV 254, iV 4, .ref 428, iV 260, iV 4, .ref 435],
    fldO (.type "code") [sV "Tree" 589, sV "Tree" 590, sV "/claim/cut.py" 591, iV 181, iV 0, iV 0, iV 0, iV 0, .ref 330, .bool false, iV 181, .ref 331, .none, .none, .none, .none, iV 592, iV 181, sV "/claim/cut.py" 593],
    { cls := .type "frame", dict := none, slots := #[some (.ref 332), some (.ref 3), some (.ref 329), .none, some (sV "htmltree.tree" 585), .none, some (.ref 0)] }],
  fnB 334 "__init__" "Tree.__init__" (inF 26 0) 599 183 1 3 ["self"] .none (sV "htmltree.tree" 585),
  [tupO []]]
noncomputable def midB13 (P : Params) : List (List Obj) := [
  [tupO [sV "" 606, sV "" 607, .ref 341, sV "" 608]],
  fnB 343 "add" "Tree.add" (inF 26 1) 609 194 6 3 ["self", "kind", "space", "name", "attrs", "text"] (.ref 342) (sV "htmltree.tree" 585),
  [tupO [],
    tupO [sV "html" 621, .ref 350]],
  fnB 352 "element" "Tree.element" (inF 26 2) 622 204 4 3 ["self", "name", "space", "attrs", "node"] (.ref 351) (sV "htmltree.tree" 585),
  fnB 359 "text" "Tree.text" (inF 26 3) 633 210 2 3 ["self", "text"] .none (sV "htmltree.tree" 585),
  fnB 366 "comment" "Tree.comment" (inF 26 4) 641 213 2 3 ["self", "text"] .none (sV "htmltree.tree" 585),
  fnB 373 "doctype" "Tree.doctype" (inF 26 5) 649 216 4 3 ["self", "name", "public", "system"] .none (sV "htmltree.tree" 585),
  [tupO [.int (-1) 660]],
  fnB 381 "insert" "Tree.insert" (inF 26 6) 661 219 4 3 ["self", "parent", "node", "before", "at"] (.ref 380) (sV "htmltree.tree" 585),
  fnB 388 "append" "Tree.append" (inF 26 7) 672 233 3 3 ["self", "parent", "node"] .none (sV "htmltree.tree" 585),
  fnB 395 "remove" "Tree.remove" (inF 26 8) 681 236 2 3 ["self", "node"] .none (sV "htmltree.tree" 585)]
noncomputable def midB14 (P : Params) : List (List Obj) := [
  fnB 402 "move_children" "Tree.move_children" (inF 26 9) 689 241 3 3 ["self", "here", "there"] .none (sV "htmltree.tree" 585),
  fnB 409 "place" "Tree.place" (inF 26 10) 698 244 2 3 ["self", "node"] .none (sV "htmltree.tree" 585),
  fnB 416 "last" "Tree.last" (inF 26 11) 706 249 2 3 ["self", "parent"] .none (sV "htmltree.tree" 585),
  fnB 423 "value" "Tree.value" (inF 26 12) 714 254 3 3 ["self", "node", "name", "pair"] .none (sV "htmltree.tree" 585),
  fnB 430 "is_html" "Tree.is_html" (inF 26 13) 724 260 3 3 ["self", "node", "name"] .none (sV "htmltree.tree" 585),
  [tupO [sV "attrs" 733, sV "children" 734, sV "contents" 735, sV "kinds" 736, sV "names" 737, sV "parents" 738, sV "spaces" 739, sV "texts" 740],
    dctO (.type "dict") [dE P "__module__" 594 (sV "htmltree.tree" 585), dE P "__firstlineno__" 598 (.int 181 597), dE P "__init__" 605 (.ref 340), dE P "add" 620 (.ref 349), dE P "element" 632 (.ref 358), dE P "text" 640 (.ref 365), dE P "comment" 648 (.ref 372), dE P "doctype" 658 (.ref 379), dE P "insert" 671 (.ref 387), dE P "append" 680 (.ref 394), dE P "remove" 688 (.ref 401), dE P "move_children" 697 (.ref 408), dE P "place" 705 (.ref 415), dE P "last" 713 (.ref 422), dE P "value" 723 (.ref 429), dE P "is_html" 732 (.ref 436), dE P "__static_attributes__" 741 (.ref 437), dE P "__dict__" 743 (.ref 440), dE P "__weakref__" 745 (.ref 441), dE P "__doc__" 746 .none] 4,
    { cls := .type "type", data := .cls { name := Str.ofString "Tree", bases := [.type "object"], mro := [.ref 439, .type "object"], ns := 438, qualname := Str.ofString "Tree", subclasses := [] }, slots := #[.none, .none, some (sV "Tree" 587), some (sV "Tree" 595), some (.builtin "object.__new__"), some (.bool true)] },
    fldO (.type "getset_descriptor") [sV "__dict__" 742, .ref 439, .builtin "function.__dict__", .builtin "function.__dict__#set"],
    fldO (.type "getset_descriptor") [sV "__weakref__" 744, .ref 439, .builtin "ExceptionGroup.__weakref__", .none],
    fldO (.type "super") [.ref 439, .ref 439, .ref 439],
    fldO (.type "builtin_function_or_method") [.builtin "object.__init_subclass__", .ref 439]]]
noncomputable def midLA (P : Params) : List Obj := (midS0 P ++ midA1 P ++ midS2 P ++ midA3 P ++ midS4 P ++ midS5 P ++ midS6 P ++ midS7 P ++ midS8 P ++ midS9 P).flatten
noncomputable def midL (P : Params) : List Obj := (midS0 P ++ midB1 P ++ midS2 P ++ midB3 P ++ midS4 P ++ midS5 P ++ midS6 P ++ midS7 P ++ midS8 P ++ midS9 P ++ midB10 P ++ midB11 P ++ midB12 P ++ midB13 P ++ midB14 P).flatten
end Mine
end

section
set_option maxRecDepth 1000000
set_option maxHeartbeats 0
namespace Mine
noncomputable def envT : Env := { scope := pw.main.scope, locals := mainNs, globals := mainNs, cells := [], code := .ref 13, frame := some 14 }
noncomputable def bT : List Stmt := behindTheImports pw
noncomputable def codeT : Code := .body bT envT
noncomputable def p0 : Pos := ⟨0, 0, 0, 0⟩
noncomputable def topGoT (tb : String → Option Builtin) (p : Program) (w : World) (n₀ : Nat) (ann : Option Value) : Nat → SharedT → Thread → Option (SharedT × Thread)
  | 0, s, t => some (s, t)
  | n + 1, s, t => match through t with
    | true => none
    | false => match stepOk n₀ ann t with
      | false => none
      | true => match stepT (denote tb) p w s t with
        | some (s', t') => topGoT tb p w n₀ ann n s' t'
        | none => none
theorem topGo_of {tb : String → Option Builtin} {p : Program} {w : World} {n₀ : Nat} {ann : Option Value} : ∀ {n : Nat} {s s' : SharedT} {t t' : Thread}, topGoT tb p w n₀ ann n s t = some (s', t') → topGo tb p w n₀ ann n s.abs t = some (s'.abs, t')
  | 0, _, _, _, _, h => by cases h; rfl
  | n + 1, s, s', t, t', h => by
    unfold topGoT at h
    unfold topGo
    cases he : through t with
    | true => rw [he] at h; cases h
    | false =>
      rw [he] at h
      cases hk : stepOk n₀ ann t with
      | false => rw [hk] at h; cases h
      | true =>
        rw [hk] at h
        cases hs : stepT (denote tb) p w s t with
        | none => rw [hs] at h; cases h
        | some r => obtain ⟨s₂, t₂⟩ := r; rw [hs] at h; dsimp only at h ⊢; rw [stepT_spec hs]; exact topGo_of h
noncomputable abbrev CanT := List Obj × Nat × Life × Array GenState × Drawn × Nat × OsState
noncomputable def canT (s : SharedT) : CanT := (s.tree.list s.n, s.n, s.life, s.gens, s.drawn, s.toks, s.os)
theorem abs_can {s s' : SharedT} (h : canT s = canT s') : s.abs = s'.abs := by
  obtain ⟨T, n, life, gens, drawn, toks, os⟩ := s
  obtain ⟨T', n', life', gens', drawn', toks', os'⟩ := s'
  simp only [canT, Prod.mk.injEq] at h
  obtain ⟨h1, h2, h3, h4, h5, h6, h7⟩ := h
  subst h2 h3 h4 h5 h6 h7
  unfold SharedT.abs absHeap
  rw [h1]
noncomputable def midC (w : World) (L : List Obj) (n t : Nat) (os : OsState) : CanT := (L, n, (boot_heap w.params).life, #[], boot_drawn, t, os)
noncomputable def midT (w : World) (L : List Obj) (n t : Nat) (os : OsState) : SharedT := ⟨treeOf L, n, (boot_heap w.params).life, #[], boot_drawn, t, os⟩
theorem mid_a (w : World) (os : OsState) : canT (midT w (midLA w.params) midNA midToksA os) = midC w (midLA w.params) midNA midToksA os := by kernel_rfl
theorem mid_b (w : World) (os : OsState) : canT (midT w (midL w.params) midN midToks os) = midC w (midL w.params) midN midToks os := by kernel_rfl
end Mine
end

section
set_option maxRecDepth 1000000
set_option maxHeartbeats 0
namespace Mine
theorem seg1 (w : World) (os : OsState) : ((topGoT treeTable pw w (boot_heap w.params).objs.size (annA w) 12 (St0 w os) (topStub pw)).bind fun a =>
    (segRunT treeTable pw w (boot_heap w.params).objs.size (annA w) 1 88 a.1 (blockOf bT envT codeT p0 [topFrame p0])).bind fun b =>
      (segRunT treeTable pw w (boot_heap w.params).objs.size (annA w) 1 1900 b.2.1 (piecesOf (bT.take midKA) envT codeT b.2.2.2 [topFrame p0])).map fun c => (a.2, (b.1, b.2.2.1), (c.1, canT c.2.1, c.2.2))) =
    some (⟨denote treeTable codeT, codeT, p0, [topFrame p0]⟩, (.next, codeT), (.next, midC w (midLA w.params) midNA midToksA os, codeT, posA)) := by kernel_rfl
end Mine
end

section
set_option maxRecDepth 1000000
set_option maxHeartbeats 0
namespace Mine
theorem seg2 (w : World) (os : OsState) : (segRunT treeTable pw w (boot_heap w.params).objs.size (annA w) 1 2000 (midT w (midLA w.params) midNA midToksA os) (piecesOf ((bT.drop midKA).take 4) envT codeT posA [topFrame p0])).map (fun c => (c.1, canT c.2.1, c.2.2)) =
    some (.next, midC w (midL w.params) midN midToks os, codeT, posB) := by kernel_rfl
end Mine
end

section
set_option maxRecDepth 1000000
set_option maxHeartbeats 0
namespace Mine
noncomputable def chk0 (w : World) (s : Shared) : Bool := staticsOk (importedModules pw.main.body) (boot_heap w.params) s.heap && namesBound pw s.heap && gensDone s && laidKept (boot_heap w.params) s.heap
theorem seg3 (w : World) (os : OsState) : (topRunT treeTable pw w (boot_heap w.params).objs.size (annA w) 4000 (midT w (midL w.params) midN midToks os) (restOf ((bT.drop midKA).drop 4) envT codeT posB [topFrame p0])).map (fun s => (chk0 w s.abs, openSeen qv looseL (importedModules pw.main.body) (fun _ => true) true s.abs, obsF (fragT s))) = some (true, openGood qv looseL, valK) := by kernel_rfl
end Mine
end

section
set_option maxRecDepth 100000
namespace Mine
theorem run1 (w : World) (os : OsState) : ∃ sT : SharedT, topRun treeTable pw w (boot_heap w.params).objs.size (annA w) 8000 (St0 w os).abs (topStub pw) = some sT.abs ∧
    (chk0 w sT.abs, openSeen qv looseL (importedModules pw.main.body) (fun _ => true) true sT.abs, obsF (fragT sT)) = (true, openGood qv looseL, valK) := by
  obtain ⟨⟨sA, tA⟩, h1, h⟩ := Option.bind_eq_some_iff.mp (seg1 w os)
  obtain ⟨⟨fB, sB, cB, pB⟩, h2, h⟩ := Option.bind_eq_some_iff.mp h
  obtain ⟨⟨fC, sC, cC, pC⟩, h3, h⟩ := Option.map_eq_some_iff.mp h
  simp only [Prod.mk.injEq] at h
  obtain ⟨e1, ⟨e2, e3⟩, e4, e5, e6, e7⟩ := h
  subst e1 e2 e3 e4 e6 e7
  obtain ⟨⟨fD, sD, cD, pD⟩, h4, h⟩ := Option.map_eq_some_iff.mp (seg2 w os)
  simp only [Prod.mk.injEq] at h
  obtain ⟨d1, d2, d3, d4⟩ := h
  subst d1 d3 d4
  obtain ⟨sT, h5, h6⟩ := Option.map_eq_some_iff.mp (seg3 w os)
  have k5 := topRun_of h5
  rw [← abs_can (d2.trans (mid_b w os).symm)] at k5
  have k4 := piece_app (segRun_of h4) k5
  rw [List.take_append_drop, ← abs_can (e5.trans (mid_a w os).symm)] at k4
  have k3 := piece_app (segRun_of h3) k4
  rw [List.take_append_drop] at k3
  exact ⟨sT, go_top (n := 12) (N := 7988) (topGo_of h1) (piece_block (n := 88) (N := 7900) (segRun_of h2) k3), h6⟩
end Mine
end

section
set_option maxRecDepth 100000
namespace Mine

noncomputable def sixOf {α : Type} (a b c d e f : α) (n : Nat) : List α := [a, b, c, d, e, f].take n
theorem six_of {α : Type} [i : Inhabited α] : ∀ {vs : List α}, vs.length ≤ 6 → ∃ a b c d e f, vs = sixOf a b c d e f vs.length
  | [], _ => ⟨default, default, default, default, default, default, rfl⟩
  | [a], _ => ⟨a, default, default, default, default, default, rfl⟩
  | [a, b], _ => ⟨a, b, default, default, default, default, rfl⟩
  | [a, b, c], _ => ⟨a, b, c, default, default, default, rfl⟩
  | [a, b, c, d], _ => ⟨a, b, c, d, default, default, rfl⟩
  | [a, b, c, d, e], _ => ⟨a, b, c, d, e, default, rfl⟩
  | [a, b, c, d, e, f], _ => ⟨a, b, c, d, e, f, rfl⟩
  | _ :: _ :: _ :: _ :: _ :: _ :: _ :: _, h => absurd h (by simp)
noncomputable abbrev FnT := Addr × Fun × List Str
noncomputable def hasD (x : FnT) : Bool := x.1 == 349 || x.1 == 358 || x.1 == 387 || x.1 == 465
noncomputable def plainL : List FnT := fnsL.filter fun x => !hasD x
theorem pn_len : (fnsL.map fun x => Nat.ble x.2.2.length 6) = fnsL.map fun _ => true := by kernel_rfl
theorem bind_all (name qual : Str) (doc pm : Value) (an : Option Addr) (cdv ct : Value) (a b c d e f : Value) :
    (plainL.map fun x => bindArgs (fnX name qual x.2.1.args x.2.1.body x.2.1.scope [] .none .none doc pm an cdv ct) ⟨sixOf a b c d e f x.2.2.length, []⟩) = plainL.map fun x => pure (x.2.2.zip (sixOf a b c d e f x.2.2.length)) := by kernel_rfl
theorem dflt_plain : (plainL.map fun x => dfltOf x.1) = plainL.map fun _ => Value.none := by kernel_rfl
section
variable {s : Shared} {o : Obj} {n : Nat} (name qual : Str) (doc pm : Value) (an : Option Addr) (cdv ct : Value) (a b c d e f : Value)
theorem bd_add6 {v1 v2 v3 v4 : Value} (ho : s.heap.get? 342 = some o) (hs : o.data = .seq #[v1, v2, v3, v4] n) : BindsTo s (fnX name qual x_Tree_add.args x_Tree_add.body x_Tree_add.scope [] (.ref 342) .none doc pm an cdv ct) ⟨[a, b, c, d, e, f], []⟩ (p_Tree_add.zip [a, b, c, d, e, f]) :=
  BindsTo.of_defaults rfl ho hs rfl (by kernel_rfl)
theorem bd_add5 {v1 v2 v3 v4 : Value} (ho : s.heap.get? 342 = some o) (hs : o.data = .seq #[v1, v2, v3, v4] n) : BindsTo s (fnX name qual x_Tree_add.args x_Tree_add.body x_Tree_add.scope [] (.ref 342) .none doc pm an cdv ct) ⟨[a, b, c, d, e], []⟩ (p_Tree_add.zip [a, b, c, d, e, v4]) :=
  BindsTo.of_defaults rfl ho hs rfl (by kernel_rfl)
theorem bd_add2 {v1 v2 v3 v4 : Value} (ho : s.heap.get? 342 = some o) (hs : o.data = .seq #[v1, v2, v3, v4] n) : BindsTo s (fnX name qual x_Tree_add.args x_Tree_add.body x_Tree_add.scope [] (.ref 342) .none doc pm an cdv ct) ⟨[a, b], []⟩ (p_Tree_add.zip [a, b, v1, v2, v3, v4]) :=
  BindsTo.of_defaults rfl ho hs rfl (by kernel_rfl)
theorem bd_elem4 {v1 v2 : Value} (ho : s.heap.get? 351 = some o) (hs : o.data = .seq #[v1, v2] n) : BindsTo s (fnX name qual x_Tree_element.args x_Tree_element.body x_Tree_element.scope [] (.ref 351) .none doc pm an cdv ct) ⟨[a, b, c, d], []⟩ (p_Tree_element.zip [a, b, c, d]) :=
  BindsTo.of_defaults rfl ho hs rfl (by kernel_rfl)
theorem bd_ins4 {v1 : Value} (ho : s.heap.get? 380 = some o) (hs : o.data = .seq #[v1] n) : BindsTo s (fnX name qual x_Tree_insert.args x_Tree_insert.body x_Tree_insert.scope [] (.ref 380) .none doc pm an cdv ct) ⟨[a, b, c, d], []⟩ (p_Tree_insert.zip [a, b, c, d]) :=
  BindsTo.of_defaults rfl ho hs rfl (by kernel_rfl)
theorem bd_ins3 {v1 : Value} (ho : s.heap.get? 380 = some o) (hs : o.data = .seq #[v1] n) : BindsTo s (fnX name qual x_Tree_insert.args x_Tree_insert.body x_Tree_insert.scope [] (.ref 380) .none doc pm an cdv ct) ⟨[a, b, c], []⟩ (p_Tree_insert.zip [a, b, c, v1]) :=
  BindsTo.of_defaults rfl ho hs rfl (by kernel_rfl)
theorem bd_bld3 {v1 : Value} (ho : s.heap.get? 458 = some o) (hs : o.data = .seq #[v1] n) : BindsTo s (fnX name qual x_Builder_init.args x_Builder_init.body x_Builder_init.scope [] (.ref 458) .none doc pm an cdv ct) ⟨[a, b, c], []⟩ (p_Builder_init.zip [a, b, c]) :=
  BindsTo.of_defaults rfl ho hs rfl (by kernel_rfl)
theorem bd_bld2 {v1 : Value} (ho : s.heap.get? 458 = some o) (hs : o.data = .seq #[v1] n) : BindsTo s (fnX name qual x_Builder_init.args x_Builder_init.body x_Builder_init.scope [] (.ref 458) .none doc pm an cdv ct) ⟨[a, b], []⟩ (p_Builder_init.zip [a, b, v1]) :=
  BindsTo.of_defaults rfl ho hs rfl (by kernel_rfl)
end
end Mine
end

section
set_option maxRecDepth 100000
namespace Mine

theorem list6 {α : Type} [Inhabited α] {vs : List α} {n : Nat} (h : vs.length = n) (h6 : n ≤ 6) : ∃ a b c d e f, vs = sixOf a b c d e f n := by
  subst h
  exact six_of h6
theorem fnView_ok {K : Frag} {f : Addr} {b : List Stmt} {sc : Scope} {ar : Arguments} {d : Value} (h : fnView K f = some (.stmts b, sc, ar, mainGlobals, [], builtinsNs, d, .none, true)) :
    ∃ fo name qual doc pm an cdv ct, K.lookup f = some fo ∧ fo.data = .func (fnX name qual ar b sc [] d .none doc pm an cdv ct) ∧ codeIn K cdv qual = true := by
  unfold fnView at h
  split at h
  · rename_i c dd fd sl hl
    obtain ⟨name, qual, params, body, scope, globals, closure, defaults, kwdefaults, doc, pm, an, code, ct, bi⟩ := fd
    simp only [Option.some.injEq, Prod.mk.injEq] at h
    obtain ⟨h1, h2, h3, h4, h5, h6, h7, h8, h9⟩ := h
    subst h1 h2 h3 h4 h5 h6 h7 h8
    exact ⟨_, name, qual, doc, pm, an, code, ct, hl, rfl, h9⟩
  · cases h
theorem tupView_ok {K : Frag} {a : Addr} {xs : List Value} (h : tupView K a = some (.type "tuple", xs)) : ∃ o n, K.lookup a = some o ∧ o.data = .seq xs.toArray n ∧ o.cls = .type "tuple" := by
  unfold tupView at h
  split at h
  · rename_i c dd ys n sl hl
    simp only [Option.some.injEq, Prod.mk.injEq] at h
    obtain ⟨h1, h2⟩ := h
    refine ⟨_, n, hl, ?_, h1⟩
    show Data.seq ys n = _
    rw [← h2]
  · cases h
theorem hasD_is : fnsL.filter hasD = [(349, x_Tree_add, p_Tree_add), (358, x_Tree_element, p_Tree_element), (387, x_Tree_insert, p_Tree_insert), (465, x_Builder_init, p_Builder_init)] := by kernel_rfl
theorem zip_ok {F : Heap} {pn : List Str} {as : List AV} {vs : List Value} (h : VRs F as vs) (hl : as.length = pn.length) : (pn.zip vs).map (·.1) = pn ∧ VRs F as ((pn.zip vs).map (·.2)) := by
  have e := h.length
  refine ⟨List.map_fst_zip (by omega), ?_⟩
  rw [List.map_snd_zip (by omega)]; exact h
theorem vrs3 {F : Heap} {a b c : AV} {vs : List Value} (h : VRs F [a, b, c] vs) : ∃ v1 v2 v3, vs = [v1, v2, v3] ∧ VR F a v1 ∧ VR F b v2 ∧ VR F c v3 := by
  cases h with
  | cons y1 h => obtain ⟨v2, v3, rfl, y2, y3⟩ := h.is2; exact ⟨_, _, _, rfl, y1, y2, y3⟩
theorem vrs5 {F : Heap} {a b c d e : AV} {vs : List Value} (h : VRs F [a, b, c, d, e] vs) : ∃ v1 v2 v3 v4 v5, vs = [v1, v2, v3, v4, v5] ∧ VR F a v1 ∧ VR F b v2 ∧ VR F c v3 ∧ VR F d v4 ∧ VR F e v5 := by
  cases h with
  | cons y1 h =>
    cases h with
    | cons y2 h => obtain ⟨v3, v4, v5, rfl, y3, y4, y5⟩ := vrs3 h; exact ⟨_, _, _, _, _, rfl, y1, y2, y3, y4, y5⟩
theorem look_mem {α β : Type} [BEq α] [LawfulBEq α] {a : α} {b : β} : ∀ {l : List (α × β)}, l.lookup a = some b → (a, b) ∈ l
  | [], h => by cases h
  | (x, y) :: l, h => by
    rw [List.lookup_cons] at h
    split at h
    · rename_i q; cases h; rw [beq_iff_eq] at q; subst q; exact .head _
    · exact .tail _ (look_mem h)
theorem meths_cls : (tb.meths.all fun p => ([217, 322, 439, 517] : List Addr).contains p.1.1) = true := by decide +kernel
section
variable {C : Cfg} (e : obsF C.K = valK)
include e
theorem fnV {f : Addr} {x : Fun} {pn : List Str} (h : (f, x, pn) ∈ fnsL) : fnView C.K f = some (.stmts x.body, x.scope, x.args, mainGlobals, [], builtinsNs, dfltOf f, .none, true) := by
  have e1 : fnsL.map (fun x => fnView C.K x.1) = fnsL.map fun x => some (.stmts x.2.1.body, x.2.1.scope, x.2.1.args, mainGlobals, [], builtinsNs, dfltOf x.1, .none, true) := congrArg (fun o : ObsK => o.2.1) e
  exact List.map_inj_left.mp e1 (f, x, pn) h
theorem fnOk_of {f : Addr} {x : Fun} {pn : List Str} (h : (f, x, pn) ∈ fnsL) : FnOk C f x.body x.scope pn := by
  obtain ⟨fo, name, qual, doc, pm, an, cdv, ct, k1, k2, k3⟩ := fnView_ok (fnV e h)
  exact ⟨fo, name, qual, x.args, dfltOf f, .none, doc, pm, an, cdv, ct, k1, k2, k3⟩
theorem binds_of {f : Addr} {x : Fun} {pn : List Str} {as as' : List AV} (h : (f, x, pn) ∈ fnsL)
    (k : ∀ (F : Heap) (s : Shared) (vs : List Value) name qual doc pm an cdv ct, C.K.In F → F.StaysIn s.heap → VRs F as vs → ∃ vs', BindsTo s (fnX name qual x.args x.body x.scope [] (dfltOf f) .none doc pm an cdv ct) ⟨vs, []⟩ (pn.zip vs') ∧ VRs F as' vs') (hl : as'.length = pn.length) : Binds C f pn as as' := by
  intro F s vs fd fo hF hs hk hd hv
  obtain ⟨fo', name, qual, doc, pm, an, cdv, ct, k1, k2, k3⟩ := fnView_ok (fnV e h)
  rw [hk] at k1
  cases k1
  rw [hd] at k2
  cases k2
  obtain ⟨vs', h1, h2⟩ := k F s vs name qual doc pm an cdv ct hF hs hv
  have z := zip_ok h2 hl
  exact ⟨_, h1, z.1, z.2⟩
theorem tupAt {a : Addr} {xs : List Value} {i : Nat} (h : valK.2.2[i]? = some (some (.type "tuple", xs))) (ha : ([342, 341, 351, 380, 458] : List Addr)[i]? = some a) {F : Heap} (hF : C.K.In F) : ∃ o n, F.get? a = some o ∧ o.data = .seq xs.toArray n ∧ o.cls = .type "tuple" := by
  have e2 := congrArg (fun o : ObsK => o.2.2[i]?) e
  have e3 : (([342, 341, 351, 380, 458] : List Addr).map (tupView C.K))[i]? = valK.2.2[i]? := e2
  rw [List.getElem?_map, ha, h] at e3
  simp only [Option.map_some, Option.some.injEq] at e3
  obtain ⟨o, n, k1, k2, k3⟩ := tupView_ok e3
  exact ⟨o, n, hF _ _ k1, k2, k3⟩
theorem add_tail {F : Heap} (hF : C.K.In F) {s : Shared} (hs : F.StaysIn s.heap) : (∃ o n, s.heap.get? 342 = some o ∧ o.data = .seq #[.str (q []) 606, .str (q []) 607, .ref 341, .str (q []) 608] n) ∧ VR F (.d (.tuple [])) (.ref 341) := by
  obtain ⟨o, n, h1, h2, h3⟩ := tupAt e (i := 0) rfl rfl hF
  obtain ⟨o', n', h1', h2', h3'⟩ := tupAt e (i := 1) rfl rfl hF
  exact ⟨⟨o, n, hs _ _ h1, h2⟩, .d (reads_tuple_at h1' h3' h2' .nil)⟩
theorem bindsF {f : Addr} {x : Fun} {pn : List Str} (h : (f, x, pn) ∈ fnsL) {as : List AV} (hl : as.length = pn.length) : Binds C f pn as as := by
  refine binds_of e h (fun F s vs name qual doc pm an cdv ct hF hs hv => ?_) hl
  have hvl : vs.length = pn.length := by rw [← hv.length, hl]
  have h6 : vs.length ≤ 6 := by
    have := List.map_inj_left.mp pn_len (f, x, pn) h
    have := Nat.le_of_ble_eq_true this
    simp only at this
    omega
  refine ⟨vs, ?_, hv⟩
  cases hd : hasD (f, x, pn) with
  | false =>
    have hp : (f, x, pn) ∈ plainL := List.mem_filter.mpr ⟨h, by rw [hd]; rfl⟩
    obtain ⟨a, b, c, d, e', f', he⟩ := six_of h6
    have h1 := List.map_inj_left.mp (bind_all name qual doc pm an cdv ct a b c d e' f') (f, x, pn) hp
    have h2 := List.map_inj_left.mp dflt_plain (f, x, pn) hp
    simp only at h1 h2
    rw [h2]
    refine BindsTo.of_eq ?_
    rw [hvl] at he
    rw [he]; exact h1
  | true =>
    have hp : (f, x, pn) ∈ fnsL.filter hasD := List.mem_filter.mpr ⟨h, hd⟩
    rw [hasD_is] at hp
    simp only [List.mem_cons, List.not_mem_nil, or_false, Prod.mk.injEq] at hp
    rcases hp with ⟨rfl, rfl, rfl⟩ | ⟨rfl, rfl, rfl⟩ | ⟨rfl, rfl, rfl⟩ | ⟨rfl, rfl, rfl⟩
    · obtain ⟨⟨o, n, h1, h2⟩, _⟩ := add_tail e hF hs
      obtain ⟨a, b, c, d, e, f, rfl⟩ := list6 (n := 6) hvl (by decide)
      exact bd_add6 _ _ _ _ _ _ _ _ _ _ _ _ _ h1 h2
    · obtain ⟨o, n, h1, h2, h3⟩ := tupAt e (i := 2) rfl rfl hF
      obtain ⟨a, b, c, d, _, _, rfl⟩ := list6 (n := 4) hvl (by decide)
      exact bd_elem4 _ _ _ _ _ _ _ _ _ _ _ (hs _ _ h1) h2
    · obtain ⟨o, n, h1, h2, h3⟩ := tupAt e (i := 3) rfl rfl hF
      obtain ⟨a, b, c, d, _, _, rfl⟩ := list6 (n := 4) hvl (by decide)
      exact bd_ins4 _ _ _ _ _ _ _ _ _ _ _ (hs _ _ h1) h2
    · obtain ⟨o, n, h1, h2, h3⟩ := tupAt e (i := 4) rfl rfl hF
      obtain ⟨a, b, c, _, _, _, rfl⟩ := list6 (n := 3) hvl (by decide)
      exact bd_bld3 _ _ _ _ _ _ _ _ _ _ (hs _ _ h1) h2
theorem kok_of : KOk C := by
  have hc : chkK C.K = true := congrArg (fun o : ObsK => o.1) e
  unfold chkK at hc
  simp only [Bool.and_eq_true] at hc
  obtain ⟨⟨⟨⟨hg, hb⟩, hm⟩, hk⟩, hr⟩ := hc
  have hcl : ∀ p ∈ ([(217, 151), (322, 235), (439, 340), (517, 465)] : List (Addr × Addr)), ClsOk C.K p.1 ∧ makesIn C.K p.1 = true ∧ findIn C.K (.ref p.1) "__init__" = some (some (.ref p.2)) ∧ typeIn C.K (.ref p.2) = some (.type "function") := fun p hp => by
    have := List.all_eq_true.mp hk p hp
    simp only [Bool.and_eq_true, beq_iff_eq] at this
    exact ⟨ClsOk.of this.1.1.1, this.1.1.2, this.1.2, this.2⟩
  have hbi : ∀ x ∈ (["len", "list", "tuple", "max", "chr", "ord", "range"] : List Str), nsIn C.K mainGlobals x = some none := fun x hx => by
    have := List.all_eq_true.mp hb x hx
    rwa [beq_iff_eq] at this
  refine ⟨⟨fun x g h => ?_, fun b => ?_, .inr ⟨hbi _ (.tail _ (.tail _ (.tail _ (.tail _ (.tail _ (.tail _ (.head _))))))), by kernel_rfl, by decide⟩, fun c x f h => ?_, fun c i x h => ?_⟩, fun {f x pn} h => ⟨fnOk_of e h, fun as hl => bindsF e h hl⟩, fun a b => ?_, fun a b c d e' => ?_, fun a b c => ?_, fun a b => ?_, fun {c f} h => hcl _ h, hr⟩
  · have := List.all_eq_true.mp hg _ (look_mem h)
    simp only [Bool.and_eq_true, beq_iff_eq] at this
    exact this
  · cases b
    · exact .inr ⟨hbi _ (.head _), by kernel_rfl, by decide⟩
    · exact .inr ⟨hbi _ (.tail _ (.head _)), by kernel_rfl, by decide⟩
    · exact .inr ⟨hbi _ (.tail _ (.tail _ (.head _))), by kernel_rfl, by decide⟩
    · exact .inr ⟨hbi _ (.tail _ (.tail _ (.tail _ (.head _)))), by kernel_rfl, by decide⟩
    · exact .inr ⟨hbi _ (.tail _ (.tail _ (.tail _ (.tail _ (.head _))))), by kernel_rfl, by decide⟩
    · exact .inr ⟨hbi _ (.tail _ (.tail _ (.tail _ (.tail _ (.tail _ (.head _)))))), by kernel_rfl, by decide⟩
  · have hmem := look_mem h
    have h1 := List.all_eq_true.mp hm _ hmem
    have h2 := List.all_eq_true.mp meths_cls _ hmem
    simp only at h1 h2
    refine ⟨?_, h1⟩
    rw [List.contains_iff_mem] at h2
    simp only [List.mem_cons, List.not_mem_nil, or_false] at h2
    rcases h2 with rfl | rfl | rfl | rfl
    · exact (hcl (217, 151) (.head _)).1
    · exact (hcl (322, 235) (.tail _ (.head _))).1
    · exact (hcl (439, 340) (.tail _ (.tail _ (.head _)))).1
    · exact (hcl (517, 465) (.tail _ (.tail _ (.tail _ (.head _))))).1
  · unfold schema at h
    split at h
    · exact (hcl (217, 151) (.head _)).1
    · exact (hcl (322, 235) (.tail _ (.head _))).1
    · exact (hcl (439, 340) (.tail _ (.tail _ (.head _)))).1
    · exact (hcl (517, 465) (.tail _ (.tail _ (.tail _ (.head _))))).1
    · cases h
  · refine binds_of e (f := 349) (x := x_Tree_add) (pn := p_Tree_add) (List.mem_of_getElem? (i := 18) rfl) (fun F s vs name qual doc pm an cdv ct hF hs hv => ?_) rfl
    obtain ⟨⟨o, n, h1, h2⟩, h3⟩ := add_tail e hF hs
    obtain ⟨v1, v2, rfl, y1, y2⟩ := hv.is2
    exact ⟨_, bd_add2 _ _ _ _ _ _ _ _ _ h1 h2, .cons y1 (.cons y2 (.cons (.d (.str _ _)) (.cons (.d (.str _ _)) (.cons h3 (.cons (.d (.str _ _)) .nil)))))⟩
  · refine binds_of e (f := 349) (x := x_Tree_add) (pn := p_Tree_add) (List.mem_of_getElem? (i := 18) rfl) (fun F s vs name qual doc pm an cdv ct hF hs hv => ?_) rfl
    obtain ⟨⟨o, n, h1, h2⟩, h3⟩ := add_tail e hF hs
    obtain ⟨v1, v2, v3, v4, v5, rfl, y1, y2, y3, y4, y5⟩ := vrs5 hv
    exact ⟨_, bd_add5 _ _ _ _ _ _ _ _ _ _ _ _ h1 h2, .cons y1 (.cons y2 (.cons y3 (.cons y4 (.cons y5 (.cons (.d (.str _ _)) .nil)))))⟩
  · refine binds_of e (f := 387) (x := x_Tree_insert) (pn := p_Tree_insert) (List.mem_of_getElem? (i := 20) rfl) (fun F s vs name qual doc pm an cdv ct hF hs hv => ?_) rfl
    obtain ⟨o, n, h1, h2, h3⟩ := tupAt e (i := 3) rfl rfl hF
    obtain ⟨v1, v2, v3, rfl, y1, y2, y3⟩ := vrs3 hv
    exact ⟨_, bd_ins3 _ _ _ _ _ _ _ _ _ _ (hs _ _ h1) h2, .cons y1 (.cons y2 (.cons y3 (.cons (.d (.int _ _)) .nil)))⟩
  · refine binds_of e (f := 465) (x := x_Builder_init) (pn := p_Builder_init) (List.mem_of_getElem? (i := 25) rfl) (fun F s vs name qual doc pm an cdv ct hF hs hv => ?_) rfl
    obtain ⟨o, n, h1, h2, h3⟩ := tupAt e (i := 4) rfl rfl hF
    obtain ⟨v1, v2, rfl, y1, y2⟩ := hv.is2
    exact ⟨_, bd_bld2 _ _ _ _ _ _ _ _ _ (hs _ _ h1) h2, .cons y1 (.cons y2 (.cons (.d (.bool _)) .nil))⟩
end
end Mine
end

section
set_option maxRecDepth 100000
namespace Mine

theorem boot_is (w : World) : ((boot_heap w.params).isNs mainGlobals && (Array.mk [] : Array GenState).size == 0) = true := by kernel_rfl
theorem topFrom_eq {tb : String → Option Builtin} {p : Program} {w : World} {N : Nat} {s₀ s₁ : Shared} {n : Nat} {an : Option Value} (h0 : (s₀.heap.isNs mainGlobals && s₀.gens.size == 0) = true) (hn : n = s₀.heap.objs.size) (ha : an = s₀.heap.nsMap mainGlobals "__annotations__")
    (h1 : topRun tb p w n an N s₀ (topStub p) = some s₁)
    (h2 : (staticsOk (importedModules p.main.body) s₀.heap s₁.heap && namesBound p s₁.heap && gensDone s₁ && laidKept s₀.heap s₁.heap) = true) : topFrom tb p w N s₀ = some s₁ := by
  subst hn ha
  unfold topFrom
  rw [h0]
  simp only [h1, Option.bind_some, h2]
theorem openEnds_eq {p q : Program} {loose : List Str} {Xt : Shared → Bool} {α : Type} {Yf : Shared → α} {tb : String → Option Builtin} {w : World} {N : Nat} {s₀ s₁ : Shared} {y : α} {md : List Str} (hs : fencedOpening tb p w N = some s₀) (ht : topFrom tb p w N s₀ = some s₁)
    (h3 : openSeen q loose md Xt true s₁ = openGood q loose) (h4 : Yf s₁ = y) : (openEnds tb p w N).map (fun s => (openSeen q loose md Xt true s, Yf s)) = some (openGood q loose, y) := by
  unfold openEnds
  rw [hs, Option.bind_some, ht, Option.map_some, h3, h4]
theorem left0 : LeftO pw qv looseL (fun _ => true) (fun s => obsF (fragK s.heap)) (fun _ => valK) 8000 := fun w => by
  obtain ⟨s₀, hs, hv⟩ := Option.map_eq_some_iff.mp (boot_open (p := pw) (N := 8000) (by kernel_rfl) (by kernel_rfl) (fun s => by kernel_rfl) w)
  obtain ⟨heap, gens, drawn, toks, os⟩ := s₀
  simp only [Prod.mk.injEq] at hv
  obtain ⟨v1, v2, v3, v4⟩ := hv
  obtain ⟨sT, h1, h2⟩ := run1 w os
  unfold annA at h1
  rw [St0_abs, ← v1, ← v2, ← v3, ← v4] at h1
  simp only [Prod.mk.injEq] at h2
  obtain ⟨h2, h3, h4⟩ := h2
  rw [← frag_abs] at h4
  have hb := boot_is w
  unfold chk0 at h2
  rw [← v1] at hb h2
  rw [← v2] at hb
  exact openEnds_eq hs (topFrom_eq hb rfl rfl h1 h2) h3 h4
end Mine
end

section
set_option maxRecDepth 100000
set_option maxHeartbeats 4000000
namespace Mine
noncomputable def YPk (w : World) (h : Heap) : Prop := ∃ K : Frag, K.In h ∧ obsF K = valK
theorem walk : WalkO qv looseL (fun _ _ => True) YPk PySem.Challenge.rw_pb0144_01.row.toRowW ⟨"law", x_law.args, x_law.body, x_law.scope, default⟩ [] (fun f vs => PySem.call f vs) := by
  intro w s₀ s₁ mg mb G Y fa o pm cd doc dV kV ho hd hcd hD hmg hg args vals as hpre hlay hrd hwl hlo
  refine Ground.open G ?_
  intro T B D TE TW
  obtain ⟨K, X, e⟩ := Y
  have TR := topRead_of T
  wrow_args hpre hlay hrd hwl hlo
  rename_i xs _ _ _ _ _ _ _ l _ _ _ _ _ r0 _ _ hz _
  have H : KOk (⟨pw, w, K, qv, looseW qv looseL, mg, mb⟩ : Cfg) := kok_of e
  have hfa : fa = 582 := by
    have h1 : mg "law" = some (.ref 582) := mg_of X TR.g (H.tab.globs "law" 582 (by kernel_rfl)).1
    have h2 : some (Value.ref fa) = some (.ref 582) := hmg.symm.trans h1
    cases h2; rfl
  subst hfa
  refine wpAny_mono (((law_T H (xs := xs) (σ := fun _ => none) (by omega)).tc) callerA s₁.heap (fun _ => none) s₁ [.ref l] ⟨rfl, by decide, by decide⟩ ⟨X, TR⟩ ⟨fun _ => .inl rfl, ⟨stays_refl _, fun a ao h => by cases h⟩⟩ (.cons (.d r0) .nil)) ?_ fun _ _ h => h.elim
  rintro v s' ⟨F', σ', a, h', tk', rfl, k1, r', y, rfl⟩
  have hv := y.bool
  subst hv
  refine GoodW.toG ⟨.inl ⟨_, .bool true, [], rfl, fun _ => rfl, .bool true, by kernel_rfl, fun _ => ⟨.nil, fun a h => by cases h⟩⟩, fun b o h => r'.r.fx _ _ (k1 _ _ h), rfl, hg⟩
theorem noRoad_split {lk : Look} {l : List Stmt} (n : Nat) (h1 : noRoadLSs lk (l.take n) = true) (h2 : noRoadLSs lk (l.drop n) = true) : noRoadLSs lk l = true := by
  induction l generalizing n with
  | nil => rfl
  | cons s r ih =>
    cases n with
    | zero => exact h2
    | succ n =>
      have e : noRoadLSs lk (s :: r.take n) = (noRoadLS lk s && noRoadLSs lk (r.take n)) := rfl
      have h1 := e.symm.trans h1
      rw [Bool.and_eq_true] at h1
      exact look_both h1.1 (ih n h1.2 h2)
theorem road {b : Bool} {f : Option (List Str)} {p : Program} (h0 : (["vars", "dir", "locals"] : List Str).filter (readsOut p p.main.body) = [])
    (h1 : noRoadLSs { strict := b, foot := f, bare := [] } (p.main.body.take 30) = true) (h2 : noRoadLSs { strict := b, foot := f, bare := [] } (p.main.body.drop 30) = true) :
    noRoadLSs { strict := b, foot := f, bare := (["vars", "dir", "locals"] : List Str).filter (readsOut p p.main.body) } p.main.body = true := by
  rw [h0]; exact noRoad_split 30 h1 h2
set_option maxHeartbeats 0 in
theorem ws : PySem.Challenge.rw_pb0144_01.wellSaid = true := by
  unfold OpenLaw.wellSaid OpenRow.wellSaid OpenRow.partSaid looksOpen
  repeat' (first | with_reducible refine look_both ?_ ?_ | (with_reducible refine road ?_ ?_ ?_ <;> decide +kernel) | decide +kernel)
set_option maxHeartbeats 4000000 in
theorem head0 : PySem.Challenge.rw_pb0144_01.Holds := by
  refine holds_law ws fun said => ?_
  refine holds_open (r := PySem.Challenge.rw_pb0144_01.row) (q := qv) (loose := looseL) (Xt := fun _ => true) (XP := fun _ _ => True) (Yf := fun s => obsF (fragK s.heap)) (Ya := fun _ => valK) (YP := YPk) (N := 8000)
    left0 (fun w s e => ⟨_, frag_in, e⟩) (fun w h h' ⟨K, a, b⟩ k => ⟨K, a.keeps k, b⟩) (fun _ _ => trivial) (fun _ _ _ _ _ => trivial) (by rfl) (by rfl) (by rfl) (fun s _ => recFacts_nil rfl) rfl said (by decide +kernel) ⟨rfl, rfl, rfl, rfl, rfl, by decide +kernel⟩ ?_ ?_
  · w_witness2
  · exact walk
end Mine
end

theorem PySem.Challenge.cw_pb0144_01_holds : PySem.Challenge.rw_pb0144_01.Holds :=
  Mine.head0
