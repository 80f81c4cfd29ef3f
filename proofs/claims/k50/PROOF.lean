import PyProof.Rows.All
import Wide.All
import OpenK.AllK
import Wide.FinOn
import HandS.ForMost
import HandS.ForExc
import HandS.Lambda
import HandS.Flow
import HandS.TupAny
import HandS.TupMul
import HandS.Style
import HandS.IsInst
import HandS.Conv
import HandS.TupLe
import HandS.TupLen
import HandS.RaiseMore
import PyProof.P3In
import HandS.WordsExc
import HandS.ExcInit
import HandS.ExcIs
import KE.KDflt
import HandS.ExcOwn
import HandS.SetFor
import HandS.Deep
import KE.DataFind
import HandS.Iter
import PyProof.ReprRoads
import PyProof.ReprReads
import HandS.EndTab
import HandS.EndBits
import PySem.Challenge.RW_printyard_k50_whole_pieces_in_rows_on_sh
set_option Elab.async false
set_option linter.all false
set_option maxRecDepth 100000
set_option maxHeartbeats 0
set_option autoImplicit false
/-! DL: a layer of plain data over the hand layer. Core. -/
namespace DL
open PySem PySem.Spec PyProof.Rows L2

/-! ### the mirror's monad -/
structure HS where
  rows : List Int
  pos : Int
  gr : Int
  mix : Int
  met : Int
inductive R (α : Type) where
  | ok (a : α) (S : HS)
  | err (c : Str) (S : HS)
  | bad
def M (α : Type) := HS → R α
def R.post {α : Type} (r : R α) (P : α → HS → Prop) (E : Str → HS → Prop) : Prop := match r with
  | .ok a S => P a S
  | .err c S => E c S
  | .bad => False
def R.bind {α β : Type} (r : R α) (k : α → HS → R β) : R β := match r with
  | .ok a S => k a S
  | .err c S => .err c S
  | .bad => .bad
def M.bind {α β : Type} (m : M α) (k : α → M β) : M β := fun S => (m S).bind k
def M.pure {α : Type} (a : α) : M α := fun S => .ok a S
def M.bad {α : Type} : M α := fun _ => .bad
def M.opt {α : Type} (o : Option α) : M α := fun S => match o with | some a => .ok a S | none => .bad
theorem R.post_bind {α β : Type} {r : R α} {k : α → HS → R β} {P : β → HS → Prop} {E : Str → HS → Prop} (h : (r.bind k).post P E) : r.post (fun a S => (k a S).post P E) E := by
  cases r with
  | ok a S => exact h
  | err c S => exact h
  | bad => exact h
theorem R.post_imp {α : Type} {r : R α} {P P' : α → HS → Prop} {E E' : Str → HS → Prop} (h : r.post P E) (hp : ∀ a S, P a S → P' a S) (he : ∀ c S, E c S → E' c S) : r.post P' E' := by
  cases r with
  | ok a S => exact hp _ _ h
  | err c S => exact he _ _ h
  | bad => exact h

inductive Slot where
  | dat (d : PyData)
  | hnd
  | lam
  | exc
  | scr (l : List Int)
abbrev Env := List (Option Slot)
abbrev ED := Env → M PyData
abbrev BD := Env → M Bool
abbrev AD := Env → M (List PyData)
inductive Fl where
  | nx (ρ : Env)
  | rt (d : PyData)
abbrev SD := Env → M Fl

/-! ### data in the abstract heap -/
def keyD : Key → PyData
  | .inl i => .int i
  | .inr x => .str x
def isTbl : HO → Bool
  | .tbl _ => true
  | _ => false
def isMut : HO → Bool
  | .lst _ => true
  | .dK _ => true
  | .dT _ => true
  | _ => false
def tupK (k : List Key) : PyData := .tuple (k.map keyD)
mutual
inductive Rp (K : PySem.W.Frag) (H : Hp) (A : Addr → Prop) : V → PyData → Prop
  | non : Rp K H A .non .none
  | bl (b : Bool) : Rp K H A (.bl b) (.bool b)
  | int (i : Int) : Rp K H A (.int i) (.int i)
  | str (x : Str) : Rp K H A (.str x) (.str x)
  | lst {a : Addr} {vs : List V} {ds : List PyData} : A a → H a = some (.lst vs) → RpL K H A vs ds → Rp K H A (.ref a) (.list ds)
  | tup {a : Addr} {vs : List V} {ds : List PyData} : H a = some (.tup vs) → RpL K H A vs ds → Rp K H A (.ref a) (.tuple ds)
  | dik {a : Addr} {ks : List (Key × V)} {ds : List (PyData × PyData)} : A a → H a = some (.dK ks) → RpK K H A (ks.map fun p => (keyD p.1, p.2)) ds → Rp K H A (.ref a) (.dict ds)
  | dit {a : Addr} {ks : List (List Key × V)} {ds : List (PyData × PyData)} : A a → H a = some (.dT ks) → RpK K H A (ks.map fun p => (tupK p.1, p.2)) ds → Rp K H A (.ref a) (.dict ds)
inductive RpL (K : PySem.W.Frag) (H : Hp) (A : Addr → Prop) : List V → List PyData → Prop
  | nil : RpL K H A [] []
  | cons {v : V} {vs : List V} {d : PyData} {ds : List PyData} : Rp K H A v d → RpL K H A vs ds → RpL K H A (v :: vs) (d :: ds)
inductive RpK (K : PySem.W.Frag) (H : Hp) (A : Addr → Prop) : List (PyData × V) → List (PyData × PyData) → Prop
  | nil : RpK K H A [] []
  | cons {k : PyData} {v : V} {vs : List (PyData × V)} {d : PyData} {ds : List (PyData × PyData)} : Rp K H A v d → RpK K H A vs ds → RpK K H A ((k, v) :: vs) ((k, d) :: ds)
end
/-- what is read through its outermost object: B may own that, A all within -/
inductive Rv (K : PySem.W.Frag) (H : Hp) (A B : Addr → Prop) : V → PyData → Prop
  | rp {v : V} {d : PyData} : Rp K H A v d → Rv K H A B v d
  | lst {a : Addr} {vs : List V} {ds : List PyData} : B a → H a = some (.lst vs) → RpL K H A vs ds → Rv K H A B (.ref a) (.list ds)
  | dik {a : Addr} {ks : List (Key × V)} {ds : List (PyData × PyData)} : B a → H a = some (.dK ks) → RpK K H A (ks.map fun p => (keyD p.1, p.2)) ds → Rv K H A B (.ref a) (.dict ds)
  | dit {a : Addr} {ks : List (List Key × V)} {ds : List (PyData × PyData)} : B a → H a = some (.dT ks) → RpK K H A (ks.map fun p => (tupK p.1, p.2)) ds → Rv K H A B (.ref a) (.dict ds)

/-- all but the tables and the lists and dicts of W is kept -/
structure Fr (W : Addr → Prop) (H H' : Hp) : Prop where
  keep : ∀ a o, H a = some o → isTbl o = false → (isMut o = true → ¬ W a) → H' a = some o
  dom : ∀ a, H a ≠ none → H' a ≠ none
theorem Fr.refl (W : Addr → Prop) (H : Hp) : Fr W H H := ⟨fun _ _ h _ _ => h, fun _ h => h⟩
theorem Fr.trans {W : Addr → Prop} {H H1 H2 : Hp} (f : Fr W H H1) (g : Fr W H1 H2) : Fr W H H2 :=
  ⟨fun a o h t m => g.keep a o (f.keep a o h t m) t m, fun a h => g.dom a (f.dom a h)⟩
theorem Fr.mono {W W' : Addr → Prop} {H H' : Hp} (f : Fr W H H') (h : ∀ a, W a → W' a) : Fr W' H H' :=
  ⟨fun a o e t m => f.keep a o e t fun z w => m z (h a w), f.dom⟩
theorem Fr.of_same {W : Addr → Prop} {H H' : Hp} (s : Same H H') : Fr W H H' :=
  ⟨fun a o h _ _ => s a o h, fun a h => by
    cases e : H a with
    | none => exact absurd e h
    | some o => rw [s a o e]; exact fun z => nomatch z⟩
section
variable {K : PySem.W.Frag} {W A A' B B' : Addr → Prop} {H H' : Hp}
theorem Rp.keep (f : Fr W H H') (hA : ∀ a, A a → ¬ W a) (hAA : ∀ a, A a → A' a) {v : V} {d : PyData} (h : Rp K H A v d) : Rp K H' A' v d := by
  refine Rp.rec (motive_1 := fun v d _ => Rp K H' A' v d) (motive_2 := fun vs ds _ => RpL K H' A' vs ds) (motive_3 := fun vs ds _ => RpK K H' A' vs ds) .non (fun b => .bl b) (fun i => .int i) (fun x => .str x) ?_ ?_ ?_ ?_ .nil (fun _ _ a b => .cons a b) .nil (fun _ _ a b => .cons a b) h
  · exact fun a h _ ih => .lst (hAA _ a) (f.keep _ _ h rfl fun _ => hA _ a) ih
  · exact fun h _ ih => .tup (f.keep _ _ h rfl fun z => nomatch z) ih
  · exact fun a h _ ih => .dik (hAA _ a) (f.keep _ _ h rfl fun _ => hA _ a) ih
  · exact fun a h _ ih => .dit (hAA _ a) (f.keep _ _ h rfl fun _ => hA _ a) ih
theorem RpL.keep (f : Fr W H H') (hA : ∀ a, A a → ¬ W a) (hAA : ∀ a, A a → A' a) {v : List V} {d : List PyData} (h : RpL K H A v d) : RpL K H' A' v d := by
  refine RpL.rec (motive_1 := fun v d _ => Rp K H' A' v d) (motive_2 := fun vs ds _ => RpL K H' A' vs ds) (motive_3 := fun vs ds _ => RpK K H' A' vs ds) .non (fun b => .bl b) (fun i => .int i) (fun x => .str x) ?_ ?_ ?_ ?_ .nil (fun _ _ a b => .cons a b) .nil (fun _ _ a b => .cons a b) h
  · exact fun a h _ ih => .lst (hAA _ a) (f.keep _ _ h rfl fun _ => hA _ a) ih
  · exact fun h _ ih => .tup (f.keep _ _ h rfl fun z => nomatch z) ih
  · exact fun a h _ ih => .dik (hAA _ a) (f.keep _ _ h rfl fun _ => hA _ a) ih
  · exact fun a h _ ih => .dit (hAA _ a) (f.keep _ _ h rfl fun _ => hA _ a) ih
theorem RpK.keep (f : Fr W H H') (hA : ∀ a, A a → ¬ W a) (hAA : ∀ a, A a → A' a) {v : List (PyData × V)} {d : List (PyData × PyData)} (h : RpK K H A v d) : RpK K H' A' v d := by
  refine RpK.rec (motive_1 := fun v d _ => Rp K H' A' v d) (motive_2 := fun vs ds _ => RpL K H' A' vs ds) (motive_3 := fun vs ds _ => RpK K H' A' vs ds) .non (fun b => .bl b) (fun i => .int i) (fun x => .str x) ?_ ?_ ?_ ?_ .nil (fun _ _ a b => .cons a b) .nil (fun _ _ a b => .cons a b) h
  · exact fun a h _ ih => .lst (hAA _ a) (f.keep _ _ h rfl fun _ => hA _ a) ih
  · exact fun h _ ih => .tup (f.keep _ _ h rfl fun z => nomatch z) ih
  · exact fun a h _ ih => .dik (hAA _ a) (f.keep _ _ h rfl fun _ => hA _ a) ih
  · exact fun a h _ ih => .dit (hAA _ a) (f.keep _ _ h rfl fun _ => hA _ a) ih
theorem Rp.same (s : Same H H') {v : V} {d : PyData} (h : Rp K H A v d) : Rp K H' A v d := h.keep (W := fun _ => False) (Fr.of_same s) (fun _ _ z => z) (fun _ z => z)
theorem RpL.same (s : Same H H') {v : List V} {d : List PyData} (h : RpL K H A v d) : RpL K H' A v d := h.keep (W := fun _ => False) (Fr.of_same s) (fun _ _ z => z) (fun _ z => z)
theorem RpK.same (s : Same H H') {v : List (PyData × V)} {d : List (PyData × PyData)} (h : RpK K H A v d) : RpK K H' A v d := h.keep (W := fun _ => False) (Fr.of_same s) (fun _ _ z => z) (fun _ z => z)
theorem RpK.mono (hAA : ∀ a, A a → A' a) {v : List (PyData × V)} {d : List (PyData × PyData)} (h : RpK K H A v d) : RpK K H A' v d := h.keep (W := fun _ => False) (Fr.refl _ _) (fun _ _ z => z) hAA
theorem Rp.mono (hAA : ∀ a, A a → A' a) {v : V} {d : PyData} (h : Rp K H A v d) : Rp K H A' v d := h.keep (W := fun _ => False) (Fr.refl _ _) (fun _ _ z => z) hAA
theorem RpL.mono (hAA : ∀ a, A a → A' a) {v : List V} {d : List PyData} (h : RpL K H A v d) : RpL K H A' v d := h.keep (W := fun _ => False) (Fr.refl _ _) (fun _ _ z => z) hAA
theorem Rv.keep (f : Fr W H H') (hA : ∀ a, A a → ¬ W a) (hB : ∀ a, B a → ¬ W a) {v : V} {d : PyData} (h : Rv K H A B v d) : Rv K H' A B v d := by
  cases h with
  | rp h => exact .rp (h.keep f hA fun _ z => z)
  | lst b h l => exact .lst b (f.keep _ _ h rfl fun _ => hB _ b) (l.keep f hA fun _ z => z)
  | dik b h l => exact .dik b (f.keep _ _ h rfl fun _ => hB _ b) (l.keep f hA fun _ z => z)
  | dit b h l => exact .dit b (f.keep _ _ h rfl fun _ => hB _ b) (l.keep f hA fun _ z => z)
theorem Rv.mono (hA : ∀ a, A a → A' a) (hB : ∀ a, B a → B' a) {v : V} {d : PyData} (h : Rv K H A B v d) : Rv K H A' B' v d := by
  cases h with
  | rp h => exact .rp (h.mono hA)
  | lst b h l => exact .lst (hB _ b) h (l.mono hA)
  | dik b h l => exact .dik (hB _ b) h (l.mono hA)
  | dit b h l => exact .dit (hB _ b) h (l.mono hA)
theorem Rv.clean {v : V} {d : PyData} (h : Rv K H A A v d) : Rp K H A v d := by
  cases h with
  | rp h => exact h
  | lst b h l => exact .lst b h l
  | dik b h l => exact .dik b h l
  | dit b h l => exact .dit b h l
theorem RpL.len : ∀ {vs : List V} {ds : List PyData}, RpL K H A vs ds → vs.length = ds.length
  | _, _, .nil => rfl
  | _, _, .cons _ t => by simp [RpL.len t]
theorem RpK.len : ∀ {vs : List (PyData × V)} {ds : List (PyData × PyData)}, RpK K H A vs ds → vs.length = ds.length
  | _, _, .nil => rfl
  | _, _, .cons _ t => by simp [RpK.len t]
theorem RpL.get : ∀ {vs : List V} {ds : List PyData} {i : Nat} {d : PyData}, RpL K H A vs ds → ds[i]? = some d → ∃ v, vs[i]? = some v ∧ Rp K H A v d
  | _, _, _, _, .nil, e => by simp at e
  | _, _, 0, _, .cons r _, e => by simp at e; subst e; exact ⟨_, rfl, r⟩
  | _, _, i + 1, d, .cons _ t, e => by
    obtain ⟨v, h1, h2⟩ := RpL.get (i := i) (d := d) t (by simpa using e)
    exact ⟨v, by simpa using h1, h2⟩
theorem RpL.getV : ∀ {vs : List V} {ds : List PyData} {i : Nat} {v : V}, RpL K H A vs ds → vs[i]? = some v → ∃ d, ds[i]? = some d ∧ Rp K H A v d
  | _, _, _, _, .nil, e => by simp at e
  | _, _, 0, _, .cons r _, e => by simp at e; subst e; exact ⟨_, rfl, r⟩
  | _, _, i + 1, d, .cons _ t, e => by
    obtain ⟨v, h1, h2⟩ := RpL.getV (i := i) (v := d) t (by simpa using e)
    exact ⟨v, by simpa using h1, h2⟩
theorem RpL.append : ∀ {vs ws : List V} {ds es : List PyData}, RpL K H A vs ds → RpL K H A ws es → RpL K H A (vs ++ ws) (ds ++ es)
  | _, _, _, _, .nil, s => s
  | _, _, _, _, .cons r t, s => .cons r (RpL.append t s)
theorem RpL.take : ∀ {vs : List V} {ds : List PyData} (n : Nat), RpL K H A vs ds → RpL K H A (vs.take n) (ds.take n)
  | _, _, 0, _ => .nil
  | _, _, _ + 1, .nil => .nil
  | _, _, n + 1, .cons r t => .cons r (RpL.take n t)
theorem RpL.drop : ∀ {vs : List V} {ds : List PyData} (n : Nat), RpL K H A vs ds → RpL K H A (vs.drop n) (ds.drop n)
  | _, _, 0, r => r
  | _, _, _ + 1, .nil => .nil
  | _, _, n + 1, .cons _ t => RpL.drop n t
theorem RpL.set {v : V} {d : PyData} (r : Rp K H A v d) : ∀ {vs : List V} {ds : List PyData} (i : Nat), RpL K H A vs ds → RpL K H A (vs.set i v) (ds.set i d)
  | _, _, _, .nil => .nil
  | _, _, 0, .cons _ t => .cons r t
  | _, _, i + 1, .cons q t => .cons q (RpL.set r i t)
theorem RpL.reverse : ∀ {vs : List V} {ds : List PyData}, RpL K H A vs ds → RpL K H A vs.reverse ds.reverse
  | _, _, .nil => .nil
  | _, _, .cons r t => by
    rw [List.reverse_cons, List.reverse_cons]
    exact (RpL.reverse t).append (.cons r .nil)
theorem RpL.erase : ∀ {vs : List V} {ds : List PyData} (i : Nat), RpL K H A vs ds → RpL K H A (vs.eraseIdx i) (ds.eraseIdx i)
  | _, _, _, .nil => .nil
  | _, _, 0, .cons _ t => t
  | _, _, i + 1, .cons q t => .cons q (RpL.erase i t)
theorem RpL.dropLast {vs : List V} {ds : List PyData} (h : RpL K H A vs ds) : RpL K H A vs.dropLast ds.dropLast := by
  rw [List.dropLast_eq_take, List.dropLast_eq_take, h.len]
  exact h.take _
end

/-! ### what is fixed while a def runs -/
structure DX where
  H0 : Hp
  F : Addr → Prop
  ha : Option (Addr × Addr)
  T : List (Addr × Str)
  fn : Addr × Addr × Str := (0, 0, "")
  exc : Addr := 0
def NH (ha : Option (Addr × Addr)) (a : Addr) : Prop := ∀ h, ha = some h → a ≠ h.1 ∧ a ≠ h.2
/-- the hand's address -/
def WH (ha : Option (Addr × Addr)) (a : Addr) : Prop := ∃ h, ha = some h ∧ a = h.1
theorem NH.not {ha : Option (Addr × Addr)} {a : Addr} (n : NH ha a) : ¬ WH ha a := fun ⟨h, e, z⟩ => (n h e).1 z
def Acl (G : DX) (own : List (Nat × Addr)) (a : Addr) : Prop := (G.F a ∨ G.H0 a = none) ∧ NH G.ha a ∧ ∀ p ∈ own, a ≠ p.2
def handL (ar : Addr) (S : HS) : List V := [.ref ar, .int S.pos, .int S.gr, .int S.mix, .int S.met]
structure Glob (ha : Option (Addr × Addr)) (T : List (Addr × Str)) (H : Hp) (S : HS) : Prop where
  hand : ∀ h, ha = some h → H h.1 = some (.lst (handL h.2 S)) ∧ H h.2 = some (.lst (S.rows.map V.int)) ∧ h.2 ≠ h.1
  tabs : LamX.Tabs T H
/-- what an owned slot holds -/
inductive RpOwn (K : PySem.W.Frag) (H : Hp) (A : Addr → Prop) (a : Addr) : PyData → Prop
  | lst {vs : List V} {ds : List PyData} : H a = some (.lst vs) → RpL K H A vs ds → RpOwn K H A a (.list ds)
  | dik {ks : List (Key × V)} {ds : List (PyData × PyData)} : H a = some (.dK ks) → RpK K H A (ks.map fun p => (keyD p.1, p.2)) ds → RpOwn K H A a (.dict ds)
  | dit {ks : List (List Key × V)} {ds : List (PyData × PyData)} : H a = some (.dT ks) → RpK K H A (ks.map fun p => (tupK p.1, p.2)) ds → RpOwn K H A a (.dict ds)
def SlotOk (K : PySem.W.Frag) (G : DX) (own : List (Nat × Addr)) (H : Hp) (i : Nat) (v : V) : Slot → Prop
  | .hnd => ∃ h, G.ha = some h ∧ v = .ref h.1
  | .lam => v = .ref G.fn.1 ∧ G.H0 G.fn.2.1 = some (LamX.CodeO G.fn.2.1 G.fn.2.2)
  | .exc => v = .ref G.exc
  | .scr l => G.ha = none ∧ ∃ a, v = .ref a ∧ SqL K G.H0 a (l.map V.int)
  | .dat d => (i ∉ own.map (·.1) → Rp K H (Acl G own) v d) ∧ ∀ a, (i, a) ∈ own → v = .ref a ∧ RpOwn K H (Acl G own) a d
structure SR (K : PySem.W.Frag) (G : DX) (own : List (Nat × Addr)) (σ : L2.St) (H : Hp) (ρ : Env) (S : HS) : Prop where
  glob : Glob G.ha G.T H S
  frm : Fr (WH G.ha) G.H0 H
  len : σ.length = ρ.length
  slot : ∀ (i : Nat) (sl : Slot), ρ[i]? = some (some sl) → ∃ v, σ[i]? = some (some v) ∧ SlotOk K G own H i v sl
  ow : ∀ p ∈ own, G.H0 p.2 = none ∧ NH G.ha p.2 ∧ H p.2 ≠ none
  nd : (own.map (·.2)).Nodup ∧ (own.map (·.1)).Nodup

theorem RpOwn.keep {K : PySem.W.Frag} {W A A' : Addr → Prop} {H H' : Hp} {a : Addr} {d : PyData} (f : Fr W H H') (hA : ∀ a, A a → ¬ W a) (hAA : ∀ a, A a → A' a) (ha : ¬ W a) (h : RpOwn K H A a d) : RpOwn K H' A' a d := by
  cases h with
  | lst h l => exact .lst (f.keep _ _ h rfl fun _ => ha) (l.keep f hA hAA)
  | dik h l => exact .dik (f.keep _ _ h rfl fun _ => ha) (l.keep f hA hAA)
  | dit h l => exact .dit (f.keep _ _ h rfl fun _ => ha) (l.keep f hA hAA)
theorem SR.keep {K : PySem.W.Frag} {G : DX} {own : List (Nat × Addr)} {σ : L2.St} {H H' : Hp} {ρ : Env} {S S' : HS} (r : SR K G own σ H ρ S) (f : Fr (WH G.ha) H H') (g : Glob G.ha G.T H' S') : SR K G own σ H' ρ S' where
  glob := g
  frm := r.frm.trans f
  len := r.len
  slot := fun i sl e => by
    obtain ⟨v, h1, h2⟩ := r.slot i sl e
    refine ⟨v, h1, ?_⟩
    cases sl with
    | hnd => exact h2
    | lam => exact h2
    | exc => exact h2
    | scr l => exact h2
    | dat d =>
      refine ⟨fun n => (h2.1 n).keep f (fun a z => z.2.1.not) fun _ z => z, fun a m => ⟨(h2.2 a m).1, (h2.2 a m).2.keep f (fun a z => z.2.1.not) (fun _ z => z) (r.ow _ m).2.1.not⟩⟩
  ow := fun p hp => ⟨(r.ow p hp).1, (r.ow p hp).2.1, f.dom _ (r.ow p hp).2.2⟩
  nd := r.nd
theorem SR.dom {K : PySem.W.Frag} {G : DX} {own : List (Nat × Addr)} {σ : L2.St} {H : Hp} {ρ : Env} {S : HS} (r : SR K G own σ H ρ S) : ∀ a, G.H0 a ≠ none → H a ≠ none := r.frm.dom
/-- what is free may be taken -/
theorem SR.free {K : PySem.W.Frag} {G : DX} {own : List (Nat × Addr)} {σ : L2.St} {H : Hp} {ρ : Env} {S : HS} (r : SR K G own σ H ρ S) {a : Addr} (h : H a = none) : Acl G own a := by
  refine ⟨.inr ?_, fun hh e => ⟨fun z => ?_, fun z => ?_⟩, fun p hp z => ?_⟩
  · cases q : G.H0 a with
    | none => rfl
    | some o => exact absurd h (r.dom a (by rw [q]; exact fun z => nomatch z))
  · rw [z, (r.glob.hand hh e).1] at h
    cases h
  · rw [z, (r.glob.hand hh e).2.1] at h
    cases h
  · exact (r.ow p hp).2.2 (z ▸ h)

/-! ### judgements -/
/-- how an error is wanted: c the name of its class -/
def errs (mg : Str → Option Value) (ha : Option (Addr × Addr)) (T : List (Addr × Str)) (W : Addr → Prop) (H : Hp) (E : XK) (c : Str) (S : HS) : Prop :=
  ∀ cls dd H', mg c = some cls ∧ dd = none → Fr W H H' → Glob ha T H' S → E cls dd H'
theorem errs.mono {mg : Str → Option Value} {ha : Option (Addr × Addr)} {T : List (Addr × Str)} {W : Addr → Prop} {H H1 : Hp} {E : XK} {c : Str} {S : HS} (h : errs mg ha T W H E c S) (f : Fr W H H1) : errs mg ha T W H1 E c S :=
  fun cls dd H' m g gl => h cls dd H' m (f.trans g) gl
def RetA (G : DX) (a : Addr) : Prop := G.F a ∨ G.H0 a = none
def BR (G : DX) (own : List (Nat × Addr)) (b : Bool) : Addr → Prop := if b then (fun a => RetA G a ∧ NH G.ha a) else Acl G own
theorem BR.nh {G : DX} {own : List (Nat × Addr)} {b : Bool} {a : Addr} (h : BR G own b a) : NH G.ha a := by
  cases b with
  | true => exact h.2
  | false => exact h.2.1
def tE (X : Cx) (G : DX) (E : XK) (O : List Nat) (b : Bool) (f : ED) : TE := fun σ H Q => ∃ (ρ : Env) (S : HS) (own : List (Nat × Addr)), own.map (·.1) = O ∧ SR X.K G own σ H ρ S ∧
  (f ρ S).post (fun d S' => ∀ v H', Fr (WH G.ha) H H' → Glob G.ha G.T H' S' → Rv X.K H' (Acl G own) (BR G own b) v d → Q v H') (errs X.mg G.ha G.T (WH G.ha) H E)
def DE (X : Cx) (G : DX) (E : XK) (O : List Nat) (b : Bool) (e : Expr) (f : ED) : Prop := PE X e (tE X G E O b f)
def tB (X : Cx) (G : DX) (E : XK) (O : List Nat) (f : BD) : TT := fun σ H Q => ∃ (ρ : Env) (S : HS) (own : List (Nat × Addr)), own.map (·.1) = O ∧ SR X.K G own σ H ρ S ∧
  (f ρ S).post (fun d S' => ∀ H', Fr (WH G.ha) H H' → Glob G.ha G.T H' S' → Q d H') (errs X.mg G.ha G.T (WH G.ha) H E)
def DT (X : Cx) (G : DX) (E : XK) (O : List Nat) (e : Expr) (f : BD) : Prop := PT X e (tB X G E O f)
/-- several values; R: how each lies -/
inductive RvL (K : PySem.W.Frag) (H : Hp) (A B : Addr → Prop) : List V → List PyData → Prop
  | nil : RvL K H A B [] []
  | cons {v : V} {vs : List V} {d : PyData} {ds : List PyData} : Rv K H A B v d → RvL K H A B vs ds → RvL K H A B (v :: vs) (d :: ds)
def tA (X : Cx) (G : DX) (E : XK) (O : List Nat) (b : Bool) (f : AD) : TA := fun σ H Q => ∃ (ρ : Env) (S : HS) (own : List (Nat × Addr)), own.map (·.1) = O ∧ SR X.K G own σ H ρ S ∧
  (f ρ S).post (fun ds S' => ∀ vs H', Fr (WH G.ha) H H' → Glob G.ha G.T H' S' → RvL X.K H' (Acl G own) (BR G own b) vs ds → Q vs H') (errs X.mg G.ha G.T (WH G.ha) H E)
def DA (X : Cx) (G : DX) (E : XK) (O : List Nat) (b : Bool) (es : List Expr) (f : AD) : Prop := PA X es (tA X G E O b f)

section
variable {X : Cx} {e : Expr}
theorem pe_imp {t t' : TE} (h : PE X e t) (hi : ∀ σ H Q, t' σ H Q → t σ H Q) : PE X e t' := ⟨fun pins s σ H Q I w => h.run pins s σ H Q I (hi _ _ _ w)⟩
theorem pt_imp {t t' : TT} (h : PT X e t) (hi : ∀ σ H Q, t' σ H Q → t σ H Q) : PT X e t' := ⟨fun pins s σ H Q I w => h.run pins s σ H Q I (hi _ _ _ w)⟩
theorem pa_imp {es : List Expr} {t t' : TA} (h : PA X es t) (hi : ∀ σ H Q, t' σ H Q → t σ H Q) : PA X es t' := ⟨fun pos pins s σ H Q I w => h.run pos pins s σ H Q I (hi _ _ _ w)⟩
theorem ps_imp {st : Stmt} {t t' : TS} (h : PS X st t) (hi : ∀ D σ H, t' D σ H → t D σ H) : PS X st t' := ⟨fun pins s σ H D I w => h.run pins s σ H D I (hi _ _ _ w)⟩
theorem pss_imp {st : List Stmt} {t t' : TS} (h : PSs X st t) (hi : ∀ D σ H, t' D σ H → t D σ H) : PSs X st t' := ⟨fun pins s σ H D I w => h.run pins s σ H D I (hi _ _ _ w)⟩
theorem opR_imp {f : Value → Value → Sem Value} {r r' : R2} (h : OpR X f r) (hi : ∀ x y H Q, r' x y H Q → r x y H Q) : OpR X f r' :=
  fun pins s σ H x y v u Q I r1 r2 w => h pins s σ H x y v u Q I r1 r2 (hi _ _ _ _ w)
theorem callR_imp {f : Value} {r r' : List V → Hp → VK → Prop} (h : CallR X f r) (hi : ∀ xs H Q, r' xs H Q → r xs H Q) : CallR X f r' :=
  fun pins s σ H xs us Q I r1 w => h pins s σ H xs us Q I r1 (hi _ _ _ w)
end

/-- one part evaluated, then the rest, in the reading of DL -/
theorem tE_step {X : Cx} {G : DX} {E : XK} {O : List Nat} {b : Bool} {f : ED} {σ : L2.St} {H : Hp} {ρ : Env} {S : HS} {own : List (Nat × Addr)} {Q : VK}
    (hO : own.map (·.1) = O) (r : SR X.K G own σ H ρ S) {P : PyData → HS → Prop} (h : (f ρ S).post P (errs X.mg G.ha G.T (WH G.ha) H E))
    (k : ∀ d S' v H', P d S' → Fr (WH G.ha) H H' → SR X.K G own σ H' ρ S' → Rv X.K H' (Acl G own) (BR G own b) v d → Q v H') : tE X G E O b f σ H Q :=
  ⟨ρ, S, own, hO, r, R.post_imp h (fun d S' p v H' fr gl rv => k d S' v H' p fr (r.keep fr gl) rv) fun _ _ z => z⟩
theorem tB_step {X : Cx} {G : DX} {E : XK} {O : List Nat} {f : BD} {σ : L2.St} {H : Hp} {ρ : Env} {S : HS} {own : List (Nat × Addr)} {Q : Bool → Hp → Prop}
    (hO : own.map (·.1) = O) (r : SR X.K G own σ H ρ S) {P : Bool → HS → Prop} (h : (f ρ S).post P (errs X.mg G.ha G.T (WH G.ha) H E))
    (k : ∀ d S' H', P d S' → Fr (WH G.ha) H H' → SR X.K G own σ H' ρ S' → Q d H') : tB X G E O f σ H Q :=
  ⟨ρ, S, own, hO, r, R.post_imp h (fun d S' p H' fr gl => k d S' H' p fr (r.keep fr gl)) fun _ _ z => z⟩
theorem tA_step {X : Cx} {G : DX} {E : XK} {O : List Nat} {b : Bool} {f : AD} {σ : L2.St} {H : Hp} {ρ : Env} {S : HS} {own : List (Nat × Addr)} {Q : List V → Hp → Prop}
    (hO : own.map (·.1) = O) (r : SR X.K G own σ H ρ S) {P : List PyData → HS → Prop} (h : (f ρ S).post P (errs X.mg G.ha G.T (WH G.ha) H E))
    (k : ∀ d S' v H', P d S' → Fr (WH G.ha) H H' → SR X.K G own σ H' ρ S' → RvL X.K H' (Acl G own) (BR G own b) v d → Q v H') : tA X G E O b f σ H Q :=
  ⟨ρ, S, own, hO, r, R.post_imp h (fun d S' p v H' fr gl rv => k d S' v H' p fr (r.keep fr gl) rv) fun _ _ z => z⟩
theorem RvL.keep {K : PySem.W.Frag} {W A B : Addr → Prop} {H H' : Hp} (f : Fr W H H') (hA : ∀ a, A a → ¬ W a) (hB : ∀ a, B a → ¬ W a) {vs : List V} {ds : List PyData} (h : RvL K H A B vs ds) : RvL K H' A B vs ds := by
  induction h with
  | nil => exact .nil
  | cons h _ ih => exact .cons (h.keep f hA hB) ih
theorem RvL.clean {K : PySem.W.Frag} {A : Addr → Prop} {H : Hp} {vs : List V} {ds : List PyData} (h : RvL K H A A vs ds) : RpL K H A vs ds := by
  induction h with
  | nil => exact .nil
  | cons h _ ih => exact .cons h.clean ih
theorem RvL.of {K : PySem.W.Frag} {A B : Addr → Prop} {H : Hp} : ∀ {vs : List V} {ds : List PyData}, RpL K H A vs ds → RvL K H A B vs ds
  | _, _, .nil => .nil
  | _, _, .cons h t => .cons (.rp h) (RvL.of t)
end DL

/-! DL: expressions. -/
namespace DL
open PySem PySem.Spec PyProof.Rows L2
theorem Glob.same {ha : Option (Addr × Addr)} {T : List (Addr × Str)} {H H' : Hp} {S : HS} (g : Glob ha T H S) (s : Same H H') : Glob ha T H' S :=
  ⟨fun h e => ⟨s _ _ (g.hand h e).1, s _ _ (g.hand h e).2.1, (g.hand h e).2.2⟩, g.tabs.ext s⟩

/-! ### combinators -/
def dLit (d : PyData) : ED := fun _ S => .ok d S
def dVar (i : Nat) : ED := fun ρ S => match ρ[i]? with
  | some (some (.dat d)) => .ok d S
  | _ => .bad
def dBin (g : PyData → PyData → Option PyData) (fa fb : ED) : ED := fun ρ S => (fa ρ S).bind fun x S => (fb ρ S).bind fun y S => M.opt (g x y) S
def dUn (g : PyData → Option PyData) (fa : ED) : ED := fun ρ S => (fa ρ S).bind fun x S => M.opt (g x) S
def toB : PyData → Option Bool
  | .bool b => some b
  | _ => none
def bOf (f : ED) : BD := fun ρ S => (f ρ S).bind fun x S => M.opt (toB x) S
def dOf (f : BD) : ED := fun ρ S => (f ρ S).bind fun x S => .ok (.bool x) S
def dChain (g g' : PyData → PyData → Option PyData) (fa fb fc : ED) : ED := fun ρ S => (fa ρ S).bind fun x S => (fb ρ S).bind fun y S => (M.opt (g x y) S).bind fun k S => (M.opt (toB k) S).bind fun k S =>
  if k = true then (fc ρ S).bind fun z S => M.opt (g' y z) S else .ok (.bool false) S
def bAnd (f g : BD) : BD := fun ρ S => (f ρ S).bind fun k S => if k = true then g ρ S else .ok false S
def bOr (f g : BD) : BD := fun ρ S => (f ρ S).bind fun k S => if k = true then .ok true S else g ρ S
def bNot (f : BD) : BD := fun ρ S => (f ρ S).bind fun k S => .ok (!k) S
def dAnd (f g : ED) : ED := fun ρ S => (f ρ S).bind fun k S => (M.opt (toB k) S).bind fun k S => if k = true then g ρ S else .ok (.bool false) S
def dOr (f g : ED) : ED := fun ρ S => (f ρ S).bind fun k S => (M.opt (toB k) S).bind fun k S => if k = true then .ok (.bool true) S else g ρ S
def dNot (f : ED) : ED := fun ρ S => (f ρ S).bind fun k S => (M.opt (toB k) S).bind fun k S => .ok (.bool (!k)) S
def dIf (c : BD) (f g : ED) : ED := fun ρ S => (c ρ S).bind fun k S => if k = true then f ρ S else g ρ S
def dNil : AD := fun _ S => .ok [] S
def dCons (f : ED) (g : AD) : AD := fun ρ S => (f ρ S).bind fun x S => (g ρ S).bind fun xs S => .ok (x :: xs) S
def dCB (g : List PyData → Option PyData) (f : AD) : ED := fun ρ S => (f ρ S).bind fun xs S => M.opt (g xs) S

theorem post_opt {α : Type} {o : Option α} {S : HS} {P : α → HS → Prop} {E : Str → HS → Prop} (h : (M.opt o S).post P E) : ∃ a, o = some a ∧ P a S := by
  cases o with
  | none => exact h.elim
  | some a => exact ⟨a, rfl, h⟩
theorem rv_bool {K : PySem.W.Frag} {A B : Addr → Prop} {H : Hp} {v : V} {b : Bool} (h : Rv K H A B v (.bool b)) : v = .bl b := by
  cases h with
  | rp h => cases h; rfl
theorem rv_int {K : PySem.W.Frag} {A B : Addr → Prop} {H : Hp} {v : V} {b : Int} (h : Rv K H A B v (.int b)) : v = .int b := by
  cases h with
  | rp h => cases h; rfl
theorem rv_str {K : PySem.W.Frag} {A B : Addr → Prop} {H : Hp} {v : V} {b : Str} (h : Rv K H A B v (.str b)) : v = .str b := by
  cases h with
  | rp h => cases h; rfl
theorem rv_none {K : PySem.W.Frag} {A B : Addr → Prop} {H : Hp} {v : V} (h : Rv K H A B v .none) : v = .non := by
  cases h with
  | rp h => cases h; rfl
theorem rv_list {K : PySem.W.Frag} {A B : Addr → Prop} {H : Hp} {v : V} {ds : List PyData} (h : Rv K H A B v (.list ds)) : ∃ a vs, v = .ref a ∧ H a = some (.lst vs) ∧ RpL K H A vs ds := by
  cases h with
  | rp h => cases h with | lst a h l => exact ⟨_, _, rfl, h, l⟩
  | lst a h l => exact ⟨_, _, rfl, h, l⟩
theorem rv_tuple {K : PySem.W.Frag} {A B : Addr → Prop} {H : Hp} {v : V} {ds : List PyData} (h : Rv K H A B v (.tuple ds)) : ∃ a vs, v = .ref a ∧ H a = some (.tup vs) ∧ RpL K H A vs ds := by
  cases h with
  | rp h => cases h with | tup h l => exact ⟨_, _, rfl, h, l⟩
theorem toB_some {d : PyData} {k : Bool} (h : toB d = some k) : d = .bool k := by
  cases d <;> simp [toB] at h
  rw [h]

section
variable {X : Cx} {G : DX} {E : XK} {O : List Nat} {b : Bool} {e e1 e2 e3 : Expr} {pos : Pos} {f f1 f2 f3 : ED}
theorem de_const {v : V} {d : PyData} (h : PE X e (tC v)) (hd : ∀ H A, Rp X.K H A v d) : DE X G E O b e (dLit d) := by
  refine pe_imp h fun σ H Q q => ?_
  obtain ⟨ρ, S, own, _, r, p⟩ := q
  exact p v H (Fr.refl _ _) r.glob (.rp (hd _ _))
theorem de_int {i : Int} {j : _} : DE X G E O b (.Constant (.int i) j pos) (dLit (.int i)) := de_const pe_int fun _ _ => .int i
theorem de_bl {i : Bool} {j : _} : DE X G E O b (.Constant (.bool i) j pos) (dLit (.bool i)) := de_const pe_bl fun _ _ => .bl i
theorem de_non {j : _} : DE X G E O b (.Constant .none j pos) (dLit .none) := de_const pe_non fun _ _ => .non
theorem de_str {i : Str} {j : _} : DE X G E O b (.Constant (.str i) j pos) (dLit (.str i)) := de_const pe_str fun _ _ => .str i
/-- a name of a slot that is not owned -/
theorem de_var (i : Nat) (hi : i ∉ O) (h : PE X e (tVar i)) : DE X G E O b e (dVar i) := by
  refine pe_imp h fun σ H Q q => ?_
  obtain ⟨ρ, S, own, hO, r, p⟩ := q
  unfold dVar at p
  split at p
  · rename_i d hd
    obtain ⟨v, h1, h2⟩ := r.slot _ _ hd
    exact ⟨v, h1, p v H (Fr.refl _ _) r.glob (.rp (h2.1 (by rw [hO]; exact hi)))⟩
  · exact p.elim
/-- .. of any slot, looked at only -/
theorem de_varB (i : Nat) (h : PE X e (tVar i)) : DE X G E O true e (dVar i) := by
  refine pe_imp h fun σ H Q q => ?_
  obtain ⟨ρ, S, own, hO, r, p⟩ := q
  unfold dVar at p
  split at p
  · rename_i d hd
    obtain ⟨v, h1, h2⟩ := r.slot _ _ hd
    refine ⟨v, h1, p v H (Fr.refl _ _) r.glob ?_⟩
    by_cases hi : i ∈ own.map (·.1)
    · obtain ⟨⟨j, a⟩, hm, rfl⟩ := List.mem_map.mp hi
      obtain ⟨rfl, ho⟩ := h2.2 a hm
      have nh : RetA G a ∧ NH G.ha a := ⟨.inr (r.ow _ hm).1, (r.ow _ hm).2.1⟩
      cases ho with
      | lst q l => exact .lst nh q l
      | dik q l => exact .dik nh q l
      | dit q l => exact .dit nh q l
    · exact .rp (h2.1 hi)
  · exact p.elim
theorem de_b (h : DE X G E O false e f) : DE X G E O true e f := by
  refine pe_imp h fun σ H Q q => ?_
  obtain ⟨ρ, S, own, hO, r, p⟩ := q
  exact ⟨ρ, S, own, hO, r, R.post_imp p (fun d S' k v H' fr gl rv => k v H' fr gl (rv.mono (fun _ z => z) fun a z => ⟨z.1, z.2.1⟩)) fun _ _ z => z⟩

/-! ### an operation on values, by data -/
def rD (K : PySem.W.Frag) (g : PyData → PyData → Option PyData) : R2 := fun x y H Q => ∃ (A B : Addr → Prop) (dx dy : PyData), Rv K H A B x dx ∧ Rv K H A B y dy ∧ (∀ a, H a = none → A a) ∧
  ∃ d, g dx dy = some d ∧ ∀ v H', Same H H' → Rp K H' A v d → Q v H'
theorem fin_op {K : PySem.W.Frag} {own : List (Nat × Addr)} {ρ : Env} {S : HS} {σ : L2.St} {H : Hp} {Q : VK} {d : PyData} (r : SR K G own σ H ρ S)
    (p : ∀ v H', Fr (WH G.ha) H H' → Glob G.ha G.T H' S → Rv K H' (Acl G own) (BR G own b) v d → Q v H') : ∀ v H', Same H H' → Rp K H' (Acl G own) v d → Q v H' :=
  fun v H' s rp => p v H' (.of_same s) (r.glob.same s) (.rp rp)
theorem de_bin {op : Operator} {g : PyData → PyData → Option PyData} (ho : OpR X (binaryOp op) (rD X.K g)) (h1 : DE X G E O true e1 f1) (h2 : DE X G E O true e2 f2) : DE X G E O b (.BinOp e1 op e2 pos) (dBin g f1 f2) := by
  refine pe_imp (pe_op ho h1 h2) fun σ H Q q => ?_
  obtain ⟨ρ, S, own, hO, r, p⟩ := q
  refine tE_step hO r (R.post_bind p) fun d1 S1 v1 H1 p1 fr1 r1 rv1 => ?_
  refine tE_step hO r1 (R.post_imp (R.post_bind p1) (fun _ _ z => z) fun _ _ z => z.mono fr1) fun d2 S2 v2 H2 p2 fr2 r2 rv2 => ?_
  obtain ⟨d, hd, p3⟩ := post_opt p2
  exact ⟨Acl G own, BR G own true, d1, d2, rv1.keep fr2 (fun a z => z.2.1.not) (fun a z => z.nh.not), rv2, fun a z => r2.free z, d, hd,
    fin_op r2 fun v H' fr gl rv => p3 v H' (fr1.trans (fr2.trans fr)) gl rv⟩
theorem de_cmp {op : CmpOp} {g : PyData → PyData → Option PyData} (ho : OpR X (compareOp op) (rD X.K g)) (h1 : DE X G E O true e1 f1) (h2 : DE X G E O true e2 f2) (hm : behindInMarks op e2 = false) :
    DE X G E O b (.Compare e1 [op] [e2] pos) (dBin g f1 f2) := by
  refine pe_imp (pe_cmpR ho h1 h2 hm) fun σ H Q q => ?_
  obtain ⟨ρ, S, own, hO, r, p⟩ := q
  refine tE_step hO r (R.post_bind p) fun d1 S1 v1 H1 p1 fr1 r1 rv1 => ?_
  refine tE_step hO r1 (R.post_imp (R.post_bind p1) (fun _ _ z => z) fun _ _ z => z.mono fr1) fun d2 S2 v2 H2 p2 fr2 r2 rv2 => ?_
  obtain ⟨d, hd, p3⟩ := post_opt p2
  exact ⟨Acl G own, BR G own true, d1, d2, rv1.keep fr2 (fun a z => z.2.1.not) (fun a z => z.nh.not), rv2, fun a z => r2.free z, d, hd,
    fin_op r2 fun v H' fr gl rv => p3 v H' (fr1.trans (fr2.trans fr)) gl rv⟩
theorem dt_cmp {op : CmpOp} {g : PyData → PyData → Option PyData} (ho : OpR X (compareOp op) (rD X.K g)) (h1 : DE X G E O true e1 f1) (h2 : DE X G E O true e2 f2) (hm : behindInMarks op e2 = false) :
    DT X G E O (.Compare e1 [op] [e2] pos) (bOf (dBin g f1 f2)) := by
  refine pt_imp (pt_cmpR ho h1 h2 hm) fun σ H Q q => ?_
  obtain ⟨ρ, S, own, hO, r, p⟩ := q
  refine tE_step hO r (R.post_bind (R.post_bind p)) fun d1 S1 v1 H1 p1 fr1 r1 rv1 => ?_
  refine tE_step hO r1 (R.post_imp (R.post_bind p1) (fun _ _ z => z) fun _ _ z => z.mono fr1) fun d2 S2 v2 H2 p2 fr2 r2 rv2 => ?_
  obtain ⟨d, hd, p3⟩ := post_opt p2
  obtain ⟨k, hk, p4⟩ := post_opt p3
  cases toB_some hk
  refine ⟨Acl G own, BR G own true, d1, d2, rv1.keep fr2 (fun a z => z.2.1.not) (fun a z => z.nh.not), rv2, fun a z => r2.free z, _, hd, fun v H' s rp => ?_⟩
  cases rp
  exact ⟨k, rfl, p4 H' (fr1.trans (fr2.trans (.of_same s))) (r2.glob.same s)⟩
theorem chain_core {g g' : PyData → PyData → Option PyData} {σ : L2.St} {H : Hp} {Q : VK} {ρ : Env} {S : HS} {own : List (Nat × Addr)} (hO : own.map (·.1) = O) (r : SR X.K G own σ H ρ S)
    (p : (dChain g g' f1 f2 f3 ρ S).post (fun d S' => ∀ v H', Fr (WH G.ha) H H' → Glob G.ha G.T H' S' → Rv X.K H' (Acl G own) (BR G own b) v d → Q v H') (errs X.mg G.ha G.T (WH G.ha) H E)) :
    tChain (rD X.K g) (rD X.K g') (tE X G E O true f1) (tE X G E O true f2) (tE X G E O true f3) σ H Q := by
  refine tE_step hO r (R.post_bind p) fun d1 S1 v1 H1 p1 fr1 r1 rv1 => ?_
  refine tE_step hO r1 (R.post_imp (R.post_bind p1) (fun _ _ z => z) fun _ _ z => z.mono fr1) fun d2 S2 v2 H2 p2 fr2 r2 rv2 => ?_
  obtain ⟨d, hd, p3⟩ := post_opt (R.post_bind p2)
  obtain ⟨k, hk, p4⟩ := post_opt (R.post_bind p3)
  cases toB_some hk
  refine ⟨Acl G own, BR G own true, d1, d2, rv1.keep fr2 (fun a z => z.2.1.not) (fun a z => z.nh.not), rv2, fun a z => r2.free z, _, hd, fun v H3 s rp => ?_⟩
  cases rp
  refine ⟨k, rfl, ?_⟩
  have fr3 : Fr (WH G.ha) H2 H3 := .of_same s
  have r3 := r2.keep fr3 (r2.glob.same s)
  cases k with
  | false =>
    simp only [Bool.false_eq_true, if_false] at p4 ⊢
    exact p4 _ H3 (fr1.trans (fr2.trans fr3)) r3.glob (.rp (.bl false))
  | true =>
    simp only [if_true] at p4 ⊢
    refine tE_step hO r3 (R.post_imp (R.post_bind p4) (fun _ _ z => z) fun _ _ z => z.mono (fr1.trans (fr2.trans fr3))) fun d4 S4 v4 H4 p5 fr4 r4 rv4 => ?_
    obtain ⟨d5, hd5, p6⟩ := post_opt p5
    exact ⟨Acl G own, BR G own true, d2, d4, (rv2.keep fr3 (fun a z => z.2.1.not) (fun a z => z.nh.not)).keep fr4 (fun a z => z.2.1.not) (fun a z => z.nh.not), rv4, fun a z => r4.free z, d5, hd5,
      fin_op r4 fun v H' fr gl rv => p6 v H' (fr1.trans (fr2.trans (fr3.trans (fr4.trans fr)))) gl rv⟩
theorem de_chain {op op' : CmpOp} {g g' : PyData → PyData → Option PyData} (ho : OpR X (compareOp op) (rD X.K g)) (ho' : OpR X (compareOp op') (rD X.K g')) (h1 : DE X G E O true e1 f1) (h2 : DE X G E O true e2 f2) (h3 : DE X G E O true e3 f3)
    (hm : lastMarks [op, op'] [e2, e3] = false := by with_unfolding_all rfl) : DE X G E O b (.Compare e1 [op, op'] [e2, e3] pos) (dChain g g' f1 f2 f3) := by
  refine pe_imp (pe_chain ho ho' h1 h2 h3 hm) fun σ H Q q => ?_
  obtain ⟨ρ, S, own, hO, r, p⟩ := q
  exact chain_core hO r p
theorem dt_chain {op op' : CmpOp} {g g' : PyData → PyData → Option PyData} (ho : OpR X (compareOp op) (rD X.K g)) (ho' : OpR X (compareOp op') (rD X.K g')) (h1 : DE X G E O true e1 f1) (h2 : DE X G E O true e2 f2) (h3 : DE X G E O true e3 f3)
    (hm : lastMarks [op, op'] [e2, e3] = false := by with_unfolding_all rfl) : DT X G E O (.Compare e1 [op, op'] [e2, e3] pos) (bOf (dChain g g' f1 f2 f3)) := by
  refine pt_imp (pt_chain ho ho' h1 h2 h3 hm) fun σ H Q q => ?_
  obtain ⟨ρ, S, own, hO, r, p⟩ := q
  refine chain_core (b := true) hO r (R.post_imp (R.post_bind p) (fun d S' z v H' fr gl rv => ?_) fun _ _ z => z)
  obtain ⟨k, hk, p4⟩ := post_opt z
  cases toB_some hk
  exact ⟨k, rv_bool rv, p4 H' fr gl⟩

/-! ### truth -/
theorem dt_val (h : DE X G E O true e f) (he : ∀ whole, isTrue e X.env whole = (do let v ← whole; standAt e.pos; holding [v] (truthy v)) := by intro _; rfl) : DT X G E O e (bOf f) := by
  refine pt_imp (pt_val h he) fun σ H Q q => ?_
  obtain ⟨ρ, S, own, hO, r, p⟩ := q
  refine tE_step hO r (R.post_bind p) fun d1 S1 v1 H1 p1 fr1 r1 rv1 => ?_
  obtain ⟨k, hk, p4⟩ := post_opt p1
  cases toB_some hk
  exact ⟨k, rv_bool rv1, p4 H1 fr1 r1.glob⟩
def DW (X : Cx) (G : DX) (E : XK) (O : List Nat) (e : Expr) (f : BD) : Prop := PW X e (tB X G E O f)
theorem DW.dt {g : BD} (h : DW X G E O e g) : DT X G E O e g := PW.pt h
theorem pw_imp {t t' : TT} (h : PW X e t) (hi : ∀ σ H Q, t' σ H Q → t σ H Q) : PW X e t' := ⟨fun wh pins s σ H Q I w => h.run wh pins s σ H Q I (hi _ _ _ w)⟩
variable {g g1 g2 : BD} {rest : List Expr}
theorem dw_and1 (h : DT X G E O e g) : DW X G E O (.BoolOp .And [e] pos) g := pw_and1 h
theorem dw_or1 (h : DT X G E O e g) : DW X G E O (.BoolOp .Or [e] pos) g := pw_or1 h
theorem dw_and (h : DT X G E O e1 g1) (h2 : DW X G E O (.BoolOp .And (e2 :: rest) pos) g2) : DW X G E O (.BoolOp .And (e1 :: e2 :: rest) pos) (bAnd g1 g2) := by
  refine pw_imp (pw_and h h2) fun σ H Q q => ?_
  obtain ⟨ρ, S, own, hO, r, p⟩ := q
  refine tB_step hO r (R.post_bind p) fun d1 S1 H1 p1 fr1 r1 => ?_
  cases d1 with
  | true =>
    simp only [if_true] at p1 ⊢
    exact tB_step hO r1 (R.post_imp p1 (fun _ _ z => z) fun _ _ z => z.mono fr1) fun d2 S2 H2 p2 fr2 r2 => p2 H2 (fr1.trans fr2) r2.glob
  | false =>
    simp only [Bool.false_eq_true, if_false] at p1 ⊢
    exact p1 H1 fr1 r1.glob
theorem dw_or (h : DT X G E O e1 g1) (h2 : DW X G E O (.BoolOp .Or (e2 :: rest) pos) g2) : DW X G E O (.BoolOp .Or (e1 :: e2 :: rest) pos) (bOr g1 g2) := by
  refine pw_imp (pw_or h h2) fun σ H Q q => ?_
  obtain ⟨ρ, S, own, hO, r, p⟩ := q
  refine tB_step hO r (R.post_bind p) fun d1 S1 H1 p1 fr1 r1 => ?_
  cases d1 with
  | true =>
    simp only [if_true] at p1 ⊢
    exact p1 H1 fr1 r1.glob
  | false =>
    simp only [Bool.false_eq_true, if_false] at p1 ⊢
    exact tB_step hO r1 (R.post_imp p1 (fun _ _ z => z) fun _ _ z => z.mono fr1) fun d2 S2 H2 p2 fr2 r2 => p2 H2 (fr1.trans fr2) r2.glob
theorem dt_not (h : DT X G E O e g) : DT X G E O (.UnaryOp .Not e pos) (bNot g) := by
  refine pt_imp (pt_not h) fun σ H Q q => ?_
  obtain ⟨ρ, S, own, hO, r, p⟩ := q
  exact tB_step hO r (R.post_bind p) fun d1 S1 H1 p1 fr1 r1 => p1 H1 fr1 r1.glob
theorem de_one {op : BoolOp} (h : DE X G E O b e f) : DE X G E O b (.BoolOp op [e] pos) f := pe_one h
theorem de_and (h : DE X G E O true e1 f1) (h2 : DE X G E O b (.BoolOp .And (e2 :: rest) pos) f2) : DE X G E O b (.BoolOp .And (e1 :: e2 :: rest) pos) (dAnd f1 f2) := by
  refine pe_imp (pe_and h h2) fun σ H Q q => ?_
  obtain ⟨ρ, S, own, hO, r, p⟩ := q
  refine tE_step hO r (R.post_bind p) fun d1 S1 v1 H1 p1 fr1 r1 rv1 => ?_
  obtain ⟨k, hk, p4⟩ := post_opt (R.post_bind p1)
  cases toB_some hk
  refine ⟨k, rv_bool rv1, ?_⟩
  cases k with
  | true =>
    simp only [if_true] at p4 ⊢
    exact tE_step hO r1 (R.post_imp p4 (fun _ _ z => z) fun _ _ z => z.mono fr1) fun d2 S2 v2 H2 p2 fr2 r2 rv2 => p2 v2 H2 (fr1.trans fr2) r2.glob rv2
  | false =>
    simp only [Bool.false_eq_true, if_false] at p4 ⊢
    exact p4 _ H1 fr1 r1.glob (.rp (.bl false))
theorem de_or (h : DE X G E O true e1 f1) (h2 : DE X G E O b (.BoolOp .Or (e2 :: rest) pos) f2) : DE X G E O b (.BoolOp .Or (e1 :: e2 :: rest) pos) (dOr f1 f2) := by
  refine pe_imp (pe_or h h2) fun σ H Q q => ?_
  obtain ⟨ρ, S, own, hO, r, p⟩ := q
  refine tE_step hO r (R.post_bind p) fun d1 S1 v1 H1 p1 fr1 r1 rv1 => ?_
  obtain ⟨k, hk, p4⟩ := post_opt (R.post_bind p1)
  cases toB_some hk
  refine ⟨k, rv_bool rv1, ?_⟩
  cases k with
  | false =>
    simp only [Bool.false_eq_true, if_false] at p4 ⊢
    exact tE_step hO r1 (R.post_imp p4 (fun _ _ z => z) fun _ _ z => z.mono fr1) fun d2 S2 v2 H2 p2 fr2 r2 rv2 => p2 v2 H2 (fr1.trans fr2) r2.glob rv2
  | true =>
    simp only [if_true] at p4 ⊢
    exact p4 _ H1 fr1 r1.glob (.rp (.bl true))
theorem de_not (h : DE X G E O true e f) : DE X G E O b (.UnaryOp .Not e pos) (dNot f) := by
  refine pe_imp (pe_not h) fun σ H Q q => ?_
  obtain ⟨ρ, S, own, hO, r, p⟩ := q
  refine tE_step hO r (R.post_bind p) fun d1 S1 v1 H1 p1 fr1 r1 rv1 => ?_
  obtain ⟨k, hk, p4⟩ := post_opt (R.post_bind p1)
  cases toB_some hk
  exact ⟨k, rv_bool rv1, p4 _ H1 fr1 r1.glob (.rp (.bl _))⟩
theorem de_if (hc : DT X G E O e g) (h1 : DE X G E O b e1 f1) (h2 : DE X G E O b e2 f2) : DE X G E O b (.IfExp e e1 e2 pos) (dIf g f1 f2) := by
  refine pe_imp (pe_ifExp hc h1 h2) fun σ H Q q => ?_
  obtain ⟨ρ, S, own, hO, r, p⟩ := q
  refine tB_step hO r (R.post_bind p) fun d1 S1 H1 p1 fr1 r1 => ?_
  cases d1 with
  | true =>
    simp only [if_true] at p1 ⊢
    exact tE_step hO r1 (R.post_imp p1 (fun _ _ z => z) fun _ _ z => z.mono fr1) fun d2 S2 v2 H2 p2 fr2 r2 rv2 => p2 v2 H2 (fr1.trans fr2) r2.glob rv2
  | false =>
    simp only [Bool.false_eq_true, if_false] at p1 ⊢
    exact tE_step hO r1 (R.post_imp p1 (fun _ _ z => z) fun _ _ z => z.mono fr1) fun d2 S2 v2 H2 p2 fr2 r2 rv2 => p2 v2 H2 (fr1.trans fr2) r2.glob rv2

/-! ### unary minus -/
def negD : PyData → Option PyData
  | .int i => some (.int (-i))
  | _ => none
theorem de_neg (h : DE X G E O true e f) : DE X G E O b (.UnaryOp .USub e pos) (dUn negD f) := by
  refine pe_imp (pe_un un_neg h) fun σ H Q q => ?_
  obtain ⟨ρ, S, own, hO, r, p⟩ := q
  refine tE_step hO r (R.post_bind p) fun d1 S1 v1 H1 p1 fr1 r1 rv1 => ?_
  obtain ⟨d, hd, p4⟩ := post_opt p1
  cases d1 <;> simp [negD] at hd
  subst hd
  exact ⟨_, rv_int rv1, p4 _ H1 fr1 r1.glob (.rp (.int _))⟩

/-! ### lists of arguments, displays -/
variable {es : List Expr} {fs : AD}
theorem da_nil : DA X G E O b [] dNil := by
  refine pa_imp pa_nil fun σ H Q q => ?_
  obtain ⟨ρ, S, own, hO, r, p⟩ := q
  exact p [] H (Fr.refl _ _) r.glob .nil
theorem da_cons (h : DE X G E O b e f) (hs : DA X G E O b es fs) (hst : starEach (e :: es) X.env = (false, eval e X.env) :: starEach es X.env := by rfl) : DA X G E O b (e :: es) (dCons f fs) := by
  refine pa_imp (pa_cons h hs hst) fun σ H Q q => ?_
  obtain ⟨ρ, S, own, hO, r, p⟩ := q
  refine tE_step hO r (R.post_bind p) fun d1 S1 v1 H1 p1 fr1 r1 rv1 => ?_
  refine tA_step hO r1 (R.post_imp (R.post_bind p1) (fun _ _ z => z) fun _ _ z => z.mono fr1) fun d2 S2 v2 H2 p2 fr2 r2 rv2 => ?_
  exact p2 _ H2 (fr1.trans fr2) r2.glob (.cons (rv1.keep fr2 (fun a z => z.2.1.not) fun a z => z.nh.not) rv2)
end
end DL

/-! DL: operations on values. -/
namespace DL
open PySem PySem.Spec PyProof.Rows L2

/-- a line that all lengths keep below -/
abbrev LINE : Nat := 16777216
theorem line_le {n : Nat} (h : n ≤ LINE) : n ≤ sizeLine := by rw [sizeLine_eq]; exact h
theorem le_line {n : Nat} (h : n ≤ sizeLine) : n ≤ LINE := by rw [sizeLine_eq] at h; exact h
def CMulB (i j : Int) : Bool := (decide (-18446744073709551616 < i) && decide (i < 18446744073709551616)) || (decide (-18446744073709551616 < j) && decide (j < 18446744073709551616))
theorem CMulB.ok {i j : Int} (h : CMulB i j = true) : CMul i j := by
  unfold CMulB at h
  simp only [Bool.or_eq_true, Bool.and_eq_true, decide_eq_true_eq] at h
  rcases h with ⟨h1, h2⟩ | ⟨h1, h2⟩
  · exact .inl ⟨by omega, by omega⟩
  · exact .inr ⟨by omega, by omega⟩

def addD : PyData → PyData → Option PyData
  | .int i, .int j => some (.int (i + j))
  | .str x, .str y => if x.length + y.length ≤ LINE then some (.str (x ++ y)) else none
  | .list xs, .list ys => if xs.length + ys.length ≤ LINE then some (.list (xs ++ ys)) else none
  | .tuple xs, .tuple ys => if xs.length + ys.length ≤ LINE then some (.tuple (xs ++ ys)) else none
  | _, _ => none
def subD : PyData → PyData → Option PyData
  | .int i, .int j => some (.int (i - j))
  | _, _ => none
def mulD : PyData → PyData → Option PyData
  | .int i, .int j => if CMulB i j then some (.int (i * j)) else none
  | .list xs, .int k => if k < 9223372036854775808 ∧ -9223372036854775808 ≤ k ∧ xs.length * k.toNat ≤ LINE then some (.list (List.replicate k.toNat xs).flatten) else none
  | .tuple xs, .int k => if xs ≠ [] ∧ 2 ≤ k ∧ k ≤ 1000 ∧ xs.length ≤ 1000 then some (.tuple (List.replicate k.toNat xs).flatten) else none
  | _, _ => none
def divD : PyData → PyData → Option PyData
  | .int i, .int j => if 0 < j ∧ j < 1073741824 then some (.int (i / j)) else none
  | _, _ => none
def modD : PyData → PyData → Option PyData
  | .int i, .int j => if 0 < j then some (.int (i % j)) else none
  | _, _ => none
def powD : PyData → PyData → Option PyData
  | .int i, .int j => if 0 ≤ j ∧ j ≤ 1000000 ∧ i.natAbs < 18446744073709551616 then some (.int (i ^ j.toNat)) else none
  | _, _ => none
def ltD : PyData → PyData → Option PyData
  | .int i, .int j => some (.bool (decide (i < j)))
  | _, _ => none
def leD : PyData → PyData → Option PyData
  | .int i, .int j => some (.bool (decide (i ≤ j)))
  | _, _ => none
def gtD : PyData → PyData → Option PyData
  | .int i, .int j => some (.bool (decide (j < i)))
  | _, _ => none
def geD : PyData → PyData → Option PyData
  | .int i, .int j => some (.bool (decide (j ≤ i)))
  | _, _ => none
def eqD (x y : PyData) : Option PyData := if SeqAt.shaped x = true ∧ SeqAt.shaped y = true then some (.bool (PyData.eqv x y)) else none
def neD (x y : PyData) : Option PyData := if SeqAt.shaped x = true ∧ SeqAt.shaped y = true then some (.bool (!PyData.eqv x y)) else none
def isNone : PyData → Bool
  | .none => true
  | _ => false
/-- is None, is True, is False -/
def isD : PyData → PyData → Option PyData
  | x, .none => some (.bool (isNone x))
  | .bool a, .bool b => some (.bool (decide (a = b)))
  | _, _ => none
def isNotD : PyData → PyData → Option PyData
  | x, .none => some (.bool (!isNone x))
  | .bool a, .bool b => some (.bool (!decide (a = b)))
  | _, _ => none

section
variable {K : PySem.W.Frag} {A B : Addr → Prop} {H : Hp} {v : V} {d : PyData}
mutual
theorem Rp.dp : ∀ {d : PyData} {v : V}, Rp K H A v d → d.canLay0 = true → Dp K H v d
  | .none, _, h, _ => by cases h; exact .non
  | .bool b, _, h, _ => by cases h; exact .bl _
  | .int b, _, h, _ => by cases h; exact .int _
  | .str b, _, h, _ => by cases h; exact .str _
  | .list ds, _, h, c => by
    cases h with
    | lst a h l => exact .lst (SqL.of h) (RpL.dp l (by simpa [PyData.canLay0] using c))
  | .tuple ds, _, h, c => by
    cases h with
    | tup h l => exact .tup (SqT.of h) (RpL.dp l (by simpa [PyData.canLay0] using c))
  | .dict _, _, _, c => by simp [PyData.canLay0] at c
theorem RpL.dp : ∀ {ds : List PyData} {vs : List V}, RpL K H A vs ds → PyData.canLayAll0 ds = true → DpAll K H vs ds
  | [], _, h, _ => by cases h; exact .nil
  | d :: ds, _, h, c => by
    have c' : d.canLay0 = true ∧ PyData.canLayAll0 ds = true := by simpa [PyData.canLayAll0] using c
    cases h with
    | cons h1 h2 => exact .cons (Rp.dp h1 c'.1) (RpL.dp h2 c'.2)
end
theorem Rv.dp (h : Rv K H A B v d) (c : d.canLay0 = true) : Dp K H v d := by
  cases h with
  | rp h => exact h.dp c
  | lst b h l => exact .lst (SqL.of h) (l.dp (by simpa [PyData.canLay0] using c))
  | dik => simp [PyData.canLay0] at c
  | dit => simp [PyData.canLay0] at c
theorem upd_same_of {p : Addr} {o : HO} (h : H p = none) : Same H (upd H p o) := fun b u e => by rw [upd_ne (ne_of_none e h)]; exact e
/-- a new list, a new tuple of things that are there -/
theorem Rp.newL {p : Addr} {vs : List V} {ds : List PyData} (hp : H p = none) (a : A p) (l : RpL K H A vs ds) : Rp K (upd H p (.lst vs)) A (.ref p) (.list ds) :=
  .lst a upd_same (l.same (upd_same_of hp))
theorem Rp.newT {p : Addr} {vs : List V} {ds : List PyData} (hp : H p = none) (l : RpL K H A vs ds) : Rp K (upd H p (.tup vs)) A (.ref p) (.tuple ds) :=
  .tup upd_same (l.same (upd_same_of hp))
theorem RpL.rep {vs : List V} {ds : List PyData} (l : RpL K H A vs ds) : ∀ k : Nat, RpL K H A (List.replicate k vs).flatten (List.replicate k ds).flatten
  | 0 => .nil
  | k + 1 => by
    rw [List.replicate_succ, List.replicate_succ, List.flatten_cons, List.flatten_cons]
    exact l.append (RpL.rep l k)
theorem RpL.nil_iff {vs : List V} {ds : List PyData} (l : RpL K H A vs ds) : vs = [] ↔ ds = [] := by
  cases l with
  | nil => simp
  | cons _ _ => simp
end

section
variable {X : Cx}
theorem od_int {f : Value → Value → Sem Value} {C : Int → Int → Prop} {g : Int → Int → V} {gd : PyData → PyData → Option PyData} (h : OpR X f (rI C g))
    (hg : ∀ dx dy d, gd dx dy = some d → ∃ i j, dx = .int i ∧ dy = .int j ∧ C i j ∧ ∀ H A, Rp X.K H A (g i j) d) : OpR X f (rD X.K gd) :=
  opR_imp h fun x y H Q ⟨A, B, dx, dy, rx, ry, _, d, e, q⟩ => by
    obtain ⟨i, j, rfl, rfl, c, r⟩ := hg _ _ _ e
    exact ⟨i, j, rv_int rx, rv_int ry, c, q _ H (Same.refl H) (r H A)⟩
theorem rI0_rI {f : Value → Value → Sem Value} {g : Int → Int → V} (h : OpR X f (rI0 g)) : OpR X f (rI (fun _ _ => True) g) :=
  opR_imp h fun x y H Q ⟨i, j, a, b, _, q⟩ => ⟨i, j, a, b, q⟩
theorem od_sub : OpR X (binaryOp .Sub) (rD X.K subD) := od_int (rI0_rI op_sub) fun dx dy d e => by
  cases dx <;> cases dy <;> simp [subD] at e
  subst e; exact ⟨_, _, rfl, rfl, trivial, fun _ _ => .int _⟩
theorem od_isub : OpR X (inplaceOp .Sub) (rD X.K subD) := od_int (rI0_rI iop_sub) fun dx dy d e => by
  cases dx <;> cases dy <;> simp [subD] at e
  subst e; exact ⟨_, _, rfl, rfl, trivial, fun _ _ => .int _⟩
theorem od_div : OpR X (binaryOp .FloorDiv) (rD X.K divD) := od_int op_fdiv fun dx dy d e => by
  cases dx <;> cases dy <;> simp [divD] at e
  obtain ⟨h, rfl⟩ := e; exact ⟨_, _, rfl, rfl, ⟨h.1, h.2⟩, fun _ _ => .int _⟩
theorem od_mod : OpR X (binaryOp .Mod) (rD X.K modD) := od_int op_mod fun dx dy d e => by
  cases dx <;> cases dy <;> simp [modD] at e
  obtain ⟨h, rfl⟩ := e; exact ⟨_, _, rfl, rfl, h, fun _ _ => .int _⟩
theorem od_pow : OpR X (binaryOp .Pow) (rD X.K powD) := od_int op_pow fun dx dy d e => by
  cases dx <;> cases dy <;> simp [powD] at e
  obtain ⟨h, rfl⟩ := e; exact ⟨_, _, rfl, rfl, ⟨h.1, h.2.1, by have := h.2.2; omega⟩, fun _ _ => .int _⟩
theorem od_lt : OpR X (compareOp .Lt) (rD X.K ltD) := od_int (rI0_rI op_lt) fun dx dy d e => by
  cases dx <;> cases dy <;> simp [ltD] at e
  subst e; exact ⟨_, _, rfl, rfl, trivial, fun _ _ => .bl _⟩
theorem od_le : OpR X (compareOp .LtE) (rD X.K leD) := od_int (rI0_rI op_le) fun dx dy d e => by
  cases dx <;> cases dy <;> simp [leD] at e
  subst e; exact ⟨_, _, rfl, rfl, trivial, fun _ _ => .bl _⟩
theorem od_gt : OpR X (compareOp .Gt) (rD X.K gtD) := od_int (rI0_rI op_gt) fun dx dy d e => by
  cases dx <;> cases dy <;> simp [gtD] at e
  subst e; exact ⟨_, _, rfl, rfl, trivial, fun _ _ => .bl _⟩
theorem od_ge : OpR X (compareOp .GtE) (rD X.K geD) := od_int (rI0_rI op_ge) fun dx dy d e => by
  cases dx <;> cases dy <;> simp [geD] at e
  subst e; exact ⟨_, _, rfl, rfl, trivial, fun _ _ => .bl _⟩

theorem od_add : OpR X (binaryOp .Add) (rD X.K addD) := by
  refine opR_imp (op_add.or (op_add_str.or (op_cat.or op_catA))) fun x y H Q ⟨A, B, dx, dy, rx, ry, fa, d, e, q⟩ => ?_
  unfold addD at e
  split at e
  · cases e
    exact .inl ⟨_, _, rv_int rx, rv_int ry, q _ H (Same.refl H) (.int _)⟩
  · split at e
    · rename_i hl
      cases e
      exact .inr (.inl ⟨_, _, rv_str rx, rv_str ry, line_le hl, q _ H (Same.refl H) (.str _)⟩)
    · cases e
  · split at e
    · rename_i hl
      cases e
      obtain ⟨a, vs, rfl, h1, l1⟩ := rv_list rx
      obtain ⟨b, ws, rfl, h2, l2⟩ := rv_list ry
      exact .inr (.inr (.inl ⟨a, b, vs, ws, rfl, rfl, h1, h2, line_le (by rw [l1.len, l2.len]; exact hl), fun p hp => q _ _ (upd_same_of hp) (Rp.newL hp (fa _ hp) (l1.append l2))⟩))
    · cases e
  · split at e
    · rename_i hl
      cases e
      obtain ⟨a, vs, rfl, h1, l1⟩ := rv_tuple rx
      obtain ⟨b, ws, rfl, h2, l2⟩ := rv_tuple ry
      refine .inr (.inr (.inr ⟨a, b, vs, ws, rfl, rfl, SqT.of h1, SqT.of h2, line_le (by rw [l1.len, l2.len]; exact hl), fun z => ?_, fun _ z => ?_, fun _ _ p hp => q _ _ (upd_same_of hp) (Rp.newT hp (l1.append l2))⟩))
      · subst z
        cases l1
        exact q _ H (Same.refl H) (.tup h2 l2)
      · subst z
        cases l2
        exact q _ H (Same.refl H) (.tup h1 (by simpa using l1))
    · cases e
  · cases e
theorem od_mul : OpR X (binaryOp .Mult) (rD X.K mulD) := by
  refine opR_imp (op_mul.or (op_rep.or op_repT)) fun x y H Q ⟨A, B, dx, dy, rx, ry, fa, d, e, q⟩ => ?_
  unfold mulD at e
  split at e
  · split at e
    · rename_i hc
      cases e
      exact .inl ⟨_, _, rv_int rx, rv_int ry, CMulB.ok hc, q _ H (Same.refl H) (.int _)⟩
    · cases e
  · split at e
    · rename_i hl
      cases e
      obtain ⟨a, vs, rfl, h1, l1⟩ := rv_list rx
      exact .inr (.inl ⟨a, _, vs, rfl, rv_int ry, h1, by omega, by omega, line_le (by rw [l1.len]; exact hl.2.2), fun p hp => q _ _ (upd_same_of hp) (Rp.newL hp (fa _ hp) (l1.rep _))⟩)
    · cases e
  · split at e
    · rename_i hl
      cases e
      obtain ⟨a, vs, rfl, h1, l1⟩ := rv_tuple rx
      exact .inr (.inr ⟨a, _, vs, rfl, rv_int ry, SqT.of h1, fun z => hl.1 (l1.nil_iff.mp z), hl.2.1, hl.2.2.1, by rw [l1.len]; exact hl.2.2.2, fun p hp => q _ _ (upd_same_of hp) (Rp.newT hp (l1.rep _))⟩)
    · cases e
  · cases e
theorem od_eq (hu : X.A.units + 64 < cLine) : OpR X (compareOp .Eq) (rD X.K eqD) := opR_imp (op_eqD hu) fun x y H Q ⟨A, B, dx, dy, rx, ry, fa, d, e, q⟩ => by
  unfold eqD at e
  split at e
  · rename_i hs
    cases e
    exact ⟨dx, dy, rx.dp (SeqAt.canLay_of_shaped hs.1), ry.dp (SeqAt.canLay_of_shaped hs.2), hs.1, hs.2, q _ H (Same.refl H) (.bl _)⟩
  · cases e
theorem od_ne (hu : X.A.units + 64 < cLine) : OpR X (compareOp .NotEq) (rD X.K neD) := opR_imp (op_neD hu) fun x y H Q ⟨A, B, dx, dy, rx, ry, fa, d, e, q⟩ => by
  unfold neD at e
  split at e
  · rename_i hs
    cases e
    exact ⟨dx, dy, rx.dp (SeqAt.canLay_of_shaped hs.1), ry.dp (SeqAt.canLay_of_shaped hs.2), hs.1, hs.2, q _ H (Same.refl H) (.bl _)⟩
  · cases e
theorem isNone_iff {K : PySem.W.Frag} {A B : Addr → Prop} {H : Hp} {v : V} {d : PyData} (h : Rv K H A B v d) : decide (v = .non) = isNone d := by
  cases h with
  | rp h => cases h <;> rfl
  | lst => rfl
  | dik => rfl
  | dit => rfl
theorem od_is : OpR X (compareOp .Is) (rD X.K isD) := by
  refine opR_imp (op_isN.or op_is_bl) fun x y H Q ⟨A, B, dx, dy, rx, ry, fa, d, e, q⟩ => ?_
  unfold isD at e
  split at e
  · cases e
    exact .inl ⟨rv_none ry, by rw [isNone_iff rx]; exact q _ H (Same.refl H) (.bl _)⟩
  · cases e
    exact .inr ⟨_, _, rv_bool rx, rv_bool ry, q _ H (Same.refl H) (.bl _)⟩
  · cases e
theorem od_isNot : OpR X (compareOp .IsNot) (rD X.K isNotD) := by
  refine opR_imp (op_notN.or op_isnot_bl) fun x y H Q ⟨A, B, dx, dy, rx, ry, fa, d, e, q⟩ => ?_
  unfold isNotD at e
  split at e
  · cases e
    exact .inl ⟨rv_none ry, by rw [isNone_iff rx]; exact q _ H (Same.refl H) (.bl _)⟩
  · cases e
    exact .inr ⟨_, _, rv_bool rx, rv_bool ry, q _ H (Same.refl H) (.bl _)⟩
  · cases e
end
end DL

/-! DL: sequences: in, index, slices, lengths, conversions; calls of built-ins. -/
namespace DL
open PySem PySem.Spec PyProof.Rows L2

/-! ### in -/
def inD (x y : PyData) : Option PyData := match y with
  | .list ds => if SeqAt.shaped x = true ∧ SeqAt.shaped (.list ds) = true then some (.bool (ds.any fun z => PyData.eqv z x)) else none
  | .tuple ds => if SeqAt.shaped x = true ∧ SeqAt.shaped (.tuple ds) = true then some (.bool (ds.any fun z => PyData.eqv z x)) else none
  | .str z => match x with
    | .str w => some (.bool (!(Builtin.Str.occurrences z w 0 z.length 1).isEmpty))
    | _ => none
  | _ => none
def notInD (x y : PyData) : Option PyData := match inD x y with
  | some (.bool k) => some (.bool (!k))
  | _ => none
section
variable {X : Cx}
theorem op_inTD (hu : X.A.units + 65 < cLine) : OpR X (compareOp .In) (fun x y H Q => ∃ d ds, Dp X.K H x d ∧ Dp X.K H y (.tuple ds) ∧ SeqAt.shaped d = true ∧ SeqAt.shaped (.tuple ds) = true ∧ Q (.bl (ds.any fun z => PyData.eqv z d)) H) := by
  intro pins s σ H x y v u Q I rx ry h
  obtain ⟨d, ds, hd, he, sd, se, q⟩ := h
  obtain ⟨as, r1⟩ := Dp.reads I d x v hd rx
  obtain ⟨bs, r2⟩ := Dp.reads I (.tuple ds) y u he ry
  refine SeqAt.in_tuple_reads r2 r1 (by simpa [PyData.canLay0] using SeqAt.canLay_of_shaped se) (SeqAt.canLay_of_shaped sd) ?_ ⟨.bl _, H, I, rfl, q⟩
  have := SeqAt.depth_of_shaped sd
  omega
theorem op_notInTD (hu : X.A.units + 65 < cLine) : OpR X (compareOp .NotIn) (fun x y H Q => ∃ d ds, Dp X.K H x d ∧ Dp X.K H y (.tuple ds) ∧ SeqAt.shaped d = true ∧ SeqAt.shaped (.tuple ds) = true ∧ Q (.bl (!ds.any fun z => PyData.eqv z d)) H) := by
  intro pins s σ H x y v u Q I rx ry h
  obtain ⟨d, ds, hd, he, sd, se, q⟩ := h
  obtain ⟨as, r1⟩ := Dp.reads I d x v hd rx
  obtain ⟨bs, r2⟩ := Dp.reads I (.tuple ds) y u he ry
  refine SeqAt.notIn_tuple_reads r2 r1 (by simpa [PyData.canLay0] using SeqAt.canLay_of_shaped se) (SeqAt.canLay_of_shaped sd) ?_ ⟨.bl _, H, I, rfl, q⟩
  have := SeqAt.depth_of_shaped sd
  omega
theorem op_inLD (hu : X.A.units + 65 < cLine) : OpR X (compareOp .In) (fun x y H Q => ∃ d ds, Dp X.K H x d ∧ Dp X.K H y (.list ds) ∧ SeqAt.shaped d = true ∧ SeqAt.shaped (.list ds) = true ∧ Q (.bl (ds.any fun z => PyData.eqv z d)) H) := by
  intro pins s σ H x y v u Q I rx ry h
  obtain ⟨d, ds, hd, he, sd, se, q⟩ := h
  obtain ⟨as, r1⟩ := Dp.reads I d x v hd rx
  obtain ⟨bs, r2⟩ := Dp.reads I (.list ds) y u he ry
  refine SeqAt.in_list_reads r2 r1 (by simpa [PyData.canLay0] using SeqAt.canLay_of_shaped se) (SeqAt.canLay_of_shaped sd) ?_ ⟨.bl _, H, I, rfl, q⟩
  have := SeqAt.depth_of_shaped sd
  omega
theorem op_notInLD (hu : X.A.units + 65 < cLine) : OpR X (compareOp .NotIn) (fun x y H Q => ∃ d ds, Dp X.K H x d ∧ Dp X.K H y (.list ds) ∧ SeqAt.shaped d = true ∧ SeqAt.shaped (.list ds) = true ∧ Q (.bl (!ds.any fun z => PyData.eqv z d)) H) := by
  intro pins s σ H x y v u Q I rx ry h
  obtain ⟨d, ds, hd, he, sd, se, q⟩ := h
  obtain ⟨as, r1⟩ := Dp.reads I d x v hd rx
  obtain ⟨bs, r2⟩ := Dp.reads I (.list ds) y u he ry
  refine SeqAt.notIn_list_reads r2 r1 (by simpa [PyData.canLay0] using SeqAt.canLay_of_shaped se) (SeqAt.canLay_of_shaped sd) ?_ ⟨.bl _, H, I, rfl, q⟩
  have := SeqAt.depth_of_shaped sd
  omega
theorem od_in (hu : X.A.units + 65 < cLine) : OpR X (compareOp .In) (rD X.K inD) := by
  refine opR_imp ((op_inLD hu).or ((op_inTD hu).or op_in_str)) fun x y H Q ⟨A, B, dx, dy, rx, ry, fa, d, e, q⟩ => ?_
  unfold inD at e
  split at e
  · split at e
    · rename_i h
      cases e
      exact .inl ⟨_, _, rx.dp (SeqAt.canLay_of_shaped h.1), ry.dp (SeqAt.canLay_of_shaped h.2), h.1, h.2, q _ H (Same.refl H) (.bl _)⟩
    · cases e
  · split at e
    · rename_i h
      cases e
      exact .inr (.inl ⟨_, _, rx.dp (SeqAt.canLay_of_shaped h.1), ry.dp (SeqAt.canLay_of_shaped h.2), h.1, h.2, q _ H (Same.refl H) (.bl _)⟩)
    · cases e
  · split at e
    · cases e
      exact .inr (.inr ⟨_, _, rv_str rx, rv_str ry, q _ H (Same.refl H) (.bl _)⟩)
    · cases e
  · cases e
theorem od_notIn (hu : X.A.units + 65 < cLine) : OpR X (compareOp .NotIn) (rD X.K notInD) := by
  refine opR_imp ((op_notInLD hu).or ((op_notInTD hu).or op_notin_str)) fun x y H Q ⟨A, B, dx, dy, rx, ry, fa, d, e, q⟩ => ?_
  unfold notInD inD at e
  split at e
  · rename_i e1
    split at e1
    · split at e1
      · rename_i h
        cases e1
        cases e
        exact .inl ⟨_, _, rx.dp (SeqAt.canLay_of_shaped h.1), ry.dp (SeqAt.canLay_of_shaped h.2), h.1, h.2, q _ H (Same.refl H) (.bl _)⟩
      · cases e1
    · split at e1
      · rename_i h
        cases e1
        cases e
        exact .inr (.inl ⟨_, _, rx.dp (SeqAt.canLay_of_shaped h.1), ry.dp (SeqAt.canLay_of_shaped h.2), h.1, h.2, q _ H (Same.refl H) (.bl _)⟩)
      · cases e1
    · split at e1
      · cases e1
        cases e
        exact .inr (.inr ⟨_, _, rv_str rx, rv_str ry, q _ H (Same.refl H) (.bl _)⟩)
      · cases e1
    · cases e1
  · cases e
end

/-! ### index -/
def ixD : PyData → PyData → Option PyData
  | .list ds, .int i => atI ds i
  | .tuple ds, .int i => atI ds i
  | .str z, .int i => if z.length ≤ LINE then (atI z.cps.toList i).map fun c => .str ⟨#[c]⟩ else none
  | _, _ => none
theorem atI_rp {K : PySem.W.Frag} {A : Addr → Prop} {H : Hp} {vs : List V} {ds : List PyData} {i : Int} {d : PyData} (l : RpL K H A vs ds) (h : atI ds i = some d) : ∃ v, atI vs i = some v ∧ Rp K H A v d := by
  unfold atI at h ⊢
  rw [l.len]
  cases e : ixN ds.length i with
  | none => rw [e] at h; cases h
  | some j =>
    rw [e] at h
    exact l.get (i := j) h
section
variable {X : Cx} {G : DX} {E : XK} {O : List Nat} {b : Bool} {e e1 e2 e3 : Expr} {pos : Pos} {f f1 f2 f3 : ED}
theorem de_ix (h1 : DE X G E O true e1 f1) (h2 : DE X G E O true e2 f2) (hs : PlainIx e2 := by intro _ _; rfl) : DE X G E O b (.Subscript e1 e2 pos) (dBin ixD f1 f2) := by
  refine pe_imp (pe_ix ix_seq h1 h2 hs) fun σ H Q q => ?_
  obtain ⟨ρ, S, own, hO, r, p⟩ := q
  refine tE_step hO r (R.post_bind p) fun d1 S1 v1 H1 p1 fr1 r1 rv1 => ?_
  refine tE_step hO r1 (R.post_imp (R.post_bind p1) (fun _ _ z => z) fun _ _ z => z.mono fr1) fun d2 S2 v2 H2 p2 fr2 r2 rv2 => ?_
  obtain ⟨d, hd, p3⟩ := post_opt p2
  have rv1' := rv1.keep fr2 (fun a z => z.2.1.not) (fun a z => z.nh.not)
  have fin := fin_op r2 fun v H' fr gl rv => p3 v H' (fr1.trans (fr2.trans fr)) gl rv
  unfold ixD at hd
  split at hd
  · obtain ⟨a, vs, rfl, h, l⟩ := rv_list rv1'
    obtain ⟨v, hv, rp⟩ := atI_rp l hd
    exact .inl ⟨a, vs, _, v, rfl, rv_int rv2, SqL.of h, hv, fin v H2 (Same.refl _) rp⟩
  · obtain ⟨a, vs, rfl, h, l⟩ := rv_tuple rv1'
    obtain ⟨v, hv, rp⟩ := atI_rp l hd
    exact .inr (.inl ⟨a, vs, _, v, rfl, rv_int rv2, SqT.of h, hv, fin v H2 (Same.refl _) rp⟩)
  · split at hd
    · rename_i hl
      simp only [Option.map_eq_some_iff] at hd
      obtain ⟨c, e, rfl⟩ := hd
      exact .inr (.inr ⟨_, _, c, rv_str rv1', rv_int rv2, line_le hl, e, fin _ H2 (Same.refl _) (.str _)⟩)
    · cases hd
  · cases hd

/-! ### slices -/
def cutD {α : Type} (xs : List α) (lo hi : Option Int) : List α := (xs.drop (HT.sIx xs.length 0 lo)).take (HT.sIx xs.length xs.length hi - HT.sIx xs.length 0 lo)
theorem cut_rp {K : PySem.W.Frag} {A : Addr → Prop} {H : Hp} {vs : List V} {ds : List PyData} {lo hi : Option Int} (l : RpL K H A vs ds) : RpL K H A (cutV vs lo hi) (cutD ds lo hi) := by
  unfold cutV cutD
  rw [l.len]
  exact (l.drop _).take _
end
abbrev OD := HS → R (Option Int)
/-- a bound of a slice -/
def tOD (X : Cx) (G : DX) (E : XK) (O : List Nat) (f : Env → M (Option Int)) : TO := fun σ H Q => ∃ (ρ : Env) (S : HS) (own : List (Nat × Addr)), own.map (·.1) = O ∧ SR X.K G own σ H ρ S ∧
  (f ρ S).post (fun d S' => ∀ H', Fr (WH G.ha) H H' → Glob G.ha G.T H' S' → Q d H') (errs X.mg G.ha G.T (WH G.ha) H E)
def DO (X : Cx) (G : DX) (E : XK) (O : List Nat) (e : Option Expr) (f : Env → M (Option Int)) : Prop := PO X e (tOD X G E O f)
def oNone : Env → M (Option Int) := fun _ S => .ok none S
def toI : PyData → Option Int
  | .int i => some i
  | _ => none
def oSome (f : ED) : Env → M (Option Int) := fun ρ S => (f ρ S).bind fun x S => (M.opt (toI x) S).bind fun i S => .ok (some i) S
theorem toI_some {d : PyData} {k : Int} (h : toI d = some k) : d = .int k := by
  cases d <;> simp [toI] at h
  rw [h]
section
variable {X : Cx} {G : DX} {E : XK} {O : List Nat} {b : Bool} {e e1 e2 e3 : Expr} {pos : Pos} {f f1 f2 f3 : ED}
theorem po_imp {e : Option Expr} {t t' : TO} (h : PO X e t) (hi : ∀ σ H Q, t' σ H Q → t σ H Q) : PO X e t' := ⟨fun pins s σ H Q I w => h.run pins s σ H Q I (hi _ _ _ w)⟩
theorem do_none : DO X G E O none oNone := by
  refine po_imp po_none fun σ H Q q => ?_
  obtain ⟨ρ, S, own, hO, r, p⟩ := q
  exact p H (Fr.refl _ _) r.glob
theorem do_some (h : DE X G E O true e f) : DO X G E O (some e) (oSome f) := by
  refine po_imp (po_some h) fun σ H Q q => ?_
  obtain ⟨ρ, S, own, hO, r, p⟩ := q
  refine tE_step hO r (R.post_bind p) fun d1 S1 v1 H1 p1 fr1 r1 rv1 => ?_
  obtain ⟨k, hk, p4⟩ := post_opt (R.post_bind p1)
  cases toI_some hk
  exact ⟨k, rv_int rv1, p4 H1 fr1 r1.glob⟩
def slD (d : PyData) (lo hi : Option Int) : Option PyData := match d with
  | .list ds => some (.list (cutD ds lo hi))
  | .tuple ds => some (.tuple (cutD ds lo hi))
  | _ => none
def dSl (f : ED) (lo hi : Env → M (Option Int)) : ED := fun ρ S => (f ρ S).bind fun x S => (lo ρ S).bind fun l S => (hi ρ S).bind fun h S => M.opt (slD x l h) S
theorem sIx_whole {α : Type} {xs : List α} {lo hi : Option Int} (h : HT.sIx xs.length 0 lo = 0 ∧ HT.sIx xs.length xs.length hi = xs.length) : cutD xs lo hi = xs := by
  unfold cutD
  rw [h.1, h.2]
  simp
theorem sl_ref : SlR X (fun x lo hi H Q => rSlL X.K x lo hi H Q ∨ rSlA X.K x lo hi H Q) := sl_list.or sl_tupA
theorem de_sl {lo hi : Option Expr} {p2 : Pos} {tl th : Env → M (Option Int)} (h1 : DE X G E O true e f) (hl : DO X G E O lo tl) (hh : DO X G E O hi th) : DE X G E O b (.Subscript e (.Slice lo hi none p2) pos) (dSl f tl th) := by
  refine pe_imp (pe_slice sl_ref h1 hl hh) fun σ H Q q => ?_
  obtain ⟨ρ, S, own, hO, r, p⟩ := q
  refine tE_step hO r (R.post_bind p) fun d1 S1 v1 H1 p1 fr1 r1 rv1 => ?_
  refine ⟨ρ, S1, own, hO, r1, R.post_imp (R.post_bind p1) (fun l S2 p2 H2 fr2 gl2 => ?_) fun _ _ z => z.mono fr1⟩
  have r2 := r1.keep fr2 gl2
  refine ⟨ρ, S2, own, hO, r2, R.post_imp (R.post_bind p2) (fun u S3 p3 H3 fr3 gl3 => ?_) fun _ _ z => z.mono (fr1.trans fr2)⟩
  have r3 := r2.keep fr3 gl3
  obtain ⟨d, hd, p4⟩ := post_opt p3
  have rv1' := rv1.keep (fr2.trans fr3) (fun a z => z.2.1.not) (fun a z => z.nh.not)
  have fin := fin_op r3 fun v H' fr gl rv => p4 v H' (fr1.trans (fr2.trans (fr3.trans fr))) gl rv
  unfold slD at hd
  split at hd
  · cases hd
    obtain ⟨a, vs, rfl, h, l⟩ := rv_list rv1'
    exact .inl ⟨a, vs, rfl, SqL.of h, fun p hp => fin _ _ (upd_same_of hp) (Rp.newL hp (r3.free hp) (cut_rp l))⟩
  · cases hd
    obtain ⟨a, vs, rfl, h, l⟩ := rv_tuple rv1'
    refine .inr ⟨a, vs, rfl, SqT.of h, fun z => ?_, fun _ p hp => fin _ _ (upd_same_of hp) (Rp.newT hp (cut_rp l))⟩
    rw [l.len] at z
    rw [sIx_whole z] at fin
    exact fin _ H3 (Same.refl _) (.tup h l)
  · cases hd

/-! ### calls of built-ins, by data -/
def rCD (K : PySem.W.Frag) (g : List PyData → Option PyData) : List V → Hp → VK → Prop := fun vs H Q => ∃ (A B : Addr → Prop) (ds : List PyData), RvL K H A B vs ds ∧ (∀ a, H a = none → A a) ∧
  ∃ d, g ds = some d ∧ ∀ v H', Same H H' → Rp K H' A v d → Q v H'
variable {es : List Expr} {fs : AD} {x : Str} {p : Pos} {id T : String} {g : List PyData → Option PyData}
theorem cb_core {σ : L2.St} {H : Hp} {Q : VK} (q : tE X G E O b (dCB g fs) σ H Q) : tCB (rCD X.K g) (tA X G E O true fs) σ H Q := by
  obtain ⟨ρ, S, own, hO, r, p⟩ := q
  refine tA_step hO r (R.post_bind p) fun d1 S1 v1 H1 p1 fr1 r1 rv1 => ?_
  obtain ⟨d, hd, p3⟩ := post_opt p1
  exact ⟨Acl G own, BR G own true, d1, rv1, fun a z => r1.free z, d, hd, fin_op r1 fun v H' fr gl rv => p3 v H' (fr1.trans fr) gl rv⟩
theorem de_callB (hc : CallR X (.builtin id) (rCD X.K g)) (hg : Gl X x) (hm : X.mg x = none) (hv : bootBuiltins x = some (.builtin id)) (ha : DA X G E O true (e :: es) fs) (hn : x ≠ "__name__" := by decide) (hdb : (x == ("__debug__" : Str)) = false := by decide)
    (he : starEach (e :: es) X.env = (false, eval e X.env) :: starEach es X.env := by rfl) (hpl : (backTo pos (starEach es X.env)).any (·.1) = false := by rfl) : DE X G E O b (.Call (.Name x p) (e :: es) [] pos) (dCB g fs) :=
  pe_imp (pe_callB hc hg hm hv ha hn hdb he hpl) fun σ H Q q => cb_core q
theorem de_callTy (hc : CallR X (.type T) (rCD X.K g)) (hg : Gl X x) (hm : X.mg x = none) (hv : bootBuiltins x = some (.type T)) (ha : DA X G E O true (e :: es) fs) (hn : x ≠ "__name__" := by decide) (hdb : (x == ("__debug__" : Str)) = false := by decide)
    (he : starEach (e :: es) X.env = (false, eval e X.env) :: starEach es X.env := by rfl) (hpl : (backTo pos (starEach es X.env)).any (·.1) = false := by rfl) : DE X G E O b (.Call (.Name x p) (e :: es) [] pos) (dCB g fs) :=
  pe_imp (pe_callTy hc hg hm hv ha hn hdb he hpl) fun σ H Q q => cb_core q
theorem rvl1 {K : PySem.W.Frag} {A B : Addr → Prop} {H : Hp} {vs : List V} {d : PyData} (h : RvL K H A B vs [d]) : ∃ v, vs = [v] ∧ Rv K H A B v d := by
  cases h with
  | cons a t => cases t; exact ⟨_, rfl, a⟩
theorem rvl2 {K : PySem.W.Frag} {A B : Addr → Prop} {H : Hp} {vs : List V} {d d' : PyData} (h : RvL K H A B vs [d, d']) : ∃ v v', vs = [v, v'] ∧ Rv K H A B v d ∧ Rv K H A B v' d' := by
  cases h with
  | cons a t =>
    obtain ⟨v', rfl, r⟩ := rvl1 t
    exact ⟨_, _, rfl, a, r⟩

def lenD : List PyData → Option PyData
  | [.list ds] => some (.int ds.length)
  | [.tuple ds] => some (.int ds.length)
  | [.str z] => if z.length ≤ LINE then some (.int z.length) else none
  | [.dict kvs] => some (.int kvs.length)
  | _ => none
def rLenK : List V → Hp → VK → Prop := fun xs H Q => ∃ (p : Addr) (kvs : List (Key × V)), xs = [.ref p] ∧ H p = some (.dK kvs) ∧ Q (.int ((kvs.length : Nat) : Int)) H
theorem call_len_dK : CallR X (.builtin "len") rLenK := by
  intro pins s σ H xs us Q I r h
  obtain ⟨p, kvs, rfl, hp, q⟩ := h
  obtain ⟨u, rfl, ru⟩ := vals1 r
  cases (show u = Value.ref p from ru)
  exact d_len I (.of hp) fun t s' I' => ⟨.int _, H, I', ⟨_, rfl⟩, q⟩
theorem cd_len : CallR X (.builtin "len") (rCD X.K lenD) := by
  refine callR_imp ((call_len.or call_len_dK).or call_len_dT) fun xs H Q ⟨A, B, ds, rv, fa, d, e, q⟩ => ?_
  unfold lenD at e
  split at e
  · cases e
    obtain ⟨v, rfl, h⟩ := rvl1 rv
    obtain ⟨a, vs, rfl, h, l⟩ := rv_list h
    exact .inl (.inl ⟨_, _, rfl, .inl ⟨vs, SqL.of h, rfl⟩, by rw [l.len]; exact q _ H (Same.refl H) (.int _)⟩)
  · cases e
    obtain ⟨v, rfl, h⟩ := rvl1 rv
    obtain ⟨a, vs, rfl, h, l⟩ := rv_tuple h
    exact .inl (.inl ⟨_, _, rfl, .inr ⟨vs, SqT.of h, rfl⟩, by rw [l.len]; exact q _ H (Same.refl H) (.int _)⟩)
  · split at e
    · rename_i hl
      cases e
      obtain ⟨v, rfl, h⟩ := rvl1 rv
      cases rv_str h
      exact .inl (.inl ⟨_, _, rfl, ⟨line_le hl, rfl⟩, q _ H (Same.refl H) (.int _)⟩)
    · cases e
  · cases e
    obtain ⟨v, rfl, h⟩ := rvl1 rv
    have key : ∀ {a : Addr} {ks : List (Key × V)} {kvs : List (PyData × PyData)}, H a = some (.dK ks) → RpK X.K H A (ks.map fun p => (keyD p.1, p.2)) kvs → (∀ v H', Same H H' → Rp X.K H' A v (.int kvs.length) → Q v H') → rLenK [V.ref a] H Q := fun {a ks kvs} h l q =>
      ⟨a, ks, rfl, h, by have := l.len; rw [List.length_map] at this; rw [this]; exact q _ H (Same.refl H) (.int _)⟩
    have keyT : ∀ {a : Addr} {ks : List (List Key × V)} {kvs : List (PyData × PyData)}, H a = some (.dT ks) → RpK X.K H A (ks.map fun p => (tupK p.1, p.2)) kvs → (∀ v H', Same H H' → Rp X.K H' A v (.int kvs.length) → Q v H') → rLenT [V.ref a] H Q := fun {a ks kvs} h l q =>
      ⟨a, ks, rfl, h, by have := l.len; rw [List.length_map] at this; rw [this]; exact q _ H (Same.refl H) (.int _)⟩
    cases h with
    | rp h =>
      cases h with
      | dik a h l => exact .inl (.inr (key h l q))
      | dit a h l => exact .inr (keyT h l q)
    | dik a h l => exact .inl (.inr (key h l q))
    | dit a h l => exact .inr (keyT h l q)
  · cases e

def absD : List PyData → Option PyData
  | [.int i] => some (.int (if i < 0 then -i else i))
  | _ => none
theorem cd_abs : CallR X (.builtin "abs") (rCD X.K absD) := by
  refine callR_imp call_abs fun xs H Q ⟨A, B, ds, rv, fa, d, e, q⟩ => ?_
  unfold absD at e
  split at e
  · cases e
    obtain ⟨v, rfl, h⟩ := rvl1 rv
    cases rv_int h
    exact ⟨_, rfl, q _ H (Same.refl H) (.int _)⟩
  · cases e
def intD : List PyData → Option PyData
  | [.int i] => some (.int i)
  | [.bool k] => some (.int (if k then 1 else 0))
  | _ => none
theorem cd_int : CallR X (.type "int") (rCD X.K intD) := by
  refine callR_imp call_int1 fun xs H Q ⟨A, B, ds, rv, fa, d, e, q⟩ => ?_
  unfold intD at e
  split at e
  · cases e
    obtain ⟨v, rfl, h⟩ := rvl1 rv
    cases rv_int h
    exact .inl ⟨_, rfl, q _ H (Same.refl H) (.int _)⟩
  · cases e
    obtain ⟨v, rfl, h⟩ := rvl1 rv
    cases rv_bool h
    exact .inr ⟨_, rfl, q _ H (Same.refl H) (.int _)⟩
  · cases e
def strD : List PyData → Option PyData
  | [.int i] => if i.natAbs.log2 < 1920 then some (.str (toString i)) else none
  | [.str z] => some (.str z)
  | _ => none
theorem cd_str : CallR X (.type "str") (rCD X.K strD) := by
  refine callR_imp (call_str_int.or SkE.call_str_str) fun xs H Q ⟨A, B, ds, rv, fa, d, e, q⟩ => ?_
  unfold strD at e
  split at e
  · split at e
    · rename_i hl
      cases e
      obtain ⟨v, rfl, h⟩ := rvl1 rv
      cases rv_int h
      exact .inl ⟨_, rfl, hl, q _ H (Same.refl H) (.str _)⟩
    · cases e
  · cases e
    obtain ⟨v, rfl, h⟩ := rvl1 rv
    cases rv_str h
    exact .inr ⟨_, rfl, q _ H (Same.refl H) (.str _)⟩
  · cases e
def listD : List PyData → Option PyData
  | [.list ds] => some (.list ds)
  | [.tuple ds] => some (.list ds)
  | _ => none
theorem cd_list : CallR X (.type "list") (rCD X.K listD) := by
  refine callR_imp call_list_of fun xs H Q ⟨A, B, ds, rv, fa, d, e, q⟩ => ?_
  unfold listD at e
  split at e
  · cases e
    obtain ⟨v, rfl, h⟩ := rvl1 rv
    obtain ⟨a, vs, rfl, h, l⟩ := rv_list h
    exact ⟨a, vs, rfl, .inl (SqL.of h), fun p hp => q _ _ (upd_same_of hp) (Rp.newL hp (fa _ hp) l)⟩
  · cases e
    obtain ⟨v, rfl, h⟩ := rvl1 rv
    obtain ⟨a, vs, rfl, h, l⟩ := rv_tuple h
    exact ⟨a, vs, rfl, .inr (SqT.of h), fun p hp => q _ _ (upd_same_of hp) (Rp.newL hp (fa _ hp) l)⟩
  · cases e
def tupleD : List PyData → Option PyData
  | [.list ds] => some (.tuple ds)
  | [.tuple ds] => some (.tuple ds)
  | _ => none
theorem cd_tuple : CallR X (.type "tuple") (rCD X.K tupleD) := by
  refine callR_imp call_tuple_of fun xs H Q ⟨A, B, ds, rv, fa, d, e, q⟩ => ?_
  unfold tupleD at e
  split at e
  · cases e
    obtain ⟨v, rfl, h⟩ := rvl1 rv
    obtain ⟨a, vs, rfl, h, l⟩ := rv_list h
    exact ⟨a, vs, rfl, .inl ⟨SqL.of h, fun p hp => q _ _ (upd_same_of hp) (Rp.newT hp l)⟩⟩
  · cases e
    obtain ⟨v, rfl, h⟩ := rvl1 rv
    obtain ⟨a, vs, rfl, h, l⟩ := rv_tuple h
    exact ⟨a, vs, rfl, .inr ⟨SqT.of h, q _ H (Same.refl H) (.tup h l)⟩⟩
  · cases e
/-- lists of bools, of ints -/
def boolsD : List PyData → Option (List Bool)
  | [] => some []
  | .bool k :: r => (boolsD r).map (k :: ·)
  | _ => none
def intsD : List PyData → Option (List Int)
  | [] => some []
  | .int k :: r => (intsD r).map (k :: ·)
  | _ => none
theorem boolsD_rp {K : PySem.W.Frag} {A : Addr → Prop} {H : Hp} : ∀ {vs : List V} {ds : List PyData} {bs : List Bool}, RpL K H A vs ds → boolsD ds = some bs → vs = bs.map V.bl
  | _, _, _, .nil, e => by cases e; rfl
  | _, d :: ds, bs, .cons h t, e => by
    cases h <;> simp [boolsD] at e
    obtain ⟨l, e1, rfl⟩ := e
    rw [boolsD_rp t e1]; rfl
theorem intsD_rp {K : PySem.W.Frag} {A : Addr → Prop} {H : Hp} : ∀ {vs : List V} {ds : List PyData} {bs : List Int}, RpL K H A vs ds → intsD ds = some bs → vs = bs.map V.int
  | _, _, _, .nil, e => by cases e; rfl
  | _, d :: ds, bs, .cons h t, e => by
    cases h <;> simp [intsD] at e
    obtain ⟨l, e1, rfl⟩ := e
    rw [intsD_rp t e1]; rfl
theorem boolsD_map : ∀ bs : List Bool, boolsD (bs.map PyData.bool) = some bs
  | [] => rfl
  | b :: bs => by simp [boolsD, boolsD_map bs]
theorem intsD_map : ∀ bs : List Int, intsD (bs.map PyData.int) = some bs
  | [] => rfl
  | b :: bs => by simp [intsD, intsD_map bs]
def anyD : List PyData → Option PyData
  | [.list ds] => (boolsD ds).map fun bs => .bool (bs.any fun k => k)
  | _ => none
def allD : List PyData → Option PyData
  | [.list ds] => (boolsD ds).map fun bs => .bool (bs.all fun k => k)
  | _ => none
theorem cd_any (hc : X.calm = true) : CallR X (.builtin "any") (rCD X.K anyD) := by
  refine callR_imp (cr_any hc) fun xs H Q ⟨A, B, ds, rv, fa, d, e, q⟩ => ?_
  unfold anyD at e
  split at e
  · obtain ⟨v, rfl, h⟩ := rvl1 rv
    obtain ⟨a, vs, rfl, h, l⟩ := rv_list h
    simp only [Option.map_eq_some_iff] at e
    obtain ⟨bs, e1, rfl⟩ := e
    cases boolsD_rp l e1
    exact ⟨a, bs, rfl, SqL.of h, q _ H (Same.refl H) (.bl _)⟩
  · cases e
theorem cd_all (hc : X.calm = true) : CallR X (.builtin "all") (rCD X.K allD) := by
  refine callR_imp (cr_all hc) fun xs H Q ⟨A, B, ds, rv, fa, d, e, q⟩ => ?_
  unfold allD at e
  split at e
  · obtain ⟨v, rfl, h⟩ := rvl1 rv
    obtain ⟨a, vs, rfl, h, l⟩ := rv_list h
    simp only [Option.map_eq_some_iff] at e
    obtain ⟨bs, e1, rfl⟩ := e
    cases boolsD_rp l e1
    exact ⟨a, bs, rfl, SqL.of h, q _ H (Same.refl H) (.bl _)⟩
  · cases e
end
end DL

/-! DL: displays, targets, statements. -/
namespace DL
open PySem PySem.Spec PyProof.Rows L2

section
variable {X : Cx} {G : DX} {E : XK} {O O' O1 : List Nat} {b : Bool} {e e1 e2 e3 : Expr} {pos : Pos} {f f1 f2 f3 : ED} {es : List Expr} {fs : AD}
/-! ### displays -/
def dTup (f : AD) : ED := fun ρ S => (f ρ S).bind fun xs S => if xs.length ≤ LINE then .ok (.tuple xs) S else .bad
def dLst (f : AD) : ED := fun ρ S => (f ρ S).bind fun xs S => if xs.length ≤ LINE then .ok (.list xs) S else .bad
theorem post_if {α : Type} {c : Prop} [Decidable c] {r : R α} {P : α → HS → Prop} {E : Str → HS → Prop} (h : (if c then r else .bad).post P E) : c ∧ r.post P E := by
  by_cases hc : c
  · rw [if_pos hc] at h; exact ⟨hc, h⟩
  · rw [if_neg hc] at h; exact h.elim
theorem BR_false {G : DX} {own : List (Nat × Addr)} : BR G own false = Acl G own := rfl
theorem de_tup {k : _} (h : DA X G E O false es fs) : DE X G E O b (.Tuple es k pos) (dTup fs) := by
  refine pe_imp (pe_tup h) fun σ H Q q => ?_
  obtain ⟨ρ, S, own, hO, r, p⟩ := q
  refine tA_step hO r (R.post_bind p) fun d1 S1 v1 H1 p1 fr1 r1 rv1 => ?_
  obtain ⟨hl, p2⟩ := post_if p1
  have l := rv1.clean
  exact ⟨line_le (by rw [l.len]; exact hl), fun p hp => fin_op r1 (fun v H' fr gl rv => p2 v H' (fr1.trans fr) gl rv) _ _ (upd_same_of hp) (Rp.newT hp l)⟩
theorem de_lst (h : DA X G E O false es fs) : DE X G E O b (.List es pos) (dLst fs) := by
  refine pe_imp (pe_lst h) fun σ H Q q => ?_
  obtain ⟨ρ, S, own, hO, r, p⟩ := q
  refine tA_step hO r (R.post_bind p) fun d1 S1 v1 H1 p1 fr1 r1 rv1 => ?_
  obtain ⟨hl, p2⟩ := post_if p1
  have l := rv1.clean
  exact ⟨line_le (by rw [l.len]; exact hl), fun p hp => fin_op r1 (fun v H' fr gl rv => p2 v H' (fr1.trans fr) gl rv) _ _ (upd_same_of hp) (Rp.newL hp (r1.free hp) l)⟩
theorem de_dict0 : DE X G E O b (.Dict [] [] pos) (dLit (.dict [])) := by
  refine pe_imp pe_dnewK fun σ H Q q => ?_
  obtain ⟨ρ, S, own, hO, r, p⟩ := q
  exact fun p' hp => fin_op r p _ _ (upd_same_of hp) (.dik (ks := []) (r.free hp) upd_same .nil)

/-! ### what is new: its own root -/
/-- the sets within which the parts of a new thing at a lie -/
def AclX (G : DX) (own : List (Nat × Addr)) (a c : Addr) : Prop := Acl G own c ∧ c ≠ a
theorem Rp.avoid {K : PySem.W.Frag} {A : Addr → Prop} {H : Hp} {p : Addr} (hp : H p = none) {v : V} {d : PyData} (h : Rp K H A v d) : Rp K H (fun c => A c ∧ c ≠ p) v d := by
  refine Rp.rec (motive_1 := fun v d _ => Rp K H (fun c => A c ∧ c ≠ p) v d) (motive_2 := fun vs ds _ => RpL K H (fun c => A c ∧ c ≠ p) vs ds) (motive_3 := fun vs ds _ => RpK K H (fun c => A c ∧ c ≠ p) vs ds)
    .non (fun b => .bl b) (fun i => .int i) (fun x => .str x) ?_ ?_ ?_ ?_ .nil (fun _ _ a b => .cons a b) .nil (fun _ _ a b => .cons a b) h
  · exact fun a h _ ih => .lst ⟨a, ne_of_none h hp⟩ h ih
  · exact fun h _ ih => .tup h ih
  · exact fun a h _ ih => .dik ⟨a, ne_of_none h hp⟩ h ih
  · exact fun a h _ ih => .dit ⟨a, ne_of_none h hp⟩ h ih
theorem RpL.avoid {K : PySem.W.Frag} {A : Addr → Prop} {H : Hp} {p : Addr} (hp : H p = none) : ∀ {v : List V} {d : List PyData}, RpL K H A v d → RpL K H (fun c => A c ∧ c ≠ p) v d
  | _, _, .nil => .nil
  | _, _, .cons h t => .cons (h.avoid hp) (RpL.avoid hp t)
def tF (X : Cx) (G : DX) (E : XK) (O : List Nat) (f : ED) : TE := fun σ H Q => ∃ (ρ : Env) (S : HS) (own : List (Nat × Addr)), own.map (·.1) = O ∧ SR X.K G own σ H ρ S ∧
  (f ρ S).post (fun d S' => ∀ a H', Fr (WH G.ha) H H' → Glob G.ha G.T H' S' → Acl G own a → G.H0 a = none → H a = none → RpOwn X.K H' (AclX G own a) a d → Q (.ref a) H') (errs X.mg G.ha G.T (WH G.ha) H E)
def DF (X : Cx) (G : DX) (E : XK) (O : List Nat) (e : Expr) (f : ED) : Prop := PE X e (tF X G E O f)
theorem SR.free0 {K : PySem.W.Frag} {own : List (Nat × Addr)} {σ : L2.St} {H : Hp} {ρ : Env} {S : HS} (r : SR K G own σ H ρ S) {a : Addr} (h : H a = none) : G.H0 a = none := by
  cases q : G.H0 a with
  | none => rfl
  | some o => exact absurd h (r.dom a (by rw [q]; exact fun z => nomatch z))
theorem Fr.free {W : Addr → Prop} {H H' : Hp} (f : Fr W H H') {a : Addr} (h : H' a = none) : H a = none := by
  cases q : H a with
  | none => rfl
  | some o => exact absurd h (f.dom a (by rw [q]; exact fun z => nomatch z))
theorem df_lst (h : DA X G E O false es fs) : DF X G E O (.List es pos) (dLst fs) := by
  refine pe_imp (pe_lst h) fun σ H Q q => ?_
  obtain ⟨ρ, S, own, hO, r, p⟩ := q
  refine tA_step hO r (R.post_bind p) fun d1 S1 v1 H1 p1 fr1 r1 rv1 => ?_
  obtain ⟨hl, p2⟩ := post_if p1
  have l := rv1.clean
  exact ⟨line_le (by rw [l.len]; exact hl), fun p hp => p2 p _ (fr1.trans (.of_same (upd_same_of hp))) (r1.glob.same (upd_same_of hp)) (r1.free hp) (r1.free0 hp) (fr1.free hp) (.lst upd_same ((l.avoid hp).same (upd_same_of hp)))⟩
theorem df_dict0 : DF X G E O (.Dict [] [] pos) (dLit (.dict [])) := by
  refine pe_imp pe_dnewK fun σ H Q q => ?_
  obtain ⟨ρ, S, own, hO, r, p⟩ := q
  exact fun p' hp => p p' _ (.of_same (upd_same_of hp)) (r.glob.same (upd_same_of hp)) (r.free hp) (r.free0 hp) hp (.dik (ks := []) upd_same .nil)
theorem RpOwn.rp {K : PySem.W.Frag} {A : Addr → Prop} {H : Hp} {a : Addr} {d : PyData} (ha : A a) (h : RpOwn K H A a d) : Rp K H A (.ref a) d := by
  cases h with
  | lst h l => exact .lst ha h l
  | dik h l => exact .dik ha h l
  | dit h l => exact .dit ha h l
theorem RpOwn.mono {K : PySem.W.Frag} {A A' : Addr → Prop} {H : Hp} {a : Addr} {d : PyData} (hA : ∀ a, A a → A' a) (h : RpOwn K H A a d) : RpOwn K H A' a d := by
  cases h with
  | lst h l => exact .lst h (l.mono hA)
  | dik h l => exact .dik h (l.mono hA)
  | dit h l => exact .dit h (l.mono hA)

/-- what was free at the start is written -/
theorem Fr.updN {W : Addr → Prop} {H0 H : Hp} {a : Addr} {o : HO} (f : Fr W H0 H) (h : H0 a = none) : Fr W H0 (upd H a o) := by
  refine ⟨fun c u e t m => ?_, fun c e => ?_⟩
  · have : c ≠ a := fun z => by rw [z, h] at e; cases e
    rw [upd_ne this]
    exact f.keep c u e t m
  · by_cases hc : c = a
    · rw [hc, upd_same]; exact fun z => nomatch z
    · rw [upd_ne hc]; exact f.dom c e
/-! ### a slot is stored -/
def drop (own : List (Nat × Addr)) (i : Nat) : List (Nat × Addr) := own.filter fun p => decide (p.1 ≠ i)
theorem mem_drop {own : List (Nat × Addr)} {i : Nat} {p : Nat × Addr} : p ∈ drop own i ↔ p ∈ own ∧ p.1 ≠ i := by
  unfold drop
  rw [List.mem_filter]
  simp
theorem drop_fst (own : List (Nat × Addr)) (i : Nat) : (drop own i).map (·.1) = (own.map (·.1)).filter fun j => decide (j ≠ i) := by
  unfold drop
  rw [List.filter_map]
  rfl
theorem acl_drop {own : List (Nat × Addr)} {i : Nat} {a : Addr} (h : Acl G own a) : Acl G (drop own i) a := ⟨h.1, h.2.1, fun p hp => h.2.2 p (mem_drop.mp hp).1⟩
theorem nodup_drop {own : List (Nat × Addr)} {i : Nat} (h : (own.map (·.2)).Nodup ∧ (own.map (·.1)).Nodup) : ((drop own i).map (·.2)).Nodup ∧ ((drop own i).map (·.1)).Nodup :=
  ⟨h.1.sublist (List.filter_sublist.map _), h.2.sublist (List.filter_sublist.map _)⟩
theorem own_inj {own : List (Nat × Addr)} (h : (own.map (·.1)).Nodup) : ∀ {p q : Nat × Addr}, p ∈ own → q ∈ own → p.1 = q.1 → p = q := by
  induction own with
  | nil => intro p q hp; cases hp
  | cons x r ih =>
    intro p q hp hq e
    rw [List.map_cons, List.nodup_cons] at h
    rcases List.mem_cons.mp hp with rfl | hp'
    · rcases List.mem_cons.mp hq with rfl | hq'
      · rfl
      · exact absurd (List.mem_map.mpr ⟨q, hq', e.symm⟩ : _ ∈ r.map _) h.1
    · rcases List.mem_cons.mp hq with rfl | hq'
      · exact absurd (List.mem_map.mpr ⟨p, hp', e⟩ : _ ∈ r.map _) h.1
      · exact ih h.2 hp' hq' e
theorem own_inj2 {own : List (Nat × Addr)} (h : (own.map (·.2)).Nodup) : ∀ {p q : Nat × Addr}, p ∈ own → q ∈ own → p.2 = q.2 → p = q := by
  induction own with
  | nil => intro p q hp; cases hp
  | cons x r ih =>
    intro p q hp hq e
    rw [List.map_cons, List.nodup_cons] at h
    rcases List.mem_cons.mp hp with rfl | hp'
    · rcases List.mem_cons.mp hq with rfl | hq'
      · rfl
      · exact absurd (List.mem_map.mpr ⟨q, hq', e.symm⟩ : _ ∈ r.map _) h.1
    · rcases List.mem_cons.mp hq with rfl | hq'
      · exact absurd (List.mem_map.mpr ⟨p, hp', e⟩ : _ ∈ r.map _) h.1
      · exact ih h.2 hp' hq' e
section
variable {K : PySem.W.Frag} {own : List (Nat × Addr)} {σ : L2.St} {H H' : Hp} {ρ : Env} {S S' : HS} {i : Nat} {v : V} {d : PyData}
/-- ownership of a slot is given up -/
theorem SR.give (r : SR K G own σ H ρ S) (i : Nat) : SR K G (drop own i) σ H ρ S where
  glob := r.glob
  frm := r.frm
  len := r.len
  slot := fun j sl e => by
    obtain ⟨v, h1, h2⟩ := r.slot j sl e
    refine ⟨v, h1, ?_⟩
    cases sl with
    | hnd => exact h2
    | lam => exact h2
    | exc => exact h2
    | scr l => exact h2
    | dat d =>
      refine ⟨fun n => ?_, fun a m => ⟨(h2.2 a (mem_drop.mp m).1).1, (h2.2 a (mem_drop.mp m).1).2.mono fun _ => acl_drop⟩⟩
      by_cases hj : j ∈ own.map (·.1)
      · obtain ⟨⟨j', a⟩, hm, rfl⟩ := List.mem_map.mp hj
        have hji : j' = i := by
          refine Decidable.byContradiction fun z => n ?_
          exact List.mem_map.mpr ⟨(j', a), mem_drop.mpr ⟨hm, z⟩, rfl⟩
        obtain ⟨rfl, ro⟩ := h2.2 a hm
        refine (ro.mono fun _ => acl_drop).rp ⟨.inr (r.ow _ hm).1, (r.ow _ hm).2.1, fun p hp z => ?_⟩
        obtain ⟨hp1, hp2⟩ := mem_drop.mp hp
        have := own_inj2 r.nd.1 hm hp1 z
        subst this
        exact hp2 hji
      · exact (h2.1 hj).mono fun _ => acl_drop
  ow := fun p hp => r.ow p (mem_drop.mp hp).1
  nd := nodup_drop r.nd
/-- a slot that is not owned is stored -/
theorem SR.store (r : SR K G own σ H ρ S) (hi : i ∉ own.map (·.1)) (hd : Rp K H (Acl G own) v d) : SR K G own (σ.set i (some v)) H (ρ.set i (some (.dat d))) S where
  glob := r.glob
  frm := r.frm
  len := by simp [r.len]
  slot := fun j sl e => by
    by_cases hj : i = j
    · subst hj
      rw [List.getElem?_set] at e
      simp only [if_true] at e
      split at e
      · rename_i hlt
        cases e
        refine ⟨v, ?_, fun _ => hd, fun a m => absurd (List.mem_map.mpr ⟨_, m, rfl⟩) hi⟩
        rw [List.getElem?_set]
        simp [r.len, hlt]
      · cases e
    · rw [List.getElem?_set_ne hj] at e
      obtain ⟨w, h1, h2⟩ := r.slot j sl e
      exact ⟨w, by rw [List.getElem?_set_ne hj]; exact h1, h2⟩
  ow := r.ow
  nd := r.nd
/-- more roots, which were free: what was there lies apart from them -/
theorem Rp.grow {own' : List (Nat × Addr)} (h : ∀ p ∈ own', p ∈ own ∨ H p.2 = none) (hd : Rp K H (Acl G own) v d) : Rp K H (Acl G own') v d := by
  have key : ∀ a, Acl G own a → H a ≠ none → Acl G own' a := fun a z n => ⟨z.1, z.2.1, fun p hp e => by
    rcases h p hp with q | q
    · exact z.2.2 p q e
    · exact n (e ▸ q)⟩
  refine Rp.rec (motive_1 := fun v d _ => Rp K H (Acl G own') v d) (motive_2 := fun vs ds _ => RpL K H (Acl G own') vs ds) (motive_3 := fun vs ds _ => RpK K H (Acl G own') vs ds)
    .non (fun b => .bl b) (fun i => .int i) (fun x => .str x) ?_ ?_ ?_ ?_ .nil (fun _ _ a b => .cons a b) .nil (fun _ _ a b => .cons a b) hd
  · exact fun a h _ ih => .lst (key _ a (by rw [h]; exact fun z => nomatch z)) h ih
  · exact fun h _ ih => .tup h ih
  · exact fun a h _ ih => .dik (key _ a (by rw [h]; exact fun z => nomatch z)) h ih
  · exact fun a h _ ih => .dit (key _ a (by rw [h]; exact fun z => nomatch z)) h ih
theorem RpL.grow {own' : List (Nat × Addr)} (h : ∀ p ∈ own', p ∈ own ∨ H p.2 = none) : ∀ {vs : List V} {ds : List PyData}, RpL K H (Acl G own) vs ds → RpL K H (Acl G own') vs ds
  | _, _, .nil => .nil
  | _, _, .cons a t => .cons (a.grow h) (RpL.grow h t)
theorem RpK.grow {own' : List (Nat × Addr)} (h : ∀ p ∈ own', p ∈ own ∨ H p.2 = none) : ∀ {vs : List (PyData × V)} {ds : List (PyData × PyData)}, RpK K H (Acl G own) vs ds → RpK K H (Acl G own') vs ds
  | _, _, .nil => .nil
  | _, _, .cons a t => .cons (a.grow h) (RpK.grow h t)
theorem RpOwn.grow {own' : List (Nat × Addr)} {a : Addr} (h : ∀ p ∈ own', p ∈ own ∨ H p.2 = none) (hd : RpOwn K H (Acl G own) a d) : RpOwn K H (Acl G own') a d := by
  cases hd with
  | lst q l => exact .lst q (l.grow h)
  | dik q l => exact .dik q (l.grow h)
  | dit q l => exact .dit q (l.grow h)
/-- a new root, under an index that is no slot's -/
theorem SR.phantom {q : Nat} {a : Addr} (r : SR K G own σ H ρ S) (f : Fr (WH G.ha) H H') (g : Glob G.ha G.T H' S') (hq : q ∉ own.map (·.1)) (hl : ρ.length ≤ q) (ha : Acl G own a) (h0 : G.H0 a = none) (hn : H a = none) (hs : H' a ≠ none) : SR K G ((q, a) :: own) σ H' ρ S' := by
  have grow : ∀ p ∈ (q, a) :: own, p ∈ own ∨ H p.2 = none := fun p hp => by
    rcases List.mem_cons.mp hp with rfl | hp
    · exact .inr hn
    · exact .inl hp
  have r' := r.keep f g
  refine ⟨g, r'.frm, r.len, fun j sl e => ?_, fun p hp => ?_, ?_, ?_⟩
  · obtain ⟨w, h1, h2⟩ := r.slot j sl e
    have hj : j < ρ.length := by
      rw [List.getElem?_eq_some_iff] at e
      exact e.1
    refine ⟨w, h1, ?_⟩
    cases sl with
    | hnd => exact h2
    | lam => exact h2
    | exc => exact h2
    | scr l => exact h2
    | dat d =>
      refine ⟨fun n => ?_, fun c m => ?_⟩
      · exact ((h2.1 fun z => n (by rw [List.map_cons]; exact List.mem_cons_of_mem _ z)).grow grow).keep f (fun a z => z.2.1.not) fun _ z => z
      · rcases List.mem_cons.mp m with z | z
        · cases z; omega
        · exact ⟨(h2.2 c z).1, ((h2.2 c z).2.grow grow).keep f (fun a z => z.2.1.not) (fun _ z => z) (r.ow _ z).2.1.not⟩
  · rcases List.mem_cons.mp hp with rfl | hp
    · exact ⟨h0, ha.2.1, hs⟩
    · exact r'.ow p hp
  · rw [List.map_cons, List.nodup_cons]
    refine ⟨fun z => ?_, r.nd.1⟩
    obtain ⟨p, hp, e⟩ := List.mem_map.mp z
    exact ha.2.2 p hp e.symm
  · rw [List.map_cons, List.nodup_cons]
    exact ⟨hq, r.nd.2⟩
/-- an owned root moves to the slot i -/
def move (own : List (Nat × Addr)) (q i : Nat) : List (Nat × Addr) := own.map fun p => if p.1 = q then (i, p.2) else p
theorem mem_move {q i : Nat} {p : Nat × Addr} (hp : p ∈ move own q i) : ∃ p' ∈ own, p'.2 = p.2 ∧ ((p'.1 = q ∧ p.1 = i) ∨ (p'.1 ≠ q ∧ p = p')) := by
  obtain ⟨p', h1, h2⟩ := List.mem_map.mp hp
  by_cases e : p'.1 = q
  · rw [if_pos e] at h2
    subst h2
    exact ⟨p', h1, rfl, .inl ⟨e, rfl⟩⟩
  · rw [if_neg e] at h2
    subst h2
    exact ⟨p', h1, rfl, .inr ⟨e, rfl⟩⟩
theorem move_snd {q i : Nat} : (move own q i).map (·.2) = own.map (·.2) := by
  unfold move
  rw [List.map_map]
  refine List.map_congr_left fun p _ => ?_
  show (if p.1 = q then (i, p.2) else p).2 = p.2
  split <;> rfl
theorem move_fst {q i : Nat} : (move own q i).map (·.1) = (own.map (·.1)).map fun j => if j = q then i else j := by
  unfold move
  rw [List.map_map, List.map_map]
  refine List.map_congr_left fun p _ => ?_
  show (if p.1 = q then (i, p.2) else p).1 = if p.1 = q then i else p.1
  split <;> rfl
theorem acl_move {q i : Nat} {a : Addr} : Acl G own a → Acl G (move own q i) a := fun z => ⟨z.1, z.2.1, fun p hp e => by
  obtain ⟨p', h1, h2, _⟩ := mem_move hp
  exact z.2.2 p' h1 (e.trans h2.symm)⟩
theorem SR.moveTo {q i : Nat} {a : Addr} (r : SR K G own σ H ρ S) (hm : (q, a) ∈ own) (hi : i ∉ own.map (·.1)) (hl : ρ.length ≤ q) (hlt : i < ρ.length) (hd : RpOwn K H (Acl G own) a d) : SR K G (move own q i) (σ.set i (some (.ref a))) H (ρ.set i (some (.dat d))) S where
  glob := r.glob
  frm := r.frm
  len := by simp [r.len]
  slot := fun j sl e => by
    by_cases hj : i = j
    · subst hj
      rw [List.getElem?_set_self hlt] at e
      cases e
      refine ⟨.ref a, by rw [List.getElem?_set_self (by rw [r.len]; exact hlt)], fun n => absurd (List.mem_map.mpr ⟨(i, a), List.mem_map.mpr ⟨(q, a), hm, by simp⟩, rfl⟩) n, fun c m => ?_⟩
      obtain ⟨p', h1, h2, h3⟩ := mem_move m
      rcases h3 with ⟨h3, _⟩ | ⟨_, h4⟩
      · have := own_inj r.nd.2 h1 hm h3
        subst this
        cases h2
        exact ⟨rfl, hd.mono fun _ => acl_move⟩
      · subst h4
        exact absurd (List.mem_map.mpr ⟨_, h1, rfl⟩) hi
    · rw [List.getElem?_set_ne hj] at e
      obtain ⟨w, h1, h2⟩ := r.slot j sl e
      have hjl : j < ρ.length := by
        rw [List.getElem?_eq_some_iff] at e
        exact e.1
      refine ⟨w, by rw [List.getElem?_set_ne hj]; exact h1, ?_⟩
      cases sl with
      | hnd => exact h2
      | lam => exact h2
      | exc => exact h2
      | scr l => exact h2
      | dat d =>
        refine ⟨fun n => (h2.1 fun z => n ?_).mono fun _ => acl_move, fun c m => ?_⟩
        · obtain ⟨p, hp, e⟩ := List.mem_map.mp z
          refine List.mem_map.mpr ⟨p, List.mem_map.mpr ⟨p, hp, ?_⟩, e⟩
          rw [if_neg (by omega)]
        · obtain ⟨p', h3, h4, h5⟩ := mem_move m
          rcases h5 with ⟨_, h6⟩ | ⟨_, h6⟩
          · exact absurd h6.symm hj
          · subst h6
            exact ⟨(h2.2 c h3).1, (h2.2 c h3).2.mono fun _ => acl_move⟩
  ow := fun p hp => by
    obtain ⟨p', h1, h2, _⟩ := mem_move hp
    rw [← h2]
    exact r.ow p' h1
  nd := by
    refine ⟨by rw [move_snd]; exact r.nd.1, ?_⟩
    rw [move_fst]
    have key : ∀ l : List Nat, l.Nodup → i ∉ l → (l.map fun j => if j = q then i else j).Nodup := fun l => by
      induction l with
      | nil => intro _ _; exact List.nodup_nil
      | cons x t ih =>
        intro hn hx
        rw [List.nodup_cons] at hn
        rw [List.map_cons, List.nodup_cons]
        refine ⟨fun z => ?_, ih hn.2 fun z => hx (List.mem_cons_of_mem _ z)⟩
        obtain ⟨y, hy, e⟩ := List.mem_map.mp z
        have hxi : x ≠ i := fun z => hx (z ▸ List.mem_cons_self)
        have hyi : y ≠ i := fun z => hx (z ▸ List.mem_cons_of_mem _ hy)
        by_cases h1 : y = q <;> by_cases h2 : x = q
        · exact hn.1 (h2.trans h1.symm ▸ hy)
        · rw [if_pos h1, if_neg h2] at e
          exact hxi e.symm
        · rw [if_neg h1, if_pos h2] at e
          exact hyi e
        · rw [if_neg h1, if_neg h2] at e
          exact hn.1 (e ▸ hy)
    exact key _ r.nd.2 hi
end

/-! ### targets -/
variable {vs : List Nat}
abbrev TGD := PyData → Env → Option Env
def tG (X : Cx) (G : DX) (O O' vs : List Nat) (φ : TGD) : TG := fun v σ H Q => ∃ (ρ : Env) (S : HS) (own : List (Nat × Addr)) (d : PyData) (ρ' : Env), own.map (·.1) = O ∧ SR X.K G own σ H ρ S ∧ Rp X.K H (Acl G own) v d ∧ φ d ρ = some ρ' ∧
  ∀ σ' own', own'.map (·.1) = O' → SR X.K G own' σ' H ρ' S → (∀ p ∈ own', p ∈ own) → (∀ j, j ∉ vs → σ'[j]? = σ[j]?) → σ'.length = σ.length → Q σ' H
def DG (X : Cx) (G : DX) (O O' vs : List Nat) (tg : Expr) (φ : TGD) : Prop := PG X tg (tG X G O O' vs φ)
abbrev TGDs := List PyData → Env → Option Env
def tGs (X : Cx) (G : DX) (O O' vs : List Nat) (φ : TGDs) : TGs := fun us σ H Q => ∃ (ρ : Env) (S : HS) (own : List (Nat × Addr)) (ds : List PyData) (ρ' : Env), own.map (·.1) = O ∧ SR X.K G own σ H ρ S ∧ RpL X.K H (Acl G own) us ds ∧ φ ds ρ = some ρ' ∧
  ∀ σ' own', own'.map (·.1) = O' → SR X.K G own' σ' H ρ' S → (∀ p ∈ own', p ∈ own) → (∀ j, j ∉ vs → σ'[j]? = σ[j]?) → σ'.length = σ.length → Q σ' H
def DGs (X : Cx) (G : DX) (O O' vs : List Nat) (tg : List Expr) (φ : TGDs) : Prop := PGs X tg (tGs X G O O' vs φ)
theorem pg_imp {t t' : TG} (h : PG X e t) (hi : ∀ v σ H Q, t' v σ H Q → t v σ H Q) : PG X e t' := ⟨fun pins s σ H v u Q I r w => h.run pins s σ H v u Q I r (hi _ _ _ _ w)⟩
theorem pgs_imp {t t' : TGs} (h : PGs X es t) (hi : ∀ v σ H Q, t' v σ H Q → t v σ H Q) : PGs X es t' := ⟨fun pins s σ H v u Q I r w => h.run pins s σ H v u Q I r (hi _ _ _ _ w)⟩
def gN (i : Nat) : TGD := fun d ρ => some (ρ.set i (some (.dat d)))
theorem dg_name {i : Nat} (hv : i ∈ vs) (hO : O' = O.filter fun j => decide (j ≠ i)) (h : PG X e (gName i)) : DG X G O O' vs e (gN i) := by
  refine pg_imp h fun v σ H Q q => ?_
  obtain ⟨ρ, S, own, d, ρ', ho, r, rd, e, k⟩ := q
  cases e
  refine k _ (drop own i) (by rw [drop_fst, ho, hO]) ((r.give i).store (fun z => ?_) (rd.mono fun _ => acl_drop)) (fun p hp => (mem_drop.mp hp).1) (fun j hj => List.getElem?_set_ne fun (z : i = j) => hj (z ▸ hv)) (by simp)
  obtain ⟨p, hp, e⟩ := List.mem_map.mp z
  exact (mem_drop.mp hp).2 e
def gT (n : Nat) (φ : TGDs) : TGD := fun d ρ => match d with
  | .tuple ds => if ds.length = n then φ ds ρ else none
  | _ => none
def gZ : TGDs := fun ds ρ => match ds with
  | [] => some ρ
  | _ => none
def gC (φ : TGD) (ψ : TGDs) : TGDs := fun ds ρ => match ds with
  | d :: ds => (φ d ρ).bind fun ρ => ψ ds ρ
  | _ => none
theorem dgs_nil : DGs X G O O vs [] gZ := by
  refine pgs_imp pgs_nil fun v σ H Q q => ?_
  obtain ⟨ρ, S, own, d, ρ', ho, r, rd, e, k⟩ := q
  cases d with
  | nil =>
    cases rd
    cases e
    exact ⟨rfl, k _ own ho r (fun _ z => z) (fun _ _ => rfl) rfl⟩
  | cons => cases e
theorem acl_sub {own own' : List (Nat × Addr)} (h : ∀ p ∈ own', p ∈ own) {a : Addr} (z : Acl G own a) : Acl G own' a := ⟨z.1, z.2.1, fun p hp => z.2.2 p (h p hp)⟩
theorem dgs_cons {φ : TGD} {ψ : TGDs} (h1 : DG X G O O1 vs e φ) (h2 : DGs X G O1 O' vs es ψ)
    (hs : (assignEach (e :: es) X.env).map (·.2) = assign e X.env :: (assignEach es X.env).map (·.2) := by rfl) : DGs X G O O' vs (e :: es) (gC φ ψ) := by
  refine pgs_imp (pgs_cons h1 h2 hs) fun v σ H Q q => ?_
  obtain ⟨ρ, S, own, ds, ρ', ho, r, rd, e, k⟩ := q
  cases ds with
  | nil => cases e
  | cons d ds =>
    cases rd with
    | cons rd rds =>
      have e : (φ d ρ).bind (fun ρ => ψ ds ρ) = some ρ' := e
      obtain ⟨ρ1, e1, e2⟩ := Option.bind_eq_some_iff.mp e
      exact ⟨_, _, rfl, ρ, S, own, d, ρ1, ho, r, rd, e1, fun σ1 own1 ho1 r1 s1 j1 l1 => ⟨ρ1, S, own1, ds, ρ', ho1, r1, rds.mono fun _ => acl_sub s1, e2, fun σ2 own2 ho2 r2 s2 j2 l2 => k σ2 own2 ho2 r2 (fun p hp => s1 p (s2 p hp)) (fun j hj => (j2 j hj).trans (j1 j hj)) (l2.trans l1)⟩⟩
theorem dg_tup {k : Nat} {φ : TGDs} {n : Nat} (hc : X.calm = true) (h : DGs X G O O' vs es φ)
    (hn : (assignEach es X.env).length = n := by rfl) (hst : (assignEach es X.env).findIdx? (·.1) = none := by rfl) : DG X G O O' vs (.Tuple es k pos) (gT n φ) := by
  refine pg_imp (pg_tup hc h hn hst) fun v σ H Q q => ?_
  obtain ⟨ρ, S, own, d, ρ', ho, r, rd, e, k⟩ := q
  unfold gT at e
  split at e
  · split at e
    · rename_i hl
      cases rd with
      | tup h l => exact ⟨_, _, rfl, SqT.of h, by rw [l.len]; exact hl, ρ, S, own, _, ρ', ho, r, l, e, k⟩
    · cases e
  · cases e

/-! ### statements -/
def WO (G : DX) (own : List (Nat × Addr)) (a : Addr) : Prop := WH G.ha a ∨ ∃ p ∈ own, a = p.2
structure FrS (G : DX) (own own' : List (Nat × Addr)) (H H' : Hp) : Prop where
  fr : Fr (WO G own) H H'
  sub : ∀ p ∈ own', (∃ q ∈ own, q.2 = p.2) ∨ H p.2 = none
theorem FrS.refl {own own' : List (Nat × Addr)} {H : Hp} (h : ∀ p ∈ own', p ∈ own) : FrS G own own' H H := ⟨Fr.refl _ _, fun p hp => .inl ⟨p, h p hp, rfl⟩⟩
theorem Fr.wo {own : List (Nat × Addr)} {H H' : Hp} (f : Fr (WH G.ha) H H') : Fr (WO G own) H H' := f.mono fun _ z => .inl z
theorem FrS.trans {own own1 own2 : List (Nat × Addr)} {H H1 H2 : Hp} (a : FrS G own own1 H H1) (b : FrS G own1 own2 H1 H2) : FrS G own own2 H H2 := by
  refine ⟨⟨fun c o h t m => b.fr.keep c o (a.fr.keep c o h t m) t fun mu z => ?_, fun c h => b.fr.dom c (a.fr.dom c h)⟩, fun p hp => ?_⟩
  · rcases z with z | ⟨p, hp, rfl⟩
    · exact m mu (.inl z)
    · rcases a.sub p hp with ⟨q, hq, e⟩ | n
      · exact m mu (.inr ⟨q, hq, e.symm⟩)
      · rw [n] at h; cases h
  · rcases b.sub p hp with ⟨q, hq, e⟩ | n
    · rcases a.sub q hq with ⟨q', hq', e'⟩ | n
      · exact .inl ⟨q', hq', e'.trans e⟩
      · exact .inr (e ▸ n)
    · exact .inr (a.fr.free n)
/-- behind it an own frame is still of the first's -/
theorem FrS.then {own own1 : List (Nat × Addr)} {H H1 H2 : Hp} (a : FrS G own own1 H H1) (b : Fr (WO G own1) H1 H2) : Fr (WO G own) H H2 :=
  (a.trans (own2 := []) ⟨b, fun _ z => nomatch z⟩).fr
def tS (X : Cx) (G : DX) (E : XK) (O O' : List Nat) (g : SD) : TS := fun D σ H => ∃ (ρ : Env) (S : HS) (own : List (Nat × Addr)), own.map (·.1) = O ∧ SR X.K G own σ H ρ S ∧
  (g ρ S).post (fun fl S' => match fl with
    | .nx ρ' => ∀ σ' H' own', own'.map (·.1) = O' → SR X.K G own' σ' H' ρ' S' → FrS G own own' H H' → D.nx σ' H'
    | .rt d => ∀ v H', Fr (WO G own) H H' → Glob G.ha G.T H' S' → Rp X.K H' (RetA G) v d → D.rt v H') (errs X.mg G.ha G.T (WO G own) H E)
def DS (X : Cx) (G : DX) (E : XK) (O O' : List Nat) (st : Stmt) (g : SD) : Prop := PS X st (tS X G E O O' g)
def DSs (X : Cx) (G : DX) (E : XK) (O O' : List Nat) (st : List Stmt) (g : SD) : Prop := PSs X st (tS X G E O O' g)
theorem errs.wh {own : List (Nat × Addr)} {mg : Str → Option Value} {H : Hp} {c : Str} {S : HS} (h : errs mg G.ha G.T (WO G own) H E c S) : errs mg G.ha G.T (WH G.ha) H E c S := fun cls dd H' m f gl => h cls dd H' m f.wo gl
def sNil : SD := fun ρ S => .ok (.nx ρ) S
def sSeq (g h : SD) : SD := fun ρ S => (g ρ S).bind fun fl S => match fl with
  | .nx ρ => h ρ S
  | .rt d => .ok (.rt d) S
/-- fewer slots owned -/
def dropL (own : List (Nat × Addr)) : List Nat → List (Nat × Addr)
  | [] => own
  | i :: r => dropL (drop own i) r
theorem dropL_fst : ∀ (l : List Nat) (own : List (Nat × Addr)), (dropL own l).map (·.1) = l.foldl (fun O i => O.filter fun j => decide (j ≠ i)) (own.map (·.1))
  | [], _ => rfl
  | i :: r, own => by
    show (dropL (drop own i) r).map (·.1) = _
    rw [dropL_fst r, drop_fst]
    rfl
theorem SR.giveL {K : PySem.W.Frag} {σ : L2.St} {H : Hp} {ρ : Env} {S : HS} : ∀ (l : List Nat) {own : List (Nat × Addr)}, SR K G own σ H ρ S → SR K G (dropL own l) σ H ρ S ∧ ∀ p ∈ dropL own l, p ∈ own
  | [], _, r => ⟨r, fun _ z => z⟩
  | i :: l, own, r => by
    obtain ⟨h1, h2⟩ := SR.giveL l (r.give i)
    exact ⟨h1, fun p hp => (mem_drop.mp (h2 p hp)).1⟩
/-- the end of a block; the slots of l are owned no longer -/
theorem dss_nil (l : List Nat) (hO : O' = l.foldl (fun O i => O.filter fun j => decide (j ≠ i)) O) : DSs X G E O O' [] sNil := by
  refine pss_imp pss_nil fun D σ H q => ?_
  obtain ⟨ρ, S, own, ho, r, k⟩ := q
  obtain ⟨h1, h2⟩ := r.giveL l
  exact k σ H (dropL own l) (by rw [dropL_fst, ho, hO]) h1 (.refl h2)
theorem dss_cons {st : Stmt} {rest : List Stmt} {g h : SD} (h1 : DS X G E O O1 st g) (h2 : DSs X G E O1 O' rest h) : DSs X G E O O' (st :: rest) (sSeq g h) := by
  refine pss_imp (pss_cons h1 h2) fun D σ H q => ?_
  obtain ⟨ρ, S, own, ho, r, k⟩ := q
  refine ⟨ρ, S, own, ho, r, R.post_imp (R.post_bind k) (fun fl S1 p => ?_) fun _ _ z => z⟩
  cases fl with
  | rt d => exact p
  | nx ρ1 =>
    intro σ1 H1 own1 ho1 r1 f1
    refine ⟨ρ1, S1, own1, ho1, r1, R.post_imp p (fun fl2 S2 p2 => ?_) fun c S z cls dd H' m f gl => z cls dd H' m (f1.then f) gl⟩
    cases fl2 with
    | nx ρ2 => exact fun σ2 H2 own2 ho2 r2 f2 => p2 σ2 H2 own2 ho2 r2 (f1.trans f2)
    | rt d => exact fun v H2 f gl rp => p2 v H2 (f1.then f) gl rp
/-- the last statement, which never goes on -/
theorem dss_one {st : Stmt} {g : SD} (h1 : DS X G E O O' st g) : DSs X G E O O' [st] g := pss_one h1

def sRet (f : ED) : SD := fun ρ S => (f ρ S).bind fun x S => .ok (.rt x) S
theorem acl_ret {own : List (Nat × Addr)} {a : Addr} (h : Acl G own a) : RetA G a := h.1
theorem ds_ret (h : DE X G E O true e f) : DS X G E O O' (.Return (some e) pos) (sRet f) := by
  refine ps_imp (ps_ret h) fun D σ H q => ?_
  obtain ⟨ρ, S, own, ho, r, k⟩ := q
  refine ⟨ρ, S, own, ho, r, R.post_imp (R.post_bind k) (fun d S1 p v H1 fr gl rv => ?_) fun _ _ z => z.wh⟩
  refine p v H1 fr.wo gl ?_
  cases rv with
  | rp h => exact h.mono fun _ => acl_ret
  | lst b h l => exact .lst b.1 h (l.mono fun _ => acl_ret)
  | dik b h l => exact .dik b.1 h (l.mono fun _ => acl_ret)
  | dit b h l => exact .dit b.1 h (l.mono fun _ => acl_ret)
end
end DL

/-! DL: assignments, changes of owned things. -/
namespace DL
open PySem PySem.Spec PyProof.Rows L2

section
variable {X : Cx} {G : DX} {E : XK} {O O' O1 O2 : List Nat} {b : Bool} {e e1 e2 e3 tg : Expr} {pos : Pos} {f f1 f2 f3 : ED} {es : List Expr} {fs : AD}

/-! ### an expression that may change the slots' data -/
abbrev EX := Env → M (PyData × Env)
def tX (X : Cx) (G : DX) (E : XK) (O O' : List Nat) (f : EX) : TE := fun σ H Q => ∃ (ρ : Env) (S : HS) (own : List (Nat × Addr)), own.map (·.1) = O ∧ SR X.K G own σ H ρ S ∧
  (f ρ S).post (fun p S' => ∀ v H' own', own'.map (·.1) = O' → SR X.K G own' σ H' p.2 S' → FrS G own own' H H' → Rp X.K H' (Acl G own') v p.1 → Q v H') (errs X.mg G.ha G.T (WO G own) H E)
def DEX (X : Cx) (G : DX) (E : XK) (O O' : List Nat) (e : Expr) (f : EX) : Prop := PE X e (tX X G E O O' f)
def xOf (f : ED) : EX := fun ρ S => (f ρ S).bind fun d S => .ok (d, ρ) S
theorem dex_of (h : DE X G E O false e f) : DEX X G E O O e (xOf f) := by
  refine pe_imp h fun σ H Q q => ?_
  obtain ⟨ρ, S, own, ho, r, k⟩ := q
  exact ⟨ρ, S, own, ho, r, R.post_imp (R.post_bind k) (fun d S1 p v H1 fr gl rv => p v H1 own ho (r.keep fr gl) ⟨fr.wo, fun p hp => .inl ⟨p, hp, rfl⟩⟩ rv.clean) fun _ _ z => z.wh⟩
def sAsg (f : EX) (φ : TGD) : SD := fun ρ S => (f ρ S).bind fun p S => match φ p.1 p.2 with
  | some ρ' => .ok (.nx ρ') S
  | none => .bad
theorem ds_asg {fx : EX} {φ : TGD} {vs : List Nat} (h : DEX X G E O O1 e fx) (hg : DG X G O1 O' vs tg φ) (hs : swapsWithSole [tg] e pos.line X.env = pure false := by rfl) (hw : swappedStores [tg] e X.env = pure none := by rfl)
    (h1 : (assignEach [tg] X.env).map (·.2) = [assign tg X.env] := by rfl) : DS X G E O O' (.Assign [tg] e pos) (sAsg fx φ) := by
  refine ps_imp (ps_asg h hg hs hw h1) fun D σ H q => ?_
  obtain ⟨ρ, S, own, ho, r, k⟩ := q
  refine ⟨ρ, S, own, ho, r, R.post_imp (R.post_bind k) (fun p S1 k v H1 own1 ho1 r1 f1 rp => ?_) fun _ _ z => z⟩
  split at k
  · rename_i ρ' hρ
    refine ⟨p.2, S1, own1, p.1, ρ', ho1, r1, rp, hρ, fun σ' own' ho' r' sub _ _ => ?_⟩
    exact k σ' H1 own' ho' r' (f1.trans (.refl sub))
  · exact k.elim

/-! ### several names at once, new roots among the values -/
inductive PvL (K : PySem.W.Frag) (G : DX) (own : List (Nat × Addr)) (H : Hp) : List (Option Nat) → List V → List PyData → Prop
  | nil : PvL K G own H [] [] []
  | clean {v : V} {d : PyData} {fl : List (Option Nat)} {vs : List V} {ds : List PyData} : Rp K H (Acl G own) v d → PvL K G own H fl vs ds → PvL K G own H (none :: fl) (v :: vs) (d :: ds)
  | own {q : Nat} {a : Addr} {d : PyData} {fl : List (Option Nat)} {vs : List V} {ds : List PyData} : (q, a) ∈ own → RpOwn K H (Acl G own) a d → PvL K G own H fl vs ds → PvL K G own H (some q :: fl) (.ref a :: vs) (d :: ds)
theorem PvL.keep {K : PySem.W.Frag} {own : List (Nat × Addr)} {H H' : Hp} {fl : List (Option Nat)} {vs : List V} {ds : List PyData} (r : ∀ p ∈ own, NH G.ha p.2) (f : Fr (WH G.ha) H H') (h : PvL K G own H fl vs ds) : PvL K G own H' fl vs ds := by
  induction h with
  | nil => exact .nil
  | clean h _ ih => exact .clean (h.keep f (fun a z => z.2.1.not) fun _ z => z) ih
  | own m h _ ih => exact .own m (h.keep f (fun a z => z.2.1.not) (fun _ z => z) (r _ m).not) ih
def tPv (X : Cx) (G : DX) (E : XK) (O O' : List Nat) (fl : List (Option Nat)) (f : AD) : TA := fun σ H Q => ∃ (ρ : Env) (S : HS) (own : List (Nat × Addr)), own.map (·.1) = O ∧ SR X.K G own σ H ρ S ∧ ρ.length ≤ 1000 ∧
  (f ρ S).post (fun ds S' => ∀ vs H' own', own'.map (·.1) = O' → SR X.K G own' σ H' ρ S' → Fr (WH G.ha) H H' → (∀ p ∈ own', p ∈ own ∨ H p.2 = none) → (∀ p ∈ own, p ∈ own') → PvL X.K G own' H' fl vs ds → Q vs H') (errs X.mg G.ha G.T (WH G.ha) H E)
def DP (X : Cx) (G : DX) (E : XK) (O O' : List Nat) (fl : List (Option Nat)) (es : List Expr) (f : AD) : Prop := PA X es (tPv X G E O O' fl f)
theorem dp_nil : DP X G E O O [] [] dNil := by
  refine pa_imp pa_nil fun σ H Q q => ?_
  obtain ⟨ρ, S, own, ho, r, hl, k⟩ := q
  exact k [] H own ho r (Fr.refl _ _) (fun _ z => .inl z) (fun _ z => z) .nil
theorem dp_clean {fl : List (Option Nat)} (h : DE X G E O false e f) (hr : DP X G E O O' fl es fs) (hs : starEach (e :: es) X.env = (false, eval e X.env) :: starEach es X.env := by rfl) : DP X G E O O' (none :: fl) (e :: es) (dCons f fs) := by
  refine pa_imp (pa_cons h hr hs) fun σ H Q q => ?_
  obtain ⟨ρ, S, own, ho, r, hl, k⟩ := q
  refine tE_step ho r (R.post_bind k) fun d1 S1 v1 H1 p1 fr1 r1 rv1 => ?_
  refine ⟨ρ, S1, own, ho, r1, hl, R.post_imp (R.post_bind p1) (fun ds S2 p2 vs H2 own2 ho2 r2 fr2 g2 g2' pv => ?_) fun _ _ z => z.mono fr1⟩
  exact p2 _ H2 own2 ho2 r2 (fr1.trans fr2) (fun p hp => (g2 p hp).elim .inl fun z => .inr (fr1.free z)) g2' (.clean ((rv1.clean.grow g2).keep fr2 (fun a z => z.2.1.not) fun _ z => z) pv)
theorem dp_own (q : Nat) {fl : List (Option Nat)} (hq : 1000 ≤ q) (hqO : q ∉ O) (h : DF X G E O e f) (hr : DP X G E (q :: O) O' fl es fs) (hs : starEach (e :: es) X.env = (false, eval e X.env) :: starEach es X.env := by rfl) : DP X G E O O' (some q :: fl) (e :: es) (dCons f fs) := by
  refine pa_imp (pa_cons h hr hs) fun σ H Q w => ?_
  obtain ⟨ρ, S, own, ho, r, hl, k⟩ := w
  refine ⟨ρ, S, own, ho, r, R.post_imp (R.post_bind k) (fun d S1 p1 a H1 fr1 gl1 ha h0 hn ro => ?_) fun _ _ z => z⟩
  have hs1 : H1 a ≠ none := by cases ro with
    | lst z _ => rw [z]; exact fun z => nomatch z
    | dik z _ => rw [z]; exact fun z => nomatch z
    | dit z _ => rw [z]; exact fun z => nomatch z
  have r1 := r.phantom fr1 gl1 (q := q) (by rw [ho]; exact hqO) (by omega) ha h0 hn hs1
  refine ⟨ρ, S1, (q, a) :: own, by rw [List.map_cons, ho], r1, hl, R.post_imp (R.post_bind p1) (fun ds S2 p2 vs H2 own2 ho2 r2 fr2 g2 g2' pv => ?_) fun _ _ z => z.mono fr1⟩
  have hm : (q, a) ∈ own2 := g2' _ List.mem_cons_self
  refine p2 _ H2 own2 ho2 r2 (fr1.trans fr2) (fun p hp => ?_) (fun p hp => g2' p (List.mem_cons_of_mem _ hp)) (.own hm ?_ pv)
  · rcases g2 p hp with z | z
    · rcases List.mem_cons.mp z with rfl | z
      · exact .inr hn
      · exact .inl z
    · exact .inr (fr1.free z)
  · have ro' : RpOwn X.K H1 (Acl G ((q, a) :: own)) a d := ro.mono fun c z => ⟨z.1.1, z.1.2.1, fun p hp => by
      rcases List.mem_cons.mp hp with rfl | hp
      · exact z.2
      · exact z.1.2.2 p hp⟩
    exact (ro'.grow g2).keep fr2 (fun a z => z.2.1.not) (fun _ z => z) (r2.ow _ hm).2.1.not
def setE : Env → List Nat → List PyData → Env
  | ρ, i :: is, d :: ds => setE (ρ.set i (some (.dat d))) is ds
  | ρ, _, _ => ρ
def setV : L2.St → List Nat → List V → L2.St
  | σ, i :: is, v :: vs => setV (σ.set i (some v)) is vs
  | σ, _, _ => σ
def stO : List Nat → List Nat → List (Option Nat) → List Nat
  | O, i :: is, none :: fl => stO (O.filter fun j => decide (j ≠ i)) is fl
  | O, i :: is, some q :: fl => stO ((O.filter fun j => decide (j ≠ i)).map fun j => if j = q then i else j) is fl
  | O, _, _ => O
theorem not_mem_drop {own : List (Nat × Addr)} {i : Nat} : i ∉ (drop own i).map (·.1) := fun z => by
  obtain ⟨p, hp, e⟩ := List.mem_map.mp z
  exact (mem_drop.mp hp).2 e
theorem PvL.mono {K : PySem.W.Frag} {own own' : List (Nat × Addr)} {H : Hp} {fl : List (Option Nat)} {vs : List V} {ds : List PyData} (hA : ∀ a, Acl G own a → Acl G own' a) (hm : ∀ q a, some q ∈ fl → (q, a) ∈ own → (q, a) ∈ own') (h : PvL K G own H fl vs ds) : PvL K G own' H fl vs ds := by
  induction h with
  | nil => exact .nil
  | clean h _ ih => exact .clean (h.mono hA) (ih fun q a z => hm q a (List.mem_cons_of_mem _ z))
  | own m h _ ih => exact .own (hm _ _ List.mem_cons_self m) (h.mono hA) (ih fun q a z => hm q a (List.mem_cons_of_mem _ z))
theorem store_all {K : PySem.W.Frag} {H : Hp} {S : HS} : ∀ (is : List Nat) (fl : List (Option Nat)) (vs : List V) (ds : List PyData) (own : List (Nat × Addr)) (σ : L2.St) (ρ : Env), SR K G own σ H ρ S → PvL K G own H fl vs ds → ds.length = is.length →
    (∀ i ∈ is, i < ρ.length) → (fl.filterMap id).Nodup → (∀ q, some q ∈ fl → ρ.length ≤ q) → ∃ own', own'.map (·.1) = stO (own.map (·.1)) is fl ∧ SR K G own' (setV σ is vs) H (setE ρ is ds) S ∧ ∀ p ∈ own', ∃ p' ∈ own, p'.2 = p.2
  | [], fl, vs, ds, own, σ, ρ, r, pv, hl, _, _, _ => by
    cases ds with
    | cons => simp at hl
    | nil =>
      cases pv
      exact ⟨own, rfl, r, fun p hp => ⟨p, hp, rfl⟩⟩
  | i :: is, fl, vs, ds, own, σ, ρ, r, pv, hl, hi, hnd, hq => by
    cases pv with
    | nil => simp at hl
    | clean h pv =>
      obtain ⟨own', h1, h2, h3⟩ := store_all is _ _ _ _ _ _ ((r.give i).store not_mem_drop (h.mono fun _ => acl_drop)) (pv.mono (fun _ => acl_drop) fun q a hm z => mem_drop.mpr ⟨z, fun e => by
        have h1 := hi i List.mem_cons_self
        have h2 := hq q (List.mem_cons_of_mem _ hm)
        have e : q = i := e
        omega⟩) (by simpa using hl) (fun j hj => by rw [List.length_set]; exact hi j (List.mem_cons_of_mem _ hj)) (by simpa using hnd) (fun q hm => by rw [List.length_set]; exact hq q (List.mem_cons_of_mem _ hm))
      exact ⟨own', by rw [h1, drop_fst]; rfl, h2, fun p hp => by
        obtain ⟨p', hp', e⟩ := h3 p hp
        exact ⟨p', (mem_drop.mp hp').1, e⟩⟩
    | @own q a d fl vs ds m h pv =>
      have hil := hi i List.mem_cons_self
      have hql := hq q List.mem_cons_self
      have hm : (q, a) ∈ drop own i := mem_drop.mpr ⟨m, fun e => by
        have e : q = i := e
        omega⟩
      have hnd' : (q :: fl.filterMap id).Nodup := by simpa using hnd
      obtain ⟨hn1, hn2⟩ := List.nodup_cons.mp hnd'
      obtain ⟨own', h1, h2, h3⟩ := store_all is _ _ _ _ _ _ ((r.give i).moveTo hm not_mem_drop hql hil (h.mono fun _ => acl_drop)) (pv.mono (fun _ z => acl_move (acl_drop z)) fun q' a' hm' z => List.mem_map.mpr ⟨(q', a'), mem_drop.mpr ⟨z, fun e => by
        have h2 := hq q' (List.mem_cons_of_mem _ hm')
        have e : q' = i := e
        omega⟩, by
          have hne : q' ≠ q := fun e => hn1 (List.mem_filterMap.mpr ⟨some q, e ▸ hm', rfl⟩)
          rw [if_neg hne]⟩) (by simpa using hl) (fun j hj => by rw [List.length_set]; exact hi j (List.mem_cons_of_mem _ hj)) hn2 (fun q hm => by rw [List.length_set]; exact hq q (List.mem_cons_of_mem _ hm))
      exact ⟨own', by rw [h1, move_fst, drop_fst]; rfl, h2, fun p hp => by
        obtain ⟨p', hp', e⟩ := h3 p hp
        obtain ⟨p2, h4, h5, _⟩ := mem_move hp'
        exact ⟨p2, (mem_drop.mp h4).1, h5.trans e⟩⟩
def sPar (is : List Nat) (f : AD) : SD := fun ρ S => if ρ.length ≤ 1000 then (f ρ S).bind fun ds S => if ds.length = is.length ∧ ∀ i ∈ is, i < ρ.length then .ok (.nx (setE ρ is ds)) S else .bad else .bad
theorem PvL.len {K : PySem.W.Frag} {own : List (Nat × Addr)} {H : Hp} {fl : List (Option Nat)} {vs : List V} {ds : List PyData} (h : PvL K G own H fl vs ds) : vs.length = ds.length := by
  induction h with
  | nil => rfl
  | clean _ _ ih => simp [ih]
  | own _ _ _ ih => simp [ih]
/-- the shared end: names stored -/
theorem par_core {is : List Nat} {fl : List (Option Nat)} (hO : O' = stO O1 is fl) (hnd : (fl.filterMap id).Nodup) (hq : ∀ q, some q ∈ fl → 1000 ≤ q) {D : Ends} {σ : L2.St} {H : Hp} (q : tS X G E O O' (sPar is fs) D σ H)
    {Q : List V → Hp → Prop} (hQ : ∀ vs H1, vs.length = is.length → D.nx (setV σ is vs) H1 → Q vs H1) (hst : ∀ σ' H1 H2, D.nx σ' H2 → Same H1 H2 → True) : tPv X G E O O1 fl fs σ H Q := by
  obtain ⟨ρ, S, own, ho, r, k⟩ := q
  obtain ⟨hl, k⟩ := post_if k
  refine ⟨ρ, S, own, ho, r, hl, R.post_imp (R.post_bind k) (fun ds S1 p vs H1 own1 ho1 r1 fr1 g1 g1' pv => ?_) fun _ _ z => z.wh⟩
  obtain ⟨⟨hlen, hi⟩, p⟩ := post_if p
  obtain ⟨own', h1, h2, h3⟩ := store_all is fl vs ds own1 σ ρ r1 pv hlen hi hnd fun q hm => Nat.le_trans hl (hq q hm)
  refine hQ vs H1 (by rw [pv.len, hlen]) (p _ H1 own' (by rw [h1, ho1, hO]) h2 ⟨fr1.wo, fun p hp => ?_⟩)
  obtain ⟨p', hp', e⟩ := h3 p hp
  rcases g1 p' hp' with z | z
  · exact .inl ⟨p', z, e⟩
  · exact .inr (e ▸ z)
theorem ds_par2 {i j : Nat} {x y : Str} {px py pt : Pos} {kt k2 : _} {pt2 : Pos} {fl : List (Option Nat)} (hO : O' = stO O1 [i, j] fl) (hnd : (fl.filterMap id).Nodup) (hq : ∀ q, some q ∈ fl → 1000 ≤ q)
    (hc : X.calm = true) (hN : X.N.Nodup) (hi : X.N[i]? = some x) (hj : X.N[j]? = some y) (hij : i ≠ j) (hx : X.env.scope.names.lookup x = some .local) (hy : X.env.scope.names.lookup y = some .local) (ha : DP X G E O O1 fl [e1, e2] fs)
    (hw : swappedStores [.Tuple [.Name x px, .Name y py] kt pt] (.Tuple [e1, e2] k2 pt2) X.env = pure (some [x, y]))
    (hs : swapsWithSole [.Tuple [.Name x px, .Name y py] kt pt] (.Tuple [e1, e2] k2 pt2) pos.line X.env = pure false := by rfl) :
    DS X G E O O' (.Assign [.Tuple [.Name x px, .Name y py] kt pt] (.Tuple [e1, e2] k2 pt2) pos) (sPar [i, j] fs) := by
  refine ps_imp (ps_par hc hN hi hj hij hx hy ha hw hs) fun D σ H q => ?_
  refine par_core hO hnd hq q (fun vs H1 hl k => ?_) fun _ _ _ _ _ => trivial
  match vs, hl, k with
  | [v, w], _, k => exact ⟨v, w, rfl, k⟩
theorem ds_par3 {i j l : Nat} {x y z : Str} {px py pz pt : Pos} {kt k2 : _} {pt2 : Pos} {fl : List (Option Nat)} (hO : O' = stO O1 [i, j, l] fl) (hnd : (fl.filterMap id).Nodup) (hq : ∀ q, some q ∈ fl → 1000 ≤ q)
    (h : ∀ {ta : TA}, PA X [e1, e2, e3] ta → PS X (.Assign [.Tuple [.Name x px, .Name y py, .Name z pz] kt pt] (.Tuple [e1, e2, e3] k2 pt2) pos) (tPar3 i j l ta)) (ha : DP X G E O O1 fl [e1, e2, e3] fs) :
    DS X G E O O' (.Assign [.Tuple [.Name x px, .Name y py, .Name z pz] kt pt] (.Tuple [e1, e2, e3] k2 pt2) pos) (sPar [i, j, l] fs) := by
  refine ps_imp (h ha) fun D σ H q => ?_
  refine par_core hO hnd hq q (fun vs H1 hl k => ?_) fun _ _ _ _ _ => trivial
  match vs, hl, k with
  | [v, w, u], _, k => exact ⟨v, w, u, rfl, k⟩
def gNames (is : List Nat) : TGs := fun vs σ H Q => vs.length = is.length ∧ Q (setV σ is vs) H
theorem pgn_nil : PGs X [] (gNames []) := pgs_imp pgs_nil fun v σ H Q q => by
  obtain ⟨h, k⟩ := q
  cases v with
  | nil => exact ⟨rfl, k⟩
  | cons => simp at h
theorem pgn_cons {i : Nat} {is : List Nat} (h : PG X e (gName i)) (hs : PGs X es (gNames is)) (hst : (assignEach (e :: es) X.env).map (·.2) = assign e X.env :: (assignEach es X.env).map (·.2) := by rfl) : PGs X (e :: es) (gNames (i :: is)) :=
  pgs_imp (pgs_cons h hs hst) fun v σ H Q q => by
    obtain ⟨hl, k⟩ := q
    cases v with
    | nil => simp at hl
    | cons v r => exact ⟨v, r, rfl, by simpa using hl, k⟩
/-- .. through a tuple -/
theorem ds_parT {is : List Nat} {kt k2 : _} {pt pt2 : Pos} {tgs : List Expr} {fl : List (Option Nat)} {n : Nat} (hO : O' = stO O1 is fl) (hnd : (fl.filterMap id).Nodup) (hq : ∀ q, some q ∈ fl → 1000 ≤ q) (hn0 : is.length = n) (hz : n ≤ LINE)
    (hc : X.calm = true) (hg : PGs X tgs (gNames is)) (ha : DP X G E O O1 fl es fs)
    (hn : (assignEach tgs X.env).length = n := by rfl) (hst : (assignEach tgs X.env).findIdx? (·.1) = none := by rfl)
    (hs : swapsWithSole [.Tuple tgs kt pt] (.Tuple es k2 pt2) pos.line X.env = pure false := by rfl) (hw : swappedStores [.Tuple tgs kt pt] (.Tuple es k2 pt2) X.env = pure none := by rfl)
    (h1 : (assignEach [.Tuple tgs kt pt] X.env).map (·.2) = [assign (.Tuple tgs kt pt) X.env] := by rfl) : DS X G E O O' (.Assign [.Tuple tgs kt pt] (.Tuple es k2 pt2) pos) (sPar is fs) := by
  refine ps_imp (ps_asg (pe_tup ha) (pg_tup hc hg hn hst) hs hw h1) fun D σ H q => ?_
  obtain ⟨ρ, S, own, ho, r, k⟩ := q
  obtain ⟨hl, k⟩ := post_if k
  refine ⟨ρ, S, own, ho, r, hl, R.post_imp (R.post_bind k) (fun ds S1 p vs H1 own1 ho1 r1 fr1 g1 g1' pv => ?_) fun _ _ z => z.wh⟩
  obtain ⟨⟨hlen, hi⟩, p⟩ := post_if p
  have hvl : vs.length = is.length := by rw [pv.len, hlen]
  refine ⟨line_le (by rw [hvl, hn0]; exact hz), fun t ht => ⟨t, vs, rfl, SqT.of upd_same, by rw [hvl, hn0], hvl, ?_⟩⟩
  have s2 : Same H1 (upd H1 t (.tup vs)) := upd_same_of ht
  have r2 := r1.keep (.of_same s2) (r1.glob.same s2)
  obtain ⟨own', h1, h2, h3⟩ := store_all is fl vs ds own1 σ ρ r2 (pv.keep (fun p hp => (r1.ow p hp).2.1) (.of_same s2)) hlen hi hnd fun q hm => Nat.le_trans hl (hq q hm)
  refine p _ _ own' (by rw [h1, ho1, hO]) h2 ⟨(fr1.trans (.of_same s2)).wo, fun p hp => ?_⟩
  obtain ⟨p', hp', e⟩ := h3 p hp
  rcases g1 p' hp' with z | z
  · exact .inl ⟨p', z, e⟩
  · exact .inr (e ▸ z)
/-- one name, what is new -/
def sOwn (i : Nat) (f : ED) : SD := fun ρ S => (f ρ S).bind fun d S => if ρ.length ≤ 1000 ∧ i < ρ.length then .ok (.nx (ρ.set i (some (.dat d)))) S else .bad
theorem own_core {i : Nat} (hO : O' = stO (1000 :: O) [i] [some 1000]) (hq : 1000 ∉ O) {D : Ends} {σ : L2.St} {H : Hp} (q : tS X G E O O' (sOwn i f) D σ H) : tF X G E O f σ H (fun x H1 => gName i x σ H1 D.nx) := by
  obtain ⟨ρ, S, own, ho, r, k⟩ := q
  refine ⟨ρ, S, own, ho, r, R.post_imp (R.post_bind k) (fun d S1 p a H1 fr1 gl1 ha h0 hn ro => ?_) fun _ _ z => z.wh⟩
  obtain ⟨⟨hl, hi⟩, p⟩ := post_if p
  have hs1 : H1 a ≠ none := by cases ro with
    | lst z _ => rw [z]; exact fun z => nomatch z
    | dik z _ => rw [z]; exact fun z => nomatch z
    | dit z _ => rw [z]; exact fun z => nomatch z
  have r1 := r.phantom fr1 gl1 (q := 1000) (by rw [ho]; exact hq) hl ha h0 hn hs1
  have ro' : RpOwn X.K H1 (Acl G ((1000, a) :: own)) a d := ro.mono fun c z => ⟨z.1.1, z.1.2.1, fun p hp => by
      rcases List.mem_cons.mp hp with rfl | hp
      · exact z.2
      · exact z.1.2.2 p hp⟩
  obtain ⟨own', h1, h2, h3⟩ := store_all [i] [some 1000] [.ref a] [d] ((1000, a) :: own) σ ρ r1 (.own List.mem_cons_self ro' .nil) rfl (fun j hj => by
    have : j = i := by simpa using hj
    omega) (by simp) (fun q hm => by
      have : q = 1000 := by simpa using hm
      omega)
  refine p _ H1 own' (by rw [h1, List.map_cons, ho, hO]) h2 ⟨fr1.wo, fun p hp => ?_⟩
  obtain ⟨p', hp', e⟩ := h3 p hp
  rcases List.mem_cons.mp hp' with z | z
  · subst z
    exact .inr (e ▸ hn)
  · exact .inl ⟨p', z, e⟩
theorem ds_own {i : Nat} (hO : O' = stO (1000 :: O) [i] [some 1000]) (hq : 1000 ∉ O) (hg : PG X tg (gName i)) (h : DF X G E O e f) (hs : swapsWithSole [tg] e pos.line X.env = pure false := by rfl) (hw : swappedStores [tg] e X.env = pure none := by rfl)
    (h1 : (assignEach [tg] X.env).map (·.2) = [assign tg X.env] := by rfl) : DS X G E O O' (.Assign [tg] e pos) (sOwn i f) :=
  ps_imp (ps_asg h hg hs hw h1) fun D σ H q => own_core hO hq q

/-! ### what is owned is written -/
theorem SR.write {K : PySem.W.Frag} {own : List (Nat × Addr)} {σ : L2.St} {H : Hp} {ρ : Env} {S : HS} {i : Nat} {a : Addr} {o' : HO} {d' : PyData} (r : SR K G own σ H ρ S) (hm : (i, a) ∈ own) {d0 : PyData} (hi : ρ[i]? = some (some (.dat d0)))
    (hd : RpOwn K (upd H a o') (Acl G own) a d') : SR K G own σ (upd H a o') (ρ.set i (some (.dat d'))) S ∧ FrS G own own H (upd H a o') := by
  have hilt : i < ρ.length := by
    rw [List.getElem?_eq_some_iff] at hi
    exact hi.1
  have nh := (r.ow _ hm).2.1
  have ro0 : RpOwn K H (Acl G own) a d0 := by
    obtain ⟨v, _, h2⟩ := r.slot i _ hi
    exact (h2.2 a hm).2
  have mt : ∀ o, H a = some o → isMut o = true := fun o h => by
    cases ro0 with
    | lst q _ => rw [q] at h; cases h; rfl
    | dik q _ => rw [q] at h; cases h; rfl
    | dit q _ => rw [q] at h; cases h; rfl
  have fr : ∀ (W : Addr → Prop), W a → Fr W H (upd H a o') := fun W hw => ⟨fun c o h t m => by
      by_cases hc : c = a
      · subst hc; exact absurd hw (m (mt o h))
      · rw [upd_ne hc]; exact h, fun c h => by
      by_cases hc : c = a
      · subst hc; rw [upd_same]; exact fun z => nomatch z
      · rw [upd_ne hc]; exact h⟩
  have ne : ∀ c, (H c ≠ none → c ≠ a → True) := fun _ _ _ => trivial
  refine ⟨⟨⟨fun h e => ?_, ?_⟩, r.frm.updN (r.ow _ hm).1, by rw [List.length_set]; exact r.len, fun j sl e => ?_, fun p hp => ⟨(r.ow p hp).1, (r.ow p hp).2.1, (fr (fun _ => True) trivial).dom _ (r.ow p hp).2.2⟩, r.nd⟩, ⟨fr _ (.inr ⟨_, hm, rfl⟩), fun p hp => .inl ⟨p, hp, rfl⟩⟩⟩
  · obtain ⟨h1, h2, h3⟩ := r.glob.hand h e
    have n1 : h.1 ≠ a := fun z => (nh h e).1 z.symm
    exact ⟨by rw [upd_ne n1]; exact h1, by rw [upd_ne fun z => (nh h e).2 z.symm]; exact h2, h3⟩
  · intro p hp
    obtain ⟨ps, h1, h2, h3⟩ := r.glob.tabs p hp
    have nt : ∀ c u, H c = some u → isMut u = false → c ≠ a := fun c u e m z => by
      subst z
      rw [mt u e] at m
      cases m
    refine ⟨ps, by rw [upd_ne (nt _ _ h1 rfl)]; exact h1, h2, fun pos cv hc => ?_⟩
    obtain ⟨c, e1, e2⟩ := h3 pos cv hc
    exact ⟨c, e1, by rw [upd_ne (nt _ _ e2 rfl)]; exact e2⟩
  · by_cases hj : i = j
    · subst hj
      rw [List.getElem?_set_self hilt] at e
      cases e
      obtain ⟨v, h1, h2⟩ := r.slot i _ hi
      have hv := (h2.2 a hm).1
      subst hv
      refine ⟨_, h1, fun n => absurd (List.mem_map.mpr ⟨_, hm, rfl⟩) n, fun c m => ?_⟩
      have := own_inj r.nd.2 m hm rfl
      cases this
      exact ⟨rfl, hd⟩
    · rw [List.getElem?_set_ne hj] at e
      obtain ⟨w, h1, h2⟩ := r.slot j sl e
      refine ⟨w, h1, ?_⟩
      cases sl with
      | hnd => exact h2
      | lam => exact h2
      | exc => exact h2
      | scr l => exact h2
      | dat d =>
        have ap : ∀ c, Acl G own c → ¬ (c = a) := fun c z e => z.2.2 _ hm e
        refine ⟨fun n => (h2.1 n).keep (fr (fun c => c = a) rfl) ap fun _ z => z, fun c m => ⟨(h2.2 c m).1, (h2.2 c m).2.keep (fr (fun c => c = a) rfl) ap (fun _ z => z) fun z => ?_⟩⟩
        have := own_inj2 r.nd.1 m hm z
        cases this
        exact hj rfl
end
end DL

/-! DL: append, extend, pop, stores by place; if, while, return; calls; a def. -/
namespace DL
open PySem PySem.Spec PyProof.Rows L2

section
variable {X : Cx} {G : DX} {E : XK} {O O' O1 O2 : List Nat} {b : Bool} {e e1 e2 e3 tg : Expr} {pos : Pos} {f f1 f2 f3 : ED} {es : List Expr} {fs : AD}
theorem SR.at {K : PySem.W.Frag} {own : List (Nat × Addr)} {σ : L2.St} {H : Hp} {ρ : Env} {S : HS} {i : Nat} {d : PyData} (r : SR K G own σ H ρ S) (hO : own.map (·.1) = O) (hi : i ∈ O) (hd : ρ[i]? = some (some (.dat d))) :
    ∃ a, (i, a) ∈ own ∧ σ[i]? = some (some (.ref a)) ∧ RpOwn K H (Acl G own) a d := by
  rw [← hO] at hi
  obtain ⟨⟨j, a⟩, hm, rfl⟩ := List.mem_map.mp hi
  obtain ⟨v, h1, h2⟩ := r.slot _ _ hd
  obtain ⟨rfl, ro⟩ := h2.2 a hm
  exact ⟨a, hm, h1, ro⟩
def lstAt (ρ : Env) (i : Nat) : Option (List PyData) := match ρ[i]? with
  | some (some (.dat (.list ds))) => some ds
  | _ => none
theorem lstAt_some {ρ : Env} {i : Nat} {ds : List PyData} (h : lstAt ρ i = some ds) : ρ[i]? = some (some (.dat (.list ds))) := by
  unfold lstAt at h
  split at h
  · rename_i e; cases h; exact e
  · cases h
/-- x.append(e), x owned in slot i -/
def sApp (i : Nat) (fx : EX) : SD := fun ρ S => (M.opt (lstAt ρ i) S).bind fun _ S => (fx ρ S).bind fun p S => (M.opt (lstAt p.2 i) S).bind fun ds S => if ds.length < LINE then .ok (.nx (p.2.set i (some (.dat (.list (ds ++ [p.1])))))) S else .bad
theorem ds_app {i : Nat} {ta : TA} {fx : EX} (hi : i ∈ O) (hi1 : i ∈ O1) (h : DEX X G E O O1 e fx) (hp : PE X e1 (tBM X.K "list" rAppend (tVar i) (tCons (tX X G E O O1 fx) tNil)))
    (hs : swapsWith e1 none pos.line X.env = pure false := by rfl) : DS X G E O O1 (.Expr e1 pos) (sApp i fx) := by
  refine ps_imp (ps_expr hp hs) fun D σ H q => ?_
  obtain ⟨ρ, S, own, ho, r, k⟩ := q
  obtain ⟨ds0, hd0, k⟩ := post_opt (R.post_bind k)
  obtain ⟨a, hm, hσ, ro⟩ := r.at ho hi (lstAt_some hd0)
  cases ro with
  | lst q0 l0 =>
    refine ⟨.ref a, hσ, .inl ⟨rfl, _, SqL.of q0⟩, ρ, S, own, ho, r, R.post_imp (R.post_bind k) (fun p S1 k v H1 own1 ho1 r1 f1 rp => ?_) fun _ _ z => z⟩
    obtain ⟨ds, hd, k⟩ := post_opt (R.post_bind k)
    obtain ⟨hl, k⟩ := post_if k
    obtain ⟨a1, hm1, hσ1, ro1⟩ := r1.at ho1 hi1 (lstAt_some hd)
    have ea : a1 = a := by
      rw [hσ] at hσ1
      cases hσ1
      rfl
    subst ea
    cases ro1 with
    | @lst vs _ q1 l1 =>
      have ap : ∀ c, Acl G own1 c → ¬ (c = a1) := fun c z e => z.2.2 _ hm1 e
      have fr : Fr (fun c => c = a1) H1 (upd H1 a1 (.lst (vs ++ [v]))) := ⟨fun c o h t m => by
        by_cases hc : c = a1
        · subst hc; rw [q1] at h; cases h; exact absurd rfl (m rfl)
        · rw [upd_ne hc]; exact h, fun c h => by
        by_cases hc : c = a1
        · subst hc; rw [upd_same]; exact fun z => nomatch z
        · rw [upd_ne hc]; exact h⟩
      have w := r1.write hm1 (lstAt_some hd) (o' := .lst (vs ++ [v])) (d' := .list (ds ++ [p.1])) (.lst upd_same ((l1.keep fr ap fun _ z => z).append (.cons (rp.keep fr ap fun _ z => z) .nil)))
      exact ⟨a1, vs, v, rfl, rfl, q1, Nat.lt_of_lt_of_le (by rw [l1.len]; exact hl) (by rw [sizeLine_eq]; exact Nat.le_refl _), k σ _ own1 ho1 w.1 (f1.trans w.2)⟩
/-- x.extend(e) -/
def sExt (i : Nat) (f : ED) : SD := fun ρ S => (M.opt (lstAt ρ i) S).bind fun ds S => (f ρ S).bind fun d S => match d with
  | .list es => if ds.length + es.length ≤ LINE then .ok (.nx (ρ.set i (some (.dat (.list (ds ++ es)))))) S else .bad
  | _ => .bad
theorem ds_ext {i : Nat} (hi : i ∈ O) (h : DE X G E O true e f) (hp : PE X e1 (tBM X.K "list" rExtend (tVar i) (tCons (tE X G E O true f) tNil)))
    (hs : swapsWith e1 none pos.line X.env = pure false := by rfl) : DS X G E O O (.Expr e1 pos) (sExt i f) := by
  refine ps_imp (ps_expr hp hs) fun D σ H q => ?_
  obtain ⟨ρ, S, own, ho, r, k⟩ := q
  obtain ⟨ds0, hd0, k⟩ := post_opt (R.post_bind k)
  obtain ⟨a, hm, hσ, ro⟩ := r.at ho hi (lstAt_some hd0)
  cases ro with
  | lst q0 l0 =>
    refine ⟨.ref a, hσ, .inl ⟨rfl, _, SqL.of q0⟩, ?_⟩
    refine tE_step ho r (R.post_imp (R.post_bind k) (fun _ _ z => z) fun _ _ z => z.wh) fun d1 S1 v1 H1 p1 fr1 r1 rv1 => ?_
    split at p1
    · obtain ⟨hl, p1⟩ := post_if p1
      obtain ⟨c, ws, rfl, hc, lw⟩ := rv_list rv1
      obtain ⟨a1, hm1, hσ1, ro1⟩ := r1.at ho hi (lstAt_some hd0)
      have ea : a1 = a := by
        rw [hσ] at hσ1
        cases hσ1
        rfl
      subst ea
      cases ro1 with
      | @lst vs _ q1 l1 =>
        have ap : ∀ c, Acl G own c → ¬ (c = a1) := fun c z e => z.2.2 _ hm1 e
        have fr : Fr (fun c => c = a1) H1 (upd H1 a1 (.lst (vs ++ ws))) := ⟨fun c o h t m => by
          by_cases hc : c = a1
          · subst hc; rw [q1] at h; cases h; exact absurd rfl (m rfl)
          · rw [upd_ne hc]; exact h, fun c h => by
          by_cases hc : c = a1
          · subst hc; rw [upd_same]; exact fun z => nomatch z
          · rw [upd_ne hc]; exact h⟩
        have w := r1.write hm1 (lstAt_some hd0) (o' := .lst (vs ++ ws)) (d' := .list (ds0 ++ _)) (.lst upd_same ((l1.keep fr ap fun _ z => z).append (lw.keep fr ap fun _ z => z)))
        exact ⟨a1, c, vs, ws, rfl, rfl, q1, hc, line_le (by rw [l1.len, lw.len]; exact hl), p1 σ _ own ho w.1 (FrS.trans ⟨fr1.wo, fun p hp => .inl ⟨p, hp, rfl⟩⟩ w.2)⟩
    · exact p1.elim
/-- x.pop() -/
def xPop (i : Nat) : EX := fun ρ S => (M.opt (lstAt ρ i) S).bind fun ds S => (M.opt (ds[ds.length - 1]?) S).bind fun d S => .ok (d, ρ.set i (some (.dat (.list ds.dropLast)))) S
theorem wr_fr {H1 : Hp} {a1 : Addr} {o o' : HO} (q1 : H1 a1 = some o) (hm : isMut o = true) : Fr (fun c => c = a1) H1 (upd H1 a1 o') := ⟨fun c o h t m => by
    by_cases hc : c = a1
    · subst hc; rw [q1] at h; cases h; exact absurd rfl (m hm)
    · rw [upd_ne hc]; exact h, fun c h => by
    by_cases hc : c = a1
    · subst hc; rw [upd_same]; exact fun z => nomatch z
    · rw [upd_ne hc]; exact h⟩
theorem dex_pop {i : Nat} (hi : i ∈ O) (hp : PE X e1 (tBM0 X.K "list" rPop (tVar i))) : DEX X G E O O e1 (xPop i) := by
  refine pe_imp hp fun σ H Q q => ?_
  obtain ⟨ρ, S, own, ho, r, k⟩ := q
  obtain ⟨ds0, hd0, k⟩ := post_opt (R.post_bind k)
  obtain ⟨d, hd, k⟩ := post_opt (R.post_bind k)
  obtain ⟨a, hm, hσ, ro⟩ := r.at ho hi (lstAt_some hd0)
  cases ro with
  | @lst vs _ q0 l0 =>
    obtain ⟨v, hv, rp⟩ := l0.get hd
    have ap : ∀ c, Acl G own c → ¬ (c = a) := fun c z e => z.2.2 _ hm e
    have w := r.write hm (lstAt_some hd0) (o' := .lst vs.dropLast) (d' := .list ds0.dropLast) (.lst upd_same (l0.dropLast.keep (wr_fr q0 rfl) ap fun _ z => z))
    exact ⟨.ref a, hσ, .inl ⟨rfl, _, SqL.of q0⟩, a, vs, v, rfl, rfl, q0, by rw [l0.len]; exact hv, k v _ own ho w.1 w.2 (rp.keep (wr_fr q0 rfl) ap fun _ z => z)⟩
/-- x.pop(e) -/
def xPopAt (i : Nat) (f : ED) : EX := fun ρ S => (M.opt (lstAt ρ i) S).bind fun ds S => (f ρ S).bind fun x S => (M.opt (toI x) S).bind fun j S => if 0 ≤ j ∧ j < ds.length ∧ ds.length ≤ LINE then (M.opt (ds[j.toNat]?) S).bind fun d S => .ok (d, ρ.set i (some (.dat (.list (ds.eraseIdx j.toNat))))) S else .bad
theorem dex_popAt {i : Nat} (hi : i ∈ O) (h : DE X G E O true e f) (hp : PE X e1 (tBM X.K "list" rPopAt (tVar i) (tCons (tE X G E O true f) tNil))) : DEX X G E O O e1 (xPopAt i f) := by
  refine pe_imp hp fun σ H Q q => ?_
  obtain ⟨ρ, S, own, ho, r, k⟩ := q
  obtain ⟨ds0, hd0, k⟩ := post_opt (R.post_bind k)
  obtain ⟨a, hm, hσ, ro⟩ := r.at ho hi (lstAt_some hd0)
  cases ro with
  | lst q0 l0 =>
    refine ⟨.ref a, hσ, .inl ⟨rfl, _, SqL.of q0⟩, ?_⟩
    refine tE_step ho r (R.post_imp (R.post_bind k) (fun _ _ z => z) fun _ _ z => z.wh) fun d1 S1 v1 H1 p1 fr1 r1 rv1 => ?_
    obtain ⟨j, hj, k⟩ := post_opt (R.post_bind p1)
    cases toI_some hj
    obtain ⟨⟨j0, j1, j2⟩, k⟩ := post_if k
    obtain ⟨d, hd, k⟩ := post_opt (R.post_bind k)
    obtain ⟨a1, hm1, hσ1, ro1⟩ := r1.at ho hi (lstAt_some hd0)
    have ea : a1 = a := by
      rw [hσ] at hσ1
      cases hσ1
      rfl
    subst ea
    cases ro1 with
    | @lst vs _ q1 l1 =>
      obtain ⟨v, hv, rp⟩ := l1.get hd
      have ap : ∀ c, Acl G own c → ¬ (c = a1) := fun c z e => z.2.2 _ hm1 e
      have w := r1.write hm1 (lstAt_some hd0) (o' := .lst (vs.eraseIdx j.toNat)) (d' := .list (ds0.eraseIdx j.toNat)) (.lst upd_same ((l1.erase _).keep (wr_fr q1 rfl) ap fun _ z => z))
      have hlen := l1.len
      have hL : ds0.length ≤ 16777216 := j2
      refine ⟨a1, vs, j, j.toNat, v, rfl, by rw [rv_int rv1], q1, by omega, by omega, ?_, hv, k v _ own ho w.1 (FrS.trans ⟨fr1.wo, fun p hp => .inl ⟨p, hp, rfl⟩⟩ w.2) (rp.keep (wr_fr q1 rfl) ap fun _ z => z)⟩
      have : ixN vs.length j = some j.toNat := by
        unfold ixN
        rw [if_pos j0, if_pos (by omega)]
      exact (ixN_seq this).1

/-! ### small statements -/
def sDrop (f : ED) : SD := fun ρ S => (f ρ S).bind fun _ S => .ok (.nx ρ) S
theorem ds_expr (h : DE X G E O true e f) (hs : swapsWith e none pos.line X.env = pure false := by rfl) : DS X G E O O (.Expr e pos) (sDrop f) := by
  refine ps_imp (ps_expr h hs) fun D σ H q => ?_
  obtain ⟨ρ, S, own, ho, r, k⟩ := q
  exact ⟨ρ, S, own, ho, r, R.post_imp (R.post_bind k) (fun d S1 p v H1 fr gl rv => p σ H1 own ho (r.keep fr gl) ⟨fr.wo, fun p hp => .inl ⟨p, hp, rfl⟩⟩) fun _ _ z => z.wh⟩
def iaddD : PyData → PyData → Option PyData
  | .int i, .int j => some (.int (i + j))
  | _, _ => none
theorem od_iadd : OpR X (inplaceOp .Add) (rD X.K iaddD) := od_int (rI0_rI iop_add) fun dx dy d e => by
  cases dx <;> cases dy <;> simp [iaddD] at e
  subst e; exact ⟨_, _, rfl, rfl, trivial, fun _ _ => .int _⟩
def sAug (i : Nat) (g : PyData → PyData → Option PyData) (f : ED) : SD := fun ρ S => match ρ[i]? with
  | some (some (.dat x)) => (f ρ S).bind fun y S => (M.opt (g x y) S).bind fun z S => .ok (.nx (ρ.set i (some (.dat z)))) S
  | _ => .bad
theorem ds_aug {i : Nat} {x : Str} {op : Operator} {pos' : Pos} {g : PyData → PyData → Option PyData} (hO : i ∉ O) (hN : X.N.Nodup) (hi : X.N[i]? = some x) (hx : Loc X.env.scope x) (h : DE X G E O true e f) (ho : OpR X (inplaceOp op) (rD X.K g))
    (hf : X.fn x = true ∨ X.env.scope.names.lookup x = some .local := by first | exact .inl rfl | exact .inr rfl | assumption) : DS X G E O O (.AugAssign (.Name x pos') op e pos) (sAug i g f) := by
  refine ps_imp (ps_aug hN hi hx h (fun pins s σ H x y v u Q I a c d => ho pins s σ H x y v u Q I a c d) hf) fun D σ H q => ?_
  obtain ⟨ρ, S, own, hown, r, k⟩ := q
  unfold sAug at k
  split at k
  · rename_i d0 hd0
    obtain ⟨v, h1, h2⟩ := r.slot _ _ hd0
    refine ⟨v, h1, ?_⟩
    have rp0 := h2.1 (by rw [hown]; exact hO)
    refine tE_step hown r (R.post_imp (R.post_bind k) (fun _ _ z => z) fun _ _ z => z.wh) fun d1 S1 v1 H1 p1 fr1 r1 rv1 => ?_
    obtain ⟨d, hd, k⟩ := post_opt (R.post_bind p1)
    refine ⟨Acl G own, BR G own true, d0, d1, .rp (rp0.keep fr1 (fun a z => z.2.1.not) fun _ z => z), rv1, fun a z => r1.free z, d, hd, fun z H2 s2 rz => ?_⟩
    have r2 := r1.keep (.of_same s2) (r1.glob.same s2)
    exact k _ H2 own hown (r2.store (by rw [hown]; exact hO) rz) ⟨(fr1.trans (.of_same s2)).wo, fun p hp => .inl ⟨p, hp, rfl⟩⟩
  · exact k.elim
def sIf (c : BD) (g h : SD) : SD := fun ρ S => (c ρ S).bind fun k S => if k = true then g ρ S else h ρ S
theorem ds_if {c : BD} {g h : SD} {ss ts : List Stmt} (hc : DT X G E O e c) (h1 : DSs X G E O O' ss g) (h2 : DSs X G E O O' ts h) : DS X G E O O' (.If e ss ts pos) (sIf c g h) := by
  refine ps_imp (ps_if hc h1 h2) fun D σ H q => ?_
  obtain ⟨ρ, S, own, ho, r, k⟩ := q
  refine tB_step ho r (R.post_imp (R.post_bind k) (fun _ _ z => z) fun _ _ z => z.wh) fun d1 S1 H1 p1 fr1 r1 => ?_
  have key : ∀ {g : SD}, (g ρ S1).post (fun fl S' => match fl with
    | .nx ρ' => ∀ σ' H' own', own'.map (·.1) = O' → SR X.K G own' σ' H' ρ' S' → FrS G own own' H H' → D.nx σ' H'
    | .rt d => ∀ v H', Fr (WO G own) H H' → Glob G.ha G.T H' S' → Rp X.K H' (RetA G) v d → D.rt v H') (errs X.mg G.ha G.T (WO G own) H E) → tS X G E O O' g D σ H1 := fun {g} p => by
    refine ⟨ρ, S1, own, ho, r1, R.post_imp p (fun fl S2 p2 => ?_) fun c S z => z.mono fr1.wo⟩
    cases fl with
    | nx ρ' => exact fun σ' H' own' ho' r' f' => p2 σ' H' own' ho' r' (FrS.trans ⟨fr1.wo, fun p hp => .inl ⟨p, hp, rfl⟩⟩ f')
    | rt d => exact fun v H' f' gl rp => p2 v H' (fr1.wo.trans f') gl rp
  cases d1 with
  | true =>
    simp only [if_true] at p1 ⊢
    exact key p1
  | false =>
    simp only [Bool.false_eq_true, if_false] at p1 ⊢
    exact key p1
/-- while, with so many turns allowed -/
def mWhile (c : BD) (g : SD) : Nat → SD
  | 0 => fun _ _ => .bad
  | n + 1 => fun ρ S => (c ρ S).bind fun k S => if k = true then (g ρ S).bind fun fl S => match fl with
    | .nx ρ => mWhile c g n ρ S
    | .rt d => .ok (.rt d) S
    else .ok (.nx ρ) S
theorem ds_while {c : BD} {g : SD} {ss : List Stmt} (n : Nat) (hp : PassesOwn (model X.prog X.w) X.A X.env X.xe) (hc : DT X G E O e c) (h1 : DSs X G E O O ss g) : DS X G E O O (.While e ss [] pos) (mWhile c g n) := by
  refine ps_imp (ps_while hp hc h1) fun D σ H q => ?_
  obtain ⟨ρ, S, own, ho, r, k⟩ := q
  refine ⟨fun m σ' H' => ∃ ρ' S' own', own'.map (·.1) = O ∧ SR X.K G own' σ' H' ρ' S' ∧ FrS G own own' H H' ∧ (mWhile c g m ρ' S').post (fun fl S' => match fl with
    | .nx ρ' => ∀ σ' H' own', own'.map (·.1) = O → SR X.K G own' σ' H' ρ' S' → FrS G own own' H H' → D.nx σ' H'
    | .rt d => ∀ v H', Fr (WO G own) H H' → Glob G.ha G.T H' S' → Rp X.K H' (RetA G) v d → D.rt v H') (errs X.mg G.ha G.T (WO G own) H E), ⟨n, ρ, S, own, ho, r, .refl fun _ z => z, k⟩, ?_⟩
  rintro m σ1 H1 ⟨ρ1, S1, own1, ho1, r1, f1, k1⟩
  cases m with
  | zero => exact k1.elim
  | succ m =>
    have er : ∀ {c S}, errs X.mg G.ha G.T (WO G own) H E c S → errs X.mg G.ha G.T (WO G own1) H1 E c S := fun {c S} z cls dd H' m f gl => z cls dd H' m (f1.then f) gl
    refine tB_step ho1 r1 (R.post_imp (R.post_bind k1) (fun _ _ z => z) fun _ _ z => (er z).wh) fun d2 S2 H2 p2 fr2 r2 => ?_
    have f2 : FrS G own own1 H H2 := f1.trans ⟨fr2.wo, fun p hp => .inl ⟨p, hp, rfl⟩⟩
    cases d2 with
    | false =>
      simp only [Bool.false_eq_true, if_false] at p2 ⊢
      exact p2 σ1 H2 own1 ho1 r2 f2
    | true =>
      simp only [if_true] at p2 ⊢
      refine ⟨fun σ' H' => ∃ ρ' S' own', own'.map (·.1) = O ∧ SR X.K G own' σ' H' ρ' S' ∧ FrS G own own' H H' ∧ (mWhile c g m ρ' S').post (fun fl S' => match fl with
        | .nx ρ' => ∀ σ' H' own', own'.map (·.1) = O → SR X.K G own' σ' H' ρ' S' → FrS G own own' H H' → D.nx σ' H'
        | .rt d => ∀ v H', Fr (WO G own) H H' → Glob G.ha G.T H' S' → Rp X.K H' (RetA G) v d → D.rt v H') (errs X.mg G.ha G.T (WO G own) H E), fun σ' H' z => ⟨m, Nat.lt_succ_self m, z⟩, ?_⟩
      refine ⟨ρ1, S2, own1, ho1, r2, R.post_imp (R.post_bind p2) (fun fl S3 p3 => ?_) fun _ _ z cls dd H' m f gl => z cls dd H' m (f2.then f) gl⟩
      cases fl with
      | nx ρ3 => exact fun σ3 H3 own3 ho3 r3 f3 => ⟨ρ3, S3, own3, ho3, r3, f2.trans f3, p3⟩
      | rt d => exact fun v H3 f3 gl rp => p3 v H3 (f2.then f3) gl rp

/-! ### calls of defs, no repr in the air -/
structure FnG (P : Program) (w : World) (K : PySem.W.Frag) (mg : Str → Option Value) (base : Heap) (CX : CXT) (k : Nat) (f : Addr) (fd : FuncData) (ps : List Str) (sp : Sp) : Prop where
  len : ∀ vs H Q E, sp vs H Q E → vs.length = ps.length
  run : ∀ (A : Around) (outer : List PySem.Env) (s : Shared) (H : Hp) (args : Args) (us : List Value) (vs : List V) (Q : VK) (E : XK), A.guards = some [] → Room k A → Env0 P w K mg base A outer s H → BindsTo s fd args (ps.zip us) → Vals vs us → sp vs H Q E →
    codeAny (model P w) A (.call (.ref f) args) (CR CX outer P w H s Q E) s
theorem FnG.of {P : Program} {w : World} {K : PySem.W.Frag} {mg : Str → Option Value} {base : Heap} {CX : CXT} {x qual : Str} {st : Stmt} {f : Addr} {fd : FuncData} {N ps : List Str} {k : Nat} {sp : Sp} (F : Fun K x qual st f fd) (S : FnScope N ps (defScope st)) (len : ∀ vs H Q E, sp vs H Q E → vs.length = ps.length)
    (hbody : ∀ (cdv : Value) (A : Around) (outer : List PySem.Env) (s : Shared) (H : Hp) (vs : List V) (Q : VK) (E : XK), (A.deeper (envOfC qual (defScope st) s.heap.objs.size f cdv)).guards = some [] → Room k (A.deeper (envOfC qual (defScope st) s.heap.objs.size f cdv)) → sp vs H Q E →
      ∃ t, PSs (cxOf CX P w K mg base N qual (defScope st) f cdv A outer s H E) (defBody st) t ∧ t { nx := fun _ H' => Q .non H', rt := Q } (start N vs) H) : FnG P w K mg base CX (k + 1) f fd ps sp := by
  obtain ⟨oc, od, kV, doc, pm, an, cdv, ct, osl, rfl, lk, hcd⟩ := F.ex
  exact ⟨len, fun A outer s H args us vs Q E hgd hr e0 hb r hsp => LamX.run_ofS lk hcd S hr e0 hb r (len _ _ _ _ hsp) fun hr' => hbody cdv A outer s H vs Q E hgd hr' hsp⟩
section
variable {X : Cx} {CX : CXT} {k : Nat} {f : Addr} {fd : FuncData} {ps : List Str} {sp : Sp} {E : XK} {x : Str} {p pos : Pos} {e : Expr} {es : List Expr} {t : TA}
theorem pe_callG (F : FnG X.prog X.w X.K X.mg X.base CX k f fd ps sp) (hgd : X.A.guards = some []) (hr : Room k X.A) (hg : Gl X x) (hm : X.mg x = some (.ref f)) (hk : PySem.W.keepIn X.K (.ref f) = true) (hb : Binds X.K fd ps []) (hx : Passes CX X E)
    (ha : PA X (e :: es) t) (hdb : (x == ("__debug__" : Str)) = false := by decide) (he : starEach (e :: es) X.env = (false, eval e X.env) :: starEach es X.env := by rfl) (hpl : (backTo pos (starEach es X.env)).any (·.1) = false := by rfl) :
    PE X (.Call (.Name x p) (e :: es) [] pos) (tCall sp [] E t) := by
  refine ⟨fun pins s σ H Q I h => ?_⟩
  refine wpAny_Call_Name_kw (ld_glob I hg hm ?_ hdb)
  refine PySem.W.callWith_K (h₀ := X.base) I.ok.mod.kin hk (thn (ha.run pos pins s σ H _ I h) fun us s1 ⟨vs, H1, I1, r, q⟩ => ⟨I1.kIn, ?_⟩) he hpl
  have q : sp (vs ++ []) H1 Q E := q
  rw [List.append_nil] at q
  have hl : us.length = ps.length := by rw [← r.length]; exact F.len _ _ _ _ q
  have hbn := hb s1 us I1.kIn (by rw [List.append_nil]; exact hl)
  rw [List.append_nil] at hbn
  refine wpAny_call (codeAny_mono (F.run X.A X.stack s1 H1 ⟨us, []⟩ us vs Q E hgd hr I1.env0 hbn r q) fun r' s' hq => ?_)
  cases r' with
  | error e => exact hx pins σ H1 s1 e s' I1 hq
  | ok fl =>
    cases fl with
    | ret u => exact I1.after hq
    | next => exact False.elim hq
    | brk => exact False.elim hq
    | cont => exact False.elim hq
end
section
variable {X : Cx} {G : DX} {E : XK} {O O' O1 O2 : List Nat} {b : Bool} {e e1 e2 e3 tg : Expr} {pos : Pos} {f f1 f2 f3 : ED} {es : List Expr} {fs : AD}
/-! ### calls of defs -/
inductive ArgR (K : PySem.W.Frag) (H : Hp) (ha : Option (Addr × Addr)) (A : Addr → Prop) : V → Slot → Prop
  | dat {v : V} {d : PyData} : Rp K H A v d → ArgR K H ha A v (.dat d)
  | hnd {h : Addr × Addr} : ha = some h → ArgR K H ha A (.ref h.1) .hnd
  | scr {a : Addr} {l : List Int} : ha = none → SqL K H a (l.map V.int) → ArgR K H ha A (.ref a) (.scr l)
theorem sql_fr {K : PySem.W.Frag} {W : Addr → Prop} {H H' : Hp} {a : Addr} {xs : List V} (s : SqL K H a xs) (f : Fr W H H') (h : ¬ W a) : SqL K H' a xs := by
  rcases s with (s | ⟨o, s⟩) | s
  · exact .inl (.inl (f.keep _ _ s rfl fun _ => h))
  · exact .inl (.inr ⟨o, f.keep _ _ s rfl fun z => nomatch z⟩)
  · exact .inr s
inductive ArgsR (K : PySem.W.Frag) (H : Hp) (ha : Option (Addr × Addr)) (A : Addr → Prop) : List V → List Slot → Prop
  | nil : ArgsR K H ha A [] []
  | cons {v : V} {s : Slot} {vs : List V} {ss : List Slot} : ArgR K H ha A v s → ArgsR K H ha A vs ss → ArgsR K H ha A (v :: vs) (s :: ss)
/-- a def's promise by its mirror -/
def spD (K : PySem.W.Frag) (mg : Str → Option Value) (T : List (Addr × Str)) (n : Nat) (m : List Slot → M PyData) : Sp := fun vs H Q E => ∃ (F : Addr → Prop) (ha : Option (Addr × Addr)) (S : HS) (sl : List Slot),
  vs.length = n ∧ ArgsR K H ha F vs sl ∧ Glob ha T H S ∧ (∀ a, F a → NH ha a) ∧
  (m sl S).post (fun d S' => ∀ v H', Fr (WH ha) H H' → Glob ha T H' S' → Rp K H' (fun a => F a ∨ H a = none) v d → Q v H') (errs mg ha T (WH ha) H E)
abbrev SAD := Env → M (List Slot)
def tSA (X : Cx) (G : DX) (E : XK) (O : List Nat) (f : SAD) : TA := fun σ H Q => ∃ (ρ : Env) (S : HS) (own : List (Nat × Addr)), own.map (·.1) = O ∧ SR X.K G own σ H ρ S ∧
  (f ρ S).post (fun sl S' => ∀ vs H', Fr (WH G.ha) H H' → Glob G.ha G.T H' S' → ArgsR X.K H' G.ha (Acl G own) vs sl → Q vs H') (errs X.mg G.ha G.T (WH G.ha) H E)
structure DSA (X : Cx) (G : DX) (E : XK) (O : List Nat) (es : List Expr) (f : SAD) : Prop where
  pa : PA X es (tSA X G E O f)
  len : ∀ ρ S sl S', f ρ S = .ok sl S' → sl.length = es.length
theorem R.bind_ok {α β : Type} {r : R α} {k : α → HS → R β} {c : β} {S : HS} (h : r.bind k = .ok c S) : ∃ a S1, r = .ok a S1 ∧ k a S1 = .ok c S := by
  cases r with
  | ok a S1 => exact ⟨a, S1, rfl, h⟩
  | err => cases h
  | bad => cases h
def aNil : SAD := fun _ S => .ok [] S
def aCons (f : ED) (g : SAD) : SAD := fun ρ S => (f ρ S).bind fun x S => (g ρ S).bind fun xs S => .ok (.dat x :: xs) S
def aHand (i : Nat) (g : SAD) : SAD := fun ρ S => match ρ[i]? with
  | some (some .hnd) => (g ρ S).bind fun xs S => .ok (.hnd :: xs) S
  | _ => .bad
theorem ArgR.keep {K : PySem.W.Frag} {H H' : Hp} {ha : Option (Addr × Addr)} {A : Addr → Prop} {v : V} {s : Slot} (f : Fr (WH ha) H H') (hA : ∀ a, A a → ¬ WH ha a) (h : ArgR K H ha A v s) : ArgR K H' ha A v s := by
  cases h with
  | dat h => exact .dat (h.keep f hA fun _ z => z)
  | hnd e => exact .hnd e
  | scr e s => exact .scr e (sql_fr s f fun ⟨h, z, _⟩ => by rw [e] at z; cases z)
theorem dsa_nil : DSA X G E O [] aNil := by
  refine ⟨?_, fun ρ S sl S' h => by cases h; rfl⟩
  refine pa_imp pa_nil fun σ H Q q => ?_
  obtain ⟨ρ, S, own, hO, r, p⟩ := q
  exact p [] H (Fr.refl _ _) r.glob .nil
theorem dsa_cons {gs : SAD} (h : DE X G E O false e f) (hs : DSA X G E O es gs) (hst : starEach (e :: es) X.env = (false, eval e X.env) :: starEach es X.env := by rfl) : DSA X G E O (e :: es) (aCons f gs) := by
  refine ⟨?_, fun ρ S sl S' h => by
    obtain ⟨a, S1, _, h⟩ := R.bind_ok h
    obtain ⟨sl', S2, h1, h⟩ := R.bind_ok h
    cases h
    simp [hs.len _ _ _ _ h1]⟩
  refine pa_imp (pa_cons h hs.pa hst) fun σ H Q q => ?_
  obtain ⟨ρ, S, own, hO, r, p⟩ := q
  refine tE_step hO r (R.post_bind p) fun d1 S1 v1 H1 p1 fr1 r1 rv1 => ?_
  refine ⟨ρ, S1, own, hO, r1, R.post_imp (R.post_bind p1) (fun sl S2 p2 vs H2 fr2 gl2 ar => ?_) fun _ _ z => z.mono fr1⟩
  exact p2 _ H2 (fr1.trans fr2) gl2 (.cons ((ArgR.dat rv1.clean).keep fr2 fun a z => z.2.1.not) ar)
theorem dsa_hand {gs : SAD} (i : Nat) (h : PE X e (tVar i)) (hs : DSA X G E O es gs) (hst : starEach (e :: es) X.env = (false, eval e X.env) :: starEach es X.env := by rfl) : DSA X G E O (e :: es) (aHand i gs) := by
  refine ⟨?_, fun ρ S sl S' h => by
    unfold aHand at h
    split at h
    · obtain ⟨sl', S2, h1, h⟩ := R.bind_ok h
      cases h
      simp [hs.len _ _ _ _ h1]
    · cases h⟩
  refine pa_imp (pa_cons h hs.pa hst) fun σ H Q q => ?_
  obtain ⟨ρ, S, own, hO, r, p⟩ := q
  unfold aHand at p
  split at p
  · rename_i hd
    obtain ⟨v, h1, h, e, rfl⟩ := r.slot _ _ hd
    refine ⟨_, h1, ρ, S, own, hO, r, R.post_imp (R.post_bind p) (fun sl S2 p2 vs H2 fr2 gl2 ar => ?_) fun _ _ z => z⟩
    exact p2 _ H2 fr2 gl2 (.cons (.hnd e) ar)
  · exact p.elim
def aScr (i : Nat) (g : SAD) : SAD := fun ρ S => match ρ[i]? with
  | some (some (.scr l)) => (g ρ S).bind fun xs S => .ok (.scr l :: xs) S
  | _ => .bad
theorem dsa_scr {gs : SAD} (i : Nat) (h : PE X e (tVar i)) (hs : DSA X G E O es gs) (hst : starEach (e :: es) X.env = (false, eval e X.env) :: starEach es X.env := by rfl) : DSA X G E O (e :: es) (aScr i gs) := by
  refine ⟨?_, fun ρ S sl S' h => by
    unfold aScr at h
    split at h
    · obtain ⟨sl', S2, h1, h⟩ := R.bind_ok h
      cases h
      simp [hs.len _ _ _ _ h1]
    · cases h⟩
  refine pa_imp (pa_cons h hs.pa hst) fun σ H Q q => ?_
  obtain ⟨ρ, S, own, hO, r, p⟩ := q
  unfold aScr at p
  split at p
  · rename_i l hd
    obtain ⟨v, h1, hn, a, rfl, sq⟩ := r.slot _ _ hd
    refine ⟨_, h1, ρ, S, own, hO, r, R.post_imp (R.post_bind p) (fun sl S2 p2 vs H2 fr2 gl2 ar => ?_) fun _ _ z => z⟩
    have nw : ∀ c, ¬ WH G.ha c := fun c ⟨h, z, _⟩ => by rw [hn] at z; cases z
    exact p2 _ H2 fr2 gl2 (.cons (.scr hn (sql_fr sq (r.frm.trans fr2) (nw _))) ar)
  · exact p.elim
def dCall (m : List Slot → M PyData) (g : SAD) : ED := fun ρ S => (g ρ S).bind fun sl S => m sl S
theorem ArgsR.len {K : PySem.W.Frag} {H : Hp} {ha : Option (Addr × Addr)} {A : Addr → Prop} {vs : List V} {sl : List Slot} (h : ArgsR K H ha A vs sl) : vs.length = sl.length := by
  induction h with
  | nil => rfl
  | cons _ _ ih => simp [ih]
variable {k n : Nat} {fa : Addr} {fd : FuncData} {ps : List Str} {x : Str} {p : Pos} {m : List Slot → M PyData} {gs : SAD}
theorem de_call (F : FnG X.prog X.w X.K X.mg X.base (L2.CX X.prog X.w) k fa fd ps (spD X.K X.mg G.T n m)) (hgd : X.A.guards = some []) (hr : Room k X.A) (hg : Gl X x) (hm : X.mg x = some (.ref fa)) (hk : PySem.W.keepIn X.K (.ref fa) = true) (hb : Binds X.K fd ps []) (tk : Takes X fun cls d _ H => E cls d H)
    (ha : DSA X G E O (e :: es) gs) (hn : (e :: es).length = n := by rfl) (hdb : (x == ("__debug__" : Str)) = false := by decide) (he : starEach (e :: es) X.env = (false, eval e X.env) :: starEach es X.env := by rfl)
    (hpl : (backTo pos (starEach es X.env)).any (·.1) = false := by rfl) : DE X G E O b (.Call (.Name x p) (e :: es) [] pos) (dCall m gs) := by
  refine pe_imp (pe_callG F hgd hr hg hm hk hb (passes_call tk fun _ _ _ _ z => z) ha.pa hdb he hpl) fun σ H Q q => ?_
  obtain ⟨ρ, S, own, hO, r, p⟩ := q
  have p' := R.post_bind p
  refine ⟨ρ, S, own, hO, r, ?_⟩
  cases hgs : gs ρ S with
  | bad => rw [hgs] at p'; exact p'.elim
  | err c S1 => rw [hgs] at p'; exact p'
  | ok sl S1 =>
    rw [hgs] at p'
    intro vs H1 fr1 gl1 ar
    have r1 := r.keep fr1 gl1
    refine ⟨Acl G own, G.ha, S1, sl, by rw [List.append_nil, ar.len]; rw [ha.len _ _ _ _ hgs, hn], by rw [List.append_nil]; exact ar, gl1, fun a z => z.2.1, R.post_imp p' (fun d S2 p2 v H2 fr2 gl2 rp => ?_) fun c S z => z.mono fr1⟩
    exact p2 v H2 (fr1.trans fr2) gl2 (.rp (rp.mono fun a z => z.elim id fun z => r1.free z))
end
end
end DL

/-! DL: what is walked; for; comprehensions. -/
namespace DL
open PySem PySem.Spec PyProof.Rows L2

/-- an iterator over the things ds, told at H0 -/
structure ItOk (K : PySem.W.Frag) (A B : Addr → Prop) (J : It) (ds : List PyData) (H0 : Hp) : Prop where
  go : ∀ (H : Hp) (i : Nat), Fr (fun a => ¬ B a) H0 H → i < ds.length → J.go i H
  yl : ∀ (H H' : Hp) (i : Nat) (x : V) (A' : Addr → Prop), i < ds.length → Fr (fun a => ¬ B a) H0 H → (∀ v d, Rp K H0 A v d → Rp K H A' v d) → J.yld i H x H' → Same H H' ∧ ∃ d, ds[i]? = some d ∧ Rp K H' A' x d
  stop : ∀ (H : Hp), Fr (fun a => ¬ B a) H0 H → J.stop ds.length H
abbrev ID := Env → M (List PyData)
def tI (X : Cx) (G : DX) (E : XK) (O : List Nat) (b : Bool) (fi : ID) : TI := fun σ H R => ∃ (ρ : Env) (S : HS) (own : List (Nat × Addr)), own.map (·.1) = O ∧ SR X.K G own σ H ρ S ∧
  (fi ρ S).post (fun ds S' => ∀ J H', Fr (WH G.ha) H H' → Glob G.ha G.T H' S' → ItOk X.K (Acl G own) (BR G own b) J ds H' → R J H') (errs X.mg G.ha G.T (WH G.ha) H E)
def DI (X : Cx) (G : DX) (E : XK) (O : List Nat) (b : Bool) (tg iter : Expr) (fi : ID) : Prop := PI X tg iter (tI X G E O b fi)

section
variable {X : Cx} {G : DX} {E : XK} {O O' O1 O2 vs : List Nat} {b : Bool} {e e1 e2 e3 tg iter : Expr} {pos : Pos} {f f1 f2 f3 : ED} {es : List Expr} {fs : AD}
/-- growing roots, both sets kept -/
theorem Rp.grow2 {K : PySem.W.Frag} {own own' : List (Nat × Addr)} {H : Hp} {v : V} {d : PyData} (h : ∀ p ∈ own', (∃ q ∈ own, q.2 = p.2) ∨ H p.2 = none) (hd : Rp K H (Acl G own) v d) : Rp K H (fun a => Acl G own a ∧ Acl G own' a) v d := by
  have key : ∀ a, Acl G own a → H a ≠ none → Acl G own a ∧ Acl G own' a := fun a z n => ⟨z, z.1, z.2.1, fun p hp e => by
    rcases h p hp with ⟨q, hq, e'⟩ | q
    · exact z.2.2 q hq (e.trans e'.symm)
    · exact n (e ▸ q)⟩
  refine Rp.rec (motive_1 := fun v d _ => Rp K H (fun a => Acl G own a ∧ Acl G own' a) v d) (motive_2 := fun vs ds _ => RpL K H (fun a => Acl G own a ∧ Acl G own' a) vs ds) (motive_3 := fun vs ds _ => RpK K H (fun a => Acl G own a ∧ Acl G own' a) vs ds)
    .non (fun b => .bl b) (fun i => .int i) (fun x => .str x) ?_ ?_ ?_ ?_ .nil (fun _ _ a b => .cons a b) .nil (fun _ _ a b => .cons a b) hd
  · exact fun a h _ ih => .lst (key _ a (by rw [h]; exact fun z => nomatch z)) h ih
  · exact fun h _ ih => .tup h ih
  · exact fun a h _ ih => .dik (key _ a (by rw [h]; exact fun z => nomatch z)) h ih
  · exact fun a h _ ih => .dit (key _ a (by rw [h]; exact fun z => nomatch z)) h ih
def mFor (φ : TGD) (g : SD) : List PyData → SD
  | [] => fun ρ S => .ok (.nx ρ) S
  | d :: ds => fun ρ S => (M.opt (φ d ρ) S).bind fun ρ S => (g ρ S).bind fun fl S => match fl with
    | .nx ρ => mFor φ g ds ρ S
    | .rt d => .ok (.rt d) S
def sFor (fi : ID) (φ : TGD) (g : SD) : SD := fun ρ S => (fi ρ S).bind fun ds S => mFor φ g ds ρ S
theorem acl_not_wo {own : List (Nat × Addr)} {a : Addr} (z : Acl G own a) : ¬ WO G own a := fun w => by
  rcases w with w | ⟨p, hp, e⟩
  · exact z.2.1.not w
  · exact z.2.2 p hp e
theorem ds_for {φ : TGD} {g : SD} {fi : ID} {body : List Stmt} (hp : PassesOwn (model X.prog X.w) X.A X.env X.xe) (hc : X.calm = true) (hi : DI X G E O false tg iter fi) (hg : DG X G O O1 vs tg φ) (hb : DSs X G E O1 O body g)
    (hs : ∀ x, foldedSetIterable iter X.env x = pure x := by intro _; rfl) : DS X G E O O (.For tg iter body [] pos) (sFor fi φ g) := by
  refine ps_imp (ps_for hp hc hi hg hb hs) fun D σ H q => ?_
  obtain ⟨ρ, S, own, ho, r, k⟩ := q
  refine ⟨ρ, S, own, ho, r, R.post_imp (R.post_bind k) (fun ds S1 k J H1 fr1 gl1 it => ?_) fun _ _ z => z.wh⟩
  have r1 := r.keep fr1 gl1
  have f1 : FrS G own own H H1 := ⟨fr1.wo, fun p hp => .inl ⟨p, hp, rfl⟩⟩
  have hB : ∀ {H'}, Fr (WO G own) H1 H' → Fr (fun a => ¬ BR G own false a) H1 H' := fun f => f.mono fun a w z => acl_not_wo z w
  refine ⟨fun i m σ' H' => m = ds.length - i ∧ i ≤ ds.length ∧ ∃ ρ' S' own', own'.map (·.1) = O ∧ SR X.K G own' σ' H' ρ' S' ∧ FrS G own own' H1 H' ∧ (mFor φ g (ds.drop i) ρ' S').post (fun fl S' => match fl with
    | .nx ρ' => ∀ σ' H' own', own'.map (·.1) = O → SR X.K G own' σ' H' ρ' S' → FrS G own own' H H' → D.nx σ' H'
    | .rt d => ∀ v H', Fr (WO G own) H H' → Glob G.ha G.T H' S' → Rp X.K H' (RetA G) v d → D.rt v H') (errs X.mg G.ha G.T (WO G own) H E), ⟨ds.length, by simp, Nat.zero_le _, ρ, S1, own, ho, r1, .refl fun _ z => z, k⟩, ?_⟩
  rintro i m σ2 H2 ⟨rfl, hi2, ρ2, S2, own2, ho2, r2, f2, k2⟩
  by_cases hlt : i < ds.length
  · refine .inr ⟨it.go H2 i (hB f2.fr) hlt, fun σ' H' => ∃ m', m' < ds.length - i ∧ (m' = ds.length - (i + 1) ∧ i + 1 ≤ ds.length ∧ ∃ ρ' S' own', own'.map (·.1) = O ∧ SR X.K G own' σ' H' ρ' S' ∧ FrS G own own' H1 H' ∧ (mFor φ g (ds.drop (i + 1)) ρ' S').post (fun fl S' => match fl with
      | .nx ρ' => ∀ σ' H' own', own'.map (·.1) = O → SR X.K G own' σ' H' ρ' S' → FrS G own own' H H' → D.nx σ' H'
      | .rt d => ∀ v H', Fr (WO G own) H H' → Glob G.ha G.T H' S' → Rp X.K H' (RetA G) v d → D.rt v H') (errs X.mg G.ha G.T (WO G own) H E)), fun σ' H' z => z, fun x H3 hy => ?_⟩
    obtain ⟨s3, d, hd, rd⟩ := it.yl H2 H3 i x (Acl G own2) hlt (hB f2.fr) (fun v d rp => (rp.grow2 f2.sub).keep f2.fr (fun a z => acl_not_wo z.1) fun a z => z.2) hy
    have r3 := r2.keep (.of_same s3) (r2.glob.same s3)
    have f3 : FrS G own own2 H1 H3 := f2.trans ⟨.of_same s3, fun p hp => .inl ⟨p, hp, rfl⟩⟩
    have e : ds.drop i = d :: ds.drop (i + 1) := by
      have hd' : ds[i] = d := by rw [List.getElem?_eq_getElem hlt] at hd; exact Option.some.inj hd
      rw [← hd']
      exact List.drop_eq_getElem_cons hlt
    rw [e] at k2
    obtain ⟨ρ3, e3, k3⟩ := post_opt (R.post_bind k2)
    refine ⟨ρ2, S2, own2, d, ρ3, ho2, r3, rd, e3, fun σ4 own4 ho4 r4 sub4 _ _ => ?_⟩
    have f4 : FrS G own own4 H1 H3 := f3.trans (.refl sub4)
    have f04 : FrS G own own4 H H3 := f1.trans f4
    refine ⟨ρ3, S2, own4, ho4, r4, R.post_imp (R.post_bind k3) (fun fl S5 k5 => ?_) fun c S z cls dd H' m f gl => z cls dd H' m (f04.then f) gl⟩
    cases fl with
    | nx ρ5 => exact fun σ5 H5 own5 ho5 r5 f5 => ⟨_, by omega, rfl, hlt, ρ5, S5, own5, ho5, r5, f4.trans f5, k5⟩
    | rt d => exact fun v H5 f5 gl rp => k5 v H5 (f04.then f5) gl rp
  · have e : i = ds.length := by omega
    subst e
    rw [List.drop_length] at k2
    exact .inl ⟨it.stop H2 (hB f2.fr), k2 σ2 H2 own2 ho2 r2 (f1.trans f2)⟩

/-! ### comprehensions -/
def wipeE (ρ : Env) : List Nat → Env
  | [] => ρ
  | v :: vs => (wipeE ρ vs).set v none
theorem wipeE_len (ρ : Env) : ∀ vs : List Nat, (wipeE ρ vs).length = ρ.length
  | [] => rfl
  | v :: vs => by unfold wipeE; rw [List.length_set, wipeE_len ρ vs]
theorem wipeE_some {ρ : Env} {i : Nat} {x : Slot} : ∀ {vs : List Nat}, (wipeE ρ vs)[i]? = some (some x) → ρ[i]? = some (some x) ∧ i ∉ vs
  | [], h => ⟨h, by simp⟩
  | v :: vs, h => by
    unfold wipeE at h
    by_cases e : v = i
    · subst e
      rw [List.getElem?_set] at h
      simp only [if_true] at h
      split at h <;> cases h
    · rw [List.getElem?_set_ne e] at h
      obtain ⟨h1, h2⟩ := wipeE_some h
      exact ⟨h1, fun z => (List.mem_cons.mp z).elim (fun z => e z.symm) h2⟩
theorem wipe_in {σ : L2.St} {i : Nat} : ∀ {vs : List Nat}, i ∈ vs → i < σ.length → (wipe σ vs)[i]? = some none
  | v :: vs, h, hl => by
    unfold wipe
    by_cases e : v = i
    · subst e
      rw [List.getElem?_set_self (by rw [wipe_length]; exact hl)]
    · rw [List.getElem?_set_ne e]
      exact wipe_in ((List.mem_cons.mp h).elim (fun z => absurd z.symm e) id) hl
theorem wipe_eq {σ σ' : L2.St} {vs : List Nat} (h : ∀ j, j ∉ vs → σ'[j]? = (wipe σ vs)[j]?) (hl : σ'.length = (wipe σ vs).length) : wipe σ' vs = wipe σ vs := by
  have hl' : σ'.length = σ.length := by rw [hl, wipe_length]
  refine List.ext_getElem? fun j => ?_
  by_cases hj : j ∈ vs
  · by_cases hlt : j < σ.length
    · rw [wipe_in hj (by omega), wipe_in hj hlt]
    · rw [List.getElem?_eq_none (by rw [wipe_length]; omega), List.getElem?_eq_none (by rw [wipe_length]; omega)]
  · rw [wipe_out hj, h j hj]
theorem SR.wipe {K : PySem.W.Frag} {own : List (Nat × Addr)} {σ : L2.St} {H : Hp} {ρ : Env} {S : HS} (r : SR K G own σ H ρ S) (vs : List Nat) : SR K G own (L2.wipe σ vs) H (wipeE ρ vs) S where
  glob := r.glob
  frm := r.frm
  len := by rw [wipe_length, wipeE_len]; exact r.len
  slot := fun i sl e => by
    obtain ⟨h1, h2⟩ := wipeE_some e
    obtain ⟨v, h3, h4⟩ := r.slot i sl h1
    exact ⟨v, by rw [wipe_out h2]; exact h3, h4⟩
  ow := r.ow
  nd := r.nd
/-- the content of a root that is no slot's changes -/
theorem SR.poke {K : PySem.W.Frag} {own : List (Nat × Addr)} {σ : L2.St} {H : Hp} {ρ : Env} {S : HS} {q : Nat} {a : Addr} {o o' : HO} (r : SR K G own σ H ρ S) (hm : (q, a) ∈ own) (hl : ρ.length ≤ q) (ho : H a = some o) (hmu : isMut o = true) : SR K G own σ (upd H a o') ρ S := by
  have fr := wr_fr (o' := o') ho hmu
  have nh := (r.ow _ hm).2.1
  have ap : ∀ c, Acl G own c → ¬ (c = a) := fun c z e => z.2.2 _ hm e
  refine ⟨⟨fun h e => ?_, ?_⟩, r.frm.updN (r.ow _ hm).1, r.len, fun j sl e => ?_, fun p hp => ⟨(r.ow p hp).1, (r.ow p hp).2.1, fr.dom _ (r.ow p hp).2.2⟩, r.nd⟩
  · obtain ⟨h1, h2, h3⟩ := r.glob.hand h e
    exact ⟨by rw [upd_ne fun z => (nh h e).1 z.symm]; exact h1, by rw [upd_ne fun z => (nh h e).2 z.symm]; exact h2, h3⟩
  · intro p hp
    obtain ⟨ps, h1, h2, h3⟩ := r.glob.tabs p hp
    have nt : ∀ c u, H c = some u → isMut u = false → c ≠ a := fun c u e m z => by
      subst z
      rw [ho] at e
      cases e
      rw [hmu] at m
      cases m
    refine ⟨ps, by rw [upd_ne (nt _ _ h1 rfl)]; exact h1, h2, fun pos cv hc => ?_⟩
    obtain ⟨c, e1, e2⟩ := h3 pos cv hc
    exact ⟨c, e1, by rw [upd_ne (nt _ _ e2 rfl)]; exact e2⟩
  · obtain ⟨w, h1, h2⟩ := r.slot j sl e
    refine ⟨w, h1, ?_⟩
    cases sl with
    | hnd => exact h2
    | lam => exact h2
    | exc => exact h2
    | scr l => exact h2
    | dat d =>
      refine ⟨fun n => (h2.1 n).keep fr ap fun _ z => z, fun c m => ⟨(h2.2 c m).1, (h2.2 c m).2.keep fr ap (fun _ z => z) fun z => ?_⟩⟩
      have := own_inj2 r.nd.1 m hm z
      cases this
      rw [List.getElem?_eq_some_iff] at e
      have := e.1
      omega
def noErr {α : Type} (r : R α) : R α := match r with
  | .ok a S => .ok a S
  | _ => .bad
theorem post_noErr {α : Type} {r : R α} {P : α → HS → Prop} {E E' : Str → HS → Prop} (h : (noErr r).post P E) : r.post P E' := by
  cases r with
  | ok a S => exact h
  | err => exact h.elim
  | bad => exact h.elim
/-- one turn after the other; ρ: the slots, those of the comprehension's own names empty -/
def mComp (φ : TGD) (c : BD) (f : ED) (ρ : Env) : List PyData → HS → R (List PyData)
  | [], S => .ok [] S
  | d :: ds, S => (M.opt (φ d ρ) S).bind fun ρ1 S => (noErr (c ρ1 S)).bind fun k S => if k = true then (noErr (f ρ1 S)).bind fun y S => (mComp φ c f ρ ds S).bind fun ys S => .ok (y :: ys) S else mComp φ c f ρ ds S
def bYes : BD := fun _ S => .ok true S
def dComp (vs : List Nat) (φ : TGD) (c : BD) (f : ED) (fi : ID) : ED := fun ρ S => (fi ρ S).bind fun ds S => if ds.length ≤ LINE ∧ ρ.length ≤ 1000 then (mComp φ c f (wipeE ρ vs) ds S).bind fun ys S => .ok (.list ys) S else .bad
def DTs (X : Cx) (G : DX) (E : XK) (O : List Nat) (es : List Expr) (f : BD) : Prop := PTs X es (tB X G E O f)
theorem dts_nil : DTs X G E O [] bYes := ⟨fun pins s σ H Q I h => by
  obtain ⟨ρ, S, own, ho, r, k⟩ := h
  exact pts_nil.run pins s σ H Q I (k H (Fr.refl _ _) r.glob)⟩
theorem dts_one {g : BD} (h : DT X G E O e g) : DTs X G E O [e] g := pts_one h
abbrev Enone : XK := fun _ _ _ => False
theorem own_same {own own' : List (Nat × Addr)} (hn : (own.map (·.1)).Nodup) (h1 : own'.map (·.1) = own.map (·.1)) (h2 : ∀ p ∈ own', p ∈ own) : ∀ p ∈ own, p ∈ own' := fun p hp => by
  have : p.1 ∈ own'.map (·.1) := by rw [h1]; exact List.mem_map.mpr ⟨p, hp, rfl⟩
  obtain ⟨p', hp', e⟩ := List.mem_map.mp this
  have := own_inj hn (h2 p' hp') hp e
  exact this ▸ hp'
theorem lc_imp {φ : TGD} {c : BD} {fi : ID} {ws : List Nat} (q : Nat) (hq : 1000 ≤ q) (hqO : q ∉ O) (hvs : ws = vs) {σ : L2.St} {H : Hp} {Q : VK} (w : tF X G E O (dComp vs φ c f fi) σ H Q) :
    tLc (tI X G E O true fi) (tG X G (q :: O) (q :: O) vs φ) (tB X G Enone (q :: O) c) (tE X G Enone (q :: O) false f) ws σ H Q := by
  obtain ⟨ρ, S, own0, ho, r, k⟩ := w
  rw [hvs]
  refine ⟨ρ, S, own0, ho, r, R.post_imp (R.post_bind k) (fun ds S1 k J H1 fr1 gl1 it => ?_) fun _ _ z => z⟩
  obtain ⟨⟨hlen, hρ⟩, k⟩ := post_if k
  have r1 := r.keep fr1 gl1
  intro D hD
  have s1 : Same H1 (upd H1 D (.lst [])) := upd_same_of hD
  have aD := r1.free hD
  have hqo : q ∉ own0.map (·.1) := by rw [ho]; exact hqO
  have rw1 := (r1.wipe vs).phantom (q := q) (.of_same s1) (r1.glob.same s1) hqo (by rw [wipeE_len]; omega) aD (r1.free0 hD) hD (by rw [upd_same]; exact fun z => nomatch z)
  have bD : ¬ BR G own0 true D → False := fun n => n ⟨aD.1, aD.2.1⟩
  -- what stays of the source
  have hB : ∀ {H' : Hp}, Fr (fun a => WH G.ha a ∨ a = D) (upd H1 D (.lst [])) H' → Fr (fun a => ¬ BR G own0 true a) H1 H' := fun {H'} f => by
    refine ⟨fun a o h t m => f.keep a o (s1 a o h) t fun mu z => ?_, fun a h => f.dom a ((Fr.of_same (W := fun _ => False) s1).dom a h)⟩
    rcases z with z | z
    · exact m mu fun w => w.2.not z
    · subst z
      rw [hD] at h
      cases h
  refine ⟨fun i m H' => m = ds.length - i ∧ i ≤ ds.length ∧ ∃ S' acc ad, H' D = some (.lst acc) ∧ RpL X.K H' (Acl G ((q, D) :: own0)) acc ad ∧ ad.length ≤ i ∧ SR X.K G ((q, D) :: own0) (wipe σ vs) H' (wipeE ρ vs) S' ∧ Fr (fun a => WH G.ha a ∨ a = D) (upd H1 D (.lst [])) H' ∧
    (mComp φ c f (wipeE ρ vs) (ds.drop i) S').post (fun ys S'' => ∀ a H'', Fr (WH G.ha) H H'' → Glob G.ha G.T H'' S'' → Acl G own0 a → G.H0 a = none → H a = none → RpOwn X.K H'' (AclX G own0 a) a (.list (ad ++ ys)) → Q (.ref a) H'') (errs X.mg G.ha G.T (WH G.ha) H E),
    ⟨ds.length, by simp, Nat.zero_le _, S1, [], [], upd_same, .nil, Nat.le_refl _, rw1, Fr.refl _ _, R.post_imp (R.post_bind k) (fun ys S2 z => z) fun _ _ z => z⟩, ?_⟩
  rintro i m H2 ⟨rfl, hi2, S2, acc, ad, hacc, racc, hal, r2, f2, k2⟩
  have fin : ∀ {H' : Hp}, Fr (fun a => WH G.ha a ∨ a = D) (upd H1 D (.lst [])) H' → Fr (WH G.ha) H H' := fun {H'} f => by
    refine fr1.trans ⟨fun a o h t m => f.keep a o (s1 a o h) t fun mu z => ?_, fun a h => f.dom a ((Fr.of_same (W := fun _ => False) s1).dom a h)⟩
    rcases z with z | z
    · exact m mu z
    · subst z
      rw [hD] at h
      cases h
  by_cases hlt : i < ds.length
  · refine .inr ⟨it.go H2 i (hB f2) hlt, fun H' => i + 1 ≤ ds.length ∧ ∃ S' acc ad, H' D = some (.lst acc) ∧ RpL X.K H' (Acl G ((q, D) :: own0)) acc ad ∧ ad.length ≤ i + 1 ∧ SR X.K G ((q, D) :: own0) (wipe σ vs) H' (wipeE ρ vs) S' ∧ Fr (fun a => WH G.ha a ∨ a = D) (upd H1 D (.lst [])) H' ∧
      (mComp φ c f (wipeE ρ vs) (ds.drop (i + 1)) S').post (fun ys S'' => ∀ a H'', Fr (WH G.ha) H H'' → Glob G.ha G.T H'' S'' → Acl G own0 a → G.H0 a = none → H a = none → RpOwn X.K H'' (AclX G own0 a) a (.list (ad ++ ys)) → Q (.ref a) H'') (errs X.mg G.ha G.T (WH G.ha) H E),
      fun H' z => ⟨ds.length - (i + 1), by omega, rfl, z⟩, fun x H3 hy => ?_⟩
    have tr : ∀ v d, Rp X.K H1 (Acl G own0) v d → Rp X.K H2 (Acl G ((q, D) :: own0)) v d := fun v d rp => by
      have g := rp.grow (own' := (q, D) :: own0) fun p hp => by
        rcases List.mem_cons.mp hp with rfl | hp
        · exact .inr hD
        · exact .inl hp
      refine (g.same s1).keep f2 (fun a z w => ?_) fun _ z => z
      rcases w with w | w
      · exact z.2.1.not w
      · exact z.2.2 _ List.mem_cons_self w
    obtain ⟨s3, d, hd, rd⟩ := it.yl H2 H3 i x (Acl G ((q, D) :: own0)) hlt (hB f2) tr hy
    have r3 := r2.keep (.of_same s3) (r2.glob.same s3)
    have e : ds.drop i = d :: ds.drop (i + 1) := by
      have hd' : ds[i] = d := by rw [List.getElem?_eq_getElem hlt] at hd; exact Option.some.inj hd
      rw [← hd']
      exact List.drop_eq_getElem_cons hlt
    rw [e] at k2
    obtain ⟨ρ3, e3, k3⟩ := post_opt (R.post_bind k2)
    refine ⟨wipeE ρ vs, S2, (q, D) :: own0, d, ρ3, by rw [List.map_cons, ho], r3, rd, e3, fun σ4 own4 ho4 r4 sub4 j4 l4 => ⟨wipe_eq j4 l4, ?_⟩⟩
    have hmap : own4.map (·.1) = ((q, D) :: own0).map (·.1) := by rw [ho4, List.map_cons, ho]
    have sup4 := own_same r3.nd.2 hmap sub4
    have acl4 : ∀ a, Acl G own4 a → Acl G ((q, D) :: own0) a := fun a z => ⟨z.1, z.2.1, fun p hp => z.2.2 p (sup4 p hp)⟩
    have acl4' : ∀ a, Acl G ((q, D) :: own0) a → Acl G own4 a := fun a z => ⟨z.1, z.2.1, fun p hp => z.2.2 p (sub4 p hp)⟩
    have hacc3 := s3 _ _ hacc
    have racc3 := racc.same s3
    have f3 : Fr (fun a => WH G.ha a ∨ a = D) (upd H1 D (.lst [])) H3 := f2.trans (.of_same s3)
    refine ⟨ρ3, S2, own4, ho4, r4, R.post_imp (post_noErr (R.post_bind k3)) (fun kb S5 k5 H5 fr5 gl5 => ?_) fun c S z cls dd H' m f gl => z⟩
    have r5 := r4.keep fr5 gl5
    have rD5 := r3.keep fr5 gl5
    have hmD : (q, D) ∈ (q, D) :: own0 := List.mem_cons_self
    have nhD := (r3.ow _ hmD).2.1
    have hacc5 : H5 D = some (.lst acc) := fr5.keep _ _ hacc3 rfl fun _ => nhD.not
    have racc5 := racc3.keep fr5 (fun a z => z.2.1.not) fun _ z => z
    have f5 : Fr (fun a => WH G.ha a ∨ a = D) (upd H1 D (.lst [])) H5 := f3.trans (fr5.mono fun _ z => .inl z)
    cases kb with
    | false =>
      simp only [Bool.false_eq_true, if_false] at k5 ⊢
      exact ⟨hlt, S5, acc, ad, hacc5, racc5, by omega, rD5, f5, k5⟩
    | true =>
      simp only [if_true] at k5 ⊢
      refine ⟨ρ3, S5, own4, ho4, r5, R.post_imp (post_noErr (R.post_bind k5)) (fun y S6 k6 v6 H6 fr6 gl6 rv6 => ?_) fun c S z cls dd H' m f gl => z⟩
      have rp6 := (rv6.clean).mono acl4
      have hacc6 : H6 D = some (.lst acc) := fr6.keep _ _ hacc5 rfl fun _ => nhD.not
      have racc6 := racc5.keep fr6 (fun a z => z.2.1.not) fun _ z => z
      have rD6 := rD5.keep fr6 gl6
      have hz : acc.length < LINE := by
        rw [racc.len]
        exact Nat.lt_of_le_of_lt hal (Nat.lt_of_lt_of_le hlt hlen)
      refine ⟨acc, hacc6, by rw [sizeLine_eq]; exact hz, hlt, S6, acc ++ [v6], ad ++ [y], upd_same, ?_, by simp; omega, rD6.poke hmD (by rw [wipeE_len]; omega) hacc6 rfl, ?_, ?_⟩
      · have ap : ∀ c, Acl G ((q, D) :: own0) c → ¬ (c = D) := fun c z e => z.2.2 _ hmD e
        exact (racc6.keep (wr_fr hacc6 rfl) ap fun _ z => z).append (.cons (rp6.keep (wr_fr hacc6 rfl) ap fun _ z => z) .nil)
      · exact (f5.trans (fr6.mono fun _ z => .inl z)).trans ((wr_fr hacc6 rfl).mono fun _ z => .inr z)
      · refine R.post_imp (R.post_bind k6) (fun ys S7 z => ?_) fun _ _ z => z
        rw [List.append_assoc]
        exact z
  · have e : i = ds.length := by omega
    subst e
    rw [List.drop_length] at k2
    refine .inl ⟨it.stop H2 (hB f2), ?_⟩
    have k2 : ∀ a H'', Fr (WH G.ha) H H'' → Glob G.ha G.T H'' S2 → Acl G own0 a → G.H0 a = none → H a = none → RpOwn X.K H'' (AclX G own0 a) a (.list (ad ++ [])) → Q (.ref a) H'' := k2
    refine k2 D H2 (fin f2) r2.glob aD (r1.free0 hD) (fr1.free hD) ?_
    rw [List.append_nil]
    exact .lst hacc (racc.mono fun a z => ⟨⟨z.1, z.2.1, fun p hp => z.2.2 p (List.mem_cons_of_mem _ hp)⟩, fun w => z.2.2 _ List.mem_cons_self w⟩)
theorem df_lc {elt : Expr} {ifs : List Expr} {scope : Scope} {own : List (Str × Nat)} {φ : TGD} {c : BD} {fi : ID} (q : Nat) (hq : 1000 ≤ q) (hqO : q ∉ O) (hvs : own.map (·.2) = vs)
    (hc : X.calm = true) (hN : X.N.Nodup) (hi : DI X G E O true tg iter fi) (ok : BlkOk X.N X.env.scope scope own)
    (hg : ∀ (s : Shared) (H : Hp) (C : Addr) (cl : List (Str × Addr)) (fp : List Addr), DG (X.blk s H scope (compEnvC scope cl C X.env) fp) G (q :: O) (q :: O) vs tg φ)
    (ht : ∀ (s : Shared) (H : Hp) (C : Addr) (cl : List (Str × Addr)) (fp : List Addr), DTs (X.blk s H scope (compEnvC scope cl C X.env) fp) G Enone (q :: O) ifs c)
    (he : ∀ (s : Shared) (H : Hp) (C : Addr) (cl : List (Str × Addr)) (fp : List Addr), DE (X.blk s H scope (compEnvC scope cl C X.env) fp) G Enone (q :: O) false elt f)
    (hs : ∀ x, foldedSetIterable iter X.env x = pure x := by intro _; rfl) : DF X G E O (.ListComp elt [⟨tg, iter, ifs, 0⟩] scope pos) (dComp vs φ c f fi) :=
  pe_imp (pe_lc (g := tG X G (q :: O) (q :: O) vs φ) (tt := tB X G Enone (q :: O) c) (te := tE X G Enone (q :: O) false f) hc hN hi ok hg ht he hs) fun σ H Q w => lc_imp q hq hqO hvs w
/-- y = [.. for ..], y a local name of the same line -/
theorem ds_ownLc {i : Nat} {y : Str} {py spos : Pos} {elt : Expr} {ifs : List Expr} {scope : Scope} {own : List (Str × Nat)} {φ : TGD} {c : BD} {fi : ID} (q : Nat) (hO : O' = stO (1000 :: O) [i] [some 1000]) (hq0 : 1000 ∉ O) (hq : 1000 ≤ q) (hqO : q ∉ O) (hvs : own.map (·.2) = vs)
    (hc : X.calm = true) (hN : X.N.Nodup) (hy : X.N[i]? = some y) (hyl : X.env.scope.names.lookup y = some .local) (hsw : swapsWith (.ListComp elt [⟨tg, iter, ifs, 0⟩] scope pos) (some (.Name y py)) spos.line X.env = pure true)
    (hi : DI X G E O true tg iter fi) (ok : BlkOk X.N X.env.scope scope own)
    (hg : ∀ (s : Shared) (H : Hp) (C : Addr) (cl : List (Str × Addr)) (fp : List Addr), DG (X.blk s H scope (compEnvC scope cl C X.env) fp) G (q :: O) (q :: O) vs tg φ)
    (ht : ∀ (s : Shared) (H : Hp) (C : Addr) (cl : List (Str × Addr)) (fp : List Addr), DTs (X.blk s H scope (compEnvC scope cl C X.env) fp) G Enone (q :: O) ifs c)
    (he : ∀ (s : Shared) (H : Hp) (C : Addr) (cl : List (Str × Addr)) (fp : List Addr), DE (X.blk s H scope (compEnvC scope cl C X.env) fp) G Enone (q :: O) false elt f)
    (hs : ∀ x, foldedSetIterable iter X.env x = pure x := by intro _; rfl) : DS X G E O O' (.Assign [.Name y py] (.ListComp elt [⟨tg, iter, ifs, 0⟩] scope pos) spos) (sOwn i (dComp vs φ c f fi)) :=
  ps_imp (ps_setLc (g := tG X G (q :: O) (q :: O) vs φ) (tt := tB X G Enone (q :: O) c) (te := tE X G Enone (q :: O) false f) hc hN hy hyl hsw hi ok hg ht he hs) fun D σ H w => lc_imp q hq hqO hvs (own_core hO hq0 w)
theorem df_de (h : DF X G E O e f) : DE X G E O b e f := by
  refine pe_imp h fun σ H Q q => ?_
  obtain ⟨ρ, S, own, ho, r, k⟩ := q
  exact ⟨ρ, S, own, ho, r, R.post_imp k (fun d S1 p a H1 fr gl ha h0 hn ro => p _ H1 fr gl (.rp ((ro.mono fun _ z => z.1).rp ha))) fun _ _ z => z⟩
end
end DL

/-! DL: a def; raise. -/
namespace DL
open PySem PySem.Spec PyProof.Rows L2

def mRun (L : Nat) (g : SD) : List Slot → M PyData := fun sl S => (g (sl.map some ++ List.replicate (L - sl.length) none) S).bind fun fl S => match fl with
  | .nx _ => .ok .none S
  | .rt d => .ok d S
section
variable {K : PySem.W.Frag} {mg : Str → Option Value}
theorem ArgsR.at {H : Hp} {ha : Option (Addr × Addr)} {A : Addr → Prop} : ∀ {vs : List V} {sl : List Slot} {i : Nat} {s : Slot}, ArgsR K H ha A vs sl → sl[i]? = some s → ∃ v, vs[i]? = some v ∧ ArgR K H ha A v s
  | _, _, _, _, .nil, e => by simp at e
  | _, _, 0, _, .cons r _, e => by simp at e; subst e; exact ⟨_, rfl, r⟩
  | _, _, i + 1, d, .cons _ t, e => by
    obtain ⟨v, h1, h2⟩ := ArgsR.at (i := i) (s := d) t (by simpa using e)
    exact ⟨v, by simpa using h1, h2⟩
/-- the slots at a def's start -/
theorem sr_start {H : Hp} {F : Addr → Prop} {ha : Option (Addr × Addr)} {T : List (Addr × Str)} {fn : Addr × Addr × Str} {ex : Addr} {S : HS} {N : List Str} {vs : List V} {sl : List Slot} (ar : ArgsR K H ha F vs sl) (gl : Glob ha T H S) (hF : ∀ a, F a → NH ha a) :
    SR K ⟨H, F, ha, T, fn, ex⟩ [] (L2.start N vs) H (sl.map some ++ List.replicate (N.length - sl.length) none) S where
  glob := gl
  frm := Fr.refl _ _
  len := by unfold L2.start; simp [ar.len]
  slot := fun i x e => by
    have hl := ar.len
    by_cases hi : i < sl.length
    · rw [List.getElem?_append_left (by simpa using hi)] at e
      rw [List.getElem?_map] at e
      cases q : sl[i]? with
      | none => rw [q] at e; cases e
      | some s =>
        rw [q] at e
        cases e
        obtain ⟨v, h1, h2⟩ := ar.at q
        refine ⟨v, ?_, ?_⟩
        · unfold L2.start
          rw [List.getElem?_append_left (by simpa [hl] using hi), List.getElem?_map, h1]
          rfl
        · cases h2 with
          | dat h => exact ⟨fun _ => h.mono fun a z => ⟨.inl z, hF a z, fun p hp => by cases hp⟩, fun a m => by cases m⟩
          | hnd e => exact ⟨_, e, rfl⟩
          | scr e s => exact ⟨e, _, rfl, s⟩
    · rw [List.getElem?_append_right (by simpa using hi)] at e
      rw [List.getElem?_replicate] at e
      split at e <;> cases e
  ow := fun p hp => by cases hp
  nd := ⟨List.nodup_nil, List.nodup_nil⟩
variable {P : Program} {w : World} {base : Heap} {T : List (Addr × Str)}
theorem fn_data {x qual : Str} {st : Stmt} {f : Addr} {fd : FuncData} {N ps : List Str} {k n L : Nat} {g : SD} {O' : List Nat} (F : Fun K x qual st f fd) (S : FnScope N ps (defScope st)) (hn : ps.length = n) (hL : N.length = L)
    (hbody : ∀ (cdv : Value) (A : Around) (outer : List PySem.Env) (s : Shared) (H : Hp) (E : XK) (G : DX), G.T = T → (A.deeper (envOfC qual (defScope st) s.heap.objs.size f cdv)).guards = some [] → Room k (A.deeper (envOfC qual (defScope st) s.heap.objs.size f cdv)) →
      DSs (cxOf (L2.CX P w) P w K mg base N qual (defScope st) f cdv A outer s H E) G E [] O' (defBody st) g) : FnG P w K mg base (L2.CX P w) (k + 1) f fd ps (spD K mg T n (mRun L g)) := by
  refine FnG.of F S (fun vs H Q E h => ?_) fun cdv A outer s H vs Q E hgd hr h => ?_
  · obtain ⟨_, _, _, _, h, _⟩ := h
    rw [h, hn]
  · obtain ⟨Fs, ha, S0, sl, hlen, ar, gl, hF, p⟩ := h
    refine ⟨_, hbody cdv A outer s H E ⟨H, Fs, ha, T, (0, 0, ""), 0⟩ rfl hgd hr, ?_⟩
    refine ⟨_, S0, [], rfl, sr_start ar gl hF, ?_⟩
    rw [hL]
    have p' := R.post_bind p
    refine R.post_imp p' (fun fl S1 q => ?_) fun c S1 q cls dd H' m fr gl' => q cls dd H' m (fr.mono fun a z => ?_) gl'
    · cases fl with
      | nx ρ => exact fun σ' H' own' _ r' fr => q .non H' (fr.fr.mono fun a z => z.elim id fun ⟨p, hp, _⟩ => by cases hp) r'.glob .non
      | rt d => exact fun v H' fr gl' rp => q v H' (fr.mono fun a z => z.elim id fun ⟨p, hp, _⟩ => by cases hp) gl' rp
    · exact z.elim id fun ⟨p, hp, _⟩ => by cases hp
end

/-! ### raise C(), C of the program's own, its __init__ that of the base without more -/
/-- what is asked of __init__ -/
def spInit0 (K : PySem.W.Frag) : Sp := fun vs H Q _ => ∃ a C : Addr, vs = [.ref a] ∧ OexC K C ∧ H a = some (exo a C none) ∧ Q .non H
section
variable {X : Cx}
theorem mk_end1 {pins : List (Addr × Obj)} {σ : L2.St} {H1 H2 : Hp} {hp hp2 h2 : Heap} {g1 g2 : Array GenState} {d1 d2 : Drawn} {t1 t2 : Nat} {os1 os2 : OsState} {a C : Addr} (I1 : Inv X pins σ H1 ⟨hp, g1, d1, t1, os1⟩)
    (ha : hp.objs.size ≤ a) (k : ∀ b o, hp.get? b = some o → hp2.get? b = some o) (un : Un (frs X.stack) [] (upd H1 a (exo a C none)) H2 hp2 h2) (hok : HOk X.prog X.w H2 h2) (ho : os2 = os1) (hb : AllBare g2)
    (ea : H2 a = some (exo a C none)) :
    ∃ (t0 : Addr) (G : Heap), Inv X pins σ (del H2 a) ⟨G, g2, d2, t2, os2⟩ ∧ (∀ b o, G.get? b = some o → h2.get? b = some o) ∧ G.get? a = none ∧
      h2.get? a = some ({ cls := .ref C, dict := none, data := .fields #[.ref t0, .none, .none, .none, .bool false, .none] } : Obj) ∧ (del H2 a) a = none := by
  obtain ⟨t0, hoe⟩ := exo_at hok ea
  have hn : H1 a = none := I1.hok.fresh ha
  obtain ⟨G, g1', g2'⟩ := restrict h2 fun b => decide (b ≠ a)
  have gk : ∀ b, b ≠ a → G.get? b = h2.get? b := fun b hb => g1' b (decide_eq_true hb)
  have ge : G.get? a = none := g2' a (by simp)
  have nha : ∀ {b : Addr} {o : Obj}, hp.get? b = some o → b ≠ a := fun {b o} z => Nat.ne_of_lt (Nat.lt_of_lt_of_le (Heap.lt_size z) ha)
  have up : ∀ {b : Addr}, b ≠ a → H1 b = none → upd H1 a (exo a C none) b = none := fun {b} hb n => by rw [upd_ne hb]; exact n
  have U : Un (frs X.stack) [] H1 (del H2 a) hp G := {
    keep := fun b o z n hf hx => by
      rw [gk b (nha z)]
      exact un.keep b o (k b o z) (up (nha z) n) hf hx
    slot := fun b o z n hf hx => by
      rw [gk b (nha z)]
      exact un.slot b o (k b o z) (up (nha z) n) hf hx
    free := fun b o z n hx => by
      rw [del_ne (nha z)]
      exact un.free b o (k b o z) (up (nha z) n) hx
    there := fun b o z hx => by
      rw [gk b (nha z)]
      exact un.there b o (k b o z) hx
    tups := fun b xs z => by
      rw [del_ne (ne_of_none z hn)]
      exact un.tups b xs (by rw [upd_ne (ne_of_none z hn)]; exact z)
    frzs := fun b o v z => by
      rw [del_ne (ne_of_none z hn)]
      exact un.frzs b o v (by rw [upd_ne (ne_of_none z hn)]; exact z)
    tbls := fun b ps z => by
      rw [del_ne (ne_of_none z hn)]
      exact un.tbls b ps (by rw [upd_ne (ne_of_none z hn)]; exact z) }
  have hok3 : HOk X.prog X.w (del H2 a) G := fun b o z => by
    have hba : b ≠ a := fun e => by
      rw [e, del_same] at z
      cases z
    rw [del_ne hba] at z
    have noa : ∀ {c : Addr}, H2 c = some (.own b) → c ≠ a := fun {c} hc => at_ne ea hc exo_own
    exact (hok b o z).stay (fun c v hc y => by
        have hca : c ≠ a := by
          rcases hc with hc | hc
          · rw [hc]
            exact hba
          · exact noa hc
        rw [gk c hca]
        exact y)
      (fun c hc => by rw [del_ne (noa hc)]; exact hc) (fun c xs hc => by rw [del_ne (at_ne ea hc exo_tup)]; exact hc)
  have J : Inv X pins σ (del H2 a) ⟨G, g2, d2, t2, os2⟩ := I1.call' (ch := []) ho U hok3 hb (fun b z => absurd z (by simp))
  refine ⟨t0, G, J, fun b o z => ?_, ge, hoe, del_same⟩
  by_cases hba : b = a
  · rw [hba, ge] at z
    cases z
  · exact (gk b hba).symm.trans z
theorem pmk_ex0 {CX : CXT} {x : Str} {C fI : Addr} {k : Nat} {fd : FuncData} {p pos : Pos} (T : OexC X.K C) (iC : PySem.W.findIn X.K (.ref C) "__init__" = some (some (.ref fI))) (tI : PySem.W.typeIn X.K (.ref fI) = some (.type "function"))
    (F1 : FnOk X.prog X.w X.K X.mg X.base CX k fI fd ["self"] (spInit0 X.K)) (hr : Room (k + 1) X.A) (hb : Binds X.K fd ["self"] []) (hx : Passes CX X (fun _ _ _ => False)) (hg : Gl X x) (hm : X.mg x = some (.ref C))
    (hdb : (x == ("__debug__" : Str)) = false := by decide) :
    PMk X (.Call (.Name x p) [] [] pos) (fun _ H Q => Q (.ref C) none H) := by
  intro pins s σ H Q I h
  obtain ⟨nm, q, N, bs, bm, sn, sub, ab, col, dd, k0, k1, k2, k3, k5, hC, hbm⟩ := T.cls
  refine wpAny_Call_Name_kw (ld_glob I hg hm ?_ hdb)
  refine PySem.W.callWith_K0 I.kIn T.kC ?_
  show wpAny _ _ (call (.ref C) []) _ _ _
  obtain ⟨hp, g, dr, tk, os⟩ := s
  have hsz : hp.objs.size ≤ hp.objs.size + 1 := Nat.le_succ _
  have hn : H (hp.objs.size + 1) = none := I.hok.fresh hsz
  have kk : ∀ b o, hp.get? b = some o → ((hp.push (PySem.W.kdv_tup [])).push (PySem.HandSPX.excO C hp.objs.size)).get? b = some o := fun b o e => Heap.get?_push_of_some _ (Heap.get?_push_of_some _ e)
  have hget : ((hp.push (PySem.W.kdv_tup [])).push (PySem.HandSPX.excO C hp.objs.size)).get? (hp.objs.size + 1) = some (PySem.HandSPX.excO C hp.objs.size) := by heap_get
  have I2 : Inv X pins σ (upd H (hp.objs.size + 1) (exo (hp.objs.size + 1) C none)) ⟨(hp.push (PySem.W.kdv_tup [])).push (PySem.HandSPX.excO C hp.objs.size), g, dr, tk, os⟩ :=
    I.laid (t' := tk) (a := hp.objs.size + 1) (o := exo (hp.objs.size + 1) C none) (h' := (hp.push (PySem.W.kdv_tup [])).push (PySem.HandSPX.excO C hp.objs.size)) kk hsz (exo_ok hget)
  have r2 : Vals [V.ref (hp.objs.size + 1)] [Value.ref (hp.objs.size + 1)] := .cons rfl .nil
  have z0 : ([] : List Value).length ≤ sizeLine := Nat.zero_le _
  refine wpAny_call (PySem.HandSPX.call_own F.excBase_ValueError (fun Y => PySem.HandSPX.refsVE_contains Y bm hbm) (I.kIn _ _ hC) (PySem.W.looks_findIn I.kIn iC) (fun self => PySem.W.bind_fn I.kIn self tI) z0
    (codeAny_mono (F1.run _ X.stack _ _ ⟨[Value.ref (hp.objs.size + 1)], []⟩ [Value.ref (hp.objs.size + 1)] _ (fun v H2 => v = .non ∧ H2 = upd H (hp.objs.size + 1) (exo (hp.objs.size + 1) C none)) (fun _ _ _ => False) (hr.make C [] []) (I2.env0.make C [] []) (hb _ [Value.ref (hp.objs.size + 1)] I2.kIn rfl) r2
      ⟨_, C, rfl, T, upd_same, rfl, rfl⟩) fun r s' hq' => ?_))
  cases r with
  | error er => exact hx pins σ _ _ er s' I2 hq'
  | ok fl =>
    cases fl with
    | ret u =>
      obtain ⟨v, H2, os2, bare2, un2, hok2, rv, ev, eH⟩ := hq'
      subst ev
      obtain ⟨h2, g2, d2, t2, os'⟩ := s'
      obtain ⟨t0, G, J, kG, ge, hoe, na⟩ := mk_end1 (d2 := d2) (t2 := t2) I hsz kk un2 hok2 os2 bare2 (by rw [eH]; exact upd_same)
      have eq : del H2 (hp.objs.size + 1) = H := by
        funext b
        by_cases hb : b = hp.objs.size + 1
        · rw [hb, del_same, hn]
        · rw [del_ne hb, eH, upd_ne hb]
      rw [eq] at J na
      exact ⟨rv, ⟨_, _, _, ⟨G, g2, d2, t2, os'⟩, _, .ref C, none, rfl, J, kG, ge, hoe, ⟨rfl, rfl⟩, rfl, rfl, na, rfl, bare2, raises_own T.exC T.tyC, h⟩⟩
    | next => exact False.elim hq'
    | brk => exact False.elim hq'
    | cont => exact False.elim hq'
def sRaise (c : Str) : SD := fun _ S => .err c S
theorem ds_raise {G : DX} {E : XK} {O O' : List Nat} {x : Str} {C : Addr} {p pos pos2 : Pos} (hc : X.calm = true) (tk : Takes X fun cls d _ H => E cls d H) (he : PMk X (.Call (.Name x p) [] [] pos) (fun _ H Q => Q (.ref C) none H)) (hm : X.mg x = some (.ref C)) :
    DS X G E O O' (.Raise (some (.Call (.Name x p) [] [] pos)) none pos2) (sRaise x) := by
  refine ps_imp (ps_raise hc tk he) fun D σ H q => ?_
  obtain ⟨ρ, S, own, ho, r, k⟩ := q
  exact k _ none H ⟨hm, rfl⟩ (Fr.refl _ _) r.glob
/-- __init__ itself -/
theorem fn_init {P : Program} {w : World} {K : PySem.W.Frag} {mg : Str → Option Value} {base : Heap} {qual : Str} {st : Stmt} {f : Addr} {fd : FuncData} {k : Nat} (F : Fun K "__init__" qual st f fd) (S : FnScope ["self"] ["self"] (defScope st))
    (hb : ∀ (cdv : Value) (A : Around) (outer : List PySem.Env) (s : Shared) (H : Hp) (E : XK), PSs (cxOf (L2.CX P w) P w K mg base ["self"] qual (defScope st) f cdv A outer s H E) (defBody st) (tDrop (tVeI K (tCons (tVar 0) tNil)))) :
    FnOk P w K mg base (L2.CX P w) (k + 1) f fd ["self"] (spInit0 K) := by
  refine Fun.okX F S (fun vs H Q E h => ?_) fun cdv A outer s H vs Q E hr h => ?_
  · obtain ⟨_, _, h, _⟩ := h
    rw [h]; rfl
  · obtain ⟨a, C, rfl, T, ea, q⟩ := h
    refine ⟨_, hb cdv A outer s H E, ?_⟩
    exact ⟨.ref a, rfl, a, C, [], rfl, Nat.zero_le _, T, ea, q⟩
end
end DL

/-! DL: a lambda, with or without a default, handed to a def that calls it within a try. -/
namespace DL
open PySem PySem.Spec PyProof.Rows L2 LamX

/-- the lambda's names: captured ones, globals, one of its own that the frame around does not have -/
structure LamS2 (N : List Str) (sc scope : Scope) : Prop where
  kind : scope.kind = .function
  co : scope.isCoroutine = false
  gen : scope.isGenerator = false
  cell : ∀ y ∈ scope.names, y.2 ≠ .cell
  loc : ∀ y ∈ scope.names, y.2 = .local → y.1 ∉ N
  free : ∀ y ∈ scope.names, y.2 = .free → sc.names.lookup y.1 = some .cell ∨ sc.names.lookup y.1 = some .free
def lamSB2 (N : List Str) (sc scope : Scope) : Bool :=
  decide (scope.kind = .function) && !scope.isCoroutine && !scope.isGenerator && scope.names.all fun y => !decide (y.2 = .cell) && (!decide (y.2 = .local) || !N.contains y.1) && (!decide (y.2 = .free) || decide (sc.names.lookup y.1 = some .cell) || decide (sc.names.lookup y.1 = some .free))
theorem lamS2_by {N : List Str} {sc scope : Scope} (h : lamSB2 N sc scope = true) : LamS2 N sc scope := by
  unfold lamSB2 at h
  simp only [Bool.and_eq_true, Bool.or_eq_true, Bool.not_eq_true', decide_eq_true_eq, decide_eq_false_iff_not, List.all_eq_true] at h
  obtain ⟨⟨⟨h1, h2⟩, h3⟩, h4⟩ := h
  refine ⟨h1, h2, h3, fun y hy => (h4 y hy).1.1, fun y hy e => ?_, fun y hy e => ?_⟩
  · rcases (h4 y hy).1.2 with z | z
    · exact absurd e z
    · intro hm
      have : N.contains y.1 = true := by simpa using hm
      rw [this] at z
      cases z
  · rcases (h4 y hy).2 with (z | z) | z
    · exact absurd e z
    · exact .inl z
    · exact .inr z
theorem LamS2.has {X : Cx} {scope : Scope} (L : LamS2 X.N X.env.scope scope) (ok : X.Ok) : ∀ y ∈ scope.names, y.2 = .free → ∃ c, X.env.cells.lookup y.1 = some c := fun y hy e => by
  rcases L.free y hy e with k | k
  · exact ok.has _ (.inl k)
  · exact ok.has _ (.inr k)

section
variable {X : Cx} {pins : List (Addr × Obj)} {σ : L2.St} {H HZ : Hp} {s s1 : Shared} {params : Arguments} {body : Expr} {scope : Scope} {pos : Pos}
/-- the lambda's function object is here -/
def LamHere (X : Cx) (params : Arguments) (body : Expr) (scope : Scope) (s : Shared) (H : Hp) (f c' : Addr) : Prop :=
  ∃ (dV doc pm ctv : Value) (binds : List (Str × Value)), s.heap.get? f = some (PySem.W.kdv_obj "<lambda>" (X.env.qual ++ "<lambda>") params (.expr body) scope (cloFrom X.env.cells scope.names []) dV doc pm c' ctv) ∧ H f = none ∧ f ∉ frs X.stack ∧ H c' = some (CodeO c' (X.env.qual ++ "<lambda>")) ∧
    (∀ y ∈ binds, scope.names.lookup y.1 = some .local) ∧
    ∀ s1 : Shared, (∀ b o, s.heap.get? b = some o → H b = none → b ∉ frs X.stack → s1.heap.get? b = some o) → BindsTo s1 (PySem.W.kdv_fn "<lambda>" (X.env.qual ++ "<lambda>") params (.expr body) scope (cloFrom X.env.cells scope.names []) dV doc pm (.ref c') ctv) ⟨[], []⟩ binds
/-- the table written, or the code object found in it -/
theorem lam_tail {T : List (Addr × Str)} {c P : Addr} {dV : Value} {E : Value → Shared → Prop} {Q : Value → Shared → Prop} (I : Inv X pins σ H s) (TB : TabB X.base X.mg c P) (hcode : X.env.code = .ref c)
    (hm : (P, X.env.qual ++ "<lambda>") ∈ T) (hu : ∀ p ∈ T, p.1 = P → p.2 = X.env.qual ++ "<lambda>") (hT : Tabs T H) (hfree : ∀ y ∈ scope.names, y.2 = .free → ∃ c, X.env.cells.lookup y.1 = some c)
    (h : ∀ (f c' : Addr) (doc pm ctv : Value) (H1 : Hp) (s' : Shared), Inv X pins σ H1 s' → ExtN H H1 → (∀ a, H a ≠ none → H1 a ≠ none) → (∀ b o, s.heap.get? b = some o → H b = none → H1 b = none ∧ s'.heap.get? b = some o) → Tabs T H1 →
      s'.heap.get? f = some (PySem.W.kdv_obj "<lambda>" (X.env.qual ++ "<lambda>") params (.expr body) scope (cloFrom X.env.cells scope.names []) dV doc pm c' ctv) → H1 f = none → f ∉ frs X.stack → H1 c' = some (CodeO c' (X.env.qual ++ "<lambda>")) → Q (.ref f) s') :
    wpAny (model X.prog X.w) X.A (makeTail "<lambda>" (X.env.qual ++ "<lambda>") params (.expr body) scope X.env dV .none none pos pos.line) Q E s := by
  obtain ⟨ps, hP, ht, ha⟩ := hT _ hm
  have bP : s.heap.BuiltinsAt X.mg P := TB.bm.keeps I.bk
  have hP' : s.heap.get? P = some { cls := .none, data := .fields ps } := I.hok P _ hP
  have nofr : ∀ f, s.heap.objs.size ≤ f → f ∉ frs X.stack := fun f hf z => by
    rcases List.mem_cons.mp (I.stkSub _ z) with e | e
    · have h1 := I.lt
      rw [← e] at h1
      exact Nat.lt_irrefl _ (Nat.lt_of_lt_of_le h1 hf)
    · exact I.nofs hf e
  cases hc : codeAmong pos ps.toList with
  | none =>
    refine PySem.W.kdv_makeTail (mg := X.mg) (c := c) (P := P) (ps := ps) (closure_ok hfree) I.ok.glob (I.mod.glob.keeps I.bk) hcode (TB.code.keeps I.bk) hP' ht hc TB.gP bP fun c' ctv doc h' tk hx hge hlt hrec htb => ?_
    obtain ⟨c2, oc, vs, t, e2, hoc, hd, hv⟩ := hrec
    cases e2
    have hsz : s.heap.objs.size ≤ h'.objs.size := Nat.le_trans hge (Nat.le_of_lt hlt)
    have nC : H c' = none := I.hok.fresh hge
    have I1 := inv_table (t' := tk) (more := #[rawInt pos.line, rawInt pos.col, .ref c']) (h' := h'.push (PySem.W.kdv_obj "<lambda>" (X.env.qual ++ "<lambda>") params (.expr body) scope (cloFrom X.env.cells scope.names []) dV doc ((X.mg "__name__").getD .none) c' ctv)) I hP
      (fun b o hb e => Heap.get?_push_of_some _ (hx b o hb e)) (Heap.get?_push_of_some _ htb) hge ⟨oc, vs, t, Heap.get?_push_of_some _ hoc, hd, hv⟩
    have hE : ExtN H (upd (upd H P (.tbl (ps ++ #[rawInt pos.line, rawInt pos.col, .ref c']))) c' (CodeO c' (X.env.qual ++ "<lambda>"))) := fun b o e n => by
      rw [upd_ne (ne_of_none e nC), upd_ne (fun z => n ps (Option.some.inj (e.symm.trans (by rw [z]; exact hP))))]
      exact e
    have eL : (ps ++ #[rawInt pos.line, rawInt pos.col, .ref c']).toList = ps.toList ++ [rawInt pos.line, rawInt pos.col, .ref c'] := by simp
    refine h h'.objs.size c' doc ((X.mg "__name__").getD .none) ctv _ _ I1 hE (fun a e => ?_) (fun b o e n => ⟨?_, ?_⟩) (fun p hp => ?_) (Heap.get?_push_size _ rfl) ?_ (nofr _ hsz) upd_same
    · by_cases h1 : a = c'
      · rw [h1, upd_same]; exact fun z => nomatch z
      · rw [upd_ne h1]
        by_cases h2 : a = P
        · rw [h2, upd_same]; exact fun z => nomatch z
        · rw [upd_ne h2]; exact e
    · have h1 : b ≠ c' := Nat.ne_of_lt (Nat.lt_of_lt_of_le (Heap.lt_size e) hge)
      have h2 : b ≠ P := fun z => by rw [z, hP] at n; cases n
      rw [upd_ne h1, upd_ne h2]
      exact n
    · have h2 : b ≠ P := fun z => by rw [z, hP] at n; cases n
      exact Heap.get?_push_of_some _ (hx b o h2 e)
    · by_cases hb : p.1 = P
      · rw [hu p hp hb, hb]
        refine ⟨_, by rw [upd_ne (ne_of_none hP nC), upd_same], by rw [eL]; exact PySem.TriplesOk_snoc _ _ _ _ ht, fun p' cv hcv => ?_⟩
        rw [eL] at hcv
        rcases among_app _ ht hcv with z | z
        · obtain ⟨c0, e1, e2⟩ := ha p' cv z
          exact ⟨c0, e1, hE _ _ e2 codeO_ne⟩
        · exact ⟨c', z, upd_same⟩
      · obtain ⟨ps', a1, a2, a3⟩ := hT p hp
        refine ⟨ps', by rw [upd_ne (ne_of_none a1 nC), upd_ne hb]; exact a1, a2, fun p' cv hcv => ?_⟩
        obtain ⟨c0, e1, e2⟩ := a3 p' cv hcv
        exact ⟨c0, e1, hE _ _ e2 codeO_ne⟩
    · have n1 : h'.objs.size ≠ c' := Nat.ne_of_gt hlt
      have n2 : h'.objs.size ≠ P := Nat.ne_of_gt (Nat.lt_of_lt_of_le (Heap.lt_size hP') hsz)
      rw [upd_ne n1, upd_ne n2]
      exact I.hok.fresh hsz
  | some cv =>
    obtain ⟨c', e, hco⟩ := ha pos cv hc
    subst e
    refine PySem.W.kdv_makeTailHit (mg := X.mg) (c := c) (P := P) (ps := ps) (closure_ok hfree) I.ok.glob (I.mod.glob.keeps I.bk) hcode (TB.code.keeps I.bk) hP' ht hc bP fun ctv doc h' tk hx hsz => ?_
    have I1 : Inv X pins σ H { s with heap := h'.push (PySem.W.kdv_obj "<lambda>" (X.env.qual ++ "<lambda>") params (.expr body) scope (cloFrom X.env.cells scope.names []) dV doc ((X.mg "__name__").getD .none) c' ctv), toks := tk } := I.kept fun b o e => Heap.get?_push_of_some _ (hx b o e)
    exact h h'.objs.size c' doc ((X.mg "__name__").getD .none) ctv H _ I1 (ExtN.refl H) (fun _ z => z) (fun b o e n => ⟨n, Heap.get?_push_of_some _ (hx b o e)⟩) hT (Heap.get?_push_size _ rfl) (I.hok.fresh hsz) (nofr _ hsz) hco
/-- how a lambda is made here -/
def LamMade (X : Cx) (params : Arguments) (body : Expr) (scope : Scope) (pos : Pos) (T : List (Addr × Str)) : Prop :=
  ∀ (pins : List (Addr × Obj)) (σ : L2.St) (H : Hp) (s : Shared) (Q : Value → Shared → Prop), Inv X pins σ H s → Tabs T H →
    (∀ (f c' : Addr) (H1 : Hp) (s' : Shared), Inv X pins σ H1 s' → ExtN H H1 → (∀ a, H a ≠ none → H1 a ≠ none) → Tabs T H1 → LamHere X params body scope s' H1 f c' → Q (.ref f) s') →
    wpAny (model X.prog X.w) X.A (eval (.Lambda params body scope pos) X.env) Q X.xe s
theorem lam_plain {T : List (Addr × Str)} {c P : Addr} (TB : TabB X.base X.mg c P) (hcode : X.env.code = .ref c) (hm : (P, X.env.qual ++ "<lambda>") ∈ T) (hu : ∀ p ∈ T, p.1 = P → p.2 = X.env.qual ++ "<lambda>") (L : LamS2 X.N X.env.scope scope)
    (hdef : defaultsOf params X.env = ([], []))
    (hbind : ∀ (q : Str) (cl : List (Str × Addr)) (doc pm cv ctv : Value), bindArgs (PySem.W.kdv_fn "<lambda>" q params (.expr body) scope cl .none doc pm cv ctv) ⟨[], []⟩ = pure []) : LamMade X params body scope pos T := by
  intro pins σ H s Q I hT h
  refine PySem.W.kla_eval hdef ?_
  rw [makeFunction_eq]
  simp only [List.zip_nil_right, List.filterMap_nil, List.isEmpty_nil, if_true, pure_bind]
  exact lam_tail I TB hcode hm hu hT (L.has I.ok) fun f c' doc pm ctv H1 s' I1 eN dm _ T1 hf hfn hfr hco => h f c' H1 s' I1 eN dm T1 ⟨.none, doc, pm, ctv, [], hf, hfn, hfr, hco, fun y hy => absurd hy (by simp), fun s1 _ => .of_eq (hbind _ _ _ _ _ _)⟩
/-- one parameter z=i -/
theorem lam_dflt {T : List (Addr × Str)} {c P : Addr} {z : Str} {e : Expr} {i : Int} (TB : TabB X.base X.mg c P) (hcode : X.env.code = .ref c) (hm : (P, X.env.qual ++ "<lambda>") ∈ T) (hu : ∀ p ∈ T, p.1 = P → p.2 = X.env.qual ++ "<lambda>") (L : LamS2 X.N X.env.scope scope)
    (hd : params.defaults = [e]) (hk0 : params.kw_defaults = []) (he : PE X e (tC (.int i))) (hz : scope.names.lookup z = some .local)
    (hbind : ∀ (q : Str) (cl : List (Str × Addr)) (dV doc pm cv ctv : Value), ∃ k : Option (Array Value) → Sem (List (Str × Value)), bindArgs (PySem.W.kdv_fn "<lambda>" q params (.expr body) scope cl dV doc pm cv ctv) ⟨[], []⟩ = seqItems? dV >>= k ∧ ∀ u, k (some #[u]) = pure [(z, u)]) : LamMade X params body scope pos T := by
  intro pins σ H s Q I hT h
  refine PySem.W.kdv_lam (by rw [hd]; rfl) hk0 ?_
  rw [hd]
  refine PySem.W.kdv_all1 (thn (he.run pins s σ H (fun v H1 => v = .int i ∧ H1 = H) I ⟨rfl, rfl⟩) fun u s1 ⟨v, H1, I1, r1, q1⟩ => ?_)
  obtain ⟨rfl, rfl⟩ := q1
  refine PySem.W.kdv_all0 ?_
  rw [makeFunction_eq]
  simp only [List.zip_nil_right, List.filterMap_nil, List.isEmpty_nil, if_true, pure_bind, List.isEmpty_cons, Bool.false_eq_true, if_false]
  refine wpAny_bind (wpAny_newTextTuple ?_)
  have I2 : Inv X pins σ H1 { s1 with heap := s1.heap.push (PySem.W.kdv_tup [u]) } := I1.kept fun b o e => Heap.get?_push_of_some _ e
  have ht : (s1.heap.push (PySem.W.kdv_tup [u])).get? s1.heap.objs.size = some (PySem.W.kdv_tup [u]) := Heap.get?_push_size _ rfl
  have hn : H1 s1.heap.objs.size = none := I1.hok.fresh (Nat.le_refl _)
  have nf : s1.heap.objs.size ∉ frs X.stack := fun zz => by
    rcases List.mem_cons.mp (I1.stkSub _ zz) with e | e
    · have h1 := I1.lt
      rw [← e] at h1
      exact Nat.lt_irrefl _ h1
    · exact I1.nofs (Nat.le_refl _) e
  refine lam_tail I2 TB hcode hm hu hT (L.has I2.ok) fun f c' doc pm ctv H2 s' I3 eN dm un T1 hf hfn hfr hco => h f c' H2 s' I3 eN dm T1 ?_
  obtain ⟨k, hk1, hk2⟩ := hbind (X.env.qual ++ "<lambda>") (cloFrom X.env.cells scope.names []) (.ref s1.heap.objs.size) doc pm (.ref c') ctv
  obtain ⟨un1, un2⟩ := un _ _ ht hn
  refine ⟨.ref s1.heap.objs.size, doc, pm, ctv, [(z, u)], hf, hfn, hfr, hco, fun y hy => ?_, fun s4 hs4 => ?_⟩
  · rw [List.mem_singleton.mp hy]; exact hz
  · exact .of_defaults (T := s1.heap.objs.size) (o := PySem.W.kdv_tup [u]) (items := #[u]) rfl (hs4 _ _ un2 un1 nf) rfl hk1 (hk2 u)

/-- the lambda's frame -/
theorem lam_start3 {A : Around} {outer : List PySem.Env} {E : XK} {f c' : Addr} {h₁ : Heap} {tk : Nat} {binds : List (Str × Value)} (I : Inv X pins σ H s) (L : LamS2 X.N X.env.scope scope) (e0 : Env0 X.prog X.w X.K X.mg X.base A outer s1 HZ) (hd : A.handled = none)
    (un : Un (frs X.stack) [] H HZ s.heap s1.heap) (hns : h₁.Ns s1.heap.objs.size fun y => binds.reverse.lookup y) (kp : ∀ b o, s1.heap.get? b = some o → h₁.get? b = some o) :
    Inv (lamCx X A outer s1 HZ E scope f c') [] σ HZ { s1 with heap := h₁, toks := tk } := by
  have hfree := L.has I.ok
  have cm : ∀ {y c}, (cloFrom X.env.cells scope.names []).lookup y = some c → X.env.cells.lookup y = some c := fun {y c} e => by
    rcases cloFrom_mem (PySem.mem_of_lookup e) with hm | ⟨h1, h2⟩
    · cases hm
    · obtain ⟨c1, hc⟩ := hfree _ h1 rfl
      have hc : X.env.cells.lookup y = some c1 := hc
      have e2 : c = c1 := by
        rw [h2, hc] <;> rfl
      rw [e2]
      exact hc
  have look : ∀ {y}, scope.names.lookup y = some .free → ∃ c, (cloFrom X.env.cells scope.names []).lookup y = some c := fun {y} hl => by
    have hy : (y, NameKind.free) ∈ scope.names := PySem.mem_of_lookup hl
    exact mem_lookup (cloFrom_has (cells := X.env.cells) (acc := []) hy)
  have cellK : ∀ {c : Addr} {v : Option Value}, H c = none → s.heap.IsCell c v → h₁.IsCell c v := fun {c v} n ⟨o, ho, hd⟩ => by
    obtain ⟨sl, q⟩ := un.any ho n (by simp)
    exact ⟨_, kp _ _ q, hd⟩
  have noA : ∀ b : Addr, b ∉ (lamCx X A outer s1 HZ E scope f c').ex := fun b z => absurd (show b ∈ ([] : List Addr) from z) (by simp)
  refine ⟨⟨e0.mod, L.kind, rfl, rfl, Nat.le_refl _, fun y z c e1 e2 => I.ok.inj y z c (cm e1) (cm e2), fun y hy => ?_, fun y c z _ => ?_, fun _ => hd, Around.frames_deeper e0.frames, .inr ⟨rfl, rfl⟩, fun b z => absurd z (noA b), e0.bs, e0.bsz, fun b _ _ => noA b,
      fun b z => absurd z (noA b), e0.funs, e0.frf⟩,
    rfl, e0.bare, Un.kept kp, ⟨_, hns, fun i y v e1 e2 e3 => ?_⟩, fun y c e => ?_, e0.hok.fresh (Nat.le_refl _), fun y c e => ?_, fun q hq => absurd (show q ∈ ([] : List (Addr × Obj)) ++ [] from hq) (by simp), e0.hok.kept kp, I.len⟩
  · have hy : scope.names.lookup y = some .cell ∨ scope.names.lookup y = some .free := hy
    rcases hy with hy | hy
    · exact absurd rfl (L.cell _ (PySem.mem_of_lookup hy))
    · exact look hy
  · have z : false = true := z
    cases z
  · have e3 : Vis scope y := e3
    rcases e3 with k | k | k
    · refine absurd ?_ (L.loc _ (PySem.mem_of_lookup k) rfl)
      have e1 : X.N[i]? = some y := e1
      exact List.mem_of_getElem? e1
    · exact absurd rfl (L.cell _ (PySem.mem_of_lookup k))
    · obtain ⟨m, hn, hl⟩ := I.loc
      have hvis : Vis X.env.scope y := (L.free _ (PySem.mem_of_lookup k) rfl).elim (fun k => .inr (.inl k)) (fun k => .inr (.inr k))
      obtain ⟨w', r, q⟩ := hl i y v e1 e2 hvis
      obtain ⟨c2, h2⟩ := look k
      refine ⟨w', r, .inr ⟨.inr k, c2, h2, ?_⟩⟩
      have c1 := cm h2
      rcases q with ⟨k', _⟩ | ⟨_, c3, e', z⟩
      · have k' : X.env.scope.names.lookup y = some .local := k'
        rcases L.free _ (PySem.mem_of_lookup k) rfl with k2 | k2 <;> rw [show X.env.scope.names.lookup y = _ from k2] at k' <;> cases k'
      · rw [c1] at e'
        cases e'
        exact cellK (I.freeC y _ c1) z
  · obtain ⟨w', z⟩ := I.cell y c (cm e)
    exact ⟨w', cellK (I.freeC y c (cm e)) z⟩
  · obtain ⟨v, o, ho, hd⟩ := I.cell y c (cm e)
    exact un.free c o ho (I.freeC y c (cm e)) (by simp)
/-- x(), in the def that got the lambda -/
theorem pe_act3 {CXg : CXT} {Eg : XK} {Ng : List Str} {qg : Str} {sg : Scope} {g f c' : Addr} {cdg : Value} {k i : Nat} {a : Str} {pn : List (Addr × Obj)} {xe : Value → Shared → Prop} {W : WX} {tb : XK → TE} {p1 p2 : Pos}
    (I : Inv X pins σ H s) (L : LamS2 X.N X.env.scope scope) (hl : LamHere X params body scope s H f c')
    (tk : Takes ((cxOf CXg X.prog X.w X.K X.mg X.base Ng qg sg g cdg X.A X.stack s H Eg).tr pn xe) W) (hgd : X.A.guards = some []) (hr : Room (k + 1) (X.A.deeper (envOfC qg sg s.heap.objs.size g cdg)))
    (hbody : ∀ (A : Around) (outer : List PySem.Env) (s : Shared) (H : Hp) (E : XK), (A.deeper (lamEnv X scope s.heap.objs.size f c')).guards = some [] → Room k (A.deeper (lamEnv X scope s.heap.objs.size f c')) → PE (lamCx X A outer s H E scope f c') body (tb E))
    (hN : Ng[i]? = some a) (hv : Vis sg a) (hd : (a == ("__debug__" : Str)) = false := by decide) (hcd : (a == ("__classdict__" : Str)) = false := by decide) :
    PE ((cxOf CXg X.prog X.w X.K X.mg X.base Ng qg sg g cdg X.A X.stack s H Eg).tr pn xe) (.Call (.Name a p1) [] [] p2)
      (fun σZ HZ Q => σZ[i]? = some (some (.ref f)) ∧ HZ c' = some (CodeO c' (X.env.qual ++ "<lambda>")) ∧ tb (WE W σZ) σ HZ Q) := by
  obtain ⟨dV, doc, pm, ctv, binds, hf, hfn, hfr, hco0, hloc, hbind⟩ := hl
  refine ⟨fun pinsZ sZ σZ HZ Q IZ h => ?_⟩
  obtain ⟨hs, hc, ht⟩ := h
  refine wpAny_Call_Name_kw (thn ((pe_var (pos := p1) (i := i) hN hv hd hcd).run pinsZ sZ σZ HZ (fun v H1 => v = .ref f ∧ H1 = HZ) IZ ⟨.ref f, hs, rfl, rfl⟩) fun u s1 ⟨v, H1, I1, r1, q1⟩ => ?_)
  obtain ⟨ev, eH⟩ := q1
  subst ev
  rw [eH] at I1
  obtain rfl : u = Value.ref f := r1
  have keepS : ∀ b o, s.heap.get? b = some o → H b = none → b ∉ frs X.stack → s1.heap.get? b = some o := fun b o e n nf => I1.base.keep b o e n nf (fun z => nomatch (show b ∈ ([] : List Addr) from z))
  have of1 := keepS f _ hf hfn hfr
  refine PySem.W.callWith_F0 ⟨_, _, _, _, of1⟩ ?_
  have un : Un (frs X.stack) [] H HZ s.heap s1.heap := I1.base
  obtain ⟨⟨oc, vs, t, hoc, hdc, hvc⟩, _, _⟩ := I1.hok c' _ hc
  have rc : codeAny (model X.prog X.w) (X.A.deeper (envOfC qg sg s.heap.objs.size g cdg)) (.call (.ref f) ⟨[], []⟩) (CR (L2.CX X.prog X.w) (envOfC qg sg s.heap.objs.size g cdg :: X.stack) X.prog X.w HZ s1 Q (WE W σZ)) s1 := by
    refine PySem.W.kla_callFunE hr.depth of1 rfl L.co L.gen rfl ⟨c', oc, vs, t, rfl, hoc, hdc, hvc⟩ (hbind s1 keepS _ _ _ _ ?_)
    refine wpAny_newFunctionEnv (fun y hy => L.cell y hy) hloc (fun h₁ hns hsb => ⟨I1.nolimit.fresh _ hsb, ?_⟩) L.kind
    show codeAny _ _ (.expr body (lamEnv X scope s1.heap.objs.size f c')) _ _
    have kp : ∀ b o, s1.heap.get? b = some o → h₁.get? b = some o := fun b o e => hsb.extBut b o (Nat.ne_of_lt (Heap.lt_size e)) (Heap.get?_push_of_some _ e)
    have J : Inv (lamCx X (X.A.deeper (envOfC qg sg s.heap.objs.size g cdg)) (envOfC qg sg s.heap.objs.size g cdg :: X.stack) s1 HZ (WE W σZ) scope f c') [] σ HZ { s1 with heap := h₁, toks := s1.toks + binds.length } :=
      lam_start3 I L I1.env0 hr.hd un hns kp
    refine PySem.W.kla_codeExpr (wpAny_mono ((hbody (X.A.deeper (envOfC qg sg s.heap.objs.size g cdg)) _ s1 HZ _ hgd (hr.deeper _)).run [] _ _ HZ Q J ht) (fun v s' hq => ?_) fun e s' hq => hq)
    obtain ⟨w', H', J', rv, q⟩ := hq
    exact ⟨w', H', J'.os, J'.bare, J'.base, J'.hok, rv, q⟩
  have hx : PassesAt (L2.CX X.prog X.w) ((cxOf CXg X.prog X.w X.K X.mg X.base Ng qg sg g cdg X.A X.stack s H Eg).tr pn xe) σZ (WE W σZ) := passAt tk σZ
  refine wpAny_call (codeAny_mono rc fun r s' hq => ?_)
  cases r with
  | error e => exact hx pinsZ HZ s1 e s' I1 hq
  | ok fl =>
    cases fl with
    | ret u => exact I1.after hq
    | next => exact False.elim hq
    | brk => exact False.elim hq
    | cont => exact False.elim hq
end
end DL

/-! DL: isinstance; methods by data; try with a lambda. -/
namespace DL
open PySem PySem.Spec PyProof.Rows L2 LamX

/-! ### isinstance of a built-in type -/
def tyD : PyData → String
  | .none => "NoneType"
  | .bool _ => "bool"
  | .int _ => "int"
  | .str _ => "str"
  | .list _ => "list"
  | .tuple _ => "tuple"
  | .dict _ => "dict"
def isiB (a T : String) : Bool := a == T || (a == "bool" && T == "int")
def isiT (T : String) (d : PyData) : Option PyData := some (.bool (isiB (tyD d) T))
theorem kitB_of {T : String} (h : T = "int" ∨ T = "bool" ∨ T = "str" ∨ T = "list" ∨ T = "tuple" ∨ T = "dict") (d : PyData) : kitB (tyD d) T = some (isiB (tyD d) T) := by
  have key : ∀ T ∈ ["int", "bool", "str", "list", "tuple", "dict"], ∀ a ∈ ["NoneType", "bool", "int", "str", "list", "tuple", "dict"], kitB a T = some (isiB a T) := by decide +kernel
  refine key T (by rcases h with rfl | rfl | rfl | rfl | rfl | rfl <;> simp) _ ?_
  cases d <;> simp [tyD]
theorem Rp.ty {K : PySem.W.Frag} {H : Hp} {A : Addr → Prop} {v : V} {d : PyData} (h : Rp K H A v d) : TyX K H v (.type (tyD d)) := by
  cases h with
  | non => exact .base .non
  | bl b => exact .base (.bl _)
  | int b => exact .base (.int _)
  | str b => exact .base (.str _)
  | lst a h l => exact .base (.lst h)
  | tup h l => exact .base (.tup h)
  | dik a h l => exact .base (.dK h)
  | dit a h l => exact .base (.dT h)
theorem Rv.ty {K : PySem.W.Frag} {H : Hp} {A B : Addr → Prop} {v : V} {d : PyData} (h : Rv K H A B v d) : TyX K H v (.type (tyD d)) := by
  cases h with
  | rp h => exact h.ty
  | lst a h l => exact .base (.lst h)
  | dik a h l => exact .base (.dK h)
  | dit a h l => exact .base (.dT h)
section
variable {X : Cx} {G : DX} {E : XK} {O O' O1 O2 : List Nat} {b : Bool} {e e1 e2 e3 tg : Expr} {pos p p2 : Pos} {f f1 f2 f3 : ED} {es : List Expr} {fs : AD}
theorem de_isi {T : String} {x : Str} (hT : T = "int" ∨ T = "bool" ∨ T = "str" ∨ T = "list" ∨ T = "tuple" ∨ T = "dict") (hg : Gl X "isinstance") (hm : X.mg "isinstance" = none) (hv : bootBuiltins "isinstance" = some (.builtin "isinstance")) (h : DE X G E O true e f) (ht : PE X (.Name x p2) (tC (.ty T)))
    (he : starEach [e, .Name x p2] X.env = (false, eval e X.env) :: starEach [.Name x p2] X.env := by rfl) :
    DE X G E O b (.Call (.Name "isinstance" p) [e, .Name x p2] [] pos) (dUn (isiT T) f) := by
  refine pe_imp (pe_callB call_isi hg hm hv (pa_cons h (pa_cons ht pa_nil) he) (by decide) (by decide) he) fun σ H Q q => ?_
  obtain ⟨ρ, S, own, hO, r, p⟩ := q
  refine tE_step hO r (R.post_bind p) fun d1 S1 v1 H1 p1 fr1 r1 rv1 => ?_
  obtain ⟨d, hd, p4⟩ := post_opt p1
  cases hd
  exact ⟨v1, .ty T, .type (tyD d1), .type T, isiB (tyD d1) T, rfl, .ty T, rv1.ty, kit_ty (kitB_of hT d1), p4 _ H1 fr1 r1.glob (.rp (.bl _))⟩

/-! ### methods -/
def rMD (K : PySem.W.Frag) (g : PyData → List PyData → Option PyData) : V → List V → Hp → VK → Prop := fun x xs H Q => ∃ (A B : Addr → Prop) (dx : PyData) (ds : List PyData), Rv K H A B x dx ∧ RvL K H A B xs ds ∧ (∀ a, H a = none → A a) ∧
  ∃ d, g dx ds = some d ∧ ∀ v H', Same H H' → Rp K H' A v d → Q v H'
theorem mtR_imp {id : String} {r r' : V → List V → Hp → VK → Prop} (h : MtR X id r) (hi : ∀ x xs H Q, r' x xs H Q → r x xs H Q) : MtR X id r' :=
  fun pins s σ H x xs v us Q I r1 r2 w => h pins s σ H x xs v us Q I r1 r2 (hi _ _ _ _ w)
def isTy (T : String) : PyData → Bool
  | .list _ => T == "list"
  | .str _ => T == "str"
  | .dict _ => T == "dict"
  | _ => false
theorem Rv.tyV {K : PySem.W.Frag} {H : Hp} {A B : Addr → Prop} {v : V} {d : PyData} {T : String} (h : Rv K H A B v d) (t : isTy T d = true) : tyV K T v H := by
  cases h with
  | rp h =>
    cases h with
    | non => cases t
    | bl => cases t
    | int => cases t
    | tup => cases t
    | str x => exact eq_of_beq (show (T == "str") = true from t)
    | lst a h l => exact .inl ⟨eq_of_beq (show (T == "list") = true from t), _, SqL.of h⟩
    | dik a h l => exact .inr (.inr (.inl ⟨eq_of_beq (show (T == "dict") = true from t), .inl ⟨_, h⟩⟩))
    | dit a h l => exact .inr (.inr (.inl ⟨eq_of_beq (show (T == "dict") = true from t), .inr ⟨_, h⟩⟩))
  | lst a h l => exact .inl ⟨eq_of_beq (show (T == "list") = true from t), _, SqL.of h⟩
  | dik a h l => exact .inr (.inr (.inl ⟨eq_of_beq (show (T == "dict") = true from t), .inl ⟨_, h⟩⟩))
  | dit a h l => exact .inr (.inr (.inl ⟨eq_of_beq (show (T == "dict") = true from t), .inr ⟨_, h⟩⟩))
def dMt (T : String) (g : PyData → List PyData → Option PyData) (f : ED) (fs : AD) : ED := fun ρ S => (f ρ S).bind fun x S => if isTy T x = true then (fs ρ S).bind fun xs S => M.opt (g x xs) S else .bad
theorem de_mt {T id : String} {g : PyData → List PyData → Option PyData} (hm : MtR X id (rMD X.K g)) (h : DE X G E O true e f) (ha : DA X G E O true es fs)
    (hp : ∀ {to : TE} {t : TA} {r : V → List V → Hp → VK → Prop}, MtR X id r → PE X e to → PA X es t → PE X e1 (tBM X.K T r to t)) : DE X G E O b e1 (dMt T g f fs) := by
  refine pe_imp (hp hm h ha) fun σ H Q q => ?_
  obtain ⟨ρ, S, own, hO, r, p⟩ := q
  refine tE_step hO r (R.post_bind p) fun d1 S1 v1 H1 p1 fr1 r1 rv1 => ?_
  obtain ⟨ht, p1⟩ := post_if p1
  refine ⟨rv1.tyV ht, ?_⟩
  refine tA_step hO r1 (R.post_imp (R.post_bind p1) (fun _ _ z => z) fun _ _ z => z.mono fr1) fun d2 S2 v2 H2 p2 fr2 r2 rv2 => ?_
  obtain ⟨d, hd, p4⟩ := post_opt p2
  exact ⟨Acl G own, BR G own true, d1, d2, rv1.keep fr2 (fun a z => z.2.1.not) (fun a z => z.nh.not), rv2, fun a z => r2.free z, d, hd, fin_op r2 fun v H' fr gl rv => p4 v H' (fr1.trans (fr2.trans fr)) gl rv⟩

def cntD : PyData → List PyData → Option PyData
  | .list ds, [d] => if SeqAt.shaped (.list ds) = true ∧ SeqAt.shaped d = true then some (.int (ds.countP fun y => PyData.eqv y d : Nat)) else none
  | _, _ => none
theorem mt_cntD (hu : X.A.units + 65 < cLine) : MtR X "list.count" (rMD X.K cntD) := by
  intro pins s σ H x xs v us Q I rx rxs h
  obtain ⟨A, B, dx, ds, rv, rvl, fa, d, e, q⟩ := h
  unfold cntD at e
  split at e
  · rename_i zs d0
    split at e
    · rename_i hs
      cases e
      obtain ⟨y, rfl, ry⟩ := rvl1 rvl
      have hl : Dp X.K H x (.list zs) := rv.dp (SeqAt.canLay_of_shaped hs.1)
      have hy : Dp X.K H y d0 := ry.dp (SeqAt.canLay_of_shaped hs.2)
      cases rxs with
      | cons ruy rt =>
        rename_i uy ut
        cases rt
        obtain ⟨bs, r1⟩ := Dp.reads I d0 y uy hy ruy
        have hxs : PyData.canLayAll0 zs = true := SeqAt.canLay_of_shaped hs.1
        have hroom : X.A.units + 1 + min (PyData.depthAll zs) d0.depth < cLine := by
          have := SeqAt.depth_of_shaped hs.2
          omega
        cases hl with
        | lst hsq ha =>
          cases rx
          obtain ⟨its, rv2, ⟨⟨cls, dd, data, sls⟩, n, ho, hc, hdn, hdt⟩, hlen⟩ := I.list hsq
          simp only at hc hdt
          subst hc hdt
          obtain ⟨as, h4⟩ := Dp.readsAll I zs _ its ha rv2
          have hmap : its.map (SeqAt.readOf s.heap) = zs := SeqAt.readsAll_map zs its as hxs h4
          refine call_meets PySem.F.slot_list_count ⟨_, ho, rfl⟩ PySem.F.entry_list_count (PySem.F.args_list_count_2 _ _) (SeqAt.list_countAt _ its.toArray n dd sls uy (fun y => PyData.eqv (SeqAt.readOf s.heap y) d0)) ⟨ho, ?_, ?_⟩
          · exact SeqAt.items_eqAt (vs := its.toArray) (show ReadsAll s.heap its.toArray.toList zs as from h4) r1 hxs (SeqAt.canLay_of_shaped hs.2) hroom
          · have ec : its.toArray.toList.countP (fun y => PyData.eqv (SeqAt.readOf s.heap y) d0) = zs.countP fun y => PyData.eqv y d0 := by
              rw [← hmap, List.countP_map]
              rfl
            rw [ec]
            exact ⟨.int _, H, I.tok _, ⟨s.toks, rfl⟩, q _ H (Same.refl H) (.int _)⟩
    · cases e
  · cases e
def idxD : PyData → List PyData → Option PyData
  | .list ds, [d] => if SeqAt.shaped (.list ds) = true ∧ SeqAt.shaped d = true then (ds.findIdx? fun y => PyData.eqv y d).map fun j => .int (j : Nat) else none
  | _, _ => none
theorem mt_idxD (hu : X.A.units + 65 < cLine) : MtR X "list.index" (rMD X.K idxD) := by
  refine mtR_imp (mt_indexD hu) fun x xs H Q ⟨A, B, dx, ds, rv, rvl, fa, d, e, q⟩ => ?_
  unfold idxD at e
  split at e
  · rename_i zs d0
    split at e
    · rename_i hs
      simp only [Option.map_eq_some_iff] at e
      obtain ⟨j, e1, rfl⟩ := e
      obtain ⟨y, rfl, ry⟩ := rvl1 rvl
      obtain ⟨a, vs, rfl, h, l⟩ := rv_list rv
      obtain ⟨hj, h2, h3⟩ := List.findIdx?_eq_some_iff_getElem.mp e1
      refine ⟨a, y, d0, zs, j, zs[j], rfl, rfl, rv.dp (SeqAt.canLay_of_shaped hs.1), ry.dp (SeqAt.canLay_of_shaped hs.2), hs.1, hs.2, List.getElem?_eq_getElem hj, h2, fun m z' hm hz => ?_, q _ H (Same.refl H) (.int _)⟩
      obtain ⟨hml, rfl⟩ := List.getElem?_eq_some_iff.mp hz
      simpa using h3 m hm
    · cases e
  · cases e
end
end DL

/-! DL: try with a lambda; the def that is handed a lambda. -/
namespace DL
open PySem PySem.Spec PyProof.Rows L2 LamX

/-- a() in the def that got the lambda -/
def tAct (mg : Str → Option Value) (G : DX) (mc : M Unit) (W : WX) : TE := fun σZ HZ Q => σZ[0]? = some (some (.ref G.fn.1)) ∧ HZ G.fn.2.1 = some (CodeO G.fn.2.1 G.fn.2.2) ∧ ∃ S', Fr (WH G.ha) G.H0 HZ ∧ Glob G.ha G.T HZ S' ∧
    (mc S').post (fun _ S'' => ∀ v H', Fr (WH G.ha) HZ H' → Glob G.ha G.T H' S'' → Q v H') (errs mg G.ha G.T (WH G.ha) HZ (WE W σZ))
def ActOk (Z : Cx) (G : DX) (mc : M Unit) (a : Str) : Prop := ∀ (W : WX) (pn : List (Addr × Obj)) (xe : Value → Shared → Prop) (p1 p2 : Pos), L2.Takes (Z.tr pn xe) W → PE (Z.tr pn xe) (.Call (.Name a p1) [] [] p2) (tAct Z.mg G mc W)
def isExc : Option Slot → Bool
  | some .exc => true
  | _ => false
def noExc (ρ : Env) : Bool := ρ.all fun s => !isExc s
def sTry (i : Nat) (cs : List Str) (mc : M Unit) (su : Str → SD) : SD := fun ρ S => match ρ[0]? with
  | some (some Slot.lam) => (match mc S with
    | .ok _ S => .ok (.nx ρ) S
    | .err c S => if c ∈ cs ∧ noExc ρ = true ∧ i < ρ.length ∧ i ≠ 0 then (noErr (su c (ρ.set i (some .exc)) S)).bind fun fl S => match fl with
      | .nx ρ' => if noExc (ρ'.set i none) = true then .ok (.nx (ρ'.set i none)) S else .bad
      | .rt d => .ok (.rt d) S
      else .bad
    | .bad => .bad)
  | _ => .bad
theorem SR.exc {K : PySem.W.Frag} {G : DX} {own : List (Nat × Addr)} {σ : L2.St} {H : Hp} {ρ : Env} {S : HS} (r : SR K G own σ H ρ S) (h : noExc ρ = true) (a : Addr) : SR K { G with exc := a } own σ H ρ S where
  glob := r.glob
  frm := r.frm
  len := r.len
  slot := fun i sl e => by
    obtain ⟨v, h1, h2⟩ := r.slot i sl e
    refine ⟨v, h1, ?_⟩
    cases sl with
    | hnd => exact h2
    | dat d => exact h2
    | lam => exact h2
    | scr l => exact h2
    | exc =>
      unfold noExc at h
      have := List.all_eq_true.mp h _ (List.mem_of_getElem? e)
      cases this
  ow := r.ow
  nd := r.nd
theorem SR.excSet {K : PySem.W.Frag} {G : DX} {own : List (Nat × Addr)} {σ : L2.St} {H : Hp} {ρ : Env} {S : HS} {i : Nat} (r : SR K G own σ H ρ S) (hi : i ∉ own.map (·.1)) (hl : i < ρ.length) : SR K G own (σ.set i (some (.ref G.exc))) H (ρ.set i (some .exc)) S where
  glob := r.glob
  frm := r.frm
  len := by simp [r.len]
  slot := fun j sl e => by
    by_cases hj : i = j
    · subst hj
      rw [List.getElem?_set_self hl] at e
      cases e
      exact ⟨_, by rw [List.getElem?_set_self (by rw [r.len]; exact hl)], rfl⟩
    · rw [List.getElem?_set_ne hj] at e
      obtain ⟨w, h1, h2⟩ := r.slot j sl e
      exact ⟨w, by rw [List.getElem?_set_ne hj]; exact h1, h2⟩
  ow := r.ow
  nd := r.nd
theorem SR.unset {K : PySem.W.Frag} {G : DX} {own : List (Nat × Addr)} {σ : L2.St} {H : Hp} {ρ : Env} {S : HS} {i : Nat} (r : SR K G own σ H ρ S) : SR K G own (σ.set i none) H (ρ.set i none) S where
  glob := r.glob
  frm := r.frm
  len := by simp [r.len]
  slot := fun j sl e => by
    by_cases hj : i = j
    · subst hj
      rw [List.getElem?_set] at e
      simp only [if_true] at e
      split at e <;> cases e
    · rw [List.getElem?_set_ne hj] at e
      obtain ⟨w, h1, h2⟩ := r.slot j sl e
      exact ⟨w, by rw [List.getElem?_set_ne hj]; exact h1, h2⟩
  ow := r.ow
  nd := r.nd
theorem errs.none {mg : Str → Option Value} {ha : Option (Addr × Addr)} {T : List (Addr × Str)} {W : Addr → Prop} {H : Hp} {E : XK} {c : Str} {S : HS} (h : errs mg ha T W H (fun _ _ _ => False) c S) (hm : ∃ cls, mg c = some cls) (g : Glob ha T H S) : False := by
  obtain ⟨cls, hm⟩ := hm
  exact h cls _ H ⟨hm, rfl⟩ (Fr.refl _ _) g

section
variable {X : Cx} {G : DX} {E : XK} {O O' O1 O2 : List Nat} {b : Bool} {e e1 e2 e3 tg : Expr} {pos p p2 : Pos} {f f1 f2 f3 : ED} {es : List Expr} {fs : AD}
theorem ds_tryC {i : Nat} {cP : Value} {x n a : Str} {mc : M Unit} {su : Str → SD} {cs : List Str} {b₀ : Stmt} {suite : List Stmt} {np p1 p2 p3 pos' : Pos} (hs : X.stack = X.env :: X.outer) (hf : X.env.frame = some X.env.locals) (hN : X.N.Nodup) (hi : X.N[i]? = some n) (hln : X.env.kindOf n = some .local) (hc : Names X x cP)
    (act : ActOk X G mc a) (hiO : i ∉ O) (hcl : ∀ c ∈ cs, ∀ cls, X.mg c = some cls → (∃ D, cls = .ref D) ∧ PySem.W.exmOne X.K cls cP = some true) (hmg : ∀ c ∈ cs, ∃ cls, X.mg c = some cls)
    (hsu : ∀ c ∈ cs, ∀ (D : Addr), X.mg c = some (.ref D) → ∀ (a : Addr) (oe : Obj) (pn : List (Addr × Obj)), Zc (.ref D) none oe → (∃ vs, oe.data = .fields vs) → DSs (X.suite a ((a, oe) :: pn)) { G with exc := a } Enone O O (b₀ :: suite) (su c))
    (hsw : swapsWith (.Call (.Name a p1) [] [] p2) none p3.line X.env = pure false := by rfl) :
    DS X G E O O (.Try [.Expr (.Call (.Name a p1) [] [] p2) p3] [.ExceptHandler (some (.Name x np)) (some n) (b₀ :: suite) pos'] [] [] pos) (sTry i cs mc su) := by
  refine ps_imp (ps_try_as (X := X) (i := i) (c := cP) (Wout := fun _ _ _ _ => False)
    (tb := fun W => tDrop (tAct X.mg G mc W))
    (ts := fun a cls d D σ H => ∃ c ∈ cs, X.mg c = some cls ∧ d = none ∧ tS X { G with exc := a } Enone O O (su c) D σ H)
    hs hf hN hi hln hc LamX.takes0 (fun W pn xe tk _ => ?_) fun a oe cls d pn hz hfl => ?_) fun D σ H q => ?_
  · exact pss_one (ps_expr (act W pn xe p1 p2 tk) hsw)
  · refine ⟨fun pins s' σ H D I h' => ?_⟩
    obtain ⟨c, hcs, hmc, rfl, q⟩ := h'
    obtain ⟨⟨D0, rfl⟩, _⟩ := hcl c hcs _ hmc
    exact (hsu c hcs D0 hmc a oe pn hz hfl).run pins s' σ H D I q
  · obtain ⟨ρ, S, own, ho, r, k⟩ := q
    unfold sTry at k
    split at k
    · rename_i h0
      obtain ⟨v, h1, h2, h3⟩ := r.slot _ _ h0
      subst h2
      refine ⟨h1, r.frm.keep _ _ h3 rfl (fun z => nomatch z), S, r.frm, r.glob, ?_⟩
      cases hmc : mc S with
      | bad => rw [hmc] at k; exact k.elim
      | ok u S1 =>
        rw [hmc] at k
        exact fun v H' fr gl => k σ H' own ho (r.keep fr gl) ⟨fr.wo, fun p hp => .inl ⟨p, hp, rfl⟩⟩
      | err c S1 =>
        rw [hmc] at k
        obtain ⟨⟨hcs, hne, hil, hi0⟩, k⟩ := post_if k
        intro cls dd H' hm fr gl
        obtain ⟨hm, rfl⟩ := hm
        obtain ⟨_, hex⟩ := hcl c hcs _ hm
        refine ⟨true, hex, fun _ ax na => ⟨c, hcs, hm, rfl, ?_⟩, fun z => Bool.noConfusion z⟩
        have r1 := r.keep fr gl
        have hio : i ∉ own.map (·.1) := by rw [ho]; exact hiO
        have r2 := (r1.exc hne ax).excSet (i := i) hio hil
        refine ⟨_, S1, own, ho, r2, R.post_imp (post_noErr (R.post_bind k)) (fun fl S2 k => ?_) fun c' S2 z => z⟩
        cases fl with
        | rt d => exact fun v H2 f gl2 rp => k v H2 (fr.wo.trans f) gl2 rp
        | nx ρ' =>
          obtain ⟨hn2, k⟩ := post_if k
          intro σ2 H2 own2 ho2 r3 f3
          refine k _ H2 own2 ho2 ?_ (FrS.trans ⟨fr.wo, fun p hp => .inl ⟨p, hp, rfl⟩⟩ ⟨f3.fr, f3.sub⟩)
          exact (r3.unset (i := i)).exc (G := { G with exc := ax }) hn2 G.exc
    · exact k.elim
/-- isinstance(e, C) in the suite of e -/
def dIsE (i : Nat) (kb : Bool) : ED := fun ρ S => match ρ[i]? with
  | some (some Slot.exc) => .ok (.bool kb) S
  | _ => .bad
theorem de_isE {i : Nat} {a D : Addr} {c : V} {cv : Value} {kb : Bool} {n x : Str} {p1 p2 p3 : Pos} (hc : CallR X (.builtin "isinstance") (rIsE X.K D a)) (hga : G.exc = a) (hg : Gl X "isinstance") (hm : X.mg "isinstance" = none) (hv : bootBuiltins "isinstance" = some (.builtin "isinstance"))
    (he : PE X (.Name n p1) (tVar i)) (ht : PE X (.Name x p2) (tC c)) (hu : ∀ u, RelV c u → u = cv) (hk : PySem.W.kitOne X.K (.ref D) cv = some kb)
    (hs : starEach [.Name n p1, .Name x p2] X.env = (false, eval (.Name n p1) X.env) :: starEach [.Name x p2] X.env := by rfl) :
    DE X G E O b (.Call (.Name "isinstance" p3) [.Name n p1, .Name x p2] [] pos) (dIsE i kb) := by
  refine pe_imp (pe_callB hc hg hm hv (pa_cons he (pa_cons ht pa_nil) hs) (by decide) (by decide) hs) fun σ H Q q => ?_
  obtain ⟨ρ, S, own, hO, r, k⟩ := q
  unfold dIsE at k
  split at k
  · rename_i h0
    obtain ⟨v, h1, h2⟩ := r.slot _ _ h0
    have h2 : v = .ref G.exc := h2
    subst h2
    refine ⟨_, h1, c, cv, kb, by rw [hga], hu, hk, k _ H (Fr.refl _ _) r.glob (.rp (.bl _))⟩
  · exact k.elim

/-- x(lambda: body), x's statements gs of what the lambda does -/
def mSaid (L : Nat) (g : SD) : M PyData := fun S => (noErr (g (some Slot.lam :: List.replicate (L - 1) none) S)).bind fun fl S => match fl with
  | .nx _ => .ok .none S
  | .rt d => .ok d S
def dSaid (L : Nat) (gs : M Unit → SD) (f : ED) : ED := fun ρ S => mSaid L (gs fun S => (f ρ S).bind fun _ S => .ok () S) S
theorem sr_said {K : PySem.W.Frag} {G : DX} {H : Hp} {S : HS} {N : List Str} {L : Nat} {f c' : Addr} {q : Str} (hL : N.length = L) (hL0 : 0 < L) (hG : G.H0 = H) (hf : G.fn = (f, c', q)) (hc : H c' = some (CodeO c' q)) (gl : Glob G.ha G.T H S) :
    SR K G [] (L2.start N [.ref f]) H (some Slot.lam :: List.replicate (L - 1) none) S where
  glob := gl
  frm := by rw [hG]; exact Fr.refl _ _
  len := by unfold L2.start; simp [hL]
  slot := fun i x e => by
    cases i with
    | zero =>
      simp at e
      subst e
      refine ⟨.ref f, by unfold L2.start; simp, ?_⟩
      refine ⟨by rw [hf], ?_⟩
      rw [hf, hG]
      exact hc
    | succ j =>
      simp only [List.getElem?_cons_succ, List.getElem?_replicate] at e
      split at e <;> cases e
  ow := fun p hp => by cases hp
  nd := ⟨List.nodup_nil, List.nodup_nil⟩
theorem de_said {x a : Str} {g : Addr} {k L : Nat} {pg : Arguments} {bg : List Stmt} {sg : Scope} {dV kV doc pm cdv ct oc : Value} {an od : Option Addr} {osl : Array (Option Value)} {Ng : List Str} {gs : M Unit → SD}
    {params : Arguments} {body : Expr} {scope : Scope} {p lpos pos : Pos} (hg : Gl X x) (hm : X.mg x = some (.ref g)) (hk : PySem.W.keepIn X.K (.ref g) = true)
    (lk : X.K.lookup g = some ⟨oc, od, .func (PySem.W.fnOf x x pg bg sg dV kV doc pm an cdv ct), osl⟩) (hcg : PySem.W.codeIn X.K cdv x = true) (hb : L2.Binds X.K (PySem.W.fnOf x x pg bg sg dV kV doc pm an cdv ct) [a] []) (Sg : FnScope Ng [a] sg) (hNg : Ng[0]? = some a) (hva : Vis sg a)
    (hL : Ng.length = L) (hL0 : 0 < L) (lm : LamMade X params body scope lpos G.T) (hgd : X.A.guards = some []) (hr : Room (k + 2) X.A) (Ls : LamS2 X.N X.env.scope scope)
    (hsaid : ∀ (s : Shared) (H : Hp) (G' : DX) (mc : M Unit), G'.T = G.T → ActOk (cxOf C8.CX0 X.prog X.w X.K X.mg X.base Ng x sg g cdv X.A X.stack s H C8.E0).nox G' mc a → Room (k + 1) (X.A.deeper (envOfC x sg s.heap.objs.size g cdv)) →
      DSs (cxOf C8.CX0 X.prog X.w X.K X.mg X.base Ng x sg g cdv X.A X.stack s H C8.E0).nox G' Enone [] O2 bg (gs mc))
    (hbody : ∀ (A : Around) (outer : List PySem.Env) (s : Shared) (H : Hp) (E : XK) (f' c' : Addr), (A.deeper (lamEnv X scope s.heap.objs.size f' c')).guards = some [] → Room k (A.deeper (lamEnv X scope s.heap.objs.size f' c')) → DE (lamCx X A outer s H E scope f' c') G E O true body f)
    (hdb : (x == ("__debug__" : Str)) = false := by decide) (hd : (a == ("__debug__" : Str)) = false := by decide) (hcd : (a == ("__classdict__" : Str)) = false := by decide) :
    DE X G E O b (.Call (.Name x p) [.Lambda params body scope lpos] [] pos) (dSaid L gs f) := by
  refine ⟨fun pins s σ H Q I h => ?_⟩
  obtain ⟨ρ, S, own, hO, r, h⟩ := h
  refine wpAny_Call_Name_kw (ld_glob I hg hm ?_ hdb)
  refine PySem.W.callWith_K (h₀ := X.base) I.ok.mod.kin hk ?_ (by rfl) (by rfl)
  show wpAny _ _ (spliced ((false, eval (.Lambda params body scope lpos) X.env) :: backTo pos (starEach [] X.env))) _ _ s
  refine Calls.spliced_cons (lm pins σ H s _ I r.glob.tabs fun f' c' H1 s' I1 eN dm T1 hl => ?_)
  refine Calls.spliced_nil ⟨I1.kIn, ?_⟩
  have fr1 : Fr (WH G.ha) H H1 := ⟨fun b o e t _ => eN b o e fun ps z => (by rw [z] at t; cases t), dm⟩
  have gl1 : Glob G.ha G.T H1 S := ⟨fun hh e => by
    obtain ⟨h1, h2, h3⟩ := r.glob.hand hh e
    exact ⟨eN _ _ h1 fun ps z => (by cases z), eN _ _ h2 (fun ps z => by cases z), h3⟩, T1⟩
  have r1 := r.keep fr1 gl1
  obtain ⟨dV', doc', pm', ctv', bs', _, _, _, hco, _, _⟩ := id hl
  have rc : codeAny (model X.prog X.w) X.A (.call (.ref g) ⟨[.ref f'], []⟩) (CR C8.CX0 X.stack X.prog X.w H1 s' Q C8.E0) s' := by
    refine run_ofS (N := Ng) (ps := [a]) (us := [.ref f']) (vs := [.ref f']) lk hcg Sg hr I1.env0 (hb s' [.ref f'] I1.kIn rfl) (.cons rfl .nil) rfl fun hr' => ?_
    have act : ActOk (cxOf C8.CX0 X.prog X.w X.K X.mg X.base Ng x sg g cdv X.A X.stack s' H1 C8.E0).nox ⟨H1, Acl G own, G.ha, G.T, (f', c', X.env.qual ++ "<lambda>"), 0⟩ (fun S => (f ρ S).bind fun _ S => .ok () S) a := by
      intro W pn xe p1 p2 tk
      refine pe_imp (pe_act3 (CXg := C8.CX0) (Eg := C8.E0) (Ng := Ng) (i := 0) (tb := fun E => tE X G E O true f) I1 Ls hl tk hgd hr' (fun A outer s H E hg2 hr2 => hbody A outer s H E f' c' hg2 hr2) hNg hva hd hcd) fun σZ HZ Q q => ?_
      obtain ⟨q1, q2, S', q3, q4, q5⟩ := q
      exact ⟨q1, q2, ρ, S', own, hO, r1.keep q3 q4, R.post_imp (R.post_bind q5) (fun d S2 z v H2 fr gl _ => z v H2 fr gl) fun _ _ z => z⟩
    refine ⟨_, (hsaid s' H1 ⟨H1, Acl G own, G.ha, G.T, (f', c', X.env.qual ++ "<lambda>"), 0⟩ _ rfl act hr').nox, ?_⟩
    refine ⟨_, S, [], rfl, sr_said hL hL0 rfl rfl hco gl1, ?_⟩
    have h' := post_noErr (E' := errs X.mg G.ha G.T (WO ⟨H1, Acl G own, G.ha, G.T, (f', c', X.env.qual ++ "<lambda>"), 0⟩ []) H1 Enone) (R.post_bind (show (mSaid L (gs fun S => (f ρ S).bind fun _ S => .ok () S) S).post _ _ from h))
    refine R.post_imp h' (fun fl S2 z => ?_) fun _ _ z => z
    have wo : ∀ {H' : Hp}, Fr (WO ⟨H1, Acl G own, G.ha, G.T, (f', c', X.env.qual ++ "<lambda>"), 0⟩ []) H1 H' → Fr (WH G.ha) H H' := fun fr => fr1.trans (fr.mono fun a z => z.elim id fun ⟨p, hp, _⟩ => by cases hp)
    cases fl with
    | nx ρ' => exact fun σ' H' own' _ r' fr => z .non H' (wo fr.fr) r'.glob (.rp .non)
    | rt d => exact fun v H' fr gl rp => z v H' (wo fr) gl (.rp (rp.mono fun a z => z.elim id fun z => r1.free z))
  refine wpAny_call (codeAny_mono rc fun r s2 hq => ?_)
  cases r with
  | error e => exact (show False from hq).elim
  | ok fl =>
    cases fl with
    | ret u => exact I1.after hq
    | next => exact False.elim hq
    | brk => exact False.elim hq
    | cont => exact False.elim hq
end
end DL

/-! DL: the drawing hand; stores by place; the law's own def. -/
namespace DL
open PySem PySem.Spec PyProof.Rows L2 LamX

section
variable {X : Cx} {G : DX} {E : XK} {O O' O1 O2 : List Nat} {b : Bool} {e e1 e2 e3 tg en ej : Expr} {pos p p2 : Pos} {f f1 f2 f3 : ED} {es : List Expr} {fs : AD}
/-! ### the hand -/
def hndAt (ρ : Env) (i : Nat) : Bool := match ρ[i]? with
  | some (some Slot.hnd) => true
  | _ => false
theorem hndAt_eq {ρ : Env} {i : Nat} (h : hndAt ρ i = true) : ρ[i]? = some (some Slot.hnd) := by
  unfold hndAt at h
  split at h
  · assumption
  · cases h
def dHand (i : Nat) (sel : HS → Int) : ED := fun ρ S => if hndAt ρ i = true then .ok (.int (sel S)) S else .bad
theorem hand_get {ρ : Env} {S : HS} {own : List (Nat × Addr)} {σ : L2.St} {H : Hp} {i : Nat} (r : SR X.K G own σ H ρ S) (h : hndAt ρ i = true) : ∃ hh, G.ha = some hh ∧ σ[i]? = some (some (.ref hh.1)) ∧ H hh.1 = some (.lst (handL hh.2 S)) ∧ H hh.2 = some (.lst (S.rows.map V.int)) ∧ hh.2 ≠ hh.1 := by
  obtain ⟨v, h1, hh, e, rfl⟩ := r.slot _ _ (hndAt_eq h)
  obtain ⟨h2, h3, h4⟩ := r.glob.hand hh e
  exact ⟨hh, e, h1, h2, h3, h4⟩
theorem de_hix {i : Nat} {j : Int} {sel : HS → Int} (hsel : ∀ ar S, atI (handL ar S) j = some (.int (sel S))) (he : PE X en (tVar i)) (hj : PE X ej (tC (.int j))) (hs : PlainIx ej := by intro _ _; rfl) : DE X G E O b (.Subscript en ej pos) (dHand i sel) := by
  refine pe_imp (pe_ix ix_seq he hj hs) fun σ H Q q => ?_
  obtain ⟨ρ, S, own, hO, r, k⟩ := q
  obtain ⟨hb, k⟩ := post_if k
  obtain ⟨hh, e, h1, h2, h3, h4⟩ := hand_get r hb
  exact ⟨_, h1, .inl ⟨_, _, _, _, rfl, rfl, SqL.of h2, hsel hh.2 S, k _ H (Fr.refl _ _) r.glob (.rp (.int _))⟩⟩
def dHRow (i : Nat) (f : ED) : ED := fun ρ S => if hndAt ρ i = true then (f ρ S).bind fun x S => (M.opt (toI x) S).bind fun j S => (M.opt (atI S.rows j) S).bind fun z S => .ok (.int z) S else .bad
theorem atI_map {α β : Type} {g : α → β} {l : List α} {i : Int} {z : α} (h : atI l i = some z) : atI (l.map g) i = some (g z) := by
  unfold atI at h ⊢
  rw [List.length_map]
  cases e : ixN l.length i with
  | none => rw [e] at h; cases h
  | some j =>
    rw [e] at h
    show (l.map g)[j]? = some (g z)
    have h : l[j]? = some z := h
    rw [List.getElem?_map, h]
    rfl
theorem de_hrow {i : Nat} (he : PE X en (tVar i)) (h0 : PE X ej (tC (.int 0))) (h : DE X G E O true e f) (hs0 : PlainIx ej := by intro _ _; rfl) (hs : PlainIx e := by intro _ _; rfl) : DE X G E O b (.Subscript (.Subscript en ej p) e pos) (dHRow i f) := by
  refine pe_imp (pe_ix ix_seq (pe_ix ix_seq he h0 hs0) h hs) fun σ H Q q => ?_
  obtain ⟨ρ, S, own, hO, r, k⟩ := q
  obtain ⟨hb, k⟩ := post_if k
  obtain ⟨hh, e, h1, h2, h3, h4⟩ := hand_get r hb
  refine ⟨_, h1, .inl ⟨_, _, _, .ref hh.2, rfl, rfl, SqL.of h2, rfl, ?_⟩⟩
  refine tE_step hO r (R.post_bind k) fun d1 S1 v1 H1 p1 fr1 r1 rv1 => ?_
  obtain ⟨j, hj, p3⟩ := post_opt (R.post_bind p1)
  obtain ⟨z, hz, p4⟩ := post_opt (R.post_bind p3)
  cases toI_some hj
  obtain ⟨g2, g3, g4⟩ := r1.glob.hand hh e
  exact .inl ⟨hh.2, _, j, .int z, rfl, rv_int rv1, SqL.of g3, atI_map hz, p4 _ H1 fr1 r1.glob (.rp (.int _))⟩
def dHLen (i : Nat) : ED := fun ρ S => if hndAt ρ i = true then .ok (.int S.rows.length) S else .bad
theorem de_hlen {i : Nat} {pp : Pos} (hg : Gl X "len") (hm : X.mg "len" = none) (hv : bootBuiltins "len" = some (.builtin "len")) (he : PE X en (tVar i)) (h0 : PE X ej (tC (.int 0))) (hs0 : PlainIx ej := by intro _ _; rfl) :
    DE X G E O b (.Call (.Name "len" pp) [.Subscript en ej p] [] pos) (dHLen i) := by
  refine pe_imp (pe_callB call_len hg hm hv (pa_cons (pe_ix ix_seq he h0 hs0) pa_nil) (by decide) (by decide)) fun σ H Q q => ?_
  obtain ⟨ρ, S, own, hO, r, k⟩ := q
  obtain ⟨hb, k⟩ := post_if k
  obtain ⟨hh, e, h1, h2, h3, h4⟩ := hand_get r hb
  refine ⟨_, h1, .inl ⟨_, _, _, .ref hh.2, rfl, rfl, SqL.of h2, rfl, ?_⟩⟩
  exact ⟨_, _, rfl, .inl ⟨_, SqL.of h3, rfl⟩, by rw [List.length_map]; exact k _ H (Fr.refl _ _) r.glob (.rp (.int _))⟩
def sHSet (i : Nat) (upS : Int → HS → HS) (f : ED) : SD := fun ρ S => (f ρ S).bind fun x S => (M.opt (toI x) S).bind fun z S => if hndAt ρ i = true then .ok (.nx ρ) (upS z S) else .bad
theorem ds_hset {i : Nat} {j : Int} {jn : Nat} {upS : Int → HS → HS} (hup : ∀ ar S z, (handL ar S).set jn (.int z) = handL ar (upS z S) ∧ (upS z S).rows = S.rows) (hj : ixN 5 j = some jn) (h : DE X G E O true e f) (he : PE X en (tVar i)) (hjj : PE X ej (tC (.int j)))
    (ha : ∀ v, assign (.Subscript en ej p) X.env v = (do
      let ov ← holding [v] (eval en X.env)
      let iv ← holding [v, ov] (eval ej X.env)
      standAt p
      holding [v, ov, iv] (setItem ov iv v)
      release [v, ov, iv] []) := by intro _; rfl)
    (hs : swapsWithSole [.Subscript en ej p] e pos.line X.env = pure false := by rfl) (hw : swappedStores [.Subscript en ej p] e X.env = pure none := by rfl) (h1 : (assignEach [.Subscript en ej p] X.env).map (·.2) = [assign (.Subscript en ej p) X.env] := by rfl) :
    DS X G E O O (.Assign [.Subscript en ej p] e pos) (sHSet i upS f) := by
  refine ps_imp (ps_asg h (pg_sub he hjj set_list ha) hs hw h1) fun D σ H q => ?_
  obtain ⟨ρ, S, own, ho, r, k⟩ := q
  refine tE_step ho r (R.post_imp (R.post_bind k) (fun _ _ z => z) fun _ _ z => z.wh) fun d1 S1 v1 H1 p1 fr1 r1 rv1 => ?_
  obtain ⟨z, hz, p3⟩ := post_opt (R.post_bind p1)
  cases toI_some hz
  obtain ⟨hb, p4⟩ := post_if p3
  obtain ⟨hh, e, h1, h2, h3, h4⟩ := hand_get r1 hb
  refine ⟨_, h1, hh.1, _, j, jn, rfl, rfl, h2, hj, ?_⟩
  rw [rv_int rv1, (hup hh.2 S1 z).1]
  have fr2 : Fr (WH G.ha) H1 (upd H1 hh.1 (.lst (handL hh.2 (upS z S1)))) := (wr_fr h2 rfl).mono fun c hc => ⟨hh, e, hc⟩
  have gl2 : Glob G.ha G.T (upd H1 hh.1 (.lst (handL hh.2 (upS z S1)))) (upS z S1) := by
    refine ⟨fun h' e' => ?_, fun q hq => ?_⟩
    · have : h' = hh := by rw [e] at e'; exact (Option.some.inj e').symm
      subst this
      exact ⟨upd_same, by rw [upd_ne h4, (hup h'.2 S1 z).2]; exact h3, h4⟩
    · obtain ⟨ps, a1, a2, a3⟩ := r1.glob.tabs q hq
      have nt : ∀ c u, H1 c = some u → isMut u = false → c ≠ hh.1 := fun c u e m z => by
        rw [z, h2] at e
        cases e
        cases m
      refine ⟨ps, by rw [upd_ne (nt _ _ a1 rfl)]; exact a1, a2, fun pos cv hc => ?_⟩
      obtain ⟨c, e1, e2⟩ := a3 pos cv hc
      exact ⟨c, e1, by rw [upd_ne (nt _ _ e2 rfl)]; exact e2⟩
  exact p4 σ _ own ho (r1.keep fr2 gl2) ⟨(fr1.trans fr2).wo, fun p hp => .inl ⟨p, hp, rfl⟩⟩

/-! ### x[i] = e, x owned -/
def sSet (i : Nat) (f fi : ED) : SD := fun ρ S => (f ρ S).bind fun x S => (M.opt (lstAt ρ i) S).bind fun ds S => (fi ρ S).bind fun y S => (M.opt (toI y) S).bind fun j S => (M.opt (ixN ds.length j) S).bind fun k S => .ok (.nx (ρ.set i (some (.dat (.list (ds.set k x)))))) S
theorem ds_set {i : Nat} {fi : ED} (hi : i ∈ O) (h : DE X G E O false e f) (he : PE X en (tVar i)) (hj : DE X G E O true ej fi)
    (ha : ∀ v, assign (.Subscript en ej p) X.env v = (do
      let ov ← holding [v] (eval en X.env)
      let iv ← holding [v, ov] (eval ej X.env)
      standAt p
      holding [v, ov, iv] (setItem ov iv v)
      release [v, ov, iv] []) := by intro _; rfl)
    (hs : swapsWithSole [.Subscript en ej p] e pos.line X.env = pure false := by rfl) (hw : swappedStores [.Subscript en ej p] e X.env = pure none := by rfl) (h1 : (assignEach [.Subscript en ej p] X.env).map (·.2) = [assign (.Subscript en ej p) X.env] := by rfl) :
    DS X G E O O (.Assign [.Subscript en ej p] e pos) (sSet i f fi) := by
  refine ps_imp (ps_asg h (pg_sub he hj set_list ha) hs hw h1) fun D σ H q => ?_
  obtain ⟨ρ, S, own, ho, r, k⟩ := q
  refine tE_step ho r (R.post_imp (R.post_bind k) (fun _ _ z => z) fun _ _ z => z.wh) fun d1 S1 v1 H1 p1 fr1 r1 rv1 => ?_
  obtain ⟨ds, hd, p1⟩ := post_opt (R.post_bind p1)
  obtain ⟨a, hm, hσ, ro⟩ := r1.at ho hi (lstAt_some hd)
  refine ⟨_, hσ, ?_⟩
  refine tE_step ho r1 (R.post_imp (R.post_bind p1) (fun _ _ z => z) fun _ _ z => z.wh.mono fr1) fun d2 S2 v2 H2 p2 fr2 r2 rv2 => ?_
  obtain ⟨j, hj, p3⟩ := post_opt (R.post_bind p2)
  obtain ⟨kk, hk, p4⟩ := post_opt (R.post_bind p3)
  cases toI_some hj
  obtain ⟨a1, hm1, hσ1, ro1⟩ := r2.at ho hi (lstAt_some hd)
  have ea : a1 = a := by
    rw [hσ] at hσ1
    cases hσ1
    rfl
  subst ea
  cases ro1 with
  | @lst vs _ q1 l1 =>
    have ap : ∀ c, Acl G own c → ¬ (c = a1) := fun c z e => z.2.2 _ hm1 e
    have rp1 := (rv1.clean).keep fr2 (fun a z => z.2.1.not) fun _ z => z
    have w := r2.write hm1 (lstAt_some hd) (o' := .lst (vs.set kk v1)) (d' := .list (ds.set kk d1)) (.lst upd_same ((l1.set rp1 kk).keep (wr_fr q1 rfl) ap fun _ z => z))
    exact ⟨a1, vs, j, kk, rfl, rv_int rv2, q1, by rw [l1.len]; exact hk, p4 σ _ own ho w.1 (FrS.trans ⟨(fr1.trans fr2).wo, fun p hp => .inl ⟨p, hp, rfl⟩⟩ w.2)⟩
end

/-! ### the law's own def: hand = _law_hand(script), then the rest -/
theorem DE.pr {X : Cx} {G : DX} {E : XK} {O : List Nat} {b : Bool} {e : Expr} {f : ED} (h : DE X G E O b e f) : PE X e (tE X G E O b f) := h
def spLaw (K : PySem.W.Frag) (T : List (Addr × Str)) : Sp := fun vs H Q _ => ∃ (a : Addr) (ns : List Int), vs = [.ref a] ∧ SqL K H a (ns.map V.int) ∧ Tabs T H ∧ ∀ H', Q (.bl true) H'
/-- what the hand's maker gives -/
def handOf : PyData → Option HS
  | .list [.list rows, .int p, .int g, .int m, .int t] => (intsD rows).map fun r => ⟨r, p, g, m, t⟩
  | _ => none
def mLaw (L i : Nat) (mh : List Slot → M PyData) (g : SD) (ns : List Int) : R PyData := match mh [.scr ns] ⟨[], 0, 0, 0, 0⟩ with
  | .ok d S => match handOf d with
    | some S' => (g ((List.replicate L none).set i (some Slot.hnd)) S').bind fun fl S => match fl with
      | .nx _ => .ok .none S
      | .rt d => .ok d S
    | none => .bad
  | _ => .bad
section
variable {P : Program} {w : World} {K : PySem.W.Frag} {mg : Str → Option Value} {base : Heap} {T : List (Addr × Str)}
theorem law_body {st : Stmt} {f fh : Addr} {fdh : FuncData} {N : List Str} {x xh y yh : Str} {cdv : Value} {k L i : Nat} {g : SD} {O' : List Nat} {mh : List Slot → M PyData} {ph pc py pt pos : Pos} {rest : List Stmt}
    {A : Around} {outer : List PySem.Env} {s : Shared} {H : Hp} {vs : List V} {Q : VK} {E : XK}
    (S : FnScope N [y] (defScope st)) (hL : N.length = L) (hi : N[i]? = some x) (h0 : N[0]? = some y) (hi0 : i < L)
    (hb : defBody st = .Assign [.Name x pt] (.Call (.Name xh ph) [.Name y py] [] pc) pos :: rest)
    (Fh : FnG P w K mg base (L2.CX P w) k fh fdh [yh] (spD K mg T 1 mh)) (hmh : mg xh = some (.ref fh)) (hkh : PySem.W.keepIn K (.ref fh) = true) (hbh : L2.Binds K fdh [yh] []) (hgh : (defScope st).names.lookup xh = some .globalImplicit) (hdbx : (xh == ("__debug__" : Str)) = false)
    (hv : Vis (defScope st) y) (hd : (y == ("__debug__" : Str)) = false) (hcd : (y == ("__classdict__" : Str)) = false) (hx : Loc (defScope st) x)
    (hst : ∀ env, starEach [.Name y py] env = (false, eval (.Name y py) env) :: starEach [] env)
    (hs : ∀ (A : Around) (outer : List PySem.Env) (s : Shared) (H : Hp) (E : XK) (t : TE), PE (cxOf (L2.CX P w) P w K mg base N "law" (defScope st) f cdv A outer s H E) (.Call (.Name xh ph) [.Name y py] [] pc) t → PS (cxOf (L2.CX P w) P w K mg base N "law" (defScope st) f cdv A outer s H E) (.Assign [.Name x pt] (.Call (.Name xh ph) [.Name y py] [] pc) pos) (tAsg t (gName i)))
    (hrest : ∀ (A : Around) (outer : List PySem.Env) (s : Shared) (H : Hp) (E : XK) (G : DX), G.T = T → (A.deeper (envOfC "law" (defScope st) s.heap.objs.size f cdv)).guards = some [] → Room k (A.deeper (envOfC "law" (defScope st) s.heap.objs.size f cdv)) →
      DSs (cxOf (L2.CX P w) P w K mg base N "law" (defScope st) f cdv A outer s H E) G Enone [] O' rest g)
    (tr : ∀ ns, (mLaw L i mh g ns).post (fun d _ => d = .bool true) fun _ _ => False) (hgd : (A.deeper (envOfC "law" (defScope st) s.heap.objs.size f cdv)).guards = some []) (hr : Room k (A.deeper (envOfC "law" (defScope st) s.heap.objs.size f cdv))) (h : spLaw K T vs H Q E) :
    ∃ t, PSs (cxOf (L2.CX P w) P w K mg base N "law" (defScope st) f cdv A outer s H E) (defBody st) t ∧ t { nx := fun _ H' => Q .non H', rt := Q } (start N vs) H := by
  · obtain ⟨a, ns, rfl, hsq, hT, q⟩ := h
    rw [hb]
    have Xg : Gl (cxOf (L2.CX P w) P w K mg base N "law" (defScope st) f cdv A outer s H E) xh := hgh
    have pe0 : DE (cxOf (L2.CX P w) P w K mg base N "law" (defScope st) f cdv A outer s H E) ⟨H, fun _ => False, none, T, (0, 0, ""), 0⟩ E [] false (.Call (.Name xh ph) [.Name y py] [] pc) (dCall mh (aScr 0 aNil)) :=
      de_call (p := ph) (pos := pc) Fh hgd hr Xg hmh hkh hbh (takes_of rfl rfl rfl rfl) (dsa_scr 0 (pe_var (X := cxOf (L2.CX P w) P w K mg base N "law" (defScope st) f cdv A outer s H E) (i := 0) h0 hv hd hcd) dsa_nil (hst _)) rfl hdbx (hst _) rfl
    refine ⟨_, pss_cons (hs A outer s H E _ pe0.pr) (u := fun D σ H' => ∃ G : DX, G.T = T ∧ tS (cxOf (L2.CX P w) P w K mg base N "law" (defScope st) f cdv A outer s H E) G Enone [] O' g D σ H') ⟨fun pins s' σ H' D I ⟨G, hG, q⟩ => (hrest A outer s H E G hG hgd hr).run pins s' σ H' D I q⟩, ?_⟩
    have t0 := tr ns
    unfold mLaw at t0
    have sr0 : SR K ⟨H, fun _ => False, none, T, (0, 0, ""), 0⟩ [] (L2.start N [.ref a]) H (some (.scr ns) :: List.replicate (L - 1) none) ⟨[], 0, 0, 0, 0⟩ := by
      have := sr_start (K := K) (T := T) (fn := (0, 0, "")) (ex := 0) (S := ⟨[], 0, 0, 0, 0⟩) (N := N) (H := H) (F := fun _ => False) (ha := none) (vs := [.ref a]) (sl := [.scr ns]) (.cons (.scr rfl hsq) .nil) ⟨fun _ e => (by cases e), hT⟩ (fun _ z => z.elim)
      rw [hL] at this
      exact this
    refine ⟨_, ⟨[], 0, 0, 0, 0⟩, [], rfl, sr0, ?_⟩
    have ev : dCall mh (aScr 0 aNil) (some (Slot.scr ns) :: List.replicate (L - 1) none) ⟨[], 0, 0, 0, 0⟩ = mh [.scr ns] ⟨[], 0, 0, 0, 0⟩ := rfl
    rw [ev]
    cases hm : mh [.scr ns] ⟨[], 0, 0, 0, 0⟩ with
    | bad => rw [hm] at t0; exact t0.elim
    | err c S1 => rw [hm] at t0; exact t0.elim
    | ok d S1 =>
      rw [hm] at t0
      intro v H1 fr1 gl1 rv1
      have rp := rv1.clean
      cases ho : handOf d with
      | none => simp only [ho] at t0; exact t0.elim
      | some S2 =>
        simp only [ho] at t0
        have key : ∃ h1 h2 : Addr, v = .ref h1 ∧ H1 h1 = some (.lst (handL h2 S2)) ∧ H1 h2 = some (.lst (S2.rows.map V.int)) ∧ h2 ≠ h1 := by
          unfold handOf at ho
          split at ho
          · rename_i rows pp gg mm tt
            simp only [Option.map_eq_some_iff] at ho
            obtain ⟨r, er, rfl⟩ := ho
            cases rp with
            | @lst h1 vs _ _ e1 l =>
              cases l with
              | cons a1 l =>
                cases l with
                | cons a2 l =>
                  cases l with
                  | cons a3 l =>
                    cases l with
                    | cons a4 l =>
                      cases l with
                      | cons a5 l =>
                        cases l
                        cases a2; cases a3; cases a4; cases a5
                        cases a1 with
                        | @lst h2 ws _ _ e2 l2 =>
                          have ew := intsD_rp l2 er
                          subst ew
                          refine ⟨h1, h2, rfl, e1, e2, fun z => ?_⟩
                          rw [z, e1] at e2
                          cases r with
                          | nil => cases e2
                          | cons z0 r => cases e2
          · cases ho
        obtain ⟨h1, h2, rfl, e1, e2, ne⟩ := key
        refine ⟨⟨H1, fun _ => False, some (h1, h2), T, (0, 0, ""), 0⟩, rfl, (List.replicate L none).set i (some Slot.hnd), S2, [], rfl, ?_, ?_⟩
        · refine ⟨⟨fun h e => by cases e; exact ⟨e1, e2, ne⟩, gl1.tabs⟩, Fr.refl _ _, ?_, fun j sl e => ?_, fun p hp => (by cases hp), ⟨List.nodup_nil, List.nodup_nil⟩⟩
          · rw [List.length_set, List.length_set, List.length_replicate]
            unfold L2.start
            simp [hL]
            omega
          · by_cases hj : i = j
            · subst hj
              rw [List.getElem?_set_self (by simpa using hi0)] at e
              cases e
              refine ⟨.ref h1, ?_, _, rfl, rfl⟩
              rw [List.getElem?_set_self]
              unfold L2.start
              simp [hL]
              omega
            · rw [List.getElem?_set_ne hj, List.getElem?_replicate] at e
              split at e <;> cases e
        · refine R.post_imp (R.post_bind t0) (fun fl S3 z => ?_) fun _ _ z => z.elim
          cases fl with
          | nx ρ' =>
            have z : PyData.none = .bool true := z
            cases z
          | rt d' =>
            have z : d' = .bool true := z
            subst z
            intro v H' _ _ rp'
            cases rp'
            exact q H'
end
end DL

/-! DL: what is walked (lists, tuples, texts, ranges); max, min, sum, repr. -/
namespace DL
open PySem PySem.Spec PyProof.Rows L2

section
variable {X : Cx} {G : DX} {E : XK} {O O' O1 O2 : List Nat} {b : Bool} {e e1 e2 e3 tg en ej : Expr} {pos p p2 : Pos} {f f1 f2 f3 : ED} {es : List Expr} {fs : AD}
def iAny (K : PySem.W.Frag) (tl : TE) : TI := fun σ H R => tl σ H fun x H1 => (∃ a, x = .ref a ∧ (∃ xs, SqL K H1 a xs) ∧ R (Itl K a) H1) ∨ (∃ a, x = .ref a ∧ (∃ xs, SqT K H1 a xs) ∧ R (Itt K a) H1) ∨ ∃ z, x = .str z ∧ R (Its z) H1
theorem pi_any {l : Expr} {tl : TE} (hl : PE X l tl) : PI X tg l (iAny X.K tl) := by
  refine ⟨fun pins s σ H R I h => ?_⟩
  refine thn (hl.run pins s σ H _ I h) fun v s1 ⟨x, H1, I1, r1, q1⟩ => ?_
  rcases q1 with ⟨a, e, ⟨xs, hq⟩, q⟩ | ⟨a, e, ⟨xs, hq⟩, q⟩ | ⟨z, e, q⟩
  · subst e
    cases r1
    obtain ⟨its, rv, p, hz⟩ := I1.list hq
    refine wpAny_pyIter_list p.isList ?_
    refine ⟨s1.heap.objs.size, [s1.heap.objs.size], _, _, H1, rfl, I1.kept (t' := s1.toks) fun b o e => Heap.get?_push_of_some _ e, turn_list a _, ⟨_, Heap.get?_push_size _ rfl, rfl, rfl⟩, fun b hb => ?_, q⟩
    have e : b = s1.heap.objs.size := by simpa using hb
    subst e
    exact I1.fpOk (Nat.le_refl _) (I1.hok.fresh (Nat.le_refl _))
  · subst e
    cases r1
    obtain ⟨its, rv, p, hz⟩ := I1.tuple hq
    refine wpAny_pyIter_tuple (show s1.heap.IsTuple a its.toArray from p) ?_
    refine ⟨s1.heap.objs.size, [s1.heap.objs.size], _, _, H1, rfl, I1.kept (t' := s1.toks) fun b o e => Heap.get?_push_of_some _ e, turn_tuple a _, ⟨_, Heap.get?_push_size _ rfl, rfl, rfl⟩, fun b hb => ?_, q⟩
    have e : b = s1.heap.objs.size := by simpa using hb
    subst e
    exact I1.fpOk (Nat.le_refl _) (I1.hok.fresh (Nat.le_refl _))
  · subst e
    obtain ⟨t, rfl⟩ := r1
    cases ha : z.cps.all (· < 128)
    · exact wpAny_pyIter_wide ha (pi_one (tk := s1.toks) I1 _ (turn_str _ z t "str_iterator" (.inr rfl)) ⟨_, Heap.get?_push_size _ rfl, rfl, rfl⟩ q)
    · exact wpAny_pyIter_ascii ha (pi_one (tk := s1.toks) I1 _ (turn_str _ z t "str_ascii_iterator" (.inl rfl)) ⟨_, Heap.get?_push_size _ rfl, rfl, rfl⟩ q)
theorem pi_imp {l : Expr} {t t' : TI} (h : PI X tg l t) (hi : ∀ σ H R, t' σ H R → t σ H R) : PI X tg l t' := ⟨fun pins s σ H R I w => h.run pins s σ H R I (hi _ _ _ w)⟩
theorem sql_eq {K : PySem.W.Frag} {H : Hp} {a : Addr} {xs ys : List V} (h : H a = some (.lst xs)) (s : SqL K H a ys) (hk : K.lookup a = none) : ys = xs := by
  rcases s with (s | ⟨o, s⟩) | ⟨o, its, n, s, _⟩
  · rw [h] at s; cases s; rfl
  · rw [h] at s; cases s
  · rw [hk] at s; cases s
def charsD (z : Str) : List PyData := z.cps.toList.map fun c => .str ⟨#[c]⟩
def seqD : PyData → Option (List PyData)
  | .list ds => some ds
  | .tuple ds => some ds
  | .str z => some (charsD z)
  | _ => none
def iSeq (f : ED) : ID := fun ρ S => (f ρ S).bind fun d S => M.opt (seqD d) S
theorem it_list {K : PySem.W.Frag} {A B : Addr → Prop} {H0 : Hp} {a : Addr} {vs : List V} {ds : List PyData} (hB : B a) (h : H0 a = some (.lst vs)) (l : RpL K H0 A vs ds) : ItOk K A B (Itl K a) ds H0 := by
  have at_ : ∀ {H : Hp}, Fr (fun a => ¬ B a) H0 H → H a = some (.lst vs) := fun f => f.keep _ _ h rfl fun _ z => z hB
  refine ⟨fun H i f hi => ?_, fun H H' i x A' hi f tr hy => ?_, fun H f => ⟨vs, SqL.of (at_ f), by rw [l.len]; exact Nat.le_refl _⟩⟩
  · have : i < vs.length := by rw [l.len]; exact hi
    exact ⟨vs, vs[i], SqL.of (at_ f), List.getElem?_eq_getElem this⟩
  · obtain ⟨rfl, hx⟩ := hy
    have hx := hx vs (SqL.of (at_ f))
    obtain ⟨d, h1, h2⟩ := l.getV hx
    exact ⟨Same.refl _, d, h1, tr _ _ h2⟩
theorem it_tup {K : PySem.W.Frag} {A B : Addr → Prop} {H0 : Hp} {a : Addr} {vs : List V} {ds : List PyData} (h : H0 a = some (.tup vs)) (l : RpL K H0 A vs ds) : ItOk K A B (Itt K a) ds H0 := by
  have at_ : ∀ {H : Hp}, Fr (fun a => ¬ B a) H0 H → H a = some (.tup vs) := fun f => f.keep _ _ h rfl fun z => nomatch z
  refine ⟨fun H i f hi => ?_, fun H H' i x A' hi f tr hy => ?_, fun H f => ⟨vs, SqT.of (at_ f), by rw [l.len]; exact Nat.le_refl _⟩⟩
  · have : i < vs.length := by rw [l.len]; exact hi
    exact ⟨vs, vs[i], SqT.of (at_ f), List.getElem?_eq_getElem this⟩
  · obtain ⟨rfl, hx⟩ := hy
    have hx := hx vs (SqT.of (at_ f))
    obtain ⟨d, h1, h2⟩ := l.getV hx
    exact ⟨Same.refl _, d, h1, tr _ _ h2⟩
theorem it_str {K : PySem.W.Frag} {A B : Addr → Prop} {H0 : Hp} {z : Str} : ItOk K A B (Its z) (charsD z) H0 := by
  refine ⟨fun H i f hi => ?_, fun H H' i x A' hi f tr hy => ?_, fun H f => ?_⟩
  · show i < z.cps.size
    simpa [charsD] using hi
  · obtain ⟨rfl, c, hc, rfl⟩ := hy
    exact ⟨Same.refl _, .str ⟨#[c]⟩, by unfold charsD; rw [List.getElem?_map, Array.getElem?_toList, hc]; rfl, .str _⟩
  · show z.cps.size ≤ (charsD z).length
    simp [charsD]
theorem acl_br {own : List (Nat × Addr)} {a : Addr} (h : Acl G own a) : BR G own b a := by
  cases b with
  | true => exact ⟨h.1, h.2.1⟩
  | false => exact h
theorem di_seq (h : DE X G E O b e f) : DI X G E O b tg e (iSeq f) := by
  refine pi_imp (pi_any h) fun σ H RR q => ?_
  obtain ⟨ρ, S, own, ho, r, k⟩ := q
  refine tE_step ho r (R.post_bind k) fun d1 S1 v1 H1 p1 fr1 r1 rv1 => ?_
  obtain ⟨ds, hd, k⟩ := post_opt p1
  unfold seqD at hd
  split at hd
  · cases hd
    cases rv1 with
    | rp h => cases h with
      | @lst a vs _ aa h l => exact .inl ⟨a, rfl, ⟨vs, SqL.of h⟩, k _ H1 fr1 r1.glob (it_list (acl_br aa) h l)⟩
    | @lst a vs _ bb h l => exact .inl ⟨a, rfl, ⟨vs, SqL.of h⟩, k _ H1 fr1 r1.glob (it_list bb h l)⟩
  · cases hd
    obtain ⟨a, vs, rfl, h, l⟩ := rv_tuple rv1
    exact .inr (.inl ⟨a, rfl, ⟨vs, SqT.of h⟩, k _ H1 fr1 r1.glob (it_tup h l)⟩)
  · cases hd
    cases rv_str rv1
    exact .inr (.inr ⟨_, rfl, k _ H1 fr1 r1.glob it_str⟩)
  · cases hd
def rngD (lo : Int) (n : Nat) : List PyData := (List.range n).map fun i => .int (lo + (i : Nat))
theorem it_rng {K : PySem.W.Frag} {A B : Addr → Prop} {H0 : Hp} {lo : Int} {n : Nat} : ItOk K A B (Itr lo n) (rngD lo n) H0 := by
  refine ⟨fun H i f hi => by show i < n; simpa [rngD] using hi, fun H H' i x A' hi f tr hy => ?_, fun H f => by show n ≤ (rngD lo n).length; simp [rngD]⟩
  obtain ⟨rfl, rfl⟩ := hy
  have hi : i < n := by simpa [rngD] using hi
  exact ⟨Same.refl _, .int (lo + i), by unfold rngD; rw [List.getElem?_map, List.getElem?_range hi]; rfl, .int _⟩
def BND (j : Int) : Bool := decide (-4611686018427387904 ≤ j) && decide (j < 4611686018427387904)
theorem BND.ok {j : Int} (h : BND j = true) : -(2 ^ 62) ≤ j ∧ j < 2 ^ 62 := by
  unfold BND at h
  simp only [Bool.and_eq_true, decide_eq_true_eq] at h
  exact ⟨by omega, by omega⟩
def iRg1 (f : ED) : ID := fun ρ S => (f ρ S).bind fun x S => (M.opt (toI x) S).bind fun j S => if BND j = true then .ok (rngD 0 j.toNat) S else .bad
def iRg2 (f g : ED) : ID := fun ρ S => (f ρ S).bind fun x S => (g ρ S).bind fun y S => (M.opt (toI x) S).bind fun i S => (M.opt (toI y) S).bind fun j S => if BND i = true ∧ BND j = true then .ok (rngD i (j - i).toNat) S else .bad
theorem di_rg1 (hg : Gl X "range") (hm : X.mg "range" = none) (h : DE X G E O true e f) (hs : starEach [e] X.env = [(false, eval e X.env)] := by rfl) : DI X G E O b tg (.Call (.Name "range" p) [e] [] pos) (iRg1 f) := by
  refine pi_imp (pi_range1 hg hm (pa_cons h pa_nil hs) hs) fun σ H RR q => ?_
  obtain ⟨ρ, S, own, ho, r, k⟩ := q
  refine tE_step ho r (R.post_bind k) fun d1 S1 v1 H1 p1 fr1 r1 rv1 => ?_
  obtain ⟨j, hj, p2⟩ := post_opt (R.post_bind p1)
  cases toI_some hj
  obtain ⟨hb, p3⟩ := post_if p2
  exact ⟨j, by rw [rv_int rv1], (BND.ok hb).1, (BND.ok hb).2, p3 _ H1 fr1 r1.glob it_rng⟩
theorem di_rg2 (hg : Gl X "range") (hm : X.mg "range" = none) (h1 : DE X G E O true e1 f1) (h2 : DE X G E O true e2 f2) (hs : starEach [e1, e2] X.env = [(false, eval e1 X.env), (false, eval e2 X.env)] := by rfl) (hs2 : starEach [e2] X.env = [(false, eval e2 X.env)] := by rfl) :
    DI X G E O b tg (.Call (.Name "range" p) [e1, e2] [] pos) (iRg2 f1 f2) := by
  refine pi_imp (pi_range2 hg hm (pa_cons h1 (pa_cons h2 pa_nil hs2) (by rw [hs, hs2])) hs hs2) fun σ H RR q => ?_
  obtain ⟨ρ, S, own, ho, r, k⟩ := q
  refine tE_step ho r (R.post_bind k) fun d1 S1 v1 H1 p1 fr1 r1 rv1 => ?_
  refine tE_step ho r1 (R.post_imp (R.post_bind p1) (fun _ _ z => z) fun _ _ z => z.mono fr1) fun d2 S2 v2 H2 p2 fr2 r2 rv2 => ?_
  obtain ⟨i, hi, p3⟩ := post_opt (R.post_bind p2)
  obtain ⟨j, hj, p4⟩ := post_opt (R.post_bind p3)
  cases toI_some hi
  cases toI_some hj
  obtain ⟨⟨hb, hb2⟩, p5⟩ := post_if p4
  exact ⟨i, j, by rw [rv_int rv1, rv_int rv2], ⟨(BND.ok hb).1, (BND.ok hb).2, (BND.ok hb2).1, (BND.ok hb2).2⟩, p5 _ H2 (fr1.trans fr2) r2.glob it_rng⟩

/-! ### max, min, sum -/
def max2D : List PyData → Option PyData
  | [.int i, .int j] => some (.int (if j > i then j else i))
  | _ => none
def min2D : List PyData → Option PyData
  | [.int i, .int j] => some (.int (if j < i then j else i))
  | _ => none
theorem cd_max2 (hc : X.calm = true) : CallR X (.builtin "max") (rCD X.K max2D) := by
  refine callR_imp (call_max2 hc) fun xs H Q ⟨A, B, ds, rv, fa, d, e, q⟩ => ?_
  unfold max2D at e
  split at e
  · cases e
    obtain ⟨v, v', rfl, h, h'⟩ := rvl2 rv
    exact ⟨_, _, by rw [rv_int h, rv_int h'], q _ H (Same.refl H) (.int _)⟩
  · cases e
theorem cd_min2 (hc : X.calm = true) : CallR X (.builtin "min") (rCD X.K min2D) := by
  refine callR_imp (call_min2 hc) fun xs H Q ⟨A, B, ds, rv, fa, d, e, q⟩ => ?_
  unfold min2D at e
  split at e
  · cases e
    obtain ⟨v, v', rfl, h, h'⟩ := rvl2 rv
    exact ⟨_, _, by rw [rv_int h, rv_int h'], q _ H (Same.refl H) (.int _)⟩
  · cases e

/-! ### repr of a list -/
def rprB (d : PyData) : Bool := SeqAt.shaped d && PyData.showable d && decide (d.shown.length ≤ LINE)
def rprD : List PyData → Option PyData
  | [.list ds] => if rprB (.list ds) = true then some (.str (PyData.shown (.list ds))) else none
  | [.tuple ds] => if rprB (.tuple ds) = true then some (.str (PyData.shown (.tuple ds))) else none
  | _ => none
theorem repr_core {pins : List (Addr × Obj)} {s : Shared} {σ : L2.St} {H : Hp} {Q : VK} {A B : Addr → Prop} {d : PyData} {a : Addr} (hg : X.A.guards = some []) (hu : X.A.units + 65 < cLine) (I : Inv X pins σ H s) (rv : Rv X.K H A B (.ref a) d) (hb : rprB d = true)
    (q : Q (.str d.shown) H) : wpAny (model X.prog X.w) X.A (call (.builtin "repr") [.ref a]) (EP X pins σ Q) X.xe s := by
  unfold rprB at hb
  simp only [Bool.and_eq_true, decide_eq_true_eq] at hb
  obtain ⟨⟨h1, h2⟩, h3⟩ := hb
  obtain ⟨as, hr⟩ := Dp.reads I d (.ref a) (.ref a) (rv.dp (SeqAt.canLay_of_shaped h1)) rfl
  have hd := SeqAt.depth_of_shaped h1
  refine repr_of_reads' hr h2 (PyData.noDict_hsm (PyData.hasDict_of_canLay _ (SeqAt.canLay_of_shaped h1))) hg (by omega) (fun _ _ z => z) (fun h' u tk hk => ⟨.str _, H, I.kept (t' := tk) hk, ⟨u, rfl⟩, q⟩) (line_le h3)
theorem cd_repr (hg : X.A.guards = some []) (hu : X.A.units + 65 < cLine) : CallR X (.builtin "repr") (rCD X.K rprD) := by
  intro pins s σ H xs us Q I r ⟨A, B, ds, rv, fa, d, e, q⟩
  unfold rprD at e
  split at e
  · split at e
    · rename_i hb
      cases e
      obtain ⟨v, rfl, h⟩ := rvl1 rv
      obtain ⟨a, vs, rfl, _, _⟩ := rv_list h
      obtain ⟨u, rfl, ru⟩ := vals1 r
      cases (show u = Value.ref a from ru)
      exact repr_core hg hu I h hb (q _ H (Same.refl H) (.str _))
    · cases e
  · split at e
    · rename_i hb
      cases e
      obtain ⟨v, rfl, h⟩ := rvl1 rv
      obtain ⟨a, vs, rfl, _, _⟩ := rv_tuple h
      obtain ⟨u, rfl, ru⟩ := vals1 r
      cases (show u = Value.ref a from ru)
      exact repr_core hg hu I h hb (q _ H (Same.refl H) (.str _))
    · cases e
  · cases e
end
end DL

/-! DL: the end of a law row: a promise that knows that no repr is in the air; tables of code objects. -/
namespace DL
open PySem PySem.Spec PyProof.Rows L2 LamX
section
variable {P : Program} {w : World} {K : PySem.W.Frag} {mg mb : Str → Option Value} {CX : CXT} {k : Nat} {fa a : Addr} {cs : List (Addr × Addr)} {fd : FuncData} {x : Str} {sp : Sp} {st : Shared} {vs : List Value} {ns : List Int}
/-- the empty tables -/
def Empt (cs : List (Addr × Addr)) (h : Heap) : Prop := ∀ q ∈ cs, h.get? q.2 = some { cls := .none, data := .fields #[] }
def tabA (cs : List (Addr × Addr)) (b : Addr) : Prop := b ∈ cs.map (·.2)
theorem Empt.at {h : Heap} (z : Empt cs h) {b : Addr} (hb : tabA cs b) : h.get? b = some { cls := .none, data := .fields #[] } := by
  obtain ⟨q, hq, rfl⟩ := List.mem_map.mp hb
  exact z q hq
/-- what the walk asks of the abstract heap with which it starts -/
structure Ground0 (P : Program) (w : World) (K : PySem.W.Frag) (cs : List (Addr × Addr)) (a : Addr) (h : Heap) (H : Hp) : Prop where
  tb : ∀ q ∈ cs, H q.2 = some (.tbl #[])
  only : ∀ b, H b = none ∨ tabA cs b ∨ ∃ o xs, H b = some (.frz o (.lst xs))
  ok : HOk P w H h
  wh : ∀ b, H b ≠ none → b = a ∨ tabA cs b
  kn : H a ≠ none → K.lookup a = none
theorem run_ground {H : Hp} (KX : K.In st.heap) (hns : st.heap.Ns mainGlobals mg) (hb : st.heap.Ns builtinsNs mb) (hbb : ∀ x : Str, x ≠ "__name__" → mb x = bootBuiltins x) (hlim : st.heap.NoLimit) (hg : st.gens = #[])
    (hT : Empt cs st.heap) (nT : ∀ q ∈ cs, K.lookup q.2 = none) (C : ∀ q ∈ cs, PySem.W.CodeHd st.heap q.1 q.2)
    (hbm : ∃ (bm : Addr) (ob : Obj), mg "__builtins__" = some (.ref bm) ∧ bm ≠ builtinsNs ∧ st.heap.get? bm = some ob ∧ ob.cls = .type "module" ∧ ob.dict = some builtinsNs ∧ ob.data = .plain)
    (ha : st.heap.get? a = some { cls := .type "list", data := .seq vs.toArray }) (hr : Room k callerA)
    (F : ∀ base : Heap, K.In base → base.Ns mainGlobals mg → (∀ q ∈ cs, TabB base mg q.1 q.2) → ∃ fd : FuncData, (∀ (s : Shared) (u : Value), BindsTo s fd ⟨[u], []⟩ [(x, u)]) ∧ FnG P w K mg base CX k fa fd [x] sp)
    (gr : Ground0 P w K cs a st.heap H) (hsp : sp [.ref a] H (fun v _ => v = .bl true) fun _ _ _ => False) (hCX : ∀ e s', CX [] H st (fun _ _ _ => False) e s' → False) :
    codeAny (model P w) callerA (.call (.ref fa) ⟨[.ref a], []⟩) (fun r s' => r = .ok (.ret (.bool true)) ∧ OldK st.heap s'.heap ∧ s'.os = st.os ∧ AllBare s'.gens) st := by
  -- what is neither the script nor a table stands in the base
  have free : ∀ {b : Addr} {o : Obj}, st.heap.get? b = some o → (∀ ys m, o.data ≠ .seq ys m) → o.data ≠ .fields #[] → H b = none := fun {b o} e n1 n2 => by
    rcases Classical.em (H b = none) with z | z
    · exact z
    · rcases gr.wh b z with rfl | hb
      · rw [ha] at e
        cases e
        exact absurd rfl (n1 _ _)
      · rw [hT.at hb] at e
        cases e
        exact absurd rfl n2
  have inB : ∀ {b : Addr} {o : Obj}, st.heap.get? b = some o → H b = none → (hidT st.heap H).get? b = some o := fun e z => hidT_get e z
  have nsB : ∀ {b : Addr} {m : Str → Option Value}, st.heap.Ns b m → (hidT st.heap H).Ns b m := fun {b m} z => by
    obtain ⟨o, es, ep, e, d, rest⟩ := z
    refine ⟨o, es, ep, inB e (free e (fun ys m q => ?_) fun q => ?_), d, rest⟩
    · rw [d] at q; cases q
    · rw [d] at q; cases q
  have kB : K.In (hidT st.heap H) := fun b o e => by
    refine inB (KX b o e) ?_
    rcases Classical.em (H b = none) with z | z
    · exact z
    · rcases gr.wh b z with rfl | hb
      · rw [gr.kn z] at e; cases e
      · obtain ⟨q, hq, rfl⟩ := List.mem_map.mp hb
        rw [nT q hq] at e; cases e
  have modB : L2.Mod K mg (hidT st.heap H) := by
    obtain ⟨mc, c1, c2⟩ := hlim
    exact ⟨kB, nsB hns, ⟨mb, nsB hb, hbb⟩, ⟨mc, nsB c1, c2⟩⟩
  have tabB : ∀ q ∈ cs, TabB (hidT st.heap H) mg q.1 q.2 := fun q hq => by
    have hq0 := hT q hq
    constructor
    · obtain ⟨o, us, file, tf, flags, tg, inF, text, tt, e1, r1, r2, r3, r4, r5, r6, r7, r8, hne⟩ := C q hq
      refine ⟨o, us, file, tf, flags, tg, inF, text, tt, inB e1 (free e1 (fun ys m z => ?_) fun z => ?_), r1, r2, r3, r4, r5, r6, r7, r8, hne⟩
      · rw [r2] at z; cases z
      · rw [r2] at z
        cases z
        simp at r3
    · obtain ⟨bm, ob, b1, b2, b3, b4, b5, b6⟩ := hbm
      refine ⟨bm, ob, b1, b2, fun z => ?_, fun z => ?_, inB b3 (free b3 (fun ys m z => ?_) fun z => ?_), b4, b5, b6⟩
      · obtain ⟨o, es, ep, e, d, _⟩ := hns
        rw [z, e] at b3
        cases b3
        rw [d] at b6
        cases b6
      · rw [z, hq0] at b3
        cases b3
        cases b6
      · rw [b6] at z; cases z
      · rw [b6] at z; cases z
    · intro z
      obtain ⟨o, es, ep, e, d, _⟩ := hns
      rw [z, hq0] at e
      cases e
      cases d
  have env : Env0 P w K mg (hidT st.heap H) callerA [] st H :=
    { frames := rfl, mod := modB, bs := fun b o e => of_hidT e, bsz := Nat.le_of_eq (hidT_size _ _), funs := trivial, frf := fun b z => absurd (show b ∈ ([] : List Addr) from z) (by simp), hok := gr.ok, bare := .of_eq hg }
  obtain ⟨fd, hbind, FF⟩ := F _ kB (nsB hns) tabB
  refine codeAny_mono (FF.run callerA [] st H ⟨[.ref a], []⟩ [.ref a] [.ref a] _ _ rfl hr env (hbind st (.ref a)) (.cons rfl .nil) hsp) fun r s' z => ?_
  match r, z with
  | .error e, z => exact (hCX e s' z).elim
  | .ok .next, z => exact False.elim z
  | .ok .brk, z => exact False.elim z
  | .ok .cont, z => exact False.elim z
  | .ok (.ret u), z =>
    obtain ⟨v, H', os, bare, un, ok', ru, rfl⟩ := z
    obtain rfl : u = Value.bool true := ru
    have same : ∀ b o, ¬ tabA cs b → st.heap.get? b = some o → s'.heap.get? b = some o := fun b o nb e => by
      rcases gr.only b with q | q | ⟨ob, xs, q⟩
      · exact un.keep b o e q (fun z => absurd (show b ∈ ([] : List Addr) from z) (by simp)) (by simp)
      · exact absurd q nb
      · obtain ⟨e1, _⟩ := gr.ok b _ q
        obtain ⟨e2, _⟩ := ok' b _ (un.frzs b ob _ q)
        rw [e] at e1
        cases e1
        exact e2
    have more : ∀ q ∈ cs, ∃ ps : Array Value, s'.heap.get? q.2 = some { cls := .none, data := .fields ps } := fun q hq => by
      obtain ⟨ps, z⟩ := un.tbls q.2 #[] (gr.tb q hq)
      exact ⟨_, ok' q.2 _ z⟩
    refine ⟨rfl, ⟨fun b o e => ?_, fun b o e => ?_⟩, os, bare⟩
    · rcases Classical.em (tabA cs b) with hb | hb
      · obtain ⟨q, hq, rfl⟩ := List.mem_map.mp hb
        obtain ⟨ps, hp⟩ := more q hq
        rw [hT q hq] at e
        cases e
        exact .inr (.inl ⟨((C q hq).tab (hT q hq)).isCodeTable, rfl, #[], ps, rfl, by rw [Array.empty_append]; exact hp⟩)
      · exact .inl (same b o hb e)
    · rcases Classical.em (tabA cs b) with hb | hb
      · obtain ⟨q, hq, rfl⟩ := List.mem_map.mp hb
        obtain ⟨ps, hp⟩ := more q hq
        exact ⟨_, hp⟩
      · exact ⟨o, same b o hb e⟩
/-- which abstract heap it is: the script is the written part's own, or it is told as one that stays -/
theorem ground_of (hT : Empt cs st.heap) (ha : st.heap.get? a = some { cls := .type "list", data := .seq vs.toArray }) (hi : IntsAre vs ns) (hl : ns.length ≤ sizeLine) (KX : K.In st.heap) :
    ∃ H, Ground0 P w K cs a st.heap H ∧ SqL K H a (ns.map V.int) := by
  have rv := vals_ints hi
  have nA : ¬ tabA cs a := fun z => by
    have q := hT.at z
    rw [ha] at q
    have q' : Data.seq vs.toArray _ = Data.fields #[] := congrArg Obj.data (Option.some.inj q)
    cases q'
  have inT : ∀ q ∈ cs, tabA cs q.2 := fun q hq => List.mem_map.mpr ⟨q, hq, rfl⟩
  classical
  cases hk : K.lookup a with
  | some o =>
    have e := KX a o hk
    rw [ha] at e
    cases e
    refine ⟨fun b => if tabA cs b then some (.tbl #[]) else none, ⟨fun q hq => if_pos (inT q hq), fun b => ?_, fun b u z => ?_, fun b z => ?_, fun z => absurd (if_neg nA) z⟩, .inr ⟨_, vs.toArray, _, hk, rfl, rfl, rfl, by rw [List.size_toArray, hi.length]; exact hl, by simpa using rv⟩⟩
    · by_cases hb : tabA cs b
      · exact .inr (.inl hb)
      · exact .inl (if_neg hb)
    · by_cases hb : tabA cs b
      · have z : (if tabA cs b then some (HO.tbl #[]) else none) = some u := z
        rw [if_pos hb] at z
        cases z
        exact hT.at hb
      · have z : (if tabA cs b then some (HO.tbl #[]) else none) = some u := z
        rw [if_neg hb] at z
        cases z
    · by_cases hb : tabA cs b
      · exact .inr hb
      · exact absurd (if_neg hb) z
  | none =>
    have hH : ∀ b, b ≠ a → (if b = a then some (HO.frz { cls := .type "list", data := .seq vs.toArray } (.lst (ns.map V.int))) else if tabA cs b then some (.tbl #[]) else none) = if tabA cs b then some (.tbl #[]) else none := fun b hb => if_neg hb
    refine ⟨fun b => if b = a then some (.frz { cls := .type "list", data := .seq vs.toArray } (.lst (ns.map V.int))) else if tabA cs b then some (.tbl #[]) else none, ⟨fun q hq => ?_, fun b => ?_, fun b u z => ?_, fun b z => ?_, fun _ => hk⟩, .inl (.inr ⟨{ cls := .type "list", data := .seq vs.toArray }, if_pos rfl⟩)⟩
    · exact (hH _ fun z => nA (z ▸ inT q hq)).trans (if_pos (inT q hq))
    · by_cases h1 : b = a
      · exact .inr (.inr ⟨_, _, if_pos h1⟩)
      · by_cases h2 : tabA cs b
        · exact .inr (.inl h2)
        · exact .inl ((hH b h1).trans (if_neg h2))
    · by_cases h1 : b = a
      · have z := (if_pos h1).symm.trans z
        cases z
        subst h1
        exact ⟨ha, by rw [List.length_map]; exact hl, vs, _, rv, ha⟩
      · have z := (hH b h1).symm.trans z
        by_cases h2 : tabA cs b
        · rw [if_pos h2] at z
          cases z
          exact hT.at h2
        · rw [if_neg h2] at z
          cases z
    · by_cases h1 : b = a
      · exact .inl h1
      · by_cases h2 : tabA cs b
        · exact .inr h2
        · exact absurd ((hH b h1).trans (if_neg h2)) z
end
/-- what the head gives of the law -/
def LawG (l : PySem.W.OpenLaw) (w : World) (K : PySem.W.Frag) (k : Nat) (x : Str) (mg : Str → Option Value) (fa : Addr) (h : Heap) : Prop :=
  ∃ (cs : List (Addr × Addr)) (T : List (Addr × Str)), Empt cs h ∧ (∀ q ∈ cs, K.lookup q.2 = none) ∧ (∀ q ∈ cs, PySem.W.CodeHd h q.1 q.2) ∧ (∀ p ∈ T, p.1 ∈ cs.map (·.2)) ∧
    ∀ base : Heap, K.In base → base.Ns mainGlobals mg → (∀ q ∈ cs, TabB base mg q.1 q.2) → ∃ fd : FuncData, (∀ (s : Shared) (u : Value), BindsTo s fd ⟨[u], []⟩ [(x, u)]) ∧ FnG l.prog w K mg base (L2.CX l.prog w) k fa fd [x] (spLaw K T)
theorem walkG {l : PySem.W.OpenLaw} {k : Nat} {q : Program} {loose : List Str} {XP : (Str → Option Value) → Heap → Prop} {YP : World → Heap → Prop} {d : DefRec} {K : Params → PySem.W.Frag} {x : Str}
    (hn : l.most = some 63) (hdf : d.params.defaults = []) (hr : Room k callerA) (hY : ∀ (w : World) (h : Heap), YP w h → (K w.params).In h)
    (F : ∀ (w : World) (mg mb : Str → Option Value) (mean : ExcName → Option Value) (fa : Addr) (h : Heap), YP w h → (K w.params).In h → Top q (PySem.W.looseW q loose) mean mg mb h → mg d.name = some (.ref fa) → LawG l w (K w.params) k x mg fa h) :
    PySem.W.WalkO q loose XP YP l.row.toRowW d [] (fun f vs => PySem.call f vs) := by
  refine Att.attach_callB hn hdf fun w s₀ s₁ mg mb fa o pm cd doc a vs ns G Y ho hd hcd hmg hobj hints hlen hbits hg => ?_
  have KX := hY w _ Y
  obtain ⟨cs, T, hT, nT, C, hTs, hF⟩ := F w mg mb _ fa _ Y KX G.T hmg
  obtain ⟨H, gr, sq⟩ := ground_of (P := l.prog) (w := w) (K := K w.params) hT hobj hints (Nat.le_trans hlen (by decide)) KX
  refine run_ground KX G.T.g G.T.b G.T.builtins G.T.nolimit hg hT nT C G.T.bmain hobj hr hF gr ⟨a, ns, rfl, sq, fun p hp => ?_, fun _ => rfl⟩ fun e s' z => ?_
  · obtain ⟨p2, h1, h2⟩ := List.mem_map.mp (hTs p hp)
    rw [← h2]
    exact TabS.nil (gr.tb p2 h1)
  · obtain ⟨_, _, _, _, _, _, _, _, _, _, _, _, z⟩ := z
    exact z
end DL

/-! DL: short forms for the printed derivations; what the top has left. -/
namespace DL
open PySem PySem.Spec PyProof.Rows L2 LamX

theorem FnG.mono {P : Program} {w : World} {K : PySem.W.Frag} {mg : Str → Option Value} {base : Heap} {CX : CXT} {j k : Nat} {f : Addr} {fd : FuncData} {ps : List Str} {sp : Sp} (F : FnG P w K mg base CX j f fd ps sp) (h : j ≤ k) : FnG P w K mg base CX k f fd ps sp :=
  ⟨F.len, fun A outer s H args us vs Q E hg hr => F.run A outer s H args us vs Q E hg (hr.mono h)⟩
theorem hu65 {k : Nat} {A : Around} (r : Room k A) : A.units + 65 < cLine := by have := r.un; omega
theorem hu64 {k : Nat} {A : Around} (r : Room k A) : A.units + 64 < cLine := by have := r.un; omega
theorem hu1 {k : Nat} {A : Around} (r : Room k A) : A.units + 1 < cLine := by have := r.un; omega
/-- a def of the module as the top has left it; c: its code object -/
def DefC (K : PySem.W.Frag) (mg : Str → Option Value) (x : Str) (st : Stmt) (c : Addr) : Prop :=
  ∃ (f : Addr) (oc : Value) (od : Option Addr) (kV doc pm : Value) (an : Option Addr) (ct : Value) (osl : Array (Option Value)),
    mg x = some (.ref f) ∧ PySem.W.keepIn K (.ref f) = true ∧ K.lookup f = some ⟨oc, od, .func (PySem.W.fnOf x x (defArgs st) (defBody st) (defScope st) .none kV doc pm an (.ref c) ct), osl⟩ ∧ PySem.W.codeIn K (.ref c) x = true
theorem mkDef {K : PySem.W.Frag} {h : Heap} {mg : Str → Option Value} {x : Str} {st : Stmt} {c f : Addr} {oc : Value} {od : Option Addr} {kV doc pm : Value} {an : Option Addr} {ct : Value} {osl : Array (Option Value)} (X : K.In h) (G : h.Ns mainGlobals mg)
    (a : PySem.W.nsIn K mainGlobals x = some (some (.ref f))) (l : K.lookup f = some ⟨oc, od, .func (PySem.W.fnOf x x (defArgs st) (defBody st) (defScope st) .none kV doc pm an (.ref c) ct), osl⟩) (cc : PySem.W.codeIn K (.ref c) x = true) (k : PySem.W.keepIn K (.ref f) = true) : DefC K mg x st c :=
  ⟨f, oc, od, kV, doc, pm, an, ct, osl, PySem.W.mg_of X G a, k, l, cc⟩
/-- a def that keeps the promise of its mirror -/
def Fok (P : Program) (w : World) (K : PySem.W.Frag) (mg : Str → Option Value) (base : Heap) (T : List (Addr × Str)) (k : Nat) (x : Str) (ps : List Str) (n : Nat) (m : List Slot → M PyData) : Prop :=
  ∃ (f : Addr) (fd : FuncData), mg x = some (.ref f) ∧ PySem.W.keepIn K (.ref f) = true ∧ Binds K fd ps [] ∧ FnG P w K mg base (L2.CX P w) k f fd ps (spD K mg T n m)
section
variable {P : Program} {w : World} {K : PySem.W.Frag} {mg : Str → Option Value} {base : Heap} {T : List (Addr × Str)}
theorem fok_of {x : Str} {st : Stmt} {c : Addr} {N ps : List Str} {k n L : Nat} {g : SD} {O' : List Nat} (D : DefC K mg x st c) (S : FnScope N ps (defScope st)) (hn : ps.length = n) (hL : N.length = L)
    (hb : ∀ (kV doc pm : Value) (an : Option Addr) (ct : Value) (us : List Value), us.length = ps.length → bindArgs (PySem.W.fnOf x x (defArgs st) (defBody st) (defScope st) .none kV doc pm an (.ref c) ct) ⟨us, []⟩ = pure (ps.zip us))
    (hbody : ∀ (f : Addr) (A : Around) (outer : List PySem.Env) (s : Shared) (H : Hp) (E : XK) (G : DX), G.T = T → (A.deeper (envOfC x (defScope st) s.heap.objs.size f (.ref c))).guards = some [] → Room k (A.deeper (envOfC x (defScope st) s.heap.objs.size f (.ref c))) →
      DSs (cxOf (L2.CX P w) P w K mg base N x (defScope st) f (.ref c) A outer s H E) G E [] O' (defBody st) g) : Fok P w K mg base T (k + 1) x ps n (mRun L g) := by
  obtain ⟨f, oc, od, kV, doc, pm, an, ct, osl, hmg, hk, l, cc⟩ := D
  refine ⟨f, _, hmg, hk, .all (hb kV doc pm an ct), ?_⟩
  refine ⟨fun vs H Q E h => ?_, fun A outer s H args us vs Q E hgd hr e0 hbd r h => ?_⟩
  · obtain ⟨_, _, _, _, h, _⟩ := h
    rw [h, hn]
  · have hlen0 : vs.length = ps.length := by
      obtain ⟨_, _, _, _, h, _⟩ := h
      rw [h, hn]
    refine LamX.run_ofS l cc S hr e0 hbd r hlen0 fun hr' => ?_
    obtain ⟨Fs, ha, S0, sl, hlen, ar, gl, hF, p⟩ := h
    refine ⟨_, hbody f A outer s H E ⟨H, Fs, ha, T, (0, 0, ""), 0⟩ rfl hgd hr', ?_⟩
    refine ⟨_, S0, [], rfl, sr_start ar gl hF, ?_⟩
    rw [hL]
    have p' := R.post_bind p
    refine R.post_imp p' (fun fl S1 q => ?_) fun c S1 q cls dd H' m fr gl' => q cls dd H' m (fr.mono fun a z => ?_) gl'
    · cases fl with
      | nx ρ => exact fun σ' H' own' _ r' fr => q .non H' (fr.fr.mono fun a z => z.elim id fun ⟨p, hp, _⟩ => by cases hp) r'.glob .non
      | rt d => exact fun v H' fr gl' rp => q v H' (fr.mono fun a z => z.elim id fun ⟨p, hp, _⟩ => by cases hp) gl' rp
    · exact z.elim id fun ⟨p, hp, _⟩ => by cases hp
/-- the law itself -/
theorem law_of {st : Stmt} {c : Addr} {N : List Str} {x xh y yh : Str} {k kh L i : Nat} {g : SD} {O' : List Nat} {mh : List Slot → M PyData} {ph pc py pt pos : Pos} {rest : List Stmt}
    (D : DefC K mg "law" st c) (S : FnScope N [y] (defScope st)) (hL : N.length = L) (hi : N[i]? = some x) (h0 : N[0]? = some y) (hi0 : i < L)
    (hbn : ∀ (kV doc pm : Value) (an : Option Addr) (ct : Value) (u : Value), bindArgs (PySem.W.fnOf "law" "law" (defArgs st) (defBody st) (defScope st) .none kV doc pm an (.ref c) ct) ⟨[u], []⟩ = pure [(y, u)])
    (hb : defBody st = .Assign [.Name x pt] (.Call (.Name xh ph) [.Name y py] [] pc) pos :: rest)
    (Fh : Fok P w K mg base T kh xh [yh] 1 mh) (hkk : kh ≤ k) (hgh : (defScope st).names.lookup xh = some .globalImplicit) (hdbx : (xh == ("__debug__" : Str)) = false)
    (hv : Vis (defScope st) y) (hd : (y == ("__debug__" : Str)) = false) (hcd : (y == ("__classdict__" : Str)) = false) (hx : Loc (defScope st) x)
    (hst : ∀ env, starEach [.Name y py] env = (false, eval (.Name y py) env) :: starEach [] env)
    (hs : ∀ (f : Addr) (A : Around) (outer : List PySem.Env) (s : Shared) (H : Hp) (E : XK) (t : TE), PE (cxOf (L2.CX P w) P w K mg base N "law" (defScope st) f (.ref c) A outer s H E) (.Call (.Name xh ph) [.Name y py] [] pc) t → PS (cxOf (L2.CX P w) P w K mg base N "law" (defScope st) f (.ref c) A outer s H E) (.Assign [.Name x pt] (.Call (.Name xh ph) [.Name y py] [] pc) pos) (tAsg t (gName i)))
    (hrest : ∀ (f : Addr) (A : Around) (outer : List PySem.Env) (s : Shared) (H : Hp) (E : XK) (G : DX), G.T = T → (A.deeper (envOfC "law" (defScope st) s.heap.objs.size f (.ref c))).guards = some [] → Room k (A.deeper (envOfC "law" (defScope st) s.heap.objs.size f (.ref c))) →
      DSs (cxOf (L2.CX P w) P w K mg base N "law" (defScope st) f (.ref c) A outer s H E) G Enone [] O' rest g)
    (tr : ∀ ns, (mLaw L i mh g ns).post (fun d _ => d = .bool true) fun _ _ => False) :
    ∃ (f : Addr) (fd : FuncData), mg "law" = some (.ref f) ∧ (∀ (s : Shared) (u : Value), BindsTo s fd ⟨[u], []⟩ [(y, u)]) ∧ FnG P w K mg base (L2.CX P w) (k + 1) f fd [y] (spLaw K T) := by
  obtain ⟨f, oc, od, kV, doc, pm, an, ct, osl, hmg, hk, l, cc⟩ := D
  obtain ⟨fh, fdh, mgh, kh1, bh, Fh⟩ := Fh
  refine ⟨f, _, hmg, fun s u => .of_eq (hbn kV doc pm an ct u), ?_⟩
  refine ⟨fun vs H Q E h => ?_, fun A outer s H args us vs Q E hgd hr e0 hbd r h => ?_⟩
  · obtain ⟨_, _, h, _⟩ := h
    rw [h]; rfl
  · have hlen0 : vs.length = [y].length := by
      obtain ⟨_, _, h, _⟩ := h
      rw [h]; rfl
    refine LamX.run_ofS l cc S hr e0 hbd r hlen0 fun hr' => ?_
    exact law_body (f := f) (cdv := .ref c) S hL hi h0 hi0 hb (Fh.mono hkk) mgh kh1 bh hgh hdbx hv hd hcd hx hst (hs f) (hrest f) tr hgd hr' h
end
end DL

/-! DL: short forms for the printed derivations. -/
namespace DL
open PySem PySem.Spec PyProof.Rows L2 LamX

/-! ### errors of the program's own -/
structure ExF (K : PySem.W.Frag) (mg : Str → Option Value) (x : Str) (C fI : Addr) : Prop where
  g : mg x = some (.ref C)
  ox : OexC K C
  ic : PySem.W.findIn K (.ref C) "__init__" = some (some (.ref fI))
  ti : PySem.W.typeIn K (.ref fI) = some (.type "function")
  ec : ExcC K C
theorem mkEx {K : PySem.W.Frag} {h : Heap} {mg : Str → Option Value} {x : Str} {C fI N : Addr} {nm q : Str} {bs bm : List Value} {sn : List Str} {sub : List Value} {ab : Bool} {col : Option Bool} {dd : Option Addr} {k0 k1 k2 k3 k5 : Option Value} (X : K.In h) (G : h.Ns mainGlobals mg)
    (a : PySem.W.nsIn K mainGlobals x = some (some (.ref C)))
    (xL : K.lookup C = some (excClassObj nm q C N bs bm true sn sub ab col dd k0 k1 k2 k3 k5 "ValueError.__new__")) (bb : PySem.HandSPX.refsVE bm = true)
    (sa : PySem.W.findIn K (.ref C) "__setattr__" = some (some (.builtin "object.__setattr__"))) (ga : PySem.W.findIn K (.ref C) "__getattribute__" = some (some (.builtin "BaseException.__getattribute__"))) (gg : PySem.W.findIn K (.ref C) "__getattr__" = some none)
    (i1 : PySem.W.findIn K (.ref C) "__init__" = some (some (.ref fI))) (t1 : PySem.W.typeIn K (.ref fI) = some (.type "function")) (kC : PySem.W.keepIn K (.ref C) = true) (eC : PySem.W.subIn K (.ref C) (.type "BaseException") = some true) (tC : PySem.W.typeIn K (.ref C) = some (.type "type"))
    (hd : PySem.W.hasDictIn K C = true) (ca : PySem.W.findIn K (.ref C) "__class__" = some (some (.builtin "object.__class__"))) (cn : PySem.W.specialIn K (.builtin "object.__class__") "__get__" = some (some (.builtin "getset_descriptor.__get__"))) (ct : PySem.W.takesIn K (.builtin "object.__class__") = some true)
    (mo : PySem.W.mroIn K C (.type "object") = some true) : ExF K mg x C fI :=
  ⟨PySem.W.mg_of X G a, ⟨⟨nm, q, N, bs, bm, sn, sub, ab, col, dd, k0, k1, k2, k3, k5, xL, bb⟩, sa, eC, tC, kC⟩, i1, t1, ⟨ga, gg, eC, hd, ca, cn, ct, mo⟩⟩
/-- __init__ at fI -/
def InitAt (K : PySem.W.Frag) (qual : Str) (st : Stmt) (fI : Addr) : Prop := ∃ (fd : FuncData), Fun K "__init__" qual st fI fd
theorem mkInit {K : PySem.W.Frag} {qual : Str} {st : Stmt} {f : Addr} {oc : Value} {od an : Option Addr} {osl : Array (Option Value)} {kV doc pm cdv ct : Value} (l : K.lookup f = some ⟨oc, od, .func (PySem.W.fnOf "__init__" qual (defArgs st) (defBody st) (defScope st) .none kV doc pm an cdv ct), osl⟩)
    (c : PySem.W.codeIn K cdv qual = true) (k : PySem.W.keepIn K (.ref f) = true) : InitAt K qual st f := ⟨_, fun_mk l c k⟩
def InitOk (P : Program) (w : World) (K : PySem.W.Frag) (mg : Str → Option Value) (base : Heap) (fI : Addr) : Prop := ∃ fd : FuncData, Binds K fd ["self"] [] ∧ FnOk P w K mg base (L2.CX P w) 1 fI fd ["self"] (spInit0 K)
section
variable {X : Cx} {G : DX} {E : XK} {O O' O1 O2 vs : List Nat} {b : Bool} {e e1 e2 e3 tg en ej : Expr} {pos p p2 : Pos} {f f1 f2 f3 : ED} {es : List Expr} {fs : AD}
theorem ds_rz {k0 : Nat} {x : Str} {C fI : Addr} {p pos pos2 : Pos} (F : ExF X.K X.mg x C fI) (I : InitOk X.prog X.w X.K X.mg X.base fI) (tk : Takes X fun cls d _ H => E cls d H) (hr : Room k0 X.A) (hc : X.calm = true := by rfl) (hk : 2 ≤ k0 := by decide) (hg : Gl X x := by rfl) (hdb : (x == ("__debug__" : Str)) = false := by decide) :
    DS X G E O O' (.Raise (some (.Call (.Name x p) [] [] pos)) none pos2) (sRaise x) := by
  obtain ⟨fd, hb, F1⟩ := I
  exact ds_raise hc tk (pmk_ex0 F.ox F.ic F.ti F1 (hr.mono hk) hb (fun pins σ H s e s2 I c => by obtain ⟨_, _, _, _, _, _, _, _, _, _, _, _, z⟩ := c; exact z.elim) hg F.g hdb) F.g
end
end DL

/-! DL: short forms for the printed derivations, the rest. -/
namespace DL
open PySem PySem.Spec PyProof.Rows L2 LamX

theorem bv_len : bootBuiltins "len" = some (.builtin "len") := by decide +kernel
theorem bv_abs : bootBuiltins "abs" = some (.builtin "abs") := by decide +kernel
theorem bv_all : bootBuiltins "all" = some (.builtin "all") := by decide +kernel
theorem bv_any : bootBuiltins "any" = some (.builtin "any") := by decide +kernel
theorem bv_max : bootBuiltins "max" = some (.builtin "max") := by decide +kernel
theorem bv_min : bootBuiltins "min" = some (.builtin "min") := by decide +kernel
theorem bv_sum : bootBuiltins "sum" = some (.builtin "sum") := by decide +kernel
theorem bv_repr : bootBuiltins "repr" = some (.builtin "repr") := by decide +kernel
theorem bv_sorted : bootBuiltins "sorted" = some (.builtin "sorted") := by decide +kernel
theorem bv_isinstance : bootBuiltins "isinstance" = some (.builtin "isinstance") := by decide +kernel
theorem bv_int : bootBuiltins "int" = some (.type "int") := by decide +kernel
theorem bv_str : bootBuiltins "str" = some (.type "str") := by decide +kernel
theorem bv_bool : bootBuiltins "bool" = some (.type "bool") := by decide +kernel
theorem bv_list : bootBuiltins "list" = some (.type "list") := by decide +kernel
theorem bv_tuple : bootBuiltins "tuple" = some (.type "tuple") := by decide +kernel
theorem bv_dict : bootBuiltins "dict" = some (.type "dict") := by decide +kernel
theorem bv_set : bootBuiltins "set" = some (.type "set") := by decide +kernel
theorem bv_ValueError : bootBuiltins "ValueError" = some (.type "ValueError") := by decide +kernel
section
variable {X : Cx} {G : DX} {E : XK} {O O' O1 O2 vs : List Nat} {b : Bool} {e e1 e2 e3 tg en ej : Expr} {pos p p2 p3 apos cpos : Pos} {f f1 f2 f3 fa : ED} {es : List Expr} {fs : AD} {x : Str}
theorem ev (i : Nat) (hN : X.N[i]? = some x := by rfl) (hv : Vis X.env.scope x := by first | exact Or.inl rfl | exact Or.inr (Or.inl rfl) | exact Or.inr (Or.inr rfl)) (hi : i ∉ O := by decide) (hd : (x == ("__debug__" : Str)) = false := by decide) (hcd : (x == ("__classdict__" : Str)) = false := by decide) :
    DE X G E O b (.Name x pos) (dVar i) := de_var i hi (pe_var hN hv hd hcd)
theorem evb (i : Nat) (hN : X.N[i]? = some x := by rfl) (hv : Vis X.env.scope x := by first | exact Or.inl rfl | exact Or.inr (Or.inl rfl) | exact Or.inr (Or.inr rfl)) (hd : (x == ("__debug__" : Str)) = false := by decide) (hcd : (x == ("__classdict__" : Str)) = false := by decide) :
    DE X G E O true (.Name x pos) (dVar i) := de_varB i (pe_var hN hv hd hcd)
theorem gi {i : Int} (h : ∃ u, X.mg x = some u ∧ RelV (.int i) u) (hg : Gl X x := by rfl) (hd : (x == ("__debug__" : Str)) = false := by decide) : DE X G E O b (.Name x pos) (dLit (.int i)) := by
  obtain ⟨u, hm, r⟩ := h
  exact de_const (pe_glob hg hm r hd) fun _ _ => .int i
theorem gs {i : Str} (h : ∃ u, X.mg x = some u ∧ RelV (.str i) u) (hg : Gl X x := by rfl) (hd : (x == ("__debug__" : Str)) = false := by decide) : DE X G E O b (.Name x pos) (dLit (.str i)) := by
  obtain ⟨u, hm, r⟩ := h
  exact de_const (pe_glob hg hm r hd) fun _ _ => .str i
theorem fnc {k n k0 : Nat} {ps : List Str} {m : List Slot → M PyData} {gs : SAD} (F : Fok X.prog X.w X.K X.mg X.base G.T k x ps n m) (hgd : X.A.guards = some []) (hr : Room k0 X.A) (tk : Takes X fun cls d _ H => E cls d H) (ha : DSA X G E O (e :: es) gs)
    (hk : k ≤ k0 := by decide) (hg : Gl X x := by rfl) (hn : (e :: es).length = n := by rfl) (hdb : (x == ("__debug__" : Str)) = false := by decide) (he : starEach (e :: es) X.env = (false, eval e X.env) :: starEach es X.env := by rfl)
    (hpl : (backTo pos (starEach es X.env)).any (·.1) = false := by rfl) : DE X G E O b (.Call (.Name x p) (e :: es) [] pos) (dCall m gs) := by
  obtain ⟨fa, fd, hm, hkp, hb, F⟩ := F
  exact de_call (F.mono hk) hgd hr hg hm hkp hb tk ha hn hdb he hpl
theorem cb {id : String} {g : List PyData → Option PyData} (hc : CallR X (.builtin id) (rCD X.K g)) (hv : bootBuiltins x = some (.builtin id)) (hm : X.mg x = none) (ha : DA X G E O true (e :: es) fs) (hg : Gl X x := by rfl) (hn : x ≠ "__name__" := by decide) (hdb : (x == ("__debug__" : Str)) = false := by decide)
    (he : starEach (e :: es) X.env = (false, eval e X.env) :: starEach es X.env := by rfl) (hpl : (backTo pos (starEach es X.env)).any (·.1) = false := by rfl) : DE X G E O b (.Call (.Name x p) (e :: es) [] pos) (dCB g fs) := de_callB hc hg hm hv ha hn hdb he hpl
theorem ct {T : String} {g : List PyData → Option PyData} (hc : CallR X (.type T) (rCD X.K g)) (hv : bootBuiltins x = some (.type T)) (hm : X.mg x = none) (ha : DA X G E O true (e :: es) fs) (hg : Gl X x := by rfl) (hn : x ≠ "__name__" := by decide) (hdb : (x == ("__debug__" : Str)) = false := by decide)
    (he : starEach (e :: es) X.env = (false, eval e X.env) :: starEach es X.env := by rfl) (hpl : (backTo pos (starEach es X.env)).any (·.1) = false := by rfl) : DE X G E O b (.Call (.Name x p) (e :: es) [] pos) (dCB g fs) := de_callTy hc hg hm hv ha hn hdb he hpl
theorem isi {T : String} (hm : X.mg "isinstance" = none) (hm2 : X.mg x = none) (hv2 : bootBuiltins x = some (.type T)) (h : DE X G E O true e f) (hg : Gl X "isinstance" := by rfl) (hg2 : Gl X x := by rfl) (hT : T = "int" ∨ T = "bool" ∨ T = "str" ∨ T = "list" ∨ T = "tuple" ∨ T = "dict" := by decide)
    (hn : x ≠ "__name__" := by decide) (hdb : (x == ("__debug__" : Str)) = false := by decide) (he : starEach [e, .Name x p2] X.env = (false, eval e X.env) :: starEach [.Name x p2] X.env := by rfl) : DE X G E O b (.Call (.Name "isinstance" p) [e, .Name x p2] [] pos) (dUn (isiT T) f) :=
  de_isi hT hg hm bv_isinstance h (pe_bltn hg2 hm2 hv2 rfl hn hdb) he
theorem mcount (hu : X.A.units + 65 < cLine) (h : DE X G E O true e f) (ha : DE X G E O true e1 f1) (hs1 : starEach [e1] X.env = (false, eval e1 X.env) :: starEach [] X.env := by rfl) (hbase : attributeBase e "count" X.env (eval e X.env) = eval e X.env := by rfl)
    (hfew : ((backTo cpos (starEach [e1] X.env)).all (fun x => !x.1) && (backToKw cpos (keywordEach [] X.env)).all (fun x => x.1.isSome) && decide ([e1].length + ([] : List Keyword).length + (if ([] : List Keyword).isEmpty then 0 else 1) < 30)) = true := by rfl)
    (hline : (apos.endLine == cpos.line) = true := by rfl) : DE X G E O b (.Call (.Attribute e "count" apos) [e1] [] cpos) (dMt "list" cntD f (dCons f1 dNil)) :=
  de_mt (mt_cntD hu) h (da_cons ha da_nil hs1) fun hm ho ha => pe_bm F.plainAttrs_list F.slot_list_count F.type_list_count hm ho ha hbase hfew hline hs1 rfl
theorem mindex (hu : X.A.units + 65 < cLine) (h : DE X G E O true e f) (ha : DE X G E O true e1 f1) (hs1 : starEach [e1] X.env = (false, eval e1 X.env) :: starEach [] X.env := by rfl) (hbase : attributeBase e "index" X.env (eval e X.env) = eval e X.env := by rfl)
    (hfew : ((backTo cpos (starEach [e1] X.env)).all (fun x => !x.1) && (backToKw cpos (keywordEach [] X.env)).all (fun x => x.1.isSome) && decide ([e1].length + ([] : List Keyword).length + (if ([] : List Keyword).isEmpty then 0 else 1) < 30)) = true := by rfl)
    (hline : (apos.endLine == cpos.line) = true := by rfl) : DE X G E O b (.Call (.Attribute e "index" apos) [e1] [] cpos) (dMt "list" idxD f (dCons f1 dNil)) :=
  de_mt (mt_idxD hu) h (da_cons ha da_nil hs1) fun hm ho ha => pe_bm F.plainAttrs_list F.slot_list_index F.type_list_index hm ho ha hbase hfew hline hs1 rfl
/-! targets -/
theorem tn (i : Nat) (nd : X.N.Nodup) (hi : X.N[i]? = some x := by rfl) (hx : Loc X.env.scope x := by first | exact Or.inl rfl | exact Or.inr rfl) (hv : i ∈ vs := by decide) (hO : O' = O.filter (fun j => decide (j ≠ i)) := by rfl)
    (hf : X.fn x = true ∨ X.env.scope.names.lookup x = some .local := by first | exact .inl rfl | exact .inr rfl) : DG X G O O' vs (.Name x pos) (gN i) := dg_name hv hO (pg_name nd hi hx hf)
theorem gname (i : Nat) (nd : X.N.Nodup) (hi : X.N[i]? = some x := by rfl) (hx : Loc X.env.scope x := by first | exact Or.inl rfl | exact Or.inr rfl)
    (hf : X.fn x = true ∨ X.env.scope.names.lookup x = some .local := by first | exact .inl rfl | exact .inr rfl) : PG X (.Name x pos) (gName i) := pg_name nd hi hx hf
theorem asg1 {φ : TGD} (vs : List Nat) (h : DE X G E O false e f) (hg : DG X G O O' vs tg φ) (hs : swapsWithSole [tg] e pos.line X.env = pure false := by rfl) (hw : swappedStores [tg] e X.env = pure none := by rfl)
    (h1 : (assignEach [tg] X.env).map (·.2) = [assign tg X.env] := by rfl) : DS X G E O O' (.Assign [tg] e pos) (sAsg (xOf f) φ) := ds_asg (dex_of h) hg hs hw h1
/-- y = [.. for ..] of one line, kept as data -/
theorem asgLc {i : Nat} {y : Str} {py spos : Pos} {iter elt : Expr} {ifs : List Expr} {scope : Scope} {own : List (Str × Nat)} {φ : TGD} {c : BD} {fi : ID} (q : Nat) (hq : 1000 ≤ q) (hqO : q ∉ O) (hvs : own.map (·.2) = vs) (hO : O' = O.filter (fun j => decide (j ≠ i)))
    (hc : X.calm = true) (hN : X.N.Nodup) (hy : X.N[i]? = some y) (hyl : X.env.scope.names.lookup y = some .local) (hsw : swapsWith (.ListComp elt [⟨tg, iter, ifs, 0⟩] scope pos) (some (.Name y py)) spos.line X.env = pure true)
    (hi : DI X G E O true tg iter fi) (ok : BlkOk X.N X.env.scope scope own)
    (hg : ∀ (s : Shared) (H : Hp) (C : Addr) (cl : List (Str × Addr)) (fp : List Addr), DG (X.blk s H scope (compEnvC scope cl C X.env) fp) G (q :: O) (q :: O) vs tg φ)
    (ht : ∀ (s : Shared) (H : Hp) (C : Addr) (cl : List (Str × Addr)) (fp : List Addr), DTs (X.blk s H scope (compEnvC scope cl C X.env) fp) G Enone (q :: O) ifs c)
    (he : ∀ (s : Shared) (H : Hp) (C : Addr) (cl : List (Str × Addr)) (fp : List Addr), DE (X.blk s H scope (compEnvC scope cl C X.env) fp) G Enone (q :: O) false elt f)
    (hs : ∀ x, foldedSetIterable iter X.env x = pure x := by intro _; rfl) : DS X G E O O' (.Assign [.Name y py] (.ListComp elt [⟨tg, iter, ifs, 0⟩] scope pos) spos) (sAsg (xOf (dComp vs φ c f fi)) (gN i)) := by
  refine ps_imp (ps_setLc (g := tG X G (q :: O) (q :: O) vs φ) (tt := tB X G Enone (q :: O) c) (te := tE X G Enone (q :: O) false f) hc hN hy hyl hsw hi ok hg ht he hs) fun D σ H w => lc_imp q hq hqO hvs ?_
  obtain ⟨ρ, S, own0, ho, r, k⟩ := w
  refine ⟨ρ, S, own0, ho, r, R.post_imp (R.post_bind (R.post_bind k)) (fun d S1 p a H1 fr gl ha h0 hn ro => ?_) fun _ _ z => z.wh⟩
  have rp := (ro.mono fun _ z => z.1).rp ha
  have r1 := r.keep fr gl
  refine p _ H1 (drop own0 i) (by rw [drop_fst, ho, hO]) ((r1.give i).store not_mem_drop (rp.mono fun _ => acl_drop)) ⟨fr.wo, fun p hp => .inl ⟨p, (mem_drop.mp hp).1, rfl⟩⟩
theorem sw1 {elt : Expr} {gs : List Comprehension} {scope : Scope} {pos py : Pos} {y : Str} {l : Nat} {env : PySem.Env} (hk : env.scope.kind = .function := by rfl) (hy : env.scope.names.lookup y = some .local := by rfl) (hl : (py.line == pos.line) = true := by rfl)
    (ha : (scope.names.any fun (n, k) => n == y && (k == .local || k == .cell)) = false := by rfl) : swapsWith (.ListComp elt gs scope pos) (some (.Name y py)) l env = pure true := sw_true hk hy hl ha
end
end DL

/-! DL: the script's slice; the def that is handed a lambda, by name. -/
namespace DL
open PySem PySem.Spec PyProof.Rows L2 LamX
def suiteOf : Stmt → List Stmt
  | .Try _ (.ExceptHandler _ _ b _ :: _) _ _ _ => b
  | _ => []
section
variable {X : Cx} {G : DX} {E : XK} {O O' O1 O2 vs : List Nat} {b : Bool} {e e1 e2 e3 tg en ej : Expr} {pos p p2 p3 apos cpos : Pos} {f f1 f2 f3 fa : ED} {es : List Expr} {fs : AD} {x : Str}
def dScr (i n : Nat) : ED := fun ρ S => match ρ[i]? with
  | some (some (Slot.scr l)) => .ok (.list ((l.take n).map PyData.int)) S
  | _ => .bad
theorem ints_rp {K : PySem.W.Frag} {H : Hp} {A : Addr → Prop} : ∀ l : List Int, RpL K H A (l.map V.int) (l.map PyData.int)
  | [] => .nil
  | z :: l => .cons (.int z) (ints_rp l)
theorem de_scr {i n : Nat} {z : Int} (hz : z = n) (he : PE X en (tVar i)) (hj : PE X ej (tC (.int z))) : DE X G E O b (.Subscript en (.Slice none (some ej) none p2) pos) (dScr i n) := by
  subst hz
  refine pe_imp (pe_slice sl_list he po_none (po_some hj)) fun σ H Q q => ?_
  obtain ⟨ρ, S, own, hO, r, k⟩ := q
  unfold dScr at k
  split at k
  · rename_i l hd
    obtain ⟨v, h1, hn, a, rfl, sq⟩ := r.slot _ _ hd
    have nw : ¬ WH G.ha a := fun ⟨h, z, _⟩ => by rw [hn] at z; cases z
    refine ⟨_, h1, _, rfl, a, _, rfl, sql_fr sq r.frm nw, fun p hp => ?_⟩
    have ec : cutV (l.map V.int) none (some (n : Int)) = (l.take n).map V.int := by
      unfold cutV
      rw [HT.sIx_none, HT.sIx_nat, List.length_map, Nat.sub_zero, List.drop_zero, ← List.map_take]
      congr 1
      by_cases h : n ≤ l.length
      · rw [Nat.min_eq_left h]
      · rw [Nat.min_eq_right (by omega), List.take_of_length_le (Nat.le_refl _), List.take_of_length_le (by omega)]
    rw [ec]
    exact k _ _ (.of_same (upd_same_of hp)) (r.glob.same (upd_same_of hp)) (.rp (Rp.newL hp (r.free hp) (ints_rp _)))
  · exact k.elim
/-- a def that calls what it was handed, within a try -/
def SaidOk (P : Program) (w : World) (K : PySem.W.Frag) (mg : Str → Option Value) (base : Heap) (T : List (Addr × Str)) (c : Addr) (x a : Str) (st : Stmt) (Ng : List Str) (k : Nat) (gs : M Unit → SD) : Prop :=
  ∃ O2, ∀ (g : Addr) (A : Around) (outer : List PySem.Env) (s : Shared) (H : Hp) (G' : DX) (mc : M Unit), G'.T = T → (A.deeper (envOfC x (defScope st) s.heap.objs.size g (.ref c))).guards = some [] → Room k (A.deeper (envOfC x (defScope st) s.heap.objs.size g (.ref c))) →
    ActOk (cxOf C8.CX0 P w K mg base Ng x (defScope st) g (.ref c) A outer s H C8.E0).nox G' mc a → DSs (cxOf C8.CX0 P w K mg base Ng x (defScope st) g (.ref c) A outer s H C8.E0).nox G' Enone [] O2 (defBody st) (gs mc)
theorem said {c : Addr} {a : Str} {st : Stmt} {Ng : List Str} {k k0 L : Nat} {gs : M Unit → SD} {params : Arguments} {body : Expr} {scope : Scope} {lpos : Pos} (D : DefC X.K X.mg x st c) (SO : SaidOk X.prog X.w X.K X.mg X.base G.T c x a st Ng (k + 1) gs) (Sg : FnScope Ng [a] (defScope st))
    (hb : ∀ (kV doc pm : Value) (an : Option Addr) (ct : Value) (us : List Value), us.length = [a].length → bindArgs (PySem.W.fnOf x x (defArgs st) (defBody st) (defScope st) .none kV doc pm an (.ref c) ct) ⟨us, []⟩ = pure ([a].zip us))
    (hNg : Ng[0]? = some a) (hva : Vis (defScope st) a) (hL : Ng.length = L) (hL0 : 0 < L) (lm : LamMade X params body scope lpos G.T) (Ls : LamS2 X.N X.env.scope scope) (hgd : X.A.guards = some []) (hr : Room k0 X.A)
    (hbody : ∀ (A : Around) (outer : List PySem.Env) (s : Shared) (H : Hp) (E : XK) (f' c' : Addr), (A.deeper (lamEnv X scope s.heap.objs.size f' c')).guards = some [] → Room k (A.deeper (lamEnv X scope s.heap.objs.size f' c')) → DE (lamCx X A outer s H E scope f' c') G E O true body f)
    (hk : k + 2 ≤ k0 := by decide) (hg : Gl X x := by rfl) (hdb : (x == ("__debug__" : Str)) = false := by decide) (hd : (a == ("__debug__" : Str)) = false := by decide) (hcd : (a == ("__classdict__" : Str)) = false := by decide) :
    DE X G E O b (.Call (.Name x p) [.Lambda params body scope lpos] [] pos) (dSaid L gs f) := by
  obtain ⟨fd, oc, od, kV, doc, pm, an, ct, osl, hmg, hkp, l, cc⟩ := D
  obtain ⟨O2, SO⟩ := SO
  exact de_said (O2 := O2) hg hmg hkp l cc (.all (hb kV doc pm an ct)) Sg hNg hva hL hL0 lm hgd (hr.mono hk) Ls (fun s H G' mc hT act hr' => SO fd X.A X.stack s H G' mc hT hgd hr' act) hbody hdb hd hcd
end
theorem lawG_of {l : PySem.W.OpenLaw} {w : World} {K : PySem.W.Frag} {k : Nat} {x : Str} {mg : Str → Option Value} {fa : Addr} {h : Heap} {cs : List (Addr × Addr)} {T : List (Addr × Str)} (hfa : mg "law" = some (.ref fa)) (h1 : Empt cs h) (h2 : ∀ q ∈ cs, K.lookup q.2 = none) (h3 : ∀ q ∈ cs, PySem.W.CodeHd h q.1 q.2) (h4 : ∀ p ∈ T, p.1 ∈ cs.map (·.2))
    (F : ∀ base : Heap, K.In base → base.Ns mainGlobals mg → (∀ q ∈ cs, TabB base mg q.1 q.2) → ∃ (f : Addr) (fd : FuncData), mg "law" = some (.ref f) ∧ (∀ (s : Shared) (u : Value), BindsTo s fd ⟨[u], []⟩ [(x, u)]) ∧ FnG l.prog w K mg base (L2.CX l.prog w) k f fd [x] (spLaw K T)) : LawG l w K k x mg fa h :=
  ⟨cs, T, h1, h2, h3, h4, fun base b1 b2 b3 => by
    obtain ⟨f, fd, hm, hb, FF⟩ := F base b1 b2 b3
    rw [hfa] at hm
    cases hm
    exact ⟨fd, hb, FF⟩⟩
theorem tabIn_of {K : PySem.W.Frag} {x : Str} {f c P : Addr} {oc occ : Value} {od odc : Option Addr} {fd : FuncData} {osl osc : Array (Option Value)} {vs : Array Value} (a : PySem.W.nsIn K mainGlobals x = some (some (.ref f))) (l : K.lookup f = some ⟨oc, od, .func fd, osl⟩) (hc : fd.code = .ref c)
    (lc : K.lookup c = some ⟨occ, odc, .fields vs, osc⟩) (hv : (vs[11]? : Option Value) = some (.ref P)) : PySem.W.tabIn K x = some (c, P) := by
  unfold PySem.W.tabIn
  rw [a]
  simp only [l, hc, lc, hv]
end DL

namespace DL
open PySem PySem.Spec PyProof.Rows L2 LamX
def m__law_hand : List Slot → M PyData := mRun 3
  (sSeq (sAsg (xOf (dComp [2] (gN 2) bYes (dCB absD (dCons (dCB intD (dCons (dVar 2) dNil)) dNil)) (iSeq (dScr 0 63)))) (gN 1))
  (sRet (dLst (dCons (dVar 1) (dCons (dLit (.int 0)) (dCons (dLit (.int 0)) (dCons (dBin addD (dLit (.int 83)) (dBin mulD (dLit (.int 5)) (dCB lenD (dCons (dVar 1) dNil)))) (dCons (dLit (.int 0)) dNil))))))))
def m_is_tuple : List Slot → M PyData := mRun 2
  (sRet ((dAnd (dUn (isiT "tuple") (dVar 0)) (dBin eqD (dCB lenD (dCons (dVar 0) dNil)) (dVar 1)))))
def m_is_integer : List Slot → M PyData := mRun 1
  (sRet ((dAnd (dUn (isiT "int") (dVar 0)) (dNot (dUn (isiT "bool") (dVar 0))))))
def m_is_within : List Slot → M PyData := mRun 3
  (sRet ((dAnd (dCall m_is_integer (aCons (dVar 0) aNil)) (dChain leD leD (dVar 1) (dVar 0) (dVar 2)))))
def m_is_size : List Slot → M PyData := mRun 2
  (sRet ((dAnd (dCall m_is_tuple (aCons (dVar 0) (aCons (dLit (.int 2)) aNil))) (dCB allD (dCons ((dComp [1] (gN 1) bYes (dCall m_is_within (aCons (dVar 1) (aCons (dLit (.int 1)) (aCons (dLit (.int 60)) aNil)))) (iSeq (dVar 0)))) dNil)))))
def m_check_size : List Slot → M PyData := mRun 1
  (sSeq (sIf (bNot (bOf (dCall m_is_size (aCons (dVar 0) aNil))))
  (sRaise "NoSize")
  sNil)
  sNil)
def m_fits : List Slot → M PyData := mRun 2
  (sSeq (sDrop (dCall m_check_size (aCons (dVar 0) aNil)))
  (sSeq (sDrop (dCall m_check_size (aCons (dVar 1) aNil)))
  (sRet ((dOr ((dAnd (dBin leD (dBin ixD (dVar 0) (dLit (.int 0))) (dBin ixD (dVar 1) (dLit (.int 0)))) (dBin leD (dBin ixD (dVar 0) (dLit (.int 1))) (dBin ixD (dVar 1) (dLit (.int 1)))))) ((dAnd (dBin leD (dBin ixD (dVar 0) (dLit (.int 1))) (dBin ixD (dVar 1) (dLit (.int 0)))) (dBin leD (dBin ixD (dVar 0) (dLit (.int 0))) (dBin ixD (dVar 1) (dLit (.int 1)))))))))))
def m_grid_many : List Slot → M PyData := mRun 2
  (sSeq (sDrop (dCall m_check_size (aCons (dVar 0) aNil)))
  (sSeq (sDrop (dCall m_check_size (aCons (dVar 1) aNil)))
  (sRet (dBin mulD (dBin divD (dBin ixD (dVar 0) (dLit (.int 0))) (dBin ixD (dVar 1) (dLit (.int 0)))) (dBin divD (dBin ixD (dVar 0) (dLit (.int 1))) (dBin ixD (dVar 1) (dLit (.int 1))))))))
def m_grain_many : List Slot → M PyData := mRun 2
  (sRet (dTup (dCons (dCall m_grid_many (aCons (dVar 0) (aCons (dVar 1) aNil))) (dCons (dCall m_grid_many (aCons (dVar 0) (aCons (dIf (bOf (dCall m_is_size (aCons (dVar 1) aNil))) (dTup (dCons (dBin ixD (dVar 1) (dLit (.int 1))) (dCons (dBin ixD (dVar 1) (dLit (.int 0))) dNil))) (dVar 1)) aNil))) dNil))))
def m__law_is_right : List Slot → M PyData := mRun 6
  (sSeq (sAsg (xOf (dVar 0)) (gT 2 (gC (gN 2) (gC (gN 3) gZ))))
  (sSeq (sAsg (xOf (dBin mulD (dBin divD (dVar 2) (dBin ixD (dVar 1) (dLit (.int 0)))) (dBin divD (dVar 3) (dBin ixD (dVar 1) (dLit (.int 1)))))) (gN 4))
  (sSeq (sAsg (xOf (dBin mulD (dBin divD (dVar 2) (dBin ixD (dVar 1) (dLit (.int 1)))) (dBin divD (dVar 3) (dBin ixD (dVar 1) (dLit (.int 0)))))) (gN 5))
  (sSeq (sIf (bOf (dBin neD (dLst (dCons (dCall m_grid_many (aCons (dVar 0) (aCons (dVar 1) aNil))) (dCons (dCall m_grid_many (aCons (dVar 0) (aCons (dVar 1) aNil))) dNil))) (dLst (dCons (dVar 4) (dCons (dVar 4) dNil)))))
  (sRet (dLit (.bool false)))
  sNil)
  (sSeq (sIf (bOf (dBin neD (dLst (dCons (dCB tupleD (dCons (dCall m_grain_many (aCons (dVar 0) (aCons (dVar 1) aNil))) dNil)) (dCons (dCB tupleD (dCons (dCall m_grain_many (aCons (dVar 0) (aCons (dVar 1) aNil))) dNil)) dNil))) (dLst (dCons (dTup (dCons (dVar 4) (dCons (dVar 5) dNil))) (dCons (dTup (dCons (dVar 4) (dCons (dVar 5) dNil))) dNil)))))
  (sRet (dLit (.bool false)))
  sNil)
  (sSeq (sIf (bOf (dBin neD (dCB rprD (dCons (dLst (dCons (dCall m_fits (aCons (dVar 1) (aCons (dVar 0) aNil))) (dCons (dCall m_fits (aCons (dVar 1) (aCons (dVar 0) aNil))) dNil))) dNil)) (dCB rprD (dCons (dLst (dCons (dBin gtD (dBin addD (dVar 4) (dVar 5)) (dLit (.int 0))) (dCons (dBin gtD (dBin addD (dVar 4) (dVar 5)) (dLit (.int 0))) dNil))) dNil))))
  (sRet (dLit (.bool false)))
  sNil)
  (sSeq (sIf (bOf (dBin gtD (dBin mulD (dBin mulD (dCB max2D (dCons (dVar 4) (dCons (dVar 5) dNil))) (dBin ixD (dVar 1) (dLit (.int 0)))) (dBin ixD (dVar 1) (dLit (.int 1)))) (dBin mulD (dVar 2) (dVar 3))))
  (sRet (dLit (.bool false)))
  sNil)
  (sRet ((dAnd (dBin eqD (dCall m_grid_many (aCons (dTup (dCons (dVar 3) (dCons (dVar 2) dNil))) (aCons (dTup (dCons (dBin ixD (dVar 1) (dLit (.int 1))) (dCons (dBin ixD (dVar 1) (dLit (.int 0))) dNil))) aNil))) (dVar 4)) (dBin isD (dCall m_is_size (aCons (dVar 0) aNil)) (dLit (.bool true)))))))))))))
def m__law_draw : List Slot → M PyData := mRun 5
  (sSeq (sIf ((bAnd (bOf (dBin eqD (dHand 0 HS.gr) (dLit (.int 0)))) (bOf (dBin ltD (dHand 0 HS.pos) (dHLen 0)))))
  (sSeq (sAsg (xOf (dHRow 0 (dHand 0 HS.pos))) (gN 2))
  (sSeq (sHSet 0 (fun z S => { S with pos := z }) (dBin addD (dHand 0 HS.pos) (dLit (.int 1))))
  (sSeq (sHSet 0 (fun z S => { S with mix := z }) (dBin modD (dCB intD (dCons (dBin addD (dBin addD (dBin mulD (dHand 0 HS.mix) (dLit (.int 69621))) (dBin mulD (dVar 2) (dLit (.int 40692)))) (dLit (.int 17))) dNil)) (dLit (.int 2147483629))))
  (sSeq (sIf (bOf (dBin geD (dVar 2) (dBin powD (dLit (.int 10)) (dLit (.int 18)))))
  (sSeq (sHSet 0 (fun z S => { S with gr := z }) (dVar 2))
  sNil)
  sNil)
  sNil))))
  sNil)
  (sSeq (sIf (bOf (dBin gtD (dHand 0 HS.gr) (dLit (.int 0))))
  (sSeq (sAsg (xOf (dBin modD (dCB intD (dCons (dHand 0 HS.gr) dNil)) (dVar 1))) (gN 3))
  (sSeq (sHSet 0 (fun z S => { S with gr := z }) (dBin divD (dHand 0 HS.gr) (dVar 1)))
  (sRet (dVar 3))))
  sNil)
  (sSeq (sHSet 0 (fun z S => { S with met := z }) (dBin addD (dHand 0 HS.met) (dLit (.int 1))))
  (sSeq (sAsg (xOf (dBin modD (dCB intD (dCons (dBin mulD (dCB intD (dCons (dBin addD (dHand 0 HS.mix) (dBin mulD (dLit (.int 7919)) (dHand 0 HS.met))) dNil)) (dLit (.int 48271))) dNil)) (dLit (.int 2147483647)))) (gN 4))
  (sSeq (sAsg (xOf (dBin modD (dCB intD (dCons (dBin mulD (dVar 4) (dBin addD (dBin divD (dVar 4) (dLit (.int 1009))) (dLit (.int 69621)))) dNil)) (dLit (.int 2147483647)))) (gN 4))
  (sSeq (sAsg (xOf (dBin modD (dCB intD (dCons (dBin mulD (dVar 4) (dBin addD (dBin divD (dVar 4) (dLit (.int 2003))) (dLit (.int 40014)))) dNil)) (dLit (.int 2147483563)))) (gN 4))
  (sRet (dBin modD (dCB intD (dCons (dBin divD (dVar 4) (dLit (.int 16))) dNil)) (dVar 1)))))))))
def m__law_any : List Slot → M PyData := mRun 2
  (sRet (dBin ixD (dVar 1) (dCall m__law_draw (aHand 0 (aCons (dCB lenD (dCons (dVar 1) dNil)) aNil)))))
def m__law_deep : List Slot → M PyData := mRun 3
  (sSeq (sAsg (xOf (dCall m__law_any (aHand 0 (aCons (dLst (dCons (dLit (.str "?")) (dCons (dLit (.str "X x")) dNil))) aNil)))) (gN 1))
  (sSeq (sFor (iRg1 (dBin addD (dLit (.int 5)) (dCall m__law_draw (aHand 0 (aCons (dLit (.int 8)) aNil))))) (gN 2)
  (sSeq (sAsg (xOf (dIf (bOf (dBin eqD (dCall m__law_draw (aHand 0 (aCons (dLit (.int 2)) aNil))) (dLit (.int 0)))) (dLst (dCons (dVar 1) dNil)) (dTup (dCons (dVar 1) dNil)))) (gN 1))
  sNil))
  (sRet (dVar 1))))
def m__law_no_size : List Slot → M PyData := mRun 2
  (sSeq (sAsg (xOf (dLst (dCons (dLit .none) (dCons (dTup dNil) (dCons (dTup (dCons (dLit (.int 5)) dNil)) (dCons (dLst (dCons (dLit (.int 5)) (dCons (dLit (.int 5)) dNil))) (dCons (dTup (dCons (dLit (.int 0)) (dCons (dLit (.int 5)) dNil))) (dCons (dTup (dCons (dLit (.int 61)) (dCons (dLit (.int 5)) dNil))) (dCons (dTup (dCons (dLit (.int 5)) (dCons (dLit (.bool true)) dNil))) (dCons (dTup (dCons (dLit (.str "5")) (dCons (dLit (.int 5)) dNil))) (dCons (dLit (.int 5)) (dCons (dLit (.str "x")) (dCons (dLit (.dict [])) (dCons (dTup (dCons (dLit (.int 5)) (dCons (dLit (.int 5)) (dCons (dLit (.int 5)) dNil)))) (dCons (dTup (dCons (dLit (.int 5)) (dCons (dUn negD (dLit (.int 1))) dNil))) dNil))))))))))))))) (gN 1))
  (sRet (dCall m__law_any (aHand 0 (aCons (dBin addD (dVar 1) (dLst (dCons (dCall m__law_deep (aHand 0 aNil)) dNil))) aNil)))))
def su_NoSize : SD :=
  (sSeq (sIf (bNot (bOf (dIsE 1 true)))
  (sRet (dLit (.str "other")))
  sNil)
  (sSeq (sAsg (xOf (dLst (dCons (dIsE 1 true) dNil))) (gN 2))
  (sRet (dIf (bOf (dBin eqD (dMt "list" cntD (dVar 2) (dCons (dLit (.bool true)) dNil)) (dLit (.int 1)))) (dBin ixD (dLst (dCons (dLit (.str "size")) dNil)) (dMt "list" idxD (dVar 2) (dCons (dLit (.bool true)) dNil))) (dLit (.str "other"))))))
def suS : Str → SD := fun c => if c = "NoSize" then su_NoSize else sNil
theorem suS_NoSize : suS "NoSize" = su_NoSize := by
  unfold suS
  simp
def g__law_said : M Unit → SD := fun mc =>
  (sSeq (sTry 1 ["NoSize"] mc suS)
  (sRet (dLit (.str "let"))))
def m__law_size : List Slot → M PyData := mRun 2
  (sRet (dTup (dCons (dBin addD (dLit (.int 1)) (dCall m__law_draw (aHand 0 (aCons (dVar 1) aNil)))) (dCons (dBin addD (dLit (.int 1)) (dCall m__law_draw (aHand 0 (aCons (dVar 1) aNil)))) dNil))))
def g_law : SD :=
  (sSeq (sIf ((bOr (bOf (dBin neD (dCall m_grid_many (aCons (dTup (dCons (dLit (.int 10)) (dCons (dLit (.int 7)) dNil))) (aCons (dTup (dCons (dLit (.int 3)) (dCons (dLit (.int 2)) dNil))) aNil))) (dLit (.int 9)))) (bOf (dBin neD (dCB tupleD (dCons (dCall m_grain_many (aCons (dTup (dCons (dLit (.int 10)) (dCons (dLit (.int 7)) dNil))) (aCons (dTup (dCons (dLit (.int 3)) (dCons (dLit (.int 2)) dNil))) aNil))) dNil)) (dTup (dCons (dLit (.int 9)) (dCons (dLit (.int 10)) dNil)))))))
  (sRet (dLit (.bool false)))
  sNil)
  (sSeq (sIf (bOf (dBin isNotD (dCall m_fits (aCons (dTup (dCons (dLit (.int 2)) (dCons (dLit (.int 5)) dNil))) (aCons (dTup (dCons (dLit (.int 5)) (dCons (dLit (.int 2)) dNil))) aNil))) (dLit (.bool true))))
  (sRet (dLit (.bool false)))
  sNil)
  (sSeq (sIf ((bOr (bOf (dBin isNotD (dCall m_fits (aCons (dTup (dCons (dLit (.int 6)) (dCons (dLit (.int 1)) dNil))) (aCons (dTup (dCons (dLit (.int 5)) (dCons (dLit (.int 5)) dNil))) aNil))) (dLit (.bool false)))) (bOf (dBin neD (dCB tupleD (dCons (dCall m_grain_many (aCons (dTup (dCons (dLit (.int 1)) (dCons (dLit (.int 1)) dNil))) (aCons (dTup (dCons (dLit (.int 2)) (dCons (dLit (.int 1)) dNil))) aNil))) dNil)) (dTup (dCons (dLit (.int 0)) (dCons (dLit (.int 0)) dNil)))))))
  (sRet (dLit (.bool false)))
  sNil)
  (sSeq (sFor (iRg1 (dLit (.int 10))) (gN 2)
  (sSeq (sIf (bNot (bOf (dCall m__law_is_right (aCons (dCall m__law_size (aHand 1 (aCons (dLit (.int 60)) aNil))) (aCons (dCall m__law_size (aHand 1 (aCons (dCall m__law_any (aHand 1 (aCons (dLst (dCons (dLit (.int 6)) (dCons (dLit (.int 60)) dNil))) aNil))) aNil))) aNil)))))
  (sRet (dLit (.bool false)))
  sNil)
  (sSeq (sPar [4, 5, 6] (dCons (dCall m__law_no_size (aHand 1 aNil)) (dCons (dCall m__law_no_size (aHand 1 aNil)) (dCons (dTup (dCons (dLit (.int 5)) (dCons (dLit (.int 5)) dNil))) dNil))))
  (sSeq (sAsg (xOf (dLst (dCons (dSaid 3 g__law_said (dCall m_grid_many (aCons (dVar 4) (aCons (dVar 6) aNil)))) (dCons (dSaid 3 g__law_said (dCall m_grid_many (aCons (dVar 6) (aCons (dVar 5) aNil)))) dNil)))) (gN 3))
  (sSeq (sAsg (xOf (dBin addD (dVar 3) (dLst (dCons (dSaid 3 g__law_said (dCall m_grain_many (aCons (dVar 4) (aCons (dVar 5) aNil)))) (dCons (dSaid 3 g__law_said (dCall m_fits (aCons (dVar 4) (aCons (dVar 6) aNil)))) dNil))))) (gN 3))
  (sSeq (sIf ((bOr (bOf (dBin neD (dVar 3) (dBin mulD (dLst (dCons (dLit (.str "size")) dNil)) (dLit (.int 4))))) (bOf (dBin isNotD (dCall m_is_size (aCons (dVar 4) aNil)) (dLit (.bool false))))))
  (sRet (dLit (.bool false)))
  sNil)
  sNil))))))
  (sRet (dLit (.bool true)))))))
def t_law (ns : List Int) : R PyData := mLaw 7 1 m__law_hand g_law ns
end DL

namespace DL
open PySem PySem.Spec PyProof.Rows L2 LamX
/-- the i-th statement of the program -/
def top (i : Nat) : Stmt := PySem.Challenge.pw_printyard_k50_whole_pieces_in_rows_on_sh.main.body.getD i (.Pass ⟨0, 0, 0, 0⟩)
structure Bts (mg : Str → Option Value) : Prop where
  n_ValueError : mg "ValueError" = none
  n_abs : mg "abs" = none
  n_all : mg "all" = none
  n_bool : mg "bool" = none
  n_int : mg "int" = none
  n_isinstance : mg "isinstance" = none
  n_len : mg "len" = none
  n_max : mg "max" = none
  n_range : mg "range" = none
  n_repr : mg "repr" = none
  n_tuple : mg "tuple" = none
structure Cst (mg : Str → Option Value) : Prop where
  c_MOST_SIDE : ∃ u, mg "MOST_SIDE" = some u ∧ RelV (V.int 60) u
theorem sc__law_hand : FnScope (["script", "seed_rows", "cell"]) (["script"]) (defScope (top 15)) := C8.fnScope_by (by decide +kernel)
theorem ok__law_hand {P : Program} {w : World} {K : PySem.W.Frag} {mg : Str → Option Value} {base : Heap} {T : List (Addr × Str)} {c : Addr} (D : DefC K mg "_law_hand" (top 15) c) (B : Bts mg) (Z : Cst mg)  : Fok P w K mg base T 1 "_law_hand" ["script"] 1 m__law_hand := by
  refine fok_of (N := ["script", "seed_rows", "cell"]) (L := 3) (n := 1) (k := 0) (O' := []) D sc__law_hand rfl rfl (fun _ _ _ _ _ us hl => match us, hl with | [_], _ => rfl) ?_
  intro f A outer s H E G hG hgd hr
  subst hG
  have nd := sc__law_hand.nd
  exact (dss_cons (asgLc (i := 1) (vs := [2]) (own := [("cell", 2)]) 2000 (by decide) (by decide) rfl rfl rfl nd rfl rfl sw1 (di_seq (de_scr (z := 63) rfl (pv 0) pe_int)) (blkOk_by (by kernel_rfl)) (fun _ _ _ _ _ => (tn 2 nd)) (fun _ _ _ _ _ => dts_nil) (fun _ _ _ _ _ => (cb cd_abs bv_abs B.n_abs (da_cons (ct cd_int bv_int B.n_int (da_cons (ev 2) da_nil)) da_nil))))
  (dss_one (ds_ret (de_lst (da_cons (ev 1) (da_cons (de_int) (da_cons (de_int) (da_cons (de_bin od_add (de_int) (de_bin od_mul (de_int) (cb cd_len bv_len B.n_len (da_cons (ev 1) da_nil)))) (da_cons (de_int) da_nil)))))))))
theorem sc_is_tuple : FnScope (["thing", "size"]) (["thing", "size"]) (defScope (top 6)) := C8.fnScope_by (by decide +kernel)
theorem ok_is_tuple {P : Program} {w : World} {K : PySem.W.Frag} {mg : Str → Option Value} {base : Heap} {T : List (Addr × Str)} {c : Addr} (D : DefC K mg "is_tuple" (top 6) c) (B : Bts mg) (Z : Cst mg)  : Fok P w K mg base T 1 "is_tuple" ["thing", "size"] 2 m_is_tuple := by
  refine fok_of (N := ["thing", "size"]) (L := 2) (n := 2) (k := 0) (O' := []) D sc_is_tuple rfl rfl (fun _ _ _ _ _ us hl => match us, hl with | [_, _], _ => rfl) ?_
  intro f A outer s H E G hG hgd hr
  subst hG
  have nd := sc_is_tuple.nd
  exact (dss_one (ds_ret ((de_and (isi B.n_isinstance B.n_tuple bv_tuple (ev 0)) (de_one (de_cmp (od_eq (hu64 hr)) (cb cd_len bv_len B.n_len (da_cons (ev 0) da_nil)) (ev 1) (by rfl)))))))
theorem sc_is_integer : FnScope (["thing"]) (["thing"]) (defScope (top 4)) := C8.fnScope_by (by decide +kernel)
theorem ok_is_integer {P : Program} {w : World} {K : PySem.W.Frag} {mg : Str → Option Value} {base : Heap} {T : List (Addr × Str)} {c : Addr} (D : DefC K mg "is_integer" (top 4) c) (B : Bts mg) (Z : Cst mg)  : Fok P w K mg base T 1 "is_integer" ["thing"] 1 m_is_integer := by
  refine fok_of (N := ["thing"]) (L := 1) (n := 1) (k := 0) (O' := []) D sc_is_integer rfl rfl (fun _ _ _ _ _ us hl => match us, hl with | [_], _ => rfl) ?_
  intro f A outer s H E G hG hgd hr
  subst hG
  have nd := sc_is_integer.nd
  exact (dss_one (ds_ret ((de_and (isi B.n_isinstance B.n_int bv_int (ev 0)) (de_one (de_not (isi B.n_isinstance B.n_bool bv_bool (ev 0))))))))
theorem sc_is_within : FnScope (["thing", "least", "most"]) (["thing", "least", "most"]) (defScope (top 5)) := C8.fnScope_by (by decide +kernel)
theorem ok_is_within {P : Program} {w : World} {K : PySem.W.Frag} {mg : Str → Option Value} {base : Heap} {T : List (Addr × Str)} {c : Addr} (D : DefC K mg "is_within" (top 5) c) (B : Bts mg) (Z : Cst mg) (f_is_integer : Fok P w K mg base T 1 "is_integer" ["thing"] 1 m_is_integer) : Fok P w K mg base T 2 "is_within" ["thing", "least", "most"] 3 m_is_within := by
  refine fok_of (N := ["thing", "least", "most"]) (L := 3) (n := 3) (k := 1) (O' := []) D sc_is_within rfl rfl (fun _ _ _ _ _ us hl => match us, hl with | [_, _, _], _ => rfl) ?_
  intro f A outer s H E G hG hgd hr
  subst hG
  have nd := sc_is_within.nd
  exact (dss_one (ds_ret ((de_and (fnc f_is_integer hgd hr (takes_of rfl rfl rfl rfl) (dsa_cons (ev 0) dsa_nil)) (de_one (de_chain od_le od_le (ev 1) (ev 0) (ev 2)))))))
theorem sc_is_size : FnScope (["thing", "one"]) (["thing"]) (defScope (top 9)) := C8.fnScope_by (by decide +kernel)
theorem ok_is_size {P : Program} {w : World} {K : PySem.W.Frag} {mg : Str → Option Value} {base : Heap} {T : List (Addr × Str)} {c : Addr} (D : DefC K mg "is_size" (top 9) c) (B : Bts mg) (Z : Cst mg) (f_is_within : Fok P w K mg base T 2 "is_within" ["thing", "least", "most"] 3 m_is_within) (f_is_tuple : Fok P w K mg base T 1 "is_tuple" ["thing", "size"] 2 m_is_tuple) : Fok P w K mg base T 3 "is_size" ["thing"] 1 m_is_size := by
  refine fok_of (N := ["thing", "one"]) (L := 2) (n := 1) (k := 2) (O' := []) D sc_is_size rfl rfl (fun _ _ _ _ _ us hl => match us, hl with | [_], _ => rfl) ?_
  intro f A outer s H E G hG hgd hr
  subst hG
  have nd := sc_is_size.nd
  exact (dss_one (ds_ret ((de_and (fnc f_is_tuple hgd hr (takes_of rfl rfl rfl rfl) (dsa_cons (ev 0) (dsa_cons (de_int) dsa_nil))) (de_one (cb (cd_all rfl) bv_all B.n_all (da_cons (df_de (df_lc (vs := [1]) (own := [("one", 1)]) 2000 (by decide) (by decide) rfl rfl nd (di_seq (ev 0)) (blkOk_by (by kernel_rfl)) (fun _ _ _ _ _ => (tn 1 nd)) (fun _ _ _ _ _ => dts_nil) (fun _ _ _ _ _ => (fnc f_is_within hgd hr LamX.takes0 (dsa_cons (ev 1) (dsa_cons (de_int) (dsa_cons (gi Z.c_MOST_SIDE) dsa_nil))))))) da_nil)))))))
theorem sc_check_size : FnScope (["thing"]) (["thing"]) (defScope (top 10)) := C8.fnScope_by (by decide +kernel)
theorem ok_check_size {P : Program} {w : World} {K : PySem.W.Frag} {mg : Str → Option Value} {base : Heap} {T : List (Addr × Str)} {c : Addr} {fI : Addr} {C_NoSize : Addr} (D : DefC K mg "check_size" (top 10) c) (B : Bts mg) (Z : Cst mg) (f_is_size : Fok P w K mg base T 3 "is_size" ["thing"] 1 m_is_size) (F_NoSize : ExF K mg "NoSize" C_NoSize fI) (I0 : InitOk P w K mg base fI) : Fok P w K mg base T 4 "check_size" ["thing"] 1 m_check_size := by
  refine fok_of (N := ["thing"]) (L := 1) (n := 1) (k := 3) (O' := []) D sc_check_size rfl rfl (fun _ _ _ _ _ us hl => match us, hl with | [_], _ => rfl) ?_
  intro f A outer s H E G hG hgd hr
  subst hG
  have nd := sc_check_size.nd
  exact (dss_cons (ds_if (dt_not (dt_val (fnc f_is_size hgd hr (takes_of rfl rfl rfl rfl) (dsa_cons (ev 0) dsa_nil))))
  (dss_one (ds_rz F_NoSize I0 (takes_of rfl rfl rfl rfl) hr))
  (dss_nil [] rfl))
  (dss_nil [] rfl))
theorem sc_fits : FnScope (["piece", "sheet"]) (["piece", "sheet"]) (defScope (top 13)) := C8.fnScope_by (by decide +kernel)
theorem ok_fits {P : Program} {w : World} {K : PySem.W.Frag} {mg : Str → Option Value} {base : Heap} {T : List (Addr × Str)} {c : Addr} (D : DefC K mg "fits" (top 13) c) (B : Bts mg) (Z : Cst mg) (f_check_size : Fok P w K mg base T 4 "check_size" ["thing"] 1 m_check_size) : Fok P w K mg base T 5 "fits" ["piece", "sheet"] 2 m_fits := by
  refine fok_of (N := ["piece", "sheet"]) (L := 2) (n := 2) (k := 4) (O' := []) D sc_fits rfl rfl (fun _ _ _ _ _ us hl => match us, hl with | [_, _], _ => rfl) ?_
  intro f A outer s H E G hG hgd hr
  subst hG
  have nd := sc_fits.nd
  exact (dss_cons (ds_expr (fnc f_check_size hgd hr (takes_of rfl rfl rfl rfl) (dsa_cons (ev 0) dsa_nil)))
  (dss_cons (ds_expr (fnc f_check_size hgd hr (takes_of rfl rfl rfl rfl) (dsa_cons (ev 1) dsa_nil)))
  (dss_one (ds_ret ((de_or ((de_and (de_cmp od_le (de_ix (ev 0) (de_int)) (de_ix (ev 1) (de_int)) (by rfl)) (de_one (de_cmp od_le (de_ix (ev 0) (de_int)) (de_ix (ev 1) (de_int)) (by rfl))))) (de_one ((de_and (de_cmp od_le (de_ix (ev 0) (de_int)) (de_ix (ev 1) (de_int)) (by rfl)) (de_one (de_cmp od_le (de_ix (ev 0) (de_int)) (de_ix (ev 1) (de_int)) (by rfl))))))))))))
theorem sc_grid_many : FnScope (["sheet", "piece"]) (["sheet", "piece"]) (defScope (top 11)) := C8.fnScope_by (by decide +kernel)
theorem ok_grid_many {P : Program} {w : World} {K : PySem.W.Frag} {mg : Str → Option Value} {base : Heap} {T : List (Addr × Str)} {c : Addr} (D : DefC K mg "grid_many" (top 11) c) (B : Bts mg) (Z : Cst mg) (f_check_size : Fok P w K mg base T 4 "check_size" ["thing"] 1 m_check_size) : Fok P w K mg base T 5 "grid_many" ["sheet", "piece"] 2 m_grid_many := by
  refine fok_of (N := ["sheet", "piece"]) (L := 2) (n := 2) (k := 4) (O' := []) D sc_grid_many rfl rfl (fun _ _ _ _ _ us hl => match us, hl with | [_, _], _ => rfl) ?_
  intro f A outer s H E G hG hgd hr
  subst hG
  have nd := sc_grid_many.nd
  exact (dss_cons (ds_expr (fnc f_check_size hgd hr (takes_of rfl rfl rfl rfl) (dsa_cons (ev 0) dsa_nil)))
  (dss_cons (ds_expr (fnc f_check_size hgd hr (takes_of rfl rfl rfl rfl) (dsa_cons (ev 1) dsa_nil)))
  (dss_one (ds_ret (de_bin od_mul (de_bin od_div (de_ix (ev 0) (de_int)) (de_ix (ev 1) (de_int))) (de_bin od_div (de_ix (ev 0) (de_int)) (de_ix (ev 1) (de_int))))))))
theorem sc_grain_many : FnScope (["sheet", "piece"]) (["sheet", "piece"]) (defScope (top 12)) := C8.fnScope_by (by decide +kernel)
theorem ok_grain_many {P : Program} {w : World} {K : PySem.W.Frag} {mg : Str → Option Value} {base : Heap} {T : List (Addr × Str)} {c : Addr} (D : DefC K mg "grain_many" (top 12) c) (B : Bts mg) (Z : Cst mg) (f_is_size : Fok P w K mg base T 3 "is_size" ["thing"] 1 m_is_size) (f_grid_many : Fok P w K mg base T 5 "grid_many" ["sheet", "piece"] 2 m_grid_many) : Fok P w K mg base T 6 "grain_many" ["sheet", "piece"] 2 m_grain_many := by
  refine fok_of (N := ["sheet", "piece"]) (L := 2) (n := 2) (k := 5) (O' := []) D sc_grain_many rfl rfl (fun _ _ _ _ _ us hl => match us, hl with | [_, _], _ => rfl) ?_
  intro f A outer s H E G hG hgd hr
  subst hG
  have nd := sc_grain_many.nd
  exact (dss_one (ds_ret (de_tup (da_cons (fnc f_grid_many hgd hr (takes_of rfl rfl rfl rfl) (dsa_cons (ev 0) (dsa_cons (ev 1) dsa_nil))) (da_cons (fnc f_grid_many hgd hr (takes_of rfl rfl rfl rfl) (dsa_cons (ev 0) (dsa_cons (de_if (dt_val (fnc f_is_size hgd hr (takes_of rfl rfl rfl rfl) (dsa_cons (ev 1) dsa_nil))) (de_tup (da_cons (de_ix (ev 1) (de_int)) (da_cons (de_ix (ev 1) (de_int)) da_nil))) (ev 1)) dsa_nil))) da_nil)))))
theorem sc__law_is_right : FnScope (["sheet", "piece", "high", "wide", "due", "other"]) (["sheet", "piece"]) (defScope (top 22)) := C8.fnScope_by (by decide +kernel)
theorem ok__law_is_right {P : Program} {w : World} {K : PySem.W.Frag} {mg : Str → Option Value} {base : Heap} {T : List (Addr × Str)} {c : Addr} (D : DefC K mg "_law_is_right" (top 22) c) (B : Bts mg) (Z : Cst mg) (f_grid_many : Fok P w K mg base T 5 "grid_many" ["sheet", "piece"] 2 m_grid_many) (f_grain_many : Fok P w K mg base T 6 "grain_many" ["sheet", "piece"] 2 m_grain_many) (f_fits : Fok P w K mg base T 5 "fits" ["piece", "sheet"] 2 m_fits) (f_is_size : Fok P w K mg base T 3 "is_size" ["thing"] 1 m_is_size) : Fok P w K mg base T 7 "_law_is_right" ["sheet", "piece"] 2 m__law_is_right := by
  refine fok_of (N := ["sheet", "piece", "high", "wide", "due", "other"]) (L := 6) (n := 2) (k := 6) (O' := []) D sc__law_is_right rfl rfl (fun _ _ _ _ _ us hl => match us, hl with | [_, _], _ => rfl) ?_
  intro f A outer s H E G hG hgd hr
  subst hG
  have nd := sc__law_is_right.nd
  exact (dss_cons (asg1 [2, 3] (ev 0) (dg_tup rfl (dgs_cons (tn 2 nd) (dgs_cons (tn 3 nd) dgs_nil))))
  (dss_cons (asg1 [4] (de_bin od_mul (de_bin od_div (ev 2) (de_ix (ev 1) (de_int))) (de_bin od_div (ev 3) (de_ix (ev 1) (de_int)))) (tn 4 nd))
  (dss_cons (asg1 [5] (de_bin od_mul (de_bin od_div (ev 2) (de_ix (ev 1) (de_int))) (de_bin od_div (ev 3) (de_ix (ev 1) (de_int)))) (tn 5 nd))
  (dss_cons (ds_if (dt_cmp (od_ne (hu64 hr)) (de_lst (da_cons (fnc f_grid_many hgd hr (takes_of rfl rfl rfl rfl) (dsa_cons (ev 0) (dsa_cons (ev 1) dsa_nil))) (da_cons (fnc f_grid_many hgd hr (takes_of rfl rfl rfl rfl) (dsa_cons (ev 0) (dsa_cons (ev 1) dsa_nil))) da_nil))) (de_lst (da_cons (ev 4) (da_cons (ev 4) da_nil))) (by rfl))
  (dss_one (ds_ret (de_bl)))
  (dss_nil [] rfl))
  (dss_cons (ds_if (dt_cmp (od_ne (hu64 hr)) (de_lst (da_cons (ct cd_tuple bv_tuple B.n_tuple (da_cons (fnc f_grain_many hgd hr (takes_of rfl rfl rfl rfl) (dsa_cons (ev 0) (dsa_cons (ev 1) dsa_nil))) da_nil)) (da_cons (ct cd_tuple bv_tuple B.n_tuple (da_cons (fnc f_grain_many hgd hr (takes_of rfl rfl rfl rfl) (dsa_cons (ev 0) (dsa_cons (ev 1) dsa_nil))) da_nil)) da_nil))) (de_lst (da_cons (de_tup (da_cons (ev 4) (da_cons (ev 5) da_nil))) (da_cons (de_tup (da_cons (ev 4) (da_cons (ev 5) da_nil))) da_nil))) (by rfl))
  (dss_one (ds_ret (de_bl)))
  (dss_nil [] rfl))
  (dss_cons (ds_if (dt_cmp (od_ne (hu64 hr)) (cb (cd_repr hgd (hu65 hr)) bv_repr B.n_repr (da_cons (de_lst (da_cons (fnc f_fits hgd hr (takes_of rfl rfl rfl rfl) (dsa_cons (ev 1) (dsa_cons (ev 0) dsa_nil))) (da_cons (fnc f_fits hgd hr (takes_of rfl rfl rfl rfl) (dsa_cons (ev 1) (dsa_cons (ev 0) dsa_nil))) da_nil))) da_nil)) (cb (cd_repr hgd (hu65 hr)) bv_repr B.n_repr (da_cons (de_lst (da_cons (de_cmp od_gt (de_bin od_add (ev 4) (ev 5)) (de_int) (by rfl)) (da_cons (de_cmp od_gt (de_bin od_add (ev 4) (ev 5)) (de_int) (by rfl)) da_nil))) da_nil)) (by rfl))
  (dss_one (ds_ret (de_bl)))
  (dss_nil [] rfl))
  (dss_cons (ds_if (dt_cmp od_gt (de_bin od_mul (de_bin od_mul (cb (cd_max2 rfl) bv_max B.n_max (da_cons (ev 4) (da_cons (ev 5) da_nil))) (de_ix (ev 1) (de_int))) (de_ix (ev 1) (de_int))) (de_bin od_mul (ev 2) (ev 3)) (by rfl))
  (dss_one (ds_ret (de_bl)))
  (dss_nil [] rfl))
  (dss_one (ds_ret ((de_and (de_cmp (od_eq (hu64 hr)) (fnc f_grid_many hgd hr (takes_of rfl rfl rfl rfl) (dsa_cons (de_tup (da_cons (ev 3) (da_cons (ev 2) da_nil))) (dsa_cons (de_tup (da_cons (de_ix (ev 1) (de_int)) (da_cons (de_ix (ev 1) (de_int)) da_nil))) dsa_nil))) (ev 4) (by rfl)) (de_one (de_cmp od_is (fnc f_is_size hgd hr (takes_of rfl rfl rfl rfl) (dsa_cons (ev 0) dsa_nil)) (de_bl) (by rfl))))))))))))))
theorem sc__law_draw : FnScope (["hand", "many", "cell", "digit", "number"]) (["hand", "many"]) (defScope (top 16)) := C8.fnScope_by (by decide +kernel)
theorem ok__law_draw {P : Program} {w : World} {K : PySem.W.Frag} {mg : Str → Option Value} {base : Heap} {T : List (Addr × Str)} {c : Addr} (D : DefC K mg "_law_draw" (top 16) c) (B : Bts mg) (Z : Cst mg)  : Fok P w K mg base T 1 "_law_draw" ["hand", "many"] 2 m__law_draw := by
  refine fok_of (N := ["hand", "many", "cell", "digit", "number"]) (L := 5) (n := 2) (k := 0) (O' := []) D sc__law_draw rfl rfl (fun _ _ _ _ _ us hl => match us, hl with | [_, _], _ => rfl) ?_
  intro f A outer s H E G hG hgd hr
  subst hG
  have nd := sc__law_draw.nd
  exact (dss_cons (ds_if (DW.dt (dw_and (dt_cmp (od_eq (hu64 hr)) (de_hix (i := 0) (j := 2) (sel := HS.gr) (fun _ _ => rfl) (pv 0) pe_int) (de_int) (by rfl)) (dw_and1 (dt_cmp od_lt (de_hix (i := 0) (j := 1) (sel := HS.pos) (fun _ _ => rfl) (pv 0) pe_int) (de_hlen (i := 0) rfl B.n_len bv_len (pv 0) pe_int) (by rfl)))))
  (dss_cons (asg1 [2] (de_hrow (i := 0) (pv 0) pe_int (de_hix (i := 0) (j := 1) (sel := HS.pos) (fun _ _ => rfl) (pv 0) pe_int)) (tn 2 nd))
  (dss_cons (ds_hset (i := 0) (j := 1) (jn := 1) (upS := fun z S => { S with pos := z }) (fun _ _ _ => ⟨rfl, rfl⟩) rfl (de_bin od_add (de_hix (i := 0) (j := 1) (sel := HS.pos) (fun _ _ => rfl) (pv 0) pe_int) (de_int)) (pv 0) pe_int)
  (dss_cons (ds_hset (i := 0) (j := 3) (jn := 3) (upS := fun z S => { S with mix := z }) (fun _ _ _ => ⟨rfl, rfl⟩) rfl (de_bin od_mod (ct cd_int bv_int B.n_int (da_cons (de_bin od_add (de_bin od_add (de_bin od_mul (de_hix (i := 0) (j := 3) (sel := HS.mix) (fun _ _ => rfl) (pv 0) pe_int) (de_int)) (de_bin od_mul (ev 2) (de_int))) (de_int)) da_nil)) (de_int)) (pv 0) pe_int)
  (dss_cons (ds_if (dt_cmp od_ge (ev 2) (de_bin od_pow (de_int) (de_int)) (by rfl))
  (dss_cons (ds_hset (i := 0) (j := 2) (jn := 2) (upS := fun z S => { S with gr := z }) (fun _ _ _ => ⟨rfl, rfl⟩) rfl (ev 2) (pv 0) pe_int)
  (dss_nil [] rfl))
  (dss_nil [] rfl))
  (dss_nil [] rfl)))))
  (dss_nil [] rfl))
  (dss_cons (ds_if (dt_cmp od_gt (de_hix (i := 0) (j := 2) (sel := HS.gr) (fun _ _ => rfl) (pv 0) pe_int) (de_int) (by rfl))
  (dss_cons (asg1 [3] (de_bin od_mod (ct cd_int bv_int B.n_int (da_cons (de_hix (i := 0) (j := 2) (sel := HS.gr) (fun _ _ => rfl) (pv 0) pe_int) da_nil)) (ev 1)) (tn 3 nd))
  (dss_cons (ds_hset (i := 0) (j := 2) (jn := 2) (upS := fun z S => { S with gr := z }) (fun _ _ _ => ⟨rfl, rfl⟩) rfl (de_bin od_div (de_hix (i := 0) (j := 2) (sel := HS.gr) (fun _ _ => rfl) (pv 0) pe_int) (ev 1)) (pv 0) pe_int)
  (dss_one (ds_ret (ev 3)))))
  (dss_nil [] rfl))
  (dss_cons (ds_hset (i := 0) (j := 4) (jn := 4) (upS := fun z S => { S with met := z }) (fun _ _ _ => ⟨rfl, rfl⟩) rfl (de_bin od_add (de_hix (i := 0) (j := 4) (sel := HS.met) (fun _ _ => rfl) (pv 0) pe_int) (de_int)) (pv 0) pe_int)
  (dss_cons (asg1 [4] (de_bin od_mod (ct cd_int bv_int B.n_int (da_cons (de_bin od_mul (ct cd_int bv_int B.n_int (da_cons (de_bin od_add (de_hix (i := 0) (j := 3) (sel := HS.mix) (fun _ _ => rfl) (pv 0) pe_int) (de_bin od_mul (de_int) (de_hix (i := 0) (j := 4) (sel := HS.met) (fun _ _ => rfl) (pv 0) pe_int))) da_nil)) (de_int)) da_nil)) (de_int)) (tn 4 nd))
  (dss_cons (asg1 [4] (de_bin od_mod (ct cd_int bv_int B.n_int (da_cons (de_bin od_mul (ev 4) (de_bin od_add (de_bin od_div (ev 4) (de_int)) (de_int))) da_nil)) (de_int)) (tn 4 nd))
  (dss_cons (asg1 [4] (de_bin od_mod (ct cd_int bv_int B.n_int (da_cons (de_bin od_mul (ev 4) (de_bin od_add (de_bin od_div (ev 4) (de_int)) (de_int))) da_nil)) (de_int)) (tn 4 nd))
  (dss_one (ds_ret (de_bin od_mod (ct cd_int bv_int B.n_int (da_cons (de_bin od_div (ev 4) (de_int)) da_nil)) (ev 1))))))))))
theorem sc__law_any : FnScope (["hand", "some"]) (["hand", "some"]) (defScope (top 17)) := C8.fnScope_by (by decide +kernel)
theorem ok__law_any {P : Program} {w : World} {K : PySem.W.Frag} {mg : Str → Option Value} {base : Heap} {T : List (Addr × Str)} {c : Addr} (D : DefC K mg "_law_any" (top 17) c) (B : Bts mg) (Z : Cst mg) (f__law_draw : Fok P w K mg base T 1 "_law_draw" ["hand", "many"] 2 m__law_draw) : Fok P w K mg base T 2 "_law_any" ["hand", "some"] 2 m__law_any := by
  refine fok_of (N := ["hand", "some"]) (L := 2) (n := 2) (k := 1) (O' := []) D sc__law_any rfl rfl (fun _ _ _ _ _ us hl => match us, hl with | [_, _], _ => rfl) ?_
  intro f A outer s H E G hG hgd hr
  subst hG
  have nd := sc__law_any.nd
  exact (dss_one (ds_ret (de_ix (ev 1) (fnc f__law_draw hgd hr (takes_of rfl rfl rfl rfl) (dsa_hand 0 (pv 0) (dsa_cons (cb cd_len bv_len B.n_len (da_cons (ev 1) da_nil)) dsa_nil))))))
theorem sc__law_deep : FnScope (["hand", "deep", "lap"]) (["hand"]) (defScope (top 18)) := C8.fnScope_by (by decide +kernel)
theorem ok__law_deep {P : Program} {w : World} {K : PySem.W.Frag} {mg : Str → Option Value} {base : Heap} {T : List (Addr × Str)} {c : Addr} (D : DefC K mg "_law_deep" (top 18) c) (B : Bts mg) (Z : Cst mg) (f__law_any : Fok P w K mg base T 2 "_law_any" ["hand", "some"] 2 m__law_any) (f__law_draw : Fok P w K mg base T 1 "_law_draw" ["hand", "many"] 2 m__law_draw) : Fok P w K mg base T 3 "_law_deep" ["hand"] 1 m__law_deep := by
  refine fok_of (N := ["hand", "deep", "lap"]) (L := 3) (n := 1) (k := 2) (O' := []) D sc__law_deep rfl rfl (fun _ _ _ _ _ us hl => match us, hl with | [_], _ => rfl) ?_
  intro f A outer s H E G hG hgd hr
  subst hG
  have nd := sc__law_deep.nd
  exact (dss_cons (asg1 [1] (fnc f__law_any hgd hr (takes_of rfl rfl rfl rfl) (dsa_hand 0 (pv 0) (dsa_cons (de_lst (da_cons (de_str) (da_cons (de_str) da_nil))) dsa_nil))) (tn 1 nd))
  (dss_cons (ds_for (vs := [2]) (passes_of rfl) rfl (di_rg1 rfl B.n_range (de_bin od_add (de_int) (fnc f__law_draw hgd hr (takes_of rfl rfl rfl rfl) (dsa_hand 0 (pv 0) (dsa_cons (de_int) dsa_nil))))) (tn 2 nd)
  (dss_cons (asg1 [1] (de_if (dt_cmp (od_eq (hu64 hr)) (fnc f__law_draw hgd hr (takes_of rfl rfl rfl rfl) (dsa_hand 0 (pv 0) (dsa_cons (de_int) dsa_nil))) (de_int) (by rfl)) (de_lst (da_cons (ev 1) da_nil)) (de_tup (da_cons (ev 1) da_nil))) (tn 1 nd))
  (dss_nil [] rfl)))
  (dss_one (ds_ret (ev 1)))))
theorem sc__law_no_size : FnScope (["hand", "some"]) (["hand"]) (defScope (top 20)) := C8.fnScope_by (by decide +kernel)
theorem ok__law_no_size {P : Program} {w : World} {K : PySem.W.Frag} {mg : Str → Option Value} {base : Heap} {T : List (Addr × Str)} {c : Addr} (D : DefC K mg "_law_no_size" (top 20) c) (B : Bts mg) (Z : Cst mg) (f__law_deep : Fok P w K mg base T 3 "_law_deep" ["hand"] 1 m__law_deep) (f__law_any : Fok P w K mg base T 2 "_law_any" ["hand", "some"] 2 m__law_any) : Fok P w K mg base T 4 "_law_no_size" ["hand"] 1 m__law_no_size := by
  refine fok_of (N := ["hand", "some"]) (L := 2) (n := 1) (k := 3) (O' := []) D sc__law_no_size rfl rfl (fun _ _ _ _ _ us hl => match us, hl with | [_], _ => rfl) ?_
  intro f A outer s H E G hG hgd hr
  subst hG
  have nd := sc__law_no_size.nd
  exact (dss_cons (asg1 [1] (de_lst (da_cons (de_non) (da_cons (de_tup da_nil) (da_cons (de_tup (da_cons (de_int) da_nil)) (da_cons (de_lst (da_cons (de_int) (da_cons (de_int) da_nil))) (da_cons (de_tup (da_cons (de_int) (da_cons (de_int) da_nil))) (da_cons (de_tup (da_cons (de_int) (da_cons (de_int) da_nil))) (da_cons (de_tup (da_cons (de_int) (da_cons (de_bl) da_nil))) (da_cons (de_tup (da_cons (de_str) (da_cons (de_int) da_nil))) (da_cons (de_int) (da_cons (de_str) (da_cons (de_dict0) (da_cons (de_tup (da_cons (de_int) (da_cons (de_int) (da_cons (de_int) da_nil)))) (da_cons (de_tup (da_cons (de_int) (da_cons (de_neg (de_int)) da_nil))) da_nil)))))))))))))) (tn 1 nd))
  (dss_one (ds_ret (fnc f__law_any hgd hr (takes_of rfl rfl rfl rfl) (dsa_hand 0 (pv 0) (dsa_cons (de_bin od_add (ev 1) (de_lst (da_cons (fnc f__law_deep hgd hr (takes_of rfl rfl rfl rfl) (dsa_hand 0 (pv 0) dsa_nil)) da_nil))) dsa_nil))))))
theorem sc__law_said : FnScope (["call", "e", "flags"]) (["call"]) (defScope (top 21)) := C8.fnScope_by (by decide +kernel)
theorem said_ok {P : Program} {w : World} {K : PySem.W.Frag} {mg : Str → Option Value} {base : Heap} {T : List (Addr × Str)} {cS fI : Addr} {C_NoSize C_PrintError : Addr} {k : Nat} (B : Bts mg) (Z : Cst mg) (F_NoSize : ExF K mg "NoSize" C_NoSize fI) (F_PrintError : ExF K mg "PrintError" C_PrintError fI) (x_NoSize : PySem.W.exmOne K (.ref C_NoSize) (.ref C_PrintError) = some true) (k_NoSize_ValueError : PySem.W.kitOne K (.ref C_NoSize) (.type "ValueError") = some true) (k_NoSize_NoSize : PySem.W.kitOne K (.ref C_NoSize) (.ref C_NoSize) = some true) : SaidOk P w K mg base T cS "_law_said" "call" (top 21) ["call", "e", "flags"] k g__law_said := by
  refine ⟨[], ?_⟩
  intro g A outer s H G mc hG hgd hr act
  have nd := sc__law_said.nd
  have hcl : ∀ c ∈ (["NoSize"] : List Str), ∀ cls, mg c = some cls → (∃ D, cls = .ref D) ∧ PySem.W.exmOne K cls (.ref C_PrintError) = some true := by
    intro c hc cls hm
    simp only [List.mem_cons, List.not_mem_nil, or_false] at hc
    rcases hc with rfl
    · rw [F_NoSize.g] at hm
      cases hm
      exact ⟨⟨_, rfl⟩, x_NoSize⟩
  have hmg : ∀ c ∈ (["NoSize"] : List Str), ∃ cls, mg c = some cls := by
    intro c hc
    simp only [List.mem_cons, List.not_mem_nil, or_false] at hc
    rcases hc with rfl
    · exact ⟨_, F_NoSize.g⟩
  have hs_NoSize : ∀ (a : Addr) (oe : Obj) (pn : List (Addr × Obj)), Zc (.ref C_NoSize) none oe → (∃ vs, oe.data = .fields vs) → DSs ((cxOf C8.CX0 P w K mg base ["call", "e", "flags"] "_law_said" (defScope (top 21)) g (.ref cS) A outer s H C8.E0).nox.suite a ((a, oe) :: pn)) { G with exc := a } Enone [] [] (suiteOf ((defBody (top 21)).getD 0 (.Pass ⟨0, 0, 0, 0⟩))) su_NoSize := by
    intro a oe pn hz hf
    exact (dss_cons (ds_if (dt_not (dt_val (de_isE (call_isE F_NoSize.ec hz hf) rfl rfl B.n_isinstance bv_isinstance (pv 1) (pe_bltn (v := .ty "ValueError") rfl B.n_ValueError bv_ValueError rfl) (fun _ z => z) k_NoSize_ValueError)))
  (dss_one (ds_ret (de_str)))
  (dss_nil [] rfl))
  (dss_cons (asg1 [2] (de_lst (da_cons (de_isE (call_isE F_NoSize.ec hz hf) rfl rfl B.n_isinstance bv_isinstance (pv 1) (pe_glob (v := .ref C_NoSize) rfl F_NoSize.g rfl) (fun _ z => z) k_NoSize_NoSize) da_nil)) (tn 2 nd))
  (dss_one (ds_ret (de_if (dt_cmp (od_eq (have h9 := hu64 hr; h9)) (mcount (have h9 := hu65 hr; h9) (ev 2) (de_bl)) (de_int) (by rfl)) (de_ix (de_lst (da_cons (de_str) da_nil)) (mindex (have h9 := hu65 hr; h9) (ev 2) (de_bl))) (de_str))))))
  have hsu : ∀ c ∈ (["NoSize"] : List Str), ∀ (D : Addr), mg c = some (.ref D) → ∀ (a : Addr) (oe : Obj) (pn : List (Addr × Obj)), Zc (.ref D) none oe → (∃ vs, oe.data = .fields vs) → DSs ((cxOf C8.CX0 P w K mg base ["call", "e", "flags"] "_law_said" (defScope (top 21)) g (.ref cS) A outer s H C8.E0).nox.suite a ((a, oe) :: pn)) { G with exc := a } Enone [] [] (suiteOf ((defBody (top 21)).getD 0 (.Pass ⟨0, 0, 0, 0⟩))) (suS c) := by
    intro c hc D hm
    simp only [List.mem_cons, List.not_mem_nil, or_false] at hc
    rcases hc with rfl
    · rw [F_NoSize.g] at hm
      cases hm
      rw [suS_NoSize]
      exact hs_NoSize
  exact (dss_cons (ds_tryC (i := 1) (cP := .ref C_PrintError) (a := "call") (mc := mc) (su := suS) (cs := ["NoSize"]) rfl rfl nd rfl rfl ⟨rfl, by decide, .inl F_PrintError.g⟩ act (by decide) hcl hmg hsu)
  (dss_one (ds_ret (de_str))))
theorem sc__law_size : FnScope (["hand", "most"]) (["hand", "most"]) (defScope (top 19)) := C8.fnScope_by (by decide +kernel)
theorem ok__law_size {P : Program} {w : World} {K : PySem.W.Frag} {mg : Str → Option Value} {base : Heap} {T : List (Addr × Str)} {c : Addr} (D : DefC K mg "_law_size" (top 19) c) (B : Bts mg) (Z : Cst mg) (f__law_draw : Fok P w K mg base T 1 "_law_draw" ["hand", "many"] 2 m__law_draw) : Fok P w K mg base T 2 "_law_size" ["hand", "most"] 2 m__law_size := by
  refine fok_of (N := ["hand", "most"]) (L := 2) (n := 2) (k := 1) (O' := []) D sc__law_size rfl rfl (fun _ _ _ _ _ us hl => match us, hl with | [_, _], _ => rfl) ?_
  intro f A outer s H E G hG hgd hr
  subst hG
  have nd := sc__law_size.nd
  exact (dss_one (ds_ret (de_tup (da_cons (de_bin od_add (de_int) (fnc f__law_draw hgd hr (takes_of rfl rfl rfl rfl) (dsa_hand 0 (pv 0) (dsa_cons (ev 1) dsa_nil)))) (da_cons (de_bin od_add (de_int) (fnc f__law_draw hgd hr (takes_of rfl rfl rfl rfl) (dsa_hand 0 (pv 0) (dsa_cons (ev 1) dsa_nil)))) da_nil)))))
theorem sc_law : FnScope (["script", "hand", "lap", "said", "none", "bad", "good"]) (["script"]) (defScope (top 23)) := C8.fnScope_by (by decide +kernel)
theorem ok_law {P : Program} {w : World} {K : PySem.W.Frag} {mg : Str → Option Value} {base : Heap} {T : List (Addr × Str)} {c : Addr} {cS Pt : Addr} (D : DefC K mg "law" (top 23) c) (B : Bts mg) (Z : Cst mg) (f__law_hand : Fok P w K mg base T 1 "_law_hand" ["script"] 1 m__law_hand) (f_grain_many : Fok P w K mg base T 6 "grain_many" ["sheet", "piece"] 2 m_grain_many) (f_grid_many : Fok P w K mg base T 5 "grid_many" ["sheet", "piece"] 2 m_grid_many) (f_fits : Fok P w K mg base T 5 "fits" ["piece", "sheet"] 2 m_fits) (f__law_any : Fok P w K mg base T 2 "_law_any" ["hand", "some"] 2 m__law_any) (f__law_size : Fok P w K mg base T 2 "_law_size" ["hand", "most"] 2 m__law_size) (f__law_is_right : Fok P w K mg base T 7 "_law_is_right" ["sheet", "piece"] 2 m__law_is_right) (f__law_no_size : Fok P w K mg base T 4 "_law_no_size" ["hand"] 1 m__law_no_size) (f_is_size : Fok P w K mg base T 3 "is_size" ["thing"] 1 m_is_size) (D__law_said : DefC K mg "_law_said" (top 21) cS) (SO : SaidOk P w K mg base T cS "_law_said" "call" (top 21) ["call", "e", "flags"] 7 g__law_said) (TB : TabB base mg c Pt) (hT : (Pt, (envOfC "law" (defScope (top 23)) 0 0 (.ref c)).qual ++ "<lambda>") ∈ T) (hu : ∀ p ∈ T, p.1 = Pt → p.2 = (envOfC "law" (defScope (top 23)) 0 0 (.ref c)).qual ++ "<lambda>") (tr : ∀ ns, (t_law ns).post (fun d _ => d = .bool true) fun _ _ => False) : ∃ (f : Addr) (fd : FuncData), mg "law" = some (.ref f) ∧ (∀ (s : Shared) (u : Value), BindsTo s fd ⟨[u], []⟩ [("script", u)]) ∧ FnG P w K mg base (L2.CX P w) 9 f fd ["script"] (spLaw K T) := by
  have nd := sc_law.nd
  refine law_of (N := ["script", "hand", "lap", "said", "none", "bad", "good"]) (L := 7) (i := 1) (k := 8) (kh := 1) (yh := "script") (mh := m__law_hand) (g := g_law) (O' := []) D sc_law rfl rfl rfl (by decide) (fun _ _ _ _ _ _ => rfl) rfl f__law_hand (by decide) rfl (by decide) (.inl rfl) (by decide) (by decide) (by first | exact .inl rfl | exact .inr rfl) (fun _ => rfl) (fun f A outer s H E t h => ps_asg h (gname 1 nd)) ?_ tr
  intro f A outer s H E G hG hgd hr
  subst hG
  exact (dss_cons (ds_if (DW.dt (dw_or (dt_cmp (od_ne (hu64 hr)) (fnc f_grid_many hgd hr LamX.takes0 (dsa_cons (de_tup (da_cons (de_int) (da_cons (de_int) da_nil))) (dsa_cons (de_tup (da_cons (de_int) (da_cons (de_int) da_nil))) dsa_nil))) (de_int) (by rfl)) (dw_or1 (dt_cmp (od_ne (hu64 hr)) (ct cd_tuple bv_tuple B.n_tuple (da_cons (fnc f_grain_many hgd hr LamX.takes0 (dsa_cons (de_tup (da_cons (de_int) (da_cons (de_int) da_nil))) (dsa_cons (de_tup (da_cons (de_int) (da_cons (de_int) da_nil))) dsa_nil))) da_nil)) (de_tup (da_cons (de_int) (da_cons (de_int) da_nil))) (by rfl)))))
  (dss_one (ds_ret (de_bl)))
  (dss_nil [] rfl))
  (dss_cons (ds_if (dt_cmp od_isNot (fnc f_fits hgd hr LamX.takes0 (dsa_cons (de_tup (da_cons (de_int) (da_cons (de_int) da_nil))) (dsa_cons (de_tup (da_cons (de_int) (da_cons (de_int) da_nil))) dsa_nil))) (de_bl) (by rfl))
  (dss_one (ds_ret (de_bl)))
  (dss_nil [] rfl))
  (dss_cons (ds_if (DW.dt (dw_or (dt_cmp od_isNot (fnc f_fits hgd hr LamX.takes0 (dsa_cons (de_tup (da_cons (de_int) (da_cons (de_int) da_nil))) (dsa_cons (de_tup (da_cons (de_int) (da_cons (de_int) da_nil))) dsa_nil))) (de_bl) (by rfl)) (dw_or1 (dt_cmp (od_ne (hu64 hr)) (ct cd_tuple bv_tuple B.n_tuple (da_cons (fnc f_grain_many hgd hr LamX.takes0 (dsa_cons (de_tup (da_cons (de_int) (da_cons (de_int) da_nil))) (dsa_cons (de_tup (da_cons (de_int) (da_cons (de_int) da_nil))) dsa_nil))) da_nil)) (de_tup (da_cons (de_int) (da_cons (de_int) da_nil))) (by rfl)))))
  (dss_one (ds_ret (de_bl)))
  (dss_nil [] rfl))
  (dss_cons (ds_for (vs := [2]) (passes_of rfl) rfl (di_rg1 rfl B.n_range (de_int)) (tn 2 nd)
  (dss_cons (ds_if (dt_not (dt_val (fnc f__law_is_right hgd hr LamX.takes0 (dsa_cons (fnc f__law_size hgd hr LamX.takes0 (dsa_hand 1 (pv 1) (dsa_cons (de_int) dsa_nil))) (dsa_cons (fnc f__law_size hgd hr LamX.takes0 (dsa_hand 1 (pv 1) (dsa_cons (fnc f__law_any hgd hr LamX.takes0 (dsa_hand 1 (pv 1) (dsa_cons (de_lst (da_cons (de_int) (da_cons (de_int) da_nil))) dsa_nil))) dsa_nil))) dsa_nil)))))
  (dss_one (ds_ret (de_bl)))
  (dss_nil [] rfl))
  (dss_cons (ds_parT (fl := [none, none, none]) rfl (by decide) (by intro q hq; simp at hq) rfl (by decide) rfl (pgn_cons (gname 4 nd) (pgn_cons (gname 5 nd) (pgn_cons (gname 6 nd) pgn_nil))) (dp_clean (fnc f__law_no_size hgd hr LamX.takes0 (dsa_hand 1 (pv 1) dsa_nil)) (dp_clean (fnc f__law_no_size hgd hr LamX.takes0 (dsa_hand 1 (pv 1) dsa_nil)) (dp_clean (de_tup (da_cons (de_int) (da_cons (de_int) da_nil))) dp_nil))))
  (dss_cons (asg1 [3] (de_lst (da_cons (said D__law_said SO sc__law_said (fun _ _ _ _ _ us hl => match us, hl with | [_], _ => rfl) rfl (by first | exact Or.inl rfl | exact Or.inr (Or.inl rfl)) rfl (by decide) (lam_plain TB rfl hT hu (lamS2_by (by kernel_rfl)) rfl (fun _ _ _ _ _ _ => rfl)) (lamS2_by (by kernel_rfl)) hgd hr (fun A2 outer2 s2 H2 E2 f2 c2 hg2 hr2 => (fnc f_grid_many hg2 hr2 (takes_of rfl rfl rfl rfl) (dsa_cons (ev 4) (dsa_cons (ev 6) dsa_nil))))) (da_cons (said D__law_said SO sc__law_said (fun _ _ _ _ _ us hl => match us, hl with | [_], _ => rfl) rfl (by first | exact Or.inl rfl | exact Or.inr (Or.inl rfl)) rfl (by decide) (lam_dflt (z := "again") (i := 0) TB rfl hT hu (lamS2_by (by kernel_rfl)) rfl rfl pe_int rfl (fun _ _ _ _ _ _ _ => ⟨_, rfl, fun _ => rfl⟩)) (lamS2_by (by kernel_rfl)) hgd hr (fun A2 outer2 s2 H2 E2 f2 c2 hg2 hr2 => (fnc f_grid_many hg2 hr2 (takes_of rfl rfl rfl rfl) (dsa_cons (ev 6) (dsa_cons (ev 5) dsa_nil))))) da_nil))) (tn 3 nd))
  (dss_cons (asg1 [3] (de_bin od_add (ev 3) (de_lst (da_cons (said D__law_said SO sc__law_said (fun _ _ _ _ _ us hl => match us, hl with | [_], _ => rfl) rfl (by first | exact Or.inl rfl | exact Or.inr (Or.inl rfl)) rfl (by decide) (lam_plain TB rfl hT hu (lamS2_by (by kernel_rfl)) rfl (fun _ _ _ _ _ _ => rfl)) (lamS2_by (by kernel_rfl)) hgd hr (fun A2 outer2 s2 H2 E2 f2 c2 hg2 hr2 => (fnc f_grain_many hg2 hr2 (takes_of rfl rfl rfl rfl) (dsa_cons (ev 4) (dsa_cons (ev 5) dsa_nil))))) (da_cons (said D__law_said SO sc__law_said (fun _ _ _ _ _ us hl => match us, hl with | [_], _ => rfl) rfl (by first | exact Or.inl rfl | exact Or.inr (Or.inl rfl)) rfl (by decide) (lam_dflt (z := "again") (i := 0) TB rfl hT hu (lamS2_by (by kernel_rfl)) rfl rfl pe_int rfl (fun _ _ _ _ _ _ _ => ⟨_, rfl, fun _ => rfl⟩)) (lamS2_by (by kernel_rfl)) hgd hr (fun A2 outer2 s2 H2 E2 f2 c2 hg2 hr2 => (fnc f_fits hg2 hr2 (takes_of rfl rfl rfl rfl) (dsa_cons (ev 4) (dsa_cons (ev 6) dsa_nil))))) da_nil)))) (tn 3 nd))
  (dss_cons (ds_if (DW.dt (dw_or (dt_cmp (od_ne (hu64 hr)) (ev 3) (de_bin od_mul (de_lst (da_cons (de_str) da_nil)) (de_int)) (by rfl)) (dw_or1 (dt_cmp od_isNot (fnc f_is_size hgd hr LamX.takes0 (dsa_cons (ev 4) dsa_nil)) (de_bl) (by rfl)))))
  (dss_one (ds_ret (de_bl)))
  (dss_nil [] rfl))
  (dss_nil [] rfl)))))))
  (dss_one (ds_ret (de_bl)))))))
end DL

namespace DL
open PySem PySem.Spec PyProof.Rows L2 LamX
def Good (S : HS) : Prop := 0 ≤ S.pos
theorem bnd {α β : Type} {r : R α} {k : α → HS → R β} {P1 : α → HS → Prop} {P : β → HS → Prop} {E : Str → HS → Prop} (h : r.post P1 E) (hk : ∀ a S, P1 a S → (k a S).post P E) : (r.bind k).post P E := by
  cases r with
  | ok a S => exact hk a S h
  | err c S => exact h
  | bad => exact h.elim
abbrev Ef : Str → HS → Prop := fun _ _ => False
theorem post_bind_eq {α β : Type} {r : R α} {k : α → HS → R β} {P : β → HS → Prop} {E : Str → HS → Prop} : (r.bind k).post P E = r.post (fun a S => (k a S).post P E) E := by
  cases r <;> rfl
theorem post_ok {α : Type} {a : α} {S : HS} {P : α → HS → Prop} {E : Str → HS → Prop} : (R.ok a S).post P E = P a S := rfl
theorem post_opt_some {α : Type} {a : α} {S : HS} {P : α → HS → Prop} {E : Str → HS → Prop} : (M.opt (some a) S).post P E = P a S := rfl
theorem seq_post {g h : SD} {ρ : Env} {S : HS} {P : Fl → HS → Prop} {E : Str → HS → Prop} : (sSeq g h ρ S).post P E = (g ρ S).post (fun fl S' => (match fl with | .nx ρ' => h ρ' S' | .rt d => .ok (.rt d) S').post P E) E := post_bind_eq
theorem use {α : Type} {r : R α} {P P' : α → HS → Prop} {E : Str → HS → Prop} (h : r.post P' E) (k : ∀ a S, P' a S → P a S) : r.post P E := R.post_imp h k fun _ _ z => z
theorem run_post {L : Nat} {g : SD} {sl : List Slot} {S : HS} {P : PyData → HS → Prop} {E : Str → HS → Prop} (h : (g (sl.map some ++ List.replicate (L - sl.length) none) S).post (fun fl S' => match fl with | .nx _ => P .none S' | .rt d => P d S') E) : (mRun L g sl S).post P E := by
  refine bnd h ?_
  rintro (ρ | d) S' h'
  · exact h'
  · exact h'
theorem cm {i j : Int} (h : -18446744073709551616 < j ∧ j < 18446744073709551616) : CMulB i j = true := by
  unfold CMulB
  simp [h.1, h.2]
theorem cm' {i j : Int} (h : -18446744073709551616 < i ∧ i < 18446744073709551616) : CMulB i j = true := by
  unfold CMulB
  simp [h.1, h.2]
theorem seqI {g h : SD} {ρ : Env} {S : HS} {P : Fl → HS → Prop} {E : Str → HS → Prop} (P1 : Fl → HS → Prop) (h1 : (g ρ S).post P1 E) (h2 : ∀ fl S', P1 fl S' → (match fl with | .nx ρ' => h ρ' S' | .rt d => .ok (.rt d) S').post P E) : (sSeq g h ρ S).post P E :=
  bnd h1 h2
theorem atI_nn {α : Type} {l : List α} {i : Int} (h0 : 0 ≤ i) (h1 : i < l.length) : ∃ z, atI l i = some z := by
  unfold atI ixN
  rw [if_pos h0, if_pos (by omega)]
  exact ⟨l[i.toNat]'(by omega), by show l[i.toNat]? = _; rw [List.getElem?_eq_getElem]⟩
theorem ev_draw (n : Int) (S : HS) (hn : 0 < n) (hn2 : n < 1073741824) (hS : Good S) : (m__law_draw [.hnd, .dat (.int n)] S).post (fun r S' => ∃ i, r = .int i ∧ 0 ≤ i ∧ i < n ∧ Good S') Ef := by
  refine bnd (P1 := fun fl S' => ∃ i, fl = .rt (.int i) ∧ 0 ≤ i ∧ i < n ∧ Good S') ?_ fun fl S' ⟨i, e, h⟩ => by rw [e]; exact ⟨i, rfl, h⟩
  refine seqI (fun fl S' => ∃ a, fl = .nx [some .hnd, some (.dat (.int n)), a, none, none] ∧ Good S') ?_ ?_
  · show ((sIf _ _ _) [some .hnd, some (.dat (.int n)), none, none, none] S).post _ _
    unfold Good at hS
    by_cases hg : S.gr = 0
    · by_cases hp : S.pos < S.rows.length
      · obtain ⟨z, hz⟩ := atI_nn (l := S.rows) hS hp
        by_cases hc : 1000000000000000000 ≤ z
        · simp [mRun, sSeq, sNil, sAsg, xOf, sRet, sIf, sRaise, sDrop, sFor, sPar, setE, dLit, dVar, dBin, dUn, dAnd, dOr, dNot, dIf, dTup, dLst, dCons, dNil, dCB, dCall, aCons, aNil, aHand, bOf, bNot, bAnd, bOr, dChain, dHand, dHRow, dHLen, sHSet, hndAt, dMt, isTy, R.bind, M.opt, toB, toI, gN, gT, gC, gZ, gtD, ltD, geD, modD, divD, intD, addD, mulD, powD, eqD, SeqAt.shaped, PyData.canLay0, PyData.depth, PyData.eqv, hg, hp, hz, hc, R.post, cm, Good]
          omega
        · simp [mRun, sSeq, sNil, sAsg, xOf, sRet, sIf, sRaise, sDrop, sFor, sPar, setE, dLit, dVar, dBin, dUn, dAnd, dOr, dNot, dIf, dTup, dLst, dCons, dNil, dCB, dCall, aCons, aNil, aHand, bOf, bNot, bAnd, bOr, dChain, dHand, dHRow, dHLen, sHSet, hndAt, dMt, isTy, R.bind, M.opt, toB, toI, gN, gT, gC, gZ, gtD, ltD, geD, modD, divD, intD, addD, mulD, powD, eqD, SeqAt.shaped, PyData.canLay0, PyData.depth, PyData.eqv, hg, hp, hz, hc, R.post, cm, Good]
          omega
      · simp [mRun, sSeq, sNil, sAsg, xOf, sRet, sIf, sRaise, sDrop, sFor, sPar, setE, dLit, dVar, dBin, dUn, dAnd, dOr, dNot, dIf, dTup, dLst, dCons, dNil, dCB, dCall, aCons, aNil, aHand, bOf, bNot, bAnd, bOr, dChain, dHand, dHRow, dHLen, sHSet, hndAt, dMt, isTy, R.bind, M.opt, toB, toI, gN, gT, gC, gZ, gtD, ltD, geD, modD, divD, intD, addD, mulD, powD, eqD, SeqAt.shaped, PyData.canLay0, PyData.depth, PyData.eqv, hg, hp, R.post, cm, Good, hS]
    · simp [mRun, sSeq, sNil, sAsg, xOf, sRet, sIf, sRaise, sDrop, sFor, sPar, setE, dLit, dVar, dBin, dUn, dAnd, dOr, dNot, dIf, dTup, dLst, dCons, dNil, dCB, dCall, aCons, aNil, aHand, bOf, bNot, bAnd, bOr, dChain, dHand, dHRow, dHLen, sHSet, hndAt, dMt, isTy, R.bind, M.opt, toB, toI, gN, gT, gC, gZ, gtD, ltD, geD, modD, divD, intD, addD, mulD, powD, eqD, SeqAt.shaped, PyData.canLay0, PyData.depth, PyData.eqv, hg, R.post, cm, Good, hS]
  · rintro _ S' ⟨a, rfl, hS⟩
    by_cases hg : 0 < S'.gr
    · simp [mRun, sSeq, sNil, sAsg, xOf, sRet, sIf, sRaise, sDrop, sFor, sPar, setE, dLit, dVar, dBin, dUn, dAnd, dOr, dNot, dIf, dTup, dLst, dCons, dNil, dCB, dCall, aCons, aNil, aHand, bOf, bNot, bAnd, bOr, dChain, dHand, dHRow, dHLen, sHSet, hndAt, dMt, isTy, R.bind, M.opt, toB, toI, gN, gT, gC, gZ, gtD, modD, divD, intD, hg, hn, hn2, R.post]
      exact ⟨Int.emod_nonneg _ (by omega), Int.emod_lt_of_pos _ hn, hS⟩
    · have e1 : ∀ x : Int, -18446744073709551616 < x % 2147483647 ∧ x % 2147483647 < 18446744073709551616 := fun x => ⟨by omega, by omega⟩
      simp [mRun, sSeq, sNil, sAsg, xOf, sRet, sIf, sRaise, sDrop, sFor, sPar, setE, dLit, dVar, dBin, dUn, dAnd, dOr, dNot, dIf, dTup, dLst, dCons, dNil, dCB, dCall, aCons, aNil, aHand, bOf, bNot, bAnd, bOr, dChain, dHand, dHRow, dHLen, sHSet, hndAt, dMt, isTy, R.bind, M.opt, toB, toI, gN, gT, gC, gZ, gtD, modD, divD, intD, addD, mulD, hg, hn, hn2, R.post, cm, cm', e1]
      exact ⟨Int.emod_nonneg _ (by omega), Int.emod_lt_of_pos _ hn, hS⟩
theorem atI_mem {α : Type} {l : List α} {i : Int} {z : α} (h : atI l i = some z) : z ∈ l := by
  unfold atI at h
  cases e : ixN l.length i with
  | none => rw [e] at h; cases h
  | some j => rw [e] at h; exact List.mem_of_getElem? h
theorem ev_any (ds : List PyData) (S : HS) (h0 : ds ≠ []) (h1 : ds.length < 1000) (hS : Good S) : (m__law_any [.hnd, .dat (.list ds)] S).post (fun r S' => r ∈ ds ∧ Good S') Ef := by
  refine bnd (P1 := fun fl S' => ∃ r, fl = .rt r ∧ r ∈ ds ∧ Good S') ?_ fun fl S' ⟨i, e, h⟩ => by rw [e]; exact h
  show ((sRet _) [some .hnd, some (.dat (.list ds))] S).post _ _
  have hl : (0 : Int) < ds.length := by
    have := List.length_pos_iff.mpr h0
    omega
  simp only [mRun, sSeq, sNil, sAsg, xOf, sRet, sIf, sRaise, sDrop, sFor, sPar, setE, dLit, dVar, dBin, dUn, dAnd, dOr, dNot, dIf, dTup, dLst, dCons, dNil, dCB, dCall, aCons, aNil, aHand, bOf, bNot, bAnd, bOr, dChain, dHand, dHRow, dHLen, sHSet, hndAt, dMt, isTy, R.bind, M.opt, toB, toI, gN, gT, gC, gZ, lenD, List.getElem?_cons_succ, List.getElem?_cons_zero]
  refine bnd (bnd (ev_draw ds.length S hl (by omega) hS) ?_) ?_ (P1 := fun r S' => r ∈ ds ∧ Good S')
  · rintro _ S' ⟨i, rfl, h2, h3, g⟩
    obtain ⟨z, hz⟩ := atI_nn h2 h3
    simp only [ixD, hz]
    exact ⟨atI_mem hz, g⟩
  · rintro r S' ⟨hr, g⟩
    exact ⟨r, rfl, hr, g⟩
end DL

namespace DL
open PySem PySem.Spec PyProof.Rows L2 LamX
theorem ev_is_integer (d : PyData) (S : HS) : m_is_integer [.dat d] S = .ok (.bool (match d with | .int _ => true | _ => false)) S := by
  cases d <;> simp [m_is_integer, mRun, sSeq, sNil, sAsg, xOf, sRet, sIf, sRaise, sDrop, sFor, sPar, setE, dLit, dVar, dBin, dUn, dAnd, dOr, dNot, dIf, dTup, dLst, dCons, dNil, dCB, dCall, aCons, aNil, aHand, bOf, bNot, bAnd, bOr, dChain, dHand, dHRow, dHLen, sHSet, hndAt, dMt, isTy, R.bind, M.opt, toB, toI, gN, gT, gC, gZ, isiT, isiB, tyD]
def within (d : PyData) (lo hi : Int) : Bool := match d with
  | .int i => decide (lo ≤ i) && decide (i ≤ hi)
  | _ => false
theorem ev_is_within (d : PyData) (lo hi : Int) (S : HS) : m_is_within [.dat d, .dat (.int lo), .dat (.int hi)] S = .ok (.bool (within d lo hi)) S := by
  cases d <;> simp [m_is_within, mRun, sSeq, sNil, sAsg, xOf, sRet, sIf, sRaise, sDrop, sFor, sPar, setE, dLit, dVar, dBin, dUn, dAnd, dOr, dNot, dIf, dTup, dLst, dCons, dNil, dCB, dCall, aCons, aNil, aHand, bOf, bNot, bAnd, bOr, dChain, dHand, dHRow, dHLen, sHSet, hndAt, dMt, isTy, R.bind, M.opt, toB, toI, gN, gT, gC, gZ, ev_is_integer, within, leD]
  rename_i i
  by_cases h : lo ≤ i <;> simp [h]
def isTup (d : PyData) (n : Int) : Bool := match d with
  | .tuple ds => decide ((ds.length : Int) = n)
  | _ => false
theorem beq_dec (a b : Int) : (a == b) = decide (a = b) := by
  by_cases h : a = b <;> simp [h]
theorem ev_is_tuple (d : PyData) (n : Int) (S : HS) : m_is_tuple [.dat d, .dat (.int n)] S = .ok (.bool (isTup d n)) S := by
  cases d <;> simp [m_is_tuple, mRun, sSeq, sNil, sAsg, xOf, sRet, sIf, sRaise, sDrop, sFor, sPar, setE, dLit, dVar, dBin, dUn, dAnd, dOr, dNot, dIf, dTup, dLst, dCons, dNil, dCB, dCall, aCons, aNil, aHand, bOf, bNot, bAnd, bOr, dChain, dHand, dHRow, dHLen, sHSet, hndAt, dMt, isTy, R.bind, M.opt, toB, toI, gN, gT, gC, gZ, isiT, isiB, tyD, isTup, lenD, eqD, SeqAt.shaped, PyData.canLay0, PyData.depth, PyData.eqv, beq_dec]
def isSize (d : PyData) : Bool := match d with
  | .tuple [a, b] => within a 1 60 && within b 1 60
  | _ => false
theorem ev_is_size (d : PyData) (S : HS) : m_is_size [.dat d] S = .ok (.bool (isSize d)) S := by
  by_cases h : isTup d 2 = true
  · cases d <;> simp [isTup] at h
    rename_i ds
    match ds, h with
    | [a, b], _ => simp [m_is_size, mRun, sSeq, sNil, sAsg, xOf, sRet, sIf, sRaise, sDrop, sFor, sPar, setE, dLit, dVar, dBin, dUn, dAnd, dOr, dNot, dIf, dTup, dLst, dCons, dNil, dCB, dCall, aCons, aNil, aHand, bOf, bNot, bAnd, bOr, dChain, dHand, dHRow, dHLen, sHSet, hndAt, dMt, isTy, R.bind, M.opt, toB, toI, gN, gT, gC, gZ, ev_is_tuple, ev_is_within, isTup, isSize, allD, boolsD, dComp, mComp, wipeE, iSeq, seqD, bYes, noErr, LINE]
  · have h' : isTup d 2 = false := by simpa using h
    have e : isSize d = false := by
      cases d <;> simp [isSize]
      rename_i ds
      split
      · rename_i heq
        cases heq
        simp [isTup] at h'
      · rfl
    simp [m_is_size, mRun, sSeq, sNil, sAsg, xOf, sRet, sIf, sRaise, sDrop, sFor, sPar, setE, dLit, dVar, dBin, dUn, dAnd, dOr, dNot, dIf, dTup, dLst, dCons, dNil, dCB, dCall, aCons, aNil, aHand, bOf, bNot, bAnd, bOr, dChain, dHand, dHRow, dHLen, sHSet, hndAt, dMt, isTy, R.bind, M.opt, toB, toI, gN, gT, gC, gZ, ev_is_tuple, h', e]
theorem ev_check (d : PyData) (S : HS) : m_check_size [.dat d] S = if isSize d = true then .ok .none S else .err "NoSize" S := by
  cases h : isSize d <;> simp [m_check_size, mRun, sSeq, sNil, sAsg, xOf, sRet, sIf, sRaise, sDrop, sFor, sPar, setE, dLit, dVar, dBin, dUn, dAnd, dOr, dNot, dIf, dTup, dLst, dCons, dNil, dCB, dCall, aCons, aNil, aHand, bOf, bNot, bAnd, bOr, dChain, dHand, dHRow, dHLen, sHSet, hndAt, dMt, isTy, R.bind, M.opt, toB, toI, gN, gT, gC, gZ, ev_is_size, h]
def sz (x y : Int) : PyData := .tuple [.int x, .int y]
def Ok60 (x : Int) : Prop := 1 ≤ x ∧ x ≤ 60
theorem sz_ok {x y : Int} (h : Ok60 x) (k : Ok60 y) : isSize (sz x y) = true := by simp [isSize, sz, within, h.1, h.2, k.1, k.2]
theorem div60 {a b : Int} (h : Ok60 a) (k : Ok60 b) : 0 ≤ a / b ∧ a / b ≤ 60 := ⟨Int.ediv_nonneg (by have := h.1; omega) (by have := k.1; omega), Int.le_trans (Int.ediv_le_self _ (by have := h.1; omega)) h.2⟩
theorem ev_grid {x y u v : Int} (S : HS) (hx : Ok60 x) (hy : Ok60 y) (hu : Ok60 u) (hv : Ok60 v) : m_grid_many [.dat (sz x y), .dat (sz u v)] S = .ok (.int (x / u * (y / v))) S := by
  have h1 := div60 hx hu
  have h2 := hu.1
  have h3 := hu.2
  have h4 := hv.1
  have h5 := hv.2
  have e1 : 0 < u ∧ u < 1073741824 := ⟨by omega, by omega⟩
  have e2 : 0 < v ∧ v < 1073741824 := ⟨by omega, by omega⟩
  have e3 : CMulB (x / u) (y / v) = true := cm' ⟨by omega, by omega⟩
  have a1 := sz_ok hx hy
  have a2 := sz_ok hu hv
  simp only [m_grid_many, mRun, sSeq, sNil, sAsg, xOf, sRet, sIf, sRaise, sDrop, sFor, sPar, setE, dLit, dVar, dBin, dUn, dAnd, dOr, dNot, dIf, dTup, dLst, dCons, dNil, dCB, dCall, aCons, aNil, aHand, bOf, bNot, bAnd, bOr, dChain, dHand, dHRow, dHLen, sHSet, hndAt, dMt, isTy, R.bind, M.opt, toB, toI, gN, gT, gC, gZ, ev_check, List.map_cons, List.map_nil, List.getElem?_cons_succ, List.getElem?_cons_zero, List.cons_append, a1, a2, if_true]
  simp [sz, ixD, atI, ixN, divD, mulD, e1, e2, e3, R.bind, M.opt]
theorem bad_grid1 {a b : PyData} (S : HS) (h : isSize a = false) : m_grid_many [.dat a, .dat b] S = .err "NoSize" S := by
  simp [m_grid_many, mRun, sSeq, sNil, sAsg, xOf, sRet, sIf, sRaise, sDrop, sFor, sPar, setE, dLit, dVar, dBin, dUn, dAnd, dOr, dNot, dIf, dTup, dLst, dCons, dNil, dCB, dCall, aCons, aNil, aHand, bOf, bNot, bAnd, bOr, dChain, dHand, dHRow, dHLen, sHSet, hndAt, dMt, isTy, R.bind, M.opt, toB, toI, gN, gT, gC, gZ, ev_check, h]
theorem bad_grid2 {a b : PyData} (S : HS) (h0 : isSize a = true) (h : isSize b = false) : m_grid_many [.dat a, .dat b] S = .err "NoSize" S := by
  simp [m_grid_many, mRun, sSeq, sNil, sAsg, xOf, sRet, sIf, sRaise, sDrop, sFor, sPar, setE, dLit, dVar, dBin, dUn, dAnd, dOr, dNot, dIf, dTup, dLst, dCons, dNil, dCB, dCall, aCons, aNil, aHand, bOf, bNot, bAnd, bOr, dChain, dHand, dHRow, dHLen, sHSet, hndAt, dMt, isTy, R.bind, M.opt, toB, toI, gN, gT, gC, gZ, ev_check, h, h0]
theorem bad_grain {a b : PyData} (S : HS) (h : isSize a = false) : m_grain_many [.dat a, .dat b] S = .err "NoSize" S := by
  simp [m_grain_many, mRun, sSeq, sNil, sAsg, xOf, sRet, sIf, sRaise, sDrop, sFor, sPar, setE, dLit, dVar, dBin, dUn, dAnd, dOr, dNot, dIf, dTup, dLst, dCons, dNil, dCB, dCall, aCons, aNil, aHand, bOf, bNot, bAnd, bOr, dChain, dHand, dHRow, dHLen, sHSet, hndAt, dMt, isTy, R.bind, M.opt, toB, toI, gN, gT, gC, gZ, bad_grid1 S h]
theorem bad_fits {a b : PyData} (S : HS) (h : isSize a = false) : m_fits [.dat a, .dat b] S = .err "NoSize" S := by
  simp [m_fits, mRun, sSeq, sNil, sAsg, xOf, sRet, sIf, sRaise, sDrop, sFor, sPar, setE, dLit, dVar, dBin, dUn, dAnd, dOr, dNot, dIf, dTup, dLst, dCons, dNil, dCB, dCall, aCons, aNil, aHand, bOf, bNot, bAnd, bOr, dChain, dHand, dHRow, dHLen, sHSet, hndAt, dMt, isTy, R.bind, M.opt, toB, toI, gN, gT, gC, gZ, ev_check, h]
theorem ev_fits {x y u v : Int} (S : HS) (hx : Ok60 x) (hy : Ok60 y) (hu : Ok60 u) (hv : Ok60 v) : m_fits [.dat (sz x y), .dat (sz u v)] S = .ok (.bool (decide (x ≤ u) && decide (y ≤ v) || (decide (y ≤ u) && decide (x ≤ v)))) S := by
  have a1 := sz_ok hx hy
  have a2 := sz_ok hu hv
  simp only [m_fits, mRun, sSeq, sNil, sAsg, xOf, sRet, sIf, sRaise, sDrop, sFor, sPar, setE, dLit, dVar, dBin, dUn, dAnd, dOr, dNot, dIf, dTup, dLst, dCons, dNil, dCB, dCall, aCons, aNil, aHand, bOf, bNot, bAnd, bOr, dChain, dHand, dHRow, dHLen, sHSet, hndAt, dMt, isTy, R.bind, M.opt, toB, toI, gN, gT, gC, gZ, ev_check, List.map_cons, List.map_nil, List.getElem?_cons_succ, List.getElem?_cons_zero, List.cons_append, a1, a2, if_true]
  by_cases c1 : x ≤ u <;> by_cases c2 : y ≤ v <;> by_cases c3 : y ≤ u <;> by_cases c4 : x ≤ v <;> simp [sz, ixD, atI, ixN, leD, R.bind, M.opt, toB, c1, c2, c3, c4]
theorem ev_grain {x y u v : Int} (S : HS) (hx : Ok60 x) (hy : Ok60 y) (hu : Ok60 u) (hv : Ok60 v) : m_grain_many [.dat (sz x y), .dat (sz u v)] S = .ok (sz (x / u * (y / v)) (x / v * (y / u))) S := by
  have a2 := sz_ok hu hv
  have e1 := ev_grid S hx hy hu hv
  have e2 := ev_grid S hx hy hv hu
  simp only [m_grain_many, mRun, sSeq, sNil, sAsg, xOf, sRet, sIf, sRaise, sDrop, sFor, sPar, setE, dLit, dVar, dBin, dUn, dAnd, dOr, dNot, dIf, dTup, dLst, dCons, dNil, dCB, dCall, aCons, aNil, aHand, bOf, bNot, bAnd, bOr, dChain, dHand, dHRow, dHLen, sHSet, hndAt, dMt, isTy, R.bind, M.opt, toB, toI, gN, gT, gC, gZ, ev_is_size, List.map_cons, List.map_nil, List.getElem?_cons_succ, List.getElem?_cons_zero, List.cons_append, a2, e1, if_true]
  simp [sz, ixD, atI, ixN, R.bind, M.opt, toB, LINE]
  have e2' := e2
  simp only [sz] at e2'
  simp [e2']
end DL

namespace DL
open PySem PySem.Spec PyProof.Rows L2 LamX
/-- a size drawn -/
theorem ev_size (most : Int) (S : HS) (h1 : 1 ≤ most) (h2 : most ≤ 60) (hS : Good S) : (m__law_size [.hnd, .dat (.int most)] S).post (fun r S' => (∃ x y, r = sz x y ∧ Ok60 x ∧ Ok60 y) ∧ Good S') Ef := by
  refine run_post ?_
  show ((sRet _) [some .hnd, some (.dat (.int most))] S).post _ _
  simp only [mRun, sNil, sAsg, xOf, sRet, sIf, sRaise, sDrop, sFor, sPar, setE, dLit, dVar, dBin, dUn, dAnd, dOr, dNot, dIf, dTup, dLst, dCons, dNil, dCB, dCall, aCons, aNil, aHand, bOf, bNot, bAnd, bOr, dChain, dHand, dHRow, dHLen, sHSet, hndAt, dMt, isTy, M.opt, toB, toI, gN, gT, gC, gZ, post_bind_eq, post_ok, post_opt_some, seq_post, List.getElem?_cons_succ, List.getElem?_cons_zero, List.set_cons_zero, List.set_cons_succ, List.length_cons, List.length_nil, LINE, Nat.zero_add, Nat.reduceAdd, Nat.reduceLeDiff, reduceIte]
  refine use (ev_draw most S (by omega) (by omega) hS) ?_
  rintro _ S1 ⟨i, rfl, h3, h4, g1⟩
  simp only [mRun, sNil, sAsg, xOf, sRet, sIf, sRaise, sDrop, sFor, sPar, setE, dLit, dVar, dBin, dUn, dAnd, dOr, dNot, dIf, dTup, dLst, dCons, dNil, dCB, dCall, aCons, aNil, aHand, bOf, bNot, bAnd, bOr, dChain, dHand, dHRow, dHLen, sHSet, hndAt, dMt, isTy, M.opt, toB, toI, gN, gT, gC, gZ, post_bind_eq, post_ok, post_opt_some, seq_post, List.getElem?_cons_succ, List.getElem?_cons_zero, List.set_cons_zero, List.set_cons_succ, List.length_cons, List.length_nil, LINE, Nat.zero_add, Nat.reduceAdd, Nat.reduceLeDiff, reduceIte, addD]
  refine use (ev_draw most S1 (by omega) (by omega) g1) ?_
  rintro _ S2 ⟨j, rfl, h5, h6, g2⟩
  simp only [mRun, sNil, sAsg, xOf, sRet, sIf, sRaise, sDrop, sFor, sPar, setE, dLit, dVar, dBin, dUn, dAnd, dOr, dNot, dIf, dTup, dLst, dCons, dNil, dCB, dCall, aCons, aNil, aHand, bOf, bNot, bAnd, bOr, dChain, dHand, dHRow, dHLen, sHSet, hndAt, dMt, isTy, M.opt, toB, toI, gN, gT, gC, gZ, post_bind_eq, post_ok, post_opt_some, seq_post, List.getElem?_cons_succ, List.getElem?_cons_zero, List.set_cons_zero, List.set_cons_succ, List.length_cons, List.length_nil, LINE, Nat.zero_add, Nat.reduceAdd, Nat.reduceLeDiff, reduceIte, addD]
  exact ⟨⟨1 + i, 1 + j, rfl, ⟨by omega, by omega⟩, ⟨by omega, by omega⟩⟩, g2⟩
theorem mForI {φ : TGD} {g : SD} (I : Env → HS → Prop) : ∀ {ds : List PyData}, (∀ d ∈ ds, ∀ ρ S, I ρ S → ∃ ρ1, φ d ρ = some ρ1 ∧ (g ρ1 S).post (fun fl S' => ∃ ρ', fl = .nx ρ' ∧ I ρ' S') Ef) → ∀ ρ S, I ρ S → (mFor φ g ds ρ S).post (fun fl S' => ∃ ρ', fl = .nx ρ' ∧ I ρ' S') Ef
  | [], _, ρ, S, h => ⟨ρ, rfl, h⟩
  | d :: ds, st, ρ, S, h => by
    obtain ⟨ρ1, e, p⟩ := st d List.mem_cons_self ρ S h
    unfold mFor
    rw [e]
    show ((g ρ1 S).bind _).post _ _
    refine bnd p ?_
    rintro _ S' ⟨ρ', rfl, h'⟩
    exact mForI I (fun d hd => st d (List.mem_cons_of_mem _ hd)) ρ' S' h'
theorem ev_deep (S : HS) (hS : Good S) : (m__law_deep [.hnd] S).post (fun r S' => isSize r = false ∧ Good S') Ef := by
  refine run_post ?_
  show ((sSeq _ _) [some .hnd, none, none] S).post _ _
  simp only [mRun, sNil, sAsg, xOf, sRet, sIf, sRaise, sDrop, sFor, sPar, setE, dLit, dVar, dBin, dUn, dAnd, dOr, dNot, dIf, dTup, dLst, dCons, dNil, dCB, dCall, aCons, aNil, aHand, bOf, bNot, bAnd, bOr, dChain, dHand, dHRow, dHLen, sHSet, hndAt, dMt, isTy, M.opt, toB, toI, gN, gT, gC, gZ, post_bind_eq, post_ok, post_opt_some, seq_post, List.getElem?_cons_succ, List.getElem?_cons_zero, List.set_cons_zero, List.set_cons_succ, List.length_cons, List.length_nil, LINE, Nat.zero_add, Nat.reduceAdd, Nat.reduceLeDiff, reduceIte]
  refine use (ev_any _ S (by simp) (by simp) hS) ?_
  rintro r S1 ⟨hr, g⟩
  have hr : isSize r = false := by
    simp at hr
    rcases hr with rfl | rfl <;> rfl
  simp only [mRun, sNil, sAsg, xOf, sRet, sIf, sRaise, sDrop, sFor, sPar, setE, dLit, dVar, dBin, dUn, dAnd, dOr, dNot, dIf, dTup, dLst, dCons, dNil, dCB, dCall, aCons, aNil, aHand, bOf, bNot, bAnd, bOr, dChain, dHand, dHRow, dHLen, sHSet, hndAt, dMt, isTy, M.opt, toB, toI, gN, gT, gC, gZ, post_bind_eq, post_ok, post_opt_some, seq_post, List.getElem?_cons_succ, List.getElem?_cons_zero, List.set_cons_zero, List.set_cons_succ, List.length_cons, List.length_nil, LINE, Nat.zero_add, Nat.reduceAdd, Nat.reduceLeDiff, reduceIte, iRg1]
  refine use (ev_draw 8 S1 (by decide) (by decide) g) ?_
  rintro _ S2 ⟨i, rfl, h1, h2, g⟩
  have hb : BND (5 + i) = true := by
    unfold BND
    simp
    omega
  simp only [mRun, sNil, sAsg, xOf, sRet, sIf, sRaise, sDrop, sFor, sPar, setE, dLit, dVar, dBin, dUn, dAnd, dOr, dNot, dIf, dTup, dLst, dCons, dNil, dCB, dCall, aCons, aNil, aHand, bOf, bNot, bAnd, bOr, dChain, dHand, dHRow, dHLen, sHSet, hndAt, dMt, isTy, M.opt, toB, toI, gN, gT, gC, gZ, post_bind_eq, post_ok, post_opt_some, seq_post, List.getElem?_cons_succ, List.getElem?_cons_zero, List.set_cons_zero, List.set_cons_succ, List.length_cons, List.length_nil, LINE, Nat.zero_add, Nat.reduceAdd, Nat.reduceLeDiff, reduceIte, addD, hb, if_true]
  refine use (mForI (fun ρ S => ∃ d a, ρ = [some .hnd, some (.dat d), a] ∧ isSize d = false ∧ Good S) ?_ _ _ ⟨r, none, rfl, hr, g⟩) ?_
  · rintro x - _ S ⟨d, a, rfl, hd, g⟩
    refine ⟨[some .hnd, some (.dat d), some (.dat x)], rfl, ?_⟩
    simp only [mRun, sNil, sAsg, xOf, sRet, sIf, sRaise, sDrop, sFor, sPar, setE, dLit, dVar, dBin, dUn, dAnd, dOr, dNot, dIf, dTup, dLst, dCons, dNil, dCB, dCall, aCons, aNil, aHand, bOf, bNot, bAnd, bOr, dChain, dHand, dHRow, dHLen, sHSet, hndAt, dMt, isTy, M.opt, toB, toI, gN, gT, gC, gZ, post_bind_eq, post_ok, post_opt_some, seq_post, List.getElem?_cons_succ, List.getElem?_cons_zero, List.set_cons_zero, List.set_cons_succ, List.length_cons, List.length_nil, LINE, Nat.zero_add, Nat.reduceAdd, Nat.reduceLeDiff, reduceIte]
    refine use (ev_draw 2 S (by decide) (by decide) g) ?_
    rintro _ S2 ⟨i, rfl, h1, h2, g⟩
    cases hz : eqD (.int i) (.int 0) with
    | none => simp [eqD, SeqAt.shaped, PyData.canLay0, PyData.depth] at hz
    | some z =>
      have : ∃ b, z = .bool b := by
        simp [eqD, SeqAt.shaped, PyData.canLay0, PyData.depth] at hz
        exact ⟨_, hz.symm⟩
      obtain ⟨b, rfl⟩ := this
      simp only [mRun, sNil, sAsg, xOf, sRet, sIf, sRaise, sDrop, sFor, sPar, setE, dLit, dVar, dBin, dUn, dAnd, dOr, dNot, dIf, dTup, dLst, dCons, dNil, dCB, dCall, aCons, aNil, aHand, bOf, bNot, bAnd, bOr, dChain, dHand, dHRow, dHLen, sHSet, hndAt, dMt, isTy, M.opt, toB, toI, gN, gT, gC, gZ, post_bind_eq, post_ok, post_opt_some, seq_post, List.getElem?_cons_succ, List.getElem?_cons_zero, List.set_cons_zero, List.set_cons_succ, List.length_cons, List.length_nil, LINE, Nat.zero_add, Nat.reduceAdd, Nat.reduceLeDiff, reduceIte]
      cases b
      · simp only [mRun, sNil, sAsg, xOf, sRet, sIf, sRaise, sDrop, sFor, sPar, setE, dLit, dVar, dBin, dUn, dAnd, dOr, dNot, dIf, dTup, dLst, dCons, dNil, dCB, dCall, aCons, aNil, aHand, bOf, bNot, bAnd, bOr, dChain, dHand, dHRow, dHLen, sHSet, hndAt, dMt, isTy, M.opt, toB, toI, gN, gT, gC, gZ, post_bind_eq, post_ok, post_opt_some, seq_post, List.getElem?_cons_succ, List.getElem?_cons_zero, List.set_cons_zero, List.set_cons_succ, List.length_cons, List.length_nil, LINE, Nat.zero_add, Nat.reduceAdd, Nat.reduceLeDiff, reduceIte, Bool.false_eq_true, if_false]
        exact ⟨_, rfl, _, _, rfl, rfl, g⟩
      · simp only [mRun, sNil, sAsg, xOf, sRet, sIf, sRaise, sDrop, sFor, sPar, setE, dLit, dVar, dBin, dUn, dAnd, dOr, dNot, dIf, dTup, dLst, dCons, dNil, dCB, dCall, aCons, aNil, aHand, bOf, bNot, bAnd, bOr, dChain, dHand, dHRow, dHLen, sHSet, hndAt, dMt, isTy, M.opt, toB, toI, gN, gT, gC, gZ, post_bind_eq, post_ok, post_opt_some, seq_post, List.getElem?_cons_succ, List.getElem?_cons_zero, List.set_cons_zero, List.set_cons_succ, List.length_cons, List.length_nil, LINE, Nat.zero_add, Nat.reduceAdd, Nat.reduceLeDiff, reduceIte, if_true]
        exact ⟨_, rfl, _, _, rfl, rfl, g⟩
  · rintro _ S2 ⟨ρ', rfl, d, a, rfl, hd, g⟩
    simp only [mRun, sNil, sAsg, xOf, sRet, sIf, sRaise, sDrop, sFor, sPar, setE, dLit, dVar, dBin, dUn, dAnd, dOr, dNot, dIf, dTup, dLst, dCons, dNil, dCB, dCall, aCons, aNil, aHand, bOf, bNot, bAnd, bOr, dChain, dHand, dHRow, dHLen, sHSet, hndAt, dMt, isTy, M.opt, toB, toI, gN, gT, gC, gZ, post_bind_eq, post_ok, post_opt_some, seq_post, List.getElem?_cons_succ, List.getElem?_cons_zero, List.set_cons_zero, List.set_cons_succ, List.length_cons, List.length_nil, LINE, Nat.zero_add, Nat.reduceAdd, Nat.reduceLeDiff, reduceIte]
    exact ⟨hd, g⟩
end DL

namespace DL
open PySem PySem.Spec PyProof.Rows L2 LamX
theorem said_size {f : ED} {ρ : Env} {S S' : HS} (h : f ρ S = .err "NoSize" S') : dSaid 3 g__law_said f ρ S = .ok (.str "size") S' := by
  have e1 : SeqAt.shaped (.list [.bool true]) = true := by decide
  have e2 : SeqAt.shaped (.bool true) = true := by decide
  simp [dSaid, mSaid, g__law_said, sTry, h, noErr, noExc, isExc, suS_NoSize, su_NoSize, mRun, sSeq, sNil, sAsg, xOf, sRet, sIf, sRaise, sDrop, sFor, sPar, setE, dLit, dVar, dBin, dUn, dAnd, dOr, dNot, dIf, dTup, dLst, dCons, dNil, dCB, dCall, aCons, aNil, aHand, bOf, bNot, bAnd, bOr, dChain, dHand, dHRow, dHLen, sHSet, hndAt, dMt, isTy, R.bind, M.opt, toB, toI, gN, gT, gC, gZ, dIsE, cntD, idxD, e1, e2, PyData.eqv, eqD, SeqAt.shaped, PyData.canLay0, PyData.depth, PyData.canLayAll0, PyData.depthAll, ixD, atI, ixN, LINE, List.findIdx?_cons]
theorem ev_no_size (S : HS) (hS : Good S) : (m__law_no_size [.hnd] S).post (fun r S' => isSize r = false ∧ Good S') Ef := by
  refine run_post ?_
  show ((sSeq _ _) [some .hnd, none] S).post _ _
  simp only [mRun, sNil, sAsg, xOf, sRet, sIf, sRaise, sDrop, sFor, sPar, setE, dLit, dVar, dBin, dUn, dAnd, dOr, dNot, dIf, dTup, dLst, dCons, dNil, dCB, dCall, aCons, aNil, aHand, bOf, bNot, bAnd, bOr, dChain, dHand, dHRow, dHLen, sHSet, hndAt, dMt, isTy, M.opt, toB, toI, gN, gT, gC, gZ, post_bind_eq, post_ok, post_opt_some, seq_post, List.getElem?_cons_succ, List.getElem?_cons_zero, List.set_cons_zero, List.set_cons_succ, List.length_cons, List.length_nil, LINE, Nat.zero_add, Nat.reduceAdd, Nat.reduceLeDiff, reduceIte, negD]
  refine use (ev_deep S hS) ?_
  rintro r S1 ⟨hr, g⟩
  simp only [mRun, sNil, sAsg, xOf, sRet, sIf, sRaise, sDrop, sFor, sPar, setE, dLit, dVar, dBin, dUn, dAnd, dOr, dNot, dIf, dTup, dLst, dCons, dNil, dCB, dCall, aCons, aNil, aHand, bOf, bNot, bAnd, bOr, dChain, dHand, dHRow, dHLen, sHSet, hndAt, dMt, isTy, M.opt, toB, toI, gN, gT, gC, gZ, post_bind_eq, post_ok, post_opt_some, seq_post, List.getElem?_cons_succ, List.getElem?_cons_zero, List.set_cons_zero, List.set_cons_succ, List.length_cons, List.length_nil, LINE, Nat.zero_add, Nat.reduceAdd, Nat.reduceLeDiff, reduceIte, addD, List.cons_append, List.nil_append]
  refine use (ev_any _ S1 (by simp) (by simp) g) ?_
  rintro d S2 ⟨hd, g⟩
  refine ⟨?_, g⟩
  simp only [List.mem_cons, List.not_mem_nil, or_false] at hd
  rcases hd with rfl | rfl | rfl | rfl | rfl | rfl | rfl | rfl | rfl | rfl | rfl | rfl | rfl | rfl
  all_goals first | rfl | exact hr | decide
end DL

namespace DL
open PySem PySem.Spec PyProof.Rows L2 LamX
theorem pos_iff {a b : Int} (ha : Ok60 a) (hb : Ok60 b) : 0 < a / b ↔ b ≤ a := by
  have h1 := ha.1
  have h2 := hb.1
  constructor
  · intro h
    refine Int.not_lt.mp fun c => ?_
    rw [Int.ediv_eq_zero_of_lt (by omega) c] at h
    omega
  · intro h
    have := (Int.le_ediv_iff_mul_le (a := 1) (b := a) (c := b) (by omega)).mpr (by omega)
    omega
theorem fit_iff {h w p q : Int} (hh : Ok60 h) (hw : Ok60 w) (hp : Ok60 p) (hq : Ok60 q) : decide (0 < h / p * (w / q) + h / q * (w / p)) = (decide (p ≤ h) && decide (q ≤ w) || (decide (q ≤ h) && decide (p ≤ w))) := by
  have a1 := div60 hh hp
  have a2 := div60 hw hq
  have a3 := div60 hh hq
  have a4 := div60 hw hp
  have i1 := pos_iff hh hp
  have i2 := pos_iff hw hq
  have i3 := pos_iff hh hq
  have i4 := pos_iff hw hp
  have m1 : 0 ≤ h / p * (w / q) := Int.mul_nonneg a1.1 a2.1
  have m2 : 0 ≤ h / q * (w / p) := Int.mul_nonneg a3.1 a4.1
  rw [Bool.eq_iff_iff]
  simp only [decide_eq_true_eq, Bool.or_eq_true, Bool.and_eq_true]
  constructor
  · intro hpos
    by_cases c : 0 < h / p * (w / q)
    · left
      refine ⟨i1.mp ?_, i2.mp ?_⟩
      · refine Int.not_le.mp fun z => ?_
        have z : h / p = 0 := by omega
        rw [z, Int.zero_mul] at c; omega
      · refine Int.not_le.mp fun z => ?_
        have z : w / q = 0 := by omega
        rw [z, Int.mul_zero] at c; omega
    · right
      have c : 0 < h / q * (w / p) := by omega
      refine ⟨i3.mp ?_, i4.mp ?_⟩
      · refine Int.not_le.mp fun z => ?_
        have z : h / q = 0 := by omega
        rw [z, Int.zero_mul] at c; omega
      · refine Int.not_le.mp fun z => ?_
        have z : w / p = 0 := by omega
        rw [z, Int.mul_zero] at c; omega
  · rintro (⟨c, d⟩ | ⟨c, d⟩)
    · have := Int.mul_pos (i1.mpr c) (i2.mpr d)
      omega
    · have := Int.mul_pos (i3.mpr c) (i4.mpr d)
      omega
theorem area1 {h w p q : Int} (hh : Ok60 h) (hw : Ok60 w) (hp : Ok60 p) (hq : Ok60 q) : h / p * (w / q) * p * q ≤ h * w := by
  have h1 : h / p * p ≤ h := Int.ediv_mul_le _ (by have := hp.1; omega)
  have h2 : w / q * q ≤ w := Int.ediv_mul_le _ (by have := hq.1; omega)
  have a1 := div60 hh hp
  have a2 := div60 hw hq
  have e : h / p * (w / q) * p * q = (h / p * p) * (w / q * q) := by ac_rfl
  rw [e]
  exact Int.mul_le_mul h1 h2 (Int.mul_nonneg a2.1 (by have := hq.1; omega)) (by have := hh.1; omega)
theorem area2 {h w p q : Int} (hh : Ok60 h) (hw : Ok60 w) (hp : Ok60 p) (hq : Ok60 q) : h / q * (w / p) * p * q ≤ h * w := by
  have := area1 hh hw hq hp
  have e : h / q * (w / p) * p * q = h / q * (w / p) * q * p := by ac_rfl
  rw [e]
  exact this
theorem sh_int (i : Int) : SeqAt.shaped (.int i) = true := by simp [SeqAt.shaped, PyData.canLay0, PyData.depth]
theorem ev_right {h w p q : Int} (S : HS) (hh : Ok60 h) (hw : Ok60 w) (hp : Ok60 p) (hq : Ok60 q) : m__law_is_right [.dat (sz h w), .dat (sz p q)] S = .ok (.bool true) S := by
  have hp0 : 0 < p ∧ p < 1073741824 := ⟨by have := hp.1; omega, by have := hp.2; omega⟩
  have hq0 : 0 < q ∧ q < 1073741824 := ⟨by have := hq.1; omega, by have := hq.2; omega⟩
  have c1 : CMulB (h / p) (w / q) = true := cm' ⟨by have := div60 hh hp; omega, by have := div60 hh hp; omega⟩
  have c2 : CMulB (h / q) (w / p) = true := cm' ⟨by have := div60 hh hq; omega, by have := div60 hh hq; omega⟩
  have c3 : CMulB h w = true := cm' ⟨by have := hh.1; omega, by have := hh.2; omega⟩
  have c4 : ∀ x, CMulB x p = true := fun x => cm ⟨by omega, by omega⟩
  have c5 : ∀ x, CMulB x q = true := fun x => cm ⟨by omega, by omega⟩
  have g1 := ev_grid S hh hw hp hq
  have g2 := ev_grain S hh hw hp hq
  have g3 := ev_fits S hp hq hh hw
  have g4 := ev_grid S hw hh hq hp
  have g5 := ev_is_size (sz h w) S
  rw [sz_ok hh hw] at g5
  have f := fit_iff hh hw hp hq
  have m1 := area1 hh hw hp hq
  have m2 := area2 hh hw hp hq
  rw [← f] at g3
  simp only [sz] at g1 g2 g3 g4 g5 ⊢
  generalize hD : h / p * (w / q) = due at *
  generalize hO : h / q * (w / p) = other at *
  have hcomm : w / q * (h / p) = due := by rw [← hD, Int.mul_comm]
  rw [hcomm] at g4
  have hmax : ¬ (h * w < (if due < other then other else due) * p * q) := by
    split
    · omega
    · omega
  have r1 : ∀ b : Bool, rprB (.list [.bool b, .bool b]) = true := by decide
  have r2 : ∀ b : Bool, SeqAt.shaped (.str (PyData.shown (.list [.bool b, .bool b]))) = true := by decide +kernel
  have e1 : ∀ a : Int, neD (.list [.int a, .int a]) (.list [.int a, .int a]) = some (.bool false) := fun a => by simp [neD, SeqAt.shaped, PyData.canLay0, PyData.depth, PyData.canLayAll0, PyData.depthAll, PyData.eqv, PyData.eqvAll]
  have e2 : ∀ a b : Int, neD (.list [.tuple [.int a, .int b], .tuple [.int a, .int b]]) (.list [.tuple [.int a, .int b], .tuple [.int a, .int b]]) = some (.bool false) := fun a b => by simp [neD, SeqAt.shaped, PyData.canLay0, PyData.depth, PyData.canLayAll0, PyData.depthAll, PyData.eqv, PyData.eqvAll]
  have e3 : ∀ b : Bool, neD (.str (PyData.shown (.list [.bool b, .bool b]))) (.str (PyData.shown (.list [.bool b, .bool b]))) = some (.bool false) := fun b => by simp [neD, r2 b, PyData.eqv]
  have e4 : eqD (.int due) (.int due) = some (.bool true) := by simp [eqD, sh_int, PyData.eqv]
  simp [m__law_is_right, mRun, sSeq, sNil, sAsg, xOf, sRet, sIf, sRaise, sDrop, sFor, sPar, setE, dLit, dVar, dBin, dUn, dAnd, dOr, dNot, dIf, dTup, dLst, dCons, dNil, dCB, dCall, aCons, aNil, aHand, bOf, bNot, bAnd, bOr, dChain, dHand, dHRow, dHLen, sHSet, hndAt, dMt, isTy, R.bind, M.opt, toB, toI, gN, gT, gC, gZ, ixD, atI, ixN, divD, mulD, hp0, hq0, c1, c2, c3, c4, c5, hD, hO, g1, g2, g3, g4, g5, LINE, e1, e2, tupleD, rprD, r1, gtD, addD, e3, max2D, hmax, e4, isD]
end DL

namespace DL
open PySem PySem.Spec PyProof.Rows L2 LamX
theorem comp_abs (ρ : Env) (hρ : 2 < ρ.length) (S : HS) : ∀ l : List Int, mComp (gN 2) bYes (dCB absD (dCons (dCB intD (dCons (dVar 2) dNil)) dNil)) ρ (l.map PyData.int) S = .ok ((l.map fun i => if i < 0 then -i else i).map PyData.int) S
  | [] => rfl
  | i :: l => by
    rw [List.map_cons]
    unfold mComp
    have e : (ρ.set 2 (some (.dat (.int i))))[2]? = some (some (.dat (.int i))) := List.getElem?_set_self hρ
    simp [gN, M.opt, R.bind, bYes, noErr, dCB, dCons, dNil, dVar, e, intD, absD, comp_abs ρ hρ S l]
theorem ev_hand (ns : List Int) (S : HS) : m__law_hand [.scr ns] S = .ok (.list [.list (((ns.take 63).map fun i => if i < 0 then -i else i).map PyData.int), .int 0, .int 0, .int (83 + 5 * ((ns.take 63).length : Int)), .int 0]) S := by
  have hl : (ns.take 63).length ≤ 63 := by rw [List.length_take]; omega
  have c := comp_abs [some (.scr ns), none, none] (by simp) S (ns.take 63)
  have c5 : ∀ x, CMulB 5 x = true := fun x => cm' ⟨by omega, by omega⟩
  have l1 : ((ns.take 63).map PyData.int).length ≤ LINE := by rw [List.length_map]; exact Nat.le_trans hl (by decide)
  show R.bind ((sSeq _ _) [some (.scr ns), none, none] S) _ = _
  simp only [mRun, sSeq, sNil, sAsg, xOf, sRet, sIf, sRaise, sDrop, sFor, sPar, setE, dLit, dVar, dBin, dUn, dAnd, dOr, dNot, dIf, dTup, dLst, dCons, dNil, dCB, dCall, aCons, aNil, aHand, bOf, bNot, bAnd, bOr, dChain, dHand, dHRow, dHLen, sHSet, hndAt, dMt, isTy, R.bind, M.opt, toB, toI, gN, gT, gC, gZ, dComp, iSeq, dScr, seqD, wipeE, List.getElem?_cons_zero, List.set_cons_succ, List.set_cons_zero, List.length_cons, List.length_nil, l1, true_and, Nat.reduceAdd, Nat.zero_add, Nat.reduceLeDiff, if_true, c]
  simp [lenD, mulD, addD, c5, LINE]
theorem intsD_of (l : List Int) : intsD (l.map PyData.int) = some l := intsD_map l
theorem tr_law : ∀ ns, (t_law ns).post (fun d _ => d = .bool true) fun _ _ => False := by
  intro ns
  unfold t_law mLaw
  rw [ev_hand]
  simp only [handOf, intsD_of, Option.map_some]
  have hS : Good ⟨(ns.take 63).map fun i => if i < 0 then -i else i, 0, 0, 83 + 5 * ((ns.take 63).length : Int), 0⟩ := Int.le_refl _
  revert hS
  generalize (⟨(ns.take 63).map fun i => if i < 0 then -i else i, 0, 0, 83 + 5 * ((ns.take 63).length : Int), 0⟩ : HS) = S0
  intro hS
  refine bnd (P1 := fun fl S' => fl = .rt (.bool true)) ?_ ?_
  · show ((sSeq _ _) [none, some .hnd, none, none, none, none, none] S0).post _ _
    have o : ∀ i, 1 ≤ i → i ≤ 60 → Ok60 i := fun i a b => ⟨a, b⟩
    have t1 := ev_grid S0 (o 10 (by decide) (by decide)) (o 7 (by decide) (by decide)) (o 3 (by decide) (by decide)) (o 2 (by decide) (by decide))
    have t2 := ev_grain S0 (o 10 (by decide) (by decide)) (o 7 (by decide) (by decide)) (o 3 (by decide) (by decide)) (o 2 (by decide) (by decide))
    have t3 := ev_fits S0 (o 2 (by decide) (by decide)) (o 5 (by decide) (by decide)) (o 5 (by decide) (by decide)) (o 2 (by decide) (by decide))
    have t4 := ev_fits S0 (o 6 (by decide) (by decide)) (o 1 (by decide) (by decide)) (o 5 (by decide) (by decide)) (o 5 (by decide) (by decide))
    have t5 := ev_grain S0 (o 1 (by decide) (by decide)) (o 1 (by decide) (by decide)) (o 2 (by decide) (by decide)) (o 1 (by decide) (by decide))
    simp only [sz] at t1 t2 t3 t4 t5
    refine seqI (fun fl S' => fl = .nx [none, some .hnd, none, none, none, none, none] ∧ S0 = S') ?_ ?_
    · simp [mRun, sSeq, sNil, sAsg, xOf, sRet, sIf, sRaise, sDrop, sFor, sPar, setE, dLit, dVar, dBin, dUn, dAnd, dOr, dNot, dIf, dTup, dLst, dCons, dNil, dCB, dCall, aCons, aNil, aHand, bOf, bNot, bAnd, bOr, dChain, dHand, dHRow, dHLen, sHSet, hndAt, dMt, isTy, R.bind, M.opt, toB, toI, gN, gT, gC, gZ, t1, t2, LINE, neD, SeqAt.shaped, PyData.canLay0, PyData.depth, PyData.canLayAll0, PyData.depthAll, PyData.eqv, PyData.eqvAll, tupleD, R.post]
    · rintro _ _ ⟨rfl, rfl⟩
      refine seqI (fun fl S' => fl = .nx [none, some .hnd, none, none, none, none, none] ∧ S0 = S') ?_ ?_
      · simp [mRun, sSeq, sNil, sAsg, xOf, sRet, sIf, sRaise, sDrop, sFor, sPar, setE, dLit, dVar, dBin, dUn, dAnd, dOr, dNot, dIf, dTup, dLst, dCons, dNil, dCB, dCall, aCons, aNil, aHand, bOf, bNot, bAnd, bOr, dChain, dHand, dHRow, dHLen, sHSet, hndAt, dMt, isTy, R.bind, M.opt, toB, toI, gN, gT, gC, gZ, t3, LINE, isNotD, R.post]
      · rintro _ _ ⟨rfl, rfl⟩
        refine seqI (fun fl S' => fl = .nx [none, some .hnd, none, none, none, none, none] ∧ S0 = S') ?_ ?_
        · simp [mRun, sSeq, sNil, sAsg, xOf, sRet, sIf, sRaise, sDrop, sFor, sPar, setE, dLit, dVar, dBin, dUn, dAnd, dOr, dNot, dIf, dTup, dLst, dCons, dNil, dCB, dCall, aCons, aNil, aHand, bOf, bNot, bAnd, bOr, dChain, dHand, dHRow, dHLen, sHSet, hndAt, dMt, isTy, R.bind, M.opt, toB, toI, gN, gT, gC, gZ, t4, t5, LINE, isNotD, neD, SeqAt.shaped, PyData.canLay0, PyData.depth, PyData.canLayAll0, PyData.depthAll, PyData.eqv, PyData.eqvAll, tupleD, R.post]
        · rintro _ _ ⟨rfl, rfl⟩
          refine seqI (fun fl S' => ∃ ρ', fl = .nx ρ') ?_ ?_
          · simp only [mRun, sNil, sAsg, xOf, sRet, sIf, sRaise, sDrop, sFor, sPar, setE, dLit, dVar, dBin, dUn, dAnd, dOr, dNot, dIf, dTup, dLst, dCons, dNil, dCB, dCall, aCons, aNil, aHand, bOf, bNot, bAnd, bOr, dChain, dHand, dHRow, dHLen, sHSet, hndAt, dMt, isTy, M.opt, toB, toI, gN, gT, gC, gZ, post_bind_eq, post_ok, post_opt_some, seq_post, List.getElem?_cons_succ, List.getElem?_cons_zero, List.set_cons_zero, List.set_cons_succ, List.length_cons, List.length_nil, LINE, Nat.zero_add, Nat.reduceAdd, Nat.reduceLeDiff, reduceIte, iRg1]
            rw [if_pos (by decide)]
            show (mFor _ _ (rngD 0 (Int.toNat 10)) [none, some .hnd, none, none, none, none, none] S0).post _ _
            refine use (mForI (fun ρ S => ∃ a2 a3 a4 a5 a6, ρ = [none, some .hnd, a2, a3, a4, a5, a6] ∧ Good S) ?_ _ _ ⟨_, _, _, _, _, rfl, hS⟩) ?_
            · rintro x - _ S ⟨a2, a3, a4, a5, a6, rfl, g⟩
              refine ⟨[none, some .hnd, some (.dat x), a3, a4, a5, a6], rfl, ?_⟩
              simp only [mRun, sNil, sAsg, xOf, sRet, sIf, sRaise, sDrop, sFor, sPar, setE, dLit, dVar, dBin, dUn, dAnd, dOr, dNot, dIf, dTup, dLst, dCons, dNil, dCB, dCall, aCons, aNil, aHand, bOf, bNot, bAnd, bOr, dChain, dHand, dHRow, dHLen, sHSet, hndAt, dMt, isTy, M.opt, toB, toI, gN, gT, gC, gZ, post_bind_eq, post_ok, post_opt_some, seq_post, List.getElem?_cons_succ, List.getElem?_cons_zero, List.set_cons_zero, List.set_cons_succ, List.length_cons, List.length_nil, LINE, Nat.zero_add, Nat.reduceAdd, Nat.reduceLeDiff, reduceIte]
              refine use (ev_size 60 S (by decide) (by decide) g) ?_
              rintro _ S1 ⟨⟨h, w, rfl, hh, hw⟩, g⟩
              refine use (ev_any _ S1 (by simp) (by simp) g) ?_
              rintro r S2 ⟨hr, g⟩
              have hr : ∃ m, r = .int m ∧ 1 ≤ m ∧ m ≤ 60 := by
                simp at hr
                rcases hr with rfl | rfl
                · exact ⟨6, rfl, by decide, by decide⟩
                · exact ⟨60, rfl, by decide, by decide⟩
              obtain ⟨m, rfl, hm1, hm2⟩ := hr
              refine use (ev_size m S2 hm1 hm2 g) ?_
              rintro _ S3 ⟨⟨p, q, rfl, hp, hq⟩, g⟩
              simp only [ev_right S3 hh hw hp hq, mRun, sNil, sAsg, xOf, sRet, sIf, sRaise, sDrop, sFor, sPar, setE, dLit, dVar, dBin, dUn, dAnd, dOr, dNot, dIf, dTup, dLst, dCons, dNil, dCB, dCall, aCons, aNil, aHand, bOf, bNot, bAnd, bOr, dChain, dHand, dHRow, dHLen, sHSet, hndAt, dMt, isTy, M.opt, toB, toI, gN, gT, gC, gZ, post_bind_eq, post_ok, post_opt_some, seq_post, List.getElem?_cons_succ, List.getElem?_cons_zero, List.set_cons_zero, List.set_cons_succ, List.length_cons, List.length_nil, LINE, Nat.zero_add, Nat.reduceAdd, Nat.reduceLeDiff, reduceIte, Bool.not_true, Bool.false_eq_true, if_false]
              refine use (ev_no_size S3 g) ?_
              rintro nn S4 ⟨hn, g⟩
              refine use (ev_no_size S4 g) ?_
              rintro bad S5 ⟨hb, g⟩
              have k55 : isSize (.tuple [.int 5, .int 5]) = true := by decide
              simp only [mRun, sNil, sAsg, xOf, sRet, sIf, sRaise, sDrop, sFor, sPar, setE, dLit, dVar, dBin, dUn, dAnd, dOr, dNot, dIf, dTup, dLst, dCons, dNil, dCB, dCall, aCons, aNil, aHand, bOf, bNot, bAnd, bOr, dChain, dHand, dHRow, dHLen, sHSet, hndAt, dMt, isTy, M.opt, toB, toI, gN, gT, gC, gZ, post_bind_eq, post_ok, post_opt_some, seq_post, List.getElem?_cons_succ, List.getElem?_cons_zero, List.set_cons_zero, List.set_cons_succ, List.length_cons, List.length_nil, LINE, Nat.zero_add, Nat.reduceAdd, Nat.reduceLeDiff, reduceIte, List.mem_cons, List.not_mem_nil, or_false, forall_eq_or_imp, forall_eq, Nat.reduceLT, true_and]
              have s1 : ∀ S ρ, dSaid 3 g__law_said (dCall m_grid_many (aCons (dVar 4) (aCons (dVar 6) aNil))) [none, some .hnd, some (.dat x), ρ, some (.dat nn), some (.dat bad), some (.dat (.tuple [.int 5, .int 5]))] S = .ok (.str "size") S := fun S ρ => said_size (by simp [mRun, sSeq, sNil, sAsg, xOf, sRet, sIf, sRaise, sDrop, sFor, sPar, setE, dLit, dVar, dBin, dUn, dAnd, dOr, dNot, dIf, dTup, dLst, dCons, dNil, dCB, dCall, aCons, aNil, aHand, bOf, bNot, bAnd, bOr, dChain, dHand, dHRow, dHLen, sHSet, hndAt, dMt, isTy, R.bind, M.opt, toB, toI, gN, gT, gC, gZ, bad_grid1 S hn])
              have s2 : ∀ S ρ, dSaid 3 g__law_said (dCall m_grid_many (aCons (dVar 6) (aCons (dVar 5) aNil))) [none, some .hnd, some (.dat x), ρ, some (.dat nn), some (.dat bad), some (.dat (.tuple [.int 5, .int 5]))] S = .ok (.str "size") S := fun S ρ => said_size (by simp [mRun, sSeq, sNil, sAsg, xOf, sRet, sIf, sRaise, sDrop, sFor, sPar, setE, dLit, dVar, dBin, dUn, dAnd, dOr, dNot, dIf, dTup, dLst, dCons, dNil, dCB, dCall, aCons, aNil, aHand, bOf, bNot, bAnd, bOr, dChain, dHand, dHRow, dHLen, sHSet, hndAt, dMt, isTy, R.bind, M.opt, toB, toI, gN, gT, gC, gZ, bad_grid2 S k55 hb])
              have s3 : ∀ S ρ, dSaid 3 g__law_said (dCall m_grain_many (aCons (dVar 4) (aCons (dVar 5) aNil))) [none, some .hnd, some (.dat x), ρ, some (.dat nn), some (.dat bad), some (.dat (.tuple [.int 5, .int 5]))] S = .ok (.str "size") S := fun S ρ => said_size (by simp [mRun, sSeq, sNil, sAsg, xOf, sRet, sIf, sRaise, sDrop, sFor, sPar, setE, dLit, dVar, dBin, dUn, dAnd, dOr, dNot, dIf, dTup, dLst, dCons, dNil, dCB, dCall, aCons, aNil, aHand, bOf, bNot, bAnd, bOr, dChain, dHand, dHRow, dHLen, sHSet, hndAt, dMt, isTy, R.bind, M.opt, toB, toI, gN, gT, gC, gZ, bad_grain S hn])
              have s4 : ∀ S ρ, dSaid 3 g__law_said (dCall m_fits (aCons (dVar 4) (aCons (dVar 6) aNil))) [none, some .hnd, some (.dat x), ρ, some (.dat nn), some (.dat bad), some (.dat (.tuple [.int 5, .int 5]))] S = .ok (.str "size") S := fun S ρ => said_size (by simp [mRun, sSeq, sNil, sAsg, xOf, sRet, sIf, sRaise, sDrop, sFor, sPar, setE, dLit, dVar, dBin, dUn, dAnd, dOr, dNot, dIf, dTup, dLst, dCons, dNil, dCB, dCall, aCons, aNil, aHand, bOf, bNot, bAnd, bOr, dChain, dHand, dHRow, dHLen, sHSet, hndAt, dMt, isTy, R.bind, M.opt, toB, toI, gN, gT, gC, gZ, bad_fits S hn])
              have sh : SeqAt.shaped (.list [.str "size", .str "size", .str "size", .str "size"]) = true := by decide +kernel
              simp [mRun, sSeq, sNil, sAsg, xOf, sRet, sIf, sRaise, sDrop, sFor, sPar, setE, dLit, dVar, dBin, dUn, dAnd, dOr, dNot, dIf, dTup, dLst, dCons, dNil, dCB, dCall, aCons, aNil, aHand, bOf, bNot, bAnd, bOr, dChain, dHand, dHRow, dHLen, sHSet, hndAt, dMt, isTy, R.bind, M.opt, toB, toI, gN, gT, gC, gZ, s1, s2, s3, s4, LINE, addD, mulD, neD, sh, PyData.eqv, PyData.eqvAll, ev_is_size, hn, isNotD, R.post, g]
            · rintro _ S' ⟨ρ', rfl, _⟩
              exact ⟨ρ', rfl⟩
          · rintro _ S' ⟨ρ', rfl⟩
            exact rfl
  · rintro _ S' rfl
    exact rfl
end DL

namespace DL
open PySem PySem.Spec PyProof.Rows L2 LamX

theorem init_ok {P : Program} {w : World} {K : PySem.W.Frag} {mg : Str → Option Value} {base : Heap} {fI : Addr} (i0 : InitAt K "PrintError.__init__" (inClass (top 1) 0) fI) (hm : mg "ValueError" = none) (vV : PySem.W.findCls K (.type "ValueError") (.type "type") "__init__" = some (.val (.builtin "ValueError.__init__"))) : InitOk P w K mg base fI := by
  obtain ⟨fd, F⟩ := i0
  have S : FnScope ["self"] ["self"] (defScope (inClass (top 1) 0)) := C8.fnScope_by (by decide +kernel)
  exact ⟨fd, F.binds (ps := ["self"]) fun _ _ _ _ _ _ us hl => match us, hl with | [_], _ => rfl, fn_init F S fun cdv A outer s H E => pss_one (ps_expr (pe_veinit rfl hm vV (pa_cons (pv 0) pa_nil)))⟩
theorem main_G {l : PySem.W.OpenLaw} {w : World} {K : PySem.W.Frag} {mg mb : Str → Option Value} {h : Heap} {q : Program} {loose : List Str} {mean : ExcName → Option Value} {fa fI : Addr} {c__law_hand c_is_tuple c_is_integer c_is_within c_is_size c_check_size c_fits c_grid_many c_grain_many c__law_is_right c__law_draw c__law_any c__law_deep c__law_no_size c__law_said c__law_size c_law C_NoSize C_PrintError P_law : Addr} {t_MOST_SIDE : Tok} {e_law : DefRec} (Tp : Top q loose mean mg mb h) (X : K.In h) (hfa : mg "law" = some (.ref fa))
    (d__law_hand : DefC K mg "_law_hand" (top 15) c__law_hand)
    (d_is_tuple : DefC K mg "is_tuple" (top 6) c_is_tuple)
    (d_is_integer : DefC K mg "is_integer" (top 4) c_is_integer)
    (d_is_within : DefC K mg "is_within" (top 5) c_is_within)
    (d_is_size : DefC K mg "is_size" (top 9) c_is_size)
    (d_check_size : DefC K mg "check_size" (top 10) c_check_size)
    (d_fits : DefC K mg "fits" (top 13) c_fits)
    (d_grid_many : DefC K mg "grid_many" (top 11) c_grid_many)
    (d_grain_many : DefC K mg "grain_many" (top 12) c_grain_many)
    (d__law_is_right : DefC K mg "_law_is_right" (top 22) c__law_is_right)
    (d__law_draw : DefC K mg "_law_draw" (top 16) c__law_draw)
    (d__law_any : DefC K mg "_law_any" (top 17) c__law_any)
    (d__law_deep : DefC K mg "_law_deep" (top 18) c__law_deep)
    (d__law_no_size : DefC K mg "_law_no_size" (top 20) c__law_no_size)
    (d__law_said : DefC K mg "_law_said" (top 21) c__law_said)
    (d__law_size : DefC K mg "_law_size" (top 19) c__law_size)
    (d_law : DefC K mg "law" (top 23) c_law)
    (F_NoSize : ExF K mg "NoSize" C_NoSize fI)
    (F_PrintError : ExF K mg "PrintError" C_PrintError fI)
    (i0 : InitAt K "PrintError.__init__" (inClass (top 1) 0) fI)
    (vV : PySem.W.findCls K (.type "ValueError") (.type "type") "__init__" = some (.val (.builtin "ValueError.__init__")))
    (x_NoSize : PySem.W.exmOne K (.ref C_NoSize) (.ref C_PrintError) = some true)
    (k_NoSize_ValueError : PySem.W.kitOne K (.ref C_NoSize) (.type "ValueError") = some true)
    (k_NoSize_NoSize : PySem.W.kitOne K (.ref C_NoSize) (.ref C_NoSize) = some true)
    (b_ValueError : PySem.W.nsIn K mainGlobals "ValueError" = some none)
    (b_abs : PySem.W.nsIn K mainGlobals "abs" = some none)
    (b_all : PySem.W.nsIn K mainGlobals "all" = some none)
    (b_bool : PySem.W.nsIn K mainGlobals "bool" = some none)
    (b_int : PySem.W.nsIn K mainGlobals "int" = some none)
    (b_isinstance : PySem.W.nsIn K mainGlobals "isinstance" = some none)
    (b_len : PySem.W.nsIn K mainGlobals "len" = some none)
    (b_max : PySem.W.nsIn K mainGlobals "max" = some none)
    (b_range : PySem.W.nsIn K mainGlobals "range" = some none)
    (b_repr : PySem.W.nsIn K mainGlobals "repr" = some none)
    (b_tuple : PySem.W.nsIn K mainGlobals "tuple" = some none)
    (z_MOST_SIDE : PySem.W.nsIn K mainGlobals "MOST_SIDE" = some (some (Value.int 60 t_MOST_SIDE)))
    (tb_law : PySem.W.tabIn K "law" = some (c_law, P_law))
    (nt_law : K.lookup P_law = none)
    (r_law : (recsOf q).find? (fun e => e.name == ("law" : Str)) = some e_law)
    (tr : ∀ ns, (t_law ns).post (fun d _ => d = .bool true) fun _ _ => False) : LawG l w K 9 "script" mg fa h := by
  have G := Tp.g
  have B : Bts mg := ⟨PySem.W.mg_none_of X G b_ValueError, PySem.W.mg_none_of X G b_abs, PySem.W.mg_none_of X G b_all, PySem.W.mg_none_of X G b_bool, PySem.W.mg_none_of X G b_int, PySem.W.mg_none_of X G b_isinstance, PySem.W.mg_none_of X G b_len, PySem.W.mg_none_of X G b_max, PySem.W.mg_none_of X G b_range, PySem.W.mg_none_of X G b_repr, PySem.W.mg_none_of X G b_tuple⟩
  have Z : Cst mg := ⟨⟨_, PySem.W.mg_of X G z_MOST_SIDE, _, rfl⟩⟩
  have th_law := PySem.W.tab_of Tp X r_law tb_law
  have e0 := d_law
  have key : ∀ base : Heap, K.In base → base.Ns mainGlobals mg → (∀ p ∈ ([(c_law, P_law)] : List (Addr × Addr)), TabB base mg p.1 p.2) → ∃ (f : Addr) (fd : FuncData), mg "law" = some (.ref f) ∧ (∀ (s : Shared) (u : Value), BindsTo s fd ⟨[u], []⟩ [("script", u)]) ∧ FnG l.prog w K mg base (L2.CX l.prog w) 9 f fd ["script"] (spLaw K [(P_law, (envOfC "law" (defScope (top 23)) 0 0 (.ref c_law)).qual ++ "<lambda>")]) := by
    intro base hb1 hb2 TBs
    have I0 : InitOk l.prog w K mg base fI := init_ok i0 (PySem.W.mg_none_of X G b_ValueError) vV
    have SO := said_ok (P := l.prog) (w := w) (base := base) (T := [(P_law, (envOfC "law" (defScope (top 23)) 0 0 (.ref c_law)).qual ++ "<lambda>")]) (cS := c__law_said) (k := 7) B Z F_NoSize F_PrintError x_NoSize k_NoSize_ValueError k_NoSize_NoSize
    have f__law_hand := ok__law_hand (P := l.prog) (w := w) (base := base) (T := [(P_law, (envOfC "law" (defScope (top 23)) 0 0 (.ref c_law)).qual ++ "<lambda>")]) d__law_hand B Z 
    have f_is_tuple := ok_is_tuple (P := l.prog) (w := w) (base := base) (T := [(P_law, (envOfC "law" (defScope (top 23)) 0 0 (.ref c_law)).qual ++ "<lambda>")]) d_is_tuple B Z 
    have f_is_integer := ok_is_integer (P := l.prog) (w := w) (base := base) (T := [(P_law, (envOfC "law" (defScope (top 23)) 0 0 (.ref c_law)).qual ++ "<lambda>")]) d_is_integer B Z 
    have f_is_within := ok_is_within (P := l.prog) (w := w) (base := base) (T := [(P_law, (envOfC "law" (defScope (top 23)) 0 0 (.ref c_law)).qual ++ "<lambda>")]) d_is_within B Z f_is_integer
    have f_is_size := ok_is_size (P := l.prog) (w := w) (base := base) (T := [(P_law, (envOfC "law" (defScope (top 23)) 0 0 (.ref c_law)).qual ++ "<lambda>")]) d_is_size B Z f_is_within f_is_tuple
    have f_check_size := ok_check_size (P := l.prog) (w := w) (base := base) (T := [(P_law, (envOfC "law" (defScope (top 23)) 0 0 (.ref c_law)).qual ++ "<lambda>")]) d_check_size B Z f_is_size F_NoSize I0
    have f_fits := ok_fits (P := l.prog) (w := w) (base := base) (T := [(P_law, (envOfC "law" (defScope (top 23)) 0 0 (.ref c_law)).qual ++ "<lambda>")]) d_fits B Z f_check_size
    have f_grid_many := ok_grid_many (P := l.prog) (w := w) (base := base) (T := [(P_law, (envOfC "law" (defScope (top 23)) 0 0 (.ref c_law)).qual ++ "<lambda>")]) d_grid_many B Z f_check_size
    have f_grain_many := ok_grain_many (P := l.prog) (w := w) (base := base) (T := [(P_law, (envOfC "law" (defScope (top 23)) 0 0 (.ref c_law)).qual ++ "<lambda>")]) d_grain_many B Z f_is_size f_grid_many
    have f__law_is_right := ok__law_is_right (P := l.prog) (w := w) (base := base) (T := [(P_law, (envOfC "law" (defScope (top 23)) 0 0 (.ref c_law)).qual ++ "<lambda>")]) d__law_is_right B Z f_grid_many f_grain_many f_fits f_is_size
    have f__law_draw := ok__law_draw (P := l.prog) (w := w) (base := base) (T := [(P_law, (envOfC "law" (defScope (top 23)) 0 0 (.ref c_law)).qual ++ "<lambda>")]) d__law_draw B Z 
    have f__law_any := ok__law_any (P := l.prog) (w := w) (base := base) (T := [(P_law, (envOfC "law" (defScope (top 23)) 0 0 (.ref c_law)).qual ++ "<lambda>")]) d__law_any B Z f__law_draw
    have f__law_deep := ok__law_deep (P := l.prog) (w := w) (base := base) (T := [(P_law, (envOfC "law" (defScope (top 23)) 0 0 (.ref c_law)).qual ++ "<lambda>")]) d__law_deep B Z f__law_any f__law_draw
    have f__law_no_size := ok__law_no_size (P := l.prog) (w := w) (base := base) (T := [(P_law, (envOfC "law" (defScope (top 23)) 0 0 (.ref c_law)).qual ++ "<lambda>")]) d__law_no_size B Z f__law_deep f__law_any
    have f__law_size := ok__law_size (P := l.prog) (w := w) (base := base) (T := [(P_law, (envOfC "law" (defScope (top 23)) 0 0 (.ref c_law)).qual ++ "<lambda>")]) d__law_size B Z f__law_draw
    exact ok_law (T := [(P_law, (envOfC "law" (defScope (top 23)) 0 0 (.ref c_law)).qual ++ "<lambda>")]) d_law B Z f__law_hand f_grain_many f_grid_many f_fits f__law_any f__law_size f__law_is_right f__law_no_size f_is_size d__law_said SO (TBs (c_law, P_law) (by simp)) (by simp) (by intro p hp he; simp only [List.mem_cons, List.not_mem_nil, or_false] at hp; rcases hp with rfl <;> first | rfl | (simp [] at he)) tr
  refine lawG_of hfa (cs := [(c_law, P_law)]) (T := [(P_law, (envOfC "law" (defScope (top 23)) 0 0 (.ref c_law)).qual ++ "<lambda>")]) ?_ ?_ ?_ ?_ key
  · intro p hp
    simp only [List.mem_cons, List.not_mem_nil, or_false] at hp
    rcases hp with rfl
    · exact th_law.2
  · intro p hp
    simp only [List.mem_cons, List.not_mem_nil, or_false] at hp
    rcases hp with rfl
    · exact nt_law
  · intro p hp
    simp only [List.mem_cons, List.not_mem_nil, or_false] at hp
    rcases hp with rfl
    · exact th_law.1
  · intro p hp
    simp only [List.mem_cons, List.not_mem_nil, or_false] at hp
    rcases hp with rfl
    · simp
end DL
section
open PySem PySem.W PyProof.Rows
open_top headL for PySem.Challenge.rw_printyard_k50_whole_pieces_in_rows_on_sh
end
open PySem PySem.W PyProof.Rows
set_option maxRecDepth 100000 in
set_option maxHeartbeats 0 in
theorem PySem.Challenge.cw_printyard_k50_whole_pieces_in_rows_on_sh_holds : PySem.Challenge.rw_printyard_k50_whole_pieces_in_rows_on_sh.Holds :=
  headL (by
  refine DL.walkG (l := PySem.Challenge.rw_printyard_k50_whole_pieces_in_rows_on_sh) (k := 9) (x := "script") rfl rfl ⟨rfl, by decide, by decide⟩ (fun w h Y => by first | exact PySem.W.km_in_of Y | exact PySem.W.kIn_of Y) ?F
  case F =>
    intro w mg mb mean fa h Y KX G hmg
    have GG := G.g
    refine' DL.main_G G KX hmg ?d__law_hand ?d_is_tuple ?d_is_integer ?d_is_within ?d_is_size ?d_check_size ?d_fits ?d_grid_many ?d_grain_many ?d__law_is_right ?d__law_draw ?d__law_any ?d__law_deep ?d__law_no_size ?d__law_said ?d__law_size ?d_law ?F_NoSize ?F_PrintError ?i0 ?vV ?x_NoSize ?k_NoSize_ValueError ?k_NoSize_NoSize ?b_ValueError ?b_abs ?b_all ?b_bool ?b_int ?b_isinstance ?b_len ?b_max ?b_range ?b_repr ?b_tuple ?z_MOST_SIDE ?tb_law ?nt_law ?r_law DL.tr_law
    (case d__law_hand => refine' DL.mkDef KX GG ?a ?l ?cc ?k; (case a => k_is); (case l => k_is); (case cc => k_is); (case k => k_is))
    (case d_is_tuple => refine' DL.mkDef KX GG ?a ?l ?cc ?k; (case a => k_is); (case l => k_is); (case cc => k_is); (case k => k_is))
    (case d_is_integer => refine' DL.mkDef KX GG ?a ?l ?cc ?k; (case a => k_is); (case l => k_is); (case cc => k_is); (case k => k_is))
    (case d_is_within => refine' DL.mkDef KX GG ?a ?l ?cc ?k; (case a => k_is); (case l => k_is); (case cc => k_is); (case k => k_is))
    (case d_is_size => refine' DL.mkDef KX GG ?a ?l ?cc ?k; (case a => k_is); (case l => k_is); (case cc => k_is); (case k => k_is))
    (case d_check_size => refine' DL.mkDef KX GG ?a ?l ?cc ?k; (case a => k_is); (case l => k_is); (case cc => k_is); (case k => k_is))
    (case d_fits => refine' DL.mkDef KX GG ?a ?l ?cc ?k; (case a => k_is); (case l => k_is); (case cc => k_is); (case k => k_is))
    (case d_grid_many => refine' DL.mkDef KX GG ?a ?l ?cc ?k; (case a => k_is); (case l => k_is); (case cc => k_is); (case k => k_is))
    (case d_grain_many => refine' DL.mkDef KX GG ?a ?l ?cc ?k; (case a => k_is); (case l => k_is); (case cc => k_is); (case k => k_is))
    (case d__law_is_right => refine' DL.mkDef KX GG ?a ?l ?cc ?k; (case a => k_is); (case l => k_is); (case cc => k_is); (case k => k_is))
    (case d__law_draw => refine' DL.mkDef KX GG ?a ?l ?cc ?k; (case a => k_is); (case l => k_is); (case cc => k_is); (case k => k_is))
    (case d__law_any => refine' DL.mkDef KX GG ?a ?l ?cc ?k; (case a => k_is); (case l => k_is); (case cc => k_is); (case k => k_is))
    (case d__law_deep => refine' DL.mkDef KX GG ?a ?l ?cc ?k; (case a => k_is); (case l => k_is); (case cc => k_is); (case k => k_is))
    (case d__law_no_size => refine' DL.mkDef KX GG ?a ?l ?cc ?k; (case a => k_is); (case l => k_is); (case cc => k_is); (case k => k_is))
    (case d__law_said => refine' DL.mkDef KX GG ?a ?l ?cc ?k; (case a => k_is); (case l => k_is); (case cc => k_is); (case k => k_is))
    (case d__law_size => refine' DL.mkDef KX GG ?a ?l ?cc ?k; (case a => k_is); (case l => k_is); (case cc => k_is); (case k => k_is))
    (case d_law => refine' DL.mkDef KX GG ?a ?l ?cc ?k; (case a => k_is); (case l => k_is); (case cc => k_is); (case k => k_is))
    (case F_NoSize => refine' DL.mkEx KX GG ?a ?xL ?bb ?sa ?ga ?gg ?i1 ?t1 ?kC ?eC ?tC ?hd ?ca ?cn ?ct ?mo; (case a => k_is); (case xL => k_is); (case bb => decide +kernel); (case sa => k_is); (case ga => k_is); (case gg => k_is); (case i1 => k_is); (case t1 => k_is); (case kC => k_is); (case eC => k_is); (case tC => k_is); (case hd => k_is); (case ca => k_is); (case cn => k_is); (case ct => k_is); (case mo => k_is))
    (case F_PrintError => refine' DL.mkEx KX GG ?a ?xL ?bb ?sa ?ga ?gg ?i1 ?t1 ?kC ?eC ?tC ?hd ?ca ?cn ?ct ?mo; (case a => k_is); (case xL => k_is); (case bb => decide +kernel); (case sa => k_is); (case ga => k_is); (case gg => k_is); (case i1 => k_is); (case t1 => k_is); (case kC => k_is); (case eC => k_is); (case tC => k_is); (case hd => k_is); (case ca => k_is); (case cn => k_is); (case ct => k_is); (case mo => k_is))
    (case i0 => refine' DL.mkInit ?l ?c ?k; (case l => k_is); (case c => k_is); (case k => k_is))
    (case vV => first | k_is | kernel_rfl)
    (case x_NoSize => first | rfl | k_is | kernel_rfl)
    (case k_NoSize_ValueError => first | rfl | k_is | kernel_rfl)
    (case k_NoSize_NoSize => first | rfl | k_is | kernel_rfl)
    (case b_ValueError => first | k_is | kernel_rfl)
    (case b_abs => first | k_is | kernel_rfl)
    (case b_all => first | k_is | kernel_rfl)
    (case b_bool => first | k_is | kernel_rfl)
    (case b_int => first | k_is | kernel_rfl)
    (case b_isinstance => first | k_is | kernel_rfl)
    (case b_len => first | k_is | kernel_rfl)
    (case b_max => first | k_is | kernel_rfl)
    (case b_range => first | k_is | kernel_rfl)
    (case b_repr => first | k_is | kernel_rfl)
    (case b_tuple => first | k_is | kernel_rfl)
    (case z_MOST_SIDE => first | k_is | kernel_rfl)
    (case tb_law => refine' DL.tabIn_of ?a ?l ?hc ?lc ?hv; (case a => k_is); (case l => k_is); (case hc => rfl); (case lc => k_is); (case hv => rfl))
    (case nt_law => first | k_is | kernel_rfl)
    (case r_law => rfl)
    )
#print axioms PySem.Challenge.cw_printyard_k50_whole_pieces_in_rows_on_sh_holds

