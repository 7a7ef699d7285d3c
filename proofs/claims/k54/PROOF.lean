import PyProof.Rows.All
import Wide.All
import OpenK.AllK
import Wide.FinOn
import HandS.ForMost
import HandS.Exc
import HandS.ExcOwn
import HandS.TryOnly
import HandS.WordsExc
import HandS.Walk
import HandS.TupAny
import HandS.IsInst
import HandS.SortInts
import HandS.RaiseMore
import HandS.Conv
import HandS.Style
import KE.DataEq
import PySem.Challenge.RW_stackeffect_k54_conflicts_of_items
set_option Elab.async false
set_option linter.all false
set_option maxRecDepth 100000
set_option maxHeartbeats 4000000
/-! DL0: plain data D over the tracked heap, cells (things that change), and what stays. -/
namespace DL
open PySem PySem.Spec PyProof.Rows L2
/-- plain data: never changed once made; fz: the script (a list that stands in the module or is locked); raw: any value as it is -/
inductive D where
  | non | bl (b : Bool) | int (i : Int) | str (x : Str) | lst (xs : List D) | tup (xs : List D) | dct (kvs : List (Key × D)) | fz (ns : List Int) | raw (v : V)
/-- what a name may hold: data, or the k-th cell -/
inductive AV where
  | d (x : D) | cell (k : Nat)
/-- what a cell holds -/
inductive CC where
  | lst (xs : List AV) | dct (kvs : List (Key × AV)) | ins (C : Addr) (fs : List (Str × AV))
abbrev Slots := List (Option AV)
section
variable (K : PySem.W.Frag) (Z : List Addr) (H : Hp)
mutual
/-- v stands for d, all its objects outside Z -/
inductive Rp : V → D → Prop
  | non : Rp .non .non
  | bl (b : Bool) : Rp (.bl b) (.bl b)
  | int (i : Int) : Rp (.int i) (.int i)
  | str (x : Str) : Rp (.str x) (.str x)
  | lst {a : Addr} {vs : List V} {ds : List D} : a ∉ Z → H a = some (.lst vs) → RpA vs ds → Rp (.ref a) (.lst ds)
  | tup {a : Addr} {vs : List V} {ds : List D} : a ∉ Z → H a = some (.tup vs) → RpA vs ds → Rp (.ref a) (.tup ds)
  | dct {a : Addr} {ks : List (Key × V)} {es : List (Key × D)} : a ∉ Z → H a = some (.dK ks) → RpK ks es → Rp (.ref a) (.dct es)
  | fzT {a : Addr} {o : Obj} {ns : List Int} : a ∉ Z → H a = some (.frz o (.lst (ns.map V.int))) → Rp (.ref a) (.fz ns)
  | fzK {a : Addr} {ns : List Int} : (∃ (o : Obj) (its : Array Value) (n : Nat), K.lookup a = some o ∧ o.cls = .type "list" ∧ o.dict = none ∧ o.data = .seq its n ∧ its.size ≤ sizeLine ∧ Vals (ns.map V.int) its.toList) → Rp (.ref a) (.fz ns)
  | raw (v : V) : Rp v (.raw v)
inductive RpA : List V → List D → Prop
  | nil : RpA [] []
  | cons {v : V} {vs : List V} {d : D} {ds : List D} : Rp v d → RpA vs ds → RpA (v :: vs) (d :: ds)
inductive RpK : List (Key × V) → List (Key × D) → Prop
  | nil : RpK [] []
  | cons {k : Key} {v : V} {ks : List (Key × V)} {d : D} {es : List (Key × D)} : Rp v d → RpK ks es → RpK ((k, v) :: ks) ((k, d) :: es)
end
end
/-- nothing but what stands at α may change -/
def Ext (α : List Addr) (H H' : Hp) : Prop := ∀ a, a ∉ α → ∀ o, H a = some o → H' a = some o
section
variable {K : PySem.W.Frag} {α Z Z' : List Addr} {H H1 H2 H' : Hp} {v : V} {d : D}
theorem Ext.refl (α : List Addr) (H : Hp) : Ext α H H := fun _ _ _ e => e
theorem Ext.trans (a : Ext α H H1) (b : Ext α H1 H2) : Ext α H H2 := fun p hp o e => b p hp o (a p hp o e)
theorem Ext.new {p : Addr} {o : HO} (h : H p = none) : Ext α H (upd H p o) := fun a _ u e => by
  rw [upd_ne (ne_of_none e h)]; exact e
theorem Ext.same {H' : Hp} (h : ∀ a o, H a = some o → H' a = some o) : Ext α H H' := fun a _ o e => h a o e
mutual
theorem Rp.mono (hz : ∀ a ∈ α, a ∈ Z) (x : Ext α H H') : ∀ {v : V} {d : D}, Rp K Z H v d → Rp K Z H' v d
  | _, _, .non => .non
  | _, _, .bl b => .bl b
  | _, _, .int i => .int i
  | _, _, .str s => .str s
  | _, _, .lst n h r => .lst n (x _ (fun q => n (hz _ q)) _ h) (RpA.mono hz x r)
  | _, _, .tup n h r => .tup n (x _ (fun q => n (hz _ q)) _ h) (RpA.mono hz x r)
  | _, _, .dct n h r => .dct n (x _ (fun q => n (hz _ q)) _ h) (RpK.mono hz x r)
  | _, _, .fzT n h => .fzT n (x _ (fun q => n (hz _ q)) _ h)
  | _, _, .fzK h => .fzK h
  | _, _, .raw v => .raw v
theorem RpA.mono (hz : ∀ a ∈ α, a ∈ Z) (x : Ext α H H') : ∀ {vs : List V} {ds : List D}, RpA K Z H vs ds → RpA K Z H' vs ds
  | _, _, .nil => .nil
  | _, _, .cons h r => .cons (Rp.mono hz x h) (RpA.mono hz x r)
theorem RpK.mono (hz : ∀ a ∈ α, a ∈ Z) (x : Ext α H H') : ∀ {vs : List (Key × V)} {ds : List (Key × D)}, RpK K Z H vs ds → RpK K Z H' vs ds
  | _, _, .nil => .nil
  | _, _, .cons h r => .cons (Rp.mono hz x h) (RpK.mono hz x r)
end
mutual
/-- fewer places to keep off -/
theorem Rp.weak (hz : ∀ a ∈ Z', a ∈ Z) : ∀ {v : V} {d : D}, Rp K Z H v d → Rp K Z' H v d
  | _, _, .non => .non
  | _, _, .bl b => .bl b
  | _, _, .int i => .int i
  | _, _, .str s => .str s
  | _, _, .lst n h r => .lst (fun q => n (hz _ q)) h (RpA.weak hz r)
  | _, _, .tup n h r => .tup (fun q => n (hz _ q)) h (RpA.weak hz r)
  | _, _, .dct n h r => .dct (fun q => n (hz _ q)) h (RpK.weak hz r)
  | _, _, .fzT n h => .fzT (fun q => n (hz _ q)) h
  | _, _, .fzK h => .fzK h
  | _, _, .raw v => .raw v
theorem RpA.weak (hz : ∀ a ∈ Z', a ∈ Z) : ∀ {vs : List V} {ds : List D}, RpA K Z H vs ds → RpA K Z' H vs ds
  | _, _, .nil => .nil
  | _, _, .cons h r => .cons (Rp.weak hz h) (RpA.weak hz r)
theorem RpK.weak (hz : ∀ a ∈ Z', a ∈ Z) : ∀ {vs : List (Key × V)} {ds : List (Key × D)}, RpK K Z H vs ds → RpK K Z' H vs ds
  | _, _, .nil => .nil
  | _, _, .cons h r => .cons (Rp.weak hz h) (RpK.weak hz r)
end
theorem off_new {p a : Addr} {o : HO} (hp : H p = none) (h : H a = some o) (n : a ∉ Z) : a ∉ p :: Z := fun q => by
  rcases List.mem_cons.mp q with e | q
  · rw [e, hp] at h; cases h
  · exact n q
mutual
/-- one more place to keep off: a new one -/
theorem Rp.more {p : Addr} (hp : H p = none) : ∀ {v : V} {d : D}, Rp K Z H v d → Rp K (p :: Z) H v d
  | _, _, .non => .non
  | _, _, .bl b => .bl b
  | _, _, .int i => .int i
  | _, _, .str s => .str s
  | _, _, .lst n h r => .lst (off_new hp h n) h (RpA.more hp r)
  | _, _, .tup n h r => .tup (off_new hp h n) h (RpA.more hp r)
  | _, _, .dct n h r => .dct (off_new hp h n) h (RpK.more hp r)
  | _, _, .fzT n h => .fzT (off_new hp h n) h
  | _, _, .fzK h => .fzK h
  | _, _, .raw v => .raw v
theorem RpA.more {p : Addr} (hp : H p = none) : ∀ {vs : List V} {ds : List D}, RpA K Z H vs ds → RpA K (p :: Z) H vs ds
  | _, _, .nil => .nil
  | _, _, .cons h r => .cons (Rp.more hp h) (RpA.more hp r)
theorem RpK.more {p : Addr} (hp : H p = none) : ∀ {vs : List (Key × V)} {ds : List (Key × D)}, RpK K Z H vs ds → RpK K (p :: Z) H vs ds
  | _, _, .nil => .nil
  | _, _, .cons h r => .cons (Rp.more hp h) (RpK.more hp r)
end
theorem RpA.length : ∀ {vs : List V} {ds : List D}, RpA K Z H vs ds → vs.length = ds.length
  | _, _, .nil => rfl
  | _, _, .cons _ r => by rw [List.length_cons, List.length_cons, RpA.length r]
theorem RpA.append : ∀ {vs ws : List V} {ds es : List D}, RpA K Z H vs ds → RpA K Z H ws es → RpA K Z H (vs ++ ws) (ds ++ es)
  | _, _, _, _, .nil, s => s
  | _, _, _, _, .cons h r, s => .cons h (RpA.append r s)
theorem RpA.get : ∀ {vs : List V} {ds : List D} {i : Nat} {d : D}, RpA K Z H vs ds → ds[i]? = some d → ∃ v, vs[i]? = some v ∧ Rp K Z H v d
  | _, _, _, _, .nil, e => by simp at e
  | _, _, 0, _, .cons h _, e => by simp at e; subst e; exact ⟨_, rfl, h⟩
  | _, _, i + 1, _, .cons _ r, e => by
    obtain ⟨v, h1, h2⟩ := RpA.get (i := i) r (by simpa using e)
    exact ⟨v, by simpa using h1, h2⟩
theorem RpA.at : ∀ {vs : List V} {ds : List D} {i : Nat} {v : V}, RpA K Z H vs ds → vs[i]? = some v → ∃ d, ds[i]? = some d ∧ Rp K Z H v d
  | _, _, _, _, .nil, e => by simp at e
  | _, _, 0, _, .cons h _, e => by simp at e; subst e; exact ⟨_, rfl, h⟩
  | _, _, i + 1, _, .cons _ r, e => by
    obtain ⟨v, h1, h2⟩ := RpA.at (i := i) r (by simpa using e)
    exact ⟨v, by simpa using h1, h2⟩
theorem RpA.take : ∀ {vs : List V} {ds : List D} (n : Nat), RpA K Z H vs ds → RpA K Z H (vs.take n) (ds.take n)
  | _, _, 0, _ => .nil
  | _, _, _ + 1, .nil => .nil
  | _, _, n + 1, .cons h r => .cons h (RpA.take n r)
theorem RpA.drop : ∀ {vs : List V} {ds : List D} (n : Nat), RpA K Z H vs ds → RpA K Z H (vs.drop n) (ds.drop n)
  | _, _, 0, r => r
  | _, _, _ + 1, .nil => .nil
  | _, _, n + 1, .cons _ r => RpA.drop n r
theorem RpA.reverse {vs : List V} {ds : List D} (r : RpA K Z H vs ds) : RpA K Z H vs.reverse ds.reverse := by
  induction vs generalizing ds with
  | nil => cases r; exact .nil
  | cons v vs ih =>
    cases r with
    | cons h r => rw [List.reverse_cons, List.reverse_cons]; exact (ih r).append (.cons h .nil)
theorem RpA.ints : ∀ ns : List Int, RpA K Z H (ns.map V.int) (ns.map D.int)
  | [] => .nil
  | n :: ns => .cons (.int n) (RpA.ints ns)
theorem RpA.rep {vs : List V} {ds : List D} (r : RpA K Z H vs ds) : ∀ k : Nat, RpA K Z H (List.replicate k vs).flatten (List.replicate k ds).flatten
  | 0 => .nil
  | k + 1 => by
    rw [List.replicate_succ, List.replicate_succ, List.flatten_cons, List.flatten_cons]
    exact r.append (RpA.rep r k)
/-- values of a kind without objects -/
theorem RpA.strs_inv : ∀ {vs : List V} {xs : List Str}, RpA K Z H vs (xs.map D.str) → vs = xs.map V.str
  | _, [], .nil => rfl
  | _, x :: xs, .cons (.str _) r => by rw [RpA.strs_inv r]; rfl
theorem RpA.strs : ∀ xs : List Str, RpA K Z H (xs.map V.str) (xs.map D.str)
  | [] => .nil
  | x :: xs => .cons (.str x) (RpA.strs xs)
theorem RpA.bls_inv : ∀ {vs : List V} {xs : List Bool}, RpA K Z H vs (xs.map D.bl) → vs = xs.map V.bl
  | _, [], .nil => rfl
  | _, x :: xs, .cons (.bl _) r => by rw [RpA.bls_inv r]; rfl
theorem RpA.ints_inv : ∀ {vs : List V} {xs : List Int}, RpA K Z H vs (xs.map D.int) → vs = xs.map V.int
  | _, [], .nil => rfl
  | _, x :: xs, .cons (.int _) r => by rw [RpA.ints_inv r]; rfl
end
/-! ### values of names, cells -/
section
variable (K : PySem.W.Frag) (α Z : List Addr) (H : Hp)
inductive RpV : V → AV → Prop
  | d {v : V} {x : D} : Rp K Z H v x → RpV v (.d x)
  | cell {k : Nat} {a : Addr} : α[k]? = some a → RpV (.ref a) (.cell k)
inductive RpVs : List V → List AV → Prop
  | nil : RpVs [] []
  | cons {v : V} {vs : List V} {x : AV} {xs : List AV} : RpV K α Z H v x → RpVs vs xs → RpVs (v :: vs) (x :: xs)
inductive RpVK : List (Key × V) → List (Key × AV) → Prop
  | nil : RpVK [] []
  | cons {k : Key} {v : V} {ks : List (Key × V)} {x : AV} {es : List (Key × AV)} : RpV K α Z H v x → RpVK ks es → RpVK ((k, v) :: ks) ((k, x) :: es)
inductive RpVF : List (Str × V) → List (Str × AV) → Prop
  | nil : RpVF [] []
  | cons {k : Str} {v : V} {ks : List (Str × V)} {x : AV} {es : List (Str × AV)} : RpV K α Z H v x → RpVF ks es → RpVF ((k, v) :: ks) ((k, x) :: es)
def CellOk (a : Addr) : CC → Prop
  | .lst xs => ∃ vs, H a = some (.lst vs) ∧ RpVs K α Z H vs xs
  | .dct es => ∃ ks, H a = some (.dK ks) ∧ RpVK K α Z H ks es
  | .ins C fs => ∃ dx vs, H a = some (.ins C dx vs) ∧ RpVF K α Z H vs fs
structure Cells (μ : List CC) : Prop where
  len : α.length = μ.length
  at_ : ∀ (k : Nat) (a : Addr) (c : CC), α[k]? = some a → μ[k]? = some c → CellOk K α Z H a c
structure WOk : Prop where
  nd : α.Nodup
  sub : ∀ a ∈ α, a ∈ Z
  there : ∀ z ∈ Z, ∃ o, H z = some o
structure SlotsOk (σ : L2.St) (ρ : Slots) : Prop where
  len : σ.length = ρ.length
  at_ : ∀ (i : Nat) (x : AV), ρ[i]? = some (some x) → ∃ v, σ[i]? = some (some v) ∧ RpV K α Z H v x
end
section
variable {K : PySem.W.Frag} {α β Z Z' : List Addr} {H H1 H2 H' : Hp} {v : V} {x : AV} {σ : L2.St} {ρ : Slots} {μ : List CC}
theorem RpV.mono (hz : ∀ a ∈ β, a ∈ Z) (e : Ext β H H') (r : RpV K α Z H v x) : RpV K α Z H' v x := by
  cases r with
  | d r => exact .d (r.mono hz e)
  | cell h => exact .cell h
theorem RpVs.mono (hz : ∀ a ∈ β, a ∈ Z) (e : Ext β H H') : ∀ {vs : List V} {xs : List AV}, RpVs K α Z H vs xs → RpVs K α Z H' vs xs
  | _, _, .nil => .nil
  | _, _, .cons h r => .cons (h.mono hz e) (RpVs.mono hz e r)
theorem RpVK.mono (hz : ∀ a ∈ β, a ∈ Z) (e : Ext β H H') : ∀ {vs : List (Key × V)} {xs : List (Key × AV)}, RpVK K α Z H vs xs → RpVK K α Z H' vs xs
  | _, _, .nil => .nil
  | _, _, .cons h r => .cons (h.mono hz e) (RpVK.mono hz e r)
theorem RpVF.mono (hz : ∀ a ∈ β, a ∈ Z) (e : Ext β H H') : ∀ {vs : List (Str × V)} {xs : List (Str × AV)}, RpVF K α Z H vs xs → RpVF K α Z H' vs xs
  | _, _, .nil => .nil
  | _, _, .cons h r => .cons (h.mono hz e) (RpVF.mono hz e r)
theorem RpVs.length : ∀ {vs : List V} {xs : List AV}, RpVs K α Z H vs xs → vs.length = xs.length
  | _, _, .nil => rfl
  | _, _, .cons _ r => by rw [List.length_cons, List.length_cons, RpVs.length r]
theorem RpVs.append : ∀ {vs ws : List V} {ds es : List AV}, RpVs K α Z H vs ds → RpVs K α Z H ws es → RpVs K α Z H (vs ++ ws) (ds ++ es)
  | _, _, _, _, .nil, s => s
  | _, _, _, _, .cons h r, s => .cons h (RpVs.append r s)
theorem RpVs.get : ∀ {vs : List V} {ds : List AV} {i : Nat} {d : AV}, RpVs K α Z H vs ds → ds[i]? = some d → ∃ v, vs[i]? = some v ∧ RpV K α Z H v d
  | _, _, _, _, .nil, e => by simp at e
  | _, _, 0, _, .cons h _, e => by simp at e; subst e; exact ⟨_, rfl, h⟩
  | _, _, i + 1, _, .cons _ r, e => by
    obtain ⟨v, h1, h2⟩ := RpVs.get (i := i) r (by simpa using e)
    exact ⟨v, by simpa using h1, h2⟩
theorem RpVs.set : ∀ {vs : List V} {xs : List AV} {v : V} {x : AV} (i : Nat), RpV K α Z H v x → RpVs K α Z H vs xs → RpVs K α Z H (vs.set i v) (xs.set i x)
  | _, _, _, _, _, _, .nil => .nil
  | _, _, _, _, 0, r, .cons _ t => .cons r t
  | _, _, _, _, i + 1, r, .cons h t => .cons h (RpVs.set i r t)
theorem RpVs.dropLast {vs : List V} {xs : List AV} (r : RpVs K α Z H vs xs) : RpVs K α Z H vs.dropLast xs.dropLast := by
  induction vs generalizing xs with
  | nil => cases r; exact .nil
  | cons v vs ih =>
    cases r with
    | cons h r =>
      cases vs with
      | nil => cases r; exact .nil
      | cons w ws =>
        cases r with
        | cons h2 r2 => exact .cons h (ih (.cons h2 r2))
theorem RpVs.eraseIdx : ∀ {vs : List V} {xs : List AV} (i : Nat), RpVs K α Z H vs xs → RpVs K α Z H (vs.eraseIdx i) (xs.eraseIdx i)
  | _, _, _, .nil => .nil
  | _, _, 0, .cons _ t => t
  | _, _, i + 1, .cons h t => .cons h (RpVs.eraseIdx i t)
theorem RpVs.of_data : ∀ {vs : List V} {ds : List D}, RpA K Z H vs ds → RpVs K α Z H vs (ds.map AV.d)
  | _, _, .nil => .nil
  | _, _, .cons h r => .cons (.d h) (RpVs.of_data r)
theorem RpVs.to_data : ∀ {vs : List V} {ds : List D}, RpVs K α Z H vs (ds.map AV.d) → RpA K Z H vs ds
  | _, [], .nil => .nil
  | _, d :: ds, .cons (.d h) r => .cons h (RpVs.to_data r)
theorem CellOk.mono {a : Addr} {c : CC} (hz : ∀ b ∈ β, b ∈ Z) (e : Ext β H H') (ha : H' a = H a) (h : CellOk K α Z H a c) : CellOk K α Z H' a c := by
  cases c with
  | lst xs => obtain ⟨vs, h1, h2⟩ := h; exact ⟨vs, by rw [ha]; exact h1, h2.mono hz e⟩
  | dct xs => obtain ⟨vs, h1, h2⟩ := h; exact ⟨vs, by rw [ha]; exact h1, h2.mono hz e⟩
  | ins C fs => obtain ⟨dx, vs, h1, h2⟩ := h; exact ⟨dx, vs, by rw [ha]; exact h1, h2.mono hz e⟩
theorem SlotsOk.mono (hz : ∀ b ∈ β, b ∈ Z) (e : Ext β H H') (h : SlotsOk K α Z H σ ρ) : SlotsOk K α Z H' σ ρ := ⟨h.len, fun i x hi => by
  obtain ⟨v, h1, h2⟩ := h.at_ i x hi
  exact ⟨v, h1, h2.mono hz e⟩⟩
/-- nothing changed at all: all stays -/
theorem Ext.nil_any {β : List Addr} (e : Ext [] H H') : Ext β H H' := fun a _ o h => e a (List.not_mem_nil) o h
theorem Cells.still (w : WOk α Z H) (e : Ext [] H H') (c : Cells K α Z H μ) : Cells K α Z H' μ := ⟨c.len, fun k a cc h1 h2 => by
  have ha : a ∈ α := List.mem_of_getElem? h1
  obtain ⟨o, ho⟩ := w.there a (w.sub a ha)
  have h' := e a List.not_mem_nil o ho
  exact (c.at_ k a cc h1 h2).mono (β := []) (fun b hb => absurd hb List.not_mem_nil) e (by rw [h', ho])⟩
theorem WOk.ext (w : WOk α Z H) (c : Cells K α Z H' μ) (e : Ext α H H') : WOk α Z H' := ⟨w.nd, w.sub, fun z hz => by
  by_cases hα : z ∈ α
  · obtain ⟨k, hk⟩ := List.getElem?_of_mem hα
    have hl : k < μ.length := by rw [← c.len]; exact (List.getElem?_eq_some_iff.mp hk).1
    have h := c.at_ k z _ hk (List.getElem?_eq_getElem hl)
    revert h
    cases μ[k] with
    | lst xs => rintro ⟨vs, h1, _⟩; exact ⟨_, h1⟩
    | dct xs => rintro ⟨vs, h1, _⟩; exact ⟨_, h1⟩
    | ins C fs => rintro ⟨dx, vs, h1, _⟩; exact ⟨_, h1⟩
  · obtain ⟨o, ho⟩ := w.there z hz
    exact ⟨o, e z hα o ho⟩⟩
theorem WOk.still (w : WOk α Z H) (e : Ext [] H H') : WOk α Z H' := ⟨w.nd, w.sub, fun z hz => by
  obtain ⟨o, ho⟩ := w.there z hz
  exact ⟨o, e z List.not_mem_nil o ho⟩⟩
end
end DL

set_option Elab.async false
set_option linter.all false
set_option maxRecDepth 100000
set_option maxHeartbeats 4000000
/-! DL1: what an expression, a test, an argument list, a walk, a target, a statement does to data. -/
namespace DL
open PySem PySem.Spec PyProof.Rows L2
/-- grown: new cells and new places to keep off are new; all but the cells stays -/
structure Gr (α Z : List Addr) (H : Hp) (α' Z' : List Addr) (H' : Hp) : Prop where
  cells : ∃ new, α' = α ++ new ∧ ∀ p ∈ new, H p = none
  keep : ∀ z ∈ Z, z ∈ Z'
  new : ∀ z ∈ Z', z ∈ Z ∨ H z = none
  ext : Ext α H H'
structure Okay (K : PySem.W.Frag) (α Z : List Addr) (H : Hp) (μ : List CC) : Prop where
  w : WOk α Z H
  c : Cells K α Z H μ
section
variable {K : PySem.W.Frag} {α α' α2 Z Z' Z2 : List Addr} {H H1 H2 H' : Hp} {v : V} {x : AV} {d : D} {σ : L2.St} {ρ : Slots} {μ μ' : List CC} {p : Addr} {o : HO}
theorem Gr.refl : Gr α Z H α Z H := ⟨⟨[], by simp, by simp⟩, fun _ h => h, fun _ h => .inl h, Ext.refl _ _⟩
theorem Gr.of_ext (e : Ext α H H') : Gr α Z H α Z H' := ⟨⟨[], by simp, by simp⟩, fun _ h => h, fun _ h => .inl h, e⟩
theorem none_back (hp : p ∉ α) (e : Ext α H H') (h : H' p = none) : H p = none := by
  cases q : H p with
  | none => rfl
  | some o => rw [e p hp o q] at h; cases h
theorem WOk.off (w : WOk α Z H) (h : H p = none) : p ∉ Z := fun q => by
  obtain ⟨o, ho⟩ := w.there p q
  rw [ho] at h; cases h
theorem Gr.trans (w : WOk α Z H) (w' : WOk α' Z' H') (a : Gr α Z H α' Z' H') (b : Gr α' Z' H' α2 Z2 H2) : Gr α Z H α2 Z2 H2 := by
  obtain ⟨⟨n1, e1, f1⟩, k1, w1, x1⟩ := a
  obtain ⟨⟨n2, e2, f2⟩, k2, w2, x2⟩ := b
  have up : ∀ p, H' p = none → H p = none := fun p hp => none_back (fun hα => w'.off hp (k1 p (w.sub p hα))) x1 hp
  refine ⟨⟨n1 ++ n2, by rw [e2, e1, List.append_assoc], fun p hp => ?_⟩, fun z hz => k2 _ (k1 _ hz), fun z hz => ?_, fun a ha o q => ?_⟩
  · rcases List.mem_append.mp hp with h | h
    · exact f1 p h
    · exact up p (f2 p h)
  · rcases w2 z hz with h | h
    · exact w1 z h
    · exact .inr (up z h)
  · refine x2 a (fun hq => ?_) o (x1 a ha o q)
    rw [e1] at hq
    rcases List.mem_append.mp hq with h | h
    · exact ha h
    · rw [f1 a h] at q; cases q
theorem Gr.off (w : WOk α Z H) (g : Gr α Z H α' Z' H') {a : Addr} (n : a ∉ Z) (h : H a = some o) : a ∉ Z' ∧ H' a = some o := by
  refine ⟨fun q => ?_, g.ext a (fun q => n (w.sub a q)) o h⟩
  rcases g.new a q with e | e
  · exact n e
  · rw [e] at h; cases h
mutual
theorem Rp.gr (w : WOk α Z H) (g : Gr α Z H α' Z' H') : ∀ {v : V} {d : D}, Rp K Z H v d → Rp K Z' H' v d
  | _, _, .non => .non
  | _, _, .bl b => .bl b
  | _, _, .int i => .int i
  | _, _, .str s => .str s
  | _, _, .lst n h r => .lst (g.off w n h).1 (g.off w n h).2 (RpA.gr w g r)
  | _, _, .tup n h r => .tup (g.off w n h).1 (g.off w n h).2 (RpA.gr w g r)
  | _, _, .dct n h r => .dct (g.off w n h).1 (g.off w n h).2 (RpK.gr w g r)
  | _, _, .fzT n h => .fzT (g.off w n h).1 (g.off w n h).2
  | _, _, .fzK h => .fzK h
  | _, _, .raw v => .raw v
theorem RpA.gr (w : WOk α Z H) (g : Gr α Z H α' Z' H') : ∀ {vs : List V} {ds : List D}, RpA K Z H vs ds → RpA K Z' H' vs ds
  | _, _, .nil => .nil
  | _, _, .cons h r => .cons (Rp.gr w g h) (RpA.gr w g r)
theorem RpK.gr (w : WOk α Z H) (g : Gr α Z H α' Z' H') : ∀ {vs : List (Key × V)} {ds : List (Key × D)}, RpK K Z H vs ds → RpK K Z' H' vs ds
  | _, _, .nil => .nil
  | _, _, .cons h r => .cons (Rp.gr w g h) (RpK.gr w g r)
end
theorem Gr.idx (g : Gr α Z H α' Z' H') {k : Nat} {a : Addr} (h : α[k]? = some a) : α'[k]? = some a := by
  obtain ⟨⟨n, e, _⟩, _⟩ := g
  rw [e, List.getElem?_append_left (List.getElem?_eq_some_iff.mp h).1]
  exact h
theorem RpV.gr (w : WOk α Z H) (g : Gr α Z H α' Z' H') (r : RpV K α Z H v x) : RpV K α' Z' H' v x := by
  cases r with
  | d r => exact .d (r.gr w g)
  | cell h => exact .cell (g.idx h)
theorem RpVs.gr (w : WOk α Z H) (g : Gr α Z H α' Z' H') : ∀ {vs : List V} {xs : List AV}, RpVs K α Z H vs xs → RpVs K α' Z' H' vs xs
  | _, _, .nil => .nil
  | _, _, .cons h r => .cons (h.gr w g) (RpVs.gr w g r)
theorem RpVK.gr (w : WOk α Z H) (g : Gr α Z H α' Z' H') : ∀ {vs : List (Key × V)} {xs : List (Key × AV)}, RpVK K α Z H vs xs → RpVK K α' Z' H' vs xs
  | _, _, .nil => .nil
  | _, _, .cons h r => .cons (h.gr w g) (RpVK.gr w g r)
theorem RpVF.gr (w : WOk α Z H) (g : Gr α Z H α' Z' H') : ∀ {vs : List (Str × V)} {xs : List (Str × AV)}, RpVF K α Z H vs xs → RpVF K α' Z' H' vs xs
  | _, _, .nil => .nil
  | _, _, .cons h r => .cons (h.gr w g) (RpVF.gr w g r)
theorem CellOk.gr (w : WOk α Z H) (g : Gr α Z H α' Z' H') {a : Addr} {c : CC} (ha : H' a = H a) (h : CellOk K α Z H a c) : CellOk K α' Z' H' a c := by
  cases c with
  | lst xs => obtain ⟨vs, h1, h2⟩ := h; exact ⟨vs, by rw [ha]; exact h1, h2.gr w g⟩
  | dct xs => obtain ⟨vs, h1, h2⟩ := h; exact ⟨vs, by rw [ha]; exact h1, h2.gr w g⟩
  | ins C fs => obtain ⟨dx, vs, h1, h2⟩ := h; exact ⟨dx, vs, by rw [ha]; exact h1, h2.gr w g⟩
theorem SlotsOk.gr (w : WOk α Z H) (g : Gr α Z H α' Z' H') (h : SlotsOk K α Z H σ ρ) : SlotsOk K α' Z' H' σ ρ := ⟨h.len, fun i x hi => by
  obtain ⟨v, h1, h2⟩ := h.at_ i x hi
  exact ⟨v, h1, h2.gr w g⟩⟩
theorem SlotsOk.ext (ok : Okay K α Z H μ) (e : Ext α H H') (h : SlotsOk K α Z H σ ρ) : SlotsOk K α Z H' σ ρ := h.gr ok.w (.of_ext e)
theorem RpV.ext (ok : Okay K α Z H μ) (e : Ext α H H') (r : RpV K α Z H v x) : RpV K α Z H' v x := r.gr ok.w (.of_ext e)
theorem RpVs.ext {vs : List V} {xs : List AV} (ok : Okay K α Z H μ) (e : Ext α H H') (r : RpVs K α Z H vs xs) : RpVs K α Z H' vs xs := r.gr ok.w (.of_ext e)
/-- grown, in the weak sense: what is kept off may change -/
structure Gw (α Z : List Addr) (H : Hp) (α' Z' : List Addr) (H' : Hp) : Prop where
  cells : ∃ new, α' = α ++ new
  new : ∀ z ∈ Z', z ∈ Z ∨ H z = none
  ext : Ext Z H H'
theorem Gr.gw (w : WOk α Z H) (g : Gr α Z H α' Z' H') : Gw α Z H α' Z' H' := ⟨g.cells.elim fun n h => ⟨n, h.1⟩, g.new, fun a ha o q => g.ext a (fun z => ha (w.sub a z)) o q⟩
theorem Gw.off (g : Gw α Z H α' Z' H') {a : Addr} (n : a ∉ Z) (h : H a = some o) : a ∉ Z' ∧ H' a = some o := by
  refine ⟨fun q => ?_, g.ext a n o h⟩
  rcases g.new a q with e | e
  · exact n e
  · rw [e] at h; cases h
mutual
theorem Rp.gw (g : Gw α Z H α' Z' H') : ∀ {v : V} {d : D}, Rp K Z H v d → Rp K Z' H' v d
  | _, _, .non => .non
  | _, _, .bl b => .bl b
  | _, _, .int i => .int i
  | _, _, .str s => .str s
  | _, _, .lst n h r => .lst (g.off n h).1 (g.off n h).2 (RpA.gw g r)
  | _, _, .tup n h r => .tup (g.off n h).1 (g.off n h).2 (RpA.gw g r)
  | _, _, .dct n h r => .dct (g.off n h).1 (g.off n h).2 (RpK.gw g r)
  | _, _, .fzT n h => .fzT (g.off n h).1 (g.off n h).2
  | _, _, .fzK h => .fzK h
  | _, _, .raw v => .raw v
theorem RpA.gw (g : Gw α Z H α' Z' H') : ∀ {vs : List V} {ds : List D}, RpA K Z H vs ds → RpA K Z' H' vs ds
  | _, _, .nil => .nil
  | _, _, .cons h r => .cons (Rp.gw g h) (RpA.gw g r)
theorem RpK.gw (g : Gw α Z H α' Z' H') : ∀ {vs : List (Key × V)} {ds : List (Key × D)}, RpK K Z H vs ds → RpK K Z' H' vs ds
  | _, _, .nil => .nil
  | _, _, .cons h r => .cons (Rp.gw g h) (RpK.gw g r)
end
theorem RpV.gw (g : Gw α Z H α' Z' H') (r : RpV K α Z H v x) : RpV K α' Z' H' v x := by
  cases r with
  | d r => exact .d (r.gw g)
  | cell h =>
    obtain ⟨⟨n, e⟩, _⟩ := g
    exact .cell (by rw [e, List.getElem?_append_left (List.getElem?_eq_some_iff.mp h).1]; exact h)
theorem Gw.laid (g : Gw α Z H α' Z' H') (h : H' p = none) : Gw α Z H α' Z' (upd H' p o) := ⟨g.cells, g.new, fun a ha u q => by
  have := g.ext a ha u q
  rw [upd_ne (ne_of_none this h)]; exact this⟩
theorem Ext.wide (w : WOk α Z H) (e : Ext α H H') : Ext Z H H' := fun a ha o q => e a (fun z => ha (w.sub a z)) o q
/-- something new was laid -/
theorem Okay.still (ok : Okay K α Z H μ) (e : Ext [] H H') : Okay K α Z H' μ := ⟨ok.w.still e, ok.c.still ok.w e⟩
theorem Ext.laid (h : H p = none) : Ext [] H (upd H p o) := Ext.new h
theorem Okay.laid (ok : Okay K α Z H μ) (h : H p = none) : Okay K α Z (upd H p o) μ := ok.still (Ext.laid h)
/-- a new place to keep off -/
theorem Gr.new1 (h : H p = none) (e : Ext [] H H') : Gr α Z H α (p :: Z) H' :=
  ⟨⟨[], by simp, by simp⟩, fun z hz => List.mem_cons_of_mem _ hz, fun z hz => by
    rcases List.mem_cons.mp hz with q | q
    · exact .inr (q ▸ h)
    · exact .inl q, e.nil_any⟩
theorem Okay.keepOff (ok : Okay K α Z H μ) (h : H p = none) (e : Ext [] H H') (hp : ∃ o, H' p = some o) : Okay K α (p :: Z) H' μ := by
  have o2 := ok.still e
  refine ⟨⟨ok.w.nd, fun a ha => List.mem_cons_of_mem _ (ok.w.sub a ha), fun z hz => ?_⟩, ⟨ok.c.len, fun k a c h1 h2 => ?_⟩⟩
  · rcases List.mem_cons.mp hz with q | q
    · exact q ▸ hp
    · exact o2.w.there z q
  · have ha := ok.w.sub a (List.mem_of_getElem? h1)
    obtain ⟨ob, hob⟩ := ok.w.there a ha
    exact (ok.c.at_ k a c h1 h2).gr ok.w (Gr.new1 h e) (by rw [hob, e a List.not_mem_nil _ hob])
mutual
theorem Rp.less : ∀ {v : V} {d : D}, Rp K (p :: Z) H v d → Rp K Z H v d
  | _, _, h => h.weak fun a ha => List.mem_cons_of_mem _ ha
end
theorem RpV.less (r : RpV K α (p :: Z) H v x) : RpV K α Z H v x := by
  cases r with
  | d r => exact .d (r.weak fun a ha => List.mem_cons_of_mem _ ha)
  | cell h => exact .cell h
theorem RpVs.less : ∀ {vs : List V} {xs : List AV}, RpVs K α (p :: Z) H vs xs → RpVs K α Z H vs xs
  | _, _, .nil => .nil
  | _, _, .cons h r => .cons h.less (RpVs.less r)
theorem RpVK.less : ∀ {vs : List (Key × V)} {xs : List (Key × AV)}, RpVK K α (p :: Z) H vs xs → RpVK K α Z H vs xs
  | _, _, .nil => .nil
  | _, _, .cons h r => .cons h.less (RpVK.less r)
theorem RpVF.less : ∀ {vs : List (Str × V)} {xs : List (Str × AV)}, RpVF K α (p :: Z) H vs xs → RpVF K α Z H vs xs
  | _, _, .nil => .nil
  | _, _, .cons h r => .cons h.less (RpVF.less r)
theorem CellOk.less {a : Addr} {c : CC} (h : CellOk K α (p :: Z) H a c) : CellOk K α Z H a c := by
  cases c with
  | lst xs => obtain ⟨vs, h1, h2⟩ := h; exact ⟨vs, h1, h2.less⟩
  | dct xs => obtain ⟨vs, h1, h2⟩ := h; exact ⟨vs, h1, h2.less⟩
  | ins C fs => obtain ⟨dx, vs, h1, h2⟩ := h; exact ⟨dx, vs, h1, h2.less⟩
theorem Okay.less (ok : Okay K α (p :: Z) H μ) (w : ∀ a ∈ α, a ∈ Z) : Okay K α Z H μ :=
  ⟨⟨ok.w.nd, w, fun z hz => ok.w.there z (List.mem_cons_of_mem _ hz)⟩, ⟨ok.c.len, fun k a c h1 h2 => (ok.c.at_ k a c h1 h2).less⟩⟩
/-- a place that is kept off, no cell, is written -/
theorem Ext.touch : Ext [p] H (upd H p o) := fun a ha u q => by rw [upd_ne (fun z => ha (by rw [z]; exact List.mem_cons_self))]; exact q
theorem Okay.touch (ok : Okay K α Z H μ) (hp : p ∈ Z) (hα : p ∉ α) : Okay K α Z (upd H p o) μ := by
  have hz : ∀ a ∈ [p], a ∈ Z := fun a ha => by rw [List.mem_singleton.mp ha]; exact hp
  refine ⟨⟨ok.w.nd, ok.w.sub, fun z hz => ?_⟩, ⟨ok.c.len, fun k a c h1 h2 => (ok.c.at_ k a c h1 h2).mono hz Ext.touch (upd_ne fun z => hα (by rw [← z]; exact List.mem_of_getElem? h1))⟩⟩
  by_cases e : z = p
  · exact ⟨o, by rw [e]; exact upd_same⟩
  · obtain ⟨u, hu⟩ := ok.w.there z hz
    exact ⟨u, by rw [upd_ne e]; exact hu⟩
theorem RpV.touch (hp : p ∈ Z) (r : RpV K α Z H v x) : RpV K α Z (upd H p o) v x := r.mono (β := [p]) (fun a ha => by rw [List.mem_singleton.mp ha]; exact hp) Ext.touch
theorem RpVs.touch {vs : List V} {xs : List AV} (hp : p ∈ Z) (r : RpVs K α Z H vs xs) : RpVs K α Z (upd H p o) vs xs := r.mono (β := [p]) (fun a ha => by rw [List.mem_singleton.mp ha]; exact hp) Ext.touch
/-- the k-th cell is written -/
theorem Okay.write (ok : Okay K α Z H μ) {k : Nat} {a : Addr} {c : CC} (ha : α[k]? = some a) (hc : CellOk K α Z (upd H a o) a c) :
    Okay K α Z (upd H a o) (μ.set k c) ∧ Ext α H (upd H a o) := by
  have hm : a ∈ α := List.mem_of_getElem? ha
  have e : Ext α H (upd H a o) := fun b hb u q => by rw [upd_ne (fun z => hb (by rw [z]; exact hm))]; exact q
  refine ⟨⟨⟨ok.w.nd, ok.w.sub, fun z hz => ?_⟩, ⟨by rw [List.length_set]; exact ok.c.len, fun j b c' h1 h2 => ?_⟩⟩, e⟩
  · by_cases q : z = a
    · subst q; exact ⟨_, upd_same⟩
    · obtain ⟨u, hu⟩ := ok.w.there z hz
      exact ⟨u, by rw [upd_ne q]; exact hu⟩
  · by_cases q : j = k
    · subst q
      rw [ha] at h1; cases h1
      have hl : j < μ.length := by rw [← ok.c.len]; exact (List.getElem?_eq_some_iff.mp ha).1
      rw [List.getElem?_set_self hl] at h2; cases h2
      exact hc
    · rw [List.getElem?_set_ne (fun z => q z.symm)] at h2
      have nb : b ≠ a := fun z => q (by
        subst z
        exact (List.getElem?_inj (List.getElem?_eq_some_iff.mp h1).1 ok.w.nd).mp (by rw [h1, ha]))
      exact (ok.c.at_ j b c' h1 h2).gr ok.w (.of_ext e) (upd_ne nb)
end
end DL

set_option Elab.async false
set_option linter.all false
set_option maxRecDepth 100000
set_option maxHeartbeats 4000000
/-! DL2: the judgements. EV: an expression's value; EN: .. a new list; ET: a test; EA: arguments; IW: what is walked; GV: a target; SV: a statement. -/
namespace DL
open PySem PySem.Spec PyProof.Rows L2
def EV (K : PySem.W.Frag) (te : TE) (ρ : Slots) (μ : List CC) (r : AV) (μ' : List CC) : Prop :=
  ∀ (α Z : List Addr) (σ : L2.St) (H : Hp), Okay K α Z H μ → SlotsOk K α Z H σ ρ → ∀ Q : VK, (∀ v H', Ext α H H' → Okay K α Z H' μ' → RpV K α Z H' v r → Q v H') → te σ H Q
def EN (K : PySem.W.Frag) (te : TE) (ρ : Slots) (μ : List CC) (xs : List AV) (μ' : List CC) : Prop :=
  ∀ (α Z : List Addr) (σ : L2.St) (H : Hp), Okay K α Z H μ → SlotsOk K α Z H σ ρ → ∀ Q : VK,
    (∀ p vs H', Ext α H H' → H p = none → H' p = some (.lst vs) → Okay K α (p :: Z) H' μ' → RpVs K α (p :: Z) H' vs xs → Q (.ref p) H') → te σ H Q
def ET (K : PySem.W.Frag) (tt : TT) (ρ : Slots) (μ : List CC) (b : Bool) (μ' : List CC) : Prop :=
  ∀ (α Z : List Addr) (σ : L2.St) (H : Hp), Okay K α Z H μ → SlotsOk K α Z H σ ρ → ∀ Q : Bool → Hp → Prop, (∀ H', Ext α H H' → Okay K α Z H' μ' → Q b H') → tt σ H Q
def EA (K : PySem.W.Frag) (ta : TA) (ρ : Slots) (μ : List CC) (rs : List AV) (μ' : List CC) : Prop :=
  ∀ (α Z : List Addr) (σ : L2.St) (H : Hp), Okay K α Z H μ → SlotsOk K α Z H σ ρ → ∀ Q : List V → Hp → Prop, (∀ vs H', Ext α H H' → Okay K α Z H' μ' → RpVs K α Z H' vs rs → Q vs H') → ta σ H Q
/-- a two-place operation, a one-place one, a call of a value, by data -/
def RV (K : PySem.W.Frag) (r : R2) (x y : AV) (μ : List CC) (z : AV) (μ' : List CC) : Prop :=
  ∀ (α Z : List Addr) (H : Hp), Okay K α Z H μ → ∀ vx vy, RpV K α Z H vx x → RpV K α Z H vy y → ∀ Q : VK, (∀ v H', Ext α H H' → Okay K α Z H' μ' → RpV K α Z H' v z → Q v H') → r vx vy H Q
def RVN (K : PySem.W.Frag) (r : R2) (x y : AV) (μ : List CC) (xs : List AV) (μ' : List CC) : Prop :=
  ∀ (α Z : List Addr) (H : Hp), Okay K α Z H μ → ∀ vx vy, RpV K α Z H vx x → RpV K α Z H vy y → ∀ Q : VK,
    (∀ p vs H', Ext α H H' → H p = none → H' p = some (.lst vs) → Okay K α (p :: Z) H' μ' → RpVs K α (p :: Z) H' vs xs → Q (.ref p) H') → r vx vy H Q
def RU (K : PySem.W.Frag) (r : V → Hp → VK → Prop) (x : AV) (μ : List CC) (z : AV) (μ' : List CC) : Prop :=
  ∀ (α Z : List Addr) (H : Hp), Okay K α Z H μ → ∀ vx, RpV K α Z H vx x → ∀ Q : VK, (∀ v H', Ext α H H' → Okay K α Z H' μ' → RpV K α Z H' v z → Q v H') → r vx H Q
def RC (K : PySem.W.Frag) (r : List V → Hp → VK → Prop) (xs : List AV) (μ : List CC) (z : AV) (μ' : List CC) : Prop :=
  ∀ (α Z : List Addr) (H : Hp), Okay K α Z H μ → ∀ vs, RpVs K α Z H vs xs → ∀ Q : VK, (∀ v H', Ext α H H' → Okay K α Z H' μ' → RpV K α Z H' v z → Q v H') → r vs H Q
def RCN (K : PySem.W.Frag) (r : List V → Hp → VK → Prop) (xs : List AV) (μ : List CC) (ys : List AV) (μ' : List CC) : Prop :=
  ∀ (α Z : List Addr) (H : Hp), Okay K α Z H μ → ∀ vs, RpVs K α Z H vs xs → ∀ Q : VK,
    (∀ p vs H', Ext α H H' → H p = none → H' p = some (.lst vs) → Okay K α (p :: Z) H' μ' → RpVs K α (p :: Z) H' vs ys → Q (.ref p) H') → r vs H Q
section
variable {K : PySem.W.Frag} {ρ : Slots} {μ μ1 μ2 μ3 : List CC} {ta tb tc te : TE} {t u : TT} {x y z : AV} {xs ys : List AV}
theorem Okay.ext_w {α Z : List Addr} {H H' : Hp} (ok : Okay K α Z H μ) : ∀ a ∈ α, a ∈ Z := ok.w.sub
/-- a new list of data is data -/
theorem EN.ev {ds : List D} (h : EN K te ρ μ (ds.map .d) μ1) : EV K te ρ μ (.d (.lst ds)) μ1 := by
  intro α Z σ H ok sl Q k
  refine h α Z σ H ok sl Q fun p vs H' e hp hv ok' r => k _ H' e (ok'.less ok.w.sub) (.d (.lst (ok.w.off hp) hv ?_))
  exact RpVs.to_data r.less
theorem RVN.rv {r : R2} {ds : List D} (h : RVN K r x y μ (ds.map .d) μ1) : RV K r x y μ (.d (.lst ds)) μ1 := by
  intro α Z H ok vx vy rx ry Q k
  exact h α Z H ok vx vy rx ry Q fun p vs H' e hp hv ok' r => k _ H' e (ok'.less ok.w.sub) (.d (.lst (ok.w.off hp) hv (RpVs.to_data r.less)))
theorem RCN.rc {r : List V → Hp → VK → Prop} {ds : List D} (h : RCN K r xs μ (ds.map .d) μ1) : RC K r xs μ (.d (.lst ds)) μ1 := by
  intro α Z H ok vs rs Q k
  exact h α Z H ok vs rs Q fun p vs H' e hp hv ok' r => k _ H' e (ok'.less ok.w.sub) (.d (.lst (ok.w.off hp) hv (RpVs.to_data r.less)))
theorem EV.to {r r' : AV} (h : EV K te ρ μ r μ1) (e : r = r') : EV K te ρ μ r' μ1 := e ▸ h
theorem EN.to {ys : List AV} (h : EN K te ρ μ xs μ1) (e : xs = ys) : EN K te ρ μ ys μ1 := e ▸ h
theorem ET.to {b c : Bool} (h : ET K t ρ μ b μ1) (e : b = c) : ET K t ρ μ c μ1 := e ▸ h
/-! ### names, constants -/
theorem ev_var {i : Nat} (h : ρ[i]? = some (some x)) : EV K (tVar i) ρ μ x μ := fun α Z σ H ok sl Q k => by
  obtain ⟨v, h1, h2⟩ := sl.at_ i x h
  exact ⟨v, h1, k v H (.refl _ _) ok h2⟩
theorem ev_c {v : V} {d : D} (h : ∀ Z H, Rp K Z H v d) : EV K (tC v) ρ μ (.d d) μ := fun α Z σ H ok sl Q k => k v H (.refl _ _) ok (.d (h Z H))
theorem ev_int {i : Int} : EV K (tC (.int i)) ρ μ (.d (.int i)) μ := ev_c fun _ _ => .int i
theorem ev_bl {b : Bool} : EV K (tC (.bl b)) ρ μ (.d (.bl b)) μ := ev_c fun _ _ => .bl b
theorem ev_str {s : Str} : EV K (tC (.str s)) ρ μ (.d (.str s)) μ := ev_c fun _ _ => .str s
theorem ev_non : EV K (tC .non) ρ μ (.d .non) μ := ev_c fun _ _ => .non
theorem ev_raw {v : V} : EV K (tC v) ρ μ (.d (.raw v)) μ := ev_c fun _ _ => .raw v
/-! ### operations -/
theorem ev_op {r : R2} (ha : EV K ta ρ μ x μ1) (hb : EV K tb ρ μ1 y μ2) (hr : RV K r x y μ2 z μ3) : EV K (tOp r ta tb) ρ μ z μ3 :=
  fun α Z σ H ok sl Q k => ha α Z σ H ok sl _ fun v1 H1 e1 ok1 r1 => hb α Z σ H1 ok1 (sl.ext ok e1) _ fun v2 H2 e2 ok2 r2 =>
    hr α Z H2 ok2 v1 v2 (r1.ext ok1 e2) r2 Q fun v H' e3 ok3 r3 => k v H' (e1.trans (e2.trans e3)) ok3 r3
theorem en_op {r : R2} (ha : EV K ta ρ μ x μ1) (hb : EV K tb ρ μ1 y μ2) (hr : RVN K r x y μ2 xs μ3) : EN K (tOp r ta tb) ρ μ xs μ3 :=
  fun α Z σ H ok sl Q k => ha α Z σ H ok sl _ fun v1 H1 e1 ok1 r1 => hb α Z σ H1 ok1 (sl.ext ok e1) _ fun v2 H2 e2 ok2 r2 =>
    hr α Z H2 ok2 v1 v2 (r1.ext ok1 e2) r2 Q fun p vs H' e3 hp hv ok3 r3 => k p vs H' (e1.trans (e2.trans e3)) (by
      have h2 : H1 p = none := none_back (fun q => ok2.w.off hp (ok.w.sub p q)) e2 hp
      exact none_back (fun q => ok1.w.off h2 (ok.w.sub p q)) e1 h2) hv ok3 r3
theorem ev_un {r : V → Hp → VK → Prop} (ha : EV K ta ρ μ x μ1) (hr : RU K r x μ1 z μ2) : EV K (tUn r ta) ρ μ z μ2 :=
  fun α Z σ H ok sl Q k => ha α Z σ H ok sl _ fun v1 H1 e1 ok1 r1 => hr α Z H1 ok1 v1 r1 Q fun v H' e3 ok3 r3 => k v H' (e1.trans e3) ok3 r3
theorem ev_cb {r : List V → Hp → VK → Prop} {ts : TA} (ha : EA K ts ρ μ xs μ1) (hr : RC K r xs μ1 z μ2) : EV K (tCB r ts) ρ μ z μ2 :=
  fun α Z σ H ok sl Q k => ha α Z σ H ok sl _ fun v1 H1 e1 ok1 r1 => hr α Z H1 ok1 v1 r1 Q fun v H' e3 ok3 r3 => k v H' (e1.trans e3) ok3 r3
theorem en_cb {r : List V → Hp → VK → Prop} {ts : TA} (ha : EA K ts ρ μ xs μ1) (hr : RCN K r xs μ1 ys μ2) : EN K (tCB r ts) ρ μ ys μ2 :=
  fun α Z σ H ok sl Q k => ha α Z σ H ok sl _ fun v1 H1 e1 ok1 r1 => hr α Z H1 ok1 v1 r1 Q fun p vs H' e3 hp hv ok3 r3 => k p vs H' (e1.trans e3)
    (none_back (fun q => ok1.w.off hp (ok.w.sub p q)) e1 hp) hv ok3 r3
/-! ### arguments, displays -/
theorem ea_nil : EA K tNil ρ μ [] μ := fun α Z σ H ok sl Q k => k [] H (.refl _ _) ok .nil
theorem ea_cons {ts : TA} (ha : EV K ta ρ μ x μ1) (hr : EA K ts ρ μ1 xs μ2) : EA K (tCons ta ts) ρ μ (x :: xs) μ2 :=
  fun α Z σ H ok sl Q k => ha α Z σ H ok sl _ fun v1 H1 e1 ok1 r1 => hr α Z σ H1 ok1 (sl.ext ok e1) _ fun vs H2 e2 ok2 r2 => k (v1 :: vs) H2 (e1.trans e2) ok2 (.cons (r1.ext ok1 e2) r2)
theorem ev_tup {ts : TA} {ds : List D} (h : EA K ts ρ μ (ds.map .d) μ1) (hl : ds.length ≤ 100000) : EV K (tTup ts) ρ μ (.d (.tup ds)) μ1 :=
  fun α Z σ H ok sl Q k => h α Z σ H ok sl _ fun vs H1 e1 ok1 r1 => ⟨by
    have z := r1.length
    rw [List.length_map] at z
    rw [z, sizeLine_eq]; omega, fun p hp => k _ _ (e1.trans (Ext.new hp)) (ok1.laid hp) (.d (.tup (ok1.w.off hp) upd_same ((RpVs.to_data r1).gr ok1.w (.of_ext (Ext.new hp)))))⟩
theorem en_lst {ts : TA} (h : EA K ts ρ μ xs μ1) (hl : xs.length ≤ 100000) : EN K (tLst ts) ρ μ xs μ1 :=
  fun α Z σ H ok sl Q k => h α Z σ H ok sl _ fun vs H1 e1 ok1 r1 => ⟨by
    have z := r1.length
    rw [z, sizeLine_eq]; omega, fun p hp => k p vs _ (e1.trans (Ext.new hp)) (none_back (fun q => ok1.w.off hp (ok.w.sub p q)) e1 hp) upd_same
      (ok1.keepOff hp (Ext.laid hp) ⟨_, upd_same⟩) (r1.gr ok1.w (Gr.new1 hp (Ext.laid hp)))⟩
/-! ### tests -/
theorem et_test {b : Bool} (h : EV K te ρ μ (.d (.bl b)) μ1) : ET K (tTest te) ρ μ b μ1 :=
  fun α Z σ H ok sl Q k => h α Z σ H ok sl _ fun v H1 e1 ok1 r1 => by
    cases r1 with
    | d r => cases r; exact ⟨b, rfl, k H1 e1 ok1⟩
theorem et_B {b : Bool} (h : EV K te ρ μ (.d (.bl b)) μ1) : ET K (tB te) ρ μ b μ1 :=
  fun α Z σ H ok sl Q k => h α Z σ H ok sl _ fun v H1 e1 ok1 r1 => by
    cases r1 with
    | d r => cases r; exact ⟨b, rfl, k H1 e1 ok1⟩
theorem et_yes : ET K tYes ρ μ true μ := fun α Z σ H ok sl Q k => k H (.refl _ _) ok
theorem et_not {b : Bool} (h : ET K t ρ μ b μ1) : ET K (tNot t) ρ μ (!b) μ1 := fun α Z σ H ok sl Q k => h α Z σ H ok sl _ k
theorem et_and {b c : Bool} (h : ET K t ρ μ b μ1) (h2 : b = true → ET K u ρ μ1 c μ2) (h3 : b = false → μ1 = μ2) : ET K (tAnd t u) ρ μ (b && c) μ2 :=
  fun α Z σ H ok sl Q k => h α Z σ H ok sl _ fun H1 e1 ok1 => by
    cases b with
    | true => exact h2 rfl α Z σ H1 ok1 (sl.ext ok e1) Q fun H2 e2 ok2 => k H2 (e1.trans e2) ok2
    | false => exact k H1 e1 (h3 rfl ▸ ok1)
theorem et_or {b c : Bool} (h : ET K t ρ μ b μ1) (h2 : b = false → ET K u ρ μ1 c μ2) (h3 : b = true → μ1 = μ2) : ET K (tOr t u) ρ μ (b || c) μ2 :=
  fun α Z σ H ok sl Q k => h α Z σ H ok sl _ fun H1 e1 ok1 => by
    cases b with
    | false => exact h2 rfl α Z σ H1 ok1 (sl.ext ok e1) Q fun H2 e2 ok2 => k H2 (e1.trans e2) ok2
    | true => exact k H1 e1 (h3 rfl ▸ ok1)
theorem ev_andV {b : Bool} (h : EV K ta ρ μ (.d (.bl b)) μ1) (h2 : b = true → EV K tb ρ μ1 z μ2) (h3 : b = false → μ1 = μ2 ∧ z = .d (.bl false)) : EV K (tAndV ta tb) ρ μ z μ2 :=
  fun α Z σ H ok sl Q k => h α Z σ H ok sl _ fun v H1 e1 ok1 r1 => by
    cases r1 with
    | d r =>
      cases r
      refine ⟨b, rfl, ?_⟩
      cases b with
      | true => exact h2 rfl α Z σ H1 ok1 (sl.ext ok e1) Q fun v H2 e2 ok2 r2 => k v H2 (e1.trans e2) ok2 r2
      | false => obtain ⟨q1, q2⟩ := h3 rfl; subst q1; subst q2; exact k _ H1 e1 ok1 (.d (.bl false))
theorem ev_orV {b : Bool} (h : EV K ta ρ μ (.d (.bl b)) μ1) (h2 : b = false → EV K tb ρ μ1 z μ2) (h3 : b = true → μ1 = μ2 ∧ z = .d (.bl true)) : EV K (tOrV ta tb) ρ μ z μ2 :=
  fun α Z σ H ok sl Q k => h α Z σ H ok sl _ fun v H1 e1 ok1 r1 => by
    cases r1 with
    | d r =>
      cases r
      refine ⟨b, rfl, ?_⟩
      cases b with
      | false => exact h2 rfl α Z σ H1 ok1 (sl.ext ok e1) Q fun v H2 e2 ok2 r2 => k v H2 (e1.trans e2) ok2 r2
      | true => obtain ⟨q1, q2⟩ := h3 rfl; subst q1; subst q2; exact k _ H1 e1 ok1 (.d (.bl true))
/-- .. told by the value alone -/
theorem ev_and2 {b c : Bool} (h : EV K ta ρ μ (.d (.bl b)) μ) (h2 : b = true → EV K tb ρ μ (.d (.bl c)) μ) : EV K (tAndV ta tb) ρ μ (.d (.bl (b && c))) μ := by
  refine ev_andV h (fun e => ?_) fun e => ⟨rfl, by rw [e]; rfl⟩
  have := h2 e
  rw [e]; exact this
theorem ev_or2 {b c : Bool} (h : EV K ta ρ μ (.d (.bl b)) μ) (h2 : b = false → EV K tb ρ μ (.d (.bl c)) μ) : EV K (tOrV ta tb) ρ μ (.d (.bl (b || c))) μ := by
  refine ev_orV h (fun e => ?_) fun e => ⟨rfl, by rw [e]; rfl⟩
  have := h2 e
  rw [e]; exact this
theorem et_and2 {b c : Bool} (h : ET K t ρ μ b μ) (h2 : b = true → ET K u ρ μ c μ) : ET K (tAnd t u) ρ μ (b && c) μ := et_and h h2 fun _ => rfl
theorem et_or2 {b c : Bool} (h : ET K t ρ μ b μ) (h2 : b = false → ET K u ρ μ c μ) : ET K (tOr t u) ρ μ (b || c) μ := et_or h h2 fun _ => rfl
theorem ev_notV {b : Bool} (h : EV K ta ρ μ (.d (.bl b)) μ1) : EV K (tNotV ta) ρ μ (.d (.bl (!b))) μ1 :=
  fun α Z σ H ok sl Q k => h α Z σ H ok sl _ fun v H1 e1 ok1 r1 => by
    cases r1 with
    | d r => cases r; exact ⟨b, rfl, k _ H1 e1 ok1 (.d (.bl _))⟩
theorem ev_if {b : Bool} (h : ET K t ρ μ b μ1) (h1 : b = true → EV K ta ρ μ1 z μ2) (h2 : b = false → EV K tb ρ μ1 z μ2) : EV K (tIf t ta tb) ρ μ z μ2 :=
  fun α Z σ H ok sl Q k => h α Z σ H ok sl _ fun H1 e1 ok1 => by
    cases b with
    | true => exact h1 rfl α Z σ H1 ok1 (sl.ext ok e1) Q fun v H2 e2 ok2 r2 => k v H2 (e1.trans e2) ok2 r2
    | false => exact h2 rfl α Z σ H1 ok1 (sl.ext ok e1) Q fun v H2 e2 ok2 r2 => k v H2 (e1.trans e2) ok2 r2
theorem ev_chain {r r' : R2} {b : Bool} (ha : EV K ta ρ μ x μ) (hb : EV K tb ρ μ y μ) (hr : RV K r x y μ (.d (.bl b)) μ) (hc : b = true → EV K tc ρ μ z μ) {c : Bool} (hr' : b = true → RV K r' y z μ (.d (.bl c)) μ) :
    EV K (tChain r r' ta tb tc) ρ μ (.d (.bl (b && c))) μ :=
  fun α Z σ H ok sl Q k => ha α Z σ H ok sl _ fun v1 H1 e1 ok1 r1 => hb α Z σ H1 ok1 (sl.ext ok e1) _ fun v2 H2 e2 ok2 r2 =>
    hr α Z H2 ok2 v1 v2 (r1.ext ok1 e2) r2 _ fun v H3 e3 ok3 r3 => by
      cases r3 with
      | d r3 =>
        cases r3
        refine ⟨b, rfl, ?_⟩
        have e123 := e1.trans (e2.trans e3)
        cases b with
        | true => exact hc rfl α Z σ H3 ok3 (sl.ext ok e123) _ fun v4 H4 e4 ok4 r4 => hr' rfl α Z H4 ok4 v2 v4 ((r2.ext ok2 e3).ext ok3 e4) r4 Q fun v5 H5 e5 ok5 r5 => k v5 H5 (e123.trans (e4.trans e5)) ok5 r5
        | false => exact k _ H3 e123 ok3 (.d (.bl false))
end
end DL

set_option Elab.async false
set_option linter.all false
set_option maxRecDepth 100000
set_option maxHeartbeats 4000000
/-! DL3: walks, targets, comprehensions, statements. -/
namespace DL
open PySem PySem.Spec PyProof.Rows L2
/-- a walk over items, one by one -/
def IW (K : PySem.W.Frag) (wi : TI) (ρ : Slots) (μ : List CC) (items : List AV) (μ' : List CC) : Prop :=
  ∀ (α Z : List Addr) (σ : L2.St) (H : Hp), Okay K α Z H μ → SlotsOk K α Z H σ ρ → ∀ R : It → Hp → Prop,
    (∀ J H1 G Y, Ext α H H1 → Okay K α Z H1 μ' → Walk J items.length G Y → (∀ H2, Ext Z H1 H2 → G H2) →
      (∀ i Hx x Hy α' Z', Gw α Z H1 α' Z' Hx → WOk α' Z' Hx → i < items.length → Y i Hx x Hy → ∃ d, items[i]? = some d ∧ Ext [] Hx Hy ∧ RpV K α' Z' Hy x d) → R J H1) → wi σ H R
/-- a target: the slots behind it; js: the slots it sets -/
def GV (K : PySem.W.Frag) (g : TG) (d : AV) (ρ ρ' : Slots) (js : List Nat) : Prop :=
  ∀ (α Z : List Addr) (μ : List CC) (σ : L2.St) (H : Hp) (x : V), Okay K α Z H μ → RpV K α Z H x d → SlotsOk K α Z H σ ρ → ∀ Q : L2.St → Hp → Prop,
    (∀ σ2, (∀ vs : List Nat, (∀ j ∈ js, j ∈ vs) → wipe σ2 vs = wipe σ vs) → SlotsOk K α Z H σ2 ρ' → Q σ2 H) → g x σ H Q
def GVs (K : PySem.W.Frag) (g : TGs) (ds : List AV) (ρ ρ' : Slots) (js : List Nat) : Prop :=
  ∀ (α Z : List Addr) (μ : List CC) (σ : L2.St) (H : Hp) (xs : List V), Okay K α Z H μ → RpVs K α Z H xs ds → SlotsOk K α Z H σ ρ → ∀ Q : L2.St → Hp → Prop,
    (∀ σ2, (∀ vs : List Nat, (∀ j ∈ js, j ∈ vs) → wipe σ2 vs = wipe σ vs) → SlotsOk K α Z H σ2 ρ' → Q σ2 H) → g xs σ H Q
theorem wipe_set : ∀ {vs : List Nat} {σ : L2.St} {j : Nat} {x : Option V}, j ∈ vs → wipe (σ.set j x) vs = wipe σ vs
  | v :: vs, σ, j, x, h => by
    show (wipe (σ.set j x) vs).set v none = (wipe σ vs).set v none
    by_cases hj : j ∈ vs
    · rw [wipe_set hj]
    · have e : j = v := by
        rcases List.mem_cons.mp h with e | e
        · exact e
        · exact absurd e hj
      subst e
      have q : ∀ (ws : List Nat), j ∉ ws → wipe (σ.set j x) ws = (wipe σ ws).set j x := by
        intro ws
        induction ws with
        | nil => intro _; rfl
        | cons u us ih =>
          intro hn
          have h1 : j ≠ u := fun z => hn (by rw [z]; exact List.mem_cons_self)
          have h2 : j ∉ us := fun z => hn (List.mem_cons_of_mem _ z)
          show (wipe (σ.set j x) us).set u none = ((wipe σ us).set u none).set j x
          rw [ih h2, List.set_comm _ _ h1]
      rw [q vs hj, List.set_set]
/-- the slots of the block's own names forgotten -/
def wipeA (ρ : Slots) : List Nat → Slots
  | [] => ρ
  | v :: vs => (wipeA ρ vs).set v none
theorem wipeA_length (ρ : Slots) : ∀ vs : List Nat, (wipeA ρ vs).length = ρ.length
  | [] => rfl
  | v :: vs => by unfold wipeA; rw [List.length_set, wipeA_length ρ vs]
section
variable {K : PySem.W.Frag} {α Z : List Addr} {H : Hp} {ρ ρ' ρ2 : Slots} {μ μ1 μ2 : List CC} {σ : L2.St} {x d : AV} {te : TE} {ta : TA}
theorem SlotsOk.set {v : V} {x : AV} {i : Nat} (s : SlotsOk K α Z H σ ρ) (r : RpV K α Z H v x) : SlotsOk K α Z H (σ.set i (some v)) (ρ.set i (some x)) := ⟨by rw [List.length_set, List.length_set, s.len], fun j y hj => by
  by_cases e : i = j
  · subst e
    have hi : i < ρ.length := by
      have := (List.getElem?_eq_some_iff.mp hj).1
      rwa [List.length_set] at this
    rw [List.getElem?_set_self hi] at hj
    cases hj
    exact ⟨v, List.getElem?_set_self (by rw [s.len]; exact hi), r⟩
  · rw [List.getElem?_set_ne e] at hj
    obtain ⟨u, h1, h2⟩ := s.at_ j y hj
    exact ⟨u, by rw [List.getElem?_set_ne e]; exact h1, h2⟩⟩
theorem SlotsOk.none {i : Nat} (s : SlotsOk K α Z H σ ρ) : SlotsOk K α Z H (σ.set i none) (ρ.set i none) := ⟨by rw [List.length_set, List.length_set, s.len], fun j y hj => by
  by_cases e : i = j
  · subst e
    by_cases hi : i < ρ.length
    · rw [List.getElem?_set_self hi] at hj; cases hj
    · rw [List.getElem?_eq_none (by rw [List.length_set]; omega)] at hj; cases hj
  · rw [List.getElem?_set_ne e] at hj
    obtain ⟨u, h1, h2⟩ := s.at_ j y hj
    exact ⟨u, by rw [List.getElem?_set_ne e]; exact h1, h2⟩⟩
theorem SlotsOk.wipe (s : SlotsOk K α Z H σ ρ) : ∀ vs : List Nat, SlotsOk K α Z H (L2.wipe σ vs) (wipeA ρ vs)
  | [] => s
  | v :: vs => (SlotsOk.wipe s vs).none
/-- forgetting -/
theorem SlotsOk.weak (s : SlotsOk K α Z H σ ρ) (hl : ρ'.length = ρ.length) (h : ∀ (i : Nat) (x : AV), ρ'[i]? = some (some x) → ρ[i]? = some (some x)) : SlotsOk K α Z H σ ρ' := ⟨s.len.trans hl.symm, fun i x hi => s.at_ i x (h i x hi)⟩
/-! ### targets -/
theorem gv_name {i : Nat} : GV K (gName i) d ρ (ρ.set i (some d)) [i] := fun α Z μ σ H x ok r sl Q k =>
  k _ (fun vs hv => wipe_set (hv i List.mem_cons_self)) (sl.set r)
theorem gvs_nil : GVs K gNil [] ρ ρ [] := fun α Z μ σ H xs ok r sl Q k => by
  cases r
  exact ⟨rfl, k σ (fun _ _ => rfl) sl⟩
theorem gvs_cons {t : TG} {u : TGs} {ds : List AV} {js js' : List Nat} (h : GV K t d ρ ρ' js) (h2 : GVs K u ds ρ' ρ2 js') : GVs K (gCons t u) (d :: ds) ρ ρ2 (js ++ js') := fun α Z μ σ H xs ok r sl Q k => by
  cases r with
  | cons r1 r2 =>
    refine ⟨_, _, rfl, h α Z μ σ H _ ok r1 sl _ fun σ2 w2 s2 => h2 α Z μ σ2 H _ ok r2 s2 _ fun σ3 w3 s3 => k σ3 (fun vs hv => ?_) s3⟩
    rw [w3 vs fun j hj => hv j (List.mem_append_right _ hj), w2 vs fun j hj => hv j (List.mem_append_left _ hj)]
/-! ### comprehensions -/
/-- the rule for [elt for target in iter if ..]: acc, M: what is made and the cells ahead of turn i -/
theorem en_lc {wi : TI} {g : TG} {tt : TT} {vs : List Nat} {items : List AV} (hi : IW K wi ρ μ items μ1) (acc : Nat → List AV) (M : Nat → List CC) (h0 : acc 0 = []) (m0 : M 0 = μ1)
    (hs : ∀ (i : Nat) (d : AV), items[i]? = some d → ∃ (ρ2 : Slots) (js : List Nat) (b : Bool) (μa : List CC), GV K g d (wipeA ρ vs) ρ2 js ∧ (∀ j ∈ js, j ∈ vs) ∧ ET K tt ρ2 (M i) b μa ∧
      (b = true → ∃ r, EV K te ρ2 μa r (M (i + 1)) ∧ acc (i + 1) = acc i ++ [r]) ∧ (b = false → M (i + 1) = μa ∧ acc (i + 1) = acc i))
    (hn : items.length ≤ 100000) : EN K (tLc wi g tt te vs) ρ μ (acc items.length) (M items.length) := by
  intro α Z σ H ok sl Q k
  have accLen : ∀ i, i ≤ items.length → (acc i).length ≤ i := by
    intro i
    induction i with
    | zero => intro _; rw [h0]; exact Nat.le_refl _
    | succ i ih =>
      intro hi'
      obtain ⟨ρ2, js, b, μa, _, _, _, h1, h2⟩ := hs i items[i] (List.getElem?_eq_getElem hi')
      cases b with
      | true => obtain ⟨r, _, e⟩ := h1 rfl; rw [e, List.length_append]; have := ih (Nat.le_of_succ_le hi'); simp only [List.length_cons, List.length_nil]; omega
      | false => rw [(h2 rfl).2]; exact Nat.le_trans (ih (Nat.le_of_succ_le hi')) (Nat.le_succ _)
  refine hi α Z σ H ok sl _ fun J H1 G Y e1 ok1 w hG hY => ?_
  intro Dl hD
  have sl1 := sl.ext ok e1
  have hD0 : H Dl = none := none_back (fun q => ok1.w.off hD (ok.w.sub Dl q)) e1 hD
  refine lc_it w (fun i H' => ∃ vs', H' Dl = some (.lst vs') ∧ Ext α H1 (fun a => if a = Dl then none else H' a) ∧ Okay K α (Dl :: Z) H' (M i) ∧ RpVs K α (Dl :: Z) H' vs' (acc i)) ?_ ?_ ?_ ?_
  · refine ⟨[], upd_same, fun a ha o q => ?_, by rw [m0]; exact ok1.keepOff hD (Ext.laid hD) ⟨_, upd_same⟩, by rw [h0]; exact .nil⟩
    have ne : a ≠ Dl := ne_of_none q hD
    show (if a = Dl then none else upd H1 Dl _ a) = some o
    rw [if_neg ne, upd_ne ne]; exact q
  · rintro i H' hi' ⟨vs', h1, h2, h3, h4⟩
    refine hG H' fun a ha o q => ?_
    have := h2 a (fun z => ha (ok1.w.sub a z)) o q
    have ne : a ≠ Dl := ne_of_none q hD
    dsimp only at this
    rw [if_neg ne] at this; exact this
  · rintro i x Hx Hy hi' ⟨vs', h1, h2, h3, h4⟩ hy
    have ex : Ext α H1 Hx := fun a ha o q => by
      have := h2 a ha o q
      have ne : a ≠ Dl := ne_of_none q hD
      dsimp only at this
      rw [if_neg ne] at this; exact this
    have gr : Gr α Z H1 α (Dl :: Z) Hx := ⟨⟨[], by simp, by simp⟩, fun z hz => List.mem_cons_of_mem _ hz, fun z hz => by
      rcases List.mem_cons.mp hz with q | q
      · exact .inr (q ▸ hD)
      · exact .inl q, ex⟩
    obtain ⟨d, hd, ey, ry⟩ := hY i Hx x Hy α (Dl :: Z) (gr.gw ok1.w) h3.w hi' hy
    obtain ⟨ρ2, js, b, μa, hg, hjs, ht, hb1, hb2⟩ := hs i d hd
    have ok3 : Okay K α (Dl :: Z) Hy (M i) := h3.still ey
    have gr' : Gr α Z H1 α (Dl :: Z) Hy := gr.trans ok1.w h3.w (.of_ext ey.nil_any)
    have sw : SlotsOk K α (Dl :: Z) Hy (L2.wipe σ vs) (wipeA ρ vs) := (sl1.gr ok1.w gr').wipe vs
    refine hg α (Dl :: Z) (M i) (L2.wipe σ vs) Hy x ok3 ry sw _ fun σ2 w2 s2 => ⟨?_, ?_⟩
    · rw [w2 vs hjs]
      have ww : ∀ (us : List Nat) (σ : L2.St), L2.wipe (L2.wipe σ us) us = L2.wipe σ us := by
        intro us σ
        apply List.ext_getElem?
        intro n
        by_cases hn : n ∈ us
        · have q : ∀ (ws : List Nat) (τ : L2.St), n ∈ ws → (L2.wipe τ ws)[n]? = if n < τ.length then some none else none := by
            intro ws
            induction ws with
            | nil => intro τ h; exact absurd h List.not_mem_nil
            | cons u us ih =>
              intro τ h
              show ((L2.wipe τ us).set u none)[n]? = _
              by_cases e : u = n
              · subst e
                by_cases hlt : u < τ.length
                · rw [List.getElem?_set_self (by rw [wipe_length]; exact hlt), if_pos hlt]
                · rw [List.getElem?_eq_none (by rw [List.length_set, wipe_length]; omega), if_neg hlt]
              · rw [List.getElem?_set_ne e]
                rcases List.mem_cons.mp h with z | z
                · exact absurd z.symm e
                · exact ih τ z
          rw [q us _ hn, q us _ hn, wipe_length]
        · rw [wipe_out hn]
      exact ww vs σ
    · have eDy : Hy Dl = some (.lst vs') := ey Dl List.not_mem_nil _ h1
      have rv : RpVs K α (Dl :: Z) Hy vs' (acc i) := h4.gr h3.w (.of_ext ey.nil_any)
      have back : ∀ {Hz : Hp}, Ext α Hy Hz → Ext α H1 (fun a => if a = Dl then none else Hz a) := fun {Hz} ez a ha o q => by
        have ne : a ≠ Dl := ne_of_none q hD
        show (if a = Dl then none else Hz a) = some o
        rw [if_neg ne]
        exact ez a ha o (ey a List.not_mem_nil o (ex a ha o q))
      have hDα : Dl ∉ α := fun q => ok1.w.off hD (ok1.w.sub _ q)
      refine ht α (Dl :: Z) σ2 Hy ok3 s2 _ fun H3 e3 ok3' => ?_
      cases b with
      | true =>
        obtain ⟨r, hr, ea⟩ := hb1 rfl
        show te σ2 H3 _
        refine hr α (Dl :: Z) σ2 H3 ok3' (s2.ext ok3 e3) _ fun v H4 e4 ok4 r4 => ?_
        have e34 := e3.trans e4
        refine ⟨vs', e34 Dl hDα _ eDy, ?_, vs' ++ [v], upd_same, ?_, ?_, ?_⟩
        · have z := rv.length
          have z2 := accLen i (Nat.le_of_lt hi')
          rw [z, sizeLine_eq]; omega
        · exact fun a ha o q => by
            have ne : a ≠ Dl := ne_of_none q hD
            have := back e34 a ha o q
            dsimp only at this ⊢
            rw [if_neg ne] at this ⊢
            rw [upd_ne ne]; exact this
        · exact ok4.touch List.mem_cons_self hDα
        · rw [ea]
          exact (((rv.ext ok3 e3).ext ok3' e4).append (.cons r4 .nil)).touch List.mem_cons_self
      | false =>
        obtain ⟨em, ea⟩ := hb2 rfl
        exact ⟨vs', e3 Dl hDα _ eDy, back e3, by rw [em]; exact ok3', by rw [ea]; exact rv.ext ok3 e3⟩
  · rintro H' ⟨vs', h1, h2, h3, h4⟩
    refine k Dl vs' H' (fun a ha o q => ?_) hD0 h1 h3 h4
    have := h2 a ha o (e1 a ha o q)
    have ne : a ≠ Dl := ne_of_none q hD0
    dsimp only at this
    rw [if_neg ne] at this; exact this
end
end DL

set_option Elab.async false
set_option linter.all false
set_option maxRecDepth 100000
set_option maxHeartbeats 4000000
/-! DL4: statements on data. -/
namespace DL
open PySem PySem.Spec PyProof.Rows L2
/-- what is wanted behind a statement -/
structure Po where
  nx : Slots → List CC → Prop
  rt : AV → List CC → Prop
  bk : Slots → List CC → Prop := fun _ _ => False
  ct : Slots → List CC → Prop := fun _ _ => False
  xc : Value → List (Str × D) → List CC → Prop := fun _ _ _ => False
/-- an exception's own dict -/
def RpF (K : PySem.W.Frag) (Z : List Addr) (H : Hp) (vs : List (Str × V)) (fs : List (Str × D)) : Prop := Paired (fun (p : Str × V) (q : Str × D) => p.1 = q.1 ∧ Rp K Z H p.2 q.2) vs fs
def ExcOk (K : PySem.W.Frag) (Z : List Addr) (H : Hp) (d : Option Addr) (fs : List (Str × D)) : Prop := (d = none ∧ fs = []) ∨ ∃ a vs, d = some a ∧ a ∉ Z ∧ H a = some (.xd vs) ∧ RpF K Z H vs fs
structure Cont (K : PySem.W.Frag) (W : WX) (α0 Z0 : List Addr) (H0 : Hp) (D : Ends) (P : Po) : Prop where
  nx : ∀ ρ μ α Z σ H, P.nx ρ μ → Gr α0 Z0 H0 α Z H → Okay K α Z H μ → SlotsOk K α Z H σ ρ → D.nx σ H
  rt : ∀ r μ v α Z H, P.rt r μ → Gr α0 Z0 H0 α Z H → Okay K α Z H μ → RpV K α Z H v r → D.rt v H
  bk : ∀ ρ μ α Z σ H, P.bk ρ μ → Gr α0 Z0 H0 α Z H → Okay K α Z H μ → SlotsOk K α Z H σ ρ → D.bk σ H
  ct : ∀ ρ μ α Z σ H, P.ct ρ μ → Gr α0 Z0 H0 α Z H → Okay K α Z H μ → SlotsOk K α Z H σ ρ → D.ct σ H
  xc : ∀ c fs μ d α Z σ H, P.xc c fs μ → Gr α0 Z0 H0 α Z H → Okay K α Z H μ → ExcOk K Z H d fs → W c d σ H
def SV (K : PySem.W.Frag) (W : WX) (ts : TS) (ρ : Slots) (μ : List CC) (P : Po) : Prop :=
  ∀ (α0 Z0 : List Addr) (H0 : Hp) (α Z : List Addr) (σ : L2.St) (H : Hp) (D : Ends), WOk α0 Z0 H0 → Gr α0 Z0 H0 α Z H → Okay K α Z H μ → SlotsOk K α Z H σ ρ → Cont K W α0 Z0 H0 D P → ts D σ H
section
variable {K : PySem.W.Frag} {W : WX} {ρ ρ' : Slots} {μ μ1 μ2 : List CC} {P : Po} {t u : TS} {x y : AV} {xs : List AV} {te ta tb : TE}
theorem Gr.ext1 {α0 Z0 α Z : List Addr} {H0 H H' : Hp} (w0 : WOk α0 Z0 H0) (ok : Okay K α Z H μ) (g : Gr α0 Z0 H0 α Z H) (e : Ext α H H') : Gr α0 Z0 H0 α Z H' := g.trans w0 ok.w (.of_ext e)
theorem Cont.up {α0 Z0 α Z : List Addr} {H0 H1 : Hp} {D : Ends} (kk : Cont K W α0 Z0 H0 D P) (w0 : WOk α0 Z0 H0) (w1 : WOk α Z H1) (g : Gr α0 Z0 H0 α Z H1) : Cont K W α Z H1 D P :=
  ⟨fun ρ μ α' Z' σ H p g' => kk.nx ρ μ α' Z' σ H p (g.trans w0 w1 g'), fun r μ v α' Z' H p g' => kk.rt r μ v α' Z' H p (g.trans w0 w1 g'), fun ρ μ α' Z' σ H p g' => kk.bk ρ μ α' Z' σ H p (g.trans w0 w1 g'), fun ρ μ α' Z' σ H p g' => kk.ct ρ μ α' Z' σ H p (g.trans w0 w1 g'),
    fun c fs μ d α' Z' σ H p g' => kk.xc c fs μ d α' Z' σ H p (g.trans w0 w1 g')⟩
/-- weaken the posts -/
theorem SV.imp {P' : Po} (h : SV K W t ρ μ P) (n : ∀ ρ μ, P.nx ρ μ → P'.nx ρ μ) (r : ∀ v μ, P.rt v μ → P'.rt v μ) (b : ∀ ρ μ, P.bk ρ μ → P'.bk ρ μ) (c : ∀ ρ μ, P.ct ρ μ → P'.ct ρ μ) (e : ∀ c fs μ, P.xc c fs μ → P'.xc c fs μ) : SV K W t ρ μ P' :=
  fun α0 Z0 H0 α Z σ H D w0 g ok sl k => h α0 Z0 H0 α Z σ H D w0 g ok sl ⟨fun ρ μ α Z σ H p => k.nx ρ μ α Z σ H (n _ _ p), fun r' μ v α Z H p => k.rt r' μ v α Z H (r _ _ p), fun ρ μ α Z σ H p => k.bk ρ μ α Z σ H (b _ _ p), fun ρ μ α Z σ H p => k.ct ρ μ α Z σ H (c _ _ p), fun cc fs μ d α Z σ H p => k.xc cc fs μ d α Z σ H (e _ _ _ p)⟩
theorem SV.nx_imp {N : Slots → List CC → Prop} (h : SV K W t ρ μ { P with nx := N }) (n : ∀ ρ μ, N ρ μ → P.nx ρ μ) : SV K W t ρ μ P := h.imp n (fun _ _ h => h) (fun _ _ h => h) (fun _ _ h => h) fun _ _ _ h => h
/-- forget slots -/
theorem SV.weak (h : SV K W t ρ' μ P) (hl : ρ'.length = ρ.length) (hw : ∀ (i : Nat) (x : AV), ρ'[i]? = some (some x) → ρ[i]? = some (some x)) : SV K W t ρ μ P :=
  fun α0 Z0 H0 α Z σ H D w0 g ok sl k => h α0 Z0 H0 α Z σ H D w0 g ok (sl.weak hl hw) k
theorem sv_next (h : P.nx ρ μ) : SV K W tNext ρ μ P := fun α0 Z0 H0 α Z σ H D w0 g ok sl k => k.nx ρ μ α Z σ H h g ok sl
theorem sv_brk (h : P.bk ρ μ) : SV K W tBreak ρ μ P := fun α0 Z0 H0 α Z σ H D w0 g ok sl k => k.bk ρ μ α Z σ H h g ok sl
theorem sv_cont (h : P.ct ρ μ) : SV K W tCont ρ μ P := fun α0 Z0 H0 α Z σ H D w0 g ok sl k => k.ct ρ μ α Z σ H h g ok sl
theorem sv_seq (h : SV K W t ρ μ { P with nx := fun ρ' μ' => SV K W u ρ' μ' P }) : SV K W (tSeq t u) ρ μ P :=
  fun α0 Z0 H0 α Z σ H D w0 g ok sl k => h α0 Z0 H0 α Z σ H { D with nx := u D } w0 g ok sl
    ⟨fun ρ μ α Z σ H p g' ok' sl' => p α0 Z0 H0 α Z σ H D w0 g' ok' sl' k, k.rt, k.bk, k.ct, k.xc⟩
/-- the same, with a word between -/
theorem sv_cut (Mid : Slots → List CC → Prop) (h : SV K W t ρ μ { P with nx := Mid }) (h2 : ∀ ρ' μ', Mid ρ' μ' → SV K W u ρ' μ' P) : SV K W (tSeq t u) ρ μ P :=
  sv_seq (h.imp (fun ρ μ p => h2 ρ μ p) (fun _ _ h => h) (fun _ _ h => h) (fun _ _ h => h) fun _ _ _ h => h)
theorem sv_asgT {g : TG} {js : List Nat} (h : EV K te ρ μ x μ1) (hg : GV K g x ρ ρ' js) (k : P.nx ρ' μ1) : SV K W (tAsg te g) ρ μ P :=
  fun α0 Z0 H0 α Z σ H D w0 gr ok sl kk => h α Z σ H ok sl _ fun v H1 e1 ok1 r1 => hg α Z μ1 σ H1 v ok1 r1 (sl.ext ok e1) _ fun σ2 _ s2 => kk.nx _ _ α Z σ2 H1 k (gr.ext1 w0 ok e1) ok1 s2
theorem sv_asg {i : Nat} (h : EV K te ρ μ x μ1) (k : P.nx (ρ.set i (some x)) μ1) : SV K W (tAsg te (gName i)) ρ μ P := sv_asgT h gv_name k
/-- a new list becomes a cell -/
theorem new_cell {α Z : List Addr} {H H1 : Hp} {p : Addr} {vs : List V} (ok : Okay K α Z H μ) (ok1 : Okay K α (p :: Z) H1 μ1) (e1 : Ext α H H1) (hp : H p = none) (hv : H1 p = some (.lst vs)) (r1 : RpVs K α (p :: Z) H1 vs xs) :
    ∃ α', Gr α Z H α' (p :: Z) H1 ∧ Okay K α' (p :: Z) H1 (μ1 ++ [.lst xs]) ∧ α'[μ1.length]? = some p := by
  have g1 : Gr α Z H (α ++ [p]) (p :: Z) H1 := ⟨⟨[p], rfl, fun q hq => by rw [List.mem_singleton.mp hq]; exact hp⟩, fun z hz => List.mem_cons_of_mem _ hz, fun z hz => by
    rcases List.mem_cons.mp hz with q | q
    · exact .inr (q ▸ hp)
    · exact .inl q, e1⟩
  have hpα : p ∉ α := fun q => ok.w.off hp (ok.w.sub p q)
  have up : ∀ {v : V} {x : AV}, RpV K α (p :: Z) H1 v x → RpV K (α ++ [p]) (p :: Z) H1 v x := fun {v x} r => by
    cases r with
    | d r => exact .d r
    | cell h => exact .cell (by rw [List.getElem?_append_left (List.getElem?_eq_some_iff.mp h).1]; exact h)
  have ups : ∀ {vs : List V} {xs : List AV}, RpVs K α (p :: Z) H1 vs xs → RpVs K (α ++ [p]) (p :: Z) H1 vs xs := fun {vs xs} r => by
    induction vs generalizing xs with
    | nil => cases r; exact .nil
    | cons v vs ih => cases r with | cons a b => exact .cons (up a) (ih b)
  have upk : ∀ {vs : List (Key × V)} {xs : List (Key × AV)}, RpVK K α (p :: Z) H1 vs xs → RpVK K (α ++ [p]) (p :: Z) H1 vs xs := fun {vs xs} r => by
    induction vs generalizing xs with
    | nil => cases r; exact .nil
    | cons v vs ih => cases r with | cons a b => exact .cons (up a) (ih b)
  have upf : ∀ {vs : List (Str × V)} {xs : List (Str × AV)}, RpVF K α (p :: Z) H1 vs xs → RpVF K (α ++ [p]) (p :: Z) H1 vs xs := fun {vs xs} r => by
    induction vs generalizing xs with
    | nil => cases r; exact .nil
    | cons v vs ih => cases r with | cons a b => exact .cons (up a) (ih b)
  refine ⟨α ++ [p], g1, ⟨⟨?_, fun a ha => ?_, ok1.w.there⟩, ⟨by rw [List.length_append, List.length_append, ok1.c.len]; rfl, fun j a c h1 h2 => ?_⟩⟩, ?_⟩
  · rw [List.nodup_append]
    exact ⟨ok.w.nd, by simp, fun a ha b hb => by rw [List.mem_singleton.mp hb]; exact fun z => hpα (z ▸ ha)⟩
  · rcases List.mem_append.mp ha with q | q
    · exact ok1.w.sub a q
    · rw [List.mem_singleton.mp q]; exact List.mem_cons_self
  · by_cases hj : j < α.length
    · rw [List.getElem?_append_left hj] at h1
      rw [List.getElem?_append_left (by rw [← ok1.c.len]; exact hj)] at h2
      have := ok1.c.at_ j a c h1 h2
      cases c with
      | lst ys => obtain ⟨ws, q1, q2⟩ := this; exact ⟨ws, q1, ups q2⟩
      | dct ys => obtain ⟨ws, q1, q2⟩ := this; exact ⟨ws, q1, upk q2⟩
      | ins C ys => obtain ⟨dx, ws, q1, q2⟩ := this; exact ⟨dx, ws, q1, upf q2⟩
    · rw [List.getElem?_append_right (Nat.le_of_not_lt hj)] at h1
      have ej : j - α.length = 0 := by
        cases e : j - α.length with
        | zero => rfl
        | succ n => rw [e] at h1; simp at h1
      rw [ej] at h1
      have hj2 : ¬ j < μ1.length := by rw [← ok1.c.len]; exact hj
      rw [List.getElem?_append_right (Nat.le_of_not_lt hj2), ← ok1.c.len, ej] at h2
      cases h1; cases h2
      exact ⟨vs, hv, ups r1⟩
  · rw [← ok1.c.len, List.getElem?_append_right (Nat.le_refl _), Nat.sub_self]; rfl
/-- a new list that will change: a new cell -/
theorem sv_asgN {i : Nat} (h : EN K te ρ μ xs μ1) (k : P.nx (ρ.set i (some (.cell μ1.length))) (μ1 ++ [.lst xs])) : SV K W (tAsg te (gName i)) ρ μ P :=
  fun α0 Z0 H0 α Z σ H D w0 gr ok sl kk => h α Z σ H ok sl _ fun p vs H1 e1 hp hv ok1 r1 => by
    obtain ⟨α', g1, ok2, hi⟩ := new_cell ok ok1 e1 hp hv r1
    exact kk.nx _ _ α' (p :: Z) _ H1 k (gr.trans w0 ok.w g1) ok2 ((sl.gr ok.w g1).set (.cell hi))
/-- return of a new list: a new cell, handed back -/
theorem sv_retNew (h : EN K te ρ μ xs μ1) (k : P.rt (.cell μ1.length) (μ1 ++ [.lst xs])) : SV K W (tRet te) ρ μ P := by
  intro α0 Z0 H0 α Z σ H D w0 gr ok sl kk
  refine h α Z σ H ok sl _ fun p vs H1 e1 hp hv ok1 r1 => ?_
  obtain ⟨α', g1, ok2, hi⟩ := new_cell ok ok1 e1 hp hv r1
  exact kk.rt _ _ (.ref p) α' (p :: Z) H1 k (gr.trans w0 ok.w g1) ok2 (.cell hi)
theorem sv_drop (h : EV K te ρ μ x μ1) (k : P.nx ρ μ1) : SV K W (tDrop te) ρ μ P :=
  fun α0 Z0 H0 α Z σ H D w0 gr ok sl kk => h α Z σ H ok sl _ fun v H1 e1 ok1 r1 => kk.nx _ _ α Z σ H1 k (gr.ext1 w0 ok e1) ok1 (sl.ext ok e1)
theorem sv_ret (h : EV K te ρ μ x μ1) (k : P.rt x μ1) : SV K W (tRet te) ρ μ P :=
  fun α0 Z0 H0 α Z σ H D w0 gr ok sl kk => h α Z σ H ok sl _ fun v H1 e1 ok1 r1 => kk.rt _ _ v α Z H1 k (gr.ext1 w0 ok e1) ok1 r1
theorem sv_retN (k : P.rt (.d .non) μ) : SV K W tRetN ρ μ P := fun α0 Z0 H0 α Z σ H D w0 gr ok sl kk => kk.rt _ _ .non α Z H k gr ok (.d .non)
theorem sv_if {b : Bool} {tc : TT} (h : ET K tc ρ μ b μ1) (h1 : b = true → SV K W t ρ μ1 P) (h2 : b = false → SV K W u ρ μ1 P) : SV K W (tIfS tc t u) ρ μ P :=
  fun α0 Z0 H0 α Z σ H D w0 gr ok sl kk => h α Z σ H ok sl _ fun H1 e1 ok1 => by
    cases b with
    | true => exact h1 rfl α0 Z0 H0 α Z σ H1 D w0 (gr.ext1 w0 ok e1) ok1 (sl.ext ok e1) kk
    | false => exact h2 rfl α0 Z0 H0 α Z σ H1 D w0 (gr.ext1 w0 ok e1) ok1 (sl.ext ok e1) kk
theorem sv_for {wi : TI} {g : TG} {items : List AV} (hi : IW K wi ρ μ items μ1) (Inv : Nat → Slots → List CC → Prop) (h0 : Inv 0 ρ μ1)
    (hs : ∀ (i : Nat) (d : AV) (ρ1 : Slots) (μ2 : List CC), items[i]? = some d → Inv i ρ1 μ2 → ∃ ρ2 js, GV K g d ρ1 ρ2 js ∧ SV K W t ρ2 μ2 { P with nx := Inv (i + 1), ct := Inv (i + 1), bk := P.nx })
    (hd : ∀ ρ1 μ2, Inv items.length ρ1 μ2 → P.nx ρ1 μ2) : SV K W (tFor wi g t) ρ μ P := by
  intro α0 Z0 H0 α Z σ H D w0 gr ok sl kk
  refine hi α Z σ H ok sl _ fun J H1 G Y e1 ok1 w hG hY => ?_
  have gr1 := gr.ext1 w0 ok e1
  have go : ∀ i σ' H', (∃ ρ1 μ2 α' Z', Inv i ρ1 μ2 ∧ Gr α Z H1 α' Z' H' ∧ Okay K α' Z' H' μ2 ∧ SlotsOk K α' Z' H' σ' ρ1) → G H' := fun i σ' H' ⟨_, _, _, _, _, g', _, _⟩ => hG H' (g'.ext.wide ok1.w)
  refine for_it w (fun i σ' H' => ∃ ρ1 μ2 α' Z', Inv i ρ1 μ2 ∧ Gr α Z H1 α' Z' H' ∧ Okay K α' Z' H' μ2 ∧ SlotsOk K α' Z' H' σ' ρ1) ⟨ρ, μ1, α, Z, h0, .refl, ok1, sl.ext ok e1⟩ (fun i σ' H' _ => go i σ' H') ?_ ?_
  · rintro i x σ' Hx Hy hil ⟨ρ1, μ2, α', Z', hI, g', ok', sl'⟩ hy
    obtain ⟨d, hd', ey, rd⟩ := hY i Hx x Hy α' Z' (g'.gw ok1.w) ok'.w hil hy
    obtain ⟨ρ2, js, hg, hb⟩ := hs i d ρ1 μ2 hd' hI
    have oky := ok'.still ey
    have gy : Gr α Z H1 α' Z' Hy := g'.trans ok1.w ok'.w (.of_ext ey.nil_any)
    refine hg α' Z' μ2 σ' Hy x oky rd (sl'.gr ok'.w (.of_ext ey.nil_any)) _ fun σ2 _ s2 => ?_
    have k1 := kk.up w0 ok1.w gr1
    exact hb α Z H1 α' Z' σ2 Hy _ ok1.w gy oky s2 ⟨fun ρ3 μ3 α3 Z3 σ3 H3 hI3 g3 ok3 s3 => ⟨ρ3, μ3, α3, Z3, hI3, g3, ok3, s3⟩, k1.rt, k1.nx, fun ρ3 μ3 α3 Z3 σ3 H3 hI3 g3 ok3 s3 => ⟨ρ3, μ3, α3, Z3, hI3, g3, ok3, s3⟩, k1.xc⟩
  · rintro σ' H' ⟨ρ1, μ2, α', Z', hI, g', ok', sl'⟩
    exact kk.nx _ _ α' Z' σ' H' (hd _ _ hI) (gr1.trans w0 ok1.w g') ok' sl'
theorem sv_while {tc : TT} (Inv : Nat → Slots → List CC → Prop) (m0 : Nat) (h0 : Inv m0 ρ μ)
    (hs : ∀ (m : Nat) (ρ1 : Slots) (μ1 : List CC), Inv m ρ1 μ1 → ∃ (b : Bool) (μ2 : List CC), ET K tc ρ1 μ1 b μ2 ∧
      (b = true → SV K W t ρ1 μ2 { P with nx := fun ρ' μ' => ∃ m', m' < m ∧ Inv m' ρ' μ', ct := fun ρ' μ' => ∃ m', m' < m ∧ Inv m' ρ' μ', bk := P.nx }) ∧ (b = false → P.nx ρ1 μ2)) : SV K W (tWhile tc t) ρ μ P := by
  intro α0 Z0 H0 α Z σ H D w0 gr ok sl kk
  refine ⟨fun m σ' H' => ∃ ρ1 μ2 α' Z', Inv m ρ1 μ2 ∧ Gr α Z H α' Z' H' ∧ Okay K α' Z' H' μ2 ∧ SlotsOk K α' Z' H' σ' ρ1, ⟨m0, ρ, μ, α, Z, h0, .refl, ok, sl⟩, ?_⟩
  rintro m σ' H' ⟨ρ1, μ1, α', Z', hI, g', ok', sl'⟩
  obtain ⟨b, μ2, ht, hb, he⟩ := hs m ρ1 μ1 hI
  refine ht α' Z' σ' H' ok' sl' _ fun H2 e2 ok2 => ?_
  have g2 : Gr α Z H α' Z' H2 := g'.trans ok.w ok'.w (.of_ext e2)
  cases b with
  | true =>
    refine ⟨fun σ3 H3 => ∃ m', m' < m ∧ ∃ ρ1 μ2 α' Z', Inv m' ρ1 μ2 ∧ Gr α Z H α' Z' H3 ∧ Okay K α' Z' H3 μ2 ∧ SlotsOk K α' Z' H3 σ3 ρ1, fun σ3 H3 h => h, ?_⟩
    have k1 := kk.up w0 ok.w gr
    exact hb rfl α Z H α' Z' σ' H2 _ ok.w g2 ok2 (sl'.ext ok' e2) ⟨fun ρ3 μ3 α3 Z3 σ3 H3 hI3 g3 ok3 s3 => hI3.elim fun m' hm => ⟨m', hm.1, ρ3, μ3, α3, Z3, hm.2, g3, ok3, s3⟩, k1.rt, k1.nx,
      fun ρ3 μ3 α3 Z3 σ3 H3 hI3 g3 ok3 s3 => hI3.elim fun m' hm => ⟨m', hm.1, ρ3, μ3, α3, Z3, hm.2, g3, ok3, s3⟩, k1.xc⟩
  | false => exact kk.nx _ _ α' Z' σ' H2 (he rfl) (gr.trans w0 ok.w g2) ok2 (sl'.ext ok' e2)
/-- name op= e -/
theorem sv_aug {i : Nat} {r : R2} (h : ρ[i]? = some (some x)) (he : EV K te ρ μ y μ1) {z : AV} (hr : RV K r x y μ1 z μ2) (k : P.nx (ρ.set i (some z)) μ2) : SV K W (tAug i te r) ρ μ P := by
  intro α0 Z0 H0 α Z σ H D w0 gr ok sl kk
  obtain ⟨v, h1, h2⟩ := sl.at_ i x h
  refine ⟨v, h1, he α Z σ H ok sl _ fun v2 H2 e2 ok2 r2 => hr α Z H2 ok2 v v2 (h2.ext ok e2) r2 _ fun v3 H3 e3 ok3 r3 => ?_⟩
  have e := e2.trans e3
  exact kk.nx _ _ α Z _ H3 k (gr.ext1 w0 ok e) ok3 ((sl.ext ok e).set r3)
end
end DL

set_option Elab.async false
set_option linter.all false
set_option maxRecDepth 100000
set_option maxHeartbeats 4000000
/-! DL5: operators, built-ins: a rule for all kinds, then what it says of data. -/
namespace DL
open PySem PySem.Spec PyProof.Rows L2
/-! ### data as the library's PyData -/
mutual
def D.py : D → PyData
  | .non => .none
  | .bl b => .bool b
  | .int i => .int i
  | .str x => .str x
  | .lst xs => .list (D.pyAll xs)
  | .tup xs => .tuple (D.pyAll xs)
  | .dct _ => .none
  | .fz ns => .list (ns.map PyData.int)
  | .raw _ => .none
def D.pyAll : List D → List PyData
  | [] => []
  | x :: xs => D.py x :: D.pyAll xs
end
mutual
/-- no dict, no raw value within -/
def D.plain : D → Bool
  | .non | .bl _ | .int _ | .str _ => true
  | .lst xs => D.plainAll xs
  | .tup xs => D.plainAll xs
  | .dct _ | .fz _ | .raw _ => false
def D.plainAll : List D → Bool
  | [] => true
  | x :: xs => D.plain x && D.plainAll xs
end
theorem D.pyAll_map (xs : List D) : D.pyAll xs = xs.map D.py := by
  induction xs with
  | nil => rfl
  | cons x xs ih => rw [D.pyAll, ih, List.map_cons]
theorem D.plainAll_iff {xs : List D} : D.plainAll xs = true ↔ ∀ x ∈ xs, x.plain = true := by
  induction xs with
  | nil => simp [D.plainAll]
  | cons x xs ih => simp [D.plainAll, ih]
section
variable {K : PySem.W.Frag} {Z : List Addr} {H : Hp}
mutual
theorem Rp.dp : ∀ {v : V} {d : D}, d.plain = true → Rp K Z H v d → Dp K H v d.py
  | _, _, _, .non => .non
  | _, _, _, .bl b => .bl b
  | _, _, _, .int i => .int i
  | _, _, _, .str s => .str s
  | _, _, p, .lst n h r => .lst (SqL.of h) (RpA.dp p r)
  | _, _, p, .tup n h r => .tup (SqT.of h) (RpA.dp p r)
  | _, _, p, .dct _ _ _ => by simp [D.plain] at p
  | _, _, p, .fzT _ _ => by simp [D.plain] at p
  | _, _, p, .fzK _ => by simp [D.plain] at p
  | _, _, p, .raw _ => by simp [D.plain] at p
theorem RpA.dp : ∀ {vs : List V} {ds : List D}, D.plainAll ds = true → RpA K Z H vs ds → DpAll K H vs (D.pyAll ds)
  | _, _, _, .nil => .nil
  | _, _, p, .cons h r => by
    simp only [D.plainAll, Bool.and_eq_true] at p
    exact .cons (Rp.dp p.1 h) (RpA.dp p.2 r)
end
end
/-! ### one rule for all kinds -/
section
variable {X : Cx}
def rAddA (K : PySem.W.Frag) : R2 := fun x y H Q => rI0 (fun i j => .int (i + j)) x y H Q ∨ (∃ i j, x = .str i ∧ y = .str j ∧ i.length + j.length ≤ sizeLine ∧ Q (.str (i ++ j)) H) ∨ rCat x y H Q ∨ rCatA K x y H Q
theorem o_add : OpR X (binaryOp .Add) (rAddA X.K) := op_add.or (op_add_str.or (op_cat.or op_catA))
def rMulA : R2 := fun x y H Q => rI CMul (fun i j => .int (i * j)) x y H Q ∨ rRep x y H Q
theorem o_mul : OpR X (binaryOp .Mult) rMulA := op_mul.or op_rep
abbrev rSubI : R2 := rI0 fun i j => .int (i - j)
abbrev rDivI : R2 := rI CDiv fun i j => .int (i / j)
abbrev rModI : R2 := rI (fun _ j => 0 < j) fun i j => .int (i % j)
abbrev rPowI : R2 := rI CPow fun i j => .int (i ^ j.toNat)
theorem o_sub : OpR X (binaryOp .Sub) rSubI := op_sub
theorem o_div : OpR X (binaryOp .FloorDiv) rDivI := op_fdiv
theorem o_mod : OpR X (binaryOp .Mod) rModI := op_mod
theorem o_pow : OpR X (binaryOp .Pow) rPowI := op_pow
abbrev rLtI : R2 := rI0 fun i j => .bl (decide (i < j))
abbrev rLeI : R2 := rI0 fun i j => .bl (decide (i ≤ j))
abbrev rGtI : R2 := rI0 fun i j => .bl (decide (j < i))
abbrev rGeI : R2 := rI0 fun i j => .bl (decide (j ≤ i))
theorem o_lt : OpR X (compareOp .Lt) rLtI := op_lt
theorem o_le : OpR X (compareOp .LtE) rLeI := op_le
theorem o_gt : OpR X (compareOp .Gt) rGtI := op_gt
theorem o_ge : OpR X (compareOp .GtE) rGeI := op_ge
/-- is, is not of None and of bools -/
def rIsA : R2 := fun x y H Q => (y = .non ∧ Q (.bl (decide (x = .non))) H) ∨ rIsB x y H Q
def rIsNotA : R2 := fun x y H Q => (y = .non ∧ Q (.bl (!decide (x = .non))) H) ∨ rNotB x y H Q
theorem o_is : OpR X (compareOp .Is) rIsA := op_isN.or op_isBl
theorem o_isnot : OpR X (compareOp .IsNot) rIsNotA := op_notN.or op_notBl
def rLenA (K : PySem.W.Frag) : List V → Hp → VK → Prop := fun xs H Q => (∃ x n, xs = [x] ∧ LenV K x H n ∧ Q (.int n) H)
theorem c_len : CallR X (.builtin "len") (rLenA X.K) := call_len
/-- repr of data -/
def rReprA (K : PySem.W.Frag) : List V → Hp → VK → Prop := fun xs H Q => ∃ x d, xs = [x] ∧ Dp K H x d ∧ d.showable = true ∧ d.hasDict = false ∧ d.depth ≤ 60 ∧ d.shown.length ≤ sizeLine ∧ Q (.str d.shown) H
theorem c_repr (hg : X.A.guards = some []) (hu : X.A.units + 64 < cLine) : CallR X (.builtin "repr") (rReprA X.K) := by
  intro pins s σ H xs us Q I r h
  obtain ⟨x, d, rfl, hd, hs, hn, hdep, hz, q⟩ := h
  obtain ⟨u, rfl, rx⟩ := vals1 r
  obtain ⟨as, hr⟩ := Dp.reads I d x u hd rx
  have fin : ∀ (s' : Shared) (t : Tok), Inv X pins σ H s' → EP X pins σ Q (.str d.shown t) s' := fun s' t J => ⟨.str d.shown, H, J, ⟨t, rfl⟩, q⟩
  cases hr with
  | none => exact PySem.P.repr_of_none (fin _ _ (I.tok _))
  | bool b => cases b with
    | true => exact PySem.P.repr_of_bool (fin _ _ (I.tok _))
    | false => exact PySem.P.repr_of_bool (fin _ _ (I.tok _))
  | int i t =>
    have hi : i.natAbs.log2 < 1920 := by simpa [PyData.showable] using hs
    exact PySem.P.repr_of_int hi (fin _ _ (I.tok _))
  | str y t => exact PySem.P.repr_of_str (fin _ _ (I.tok _)) hz
  | list a1 a2 a3 a4 => exact repr_of_reads' (.list a1 a2 a3 a4) hs (PyData.noDict_hsm hn) hg (by omega) (fun _ _ e => e) (fun h' u tk hk => fin _ _ (I.kept hk)) hz
  | tuple a1 a2 a3 a4 => exact repr_of_reads' (.tuple a1 a2 a3 a4) hs (PyData.noDict_hsm hn) hg (by omega) (fun _ _ e => e) (fun h' u tk hk => fin _ _ (I.kept hk)) hz
  | dict a1 a2 a3 a4 a5 => simp [PyData.hasDict] at hn
end
end DL

set_option Elab.async false
set_option linter.all false
set_option maxRecDepth 100000
set_option maxHeartbeats 4000000
/-! DL6: what the operators say of data. -/
namespace DL
open PySem PySem.Spec PyProof.Rows L2
section
variable {K : PySem.W.Frag} {ρ : Slots} {μ μ1 μ2 μ3 : List CC} {ta tb tc te : TE} {x y z : AV} {xs ys : List D} {i j : Int} {a b : Str}
/-- data behind a value -/
theorem rv_of {r : R2} {dx dy dz : D} (h : ∀ Z H vx vy, Rp K Z H vx dx → Rp K Z H vy dy → ∀ Q : VK, (∀ v, Rp K Z H v dz → Q v H) → r vx vy H Q) : RV K r (.d dx) (.d dy) μ (.d dz) μ :=
  fun α Z H ok vx vy rx ry Q k => by
    cases rx with
    | d rx => cases ry with
      | d ry => exact h Z H vx vy rx ry Q fun v hv => k v H (.refl _ _) ok (.d hv)
theorem rv_I0 {g : Int → Int → V} {d : D} (hd : ∀ Z H, Rp K Z H (g i j) d) : RV K (rI0 g) (.d (.int i)) (.d (.int j)) μ (.d d) μ :=
  rv_of fun Z H vx vy rx ry Q k => by cases rx; cases ry; exact ⟨i, j, rfl, rfl, k _ (hd Z H)⟩
theorem rv_I {C : Int → Int → Prop} {g : Int → Int → V} {d : D} (hc : C i j) (hd : ∀ Z H, Rp K Z H (g i j) d) : RV K (rI C g) (.d (.int i)) (.d (.int j)) μ (.d d) μ :=
  rv_of fun Z H vx vy rx ry Q k => by cases rx; cases ry; exact ⟨i, j, rfl, rfl, hc, k _ (hd Z H)⟩
theorem rv_or1 {r r' : R2} (h : RV K r x y μ z μ1) : RV K (fun x y H Q => r x y H Q ∨ r' x y H Q) x y μ z μ1 := fun α Z H ok vx vy rx ry Q k => .inl (h α Z H ok vx vy rx ry Q k)
theorem rv_or2 {r r' : R2} (h : RV K r' x y μ z μ1) : RV K (fun x y H Q => r x y H Q ∨ r' x y H Q) x y μ z μ1 := fun α Z H ok vx vy rx ry Q k => .inr (h α Z H ok vx vy rx ry Q k)
/-! ints -/
theorem b_add : RV K (rAddA K) (.d (.int i)) (.d (.int j)) μ (.d (.int (i + j))) μ := rv_or1 (rv_I0 fun _ _ => .int _)
theorem b_sub : RV K rSubI (.d (.int i)) (.d (.int j)) μ (.d (.int (i - j))) μ := rv_I0 fun _ _ => .int _
theorem b_mul (h : CMul i j) : RV K rMulA (.d (.int i)) (.d (.int j)) μ (.d (.int (i * j))) μ := rv_or1 (rv_I h fun _ _ => .int _)
theorem b_div (h : CDiv i j) : RV K rDivI (.d (.int i)) (.d (.int j)) μ (.d (.int (i / j))) μ := rv_I h fun _ _ => .int _
theorem b_mod (h : 0 < j) : RV K rModI (.d (.int i)) (.d (.int j)) μ (.d (.int (i % j))) μ := rv_I h fun _ _ => .int _
theorem b_pow (h : CPow i j) : RV K rPowI (.d (.int i)) (.d (.int j)) μ (.d (.int (i ^ j.toNat))) μ := rv_I h fun _ _ => .int _
theorem b_lt : RV K rLtI (.d (.int i)) (.d (.int j)) μ (.d (.bl (decide (i < j)))) μ := rv_I0 fun _ _ => .bl _
theorem b_le : RV K rLeI (.d (.int i)) (.d (.int j)) μ (.d (.bl (decide (i ≤ j)))) μ := rv_I0 fun _ _ => .bl _
theorem b_gt : RV K rGtI (.d (.int i)) (.d (.int j)) μ (.d (.bl (decide (j < i)))) μ := rv_I0 fun _ _ => .bl _
theorem b_ge : RV K rGeI (.d (.int i)) (.d (.int j)) μ (.d (.bl (decide (j ≤ i)))) μ := rv_I0 fun _ _ => .bl _
theorem b_neg : RU K (rU fun i => .int (-i)) (.d (.int i)) μ (.d (.int (-i))) μ := fun α Z H ok vx rx Q k => by
  cases rx with
  | d rx => cases rx; exact ⟨i, rfl, k _ H (.refl _ _) ok (.d (.int _))⟩
/-! texts, lists, tuples -/
theorem b_addS (h : a.length + b.length ≤ 100000) : RV K (rAddA K) (.d (.str a)) (.d (.str b)) μ (.d (.str (a ++ b))) μ :=
  rv_or2 (rv_or1 (rv_of fun Z H vx vy rx ry Q k => by cases rx; cases ry; exact ⟨a, b, rfl, rfl, by rw [sizeLine_eq]; omega, k _ (.str _)⟩))
theorem b_addL (h : xs.length + ys.length ≤ 100000) : RVN K (rAddA K) (.d (.lst xs)) (.d (.lst ys)) μ ((xs ++ ys).map .d) μ := fun α Z H ok vx vy rx ry Q k => by
  cases rx with
  | d rx => cases ry with
    | d ry => cases rx with
      | lst n1 h1 r1 => cases ry with
        | lst n2 h2 r2 => exact .inr (.inr (.inl ⟨_, _, _, _, rfl, rfl, h1, h2, by rw [r1.length, r2.length, sizeLine_eq]; omega, fun p hp => k p _ _ (Ext.new hp) hp upd_same (ok.keepOff hp (Ext.laid hp) ⟨_, upd_same⟩)
            (.of_data ((r1.append r2).gr ok.w (Gr.new1 (α := α) hp (Ext.laid hp))))⟩))
theorem b_addT (h : xs.length + ys.length ≤ 100000) : RV K (rAddA K) (.d (.tup xs)) (.d (.tup ys)) μ (.d (.tup (xs ++ ys))) μ := fun α Z H ok vx vy rx ry Q k => by
  cases rx with
  | d rx => cases ry with
    | d ry => cases rx with
      | tup n1 h1 r1 => cases ry with
        | tup n2 h2 r2 =>
          refine .inr (.inr (.inr ⟨_, _, _, _, rfl, rfl, SqT.of h1, SqT.of h2, by rw [r1.length, r2.length, sizeLine_eq]; omega, fun e => ?_, fun e1 e2 => ?_, fun e1 e2 p hp => ?_⟩))
          · subst e; cases r1; exact k _ H (.refl _ _) ok (.d (.tup n2 h2 r2))
          · subst e2; cases r2; exact k _ H (.refl _ _) ok (.d (.tup n1 h1 (by rw [List.append_nil]; exact r1)))
          · exact k _ _ (Ext.new hp) (ok.laid hp) (.d (.tup (ok.w.off hp) upd_same ((r1.append r2).gr ok.w (.of_ext (Ext.new (α := α) hp)))))
/-- list * int -/
theorem b_rep (h0 : 0 ≤ j) (h : xs.length * j.toNat ≤ 100000) (hj : j ≤ 100000) : RVN K rMulA (.d (.lst xs)) (.d (.int j)) μ ((List.replicate j.toNat xs).flatten.map .d) μ := fun α Z H ok vx vy rx ry Q k => by
  cases rx with
  | d rx => cases ry with
    | d ry => cases rx with
      | lst n1 h1 r1 => cases ry with
        | int => exact .inr ⟨_, _, _, rfl, rfl, h1, by omega, by omega, by rw [r1.length, sizeLine_eq]; omega, fun p hp => k p _ _ (Ext.new hp) hp upd_same (ok.keepOff hp (Ext.laid hp) ⟨_, upd_same⟩)
            (.of_data ((r1.rep _).gr ok.w (Gr.new1 (α := α) hp (Ext.laid hp))))⟩
/-! equality -/
theorem b_eq {d e : D} (hd : d.plain = true) (he : e.plain = true) (h1 : d.py.depth ≤ 60) (h2 : e.py.depth ≤ 60) (c1 : d.py.canLay0 = true) (c2 : e.py.canLay0 = true) : RV K (rEqD K) (.d d) (.d e) μ (.d (.bl (PyData.eqv d.py e.py))) μ :=
  rv_of fun Z H vx vy rx ry Q k => ⟨d.py, e.py, rx.dp hd, ry.dp he, by unfold SeqAt.shaped; rw [c1, Bool.true_and]; exact decide_eq_true (by omega), by unfold SeqAt.shaped; rw [c2, Bool.true_and]; exact decide_eq_true (by omega), k _ (.bl _)⟩
theorem b_ne {d e : D} (hd : d.plain = true) (he : e.plain = true) (h1 : d.py.depth ≤ 60) (h2 : e.py.depth ≤ 60) (c1 : d.py.canLay0 = true) (c2 : e.py.canLay0 = true) : RV K (rNeD K) (.d d) (.d e) μ (.d (.bl (!PyData.eqv d.py e.py))) μ :=
  rv_of fun Z H vx vy rx ry Q k => ⟨d.py, e.py, rx.dp hd, ry.dp he, by unfold SeqAt.shaped; rw [c1, Bool.true_and]; exact decide_eq_true (by omega), by unfold SeqAt.shaped; rw [c2, Bool.true_and]; exact decide_eq_true (by omega), k _ (.bl _)⟩
/-! is -/
theorem b_isN {d : D} (hd : d = .non ∨ (∀ Z H v, Rp K Z H v d → v ≠ .non)) [Decidable (d = .non)] : RV K rIsA (.d d) (.d .non) μ (.d (.bl (decide (d = .non)))) μ :=
  rv_of fun Z H vx vy rx ry Q k => by
    cases ry
    refine .inl ⟨rfl, ?_⟩
    rcases hd with e | e
    · subst e; cases rx; simpa using k _ (.bl _)
    · have h1 := e Z H vx rx
      have h2 : d ≠ .non := fun z => by subst z; cases rx; exact h1 rfl
      have := k _ (.bl (decide (d = D.non)))
      rw [decide_eq_false h2] at this
      rwa [decide_eq_false h1]
theorem b_isB {p q : Bool} : RV K rIsA (.d (.bl p)) (.d (.bl q)) μ (.d (.bl (decide (p = q)))) μ := rv_of fun Z H vx vy rx ry Q k => by cases rx; cases ry; exact .inr ⟨p, q, rfl, rfl, k _ (.bl _)⟩
theorem b_isnotB {p q : Bool} : RV K rIsNotA (.d (.bl p)) (.d (.bl q)) μ (.d (.bl (!decide (p = q)))) μ := rv_of fun Z H vx vy rx ry Q k => by cases rx; cases ry; exact .inr ⟨p, q, rfl, rfl, k _ (.bl _)⟩
/-! places -/
theorem atI_map {α β : Type} (f : α → β) {xs : List α} {i : Int} {v : α} (h : atI xs i = some v) : atI (xs.map f) i = some (f v) := by
  obtain ⟨k, h1, h2⟩ := Option.bind_eq_some_iff.mp h
  refine Option.bind_eq_some_iff.mpr ⟨k, by rw [List.length_map]; exact h1, by rw [List.getElem?_map, h2]; rfl⟩
theorem RpA.atI {Z : List Addr} {H : Hp} {vs : List V} {d : D} (r : RpA K Z H vs xs) (h : L2.atI xs i = some d) : ∃ v, L2.atI vs i = some v ∧ Rp K Z H v d := by
  obtain ⟨k, h1, h2⟩ := Option.bind_eq_some_iff.mp h
  obtain ⟨v, h3, h4⟩ := r.get h2
  exact ⟨v, Option.bind_eq_some_iff.mpr ⟨k, by rw [r.length]; exact h1, h3⟩, h4⟩
theorem RpVs.atI {α Z : List Addr} {H : Hp} {vs : List V} {ys : List AV} {d : AV} (r : RpVs K α Z H vs ys) (h : L2.atI ys i = some d) : ∃ v, L2.atI vs i = some v ∧ RpV K α Z H v d := by
  obtain ⟨k, h1, h2⟩ := Option.bind_eq_some_iff.mp h
  obtain ⟨v, h3, h4⟩ := r.get h2
  exact ⟨v, Option.bind_eq_some_iff.mpr ⟨k, by rw [r.length]; exact h1, h3⟩, h4⟩
theorem b_ixL {d : D} (h : atI xs i = some d) : RV K (rIx K) (.d (.lst xs)) (.d (.int i)) μ (.d d) μ := rv_of fun Z H vx vy rx ry Q k => by
  cases rx with
  | lst n1 h1 r1 => cases ry with
    | int => obtain ⟨v, q1, q2⟩ := r1.atI h; exact .inl ⟨_, _, i, v, rfl, rfl, SqL.of h1, q1, k v q2⟩
theorem b_ixT {d : D} (h : atI xs i = some d) : RV K (rIx K) (.d (.tup xs)) (.d (.int i)) μ (.d d) μ := rv_of fun Z H vx vy rx ry Q k => by
  cases rx with
  | tup n1 h1 r1 => cases ry with
    | int => obtain ⟨v, q1, q2⟩ := r1.atI h; exact .inr (.inl ⟨_, _, i, v, rfl, rfl, SqT.of h1, q1, k v q2⟩)
theorem b_ixS {c : Nat} (hl : a.length ≤ 100000) (h : atI a.cps.toList i = some c) : RV K (rIx K) (.d (.str a)) (.d (.int i)) μ (.d (.str ⟨#[c]⟩)) μ := rv_of fun Z H vx vy rx ry Q k => by
  cases rx; cases ry
  exact .inr (.inr ⟨a, i, c, rfl, rfl, by rw [sizeLine_eq]; omega, h, k _ (.str _)⟩)
theorem b_ixF {ns : List Int} {n : Int} (h : atI ns i = some n) : RV K (rIx K) (.d (.fz ns)) (.d (.int i)) μ (.d (.int n)) μ := rv_of fun Z H vx vy rx ry Q k => by
  cases ry
  cases rx with
  | fzT n1 h1 => exact .inl ⟨_, _, i, .int n, rfl, rfl, .inl (.inr ⟨_, h1⟩), atI_map V.int h, k _ (.int _)⟩
  | fzK h1 => exact .inl ⟨_, _, i, .int n, rfl, rfl, .inr h1, atI_map V.int h, k _ (.int _)⟩
/-- an item of a cell -/
theorem b_ixC {k : Nat} {cs : List AV} {d : AV} (hc : μ[k]? = some (.lst cs)) (h : atI cs i = some d) : RV K (rIx K) (.cell k) (.d (.int i)) μ d μ := fun α Z H ok vx vy rx ry Q kk => by
  cases rx with
  | cell ha => cases ry with
    | d ry => cases ry with
      | int =>
        obtain ⟨vs, q1, q2⟩ := ok.c.at_ k _ _ ha hc
        obtain ⟨v, q3, q4⟩ := q2.atI h
        exact .inl ⟨_, _, i, v, rfl, rfl, SqL.of q1, q3, kk v H (.refl _ _) ok q4⟩
/-! len -/
theorem rc_1 {r : List V → Hp → VK → Prop} {d dz : D} (h : ∀ Z H v, Rp K Z H v d → ∀ Q : VK, (∀ w, Rp K Z H w dz → Q w H) → r [v] H Q) : RC K r [.d d] μ (.d dz) μ := fun α Z H ok vs rs Q k => by
  cases rs with
  | cons r1 r2 => cases r2; cases r1 with
    | d r1 => exact h Z H _ r1 Q fun w hw => k w H (.refl _ _) ok (.d hw)
theorem b_lenL : RC K (rLenA K) [.d (.lst xs)] μ (.d (.int xs.length)) μ := rc_1 fun Z H v rv Q k => by
  cases rv with
  | lst n1 h1 r1 => exact ⟨_, xs.length, rfl, .inl ⟨_, SqL.of h1, r1.length.symm⟩, k _ (.int _)⟩
theorem b_lenT : RC K (rLenA K) [.d (.tup xs)] μ (.d (.int xs.length)) μ := rc_1 fun Z H v rv Q k => by
  cases rv with
  | tup n1 h1 r1 => exact ⟨_, xs.length, rfl, .inr ⟨_, SqT.of h1, r1.length.symm⟩, k _ (.int _)⟩
theorem b_lenS (h : a.length ≤ 100000) : RC K (rLenA K) [.d (.str a)] μ (.d (.int a.length)) μ := rc_1 fun Z H v rv Q k => by
  cases rv
  exact ⟨_, a.length, rfl, ⟨by rw [sizeLine_eq]; omega, rfl⟩, k _ (.int _)⟩
theorem b_lenF {ns : List Int} : RC K (rLenA K) [.d (.fz ns)] μ (.d (.int ns.length)) μ := rc_1 fun Z H v rv Q k => by
  cases rv with
  | fzT n1 h1 => exact ⟨_, ns.length, rfl, .inl ⟨_, .inl (.inr ⟨_, h1⟩), by rw [List.length_map]⟩, k _ (.int _)⟩
  | fzK h1 => exact ⟨_, ns.length, rfl, .inl ⟨_, .inr h1, by rw [List.length_map]⟩, k _ (.int _)⟩
theorem b_lenC {k : Nat} {cs : List AV} (hc : μ[k]? = some (.lst cs)) : RC K (rLenA K) [.cell k] μ (.d (.int cs.length)) μ := fun α Z H ok vs rs Q kk => by
  cases rs with
  | cons r1 r2 => cases r2; cases r1 with
    | cell ha =>
      obtain ⟨vs, q1, q2⟩ := ok.c.at_ k _ _ ha hc
      exact ⟨_, cs.length, rfl, .inl ⟨_, SqL.of q1, q2.length.symm⟩, kk _ H (.refl _ _) ok (.d (.int _))⟩
/-! repr -/
theorem b_repr {d : D} (hp : d.plain = true) (hs : d.py.showable = true) (hn : d.py.hasDict = false) (hd : d.py.depth ≤ 60) (hz : d.py.shown.length ≤ 16777216) : RC K (rReprA K) [.d d] μ (.d (.str d.py.shown)) μ := rc_1 fun Z H v rv Q k =>
  ⟨v, d.py, rfl, rv.dp hp, hs, hn, hd, by rw [sizeLine_eq]; exact hz, k _ (.str _)⟩
/-! list(..), tuple(..), abs, int, max, min -/
abbrev rListA (K : PySem.W.Frag) : List V → Hp → VK → Prop := fun xs H Q => ∃ p ys, xs = [.ref p] ∧ (SqL K H p ys ∨ SqT K H p ys) ∧ ∀ l, H l = none → Q (.ref l) (upd H l (.lst ys))
theorem rcn_new {d : D} (h : ∀ Z H v, Rp K Z H v d → ∃ p vs, v = .ref p ∧ (SqL K H p vs ∨ SqT K H p vs) ∧ RpA K Z H vs xs) : RCN K (rListA K) [.d d] μ (xs.map .d) μ := fun α Z H ok vs rs Q k => by
  cases rs with
  | cons r1 r2 => cases r2; cases r1 with
    | d r1 =>
      obtain ⟨p, ws, rfl, h1, h2⟩ := h Z H _ r1
      exact ⟨p, ws, rfl, h1, fun l hl => k l ws _ (Ext.new hl) hl upd_same (ok.keepOff hl (Ext.laid hl) ⟨_, upd_same⟩) (.of_data (h2.gr ok.w (Gr.new1 (α := α) hl (Ext.laid hl))))⟩
theorem b_listL : RCN K (rListA K) [.d (.lst xs)] μ (xs.map .d) μ := rcn_new fun Z H v r => by cases r with | lst n h r => exact ⟨_, _, rfl, .inl (SqL.of h), r⟩
theorem b_listT : RCN K (rListA K) [.d (.tup xs)] μ (xs.map .d) μ := rcn_new fun Z H v r => by cases r with | tup n h r => exact ⟨_, _, rfl, .inr (SqT.of h), r⟩
abbrev rTupA (K : PySem.W.Frag) : List V → Hp → VK → Prop := fun xs H Q => ∃ p ys, xs = [.ref p] ∧ ((SqL K H p ys ∧ ∀ l, H l = none → Q (.ref l) (upd H l (.tup ys))) ∨ (SqT K H p ys ∧ Q (.ref p) H))
theorem b_tupL : RC K (rTupA K) [.d (.lst xs)] μ (.d (.tup xs)) μ := fun α Z H ok vs rs Q k => by
  cases rs with
  | cons r1 r2 => cases r2; cases r1 with
    | d r1 => cases r1 with
      | lst n h r => exact ⟨_, _, rfl, .inl ⟨SqL.of h, fun l hl => k _ _ (Ext.new hl) (ok.laid hl) (.d (.tup (ok.w.off hl) upd_same (r.gr ok.w (.of_ext (Ext.new (α := α) hl)))))⟩⟩
theorem b_tupT : RC K (rTupA K) [.d (.tup xs)] μ (.d (.tup xs)) μ := fun α Z H ok vs rs Q k => by
  cases rs with
  | cons r1 r2 => cases r2; cases r1 with
    | d r1 => cases r1 with
      | tup n h r => exact ⟨_, _, rfl, .inr ⟨SqT.of h, k _ H (.refl _ _) ok (.d (.tup n h r))⟩⟩
abbrev rAbsA : List V → Hp → VK → Prop := fun xs H Q => ∃ i, xs = [.int i] ∧ Q (.int (if i < 0 then -i else i)) H
theorem b_abs : RC K rAbsA [.d (.int i)] μ (.d (.int (if i < 0 then -i else i))) μ := rc_1 fun Z H v r Q k => by cases r; exact ⟨i, rfl, k _ (.int _)⟩
abbrev rIntA : List V → Hp → VK → Prop := fun xs H Q => (∃ i, xs = [.int i] ∧ Q (.int i) H) ∨ ∃ k, xs = [.bl k] ∧ Q (.int (if k then 1 else 0)) H
theorem b_intB {p : Bool} : RC K rIntA [.d (.bl p)] μ (.d (.int (if p then 1 else 0))) μ := rc_1 fun Z H v r Q k => by cases r; exact .inr ⟨p, rfl, k _ (.int _)⟩
theorem rc_2 {r : List V → Hp → VK → Prop} {d e dz : D} (h : ∀ Z H v w, Rp K Z H v d → Rp K Z H w e → ∀ Q : VK, (∀ u, Rp K Z H u dz → Q u H) → r [v, w] H Q) : RC K r [.d d, .d e] μ (.d dz) μ := fun α Z H ok vs rs Q k => by
  cases rs with
  | cons r1 r2 => cases r2 with
    | cons r2 r3 => cases r3; cases r1 with
      | d r1 => cases r2 with
        | d r2 => exact h Z H _ _ r1 r2 Q fun w hw => k w H (.refl _ _) ok (.d hw)
abbrev rMax2A : List V → Hp → VK → Prop := fun xs H Q => ∃ i j, xs = [.int i, .int j] ∧ Q (.int (if j > i then j else i)) H
abbrev rMin2A : List V → Hp → VK → Prop := fun xs H Q => ∃ i j, xs = [.int i, .int j] ∧ Q (.int (if j < i then j else i)) H
theorem b_max2 : RC K rMax2A [.d (.int i), .d (.int j)] μ (.d (.int (max i j))) μ := rc_2 fun Z H v w r1 r2 Q k => by
  cases r1; cases r2
  refine ⟨i, j, rfl, ?_⟩
  have e : (if j > i then j else i) = max i j := by rw [Int.max_def]; split <;> split <;> omega
  rw [e]; exact k _ (.int _)
theorem b_min2 : RC K rMin2A [.d (.int i), .d (.int j)] μ (.d (.int (min i j))) μ := rc_2 fun Z H v w r1 r2 Q k => by
  cases r1; cases r2
  refine ⟨i, j, rfl, ?_⟩
  have e : (if j < i then j else i) = min i j := by rw [Int.min_def]; split <;> split <;> omega
  rw [e]; exact k _ (.int _)
/-! any, all, sorted, index -/
theorem b_any {bs : List Bool} : RC K (rAny K) [.d (.lst (bs.map .bl))] μ (.d (.bl (bs.any id))) μ := rc_1 fun Z H v r Q k => by
  cases r with
  | lst n h r => have e := r.bls_inv; subst e; exact ⟨_, bs, rfl, SqL.of h, k _ (.bl _)⟩
theorem b_all {bs : List Bool} : RC K (rAll K) [.d (.lst (bs.map .bl))] μ (.d (.bl (bs.all id))) μ := rc_1 fun Z H v r Q k => by
  cases r with
  | lst n h r => have e := r.bls_inv; subst e; exact ⟨_, bs, rfl, SqL.of h, k _ (.bl _)⟩
def insI (n : Int) : List Int → List Int
  | [] => [n]
  | m :: r => if n ≤ m then n :: m :: r else m :: insI n r
def sortI : List Int → List Int
  | [] => []
  | n :: r => insI n (sortI r)
theorem insI_perm (n : Int) : ∀ l : List Int, (insI n l).Perm (n :: l)
  | [] => .refl _
  | m :: r => by
    unfold insI
    split
    · exact .refl _
    · exact ((insI_perm n r).cons m).trans (.swap n m r)
theorem sortI_perm : ∀ l : List Int, (sortI l).Perm l
  | [] => .refl _
  | n :: r => (insI_perm n _).trans ((sortI_perm r).cons n)
theorem insI_sorted (n : Int) : ∀ l : List Int, l.Pairwise (· ≤ ·) → (insI n l).Pairwise (· ≤ ·)
  | [], _ => by simp [insI]
  | m :: r, h => by
    unfold insI
    rw [List.pairwise_cons] at h
    split
    · rename_i hn
      refine List.pairwise_cons.mpr ⟨fun x hx => ?_, List.pairwise_cons.mpr h⟩
      rcases List.mem_cons.mp hx with e | e
      · omega
      · have := h.1 x e; omega
    · rename_i hn
      refine List.pairwise_cons.mpr ⟨fun x hx => ?_, insI_sorted n r h.2⟩
      rcases List.mem_cons.mp ((insI_perm n r).mem_iff.mp hx) with e | e
      · omega
      · exact h.1 x e
theorem sortI_sorted : ∀ l : List Int, (sortI l).Pairwise (· ≤ ·)
  | [] => .nil
  | n :: r => insI_sorted n _ (sortI_sorted r)
theorem sorted_one {l l' : List Int} (p : l.Perm l') (h : l.Pairwise (· ≤ ·)) (h' : l'.Pairwise (· ≤ ·)) : l = l' := List.Perm.eq_of_pairwise (fun a b _ _ h1 h2 => by omega) h h' p
theorem b_sortI {ns : List Int} : RCN K (rSortedI K) [.d (.lst (ns.map .int))] μ ((sortI ns).map fun n => .d (.int n)) μ := fun α Z H ok vs rs Q k => by
  cases rs with
  | cons r1 r2 => cases r2; cases r1 with
    | d r1 => cases r1 with
      | lst n h r =>
        have e := r.ints_inv; subst e
        refine ⟨_, ns, rfl, SqL.of h, fun ns' p hp hs hn => ?_⟩
        have e := sorted_one (hp.trans (sortI_perm ns).symm) hs (sortI_sorted ns)
        subst e
        refine k p _ _ (Ext.new hn) hn upd_same (ok.keepOff hn (Ext.laid hn) ⟨_, upd_same⟩) ?_
        have := RpVs.of_data (K := K) (α := α) (Z := p :: Z) (H := upd H p (.lst ((sortI ns).map V.int))) (RpA.ints (sortI ns))
        rw [List.map_map] at this; exact this
end
end DL

set_option Elab.async false
set_option linter.all false
set_option maxRecDepth 100000
set_option maxHeartbeats 4000000
/-! DL7: what is walked, slices, cells changed, comprehensions. -/
namespace DL
open PySem PySem.Spec PyProof.Rows L2
section
variable {K : PySem.W.Frag} {W : WX} {P : Po} {ρ ρ' : Slots} {μ μ1 μ2 μ3 : List CC} {ta tb tc te to : TE} {x y z : AV} {xs ys : List D} {i j : Int} {a b : Str} {ts : TA}
/-! ### walks -/
/-- items that stand already -/
theorem iw_plain {wi : TI} {items : List AV} (h : ∀ (α Z : List Addr) (σ : L2.St) (H : Hp), Okay K α Z H μ → SlotsOk K α Z H σ ρ → ∀ R : It → Hp → Prop,
    (∀ J H1 G (vs : List V), Ext α H H1 → Okay K α Z H1 μ1 → RpVs K α Z H1 vs items → Walk J vs.length G (YAt vs) → (∀ H2, Ext Z H1 H2 → G H2) → R J H1) → wi σ H R) : IW K wi ρ μ items μ1 := by
  intro α Z σ H ok sl R k
  refine h α Z σ H ok sl R fun J H1 G vs e1 ok1 rv w hG => ?_
  refine k J H1 G (YAt vs) e1 ok1 (by rw [← rv.length]; exact w) hG fun i Hx x Hy α' Z' gr wx hi hy => ?_
  obtain ⟨rfl, hx⟩ := hy
  have hi' : i < items.length := hi
  obtain ⟨v, h1, h2⟩ := rv.get (List.getElem?_eq_getElem hi')
  rw [hx] at h1; cases h1
  exact ⟨_, List.getElem?_eq_getElem hi', .refl _ _, h2.gw gr⟩
theorem iw_list {tl : TE} (h : EV K tl ρ μ (.d (.lst xs)) μ1) : IW K (iList K tl) ρ μ (xs.map .d) μ1 := iw_plain fun α Z σ H ok sl R k => h α Z σ H ok sl _ fun v H1 e1 ok1 r1 => by
  cases r1 with
  | d r1 => cases r1 with
    | lst n h1 r => exact ⟨_, rfl, ⟨_, SqL.of h1⟩, k _ H1 _ _ e1 ok1 (.of_data r) walk_list fun H2 e2 => SqL.of (e2 _ n _ h1)⟩
theorem iw_tup {tl : TE} (h : EV K tl ρ μ (.d (.tup xs)) μ1) : IW K (iTup K tl) ρ μ (xs.map .d) μ1 := iw_plain fun α Z σ H ok sl R k => h α Z σ H ok sl _ fun v H1 e1 ok1 r1 => by
  cases r1 with
  | d r1 => cases r1 with
    | tup n h1 r => exact ⟨_, rfl, ⟨_, SqT.of h1⟩, k _ H1 _ _ e1 ok1 (.of_data r) walk_tup fun H2 e2 => SqT.of (e2 _ n _ h1)⟩
/-- items by a function of the turn -/
theorem iw_fn {wi : TI} {items : List AV} {n : Nat} {f : Nat → V} (hl : items.length = n) (hf : ∀ (i : Nat) (d : AV) α Z H, items[i]? = some d → RpV K α Z H (f i) d) (h : ∀ (α Z : List Addr) (σ : L2.St) (H : Hp), Okay K α Z H μ → SlotsOk K α Z H σ ρ → ∀ R : It → Hp → Prop,
    (∀ J H1, Ext α H H1 → Okay K α Z H1 μ1 → Walk J n (fun _ => True) (YFn f) → R J H1) → wi σ H R) : IW K wi ρ μ items μ1 := by
  intro α Z σ H ok sl R k
  refine h α Z σ H ok sl R fun J H1 e1 ok1 w => k J H1 _ _ e1 ok1 (by rw [hl]; exact w) (fun _ _ => True.intro) fun i Hx x Hy α' Z' gr wx hi hy => ?_
  obtain ⟨rfl, rfl⟩ := hy
  exact ⟨_, List.getElem?_eq_getElem hi, .refl _ _, hf i _ _ _ _ (List.getElem?_eq_getElem hi)⟩
def rangeD (lo : Int) (n : Nat) : List AV := (List.range n).map fun k => .d (.int (lo + (k : Nat)))
theorem rangeD_get {lo : Int} {n i : Nat} {d : AV} (h : (rangeD lo n)[i]? = some d) : d = .d (.int (lo + (i : Nat))) ∧ i < n := by
  unfold rangeD at h
  rw [List.getElem?_map] at h
  have hi : i < n := by
    rcases Nat.lt_or_ge i n with q | q
    · exact q
    · rw [List.getElem?_eq_none (by rw [List.length_range]; exact q)] at h; cases h
  rw [List.getElem?_range hi] at h
  exact ⟨(Option.some.inj h).symm, hi⟩
theorem iw_range1 (h : EA K ts ρ μ [.d (.int j)] μ1) (hj : j ≤ 100000) (hj0 : -100000 ≤ j) : IW K (iRng1 ts) ρ μ (rangeD 0 j.toNat) μ1 :=
  iw_fn (n := j.toNat) (f := fun i => .int (0 + (i : Nat))) (by unfold rangeD; rw [List.length_map, List.length_range]) (fun i d α Z H hd => by rw [(rangeD_get hd).1]; exact .d (.int _)) fun α Z σ H ok sl R k => h α Z σ H ok sl _ fun vs H1 e1 ok1 r1 => by
    cases r1 with
    | cons a b => cases b; cases a with
      | d a => cases a; exact ⟨j, rfl, by omega, by omega, k _ H1 e1 ok1 walk_range⟩
theorem iw_range2 (h : EA K ts ρ μ [.d (.int i), .d (.int j)] μ1) (hi : -100000 ≤ i ∧ i ≤ 100000) (hj : -100000 ≤ j ∧ j ≤ 100000) : IW K (iRng2 ts) ρ μ (rangeD i (j - i).toNat) μ1 :=
  iw_fn (n := (j - i).toNat) (f := fun k => .int (i + (k : Nat))) (by unfold rangeD; rw [List.length_map, List.length_range]) (fun i d α Z H hd => by rw [(rangeD_get hd).1]; exact .d (.int _)) fun α Z σ H ok sl R k => h α Z σ H ok sl _ fun vs H1 e1 ok1 r1 => by
    cases r1 with
    | cons a b => cases b with
      | cons b c => cases c; cases a with
        | d a => cases b with
          | d b => cases a; cases b; exact ⟨i, j, rfl, by omega, k _ H1 e1 ok1 walk_range⟩
theorem iw_str (h : EV K te ρ μ (.d (.str a)) μ1) : IW K (iStr te) ρ μ (a.cps.toList.map fun c => .d (.str ⟨#[c]⟩)) μ1 := by
  intro α Z σ H ok sl R k
  refine h α Z σ H ok sl _ fun v H1 e1 ok1 r1 => ?_
  cases r1 with
  | d r1 =>
    cases r1
    refine ⟨a, rfl, k _ H1 _ _ e1 ok1 (by rw [List.length_map, Array.length_toList]; exact walk_str) (fun _ _ => True.intro) fun i Hx x Hy α' Z' gr wx hi hy => ?_⟩
    obtain ⟨rfl, c, hc, rfl⟩ := hy
    refine ⟨.d (.str ⟨#[c]⟩), ?_, .refl _ _, .d (.str _)⟩
    rw [List.getElem?_map, Array.getElem?_toList, hc]; rfl
/-- new pairs -/
theorem iw_pair {wi : TI} {items : List (D × D)} {fx fy : Nat → Option V} (h : ∀ (α Z : List Addr) (σ : L2.St) (H : Hp), Okay K α Z H μ → SlotsOk K α Z H σ ρ → ∀ R : It → Hp → Prop,
    (∀ J H1 G fx fy, Ext α H H1 → Okay K α Z H1 μ1 → (∀ (i : Nat) (d : D × D) (v w : V), items[i]? = some d → fx i = some v → fy i = some w → Rp K Z H1 v d.1 ∧ Rp K Z H1 w d.2) → Walk J items.length G (YPair fx fy) → (∀ H2, Ext Z H1 H2 → G H2) → R J H1) → wi σ H R) :
    IW K wi ρ μ (items.map fun d => .d (.tup [d.1, d.2])) μ1 := by
  intro α Z σ H ok sl R k
  refine h α Z σ H ok sl R fun J H1 G fx fy e1 ok1 hf w hG => k J H1 G _ e1 ok1 (by rw [List.length_map]; exact w) hG fun i Hx x Hy α' Z' gr wx hi hy => ?_
  rw [List.length_map] at hi
  obtain ⟨T, u, v, rfl, hT, rfl, h1, h2⟩ := hy
  obtain ⟨q1, q2⟩ := hf i _ u v (List.getElem?_eq_getElem hi) h1 h2
  refine ⟨.d (.tup [items[i].1, items[i].2]), by rw [List.getElem?_map, List.getElem?_eq_getElem hi]; rfl, Ext.laid hT, .d (.tup (wx.off hT) upd_same ?_)⟩
  exact .cons (q1.gw (gr.laid hT)) (.cons (q2.gw (gr.laid hT)) .nil)
theorem iw_enum (h : EA K ts ρ μ [.d (.lst xs)] μ1) : IW K (iEnum K ts) ρ μ ((xs.zipIdx.map fun p => (D.int (p.2 : Nat), p.1)).map fun d => .d (.tup [d.1, d.2])) μ1 :=
  iw_pair (fx := fun _ => none) (fy := fun _ => none) fun α Z σ H ok sl R k => h α Z σ H ok sl _ fun vs H1 e1 ok1 r1 => by
    cases r1 with
    | cons a b => cases b; cases a with
      | d a => cases a with
        | lst n h1 r =>
          refine ⟨_, _, rfl, SqL.of h1, k _ H1 _ _ _ e1 ok1 (fun i d v w hd hv hw => ?_) (by rw [List.length_map, List.length_zipIdx, ← r.length]; exact walk_enum) fun H2 e2 => SqL.of (e2 _ n _ h1)⟩
          rw [List.getElem?_map, List.getElem?_zipIdx] at hd
          obtain ⟨d2, q1, q2⟩ := r.at hw
          rw [q1] at hd
          have e := Option.some.inj hd
          subst e
          cases hv
          exact ⟨by show Rp K Z H1 _ (.int ((0 + i : Nat) : Int)); rw [Nat.zero_add]; exact .int _, q2⟩
theorem iw_zip (h : EA K ts ρ μ [.d (.lst xs), .d (.lst ys)] μ1) : IW K (iZip K ts) ρ μ ((xs.zip ys).map fun d => .d (.tup [d.1, d.2])) μ1 :=
  iw_pair (fx := fun _ => none) (fy := fun _ => none) fun α Z σ H ok sl R k => h α Z σ H ok sl _ fun vs H1 e1 ok1 r1 => by
    cases r1 with
    | cons a b => cases b with
      | cons b c => cases c; cases a with
        | d a => cases b with
          | d b => cases a with
            | lst n h1 r => cases b with
              | lst n2 h2 r2 =>
                refine ⟨_, _, _, _, rfl, SqL.of h1, SqL.of h2, k _ H1 _ _ _ e1 ok1 (fun i d v w hd hv hw => ?_) (walk_zip (by rw [List.length_zip, r.length, r2.length])) fun H2 e2 => ⟨SqL.of (e2 _ n _ h1), SqL.of (e2 _ n2 _ h2)⟩⟩
                obtain ⟨d1, q1, q2⟩ := r.at hv
                obtain ⟨d2, q3, q4⟩ := r2.at hw
                rw [List.getElem?_zip_eq_some] at hd
                rw [q1, q3] at hd
                obtain ⟨e1, e2⟩ := hd
                cases e1; cases e2
                exact ⟨q2, q4⟩
/-! ### slices -/
def EO (K : PySem.W.Frag) (to : TO) (ρ : Slots) (μ : List CC) (o : Option Int) (μ' : List CC) : Prop :=
  ∀ (α Z : List Addr) (σ : L2.St) (H : Hp), Okay K α Z H μ → SlotsOk K α Z H σ ρ → ∀ Q : Option Int → Hp → Prop, (∀ H', Ext α H H' → Okay K α Z H' μ' → Q o H') → to σ H Q
theorem eo_none : EO K tNoPart ρ μ none μ := fun α Z σ H ok sl Q k => k H (.refl _ _) ok
theorem eo_some (h : EV K te ρ μ (.d (.int i)) μ1) : EO K (tPart te) ρ μ (some i) μ1 := fun α Z σ H ok sl Q k => h α Z σ H ok sl _ fun v H1 e1 ok1 r1 => by
  cases r1 with
  | d r1 => cases r1; exact ⟨i, rfl, k H1 e1 ok1⟩
/-- xs[lo:hi] by data -/
def cutD {α : Type} (xs : List α) (lo hi : Option Int) : List α := (xs.drop (HT.sIx xs.length 0 lo)).take (HT.sIx xs.length xs.length hi - HT.sIx xs.length 0 lo)
theorem cutV_eq (vs : List V) (lo hi : Option Int) : cutV vs lo hi = cutD vs lo hi := rfl
theorem RpA.cut {Z : List Addr} {H : Hp} {vs : List V} (r : RpA K Z H vs xs) (lo hi : Option Int) : RpA K Z H (cutV vs lo hi) (cutD xs lo hi) := by
  unfold cutV cutD
  rw [r.length]
  exact (r.drop _).take _
/-- a slice of a list, a tuple or a text -/
def rSlAny (K : PySem.W.Frag) : V → Option Int → Option Int → Hp → VK → Prop := fun x lo hi H Q => rSlL K x lo hi H Q ∨ rSlA K x lo hi H Q
theorem sl_any {X : Cx} : SlR X (rSlAny X.K) := sl_list.or sl_tupA
theorem en_slL {tl th : TO} {lo hi : Option Int} (h : EV K te ρ μ (.d (.lst xs)) μ) (h1 : EO K tl ρ μ lo μ) (h2 : EO K th ρ μ hi μ) : EN K (tSl (rSlAny K) te tl th) ρ μ ((cutD xs lo hi).map .d) μ :=
  fun α Z σ H ok sl Q k => h α Z σ H ok sl _ fun v H1 e1 ok1 r1 => h1 α Z σ H1 ok1 (sl.ext ok e1) _ fun H2 e2 ok2 => h2 α Z σ H2 ok2 (sl.ext ok (e1.trans e2)) _ fun H3 e3 ok3 => by
    have r3 := (r1.ext ok1 e2).ext ok2 e3
    cases r3 with
    | d r3 => cases r3 with
      | lst n q r => exact .inl ⟨_, _, rfl, SqL.of q, fun p hp => k p _ _ (e1.trans (e2.trans (e3.trans (Ext.new hp)))) (none_back (fun q => ok3.w.off hp (ok.w.sub p q)) (e1.trans (e2.trans e3)) hp) upd_same (ok3.keepOff hp (Ext.laid hp) ⟨_, upd_same⟩)
          (.of_data ((r.cut lo hi).gr ok3.w (Gr.new1 (α := α) hp (Ext.laid hp))))⟩
theorem ev_slT {tl th : TO} {lo hi : Option Int} (h : EV K te ρ μ (.d (.tup xs)) μ) (h1 : EO K tl ρ μ lo μ) (h2 : EO K th ρ μ hi μ) : EV K (tSl (rSlAny K) te tl th) ρ μ (.d (.tup (cutD xs lo hi))) μ :=
  fun α Z σ H ok sl Q k => h α Z σ H ok sl _ fun v H1 e1 ok1 r1 => h1 α Z σ H1 ok1 (sl.ext ok e1) _ fun H2 e2 ok2 => h2 α Z σ H2 ok2 (sl.ext ok (e1.trans e2)) _ fun H3 e3 ok3 => by
    have e123 := e1.trans (e2.trans e3)
    have r3 := (r1.ext ok1 e2).ext ok2 e3
    cases r3 with
    | d r3 => cases r3 with
      | tup n q r =>
        refine .inr ⟨_, _, rfl, SqT.of q, fun hw => ?_, fun hw p hp => ?_⟩
        · rw [r.length] at hw
          have e : cutD xs lo hi = xs := by
            unfold cutD
            rw [hw.1, hw.2, List.drop_zero, Nat.sub_zero, List.take_length]
          rw [e] at k
          exact k _ H3 e123 ok3 (.d (.tup n q r))
        · exact k _ _ (e123.trans (Ext.new hp)) (ok3.laid hp) (.d (.tup (ok3.w.off hp) upd_same ((r.cut lo hi).gr ok3.w (.of_ext (Ext.new (α := α) hp)))))
/-! ### cells changed -/
/-- xs.append(e) -/
theorem ev_append {k : Nat} {cs : List AV} (ho : EV K to ρ μ (.cell k) μ) (he : EV K te ρ μ x μ1) (hc0 : μ[k]? = some (.lst ys0)) (hc : μ1[k]? = some (.lst cs)) (hl : cs.length ≤ 100000) :
    EV K (tBM K "list" rAppend to (tCons te tNil)) ρ μ (.d .non) (μ1.set k (.lst (cs ++ [x]))) :=
  fun α Z σ H ok sl Q kk => ho α Z σ H ok sl _ fun v H1 e1 ok1 r1 => by
    cases r1 with
    | cell ha =>
      obtain ⟨vs0, q0, _⟩ := ok1.c.at_ k _ _ ha hc0
      refine ⟨.inl ⟨rfl, _, SqL.of q0⟩, he α Z σ H1 ok1 (sl.ext ok e1) _ fun w H2 e2 ok2 r2 => ?_⟩
      obtain ⟨vs, q1, q2⟩ := ok2.c.at_ k _ _ ha hc
      refine ⟨_, vs, w, rfl, rfl, q1, by rw [q2.length, sizeLine_eq]; omega, ?_⟩
      have hZ := ok2.w.sub _ (List.mem_of_getElem? ha)
      obtain ⟨ok3, e3⟩ := ok2.write (c := .lst (cs ++ [x])) (o := .lst (vs ++ [w])) ha ⟨_, upd_same, ((q2.append (.cons r2 .nil)).touch hZ)⟩
      exact kk _ _ (e1.trans (e2.trans e3)) ok3 (.d .non)
/-- xs.pop() -/
theorem ev_pop {k : Nat} {cs : List AV} (ho : EV K to ρ μ (.cell k) μ) (hc : μ[k]? = some (.lst cs)) (hx : cs[cs.length - 1]? = some x) : EV K (tBM0 K "list" rPop to) ρ μ x (μ.set k (.lst cs.dropLast)) :=
  fun α Z σ H ok sl Q kk => ho α Z σ H ok sl _ fun v H1 e1 ok1 r1 => by
    cases r1 with
    | cell ha =>
      obtain ⟨vs, q1, q2⟩ := ok1.c.at_ k _ _ ha hc
      obtain ⟨w, h1, h2⟩ := q2.get hx
      have hZ := ok1.w.sub _ (List.mem_of_getElem? ha)
      refine ⟨.inl ⟨rfl, _, SqL.of q1⟩, _, vs, w, rfl, rfl, q1, by rw [q2.length]; exact h1, ?_⟩
      obtain ⟨ok3, e3⟩ := ok1.write (c := .lst cs.dropLast) (o := .lst vs.dropLast) ha ⟨_, upd_same, q2.dropLast.touch hZ⟩
      exact kk _ _ (e1.trans e3) ok3 (h2.touch hZ)
/-- xs.pop(i), 0 ≤ i < len -/
theorem ev_popAt {k : Nat} {cs cs0 : List AV} {n : Nat} (ho : EV K to ρ μ (.cell k) μ) (hc0 : μ[k]? = some (.lst cs0)) (he : EV K te ρ μ (.d (.int (n : Nat))) μ1) (hc : μ1[k]? = some (.lst cs)) (hx : cs[n]? = some x) (hl : cs.length ≤ 100000) :
    EV K (tBM K "list" rPopAt to (tCons te tNil)) ρ μ x (μ1.set k (.lst (cs.eraseIdx n))) :=
  fun α Z σ H ok sl Q kk => ho α Z σ H ok sl _ fun v H1 e1 ok1 r1 => by
    cases r1 with
    | cell ha =>
      obtain ⟨vs0, q0, _⟩ := ok1.c.at_ k _ _ ha hc0
      refine ⟨.inl ⟨rfl, _, SqL.of q0⟩, he α Z σ H1 ok1 (sl.ext ok e1) _ fun w H2 e2 ok2 r2 => ?_⟩
      cases r2 with
      | d r2 =>
        cases r2
        obtain ⟨vs, q1, q2⟩ := ok2.c.at_ k _ _ ha hc
        obtain ⟨w, h1, h2⟩ := q2.get hx
        have hn : n < cs.length := (List.getElem?_eq_some_iff.mp hx).1
        have hZ := ok2.w.sub _ (List.mem_of_getElem? ha)
        have hix : ixN vs.length (n : Nat) = some n := by
          unfold ixN
          rw [q2.length, if_pos (by omega), if_pos (by omega)]; rfl
        refine ⟨_, vs, (n : Nat), n, w, rfl, rfl, q1, by omega, by omega, (ixN_seq hix).1, h1, ?_⟩
        obtain ⟨ok3, e3⟩ := ok2.write (c := .lst (cs.eraseIdx n)) (o := .lst (vs.eraseIdx n)) ha ⟨_, upd_same, (q2.eraseIdx n).touch hZ⟩
        exact kk _ _ (e1.trans (e2.trans e3)) ok3 (h2.touch hZ)
/-- xs[i] = e -/
theorem sv_setL {ti : TE} {k n : Nat} {cs : List AV} (he : EV K te ρ μ x μ1) (ho : EV K to ρ μ1 (.cell k) μ1) (hi : EV K ti ρ μ1 (.d (.int (n : Nat))) μ1) (hc : μ1[k]? = some (.lst cs)) (hn : n < cs.length) (kk : P.nx ρ (μ1.set k (.lst (cs.set n x)))) :
    SV K W (tAsg te (gSub to ti rSetL)) ρ μ P := by
  intro α0 Z0 H0 α Z σ H D w0 gr ok sl kc
  refine he α Z σ H ok sl _ fun v H1 e1 ok1 r1 => ho α Z σ H1 ok1 (sl.ext ok e1) _ fun u H2 e2 ok2 r2 => ?_
  cases r2 with
  | cell ha =>
    refine hi α Z σ H2 ok2 (sl.ext ok (e1.trans e2)) _ fun w H3 e3 ok3 r3 => ?_
    cases r3 with
    | d r3 =>
      cases r3
      obtain ⟨vs, q1, q2⟩ := ok3.c.at_ k _ _ ha hc
      have hZ := ok3.w.sub _ (List.mem_of_getElem? ha)
      refine ⟨_, vs, (n : Nat), n, rfl, rfl, q1, ?_, ?_⟩
      · unfold ixN
        rw [q2.length, if_pos (by omega), if_pos (by omega)]; rfl
      · have r' := (r1.ext ok1 e2).ext ok2 e3
        obtain ⟨ok4, e4⟩ := ok3.write (c := .lst (cs.set n x)) (o := .lst (vs.set n v)) ha ⟨_, upd_same, (q2.set n r').touch hZ⟩
        have e := e1.trans (e2.trans (e3.trans e4))
        exact kc.nx _ _ α Z _ _ kk (gr.ext1 w0 ok e) ok4 (sl.ext ok e)
end
end DL

set_option Elab.async false
set_option linter.all false
set_option maxRecDepth 100000
set_option maxHeartbeats 4000000
/-! DL8: defs by contract on data (the guards of repr known), calls of them, the law's end. -/
namespace DL
open PySem PySem.Spec PyProof.Rows L2
inductive Out where
  | ret (r : AV) | exc (c : Value) (fs : List (Str × D)) | new (xs : List D)
abbrev Ctr := List AV → List CC → Out → List CC → Prop
/-- the promise that a contract stands for -/
def SpR (K : PySem.W.Frag) (R : Ctr) : Sp := fun vs H Q E => ∃ (α Z : List Addr) (args : List AV) (μ : List CC) (o : Out) (μ' : List CC), Okay K α Z H μ ∧ RpVs K α Z H vs args ∧ R args μ o μ' ∧
  (∀ r v H', o = .ret r → Ext α H H' → Okay K α Z H' μ' → RpV K α Z H' v r → Q v H') ∧ (∀ c fs d H', o = .exc c fs → Ext α H H' → Okay K α Z H' μ' → ExcOk K Z H' d fs → E c d H') ∧
  (∀ xs p vs H', o = .new xs → Ext α H H' → H p = none → H' p = some (.lst vs) → Okay K α (p :: Z) H' μ' → RpA K (p :: Z) H' vs xs → Q (.ref p) H')
/-- a def keeps a promise where nothing is being shown by repr -/
structure FnG (P : Program) (w : World) (K : PySem.W.Frag) (mg : Str → Option Value) (base : Heap) (k : Nat) (f : Addr) (fd : FuncData) (ps : List Str) (sp : Sp) : Prop where
  len : ∀ vs H Q E, sp vs H Q E → vs.length = ps.length
  run : ∀ (A : Around) (outer : List Env) (s : Shared) (H : Hp) (args : Args) (us : List Value) (vs : List V) (Q : VK) (E : XK), Room k A → A.guards = some [] → Env0 P w K mg base A outer s H →
    BindsTo s fd args (ps.zip us) → Vals vs us → sp vs H Q E → codeAny (model P w) A (.call (.ref f) args) (CR (L2.CX P w) outer P w H s Q E) s
theorem FnG.mono {P : Program} {w : World} {K : PySem.W.Frag} {mg : Str → Option Value} {base : Heap} {j k : Nat} {f : Addr} {fd : FuncData} {ps : List Str} {sp : Sp} (F : FnG P w K mg base j f fd ps sp) (h : j ≤ k) : FnG P w K mg base k f fd ps sp :=
  ⟨F.len, fun A outer s H args us vs Q E hr hg => F.run A outer s H args us vs Q E (hr.mono h) hg⟩
section
variable {P : Program} {w : World} {K : PySem.W.Frag} {mg : Str → Option Value} {base : Heap}
theorem fng_of {x qual : Str} {st : Stmt} {f : Addr} {fd : FuncData} {N ps : List Str} {k : Nat} {sp : Sp} (F : Fun K x qual st f fd) (S : FnScope N ps (defScope st)) (len : ∀ vs H Q E, sp vs H Q E → vs.length = ps.length)
    (hb : ∀ (cdv : Value) (A : Around) (outer : List Env) (s : Shared) (H : Hp) (vs : List V) (Q : VK) (E : XK), Room k (A.deeper (envOfC qual (defScope st) s.heap.objs.size f cdv)) → (A.deeper (envOfC qual (defScope st) s.heap.objs.size f cdv)).guards = some [] → sp vs H Q E →
      ∃ t, PSs (cxOf (L2.CX P w) P w K mg base N qual (defScope st) f cdv A outer s H E) (defBody st) t ∧ t { nx := fun _ H' => Q .non H', rt := Q } (start N vs) H) : FnG P w K mg base (k + 1) f fd ps sp := by
  obtain ⟨oc, od, kV, doc, pm, an, cdv, ct, osl, rfl, lk, hcd⟩ := F.ex
  constructor
  · exact len
  intro A outer s H args us vs Q E hr hg e0 hbd rv hsp
  have hlen := len _ _ _ _ hsp
  have kin : K.In s.heap := e0.mod.kin.keeps (fun b ob eb => (e0.bs b ob eb).1)
  have nolim : s.heap.NoLimit := e0.mod.nolimit.keeps (fun b ob eb => (e0.bs b ob eb).1)
  have kinds : ∀ y ∈ ps.zip us, (defScope st).names.lookup y.1 = some .local ∨ ((defScope st).names.lookup y.1 = some .cell ∧ ((cellsFrom (s.heap.objs.size + 1) (defScope st).names []).lookup y.1).isSome = true) := by
    rintro ⟨nm, vv⟩ hy
    have hm := (List.of_mem_zip hy).1
    cases S.par nm hm with
    | inl q => exact Or.inl q
    | inr q => exact Or.inr ⟨q, PySem.W.cellsFrom_some _ _ _ (Or.inl q)⟩
  refine codeAny_call_function hr.depth (kin _ _ lk) rfl S.co S.gen rfl (PySem.W.codeRec_of kin hcd) (hbd _ _ _ _ (wpAny_newFunctionEnv_cells S.kind kinds ?_))
  rintro env rfl s1 x
  refine ⟨nolim.keeps x.toInCall.keep, codeAny_func ?_⟩
  obtain ⟨t, ht, hq⟩ := hb cdv A outer s H vs Q E (hr.deeper _) hg hsp
  have I0 := inv_start (CX := L2.CX P w) (E := E) S hr.hd e0 hlen rv x
  refine wpAny_mono (ht.run [] s1 (start N vs) H _ I0 hq) ?_ (fun _ _ q => q)
  intro fl s' hs
  cases fl with
  | next => obtain ⟨σ', H', J, q⟩ := hs; exact ⟨.non, H', J.os, J.bare, J.base, J.hok, rfl, q⟩
  | ret u => obtain ⟨v, σ', H', J, ru, q⟩ := hs; exact ⟨v, H', J.os, J.bare, J.base, J.hok, ru, q⟩
  | brk => obtain ⟨_, _, _, q⟩ := hs; exact q.elim
  | cont => obtain ⟨_, _, _, q⟩ := hs; exact q.elim
end
/-! ### calls -/
section
variable {X : Cx} {k : Nat} {f : Addr} {fd : FuncData} {ps : List Str} {sp : Sp} {x : Str} {p pos : Pos} {e : Expr} {es : List Expr} {t : TA} {W : WX}
def tCl (sp : Sp) (dvs : List V) (W : WX) (t : TA) : TE := fun σ H Q => t σ H fun vs H1 => sp (vs ++ dvs) H1 Q (WE W σ)
theorem run_cl {pins : List (Addr × Obj)} {σ : L2.St} {H : Hp} {s : Shared} {Q : VK} {us ds : List Value} {vs dvs : List V} (F : FnG X.prog X.w X.K X.mg X.base k f fd ps sp) (hr : Room k X.A) (hg : X.A.guards = some []) (hb : Binds X.K fd ps ds) (hd : Vals dvs ds) (tk : Takes X W)
    (I : Inv X pins σ H s) (rv : Vals vs us) (h : sp (vs ++ dvs) H Q (WE W σ)) : wpAny (model X.prog X.w) X.A (call (.ref f) us) (EP X pins σ Q) X.xe s := by
  have rv2 := rv.append hd
  have el : (us ++ ds).length = ps.length := rv2.length.symm.trans (F.len _ _ _ _ h)
  have c := F.run X.A X.stack s H ⟨us, []⟩ (us ++ ds) (vs ++ dvs) Q (WE W σ) hr hg I.env0 (hb s us I.kIn el) rv2 h
  refine wpAny_call (codeAny_mono c ?_)
  intro r s' hq
  match r, hq with
  | .error ex, hq => exact passAt tk σ pins H s ex s' I hq
  | .ok (.ret u), hq => exact I.after hq
  | .ok .next, hq => exact hq.elim
  | .ok .brk, hq => exact hq.elim
  | .ok .cont, hq => exact hq.elim
theorem pe_cl {ds : List Value} {dvs : List V} (F : FnG X.prog X.w X.K X.mg X.base k f fd ps sp) (hr : Room k X.A) (hgd : X.A.guards = some []) (hg : Gl X x) (hm : X.mg x = some (.ref f)) (hk : PySem.W.keepIn X.K (.ref f) = true) (hb : Binds X.K fd ps ds) (hd : Vals dvs ds) (tk : Takes X W)
    (ha : PA X (e :: es) t) (hdb : (x == ("__debug__" : Str)) = false := by decide) (he : starEach (e :: es) X.env = (false, eval e X.env) :: starEach es X.env := by rfl) (hpl : (backTo pos (starEach es X.env)).any (·.1) = false := by rfl) :
    PE X (.Call (.Name x p) (e :: es) [] pos) (tCl sp dvs W t) := by
  constructor
  intro pins s σ H Q I h
  refine wpAny_Call_Name_kw (ld_glob I hg hm (PySem.W.callWith_K (h₀ := X.base) I.ok.mod.kin hk (thn (ha.run pos pins s σ H _ I h) ?_) he hpl) hdb)
  rintro us s1 ⟨vs, H1, I1, rv, q⟩
  exact ⟨I1.kIn, run_cl F hr hgd hb hd tk I1 rv q⟩
/-- f() -/
theorem pe_cl0 {ds : List Value} {dvs : List V} (F : FnG X.prog X.w X.K X.mg X.base k f fd ps sp) (hr : Room k X.A) (hgd : X.A.guards = some []) (hg : Gl X x) (hm : X.mg x = some (.ref f)) (hk : PySem.W.keepIn X.K (.ref f) = true) (hb : Binds X.K fd ps ds) (hd : Vals dvs ds) (tk : Takes X W)
    (hdb : (x == ("__debug__" : Str)) = false := by decide) : PE X (.Call (.Name x p) [] [] pos) (tCl sp dvs W tNil) := by
  constructor
  intro pins s σ H Q I h
  exact wpAny_Call_Name_kw (ld_glob I hg hm (PySem.W.callWith_K0 I.kIn hk (run_cl (us := []) F hr hgd hb hd tk I .nil h)) hdb)
end
/-! ### calls by data -/
def AV.isD : AV → Bool
  | .d _ => true
  | .cell _ => false
def CC.isD : CC → Bool
  | .lst xs => xs.all AV.isD
  | .dct es => es.all fun p => p.2.isD
  | .ins _ fs => fs.all fun p => p.2.isD
section
variable {K : PySem.W.Frag} {W : WX} {P : Po} {ρ ρ' : Slots} {μ μ1 μ2 μ3 : List CC} {ta : TA} {te : TE} {R : Ctr} {α β Z : List Addr} {H : Hp}
theorem RpV.re {v : V} {x : AV} (h : x.isD = true) (r : RpV K α Z H v x) : RpV K β Z H v x := by
  cases r with
  | d r => exact .d r
  | cell _ => simp [AV.isD] at h
theorem RpVs.re : ∀ {vs : List V} {xs : List AV}, xs.all AV.isD = true → RpVs K α Z H vs xs → RpVs K β Z H vs xs
  | _, _, _, .nil => .nil
  | _, _, p, .cons h r => by
    rw [List.all_cons, Bool.and_eq_true] at p
    exact .cons (h.re p.1) (RpVs.re p.2 r)
theorem RpVK.re : ∀ {vs : List (Key × V)} {xs : List (Key × AV)}, (xs.all fun p => p.2.isD) = true → RpVK K α Z H vs xs → RpVK K β Z H vs xs
  | _, _, _, .nil => .nil
  | _, _, p, .cons h r => by
    rw [List.all_cons, Bool.and_eq_true] at p
    exact .cons (h.re p.1) (RpVK.re p.2 r)
theorem RpVF.re : ∀ {vs : List (Str × V)} {xs : List (Str × AV)}, (xs.all fun p => p.2.isD) = true → RpVF K α Z H vs xs → RpVF K β Z H vs xs
  | _, _, _, .nil => .nil
  | _, _, p, .cons h r => by
    rw [List.all_cons, Bool.and_eq_true] at p
    exact .cons (h.re p.1) (RpVF.re p.2 r)
theorem CellOk.re {a : Addr} {c : CC} (h : c.isD = true) (r : CellOk K α Z H a c) : CellOk K β Z H a c := by
  cases c with
  | lst xs => obtain ⟨vs, h1, h2⟩ := r; exact ⟨vs, h1, h2.re h⟩
  | dct xs => obtain ⟨vs, h1, h2⟩ := r; exact ⟨vs, h1, h2.re h⟩
  | ins C fs => obtain ⟨dx, vs, h1, h2⟩ := r; exact ⟨dx, vs, h1, h2.re h⟩
theorem data_all (ds : List D) : (ds.map AV.d).all AV.isD = true := by rw [List.all_map]; exact List.all_eq_true.mpr fun _ _ => rfl
theorem Okay.noCells (ok : Okay K α Z H μ) : Okay K [] Z H [] := ⟨⟨.nil, fun a h => absurd h List.not_mem_nil, ok.w.there⟩, ⟨rfl, fun k a c h => by simp at h⟩⟩
theorem Okay.one (ok : Okay K α Z H μ) {k : Nat} {a : Addr} {c : CC} (ha : α[k]? = some a) (hc : μ[k]? = some c) (hd : c.isD = true) : Okay K [a] Z H [c] :=
  ⟨⟨by simp, fun b hb => by rw [List.mem_singleton.mp hb]; exact ok.w.sub a (List.mem_of_getElem? ha), ok.w.there⟩, ⟨rfl, fun j b c' h1 h2 => by
    cases j with
    | zero => cases h1; cases h2; exact (ok.c.at_ k a c ha hc).re hd
    | succ j => simp at h1⟩⟩
theorem Ext.one {a : Addr} {H' : Hp} (ha : a ∈ α) (e : Ext [a] H H') : Ext α H H' := fun b hb o q => e b (fun z => hb (by rw [List.mem_singleton.mp z]; exact ha)) o q
theorem Okay.back (ok : Okay K α Z H μ) {H' : Hp} {k : Nat} {a : Addr} {c' : CC} (ha : α[k]? = some a) (hd : c'.isD = true) (e : Ext [a] H H') (o2 : Okay K [a] Z H' [c']) : Okay K α Z H' (μ.set k c') := by
  have hm : a ∈ α := List.mem_of_getElem? ha
  refine ⟨⟨ok.w.nd, ok.w.sub, o2.w.there⟩, ⟨by rw [List.length_set]; exact ok.c.len, fun j b c h1 h2 => ?_⟩⟩
  by_cases q : j = k
  · subst q
    rw [ha] at h1; cases h1
    rw [List.getElem?_set_self (by rw [← ok.c.len]; exact (List.getElem?_eq_some_iff.mp ha).1)] at h2
    cases h2
    exact (o2.c.at_ 0 a c' rfl rfl).re hd
  · rw [List.getElem?_set_ne (fun z => q z.symm)] at h2
    have nb : b ≠ a := fun z => q (by
      subst z
      exact (List.getElem?_inj (List.getElem?_eq_some_iff.mp h1).1 ok.w.nd).mp (by rw [h1, ha]))
    obtain ⟨ob, hob⟩ := ok.w.there b (ok.w.sub b (List.mem_of_getElem? h1))
    have hb' := e b (fun z => nb (List.mem_singleton.mp z)) ob hob
    exact (ok.c.at_ j b c h1 h2).gr ok.w (.of_ext (e.one hm)) (by rw [hb', hob])
/-- a call without cells -/
theorem ev_call0 {ds : List D} {r : D} (ha : EA K ta ρ μ (ds.map .d) μ1) (hR : R (ds.map .d) [] (.ret (.d r)) []) : EV K (tCl (SpR K R) [] W ta) ρ μ (.d r) μ1 :=
  fun α Z σ H ok sl Q k => ha α Z σ H ok sl _ fun vs H1 e1 ok1 r1 => by
    rw [List.append_nil]
    refine ⟨[], Z, _, [], _, [], ok1.noCells, r1.re (data_all ds), hR, fun r' v H' e ex ok' rv => ?_, fun c fs d H' e => (nomatch e), fun xs p ws H' e => (nomatch e)⟩
    cases e
    exact k v H' (e1.trans ex.nil_any) (ok1.still ex) (rv.re rfl)
/-- a call that hands back a new list -/
theorem en_call0 {ds xs : List D} (ha : EA K ta ρ μ (ds.map .d) μ1) (hR : R (ds.map .d) [] (.new xs) []) : EN K (tCl (SpR K R) [] W ta) ρ μ (xs.map .d) μ1 :=
  fun α Z σ H ok sl Q k => ha α Z σ H ok sl _ fun vs H1 e1 ok1 r1 => by
    rw [List.append_nil]
    refine ⟨[], Z, _, [], _, [], ok1.noCells, r1.re (data_all ds), hR, fun r' v H' e => (nomatch e), fun c fs d H' e => (nomatch e), fun xs p ws H' e ex hp hv ok' ra => ?_⟩
    cases e
    exact k p ws H' (e1.trans ex.nil_any) (none_back (fun q => ok1.w.off hp (ok.w.sub p q)) e1 hp) hv (ok1.keepOff hp ex ⟨_, hv⟩) (.of_data ra)
/-- .. with one cell, the k-th -/
def up1 (k : Nat) : AV → AV
  | .d x => .d x
  | .cell _ => .cell k
def cell0 : AV → Bool
  | .d _ => true
  | .cell 0 => true
  | .cell _ => false
theorem RpVs.down {k : Nat} {a : Addr} (ha : α[k]? = some a) : ∀ {vs : List V} {xs : List AV}, xs.all cell0 = true → RpVs K α Z H vs (xs.map (up1 k)) → RpVs K [a] Z H vs xs
  | _, [], _, .nil => .nil
  | _, .d x :: xs, p, .cons (.d h) r => .cons (.d h) (RpVs.down ha (by simpa [cell0] using p) r)
  | _, .cell 0 :: xs, p, .cons (.cell h) r => by
    rw [ha] at h; cases h
    exact .cons (.cell rfl) (RpVs.down ha (by simpa [cell0] using p) r)
  | _, .cell (n + 1) :: xs, p, _ => by simp [cell0] at p
theorem ev_call1 {cargs : List AV} {k : Nat} {c c' : CC} {r : D} (ha : EA K ta ρ μ (cargs.map (up1 k)) μ1) (hc : μ1[k]? = some c) (hR : R cargs [c] (.ret (.d r)) [c']) (hcell : cargs.all cell0 = true := by rfl) (hd : c.isD = true := by rfl) (hd' : c'.isD = true := by rfl) :
    EV K (tCl (SpR K R) [] W ta) ρ μ (.d r) (μ1.set k c') :=
  fun α Z σ H ok sl Q kk => ha α Z σ H ok sl _ fun vs H1 e1 ok1 r1 => by
    rw [List.append_nil]
    have hk : k < α.length := by rw [ok1.c.len]; exact (List.getElem?_eq_some_iff.mp hc).1
    have hα := List.getElem?_eq_getElem hk
    refine ⟨[α[k]], Z, cargs, [c], _, [c'], ok1.one hα hc hd, r1.down hα hcell, hR, fun r' v H' e ex ok' rv => ?_, fun c fs d H' e => (nomatch e), fun xs p ws H' e => (nomatch e)⟩
    cases e
    exact kk v H' (e1.trans (ex.one (List.getElem_mem hk))) (ok1.back hα hd' ex ok') (rv.re rfl)
theorem en_call1 {cargs : List AV} {k : Nat} {c c' : CC} {xs : List D} (ha : EA K ta ρ μ (cargs.map (up1 k)) μ1) (hc : μ1[k]? = some c) (hR : R cargs [c] (.new xs) [c']) (hcell : cargs.all cell0 = true := by rfl) (hd : c.isD = true := by rfl) (hd' : c'.isD = true := by rfl) :
    EN K (tCl (SpR K R) [] W ta) ρ μ (xs.map .d) (μ1.set k c') :=
  fun α Z σ H ok sl Q kk => ha α Z σ H ok sl _ fun vs H1 e1 ok1 r1 => by
    rw [List.append_nil]
    have hk : k < α.length := by rw [ok1.c.len]; exact (List.getElem?_eq_some_iff.mp hc).1
    have hα := List.getElem?_eq_getElem hk
    refine ⟨[α[k]], Z, cargs, [c], _, [c'], ok1.one hα hc hd, r1.down hα hcell, hR, fun r' v H' e => (nomatch e), fun c fs d H' e => (nomatch e), fun xs p ws H' e ex hp hv ok' ra => ?_⟩
    cases e
    have hm : α[k] ∈ α := List.getElem_mem hk
    have ex1 : Ext α H1 H' := ex.one hm
    -- the cells, off p too
    have b := ok1.back hα hd' ex (ok'.less fun a ha => by rw [List.mem_singleton.mp ha]; exact ok1.w.sub _ hm)
    have g : Gr α Z H1 α (p :: Z) H' := ⟨⟨[], by simp, by simp⟩, fun z hz => List.mem_cons_of_mem _ hz, fun z hz => by
      rcases List.mem_cons.mp hz with q | q
      · exact .inr (q ▸ hp)
      · exact .inl q, ex1⟩
    refine kk p ws H' (e1.trans ex1) (none_back (fun q => ok1.w.off hp (ok.w.sub p q)) e1 hp) hv ⟨⟨b.w.nd, fun a ha => List.mem_cons_of_mem _ (b.w.sub a ha), fun z hz => ?_⟩, ⟨b.c.len, fun j a c2 h1 h2 => ?_⟩⟩ (.of_data ra)
    · rcases List.mem_cons.mp hz with q | q
      · exact ⟨_, by rw [q]; exact hv⟩
      · exact b.w.there z q
    · by_cases q : j = k
      · subst q
        rw [hα] at h1; cases h1
        rw [List.getElem?_set_self (by rw [← ok1.c.len]; exact hk)] at h2
        cases h2
        exact (ok'.c.at_ 0 _ _ rfl rfl).re hd'
      · rw [List.getElem?_set_ne (fun z => q z.symm)] at h2
        have nb : a ≠ α[k] := fun z => q ((List.getElem?_inj (List.getElem?_eq_some_iff.mp h1).1 ok1.w.nd).mp (by rw [h1, hα, z]))
        obtain ⟨ob, hob⟩ := ok1.w.there a (ok1.w.sub a (List.mem_of_getElem? h1))
        exact (ok1.c.at_ j a c2 h1 h2).gr ok1.w g (by rw [ex a (fun z => nb (List.mem_singleton.mp z)) ob hob, hob])
/-- an expression that raises -/
def EX (K : PySem.W.Frag) (W : WX) (te : TE) (ρ : Slots) (μ : List CC) (c : Value) (fs : List (Str × D)) (μ' : List CC) : Prop :=
  ∀ (α Z : List Addr) (σ : L2.St) (H : Hp), Okay K α Z H μ → SlotsOk K α Z H σ ρ → ∀ Q : VK, (∀ d H', Ext α H H' → Okay K α Z H' μ' → ExcOk K Z H' d fs → W c d σ H') → te σ H Q
theorem ex_call0 {ds : List D} {c : Value} {fs : List (Str × D)} (ha : EA K ta ρ μ (ds.map .d) μ1) (hR : R (ds.map .d) [] (.exc c fs) []) : EX K W (tCl (SpR K R) [] W ta) ρ μ c fs μ1 :=
  fun α Z σ H ok sl Q k => ha α Z σ H ok sl _ fun vs H1 e1 ok1 r1 => by
    rw [List.append_nil]
    refine ⟨[], Z, _, [], _, [], ok1.noCells, r1.re (data_all ds), hR, fun r' v H' e => (nomatch e), fun c fs d H' e ex ok' xo => ?_, fun xs p ws H' e => (nomatch e)⟩
    cases e
    exact k d H' (e1.trans ex.nil_any) (ok1.still ex) xo
theorem sv_dropX {c : Value} {fs : List (Str × D)} (h : EX K W te ρ μ c fs μ1) (k : P.xc c fs μ1) : SV K W (tDrop te) ρ μ P :=
  fun α0 Z0 H0 α Z σ H D w0 gr ok sl kc => h α Z σ H ok sl _ fun d H' e ok' xo => kc.xc c fs μ1 d α Z σ H' k (gr.ext1 w0 ok e) ok' xo
theorem sv_asgX {g : TG} {c : Value} {fs : List (Str × D)} (h : EX K W te ρ μ c fs μ1) (k : P.xc c fs μ1) : SV K W (tAsg te g) ρ μ P :=
  fun α0 Z0 H0 α Z σ H D w0 gr ok sl kc => h α Z σ H ok sl _ fun d H' e ok' xo => kc.xc c fs μ1 d α Z σ H' k (gr.ext1 w0 ok e) ok' xo
theorem sv_retX {c : Value} {fs : List (Str × D)} (h : EX K W te ρ μ c fs μ1) (k : P.xc c fs μ1) : SV K W (tRet te) ρ μ P :=
  fun α0 Z0 H0 α Z σ H D w0 gr ok sl kc => h α Z σ H ok sl _ fun d H' e ok' xo => kc.xc c fs μ1 d α Z σ H' k (gr.ext1 w0 ok e) ok' xo
/-- never come to -/
theorem sv_never (h : False) : SV K W tNever ρ μ P := h.elim
/-! ### a def by its body -/
/-- what may be handed back: data, a new list (which is data from now on), a parameter's cell -/
inductive Fin (μ' : List CC) : AV → List CC → AV → Prop
  | data {d : D} {new : List CC} : Fin μ' (.d d) (μ' ++ new) (.d d)
  | lst {new : List CC} {j : Nat} {ds : List D} : new[j]? = some (.lst (ds.map .d)) → Fin μ' (.cell (μ'.length + j)) (μ' ++ new) (.d (.lst ds))
/-- .. told as new -/
inductive FinN (μ' : List CC) : AV → List CC → List D → Prop
  | mk {new : List CC} {j : Nat} {ds : List D} : new[j]? = some (.lst (ds.map .d)) → FinN μ' (.cell (μ'.length + j)) (μ' ++ new) ds
def poOf (o : Out) (μ' : List CC) : Po where
  nx := fun _ μ1 => ∃ new, μ1 = μ' ++ new ∧ o = .ret (.d .non)
  rt := fun r μ1 => (∃ r', Fin μ' r μ1 r' ∧ o = .ret r') ∨ ∃ ds, FinN μ' r μ1 ds ∧ o = .new ds
  xc := fun c fs μ1 => ∃ new, μ1 = μ' ++ new ∧ o = .exc c fs
def startA (N : List Str) (args : List AV) : Slots := args.map some ++ List.replicate (N.length - args.length) none
theorem slots_start {N : List Str} {vs : List V} {args : List AV} (r : RpVs K α Z H vs args) (hl : args.length ≤ N.length) : SlotsOk K α Z H (L2.start N vs) (startA N args) := by
  have e := r.length
  refine ⟨by unfold L2.start startA; simp only [List.length_append, List.length_map, List.length_replicate]; omega, fun i x h => ?_⟩
  unfold startA at h
  by_cases hi : i < args.length
  · rw [List.getElem?_append_left (by simpa using hi), List.getElem?_map] at h
    cases q : args[i]? with
    | none => rw [q] at h; cases h
    | some y =>
      rw [q] at h; cases h
      obtain ⟨v, h1, h2⟩ := r.get q
      refine ⟨v, ?_, h2⟩
      unfold L2.start
      rw [List.getElem?_append_left (by rw [List.length_map, e]; exact hi), List.getElem?_map, h1]; rfl
  · rw [List.getElem?_append_right (by simpa using Nat.le_of_not_lt hi), List.getElem?_replicate] at h
    split at h <;> cases h
theorem Okay.drop {α0 Z0 : List Addr} {new : List CC} (nd : α0.Nodup) (sub : ∀ a ∈ α0, a ∈ Z0) (keep : ∀ z ∈ Z0, z ∈ Z) (idx : ∀ (k : Nat) (a : Addr), α0[k]? = some a → α[k]? = some a) (ok : Okay K α Z H (μ ++ new)) (hl : α0.length = μ.length) (hd : μ.all CC.isD = true) : Okay K α0 Z0 H μ := by
  refine ⟨⟨nd, sub, fun z hz => ok.w.there z (keep z hz)⟩, ⟨hl, fun k a c h1 h2 => ?_⟩⟩
  have hk : k < μ.length := (List.getElem?_eq_some_iff.mp h2).1
  have q := ok.c.at_ k a c (idx k a h1) (by rw [List.getElem?_append_left hk]; exact h2)
  have q2 : CellOk K α0 Z H a c := q.re (List.all_eq_true.mp hd c (List.mem_of_getElem? h2))
  have wk : ∀ {vs : List V} {xs : List AV}, RpVs K α0 Z H vs xs → RpVs K α0 Z0 H vs xs := fun {vs xs} r => by
    induction vs generalizing xs with
    | nil => cases r; exact .nil
    | cons v vs ih => cases r with
      | cons a b => exact .cons (by cases a with | d a => exact .d (a.weak keep) | cell h => exact .cell h) (ih b)
  have wkk : ∀ {vs : List (Key × V)} {xs : List (Key × AV)}, RpVK K α0 Z H vs xs → RpVK K α0 Z0 H vs xs := fun {vs xs} r => by
    induction vs generalizing xs with
    | nil => cases r; exact .nil
    | cons v vs ih => cases r with
      | cons a b => exact .cons (by cases a with | d a => exact .d (a.weak keep) | cell h => exact .cell h) (ih b)
  have wkf : ∀ {vs : List (Str × V)} {xs : List (Str × AV)}, RpVF K α0 Z H vs xs → RpVF K α0 Z0 H vs xs := fun {vs xs} r => by
    induction vs generalizing xs with
    | nil => cases r; exact .nil
    | cons v vs ih => cases r with
      | cons a b => exact .cons (by cases a with | d a => exact .d (a.weak keep) | cell h => exact .cell h) (ih b)
  cases c with
  | lst xs => obtain ⟨vs, h1, h2⟩ := q2; exact ⟨vs, h1, wk h2⟩
  | dct xs => obtain ⟨vs, h1, h2⟩ := q2; exact ⟨vs, h1, wkk h2⟩
  | ins C fs => obtain ⟨dx, vs, h1, h2⟩ := q2; exact ⟨dx, vs, h1, wkf h2⟩
end
section
variable {P : Program} {w : World} {K : PySem.W.Frag} {mg : Str → Option Value} {base : Heap}
/-- THE RULE: a def of the text by its body's data -/
theorem fng_body {x qual : Str} {st : Stmt} {f : Addr} {fd : FuncData} {N ps : List Str} {k : Nat} {R : Ctr} (F : Fun K x qual st f fd) (S : FnScope N ps (defScope st)) (hlen : ∀ args μ o μ', R args μ o μ' → args.length = ps.length ∧ μ'.length = μ.length ∧ μ'.all CC.isD = true)
    (hb : ∀ (cdv : Value) (A : Around) (outer : List Env) (s : Shared) (H : Hp) (E : XK), Room k (A.deeper (envOfC qual (defScope st) s.heap.objs.size f cdv)) → (A.deeper (envOfC qual (defScope st) s.heap.objs.size f cdv)).guards = some [] →
      ∃ t, PSs (cxOf (L2.CX P w) P w K mg base N qual (defScope st) f cdv A outer s H E) (defBody st) t ∧ ∀ args μ o μ', R args μ o μ' → SV K (fun c d _ H => E c d H) t (startA N args) μ (poOf o μ')) :
    FnG P w K mg base (k + 1) f fd ps (SpR K R) := by
  refine fng_of F S (fun vs H Q E h => ?_) (fun cdv A outer s H vs Q E hr hg h => ?_)
  · obtain ⟨α, Z, args, μ, o, μ', _, r, hR, _, _⟩ := h
    rw [r.length]; exact (hlen _ _ _ _ hR).1
  · obtain ⟨α, Z, args, μ, o, μ', ok, rv, hR, hq, he, hnw⟩ := h
    obtain ⟨t, ht, hs⟩ := hb cdv A outer s H E hr hg
    obtain ⟨l1, l2, l3⟩ := hlen _ _ _ _ hR
    have hN : ps.length ≤ N.length := by have := congrArg List.length S.pre; rw [List.length_take] at this; omega
    have lα : α.length = μ'.length := by rw [l2]; exact ok.c.len
    refine ⟨t, ht, hs args μ o μ' hR α Z H α Z _ H _ ok.w .refl ok (slots_start rv (by omega)) ⟨?_, ?_, fun _ _ _ _ _ _ h => h.elim, fun _ _ _ _ _ _ h => h.elim, ?_⟩⟩
    · rintro ρ μ1 α1 Z1 σ1 H1 ⟨new, rfl, rfl⟩ g ok1 sl1
      exact hq _ _ _ rfl g.ext (ok1.drop ok.w.nd ok.w.sub g.keep (fun k a h => g.idx h) lα l3) (.d .non)
    · rintro r μ1 v α1 Z1 H1 (⟨r', hf, rfl⟩ | ⟨ds, hf, rfl⟩) g ok1 rv1
      rotate_left
      · cases hf with
        | @mk new j ds hj =>
          cases rv1 with
          | @cell _ p ha =>
            obtain ⟨vs, h1, h2⟩ := ok1.c.at_ _ _ _ ha (by rw [List.getElem?_append_right (Nat.le_add_right _ _), Nat.add_sub_cancel_left]; exact hj)
            have pn : H p = none := by
              obtain ⟨⟨nw, en, fr⟩, _⟩ := g
              rw [en, List.getElem?_append_right (by rw [lα]; exact Nat.le_add_right _ _)] at ha
              exact fr _ (List.mem_of_getElem? ha)
            have kp : ∀ z ∈ p :: Z, z ∈ Z1 := fun z hz => by
              rcases List.mem_cons.mp hz with q | q
              · rw [q]; exact ok1.w.sub p (List.mem_of_getElem? ha)
              · exact g.keep z q
            -- what is in the list is off p: p is a cell, data is off all cells
            exact hnw _ p vs H1 rfl g.ext pn h1 (ok1.drop ok.w.nd (fun a ha => List.mem_cons_of_mem _ (ok.w.sub a ha)) kp (fun k a h => g.idx h) lα l3) ((RpVs.to_data h2).weak kp)
      cases hf with
      | data =>
        cases rv1 with
        | d rv1 => exact hq _ _ _ rfl g.ext (ok1.drop ok.w.nd ok.w.sub g.keep (fun k a h => g.idx h) lα l3) (.d (rv1.weak g.keep))
      | @lst new j ds hj =>
        cases rv1 with
        | cell ha =>
          have ok2 := ok1.drop ok.w.nd ok.w.sub g.keep (fun k a h => g.idx h) lα l3
          obtain ⟨vs, h1, h2⟩ := ok1.c.at_ _ _ _ ha (by rw [List.getElem?_append_right (Nat.le_add_right _ _), Nat.add_sub_cancel_left]; exact hj)
          refine hq _ _ _ rfl g.ext ok2 (.d (.lst (fun q => ?_) h1 ((RpVs.to_data h2).weak g.keep)))
          obtain ⟨⟨nw, en, fr⟩, _⟩ := g
          rw [en, List.getElem?_append_right (by rw [lα]; exact Nat.le_add_right _ _)] at ha
          exact ok.w.off (fr _ (List.mem_of_getElem? ha)) q
    · rintro c fs μ1 d α1 Z1 σ1 H1 ⟨new, rfl, rfl⟩ g ok1 xo
      refine he _ _ _ _ rfl g.ext (ok1.drop ok.w.nd ok.w.sub g.keep (fun k a h => g.idx h) lα l3) ?_
      rcases xo with q | ⟨a, vs, q1, q2, q3, q4⟩
      · exact .inl q
      · refine .inr ⟨a, vs, q1, fun z => q2 (g.keep _ z), q3, L2.Paired.mapP q4 fun p q h => ⟨h.1, h.2.weak g.keep⟩⟩
end
end DL

set_option Elab.async false
set_option linter.all false
set_option maxRecDepth 100000
set_option maxHeartbeats 4000000
/-! DL9: the law's end; comprehensions with two clauses. -/
namespace DL
open PySem PySem.Spec PyProof.Rows L2
/-- the law's own contract: of a script of at most 63 whole numbers it hands back True -/
def lawR : Ctr := fun args μ o μ' => ∃ ns : List Int, ns.length ≤ 63 ∧ args = [.d (.fz ns)] ∧ μ = [] ∧ o = .ret (.d (.bl true)) ∧ μ' = []
theorem hid_ns {h : Heap} {H : Hp} {b a : Addr} {its : Array Value} {m : Str → Option Value} (ha : h.get? a = some { cls := .type "list", data := .seq its }) (only : ∀ b, H b ≠ none → b = a) (n : h.Ns b m) : (hidT h H).Ns b m := by
  obtain ⟨ob, es, ep, e1, e2, e3⟩ := n
  refine ⟨ob, es, ep, hidT_get e1 ?_, e2, e3⟩
  cases q : H b with
  | none => rfl
  | some u =>
    have eb := only b (by rw [q]; simp)
    rw [eb, ha] at e1
    cases e1
    cases e2
theorem end_g {l : PySem.W.OpenLaw} {k : Nat} {q : Program} {loose : List Str} {XP : (Str → Option Value) → Heap → Prop} {YP : World → Heap → Prop} {d : DefRec} {K : Params → PySem.W.Frag} {x : Str}
    (hn : l.most = some 63) (hdf : d.params.defaults = []) (hr : Room k callerA) (hY : ∀ (w : World) (h : Heap), YP w h → (K w.params).In h)
    (F : ∀ (w : World) (mg : Str → Option Value) (fa : Addr) (h : Heap), (K w.params).In h → h.Ns mainGlobals mg → mg d.name = some (.ref fa) →
      ∃ fd : FuncData, (∀ (s : Shared) (u : Value), BindsTo s fd ⟨[u], []⟩ [(x, u)]) ∧ ∀ base : Heap, (K w.params).In base → base.Ns mainGlobals mg → FnG l.prog w (K w.params) mg base k fa fd [x] (SpR (K w.params) lawR)) :
    PySem.W.WalkO q loose XP YP l.row.toRowW d [] (fun f vs => PySem.call f vs) := by
  refine Att.attach_call hn hdf ?_
  intro w s₀ s₁ mg mb fa o pm cd doc a vs ns G Y ho hd hcd hmg hobj hints hlen hgens
  have kin := hY w _ Y
  obtain ⟨fd, hbind, hF⟩ := F w mg fa _ kin G.T.g hmg
  have rvs := vals_ints hints
  have lvs := hints.length
  have small : ns.length ≤ sizeLine := Nat.le_trans hlen (by rw [sizeLine_eq]; decide)
  -- with H: what is tracked at the entry (nothing, or the script alone)
  have main : ∀ H : Hp, (∀ b, H b ≠ none → b = a) → (∀ b, H b = none ∨ ∃ ob, H b = some (.frz ob (.lst (ns.map V.int)))) → Rp (K w.params) [] H (.ref a) (.fz ns) → HOk l.prog w H s₁.heap → (H a ≠ none → (K w.params).lookup a = none) →
      codeAny (model l.prog w) callerA (.call (.ref fa) ⟨[.ref a], []⟩) (fun r s' => r = .ok (.ret (.bool true)) ∧ OldK s₁.heap s'.heap ∧ s'.os = s₁.os ∧ AllBare s'.gens) s₁ := by
    intro H only frz rp hok hK
    have kin2 : (K w.params).In (hidT s₁.heap H) := by
      intro b ob hb
      refine hidT_get (kin b ob hb) ?_
      cases hq : H b with
      | none => rfl
      | some u =>
        have eb := only b (by rw [hq]; simp)
        subst eb
        rw [hK (by rw [hq]; simp)] at hb
        cases hb
    obtain ⟨mc, l1, l2⟩ := G.T.nolimit
    have md : Mod (K w.params) mg (hidT s₁.heap H) := ⟨kin2, hid_ns hobj only G.T.g, ⟨mb, hid_ns hobj only G.T.b, G.T.builtins⟩, ⟨mc, hid_ns hobj only l1, l2⟩⟩
    have en : Env0 l.prog w (K w.params) mg (hidT s₁.heap H) callerA [] s₁ H := ⟨rfl, md, fun b ob e => of_hidT e, Nat.le_of_eq (hidT_size _ _), trivial, (fun b hb => by cases hb), hok, .of_eq hgens⟩
    have run := (hF _ kin2 (hid_ns hobj only G.T.g)).run callerA [] s₁ H ⟨[.ref a], []⟩ [.ref a] [.ref a] (fun v _ => v = .bl true) (fun _ _ _ => False) hr rfl en (hbind s₁ (.ref a)) (.cons rfl .nil)
      ⟨[], [], _, [], _, [], ⟨⟨.nil, fun _ h => h, fun z hz => by cases hz⟩, ⟨rfl, fun k a c h => by simp at h⟩⟩, .cons (.d rp) .nil, ⟨ns, hlen, rfl, rfl, rfl, rfl⟩,
        fun r v H' e _ _ rv => by cases e; cases rv with | d rv => cases rv; rfl, fun c fs d H' e => (nomatch e), fun xs p ws H' e => (nomatch e)⟩
    refine codeAny_mono run ?_
    intro r s' h
    match r, h with
    | .error e, h => exact (let ⟨_, _, _, _, _, _, _, _, _, _, _, _, z⟩ := h; z.elim)
    | .ok .next, h => exact h.elim
    | .ok .brk, h => exact h.elim
    | .ok .cont, h => exact h.elim
    | .ok (.ret u), h =>
      obtain ⟨v, H', e1, e2, un, hok', ru, ev⟩ := h
      have ev' : v = .bl true := ev
      subst ev'
      cases (show u = Value.bool true from ru)
      refine ⟨rfl, OldK.of_keep fun b ob eb => ?_, e1, e2⟩
      cases hq : H b with
      | none => exact un.keep b ob eb hq (by simp [frs]) (by simp)
      | some u =>
        rcases frz b with z | ⟨oz, z⟩
        · rw [hq] at z; cases z
        · have g1 := (hok b _ z).1
          have g2 := (hok' b _ (un.frzs b oz _ z)).1
          rw [eb] at g1; cases g1
          exact g2
  cases hk : (K w.params).lookup a with
  | some ob =>
    have e := kin a ob hk
    rw [hobj] at e
    cases e
    exact main (fun _ => none) (fun b h => (h rfl).elim) (fun _ => .inl rfl) (.fzK ⟨_, vs.toArray, _, hk, rfl, rfl, rfl, by rw [List.size_toArray, lvs]; exact small, by simpa using rvs⟩) (fun b u z => nomatch (show (none : Option HO) = some u from z)) (fun h => (h rfl).elim)
  | none =>
    have at_a : ∀ {b : Addr} {o : HO}, (if b = a then some (HO.frz { cls := .type "list", data := .seq vs.toArray } (.lst (ns.map V.int))) else none) = some o → b = a ∧ o = .frz { cls := .type "list", data := .seq vs.toArray } (.lst (ns.map V.int)) := fun {b o} z => by
      by_cases hb : b = a
      · rw [if_pos hb] at z; cases z; exact ⟨hb, rfl⟩
      · rw [if_neg hb] at z; cases z
    refine main (fun b => if b = a then some (.frz { cls := .type "list", data := .seq vs.toArray } (.lst (ns.map V.int))) else none) (fun b h => ?_) (fun b => ?_) (.fzT List.not_mem_nil (if_pos rfl)) (fun b u z => ?_) (fun _ => hk)
    · by_cases hb : b = a
      · exact hb
      · exact (h (if_neg hb)).elim
    · by_cases hb : b = a
      · exact .inr ⟨_, if_pos hb⟩
      · exact .inl (if_neg hb)
    · obtain ⟨rfl, rfl⟩ := at_a z
      exact ⟨hobj, by rw [List.length_map]; exact small, vs, _, rvs, hobj⟩
/-! ### two clauses -/
section
variable {K : PySem.W.Frag} {ρ : Slots} {μ μ1 : List CC} {te : TE}
theorem wipe_twice : ∀ (us : List Nat) (σ : L2.St), L2.wipe (L2.wipe σ us) us = L2.wipe σ us := by
  intro us σ
  apply List.ext_getElem?
  intro n
  by_cases hn : n ∈ us
  · have q : ∀ (ws : List Nat) (τ : L2.St), n ∈ ws → (L2.wipe τ ws)[n]? = if n < τ.length then some none else none := by
      intro ws
      induction ws with
      | nil => intro τ h; exact absurd h List.not_mem_nil
      | cons u us ih =>
        intro τ h
        show ((L2.wipe τ us).set u none)[n]? = _
        by_cases e : u = n
        · subst e
          by_cases hlt : u < τ.length
          · rw [List.getElem?_set_self (by rw [wipe_length]; exact hlt), if_pos hlt]
          · rw [List.getElem?_eq_none (by rw [List.length_set, wipe_length]; omega), if_neg hlt]
        · rw [List.getElem?_set_ne e]
          rcases List.mem_cons.mp h with z | z
          · exact absurd z.symm e
          · exact ih τ z
    rw [q us _ hn, q us _ hn, wipe_length]
  · rw [wipe_out hn]
/-- [elt for .. in .. if .. for .. in .. if ..], no cell changes: what is made ahead of turn i, and within it ahead of turn j -/
theorem en_lc2 {wi wi1 : TI} {g g1 : TG} {tt tt1 : TT} {vs vs1 : List Nat} {items : List AV} (hi : IW K wi ρ μ items μ1) (acc : Nat → List AV) (h0 : acc 0 = []) (hn : items.length ≤ 100000)
    (hs : ∀ (i : Nat) (d : AV), items[i]? = some d → ∃ (ρ2 : Slots) (js : List Nat) (b : Bool), GV K g d (wipeA ρ vs) ρ2 js ∧ (∀ j ∈ js, j ∈ vs) ∧ ET K tt ρ2 μ1 b μ1 ∧ (b = false → acc (i + 1) = acc i) ∧
      (b = true → ∃ (its : List AV) (acc2 : Nat → List AV), IW K wi1 ρ2 μ1 its μ1 ∧ acc2 0 = acc i ∧ acc2 its.length = acc (i + 1) ∧ (∀ j, (acc2 j).length ≤ 1000000) ∧
        ∀ (j : Nat) (e : AV), its[j]? = some e → ∃ (ρ3 : Slots) (js1 : List Nat) (c : Bool), GV K g1 e (wipeA ρ2 vs1) ρ3 js1 ∧ (∀ j ∈ js1, j ∈ vs1) ∧ ET K tt1 ρ3 μ1 c μ1 ∧
          (c = true → ∃ r, EV K te ρ3 μ1 r μ1 ∧ acc2 (j + 1) = acc2 j ++ [r]) ∧ (c = false → acc2 (j + 1) = acc2 j))) :
    EN K (tLc2 wi g tt wi1 g1 tt1 te vs vs1) ρ μ (acc items.length) μ1 := by
  intro α Z σ H ok sl Q k
  refine hi α Z σ H ok sl _ fun J H1 G Y e1 ok1 w hG hY => ?_
  intro Dl hD
  have sl1 := sl.ext ok e1
  have hD0 : H Dl = none := none_back (fun q => ok1.w.off hD (ok.w.sub Dl q)) e1 hD
  have hDα : Dl ∉ α := fun q => ok1.w.off hD (ok1.w.sub _ q)
  -- what stands while the list at Dl grows
  let Up : List AV → Hp → Prop := fun zs H' => ∃ vs', H' Dl = some (.lst vs') ∧ (∀ a, a ∉ α → a ≠ Dl → ∀ o, H1 a = some o → H' a = some o) ∧ Okay K α (Dl :: Z) H' μ1 ∧ RpVs K α (Dl :: Z) H' vs' zs
  have up_ext : ∀ {zs H'}, Up zs H' → Ext α H1 H' := fun {zs H'} ⟨_, _, h2, _⟩ a ha o q => h2 a ha (ne_of_none q hD) o q
  have up_gr : ∀ {zs H'}, Up zs H' → Gr α Z H1 α (Dl :: Z) H' := fun {zs H'} u => ⟨⟨[], by simp, by simp⟩, fun z hz => List.mem_cons_of_mem _ hz, fun z hz => by
    rcases List.mem_cons.mp hz with q | q
    · exact .inr (q ▸ hD)
    · exact .inl q, up_ext u⟩
  have up_mv : ∀ {zs H' H2}, Up zs H' → Ext α H' H2 → Okay K α (Dl :: Z) H2 μ1 → Up zs H2 := fun {zs H' H2} ⟨vs', h1, h2, h3, h4⟩ e o2 => ⟨vs', e Dl hDα _ h1, fun a ha hne o q => e a ha o (h2 a ha hne o q), o2, h4.ext h3 e⟩
  have accLen : ∀ i, i ≤ items.length → (acc i).length ≤ 1000000 := by
    intro i
    induction i with
    | zero => intro _; rw [h0]; exact Nat.zero_le _
    | succ i ih =>
      intro hi'
      obtain ⟨_, _, b, _, _, _, hb0, hb1⟩ := hs i items[i] (List.getElem?_eq_getElem hi')
      cases b with
      | true => obtain ⟨its, acc2, _, _, e2, e3, _⟩ := hb1 rfl; rw [← e2]; exact e3 _
      | false => rw [hb0 rfl]; exact ih (Nat.le_of_succ_le hi')
  refine ⟨fun i m H' => i + m = items.length ∧ Up (acc i) H', ⟨items.length, Nat.zero_add _, h0 ▸ ⟨[], upd_same, fun a ha hne o q => by rw [upd_ne hne]; exact q, ok1.keepOff hD (Ext.laid hD) ⟨_, upd_same⟩, .nil⟩⟩, ?_⟩
  rintro i m Hx ⟨him, u⟩
  by_cases hil : i < items.length
  · refine .inr ⟨w.goes i Hx hil (hG Hx ((up_ext u).wide ok1.w)), fun H' => Up (acc (i + 1)) H', fun H' u' => ⟨m - 1, by omega, by omega, u'⟩, fun x Hy hy => ?_⟩
    have o3 : Okay K α (Dl :: Z) Hx μ1 := u.elim fun _ h => h.2.2.1
    obtain ⟨d, hd, ey, ry⟩ := hY i Hx x Hy α (Dl :: Z) ((up_gr u).gw ok1.w) o3.w hil (w.yields i Hx x Hy hil (hG Hx ((up_ext u).wide ok1.w)) hy)
    obtain ⟨ρ2, js, b, hg, hjs, ht, hb0, hb1⟩ := hs i d hd
    have oy := o3.still ey
    have uy := up_mv u ey.nil_any oy
    have sw : SlotsOk K α (Dl :: Z) Hy (L2.wipe σ vs) (wipeA ρ vs) := (sl1.gr ok1.w (up_gr uy)).wipe vs
    refine hg α (Dl :: Z) μ1 (L2.wipe σ vs) Hy x oy ry sw _ fun σ2 w2 s2 => ⟨by rw [w2 vs hjs]; exact wipe_twice vs σ, ?_⟩
    refine ht α (Dl :: Z) σ2 Hy oy s2 _ fun H3 e3 o4 => ?_
    have u3 := up_mv uy e3 o4
    cases b with
    | false => show Up (acc (i + 1)) H3; rw [hb0 rfl]; exact u3
    | true =>
      obtain ⟨its, acc2, hi1, z0, z1, z2, hin⟩ := hb1 rfl
      refine hi1 α (Dl :: Z) σ2 H3 o4 (s2.ext oy e3) _ fun J1 H4 G1 Y1 e4 o5 w1 hG1 hY1 => ?_
      have u4 := up_mv u3 e4 o5
      have s4 := (s2.ext oy e3).ext o4 e4
      -- within: all but the list at Dl (and the cells) stands as at H4
      refine ⟨fun j n H' => j + n = its.length ∧ Up (acc2 j) H' ∧ Ext (Dl :: Z) H4 H' ∧ Ext (Dl :: α) H4 H', ⟨its.length, Nat.zero_add _, z0 ▸ u4, .refl _ _, .refl _ _⟩, ?_⟩
      rintro j n Hz ⟨hjn, uz, ez, ez2⟩
      have oz : Okay K α (Dl :: Z) Hz μ1 := uz.elim fun _ h => h.2.2.1
      by_cases hjl : j < its.length
      · refine .inr ⟨w1.goes j Hz hjl (hG1 Hz ez), fun H' => Up (acc2 (j + 1)) H' ∧ Ext (Dl :: Z) H4 H' ∧ Ext (Dl :: α) H4 H', fun H' u' => ⟨n - 1, by omega, by omega, u'⟩, fun x2 Hv hv => ?_⟩
        have gz : Gw α (Dl :: Z) H4 α (Dl :: Z) Hz := ⟨⟨[], by simp⟩, fun z hz => .inl hz, ez⟩
        obtain ⟨e, he, ev, rv⟩ := hY1 j Hz x2 Hv α (Dl :: Z) gz oz.w hjl (w1.yields j Hz x2 Hv hjl (hG1 Hz ez) hv)
        obtain ⟨ρ3, js1, c, hg1, hjs1, ht1, hc1, hc0⟩ := hin j e he
        have ov := oz.still ev
        have uv := up_mv uz ev.nil_any ov
        have av : Ext (Dl :: α) H4 Hv := ez2.trans ev.nil_any
        -- the outer slots stand: they speak of data off Dl
        have s5 : SlotsOk K α (Dl :: Z) Hv (L2.wipe σ2 vs1) (wipeA ρ2 vs1) := by
          have g5 : Gw α (Dl :: Z) H4 α (Dl :: Z) Hv := ⟨⟨[], by simp⟩, fun z hz => .inl hz, ez.trans ev.nil_any⟩
          have s6 : SlotsOk K α (Dl :: Z) Hv σ2 ρ2 := ⟨s4.len, fun i x hx => by
            obtain ⟨v, h1, h2⟩ := s4.at_ i x hx
            exact ⟨v, h1, h2.gw g5⟩⟩
          exact s6.wipe vs1
        refine hg1 α (Dl :: Z) μ1 (L2.wipe σ2 vs1) Hv x2 ov rv s5 _ fun σ3 w3 s3 => ⟨by rw [w3 vs1 hjs1]; exact wipe_twice vs1 σ2, ?_⟩
        refine ht1 α (Dl :: Z) σ3 Hv ov s3 _ fun H6 e6 o6 => ?_
        have u6 := up_mv uv e6 o6
        have wideα : ∀ {Ha Hb : Hp}, Ext α Ha Hb → Ext (Dl :: α) Ha Hb := fun {Ha Hb} ex a ha o q => ex a (fun z => ha (List.mem_cons_of_mem _ z)) o q
        have wideZ : ∀ {Ha Hb : Hp}, Ext α Ha Hb → Ext (Dl :: Z) Ha Hb := fun {Ha Hb} ex a ha o q => ex a (fun z => ha (List.mem_cons_of_mem _ (ok1.w.sub a z))) o q
        cases c with
        | false => show Up (acc2 (j + 1)) H6 ∧ _; rw [hc0 rfl]; exact ⟨u6, (ez.trans ev.nil_any).trans (wideZ e6), av.trans (wideα e6)⟩
        | true =>
          obtain ⟨r, hr, ea⟩ := hc1 rfl
          refine hr α (Dl :: Z) σ3 H6 o6 (s3.ext ov e6) _ fun v H7 e7 o7 r7 => ?_
          obtain ⟨vs7, p1, p2, p3, p4⟩ := up_mv u6 e7 o7
          refine ⟨vs7, p1, ?_, ?_⟩
          · have z := p4.length
            have z3 := z2 j
            rw [z, sizeLine_eq]; omega
          · refine ⟨⟨vs7 ++ [v], upd_same, fun a ha hne o q => by rw [upd_ne hne]; exact p2 a ha hne o q, p3.touch List.mem_cons_self hDα, by rw [ea]; exact (p4.append (.cons r7 .nil)).touch List.mem_cons_self⟩, ?_, ?_⟩
            · exact ((ez.trans ev.nil_any).trans (wideZ (e6.trans e7))).trans fun a ha o q => by rw [upd_ne (fun z => ha (by rw [z]; exact List.mem_cons_self))]; exact q
            · exact (av.trans (wideα (e6.trans e7))).trans fun a ha o q => by rw [upd_ne (fun z => ha (by rw [z]; exact List.mem_cons_self))]; exact q
      · refine .inl ⟨?_, ?_⟩
        · have e : j = its.length := by omega
          rw [e]; exact w1.stops Hz (hG1 Hz ez)
        · have e : j = its.length := by omega
          subst e
          show Up (acc (i + 1)) Hz
          rw [← z1]; exact uz
  · refine .inl ⟨?_, ?_⟩
    · have e : i = items.length := by omega
      rw [e]; exact w.stops Hx (hG Hx ((up_ext u).wide ok1.w))
    · have e : i = items.length := by omega
      subst e
      obtain ⟨vs', h1, h2, h3, h4⟩ := u
      exact k Dl vs' Hx (fun a ha o q => h2 a ha (ne_of_none q hD0) o (e1 a ha o q)) hD0 h1 h3 h4
end
end DL

set_option Elab.async false
set_option linter.all false
set_option maxRecDepth 100000
set_option maxHeartbeats 4000000
/-! DL10: the rules for the text, the written part K always told. -/
namespace DL
open PySem PySem.Spec PyProof.Rows L2
section
variable {X : Cx} {a b e l : Expr} {es : List Expr} {ta tb te tl : TE} {t : TA} {pos p apos cpos : Pos} {tg : Expr}
theorem k_add (K : PySem.W.Frag) (hK : X.K = K) : OpR X (binaryOp .Add) (rAddA K) := hK ▸ o_add
theorem k_eq (K : PySem.W.Frag) (hK : X.K = K) (hu : X.A.units + 64 < cLine) : OpR X (compareOp .Eq) (rEqD K) := hK ▸ op_eqD hu
theorem k_ne (K : PySem.W.Frag) (hK : X.K = K) (hu : X.A.units + 64 < cLine) : OpR X (compareOp .NotEq) (rNeD K) := hK ▸ op_neD hu
theorem k_ix (K : PySem.W.Frag) (hK : X.K = K) : IxR X (rIx K) := hK ▸ ix_seq
theorem k_sl (K : PySem.W.Frag) (hK : X.K = K) : SlR X (rSlAny K) := hK ▸ sl_any
theorem k_len (K : PySem.W.Frag) (hK : X.K = K) : CallR X (.builtin "len") (rLenA K) := hK ▸ c_len
theorem k_repr (K : PySem.W.Frag) (hK : X.K = K) (hg : X.A.guards = some []) (hu : X.A.units + 64 < cLine) : CallR X (.builtin "repr") (rReprA K) := hK ▸ c_repr hg hu
theorem k_list (K : PySem.W.Frag) (hK : X.K = K) : CallR X (.type "list") (rListA K) := hK ▸ call_list_of
theorem k_tuple (K : PySem.W.Frag) (hK : X.K = K) : CallR X (.type "tuple") (rTupA K) := hK ▸ call_tuple_of
theorem k_any (K : PySem.W.Frag) (hK : X.K = K) (hc : X.calm = true) : CallR X (.builtin "any") (rAny K) := hK ▸ cr_any hc
theorem k_all (K : PySem.W.Frag) (hK : X.K = K) (hc : X.calm = true) : CallR X (.builtin "all") (rAll K) := hK ▸ cr_all hc
theorem k_sortI (K : PySem.W.Frag) (hK : X.K = K) : CallR X (.builtin "sorted") (rSortedI K) := hK ▸ cr_sortedI
theorem k_isi (K : PySem.W.Frag) (hK : X.K = K) : CallR X (.builtin "isinstance") (rIsi K) := hK ▸ call_isi
theorem k_isiT (K : PySem.W.Frag) (hK : X.K = K) : CallR X (.builtin "isinstance") (rIsiT K) := hK ▸ call_isiT
theorem k_plist (K : PySem.W.Frag) (hK : X.K = K) (h : PE X l tl) : PI X tg l (iList K tl) := hK ▸ pi_list h
theorem k_ptup (K : PySem.W.Frag) (hK : X.K = K) (h : PE X l tl) : PI X tg l (iTup K tl) := hK ▸ pi_tup h
theorem k_penum (K : PySem.W.Frag) (hK : X.K = K) {elts : List Expr} {kk : Nat} {tpos : Pos} (hg : Gl X "enumerate") (hm : X.mg "enumerate" = none) (ha : PA X [e] t) (hs : starEach [e] X.env = [(false, eval e X.env)] := by rfl) : PI X (.Tuple elts kk tpos) (.Call (.Name "enumerate" p) [e] [] pos) (iEnum K t) := hK ▸ pi_enum hg hm ha hs
theorem k_gtup (K : PySem.W.Frag) (hK : X.K = K) {tt : TGs} {k n : Nat} (hc : X.calm = true) (h : PGs X es tt) (hn : (assignEach es X.env).length = n := by rfl) (hst : (assignEach es X.env).findIdx? (·.1) = none := by rfl) : PG X (.Tuple es k pos) (gTup K n tt) := hK ▸ pg_tup hc h hn hst
theorem k_bm0 (K : PySem.W.Frag) (hK : X.K = K) {T id : String} {name : Str} {r : V → List V → Hp → VK → Prop} (pa : PlainAttrs T) (slot : Slot T name id) (hty : typeOf (.builtin id) = pure (.type "method_descriptor")) (hm : MtR X id r) (ho : PE X l tl)
    (hbase : attributeBase l name X.env (eval l X.env) = eval l X.env := by rfl) (hline : (apos.endLine == cpos.line) = true := by rfl) : PE X (.Call (.Attribute l name apos) [] [] cpos) (tBM0 K T r tl) := hK ▸ pe_bm0 pa slot hty hm ho hbase hline
theorem k_bm (K : PySem.W.Frag) (hK : X.K = K) {T id : String} {name : Str} {r : V → List V → Hp → VK → Prop} (pa : PlainAttrs T) (slot : Slot T name id) (hty : typeOf (.builtin id) = pure (.type "method_descriptor")) (hm : MtR X id r) (ho : PE X l tl) (ha : PA X (e :: es) t)
    (hbase : attributeBase l name X.env (eval l X.env) = eval l X.env := by rfl)
    (hfew : ((backTo cpos (starEach (e :: es) X.env)).all (fun x => !x.1) && (backToKw cpos (keywordEach [] X.env)).all (fun x => x.1.isSome)
      && decide ((e :: es).length + ([] : List Keyword).length + (if ([] : List Keyword).isEmpty then 0 else 1) < 30)) = true := by rfl)
    (hline : (apos.endLine == cpos.line) = true := by rfl) (hs : starEach (e :: es) X.env = (false, eval e X.env) :: starEach es X.env := by rfl) (hplain : (backTo cpos (starEach es X.env)).any (·.1) = false := by rfl) :
    PE X (.Call (.Attribute l name apos) (e :: es) [] cpos) (tBM K T r tl t) := hK ▸ pe_bm pa slot hty hm ho ha hbase hfew hline hs hplain
/-- a module's whole number, text -/
theorem k_gint {x : Str} {i : Int} (hg : Gl X x) (hm : ∃ u, X.mg x = some (.int i u)) (hd : (x == ("__debug__" : Str)) = false := by decide) : PE X (.Name x pos) (tC (.int i)) := hm.elim fun u h => pe_glob hg h ⟨u, rfl⟩ hd
theorem k_gstr {x : Str} {i : Str} (hg : Gl X x) (hm : ∃ u, X.mg x = some (.str i u)) (hd : (x == ("__debug__" : Str)) = false := by decide) : PE X (.Name x pos) (tC (.str i)) := hm.elim fun u h => pe_glob hg h ⟨u, rfl⟩ hd
theorem k_ty {n : String} {x : Str} (hg : Gl X x) (hm : X.mg x = none) (hv : bootBuiltins x = some (.type n)) (hn : x ≠ "__name__" := by decide) (hd : (x == ("__debug__" : Str)) = false := by decide) : PE X (.Name x pos) (tC (.ty n)) := pe_bltn hg hm hv rfl hn hd
/-- what a call's level leaves -/
theorem room64 {k : Nat} {A : Around} (r : Room k A) : A.units + 64 < cLine := by have := r.un; omega
/-- a def of the module that may be called by its name, all its parameters given -/
structure Cal (P : Program) (w : World) (K : PySem.W.Frag) (mg : Str → Option Value) (base : Heap) (k : Nat) (x : Str) (sp : Sp) : Prop where
  ex : ∃ (f : Addr) (fd : FuncData) (ps : List Str), FnG P w K mg base k f fd ps sp ∧ mg x = some (.ref f) ∧ PySem.W.keepIn K (.ref f) = true ∧ Binds K fd ps []
theorem k_call {k j : Nat} {x : Str} {sp : Sp} {W : WX} (K : PySem.W.Frag) (hK : X.K = K) (c : Cal X.prog X.w K X.mg X.base k x sp) (hr : Room j X.A) (hk : k ≤ j) (hgd : X.A.guards = some []) (hg : Gl X x) (tk : Takes X W) (ha : PA X (e :: es) t)
    (hdb : (x == ("__debug__" : Str)) = false := by decide) (he : starEach (e :: es) X.env = (false, eval e X.env) :: starEach es X.env := by rfl) (hpl : (backTo pos (starEach es X.env)).any (·.1) = false := by rfl) :
    PE X (.Call (.Name x p) (e :: es) [] pos) (tCl sp [] W t) := by
  subst hK
  obtain ⟨f, fd, ps, F, hm, kp, b⟩ := c.ex
  exact pe_cl F (hr.mono hk) hgd hg hm kp b .nil tk ha hdb he hpl
/-- a def that stands in the module -/
structure Def (K : PySem.W.Frag) (mg : Str → Option Value) (x : Str) (st : Stmt) (f : Addr) (fd : FuncData) : Prop where
  fn : Fun K x x st f fd
  mgf : mg x = some (.ref f)
end
end DL
namespace DL
open PySem PySem.Spec PyProof.Rows L2
/-! ### a statement, then the rest -/
section
variable {K : PySem.W.Frag} {W : WX} {P : Po} {ρ ρ' : Slots} {μ μ1 μ2 : List CC} {t u v : TS} {te tb : TE} {x y : AV} {xs : List AV}
theorem q_asg {i : Nat} (h : EV K te ρ μ x μ1) (k : SV K W u (ρ.set i (some x)) μ1 P) : SV K W (tSeq (tAsg te (gName i)) u) ρ μ P := sv_seq (sv_asg h k)
theorem q_asgN {i : Nat} (h : EN K te ρ μ xs μ1) (k : SV K W u (ρ.set i (some (.cell μ1.length))) (μ1 ++ [.lst xs]) P) : SV K W (tSeq (tAsg te (gName i)) u) ρ μ P := sv_seq (sv_asgN h k)
theorem q_asgT {g : TG} {js : List Nat} (h : EV K te ρ μ x μ1) (hg : GV K g x ρ ρ' js) (k : SV K W u ρ' μ1 P) : SV K W (tSeq (tAsg te g) u) ρ μ P := sv_seq (sv_asgT h hg k)
theorem q_drop (h : EV K te ρ μ x μ1) (k : SV K W u ρ μ1 P) : SV K W (tSeq (tDrop te) u) ρ μ P := sv_seq (sv_drop h k)
theorem q_if {b : Bool} {tc : TT} (h : ET K tc ρ μ b μ1) (h1 : b = true → SV K W t ρ μ1 { P with nx := fun ρ' μ' => SV K W v ρ' μ' P }) (h2 : b = false → SV K W u ρ μ1 { P with nx := fun ρ' μ' => SV K W v ρ' μ' P }) : SV K W (tSeq (tIfS tc t u) v) ρ μ P := sv_seq (sv_if h h1 h2)
/-- if .. without else -/
theorem q_when {b : Bool} {tc : TT} (h : ET K tc ρ μ b μ1) (h1 : b = true → SV K W t ρ μ1 { P with nx := fun ρ' μ' => SV K W v ρ' μ' P }) (h2 : b = false → SV K W v ρ μ1 P) : SV K W (tSeq (tIfS tc t tNext) v) ρ μ P := q_if h h1 fun e => sv_next (h2 e)
/-- if c: name = e, told by the value behind it -/
theorem q_ifAsg {b : Bool} {tc : TT} {i : Nat} (h : ET K tc ρ μ b μ1) (h1 : b = true → EV K te ρ μ1 x μ1) (h2 : b = false → ρ.set i (some x) = ρ) (k : SV K W v (ρ.set i (some x)) μ1 P) : SV K W (tSeq (tIfS tc (tAsg te (gName i)) tNext) v) ρ μ P :=
  q_when h (fun e => sv_asg (h1 e) k) fun e => by rw [h2 e] at k; exact k
theorem q_aug {i : Nat} {r : R2} (h : ρ[i]? = some (some x)) (he : EV K te ρ μ y μ1) {z : AV} (hr : RV K r x y μ1 z μ2) (k : SV K W u (ρ.set i (some z)) μ2 P) : SV K W (tSeq (tAug i te r) u) ρ μ P := sv_seq (sv_aug h he hr k)
theorem q_setL {to ti : TE} {k n : Nat} {cs : List AV} (he : EV K te ρ μ x μ1) (ho : EV K to ρ μ1 (.cell k) μ1) (hi : EV K ti ρ μ1 (.d (.int (n : Nat))) μ1) (hc : μ1[k]? = some (.lst cs)) (hn : n < cs.length) (kk : SV K W u ρ (μ1.set k (.lst (cs.set n x))) P) :
    SV K W (tSeq (tAsg te (gSub to ti rSetL)) u) ρ μ P := sv_seq (sv_setL he ho hi hc hn kk)
theorem q_par {i j : Nat} {ta : TA} (h : EA K ta ρ μ [x, y] μ1) (k : SV K W u ((ρ.set i (some x)).set j (some y)) μ1 P) : SV K W (tSeq (tPar i j ta) u) ρ μ P := by
  refine sv_seq fun α0 Z0 H0 α Z σ H D w0 gr ok sl kk => h α Z σ H ok sl _ fun vs H1 e1 ok1 r1 => ?_
  cases r1 with
  | cons a b => cases b with
    | cons b c =>
      cases c
      exact ⟨_, _, rfl, kk.nx _ _ α Z _ H1 k (gr.ext1 w0 ok e1) ok1 (((sl.ext ok e1).set a).set b)⟩
theorem q_for {wi : TI} {g : TG} {items : List AV} (hi : IW K wi ρ μ items μ1) (Inv : Nat → Slots → List CC → Prop) (h0 : Inv 0 ρ μ1)
    (hs : ∀ (i : Nat) (d : AV) (ρ1 : Slots) (μ2 : List CC), items[i]? = some d → Inv i ρ1 μ2 → ∃ ρ2 js, GV K g d ρ1 ρ2 js ∧ SV K W t ρ2 μ2 { P with nx := Inv (i + 1), ct := Inv (i + 1), bk := fun ρ' μ' => SV K W u ρ' μ' P })
    (hd : ∀ ρ1 μ2, Inv items.length ρ1 μ2 → SV K W u ρ1 μ2 P) : SV K W (tSeq (tFor wi g t) u) ρ μ P := sv_seq (sv_for hi Inv h0 hs hd)
end
/-- new cells by data -/
theorem set_app {α : Type} (xs ys : List α) (k : Nat) (c : α) (h : k < xs.length) : (xs ++ ys).set k c = xs.set k c ++ ys := List.set_append_left _ _ h
end DL

set_option Elab.async false
set_option linter.all false
set_option maxRecDepth 100000
set_option maxHeartbeats 4000000
/-! DL11: cells read as data, kinds of data, comprehensions in short. -/
namespace DL
open PySem PySem.Spec PyProof.Rows L2
/-- no object within -/
def D.flat : D → Bool
  | .non | .bl _ | .int _ | .str _ => true
  | _ => false
/-- a cell read as what it holds -/
inductive Thaw (μ : List CC) : AV → D → Prop
  | d (x : D) : Thaw μ (.d x) x
  | lst {k : Nat} {ds : List D} : μ[k]? = some (.lst (ds.map .d)) → Thaw μ (.cell k) (.lst ds)
inductive Thaws (μ : List CC) : List AV → List D → Prop
  | nil : Thaws μ [] []
  | cons {x : AV} {d : D} {xs : List AV} {ds : List D} : Thaw μ x d → Thaws μ xs ds → Thaws μ (x :: xs) (d :: ds)
section
variable {K : PySem.W.Frag} {W : WX} {P : Po} {ρ ρ' : Slots} {μ μ1 μ2 μ3 : List CC} {ta : TA} {te : TE} {R : Ctr} {α β Z : List Addr} {H : Hp} {x y : AV} {dx dy dz : D} {i j : Int}
theorem Rp.flat {v : V} (h : dz.flat = true) (r : Rp K Z H v dz) {Z' : List Addr} {H' : Hp} : Rp K Z' H' v dz := by
  cases r <;> first | exact .non | exact .bl _ | exact .int _ | exact .str _ | (simp [D.flat] at h)
theorem Thaw.rp (ok : Okay K α Z H μ) {v : V} (t : Thaw μ x dx) (r : RpV K α Z H v x) : Rp K [] H v dx := by
  cases t with
  | d => cases r with | d r => exact r.weak fun a h => absurd h List.not_mem_nil
  | lst hk =>
    cases r with
    | cell ha =>
      obtain ⟨vs, h1, h2⟩ := ok.c.at_ _ _ _ ha hk
      exact .lst List.not_mem_nil h1 ((RpVs.to_data h2).weak fun a h => absurd h List.not_mem_nil)
theorem Thaws.rp (ok : Okay K α Z H μ) : ∀ {xs : List AV} {ds : List D} {vs : List V}, Thaws μ xs ds → RpVs K α Z H vs xs → RpVs K [] [] H vs (ds.map .d)
  | _, _, _, .nil, .nil => .nil
  | _, _, _, .cons t ts, .cons r rs => .cons (.d (t.rp ok r)) (Thaws.rp ok ts rs)
theorem okay0 : Okay K [] [] H [] := ⟨⟨.nil, fun a h => h, fun z hz => absurd hz List.not_mem_nil⟩, ⟨rfl, fun k a c h => by simp at h⟩⟩
theorem rv_thaw {r : R2} (h : RV K r (.d dx) (.d dy) [] (.d dz) []) (hf : dz.flat = true) (tx : Thaw μ x dx) (ty : Thaw μ y dy) : RV K r x y μ (.d dz) μ := fun α Z H ok vx vy rx ry Q k =>
  h [] [] H okay0 vx vy (.d (tx.rp ok rx)) (.d (ty.rp ok ry)) Q fun v H' e _ rv => k v H' e.nil_any (ok.still e) (by cases rv with | d rv => exact .d (rv.flat hf))
theorem rc_thaw {r : List V → Hp → VK → Prop} {xs : List AV} {ds : List D} (h : RC K r (ds.map .d) [] (.d dz) []) (hf : dz.flat = true) (ts : Thaws μ xs ds) : RC K r xs μ (.d dz) μ := fun α Z H ok vs rs Q k =>
  h [] [] H okay0 vs (ts.rp ok rs) Q fun v H' e _ rv => k v H' e.nil_any (ok.still e) (by cases rv with | d rv => exact .d (rv.flat hf))
/-- a call that reads cells and hands back no object -/
theorem ev_callF {args : List AV} {cargs : List D} {r : D} (ha : EA K ta ρ μ args μ1) (ts : Thaws μ1 args cargs) (hR : R (cargs.map .d) [] (.ret (.d r)) []) (hf : r.flat = true) : EV K (tCl (SpR K R) [] W ta) ρ μ (.d r) μ1 :=
  fun α Z σ H ok sl Q k => ha α Z σ H ok sl _ fun vs H1 e1 ok1 r1 => by
    rw [List.append_nil]
    refine ⟨[], [], _, [], _, [], okay0, ts.rp ok1 r1, hR, fun r' v H' e ex ok' rv => ?_, fun c fs d H' e => (nomatch e), fun xs p ws H' e => (nomatch e)⟩
    cases e
    cases rv with
    | d rv => exact k v H' (e1.trans ex.nil_any) (ok1.still ex) (.d (rv.flat hf))
/-! ### kinds -/
def D.ty : D → Option String
  | .non => some "NoneType"
  | .bl _ => some "bool"
  | .int _ => some "int"
  | .str _ => some "str"
  | .lst _ => some "list"
  | .tup _ => some "tuple"
  | .dct _ => some "dict"
  | .fz _ => some "list"
  | .raw _ => none
theorem Rp.tyx {v : V} {t : String} (r : Rp K Z H v dx) (h : dx.ty = some t) : TyX K H v (.type t) := by
  cases r with
  | non => cases h; exact .base .non
  | bl b => cases h; exact .base (.bl b)
  | int i => cases h; exact .base (.int i)
  | str s => cases h; exact .base (.str s)
  | lst n q r => cases h; exact .base (.lst q)
  | tup n q r => cases h; exact .base (.tup q)
  | dct n q r => cases h; exact .base (.dK q)
  | fzT n q => cases h; exact .base (.frz q)
  | fzK q => cases h; obtain ⟨o, its, n, q1, q2, _⟩ := q; exact .kList q1 q2
  | raw v => cases h
theorem b_isi {t n : String} {b : Bool} (h : dx.ty = some t) (hk : kitB t n = some b) : RC K (rIsi K) [.d dx, .d (.raw (.ty n))] μ (.d (.bl b)) μ := rc_2 fun Z H v w r1 r2 Q k => by
  cases r2
  exact ⟨v, .ty n, .type t, .type n, b, rfl, .ty n, r1.tyx h, kit_ty hk, k _ (.bl _)⟩
/-- isinstance(x, (S, T)) -/
theorem b_isi2 {t n m : String} {b c : Bool} (h : dx.ty = some t) (hk : kitB t n = some b) (hm : kitB t m = some c) : RC K (rIsiT K) [.d dx, .d (.tup [.raw (.ty n), .raw (.ty m)])] μ (.d (.bl (b || c))) μ := rc_2 fun Z H v w r1 r2 Q k => by
  cases r2 with
  | tup nn q r =>
    cases r with
    | cons a r => cases a; cases r with
      | cons a r => cases a; cases r
                    refine ⟨v, _, _, .type t, [.type n, .type m], b || c, rfl, q, .cons (.ty n) (.cons (.ty m) .nil), r1.tyx h, ?_, k _ (.bl _)⟩
                    refine kitAny_cons (kit_ty hk) (fun e => ?_) fun e => by rw [e]; rfl
                    rw [e, Bool.false_or]
                    exact kitAny_cons (kit_ty hm) (fun e => by rw [e]; exact kitAny_nil) fun e => e
/-! ### comprehensions over data, a name the target, no cell changes -/
theorem take_succ {γ : Type} {xs : List γ} {i : Nat} {d : γ} (h : xs[i]? = some d) : xs.take (i + 1) = xs.take i ++ [d] := by rw [List.take_add_one, h]; rfl
theorem map_get {ds : List D} {i : Nat} {d : AV} (h : (ds.map AV.d)[i]? = some d) : ∃ e, d = .d e ∧ ds[i]? = some e := by
  rw [List.getElem?_map] at h
  cases q : ds[i]? with
  | none => rw [q] at h; cases h
  | some e => rw [q] at h; cases h; exact ⟨e, rfl, rfl⟩
theorem en_map {wi : TI} {vs : List Nat} {i : Nat} {ds : List D} (f : D → D) (hi : IW K wi ρ μ (ds.map .d) μ1) (hv : i ∈ vs) (hn : ds.length ≤ 100000) (he : ∀ d ∈ ds, EV K te ((wipeA ρ vs).set i (some (.d d))) μ1 (.d (f d)) μ1) :
    EN K (tLc wi (gName i) tYes te vs) ρ μ ((ds.map f).map .d) μ1 := by
  have h := en_lc (te := te) (g := gName i) (tt := tYes) (vs := vs) hi (fun i => ((ds.take i).map f).map .d) (fun _ => μ1) rfl rfl (fun j d hd => ?_) (by rw [List.length_map]; exact hn)
  · rw [List.length_map, List.take_length] at h; exact h
  · obtain ⟨e, rfl, he'⟩ := map_get hd
    exact ⟨_, [i], true, μ1, gv_name, fun j hj => by rw [List.mem_singleton.mp hj]; exact hv, et_yes, fun _ => ⟨_, he e (List.mem_of_getElem? he'), by rw [take_succ he', List.map_append, List.map_append]; rfl⟩, fun z => nomatch z⟩
theorem en_filter {wi : TI} {tt : TT} {vs : List Nat} {i : Nat} {ds : List D} (p : D → Bool) (f : D → D) (hi : IW K wi ρ μ (ds.map .d) μ1) (hv : i ∈ vs) (hn : ds.length ≤ 100000) (ht : ∀ d ∈ ds, ET K tt ((wipeA ρ vs).set i (some (.d d))) μ1 (p d) μ1)
    (he : ∀ d ∈ ds, p d = true → EV K te ((wipeA ρ vs).set i (some (.d d))) μ1 (.d (f d)) μ1) : EN K (tLc wi (gName i) tt te vs) ρ μ (((ds.filter p).map f).map .d) μ1 := by
  have h := en_lc (te := te) (g := gName i) (tt := tt) (vs := vs) hi (fun i => (((ds.take i).filter p).map f).map .d) (fun _ => μ1) rfl rfl (fun j d hd => ?_) (by rw [List.length_map]; exact hn)
  · rw [List.length_map, List.take_length] at h; exact h
  · obtain ⟨e, rfl, he'⟩ := map_get hd
    have hm := List.mem_of_getElem? he'
    refine ⟨_, [i], p e, μ1, gv_name, fun j hj => by rw [List.mem_singleton.mp hj]; exact hv, ht e hm, fun q => ⟨_, he e hm q, ?_⟩, fun q => ⟨rfl, ?_⟩⟩
    · rw [take_succ he', List.filter_append, List.filter_cons_of_pos q, List.map_append, List.map_append]; rfl
    · rw [take_succ he', List.filter_append, List.filter_cons_of_neg (by rw [q]; exact Bool.false_ne_true), List.filter_nil, List.append_nil]
theorem b_allM {ds : List D} {p : D → Bool} : RC K (rAll K) [.d (.lst (ds.map fun d => .bl (p d)))] μ (.d (.bl (ds.all p))) μ := by
  have h := b_all (K := K) (μ := μ) (bs := ds.map p)
  rw [List.map_map, List.all_map] at h; exact h
theorem b_anyM {ds : List D} {p : D → Bool} : RC K (rAny K) [.d (.lst (ds.map fun d => .bl (p d)))] μ (.d (.bl (ds.any p))) μ := by
  have h := b_any (K := K) (μ := μ) (bs := ds.map p)
  rw [List.map_map, List.any_map] at h; exact h
/-! ### ranges as data -/
def rangeL (lo : Int) (n : Nat) : List D := (List.range n).map fun k => .int (lo + (k : Nat))
theorem rangeD_map (lo : Int) (n : Nat) : rangeD lo n = (rangeL lo n).map .d := by unfold rangeD rangeL; rw [List.map_map]; rfl
theorem iw_rng1 {ts : TA} (h : EA K ts ρ μ [.d (.int j)] μ1) (hj : j ≤ 100000) (hj0 : -100000 ≤ j) : IW K (iRng1 ts) ρ μ ((rangeL 0 j.toNat).map .d) μ1 := rangeD_map 0 _ ▸ iw_range1 h hj hj0
theorem iw_rng2 {ts : TA} (h : EA K ts ρ μ [.d (.int i), .d (.int j)] μ1) (hi : -100000 ≤ i ∧ i ≤ 100000) (hj : -100000 ≤ j ∧ j ≤ 100000) : IW K (iRng2 ts) ρ μ ((rangeL i (j - i).toNat).map .d) μ1 := rangeD_map i _ ▸ iw_range2 h hi hj
/-- list(range(n)) -/
theorem en_listRg1 (h : EV K te ρ μ (.d (.int j)) μ1) (h0 : 0 ≤ j) (hj : j ≤ 100000) : EN K (tLstRg (tRg1 te)) ρ μ ((rangeL 0 j.toNat).map .d) μ1 :=
  fun α Z σ H ok sl Q k => h α Z σ H ok sl _ fun v H1 e1 ok1 r1 => by
    cases r1 with
    | d r1 =>
      cases r1
      refine ⟨j, rfl, ⟨by omega, by omega, by omega, by omega, by omega⟩, fun p hp => k p _ _ (e1.trans (Ext.new hp)) (none_back (fun q => ok1.w.off hp (ok.w.sub p q)) e1 hp) upd_same (ok1.keepOff hp (Ext.laid hp) ⟨_, upd_same⟩) ?_⟩
      have e : rgV 0 j = (((List.range j.toNat).map fun k => (0 : Int) + (k : Nat)).map V.int) := by unfold rgV; rw [List.map_map, Int.sub_zero]; rfl
      have e2 : rangeL 0 j.toNat = (((List.range j.toNat).map fun k => (0 : Int) + (k : Nat)).map D.int) := by unfold rangeL; rw [List.map_map]; rfl
      rw [e, e2]
      exact .of_data (RpA.ints _)
end
end DL

set_option Elab.async false
set_option linter.all false
set_option maxRecDepth 100000
set_option maxHeartbeats 4000000
/-! DL12: data of a Lean type: equality; what repr shows; places. -/
namespace DL
open PySem PySem.Spec PyProof.Rows L2
mutual
theorem py_plain : ∀ d : D, d.py.plain = true
  | .non => rfl
  | .bl _ => rfl
  | .int _ => rfl
  | .str _ => rfl
  | .lst xs => by simp only [D.py, PyData.plain]; exact py_plainAll xs
  | .tup xs => by simp only [D.py, PyData.plain]; exact py_plainAll xs
  | .dct _ => rfl
  | .fz ns => by
    simp only [D.py, PyData.plain]
    induction ns with
    | nil => rfl
    | cons n ns ih => simp only [List.map_cons, PyData.plainAll, PyData.plain, Bool.true_and]; exact ih
  | .raw _ => rfl
theorem py_plainAll : ∀ xs : List D, PyData.plainAll (D.pyAll xs) = true
  | [] => rfl
  | x :: xs => by simp only [D.pyAll, PyData.plainAll, py_plain x, py_plainAll xs, Bool.and_self]
end
/-! ### == of data without dicts -/
def rEqP (K : PySem.W.Frag) : R2 := fun x y H Q => ∃ d e, Dp K H x d ∧ Dp K H y e ∧ d.plain = true ∧ e.plain = true ∧ d.depth ≤ 60 ∧ Q (.bl (PyData.eqv d e)) H
def rNeP (K : PySem.W.Frag) : R2 := fun x y H Q => ∃ d e, Dp K H x d ∧ Dp K H y e ∧ d.plain = true ∧ e.plain = true ∧ d.depth ≤ 60 ∧ Q (.bl (!PyData.eqv d e)) H
section
variable {X : Cx}
theorem o_eqP (K : PySem.W.Frag) (hK : X.K = K) (hu : X.A.units + 64 < cLine) : OpR X (compareOp .Eq) (rEqP K) := by
  subst hK
  intro pins s σ H x y v u Q I rx ry h
  obtain ⟨d, e, hd, he, pd, pe, dp, q⟩ := h
  obtain ⟨as, r1⟩ := Dp.reads I d x v hd rx
  obtain ⟨bs, r2⟩ := Dp.reads I e y u he ry
  exact PySem.SeqAt.eq_plain r1 r2 pd pe (by have := Nat.min_le_left d.depth e.depth; omega) ⟨.bl _, H, I, rfl, q⟩
theorem o_neP (K : PySem.W.Frag) (hK : X.K = K) (hu : X.A.units + 64 < cLine) : OpR X (compareOp .NotEq) (rNeP K) := by
  subst hK
  intro pins s σ H x y v u Q I rx ry h
  obtain ⟨d, e, hd, he, pd, pe, dp, q⟩ := h
  obtain ⟨as, r1⟩ := Dp.reads I d x v hd rx
  obtain ⟨bs, r2⟩ := Dp.reads I e y u he ry
  exact PySem.SeqAt.ne_plain r1 r2 pd pe (by have := Nat.min_le_left d.depth e.depth; omega) ⟨.bl _, H, I, rfl, q⟩
end
section
variable {K : PySem.W.Frag} {W : WX} {P : Po} {ρ ρ' : Slots} {μ μ1 μ2 : List CC} {te to : TE} {d e : D} {x y : AV}
theorem b_eqP (h1 : d.plain = true) (h2 : e.plain = true) (hd : d.py.depth ≤ 60) : RV K (rEqP K) (.d d) (.d e) μ (.d (.bl (PyData.eqv d.py e.py))) μ := rv_of fun Z H vx vy rx ry Q k => ⟨_, _, rx.dp h1, ry.dp h2, py_plain d, py_plain e, hd, k _ (.bl _)⟩
theorem b_neP (h1 : d.plain = true) (h2 : e.plain = true) (hd : d.py.depth ≤ 60) : RV K (rNeP K) (.d d) (.d e) μ (.d (.bl (!PyData.eqv d.py e.py))) μ := rv_of fun Z H vx vy rx ry Q k => ⟨_, _, rx.dp h1, ry.dp h2, py_plain d, py_plain e, hd, k _ (.bl _)⟩
end
theorem beq_dec {α : Type} [BEq α] [LawfulBEq α] [DecidableEq α] (a b : α) : (a == b) = decide (a = b) := by
  by_cases h : a = b
  · rw [decide_eq_true h, h, beq_self_eq_true]
  · rw [decide_eq_false h]; exact beq_eq_false_iff_ne.mpr h
/-- a Lean type that is data: == is equality -/
class Dt (α : Type) [DecidableEq α] where
  toD : α → D
  plain : ∀ a, (toD a).plain = true
  k : Nat
  depth : ∀ a, (toD a).py.depth ≤ k
  eqv : ∀ a b, PyData.eqv (toD a).py (toD b).py = decide (a = b)
instance : Dt Int where
  toD := .int
  plain _ := rfl
  k := 0
  depth _ := Nat.le_refl _
  eqv a b := by simp only [D.py, PyData.eqv]; exact beq_dec a b
instance : Dt Bool where
  toD := .bl
  plain _ := rfl
  k := 0
  depth _ := Nat.le_refl _
  eqv a b := by simp only [D.py, PyData.eqv]; exact beq_dec a b
instance : Dt Str where
  toD := .str
  plain _ := rfl
  k := 0
  depth _ := Nat.le_refl _
  eqv a b := by simp only [D.py, PyData.eqv]; exact beq_dec a b
/-- whole numbers from 0 -/
instance : Dt Nat where
  toD n := .int (n : Nat)
  plain _ := rfl
  k := 0
  depth _ := Nat.le_refl _
  eqv a b := by simp only [D.py, PyData.eqv]; exact (beq_dec _ _).trans (decide_eq_decide.mpr (by omega))
/-- a tuple of any length -/
structure Tu (α : Type) where
  xs : List α
  deriving DecidableEq
section
variable {α β : Type} [DecidableEq α] [Dt α] [DecidableEq β] [Dt β]
theorem dt_plainAll (xs : List α) : D.plainAll (xs.map Dt.toD) = true := D.plainAll_iff.mpr fun x hx => by
  obtain ⟨a, _, rfl⟩ := List.mem_map.mp hx
  exact Dt.plain a
theorem dt_depthAll : ∀ xs : List α, PyData.depthAll (D.pyAll (xs.map Dt.toD)) ≤ Dt.k α
  | [] => Nat.zero_le _
  | x :: xs => by rw [List.map_cons, D.pyAll, PyData.depthAll]; exact Nat.max_le.mpr ⟨Dt.depth x, dt_depthAll xs⟩
theorem dt_eqvAll : ∀ xs ys : List α, PyData.eqvAll (D.pyAll (xs.map Dt.toD)) (D.pyAll (ys.map Dt.toD)) = decide (xs = ys)
  | [], [] => by simp [D.pyAll, PyData.eqvAll]
  | [], _ :: _ => by simp [D.pyAll, PyData.eqvAll]
  | _ :: _, [] => by simp [D.pyAll, PyData.eqvAll]
  | x :: xs, y :: ys => by
    rw [List.map_cons, List.map_cons, D.pyAll, D.pyAll, PyData.eqvAll, Dt.eqv x y, dt_eqvAll xs ys, ← Bool.decide_and]
    exact decide_eq_decide.mpr (by rw [List.cons.injEq])
instance : Dt (List α) where
  toD xs := .lst (xs.map Dt.toD)
  plain xs := by simp only [D.plain]; exact dt_plainAll xs
  k := Dt.k α + 1
  depth xs := by simp only [D.py, PyData.depth]; exact Nat.succ_le_succ (dt_depthAll xs)
  eqv xs ys := by simp only [D.py, PyData.eqv]; exact dt_eqvAll xs ys
instance : Dt (Tu α) where
  toD t := .tup (t.xs.map Dt.toD)
  plain t := by simp only [D.plain]; exact dt_plainAll t.xs
  k := Dt.k α + 1
  depth t := by simp only [D.py, PyData.depth]; exact Nat.succ_le_succ (dt_depthAll t.xs)
  eqv t u := by
    simp only [D.py, PyData.eqv]
    rw [dt_eqvAll]
    exact decide_eq_decide.mpr ⟨fun e => by cases t; cases u; exact congrArg Tu.mk e, fun e => by rw [e]⟩
instance : Dt (α × β) where
  toD p := .tup [Dt.toD p.1, Dt.toD p.2]
  plain p := by simp only [D.plain, D.plainAll, Dt.plain, Bool.and_self]
  k := max (Dt.k α) (Dt.k β) + 1
  depth p := by
    simp only [D.py, D.pyAll, PyData.depth, PyData.depthAll]
    exact Nat.succ_le_succ (Nat.max_le.mpr ⟨Nat.le_trans (Dt.depth p.1) (Nat.le_max_left _ _), Nat.max_le.mpr ⟨Nat.le_trans (Dt.depth p.2) (Nat.le_max_right _ _), Nat.zero_le _⟩⟩)
  eqv p q := by
    simp only [D.py, D.pyAll, PyData.eqv, PyData.eqvAll]
    rw [Dt.eqv, Dt.eqv, Bool.and_true, ← Bool.decide_and]
    exact decide_eq_decide.mpr ⟨fun e => Prod.ext e.1 e.2, fun e => by rw [e]; exact ⟨rfl, rfl⟩⟩
instance : Dt (Option α) where
  toD
    | none => .tup [.non]
    | some a => .tup [.bl true, Dt.toD a]
  plain a := by cases a <;> simp [D.plain, D.plainAll, Dt.plain]
  k := Dt.k α + 1
  depth a := by
    cases a with
    | none => simp [D.py, D.pyAll, PyData.depth, PyData.depthAll]
    | some a => simp only [D.py, D.pyAll, PyData.depth, PyData.depthAll]; exact Nat.succ_le_succ (Nat.max_le.mpr ⟨Nat.zero_le _, Nat.max_le.mpr ⟨Dt.depth a, Nat.zero_le _⟩⟩)
  eqv a b := by
    cases a <;> cases b <;> simp [D.py, D.pyAll, PyData.eqv, PyData.eqvAll, Dt.eqv]
variable {K : PySem.W.Frag} {μ : List CC} {d e : D}
theorem b_eqT (a b : α) (hk : Dt.k α ≤ 60 := by decide) (hd : d = Dt.toD a := by rfl) (he : e = Dt.toD b := by rfl) : RV K (rEqP K) (.d d) (.d e) μ (.d (.bl (decide (a = b)))) μ := by
  subst hd; subst he
  rw [← Dt.eqv]
  exact b_eqP (Dt.plain a) (Dt.plain b) (Nat.le_trans (Dt.depth a) hk)
theorem b_neT (a b : α) (hk : Dt.k α ≤ 60 := by decide) (hd : d = Dt.toD a := by rfl) (he : e = Dt.toD b := by rfl) : RV K (rNeP K) (.d d) (.d e) μ (.d (.bl (!decide (a = b)))) μ := by
  subst hd; subst he
  rw [← Dt.eqv]
  exact b_neP (Dt.plain a) (Dt.plain b) (Nat.le_trans (Dt.depth a) hk)
end
/-! ### what repr shows: at most n signs, k deep -/
structure Sh (d : D) (n k : Nat) : Prop where
  plain : d.plain = true
  showable : d.py.showable = true
  depth : d.py.depth ≤ k
  len : d.py.shown.length ≤ n
theorem sh_non : Sh .non 4 0 := ⟨rfl, rfl, Nat.le_refl _, by decide +kernel⟩
theorem sh_bl (b : Bool) : Sh (.bl b) 5 0 := ⟨rfl, rfl, Nat.le_refl _, by cases b <;> decide +kernel⟩
theorem sh_int {i : Int} {k : Nat} (hk : 0 < k) (h : i.natAbs < 10 ^ k) (hk2 : k ≤ 500 := by decide) : Sh (.int i) (k + 1) 0 := by
  refine ⟨rfl, ?_, Nat.le_refl _, ?_⟩
  · simp only [D.py, PyData.showable, decide_eq_true_eq]
    by_cases h0 : i.natAbs = 0
    · rw [h0]; decide
    · refine (Nat.log2_lt h0).mpr (Nat.lt_of_lt_of_le h ?_)
      calc 10 ^ k ≤ 10 ^ 500 := Nat.pow_le_pow_right (by decide) hk2
        _ ≤ 2 ^ 1920 := by decide +kernel
  · show (Str.ofString (toString i)).length ≤ k + 1
    have q := int_text_length_le10 (a := i) hk h
    exact Nat.le_trans (Nat.le_of_eq (PySem.ofString_length _)) q
theorem Sh.mono {d : D} {n m k j : Nat} (s : Sh d n k) (h : n ≤ m) (h2 : k ≤ j) : Sh d m j := ⟨s.plain, s.showable, Nat.le_trans s.depth h2, Nat.le_trans s.len h⟩
theorem shAll_parts {ds : List D} {n k : Nat} (h : ∀ d ∈ ds, Sh d n k) : D.plainAll ds = true ∧ PyData.showableAll (D.pyAll ds) = true ∧ PyData.depthAll (D.pyAll ds) ≤ k ∧ ((PyData.shownAll (D.pyAll ds)).map (·.length)).sum ≤ n * ds.length ∧ (PyData.shownAll (D.pyAll ds)).length = ds.length := by
  induction ds with
  | nil => exact ⟨rfl, rfl, Nat.zero_le _, Nat.zero_le _, rfl⟩
  | cons d ds ih =>
    obtain ⟨h1, h2, h3, h4, h5⟩ := ih fun e he => h e (List.mem_cons_of_mem _ he)
    have s := h d List.mem_cons_self
    refine ⟨?_, ?_, ?_, ?_, ?_⟩
    · rw [D.plainAll, s.plain, h1]; rfl
    · rw [D.pyAll, PyData.showableAll, s.showable, h2]; rfl
    · rw [D.pyAll, PyData.depthAll]; exact Nat.max_le.mpr ⟨s.depth, h3⟩
    · rw [D.pyAll, PyData.shownAll, List.map_cons, List.sum_cons, List.length_cons, Nat.mul_succ]
      have := s.len
      omega
    · rw [D.pyAll, PyData.shownAll, List.length_cons, List.length_cons, h5]
theorem sh_lst {ds : List D} {n k : Nat} (h : ∀ d ∈ ds, Sh d n k) : Sh (.lst ds) (n * ds.length + 2 * ds.length + 3) (k + 1) := by
  obtain ⟨h1, h2, h3, h4, h5⟩ := shAll_parts h
  refine ⟨h1, h2, ?_, ?_⟩
  · simp only [D.py, PyData.depth]; omega
  · simp only [D.py, PyData.shown]
    refine Nat.le_trans (listText_len_le _) ?_
    rw [h5]; omega
theorem sh_tup {ds : List D} {n k : Nat} (h : ∀ d ∈ ds, Sh d n k) : Sh (.tup ds) (n * ds.length + 2 * ds.length + 3) (k + 1) := by
  obtain ⟨h1, h2, h3, h4, h5⟩ := shAll_parts h
  refine ⟨h1, h2, ?_, ?_⟩
  · simp only [D.py, PyData.depth]; omega
  · simp only [D.py, PyData.shown]
    refine Nat.le_trans (tupleText_len_le _) ?_
    rw [h5]; omega
mutual
theorem noDict_plain : ∀ d : D, d.plain = true → d.py.hasDict = false
  | .non, _ => rfl
  | .bl _, _ => rfl
  | .int _, _ => rfl
  | .str _, _ => rfl
  | .lst xs, h => by simp only [D.py, PyData.hasDict]; exact noDict_all xs h
  | .tup xs, h => by simp only [D.py, PyData.hasDict]; exact noDict_all xs h
  | .dct _, _ => rfl
  | .fz ns, h => by simp [D.plain] at h
  | .raw _, _ => rfl
theorem noDict_all : ∀ xs : List D, D.plainAll xs = true → PyData.hasDictAll (D.pyAll xs) = false
  | [], _ => rfl
  | x :: xs, h => by
    simp only [D.plainAll, Bool.and_eq_true] at h
    simp only [D.pyAll, PyData.hasDictAll, noDict_plain x h.1, noDict_all xs h.2, Bool.or_self]
end
/-- what repr of d shows -/
def D.shown (d : D) : Str := d.py.shown
section
variable {K : PySem.W.Frag} {W : WX} {P : Po} {ρ ρ' : Slots} {μ μ1 μ2 : List CC} {te to : TE} {d e : D} {x y : AV}
theorem b_reprS {n k : Nat} (s : Sh d n k) (hn : n ≤ 16777216) (hk : k ≤ 60) : RC K (rReprA K) [.d d] μ (.d (.str d.shown)) μ := b_repr s.plain s.showable (noDict_plain d s.plain) (Nat.le_trans s.depth hk) (Nat.le_trans s.len hn)
/-! ### xs.index(e), whole numbers -/
theorem idxOf_ne {n : Int} : ∀ {ns : List Int} {m : Nat} (h : m < ns.length), m < ns.idxOf n → ns[m] ≠ n
  | a :: ns, 0, _, q => fun e => by
    simp only [List.getElem_cons_zero] at e
    rw [e, List.idxOf_cons_self] at q
    exact Nat.lt_irrefl _ q
  | a :: ns, m + 1, h, q => by
    simp only [List.getElem_cons_succ]
    refine idxOf_ne (Nat.lt_of_succ_lt_succ h) ?_
    rw [List.idxOf_cons] at q
    cases e : (a == n) with
    | true => rw [e] at q; simp at q
    | false => rw [e] at q; simp at q; exact q
theorem all_int (ns : List Int) : (ns.map V.int).all flatV = true := List.all_eq_true.mpr fun v hv => by obtain ⟨n, _, rfl⟩ := List.mem_map.mp hv; rfl
theorem ev_indexI {ns : List Int} {n : Int} (ho : EV K to ρ μ (.d (.lst (ns.map .int))) μ) (he : EV K te ρ μ (.d (.int n)) μ) (hm : n ∈ ns) : EV K (tBM K "list" (rIndex K) to (tCons te tNil)) ρ μ (.d (.int (ns.idxOf n : Nat))) μ :=
  fun α Z σ H ok sl Q k => ho α Z σ H ok sl _ fun v H1 e1 ok1 r1 => by
    cases r1 with
    | d r1 =>
      cases r1 with
      | lst nn h1 r =>
        refine ⟨.inl ⟨rfl, _, SqL.of h1⟩, he α Z σ H1 ok1 (sl.ext ok e1) _ fun w H2 e2 ok2 r2 => ?_⟩
        cases r2 with
        | d r2 =>
          cases r2
          have ei := r.ints_inv
          subst ei
          have hlt : ns.idxOf n < ns.length := List.idxOf_lt_length_iff.mpr hm
          refine ⟨_, ns.map V.int, .int n, ns.idxOf n, .int n, rfl, rfl, SqL.of (e2 _ (fun q => nn (ok1.w.sub _ q)) _ h1), rfl, all_int ns, ?_, ?_, fun m z hmm hz => ?_, k _ H2 (e1.trans e2) ok2 (.d (.int _))⟩
          · rw [List.getElem?_map, List.getElem?_eq_getElem hlt, List.getElem_idxOf hlt]; rfl
          · show (n == n) = true; exact beq_self_eq_true n
          · rw [List.getElem?_map] at hz
            have hml : m < ns.length := by omega
            rw [List.getElem?_eq_getElem hml] at hz
            cases hz
            show (ns[m] == n) = false
            exact beq_eq_false_iff_ne.mpr (idxOf_ne hml hmm)
end
end DL

set_option Elab.async false
set_option linter.all false
set_option maxRecDepth 100000
set_option maxHeartbeats 4000000
/-! DL13: whole numbers from 0, lists of them; short comparisons. -/
namespace DL
open PySem PySem.Spec PyProof.Rows L2
abbrev nD (n : Nat) : D := .int (n : Nat)
abbrev nL (ns : List Nat) : D := .lst (ns.map nD)
section
variable {K : PySem.W.Frag} {W : WX} {P : Po} {ρ ρ' : Slots} {μ μ1 μ2 : List CC} {ta : TA} {te tl : TE} {d e : D} {x y : AV} {i j : Int} {m n : Nat} {a b : Str} {xs ys : List D}
theorem RV.to {r : R2} {z z' : AV} (h : RV K r x y μ z μ1) (q : z = z') : RV K r x y μ z' μ1 := q ▸ h
theorem RC.to {r : List V → Hp → VK → Prop} {xs : List AV} {z z' : AV} (h : RC K r xs μ z μ1) (q : z = z') : RC K r xs μ z' μ1 := q ▸ h
theorem RCN.to {r : List V → Hp → VK → Prop} {xs zs zs' : List AV} (h : RCN K r xs μ zs μ1) (q : zs = zs') : RCN K r xs μ zs' μ1 := q ▸ h
theorem IW.to {wi : TI} {zs zs' : List AV} (h : IW K wi ρ μ zs μ1) (q : zs = zs') : IW K wi ρ μ zs' μ1 := q ▸ h
theorem b_eqI : RV K (rEqP K) (.d (.int i)) (.d (.int j)) μ (.d (.bl (decide (i = j)))) μ := b_eqT (α := Int) i j
theorem b_neI : RV K (rNeP K) (.d (.int i)) (.d (.int j)) μ (.d (.bl (!decide (i = j)))) μ := b_neT (α := Int) i j
theorem b_eqN : RV K (rEqP K) (.d (nD m)) (.d (nD n)) μ (.d (.bl (decide (m = n)))) μ := b_eqT (α := Nat) m n
theorem b_neN : RV K (rNeP K) (.d (nD m)) (.d (nD n)) μ (.d (.bl (!decide (m = n)))) μ := b_neT (α := Nat) m n
theorem b_eqS : RV K (rEqP K) (.d (.str a)) (.d (.str b)) μ (.d (.bl (decide (a = b)))) μ := b_eqT (α := Str) a b
theorem b_neS : RV K (rNeP K) (.d (.str a)) (.d (.str b)) μ (.d (.bl (!decide (a = b)))) μ := b_neT (α := Str) a b
theorem b_eqLN {ms ns : List Nat} : RV K (rEqP K) (.d (nL ms)) (.d (nL ns)) μ (.d (.bl (decide (ms = ns)))) μ := b_eqT (α := List Nat) ms ns
theorem b_neLN {ms ns : List Nat} : RV K (rNeP K) (.d (nL ms)) (.d (nL ns)) μ (.d (.bl (!decide (ms = ns)))) μ := b_neT (α := List Nat) ms ns
theorem b_ltN : RV K rLtI (.d (nD m)) (.d (nD n)) μ (.d (.bl (decide (m < n)))) μ := b_lt.to (by rw [decide_eq_decide.mpr Int.ofNat_lt])
theorem b_leN : RV K rLeI (.d (nD m)) (.d (nD n)) μ (.d (.bl (decide (m ≤ n)))) μ := b_le.to (by rw [decide_eq_decide.mpr Int.ofNat_le])
theorem b_gtN : RV K rGtI (.d (nD m)) (.d (nD n)) μ (.d (.bl (decide (n < m)))) μ := b_gt.to (by rw [decide_eq_decide.mpr Int.ofNat_lt])
theorem b_geN : RV K rGeI (.d (nD m)) (.d (nD n)) μ (.d (.bl (decide (n ≤ m)))) μ := b_ge.to (by rw [decide_eq_decide.mpr Int.ofNat_le])
theorem b_addN : RV K (rAddA K) (.d (nD m)) (.d (nD n)) μ (.d (nD (m + n))) μ := b_add.to (by rw [← Int.natCast_add])
theorem b_addN1 {c : Nat} : RV K (rAddA K) (.d (nD m)) (.d (.int (OfNat.ofNat c))) μ (.d (nD (m + c))) μ := b_addN
theorem at_nat {α : Type} {xs : List α} {v : α} (h : xs[n]? = some v) : atI xs (n : Nat) = some v := by
  have hn := (List.getElem?_eq_some_iff.mp h).1
  unfold atI ixN
  rw [if_pos (Int.natCast_nonneg n), if_pos (by omega)]
  exact h
theorem b_ixLN (h : xs[n]? = some d) : RV K (rIx K) (.d (.lst xs)) (.d (nD n)) μ (.d d) μ := b_ixL (at_nat h)
theorem b_ixTN (h : xs[n]? = some d) : RV K (rIx K) (.d (.tup xs)) (.d (nD n)) μ (.d d) μ := b_ixT (at_nat h)
theorem b_ixCN {k : Nat} {cs : List AV} {d : AV} (hc : μ[k]? = some (.lst cs)) (h : cs[n]? = some d) : RV K (rIx K) (.cell k) (.d (nD n)) μ d μ := b_ixC hc (at_nat h)
theorem rangeL_nat (n : Nat) : rangeL 0 n = (List.range n).map nD := List.map_congr_left fun k _ => by rw [Int.zero_add]
theorem en_listRgN (h : EV K te ρ μ (.d (nD n)) μ1) (hn : n ≤ 100000) : EN K (tLstRg (tRg1 te)) ρ μ (((List.range n).map nD).map .d) μ1 :=
  (en_listRg1 h (Int.natCast_nonneg n) (by omega)).to (by rw [Int.toNat_natCast, rangeL_nat])
theorem iw_rngN {ts : TA} (h : EA K ts ρ μ [.d (nD n)] μ1) (hn : n ≤ 100000) : IW K (iRng1 ts) ρ μ (((List.range n).map nD).map .d) μ1 :=
  (iw_rng1 h (by omega) (by omega)).to (by rw [Int.toNat_natCast, rangeL_nat])
theorem iw_rngN2 {ts : TA} (h : EA K ts ρ μ [.d (nD m), .d (nD n)] μ1) (hm : m ≤ 100000) (hn : n ≤ 100000) : IW K (iRng2 ts) ρ μ (((List.range' m (n - m)).map nD).map .d) μ1 :=
  IW.to (iw_rng2 (i := (m : Nat)) (j := (n : Nat)) h ⟨by omega, by omega⟩ ⟨by omega, by omega⟩) (by
    have e : ((n : Int) - (m : Int)).toNat = n - m := by omega
    rw [e, List.range'_eq_map_range]
    unfold rangeL
    rw [List.map_map]
    rw [List.map_map, List.map_map]
    refine List.map_congr_left fun k _ => ?_
    show AV.d (D.int _) = AV.d (D.int _)
    rw [Int.natCast_add])
theorem sortI_perm_range {os : List Nat} (h : os.Perm (List.range n)) : sortI (os.map fun n : Nat => (n : Int)) = (List.range n).map fun n : Nat => (n : Int) :=
  sorted_one ((sortI_perm _).trans (h.map _)) (sortI_sorted _) (by
    rw [List.pairwise_map]
    exact List.pairwise_lt_range.imp fun h => by omega)
theorem b_sortN {os : List Nat} (h : os.Perm (List.range n)) : RCN K (rSortedI K) [.d (nL os)] μ (((List.range n).map nD).map .d) μ := by
  have q := b_sortI (K := K) (μ := μ) (ns := os.map fun n : Nat => (n : Int))
  rw [List.map_map, sortI_perm_range h] at q
  refine q.to ?_
  rw [List.map_map, List.map_map]; rfl
theorem idxOf_castN (os : List Nat) (n : Nat) : (os.map fun n : Nat => (n : Int)).idxOf (n : Int) = os.idxOf n := by
  induction os with
  | nil => rfl
  | cons a os ih =>
    rw [List.map_cons, List.idxOf_cons, List.idxOf_cons, ih]
    have e : ((a : Int) == (n : Int)) = (a == n) := by
      rw [beq_dec, beq_dec]; exact decide_eq_decide.mpr Int.ofNat_inj
    rw [e]
theorem ev_indexN {os : List Nat} (ho : EV K tl ρ μ (.d (nL os)) μ) (he : EV K te ρ μ (.d (nD n)) μ) (hm : n ∈ os) : EV K (tBM K "list" (rIndex K) tl (tCons te tNil)) ρ μ (.d (nD (os.idxOf n))) μ := by
  have q := ev_indexI (K := K) (to := tl) (te := te) (ρ := ρ) (μ := μ) (ns := os.map fun n : Nat => (n : Int)) (n := n) (by rw [List.map_map]; exact ho) he (List.mem_map_of_mem hm)
  rw [idxOf_castN] at q; exact q
/-! a test that is told -/
theorem q_skip {t v : TS} {tc : TT} (h : ET K tc ρ μ false μ1) (k : SV K W v ρ μ1 P) : SV K W (tSeq (tIfS tc t tNext) v) ρ μ P := q_when h (fun e => nomatch e) fun _ => k
theorem q_then {t u v : TS} {tc : TT} (h : ET K tc ρ μ true μ1) (k : SV K W t ρ μ1 { P with nx := fun ρ' μ' => SV K W v ρ' μ' P }) : SV K W (tSeq (tIfS tc t u) v) ρ μ P := q_if h (fun _ => k) fun e => nomatch e
theorem sv_skip {t : TS} {tc : TT} (h : ET K tc ρ μ false μ1) (k : P.nx ρ μ1) : SV K W (tIfS tc t tNext) ρ μ P := sv_if h (fun e => nomatch e) fun _ => sv_next k
/-! calls without cells, so many arguments -/
theorem ev_c1 {R : Ctr} {d0 r : D} (ha : EA K ta ρ μ [.d d0] μ1) (hR : R [.d d0] [] (.ret (.d r)) []) : EV K (tCl (SpR K R) [] W ta) ρ μ (.d r) μ1 := ev_call0 (ds := [d0]) ha hR
theorem en_c1 {R : Ctr} {d0 : D} {xs : List D} (ha : EA K ta ρ μ [.d d0] μ1) (hR : R [.d d0] [] (.new xs) []) : EN K (tCl (SpR K R) [] W ta) ρ μ (xs.map .d) μ1 := en_call0 (ds := [d0]) ha hR
theorem ex_c1 {R : Ctr} {d0 : D} {c : Value} {fs : List (Str × D)} (ha : EA K ta ρ μ [.d d0] μ1) (hR : R [.d d0] [] (.exc c fs) []) : EX K W (tCl (SpR K R) [] W ta) ρ μ c fs μ1 := ex_call0 (ds := [d0]) ha hR
theorem ev_c2 {R : Ctr} {d0 d1 r : D} (ha : EA K ta ρ μ [.d d0, .d d1] μ1) (hR : R [.d d0, .d d1] [] (.ret (.d r)) []) : EV K (tCl (SpR K R) [] W ta) ρ μ (.d r) μ1 := ev_call0 (ds := [d0, d1]) ha hR
theorem en_c2 {R : Ctr} {d0 d1 : D} {xs : List D} (ha : EA K ta ρ μ [.d d0, .d d1] μ1) (hR : R [.d d0, .d d1] [] (.new xs) []) : EN K (tCl (SpR K R) [] W ta) ρ μ (xs.map .d) μ1 := en_call0 (ds := [d0, d1]) ha hR
theorem ex_c2 {R : Ctr} {d0 d1 : D} {c : Value} {fs : List (Str × D)} (ha : EA K ta ρ μ [.d d0, .d d1] μ1) (hR : R [.d d0, .d d1] [] (.exc c fs) []) : EX K W (tCl (SpR K R) [] W ta) ρ μ c fs μ1 := ex_call0 (ds := [d0, d1]) ha hR
theorem ev_c3 {R : Ctr} {d0 d1 d2 r : D} (ha : EA K ta ρ μ [.d d0, .d d1, .d d2] μ1) (hR : R [.d d0, .d d1, .d d2] [] (.ret (.d r)) []) : EV K (tCl (SpR K R) [] W ta) ρ μ (.d r) μ1 := ev_call0 (ds := [d0, d1, d2]) ha hR
theorem en_c3 {R : Ctr} {d0 d1 d2 : D} {xs : List D} (ha : EA K ta ρ μ [.d d0, .d d1, .d d2] μ1) (hR : R [.d d0, .d d1, .d d2] [] (.new xs) []) : EN K (tCl (SpR K R) [] W ta) ρ μ (xs.map .d) μ1 := en_call0 (ds := [d0, d1, d2]) ha hR
theorem ex_c3 {R : Ctr} {d0 d1 d2 : D} {c : Value} {fs : List (Str × D)} (ha : EA K ta ρ μ [.d d0, .d d1, .d d2] μ1) (hR : R [.d d0, .d d1, .d d2] [] (.exc c fs) []) : EX K W (tCl (SpR K R) [] W ta) ρ μ c fs μ1 := ex_call0 (ds := [d0, d1, d2]) ha hR
theorem ev_c4 {R : Ctr} {d0 d1 d2 d3 r : D} (ha : EA K ta ρ μ [.d d0, .d d1, .d d2, .d d3] μ1) (hR : R [.d d0, .d d1, .d d2, .d d3] [] (.ret (.d r)) []) : EV K (tCl (SpR K R) [] W ta) ρ μ (.d r) μ1 := ev_call0 (ds := [d0, d1, d2, d3]) ha hR
theorem en_c4 {R : Ctr} {d0 d1 d2 d3 : D} {xs : List D} (ha : EA K ta ρ μ [.d d0, .d d1, .d d2, .d d3] μ1) (hR : R [.d d0, .d d1, .d d2, .d d3] [] (.new xs) []) : EN K (tCl (SpR K R) [] W ta) ρ μ (xs.map .d) μ1 := en_call0 (ds := [d0, d1, d2, d3]) ha hR
theorem ex_c4 {R : Ctr} {d0 d1 d2 d3 : D} {c : Value} {fs : List (Str × D)} (ha : EA K ta ρ μ [.d d0, .d d1, .d d2, .d d3] μ1) (hR : R [.d d0, .d d1, .d d2, .d d3] [] (.exc c fs) []) : EX K W (tCl (SpR K R) [] W ta) ρ μ c fs μ1 := ex_call0 (ds := [d0, d1, d2, d3]) ha hR
theorem ev_c5 {R : Ctr} {d0 d1 d2 d3 d4 r : D} (ha : EA K ta ρ μ [.d d0, .d d1, .d d2, .d d3, .d d4] μ1) (hR : R [.d d0, .d d1, .d d2, .d d3, .d d4] [] (.ret (.d r)) []) : EV K (tCl (SpR K R) [] W ta) ρ μ (.d r) μ1 := ev_call0 (ds := [d0, d1, d2, d3, d4]) ha hR
theorem en_c5 {R : Ctr} {d0 d1 d2 d3 d4 : D} {xs : List D} (ha : EA K ta ρ μ [.d d0, .d d1, .d d2, .d d3, .d d4] μ1) (hR : R [.d d0, .d d1, .d d2, .d d3, .d d4] [] (.new xs) []) : EN K (tCl (SpR K R) [] W ta) ρ μ (xs.map .d) μ1 := en_call0 (ds := [d0, d1, d2, d3, d4]) ha hR
theorem ex_c5 {R : Ctr} {d0 d1 d2 d3 d4 : D} {c : Value} {fs : List (Str × D)} (ha : EA K ta ρ μ [.d d0, .d d1, .d d2, .d d3, .d d4] μ1) (hR : R [.d d0, .d d1, .d d2, .d d3, .d d4] [] (.exc c fs) []) : EX K W (tCl (SpR K R) [] W ta) ρ μ c fs μ1 := ex_call0 (ds := [d0, d1, d2, d3, d4]) ha hR
theorem ev_c6 {R : Ctr} {d0 d1 d2 d3 d4 d5 r : D} (ha : EA K ta ρ μ [.d d0, .d d1, .d d2, .d d3, .d d4, .d d5] μ1) (hR : R [.d d0, .d d1, .d d2, .d d3, .d d4, .d d5] [] (.ret (.d r)) []) : EV K (tCl (SpR K R) [] W ta) ρ μ (.d r) μ1 := ev_call0 (ds := [d0, d1, d2, d3, d4, d5]) ha hR
theorem en_c6 {R : Ctr} {d0 d1 d2 d3 d4 d5 : D} {xs : List D} (ha : EA K ta ρ μ [.d d0, .d d1, .d d2, .d d3, .d d4, .d d5] μ1) (hR : R [.d d0, .d d1, .d d2, .d d3, .d d4, .d d5] [] (.new xs) []) : EN K (tCl (SpR K R) [] W ta) ρ μ (xs.map .d) μ1 := en_call0 (ds := [d0, d1, d2, d3, d4, d5]) ha hR
theorem ex_c6 {R : Ctr} {d0 d1 d2 d3 d4 d5 : D} {c : Value} {fs : List (Str × D)} (ha : EA K ta ρ μ [.d d0, .d d1, .d d2, .d d3, .d d4, .d d5] μ1) (hR : R [.d d0, .d d1, .d d2, .d d3, .d d4, .d d5] [] (.exc c fs) []) : EX K W (tCl (SpR K R) [] W ta) ρ μ c fs μ1 := ex_call0 (ds := [d0, d1, d2, d3, d4, d5]) ha hR
/-! comprehensions over typed data -/
section
variable {α β : Type} {tD : α → D} {tE : β → D}
theorem map_getG {as : List α} {i : Nat} {d : AV} (h : ((as.map tD).map AV.d)[i]? = some d) : ∃ a, d = .d (tD a) ∧ as[i]? = some a := by
  rw [List.getElem?_map, List.getElem?_map] at h
  cases q : as[i]? with
  | none => rw [q] at h; cases h
  | some e => rw [q] at h; cases h; exact ⟨e, rfl, rfl⟩
theorem en_mapG {wi : TI} {vs : List Nat} {i : Nat} {as : List α} (f : α → D) (hi : IW K wi ρ μ ((as.map tD).map .d) μ1) (hv : i ∈ vs) (hn : as.length ≤ 100000) (he : ∀ a ∈ as, EV K te ((wipeA ρ vs).set i (some (.d (tD a)))) μ1 (.d (f a)) μ1) :
    EN K (tLc wi (gName i) tYes te vs) ρ μ ((as.map f).map .d) μ1 := by
  have h := en_lc (te := te) (g := gName i) (tt := tYes) (vs := vs) hi (fun i => ((as.take i).map f).map .d) (fun _ => μ1) rfl rfl (fun j d hd => ?_) (by rw [List.length_map, List.length_map]; exact hn)
  · rw [List.length_map, List.length_map, List.take_length] at h; exact h
  · obtain ⟨e, rfl, he'⟩ := map_getG hd
    exact ⟨_, [i], true, μ1, gv_name, fun j hj => by rw [List.mem_singleton.mp hj]; exact hv, et_yes, fun _ => ⟨_, he e (List.mem_of_getElem? he'), by rw [take_succ he', List.map_append, List.map_append]; rfl⟩, fun z => nomatch z⟩
theorem en_filterG {wi : TI} {tt : TT} {vs : List Nat} {i : Nat} {as : List α} (p : α → Bool) (f : α → D) (hi : IW K wi ρ μ ((as.map tD).map .d) μ1) (hv : i ∈ vs) (hn : as.length ≤ 100000) (ht : ∀ a ∈ as, ET K tt ((wipeA ρ vs).set i (some (.d (tD a)))) μ1 (p a) μ1)
    (he : ∀ a ∈ as, p a = true → EV K te ((wipeA ρ vs).set i (some (.d (tD a)))) μ1 (.d (f a)) μ1) : EN K (tLc wi (gName i) tt te vs) ρ μ (((as.filter p).map f).map .d) μ1 := by
  have h := en_lc (te := te) (g := gName i) (tt := tt) (vs := vs) hi (fun i => (((as.take i).filter p).map f).map .d) (fun _ => μ1) rfl rfl (fun j d hd => ?_) (by rw [List.length_map, List.length_map]; exact hn)
  · rw [List.length_map, List.length_map, List.take_length] at h; exact h
  · obtain ⟨e, rfl, he'⟩ := map_getG hd
    have hm := List.mem_of_getElem? he'
    refine ⟨_, [i], p e, μ1, gv_name, fun j hj => by rw [List.mem_singleton.mp hj]; exact hv, ht e hm, fun q => ⟨_, he e hm q, ?_⟩, fun q => ⟨rfl, ?_⟩⟩
    · rw [take_succ he', List.filter_append, List.filter_cons_of_pos q, List.map_append, List.map_append]; rfl
    · rw [take_succ he', List.filter_append, List.filter_cons_of_neg (by rw [q]; exact Bool.false_ne_true), List.filter_nil, List.append_nil]
/-- [f a b for a in as for b in bs a if p a b] -/
theorem en_pairsG {wi wi1 : TI} {tt1 : TT} {vs vs1 : List Nat} {i i1 : Nat} {as : List α} (bs : α → List β) (p : α → β → Bool) (f : α → β → D) (hi : IW K wi ρ μ ((as.map tD).map .d) μ1) (hv : i ∈ vs) (hv1 : i1 ∈ vs1) (hn : as.length ≤ 100000)
    (hl : (as.flatMap fun a => ((bs a).filter (p a)).map (f a)).length ≤ 100000)
    (hb : ∀ a ∈ as, IW K wi1 ((wipeA ρ vs).set i (some (.d (tD a)))) μ1 (((bs a).map tE).map .d) μ1)
    (ht : ∀ a ∈ as, ∀ b ∈ bs a, ET K tt1 ((wipeA ((wipeA ρ vs).set i (some (.d (tD a)))) vs1).set i1 (some (.d (tE b)))) μ1 (p a b) μ1)
    (he : ∀ a ∈ as, ∀ b ∈ bs a, p a b = true → EV K te ((wipeA ((wipeA ρ vs).set i (some (.d (tD a)))) vs1).set i1 (some (.d (tE b)))) μ1 (.d (f a b)) μ1) :
    EN K (tLc2 wi (gName i) tYes wi1 (gName i1) tt1 te vs vs1) ρ μ ((as.flatMap fun a => ((bs a).filter (p a)).map (f a)).map .d) μ1 := by
  have h := en_lc2 (te := te) (g := gName i) (tt := tYes) (vs := vs) (vs1 := vs1) (tt1 := tt1) (g1 := gName i1) (wi1 := wi1) hi (fun n => ((as.take n).flatMap fun a => ((bs a).filter (p a)).map (f a)).map .d) rfl (by rw [List.length_map, List.length_map]; exact hn) (fun n d hd => ?_)
  · rw [List.length_map, List.length_map, List.take_length] at h; exact h
  · obtain ⟨a, rfl, ha'⟩ := map_getG hd
    have ha := List.mem_of_getElem? ha'
    have split : as = as.take n ++ a :: as.drop (n + 1) := by
      obtain ⟨hlt, e⟩ := List.getElem?_eq_some_iff.mp ha'
      rw [← e, List.getElem_cons_drop, List.take_append_drop]
    refine ⟨_, [i], true, gv_name, fun j hj => by rw [List.mem_singleton.mp hj]; exact hv, et_yes, (fun z => nomatch z), fun _ =>
      ⟨_, fun j => (((as.take n).flatMap fun a => ((bs a).filter (p a)).map (f a)) ++ (((bs a).take j).filter (p a)).map (f a)).map .d, hb a ha, ?_, ?_, fun j => ?_, fun j e hj => ?_⟩⟩
    · simp
    · simp only [List.length_map, List.take_length]
      rw [take_succ ha', List.flatMap_append, List.flatMap_singleton]
    · rw [List.length_map, List.length_append]
      have e1 : (as.flatMap fun a => ((bs a).filter (p a)).map (f a)).length = ((as.take n).flatMap fun a => ((bs a).filter (p a)).map (f a)).length + (((bs a).filter (p a)).map (f a)).length + ((as.drop (n + 1)).flatMap fun a => ((bs a).filter (p a)).map (f a)).length := by
        conv => lhs; rw [split]
        rw [List.flatMap_append, List.flatMap_cons, List.length_append, List.length_append]; omega
      have e2 : ((((bs a).take j).filter (p a)).map (f a)).length ≤ (((bs a).filter (p a)).map (f a)).length := by
        rw [List.length_map, List.length_map]
        exact ((List.take_sublist j (bs a)).filter (p a)).length_le
      omega
    · obtain ⟨b, rfl, hb'⟩ := map_getG hj
      have hbm := List.mem_of_getElem? hb'
      refine ⟨_, [i1], p a b, gv_name, fun j hj => by rw [List.mem_singleton.mp hj]; exact hv1, ht a ha b hbm, fun q => ⟨_, he a ha b hbm q, ?_⟩, fun q => ?_⟩
      · dsimp only; rw [take_succ hb', List.filter_append, List.filter_cons_of_pos q, List.map_append, List.map_append, List.map_append]; simp
      · dsimp only; rw [take_succ hb', List.filter_append, List.filter_cons_of_neg (by rw [q]; exact Bool.false_ne_true), List.filter_nil, List.append_nil]
theorem b_allG {as : List α} {p : α → Bool} : RC K (rAll K) [.d (.lst (as.map fun a => .bl (p a)))] μ (.d (.bl (as.all p))) μ := by
  have h := b_all (K := K) (μ := μ) (bs := as.map p)
  rw [List.map_map, List.all_map] at h; exact h
theorem b_anyG {as : List α} {p : α → Bool} : RC K (rAny K) [.d (.lst (as.map fun a => .bl (p a)))] μ (.d (.bl (as.any p))) μ := by
  have h := b_any (K := K) (μ := μ) (bs := as.map p)
  rw [List.map_map, List.any_map] at h; exact h
end
theorem ev_t1 {d0 : D} (ha : EA K ta ρ μ [.d d0] μ1) : EV K (tTup ta) ρ μ (.d (.tup [d0])) μ1 := ev_tup (ds := [d0]) ha (by simp)
theorem ev_l1 {d0 : D} (ha : EA K ta ρ μ [.d d0] μ1) : EV K (tLst ta) ρ μ (.d (.lst [d0])) μ1 := EN.ev (ds := [d0]) (en_lst ha (by simp))
theorem ev_t2 {d0 d1 : D} (ha : EA K ta ρ μ [.d d0, .d d1] μ1) : EV K (tTup ta) ρ μ (.d (.tup [d0, d1])) μ1 := ev_tup (ds := [d0, d1]) ha (by simp)
theorem ev_l2 {d0 d1 : D} (ha : EA K ta ρ μ [.d d0, .d d1] μ1) : EV K (tLst ta) ρ μ (.d (.lst [d0, d1])) μ1 := EN.ev (ds := [d0, d1]) (en_lst ha (by simp))
theorem ev_t3 {d0 d1 d2 : D} (ha : EA K ta ρ μ [.d d0, .d d1, .d d2] μ1) : EV K (tTup ta) ρ μ (.d (.tup [d0, d1, d2])) μ1 := ev_tup (ds := [d0, d1, d2]) ha (by simp)
theorem ev_l3 {d0 d1 d2 : D} (ha : EA K ta ρ μ [.d d0, .d d1, .d d2] μ1) : EV K (tLst ta) ρ μ (.d (.lst [d0, d1, d2])) μ1 := EN.ev (ds := [d0, d1, d2]) (en_lst ha (by simp))
theorem ev_t4 {d0 d1 d2 d3 : D} (ha : EA K ta ρ μ [.d d0, .d d1, .d d2, .d d3] μ1) : EV K (tTup ta) ρ μ (.d (.tup [d0, d1, d2, d3])) μ1 := ev_tup (ds := [d0, d1, d2, d3]) ha (by simp)
theorem ev_l4 {d0 d1 d2 d3 : D} (ha : EA K ta ρ μ [.d d0, .d d1, .d d2, .d d3] μ1) : EV K (tLst ta) ρ μ (.d (.lst [d0, d1, d2, d3])) μ1 := EN.ev (ds := [d0, d1, d2, d3]) (en_lst ha (by simp))
theorem ev_t5 {d0 d1 d2 d3 d4 : D} (ha : EA K ta ρ μ [.d d0, .d d1, .d d2, .d d3, .d d4] μ1) : EV K (tTup ta) ρ μ (.d (.tup [d0, d1, d2, d3, d4])) μ1 := ev_tup (ds := [d0, d1, d2, d3, d4]) ha (by simp)
theorem ev_l5 {d0 d1 d2 d3 d4 : D} (ha : EA K ta ρ μ [.d d0, .d d1, .d d2, .d d3, .d d4] μ1) : EV K (tLst ta) ρ μ (.d (.lst [d0, d1, d2, d3, d4])) μ1 := EN.ev (ds := [d0, d1, d2, d3, d4]) (en_lst ha (by simp))
theorem ev_l0 : EV K (tLst tNil) ρ μ (.d (.lst [])) μ := EN.ev (ds := []) (en_lst ea_nil (by simp))
/-! slices, no sign -/
theorem cut_to {α : Type} {xs : List α} (h : n ≤ xs.length) : cutD xs none (some (n : Nat)) = xs.take n := by
  have e : HT.sIx xs.length xs.length (some (n : Nat)) = n := by rw [HT.sIx_nat]; omega
  have e0 : HT.sIx xs.length 0 (none : Option Int) = 0 := rfl
  unfold cutD
  rw [e, e0]; rfl
theorem ev_toN {α : Type} {tD : α → D} {ti : TE} {as : List α} (h : EV K te ρ μ (.d (.lst (as.map tD))) μ) (hi : EV K ti ρ μ (.d (nD n)) μ) (hn : n ≤ as.length) : EV K (tSl (rSlAny K) te tNoPart (tPart ti)) ρ μ (.d (.lst ((as.take n).map tD))) μ :=
  EN.ev ((en_slL h eo_none (eo_some hi)).to (by rw [cut_to (by rw [List.length_map]; exact hn)]; simp only [List.map_take]))
theorem flat_le {α β : Type} {f : α → List β} {m : Nat} : ∀ {as : List α}, (∀ a ∈ as, (f a).length ≤ m) → (as.flatMap f).length ≤ m * as.length
  | [], _ => Nat.le_refl _
  | a :: as, h => by
    rw [List.flatMap_cons, List.length_append, List.length_cons, Nat.mul_succ]
    have := h a List.mem_cons_self
    have := flat_le fun x hx => h x (List.mem_cons_of_mem _ hx)
    omega
end
end DL

set_option Elab.async false
set_option linter.all false
set_option maxRecDepth 100000
set_option maxHeartbeats 4000000
/-! DL14: loops by slots told, a contract never met, draws' bounds. -/
namespace DL
open PySem PySem.Spec PyProof.Rows L2
/-- b forgets some of a -/
def Fgt : Slots → Slots → Prop
  | [], [] => True
  | a :: as, b :: bs => (b = none ∨ a = b) ∧ Fgt as bs
  | _, _ => False
theorem fgt_nil : Fgt [] [] := trivial
theorem fgt_same {a : Option AV} {as bs : Slots} (h : Fgt as bs) : Fgt (a :: as) (a :: bs) := ⟨.inr rfl, h⟩
theorem fgt_none {a : Option AV} {as bs : Slots} (h : Fgt as bs) : Fgt (a :: as) (none :: bs) := ⟨.inl rfl, h⟩
theorem fgt_refl : ∀ as : Slots, Fgt as as
  | [] => trivial
  | a :: as => ⟨.inr rfl, fgt_refl as⟩
theorem Fgt.len : ∀ {as bs : Slots}, Fgt as bs → bs.length = as.length
  | [], [], _ => rfl
  | a :: as, b :: bs, h => congrArg (· + 1) (Fgt.len h.2)
  | [], _ :: _, h => h.elim
  | _ :: _, [], h => h.elim
theorem Fgt.at_ : ∀ {as bs : Slots}, Fgt as bs → ∀ (i : Nat) (x : AV), bs[i]? = some (some x) → as[i]? = some (some x)
  | [], [], _, i, x, q => by simp at q
  | a :: as, b :: bs, h, 0, x, q => by
    simp only [List.getElem?_cons_zero] at q ⊢
    rcases h.1 with e | e
    · rw [e] at q; cases q
    · rw [e]; exact q
  | a :: as, b :: bs, h, i + 1, x, q => by
    simp only [List.getElem?_cons_succ] at q ⊢
    exact Fgt.at_ h.2 i x q
  | [], _ :: _, h, _, _, _ => h.elim
  | _ :: _, [], h, _, _, _ => h.elim
theorem fgt_trans : ∀ {as bs cs : Slots}, Fgt as bs → Fgt bs cs → Fgt as cs
  | [], [], [], _, _ => trivial
  | a :: as, b :: bs, c :: cs, h, h2 => ⟨by rcases h2.1 with e | e; exact .inl e; rcases h.1 with e2 | e2; exact .inl (e ▸ e2); exact .inr (e2.trans e), fgt_trans h.2 h2.2⟩
  | [], [], _ :: _, _, h => h.elim
  | _ :: _, _ :: _, [], _, h => h.elim
  | [], _ :: _, _, h, _ => h.elim
  | _ :: _, [], _, h, _ => h.elim
section
variable {K : PySem.W.Frag} {W : WX} {P : Po} {ρ ρ' : Slots} {μ μ1 μ2 : List CC} {t u : TS} {ta : TA} {te : TE} {d : D} {x : AV} {xs : List D}
theorem SV.fgt (f : Fgt ρ ρ') (h : SV K W t ρ' μ P) : SV K W t ρ μ P := h.weak f.len f.at_
theorem GV.fgt {g : TG} {d : AV} {ρ2 : Slots} {js : List Nat} (f : Fgt ρ ρ') (h : GV K g d ρ' ρ2 js) : GV K g d ρ ρ2 js := fun α Z μ σ H v ok r sl Q k => h α Z μ σ H v ok r (sl.weak f.len f.at_) Q k
theorem q_forF {wi : TI} {g : TG} {items : List AV} (hi : IW K wi ρ μ items μ1) (σ : Nat → Slots) (Inv : Nat → List CC → Prop) (h0 : Fgt ρ (σ 0)) (i0 : Inv 0 μ1)
    (hs : ∀ (i : Nat) (d : AV) (μ2 : List CC), items[i]? = some d → Inv i μ2 → ∃ ρ2 js, GV K g d (σ i) ρ2 js ∧
      SV K W t ρ2 μ2 { P with nx := fun ρ' μ' => Fgt ρ' (σ (i + 1)) ∧ Inv (i + 1) μ', ct := fun ρ' μ' => Fgt ρ' (σ (i + 1)) ∧ Inv (i + 1) μ', bk := fun ρ' μ' => SV K W u ρ' μ' P })
    (hd : ∀ μ2, Inv items.length μ2 → SV K W u (σ items.length) μ2 P) : SV K W (tSeq (tFor wi g t) u) ρ μ P :=
  q_for hi (fun i ρ μ => Fgt ρ (σ i) ∧ Inv i μ) ⟨h0, i0⟩ (fun i d ρ1 μ2 h q => by
    obtain ⟨ρ2, js, hg, hb⟩ := hs i d μ2 h q.2
    exact ⟨ρ2, js, hg.fgt q.1, hb⟩) fun ρ1 μ2 q => (hd μ2 q.2).fgt q.1
/-- a loop at a block's end -/
theorem sv_forF {wi : TI} {g : TG} {items : List AV} (hi : IW K wi ρ μ items μ1) (σ : Nat → Slots) (Inv : Nat → List CC → Prop) (h0 : Fgt ρ (σ 0)) (i0 : Inv 0 μ1)
    (hs : ∀ (i : Nat) (d : AV) (μ2 : List CC), items[i]? = some d → Inv i μ2 → ∃ ρ2 js, GV K g d (σ i) ρ2 js ∧
      SV K W t ρ2 μ2 { P with nx := fun ρ' μ' => Fgt ρ' (σ (i + 1)) ∧ Inv (i + 1) μ', ct := fun ρ' μ' => Fgt ρ' (σ (i + 1)) ∧ Inv (i + 1) μ', bk := P.nx })
    (hd : ∀ ρ1 μ2, Fgt ρ1 (σ items.length) → Inv items.length μ2 → P.nx ρ1 μ2) : SV K W (tFor wi g t) ρ μ P :=
  sv_for hi (fun i ρ μ => Fgt ρ (σ i) ∧ Inv i μ) ⟨h0, i0⟩ (fun i d ρ1 μ2 h q => by
    obtain ⟨ρ2, js, hg, hb⟩ := hs i d μ2 h q.2
    exact ⟨ρ2, js, hg.fgt q.1, hb⟩) fun ρ1 μ2 q => hd ρ1 μ2 q.1 q.2
end
section
variable {K : PySem.W.Frag} {W : WX} {P : Po} {ρ ρ' : Slots} {μ μ1 μ2 : List CC} {ta : TA} {te : TE}
theorem EV.ends {x : AV} (h : EV K te ρ μ x μ1) (e : μ1 = μ2) : EV K te ρ μ x μ2 := e ▸ h
theorem b_lenG {α : Type} {tD : α → D} {as : List α} : RC K (rLenA K) [.d (.lst (as.map tD))] μ (.d (nD as.length)) μ := b_lenL.to (by rw [List.length_map])
theorem b_lenCG {α : Type} {tD : α → AV} {as : List α} {k : Nat} (h : μ[k]? = some (.lst (as.map tD))) : RC K (rLenA K) [.cell k] μ (.d (nD as.length)) μ := (b_lenC h).to (by rw [List.length_map])
theorem getD_at {α : Type} {xs : List α} {n : Nat} {z : α} (h : n < xs.length) : xs[n]? = some (xs.getD n z) := by rw [List.getD_eq_getElem?_getD, List.getElem?_eq_getElem h]; rfl
theorem getD_mem {α : Type} {xs : List α} {n : Nat} {z : α} (h : n < xs.length) : xs.getD n z ∈ xs := List.mem_of_getElem? (getD_at h)
/-- an element of typed data -/
theorem b_ixG {α : Type} {tD : α → D} {as : List α} {n : Nat} {z : α} (h : n < as.length) : RV K (rIx K) (.d (.lst (as.map tD))) (.d (nD n)) μ (.d (tD (as.getD n z))) μ := b_ixLN (by rw [List.getElem?_map, getD_at h]; rfl)
theorem b_ixCG {α : Type} {tD : α → D} {as : List α} {n k : Nat} {z : α} (hc : μ[k]? = some (.lst ((as.map tD).map .d))) (h : n < as.length) : RV K (rIx K) (.cell k) (.d (nD n)) μ (.d (tD (as.getD n z))) μ := b_ixCN hc (by rw [List.getElem?_map, List.getElem?_map, getD_at h]; rfl)
theorem map_set2 {α β γ : Type} (f : α → β) (g : β → γ) (as : List α) (n : Nat) (a : α) : ((as.map f).map g).set n (g (f a)) = ((as.set n a).map f).map g := by rw [List.map_set, List.map_set]
theorem get_last {c : CC} : (μ ++ [c])[μ.length]? = some c := by rw [List.getElem?_append_right (Nat.le_refl _), Nat.sub_self]; rfl
theorem set_last {c c' : CC} : (μ ++ [c]).set μ.length c' = μ ++ [c'] := by rw [List.set_append_right _ _ (Nat.le_refl _), Nat.sub_self]; rfl
/-- a call with the last cell -/
theorem ev_call1L {R : Ctr} {μ0 : List CC} {cargs : List AV} {c c' : CC} {r : D} (ha : EA K ta ρ μ0 (cargs.map (DL.up1 μ.length)) (μ ++ [c])) (hR : R cargs [c] (.ret (.d r)) [c']) (hcell : cargs.all cell0 = true := by rfl) (hd : c.isD = true := by rfl) (hd' : c'.isD = true := by rfl) :
    EV K (tCl (SpR K R) [] W ta) ρ μ0 (.d r) (μ ++ [c']) := (ev_call1 ha get_last hR hcell hd hd').ends set_last
theorem en_call1L {R : Ctr} {μ0 : List CC} {cargs : List AV} {c c' : CC} {xs : List D} (ha : EA K ta ρ μ0 (cargs.map (DL.up1 μ.length)) (μ ++ [c])) (hR : R cargs [c] (.new xs) [c']) (hcell : cargs.all cell0 = true := by rfl) (hd : c.isD = true := by rfl) (hd' : c'.isD = true := by rfl) :
    EN K (tCl (SpR K R) [] W ta) ρ μ0 (xs.map .d) (μ ++ [c']) := by
  have h := en_call1 (W := W) ha get_last hR hcell hd hd'
  rw [set_last] at h; exact h
theorem IW.of_lst {tl : TE} {xs : List D} (h : EV K tl ρ μ (.d (.lst xs)) μ1) : IW K (iList K tl) ρ μ (xs.map .d) μ1 := iw_list h
/-- a comprehension over typed data, cells change -/
theorem en_lcG {α : Type} {tD : α → D} {wi : TI} {g : TG} {tt : TT} {vs : List Nat} {as : List α} (hi : IW K wi ρ μ ((as.map tD).map .d) μ1) (acc : Nat → List AV) (M : Nat → List CC) (h0 : acc 0 = []) (m0 : M 0 = μ1)
    (hs : ∀ (i : Nat) (a : α), as[i]? = some a → ∃ (ρ2 : Slots) (js : List Nat) (b : Bool) (μ2 : List CC), GV K g (.d (tD a)) (wipeA ρ vs) ρ2 js ∧ (∀ j ∈ js, j ∈ vs) ∧ ET K tt ρ2 (M i) b μ2 ∧
      (b = true → ∃ r, EV K te ρ2 μ2 r (M (i + 1)) ∧ acc (i + 1) = acc i ++ [r]) ∧ (b = false → M (i + 1) = μ2 ∧ acc (i + 1) = acc i)) (hn : as.length ≤ 100000) :
    EN K (tLc wi g tt te vs) ρ μ (acc as.length) (M as.length) := by
  have h := en_lc (te := te) (g := g) (tt := tt) (vs := vs) hi acc M h0 m0 (fun i d hd => by
    obtain ⟨a, rfl, ha⟩ := map_getG hd
    exact hs i a ha) (by rw [List.length_map, List.length_map]; exact hn)
  rw [List.length_map, List.length_map] at h; exact h
end
theorem eraseIdx_mapG {α β : Type} (f : α → β) : ∀ (l : List α) (n : Nat), (l.map f).eraseIdx n = (l.eraseIdx n).map f
  | [], _ => rfl
  | a :: l, 0 => rfl
  | a :: l, n + 1 => congrArg (f a :: ·) (eraseIdx_mapG f l n)
theorem eraseIdx_permG {α : Type} : ∀ {l : List α} {n : Nat} (h : n < l.length), (l[n] :: l.eraseIdx n).Perm l
  | a :: l, 0, _ => .refl _
  | a :: l, n + 1, h => (List.Perm.swap _ _ _).trans ((eraseIdx_permG (Nat.lt_of_succ_lt_succ h)).cons a)
/-- a contract that is never met -/
theorem cal_never {P : Program} {w : World} {K : PySem.W.Frag} {mg : Str → Option Value} {base : Heap} {k : Nat} {x : Str} {R : Ctr} {f : Addr} {fd : FuncData} {ps : List Str} (hR : ∀ args μ o μ', ¬ R args μ o μ') (hm : mg x = some (.ref f)) (kp : PySem.W.keepIn K (.ref f) = true) (b : Binds K fd ps []) :
    Cal P w K mg base k x (SpR K R) := ⟨f, fd, ps, ⟨fun vs H Q E h => (let ⟨_, _, _, _, _, _, _, _, q, _⟩ := h; (hR _ _ _ _ q).elim), fun A outer s H args us vs Q E _ _ _ _ _ h => (let ⟨_, _, _, _, _, _, _, _, q, _⟩ := h; (hR _ _ _ _ q).elim)⟩, hm, kp, b⟩
/-! slices from behind -/
theorem sIx_neg1 (n d : Nat) : HT.sIx n d (some (-1)) = n - 1 := by
  show (if (-1 : Int) < 0 then ((-1 : Int) + (n : Int)).toNat else min (-1 : Int).toNat n) = n - 1
  rw [if_pos (by decide)]; omega
theorem cut_last {α : Type} (xs : List α) : cutD xs (some (-1)) none = xs.drop (xs.length - 1) := by
  unfold cutD
  rw [sIx_neg1, HT.sIx_none]
  exact List.take_of_length_le (by rw [List.length_drop]; exact Nat.le_refl _)
theorem cut_but {α : Type} (xs : List α) : cutD xs none (some (-1)) = xs.dropLast := by
  unfold cutD
  rw [sIx_neg1, HT.sIx_none, List.dropLast_eq_take]; rfl
end DL

set_option Elab.async false
set_option linter.all false
set_option maxRecDepth 100000
set_option maxHeartbeats 4000000
namespace Law
open PySem PySem.Spec PyProof.Rows L2 DL
local macro_rules | `(tactic| walk_at "side") => `(tactic| first | rfl | assumption | omega | decide)
local macro_rules | `(tactic| walk_at "at") => `(tactic| first | exact rfl | assumption)
local macro_rules | `(tactic| walk_at "pow") => `(tactic| exact ⟨by decide, by decide, by omega⟩)
local macro_rules | `(tactic| walk_at "mul") => `(tactic| first | exact .inl ⟨by omega, by omega⟩ | exact .inr ⟨by omega, by omega⟩ | exact .inr (by split <;> decide) | assumption)
local macro_rules | `(tactic| walk_at "rv") => `(tactic| first
  | with_reducible exact b_ltN | with_reducible exact b_leN | with_reducible exact b_gtN | with_reducible exact b_geN | with_reducible exact b_eqN | with_reducible exact b_neN | with_reducible exact b_eqLN | with_reducible exact b_neLN
  | with_reducible exact b_eqI | with_reducible exact b_neI | with_reducible exact b_eqS | with_reducible exact b_neS
  | exact b_addN (n := 1) | with_reducible exact b_addN | with_reducible exact b_add | with_reducible exact b_sub | with_reducible exact b_lt | with_reducible exact b_le | with_reducible exact b_gt | with_reducible exact b_ge
  | ((with_reducible apply b_mul); walk_at "mul")
  | ((with_reducible apply b_div); exact ⟨by omega, by omega⟩)
  | ((with_reducible apply b_mod); walk_at "side")
  | ((with_reducible apply b_pow); walk_at "pow")
  | ((with_reducible apply b_ixC); exact rfl; walk_at "at")
  | ((with_reducible apply b_ixF); walk_at "at")
  | ((with_reducible apply b_ixL); walk_at "at")
  | ((with_reducible apply b_ixT); walk_at "at"))
local macro_rules | `(tactic| walk_at "rc") => `(tactic| first
  | with_reducible exact b_lenG | ((with_reducible apply b_lenCG); exact rfl) | with_reducible exact b_lenL | with_reducible exact b_lenT | with_reducible exact b_lenF
  | ((with_reducible apply b_lenC); exact rfl)
  | exact b_isi rfl rfl | exact b_isi2 rfl rfl rfl | exact b_allG | exact b_anyG
  | exact b_abs | exact b_intB | exact b_max2 | exact b_min2)
local macro_rules | `(tactic| walk_at "ea") => `(tactic| first
  | with_reducible exact ea_nil
  | ((with_reducible apply ea_cons); walk_at "ev"; walk_at "ea"))
local macro_rules | `(tactic| walk_at "ev") => `(tactic| first
  | with_reducible exact ev_int | with_reducible exact ev_str | with_reducible exact ev_bl | with_reducible exact ev_non
  | ((with_reducible apply ev_var); exact rfl)
  | ((with_reducible apply ev_op); walk_at "ev"; walk_at "ev"; walk_at "rv")
  | ((with_reducible apply ev_un); walk_at "ev"; with_reducible exact b_neg)
  | ((with_reducible apply ev_cb); walk_at "ea"; walk_at "rc")
  | ((with_reducible apply ev_notV); walk_at "ev")
  | ((with_reducible apply ev_t2); walk_at "ea") | ((with_reducible apply ev_t3); walk_at "ea") | ((with_reducible apply ev_t4); walk_at "ea") | ((with_reducible apply ev_t1); walk_at "ea")
  | with_reducible exact ev_l0 | ((with_reducible apply ev_l2); walk_at "ea") | ((with_reducible apply ev_l3); walk_at "ea") | ((with_reducible apply ev_l4); walk_at "ea") | ((with_reducible apply ev_l1); walk_at "ea")
  | ((with_reducible apply ev_c1); walk_at "ea"; walk_at "ct")
  | ((with_reducible apply ev_c2); walk_at "ea"; walk_at "ct")
  | ((with_reducible apply ev_c3); walk_at "ea"; walk_at "ct")
  | with_reducible exact ev_raw)
local macro_rules | `(tactic| walk_at "ct") => `(tactic| first | assumption | exact ⟨_, rfl, rfl, rfl, rfl⟩)
local macro_rules | `(tactic| walk_at "et") => `(tactic| first
  | ((with_reducible apply et_test); walk_at "ev")
  | ((with_reducible apply et_B); walk_at "ev")
  | ((with_reducible apply et_not); walk_at "et"))
local macro_rules | `(tactic| walk_at "fg") => `(tactic| first | exact fgt_nil | exact fgt_refl _ | (apply fgt_same; walk_at "fg") | (apply fgt_none; walk_at "fg"))
section
variable {P : Program} {w : World} {K : PySem.W.Frag} {mg : Str → Option Value} {base : Heap}
/-! ### the draws -/
def cellAt (ns : List Int) (k : Int) : Int := if k < (ns.length : Int) then (ns[k.toNat]?).getD 0 else 0
def poolA (ns : List Int) (k : Int) : Int := (if cellAt ns k < 0 then -(cellAt ns k) else cellAt ns k) * (if decide (10 ^ (18 : Int).toNat ≤ (if cellAt ns k < 0 then -(cellAt ns k) else cellAt ns k)) then 1 else 0)
def poolB (ns : List Int) (k : Int) : Int := (cellAt ns k % 2147483629 + 104729 * k * k + 7919 * k + 11) ^ (3 : Int).toNat % 2147483647
def R__law_pool : Ctr := fun args μ o μ' => ∃ (ns : List Int) (k : Int), 0 ≤ k ∧ k ≤ 100 ∧ args = [.d (.fz ns), .d (.int k)] ∧ μ = [] ∧ o = .new [.int (poolA ns k), .int (poolB ns k)] ∧ μ' = []
abbrev st__law_pool : Stmt := PySem.Challenge.pw_stackeffect_k54_conflicts_of_items.main.body.getD 12 (.Pass ⟨0, 0, 0, 0⟩)
abbrev N__law_pool : List Str := ["_law_script", "_law_k", "_law_cell", "_law_size", "_law_seed"]
theorem sc__law_pool : FnScope N__law_pool ["_law_script", "_law_k"] (defScope st__law_pool) := ⟨rfl, rfl, rfl, by decide +kernel, rfl, by decide +kernel, by decide +kernel⟩
theorem ok__law_pool {f : Addr} {fd : FuncData} (F : Def K mg "_law_pool" st__law_pool f fd) (b : Binds K fd ["_law_script", "_law_k"] [])
    (n_int : mg "int" = none) (n_abs : mg "abs" = none) (n_len : mg "len" = none) : Cal P w K mg base 1 "_law_pool" (SpR K R__law_pool) := by
  refine ⟨f, fd, _, fng_body F.fn sc__law_pool ?_ ?_, F.mgf, F.fn.kp, b⟩
  · rintro args μ o μ' ⟨ns, k, h1, h2, rfl, rfl, rfl, rfl⟩; exact ⟨rfl, rfl, rfl⟩
  intro cdv A outer s H E hr hgd
  have nd := sc__law_pool.nd
  refine ⟨_, (pss_cons (ps_set (i := 2) nd rfl (by first | exact .inl rfl | exact .inr rfl) pe_int)
 (pss_cons (ps_if (pt_cmpR o_lt (pv 1) (pe_callB (k_len K rfl) (by rfl) n_len (by decide +kernel) (pa_cons (pv 0) pa_nil)) (nomark _))
 (pss_one (ps_set (i := 2) nd rfl (by first | exact .inl rfl | exact .inr rfl) (pe_ix (k_ix K rfl) (pv 0) (pv 1) (fun _ _ => rfl))))
 pss_nil)
 (pss_cons (ps_set (i := 3) nd rfl (by first | exact .inl rfl | exact .inr rfl) (pe_callB call_abs (by rfl) n_abs (by decide +kernel) (pa_cons (pv 2) pa_nil)))
 (pss_cons (ps_set (i := 4) nd rfl (by first | exact .inl rfl | exact .inr rfl) (pe_op o_mod (pe_op o_pow (pe_op (k_add K rfl) (pe_op (k_add K rfl) (pe_op (k_add K rfl) (pe_op o_mod (pv 2) pe_int) (pe_op o_mul (pe_op o_mul pe_int (pv 1)) (pv 1))) (pe_op o_mul pe_int (pv 1))) pe_int) pe_int) pe_int))
 (pss_one (ps_ret (pe_lst (pa_cons (pe_op o_mul (pv 3) (pe_callTy call_int1 (by rfl) n_int (by decide +kernel) (pa_cons (pe_cmpR o_ge (pv 3) (pe_op o_pow pe_int pe_int) (nomark _)) pa_nil))) (pa_cons (pv 4) pa_nil))))))))), ?_⟩
  rintro args μ o μ' ⟨ns, k, h1, h2, rfl, rfl, rfl, rfl⟩
  have h5 : 0 ≤ 104729 * k * k := Int.mul_nonneg (by omega) h1
  have h6 : 104729 * k * k ≤ 104729 * 100 * 100 := Int.mul_le_mul (by omega) h2 h1 (by omega)
  refine q_asg ev_int ?_
  refine q_ifAsg (x := .d (.int (cellAt ns k))) (b := decide (k < (ns.length : Int))) (by walk_at "et") (fun e => ?_) (fun e => ?_) ?_
  · have e := of_decide_eq_true e
    refine ev_op (ev_var rfl) (ev_var rfl) (b_ixF ?_)
    have hk : k.toNat < ns.length := by omega
    unfold atI ixN
    rw [if_pos h1, if_pos e]
    show ns[k.toNat]? = some (cellAt ns k)
    unfold cellAt
    rw [if_pos e, List.getElem?_eq_getElem hk]; rfl
  · have e := of_decide_eq_false e
    unfold cellAt
    rw [if_neg e]; rfl
  refine q_asg (by walk_at "ev") ?_
  refine q_asg (by walk_at "ev") ?_
  refine sv_retNew (en_lst (by walk_at "ea") (by simp)) ?_
  exact .inr ⟨_, .mk (new := [_]) (j := 0) rfl, rfl⟩
/-- one draw: the value, the pool behind it -/
def takeM (a b n : Int) : Int × Int × Int := if 0 < a then (a % n, a / n, b) else ((b * 48271 + 11) % 2147483647 * ((b * 48271 + 11) % 2147483647) % 2147483629 / 64 % n, a, (b * 48271 + 11) % 2147483647)
theorem takeM_nn {a b n : Int} (h : 0 < n) : 0 ≤ (takeM a b n).1 := by
  unfold takeM; split
  · exact Int.emod_nonneg _ (by omega)
  · exact Int.emod_nonneg _ (by omega)
theorem takeM_lt {a b n : Int} (h : 0 < n) : (takeM a b n).1 < n := by
  unfold takeM; split
  · exact Int.emod_lt_of_pos _ h
  · exact Int.emod_lt_of_pos _ h
theorem takeM_b0 {a b n : Int} (h : -1 < b) : -1 < (takeM a b n).2.2 := by
  unfold takeM; split
  · exact h
  · show -1 < (b * 48271 + 11) % 2147483647; omega
theorem takeM_b1 {a b n : Int} (h : b < 2147483647) : (takeM a b n).2.2 < 2147483647 := by
  unfold takeM; split
  · exact h
  · show (b * 48271 + 11) % 2147483647 < 2147483647; omega
/-- the draw as a whole number from 0 -/
def drawN (a b : Int) (n : Nat) : Nat := (takeM a b (n : Nat)).1.toNat
theorem drawN_eq {a b : Int} {n : Nat} (h : 0 < n) : (takeM a b (n : Nat)).1 = ((drawN a b n : Nat) : Int) := by
  have := takeM_nn (a := a) (b := b) (n := (n : Nat)) (by omega)
  unfold drawN; omega
theorem drawN_lt {a b : Int} {n : Nat} (h : 0 < n) : drawN a b n < n := by
  have := takeM_lt (a := a) (b := b) (n := (n : Nat)) (by omega)
  have := drawN_eq (a := a) (b := b) h
  omega
theorem poolB_b0 (ns : List Int) (k : Int) : -1 < poolB ns k := by
  have := Int.emod_nonneg ((cellAt ns k % 2147483629 + 104729 * k * k + 7919 * k + 11) ^ (3 : Int).toNat) (show (2147483647 : Int) ≠ 0 by decide)
  unfold poolB; omega
theorem poolB_b1 (ns : List Int) (k : Int) : poolB ns k < 2147483647 := by
  have := Int.emod_lt_of_pos ((cellAt ns k % 2147483629 + 104729 * k * k + 7919 * k + 11) ^ (3 : Int).toNat) (show (0 : Int) < 2147483647 by decide)
  unfold poolB; omega
def poolC (a b : Int) : CC := .lst [.d (.int a), .d (.int b)]
def R__law_take : Ctr := fun args μ o μ' => ∃ a b n : Int, 0 < n ∧ n < 1000000 ∧ -1 < b ∧ b < 2147483647 ∧ args = [.cell 0, .d (.int n)] ∧ μ = [poolC a b] ∧ o = .ret (.d (.int (takeM a b n).1)) ∧ μ' = [poolC (takeM a b n).2.1 (takeM a b n).2.2]
abbrev st__law_take : Stmt := PySem.Challenge.pw_stackeffect_k54_conflicts_of_items.main.body.getD 13 (.Pass ⟨0, 0, 0, 0⟩)
abbrev N__law_take : List Str := ["_law_pool_here", "_law_many", "_law_found"]
theorem sc__law_take : FnScope N__law_take ["_law_pool_here", "_law_many"] (defScope st__law_take) := ⟨rfl, rfl, rfl, by decide +kernel, rfl, by decide +kernel, by decide +kernel⟩
theorem ok__law_take {f : Addr} {fd : FuncData} (F : Def K mg "_law_take" st__law_take f fd) (b : Binds K fd ["_law_pool_here", "_law_many"] [])
     : Cal P w K mg base 1 "_law_take" (SpR K R__law_take) := by
  refine ⟨f, fd, _, fng_body F.fn sc__law_take ?_ ?_, F.mgf, F.fn.kp, b⟩
  · rintro args μ o μ' ⟨a, b, n, h1, h2, h3, h4, rfl, rfl, rfl, rfl⟩; exact ⟨rfl, rfl, rfl⟩
  intro cdv A outer s H E hr hgd
  have nd := sc__law_take.nd
  refine ⟨_, (pss_cons (ps_if (pt_cmpR o_gt (pe_ix (k_ix K rfl) (pv 0) pe_int (fun _ _ => rfl)) pe_int (nomark _))
 (pss_cons (ps_set (i := 2) nd rfl (by first | exact .inl rfl | exact .inr rfl) (pe_op o_mod (pe_ix (k_ix K rfl) (pv 0) pe_int (fun _ _ => rfl)) (pv 1)))
 (pss_cons (ps_asg (pe_op o_div (pe_ix (k_ix K rfl) (pv 0) pe_int (fun _ _ => rfl)) (pv 1)) (pg_sub (pv 0) pe_int set_list))
 (pss_one (ps_ret (pv 2)))))
 pss_nil)
 (pss_cons (ps_asg (pe_op o_mod (pe_op (k_add K rfl) (pe_op o_mul (pe_ix (k_ix K rfl) (pv 0) pe_int (fun _ _ => rfl)) pe_int) pe_int) pe_int) (pg_sub (pv 0) pe_int set_list))
 (pss_one (ps_ret (pe_op o_mod (pe_op o_div (pe_op o_mod (pe_op o_mul (pe_ix (k_ix K rfl) (pv 0) pe_int (fun _ _ => rfl)) (pe_ix (k_ix K rfl) (pv 0) pe_int (fun _ _ => rfl))) pe_int) pe_int) (pv 1)))))), ?_⟩
  rintro args μ o μ' ⟨a, b, n, h1, h2, h3, h4, rfl, rfl, rfl, rfl⟩
  unfold takeM
  refine q_when (b := decide (0 < a)) (by walk_at "et") (fun e => ?_) (fun e => ?_)
  · have e := of_decide_eq_true e
    rw [if_pos e]
    refine q_asg (by walk_at "ev") ?_
    refine q_setL (by walk_at "ev") (ev_var rfl) (ev_int (i := (0 : Nat))) rfl (by simp) ?_
    refine sv_ret (ev_var rfl) (.inl ⟨_, .data (new := []), rfl⟩)
  · have e := of_decide_eq_false e
    rw [if_neg e]
    refine q_setL (by walk_at "ev") (ev_var rfl) (ev_int (i := (1 : Nat))) rfl (by simp) ?_
    apply sv_ret
    · walk_at "ev"
    · exact .inl ⟨_, .data (new := []), rfl⟩
end
end Law

set_option Elab.async false
set_option linter.all false
set_option maxRecDepth 100000
set_option maxHeartbeats 4000000
namespace Law
open PySem PySem.Spec PyProof.Rows L2 DL
local macro_rules | `(tactic| walk_at "side") => `(tactic| first | rfl | assumption | omega | decide)
local macro_rules | `(tactic| walk_at "at") => `(tactic| first | exact rfl | assumption)
local macro_rules | `(tactic| walk_at "pow") => `(tactic| exact ⟨by decide, by decide, by omega⟩)
local macro_rules | `(tactic| walk_at "mul") => `(tactic| first | exact .inl ⟨by omega, by omega⟩ | exact .inr ⟨by omega, by omega⟩ | exact .inr (by split <;> decide) | assumption)
local macro_rules | `(tactic| walk_at "rv") => `(tactic| first
  | with_reducible exact b_ltN | with_reducible exact b_leN | with_reducible exact b_gtN | with_reducible exact b_geN | with_reducible exact b_eqN | with_reducible exact b_neN | with_reducible exact b_eqLN | with_reducible exact b_neLN
  | with_reducible exact b_eqI | with_reducible exact b_neI | with_reducible exact b_eqS | with_reducible exact b_neS
  | exact b_addN (n := 1) | with_reducible exact b_addN | with_reducible exact b_add | with_reducible exact b_sub | with_reducible exact b_lt | with_reducible exact b_le | with_reducible exact b_gt | with_reducible exact b_ge
  | ((with_reducible apply b_mul); walk_at "mul")
  | ((with_reducible apply b_div); exact ⟨by omega, by omega⟩)
  | ((with_reducible apply b_mod); walk_at "side")
  | ((with_reducible apply b_pow); walk_at "pow")
  | ((with_reducible apply b_ixC); exact rfl; walk_at "at")
  | ((with_reducible apply b_ixF); walk_at "at")
  | ((with_reducible apply b_ixL); walk_at "at")
  | ((with_reducible apply b_ixT); walk_at "at"))
local macro_rules | `(tactic| walk_at "rc") => `(tactic| first
  | with_reducible exact b_lenG | ((with_reducible apply b_lenCG); exact rfl) | with_reducible exact b_lenL | with_reducible exact b_lenT | with_reducible exact b_lenF
  | ((with_reducible apply b_lenC); exact rfl)
  | exact b_isi rfl rfl | exact b_isi2 rfl rfl rfl | exact b_allG | exact b_anyG
  | exact b_abs | exact b_intB | exact b_max2 | exact b_min2)
local macro_rules | `(tactic| walk_at "ea") => `(tactic| first
  | with_reducible exact ea_nil
  | ((with_reducible apply ea_cons); walk_at "ev"; walk_at "ea"))
local macro_rules | `(tactic| walk_at "ev") => `(tactic| first
  | with_reducible exact ev_int | with_reducible exact ev_str | with_reducible exact ev_bl | with_reducible exact ev_non
  | ((with_reducible apply ev_var); exact rfl)
  | ((with_reducible apply ev_op); walk_at "ev"; walk_at "ev"; walk_at "rv")
  | ((with_reducible apply ev_un); walk_at "ev"; with_reducible exact b_neg)
  | ((with_reducible apply ev_cb); walk_at "ea"; walk_at "rc")
  | ((with_reducible apply ev_notV); walk_at "ev")
  | ((with_reducible apply ev_t2); walk_at "ea") | ((with_reducible apply ev_t3); walk_at "ea") | ((with_reducible apply ev_t4); walk_at "ea") | ((with_reducible apply ev_t1); walk_at "ea")
  | with_reducible exact ev_l0 | ((with_reducible apply ev_l2); walk_at "ea") | ((with_reducible apply ev_l3); walk_at "ea") | ((with_reducible apply ev_l4); walk_at "ea") | ((with_reducible apply ev_l1); walk_at "ea")
  | ((with_reducible apply ev_c1); walk_at "ea"; walk_at "ct")
  | ((with_reducible apply ev_c2); walk_at "ea"; walk_at "ct")
  | ((with_reducible apply ev_c3); walk_at "ea"; walk_at "ct")
  | with_reducible exact ev_raw)
local macro_rules | `(tactic| walk_at "ct") => `(tactic| first | assumption | exact ⟨_, rfl, rfl, rfl, rfl⟩)
local macro_rules | `(tactic| walk_at "et") => `(tactic| first
  | ((with_reducible apply et_test); walk_at "ev")
  | ((with_reducible apply et_B); walk_at "ev")
  | ((with_reducible apply et_not); walk_at "et"))
local macro_rules | `(tactic| walk_at "fg") => `(tactic| first | exact fgt_nil | exact fgt_refl _ | (apply fgt_same; walk_at "fg") | (apply fgt_none; walk_at "fg"))
section
variable {P : Program} {w : World} {K : PySem.W.Frag} {mg : Str → Option Value} {base : Heap}
def R_is_integer : Ctr := fun args μ o μ' => ∃ i : Int, args = [.d (.int i)] ∧ μ = [] ∧ o = .ret (.d (.bl true)) ∧ μ' = []
abbrev st_is_integer : Stmt := PySem.Challenge.pw_stackeffect_k54_conflicts_of_items.main.body.getD 4 (.Pass ⟨0, 0, 0, 0⟩)
abbrev N_is_integer : List Str := ["value"]
theorem sc_is_integer : FnScope N_is_integer ["value"] (defScope st_is_integer) := ⟨rfl, rfl, rfl, by decide +kernel, rfl, by decide +kernel, by decide +kernel⟩
theorem ok_is_integer {f : Addr} {fd : FuncData} (F : Def K mg "is_integer" st_is_integer f fd) (b : Binds K fd ["value"] [])
    (n_isinstance : mg "isinstance" = none) (n_bool : mg "bool" = none) (n_int : mg "int" = none) : Cal P w K mg base 1 "is_integer" (SpR K R_is_integer) := by
  refine ⟨f, fd, _, fng_body F.fn sc_is_integer ?_ ?_, F.mgf, F.fn.kp, b⟩
  · rintro args μ o μ' ⟨i, rfl, rfl, rfl, rfl⟩; exact ⟨rfl, rfl, rfl⟩
  intro cdv A outer s H E hr hgd
  have nd := sc_is_integer.nd
  refine ⟨_, (pss_one (ps_ret (pe_and (pe_callB (k_isi K rfl) (by rfl) n_isinstance (by decide +kernel) (pa_cons (pv 0) (pa_cons (k_ty (n := "int") (by rfl) n_int (by decide +kernel)) pa_nil))) (pe_one (pe_not (pe_callB (k_isi K rfl) (by rfl) n_isinstance (by decide +kernel) (pa_cons (pv 0) (pa_cons (k_ty (n := "bool") (by rfl) n_bool (by decide +kernel)) pa_nil)))))))), ?_⟩
  rintro args μ o μ' ⟨i, rfl, rfl, rfl, rfl⟩
  refine sv_ret (ev_and2 (b := true) (c := true) (by walk_at "ev") fun _ => ?_) (.inl ⟨_, .data (new := []), rfl⟩)
  exact ev_notV (b := false) (by walk_at "ev")
def R_check_order : Ctr := fun args μ o μ' => ∃ os : List Nat, os.length ≤ 9 ∧ os.Perm (List.range os.length) ∧ args = [.d (nL os)] ∧ μ = [] ∧ o = .ret (.d .non) ∧ μ' = []
abbrev st_check_order : Stmt := PySem.Challenge.pw_stackeffect_k54_conflicts_of_items.main.body.getD 7 (.Pass ⟨0, 0, 0, 0⟩)
abbrev N_check_order : List Str := ["order", "item"]
theorem sc_check_order : FnScope N_check_order ["order"] (defScope st_check_order) := ⟨rfl, rfl, rfl, by decide +kernel, rfl, by decide +kernel, by decide +kernel⟩
theorem ok_check_order {f : Addr} {fd : FuncData} (F : Def K mg "check_order" st_check_order f fd) (b : Binds K fd ["order"] [])
    (n_sorted : mg "sorted" = none) (n_range : mg "range" = none) (n_len : mg "len" = none) (n_list : mg "list" = none) (n_all : mg "all" = none) (c_is_integer : Cal P w K mg base 1 "is_integer" (SpR K R_is_integer)) (g_MOST_ARRIVING : ∃ u, mg "MOST_ARRIVING" = some (.int 9 u)) (n_isinstance : mg "isinstance" = none) : Cal P w K mg base 2 "check_order" (SpR K R_check_order) := by
  refine ⟨f, fd, _, fng_body F.fn sc_check_order ?_ ?_, F.mgf, F.fn.kp, b⟩
  · rintro args μ o μ' ⟨os, h1, h2, rfl, rfl, rfl, rfl⟩; exact ⟨rfl, rfl, rfl⟩
  intro cdv A outer s H E hr hgd
  have nd := sc_check_order.nd
  refine ⟨_, (pss_cons (ps_if (PW.pt (pw_or (pt_not (pt_val (pe_callB (k_isi K rfl) (by rfl) n_isinstance (by decide +kernel) (pa_cons (pv 0) (pa_cons (k_ty (n := "list") (by rfl) n_list (by decide +kernel)) pa_nil))))) (pw_or (pt_cmpR o_gt (pe_callB (k_len K rfl) (by rfl) n_len (by decide +kernel) (pa_cons (pv 0) pa_nil)) (k_gint (by rfl) g_MOST_ARRIVING) (nomark _)) (pw_or1 (pt_not (pt_val (pe_callB (k_all K rfl rfl) (by rfl) n_all (by decide +kernel) (pa_cons (pe_lc (own := [("item", 1)]) rfl nd (k_plist K rfl (pv 0)) (blkOk_by (N := N_check_order) (sc := defScope st_check_order) (by decide +kernel)) (fun _ _ _ _ _ => (pg_name (i := 1) nd rfl (by first | exact .inl rfl | exact .inr rfl))) (fun _ _ _ _ _ => pts_nil) (fun _ _ _ _ _ => (k_call K rfl c_is_integer hr (by first | decide | omega) hgd (by rfl) takes0 (pa_cons (pv 1) pa_nil)))) pa_nil))))))))
 (pss_one ps_never)
 pss_nil)
 (pss_one (ps_if (pt_cmpR (o_neP K rfl (room64 hr)) (pe_callB (k_sortI K rfl) (by rfl) n_sorted (by decide +kernel) (pa_cons (pv 0) pa_nil)) (pe_listRg rfl (by rfl) n_list (prg_1 (by rfl) n_range (pe_callB (k_len K rfl) (by rfl) n_len (by decide +kernel) (pa_cons (pv 0) pa_nil)))) (nomark _))
 (pss_one ps_never)
 pss_nil))), ?_⟩
  rintro args μ o μ' ⟨os, h1, h2, rfl, rfl, rfl, rfl⟩
  refine q_skip (μ1 := []) ?_ ?_
  · refine ET.to (et_or2 (b := false) (c := false) (et_not (b := true) (by walk_at "et")) fun _ => ET.to (et_or2 (b := false) (c := false) ?_ fun _ => ?_) rfl) rfl
    · exact ET.to (by walk_at "et") (decide_eq_false (by first | omega | (simp; omega)))
    · refine et_not (b := true) (et_B (ev_cb (ea_cons (EN.ev (en_map (fun _ => .bl true) (iw_list (ev_var rfl)) (by simp) (by simp; omega) fun d hd => ?_)) ea_nil) (RC.to b_allM ?_)))
      · obtain ⟨n, _, rfl⟩ := List.mem_map.mp hd
        walk_at "ev"
      · simp
  refine sv_skip (μ1 := []) ?_ ⟨[], rfl, rfl⟩
  refine ET.to (et_test (ev_op (EN.ev (en_cb (by walk_at "ea") (b_sortN h2))) (EN.ev (en_listRgN (by walk_at "ev") (by first | omega | (simp; omega)))) b_neLN)) ?_
  simp
/-- item a leaves ahead of b, behind some item past b -/
def isConf (os : List Nat) (a b : Nat) : Bool := decide (os.idxOf a < os.idxOf b) && (os.take (os.idxOf a)).any fun x => decide (b < x)
def R_is_conflict : Ctr := fun args μ o μ' => ∃ (os : List Nat) (a b : Nat), os.length ≤ 9 ∧ a ∈ os ∧ b ∈ os ∧ args = [.d (nL os), .d (nD a), .d (nD b)] ∧ μ = [] ∧ o = .ret (.d (.bl (isConf os a b))) ∧ μ' = []
abbrev st_is_conflict : Stmt := PySem.Challenge.pw_stackeffect_k54_conflicts_of_items.main.body.getD 8 (.Pass ⟨0, 0, 0, 0⟩)
abbrev N_is_conflict : List Str := ["order", "one", "other", "leaving", "item"]
theorem sc_is_conflict : FnScope N_is_conflict ["order", "one", "other"] (defScope st_is_conflict) := ⟨rfl, rfl, rfl, by decide +kernel, rfl, by decide +kernel, by decide +kernel⟩
theorem ok_is_conflict {f : Addr} {fd : FuncData} (F : Def K mg "is_conflict" st_is_conflict f fd) (b : Binds K fd ["order", "one", "other"] [])
    (n_any : mg "any" = none) : Cal P w K mg base 1 "is_conflict" (SpR K R_is_conflict) := by
  refine ⟨f, fd, _, fng_body F.fn sc_is_conflict ?_ ?_, F.mgf, F.fn.kp, b⟩
  · rintro args μ o μ' ⟨os, a, b, h0, h1, h2, rfl, rfl, rfl, rfl⟩; exact ⟨rfl, rfl, rfl⟩
  intro cdv A outer s H E hr hgd
  have nd := sc_is_conflict.nd
  refine ⟨_, (pss_cons (ps_set (i := 3) nd rfl (by first | exact .inl rfl | exact .inr rfl) (k_bm K rfl PySem.F.plainAttrs_list PySem.F.slot_list_index PySem.F.type_list_index mt_index (pv 0) (pa_cons (pv 1) pa_nil)))
 (pss_one (ps_ret (pe_and (pe_cmpR o_lt (pv 3) (k_bm K rfl PySem.F.plainAttrs_list PySem.F.slot_list_index PySem.F.type_list_index mt_index (pv 0) (pa_cons (pv 2) pa_nil)) (nomark _)) (pe_one (pe_callB (k_any K rfl rfl) (by rfl) n_any (by decide +kernel) (pa_cons (pe_lc (own := [("item", 4)]) rfl nd (k_plist K rfl (pe_slice (k_sl K rfl) (pv 0) po_none (po_some (pv 3)))) (blkOk_by (N := N_is_conflict) (sc := defScope st_is_conflict) (by decide +kernel)) (fun _ _ _ _ _ => (pg_name (i := 4) nd rfl (by first | exact .inl rfl | exact .inr rfl))) (fun _ _ _ _ _ => pts_nil) (fun _ _ _ _ _ => (pe_cmpR o_gt (pv 4) (pv 2) (nomark _)))) pa_nil))))))), ?_⟩
  rintro args μ o μ' ⟨os, a, b, h0, h1, h2, rfl, rfl, rfl, rfl⟩
  refine q_asg (ev_indexN (ev_var rfl) (ev_var rfl) h1) ?_
  refine sv_ret (ev_and2 (ev_op (ev_var rfl) (ev_indexN (ev_var rfl) (ev_var rfl) h2) b_ltN) fun _ => ?_) (.inl ⟨_, .data (new := []), rfl⟩)
  refine ev_cb (ea_cons (EN.ev (en_mapG (tD := nD) (fun x : Nat => .bl (decide (b < x))) (iw_list (ev_toN (as := os) (ev_var rfl) (ev_var rfl) List.idxOf_le_length)) (by simp) ?_ fun x hx => ?_)) ea_nil) b_anyG
  · simp; omega
  · walk_at "ev"
def pairsOf (os : List Nat) : List (Nat × Nat) := (List.range os.length).flatMap fun a => ((List.range os.length).filter fun b => decide (a < b) && isConf os a b).map fun b => (a, b)
abbrev pD (p : Nat × Nat) : D := .tup [nD p.1, nD p.2]
theorem pairsOf_len {os : List Nat} (h : os.length ≤ 9) : (pairsOf os).length ≤ 100 := by
  have q : (pairsOf os).length ≤ os.length * (List.range os.length).length := flat_le fun a _ => by
    rw [List.length_map]; exact Nat.le_trans (List.length_filter_le _ _) (by rw [List.length_range]; exact Nat.le_refl _)
  rw [List.length_range] at q
  exact Nat.le_trans q (Nat.le_trans (Nat.mul_le_mul h h) (by decide))
def R_conflict_pairs : Ctr := fun args μ o μ' => ∃ os : List Nat, os.length ≤ 9 ∧ os.Perm (List.range os.length) ∧ args = [.d (nL os)] ∧ μ = [] ∧ o = .new ((pairsOf os).map pD) ∧ μ' = []
abbrev st_conflict_pairs : Stmt := PySem.Challenge.pw_stackeffect_k54_conflicts_of_items.main.body.getD 9 (.Pass ⟨0, 0, 0, 0⟩)
abbrev N_conflict_pairs : List Str := ["order", "items", "one", "other"]
theorem sc_conflict_pairs : FnScope N_conflict_pairs ["order"] (defScope st_conflict_pairs) := ⟨rfl, rfl, rfl, by decide +kernel, rfl, by decide +kernel, by decide +kernel⟩
theorem ok_conflict_pairs {f : Addr} {fd : FuncData} (F : Def K mg "conflict_pairs" st_conflict_pairs f fd) (b : Binds K fd ["order"] [])
    (c_is_conflict : Cal P w K mg base 1 "is_conflict" (SpR K R_is_conflict)) (n_range : mg "range" = none) (n_len : mg "len" = none) (n_list : mg "list" = none) : Cal P w K mg base 2 "conflict_pairs" (SpR K R_conflict_pairs) := by
  refine ⟨f, fd, _, fng_body F.fn sc_conflict_pairs ?_ ?_, F.mgf, F.fn.kp, b⟩
  · rintro args μ o μ' ⟨os, h1, h2, rfl, rfl, rfl, rfl⟩; exact ⟨rfl, rfl, rfl⟩
  intro cdv A outer s H E hr hgd
  have nd := sc_conflict_pairs.nd
  refine ⟨_, (pss_cons (ps_set (i := 1) nd rfl (by first | exact .inl rfl | exact .inr rfl) (pe_listRg rfl (by rfl) n_list (prg_1 (by rfl) n_range (pe_callB (k_len K rfl) (by rfl) n_len (by decide +kernel) (pa_cons (pv 0) pa_nil)))))
 (pss_one (ps_ret (pe_lc2 (own := [("one", 2), ("other", 3)]) (vs1 := [3]) rfl nd (k_plist K rfl (pv 1)) (blkOk_by (N := N_conflict_pairs) (sc := defScope st_conflict_pairs) (by decide +kernel)) (by decide) (fun _ _ _ _ _ => (pg_name (i := 2) nd rfl (by first | exact .inl rfl | exact .inr rfl))) (fun _ _ _ _ _ => pts_nil) (fun _ _ _ _ _ => (k_plist K rfl (pv 1))) (fun _ _ _ _ _ => (pg_name (i := 3) nd rfl (by first | exact .inl rfl | exact .inr rfl))) (fun _ _ _ _ _ => (pts_one (PW.pt (pw_and (pt_cmpR o_lt (pv 2) (pv 3) (nomark _)) (pw_and1 (pt_val (k_call K rfl c_is_conflict hr (by first | decide | omega) hgd (by rfl) takes0 (pa_cons (pv 0) (pa_cons (pv 2) (pa_cons (pv 3) pa_nil)))))))))) (fun _ _ _ _ _ => (pe_tup (pa_cons (pv 2) (pa_cons (pv 3) pa_nil)))))))), ?_⟩
  rintro args μ o μ' ⟨os, h1, h2, rfl, rfl, rfl, rfl⟩
  have hm : ∀ a ∈ List.range os.length, a ∈ os := fun a ha => h2.mem_iff.mpr ha
  refine q_asg (EN.ev (en_listRgN (by walk_at "ev") (by first | omega | (simp; omega)))) ?_
  refine' sv_retNew ((en_pairsG (tD := nD) (tE := nD) (as := List.range os.length) (fun _ => List.range os.length) (fun a b => decide (a < b) && isConf os a b) (fun a b => pD (a, b)) ?_ (by simp) (by simp) (by simp; omega) ?_ (fun a ha => ?_) (fun a ha b hb => ?_) fun a ha b hb _ => ?_).to (ys := ((pairsOf os).map pD).map .d) ?_) ?_
  · exact (iw_list (ev_var rfl)).to (by first | rfl | rw [List.length_map])
  · have q := pairsOf_len h1
    unfold pairsOf at q
    rw [List.length_flatMap] at q ⊢
    simp only [List.length_map] at q ⊢
    exact Nat.le_trans q (by decide)
  · exact (iw_list (ev_var rfl)).to (by first | rfl | rw [List.length_map])
  · exact et_and2 (by walk_at "et") fun _ => et_B (ev_c3 (by walk_at "ea") ⟨os, a, b, h1, hm a ha, hm b hb, rfl, rfl, rfl, rfl⟩)
  · walk_at "ev"
  · unfold pairsOf
    rw [List.map_map, List.map_flatMap, List.map_flatMap]
    simp only [List.map_map]; rfl
  · exact .inr ⟨_, .mk (new := [_]) (j := 0) rfl, rfl⟩
def R_conflicts : Ctr := R_conflict_pairs
abbrev st_conflicts : Stmt := PySem.Challenge.pw_stackeffect_k54_conflicts_of_items.main.body.getD 10 (.Pass ⟨0, 0, 0, 0⟩)
abbrev N_conflicts : List Str := ["order"]
theorem sc_conflicts : FnScope N_conflicts ["order"] (defScope st_conflicts) := ⟨rfl, rfl, rfl, by decide +kernel, rfl, by decide +kernel, by decide +kernel⟩
theorem ok_conflicts {f : Addr} {fd : FuncData} (F : Def K mg "conflicts" st_conflicts f fd) (b : Binds K fd ["order"] [])
    (c_conflict_pairs : Cal P w K mg base 2 "conflict_pairs" (SpR K R_conflict_pairs)) (c_check_order : Cal P w K mg base 2 "check_order" (SpR K R_check_order)) : Cal P w K mg base 3 "conflicts" (SpR K R_conflicts) := by
  refine ⟨f, fd, _, fng_body F.fn sc_conflicts ?_ ?_, F.mgf, F.fn.kp, b⟩
  · rintro args μ o μ' ⟨os, h1, h2, rfl, rfl, rfl, rfl⟩; exact ⟨rfl, rfl, rfl⟩
  intro cdv A outer s H E hr hgd
  have nd := sc_conflicts.nd
  refine ⟨_, (pss_cons (ps_expr (k_call K rfl c_check_order hr (by first | decide | omega) hgd (by rfl) (takes_of rfl rfl rfl rfl) (pa_cons (pv 0) pa_nil)))
 (pss_one (ps_ret (k_call K rfl c_conflict_pairs hr (by first | decide | omega) hgd (by rfl) (takes_of rfl rfl rfl rfl) (pa_cons (pv 0) pa_nil))))), ?_⟩
  rintro args μ o μ' ⟨os, h1, h2, rfl, rfl, rfl, rfl⟩
  refine q_drop (ev_c1 (ea_cons (ev_var rfl) ea_nil) ⟨os, h1, h2, rfl, rfl, rfl, rfl⟩) ?_
  refine sv_retNew (en_c1 (ea_cons (ev_var rfl) ea_nil) ⟨os, h1, h2, rfl, rfl, rfl, rfl⟩) ?_
  exact .inr ⟨_, .mk (new := [_]) (j := 0) rfl, rfl⟩
end
end Law

set_option Elab.async false
set_option linter.all false
set_option maxRecDepth 100000
set_option maxHeartbeats 4000000
namespace Law
open PySem PySem.Spec PyProof.Rows L2 DL
local macro_rules | `(tactic| walk_at "side") => `(tactic| first | rfl | assumption | omega | decide)
local macro_rules | `(tactic| walk_at "at") => `(tactic| first | exact rfl | assumption)
local macro_rules | `(tactic| walk_at "pow") => `(tactic| exact ⟨by decide, by decide, by omega⟩)
local macro_rules | `(tactic| walk_at "mul") => `(tactic| first | exact .inl ⟨by omega, by omega⟩ | exact .inr ⟨by omega, by omega⟩ | exact .inr (by split <;> decide) | assumption)
local macro_rules | `(tactic| walk_at "rv") => `(tactic| first
  | with_reducible exact b_ltN | with_reducible exact b_leN | with_reducible exact b_gtN | with_reducible exact b_geN | with_reducible exact b_eqN | with_reducible exact b_neN | with_reducible exact b_eqLN | with_reducible exact b_neLN
  | with_reducible exact b_eqI | with_reducible exact b_neI | with_reducible exact b_eqS | with_reducible exact b_neS
  | exact b_addN (n := 1) | with_reducible exact b_addN | with_reducible exact b_add | with_reducible exact b_sub | with_reducible exact b_lt | with_reducible exact b_le | with_reducible exact b_gt | with_reducible exact b_ge
  | ((with_reducible apply b_mul); walk_at "mul")
  | ((with_reducible apply b_div); exact ⟨by omega, by omega⟩)
  | ((with_reducible apply b_mod); walk_at "side")
  | ((with_reducible apply b_pow); walk_at "pow")
  | ((with_reducible apply b_ixC); exact rfl; walk_at "at")
  | ((with_reducible apply b_ixF); walk_at "at")
  | ((with_reducible apply b_ixL); walk_at "at")
  | ((with_reducible apply b_ixT); walk_at "at"))
local macro_rules | `(tactic| walk_at "rc") => `(tactic| first
  | with_reducible exact b_lenG | ((with_reducible apply b_lenCG); exact rfl) | with_reducible exact b_lenL | with_reducible exact b_lenT | with_reducible exact b_lenF
  | ((with_reducible apply b_lenC); exact rfl)
  | exact b_isi rfl rfl | exact b_isi2 rfl rfl rfl | exact b_allG | exact b_anyG
  | exact b_abs | exact b_intB | exact b_max2 | exact b_min2)
local macro_rules | `(tactic| walk_at "ea") => `(tactic| first
  | with_reducible exact ea_nil
  | ((with_reducible apply ea_cons); walk_at "ev"; walk_at "ea"))
local macro_rules | `(tactic| walk_at "ev") => `(tactic| first
  | with_reducible exact ev_int | with_reducible exact ev_str | with_reducible exact ev_bl | with_reducible exact ev_non
  | ((with_reducible apply ev_var); exact rfl)
  | ((with_reducible apply ev_op); walk_at "ev"; walk_at "ev"; walk_at "rv")
  | ((with_reducible apply ev_un); walk_at "ev"; with_reducible exact b_neg)
  | ((with_reducible apply ev_cb); walk_at "ea"; walk_at "rc")
  | ((with_reducible apply ev_notV); walk_at "ev")
  | ((with_reducible apply ev_t2); walk_at "ea") | ((with_reducible apply ev_t3); walk_at "ea") | ((with_reducible apply ev_t4); walk_at "ea") | ((with_reducible apply ev_t1); walk_at "ea")
  | with_reducible exact ev_l0 | ((with_reducible apply ev_l2); walk_at "ea") | ((with_reducible apply ev_l3); walk_at "ea") | ((with_reducible apply ev_l4); walk_at "ea") | ((with_reducible apply ev_l1); walk_at "ea")
  | ((with_reducible apply ev_c1); walk_at "ea"; walk_at "ct")
  | ((with_reducible apply ev_c2); walk_at "ea"; walk_at "ct")
  | ((with_reducible apply ev_c3); walk_at "ea"; walk_at "ct")
  | with_reducible exact ev_raw)
local macro_rules | `(tactic| walk_at "ct") => `(tactic| first | assumption | exact ⟨_, rfl, rfl, rfl, rfl⟩)
local macro_rules | `(tactic| walk_at "et") => `(tactic| first
  | ((with_reducible apply et_test); walk_at "ev")
  | ((with_reducible apply et_B); walk_at "ev")
  | ((with_reducible apply et_not); walk_at "et"))
local macro_rules | `(tactic| walk_at "fg") => `(tactic| first | exact fgt_nil | exact fgt_refl _ | (apply fgt_same; walk_at "fg") | (apply fgt_none; walk_at "fg"))
section
variable {P : Program} {w : World} {K : PySem.W.Frag} {mg : Str → Option Value} {base : Heap}
/-! ### an order drawn -/
structure OS where
  a : Int
  b : Int
  left : List Nat
  out : List Nat
def ordStep (s : OS) : OS := let t := takeM s.a s.b (s.left.length : Nat); ⟨t.2.1, t.2.2, s.left.eraseIdx (drawN s.a s.b s.left.length), s.out ++ [s.left.getD (drawN s.a s.b s.left.length) 0]⟩
def ordAt (a b : Int) (m : Nat) : Nat → OS
  | 0 => ⟨a, b, List.range m, []⟩
  | i + 1 => ordStep (ordAt a b m i)
structure OSok (m i : Nat) (s : OS) : Prop where
  b0 : -1 < s.b
  b1 : s.b < 2147483647
  left : s.left.length + i = m
  out : s.out.length = i
  perm : (s.out ++ s.left).Perm (List.range m)
theorem ordAt_ok {a b : Int} (h0 : -1 < b) (h1 : b < 2147483647) {m : Nat} : ∀ {i : Nat}, i ≤ m → OSok m i (ordAt a b m i)
  | 0, _ => ⟨h0, h1, by simp [ordAt], rfl, by simp [ordAt]⟩
  | i + 1, hi => by
    have s := ordAt_ok (a := a) h0 h1 (Nat.le_of_succ_le hi)
    show OSok m (i + 1) (ordStep (ordAt a b m i))
    generalize ordAt a b m i = z at s
    have hl : 0 < z.left.length := by have := s.left; omega
    have hd := drawN_lt (a := z.a) (b := z.b) hl
    refine ⟨takeM_b0 s.b0, takeM_b1 s.b1, ?_, ?_, ?_⟩
    · show (z.left.eraseIdx _).length + (i + 1) = m
      rw [List.length_eraseIdx_of_lt hd]
      have := s.left; omega
    · show (z.out ++ [_]).length = i + 1
      rw [List.length_append, s.out]; rfl
    · show ((z.out ++ [z.left.getD (drawN z.a z.b z.left.length) 0]) ++ z.left.eraseIdx (drawN z.a z.b z.left.length)).Perm _
      rw [List.append_assoc]
      refine (List.Perm.append_left _ ?_).trans s.perm
      generalize drawN z.a z.b z.left.length = n at hd
      rw [List.getD_eq_getElem?_getD, List.getElem?_eq_getElem hd]
      exact eraseIdx_permG hd
def ordO (a b : Int) (m : Nat) : List Nat := (ordAt a b m m).out
def R__law_order : Ctr := fun args μ o μ' => ∃ (a b : Int) (m : Nat), m ≤ 100 ∧ -1 < b ∧ b < 2147483647 ∧ args = [.cell 0, .d (nD m)] ∧ μ = [poolC a b] ∧ o = .new ((ordO a b m).map nD) ∧ μ' = [poolC (ordAt a b m m).a (ordAt a b m m).b]
abbrev st__law_order : Stmt := PySem.Challenge.pw_stackeffect_k54_conflicts_of_items.main.body.getD 14 (.Pass ⟨0, 0, 0, 0⟩)
abbrev N__law_order : List Str := ["_law_pool_here", "_law_many", "_law_left", "_law_turn"]
theorem sc__law_order : FnScope N__law_order ["_law_pool_here", "_law_many"] (defScope st__law_order) := ⟨rfl, rfl, rfl, by decide +kernel, rfl, by decide +kernel, by decide +kernel⟩
theorem ok__law_order {f : Addr} {fd : FuncData} (F : Def K mg "_law_order" st__law_order f fd) (b : Binds K fd ["_law_pool_here", "_law_many"] [])
    (n_range : mg "range" = none) (c__law_take : Cal P w K mg base 1 "_law_take" (SpR K R__law_take)) (n_len : mg "len" = none) (n_list : mg "list" = none) : Cal P w K mg base 2 "_law_order" (SpR K R__law_order) := by
  refine ⟨f, fd, _, fng_body F.fn sc__law_order ?_ ?_, F.mgf, F.fn.kp, b⟩
  · rintro args μ o μ' ⟨a, b, m, h1, h2, h3, rfl, rfl, rfl, rfl⟩; exact ⟨rfl, rfl, rfl⟩
  intro cdv A outer s H E hr hgd
  have nd := sc__law_order.nd
  refine ⟨_, (pss_cons (ps_set (i := 2) nd rfl (by first | exact .inl rfl | exact .inr rfl) (pe_listRg rfl (by rfl) n_list (prg_1 (by rfl) n_range (pv 1))))
 (pss_one (ps_ret (pe_lc (own := [("_law_turn", 3)]) rfl nd (pi_range1 (by rfl) n_range (pa_cons (pv 1) pa_nil)) (blkOk_by (N := N__law_order) (sc := defScope st__law_order) (by decide +kernel)) (fun _ _ _ _ _ => (pg_name (i := 3) nd rfl (by first | exact .inl rfl | exact .inr rfl))) (fun _ _ _ _ _ => pts_nil) (fun _ _ _ _ _ => (k_bm K rfl PySem.F.plainAttrs_list PySem.F.slot_list_pop PySem.F.type_list_pop mt_popAt (pv 2) (pa_cons (k_call K rfl c__law_take hr (by first | decide | omega) hgd (by rfl) takes0 (pa_cons (pv 0) (pa_cons (pe_callB (k_len K rfl) (by rfl) n_len (by decide +kernel) (pa_cons (pv 2) pa_nil)) pa_nil))) pa_nil))))))), ?_⟩
  rintro args μ o μ' ⟨a, b, m, h1, h2, h3, rfl, rfl, rfl, rfl⟩
  refine q_asgN (en_listRgN (ev_var rfl) (by omega)) ?_
  refine' sv_retNew (en_lcG (tD := nD) (as := List.range m) (iw_rngN (ea_cons (ev_var rfl) ea_nil) (by omega)) (fun i => ((ordAt a b m i).out.map nD).map .d) (fun i => [poolC (ordAt a b m i).a (ordAt a b m i).b, .lst (((ordAt a b m i).left.map nD).map .d)]) rfl rfl (fun i e he => ?_) (by simp; omega)) ?_
  · have hi : i < m := by have := (List.getElem?_eq_some_iff.mp he).1; rw [List.length_range] at this; exact this
    have s := ordAt_ok (a := a) h2 h3 (Nat.le_of_lt hi)
    have hs : ordAt a b m (i + 1) = ordStep (ordAt a b m i) := rfl
    rw [hs]
    generalize ordAt a b m i = z at s
    have hl : 0 < z.left.length := by have := s.left; omega
    have hd := drawN_lt (a := z.a) (b := z.b) hl
    refine ⟨_, _, true, _, gv_name, by simp, et_yes, fun _ => ⟨.d (nD (z.left.getD (drawN z.a z.b z.left.length) 0)), ?_, ?_⟩, fun z => nomatch z⟩
    · refine EV.ends (ev_popAt (k := 1) (n := drawN z.a z.b z.left.length) (cs := (z.left.map nD).map .d) (ev_var rfl) rfl (EV.to (ev_call1 (cargs := [.cell 0, .d (nD z.left.length)]) (k := 0) (c := poolC z.a z.b) (ea_cons (ev_var rfl) (ea_cons (ev_cb (ea_cons (ev_var rfl) ea_nil) (RC.to (b_lenC (cs := (z.left.map nD).map .d) rfl) ?_)) ea_nil)) rfl ⟨z.a, z.b, (z.left.length : Nat), ?_, ?_, s.b0, s.b1, rfl, rfl, rfl, rfl⟩) ?_) rfl ?_ ?_) ?_
      · rw [List.length_map, List.length_map]; rfl
      · omega
      · have := s.left; omega
      · rw [drawN_eq hl]
      · rw [List.getElem?_map, List.getElem?_map, List.getElem?_eq_getElem hd, List.getD_eq_getElem?_getD, List.getElem?_eq_getElem hd]; rfl
      · have := s.left; simp; omega
      · rw [eraseIdx_mapG, eraseIdx_mapG]; rfl
    · simp [ordStep]
  · have hl : (List.range m).length = m := List.length_range
    rw [hl]
    exact .inr ⟨_, .mk (new := [.lst _, .lst _]) (j := 1) (ds := (ordO a b m).map nD) rfl, rfl⟩
theorem ordO_ok {a b : Int} {m : Nat} (h0 : -1 < b) (h1 : b < 2147483647) : (ordO a b m).length = m ∧ (ordO a b m).Perm (List.range m) := by
  have s := ordAt_ok (a := a) h0 h1 (Nat.le_refl m)
  refine ⟨s.out, ?_⟩
  have e : (ordAt a b m m).left = [] := List.eq_nil_of_length_eq_zero (by have := s.left; omega)
  have := s.perm
  rw [e, List.append_nil] at this; exact this
/-! ### what is due -/
def defd (os : List Nat) (a b : Nat) : Bool := if os.idxOf b < os.idxOf a then true else decide ((os.take (os.idxOf a)).filter (fun x => decide (b < x)) = [])
def R__law_defined : Ctr := fun args μ o μ' => ∃ (os : List Nat) (a b : Nat), os.length ≤ 9 ∧ a ∈ os ∧ b ∈ os ∧ args = [.d (nL os), .d (nD a), .d (nD b)] ∧ μ = [] ∧ o = .ret (.d (.bl (defd os a b))) ∧ μ' = []
abbrev st__law_defined : Stmt := PySem.Challenge.pw_stackeffect_k54_conflicts_of_items.main.body.getD 17 (.Pass ⟨0, 0, 0, 0⟩)
abbrev N__law_defined : List Str := ["_law_order_here", "_law_one", "_law_other", "_law_item"]
theorem sc__law_defined : FnScope N__law_defined ["_law_order_here", "_law_one", "_law_other"] (defScope st__law_defined) := ⟨rfl, rfl, rfl, by decide +kernel, rfl, by decide +kernel, by decide +kernel⟩
theorem ok__law_defined {f : Addr} {fd : FuncData} (F : Def K mg "_law_defined" st__law_defined f fd) (b : Binds K fd ["_law_order_here", "_law_one", "_law_other"] [])
     : Cal P w K mg base 1 "_law_defined" (SpR K R__law_defined) := by
  refine ⟨f, fd, _, fng_body F.fn sc__law_defined ?_ ?_, F.mgf, F.fn.kp, b⟩
  · rintro args μ o μ' ⟨os, a, b, h0, h1, h2, rfl, rfl, rfl, rfl⟩; exact ⟨rfl, rfl, rfl⟩
  intro cdv A outer s H E hr hgd
  have nd := sc__law_defined.nd
  refine ⟨_, (pss_cons (ps_if (pt_cmpR o_gt (k_bm K rfl PySem.F.plainAttrs_list PySem.F.slot_list_index PySem.F.type_list_index mt_index (pv 0) (pa_cons (pv 1) pa_nil)) (k_bm K rfl PySem.F.plainAttrs_list PySem.F.slot_list_index PySem.F.type_list_index mt_index (pv 0) (pa_cons (pv 2) pa_nil)) (nomark _))
 (pss_one (ps_ret pe_bl))
 pss_nil)
 (pss_one (ps_ret (pe_cmpR (o_eqP K rfl (room64 hr)) (pe_lc (own := [("_law_item", 3)]) rfl nd (k_plist K rfl (pe_slice (k_sl K rfl) (pv 0) po_none (po_some (k_bm K rfl PySem.F.plainAttrs_list PySem.F.slot_list_index PySem.F.type_list_index mt_index (pv 0) (pa_cons (pv 1) pa_nil))))) (blkOk_by (N := N__law_defined) (sc := defScope st__law_defined) (by decide +kernel)) (fun _ _ _ _ _ => (pg_name (i := 3) nd rfl (by first | exact .inl rfl | exact .inr rfl))) (fun _ _ _ _ _ => (pts_one (pt_cmpR o_gt (pv 3) (pv 2) (nomark _)))) (fun _ _ _ _ _ => (pv 3))) (pe_lst pa_nil) (nomark _))))), ?_⟩
  rintro args μ o μ' ⟨os, a, b, h0, h1, h2, rfl, rfl, rfl, rfl⟩
  refine q_when (ET.to (et_test (ev_op (ev_indexN (ev_var rfl) (ev_var rfl) h1) (ev_indexN (ev_var rfl) (ev_var rfl) h2) b_gtN)) rfl) (fun e => ?_) fun e => ?_
  · have e := of_decide_eq_true e
    refine sv_ret ev_bl (.inl ⟨_, .data (new := []), ?_⟩)
    unfold defd; rw [if_pos e]
  · have e := of_decide_eq_false e
    refine sv_ret (ev_op (EN.ev (en_filterG (tD := nD) (as := os.take (os.idxOf a)) (fun x => decide (b < x)) nD (iw_list (ev_toN (as := os) (ev_var rfl) (ev_indexN (ev_var rfl) (ev_var rfl) h1) List.idxOf_le_length)) (by simp) ?_ (fun x hx => ?_) fun x hx _ => ?_)) ev_l0 (b_eqLN (ns := []))) (.inl ⟨_, .data (new := []), ?_⟩)
    · simp; omega
    · walk_at "et"
    · exact ev_var rfl
    · unfold defd; rw [if_neg e]
def lastIs (l : List Nat) (n : Nat) : Bool := decide (l.drop (l.length - 1) = [n])
def prodM (os wh : List Nat) : Nat → Nat → Nat → List (List Nat) → Bool
  | 0, _, _, _ => true
  | f + 1, ar, go, ps =>
    if go = os.length then true
    else if lastIs (ps.getD (wh.getD (os.getD go 0) 0) []) (os.getD go 0) then prodM os wh f ar (go + 1) (ps.set (wh.getD (os.getD go 0) 0) (ps.getD (wh.getD (os.getD go 0) 0) []).dropLast)
    else if ar = os.length ∨ os.getD go 0 < ar then false
    else prodM os wh f (ar + 1) go (ps.set (wh.getD ar 0) (ps.getD (wh.getD ar 0) [] ++ [ar]))
structure ProdOk (os wh : List Nat) (f ar go : Nat) (ps : List (List Nat)) : Prop where
  hf : 2 * os.length + 1 ≤ f + ar + go
  har : ar ≤ os.length
  hgo : go ≤ os.length
  hn : os.length ≤ 6
  hos : ∀ x ∈ os, x < os.length
  wl : wh.length = os.length
  hwh : ∀ x ∈ wh, x < ps.length
  pl : ps.length ≤ 10
  hps : ∀ p ∈ ps, p.length ≤ ar
def llD (ps : List (List Nat)) : D := .lst (ps.map nL)
def R_prod (f : Nat) : Ctr := fun args μ o μ' => ∃ (os wh : List Nat) (ar go : Nat) (ps : List (List Nat)), ProdOk os wh f ar go ps ∧ args = [.d (nL os), .d (nL wh), .d (nD ar), .d (nD go), .d (llD ps)] ∧ μ = [] ∧ o = .ret (.d (.bl (prodM os wh f ar go ps))) ∧ μ' = []
abbrev st__law_produces : Stmt := PySem.Challenge.pw_stackeffect_k54_conflicts_of_items.main.body.getD 15 (.Pass ⟨0, 0, 0, 0⟩)
abbrev N__law_produces : List Str := ["_law_order_here", "_law_where", "_law_arrived", "_law_gone", "_law_piles", "_law_item", "_law_pile", "_law_fewer", "_law_more", "_law_own"]
theorem sc__law_produces : FnScope N__law_produces ["_law_order_here", "_law_where", "_law_arrived", "_law_gone", "_law_piles"] (defScope st__law_produces) := ⟨rfl, rfl, rfl, by decide +kernel, rfl, by decide +kernel, by decide +kernel⟩
theorem step_prod {f : Addr} {fd : FuncData} (F : Def K mg "_law_produces" st__law_produces f fd) (b : Binds K fd ["_law_order_here", "_law_where", "_law_arrived", "_law_gone", "_law_piles"] [])
    {m : Nat} (c__law_produces : Cal P w K mg base (m + 1) "_law_produces" (SpR K (R_prod m))) (n_list : mg "list" = none) (n_len : mg "len" = none) : Cal P w K mg base (m + 2) "_law_produces" (SpR K (R_prod (m + 1))) := by
  refine ⟨f, fd, _, fng_body F.fn sc__law_produces ?_ ?_, F.mgf, F.fn.kp, b⟩
  · rintro args μ o μ' ⟨os, wh, ar, go, ps, ok, rfl, rfl, rfl, rfl⟩; exact ⟨rfl, rfl, rfl⟩
  intro cdv A outer s H E hr hgd
  have nd := sc__law_produces.nd
  refine ⟨_, (pss_cons (ps_if (pt_cmpR (o_eqP K rfl (room64 hr)) (pv 3) (pe_callB (k_len K rfl) (by rfl) n_len (by decide +kernel) (pa_cons (pv 0) pa_nil)) (nomark _))
 (pss_one (ps_ret pe_bl))
 pss_nil)
 (pss_cons (ps_set (i := 5) nd rfl (by first | exact .inl rfl | exact .inr rfl) (pe_ix (k_ix K rfl) (pv 0) (pv 3) (fun _ _ => rfl)))
 (pss_cons (ps_set (i := 6) nd rfl (by first | exact .inl rfl | exact .inr rfl) (pe_ix (k_ix K rfl) (pv 4) (pe_ix (k_ix K rfl) (pv 1) (pv 5) (fun _ _ => rfl)) (fun _ _ => rfl)))
 (pss_cons (ps_if (pt_cmpR (o_eqP K rfl (room64 hr)) (pe_slice (k_sl K rfl) (pv 6) (po_some (pe_un un_neg pe_int)) po_none) (pe_lst (pa_cons (pv 5) pa_nil)) (nomark _))
 (pss_cons (ps_setLc (i := 7) (own := [("_law_own", 9)]) rfl nd rfl rfl (sw_true rfl rfl rfl (by decide +kernel)) (k_plist K rfl (pv 4)) (blkOk_by (N := N__law_produces) (sc := defScope st__law_produces) (by decide +kernel)) (fun _ _ _ _ _ => (pg_name (i := 9) nd rfl (by first | exact .inl rfl | exact .inr rfl))) (fun _ _ _ _ _ => pts_nil) (fun _ _ _ _ _ => (pe_callTy (k_list K rfl) (by rfl) n_list (by decide +kernel) (pa_cons (pv 9) pa_nil))))
 (pss_cons (ps_asg (pe_slice (k_sl K rfl) (pv 6) po_none (po_some (pe_un un_neg pe_int))) (pg_sub (pv 7) (pe_ix (k_ix K rfl) (pv 1) (pv 5) (fun _ _ => rfl)) set_list))
 (pss_one (ps_ret (k_call K rfl c__law_produces hr (by first | decide | omega) hgd (by rfl) (takes_of rfl rfl rfl rfl) (pa_cons (pv 0) (pa_cons (pv 1) (pa_cons (pv 2) (pa_cons (pe_op (k_add K rfl) (pv 3) pe_int) (pa_cons (pv 7) pa_nil))))))))))
 pss_nil)
 (pss_cons (ps_if (PW.pt (pw_or (pt_cmpR (o_eqP K rfl (room64 hr)) (pv 2) (pe_callB (k_len K rfl) (by rfl) n_len (by decide +kernel) (pa_cons (pv 0) pa_nil)) (nomark _)) (pw_or1 (pt_cmpR o_lt (pv 5) (pv 2) (nomark _)))))
 (pss_one (ps_ret pe_bl))
 pss_nil)
 (pss_cons (ps_setLc (i := 8) (own := [("_law_own", 9)]) rfl nd rfl rfl (sw_true rfl rfl rfl (by decide +kernel)) (k_plist K rfl (pv 4)) (blkOk_by (N := N__law_produces) (sc := defScope st__law_produces) (by decide +kernel)) (fun _ _ _ _ _ => (pg_name (i := 9) nd rfl (by first | exact .inl rfl | exact .inr rfl))) (fun _ _ _ _ _ => pts_nil) (fun _ _ _ _ _ => (pe_callTy (k_list K rfl) (by rfl) n_list (by decide +kernel) (pa_cons (pv 9) pa_nil))))
 (pss_cons (ps_asg (pe_op (k_add K rfl) (pe_ix (k_ix K rfl) (pv 8) (pe_ix (k_ix K rfl) (pv 1) (pv 2) (fun _ _ => rfl)) (fun _ _ => rfl)) (pe_lst (pa_cons (pv 2) pa_nil))) (pg_sub (pv 8) (pe_ix (k_ix K rfl) (pv 1) (pv 2) (fun _ _ => rfl)) set_list))
 (pss_one (ps_ret (k_call K rfl c__law_produces hr (by first | decide | omega) hgd (by rfl) (takes_of rfl rfl rfl rfl) (pa_cons (pv 0) (pa_cons (pv 1) (pa_cons (pe_op (k_add K rfl) (pv 2) pe_int) (pa_cons (pv 3) (pa_cons (pv 8) pa_nil))))))))))))))), ?_⟩
  rintro args μ o μ' ⟨os, wh, ar, go, ps, ok, rfl, rfl, rfl, rfl⟩
  have hpm : prodM os wh (m + 1) ar go ps = if go = os.length then true
    else if lastIs (ps.getD (wh.getD (os.getD go 0) 0) []) (os.getD go 0) then prodM os wh m ar (go + 1) (ps.set (wh.getD (os.getD go 0) 0) (ps.getD (wh.getD (os.getD go 0) 0) []).dropLast)
    else if ar = os.length ∨ os.getD go 0 < ar then false
    else prodM os wh m (ar + 1) go (ps.set (wh.getD ar 0) (ps.getD (wh.getD ar 0) [] ++ [ar])) := rfl
  rw [hpm]
  refine q_when (by walk_at "et") (fun e => ?_) fun e => ?_
  · rw [if_pos (of_decide_eq_true e)]
    exact sv_ret ev_bl (.inl ⟨_, .data (new := []), rfl⟩)
  have e := of_decide_eq_false e
  rw [if_neg e]
  have hgo : go < os.length := by have := ok.hgo; omega
  have hit : os.getD go 0 < os.length := ok.hos _ (getD_mem hgo)
  refine q_asg (ev_op (ev_var rfl) (ev_var rfl) (b_ixG (z := 0) hgo)) ?_
  generalize os.getD go 0 = it at hit
  have hw : wh.getD it 0 < ps.length := ok.hwh _ (getD_mem (by rw [ok.wl]; exact hit))
  refine q_asg (ev_op (ev_var rfl) (ev_op (ev_var rfl) (ev_var rfl) (b_ixG (z := 0) (by rw [ok.wl]; exact hit))) (b_ixG (tD := nL) (z := []) hw)) ?_
  have hpl : (ps.getD (wh.getD it 0) []).length ≤ ar := ok.hps _ (getD_mem hw)
  generalize hpile : ps.getD (wh.getD it 0) [] = pile at hpl
  refine q_when (b := lastIs pile it) (ET.to (et_test (ev_op (EN.ev ((en_slL (ev_var rfl) (eo_some (ev_un ev_int b_neg)) eo_none).to (ys := ((pile.drop (pile.length - 1)).map nD).map .d) ?_)) (ev_l1 (by walk_at "ea")) (b_eqLN (ns := [it])))) rfl) (fun e => ?_) fun e => ?_
  · rw [cut_last, List.length_map]; simp only [List.map_drop]
  · rw [if_pos e]
    refine q_asgN (en_mapG (tD := nL) nL (iw_list (ev_var rfl)) (by simp) (by have := ok.pl; omega) fun a ha => EN.ev (en_cb (by walk_at "ea") b_listL)) ?_
    refine q_setL (μ1 := [.lst ((ps.map nL).map .d)]) (n := wh.getD it 0) (cs := (ps.map nL).map .d) (x := .d (nL pile.dropLast)) (EN.ev ((en_slL (ev_var rfl) eo_none (eo_some (ev_un ev_int b_neg))).to ?_)) (ev_var rfl) (ev_op (ev_var rfl) (ev_var rfl) (b_ixG (z := 0) (by rw [ok.wl]; exact hit))) rfl (by simp; exact hw) ?_
    · rw [cut_but]; simp only [List.map_dropLast]
    rw [map_set2]
    refine sv_ret (ev_callF (μ1 := [.lst _]) (cargs := [nL os, nL wh, nD ar, nD (go + 1), llD (ps.set (wh.getD it 0) pile.dropLast)]) (ea_cons (ev_var rfl) (ea_cons (ev_var rfl) (ea_cons (ev_var rfl) (ea_cons (ev_op (ev_var rfl) ev_int (b_addN (n := 1))) (ea_cons (ev_var rfl) ea_nil))))) (.cons (.d _) (.cons (.d _) (.cons (.d _) (.cons (.d _) (.cons (.lst rfl) .nil))))) ⟨os, wh, ar, go + 1, _, ?_, rfl, rfl, rfl, rfl⟩ rfl) (.inl ⟨_, .data (new := [_]), rfl⟩)
    refine ⟨by have := ok.hf; omega, ok.har, by omega, ok.hn, ok.hos, ok.wl, by rw [List.length_set]; exact ok.hwh, by rw [List.length_set]; exact ok.pl, fun p hp => ?_⟩
    rcases List.mem_or_eq_of_mem_set hp with q | q
    · exact ok.hps p q
    · rw [q, List.length_dropLast]; omega
  rw [if_neg (by rw [e]; exact Bool.false_ne_true)]
  refine q_when (b := decide (ar = os.length) || decide (it < ar)) (et_or2 (by walk_at "et") fun _ => by walk_at "et") (fun e => ?_) fun e => ?_
  · rw [if_pos (by simpa using e)]
    exact sv_ret ev_bl (.inl ⟨_, .data (new := []), rfl⟩)
  have e : ¬ (ar = os.length ∨ it < ar) := by simpa using e
  rw [if_neg e]
  have har : ar < os.length := by have := ok.har; omega
  have hwa : wh.getD ar 0 < ps.length := ok.hwh _ (getD_mem (by rw [ok.wl]; exact har))
  refine q_asgN (en_mapG (tD := nL) nL (iw_list (ev_var rfl)) (by simp) (by have := ok.pl; omega) fun a ha => EN.ev (en_cb (by walk_at "ea") b_listL)) ?_
  refine q_setL (μ1 := [.lst ((ps.map nL).map .d)]) (n := wh.getD ar 0) (cs := (ps.map nL).map .d) (x := .d (nL (ps.getD (wh.getD ar 0) [] ++ [ar]))) (ev_op (ev_op (ev_var rfl) (ev_op (ev_var rfl) (ev_var rfl) (b_ixG (z := 0) (by rw [ok.wl]; exact har))) (b_ixCG (tD := nL) (as := ps) (z := []) rfl hwa)) (ev_l1 (by walk_at "ea")) (RVN.rv ?_)) (ev_var rfl) (ev_op (ev_var rfl) (ev_var rfl) (b_ixG (z := 0) (by rw [ok.wl]; exact har))) rfl (by simp; exact hwa) ?_
  · have q := b_addL (K := K) (μ := [.lst ((ps.map nL).map .d)]) (xs := (ps.getD (wh.getD ar 0) []).map nD) (ys := [nD ar]) (by have := ok.hps _ (getD_mem (z := []) hwa); have := ok.hn; simp only [List.length_map, List.length_cons, List.length_nil]; omega)
    rw [List.map_append]; exact q
  rw [map_set2]
  refine sv_ret (ev_callF (μ1 := [.lst _]) (cargs := [nL os, nL wh, nD (ar + 1), nD go, llD (ps.set (wh.getD ar 0) (ps.getD (wh.getD ar 0) [] ++ [ar]))]) (ea_cons (ev_var rfl) (ea_cons (ev_var rfl) (ea_cons (ev_op (ev_var rfl) ev_int (b_addN (n := 1))) (ea_cons (ev_var rfl) (ea_cons (ev_var rfl) ea_nil))))) (.cons (.d _) (.cons (.d _) (.cons (.d _) (.cons (.d _) (.cons (.lst rfl) .nil))))) ⟨os, wh, ar + 1, go, _, ?_, rfl, rfl, rfl, rfl⟩ rfl) (.inl ⟨_, .data (new := [_]), rfl⟩)
  refine ⟨by have := ok.hf; omega, by omega, ok.hgo, ok.hn, ok.hos, ok.wl, by rw [List.length_set]; exact ok.hwh, by rw [List.length_set]; exact ok.pl, fun p hp => ?_⟩
  rcases List.mem_or_eq_of_mem_set hp with q | q
  · exact Nat.le_succ_of_le (ok.hps p q)
  · rw [q, List.length_append]; exact Nat.succ_le_succ (ok.hps _ (getD_mem hwa))
end
end Law

set_option Elab.async false
set_option linter.all false
set_option maxRecDepth 100000
set_option maxHeartbeats 4000000
namespace Law
open PySem PySem.Spec PyProof.Rows L2 DL
def whL (n : Nat) : List Nat := (List.range n).map (· + 1)
def shareM (os : List Nat) (a b : Nat) : Bool := prodM os ((whL os.length).set b ((whL os.length).getD a 0)) 13 0 0 (List.replicate (os.length + 1) [])
def allPairs (n : Nat) : List (Nat × Nat) := (List.range n).flatMap fun a => (List.range' (a + 1) (n - (a + 1))).map fun b => (a, b)
theorem getD_setG {α : Type} (l : List α) (n m : Nat) (v d : α) : (l.set n v).getD m d = if n = m ∧ m < l.length then v else l.getD m d := by
  rw [List.getD_eq_getElem?_getD, List.getD_eq_getElem?_getD, List.getElem?_set]
  by_cases h : n = m
  · subst h
    by_cases h2 : n < l.length
    · rw [if_pos rfl, if_pos h2, if_pos ⟨rfl, h2⟩]; rfl
    · rw [if_pos rfl, if_neg h2, if_neg (fun q => h2 q.2), List.getElem?_eq_none (Nat.le_of_not_lt h2)]
  · rw [if_neg h, if_neg (fun q => h q.1)]
/-- an order of all items under n -/
structure Ord (os : List Nat) : Prop where
  mem : ∀ i, i ∈ os ↔ i < os.length
  nd : os.Nodup
theorem Ord.of {os : List Nat} (h : os.Perm (List.range os.length)) : Ord os := ⟨fun i => h.mem_iff.trans List.mem_range, h.nodup_iff.mpr List.nodup_range⟩
theorem Ord.idx {os : List Nat} (o : Ord os) {j : Nat} (h : j < os.length) : os.idxOf (os.getD j 0) = j := by
  rw [List.getD_eq_getElem?_getD, List.getElem?_eq_getElem h]
  exact o.nd.idxOf_getElem j h
theorem Ord.lt {os : List Nat} (o : Ord os) {i : Nat} (h : i < os.length) : os.idxOf i < os.length := List.idxOf_lt_length_iff.mpr ((o.mem i).mpr h)
theorem Ord.at_ {os : List Nat} (o : Ord os) {i : Nat} (h : i < os.length) : os.getD (os.idxOf i) 0 = i := by
  rw [List.getD_eq_getElem?_getD, List.getElem?_eq_getElem (o.lt h)]
  exact List.getElem_idxOf (o.lt h)
theorem Ord.ne {os : List Nat} (o : Ord os) {i j : Nat} (hi : i < os.length) (hj : j < os.length) (h : i ≠ j) : os.idxOf i ≠ os.idxOf j := fun e => h (by rw [← o.at_ hi, ← o.at_ hj, e])
/-- item i stands on its pile -/
def pres (os : List Nat) (ar go i : Nat) : Prop := i < ar ∧ go ≤ os.idxOf i
instance (os : List Nat) (ar go i : Nat) : Decidable (pres os ar go i) := by unfold pres; infer_instance
def l1 (p : Prop) [Decidable p] (i : Nat) : List Nat := if p then [i] else []
theorem l1_iff {p q : Prop} [Decidable p] [Decidable q] (h : p ↔ q) (i : Nat) : l1 p i = l1 q i := by unfold l1; simp only [h]
theorem l1_yes {p : Prop} [Decidable p] (h : p) (i : Nat) : l1 p i = [i] := if_pos h
theorem l1_no {p : Prop} [Decidable p] (h : ¬ p) (i : Nat) : l1 p i = [] := if_neg h
structure PInv (os : List Nat) (a b ar go : Nat) (ps : List (List Nat)) : Prop where
  len : ps.length = os.length + 1
  one : ∀ i, i < os.length → i ≠ a → i ≠ b → ps.getD (i + 1) [] = l1 (pres os ar go i) i
  two : ps.getD (a + 1) [] = l1 (pres os ar go a) a ++ l1 (pres os ar go b) b
  gone : ∀ j, j < go → os.getD j 0 < ar
def badM (os : List Nat) (a b ar go : Nat) : Prop := go ≤ os.idxOf a ∧ os.idxOf a < os.idxOf b ∧ (b < ar ∨ ∃ j, go ≤ j ∧ j < os.idxOf a ∧ b < os.getD j 0)
theorem prod_bad {os wh : List Nat} {a b : Nat} (o : Ord os) (hab : a < b) (hb : b < os.length) (hw : ∀ i, i < os.length → wh.getD i 0 = if i = b then a + 1 else i + 1) :
    ∀ (f ar go : Nat) (ps : List (List Nat)), 2 * os.length + 1 ≤ f + ar + go → ar ≤ os.length → go ≤ os.length → PInv os a b ar go ps → (prodM os wh f ar go ps = true ↔ ¬ badM os a b ar go)
  | 0, ar, go, ps, h1, h2, h3, _ => by omega
  | f + 1, ar, go, ps, h1, h2, h3, I => by
    have ha : a < os.length := Nat.lt_trans hab hb
    unfold prodM
    by_cases hg : go = os.length
    · rw [if_pos hg]
      refine ⟨fun _ q => ?_, fun _ => rfl⟩
      have := o.lt ha
      have := q.1
      omega
    rw [if_neg hg]
    have hgo : go < os.length := by omega
    have hit : os.getD go 0 < os.length := (o.mem _).mp (getD_mem hgo)
    have hix := o.idx hgo
    have hat : ∀ i, os.idxOf i = go → i < os.length → i = os.getD go 0 := fun i e hi => by rw [← e, o.at_ hi]
    generalize os.getD go 0 = it at hit hix hat
    have hwi := hw it hit
    generalize wh.getD it 0 = t at hwi
    -- what lies on top
    have hlast : lastIs (ps.getD t []) it = true ↔ (it < ar ∧ ¬ (it = a ∧ pres os ar go b)) := by
      unfold lastIs
      rw [decide_eq_true_eq]
      by_cases e1 : it = b
      · rw [if_pos e1] at hwi
        subst hwi
        have hna : it ≠ a := by omega
        rw [I.two, e1]
        by_cases q : pres os ar go b
        · rw [l1_yes q]
          have : (l1 (pres os ar go a) a ++ [b]).drop ((l1 (pres os ar go a) a ++ [b]).length - 1) = [b] := by simp
          rw [this]
          exact ⟨fun _ => ⟨q.1, fun z => hna (e1.trans z.1)⟩, fun _ => rfl⟩
        · rw [l1_no q, List.append_nil]
          have q2 : ¬ b < ar := fun z => q ⟨z, by rw [← e1, hix]; exact Nat.le_refl _⟩
          refine ⟨fun z => ?_, fun z => absurd z.1 q2⟩
          by_cases q3 : pres os ar go a
          · rw [l1_yes q3] at z; simp at z; omega
          · rw [l1_no q3] at z; simp at z
      · rw [if_neg e1] at hwi
        subst hwi
        by_cases e2 : it = a
        · rw [e2, I.two]
          by_cases q : pres os ar go b
          · rw [l1_yes q]
            have : (l1 (pres os ar go a) a ++ [b]).drop ((l1 (pres os ar go a) a ++ [b]).length - 1) = [b] := by simp
            rw [this]
            exact ⟨fun z => by simp at z; omega, fun z => absurd ⟨rfl, q⟩ z.2⟩
          · rw [l1_no q, List.append_nil]
            by_cases q3 : pres os ar go a
            · rw [l1_yes q3]; exact ⟨fun _ => ⟨q3.1, fun z => q z.2⟩, fun _ => rfl⟩
            · rw [l1_no q3]
              exact ⟨fun z => by simp at z, fun z => absurd ⟨z.1, by rw [← e2, hix]; exact Nat.le_refl _⟩ q3⟩
        · rw [I.one it hit e2 e1]
          by_cases q3 : pres os ar go it
          · rw [l1_yes q3]; exact ⟨fun _ => ⟨q3.1, fun z => e2 z.1⟩, fun _ => rfl⟩
          · rw [l1_no q3]
            exact ⟨fun z => by simp at z, fun z => absurd ⟨z.1, by rw [hix]; exact Nat.le_refl _⟩ q3⟩
    by_cases hl : lastIs (ps.getD t []) it = true
    · rw [if_pos hl]
      obtain ⟨l1a, l1b⟩ := hlast.mp hl
      have htl : t < ps.length := by rw [I.len, hwi]; split <;> omega
      have presi : ∀ i, i < os.length → i ≠ it → (pres os ar (go + 1) i ↔ pres os ar go i) := fun i hi hne => by
        have : os.idxOf i ≠ go := fun e => hne (hat i e hi)
        unfold pres; omega
      have presn : ¬ pres os ar (go + 1) it := fun z => by have := z.2; omega
      have presy : pres os ar go it := ⟨l1a, by omega⟩
      refine (prod_bad o hab hb hw f ar (go + 1) _ (by omega) h2 hgo ⟨by rw [List.length_set]; exact I.len, fun i hi e1 e2 => ?_, ?_, fun j hj => ?_⟩).trans ?_
      · rw [getD_setG]
        by_cases e : t = i + 1
        · have : it = i := by
            rw [hwi] at e; split at e
            · omega
            · omega
          subst this
          rw [if_pos ⟨e, by omega⟩, e, I.one it hit e1 e2, l1_no presn, l1_yes presy]; rfl
        · rw [if_neg (fun z => e z.1), I.one i hi e1 e2]
          refine l1_iff (presi i hi fun z => e ?_).symm i
          rw [hwi, if_neg (by omega)]; omega
      · rw [getD_setG]
        by_cases e : t = a + 1
        · rw [if_pos ⟨e, by omega⟩, e, I.two]
          have : it = a ∨ it = b := by
            rw [hwi] at e; split at e
            · right; assumption
            · left; omega
          rcases this with z | z
          · have nb : ¬ pres os ar go b := fun q => l1b ⟨z, q⟩
            rw [l1_no nb, l1_no (p := pres os ar (go + 1) b) (fun q => nb ((presi b hb (by omega)).mp q)), ← z, l1_no presn, l1_yes presy]; rfl
          · have pb : pres os ar go b := z ▸ presy
            rw [l1_yes pb, l1_no (p := pres os ar (go + 1) b) (z ▸ presn), l1_iff (presi a ha (by omega)), List.append_nil, List.dropLast_concat]
        · have n1 : it ≠ a := fun z => e (by rw [hwi, if_neg (by omega)]; omega)
          have n2 : it ≠ b := fun z => e (by rw [hwi, if_pos z])
          rw [if_neg (fun z => e z.1), I.two, l1_iff (presi a ha (Ne.symm n1)), l1_iff (presi b hb (Ne.symm n2))]
      · by_cases e : j = go
        · rw [e]
          have : os.getD go 0 = it := (hat _ (o.idx hgo) ((o.mem _).mp (getD_mem hgo)))
          rw [this]; exact l1a
        · exact I.gone j (by omega)
      · have gdo : os.getD go 0 = it := (hat _ (o.idx hgo) ((o.mem _).mp (getD_mem hgo)))
        refine not_congr ⟨fun q => ⟨by have := q.1; omega, q.2.1, q.2.2.imp id fun ⟨j, z1, z2, z3⟩ => ⟨j, by omega, z2, z3⟩⟩, fun q => ?_⟩
        obtain ⟨q1, q2, q3⟩ := q
        by_cases e : go = os.idxOf a
        · have e3 : a = it := hat a e.symm ha
          rcases q3 with q3 | ⟨j, z1, z2, z3⟩
          · exact absurd ⟨e3.symm, q3, by omega⟩ l1b
          · omega
        · refine ⟨by omega, q2, ?_⟩
          rcases q3 with q3 | ⟨j, z1, z2, z3⟩
          · exact .inl q3
          · by_cases e4 : j = go
            · rw [e4, gdo] at z3; exact .inl (by omega)
            · exact .inr ⟨j, by omega, z2, z3⟩
    · rw [if_neg hl]
      by_cases hs : ar = os.length ∨ it < ar
      · rw [if_pos hs]
        have l2 : it < ar := by rcases hs with z | z <;> omega
        have l3 : it = a ∧ pres os ar go b := Classical.byContradiction fun z => hl (hlast.mpr ⟨l2, z⟩)
        refine ⟨fun z => (nomatch z), fun z => absurd ⟨?_, ?_, .inl l3.2.1⟩ z⟩
        · rw [← l3.1, hix]; exact Nat.le_refl _
        · have := o.ne ha hb (by omega)
          have := l3.2.2
          rw [← l3.1, hix] at *
          omega
      · rw [if_neg hs]
        have har : ar < os.length := by omega
        have hge : ar ≤ it := by omega
        have hwr := hw ar har
        generalize wh.getD ar 0 = u at hwr
        have hul : u < ps.length := by rw [I.len, hwr]; split <;> omega
        have gdo : os.getD go 0 = it := (hat _ (o.idx hgo) ((o.mem _).mp (getD_mem hgo)))
        have presi : ∀ i, i ≠ ar → (pres os (ar + 1) go i ↔ pres os ar go i) := fun i hne => by unfold pres; omega
        have presn : ¬ pres os ar go ar := fun z => Nat.lt_irrefl _ z.1
        have presy : pres os (ar + 1) go ar := ⟨Nat.lt_succ_self _, Nat.le_of_not_lt fun z => by have := I.gone _ z; rw [o.at_ har] at this; omega⟩
        refine (prod_bad o hab hb hw f (ar + 1) go _ (by omega) har h3 ⟨by rw [List.length_set]; exact I.len, fun i hi e1 e2 => ?_, ?_, fun j hj => Nat.lt_succ_of_lt (I.gone j hj)⟩).trans ?_
        · rw [getD_setG]
          by_cases e : u = i + 1
          · have : ar = i := by
              rw [hwr] at e; split at e
              · omega
              · omega
            subst this
            rw [if_pos ⟨e, by omega⟩, e, I.one ar hi e1 e2, l1_no presn, l1_yes presy]; rfl
          · rw [if_neg (fun z => e z.1), I.one i hi e1 e2]
            refine l1_iff (presi i fun z => e ?_).symm i
            rw [hwr, if_neg (by omega)]; omega
        · rw [getD_setG]
          by_cases e : u = a + 1
          · rw [if_pos ⟨e, by omega⟩, e, I.two]
            have : ar = a ∨ ar = b := by
              rw [hwr] at e; split at e
              · right; assumption
              · left; omega
            rcases this with z | z
            · have nb : ¬ pres os ar go b := fun q => by have := q.1; omega
              rw [l1_no nb, l1_no (p := pres os (ar + 1) go b) (fun q => nb ((presi b (by omega)).mp q)), ← z, l1_no presn, l1_yes presy]; rfl
            · have nb : ¬ pres os ar go b := fun q => by have := q.1; omega
              rw [l1_no nb, l1_yes (p := pres os (ar + 1) go b) (z ▸ presy), l1_iff (presi a (by omega)), List.append_nil, z]
          · have n1 : ar ≠ a := fun z => e (by rw [hwr, if_neg (by omega)]; omega)
            have n2 : ar ≠ b := fun z => e (by rw [hwr, if_pos z])
            rw [if_neg (fun z => e z.1), I.two, l1_iff (presi a (Ne.symm n1)), l1_iff (presi b (Ne.symm n2))]
        · refine not_congr ⟨fun q => ?_, fun q => ⟨q.1, q.2.1, q.2.2.imp (fun z => Nat.lt_succ_of_lt z) id⟩⟩
          obtain ⟨q1, q2, q3⟩ := q
          refine ⟨q1, q2, ?_⟩
          rcases q3 with q3 | q3
          · by_cases e : b < ar
            · exact .inl e
            · have e2 : b = ar := by omega
              have n1 : it ≠ b := fun z => by rw [z] at hix; omega
              have n2 : os.idxOf a ≠ go := fun z => by have := hat a z ha; omega
              exact .inr ⟨go, Nat.le_refl _, by omega, by rw [gdo]; omega⟩
          · exact .inr q3
theorem whL_at {n a b i : Nat} (ha : a < n) (hb : b < n) (hi : i < n) : ((whL n).set b ((whL n).getD a 0)).getD i 0 = if i = b then a + 1 else i + 1 := by
  have q : ∀ j, j < n → (whL n).getD j 0 = j + 1 := fun j hj => by unfold whL; rw [List.getD_eq_getElem?_getD, List.getElem?_map, List.getElem?_range hj]; rfl
  rw [getD_setG, q a ha, q i hi]
  have : (whL n).length = n := by unfold whL; simp
  by_cases e : i = b
  · rw [if_pos ⟨e.symm, by omega⟩, if_pos e]
  · rw [if_neg (fun z => e z.1.symm), if_neg e]
theorem share_eq' {os : List Nat} (hp : os.Perm (List.range os.length)) (hn : os.length < 7) {a b : Nat} (hab : a < b) (hb : b < os.length) : shareM os a b = defd os a b := by
  have o := Ord.of hp
  have ha : a < os.length := Nat.lt_trans hab hb
  have h0 : ∀ i, (List.replicate (os.length + 1) ([] : List Nat)).getD i [] = [] := fun i => by
    rw [List.getD_eq_getElem?_getD, List.getElem?_replicate]; split <;> rfl
  have np : ∀ i, ¬ pres os 0 0 i := fun i z => Nat.not_lt_zero _ z.1
  have h := prod_bad o hab hb (fun i hi => whL_at ha hb hi) 13 0 0 (List.replicate (os.length + 1) []) (by omega) (Nat.zero_le _) (Nat.zero_le _)
    ⟨by simp, fun i hi _ _ => by rw [h0, l1_no (np i)], by rw [h0, l1_no (np a), l1_no (np b)]; rfl, fun j hj => absurd hj (Nat.not_lt_zero j)⟩
  have hne := o.ne ha hb (by omega)
  rw [Bool.eq_iff_iff]
  unfold shareM
  rw [h]
  unfold defd badM
  by_cases e : os.idxOf b < os.idxOf a
  · rw [if_pos e]; exact ⟨fun _ => rfl, fun _ z => by omega⟩
  · rw [if_neg e, decide_eq_true_eq, List.filter_eq_nil_iff]
    constructor
    · intro z x hx hx2
      obtain ⟨j, hj, rfl⟩ := List.getElem_of_mem hx
      rw [List.length_take] at hj
      refine z ⟨Nat.zero_le _, by omega, .inr ⟨j, Nat.zero_le _, by omega, ?_⟩⟩
      rw [List.getElem_take] at hx2
      rw [List.getD_eq_getElem?_getD, List.getElem?_eq_getElem (by omega)]
      exact of_decide_eq_true hx2
    · rintro z ⟨_, _, q | ⟨j, q1, q2, q3⟩⟩
      · exact absurd q (Nat.not_lt_zero _)
      · have hj : j < os.length := Nat.lt_trans q2 (o.lt ha)
        rw [List.getD_eq_getElem?_getD, List.getElem?_eq_getElem hj] at q3
        refine z os[j] ?_ (decide_eq_true q3)
        rw [List.mem_take_iff_getElem]
        exact ⟨j, by omega, rfl⟩
theorem mem_allPairs {n : Nat} {p : Nat × Nat} (h : p ∈ allPairs n) : p.1 < p.2 ∧ p.2 < n := by
  obtain ⟨a, ha, h⟩ := List.mem_flatMap.mp h
  obtain ⟨b, hb, rfl⟩ := List.mem_map.mp h
  have := List.mem_range.mp ha
  have := List.mem_range'_1.mp hb
  exact ⟨by show a < b; omega, by show b < n; omega⟩
theorem share_eq {os : List Nat} (hp : os.Perm (List.range os.length)) (hn : os.length < 7) {p : Nat × Nat} (h : p ∈ allPairs os.length) : shareM os p.1 p.2 = defd os p.1 p.2 := share_eq' hp hn (mem_allPairs h).1 (mem_allPairs h).2
theorem filter_gt (a n : Nat) : (List.range n).filter (fun b => decide (a < b)) = List.range' (a + 1) (n - (a + 1)) := by
  by_cases h : a + 1 ≤ n
  · have e : List.range n = List.range' 0 (a + 1) ++ List.range' (a + 1) (n - (a + 1)) := by
      have q := List.range'_append (s := 0) (m := a + 1) (n := n - (a + 1)) (step := 1)
      rw [Nat.one_mul, Nat.zero_add] at q
      rw [q, List.range_eq_range']
      exact congrArg (List.range' 0) (by omega)
    rw [e, List.filter_append]
    have e1 : (List.range' 0 (a + 1)).filter (fun b => decide (a < b)) = [] := List.filter_eq_nil_iff.mpr fun b hb => by
      have := List.mem_range'_1.mp hb
      rw [decide_eq_true_eq]; omega
    have e2 : (List.range' (a + 1) (n - (a + 1))).filter (fun b => decide (a < b)) = List.range' (a + 1) (n - (a + 1)) := List.filter_eq_self.mpr fun b hb => by
      have := List.mem_range'_1.mp hb
      rw [decide_eq_true_eq]; omega
    rw [e1, e2]; rfl
  · have e : n - (a + 1) = 0 := by omega
    rw [e]
    exact List.filter_eq_nil_iff.mpr fun b hb => by
      have := List.mem_range.mp hb
      rw [decide_eq_true_eq]; omega
theorem conf_defd {os : List Nat} {a b : Nat} (ha : a ∈ os) (hb : b ∈ os) (hab : a < b) : isConf os a b = !defd os a b := by
  have hne : os.idxOf a ≠ os.idxOf b := fun e => by
    have h1 := List.getElem_idxOf (List.idxOf_lt_length_iff.mpr ha)
    have h2 := List.getElem_idxOf (List.idxOf_lt_length_iff.mpr hb)
    simp only [e] at h1
    omega
  unfold isConf defd
  by_cases h : os.idxOf b < os.idxOf a
  · rw [if_pos h, decide_eq_false (by omega)]; rfl
  · rw [if_neg h, decide_eq_true (by omega), Bool.true_and]
    rw [Bool.eq_iff_iff, Bool.not_eq_true', decide_eq_false_iff_not, List.filter_eq_nil_iff, List.any_eq_true]
    constructor
    · rintro ⟨x, h1, h2⟩ h3; exact h3 x h1 h2
    · intro h3
      exact Classical.byContradiction fun h4 => h3 fun x hx hx2 => h4 ⟨x, hx, hx2⟩
theorem pairs_due {os : List Nat} (hp : os.Perm (List.range os.length)) : pairsOf os = (allPairs os.length).filter fun p => !defd os p.1 p.2 := by
  unfold pairsOf allPairs
  rw [List.filter_flatMap]
  rw [List.flatMap_def, List.flatMap_def]
  refine congrArg List.flatten (List.map_congr_left fun a ha => ?_)
  rw [List.filter_map]
  refine congrArg (List.map _) ?_
  have e : ∀ b ∈ List.range os.length, (decide (a < b) && isConf os a b) = (((fun p : Nat × Nat => !defd os p.1 p.2) ∘ fun b => (a, b)) b && decide (a < b)) := fun b hb => by
    by_cases h : a < b
    · rw [decide_eq_true h, Bool.true_and, Bool.and_true]; exact conf_defd (hp.mem_iff.mpr ha) (hp.mem_iff.mpr hb) h
    · rw [decide_eq_false h, Bool.false_and, Bool.and_false]
  rw [List.filter_congr e, ← List.filter_filter, filter_gt]
theorem pairs_share {os : List Nat} (hp : os.Perm (List.range os.length)) (hn : os.length < 7) : ((allPairs os.length).filter fun p => !shareM os p.1 p.2) = (allPairs os.length).filter fun p => !defd os p.1 p.2 := List.filter_congr fun p h => by rw [share_eq hp hn h]
end Law

set_option Elab.async false
set_option linter.all false
set_option maxRecDepth 100000
set_option maxHeartbeats 4000000
namespace Law
open PySem PySem.Spec PyProof.Rows L2 DL
local macro_rules | `(tactic| walk_at "side") => `(tactic| first | rfl | assumption | omega | decide)
local macro_rules | `(tactic| walk_at "at") => `(tactic| first | exact rfl | assumption)
local macro_rules | `(tactic| walk_at "pow") => `(tactic| exact ⟨by decide, by decide, by omega⟩)
local macro_rules | `(tactic| walk_at "mul") => `(tactic| first | exact .inl ⟨by omega, by omega⟩ | exact .inr ⟨by omega, by omega⟩ | exact .inr (by split <;> decide) | assumption)
local macro_rules | `(tactic| walk_at "rv") => `(tactic| first
  | with_reducible exact b_ltN | with_reducible exact b_leN | with_reducible exact b_gtN | with_reducible exact b_geN | with_reducible exact b_eqN | with_reducible exact b_neN | with_reducible exact b_eqLN | with_reducible exact b_neLN
  | with_reducible exact b_eqI | with_reducible exact b_neI | with_reducible exact b_eqS | with_reducible exact b_neS
  | exact b_addN (n := 1) | with_reducible exact b_addN | with_reducible exact b_add | with_reducible exact b_sub | with_reducible exact b_lt | with_reducible exact b_le | with_reducible exact b_gt | with_reducible exact b_ge
  | ((with_reducible apply b_mul); walk_at "mul")
  | ((with_reducible apply b_div); exact ⟨by omega, by omega⟩)
  | ((with_reducible apply b_mod); walk_at "side")
  | ((with_reducible apply b_pow); walk_at "pow")
  | ((with_reducible apply b_ixC); exact rfl; walk_at "at")
  | ((with_reducible apply b_ixF); walk_at "at")
  | ((with_reducible apply b_ixL); walk_at "at")
  | ((with_reducible apply b_ixT); walk_at "at"))
local macro_rules | `(tactic| walk_at "rc") => `(tactic| first
  | with_reducible exact b_lenG | ((with_reducible apply b_lenCG); exact rfl) | with_reducible exact b_lenL | with_reducible exact b_lenT | with_reducible exact b_lenF
  | ((with_reducible apply b_lenC); exact rfl)
  | exact b_isi rfl rfl | exact b_isi2 rfl rfl rfl | exact b_allG | exact b_anyG
  | exact b_abs | exact b_intB | exact b_max2 | exact b_min2)
local macro_rules | `(tactic| walk_at "ea") => `(tactic| first
  | with_reducible exact ea_nil
  | ((with_reducible apply ea_cons); walk_at "ev"; walk_at "ea"))
local macro_rules | `(tactic| walk_at "ev") => `(tactic| first
  | with_reducible exact ev_int | with_reducible exact ev_str | with_reducible exact ev_bl | with_reducible exact ev_non
  | ((with_reducible apply ev_var); exact rfl)
  | ((with_reducible apply ev_op); walk_at "ev"; walk_at "ev"; walk_at "rv")
  | ((with_reducible apply ev_un); walk_at "ev"; with_reducible exact b_neg)
  | ((with_reducible apply ev_cb); walk_at "ea"; walk_at "rc")
  | ((with_reducible apply ev_notV); walk_at "ev")
  | ((with_reducible apply ev_t2); walk_at "ea") | ((with_reducible apply ev_t3); walk_at "ea") | ((with_reducible apply ev_t4); walk_at "ea") | ((with_reducible apply ev_t1); walk_at "ea")
  | with_reducible exact ev_l0 | ((with_reducible apply ev_l2); walk_at "ea") | ((with_reducible apply ev_l3); walk_at "ea") | ((with_reducible apply ev_l4); walk_at "ea") | ((with_reducible apply ev_l1); walk_at "ea")
  | ((with_reducible apply ev_c1); walk_at "ea"; walk_at "ct")
  | ((with_reducible apply ev_c2); walk_at "ea"; walk_at "ct")
  | ((with_reducible apply ev_c3); walk_at "ea"; walk_at "ct")
  | with_reducible exact ev_raw)
local macro_rules | `(tactic| walk_at "ct") => `(tactic| first | assumption | exact ⟨_, rfl, rfl, rfl, rfl⟩)
local macro_rules | `(tactic| walk_at "et") => `(tactic| first
  | ((with_reducible apply et_test); walk_at "ev")
  | ((with_reducible apply et_B); walk_at "ev")
  | ((with_reducible apply et_not); walk_at "et"))
local macro_rules | `(tactic| walk_at "fg") => `(tactic| first | exact fgt_nil | exact fgt_refl _ | (apply fgt_same; walk_at "fg") | (apply fgt_none; walk_at "fg"))
section
variable {P : Program} {w : World} {K : PySem.W.Frag} {mg : Str → Option Value} {base : Heap}
abbrev R__law_produces : Ctr := R_prod 13
theorem prod_all {f : Addr} {fd : FuncData} (F : Def K mg "_law_produces" st__law_produces f fd) (b : Binds K fd ["_law_order_here", "_law_where", "_law_arrived", "_law_gone", "_law_piles"] []) (n_len : mg "len" = none) (n_list : mg "list" = none) : ∀ m, Cal P w K mg base (m + 1) "_law_produces" (SpR K (R_prod m))
  | 0 => cal_never (fun args μ o μ' h => by
      obtain ⟨os, wh, ar, go, ps, ok, _⟩ := h
      have := ok.hf; have := ok.har; have := ok.hgo
      omega) F.mgf F.fn.kp b
  | m + 1 => step_prod (m := m) F b (c__law_produces := prod_all F b n_len n_list m) (n_len := n_len) (n_list := n_list)
-- _law_produces
def R__law_can_share : Ctr := fun args μ o μ' => ∃ (os : List Nat) (a b : Nat), os.Perm (List.range os.length) ∧ os.length ≤ 6 ∧ a < os.length ∧ b < os.length ∧ args = [.d (nL os), .d (nD a), .d (nD b)] ∧ μ = [] ∧ o = .ret (.d (.bl (shareM os a b))) ∧ μ' = []
abbrev st__law_can_share : Stmt := PySem.Challenge.pw_stackeffect_k54_conflicts_of_items.main.body.getD 16 (.Pass ⟨0, 0, 0, 0⟩)
abbrev N__law_can_share : List Str := ["_law_order_here", "_law_one", "_law_other", "_law_where", "_law_at"]
theorem sc__law_can_share : FnScope N__law_can_share ["_law_order_here", "_law_one", "_law_other"] (defScope st__law_can_share) := ⟨rfl, rfl, rfl, by decide +kernel, rfl, by decide +kernel, by decide +kernel⟩
theorem ok__law_can_share {f : Addr} {fd : FuncData} (F : Def K mg "_law_can_share" st__law_can_share f fd) (b : Binds K fd ["_law_order_here", "_law_one", "_law_other"] [])
    (c__law_produces : Cal P w K mg base 14 "_law_produces" (SpR K R__law_produces)) (n_range : mg "range" = none) (n_len : mg "len" = none) : Cal P w K mg base 15 "_law_can_share" (SpR K R__law_can_share) := by
  refine ⟨f, fd, _, fng_body F.fn sc__law_can_share ?_ ?_, F.mgf, F.fn.kp, b⟩
  · rintro args μ o μ' ⟨os, a, b, h0, h1, h2, h3, rfl, rfl, rfl, rfl⟩; exact ⟨rfl, rfl, rfl⟩
  intro cdv A outer s H E hr hgd
  have nd := sc__law_can_share.nd
  refine ⟨_, (pss_cons (ps_setLc (i := 3) (own := [("_law_at", 4)]) rfl nd rfl rfl (sw_true rfl rfl rfl (by decide +kernel)) (pi_range1 (by rfl) n_range (pa_cons (pe_callB (k_len K rfl) (by rfl) n_len (by decide +kernel) (pa_cons (pv 0) pa_nil)) pa_nil)) (blkOk_by (N := N__law_can_share) (sc := defScope st__law_can_share) (by decide +kernel)) (fun _ _ _ _ _ => (pg_name (i := 4) nd rfl (by first | exact .inl rfl | exact .inr rfl))) (fun _ _ _ _ _ => pts_nil) (fun _ _ _ _ _ => (pe_op (k_add K rfl) (pv 4) pe_int)))
 (pss_cons (ps_asg (pe_ix (k_ix K rfl) (pv 3) (pv 1) (fun _ _ => rfl)) (pg_sub (pv 3) (pv 2) set_list))
 (pss_one (ps_ret (k_call K rfl c__law_produces hr (by first | decide | omega) hgd (by rfl) (takes_of rfl rfl rfl rfl) (pa_cons (pv 0) (pa_cons (pv 3) (pa_cons pe_int (pa_cons pe_int (pa_cons (pe_lc (own := [("_law_at", 4)]) rfl nd (pi_range1 (by rfl) n_range (pa_cons (pe_op (k_add K rfl) (pe_callB (k_len K rfl) (by rfl) n_len (by decide +kernel) (pa_cons (pv 0) pa_nil)) pe_int) pa_nil)) (blkOk_by (N := N__law_can_share) (sc := defScope st__law_can_share) (by decide +kernel)) (fun _ _ _ _ _ => (pg_name (i := 4) nd rfl (by first | exact .inl rfl | exact .inr rfl))) (fun _ _ _ _ _ => pts_nil) (fun _ _ _ _ _ => (pe_lst pa_nil))) pa_nil)))))))))), ?_⟩
  rintro args μ o μ' ⟨os, a, b, h0, h1, h2, h3, rfl, rfl, rfl, rfl⟩
  have hl : (whL os.length).length = os.length := by unfold whL; simp
  refine q_asgN (xs := ((whL os.length).map nD).map .d) ((en_mapG (tD := nD) (as := List.range os.length) (fun n => nD (n + 1)) (iw_rngN (by walk_at "ea") (by omega)) (by simp) (by simp; omega) fun n hn => by walk_at "ev").to ?_) ?_
  · unfold whL; rw [List.map_map, List.map_map, List.map_map]; rfl
  refine q_setL (μ1 := [.lst (((whL os.length).map nD).map .d)]) (n := b) (cs := ((whL os.length).map nD).map .d) (x := .d (nD ((whL os.length).getD a 0))) (ev_op (ev_var rfl) (ev_var rfl) (b_ixCG rfl (by omega))) (ev_var rfl) (ev_var rfl) rfl (by simp; omega) ?_
  rw [map_set2]
  refine sv_ret (ev_callF (cargs := [nL os, nL ((whL os.length).set b ((whL os.length).getD a 0)), nD 0, nD 0, llD (List.replicate (os.length + 1) [])])
    (ea_cons (ev_var rfl) (ea_cons (ev_var rfl) (ea_cons ev_int (ea_cons ev_int (ea_cons (EN.ev ((en_mapG (tD := nD) (as := List.range (os.length + 1)) (fun _ => .lst []) (iw_rngN (ea_cons (ev_op (ev_cb (ea_cons (ev_var rfl) ea_nil) b_lenG) ev_int (b_addN (n := 1))) ea_nil) (by omega)) (by simp) (by simp; omega) fun n hn => ev_l0).to (ys := ((List.replicate (os.length + 1) []).map nL).map .d) ?_)) ea_nil)))))
    (.cons (.d _) (.cons (.lst rfl) (.cons (.d _) (.cons (.d _) (.cons (.d _) .nil))))) ⟨os, _, 0, 0, _, ?_, rfl, rfl, rfl, rfl⟩ rfl) (.inl ⟨_, .data (new := [_]), rfl⟩)
  · rw [List.map_const', List.length_range, List.map_replicate, List.map_replicate, List.map_replicate]; rfl
  · refine ⟨by omega, Nat.zero_le _, Nat.zero_le _, h1, fun x hx => List.mem_range.mp (h0.mem_iff.mp hx), by rw [List.length_set, hl], fun x hx => ?_, by simp; omega, fun p hp => by rw [(List.mem_replicate.mp hp).2]; exact Nat.le_refl _⟩
    rw [List.length_replicate]
    have hw : ∀ y ∈ whL os.length, y < os.length + 1 := fun y hy => by
      obtain ⟨z, hz, rfl⟩ := List.mem_map.mp hy
      have := List.mem_range.mp hz; omega
    rcases List.mem_or_eq_of_mem_set hx with q | q
    · exact hw x q
    · rw [q]; exact hw _ (getD_mem (by omega))
/-- pairs whose first is under i -/
def pairsTo (n i : Nat) : List (Nat × Nat) := (List.range i).flatMap fun a => (List.range' (a + 1) (n - (a + 1))).map fun b => (a, b)
theorem pairsTo_succ (n i : Nat) : pairsTo n (i + 1) = pairsTo n i ++ (List.range' (i + 1) (n - (i + 1))).map fun b => (i, b) := by
  unfold pairsTo; rw [List.range_succ, List.flatMap_append, List.flatMap_singleton]
theorem pairsTo_len (n i : Nat) : (pairsTo n i).length ≤ n * i := by
  have h : (pairsTo n i).length ≤ n * (List.range i).length := flat_le fun a _ => by rw [List.length_map, List.length_range']; exact Nat.sub_le _ _
  rw [List.length_range] at h; exact h
theorem sh_small {n : Nat} (h : n < 10) : Sh (nD n) 2 0 := sh_int (k := 1) (by decide) (by omega)
theorem sh_os {os : List Nat} (hp : os.Perm (List.range os.length)) (hn : os.length ≤ 9) : Sh (nL os) 100 1 := (sh_lst (n := 2) (k := 0) fun d hd => by
  obtain ⟨x, hx, rfl⟩ := List.mem_map.mp hd
  have := List.mem_range.mp (hp.mem_iff.mp hx)
  exact sh_small (by omega)).mono (by simp; omega) (Nat.le_refl _)
theorem sh_ps {n : Nat} {ps : List (Nat × Nat)} (hn : n ≤ 9) (h : ∀ p ∈ ps, p ∈ allPairs n) (hl : ps.length ≤ 100) : Sh (.lst (ps.map pD)) 2000 2 := (sh_lst (n := 11) (k := 1) fun d hd => by
  obtain ⟨p, hq, rfl⟩ := List.mem_map.mp hd
  have := mem_allPairs (h p hq)
  exact (sh_tup (n := 2) (k := 0) fun d hd => by
    rcases List.mem_cons.mp hd with q | q
    · rw [q]; exact sh_small (by omega)
    · rw [List.mem_singleton.mp q]; exact sh_small (by omega)).mono (by simp) (Nat.le_refl _)).mono (by simp; omega) (Nat.le_refl _)
abbrev R_law : Ctr := lawR
abbrev st_law : Stmt := PySem.Challenge.pw_stackeffect_k54_conflicts_of_items.main.body.getD 18 (.Pass ⟨0, 0, 0, 0⟩)
abbrev N_law : List Str := ["_law_script", "_law_k", "_law_pool_here", "_law_order_here", "_law_pairs", "_law_one", "_law_due", "_law_kept", "_law_turn", "_law_found", "_law_pair", "_law_other"]
theorem sc_law : FnScope N_law ["_law_script"] (defScope st_law) := ⟨rfl, rfl, rfl, by decide +kernel, rfl, by decide +kernel, by decide +kernel⟩
theorem ok_law {f : Addr} {fd : FuncData} (F : Fun K "law" "law" st_law f fd)
    (c_conflicts : Cal P w K mg base 3 "conflicts" (SpR K R_conflicts)) (n_range : mg "range" = none) (n_max : mg "max" = none) (n_min : mg "min" = none) (n_len : mg "len" = none) (c__law_order : Cal P w K mg base 2 "_law_order" (SpR K R__law_order)) (c__law_take : Cal P w K mg base 1 "_law_take" (SpR K R__law_take)) (n_repr : mg "repr" = none) (c__law_can_share : Cal P w K mg base 15 "_law_can_share" (SpR K R__law_can_share)) (c__law_defined : Cal P w K mg base 1 "_law_defined" (SpR K R__law_defined)) (c__law_pool : Cal P w K mg base 1 "_law_pool" (SpR K R__law_pool)) : FnG P w K mg base 16 f fd ["_law_script"] (SpR K R_law) := by
  refine fng_body F sc_law ?_ ?_
  · rintro args μ o μ' ⟨ns, hn, rfl, rfl, rfl, rfl⟩; exact ⟨rfl, rfl, rfl⟩
  intro cdv A outer s H E hr hgd
  have nd := sc_law.nd
  refine ⟨_, (pss_cons (ps_for (passes_of rfl) rfl (pi_range1 (by rfl) n_range (pa_cons (pe_callB (call_max2 rfl) (by rfl) n_max (by decide +kernel) (pa_cons pe_int (pa_cons (pe_callB (call_min2 rfl) (by rfl) n_min (by decide +kernel) (pa_cons (pe_callB (k_len K rfl) (by rfl) n_len (by decide +kernel) (pa_cons (pv 0) pa_nil)) (pa_cons pe_int pa_nil))) pa_nil))) pa_nil)) (pg_name (i := 1) nd rfl (by first | exact .inl rfl | exact .inr rfl))
 (pss_cons (ps_set (i := 2) nd rfl (by first | exact .inl rfl | exact .inr rfl) (k_call K rfl c__law_pool hr (by first | decide | omega) hgd (by rfl) (takes_of rfl rfl rfl rfl) (pa_cons (pv 0) (pa_cons (pv 1) pa_nil))))
 (pss_one (ps_for (passes_of rfl) rfl (k_plist K rfl (pe_lst (pa_cons (k_call K rfl c__law_order hr (by first | decide | omega) hgd (by rfl) (takes_of rfl rfl rfl rfl) (pa_cons (pv 2) (pa_cons (k_call K rfl c__law_take hr (by first | decide | omega) hgd (by rfl) (takes_of rfl rfl rfl rfl) (pa_cons (pv 2) (pa_cons pe_int pa_nil))) pa_nil))) (pa_cons (k_call K rfl c__law_order hr (by first | decide | omega) hgd (by rfl) (takes_of rfl rfl rfl rfl) (pa_cons (pv 2) (pa_cons (pe_op (k_add K rfl) pe_int (k_call K rfl c__law_take hr (by first | decide | omega) hgd (by rfl) (takes_of rfl rfl rfl rfl) (pa_cons (pv 2) (pa_cons pe_int pa_nil)))) pa_nil))) pa_nil)))) (pg_name (i := 3) nd rfl (by first | exact .inl rfl | exact .inr rfl))
 (pss_cons (ps_set (i := 4) nd rfl (by first | exact .inl rfl | exact .inr rfl) (pe_lst pa_nil))
 (pss_cons (ps_for (passes_of rfl) rfl (pi_range1 (by rfl) n_range (pa_cons (pe_callB (k_len K rfl) (by rfl) n_len (by decide +kernel) (pa_cons (pv 3) pa_nil)) pa_nil)) (pg_name (i := 5) nd rfl (by first | exact .inl rfl | exact .inr rfl))
 (pss_one (ps_set (i := 4) nd rfl (by first | exact .inl rfl | exact .inr rfl) (pe_op (k_add K rfl) (pv 4) (pe_lc (own := [("_law_other", 11)]) rfl nd (pi_range2 (by rfl) n_range (pa_cons (pe_op (k_add K rfl) (pv 5) pe_int) (pa_cons (pe_callB (k_len K rfl) (by rfl) n_len (by decide +kernel) (pa_cons (pv 3) pa_nil)) pa_nil))) (blkOk_by (N := N_law) (sc := defScope st_law) (by decide +kernel)) (fun _ _ _ _ _ => (pg_name (i := 11) nd rfl (by first | exact .inl rfl | exact .inr rfl))) (fun _ _ _ _ _ => pts_nil) (fun _ _ _ _ _ => (pe_tup (pa_cons (pv 5) (pa_cons (pv 11) pa_nil)))))))))
 (pss_cons (ps_setLc (i := 6) (own := [("_law_pair", 10)]) rfl nd rfl rfl (sw_true rfl rfl rfl (by decide +kernel)) (k_plist K rfl (pv 4)) (blkOk_by (N := N_law) (sc := defScope st_law) (by decide +kernel)) (fun _ _ _ _ _ => (pg_name (i := 10) nd rfl (by first | exact .inl rfl | exact .inr rfl))) (fun _ _ _ _ _ => (pts_one (pt_not (pt_val (k_call K rfl c__law_defined hr (by first | decide | omega) hgd (by rfl) takes0 (pa_cons (pv 3) (pa_cons (pe_ix (k_ix K rfl) (pv 10) pe_int (fun _ _ => rfl)) (pa_cons (pe_ix (k_ix K rfl) (pv 10) pe_int (fun _ _ => rfl)) pa_nil)))))))) (fun _ _ _ _ _ => (pv 10)))
 (pss_cons (ps_if (pt_cmpR o_lt (pe_callB (k_len K rfl) (by rfl) n_len (by decide +kernel) (pa_cons (pv 3) pa_nil)) pe_int (nomark _))
 (pss_one (ps_setLc (i := 6) (own := [("_law_pair", 10)]) rfl nd rfl rfl (sw_true rfl rfl rfl (by decide +kernel)) (k_plist K rfl (pv 4)) (blkOk_by (N := N_law) (sc := defScope st_law) (by decide +kernel)) (fun _ _ _ _ _ => (pg_name (i := 10) nd rfl (by first | exact .inl rfl | exact .inr rfl))) (fun _ _ _ _ _ => (pts_one (pt_not (pt_val (k_call K rfl c__law_can_share hr (by first | decide | omega) hgd (by rfl) takes0 (pa_cons (pv 3) (pa_cons (pe_ix (k_ix K rfl) (pv 10) pe_int (fun _ _ => rfl)) (pa_cons (pe_ix (k_ix K rfl) (pv 10) pe_int (fun _ _ => rfl)) pa_nil)))))))) (fun _ _ _ _ _ => (pv 10))))
 pss_nil)
 (pss_cons (ps_set (i := 7) nd rfl (by first | exact .inl rfl | exact .inr rfl) (pe_callB (k_repr K rfl hgd (room64 hr)) (by rfl) n_repr (by decide +kernel) (pa_cons (pv 3) pa_nil)))
 (pss_one (ps_for (passes_of rfl) rfl (pi_range1 (by rfl) n_range (pa_cons pe_int pa_nil)) (pg_name (i := 8) nd rfl (by first | exact .inl rfl | exact .inr rfl))
 (pss_cons (ps_set (i := 9) nd rfl (by first | exact .inl rfl | exact .inr rfl) (k_call K rfl c_conflicts hr (by first | decide | omega) hgd (by rfl) (takes_of rfl rfl rfl rfl) (pa_cons (pv 3) pa_nil)))
 (pss_cons (ps_if (PW.pt (pw_or (pt_cmpR (o_neP K rfl (room64 hr)) (pe_callB (k_repr K rfl hgd (room64 hr)) (by rfl) n_repr (by decide +kernel) (pa_cons (pv 9) pa_nil)) (pe_callB (k_repr K rfl hgd (room64 hr)) (by rfl) n_repr (by decide +kernel) (pa_cons (pv 6) pa_nil)) (nomark _)) (pw_or1 (pt_cmpR (o_neP K rfl (room64 hr)) (pe_callB (k_repr K rfl hgd (room64 hr)) (by rfl) n_repr (by decide +kernel) (pa_cons (pv 3) pa_nil)) (pv 7) (nomark _)))))
 (pss_one (ps_ret pe_bl))
 pss_nil)
 (pss_one (ps_expr (k_bm K rfl PySem.F.plainAttrs_list PySem.F.slot_list_append PySem.F.type_list_append mt_append (pv 9) (pa_cons pe_non pa_nil)))))))))))))))))
 (pss_one (ps_ret (pe_and (pe_cmpR (o_eqP K rfl (room64 hr)) (k_call K rfl c_conflicts hr (by first | decide | omega) hgd (by rfl) (takes_of rfl rfl rfl rfl) (pa_cons (pe_lst (pa_cons pe_int (pa_cons pe_int (pa_cons pe_int pa_nil)))) pa_nil)) (pe_lst (pa_cons (pe_tup (pa_cons pe_int (pa_cons pe_int pa_nil))) pa_nil)) (nomark _)) (pe_and (pe_cmpR (o_eqP K rfl (room64 hr)) (k_call K rfl c_conflicts hr (by first | decide | omega) hgd (by rfl) (takes_of rfl rfl rfl rfl) (pa_cons (pe_lst (pa_cons pe_int (pa_cons pe_int (pa_cons pe_int pa_nil)))) pa_nil)) (pe_lst pa_nil) (nomark _)) (pe_one (pe_cmpR (o_eqP K rfl (room64 hr)) (k_call K rfl c_conflicts hr (by first | decide | omega) hgd (by rfl) (takes_of rfl rfl rfl rfl) (pa_cons (pe_lst pa_nil) pa_nil)) (pe_lst pa_nil) (nomark _)))))))), ?_⟩
  rintro args μ o μ' ⟨ns, hn, rfl, rfl, rfl, rfl⟩
  refine q_forF (items := ((List.range (max 1 (min ns.length 4))).map nD).map .d) (iw_rngN (ea_cons (EV.to (by walk_at "ev") ?_) ea_nil) (by omega)) (fun _ => some (.d (.fz ns)) :: List.replicate 11 none) (fun _ _ => True) (by walk_at "fg") trivial (fun i d μ2 hd _ => ?_) (fun μ2 _ => ?_)
  · exact congrArg (fun z => AV.d (.int z)) (by omega)
  · obtain ⟨k, rfl, hk⟩ := map_getG hd
    have hk : k < 4 := by have := List.mem_range.mp (List.mem_of_getElem? hk); omega
    refine ⟨_, _, gv_name, ?_⟩
    refine q_asgN (en_c2 (by walk_at "ea") ⟨ns, (k : Nat), by omega, by omega, rfl, rfl, rfl, rfl⟩) ?_
    show SV K _ _ _ (μ2 ++ [poolC _ _]) _
    have b0 := poolB_b0 ns (k : Nat)
    have b1 := poolB_b1 ns (k : Nat)
    generalize poolA ns (k : Nat) = A0
    generalize poolB ns (k : Nat) = B0 at b0 b1
    have b2 := takeM_b0 (a := A0) (n := 7) b0
    have b3 := takeM_b1 (a := A0) (n := 7) b1
    have r1 := drawN_lt (a := A0) (b := B0) (n := 7) (by decide)
    have o1 := ordO_ok (a := (takeM A0 B0 7).2.1) (m := drawN A0 B0 7) b2 b3
    have s1 := ordAt_ok (a := (takeM A0 B0 7).2.1) b2 b3 (Nat.le_refl (drawN A0 B0 7))
    generalize hS : ordAt (takeM A0 B0 7).2.1 (takeM A0 B0 7).2.2 (drawN A0 B0 7) (drawN A0 B0 7) = S at s1
    have b4 := takeM_b0 (a := S.a) (n := 3) s1.b0
    have b5 := takeM_b1 (a := S.a) (n := 3) s1.b1
    have r2 := drawN_lt (a := S.a) (b := S.b) (n := 3) (by decide)
    have o2 := ordO_ok (a := (takeM S.a S.b 3).2.1) (m := 7 + drawN S.a S.b 3) b4 b5
    refine sv_forF (items := ([ordO (takeM A0 B0 7).2.1 (takeM A0 B0 7).2.2 (drawN A0 B0 7), ordO (takeM S.a S.b 3).2.1 (takeM S.a S.b 3).2.2 (7 + drawN S.a S.b 3)].map nL).map .d)
      (iw_list (ev_l2 (ea_cons (EN.ev (en_call1L (cargs := [.cell 0, .d (nD (drawN A0 B0 7))]) (c := poolC (takeM A0 B0 7).2.1 (takeM A0 B0 7).2.2) (c' := poolC S.a S.b)
          (ea_cons (ev_var rfl) (ea_cons ((ev_call1L (cargs := [.cell 0, .d (.int 7)]) (c := poolC A0 B0) (ea_cons (ev_var rfl) (ea_cons ev_int ea_nil)) ⟨A0, B0, 7, by decide, by decide, b0, b1, rfl, rfl, rfl, rfl⟩).to ?_) ea_nil)) ⟨_, _, drawN A0 B0 7, by omega, b2, b3, rfl, rfl, rfl, by rw [hS]⟩))
        (ea_cons (EN.ev (en_call1L (cargs := [.cell 0, .d (nD (7 + drawN S.a S.b 3))]) (c := poolC (takeM S.a S.b 3).2.1 (takeM S.a S.b 3).2.2)
          (ea_cons (ev_var rfl) (ea_cons (ev_op ev_int ((ev_call1L (cargs := [.cell 0, .d (.int 3)]) (c := poolC S.a S.b) (ea_cons (ev_var rfl) (ea_cons ev_int ea_nil)) ⟨S.a, S.b, 3, by decide, by decide, s1.b0, s1.b1, rfl, rfl, rfl, rfl⟩).to ?_) (b_addN (m := 7))) ea_nil)) ⟨_, _, 7 + drawN S.a S.b 3, by omega, b4, b5, rfl, rfl, rfl, rfl⟩)) ea_nil))))
      (fun _ => some (.d (.fz ns)) :: List.replicate 11 none) (fun _ _ => True) (by walk_at "fg") trivial (fun j d μ3 hd _ => ?_) (fun ρ1 μ3 f _ => ⟨f, trivial⟩)
    · exact congrArg (fun z => AV.d (.int z)) (drawN_eq (n := 7) (by decide))
    · exact congrArg (fun z => AV.d (.int z)) (drawN_eq (n := 3) (by decide))
    obtain ⟨os, rfl, hos⟩ := map_getG hd
    have hos : os.Perm (List.range os.length) ∧ os.length ≤ 9 := by
      have := List.mem_of_getElem? hos
      rcases List.mem_cons.mp this with q | q
      · rw [q, o1.1]; exact ⟨o1.2, by omega⟩
      · rw [List.mem_singleton.mp q, o2.1]; exact ⟨o2.2, by omega⟩
    clear hd o1 o2 b2 b3 b4 b5 r1 r2 s1 hS b0 b1
    obtain ⟨hp, hl⟩ := hos
    have hm : ∀ p ∈ allPairs os.length, p.1 ∈ os ∧ p.2 ∈ os := fun p h => by
      have := mem_allPairs h
      exact ⟨hp.mem_iff.mpr (List.mem_range.mpr (by omega)), hp.mem_iff.mpr (List.mem_range.mpr (by omega))⟩
    have hlen : (allPairs os.length).length ≤ 100 := by
      have := pairsTo_len os.length os.length
      have : os.length * os.length ≤ 9 * 9 := Nat.mul_le_mul hl hl
      show (pairsTo os.length os.length).length ≤ 100
      omega
    refine ⟨_, _, gv_name, ?_⟩
    refine q_asg ev_l0 ?_
    refine q_forF (items := ((List.range os.length).map nD).map .d) (iw_rngN (by walk_at "ea") (by omega)) (fun i => [some (.d (.fz ns)), none, none, some (.d (nL os)), some (.d (.lst ((pairsTo os.length i).map pD))), none, none, none, none, none, none, none]) (fun _ _ => True) (by walk_at "fg") trivial (fun i d μ4 hd _ => ?_) (fun μ4 _ => ?_)
    · obtain ⟨a, rfl, hk⟩ := map_getG hd
      have ha : i < os.length ∧ a = i := by
        have q := List.getElem?_eq_some_iff.mp hk
        obtain ⟨q1, q2⟩ := q
        rw [List.getElem_range] at q2
        rw [List.length_range] at q1
        exact ⟨q1, q2.symm⟩
      obtain ⟨hi, rfl⟩ := ha
      refine ⟨_, _, gv_name, ?_⟩
      refine sv_asg (μ1 := μ4) (x := .d (.lst ((pairsTo os.length (a + 1)).map pD))) (ev_op (y := .d (.lst (((List.range' (a + 1) (os.length - (a + 1))).map fun b => (a, b)).map pD))) (ev_var rfl) (EN.ev ((en_mapG (tD := nD) (as := List.range' (a + 1) (os.length - (a + 1))) (fun b => pD (a, b)) (iw_rngN2 (by walk_at "ea") (by omega) (by omega)) (by simp) (by simp; omega) fun b hb => by walk_at "ev").to ?_)) (RVN.rv ?_)) ⟨by walk_at "fg", trivial⟩
      · rw [List.map_map (g := pD)]; rfl
      · have q := pairsTo_len os.length (a + 1)
        have q2 : os.length * (a + 1) ≤ 9 * 9 := Nat.mul_le_mul hl (by omega)
        rw [pairsTo_succ, List.length_append] at q
        rw [pairsTo_succ, List.map_append]
        exact b_addL (by rw [List.length_map, List.length_map]; omega)
    · rw [List.length_map, List.length_map, List.length_range]
      show SV K _ _ [some (.d (.fz ns)), none, none, some (.d (nL os)), some (.d (.lst ((allPairs os.length).map pD))), none, none, none, none, none, none, none] μ4 _
      refine q_asg (x := .d (.lst (((allPairs os.length).filter fun p => !defd os p.1 p.2).map pD))) (EN.ev (en_filterG (tD := pD) (as := allPairs os.length) (fun p => !defd os p.1 p.2) pD (iw_list (ev_var rfl)) (by simp) (by omega) (fun p hpp => ?_) fun p hpp _ => ev_var rfl)) ?_
      · exact et_not (et_B (ev_c3 (by walk_at "ea") ⟨os, p.1, p.2, hl, (hm p hpp).1, (hm p hpp).2, rfl, rfl, rfl, rfl⟩))
      refine q_ifAsg (b := decide (os.length < 7)) (x := .d (.lst (((allPairs os.length).filter fun p => !defd os p.1 p.2).map pD))) (ET.to (by walk_at "et") (decide_eq_decide.mpr (by omega))) (fun e => ?_) (fun e => rfl) ?_
      · have e := of_decide_eq_true e
        rw [← pairs_share hp e]
        refine EN.ev (en_filterG (tD := pD) (as := allPairs os.length) (fun p => !shareM os p.1 p.2) pD (iw_list (ev_var rfl)) (by simp) (by omega) (fun p hpp => ?_) fun p hpp _ => ev_var rfl)
        have hq := mem_allPairs hpp
        exact et_not (et_B (ev_c3 (by walk_at "ea") ⟨os, p.1, p.2, hp, by omega, by omega, hq.2, rfl, rfl, rfl, rfl⟩))
      have shos := sh_os hp hl
      have shps : Sh (.lst ((pairsOf os).map pD)) 2000 2 := by
        rw [pairs_due hp]
        exact sh_ps hl (fun p h => (List.mem_filter.mp h).1) (Nat.le_trans (List.length_filter_le _ _) hlen)
      rw [← pairs_due hp]
      refine q_asg (ev_cb (ea_cons (ev_var rfl) ea_nil) (b_reprS shos (by decide) (by decide))) ?_
      refine sv_forF (items := ((List.range 2).map nD).map .d) (iw_rngN (ea_cons ev_int ea_nil) (by omega)) (fun _ => [some (.d (.fz ns)), none, none, some (.d (nL os)), none, none, some (.d (.lst ((pairsOf os).map pD))), some (.d (.str (nL os).shown)), none, none, none, none]) (fun _ _ => True) (by walk_at "fg") trivial (fun i d μ5 hd _ => ?_) (fun ρ1 μ5 f _ => ⟨?_, trivial⟩)
      · obtain ⟨a, rfl, hk⟩ := map_getG hd
        refine ⟨_, _, gv_name, ?_⟩
        refine q_asgN (en_c1 (by walk_at "ea") ⟨os, hl, hp, rfl, rfl, rfl, rfl⟩) ?_
        refine q_skip (ET.to (et_or2 (b := false) (c := false) (ET.to (et_test (ev_op (ev_cb (ea_cons (ev_var rfl) ea_nil) (rc_thaw (b_reprS shps (by decide) (by decide)) rfl (.cons (.lst get_last) .nil))) (ev_cb (ea_cons (ev_var rfl) ea_nil) (b_reprS shps (by decide) (by decide))) b_neS)) (by simp)) fun _ => ET.to (et_test (ev_op (ev_cb (ea_cons (ev_var rfl) ea_nil) (b_reprS shos (by decide) (by decide))) (ev_var rfl) b_neS)) (by simp)) rfl) ?_
        refine sv_drop (ev_append (ev_var rfl) ev_non get_last get_last (by have := pairsOf_len hl; simp only [List.length_map]; omega)) ⟨by walk_at "fg", trivial⟩
      · exact fgt_trans f (by walk_at "fg")
  · refine sv_ret (x := .d (.bl true)) (ev_and2 (b := true) (c := true) ?_ fun _ => ev_and2 (b := true) (c := true) ?_ fun _ => ?_) (.inl ⟨_, .data (new := _), rfl⟩)
    · exact EV.to (ev_op (EN.ev (en_c1 (ea_cons (show EV K _ _ _ (.d (nL [2, 0, 1])) _ from (ev_l3 (ea_cons ev_int (ea_cons ev_int (ea_cons ev_int ea_nil))))) ea_nil) ⟨[2, 0, 1], by decide, by decide, rfl, rfl, rfl, rfl⟩)) (ev_l1 (ea_cons (ev_t2 (ea_cons ev_int (ea_cons ev_int ea_nil))) ea_nil)) (b_eqT (α := List (Nat × Nat)) (pairsOf [2, 0, 1]) [(0, 1)])) rfl
    · exact EV.to (ev_op (EN.ev (en_c1 (ea_cons (show EV K _ _ _ (.d (nL [0, 1, 2])) _ from (ev_l3 (ea_cons ev_int (ea_cons ev_int (ea_cons ev_int ea_nil))))) ea_nil) ⟨[0, 1, 2], by decide, by decide, rfl, rfl, rfl, rfl⟩)) ev_l0 (b_eqT (α := List (Nat × Nat)) (pairsOf [0, 1, 2]) [])) rfl
    · exact EV.to (ev_op (EN.ev (en_c1 (ea_cons (show EV K _ _ _ (.d (nL [])) _ from ev_l0) ea_nil) ⟨[], by decide, by decide, rfl, rfl, rfl, rfl⟩)) ev_l0 (b_eqT (α := List (Nat × Nat)) (pairsOf []) [])) rfl
end
end Law

open PySem PySem.Spec PyProof.Rows L2 DL in
theorem Law.all_mk {l : PySem.W.OpenLaw} {w : World} {K : PySem.W.Frag} {h : Heap} {mg : Str → Option Value} {fa f0 f1 f2 f3 f4 f5 f6 f7 f8 f9 f10 f11 : Addr} (X : K.In h) (G : h.Ns mainGlobals mg) (hfa : mg "law" = some (.ref fa))
    {od0 an0 : Option Addr} {sl0 : Array (Option Value)} {oc0 kV0 dc0 pm0 cd0 ct0 : Value}
    (a0 : PySem.W.nsIn K mainGlobals "_law_pool" = some (some (.ref f0))) (l0 : K.lookup f0 = some ⟨oc0, od0, .func (PySem.W.fnOf "_law_pool" "_law_pool" (defArgs Law.st__law_pool) (defBody Law.st__law_pool) (defScope Law.st__law_pool) .none kV0 dc0 pm0 an0 cd0 ct0), sl0⟩) (c0 : PySem.W.codeIn K cd0 "_law_pool" = true) (k0 : PySem.W.keepIn K (.ref f0) = true)
    {od1 an1 : Option Addr} {sl1 : Array (Option Value)} {oc1 kV1 dc1 pm1 cd1 ct1 : Value}
    (a1 : PySem.W.nsIn K mainGlobals "_law_take" = some (some (.ref f1))) (l1 : K.lookup f1 = some ⟨oc1, od1, .func (PySem.W.fnOf "_law_take" "_law_take" (defArgs Law.st__law_take) (defBody Law.st__law_take) (defScope Law.st__law_take) .none kV1 dc1 pm1 an1 cd1 ct1), sl1⟩) (c1 : PySem.W.codeIn K cd1 "_law_take" = true) (k1 : PySem.W.keepIn K (.ref f1) = true)
    {od2 an2 : Option Addr} {sl2 : Array (Option Value)} {oc2 kV2 dc2 pm2 cd2 ct2 : Value}
    (a2 : PySem.W.nsIn K mainGlobals "is_integer" = some (some (.ref f2))) (l2 : K.lookup f2 = some ⟨oc2, od2, .func (PySem.W.fnOf "is_integer" "is_integer" (defArgs Law.st_is_integer) (defBody Law.st_is_integer) (defScope Law.st_is_integer) .none kV2 dc2 pm2 an2 cd2 ct2), sl2⟩) (c2 : PySem.W.codeIn K cd2 "is_integer" = true) (k2 : PySem.W.keepIn K (.ref f2) = true)
    {od3 an3 : Option Addr} {sl3 : Array (Option Value)} {oc3 kV3 dc3 pm3 cd3 ct3 : Value}
    (a3 : PySem.W.nsIn K mainGlobals "check_order" = some (some (.ref f3))) (l3 : K.lookup f3 = some ⟨oc3, od3, .func (PySem.W.fnOf "check_order" "check_order" (defArgs Law.st_check_order) (defBody Law.st_check_order) (defScope Law.st_check_order) .none kV3 dc3 pm3 an3 cd3 ct3), sl3⟩) (c3 : PySem.W.codeIn K cd3 "check_order" = true) (k3 : PySem.W.keepIn K (.ref f3) = true)
    {od4 an4 : Option Addr} {sl4 : Array (Option Value)} {oc4 kV4 dc4 pm4 cd4 ct4 : Value}
    (a4 : PySem.W.nsIn K mainGlobals "is_conflict" = some (some (.ref f4))) (l4 : K.lookup f4 = some ⟨oc4, od4, .func (PySem.W.fnOf "is_conflict" "is_conflict" (defArgs Law.st_is_conflict) (defBody Law.st_is_conflict) (defScope Law.st_is_conflict) .none kV4 dc4 pm4 an4 cd4 ct4), sl4⟩) (c4 : PySem.W.codeIn K cd4 "is_conflict" = true) (k4 : PySem.W.keepIn K (.ref f4) = true)
    {od5 an5 : Option Addr} {sl5 : Array (Option Value)} {oc5 kV5 dc5 pm5 cd5 ct5 : Value}
    (a5 : PySem.W.nsIn K mainGlobals "conflict_pairs" = some (some (.ref f5))) (l5 : K.lookup f5 = some ⟨oc5, od5, .func (PySem.W.fnOf "conflict_pairs" "conflict_pairs" (defArgs Law.st_conflict_pairs) (defBody Law.st_conflict_pairs) (defScope Law.st_conflict_pairs) .none kV5 dc5 pm5 an5 cd5 ct5), sl5⟩) (c5 : PySem.W.codeIn K cd5 "conflict_pairs" = true) (k5 : PySem.W.keepIn K (.ref f5) = true)
    {od6 an6 : Option Addr} {sl6 : Array (Option Value)} {oc6 kV6 dc6 pm6 cd6 ct6 : Value}
    (a6 : PySem.W.nsIn K mainGlobals "conflicts" = some (some (.ref f6))) (l6 : K.lookup f6 = some ⟨oc6, od6, .func (PySem.W.fnOf "conflicts" "conflicts" (defArgs Law.st_conflicts) (defBody Law.st_conflicts) (defScope Law.st_conflicts) .none kV6 dc6 pm6 an6 cd6 ct6), sl6⟩) (c6 : PySem.W.codeIn K cd6 "conflicts" = true) (k6 : PySem.W.keepIn K (.ref f6) = true)
    {od7 an7 : Option Addr} {sl7 : Array (Option Value)} {oc7 kV7 dc7 pm7 cd7 ct7 : Value}
    (a7 : PySem.W.nsIn K mainGlobals "_law_order" = some (some (.ref f7))) (l7 : K.lookup f7 = some ⟨oc7, od7, .func (PySem.W.fnOf "_law_order" "_law_order" (defArgs Law.st__law_order) (defBody Law.st__law_order) (defScope Law.st__law_order) .none kV7 dc7 pm7 an7 cd7 ct7), sl7⟩) (c7 : PySem.W.codeIn K cd7 "_law_order" = true) (k7 : PySem.W.keepIn K (.ref f7) = true)
    {od8 an8 : Option Addr} {sl8 : Array (Option Value)} {oc8 kV8 dc8 pm8 cd8 ct8 : Value}
    (a8 : PySem.W.nsIn K mainGlobals "_law_defined" = some (some (.ref f8))) (l8 : K.lookup f8 = some ⟨oc8, od8, .func (PySem.W.fnOf "_law_defined" "_law_defined" (defArgs Law.st__law_defined) (defBody Law.st__law_defined) (defScope Law.st__law_defined) .none kV8 dc8 pm8 an8 cd8 ct8), sl8⟩) (c8 : PySem.W.codeIn K cd8 "_law_defined" = true) (k8 : PySem.W.keepIn K (.ref f8) = true)
    {od9 an9 : Option Addr} {sl9 : Array (Option Value)} {oc9 kV9 dc9 pm9 cd9 ct9 : Value}
    (a9 : PySem.W.nsIn K mainGlobals "_law_produces" = some (some (.ref f9))) (l9 : K.lookup f9 = some ⟨oc9, od9, .func (PySem.W.fnOf "_law_produces" "_law_produces" (defArgs Law.st__law_produces) (defBody Law.st__law_produces) (defScope Law.st__law_produces) .none kV9 dc9 pm9 an9 cd9 ct9), sl9⟩) (c9 : PySem.W.codeIn K cd9 "_law_produces" = true) (k9 : PySem.W.keepIn K (.ref f9) = true)
    {od10 an10 : Option Addr} {sl10 : Array (Option Value)} {oc10 kV10 dc10 pm10 cd10 ct10 : Value}
    (a10 : PySem.W.nsIn K mainGlobals "_law_can_share" = some (some (.ref f10))) (l10 : K.lookup f10 = some ⟨oc10, od10, .func (PySem.W.fnOf "_law_can_share" "_law_can_share" (defArgs Law.st__law_can_share) (defBody Law.st__law_can_share) (defScope Law.st__law_can_share) .none kV10 dc10 pm10 an10 cd10 ct10), sl10⟩) (c10 : PySem.W.codeIn K cd10 "_law_can_share" = true) (k10 : PySem.W.keepIn K (.ref f10) = true)
    {od11 an11 : Option Addr} {sl11 : Array (Option Value)} {oc11 kV11 dc11 pm11 cd11 ct11 : Value}
    (a11 : PySem.W.nsIn K mainGlobals "law" = some (some (.ref f11))) (l11 : K.lookup f11 = some ⟨oc11, od11, .func (PySem.W.fnOf "law" "law" (defArgs Law.st_law) (defBody Law.st_law) (defScope Law.st_law) .none kV11 dc11 pm11 an11 cd11 ct11), sl11⟩) (c11 : PySem.W.codeIn K cd11 "law" = true) (k11 : PySem.W.keepIn K (.ref f11) = true)
    (z_int : PySem.W.nsIn K mainGlobals "int" = some none)
    (z_abs : PySem.W.nsIn K mainGlobals "abs" = some none)
    (z_len : PySem.W.nsIn K mainGlobals "len" = some none)
    (z_isinstance : PySem.W.nsIn K mainGlobals "isinstance" = some none)
    (z_bool : PySem.W.nsIn K mainGlobals "bool" = some none)
    (z_sorted : PySem.W.nsIn K mainGlobals "sorted" = some none)
    (z_range : PySem.W.nsIn K mainGlobals "range" = some none)
    (z_list : PySem.W.nsIn K mainGlobals "list" = some none)
    (z_all : PySem.W.nsIn K mainGlobals "all" = some none)
    (z_any : PySem.W.nsIn K mainGlobals "any" = some none)
    (z_max : PySem.W.nsIn K mainGlobals "max" = some none)
    (z_min : PySem.W.nsIn K mainGlobals "min" = some none)
    (z_repr : PySem.W.nsIn K mainGlobals "repr" = some none)
    {u_MOST_ARRIVING : _} (y_MOST_ARRIVING : PySem.W.nsIn K mainGlobals "MOST_ARRIVING" = some (some (.int 9 u_MOST_ARRIVING)))
    : ∃ fd : FuncData, (∀ (s : Shared) (v : Value), BindsTo s fd ⟨[v], []⟩ [("_law_script", v)]) ∧ ∀ base : Heap, K.In base → base.Ns mainGlobals mg → FnG l.prog w K mg base 16 fa fd ["_law_script"] (SpR K lawR) := by
  have e := hfa.symm.trans (PySem.W.mg_of X G a11)
  cases e
  refine ⟨PySem.W.fnOf "law" "law" (defArgs Law.st_law) (defBody Law.st_law) (defScope Law.st_law) .none kV11 dc11 pm11 an11 cd11 ct11, fun s v => .of_eq rfl, fun base _ _ => ?_⟩
  have n_int := PySem.W.mg_none_of X G z_int
  have n_abs := PySem.W.mg_none_of X G z_abs
  have n_len := PySem.W.mg_none_of X G z_len
  have n_isinstance := PySem.W.mg_none_of X G z_isinstance
  have n_bool := PySem.W.mg_none_of X G z_bool
  have n_sorted := PySem.W.mg_none_of X G z_sorted
  have n_range := PySem.W.mg_none_of X G z_range
  have n_list := PySem.W.mg_none_of X G z_list
  have n_all := PySem.W.mg_none_of X G z_all
  have n_any := PySem.W.mg_none_of X G z_any
  have n_max := PySem.W.mg_none_of X G z_max
  have n_min := PySem.W.mg_none_of X G z_min
  have n_repr := PySem.W.mg_none_of X G z_repr
  have g_MOST_ARRIVING : ∃ u, mg "MOST_ARRIVING" = some (.int 9 u) := ⟨_, PySem.W.mg_of X G y_MOST_ARRIVING⟩
  have F0 : Def K mg "_law_pool" Law.st__law_pool _ _ := ⟨fun_mk (st := Law.st__law_pool) l0 c0 k0, PySem.W.mg_of X G a0⟩
  have b0 := F0.fn.binds (ps := ["_law_script", "_law_k"]) fun _ _ _ _ _ _ us hl => match us, hl with | [_, _], _ => rfl
  have c__law_pool : Cal l.prog w K mg base 1 "_law_pool" (SpR K Law.R__law_pool) := Law.ok__law_pool F0 b0 (n_int := n_int) (n_abs := n_abs) (n_len := n_len)
  have F1 : Def K mg "_law_take" Law.st__law_take _ _ := ⟨fun_mk (st := Law.st__law_take) l1 c1 k1, PySem.W.mg_of X G a1⟩
  have b1 := F1.fn.binds (ps := ["_law_pool_here", "_law_many"]) fun _ _ _ _ _ _ us hl => match us, hl with | [_, _], _ => rfl
  have c__law_take : Cal l.prog w K mg base 1 "_law_take" (SpR K Law.R__law_take) := Law.ok__law_take F1 b1 
  have F2 : Def K mg "is_integer" Law.st_is_integer _ _ := ⟨fun_mk (st := Law.st_is_integer) l2 c2 k2, PySem.W.mg_of X G a2⟩
  have b2 := F2.fn.binds (ps := ["value"]) fun _ _ _ _ _ _ us hl => match us, hl with | [_], _ => rfl
  have c_is_integer : Cal l.prog w K mg base 1 "is_integer" (SpR K Law.R_is_integer) := Law.ok_is_integer F2 b2 (n_isinstance := n_isinstance) (n_bool := n_bool) (n_int := n_int)
  have F3 : Def K mg "check_order" Law.st_check_order _ _ := ⟨fun_mk (st := Law.st_check_order) l3 c3 k3, PySem.W.mg_of X G a3⟩
  have b3 := F3.fn.binds (ps := ["order"]) fun _ _ _ _ _ _ us hl => match us, hl with | [_], _ => rfl
  have c_check_order : Cal l.prog w K mg base 2 "check_order" (SpR K Law.R_check_order) := Law.ok_check_order F3 b3 (n_sorted := n_sorted) (n_range := n_range) (n_len := n_len) (n_list := n_list) (n_all := n_all) (c_is_integer := c_is_integer) (g_MOST_ARRIVING := g_MOST_ARRIVING) (n_isinstance := n_isinstance)
  have F4 : Def K mg "is_conflict" Law.st_is_conflict _ _ := ⟨fun_mk (st := Law.st_is_conflict) l4 c4 k4, PySem.W.mg_of X G a4⟩
  have b4 := F4.fn.binds (ps := ["order", "one", "other"]) fun _ _ _ _ _ _ us hl => match us, hl with | [_, _, _], _ => rfl
  have c_is_conflict : Cal l.prog w K mg base 1 "is_conflict" (SpR K Law.R_is_conflict) := Law.ok_is_conflict F4 b4 (n_any := n_any)
  have F5 : Def K mg "conflict_pairs" Law.st_conflict_pairs _ _ := ⟨fun_mk (st := Law.st_conflict_pairs) l5 c5 k5, PySem.W.mg_of X G a5⟩
  have b5 := F5.fn.binds (ps := ["order"]) fun _ _ _ _ _ _ us hl => match us, hl with | [_], _ => rfl
  have c_conflict_pairs : Cal l.prog w K mg base 2 "conflict_pairs" (SpR K Law.R_conflict_pairs) := Law.ok_conflict_pairs F5 b5 (c_is_conflict := c_is_conflict) (n_range := n_range) (n_len := n_len) (n_list := n_list)
  have F6 : Def K mg "conflicts" Law.st_conflicts _ _ := ⟨fun_mk (st := Law.st_conflicts) l6 c6 k6, PySem.W.mg_of X G a6⟩
  have b6 := F6.fn.binds (ps := ["order"]) fun _ _ _ _ _ _ us hl => match us, hl with | [_], _ => rfl
  have c_conflicts : Cal l.prog w K mg base 3 "conflicts" (SpR K Law.R_conflicts) := Law.ok_conflicts F6 b6 (c_conflict_pairs := c_conflict_pairs) (c_check_order := c_check_order)
  have F7 : Def K mg "_law_order" Law.st__law_order _ _ := ⟨fun_mk (st := Law.st__law_order) l7 c7 k7, PySem.W.mg_of X G a7⟩
  have b7 := F7.fn.binds (ps := ["_law_pool_here", "_law_many"]) fun _ _ _ _ _ _ us hl => match us, hl with | [_, _], _ => rfl
  have c__law_order : Cal l.prog w K mg base 2 "_law_order" (SpR K Law.R__law_order) := Law.ok__law_order F7 b7 (n_range := n_range) (c__law_take := c__law_take) (n_len := n_len) (n_list := n_list)
  have F8 : Def K mg "_law_defined" Law.st__law_defined _ _ := ⟨fun_mk (st := Law.st__law_defined) l8 c8 k8, PySem.W.mg_of X G a8⟩
  have b8 := F8.fn.binds (ps := ["_law_order_here", "_law_one", "_law_other"]) fun _ _ _ _ _ _ us hl => match us, hl with | [_, _, _], _ => rfl
  have c__law_defined : Cal l.prog w K mg base 1 "_law_defined" (SpR K Law.R__law_defined) := Law.ok__law_defined F8 b8 
  have F9 : Def K mg "_law_produces" Law.st__law_produces _ _ := ⟨fun_mk (st := Law.st__law_produces) l9 c9 k9, PySem.W.mg_of X G a9⟩
  have b9 := F9.fn.binds (ps := ["_law_order_here", "_law_where", "_law_arrived", "_law_gone", "_law_piles"]) fun _ _ _ _ _ _ us hl => match us, hl with | [_, _, _, _, _], _ => rfl
  have c__law_produces : Cal l.prog w K mg base 14 "_law_produces" (SpR K Law.R__law_produces) := Law.prod_all F9 b9 n_len n_list 13
  have F10 : Def K mg "_law_can_share" Law.st__law_can_share _ _ := ⟨fun_mk (st := Law.st__law_can_share) l10 c10 k10, PySem.W.mg_of X G a10⟩
  have b10 := F10.fn.binds (ps := ["_law_order_here", "_law_one", "_law_other"]) fun _ _ _ _ _ _ us hl => match us, hl with | [_, _, _], _ => rfl
  have c__law_can_share : Cal l.prog w K mg base 15 "_law_can_share" (SpR K Law.R__law_can_share) := Law.ok__law_can_share F10 b10 (c__law_produces := c__law_produces) (n_range := n_range) (n_len := n_len)
  have F11 : Def K mg "law" Law.st_law _ _ := ⟨fun_mk (st := Law.st_law) l11 c11 k11, PySem.W.mg_of X G a11⟩
  have b11 := F11.fn.binds (ps := ["_law_script"]) fun _ _ _ _ _ _ us hl => match us, hl with | [_], _ => rfl
  exact Law.ok_law F11.fn (c_conflicts := c_conflicts) (n_range := n_range) (n_max := n_max) (n_min := n_min) (n_len := n_len) (c__law_order := c__law_order) (c__law_take := c__law_take) (n_repr := n_repr) (c__law_can_share := c__law_can_share) (c__law_defined := c__law_defined) (c__law_pool := c__law_pool)
open PySem PySem.W PyProof.Rows
set_option maxHeartbeats 0 in
theorem PySem.Challenge.cw_stackeffect_k54_conflicts_of_items_holds : PySem.Challenge.rw_stackeffect_k54_conflicts_of_items.Holds := by
  w_on; o_law; k_head; (case hw => w_witness2)
  k_fill
  refine DL.end_g (l := PySem.Challenge.rw_stackeffect_k54_conflicts_of_items) (k := 16) (x := "_law_script") rfl rfl ⟨rfl, by decide, by decide⟩ (fun w h Y => PySem.W.kIn_of Y) ?F
  case F =>
    intro w mg fa h KX G hmg
    refine' Law.all_mk KX G hmg ?a0 ?l0 ?c0 ?k0 ?a1 ?l1 ?c1 ?k1 ?a2 ?l2 ?c2 ?k2 ?a3 ?l3 ?c3 ?k3 ?a4 ?l4 ?c4 ?k4 ?a5 ?l5 ?c5 ?k5 ?a6 ?l6 ?c6 ?k6 ?a7 ?l7 ?c7 ?k7 ?a8 ?l8 ?c8 ?k8 ?a9 ?l9 ?c9 ?k9 ?a10 ?l10 ?c10 ?k10 ?a11 ?l11 ?c11 ?k11 ?z_int ?z_abs ?z_len ?z_isinstance ?z_bool ?z_sorted ?z_range ?z_list ?z_all ?z_any ?z_max ?z_min ?z_repr ?y_MOST_ARRIVING
    (case a0 => k_is)
    (case l0 => k_is)
    (case c0 => k_is)
    (case k0 => k_is)
    (case a1 => k_is)
    (case l1 => k_is)
    (case c1 => k_is)
    (case k1 => k_is)
    (case a2 => k_is)
    (case l2 => k_is)
    (case c2 => k_is)
    (case k2 => k_is)
    (case a3 => k_is)
    (case l3 => k_is)
    (case c3 => k_is)
    (case k3 => k_is)
    (case a4 => k_is)
    (case l4 => k_is)
    (case c4 => k_is)
    (case k4 => k_is)
    (case a5 => k_is)
    (case l5 => k_is)
    (case c5 => k_is)
    (case k5 => k_is)
    (case a6 => k_is)
    (case l6 => k_is)
    (case c6 => k_is)
    (case k6 => k_is)
    (case a7 => k_is)
    (case l7 => k_is)
    (case c7 => k_is)
    (case k7 => k_is)
    (case a8 => k_is)
    (case l8 => k_is)
    (case c8 => k_is)
    (case k8 => k_is)
    (case a9 => k_is)
    (case l9 => k_is)
    (case c9 => k_is)
    (case k9 => k_is)
    (case a10 => k_is)
    (case l10 => k_is)
    (case c10 => k_is)
    (case k10 => k_is)
    (case a11 => k_is)
    (case l11 => k_is)
    (case c11 => k_is)
    (case k11 => k_is)
    (case z_int => k_is)
    (case z_abs => k_is)
    (case z_len => k_is)
    (case z_isinstance => k_is)
    (case z_bool => k_is)
    (case z_sorted => k_is)
    (case z_range => k_is)
    (case z_list => k_is)
    (case z_all => k_is)
    (case z_any => k_is)
    (case z_max => k_is)
    (case z_min => k_is)
    (case z_repr => k_is)
    (case y_MOST_ARRIVING => k_is)
