import PyProof.Rows.All
import Wide.All
import OpenK.AllK
import Wide.FinOn
import HandS.ForMost
import HandS.Exc
import HandS.ExcOwn
import HandS.TryOnly
import HandS.WordsExc
import HandS.Walk
import HandS.TupAny
import HandS.IsInst
import HandS.SortInts
import HandS.RaiseMore
import HandS.Conv
import HandS.Style
import KE.DataEq
import HandS.ExcField
import HandS.ExcIs
import KE.KExcIs
import KE.GoesMore
import PyProof.EnumMake
import HandS.TupMul
import HandS.Star
import HandS.GenList
import HandS.Defaults
import HandS.Dict
import PyProof.EqKinds
import PyProof.FactsAll.dict_1
import PyProof.FactsAll.subtypes_3
import PyProof.FactsAll.subtypes_4
import HandS.Text
import PySem.Challenge.RW_stackeffect_k01_items_words_sequences
set_option Elab.async false
set_option linter.all false
set_option maxRecDepth 100000
set_option maxHeartbeats 4000000
/-! DL0: plain data D over the tracked heap, cells (things that change), and what stays. -/
namespace DL
open PySem PySem.Spec PyProof.Rows L2
/-- plain data: never changed once made; fz: the script (a list that stands in the module or is locked); raw: any value as it is; ins: an instance that stays as it is; exc: a caught exception, its class, its dict -/
inductive D where
  | non | bl (b : Bool) | int (i : Int) | str (x : Str) | lst (xs : List D) | tup (xs : List D) | dct (kvs : List (Key × D)) | fz (ns : List Int) | raw (v : V) | ins (C : Addr) (fs : List (Str × D)) | exc (c : Value) (a : Addr) (d : Option Addr) (fs : List (Str × D))
/-- what a name may hold: data, or the k-th cell -/
inductive AV where
  | d (x : D) | cell (k : Nat)
/-- what a cell holds -/
inductive CC where
  | lst (xs : List AV) | dct (kvs : List (Key × AV)) | ins (C : Addr) (fs : List (Str × AV))
abbrev Slots := List (Option AV)
section
variable (K : PySem.W.Frag) (Z : List Addr) (H : Hp)
mutual
/-- v stands for d, all its objects outside Z -/
inductive Rp : V → D → Prop
  | non : Rp .non .non
  | bl (b : Bool) : Rp (.bl b) (.bl b)
  | int (i : Int) : Rp (.int i) (.int i)
  | str (x : Str) : Rp (.str x) (.str x)
  | lst {a : Addr} {vs : List V} {ds : List D} : a ∉ Z → H a = some (.lst vs) → RpA vs ds → Rp (.ref a) (.lst ds)
  | tup {a : Addr} {vs : List V} {ds : List D} : a ∉ Z → H a = some (.tup vs) → RpA vs ds → Rp (.ref a) (.tup ds)
  | dct {a : Addr} {ks : List (Key × V)} {es : List (Key × D)} : a ∉ Z → H a = some (.dK ks) → RpK ks es → Rp (.ref a) (.dct es)
  | fzT {a : Addr} {o : Obj} {ns : List Int} : a ∉ Z → H a = some (.frz o (.lst (ns.map V.int))) → Rp (.ref a) (.fz ns)
  | fzK {a : Addr} {ns : List Int} : (∃ (o : Obj) (its : Array Value) (n : Nat), K.lookup a = some o ∧ o.cls = .type "list" ∧ o.dict = none ∧ o.data = .seq its n ∧ its.size ≤ sizeLine ∧ Vals (ns.map V.int) its.toList) → Rp (.ref a) (.fz ns)
  | raw (v : V) : Rp v (.raw v)
  | ins {a C dx : Addr} {vs : List (Str × V)} {fs : List (Str × D)} : a ∉ Z → H a = some (.ins C dx vs) → RpF vs fs → Rp (.ref a) (.ins C fs)
  | exc0 {c : Value} {a : Addr} : Rp (.ref a) (.exc c a none [])
  | exc1 {c : Value} {a dd : Addr} {vs : List (Str × V)} {fs : List (Str × D)} : dd ∉ Z → H dd = some (.xd vs) → RpF vs fs → Rp (.ref a) (.exc c a (some dd) fs)
inductive RpA : List V → List D → Prop
  | nil : RpA [] []
  | cons {v : V} {vs : List V} {d : D} {ds : List D} : Rp v d → RpA vs ds → RpA (v :: vs) (d :: ds)
inductive RpK : List (Key × V) → List (Key × D) → Prop
  | nil : RpK [] []
  | cons {k : Key} {v : V} {ks : List (Key × V)} {d : D} {es : List (Key × D)} : Rp v d → RpK ks es → RpK ((k, v) :: ks) ((k, d) :: es)
inductive RpF : List (Str × V) → List (Str × D) → Prop
  | nil : RpF [] []
  | cons {k : Str} {v : V} {ks : List (Str × V)} {d : D} {es : List (Str × D)} : Rp v d → RpF ks es → RpF ((k, v) :: ks) ((k, d) :: es)
end
end
/-- nothing but what stands at α may change -/
def Ext (α : List Addr) (H H' : Hp) : Prop := ∀ a, a ∉ α → ∀ o, H a = some o → H' a = some o
section
variable {K : PySem.W.Frag} {α Z Z' : List Addr} {H H1 H2 H' : Hp} {v : V} {d : D}
theorem Ext.refl (α : List Addr) (H : Hp) : Ext α H H := fun _ _ _ e => e
theorem Ext.trans (a : Ext α H H1) (b : Ext α H1 H2) : Ext α H H2 := fun p hp o e => b p hp o (a p hp o e)
theorem Ext.new {p : Addr} {o : HO} (h : H p = none) : Ext α H (upd H p o) := fun a _ u e => by
  rw [upd_ne (ne_of_none e h)]; exact e
theorem Ext.same {H' : Hp} (h : ∀ a o, H a = some o → H' a = some o) : Ext α H H' := fun a _ o e => h a o e
mutual
theorem Rp.mono (hz : ∀ a ∈ α, a ∈ Z) (x : Ext α H H') : ∀ {v : V} {d : D}, Rp K Z H v d → Rp K Z H' v d
  | _, _, .non => .non
  | _, _, .bl b => .bl b
  | _, _, .int i => .int i
  | _, _, .str s => .str s
  | _, _, .lst n h r => .lst n (x _ (fun q => n (hz _ q)) _ h) (RpA.mono hz x r)
  | _, _, .tup n h r => .tup n (x _ (fun q => n (hz _ q)) _ h) (RpA.mono hz x r)
  | _, _, .dct n h r => .dct n (x _ (fun q => n (hz _ q)) _ h) (RpK.mono hz x r)
  | _, _, .fzT n h => .fzT n (x _ (fun q => n (hz _ q)) _ h)
  | _, _, .fzK h => .fzK h
  | _, _, .raw v => .raw v
  | _, _, .ins n h r => .ins n (x _ (fun q => n (hz _ q)) _ h) (RpF.mono hz x r)
  | _, _, .exc0 => .exc0
  | _, _, .exc1 n h r => .exc1 n (x _ (fun q => n (hz _ q)) _ h) (RpF.mono hz x r)
theorem RpA.mono (hz : ∀ a ∈ α, a ∈ Z) (x : Ext α H H') : ∀ {vs : List V} {ds : List D}, RpA K Z H vs ds → RpA K Z H' vs ds
  | _, _, .nil => .nil
  | _, _, .cons h r => .cons (Rp.mono hz x h) (RpA.mono hz x r)
theorem RpK.mono (hz : ∀ a ∈ α, a ∈ Z) (x : Ext α H H') : ∀ {vs : List (Key × V)} {ds : List (Key × D)}, RpK K Z H vs ds → RpK K Z H' vs ds
  | _, _, .nil => .nil
  | _, _, .cons h r => .cons (Rp.mono hz x h) (RpK.mono hz x r)
theorem RpF.mono (hz : ∀ a ∈ α, a ∈ Z) (x : Ext α H H') : ∀ {vs : List (Str × V)} {ds : List (Str × D)}, RpF K Z H vs ds → RpF K Z H' vs ds
  | _, _, .nil => .nil
  | _, _, .cons h r => .cons (Rp.mono hz x h) (RpF.mono hz x r)
end
mutual
/-- fewer places to keep off -/
theorem Rp.weak (hz : ∀ a ∈ Z', a ∈ Z) : ∀ {v : V} {d : D}, Rp K Z H v d → Rp K Z' H v d
  | _, _, .non => .non
  | _, _, .bl b => .bl b
  | _, _, .int i => .int i
  | _, _, .str s => .str s
  | _, _, .lst n h r => .lst (fun q => n (hz _ q)) h (RpA.weak hz r)
  | _, _, .tup n h r => .tup (fun q => n (hz _ q)) h (RpA.weak hz r)
  | _, _, .dct n h r => .dct (fun q => n (hz _ q)) h (RpK.weak hz r)
  | _, _, .fzT n h => .fzT (fun q => n (hz _ q)) h
  | _, _, .fzK h => .fzK h
  | _, _, .raw v => .raw v
  | _, _, .ins n h r => .ins (fun q => n (hz _ q)) h (RpF.weak hz r)
  | _, _, .exc0 => .exc0
  | _, _, .exc1 n h r => .exc1 (fun q => n (hz _ q)) h (RpF.weak hz r)
theorem RpA.weak (hz : ∀ a ∈ Z', a ∈ Z) : ∀ {vs : List V} {ds : List D}, RpA K Z H vs ds → RpA K Z' H vs ds
  | _, _, .nil => .nil
  | _, _, .cons h r => .cons (Rp.weak hz h) (RpA.weak hz r)
theorem RpK.weak (hz : ∀ a ∈ Z', a ∈ Z) : ∀ {vs : List (Key × V)} {ds : List (Key × D)}, RpK K Z H vs ds → RpK K Z' H vs ds
  | _, _, .nil => .nil
  | _, _, .cons h r => .cons (Rp.weak hz h) (RpK.weak hz r)
theorem RpF.weak (hz : ∀ a ∈ Z', a ∈ Z) : ∀ {vs : List (Str × V)} {ds : List (Str × D)}, RpF K Z H vs ds → RpF K Z' H vs ds
  | _, _, .nil => .nil
  | _, _, .cons h r => .cons (Rp.weak hz h) (RpF.weak hz r)
end
theorem off_new {p a : Addr} {o : HO} (hp : H p = none) (h : H a = some o) (n : a ∉ Z) : a ∉ p :: Z := fun q => by
  rcases List.mem_cons.mp q with e | q
  · rw [e, hp] at h; cases h
  · exact n q
mutual
/-- one more place to keep off: a new one -/
theorem Rp.more {p : Addr} (hp : H p = none) : ∀ {v : V} {d : D}, Rp K Z H v d → Rp K (p :: Z) H v d
  | _, _, .non => .non
  | _, _, .bl b => .bl b
  | _, _, .int i => .int i
  | _, _, .str s => .str s
  | _, _, .lst n h r => .lst (off_new hp h n) h (RpA.more hp r)
  | _, _, .tup n h r => .tup (off_new hp h n) h (RpA.more hp r)
  | _, _, .dct n h r => .dct (off_new hp h n) h (RpK.more hp r)
  | _, _, .fzT n h => .fzT (off_new hp h n) h
  | _, _, .fzK h => .fzK h
  | _, _, .raw v => .raw v
  | _, _, .ins n h r => .ins (off_new hp h n) h (RpF.more hp r)
  | _, _, .exc0 => .exc0
  | _, _, .exc1 n h r => .exc1 (off_new hp h n) h (RpF.more hp r)
theorem RpA.more {p : Addr} (hp : H p = none) : ∀ {vs : List V} {ds : List D}, RpA K Z H vs ds → RpA K (p :: Z) H vs ds
  | _, _, .nil => .nil
  | _, _, .cons h r => .cons (Rp.more hp h) (RpA.more hp r)
theorem RpK.more {p : Addr} (hp : H p = none) : ∀ {vs : List (Key × V)} {ds : List (Key × D)}, RpK K Z H vs ds → RpK K (p :: Z) H vs ds
  | _, _, .nil => .nil
  | _, _, .cons h r => .cons (Rp.more hp h) (RpK.more hp r)
theorem RpF.more {p : Addr} (hp : H p = none) : ∀ {vs : List (Str × V)} {ds : List (Str × D)}, RpF K Z H vs ds → RpF K (p :: Z) H vs ds
  | _, _, .nil => .nil
  | _, _, .cons h r => .cons (Rp.more hp h) (RpF.more hp r)
end
theorem RpA.length : ∀ {vs : List V} {ds : List D}, RpA K Z H vs ds → vs.length = ds.length
  | _, _, .nil => rfl
  | _, _, .cons _ r => by rw [List.length_cons, List.length_cons, RpA.length r]
theorem RpA.append : ∀ {vs ws : List V} {ds es : List D}, RpA K Z H vs ds → RpA K Z H ws es → RpA K Z H (vs ++ ws) (ds ++ es)
  | _, _, _, _, .nil, s => s
  | _, _, _, _, .cons h r, s => .cons h (RpA.append r s)
theorem RpA.get : ∀ {vs : List V} {ds : List D} {i : Nat} {d : D}, RpA K Z H vs ds → ds[i]? = some d → ∃ v, vs[i]? = some v ∧ Rp K Z H v d
  | _, _, _, _, .nil, e => by simp at e
  | _, _, 0, _, .cons h _, e => by simp at e; subst e; exact ⟨_, rfl, h⟩
  | _, _, i + 1, _, .cons _ r, e => by
    obtain ⟨v, h1, h2⟩ := RpA.get (i := i) r (by simpa using e)
    exact ⟨v, by simpa using h1, h2⟩
theorem RpA.at : ∀ {vs : List V} {ds : List D} {i : Nat} {v : V}, RpA K Z H vs ds → vs[i]? = some v → ∃ d, ds[i]? = some d ∧ Rp K Z H v d
  | _, _, _, _, .nil, e => by simp at e
  | _, _, 0, _, .cons h _, e => by simp at e; subst e; exact ⟨_, rfl, h⟩
  | _, _, i + 1, _, .cons _ r, e => by
    obtain ⟨v, h1, h2⟩ := RpA.at (i := i) r (by simpa using e)
    exact ⟨v, by simpa using h1, h2⟩
theorem RpA.take : ∀ {vs : List V} {ds : List D} (n : Nat), RpA K Z H vs ds → RpA K Z H (vs.take n) (ds.take n)
  | _, _, 0, _ => .nil
  | _, _, _ + 1, .nil => .nil
  | _, _, n + 1, .cons h r => .cons h (RpA.take n r)
theorem RpA.drop : ∀ {vs : List V} {ds : List D} (n : Nat), RpA K Z H vs ds → RpA K Z H (vs.drop n) (ds.drop n)
  | _, _, 0, r => r
  | _, _, _ + 1, .nil => .nil
  | _, _, n + 1, .cons _ r => RpA.drop n r
theorem RpA.reverse {vs : List V} {ds : List D} (r : RpA K Z H vs ds) : RpA K Z H vs.reverse ds.reverse := by
  induction vs generalizing ds with
  | nil => cases r; exact .nil
  | cons v vs ih =>
    cases r with
    | cons h r => rw [List.reverse_cons, List.reverse_cons]; exact (ih r).append (.cons h .nil)
theorem RpA.ints : ∀ ns : List Int, RpA K Z H (ns.map V.int) (ns.map D.int)
  | [] => .nil
  | n :: ns => .cons (.int n) (RpA.ints ns)
theorem RpA.rep {vs : List V} {ds : List D} (r : RpA K Z H vs ds) : ∀ k : Nat, RpA K Z H (List.replicate k vs).flatten (List.replicate k ds).flatten
  | 0 => .nil
  | k + 1 => by
    rw [List.replicate_succ, List.replicate_succ, List.flatten_cons, List.flatten_cons]
    exact r.append (RpA.rep r k)
/-- values of a kind without objects -/
theorem RpA.strs_inv : ∀ {vs : List V} {xs : List Str}, RpA K Z H vs (xs.map D.str) → vs = xs.map V.str
  | _, [], .nil => rfl
  | _, x :: xs, .cons (.str _) r => by rw [RpA.strs_inv r]; rfl
theorem RpA.strs : ∀ xs : List Str, RpA K Z H (xs.map V.str) (xs.map D.str)
  | [] => .nil
  | x :: xs => .cons (.str x) (RpA.strs xs)
theorem RpA.bls_inv : ∀ {vs : List V} {xs : List Bool}, RpA K Z H vs (xs.map D.bl) → vs = xs.map V.bl
  | _, [], .nil => rfl
  | _, x :: xs, .cons (.bl _) r => by rw [RpA.bls_inv r]; rfl
theorem RpA.ints_inv : ∀ {vs : List V} {xs : List Int}, RpA K Z H vs (xs.map D.int) → vs = xs.map V.int
  | _, [], .nil => rfl
  | _, x :: xs, .cons (.int _) r => by rw [RpA.ints_inv r]; rfl
end
/-! ### values of names, cells -/
section
variable (K : PySem.W.Frag) (α Z : List Addr) (H : Hp)
inductive RpV : V → AV → Prop
  | d {v : V} {x : D} : Rp K Z H v x → RpV v (.d x)
  | cell {k : Nat} {a : Addr} : α[k]? = some a → RpV (.ref a) (.cell k)
inductive RpVs : List V → List AV → Prop
  | nil : RpVs [] []
  | cons {v : V} {vs : List V} {x : AV} {xs : List AV} : RpV K α Z H v x → RpVs vs xs → RpVs (v :: vs) (x :: xs)
inductive RpVK : List (Key × V) → List (Key × AV) → Prop
  | nil : RpVK [] []
  | cons {k : Key} {v : V} {ks : List (Key × V)} {x : AV} {es : List (Key × AV)} : RpV K α Z H v x → RpVK ks es → RpVK ((k, v) :: ks) ((k, x) :: es)
inductive RpVF : List (Str × V) → List (Str × AV) → Prop
  | nil : RpVF [] []
  | cons {k : Str} {v : V} {ks : List (Str × V)} {x : AV} {es : List (Str × AV)} : RpV K α Z H v x → RpVF ks es → RpVF ((k, v) :: ks) ((k, x) :: es)
def CellOk (a : Addr) : CC → Prop
  | .lst xs => ∃ vs, H a = some (.lst vs) ∧ RpVs K α Z H vs xs
  | .dct es => ∃ ks, H a = some (.dK ks) ∧ RpVK K α Z H ks es
  | .ins C fs => ∃ dx vs, H a = some (.ins C dx vs) ∧ RpVF K α Z H vs fs
structure Cells (μ : List CC) : Prop where
  len : α.length = μ.length
  at_ : ∀ (k : Nat) (a : Addr) (c : CC), α[k]? = some a → μ[k]? = some c → CellOk K α Z H a c
structure WOk : Prop where
  nd : α.Nodup
  sub : ∀ a ∈ α, a ∈ Z
  there : ∀ z ∈ Z, ∃ o, H z = some o
structure SlotsOk (σ : L2.St) (ρ : Slots) : Prop where
  len : σ.length = ρ.length
  at_ : ∀ (i : Nat) (x : AV), ρ[i]? = some (some x) → ∃ v, σ[i]? = some (some v) ∧ RpV K α Z H v x
end
section
variable {K : PySem.W.Frag} {α β Z Z' : List Addr} {H H1 H2 H' : Hp} {v : V} {x : AV} {σ : L2.St} {ρ : Slots} {μ : List CC}
theorem RpV.mono (hz : ∀ a ∈ β, a ∈ Z) (e : Ext β H H') (r : RpV K α Z H v x) : RpV K α Z H' v x := by
  cases r with
  | d r => exact .d (r.mono hz e)
  | cell h => exact .cell h
theorem RpVs.mono (hz : ∀ a ∈ β, a ∈ Z) (e : Ext β H H') : ∀ {vs : List V} {xs : List AV}, RpVs K α Z H vs xs → RpVs K α Z H' vs xs
  | _, _, .nil => .nil
  | _, _, .cons h r => .cons (h.mono hz e) (RpVs.mono hz e r)
theorem RpVK.mono (hz : ∀ a ∈ β, a ∈ Z) (e : Ext β H H') : ∀ {vs : List (Key × V)} {xs : List (Key × AV)}, RpVK K α Z H vs xs → RpVK K α Z H' vs xs
  | _, _, .nil => .nil
  | _, _, .cons h r => .cons (h.mono hz e) (RpVK.mono hz e r)
theorem RpVF.mono (hz : ∀ a ∈ β, a ∈ Z) (e : Ext β H H') : ∀ {vs : List (Str × V)} {xs : List (Str × AV)}, RpVF K α Z H vs xs → RpVF K α Z H' vs xs
  | _, _, .nil => .nil
  | _, _, .cons h r => .cons (h.mono hz e) (RpVF.mono hz e r)
theorem RpVs.length : ∀ {vs : List V} {xs : List AV}, RpVs K α Z H vs xs → vs.length = xs.length
  | _, _, .nil => rfl
  | _, _, .cons _ r => by rw [List.length_cons, List.length_cons, RpVs.length r]
theorem RpVs.append : ∀ {vs ws : List V} {ds es : List AV}, RpVs K α Z H vs ds → RpVs K α Z H ws es → RpVs K α Z H (vs ++ ws) (ds ++ es)
  | _, _, _, _, .nil, s => s
  | _, _, _, _, .cons h r, s => .cons h (RpVs.append r s)
theorem RpVs.get : ∀ {vs : List V} {ds : List AV} {i : Nat} {d : AV}, RpVs K α Z H vs ds → ds[i]? = some d → ∃ v, vs[i]? = some v ∧ RpV K α Z H v d
  | _, _, _, _, .nil, e => by simp at e
  | _, _, 0, _, .cons h _, e => by simp at e; subst e; exact ⟨_, rfl, h⟩
  | _, _, i + 1, _, .cons _ r, e => by
    obtain ⟨v, h1, h2⟩ := RpVs.get (i := i) r (by simpa using e)
    exact ⟨v, by simpa using h1, h2⟩
theorem RpVs.set : ∀ {vs : List V} {xs : List AV} {v : V} {x : AV} (i : Nat), RpV K α Z H v x → RpVs K α Z H vs xs → RpVs K α Z H (vs.set i v) (xs.set i x)
  | _, _, _, _, _, _, .nil => .nil
  | _, _, _, _, 0, r, .cons _ t => .cons r t
  | _, _, _, _, i + 1, r, .cons h t => .cons h (RpVs.set i r t)
theorem RpVs.dropLast {vs : List V} {xs : List AV} (r : RpVs K α Z H vs xs) : RpVs K α Z H vs.dropLast xs.dropLast := by
  induction vs generalizing xs with
  | nil => cases r; exact .nil
  | cons v vs ih =>
    cases r with
    | cons h r =>
      cases vs with
      | nil => cases r; exact .nil
      | cons w ws =>
        cases r with
        | cons h2 r2 => exact .cons h (ih (.cons h2 r2))
theorem RpVs.eraseIdx : ∀ {vs : List V} {xs : List AV} (i : Nat), RpVs K α Z H vs xs → RpVs K α Z H (vs.eraseIdx i) (xs.eraseIdx i)
  | _, _, _, .nil => .nil
  | _, _, 0, .cons _ t => t
  | _, _, i + 1, .cons h t => .cons h (RpVs.eraseIdx i t)
theorem RpVs.of_data : ∀ {vs : List V} {ds : List D}, RpA K Z H vs ds → RpVs K α Z H vs (ds.map AV.d)
  | _, _, .nil => .nil
  | _, _, .cons h r => .cons (.d h) (RpVs.of_data r)
theorem RpVs.to_data : ∀ {vs : List V} {ds : List D}, RpVs K α Z H vs (ds.map AV.d) → RpA K Z H vs ds
  | _, [], .nil => .nil
  | _, d :: ds, .cons (.d h) r => .cons h (RpVs.to_data r)
theorem CellOk.mono {a : Addr} {c : CC} (hz : ∀ b ∈ β, b ∈ Z) (e : Ext β H H') (ha : H' a = H a) (h : CellOk K α Z H a c) : CellOk K α Z H' a c := by
  cases c with
  | lst xs => obtain ⟨vs, h1, h2⟩ := h; exact ⟨vs, by rw [ha]; exact h1, h2.mono hz e⟩
  | dct xs => obtain ⟨vs, h1, h2⟩ := h; exact ⟨vs, by rw [ha]; exact h1, h2.mono hz e⟩
  | ins C fs => obtain ⟨dx, vs, h1, h2⟩ := h; exact ⟨dx, vs, by rw [ha]; exact h1, h2.mono hz e⟩
theorem SlotsOk.mono (hz : ∀ b ∈ β, b ∈ Z) (e : Ext β H H') (h : SlotsOk K α Z H σ ρ) : SlotsOk K α Z H' σ ρ := ⟨h.len, fun i x hi => by
  obtain ⟨v, h1, h2⟩ := h.at_ i x hi
  exact ⟨v, h1, h2.mono hz e⟩⟩
/-- nothing changed at all: all stays -/
theorem Ext.nil_any {β : List Addr} (e : Ext [] H H') : Ext β H H' := fun a _ o h => e a (List.not_mem_nil) o h
theorem Cells.still (w : WOk α Z H) (e : Ext [] H H') (c : Cells K α Z H μ) : Cells K α Z H' μ := ⟨c.len, fun k a cc h1 h2 => by
  have ha : a ∈ α := List.mem_of_getElem? h1
  obtain ⟨o, ho⟩ := w.there a (w.sub a ha)
  have h' := e a List.not_mem_nil o ho
  exact (c.at_ k a cc h1 h2).mono (β := []) (fun b hb => absurd hb List.not_mem_nil) e (by rw [h', ho])⟩
theorem WOk.ext (w : WOk α Z H) (c : Cells K α Z H' μ) (e : Ext α H H') : WOk α Z H' := ⟨w.nd, w.sub, fun z hz => by
  by_cases hα : z ∈ α
  · obtain ⟨k, hk⟩ := List.getElem?_of_mem hα
    have hl : k < μ.length := by rw [← c.len]; exact (List.getElem?_eq_some_iff.mp hk).1
    have h := c.at_ k z _ hk (List.getElem?_eq_getElem hl)
    revert h
    cases μ[k] with
    | lst xs => rintro ⟨vs, h1, _⟩; exact ⟨_, h1⟩
    | dct xs => rintro ⟨vs, h1, _⟩; exact ⟨_, h1⟩
    | ins C fs => rintro ⟨dx, vs, h1, _⟩; exact ⟨_, h1⟩
  · obtain ⟨o, ho⟩ := w.there z hz
    exact ⟨o, e z hα o ho⟩⟩
theorem WOk.still (w : WOk α Z H) (e : Ext [] H H') : WOk α Z H' := ⟨w.nd, w.sub, fun z hz => by
  obtain ⟨o, ho⟩ := w.there z hz
  exact ⟨o, e z List.not_mem_nil o ho⟩⟩
end
end DL

set_option Elab.async false
set_option linter.all false
set_option maxRecDepth 100000
set_option maxHeartbeats 4000000
/-! DL1: what an expression, a test, an argument list, a walk, a target, a statement does to data. -/
namespace DL
open PySem PySem.Spec PyProof.Rows L2
/-- grown: new cells and new places to keep off are new; all but the cells stays -/
structure Gr (α Z : List Addr) (H : Hp) (α' Z' : List Addr) (H' : Hp) : Prop where
  cells : ∃ new, α' = α ++ new ∧ ∀ p ∈ new, H p = none
  keep : ∀ z ∈ Z, z ∈ Z'
  new : ∀ z ∈ Z', z ∈ Z ∨ H z = none
  ext : Ext α H H'
structure Okay (K : PySem.W.Frag) (α Z : List Addr) (H : Hp) (μ : List CC) : Prop where
  w : WOk α Z H
  c : Cells K α Z H μ
section
variable {K : PySem.W.Frag} {α α' α2 Z Z' Z2 : List Addr} {H H1 H2 H' : Hp} {v : V} {x : AV} {d : D} {σ : L2.St} {ρ : Slots} {μ μ' : List CC} {p : Addr} {o : HO}
theorem Gr.refl : Gr α Z H α Z H := ⟨⟨[], by simp, by simp⟩, fun _ h => h, fun _ h => .inl h, Ext.refl _ _⟩
theorem Gr.of_ext (e : Ext α H H') : Gr α Z H α Z H' := ⟨⟨[], by simp, by simp⟩, fun _ h => h, fun _ h => .inl h, e⟩
theorem none_back (hp : p ∉ α) (e : Ext α H H') (h : H' p = none) : H p = none := by
  cases q : H p with
  | none => rfl
  | some o => rw [e p hp o q] at h; cases h
theorem WOk.off (w : WOk α Z H) (h : H p = none) : p ∉ Z := fun q => by
  obtain ⟨o, ho⟩ := w.there p q
  rw [ho] at h; cases h
theorem Gr.trans (w : WOk α Z H) (w' : WOk α' Z' H') (a : Gr α Z H α' Z' H') (b : Gr α' Z' H' α2 Z2 H2) : Gr α Z H α2 Z2 H2 := by
  obtain ⟨⟨n1, e1, f1⟩, k1, w1, x1⟩ := a
  obtain ⟨⟨n2, e2, f2⟩, k2, w2, x2⟩ := b
  have up : ∀ p, H' p = none → H p = none := fun p hp => none_back (fun hα => w'.off hp (k1 p (w.sub p hα))) x1 hp
  refine ⟨⟨n1 ++ n2, by rw [e2, e1, List.append_assoc], fun p hp => ?_⟩, fun z hz => k2 _ (k1 _ hz), fun z hz => ?_, fun a ha o q => ?_⟩
  · rcases List.mem_append.mp hp with h | h
    · exact f1 p h
    · exact up p (f2 p h)
  · rcases w2 z hz with h | h
    · exact w1 z h
    · exact .inr (up z h)
  · refine x2 a (fun hq => ?_) o (x1 a ha o q)
    rw [e1] at hq
    rcases List.mem_append.mp hq with h | h
    · exact ha h
    · rw [f1 a h] at q; cases q
theorem Gr.off (w : WOk α Z H) (g : Gr α Z H α' Z' H') {a : Addr} (n : a ∉ Z) (h : H a = some o) : a ∉ Z' ∧ H' a = some o := by
  refine ⟨fun q => ?_, g.ext a (fun q => n (w.sub a q)) o h⟩
  rcases g.new a q with e | e
  · exact n e
  · rw [e] at h; cases h
mutual
theorem Rp.gr (w : WOk α Z H) (g : Gr α Z H α' Z' H') : ∀ {v : V} {d : D}, Rp K Z H v d → Rp K Z' H' v d
  | _, _, .non => .non
  | _, _, .bl b => .bl b
  | _, _, .int i => .int i
  | _, _, .str s => .str s
  | _, _, .lst n h r => .lst (g.off w n h).1 (g.off w n h).2 (RpA.gr w g r)
  | _, _, .tup n h r => .tup (g.off w n h).1 (g.off w n h).2 (RpA.gr w g r)
  | _, _, .dct n h r => .dct (g.off w n h).1 (g.off w n h).2 (RpK.gr w g r)
  | _, _, .fzT n h => .fzT (g.off w n h).1 (g.off w n h).2
  | _, _, .fzK h => .fzK h
  | _, _, .raw v => .raw v
  | _, _, .ins n h r => .ins (g.off w n h).1 (g.off w n h).2 (RpF.gr w g r)
  | _, _, .exc0 => .exc0
  | _, _, .exc1 n h r => .exc1 (g.off w n h).1 (g.off w n h).2 (RpF.gr w g r)
theorem RpA.gr (w : WOk α Z H) (g : Gr α Z H α' Z' H') : ∀ {vs : List V} {ds : List D}, RpA K Z H vs ds → RpA K Z' H' vs ds
  | _, _, .nil => .nil
  | _, _, .cons h r => .cons (Rp.gr w g h) (RpA.gr w g r)
theorem RpK.gr (w : WOk α Z H) (g : Gr α Z H α' Z' H') : ∀ {vs : List (Key × V)} {ds : List (Key × D)}, RpK K Z H vs ds → RpK K Z' H' vs ds
  | _, _, .nil => .nil
  | _, _, .cons h r => .cons (Rp.gr w g h) (RpK.gr w g r)
theorem RpF.gr (w : WOk α Z H) (g : Gr α Z H α' Z' H') : ∀ {vs : List (Str × V)} {ds : List (Str × D)}, RpF K Z H vs ds → RpF K Z' H' vs ds
  | _, _, .nil => .nil
  | _, _, .cons h r => .cons (Rp.gr w g h) (RpF.gr w g r)
end
theorem Gr.idx (g : Gr α Z H α' Z' H') {k : Nat} {a : Addr} (h : α[k]? = some a) : α'[k]? = some a := by
  obtain ⟨⟨n, e, _⟩, _⟩ := g
  rw [e, List.getElem?_append_left (List.getElem?_eq_some_iff.mp h).1]
  exact h
theorem RpV.gr (w : WOk α Z H) (g : Gr α Z H α' Z' H') (r : RpV K α Z H v x) : RpV K α' Z' H' v x := by
  cases r with
  | d r => exact .d (r.gr w g)
  | cell h => exact .cell (g.idx h)
theorem RpVs.gr (w : WOk α Z H) (g : Gr α Z H α' Z' H') : ∀ {vs : List V} {xs : List AV}, RpVs K α Z H vs xs → RpVs K α' Z' H' vs xs
  | _, _, .nil => .nil
  | _, _, .cons h r => .cons (h.gr w g) (RpVs.gr w g r)
theorem RpVK.gr (w : WOk α Z H) (g : Gr α Z H α' Z' H') : ∀ {vs : List (Key × V)} {xs : List (Key × AV)}, RpVK K α Z H vs xs → RpVK K α' Z' H' vs xs
  | _, _, .nil => .nil
  | _, _, .cons h r => .cons (h.gr w g) (RpVK.gr w g r)
theorem RpVF.gr (w : WOk α Z H) (g : Gr α Z H α' Z' H') : ∀ {vs : List (Str × V)} {xs : List (Str × AV)}, RpVF K α Z H vs xs → RpVF K α' Z' H' vs xs
  | _, _, .nil => .nil
  | _, _, .cons h r => .cons (h.gr w g) (RpVF.gr w g r)
theorem CellOk.gr (w : WOk α Z H) (g : Gr α Z H α' Z' H') {a : Addr} {c : CC} (ha : H' a = H a) (h : CellOk K α Z H a c) : CellOk K α' Z' H' a c := by
  cases c with
  | lst xs => obtain ⟨vs, h1, h2⟩ := h; exact ⟨vs, by rw [ha]; exact h1, h2.gr w g⟩
  | dct xs => obtain ⟨vs, h1, h2⟩ := h; exact ⟨vs, by rw [ha]; exact h1, h2.gr w g⟩
  | ins C fs => obtain ⟨dx, vs, h1, h2⟩ := h; exact ⟨dx, vs, by rw [ha]; exact h1, h2.gr w g⟩
theorem SlotsOk.gr (w : WOk α Z H) (g : Gr α Z H α' Z' H') (h : SlotsOk K α Z H σ ρ) : SlotsOk K α' Z' H' σ ρ := ⟨h.len, fun i x hi => by
  obtain ⟨v, h1, h2⟩ := h.at_ i x hi
  exact ⟨v, h1, h2.gr w g⟩⟩
theorem SlotsOk.ext (ok : Okay K α Z H μ) (e : Ext α H H') (h : SlotsOk K α Z H σ ρ) : SlotsOk K α Z H' σ ρ := h.gr ok.w (.of_ext e)
theorem RpV.ext (ok : Okay K α Z H μ) (e : Ext α H H') (r : RpV K α Z H v x) : RpV K α Z H' v x := r.gr ok.w (.of_ext e)
theorem RpVs.ext {vs : List V} {xs : List AV} (ok : Okay K α Z H μ) (e : Ext α H H') (r : RpVs K α Z H vs xs) : RpVs K α Z H' vs xs := r.gr ok.w (.of_ext e)
/-- grown, in the weak sense: what is kept off may change -/
structure Gw (α Z : List Addr) (H : Hp) (α' Z' : List Addr) (H' : Hp) : Prop where
  cells : ∃ new, α' = α ++ new
  new : ∀ z ∈ Z', z ∈ Z ∨ H z = none
  ext : Ext Z H H'
theorem Gr.gw (w : WOk α Z H) (g : Gr α Z H α' Z' H') : Gw α Z H α' Z' H' := ⟨g.cells.elim fun n h => ⟨n, h.1⟩, g.new, fun a ha o q => g.ext a (fun z => ha (w.sub a z)) o q⟩
theorem Gw.off (g : Gw α Z H α' Z' H') {a : Addr} (n : a ∉ Z) (h : H a = some o) : a ∉ Z' ∧ H' a = some o := by
  refine ⟨fun q => ?_, g.ext a n o h⟩
  rcases g.new a q with e | e
  · exact n e
  · rw [e] at h; cases h
mutual
theorem Rp.gw (g : Gw α Z H α' Z' H') : ∀ {v : V} {d : D}, Rp K Z H v d → Rp K Z' H' v d
  | _, _, .non => .non
  | _, _, .bl b => .bl b
  | _, _, .int i => .int i
  | _, _, .str s => .str s
  | _, _, .lst n h r => .lst (g.off n h).1 (g.off n h).2 (RpA.gw g r)
  | _, _, .tup n h r => .tup (g.off n h).1 (g.off n h).2 (RpA.gw g r)
  | _, _, .dct n h r => .dct (g.off n h).1 (g.off n h).2 (RpK.gw g r)
  | _, _, .fzT n h => .fzT (g.off n h).1 (g.off n h).2
  | _, _, .fzK h => .fzK h
  | _, _, .raw v => .raw v
  | _, _, .ins n h r => .ins (g.off n h).1 (g.off n h).2 (RpF.gw g r)
  | _, _, .exc0 => .exc0
  | _, _, .exc1 n h r => .exc1 (g.off n h).1 (g.off n h).2 (RpF.gw g r)
theorem RpA.gw (g : Gw α Z H α' Z' H') : ∀ {vs : List V} {ds : List D}, RpA K Z H vs ds → RpA K Z' H' vs ds
  | _, _, .nil => .nil
  | _, _, .cons h r => .cons (Rp.gw g h) (RpA.gw g r)
theorem RpK.gw (g : Gw α Z H α' Z' H') : ∀ {vs : List (Key × V)} {ds : List (Key × D)}, RpK K Z H vs ds → RpK K Z' H' vs ds
  | _, _, .nil => .nil
  | _, _, .cons h r => .cons (Rp.gw g h) (RpK.gw g r)
theorem RpF.gw (g : Gw α Z H α' Z' H') : ∀ {vs : List (Str × V)} {ds : List (Str × D)}, RpF K Z H vs ds → RpF K Z' H' vs ds
  | _, _, .nil => .nil
  | _, _, .cons h r => .cons (Rp.gw g h) (RpF.gw g r)
end
theorem RpV.gw (g : Gw α Z H α' Z' H') (r : RpV K α Z H v x) : RpV K α' Z' H' v x := by
  cases r with
  | d r => exact .d (r.gw g)
  | cell h =>
    obtain ⟨⟨n, e⟩, _⟩ := g
    exact .cell (by rw [e, List.getElem?_append_left (List.getElem?_eq_some_iff.mp h).1]; exact h)
theorem Gw.laid (g : Gw α Z H α' Z' H') (h : H' p = none) : Gw α Z H α' Z' (upd H' p o) := ⟨g.cells, g.new, fun a ha u q => by
  have := g.ext a ha u q
  rw [upd_ne (ne_of_none this h)]; exact this⟩
theorem Ext.wide (w : WOk α Z H) (e : Ext α H H') : Ext Z H H' := fun a ha o q => e a (fun z => ha (w.sub a z)) o q
/-- something new was laid -/
theorem Okay.still (ok : Okay K α Z H μ) (e : Ext [] H H') : Okay K α Z H' μ := ⟨ok.w.still e, ok.c.still ok.w e⟩
theorem Ext.laid (h : H p = none) : Ext [] H (upd H p o) := Ext.new h
theorem Okay.laid (ok : Okay K α Z H μ) (h : H p = none) : Okay K α Z (upd H p o) μ := ok.still (Ext.laid h)
/-- a new place to keep off -/
theorem Gr.new1 (h : H p = none) (e : Ext [] H H') : Gr α Z H α (p :: Z) H' :=
  ⟨⟨[], by simp, by simp⟩, fun z hz => List.mem_cons_of_mem _ hz, fun z hz => by
    rcases List.mem_cons.mp hz with q | q
    · exact .inr (q ▸ h)
    · exact .inl q, e.nil_any⟩
theorem Okay.keepOff (ok : Okay K α Z H μ) (h : H p = none) (e : Ext [] H H') (hp : ∃ o, H' p = some o) : Okay K α (p :: Z) H' μ := by
  have o2 := ok.still e
  refine ⟨⟨ok.w.nd, fun a ha => List.mem_cons_of_mem _ (ok.w.sub a ha), fun z hz => ?_⟩, ⟨ok.c.len, fun k a c h1 h2 => ?_⟩⟩
  · rcases List.mem_cons.mp hz with q | q
    · exact q ▸ hp
    · exact o2.w.there z q
  · have ha := ok.w.sub a (List.mem_of_getElem? h1)
    obtain ⟨ob, hob⟩ := ok.w.there a ha
    exact (ok.c.at_ k a c h1 h2).gr ok.w (Gr.new1 h e) (by rw [hob, e a List.not_mem_nil _ hob])
mutual
theorem Rp.less : ∀ {v : V} {d : D}, Rp K (p :: Z) H v d → Rp K Z H v d
  | _, _, h => h.weak fun a ha => List.mem_cons_of_mem _ ha
end
theorem RpV.less (r : RpV K α (p :: Z) H v x) : RpV K α Z H v x := by
  cases r with
  | d r => exact .d (r.weak fun a ha => List.mem_cons_of_mem _ ha)
  | cell h => exact .cell h
theorem RpVs.less : ∀ {vs : List V} {xs : List AV}, RpVs K α (p :: Z) H vs xs → RpVs K α Z H vs xs
  | _, _, .nil => .nil
  | _, _, .cons h r => .cons h.less (RpVs.less r)
theorem RpVK.less : ∀ {vs : List (Key × V)} {xs : List (Key × AV)}, RpVK K α (p :: Z) H vs xs → RpVK K α Z H vs xs
  | _, _, .nil => .nil
  | _, _, .cons h r => .cons h.less (RpVK.less r)
theorem RpVF.less : ∀ {vs : List (Str × V)} {xs : List (Str × AV)}, RpVF K α (p :: Z) H vs xs → RpVF K α Z H vs xs
  | _, _, .nil => .nil
  | _, _, .cons h r => .cons h.less (RpVF.less r)
theorem CellOk.less {a : Addr} {c : CC} (h : CellOk K α (p :: Z) H a c) : CellOk K α Z H a c := by
  cases c with
  | lst xs => obtain ⟨vs, h1, h2⟩ := h; exact ⟨vs, h1, h2.less⟩
  | dct xs => obtain ⟨vs, h1, h2⟩ := h; exact ⟨vs, h1, h2.less⟩
  | ins C fs => obtain ⟨dx, vs, h1, h2⟩ := h; exact ⟨dx, vs, h1, h2.less⟩
theorem Okay.less (ok : Okay K α (p :: Z) H μ) (w : ∀ a ∈ α, a ∈ Z) : Okay K α Z H μ :=
  ⟨⟨ok.w.nd, w, fun z hz => ok.w.there z (List.mem_cons_of_mem _ hz)⟩, ⟨ok.c.len, fun k a c h1 h2 => (ok.c.at_ k a c h1 h2).less⟩⟩
/-- a place that is kept off, no cell, is written -/
theorem Ext.touch : Ext [p] H (upd H p o) := fun a ha u q => by rw [upd_ne (fun z => ha (by rw [z]; exact List.mem_cons_self))]; exact q
theorem Okay.touch (ok : Okay K α Z H μ) (hp : p ∈ Z) (hα : p ∉ α) : Okay K α Z (upd H p o) μ := by
  have hz : ∀ a ∈ [p], a ∈ Z := fun a ha => by rw [List.mem_singleton.mp ha]; exact hp
  refine ⟨⟨ok.w.nd, ok.w.sub, fun z hz => ?_⟩, ⟨ok.c.len, fun k a c h1 h2 => (ok.c.at_ k a c h1 h2).mono hz Ext.touch (upd_ne fun z => hα (by rw [← z]; exact List.mem_of_getElem? h1))⟩⟩
  by_cases e : z = p
  · exact ⟨o, by rw [e]; exact upd_same⟩
  · obtain ⟨u, hu⟩ := ok.w.there z hz
    exact ⟨u, by rw [upd_ne e]; exact hu⟩
theorem RpV.touch (hp : p ∈ Z) (r : RpV K α Z H v x) : RpV K α Z (upd H p o) v x := r.mono (β := [p]) (fun a ha => by rw [List.mem_singleton.mp ha]; exact hp) Ext.touch
theorem RpVs.touch {vs : List V} {xs : List AV} (hp : p ∈ Z) (r : RpVs K α Z H vs xs) : RpVs K α Z (upd H p o) vs xs := r.mono (β := [p]) (fun a ha => by rw [List.mem_singleton.mp ha]; exact hp) Ext.touch
/-- the k-th cell is written -/
theorem Okay.write (ok : Okay K α Z H μ) {k : Nat} {a : Addr} {c : CC} (ha : α[k]? = some a) (hc : CellOk K α Z (upd H a o) a c) :
    Okay K α Z (upd H a o) (μ.set k c) ∧ Ext α H (upd H a o) := by
  have hm : a ∈ α := List.mem_of_getElem? ha
  have e : Ext α H (upd H a o) := fun b hb u q => by rw [upd_ne (fun z => hb (by rw [z]; exact hm))]; exact q
  refine ⟨⟨⟨ok.w.nd, ok.w.sub, fun z hz => ?_⟩, ⟨by rw [List.length_set]; exact ok.c.len, fun j b c' h1 h2 => ?_⟩⟩, e⟩
  · by_cases q : z = a
    · subst q; exact ⟨_, upd_same⟩
    · obtain ⟨u, hu⟩ := ok.w.there z hz
      exact ⟨u, by rw [upd_ne q]; exact hu⟩
  · by_cases q : j = k
    · subst q
      rw [ha] at h1; cases h1
      have hl : j < μ.length := by rw [← ok.c.len]; exact (List.getElem?_eq_some_iff.mp ha).1
      rw [List.getElem?_set_self hl] at h2; cases h2
      exact hc
    · rw [List.getElem?_set_ne (fun z => q z.symm)] at h2
      have nb : b ≠ a := fun z => q (by
        subst z
        exact (List.getElem?_inj (List.getElem?_eq_some_iff.mp h1).1 ok.w.nd).mp (by rw [h1, ha]))
      exact (ok.c.at_ j b c' h1 h2).gr ok.w (.of_ext e) (upd_ne nb)
end
end DL

set_option Elab.async false
set_option linter.all false
set_option maxRecDepth 100000
set_option maxHeartbeats 4000000
/-! DL2: the judgements. EV: an expression's value; EN: .. a new list; ET: a test; EA: arguments; IW: what is walked; GV: a target; SV: a statement. -/
namespace DL
open PySem PySem.Spec PyProof.Rows L2
def EV (K : PySem.W.Frag) (te : TE) (ρ : Slots) (μ : List CC) (r : AV) (μ' : List CC) : Prop :=
  ∀ (α Z : List Addr) (σ : L2.St) (H : Hp), Okay K α Z H μ → SlotsOk K α Z H σ ρ → ∀ Q : VK, (∀ v H', Ext α H H' → Okay K α Z H' μ' → RpV K α Z H' v r → Q v H') → te σ H Q
def EN (K : PySem.W.Frag) (te : TE) (ρ : Slots) (μ : List CC) (xs : List AV) (μ' : List CC) : Prop :=
  ∀ (α Z : List Addr) (σ : L2.St) (H : Hp), Okay K α Z H μ → SlotsOk K α Z H σ ρ → ∀ Q : VK,
    (∀ p vs H', Ext α H H' → H p = none → H' p = some (.lst vs) → Okay K α (p :: Z) H' μ' → RpVs K α (p :: Z) H' vs xs → Q (.ref p) H') → te σ H Q
def ET (K : PySem.W.Frag) (tt : TT) (ρ : Slots) (μ : List CC) (b : Bool) (μ' : List CC) : Prop :=
  ∀ (α Z : List Addr) (σ : L2.St) (H : Hp), Okay K α Z H μ → SlotsOk K α Z H σ ρ → ∀ Q : Bool → Hp → Prop, (∀ H', Ext α H H' → Okay K α Z H' μ' → Q b H') → tt σ H Q
def EA (K : PySem.W.Frag) (ta : TA) (ρ : Slots) (μ : List CC) (rs : List AV) (μ' : List CC) : Prop :=
  ∀ (α Z : List Addr) (σ : L2.St) (H : Hp), Okay K α Z H μ → SlotsOk K α Z H σ ρ → ∀ Q : List V → Hp → Prop, (∀ vs H', Ext α H H' → Okay K α Z H' μ' → RpVs K α Z H' vs rs → Q vs H') → ta σ H Q
/-- a two-place operation, a one-place one, a call of a value, by data -/
def RV (K : PySem.W.Frag) (r : R2) (x y : AV) (μ : List CC) (z : AV) (μ' : List CC) : Prop :=
  ∀ (α Z : List Addr) (H : Hp), Okay K α Z H μ → ∀ vx vy, RpV K α Z H vx x → RpV K α Z H vy y → ∀ Q : VK, (∀ v H', Ext α H H' → Okay K α Z H' μ' → RpV K α Z H' v z → Q v H') → r vx vy H Q
def RVN (K : PySem.W.Frag) (r : R2) (x y : AV) (μ : List CC) (xs : List AV) (μ' : List CC) : Prop :=
  ∀ (α Z : List Addr) (H : Hp), Okay K α Z H μ → ∀ vx vy, RpV K α Z H vx x → RpV K α Z H vy y → ∀ Q : VK,
    (∀ p vs H', Ext α H H' → H p = none → H' p = some (.lst vs) → Okay K α (p :: Z) H' μ' → RpVs K α (p :: Z) H' vs xs → Q (.ref p) H') → r vx vy H Q
def RU (K : PySem.W.Frag) (r : V → Hp → VK → Prop) (x : AV) (μ : List CC) (z : AV) (μ' : List CC) : Prop :=
  ∀ (α Z : List Addr) (H : Hp), Okay K α Z H μ → ∀ vx, RpV K α Z H vx x → ∀ Q : VK, (∀ v H', Ext α H H' → Okay K α Z H' μ' → RpV K α Z H' v z → Q v H') → r vx H Q
def RC (K : PySem.W.Frag) (r : List V → Hp → VK → Prop) (xs : List AV) (μ : List CC) (z : AV) (μ' : List CC) : Prop :=
  ∀ (α Z : List Addr) (H : Hp), Okay K α Z H μ → ∀ vs, RpVs K α Z H vs xs → ∀ Q : VK, (∀ v H', Ext α H H' → Okay K α Z H' μ' → RpV K α Z H' v z → Q v H') → r vs H Q
def RCN (K : PySem.W.Frag) (r : List V → Hp → VK → Prop) (xs : List AV) (μ : List CC) (ys : List AV) (μ' : List CC) : Prop :=
  ∀ (α Z : List Addr) (H : Hp), Okay K α Z H μ → ∀ vs, RpVs K α Z H vs xs → ∀ Q : VK,
    (∀ p vs H', Ext α H H' → H p = none → H' p = some (.lst vs) → Okay K α (p :: Z) H' μ' → RpVs K α (p :: Z) H' vs ys → Q (.ref p) H') → r vs H Q
section
variable {K : PySem.W.Frag} {ρ : Slots} {μ μ1 μ2 μ3 : List CC} {ta tb tc te : TE} {t u : TT} {x y z : AV} {xs ys : List AV}
theorem Okay.ext_w {α Z : List Addr} {H H' : Hp} (ok : Okay K α Z H μ) : ∀ a ∈ α, a ∈ Z := ok.w.sub
/-- a new list of data is data -/
theorem EN.ev {ds : List D} (h : EN K te ρ μ (ds.map .d) μ1) : EV K te ρ μ (.d (.lst ds)) μ1 := by
  intro α Z σ H ok sl Q k
  refine h α Z σ H ok sl Q fun p vs H' e hp hv ok' r => k _ H' e (ok'.less ok.w.sub) (.d (.lst (ok.w.off hp) hv ?_))
  exact RpVs.to_data r.less
theorem RVN.rv {r : R2} {ds : List D} (h : RVN K r x y μ (ds.map .d) μ1) : RV K r x y μ (.d (.lst ds)) μ1 := by
  intro α Z H ok vx vy rx ry Q k
  exact h α Z H ok vx vy rx ry Q fun p vs H' e hp hv ok' r => k _ H' e (ok'.less ok.w.sub) (.d (.lst (ok.w.off hp) hv (RpVs.to_data r.less)))
theorem RCN.rc {r : List V → Hp → VK → Prop} {ds : List D} (h : RCN K r xs μ (ds.map .d) μ1) : RC K r xs μ (.d (.lst ds)) μ1 := by
  intro α Z H ok vs rs Q k
  exact h α Z H ok vs rs Q fun p vs H' e hp hv ok' r => k _ H' e (ok'.less ok.w.sub) (.d (.lst (ok.w.off hp) hv (RpVs.to_data r.less)))
theorem EV.to {r r' : AV} (h : EV K te ρ μ r μ1) (e : r = r') : EV K te ρ μ r' μ1 := e ▸ h
theorem EN.to {ys : List AV} (h : EN K te ρ μ xs μ1) (e : xs = ys) : EN K te ρ μ ys μ1 := e ▸ h
theorem ET.to {b c : Bool} (h : ET K t ρ μ b μ1) (e : b = c) : ET K t ρ μ c μ1 := e ▸ h
/-! ### names, constants -/
theorem ev_var {i : Nat} (h : ρ[i]? = some (some x)) : EV K (tVar i) ρ μ x μ := fun α Z σ H ok sl Q k => by
  obtain ⟨v, h1, h2⟩ := sl.at_ i x h
  exact ⟨v, h1, k v H (.refl _ _) ok h2⟩
theorem ev_c {v : V} {d : D} (h : ∀ Z H, Rp K Z H v d) : EV K (tC v) ρ μ (.d d) μ := fun α Z σ H ok sl Q k => k v H (.refl _ _) ok (.d (h Z H))
theorem ev_int {i : Int} : EV K (tC (.int i)) ρ μ (.d (.int i)) μ := ev_c fun _ _ => .int i
theorem ev_bl {b : Bool} : EV K (tC (.bl b)) ρ μ (.d (.bl b)) μ := ev_c fun _ _ => .bl b
theorem ev_str {s : Str} : EV K (tC (.str s)) ρ μ (.d (.str s)) μ := ev_c fun _ _ => .str s
theorem ev_non : EV K (tC .non) ρ μ (.d .non) μ := ev_c fun _ _ => .non
theorem ev_raw {v : V} : EV K (tC v) ρ μ (.d (.raw v)) μ := ev_c fun _ _ => .raw v
/-! ### operations -/
theorem ev_op {r : R2} (ha : EV K ta ρ μ x μ1) (hb : EV K tb ρ μ1 y μ2) (hr : RV K r x y μ2 z μ3) : EV K (tOp r ta tb) ρ μ z μ3 :=
  fun α Z σ H ok sl Q k => ha α Z σ H ok sl _ fun v1 H1 e1 ok1 r1 => hb α Z σ H1 ok1 (sl.ext ok e1) _ fun v2 H2 e2 ok2 r2 =>
    hr α Z H2 ok2 v1 v2 (r1.ext ok1 e2) r2 Q fun v H' e3 ok3 r3 => k v H' (e1.trans (e2.trans e3)) ok3 r3
theorem en_op {r : R2} (ha : EV K ta ρ μ x μ1) (hb : EV K tb ρ μ1 y μ2) (hr : RVN K r x y μ2 xs μ3) : EN K (tOp r ta tb) ρ μ xs μ3 :=
  fun α Z σ H ok sl Q k => ha α Z σ H ok sl _ fun v1 H1 e1 ok1 r1 => hb α Z σ H1 ok1 (sl.ext ok e1) _ fun v2 H2 e2 ok2 r2 =>
    hr α Z H2 ok2 v1 v2 (r1.ext ok1 e2) r2 Q fun p vs H' e3 hp hv ok3 r3 => k p vs H' (e1.trans (e2.trans e3)) (by
      have h2 : H1 p = none := none_back (fun q => ok2.w.off hp (ok.w.sub p q)) e2 hp
      exact none_back (fun q => ok1.w.off h2 (ok.w.sub p q)) e1 h2) hv ok3 r3
theorem ev_un {r : V → Hp → VK → Prop} (ha : EV K ta ρ μ x μ1) (hr : RU K r x μ1 z μ2) : EV K (tUn r ta) ρ μ z μ2 :=
  fun α Z σ H ok sl Q k => ha α Z σ H ok sl _ fun v1 H1 e1 ok1 r1 => hr α Z H1 ok1 v1 r1 Q fun v H' e3 ok3 r3 => k v H' (e1.trans e3) ok3 r3
theorem ev_cb {r : List V → Hp → VK → Prop} {ts : TA} (ha : EA K ts ρ μ xs μ1) (hr : RC K r xs μ1 z μ2) : EV K (tCB r ts) ρ μ z μ2 :=
  fun α Z σ H ok sl Q k => ha α Z σ H ok sl _ fun v1 H1 e1 ok1 r1 => hr α Z H1 ok1 v1 r1 Q fun v H' e3 ok3 r3 => k v H' (e1.trans e3) ok3 r3
theorem en_cb {r : List V → Hp → VK → Prop} {ts : TA} (ha : EA K ts ρ μ xs μ1) (hr : RCN K r xs μ1 ys μ2) : EN K (tCB r ts) ρ μ ys μ2 :=
  fun α Z σ H ok sl Q k => ha α Z σ H ok sl _ fun v1 H1 e1 ok1 r1 => hr α Z H1 ok1 v1 r1 Q fun p vs H' e3 hp hv ok3 r3 => k p vs H' (e1.trans e3)
    (none_back (fun q => ok1.w.off hp (ok.w.sub p q)) e1 hp) hv ok3 r3
/-! ### arguments, displays -/
theorem ea_nil : EA K tNil ρ μ [] μ := fun α Z σ H ok sl Q k => k [] H (.refl _ _) ok .nil
theorem ea_cons {ts : TA} (ha : EV K ta ρ μ x μ1) (hr : EA K ts ρ μ1 xs μ2) : EA K (tCons ta ts) ρ μ (x :: xs) μ2 :=
  fun α Z σ H ok sl Q k => ha α Z σ H ok sl _ fun v1 H1 e1 ok1 r1 => hr α Z σ H1 ok1 (sl.ext ok e1) _ fun vs H2 e2 ok2 r2 => k (v1 :: vs) H2 (e1.trans e2) ok2 (.cons (r1.ext ok1 e2) r2)
theorem ev_tup {ts : TA} {ds : List D} (h : EA K ts ρ μ (ds.map .d) μ1) (hl : ds.length ≤ 100000) : EV K (tTup ts) ρ μ (.d (.tup ds)) μ1 :=
  fun α Z σ H ok sl Q k => h α Z σ H ok sl _ fun vs H1 e1 ok1 r1 => ⟨by
    have z := r1.length
    rw [List.length_map] at z
    rw [z, sizeLine_eq]; omega, fun p hp => k _ _ (e1.trans (Ext.new hp)) (ok1.laid hp) (.d (.tup (ok1.w.off hp) upd_same ((RpVs.to_data r1).gr ok1.w (.of_ext (Ext.new hp)))))⟩
theorem en_lst {ts : TA} (h : EA K ts ρ μ xs μ1) (hl : xs.length ≤ 100000) : EN K (tLst ts) ρ μ xs μ1 :=
  fun α Z σ H ok sl Q k => h α Z σ H ok sl _ fun vs H1 e1 ok1 r1 => ⟨by
    have z := r1.length
    rw [z, sizeLine_eq]; omega, fun p hp => k p vs _ (e1.trans (Ext.new hp)) (none_back (fun q => ok1.w.off hp (ok.w.sub p q)) e1 hp) upd_same
      (ok1.keepOff hp (Ext.laid hp) ⟨_, upd_same⟩) (r1.gr ok1.w (Gr.new1 hp (Ext.laid hp)))⟩
/-! ### tests -/
theorem et_test {b : Bool} (h : EV K te ρ μ (.d (.bl b)) μ1) : ET K (tTest te) ρ μ b μ1 :=
  fun α Z σ H ok sl Q k => h α Z σ H ok sl _ fun v H1 e1 ok1 r1 => by
    cases r1 with
    | d r => cases r; exact ⟨b, rfl, k H1 e1 ok1⟩
theorem et_B {b : Bool} (h : EV K te ρ μ (.d (.bl b)) μ1) : ET K (tB te) ρ μ b μ1 :=
  fun α Z σ H ok sl Q k => h α Z σ H ok sl _ fun v H1 e1 ok1 r1 => by
    cases r1 with
    | d r => cases r; exact ⟨b, rfl, k H1 e1 ok1⟩
theorem et_yes : ET K tYes ρ μ true μ := fun α Z σ H ok sl Q k => k H (.refl _ _) ok
theorem et_not {b : Bool} (h : ET K t ρ μ b μ1) : ET K (tNot t) ρ μ (!b) μ1 := fun α Z σ H ok sl Q k => h α Z σ H ok sl _ k
theorem et_and {b c : Bool} (h : ET K t ρ μ b μ1) (h2 : b = true → ET K u ρ μ1 c μ2) (h3 : b = false → μ1 = μ2) : ET K (tAnd t u) ρ μ (b && c) μ2 :=
  fun α Z σ H ok sl Q k => h α Z σ H ok sl _ fun H1 e1 ok1 => by
    cases b with
    | true => exact h2 rfl α Z σ H1 ok1 (sl.ext ok e1) Q fun H2 e2 ok2 => k H2 (e1.trans e2) ok2
    | false => exact k H1 e1 (h3 rfl ▸ ok1)
theorem et_or {b c : Bool} (h : ET K t ρ μ b μ1) (h2 : b = false → ET K u ρ μ1 c μ2) (h3 : b = true → μ1 = μ2) : ET K (tOr t u) ρ μ (b || c) μ2 :=
  fun α Z σ H ok sl Q k => h α Z σ H ok sl _ fun H1 e1 ok1 => by
    cases b with
    | false => exact h2 rfl α Z σ H1 ok1 (sl.ext ok e1) Q fun H2 e2 ok2 => k H2 (e1.trans e2) ok2
    | true => exact k H1 e1 (h3 rfl ▸ ok1)
theorem ev_andV {b : Bool} (h : EV K ta ρ μ (.d (.bl b)) μ1) (h2 : b = true → EV K tb ρ μ1 z μ2) (h3 : b = false → μ1 = μ2 ∧ z = .d (.bl false)) : EV K (tAndV ta tb) ρ μ z μ2 :=
  fun α Z σ H ok sl Q k => h α Z σ H ok sl _ fun v H1 e1 ok1 r1 => by
    cases r1 with
    | d r =>
      cases r
      refine ⟨b, rfl, ?_⟩
      cases b with
      | true => exact h2 rfl α Z σ H1 ok1 (sl.ext ok e1) Q fun v H2 e2 ok2 r2 => k v H2 (e1.trans e2) ok2 r2
      | false => obtain ⟨q1, q2⟩ := h3 rfl; subst q1; subst q2; exact k _ H1 e1 ok1 (.d (.bl false))
theorem ev_orV {b : Bool} (h : EV K ta ρ μ (.d (.bl b)) μ1) (h2 : b = false → EV K tb ρ μ1 z μ2) (h3 : b = true → μ1 = μ2 ∧ z = .d (.bl true)) : EV K (tOrV ta tb) ρ μ z μ2 :=
  fun α Z σ H ok sl Q k => h α Z σ H ok sl _ fun v H1 e1 ok1 r1 => by
    cases r1 with
    | d r =>
      cases r
      refine ⟨b, rfl, ?_⟩
      cases b with
      | false => exact h2 rfl α Z σ H1 ok1 (sl.ext ok e1) Q fun v H2 e2 ok2 r2 => k v H2 (e1.trans e2) ok2 r2
      | true => obtain ⟨q1, q2⟩ := h3 rfl; subst q1; subst q2; exact k _ H1 e1 ok1 (.d (.bl true))
/-- .. told by the value alone -/
theorem ev_and2 {b c : Bool} (h : EV K ta ρ μ (.d (.bl b)) μ) (h2 : b = true → EV K tb ρ μ (.d (.bl c)) μ) : EV K (tAndV ta tb) ρ μ (.d (.bl (b && c))) μ := by
  refine ev_andV h (fun e => ?_) fun e => ⟨rfl, by rw [e]; rfl⟩
  have := h2 e
  rw [e]; exact this
theorem ev_or2 {b c : Bool} (h : EV K ta ρ μ (.d (.bl b)) μ) (h2 : b = false → EV K tb ρ μ (.d (.bl c)) μ) : EV K (tOrV ta tb) ρ μ (.d (.bl (b || c))) μ := by
  refine ev_orV h (fun e => ?_) fun e => ⟨rfl, by rw [e]; rfl⟩
  have := h2 e
  rw [e]; exact this
theorem et_and2 {b c : Bool} (h : ET K t ρ μ b μ) (h2 : b = true → ET K u ρ μ c μ) : ET K (tAnd t u) ρ μ (b && c) μ := et_and h h2 fun _ => rfl
theorem et_or2 {b c : Bool} (h : ET K t ρ μ b μ) (h2 : b = false → ET K u ρ μ c μ) : ET K (tOr t u) ρ μ (b || c) μ := et_or h h2 fun _ => rfl
theorem ev_notV {b : Bool} (h : EV K ta ρ μ (.d (.bl b)) μ1) : EV K (tNotV ta) ρ μ (.d (.bl (!b))) μ1 :=
  fun α Z σ H ok sl Q k => h α Z σ H ok sl _ fun v H1 e1 ok1 r1 => by
    cases r1 with
    | d r => cases r; exact ⟨b, rfl, k _ H1 e1 ok1 (.d (.bl _))⟩
theorem ev_if {b : Bool} (h : ET K t ρ μ b μ1) (h1 : b = true → EV K ta ρ μ1 z μ2) (h2 : b = false → EV K tb ρ μ1 z μ2) : EV K (tIf t ta tb) ρ μ z μ2 :=
  fun α Z σ H ok sl Q k => h α Z σ H ok sl _ fun H1 e1 ok1 => by
    cases b with
    | true => exact h1 rfl α Z σ H1 ok1 (sl.ext ok e1) Q fun v H2 e2 ok2 r2 => k v H2 (e1.trans e2) ok2 r2
    | false => exact h2 rfl α Z σ H1 ok1 (sl.ext ok e1) Q fun v H2 e2 ok2 r2 => k v H2 (e1.trans e2) ok2 r2
theorem ev_chain {r r' : R2} {b : Bool} (ha : EV K ta ρ μ x μ) (hb : EV K tb ρ μ y μ) (hr : RV K r x y μ (.d (.bl b)) μ) (hc : b = true → EV K tc ρ μ z μ) {c : Bool} (hr' : b = true → RV K r' y z μ (.d (.bl c)) μ) :
    EV K (tChain r r' ta tb tc) ρ μ (.d (.bl (b && c))) μ :=
  fun α Z σ H ok sl Q k => ha α Z σ H ok sl _ fun v1 H1 e1 ok1 r1 => hb α Z σ H1 ok1 (sl.ext ok e1) _ fun v2 H2 e2 ok2 r2 =>
    hr α Z H2 ok2 v1 v2 (r1.ext ok1 e2) r2 _ fun v H3 e3 ok3 r3 => by
      cases r3 with
      | d r3 =>
        cases r3
        refine ⟨b, rfl, ?_⟩
        have e123 := e1.trans (e2.trans e3)
        cases b with
        | true => exact hc rfl α Z σ H3 ok3 (sl.ext ok e123) _ fun v4 H4 e4 ok4 r4 => hr' rfl α Z H4 ok4 v2 v4 ((r2.ext ok2 e3).ext ok3 e4) r4 Q fun v5 H5 e5 ok5 r5 => k v5 H5 (e123.trans (e4.trans e5)) ok5 r5
        | false => exact k _ H3 e123 ok3 (.d (.bl false))
end
end DL

set_option Elab.async false
set_option linter.all false
set_option maxRecDepth 100000
set_option maxHeartbeats 4000000
/-! DL3: walks, targets, comprehensions, statements. -/
namespace DL
open PySem PySem.Spec PyProof.Rows L2
/-- a walk over items, one by one -/
def IW (K : PySem.W.Frag) (wi : TI) (ρ : Slots) (μ : List CC) (items : List AV) (μ' : List CC) : Prop :=
  ∀ (α Z : List Addr) (σ : L2.St) (H : Hp), Okay K α Z H μ → SlotsOk K α Z H σ ρ → ∀ R : It → Hp → Prop,
    (∀ J H1 G Y, Ext α H H1 → Okay K α Z H1 μ' → Walk J items.length G Y → (∀ H2, Ext Z H1 H2 → G H2) →
      (∀ i Hx x Hy α' Z', Gw α Z H1 α' Z' Hx → WOk α' Z' Hx → i < items.length → Y i Hx x Hy → ∃ d, items[i]? = some d ∧ Ext [] Hx Hy ∧ RpV K α' Z' Hy x d) → R J H1) → wi σ H R
/-- a target: the slots behind it; js: the slots it sets -/
def GV (K : PySem.W.Frag) (g : TG) (d : AV) (ρ ρ' : Slots) (js : List Nat) : Prop :=
  ∀ (α Z : List Addr) (μ : List CC) (σ : L2.St) (H : Hp) (x : V), Okay K α Z H μ → RpV K α Z H x d → SlotsOk K α Z H σ ρ → ∀ Q : L2.St → Hp → Prop,
    (∀ σ2, (∀ vs : List Nat, (∀ j ∈ js, j ∈ vs) → wipe σ2 vs = wipe σ vs) → SlotsOk K α Z H σ2 ρ' → Q σ2 H) → g x σ H Q
def GVs (K : PySem.W.Frag) (g : TGs) (ds : List AV) (ρ ρ' : Slots) (js : List Nat) : Prop :=
  ∀ (α Z : List Addr) (μ : List CC) (σ : L2.St) (H : Hp) (xs : List V), Okay K α Z H μ → RpVs K α Z H xs ds → SlotsOk K α Z H σ ρ → ∀ Q : L2.St → Hp → Prop,
    (∀ σ2, (∀ vs : List Nat, (∀ j ∈ js, j ∈ vs) → wipe σ2 vs = wipe σ vs) → SlotsOk K α Z H σ2 ρ' → Q σ2 H) → g xs σ H Q
theorem wipe_set : ∀ {vs : List Nat} {σ : L2.St} {j : Nat} {x : Option V}, j ∈ vs → wipe (σ.set j x) vs = wipe σ vs
  | v :: vs, σ, j, x, h => by
    show (wipe (σ.set j x) vs).set v none = (wipe σ vs).set v none
    by_cases hj : j ∈ vs
    · rw [wipe_set hj]
    · have e : j = v := by
        rcases List.mem_cons.mp h with e | e
        · exact e
        · exact absurd e hj
      subst e
      have q : ∀ (ws : List Nat), j ∉ ws → wipe (σ.set j x) ws = (wipe σ ws).set j x := by
        intro ws
        induction ws with
        | nil => intro _; rfl
        | cons u us ih =>
          intro hn
          have h1 : j ≠ u := fun z => hn (by rw [z]; exact List.mem_cons_self)
          have h2 : j ∉ us := fun z => hn (List.mem_cons_of_mem _ z)
          show (wipe (σ.set j x) us).set u none = ((wipe σ us).set u none).set j x
          rw [ih h2, List.set_comm _ _ h1]
      rw [q vs hj, List.set_set]
/-- the slots of the block's own names forgotten -/
def wipeA (ρ : Slots) : List Nat → Slots
  | [] => ρ
  | v :: vs => (wipeA ρ vs).set v none
theorem wipeA_length (ρ : Slots) : ∀ vs : List Nat, (wipeA ρ vs).length = ρ.length
  | [] => rfl
  | v :: vs => by unfold wipeA; rw [List.length_set, wipeA_length ρ vs]
section
variable {K : PySem.W.Frag} {α Z : List Addr} {H : Hp} {ρ ρ' ρ2 : Slots} {μ μ1 μ2 : List CC} {σ : L2.St} {x d : AV} {te : TE} {ta : TA}
theorem SlotsOk.set {v : V} {x : AV} {i : Nat} (s : SlotsOk K α Z H σ ρ) (r : RpV K α Z H v x) : SlotsOk K α Z H (σ.set i (some v)) (ρ.set i (some x)) := ⟨by rw [List.length_set, List.length_set, s.len], fun j y hj => by
  by_cases e : i = j
  · subst e
    have hi : i < ρ.length := by
      have := (List.getElem?_eq_some_iff.mp hj).1
      rwa [List.length_set] at this
    rw [List.getElem?_set_self hi] at hj
    cases hj
    exact ⟨v, List.getElem?_set_self (by rw [s.len]; exact hi), r⟩
  · rw [List.getElem?_set_ne e] at hj
    obtain ⟨u, h1, h2⟩ := s.at_ j y hj
    exact ⟨u, by rw [List.getElem?_set_ne e]; exact h1, h2⟩⟩
theorem SlotsOk.none {i : Nat} (s : SlotsOk K α Z H σ ρ) : SlotsOk K α Z H (σ.set i none) (ρ.set i none) := ⟨by rw [List.length_set, List.length_set, s.len], fun j y hj => by
  by_cases e : i = j
  · subst e
    by_cases hi : i < ρ.length
    · rw [List.getElem?_set_self hi] at hj; cases hj
    · rw [List.getElem?_eq_none (by rw [List.length_set]; omega)] at hj; cases hj
  · rw [List.getElem?_set_ne e] at hj
    obtain ⟨u, h1, h2⟩ := s.at_ j y hj
    exact ⟨u, by rw [List.getElem?_set_ne e]; exact h1, h2⟩⟩
theorem SlotsOk.wipe (s : SlotsOk K α Z H σ ρ) : ∀ vs : List Nat, SlotsOk K α Z H (L2.wipe σ vs) (wipeA ρ vs)
  | [] => s
  | v :: vs => (SlotsOk.wipe s vs).none
/-- forgetting -/
theorem SlotsOk.weak (s : SlotsOk K α Z H σ ρ) (hl : ρ'.length = ρ.length) (h : ∀ (i : Nat) (x : AV), ρ'[i]? = some (some x) → ρ[i]? = some (some x)) : SlotsOk K α Z H σ ρ' := ⟨s.len.trans hl.symm, fun i x hi => s.at_ i x (h i x hi)⟩
/-! ### targets -/
theorem gv_name {i : Nat} : GV K (gName i) d ρ (ρ.set i (some d)) [i] := fun α Z μ σ H x ok r sl Q k =>
  k _ (fun vs hv => wipe_set (hv i List.mem_cons_self)) (sl.set r)
theorem gvs_nil : GVs K gNil [] ρ ρ [] := fun α Z μ σ H xs ok r sl Q k => by
  cases r
  exact ⟨rfl, k σ (fun _ _ => rfl) sl⟩
theorem gvs_cons {t : TG} {u : TGs} {ds : List AV} {js js' : List Nat} (h : GV K t d ρ ρ' js) (h2 : GVs K u ds ρ' ρ2 js') : GVs K (gCons t u) (d :: ds) ρ ρ2 (js ++ js') := fun α Z μ σ H xs ok r sl Q k => by
  cases r with
  | cons r1 r2 =>
    refine ⟨_, _, rfl, h α Z μ σ H _ ok r1 sl _ fun σ2 w2 s2 => h2 α Z μ σ2 H _ ok r2 s2 _ fun σ3 w3 s3 => k σ3 (fun vs hv => ?_) s3⟩
    rw [w3 vs fun j hj => hv j (List.mem_append_right _ hj), w2 vs fun j hj => hv j (List.mem_append_left _ hj)]
/-! ### comprehensions -/
/-- the rule for [elt for target in iter if ..]: acc, M: what is made and the cells ahead of turn i -/
theorem en_lc {wi : TI} {g : TG} {tt : TT} {vs : List Nat} {items : List AV} (hi : IW K wi ρ μ items μ1) (acc : Nat → List AV) (M : Nat → List CC) (h0 : acc 0 = []) (m0 : M 0 = μ1)
    (hs : ∀ (i : Nat) (d : AV), items[i]? = some d → ∃ (ρ2 : Slots) (js : List Nat) (b : Bool) (μa : List CC), GV K g d (wipeA ρ vs) ρ2 js ∧ (∀ j ∈ js, j ∈ vs) ∧ ET K tt ρ2 (M i) b μa ∧
      (b = true → ∃ r, EV K te ρ2 μa r (M (i + 1)) ∧ acc (i + 1) = acc i ++ [r]) ∧ (b = false → M (i + 1) = μa ∧ acc (i + 1) = acc i))
    (hn : items.length ≤ 100000) : EN K (tLc wi g tt te vs) ρ μ (acc items.length) (M items.length) := by
  intro α Z σ H ok sl Q k
  have accLen : ∀ i, i ≤ items.length → (acc i).length ≤ i := by
    intro i
    induction i with
    | zero => intro _; rw [h0]; exact Nat.le_refl _
    | succ i ih =>
      intro hi'
      obtain ⟨ρ2, js, b, μa, _, _, _, h1, h2⟩ := hs i items[i] (List.getElem?_eq_getElem hi')
      cases b with
      | true => obtain ⟨r, _, e⟩ := h1 rfl; rw [e, List.length_append]; have := ih (Nat.le_of_succ_le hi'); simp only [List.length_cons, List.length_nil]; omega
      | false => rw [(h2 rfl).2]; exact Nat.le_trans (ih (Nat.le_of_succ_le hi')) (Nat.le_succ _)
  refine hi α Z σ H ok sl _ fun J H1 G Y e1 ok1 w hG hY => ?_
  intro Dl hD
  have sl1 := sl.ext ok e1
  have hD0 : H Dl = none := none_back (fun q => ok1.w.off hD (ok.w.sub Dl q)) e1 hD
  refine lc_it w (fun i H' => ∃ vs', H' Dl = some (.lst vs') ∧ Ext α H1 (fun a => if a = Dl then none else H' a) ∧ Okay K α (Dl :: Z) H' (M i) ∧ RpVs K α (Dl :: Z) H' vs' (acc i)) ?_ ?_ ?_ ?_
  · refine ⟨[], upd_same, fun a ha o q => ?_, by rw [m0]; exact ok1.keepOff hD (Ext.laid hD) ⟨_, upd_same⟩, by rw [h0]; exact .nil⟩
    have ne : a ≠ Dl := ne_of_none q hD
    show (if a = Dl then none else upd H1 Dl _ a) = some o
    rw [if_neg ne, upd_ne ne]; exact q
  · rintro i H' hi' ⟨vs', h1, h2, h3, h4⟩
    refine hG H' fun a ha o q => ?_
    have := h2 a (fun z => ha (ok1.w.sub a z)) o q
    have ne : a ≠ Dl := ne_of_none q hD
    dsimp only at this
    rw [if_neg ne] at this; exact this
  · rintro i x Hx Hy hi' ⟨vs', h1, h2, h3, h4⟩ hy
    have ex : Ext α H1 Hx := fun a ha o q => by
      have := h2 a ha o q
      have ne : a ≠ Dl := ne_of_none q hD
      dsimp only at this
      rw [if_neg ne] at this; exact this
    have gr : Gr α Z H1 α (Dl :: Z) Hx := ⟨⟨[], by simp, by simp⟩, fun z hz => List.mem_cons_of_mem _ hz, fun z hz => by
      rcases List.mem_cons.mp hz with q | q
      · exact .inr (q ▸ hD)
      · exact .inl q, ex⟩
    obtain ⟨d, hd, ey, ry⟩ := hY i Hx x Hy α (Dl :: Z) (gr.gw ok1.w) h3.w hi' hy
    obtain ⟨ρ2, js, b, μa, hg, hjs, ht, hb1, hb2⟩ := hs i d hd
    have ok3 : Okay K α (Dl :: Z) Hy (M i) := h3.still ey
    have gr' : Gr α Z H1 α (Dl :: Z) Hy := gr.trans ok1.w h3.w (.of_ext ey.nil_any)
    have sw : SlotsOk K α (Dl :: Z) Hy (L2.wipe σ vs) (wipeA ρ vs) := (sl1.gr ok1.w gr').wipe vs
    refine hg α (Dl :: Z) (M i) (L2.wipe σ vs) Hy x ok3 ry sw _ fun σ2 w2 s2 => ⟨?_, ?_⟩
    · rw [w2 vs hjs]
      have ww : ∀ (us : List Nat) (σ : L2.St), L2.wipe (L2.wipe σ us) us = L2.wipe σ us := by
        intro us σ
        apply List.ext_getElem?
        intro n
        by_cases hn : n ∈ us
        · have q : ∀ (ws : List Nat) (τ : L2.St), n ∈ ws → (L2.wipe τ ws)[n]? = if n < τ.length then some none else none := by
            intro ws
            induction ws with
            | nil => intro τ h; exact absurd h List.not_mem_nil
            | cons u us ih =>
              intro τ h
              show ((L2.wipe τ us).set u none)[n]? = _
              by_cases e : u = n
              · subst e
                by_cases hlt : u < τ.length
                · rw [List.getElem?_set_self (by rw [wipe_length]; exact hlt), if_pos hlt]
                · rw [List.getElem?_eq_none (by rw [List.length_set, wipe_length]; omega), if_neg hlt]
              · rw [List.getElem?_set_ne e]
                rcases List.mem_cons.mp h with z | z
                · exact absurd z.symm e
                · exact ih τ z
          rw [q us _ hn, q us _ hn, wipe_length]
        · rw [wipe_out hn]
      exact ww vs σ
    · have eDy : Hy Dl = some (.lst vs') := ey Dl List.not_mem_nil _ h1
      have rv : RpVs K α (Dl :: Z) Hy vs' (acc i) := h4.gr h3.w (.of_ext ey.nil_any)
      have back : ∀ {Hz : Hp}, Ext α Hy Hz → Ext α H1 (fun a => if a = Dl then none else Hz a) := fun {Hz} ez a ha o q => by
        have ne : a ≠ Dl := ne_of_none q hD
        show (if a = Dl then none else Hz a) = some o
        rw [if_neg ne]
        exact ez a ha o (ey a List.not_mem_nil o (ex a ha o q))
      have hDα : Dl ∉ α := fun q => ok1.w.off hD (ok1.w.sub _ q)
      refine ht α (Dl :: Z) σ2 Hy ok3 s2 _ fun H3 e3 ok3' => ?_
      cases b with
      | true =>
        obtain ⟨r, hr, ea⟩ := hb1 rfl
        show te σ2 H3 _
        refine hr α (Dl :: Z) σ2 H3 ok3' (s2.ext ok3 e3) _ fun v H4 e4 ok4 r4 => ?_
        have e34 := e3.trans e4
        refine ⟨vs', e34 Dl hDα _ eDy, ?_, vs' ++ [v], upd_same, ?_, ?_, ?_⟩
        · have z := rv.length
          have z2 := accLen i (Nat.le_of_lt hi')
          rw [z, sizeLine_eq]; omega
        · exact fun a ha o q => by
            have ne : a ≠ Dl := ne_of_none q hD
            have := back e34 a ha o q
            dsimp only at this ⊢
            rw [if_neg ne] at this ⊢
            rw [upd_ne ne]; exact this
        · exact ok4.touch List.mem_cons_self hDα
        · rw [ea]
          exact (((rv.ext ok3 e3).ext ok3' e4).append (.cons r4 .nil)).touch List.mem_cons_self
      | false =>
        obtain ⟨em, ea⟩ := hb2 rfl
        exact ⟨vs', e3 Dl hDα _ eDy, back e3, by rw [em]; exact ok3', by rw [ea]; exact rv.ext ok3 e3⟩
  · rintro H' ⟨vs', h1, h2, h3, h4⟩
    refine k Dl vs' H' (fun a ha o q => ?_) hD0 h1 h3 h4
    have := h2 a ha o (e1 a ha o q)
    have ne : a ≠ Dl := ne_of_none q hD0
    dsimp only at this
    rw [if_neg ne] at this; exact this
end
end DL

set_option Elab.async false
set_option linter.all false
set_option maxRecDepth 100000
set_option maxHeartbeats 4000000
/-! DL4: statements on data. -/
namespace DL
open PySem PySem.Spec PyProof.Rows L2
/-- what is wanted behind a statement -/
structure Po where
  nx : Slots → List CC → Prop
  rt : AV → List CC → Prop
  bk : Slots → List CC → Prop := fun _ _ => False
  ct : Slots → List CC → Prop := fun _ _ => False
  xc : Slots → Value → List (Str × D) → List CC → Prop := fun _ _ _ _ => False
/-- an exception's own dict -/
def ExcOk (K : PySem.W.Frag) (Z : List Addr) (H : Hp) (d : Option Addr) (fs : List (Str × D)) : Prop := (d = none ∧ fs = []) ∨ ∃ a vs, d = some a ∧ a ∉ Z ∧ H a = some (.xd vs) ∧ RpF K Z H vs fs
structure Cont (K : PySem.W.Frag) (W : WX) (α0 Z0 : List Addr) (H0 : Hp) (D : Ends) (P : Po) : Prop where
  nx : ∀ ρ μ α Z σ H, P.nx ρ μ → Gr α0 Z0 H0 α Z H → Okay K α Z H μ → SlotsOk K α Z H σ ρ → D.nx σ H
  rt : ∀ r μ v α Z H, P.rt r μ → Gr α0 Z0 H0 α Z H → Okay K α Z H μ → RpV K α Z H v r → D.rt v H
  bk : ∀ ρ μ α Z σ H, P.bk ρ μ → Gr α0 Z0 H0 α Z H → Okay K α Z H μ → SlotsOk K α Z H σ ρ → D.bk σ H
  ct : ∀ ρ μ α Z σ H, P.ct ρ μ → Gr α0 Z0 H0 α Z H → Okay K α Z H μ → SlotsOk K α Z H σ ρ → D.ct σ H
  xc : ∀ ρ c fs μ d α Z σ H, P.xc ρ c fs μ → Gr α0 Z0 H0 α Z H → Okay K α Z H μ → SlotsOk K α Z H σ ρ → ExcOk K Z H d fs → W c d σ H
def SV (K : PySem.W.Frag) (W : WX) (ts : TS) (ρ : Slots) (μ : List CC) (P : Po) : Prop :=
  ∀ (α0 Z0 : List Addr) (H0 : Hp) (α Z : List Addr) (σ : L2.St) (H : Hp) (D : Ends), WOk α0 Z0 H0 → Gr α0 Z0 H0 α Z H → Okay K α Z H μ → SlotsOk K α Z H σ ρ → Cont K W α0 Z0 H0 D P → ts D σ H
section
variable {K : PySem.W.Frag} {W : WX} {ρ ρ' : Slots} {μ μ1 μ2 : List CC} {P : Po} {t u : TS} {x y : AV} {xs : List AV} {te ta tb : TE}
theorem Gr.ext1 {α0 Z0 α Z : List Addr} {H0 H H' : Hp} (w0 : WOk α0 Z0 H0) (ok : Okay K α Z H μ) (g : Gr α0 Z0 H0 α Z H) (e : Ext α H H') : Gr α0 Z0 H0 α Z H' := g.trans w0 ok.w (.of_ext e)
theorem Cont.up {α0 Z0 α Z : List Addr} {H0 H1 : Hp} {D : Ends} (kk : Cont K W α0 Z0 H0 D P) (w0 : WOk α0 Z0 H0) (w1 : WOk α Z H1) (g : Gr α0 Z0 H0 α Z H1) : Cont K W α Z H1 D P :=
  ⟨fun ρ μ α' Z' σ H p g' => kk.nx ρ μ α' Z' σ H p (g.trans w0 w1 g'), fun r μ v α' Z' H p g' => kk.rt r μ v α' Z' H p (g.trans w0 w1 g'), fun ρ μ α' Z' σ H p g' => kk.bk ρ μ α' Z' σ H p (g.trans w0 w1 g'), fun ρ μ α' Z' σ H p g' => kk.ct ρ μ α' Z' σ H p (g.trans w0 w1 g'),
    fun ρ c fs μ d α' Z' σ H p g' => kk.xc ρ c fs μ d α' Z' σ H p (g.trans w0 w1 g')⟩
/-- weaken the posts -/
theorem SV.imp {P' : Po} (h : SV K W t ρ μ P) (n : ∀ ρ μ, P.nx ρ μ → P'.nx ρ μ) (r : ∀ v μ, P.rt v μ → P'.rt v μ) (b : ∀ ρ μ, P.bk ρ μ → P'.bk ρ μ) (c : ∀ ρ μ, P.ct ρ μ → P'.ct ρ μ) (e : ∀ ρ c fs μ, P.xc ρ c fs μ → P'.xc ρ c fs μ) : SV K W t ρ μ P' :=
  fun α0 Z0 H0 α Z σ H D w0 g ok sl k => h α0 Z0 H0 α Z σ H D w0 g ok sl ⟨fun ρ μ α Z σ H p => k.nx ρ μ α Z σ H (n _ _ p), fun r' μ v α Z H p => k.rt r' μ v α Z H (r _ _ p), fun ρ μ α Z σ H p => k.bk ρ μ α Z σ H (b _ _ p), fun ρ μ α Z σ H p => k.ct ρ μ α Z σ H (c _ _ p), fun ρ cc fs μ d α Z σ H p => k.xc ρ cc fs μ d α Z σ H (e _ _ _ _ p)⟩
theorem SV.nx_imp {N : Slots → List CC → Prop} (h : SV K W t ρ μ { P with nx := N }) (n : ∀ ρ μ, N ρ μ → P.nx ρ μ) : SV K W t ρ μ P := h.imp n (fun _ _ h => h) (fun _ _ h => h) (fun _ _ h => h) fun _ _ _ _ h => h
/-- forget slots -/
theorem SV.weak (h : SV K W t ρ' μ P) (hl : ρ'.length = ρ.length) (hw : ∀ (i : Nat) (x : AV), ρ'[i]? = some (some x) → ρ[i]? = some (some x)) : SV K W t ρ μ P :=
  fun α0 Z0 H0 α Z σ H D w0 g ok sl k => h α0 Z0 H0 α Z σ H D w0 g ok (sl.weak hl hw) k
theorem sv_next (h : P.nx ρ μ) : SV K W tNext ρ μ P := fun α0 Z0 H0 α Z σ H D w0 g ok sl k => k.nx ρ μ α Z σ H h g ok sl
theorem sv_brk (h : P.bk ρ μ) : SV K W tBreak ρ μ P := fun α0 Z0 H0 α Z σ H D w0 g ok sl k => k.bk ρ μ α Z σ H h g ok sl
theorem sv_cont (h : P.ct ρ μ) : SV K W tCont ρ μ P := fun α0 Z0 H0 α Z σ H D w0 g ok sl k => k.ct ρ μ α Z σ H h g ok sl
theorem sv_seq (h : SV K W t ρ μ { P with nx := fun ρ' μ' => SV K W u ρ' μ' P }) : SV K W (tSeq t u) ρ μ P :=
  fun α0 Z0 H0 α Z σ H D w0 g ok sl k => h α0 Z0 H0 α Z σ H { D with nx := u D } w0 g ok sl
    ⟨fun ρ μ α Z σ H p g' ok' sl' => p α0 Z0 H0 α Z σ H D w0 g' ok' sl' k, k.rt, k.bk, k.ct, k.xc⟩
/-- the same, with a word between -/
theorem sv_cut (Mid : Slots → List CC → Prop) (h : SV K W t ρ μ { P with nx := Mid }) (h2 : ∀ ρ' μ', Mid ρ' μ' → SV K W u ρ' μ' P) : SV K W (tSeq t u) ρ μ P :=
  sv_seq (h.imp (fun ρ μ p => h2 ρ μ p) (fun _ _ h => h) (fun _ _ h => h) (fun _ _ h => h) fun _ _ _ _ h => h)
theorem sv_asgT {g : TG} {js : List Nat} (h : EV K te ρ μ x μ1) (hg : GV K g x ρ ρ' js) (k : P.nx ρ' μ1) : SV K W (tAsg te g) ρ μ P :=
  fun α0 Z0 H0 α Z σ H D w0 gr ok sl kk => h α Z σ H ok sl _ fun v H1 e1 ok1 r1 => hg α Z μ1 σ H1 v ok1 r1 (sl.ext ok e1) _ fun σ2 _ s2 => kk.nx _ _ α Z σ2 H1 k (gr.ext1 w0 ok e1) ok1 s2
theorem sv_asg {i : Nat} (h : EV K te ρ μ x μ1) (k : P.nx (ρ.set i (some x)) μ1) : SV K W (tAsg te (gName i)) ρ μ P := sv_asgT h gv_name k
/-- a new list becomes a cell -/
theorem new_cell {α Z : List Addr} {H H1 : Hp} {p : Addr} {vs : List V} (ok : Okay K α Z H μ) (ok1 : Okay K α (p :: Z) H1 μ1) (e1 : Ext α H H1) (hp : H p = none) (hv : H1 p = some (.lst vs)) (r1 : RpVs K α (p :: Z) H1 vs xs) :
    ∃ α', Gr α Z H α' (p :: Z) H1 ∧ Okay K α' (p :: Z) H1 (μ1 ++ [.lst xs]) ∧ α'[μ1.length]? = some p := by
  have g1 : Gr α Z H (α ++ [p]) (p :: Z) H1 := ⟨⟨[p], rfl, fun q hq => by rw [List.mem_singleton.mp hq]; exact hp⟩, fun z hz => List.mem_cons_of_mem _ hz, fun z hz => by
    rcases List.mem_cons.mp hz with q | q
    · exact .inr (q ▸ hp)
    · exact .inl q, e1⟩
  have hpα : p ∉ α := fun q => ok.w.off hp (ok.w.sub p q)
  have up : ∀ {v : V} {x : AV}, RpV K α (p :: Z) H1 v x → RpV K (α ++ [p]) (p :: Z) H1 v x := fun {v x} r => by
    cases r with
    | d r => exact .d r
    | cell h => exact .cell (by rw [List.getElem?_append_left (List.getElem?_eq_some_iff.mp h).1]; exact h)
  have ups : ∀ {vs : List V} {xs : List AV}, RpVs K α (p :: Z) H1 vs xs → RpVs K (α ++ [p]) (p :: Z) H1 vs xs := fun {vs xs} r => by
    induction vs generalizing xs with
    | nil => cases r; exact .nil
    | cons v vs ih => cases r with | cons a b => exact .cons (up a) (ih b)
  have upk : ∀ {vs : List (Key × V)} {xs : List (Key × AV)}, RpVK K α (p :: Z) H1 vs xs → RpVK K (α ++ [p]) (p :: Z) H1 vs xs := fun {vs xs} r => by
    induction vs generalizing xs with
    | nil => cases r; exact .nil
    | cons v vs ih => cases r with | cons a b => exact .cons (up a) (ih b)
  have upf : ∀ {vs : List (Str × V)} {xs : List (Str × AV)}, RpVF K α (p :: Z) H1 vs xs → RpVF K (α ++ [p]) (p :: Z) H1 vs xs := fun {vs xs} r => by
    induction vs generalizing xs with
    | nil => cases r; exact .nil
    | cons v vs ih => cases r with | cons a b => exact .cons (up a) (ih b)
  refine ⟨α ++ [p], g1, ⟨⟨?_, fun a ha => ?_, ok1.w.there⟩, ⟨by rw [List.length_append, List.length_append, ok1.c.len]; rfl, fun j a c h1 h2 => ?_⟩⟩, ?_⟩
  · rw [List.nodup_append]
    exact ⟨ok.w.nd, by simp, fun a ha b hb => by rw [List.mem_singleton.mp hb]; exact fun z => hpα (z ▸ ha)⟩
  · rcases List.mem_append.mp ha with q | q
    · exact ok1.w.sub a q
    · rw [List.mem_singleton.mp q]; exact List.mem_cons_self
  · by_cases hj : j < α.length
    · rw [List.getElem?_append_left hj] at h1
      rw [List.getElem?_append_left (by rw [← ok1.c.len]; exact hj)] at h2
      have := ok1.c.at_ j a c h1 h2
      cases c with
      | lst ys => obtain ⟨ws, q1, q2⟩ := this; exact ⟨ws, q1, ups q2⟩
      | dct ys => obtain ⟨ws, q1, q2⟩ := this; exact ⟨ws, q1, upk q2⟩
      | ins C ys => obtain ⟨dx, ws, q1, q2⟩ := this; exact ⟨dx, ws, q1, upf q2⟩
    · rw [List.getElem?_append_right (Nat.le_of_not_lt hj)] at h1
      have ej : j - α.length = 0 := by
        cases e : j - α.length with
        | zero => rfl
        | succ n => rw [e] at h1; simp at h1
      rw [ej] at h1
      have hj2 : ¬ j < μ1.length := by rw [← ok1.c.len]; exact hj
      rw [List.getElem?_append_right (Nat.le_of_not_lt hj2), ← ok1.c.len, ej] at h2
      cases h1; cases h2
      exact ⟨vs, hv, ups r1⟩
  · rw [← ok1.c.len, List.getElem?_append_right (Nat.le_refl _), Nat.sub_self]; rfl
/-- a new list that will change: a new cell -/
theorem sv_asgN {i : Nat} (h : EN K te ρ μ xs μ1) (k : P.nx (ρ.set i (some (.cell μ1.length))) (μ1 ++ [.lst xs])) : SV K W (tAsg te (gName i)) ρ μ P :=
  fun α0 Z0 H0 α Z σ H D w0 gr ok sl kk => h α Z σ H ok sl _ fun p vs H1 e1 hp hv ok1 r1 => by
    obtain ⟨α', g1, ok2, hi⟩ := new_cell ok ok1 e1 hp hv r1
    exact kk.nx _ _ α' (p :: Z) _ H1 k (gr.trans w0 ok.w g1) ok2 ((sl.gr ok.w g1).set (.cell hi))
/-- return of a new list: a new cell, handed back -/
theorem sv_retNew (h : EN K te ρ μ xs μ1) (k : P.rt (.cell μ1.length) (μ1 ++ [.lst xs])) : SV K W (tRet te) ρ μ P := by
  intro α0 Z0 H0 α Z σ H D w0 gr ok sl kk
  refine h α Z σ H ok sl _ fun p vs H1 e1 hp hv ok1 r1 => ?_
  obtain ⟨α', g1, ok2, hi⟩ := new_cell ok ok1 e1 hp hv r1
  exact kk.rt _ _ (.ref p) α' (p :: Z) H1 k (gr.trans w0 ok.w g1) ok2 (.cell hi)
theorem sv_drop (h : EV K te ρ μ x μ1) (k : P.nx ρ μ1) : SV K W (tDrop te) ρ μ P :=
  fun α0 Z0 H0 α Z σ H D w0 gr ok sl kk => h α Z σ H ok sl _ fun v H1 e1 ok1 r1 => kk.nx _ _ α Z σ H1 k (gr.ext1 w0 ok e1) ok1 (sl.ext ok e1)
theorem sv_ret (h : EV K te ρ μ x μ1) (k : P.rt x μ1) : SV K W (tRet te) ρ μ P :=
  fun α0 Z0 H0 α Z σ H D w0 gr ok sl kk => h α Z σ H ok sl _ fun v H1 e1 ok1 r1 => kk.rt _ _ v α Z H1 k (gr.ext1 w0 ok e1) ok1 r1
theorem sv_retN (k : P.rt (.d .non) μ) : SV K W tRetN ρ μ P := fun α0 Z0 H0 α Z σ H D w0 gr ok sl kk => kk.rt _ _ .non α Z H k gr ok (.d .non)
theorem sv_if {b : Bool} {tc : TT} (h : ET K tc ρ μ b μ1) (h1 : b = true → SV K W t ρ μ1 P) (h2 : b = false → SV K W u ρ μ1 P) : SV K W (tIfS tc t u) ρ μ P :=
  fun α0 Z0 H0 α Z σ H D w0 gr ok sl kk => h α Z σ H ok sl _ fun H1 e1 ok1 => by
    cases b with
    | true => exact h1 rfl α0 Z0 H0 α Z σ H1 D w0 (gr.ext1 w0 ok e1) ok1 (sl.ext ok e1) kk
    | false => exact h2 rfl α0 Z0 H0 α Z σ H1 D w0 (gr.ext1 w0 ok e1) ok1 (sl.ext ok e1) kk
theorem sv_for {wi : TI} {g : TG} {items : List AV} (hi : IW K wi ρ μ items μ1) (Inv : Nat → Slots → List CC → Prop) (h0 : Inv 0 ρ μ1)
    (hs : ∀ (i : Nat) (d : AV) (ρ1 : Slots) (μ2 : List CC), items[i]? = some d → Inv i ρ1 μ2 → ∃ ρ2 js, GV K g d ρ1 ρ2 js ∧ SV K W t ρ2 μ2 { P with nx := Inv (i + 1), ct := Inv (i + 1), bk := P.nx })
    (hd : ∀ ρ1 μ2, Inv items.length ρ1 μ2 → P.nx ρ1 μ2) : SV K W (tFor wi g t) ρ μ P := by
  intro α0 Z0 H0 α Z σ H D w0 gr ok sl kk
  refine hi α Z σ H ok sl _ fun J H1 G Y e1 ok1 w hG hY => ?_
  have gr1 := gr.ext1 w0 ok e1
  have go : ∀ i σ' H', (∃ ρ1 μ2 α' Z', Inv i ρ1 μ2 ∧ Gr α Z H1 α' Z' H' ∧ Okay K α' Z' H' μ2 ∧ SlotsOk K α' Z' H' σ' ρ1) → G H' := fun i σ' H' ⟨_, _, _, _, _, g', _, _⟩ => hG H' (g'.ext.wide ok1.w)
  refine for_it w (fun i σ' H' => ∃ ρ1 μ2 α' Z', Inv i ρ1 μ2 ∧ Gr α Z H1 α' Z' H' ∧ Okay K α' Z' H' μ2 ∧ SlotsOk K α' Z' H' σ' ρ1) ⟨ρ, μ1, α, Z, h0, .refl, ok1, sl.ext ok e1⟩ (fun i σ' H' _ => go i σ' H') ?_ ?_
  · rintro i x σ' Hx Hy hil ⟨ρ1, μ2, α', Z', hI, g', ok', sl'⟩ hy
    obtain ⟨d, hd', ey, rd⟩ := hY i Hx x Hy α' Z' (g'.gw ok1.w) ok'.w hil hy
    obtain ⟨ρ2, js, hg, hb⟩ := hs i d ρ1 μ2 hd' hI
    have oky := ok'.still ey
    have gy : Gr α Z H1 α' Z' Hy := g'.trans ok1.w ok'.w (.of_ext ey.nil_any)
    refine hg α' Z' μ2 σ' Hy x oky rd (sl'.gr ok'.w (.of_ext ey.nil_any)) _ fun σ2 _ s2 => ?_
    have k1 := kk.up w0 ok1.w gr1
    exact hb α Z H1 α' Z' σ2 Hy _ ok1.w gy oky s2 ⟨fun ρ3 μ3 α3 Z3 σ3 H3 hI3 g3 ok3 s3 => ⟨ρ3, μ3, α3, Z3, hI3, g3, ok3, s3⟩, k1.rt, k1.nx, fun ρ3 μ3 α3 Z3 σ3 H3 hI3 g3 ok3 s3 => ⟨ρ3, μ3, α3, Z3, hI3, g3, ok3, s3⟩, k1.xc⟩
  · rintro σ' H' ⟨ρ1, μ2, α', Z', hI, g', ok', sl'⟩
    exact kk.nx _ _ α' Z' σ' H' (hd _ _ hI) (gr1.trans w0 ok1.w g') ok' sl'
theorem sv_while {tc : TT} (Inv : Nat → Slots → List CC → Prop) (m0 : Nat) (h0 : Inv m0 ρ μ)
    (hs : ∀ (m : Nat) (ρ1 : Slots) (μ1 : List CC), Inv m ρ1 μ1 → ∃ (b : Bool) (μ2 : List CC), ET K tc ρ1 μ1 b μ2 ∧
      (b = true → SV K W t ρ1 μ2 { P with nx := fun ρ' μ' => ∃ m', m' < m ∧ Inv m' ρ' μ', ct := fun ρ' μ' => ∃ m', m' < m ∧ Inv m' ρ' μ', bk := P.nx }) ∧ (b = false → P.nx ρ1 μ2)) : SV K W (tWhile tc t) ρ μ P := by
  intro α0 Z0 H0 α Z σ H D w0 gr ok sl kk
  refine ⟨fun m σ' H' => ∃ ρ1 μ2 α' Z', Inv m ρ1 μ2 ∧ Gr α Z H α' Z' H' ∧ Okay K α' Z' H' μ2 ∧ SlotsOk K α' Z' H' σ' ρ1, ⟨m0, ρ, μ, α, Z, h0, .refl, ok, sl⟩, ?_⟩
  rintro m σ' H' ⟨ρ1, μ1, α', Z', hI, g', ok', sl'⟩
  obtain ⟨b, μ2, ht, hb, he⟩ := hs m ρ1 μ1 hI
  refine ht α' Z' σ' H' ok' sl' _ fun H2 e2 ok2 => ?_
  have g2 : Gr α Z H α' Z' H2 := g'.trans ok.w ok'.w (.of_ext e2)
  cases b with
  | true =>
    refine ⟨fun σ3 H3 => ∃ m', m' < m ∧ ∃ ρ1 μ2 α' Z', Inv m' ρ1 μ2 ∧ Gr α Z H α' Z' H3 ∧ Okay K α' Z' H3 μ2 ∧ SlotsOk K α' Z' H3 σ3 ρ1, fun σ3 H3 h => h, ?_⟩
    have k1 := kk.up w0 ok.w gr
    exact hb rfl α Z H α' Z' σ' H2 _ ok.w g2 ok2 (sl'.ext ok' e2) ⟨fun ρ3 μ3 α3 Z3 σ3 H3 hI3 g3 ok3 s3 => hI3.elim fun m' hm => ⟨m', hm.1, ρ3, μ3, α3, Z3, hm.2, g3, ok3, s3⟩, k1.rt, k1.nx,
      fun ρ3 μ3 α3 Z3 σ3 H3 hI3 g3 ok3 s3 => hI3.elim fun m' hm => ⟨m', hm.1, ρ3, μ3, α3, Z3, hm.2, g3, ok3, s3⟩, k1.xc⟩
  | false => exact kk.nx _ _ α' Z' σ' H2 (he rfl) (gr.trans w0 ok.w g2) ok2 (sl'.ext ok' e2)
/-- name op= e -/
theorem sv_aug {i : Nat} {r : R2} (h : ρ[i]? = some (some x)) (he : EV K te ρ μ y μ1) {z : AV} (hr : RV K r x y μ1 z μ2) (k : P.nx (ρ.set i (some z)) μ2) : SV K W (tAug i te r) ρ μ P := by
  intro α0 Z0 H0 α Z σ H D w0 gr ok sl kk
  obtain ⟨v, h1, h2⟩ := sl.at_ i x h
  refine ⟨v, h1, he α Z σ H ok sl _ fun v2 H2 e2 ok2 r2 => hr α Z H2 ok2 v v2 (h2.ext ok e2) r2 _ fun v3 H3 e3 ok3 r3 => ?_⟩
  have e := e2.trans e3
  exact kk.nx _ _ α Z _ H3 k (gr.ext1 w0 ok e) ok3 ((sl.ext ok e).set r3)
end
end DL

set_option Elab.async false
set_option linter.all false
set_option maxRecDepth 100000
set_option maxHeartbeats 4000000
/-! DL5: operators, built-ins: a rule for all kinds, then what it says of data. -/
namespace DL
open PySem PySem.Spec PyProof.Rows L2
/-! ### data as the library's PyData -/
mutual
def D.py : D → PyData
  | .non => .none
  | .bl b => .bool b
  | .int i => .int i
  | .str x => .str x
  | .lst xs => .list (D.pyAll xs)
  | .tup xs => .tuple (D.pyAll xs)
  | .dct _ => .none
  | .fz ns => .list (ns.map PyData.int)
  | .raw _ => .none
  | .ins _ _ => .none
  | .exc _ _ _ _ => .none
def D.pyAll : List D → List PyData
  | [] => []
  | x :: xs => D.py x :: D.pyAll xs
end
mutual
/-- no dict, no raw value within -/
def D.plain : D → Bool
  | .non | .bl _ | .int _ | .str _ => true
  | .lst xs => D.plainAll xs
  | .tup xs => D.plainAll xs
  | .dct _ | .fz _ | .raw _ | .ins _ _ | .exc _ _ _ _ => false
def D.plainAll : List D → Bool
  | [] => true
  | x :: xs => D.plain x && D.plainAll xs
end
theorem D.pyAll_map (xs : List D) : D.pyAll xs = xs.map D.py := by
  induction xs with
  | nil => rfl
  | cons x xs ih => rw [D.pyAll, ih, List.map_cons]
theorem D.plainAll_iff {xs : List D} : D.plainAll xs = true ↔ ∀ x ∈ xs, x.plain = true := by
  induction xs with
  | nil => simp [D.plainAll]
  | cons x xs ih => simp [D.plainAll, ih]
section
variable {K : PySem.W.Frag} {Z : List Addr} {H : Hp}
mutual
theorem Rp.dp : ∀ {v : V} {d : D}, d.plain = true → Rp K Z H v d → Dp K H v d.py
  | _, _, _, .non => .non
  | _, _, _, .bl b => .bl b
  | _, _, _, .int i => .int i
  | _, _, _, .str s => .str s
  | _, _, p, .lst n h r => .lst (SqL.of h) (RpA.dp p r)
  | _, _, p, .tup n h r => .tup (SqT.of h) (RpA.dp p r)
  | _, _, p, .dct _ _ _ => by simp [D.plain] at p
  | _, _, p, .fzT _ _ => by simp [D.plain] at p
  | _, _, p, .fzK _ => by simp [D.plain] at p
  | _, _, p, .raw _ => by simp [D.plain] at p
  | _, _, p, .ins _ _ _ => by simp [D.plain] at p
  | _, _, p, .exc0 => by simp [D.plain] at p
  | _, _, p, .exc1 _ _ _ => by simp [D.plain] at p
theorem RpA.dp : ∀ {vs : List V} {ds : List D}, D.plainAll ds = true → RpA K Z H vs ds → DpAll K H vs (D.pyAll ds)
  | _, _, _, .nil => .nil
  | _, _, p, .cons h r => by
    simp only [D.plainAll, Bool.and_eq_true] at p
    exact .cons (Rp.dp p.1 h) (RpA.dp p.2 r)
end
end
/-! ### one rule for all kinds -/
section
variable {X : Cx}
def rAddA (K : PySem.W.Frag) : R2 := fun x y H Q => rI0 (fun i j => .int (i + j)) x y H Q ∨ (∃ i j, x = .str i ∧ y = .str j ∧ i.length + j.length ≤ sizeLine ∧ Q (.str (i ++ j)) H) ∨ rCat x y H Q ∨ rCatA K x y H Q
theorem o_add : OpR X (binaryOp .Add) (rAddA X.K) := op_add.or (op_add_str.or (op_cat.or op_catA))
def rMulA : R2 := fun x y H Q => rI CMul (fun i j => .int (i * j)) x y H Q ∨ rRep x y H Q
theorem o_mul : OpR X (binaryOp .Mult) rMulA := op_mul.or op_rep
abbrev rSubI : R2 := rI0 fun i j => .int (i - j)
abbrev rDivI : R2 := rI CDiv fun i j => .int (i / j)
abbrev rModI : R2 := rI (fun _ j => 0 < j) fun i j => .int (i % j)
abbrev rPowI : R2 := rI CPow fun i j => .int (i ^ j.toNat)
theorem o_sub : OpR X (binaryOp .Sub) rSubI := op_sub
theorem o_div : OpR X (binaryOp .FloorDiv) rDivI := op_fdiv
theorem o_mod : OpR X (binaryOp .Mod) rModI := op_mod
theorem o_pow : OpR X (binaryOp .Pow) rPowI := op_pow
abbrev rLtI : R2 := rI0 fun i j => .bl (decide (i < j))
abbrev rLeI : R2 := rI0 fun i j => .bl (decide (i ≤ j))
abbrev rGtI : R2 := rI0 fun i j => .bl (decide (j < i))
abbrev rGeI : R2 := rI0 fun i j => .bl (decide (j ≤ i))
theorem o_lt : OpR X (compareOp .Lt) rLtI := op_lt
theorem o_le : OpR X (compareOp .LtE) rLeI := op_le
theorem o_gt : OpR X (compareOp .Gt) rGtI := op_gt
theorem o_ge : OpR X (compareOp .GtE) rGeI := op_ge
/-- is, is not of None and of bools -/
def rIsA : R2 := fun x y H Q => (y = .non ∧ Q (.bl (decide (x = .non))) H) ∨ rIsB x y H Q
def rIsNotA : R2 := fun x y H Q => (y = .non ∧ Q (.bl (!decide (x = .non))) H) ∨ rNotB x y H Q
theorem o_is : OpR X (compareOp .Is) rIsA := op_isN.or op_isBl
theorem o_isnot : OpR X (compareOp .IsNot) rIsNotA := op_notN.or op_notBl
def rLenA (K : PySem.W.Frag) : List V → Hp → VK → Prop := fun xs H Q => (∃ x n, xs = [x] ∧ LenV K x H n ∧ Q (.int n) H)
theorem c_len : CallR X (.builtin "len") (rLenA X.K) := call_len
/-- repr of data -/
def rReprA (K : PySem.W.Frag) : List V → Hp → VK → Prop := fun xs H Q => ∃ x d, xs = [x] ∧ Dp K H x d ∧ d.showable = true ∧ d.hasDict = false ∧ d.depth ≤ 60 ∧ d.shown.length ≤ sizeLine ∧ Q (.str d.shown) H
theorem c_repr (hg : X.A.guards = some []) (hu : X.A.units + 64 < cLine) : CallR X (.builtin "repr") (rReprA X.K) := by
  intro pins s σ H xs us Q I r h
  obtain ⟨x, d, rfl, hd, hs, hn, hdep, hz, q⟩ := h
  obtain ⟨u, rfl, rx⟩ := vals1 r
  obtain ⟨as, hr⟩ := Dp.reads I d x u hd rx
  have fin : ∀ (s' : Shared) (t : Tok), Inv X pins σ H s' → EP X pins σ Q (.str d.shown t) s' := fun s' t J => ⟨.str d.shown, H, J, ⟨t, rfl⟩, q⟩
  cases hr with
  | none => exact PySem.P.repr_of_none (fin _ _ (I.tok _))
  | bool b => cases b with
    | true => exact PySem.P.repr_of_bool (fin _ _ (I.tok _))
    | false => exact PySem.P.repr_of_bool (fin _ _ (I.tok _))
  | int i t =>
    have hi : i.natAbs.log2 < 1920 := by simpa [PyData.showable] using hs
    exact PySem.P.repr_of_int hi (fin _ _ (I.tok _))
  | str y t => exact PySem.P.repr_of_str (fin _ _ (I.tok _)) hz
  | list a1 a2 a3 a4 => exact repr_of_reads' (.list a1 a2 a3 a4) hs (PyData.noDict_hsm hn) hg (by omega) (fun _ _ e => e) (fun h' u tk hk => fin _ _ (I.kept hk)) hz
  | tuple a1 a2 a3 a4 => exact repr_of_reads' (.tuple a1 a2 a3 a4) hs (PyData.noDict_hsm hn) hg (by omega) (fun _ _ e => e) (fun h' u tk hk => fin _ _ (I.kept hk)) hz
  | dict a1 a2 a3 a4 a5 => simp [PyData.hasDict] at hn
end
end DL

set_option Elab.async false
set_option linter.all false
set_option maxRecDepth 100000
set_option maxHeartbeats 4000000
/-! DL6: what the operators say of data. -/
namespace DL
open PySem PySem.Spec PyProof.Rows L2
section
variable {K : PySem.W.Frag} {ρ : Slots} {μ μ1 μ2 μ3 : List CC} {ta tb tc te : TE} {x y z : AV} {xs ys : List D} {i j : Int} {a b : Str}
/-- data behind a value -/
theorem rv_of {r : R2} {dx dy dz : D} (h : ∀ Z H vx vy, Rp K Z H vx dx → Rp K Z H vy dy → ∀ Q : VK, (∀ v, Rp K Z H v dz → Q v H) → r vx vy H Q) : RV K r (.d dx) (.d dy) μ (.d dz) μ :=
  fun α Z H ok vx vy rx ry Q k => by
    cases rx with
    | d rx => cases ry with
      | d ry => exact h Z H vx vy rx ry Q fun v hv => k v H (.refl _ _) ok (.d hv)
theorem rv_I0 {g : Int → Int → V} {d : D} (hd : ∀ Z H, Rp K Z H (g i j) d) : RV K (rI0 g) (.d (.int i)) (.d (.int j)) μ (.d d) μ :=
  rv_of fun Z H vx vy rx ry Q k => by cases rx; cases ry; exact ⟨i, j, rfl, rfl, k _ (hd Z H)⟩
theorem rv_I {C : Int → Int → Prop} {g : Int → Int → V} {d : D} (hc : C i j) (hd : ∀ Z H, Rp K Z H (g i j) d) : RV K (rI C g) (.d (.int i)) (.d (.int j)) μ (.d d) μ :=
  rv_of fun Z H vx vy rx ry Q k => by cases rx; cases ry; exact ⟨i, j, rfl, rfl, hc, k _ (hd Z H)⟩
theorem rv_or1 {r r' : R2} (h : RV K r x y μ z μ1) : RV K (fun x y H Q => r x y H Q ∨ r' x y H Q) x y μ z μ1 := fun α Z H ok vx vy rx ry Q k => .inl (h α Z H ok vx vy rx ry Q k)
theorem rv_or2 {r r' : R2} (h : RV K r' x y μ z μ1) : RV K (fun x y H Q => r x y H Q ∨ r' x y H Q) x y μ z μ1 := fun α Z H ok vx vy rx ry Q k => .inr (h α Z H ok vx vy rx ry Q k)
/-! ints -/
theorem b_add : RV K (rAddA K) (.d (.int i)) (.d (.int j)) μ (.d (.int (i + j))) μ := rv_or1 (rv_I0 fun _ _ => .int _)
theorem b_sub : RV K rSubI (.d (.int i)) (.d (.int j)) μ (.d (.int (i - j))) μ := rv_I0 fun _ _ => .int _
theorem b_mul (h : CMul i j) : RV K rMulA (.d (.int i)) (.d (.int j)) μ (.d (.int (i * j))) μ := rv_or1 (rv_I h fun _ _ => .int _)
theorem b_div (h : CDiv i j) : RV K rDivI (.d (.int i)) (.d (.int j)) μ (.d (.int (i / j))) μ := rv_I h fun _ _ => .int _
theorem b_mod (h : 0 < j) : RV K rModI (.d (.int i)) (.d (.int j)) μ (.d (.int (i % j))) μ := rv_I h fun _ _ => .int _
theorem b_pow (h : CPow i j) : RV K rPowI (.d (.int i)) (.d (.int j)) μ (.d (.int (i ^ j.toNat))) μ := rv_I h fun _ _ => .int _
theorem b_lt : RV K rLtI (.d (.int i)) (.d (.int j)) μ (.d (.bl (decide (i < j)))) μ := rv_I0 fun _ _ => .bl _
theorem b_le : RV K rLeI (.d (.int i)) (.d (.int j)) μ (.d (.bl (decide (i ≤ j)))) μ := rv_I0 fun _ _ => .bl _
theorem b_gt : RV K rGtI (.d (.int i)) (.d (.int j)) μ (.d (.bl (decide (j < i)))) μ := rv_I0 fun _ _ => .bl _
theorem b_ge : RV K rGeI (.d (.int i)) (.d (.int j)) μ (.d (.bl (decide (j ≤ i)))) μ := rv_I0 fun _ _ => .bl _
theorem b_neg : RU K (rU fun i => .int (-i)) (.d (.int i)) μ (.d (.int (-i))) μ := fun α Z H ok vx rx Q k => by
  cases rx with
  | d rx => cases rx; exact ⟨i, rfl, k _ H (.refl _ _) ok (.d (.int _))⟩
/-! texts, lists, tuples -/
theorem b_addS (h : a.length + b.length ≤ 100000) : RV K (rAddA K) (.d (.str a)) (.d (.str b)) μ (.d (.str (a ++ b))) μ :=
  rv_or2 (rv_or1 (rv_of fun Z H vx vy rx ry Q k => by cases rx; cases ry; exact ⟨a, b, rfl, rfl, by rw [sizeLine_eq]; omega, k _ (.str _)⟩))
theorem b_addL (h : xs.length + ys.length ≤ 100000) : RVN K (rAddA K) (.d (.lst xs)) (.d (.lst ys)) μ ((xs ++ ys).map .d) μ := fun α Z H ok vx vy rx ry Q k => by
  cases rx with
  | d rx => cases ry with
    | d ry => cases rx with
      | lst n1 h1 r1 => cases ry with
        | lst n2 h2 r2 => exact .inr (.inr (.inl ⟨_, _, _, _, rfl, rfl, h1, h2, by rw [r1.length, r2.length, sizeLine_eq]; omega, fun p hp => k p _ _ (Ext.new hp) hp upd_same (ok.keepOff hp (Ext.laid hp) ⟨_, upd_same⟩)
            (.of_data ((r1.append r2).gr ok.w (Gr.new1 (α := α) hp (Ext.laid hp))))⟩))
theorem b_addT (h : xs.length + ys.length ≤ 100000) : RV K (rAddA K) (.d (.tup xs)) (.d (.tup ys)) μ (.d (.tup (xs ++ ys))) μ := fun α Z H ok vx vy rx ry Q k => by
  cases rx with
  | d rx => cases ry with
    | d ry => cases rx with
      | tup n1 h1 r1 => cases ry with
        | tup n2 h2 r2 =>
          refine .inr (.inr (.inr ⟨_, _, _, _, rfl, rfl, SqT.of h1, SqT.of h2, by rw [r1.length, r2.length, sizeLine_eq]; omega, fun e => ?_, fun e1 e2 => ?_, fun e1 e2 p hp => ?_⟩))
          · subst e; cases r1; exact k _ H (.refl _ _) ok (.d (.tup n2 h2 r2))
          · subst e2; cases r2; exact k _ H (.refl _ _) ok (.d (.tup n1 h1 (by rw [List.append_nil]; exact r1)))
          · exact k _ _ (Ext.new hp) (ok.laid hp) (.d (.tup (ok.w.off hp) upd_same ((r1.append r2).gr ok.w (.of_ext (Ext.new (α := α) hp)))))
/-- list * int -/
theorem b_rep (h0 : 0 ≤ j) (h : xs.length * j.toNat ≤ 100000) (hj : j ≤ 100000) : RVN K rMulA (.d (.lst xs)) (.d (.int j)) μ ((List.replicate j.toNat xs).flatten.map .d) μ := fun α Z H ok vx vy rx ry Q k => by
  cases rx with
  | d rx => cases ry with
    | d ry => cases rx with
      | lst n1 h1 r1 => cases ry with
        | int => exact .inr ⟨_, _, _, rfl, rfl, h1, by omega, by omega, by rw [r1.length, sizeLine_eq]; omega, fun p hp => k p _ _ (Ext.new hp) hp upd_same (ok.keepOff hp (Ext.laid hp) ⟨_, upd_same⟩)
            (.of_data ((r1.rep _).gr ok.w (Gr.new1 (α := α) hp (Ext.laid hp))))⟩
/-! equality -/
theorem b_eq {d e : D} (hd : d.plain = true) (he : e.plain = true) (h1 : d.py.depth ≤ 60) (h2 : e.py.depth ≤ 60) (c1 : d.py.canLay0 = true) (c2 : e.py.canLay0 = true) : RV K (rEqD K) (.d d) (.d e) μ (.d (.bl (PyData.eqv d.py e.py))) μ :=
  rv_of fun Z H vx vy rx ry Q k => ⟨d.py, e.py, rx.dp hd, ry.dp he, by unfold SeqAt.shaped; rw [c1, Bool.true_and]; exact decide_eq_true (by omega), by unfold SeqAt.shaped; rw [c2, Bool.true_and]; exact decide_eq_true (by omega), k _ (.bl _)⟩
theorem b_ne {d e : D} (hd : d.plain = true) (he : e.plain = true) (h1 : d.py.depth ≤ 60) (h2 : e.py.depth ≤ 60) (c1 : d.py.canLay0 = true) (c2 : e.py.canLay0 = true) : RV K (rNeD K) (.d d) (.d e) μ (.d (.bl (!PyData.eqv d.py e.py))) μ :=
  rv_of fun Z H vx vy rx ry Q k => ⟨d.py, e.py, rx.dp hd, ry.dp he, by unfold SeqAt.shaped; rw [c1, Bool.true_and]; exact decide_eq_true (by omega), by unfold SeqAt.shaped; rw [c2, Bool.true_and]; exact decide_eq_true (by omega), k _ (.bl _)⟩
/-! is -/
theorem b_isN {d : D} (hd : d = .non ∨ (∀ Z H v, Rp K Z H v d → v ≠ .non)) [Decidable (d = .non)] : RV K rIsA (.d d) (.d .non) μ (.d (.bl (decide (d = .non)))) μ :=
  rv_of fun Z H vx vy rx ry Q k => by
    cases ry
    refine .inl ⟨rfl, ?_⟩
    rcases hd with e | e
    · subst e; cases rx; simpa using k _ (.bl _)
    · have h1 := e Z H vx rx
      have h2 : d ≠ .non := fun z => by subst z; cases rx; exact h1 rfl
      have := k _ (.bl (decide (d = D.non)))
      rw [decide_eq_false h2] at this
      rwa [decide_eq_false h1]
theorem b_isB {p q : Bool} : RV K rIsA (.d (.bl p)) (.d (.bl q)) μ (.d (.bl (decide (p = q)))) μ := rv_of fun Z H vx vy rx ry Q k => by cases rx; cases ry; exact .inr ⟨p, q, rfl, rfl, k _ (.bl _)⟩
theorem b_isnotB {p q : Bool} : RV K rIsNotA (.d (.bl p)) (.d (.bl q)) μ (.d (.bl (!decide (p = q)))) μ := rv_of fun Z H vx vy rx ry Q k => by cases rx; cases ry; exact .inr ⟨p, q, rfl, rfl, k _ (.bl _)⟩
/-! places -/
theorem atI_map {α β : Type} (f : α → β) {xs : List α} {i : Int} {v : α} (h : atI xs i = some v) : atI (xs.map f) i = some (f v) := by
  obtain ⟨k, h1, h2⟩ := Option.bind_eq_some_iff.mp h
  refine Option.bind_eq_some_iff.mpr ⟨k, by rw [List.length_map]; exact h1, by rw [List.getElem?_map, h2]; rfl⟩
theorem RpA.atI {Z : List Addr} {H : Hp} {vs : List V} {d : D} (r : RpA K Z H vs xs) (h : L2.atI xs i = some d) : ∃ v, L2.atI vs i = some v ∧ Rp K Z H v d := by
  obtain ⟨k, h1, h2⟩ := Option.bind_eq_some_iff.mp h
  obtain ⟨v, h3, h4⟩ := r.get h2
  exact ⟨v, Option.bind_eq_some_iff.mpr ⟨k, by rw [r.length]; exact h1, h3⟩, h4⟩
theorem RpVs.atI {α Z : List Addr} {H : Hp} {vs : List V} {ys : List AV} {d : AV} (r : RpVs K α Z H vs ys) (h : L2.atI ys i = some d) : ∃ v, L2.atI vs i = some v ∧ RpV K α Z H v d := by
  obtain ⟨k, h1, h2⟩ := Option.bind_eq_some_iff.mp h
  obtain ⟨v, h3, h4⟩ := r.get h2
  exact ⟨v, Option.bind_eq_some_iff.mpr ⟨k, by rw [r.length]; exact h1, h3⟩, h4⟩
theorem b_ixL {d : D} (h : atI xs i = some d) : RV K (rIx K) (.d (.lst xs)) (.d (.int i)) μ (.d d) μ := rv_of fun Z H vx vy rx ry Q k => by
  cases rx with
  | lst n1 h1 r1 => cases ry with
    | int => obtain ⟨v, q1, q2⟩ := r1.atI h; exact .inl ⟨_, _, i, v, rfl, rfl, SqL.of h1, q1, k v q2⟩
theorem b_ixT {d : D} (h : atI xs i = some d) : RV K (rIx K) (.d (.tup xs)) (.d (.int i)) μ (.d d) μ := rv_of fun Z H vx vy rx ry Q k => by
  cases rx with
  | tup n1 h1 r1 => cases ry with
    | int => obtain ⟨v, q1, q2⟩ := r1.atI h; exact .inr (.inl ⟨_, _, i, v, rfl, rfl, SqT.of h1, q1, k v q2⟩)
theorem b_ixS {c : Nat} (hl : a.length ≤ 100000) (h : atI a.cps.toList i = some c) : RV K (rIx K) (.d (.str a)) (.d (.int i)) μ (.d (.str ⟨#[c]⟩)) μ := rv_of fun Z H vx vy rx ry Q k => by
  cases rx; cases ry
  exact .inr (.inr ⟨a, i, c, rfl, rfl, by rw [sizeLine_eq]; omega, h, k _ (.str _)⟩)
theorem b_ixF {ns : List Int} {n : Int} (h : atI ns i = some n) : RV K (rIx K) (.d (.fz ns)) (.d (.int i)) μ (.d (.int n)) μ := rv_of fun Z H vx vy rx ry Q k => by
  cases ry
  cases rx with
  | fzT n1 h1 => exact .inl ⟨_, _, i, .int n, rfl, rfl, .inl (.inr ⟨_, h1⟩), atI_map V.int h, k _ (.int _)⟩
  | fzK h1 => exact .inl ⟨_, _, i, .int n, rfl, rfl, .inr h1, atI_map V.int h, k _ (.int _)⟩
/-- an item of a cell -/
theorem b_ixC {k : Nat} {cs : List AV} {d : AV} (hc : μ[k]? = some (.lst cs)) (h : atI cs i = some d) : RV K (rIx K) (.cell k) (.d (.int i)) μ d μ := fun α Z H ok vx vy rx ry Q kk => by
  cases rx with
  | cell ha => cases ry with
    | d ry => cases ry with
      | int =>
        obtain ⟨vs, q1, q2⟩ := ok.c.at_ k _ _ ha hc
        obtain ⟨v, q3, q4⟩ := q2.atI h
        exact .inl ⟨_, _, i, v, rfl, rfl, SqL.of q1, q3, kk v H (.refl _ _) ok q4⟩
/-! len -/
theorem rc_1 {r : List V → Hp → VK → Prop} {d dz : D} (h : ∀ Z H v, Rp K Z H v d → ∀ Q : VK, (∀ w, Rp K Z H w dz → Q w H) → r [v] H Q) : RC K r [.d d] μ (.d dz) μ := fun α Z H ok vs rs Q k => by
  cases rs with
  | cons r1 r2 => cases r2; cases r1 with
    | d r1 => exact h Z H _ r1 Q fun w hw => k w H (.refl _ _) ok (.d hw)
theorem b_lenL : RC K (rLenA K) [.d (.lst xs)] μ (.d (.int xs.length)) μ := rc_1 fun Z H v rv Q k => by
  cases rv with
  | lst n1 h1 r1 => exact ⟨_, xs.length, rfl, .inl ⟨_, SqL.of h1, r1.length.symm⟩, k _ (.int _)⟩
theorem b_lenT : RC K (rLenA K) [.d (.tup xs)] μ (.d (.int xs.length)) μ := rc_1 fun Z H v rv Q k => by
  cases rv with
  | tup n1 h1 r1 => exact ⟨_, xs.length, rfl, .inr ⟨_, SqT.of h1, r1.length.symm⟩, k _ (.int _)⟩
theorem b_lenS (h : a.length ≤ 100000) : RC K (rLenA K) [.d (.str a)] μ (.d (.int a.length)) μ := rc_1 fun Z H v rv Q k => by
  cases rv
  exact ⟨_, a.length, rfl, ⟨by rw [sizeLine_eq]; omega, rfl⟩, k _ (.int _)⟩
theorem b_lenF {ns : List Int} : RC K (rLenA K) [.d (.fz ns)] μ (.d (.int ns.length)) μ := rc_1 fun Z H v rv Q k => by
  cases rv with
  | fzT n1 h1 => exact ⟨_, ns.length, rfl, .inl ⟨_, .inl (.inr ⟨_, h1⟩), by rw [List.length_map]⟩, k _ (.int _)⟩
  | fzK h1 => exact ⟨_, ns.length, rfl, .inl ⟨_, .inr h1, by rw [List.length_map]⟩, k _ (.int _)⟩
theorem b_lenC {k : Nat} {cs : List AV} (hc : μ[k]? = some (.lst cs)) : RC K (rLenA K) [.cell k] μ (.d (.int cs.length)) μ := fun α Z H ok vs rs Q kk => by
  cases rs with
  | cons r1 r2 => cases r2; cases r1 with
    | cell ha =>
      obtain ⟨vs, q1, q2⟩ := ok.c.at_ k _ _ ha hc
      exact ⟨_, cs.length, rfl, .inl ⟨_, SqL.of q1, q2.length.symm⟩, kk _ H (.refl _ _) ok (.d (.int _))⟩
/-! repr -/
theorem b_repr {d : D} (hp : d.plain = true) (hs : d.py.showable = true) (hn : d.py.hasDict = false) (hd : d.py.depth ≤ 60) (hz : d.py.shown.length ≤ 16777216) : RC K (rReprA K) [.d d] μ (.d (.str d.py.shown)) μ := rc_1 fun Z H v rv Q k =>
  ⟨v, d.py, rfl, rv.dp hp, hs, hn, hd, by rw [sizeLine_eq]; exact hz, k _ (.str _)⟩
/-! list(..), tuple(..), abs, int, max, min -/
abbrev rListA (K : PySem.W.Frag) : List V → Hp → VK → Prop := fun xs H Q => ∃ p ys, xs = [.ref p] ∧ (SqL K H p ys ∨ SqT K H p ys) ∧ ∀ l, H l = none → Q (.ref l) (upd H l (.lst ys))
theorem rcn_new {d : D} (h : ∀ Z H v, Rp K Z H v d → ∃ p vs, v = .ref p ∧ (SqL K H p vs ∨ SqT K H p vs) ∧ RpA K Z H vs xs) : RCN K (rListA K) [.d d] μ (xs.map .d) μ := fun α Z H ok vs rs Q k => by
  cases rs with
  | cons r1 r2 => cases r2; cases r1 with
    | d r1 =>
      obtain ⟨p, ws, rfl, h1, h2⟩ := h Z H _ r1
      exact ⟨p, ws, rfl, h1, fun l hl => k l ws _ (Ext.new hl) hl upd_same (ok.keepOff hl (Ext.laid hl) ⟨_, upd_same⟩) (.of_data (h2.gr ok.w (Gr.new1 (α := α) hl (Ext.laid hl))))⟩
theorem b_listL : RCN K (rListA K) [.d (.lst xs)] μ (xs.map .d) μ := rcn_new fun Z H v r => by cases r with | lst n h r => exact ⟨_, _, rfl, .inl (SqL.of h), r⟩
theorem b_listT : RCN K (rListA K) [.d (.tup xs)] μ (xs.map .d) μ := rcn_new fun Z H v r => by cases r with | tup n h r => exact ⟨_, _, rfl, .inr (SqT.of h), r⟩
abbrev rTupA (K : PySem.W.Frag) : List V → Hp → VK → Prop := fun xs H Q => ∃ p ys, xs = [.ref p] ∧ ((SqL K H p ys ∧ ∀ l, H l = none → Q (.ref l) (upd H l (.tup ys))) ∨ (SqT K H p ys ∧ Q (.ref p) H))
theorem b_tupL : RC K (rTupA K) [.d (.lst xs)] μ (.d (.tup xs)) μ := fun α Z H ok vs rs Q k => by
  cases rs with
  | cons r1 r2 => cases r2; cases r1 with
    | d r1 => cases r1 with
      | lst n h r => exact ⟨_, _, rfl, .inl ⟨SqL.of h, fun l hl => k _ _ (Ext.new hl) (ok.laid hl) (.d (.tup (ok.w.off hl) upd_same (r.gr ok.w (.of_ext (Ext.new (α := α) hl)))))⟩⟩
theorem b_tupT : RC K (rTupA K) [.d (.tup xs)] μ (.d (.tup xs)) μ := fun α Z H ok vs rs Q k => by
  cases rs with
  | cons r1 r2 => cases r2; cases r1 with
    | d r1 => cases r1 with
      | tup n h r => exact ⟨_, _, rfl, .inr ⟨SqT.of h, k _ H (.refl _ _) ok (.d (.tup n h r))⟩⟩
abbrev rAbsA : List V → Hp → VK → Prop := fun xs H Q => ∃ i, xs = [.int i] ∧ Q (.int (if i < 0 then -i else i)) H
theorem b_abs : RC K rAbsA [.d (.int i)] μ (.d (.int (if i < 0 then -i else i))) μ := rc_1 fun Z H v r Q k => by cases r; exact ⟨i, rfl, k _ (.int _)⟩
abbrev rIntA : List V → Hp → VK → Prop := fun xs H Q => (∃ i, xs = [.int i] ∧ Q (.int i) H) ∨ ∃ k, xs = [.bl k] ∧ Q (.int (if k then 1 else 0)) H
theorem b_intB {p : Bool} : RC K rIntA [.d (.bl p)] μ (.d (.int (if p then 1 else 0))) μ := rc_1 fun Z H v r Q k => by cases r; exact .inr ⟨p, rfl, k _ (.int _)⟩
theorem rc_2 {r : List V → Hp → VK → Prop} {d e dz : D} (h : ∀ Z H v w, Rp K Z H v d → Rp K Z H w e → ∀ Q : VK, (∀ u, Rp K Z H u dz → Q u H) → r [v, w] H Q) : RC K r [.d d, .d e] μ (.d dz) μ := fun α Z H ok vs rs Q k => by
  cases rs with
  | cons r1 r2 => cases r2 with
    | cons r2 r3 => cases r3; cases r1 with
      | d r1 => cases r2 with
        | d r2 => exact h Z H _ _ r1 r2 Q fun w hw => k w H (.refl _ _) ok (.d hw)
abbrev rMax2A : List V → Hp → VK → Prop := fun xs H Q => ∃ i j, xs = [.int i, .int j] ∧ Q (.int (if j > i then j else i)) H
abbrev rMin2A : List V → Hp → VK → Prop := fun xs H Q => ∃ i j, xs = [.int i, .int j] ∧ Q (.int (if j < i then j else i)) H
theorem b_max2 : RC K rMax2A [.d (.int i), .d (.int j)] μ (.d (.int (max i j))) μ := rc_2 fun Z H v w r1 r2 Q k => by
  cases r1; cases r2
  refine ⟨i, j, rfl, ?_⟩
  have e : (if j > i then j else i) = max i j := by rw [Int.max_def]; split <;> split <;> omega
  rw [e]; exact k _ (.int _)
theorem b_min2 : RC K rMin2A [.d (.int i), .d (.int j)] μ (.d (.int (min i j))) μ := rc_2 fun Z H v w r1 r2 Q k => by
  cases r1; cases r2
  refine ⟨i, j, rfl, ?_⟩
  have e : (if j < i then j else i) = min i j := by rw [Int.min_def]; split <;> split <;> omega
  rw [e]; exact k _ (.int _)
/-! any, all, sorted, index -/
theorem b_any {bs : List Bool} : RC K (rAny K) [.d (.lst (bs.map .bl))] μ (.d (.bl (bs.any id))) μ := rc_1 fun Z H v r Q k => by
  cases r with
  | lst n h r => have e := r.bls_inv; subst e; exact ⟨_, bs, rfl, SqL.of h, k _ (.bl _)⟩
theorem b_all {bs : List Bool} : RC K (rAll K) [.d (.lst (bs.map .bl))] μ (.d (.bl (bs.all id))) μ := rc_1 fun Z H v r Q k => by
  cases r with
  | lst n h r => have e := r.bls_inv; subst e; exact ⟨_, bs, rfl, SqL.of h, k _ (.bl _)⟩
def insI (n : Int) : List Int → List Int
  | [] => [n]
  | m :: r => if n ≤ m then n :: m :: r else m :: insI n r
def sortI : List Int → List Int
  | [] => []
  | n :: r => insI n (sortI r)
theorem insI_perm (n : Int) : ∀ l : List Int, (insI n l).Perm (n :: l)
  | [] => .refl _
  | m :: r => by
    unfold insI
    split
    · exact .refl _
    · exact ((insI_perm n r).cons m).trans (.swap n m r)
theorem sortI_perm : ∀ l : List Int, (sortI l).Perm l
  | [] => .refl _
  | n :: r => (insI_perm n _).trans ((sortI_perm r).cons n)
theorem insI_sorted (n : Int) : ∀ l : List Int, l.Pairwise (· ≤ ·) → (insI n l).Pairwise (· ≤ ·)
  | [], _ => by simp [insI]
  | m :: r, h => by
    unfold insI
    rw [List.pairwise_cons] at h
    split
    · rename_i hn
      refine List.pairwise_cons.mpr ⟨fun x hx => ?_, List.pairwise_cons.mpr h⟩
      rcases List.mem_cons.mp hx with e | e
      · omega
      · have := h.1 x e; omega
    · rename_i hn
      refine List.pairwise_cons.mpr ⟨fun x hx => ?_, insI_sorted n r h.2⟩
      rcases List.mem_cons.mp ((insI_perm n r).mem_iff.mp hx) with e | e
      · omega
      · exact h.1 x e
theorem sortI_sorted : ∀ l : List Int, (sortI l).Pairwise (· ≤ ·)
  | [] => .nil
  | n :: r => insI_sorted n _ (sortI_sorted r)
theorem sorted_one {l l' : List Int} (p : l.Perm l') (h : l.Pairwise (· ≤ ·)) (h' : l'.Pairwise (· ≤ ·)) : l = l' := List.Perm.eq_of_pairwise (fun a b _ _ h1 h2 => by omega) h h' p
theorem b_sortI {ns : List Int} : RCN K (rSortedI K) [.d (.lst (ns.map .int))] μ ((sortI ns).map fun n => .d (.int n)) μ := fun α Z H ok vs rs Q k => by
  cases rs with
  | cons r1 r2 => cases r2; cases r1 with
    | d r1 => cases r1 with
      | lst n h r =>
        have e := r.ints_inv; subst e
        refine ⟨_, ns, rfl, SqL.of h, fun ns' p hp hs hn => ?_⟩
        have e := sorted_one (hp.trans (sortI_perm ns).symm) hs (sortI_sorted ns)
        subst e
        refine k p _ _ (Ext.new hn) hn upd_same (ok.keepOff hn (Ext.laid hn) ⟨_, upd_same⟩) ?_
        have := RpVs.of_data (K := K) (α := α) (Z := p :: Z) (H := upd H p (.lst ((sortI ns).map V.int))) (RpA.ints (sortI ns))
        rw [List.map_map] at this; exact this
end
end DL

set_option Elab.async false
set_option linter.all false
set_option maxRecDepth 100000
set_option maxHeartbeats 4000000
/-! DL7: what is walked, slices, cells changed, comprehensions. -/
namespace DL
open PySem PySem.Spec PyProof.Rows L2
section
variable {K : PySem.W.Frag} {W : WX} {P : Po} {ρ ρ' : Slots} {μ μ1 μ2 μ3 : List CC} {ta tb tc te to : TE} {x y z : AV} {xs ys : List D} {i j : Int} {a b : Str} {ts : TA}
/-! ### walks -/
/-- items that stand already -/
theorem iw_plain {wi : TI} {items : List AV} (h : ∀ (α Z : List Addr) (σ : L2.St) (H : Hp), Okay K α Z H μ → SlotsOk K α Z H σ ρ → ∀ R : It → Hp → Prop,
    (∀ J H1 G (vs : List V), Ext α H H1 → Okay K α Z H1 μ1 → RpVs K α Z H1 vs items → Walk J vs.length G (YAt vs) → (∀ H2, Ext Z H1 H2 → G H2) → R J H1) → wi σ H R) : IW K wi ρ μ items μ1 := by
  intro α Z σ H ok sl R k
  refine h α Z σ H ok sl R fun J H1 G vs e1 ok1 rv w hG => ?_
  refine k J H1 G (YAt vs) e1 ok1 (by rw [← rv.length]; exact w) hG fun i Hx x Hy α' Z' gr wx hi hy => ?_
  obtain ⟨rfl, hx⟩ := hy
  have hi' : i < items.length := hi
  obtain ⟨v, h1, h2⟩ := rv.get (List.getElem?_eq_getElem hi')
  rw [hx] at h1; cases h1
  exact ⟨_, List.getElem?_eq_getElem hi', .refl _ _, h2.gw gr⟩
theorem iw_list {tl : TE} (h : EV K tl ρ μ (.d (.lst xs)) μ1) : IW K (iList K tl) ρ μ (xs.map .d) μ1 := iw_plain fun α Z σ H ok sl R k => h α Z σ H ok sl _ fun v H1 e1 ok1 r1 => by
  cases r1 with
  | d r1 => cases r1 with
    | lst n h1 r => exact ⟨_, rfl, ⟨_, SqL.of h1⟩, k _ H1 _ _ e1 ok1 (.of_data r) walk_list fun H2 e2 => SqL.of (e2 _ n _ h1)⟩
theorem iw_tup {tl : TE} (h : EV K tl ρ μ (.d (.tup xs)) μ1) : IW K (iTup K tl) ρ μ (xs.map .d) μ1 := iw_plain fun α Z σ H ok sl R k => h α Z σ H ok sl _ fun v H1 e1 ok1 r1 => by
  cases r1 with
  | d r1 => cases r1 with
    | tup n h1 r => exact ⟨_, rfl, ⟨_, SqT.of h1⟩, k _ H1 _ _ e1 ok1 (.of_data r) walk_tup fun H2 e2 => SqT.of (e2 _ n _ h1)⟩
/-- items by a function of the turn -/
theorem iw_fn {wi : TI} {items : List AV} {n : Nat} {f : Nat → V} (hl : items.length = n) (hf : ∀ (i : Nat) (d : AV) α Z H, items[i]? = some d → RpV K α Z H (f i) d) (h : ∀ (α Z : List Addr) (σ : L2.St) (H : Hp), Okay K α Z H μ → SlotsOk K α Z H σ ρ → ∀ R : It → Hp → Prop,
    (∀ J H1, Ext α H H1 → Okay K α Z H1 μ1 → Walk J n (fun _ => True) (YFn f) → R J H1) → wi σ H R) : IW K wi ρ μ items μ1 := by
  intro α Z σ H ok sl R k
  refine h α Z σ H ok sl R fun J H1 e1 ok1 w => k J H1 _ _ e1 ok1 (by rw [hl]; exact w) (fun _ _ => True.intro) fun i Hx x Hy α' Z' gr wx hi hy => ?_
  obtain ⟨rfl, rfl⟩ := hy
  exact ⟨_, List.getElem?_eq_getElem hi, .refl _ _, hf i _ _ _ _ (List.getElem?_eq_getElem hi)⟩
def rangeD (lo : Int) (n : Nat) : List AV := (List.range n).map fun k => .d (.int (lo + (k : Nat)))
theorem rangeD_get {lo : Int} {n i : Nat} {d : AV} (h : (rangeD lo n)[i]? = some d) : d = .d (.int (lo + (i : Nat))) ∧ i < n := by
  unfold rangeD at h
  rw [List.getElem?_map] at h
  have hi : i < n := by
    rcases Nat.lt_or_ge i n with q | q
    · exact q
    · rw [List.getElem?_eq_none (by rw [List.length_range]; exact q)] at h; cases h
  rw [List.getElem?_range hi] at h
  exact ⟨(Option.some.inj h).symm, hi⟩
theorem iw_range1 (h : EA K ts ρ μ [.d (.int j)] μ1) (hj : j ≤ 100000) (hj0 : -100000 ≤ j) : IW K (iRng1 ts) ρ μ (rangeD 0 j.toNat) μ1 :=
  iw_fn (n := j.toNat) (f := fun i => .int (0 + (i : Nat))) (by unfold rangeD; rw [List.length_map, List.length_range]) (fun i d α Z H hd => by rw [(rangeD_get hd).1]; exact .d (.int _)) fun α Z σ H ok sl R k => h α Z σ H ok sl _ fun vs H1 e1 ok1 r1 => by
    cases r1 with
    | cons a b => cases b; cases a with
      | d a => cases a; exact ⟨j, rfl, by omega, by omega, k _ H1 e1 ok1 walk_range⟩
theorem iw_range2 (h : EA K ts ρ μ [.d (.int i), .d (.int j)] μ1) (hi : -100000 ≤ i ∧ i ≤ 100000) (hj : -100000 ≤ j ∧ j ≤ 100000) : IW K (iRng2 ts) ρ μ (rangeD i (j - i).toNat) μ1 :=
  iw_fn (n := (j - i).toNat) (f := fun k => .int (i + (k : Nat))) (by unfold rangeD; rw [List.length_map, List.length_range]) (fun i d α Z H hd => by rw [(rangeD_get hd).1]; exact .d (.int _)) fun α Z σ H ok sl R k => h α Z σ H ok sl _ fun vs H1 e1 ok1 r1 => by
    cases r1 with
    | cons a b => cases b with
      | cons b c => cases c; cases a with
        | d a => cases b with
          | d b => cases a; cases b; exact ⟨i, j, rfl, by omega, k _ H1 e1 ok1 walk_range⟩
theorem iw_str (h : EV K te ρ μ (.d (.str a)) μ1) : IW K (iStr te) ρ μ (a.cps.toList.map fun c => .d (.str ⟨#[c]⟩)) μ1 := by
  intro α Z σ H ok sl R k
  refine h α Z σ H ok sl _ fun v H1 e1 ok1 r1 => ?_
  cases r1 with
  | d r1 =>
    cases r1
    refine ⟨a, rfl, k _ H1 _ _ e1 ok1 (by rw [List.length_map, Array.length_toList]; exact walk_str) (fun _ _ => True.intro) fun i Hx x Hy α' Z' gr wx hi hy => ?_⟩
    obtain ⟨rfl, c, hc, rfl⟩ := hy
    refine ⟨.d (.str ⟨#[c]⟩), ?_, .refl _ _, .d (.str _)⟩
    rw [List.getElem?_map, Array.getElem?_toList, hc]; rfl
/-- new pairs -/
theorem iw_pair {wi : TI} {items : List (D × D)} {fx fy : Nat → Option V} (h : ∀ (α Z : List Addr) (σ : L2.St) (H : Hp), Okay K α Z H μ → SlotsOk K α Z H σ ρ → ∀ R : It → Hp → Prop,
    (∀ J H1 G fx fy, Ext α H H1 → Okay K α Z H1 μ1 → (∀ (i : Nat) (d : D × D) (v w : V), items[i]? = some d → fx i = some v → fy i = some w → Rp K Z H1 v d.1 ∧ Rp K Z H1 w d.2) → Walk J items.length G (YPair fx fy) → (∀ H2, Ext Z H1 H2 → G H2) → R J H1) → wi σ H R) :
    IW K wi ρ μ (items.map fun d => .d (.tup [d.1, d.2])) μ1 := by
  intro α Z σ H ok sl R k
  refine h α Z σ H ok sl R fun J H1 G fx fy e1 ok1 hf w hG => k J H1 G _ e1 ok1 (by rw [List.length_map]; exact w) hG fun i Hx x Hy α' Z' gr wx hi hy => ?_
  rw [List.length_map] at hi
  obtain ⟨T, u, v, rfl, hT, rfl, h1, h2⟩ := hy
  obtain ⟨q1, q2⟩ := hf i _ u v (List.getElem?_eq_getElem hi) h1 h2
  refine ⟨.d (.tup [items[i].1, items[i].2]), by rw [List.getElem?_map, List.getElem?_eq_getElem hi]; rfl, Ext.laid hT, .d (.tup (wx.off hT) upd_same ?_)⟩
  exact .cons (q1.gw (gr.laid hT)) (.cons (q2.gw (gr.laid hT)) .nil)
theorem iw_enum (h : EA K ts ρ μ [.d (.lst xs)] μ1) : IW K (iEnum K ts) ρ μ ((xs.zipIdx.map fun p => (D.int (p.2 : Nat), p.1)).map fun d => .d (.tup [d.1, d.2])) μ1 :=
  iw_pair (fx := fun _ => none) (fy := fun _ => none) fun α Z σ H ok sl R k => h α Z σ H ok sl _ fun vs H1 e1 ok1 r1 => by
    cases r1 with
    | cons a b => cases b; cases a with
      | d a => cases a with
        | lst n h1 r =>
          refine ⟨_, _, rfl, SqL.of h1, k _ H1 _ _ _ e1 ok1 (fun i d v w hd hv hw => ?_) (by rw [List.length_map, List.length_zipIdx, ← r.length]; exact walk_enum) fun H2 e2 => SqL.of (e2 _ n _ h1)⟩
          rw [List.getElem?_map, List.getElem?_zipIdx] at hd
          obtain ⟨d2, q1, q2⟩ := r.at hw
          rw [q1] at hd
          have e := Option.some.inj hd
          subst e
          cases hv
          exact ⟨by show Rp K Z H1 _ (.int ((0 + i : Nat) : Int)); rw [Nat.zero_add]; exact .int _, q2⟩
theorem iw_zip (h : EA K ts ρ μ [.d (.lst xs), .d (.lst ys)] μ1) : IW K (iZip K ts) ρ μ ((xs.zip ys).map fun d => .d (.tup [d.1, d.2])) μ1 :=
  iw_pair (fx := fun _ => none) (fy := fun _ => none) fun α Z σ H ok sl R k => h α Z σ H ok sl _ fun vs H1 e1 ok1 r1 => by
    cases r1 with
    | cons a b => cases b with
      | cons b c => cases c; cases a with
        | d a => cases b with
          | d b => cases a with
            | lst n h1 r => cases b with
              | lst n2 h2 r2 =>
                refine ⟨_, _, _, _, rfl, SqL.of h1, SqL.of h2, k _ H1 _ _ _ e1 ok1 (fun i d v w hd hv hw => ?_) (walk_zip (by rw [List.length_zip, r.length, r2.length])) fun H2 e2 => ⟨SqL.of (e2 _ n _ h1), SqL.of (e2 _ n2 _ h2)⟩⟩
                obtain ⟨d1, q1, q2⟩ := r.at hv
                obtain ⟨d2, q3, q4⟩ := r2.at hw
                rw [List.getElem?_zip_eq_some] at hd
                rw [q1, q3] at hd
                obtain ⟨e1, e2⟩ := hd
                cases e1; cases e2
                exact ⟨q2, q4⟩
/-! ### slices -/
def EO (K : PySem.W.Frag) (to : TO) (ρ : Slots) (μ : List CC) (o : Option Int) (μ' : List CC) : Prop :=
  ∀ (α Z : List Addr) (σ : L2.St) (H : Hp), Okay K α Z H μ → SlotsOk K α Z H σ ρ → ∀ Q : Option Int → Hp → Prop, (∀ H', Ext α H H' → Okay K α Z H' μ' → Q o H') → to σ H Q
theorem eo_none : EO K tNoPart ρ μ none μ := fun α Z σ H ok sl Q k => k H (.refl _ _) ok
theorem eo_some (h : EV K te ρ μ (.d (.int i)) μ1) : EO K (tPart te) ρ μ (some i) μ1 := fun α Z σ H ok sl Q k => h α Z σ H ok sl _ fun v H1 e1 ok1 r1 => by
  cases r1 with
  | d r1 => cases r1; exact ⟨i, rfl, k H1 e1 ok1⟩
/-- xs[lo:hi] by data -/
def cutD {α : Type} (xs : List α) (lo hi : Option Int) : List α := (xs.drop (HT.sIx xs.length 0 lo)).take (HT.sIx xs.length xs.length hi - HT.sIx xs.length 0 lo)
theorem cutV_eq (vs : List V) (lo hi : Option Int) : cutV vs lo hi = cutD vs lo hi := rfl
theorem RpA.cut {Z : List Addr} {H : Hp} {vs : List V} (r : RpA K Z H vs xs) (lo hi : Option Int) : RpA K Z H (cutV vs lo hi) (cutD xs lo hi) := by
  unfold cutV cutD
  rw [r.length]
  exact (r.drop _).take _
/-- a slice of a list, a tuple or a text -/
def rSlAny (K : PySem.W.Frag) : V → Option Int → Option Int → Hp → VK → Prop := fun x lo hi H Q => rSlL K x lo hi H Q ∨ rSlA K x lo hi H Q
theorem sl_any {X : Cx} : SlR X (rSlAny X.K) := sl_list.or sl_tupA
theorem en_slL {tl th : TO} {lo hi : Option Int} (h : EV K te ρ μ (.d (.lst xs)) μ) (h1 : EO K tl ρ μ lo μ) (h2 : EO K th ρ μ hi μ) : EN K (tSl (rSlAny K) te tl th) ρ μ ((cutD xs lo hi).map .d) μ :=
  fun α Z σ H ok sl Q k => h α Z σ H ok sl _ fun v H1 e1 ok1 r1 => h1 α Z σ H1 ok1 (sl.ext ok e1) _ fun H2 e2 ok2 => h2 α Z σ H2 ok2 (sl.ext ok (e1.trans e2)) _ fun H3 e3 ok3 => by
    have r3 := (r1.ext ok1 e2).ext ok2 e3
    cases r3 with
    | d r3 => cases r3 with
      | lst n q r => exact .inl ⟨_, _, rfl, SqL.of q, fun p hp => k p _ _ (e1.trans (e2.trans (e3.trans (Ext.new hp)))) (none_back (fun q => ok3.w.off hp (ok.w.sub p q)) (e1.trans (e2.trans e3)) hp) upd_same (ok3.keepOff hp (Ext.laid hp) ⟨_, upd_same⟩)
          (.of_data ((r.cut lo hi).gr ok3.w (Gr.new1 (α := α) hp (Ext.laid hp))))⟩
theorem ev_slT {tl th : TO} {lo hi : Option Int} (h : EV K te ρ μ (.d (.tup xs)) μ) (h1 : EO K tl ρ μ lo μ) (h2 : EO K th ρ μ hi μ) : EV K (tSl (rSlAny K) te tl th) ρ μ (.d (.tup (cutD xs lo hi))) μ :=
  fun α Z σ H ok sl Q k => h α Z σ H ok sl _ fun v H1 e1 ok1 r1 => h1 α Z σ H1 ok1 (sl.ext ok e1) _ fun H2 e2 ok2 => h2 α Z σ H2 ok2 (sl.ext ok (e1.trans e2)) _ fun H3 e3 ok3 => by
    have e123 := e1.trans (e2.trans e3)
    have r3 := (r1.ext ok1 e2).ext ok2 e3
    cases r3 with
    | d r3 => cases r3 with
      | tup n q r =>
        refine .inr ⟨_, _, rfl, SqT.of q, fun hw => ?_, fun hw p hp => ?_⟩
        · rw [r.length] at hw
          have e : cutD xs lo hi = xs := by
            unfold cutD
            rw [hw.1, hw.2, List.drop_zero, Nat.sub_zero, List.take_length]
          rw [e] at k
          exact k _ H3 e123 ok3 (.d (.tup n q r))
        · exact k _ _ (e123.trans (Ext.new hp)) (ok3.laid hp) (.d (.tup (ok3.w.off hp) upd_same ((r.cut lo hi).gr ok3.w (.of_ext (Ext.new (α := α) hp)))))
/-! ### cells changed -/
/-- xs.append(e) -/
theorem ev_append {k : Nat} {cs : List AV} (ho : EV K to ρ μ (.cell k) μ) (he : EV K te ρ μ x μ1) (hc0 : μ[k]? = some (.lst ys0)) (hc : μ1[k]? = some (.lst cs)) (hl : cs.length ≤ 100000) :
    EV K (tBM K "list" rAppend to (tCons te tNil)) ρ μ (.d .non) (μ1.set k (.lst (cs ++ [x]))) :=
  fun α Z σ H ok sl Q kk => ho α Z σ H ok sl _ fun v H1 e1 ok1 r1 => by
    cases r1 with
    | cell ha =>
      obtain ⟨vs0, q0, _⟩ := ok1.c.at_ k _ _ ha hc0
      refine ⟨.inl ⟨rfl, _, SqL.of q0⟩, he α Z σ H1 ok1 (sl.ext ok e1) _ fun w H2 e2 ok2 r2 => ?_⟩
      obtain ⟨vs, q1, q2⟩ := ok2.c.at_ k _ _ ha hc
      refine ⟨_, vs, w, rfl, rfl, q1, by rw [q2.length, sizeLine_eq]; omega, ?_⟩
      have hZ := ok2.w.sub _ (List.mem_of_getElem? ha)
      obtain ⟨ok3, e3⟩ := ok2.write (c := .lst (cs ++ [x])) (o := .lst (vs ++ [w])) ha ⟨_, upd_same, ((q2.append (.cons r2 .nil)).touch hZ)⟩
      exact kk _ _ (e1.trans (e2.trans e3)) ok3 (.d .non)
/-- xs.pop() -/
theorem ev_pop {k : Nat} {cs : List AV} (ho : EV K to ρ μ (.cell k) μ) (hc : μ[k]? = some (.lst cs)) (hx : cs[cs.length - 1]? = some x) : EV K (tBM0 K "list" rPop to) ρ μ x (μ.set k (.lst cs.dropLast)) :=
  fun α Z σ H ok sl Q kk => ho α Z σ H ok sl _ fun v H1 e1 ok1 r1 => by
    cases r1 with
    | cell ha =>
      obtain ⟨vs, q1, q2⟩ := ok1.c.at_ k _ _ ha hc
      obtain ⟨w, h1, h2⟩ := q2.get hx
      have hZ := ok1.w.sub _ (List.mem_of_getElem? ha)
      refine ⟨.inl ⟨rfl, _, SqL.of q1⟩, _, vs, w, rfl, rfl, q1, by rw [q2.length]; exact h1, ?_⟩
      obtain ⟨ok3, e3⟩ := ok1.write (c := .lst cs.dropLast) (o := .lst vs.dropLast) ha ⟨_, upd_same, q2.dropLast.touch hZ⟩
      exact kk _ _ (e1.trans e3) ok3 (h2.touch hZ)
/-- xs.pop(i), 0 ≤ i < len -/
theorem ev_popAt {k : Nat} {cs cs0 : List AV} {n : Nat} (ho : EV K to ρ μ (.cell k) μ) (hc0 : μ[k]? = some (.lst cs0)) (he : EV K te ρ μ (.d (.int (n : Nat))) μ1) (hc : μ1[k]? = some (.lst cs)) (hx : cs[n]? = some x) (hl : cs.length ≤ 100000) :
    EV K (tBM K "list" rPopAt to (tCons te tNil)) ρ μ x (μ1.set k (.lst (cs.eraseIdx n))) :=
  fun α Z σ H ok sl Q kk => ho α Z σ H ok sl _ fun v H1 e1 ok1 r1 => by
    cases r1 with
    | cell ha =>
      obtain ⟨vs0, q0, _⟩ := ok1.c.at_ k _ _ ha hc0
      refine ⟨.inl ⟨rfl, _, SqL.of q0⟩, he α Z σ H1 ok1 (sl.ext ok e1) _ fun w H2 e2 ok2 r2 => ?_⟩
      cases r2 with
      | d r2 =>
        cases r2
        obtain ⟨vs, q1, q2⟩ := ok2.c.at_ k _ _ ha hc
        obtain ⟨w, h1, h2⟩ := q2.get hx
        have hn : n < cs.length := (List.getElem?_eq_some_iff.mp hx).1
        have hZ := ok2.w.sub _ (List.mem_of_getElem? ha)
        have hix : ixN vs.length (n : Nat) = some n := by
          unfold ixN
          rw [q2.length, if_pos (by omega), if_pos (by omega)]; rfl
        refine ⟨_, vs, (n : Nat), n, w, rfl, rfl, q1, by omega, by omega, (ixN_seq hix).1, h1, ?_⟩
        obtain ⟨ok3, e3⟩ := ok2.write (c := .lst (cs.eraseIdx n)) (o := .lst (vs.eraseIdx n)) ha ⟨_, upd_same, (q2.eraseIdx n).touch hZ⟩
        exact kk _ _ (e1.trans (e2.trans e3)) ok3 (h2.touch hZ)
/-- xs[i] = e -/
theorem sv_setL {ti : TE} {k n : Nat} {cs : List AV} (he : EV K te ρ μ x μ1) (ho : EV K to ρ μ1 (.cell k) μ1) (hi : EV K ti ρ μ1 (.d (.int (n : Nat))) μ1) (hc : μ1[k]? = some (.lst cs)) (hn : n < cs.length) (kk : P.nx ρ (μ1.set k (.lst (cs.set n x)))) :
    SV K W (tAsg te (gSub to ti rSetL)) ρ μ P := by
  intro α0 Z0 H0 α Z σ H D w0 gr ok sl kc
  refine he α Z σ H ok sl _ fun v H1 e1 ok1 r1 => ho α Z σ H1 ok1 (sl.ext ok e1) _ fun u H2 e2 ok2 r2 => ?_
  cases r2 with
  | cell ha =>
    refine hi α Z σ H2 ok2 (sl.ext ok (e1.trans e2)) _ fun w H3 e3 ok3 r3 => ?_
    cases r3 with
    | d r3 =>
      cases r3
      obtain ⟨vs, q1, q2⟩ := ok3.c.at_ k _ _ ha hc
      have hZ := ok3.w.sub _ (List.mem_of_getElem? ha)
      refine ⟨_, vs, (n : Nat), n, rfl, rfl, q1, ?_, ?_⟩
      · unfold ixN
        rw [q2.length, if_pos (by omega), if_pos (by omega)]; rfl
      · have r' := (r1.ext ok1 e2).ext ok2 e3
        obtain ⟨ok4, e4⟩ := ok3.write (c := .lst (cs.set n x)) (o := .lst (vs.set n v)) ha ⟨_, upd_same, (q2.set n r').touch hZ⟩
        have e := e1.trans (e2.trans (e3.trans e4))
        exact kc.nx _ _ α Z _ _ kk (gr.ext1 w0 ok e) ok4 (sl.ext ok e)
end
end DL

set_option Elab.async false
set_option linter.all false
set_option maxRecDepth 100000
set_option maxHeartbeats 4000000
/-! DL8: defs by contract on data (the guards of repr known), calls of them, the law's end. -/
namespace DL
open PySem PySem.Spec PyProof.Rows L2
inductive Out where
  | ret (r : AV) | exc (c : Value) (fs : List (Str × D)) | new (xs : List D)
abbrev Ctr := List AV → List CC → Out → List CC → Prop
/-- the promise that a contract stands for -/
def SpR (K : PySem.W.Frag) (R : Ctr) : Sp := fun vs H Q E => ∃ (α Z : List Addr) (args : List AV) (μ : List CC) (o : Out) (μ' : List CC), Okay K α Z H μ ∧ RpVs K α Z H vs args ∧ R args μ o μ' ∧
  (∀ r v H', o = .ret r → Ext α H H' → Okay K α Z H' μ' → RpV K α Z H' v r → Q v H') ∧ (∀ c fs d H', o = .exc c fs → Ext α H H' → Okay K α Z H' μ' → ExcOk K Z H' d fs → E c d H') ∧
  (∀ xs p vs H', o = .new xs → Ext α H H' → H p = none → H' p = some (.lst vs) → Okay K α (p :: Z) H' μ' → RpA K (p :: Z) H' vs xs → Q (.ref p) H')
/-- a def keeps a promise where nothing is being shown by repr -/
structure FnG (gd : Bool) (P : Program) (w : World) (K : PySem.W.Frag) (mg : Str → Option Value) (base : Heap) (k : Nat) (f : Addr) (fd : FuncData) (ps : List Str) (sp : Sp) : Prop where
  len : ∀ vs H Q E, sp vs H Q E → vs.length = ps.length
  run : ∀ (A : Around) (outer : List Env) (s : Shared) (H : Hp) (args : Args) (us : List Value) (vs : List V) (Q : VK) (E : XK), Room k A → (gd = true → A.guards = some []) → Env0 P w K mg base A outer s H →
    BindsTo s fd args (ps.zip us) → Vals vs us → sp vs H Q E → codeAny (model P w) A (.call (.ref f) args) (CR (L2.CX P w) outer P w H s Q E) s
theorem FnG.mono {gd : Bool} {P : Program} {w : World} {K : PySem.W.Frag} {mg : Str → Option Value} {base : Heap} {j k : Nat} {f : Addr} {fd : FuncData} {ps : List Str} {sp : Sp} (F : FnG gd P w K mg base j f fd ps sp) (h : j ≤ k) : FnG gd P w K mg base k f fd ps sp :=
  ⟨F.len, fun A outer s H args us vs Q E hr hg => F.run A outer s H args us vs Q E (hr.mono h) hg⟩
section
variable {P : Program} {w : World} {K : PySem.W.Frag} {mg : Str → Option Value} {base : Heap}
theorem fng_of {gd : Bool} {x qual : Str} {st : Stmt} {f : Addr} {fd : FuncData} {N ps : List Str} {k : Nat} {sp : Sp} (F : Fun K x qual st f fd) (S : FnScope N ps (defScope st)) (len : ∀ vs H Q E, sp vs H Q E → vs.length = ps.length)
    (hb : ∀ (cdv : Value) (A : Around) (outer : List Env) (s : Shared) (H : Hp) (vs : List V) (Q : VK) (E : XK), Room k (A.deeper (envOfC qual (defScope st) s.heap.objs.size f cdv)) → (gd = true → (A.deeper (envOfC qual (defScope st) s.heap.objs.size f cdv)).guards = some []) → sp vs H Q E →
      ∃ t, PSs (cxOf (L2.CX P w) P w K mg base N qual (defScope st) f cdv A outer s H E) (defBody st) t ∧ t { nx := fun _ H' => Q .non H', rt := Q } (start N vs) H) : FnG gd P w K mg base (k + 1) f fd ps sp := by
  obtain ⟨oc, od, kV, doc, pm, an, cdv, ct, osl, rfl, lk, hcd⟩ := F.ex
  constructor
  · exact len
  intro A outer s H args us vs Q E hr hg e0 hbd rv hsp
  have hlen := len _ _ _ _ hsp
  have kin : K.In s.heap := e0.mod.kin.keeps (fun b ob eb => (e0.bs b ob eb).1)
  have nolim : s.heap.NoLimit := e0.mod.nolimit.keeps (fun b ob eb => (e0.bs b ob eb).1)
  have kinds : ∀ y ∈ ps.zip us, (defScope st).names.lookup y.1 = some .local ∨ ((defScope st).names.lookup y.1 = some .cell ∧ ((cellsFrom (s.heap.objs.size + 1) (defScope st).names []).lookup y.1).isSome = true) := by
    rintro ⟨nm, vv⟩ hy
    have hm := (List.of_mem_zip hy).1
    cases S.par nm hm with
    | inl q => exact Or.inl q
    | inr q => exact Or.inr ⟨q, PySem.W.cellsFrom_some _ _ _ (Or.inl q)⟩
  refine codeAny_call_function hr.depth (kin _ _ lk) rfl S.co S.gen rfl (PySem.W.codeRec_of kin hcd) (hbd _ _ _ _ (wpAny_newFunctionEnv_cells S.kind kinds ?_))
  rintro env rfl s1 x
  refine ⟨nolim.keeps x.toInCall.keep, codeAny_func ?_⟩
  obtain ⟨t, ht, hq⟩ := hb cdv A outer s H vs Q E (hr.deeper _) hg hsp
  have I0 := inv_start (CX := L2.CX P w) (E := E) S hr.hd e0 hlen rv x
  refine wpAny_mono (ht.run [] s1 (start N vs) H _ I0 hq) ?_ (fun _ _ q => q)
  intro fl s' hs
  cases fl with
  | next => obtain ⟨σ', H', J, q⟩ := hs; exact ⟨.non, H', J.os, J.bare, J.base, J.hok, rfl, q⟩
  | ret u => obtain ⟨v, σ', H', J, ru, q⟩ := hs; exact ⟨v, H', J.os, J.bare, J.base, J.hok, ru, q⟩
  | brk => obtain ⟨_, _, _, q⟩ := hs; exact q.elim
  | cont => obtain ⟨_, _, _, q⟩ := hs; exact q.elim
end
/-! ### calls -/
section
variable {X : Cx} {k : Nat} {f : Addr} {fd : FuncData} {ps : List Str} {sp : Sp} {x : Str} {p pos : Pos} {e : Expr} {es : List Expr} {t : TA} {W : WX}
def tCl (sp : Sp) (dvs : List V) (W : WX) (t : TA) : TE := fun σ H Q => t σ H fun vs H1 => sp (vs ++ dvs) H1 Q (WE W σ)
theorem run_cl {gd : Bool} {pins : List (Addr × Obj)} {σ : L2.St} {H : Hp} {s : Shared} {Q : VK} {us ds : List Value} {vs dvs : List V} (F : FnG gd X.prog X.w X.K X.mg X.base k f fd ps sp) (hr : Room k X.A) (hg : gd = true → X.A.guards = some []) (hb : Binds X.K fd ps ds) (hd : Vals dvs ds) (tk : Takes X W)
    (I : Inv X pins σ H s) (rv : Vals vs us) (h : sp (vs ++ dvs) H Q (WE W σ)) : wpAny (model X.prog X.w) X.A (call (.ref f) us) (EP X pins σ Q) X.xe s := by
  have rv2 := rv.append hd
  have el : (us ++ ds).length = ps.length := rv2.length.symm.trans (F.len _ _ _ _ h)
  have c := F.run X.A X.stack s H ⟨us, []⟩ (us ++ ds) (vs ++ dvs) Q (WE W σ) hr hg I.env0 (hb s us I.kIn el) rv2 h
  refine wpAny_call (codeAny_mono c ?_)
  intro r s' hq
  match r, hq with
  | .error ex, hq => exact passAt tk σ pins H s ex s' I hq
  | .ok (.ret u), hq => exact I.after hq
  | .ok .next, hq => exact hq.elim
  | .ok .brk, hq => exact hq.elim
  | .ok .cont, hq => exact hq.elim
theorem pe_cl {gd : Bool} {ds : List Value} {dvs : List V} (F : FnG gd X.prog X.w X.K X.mg X.base k f fd ps sp) (hr : Room k X.A) (hgd : gd = true → X.A.guards = some []) (hg : Gl X x) (hm : X.mg x = some (.ref f)) (hk : PySem.W.keepIn X.K (.ref f) = true) (hb : Binds X.K fd ps ds) (hd : Vals dvs ds) (tk : Takes X W)
    (ha : PA X (e :: es) t) (hdb : (x == ("__debug__" : Str)) = false := by decide) (he : starEach (e :: es) X.env = (false, eval e X.env) :: starEach es X.env := by rfl) (hpl : (backTo pos (starEach es X.env)).any (·.1) = false := by rfl) :
    PE X (.Call (.Name x p) (e :: es) [] pos) (tCl sp dvs W t) := by
  constructor
  intro pins s σ H Q I h
  refine wpAny_Call_Name_kw (ld_glob I hg hm (PySem.W.callWith_K (h₀ := X.base) I.ok.mod.kin hk (thn (ha.run pos pins s σ H _ I h) ?_) he hpl) hdb)
  rintro us s1 ⟨vs, H1, I1, rv, q⟩
  exact ⟨I1.kIn, run_cl F hr hgd hb hd tk I1 rv q⟩
/-- f() -/
theorem pe_cl0 {gd : Bool} {ds : List Value} {dvs : List V} (F : FnG gd X.prog X.w X.K X.mg X.base k f fd ps sp) (hr : Room k X.A) (hgd : gd = true → X.A.guards = some []) (hg : Gl X x) (hm : X.mg x = some (.ref f)) (hk : PySem.W.keepIn X.K (.ref f) = true) (hb : Binds X.K fd ps ds) (hd : Vals dvs ds) (tk : Takes X W)
    (hdb : (x == ("__debug__" : Str)) = false := by decide) : PE X (.Call (.Name x p) [] [] pos) (tCl sp dvs W tNil) := by
  constructor
  intro pins s σ H Q I h
  exact wpAny_Call_Name_kw (ld_glob I hg hm (PySem.W.callWith_K0 I.kIn hk (run_cl (us := []) F hr hgd hb hd tk I .nil h)) hdb)
end
/-! ### calls by data -/
def AV.isD : AV → Bool
  | .d _ => true
  | .cell _ => false
def CC.isD : CC → Bool
  | .lst xs => xs.all AV.isD
  | .dct es => es.all fun p => p.2.isD
  | .ins _ fs => fs.all fun p => p.2.isD
section
variable {K : PySem.W.Frag} {W : WX} {P : Po} {ρ ρ' : Slots} {μ μ1 μ2 μ3 : List CC} {ta : TA} {te : TE} {R : Ctr} {α β Z : List Addr} {H : Hp}
theorem RpV.re {v : V} {x : AV} (h : x.isD = true) (r : RpV K α Z H v x) : RpV K β Z H v x := by
  cases r with
  | d r => exact .d r
  | cell _ => simp [AV.isD] at h
theorem RpVs.re : ∀ {vs : List V} {xs : List AV}, xs.all AV.isD = true → RpVs K α Z H vs xs → RpVs K β Z H vs xs
  | _, _, _, .nil => .nil
  | _, _, p, .cons h r => by
    rw [List.all_cons, Bool.and_eq_true] at p
    exact .cons (h.re p.1) (RpVs.re p.2 r)
theorem RpVK.re : ∀ {vs : List (Key × V)} {xs : List (Key × AV)}, (xs.all fun p => p.2.isD) = true → RpVK K α Z H vs xs → RpVK K β Z H vs xs
  | _, _, _, .nil => .nil
  | _, _, p, .cons h r => by
    rw [List.all_cons, Bool.and_eq_true] at p
    exact .cons (h.re p.1) (RpVK.re p.2 r)
theorem RpVF.re : ∀ {vs : List (Str × V)} {xs : List (Str × AV)}, (xs.all fun p => p.2.isD) = true → RpVF K α Z H vs xs → RpVF K β Z H vs xs
  | _, _, _, .nil => .nil
  | _, _, p, .cons h r => by
    rw [List.all_cons, Bool.and_eq_true] at p
    exact .cons (h.re p.1) (RpVF.re p.2 r)
theorem CellOk.re {a : Addr} {c : CC} (h : c.isD = true) (r : CellOk K α Z H a c) : CellOk K β Z H a c := by
  cases c with
  | lst xs => obtain ⟨vs, h1, h2⟩ := r; exact ⟨vs, h1, h2.re h⟩
  | dct xs => obtain ⟨vs, h1, h2⟩ := r; exact ⟨vs, h1, h2.re h⟩
  | ins C fs => obtain ⟨dx, vs, h1, h2⟩ := r; exact ⟨dx, vs, h1, h2.re h⟩
theorem data_all (ds : List D) : (ds.map AV.d).all AV.isD = true := by rw [List.all_map]; exact List.all_eq_true.mpr fun _ _ => rfl
theorem Okay.noCells (ok : Okay K α Z H μ) : Okay K [] Z H [] := ⟨⟨.nil, fun a h => absurd h List.not_mem_nil, ok.w.there⟩, ⟨rfl, fun k a c h => by simp at h⟩⟩
theorem Okay.one (ok : Okay K α Z H μ) {k : Nat} {a : Addr} {c : CC} (ha : α[k]? = some a) (hc : μ[k]? = some c) (hd : c.isD = true) : Okay K [a] Z H [c] :=
  ⟨⟨by simp, fun b hb => by rw [List.mem_singleton.mp hb]; exact ok.w.sub a (List.mem_of_getElem? ha), ok.w.there⟩, ⟨rfl, fun j b c' h1 h2 => by
    cases j with
    | zero => cases h1; cases h2; exact (ok.c.at_ k a c ha hc).re hd
    | succ j => simp at h1⟩⟩
theorem Ext.one {a : Addr} {H' : Hp} (ha : a ∈ α) (e : Ext [a] H H') : Ext α H H' := fun b hb o q => e b (fun z => hb (by rw [List.mem_singleton.mp z]; exact ha)) o q
theorem Okay.back (ok : Okay K α Z H μ) {H' : Hp} {k : Nat} {a : Addr} {c' : CC} (ha : α[k]? = some a) (hd : c'.isD = true) (e : Ext [a] H H') (o2 : Okay K [a] Z H' [c']) : Okay K α Z H' (μ.set k c') := by
  have hm : a ∈ α := List.mem_of_getElem? ha
  refine ⟨⟨ok.w.nd, ok.w.sub, o2.w.there⟩, ⟨by rw [List.length_set]; exact ok.c.len, fun j b c h1 h2 => ?_⟩⟩
  by_cases q : j = k
  · subst q
    rw [ha] at h1; cases h1
    rw [List.getElem?_set_self (by rw [← ok.c.len]; exact (List.getElem?_eq_some_iff.mp ha).1)] at h2
    cases h2
    exact (o2.c.at_ 0 a c' rfl rfl).re hd
  · rw [List.getElem?_set_ne (fun z => q z.symm)] at h2
    have nb : b ≠ a := fun z => q (by
      subst z
      exact (List.getElem?_inj (List.getElem?_eq_some_iff.mp h1).1 ok.w.nd).mp (by rw [h1, ha]))
    obtain ⟨ob, hob⟩ := ok.w.there b (ok.w.sub b (List.mem_of_getElem? h1))
    have hb' := e b (fun z => nb (List.mem_singleton.mp z)) ob hob
    exact (ok.c.at_ j b c h1 h2).gr ok.w (.of_ext (e.one hm)) (by rw [hb', hob])
/-- a call without cells -/
theorem ev_call0 {ds : List D} {r : D} (ha : EA K ta ρ μ (ds.map .d) μ1) (hR : R (ds.map .d) [] (.ret (.d r)) []) : EV K (tCl (SpR K R) [] W ta) ρ μ (.d r) μ1 :=
  fun α Z σ H ok sl Q k => ha α Z σ H ok sl _ fun vs H1 e1 ok1 r1 => by
    rw [List.append_nil]
    refine ⟨[], Z, _, [], _, [], ok1.noCells, r1.re (data_all ds), hR, fun r' v H' e ex ok' rv => ?_, fun c fs d H' e => (nomatch e), fun xs p ws H' e => (nomatch e)⟩
    cases e
    exact k v H' (e1.trans ex.nil_any) (ok1.still ex) (rv.re rfl)
/-- a call that hands back a new list -/
theorem en_call0 {ds xs : List D} (ha : EA K ta ρ μ (ds.map .d) μ1) (hR : R (ds.map .d) [] (.new xs) []) : EN K (tCl (SpR K R) [] W ta) ρ μ (xs.map .d) μ1 :=
  fun α Z σ H ok sl Q k => ha α Z σ H ok sl _ fun vs H1 e1 ok1 r1 => by
    rw [List.append_nil]
    refine ⟨[], Z, _, [], _, [], ok1.noCells, r1.re (data_all ds), hR, fun r' v H' e => (nomatch e), fun c fs d H' e => (nomatch e), fun xs p ws H' e ex hp hv ok' ra => ?_⟩
    cases e
    exact k p ws H' (e1.trans ex.nil_any) (none_back (fun q => ok1.w.off hp (ok.w.sub p q)) e1 hp) hv (ok1.keepOff hp ex ⟨_, hv⟩) (.of_data ra)
/-- .. with one cell, the k-th -/
def up1 (k : Nat) : AV → AV
  | .d x => .d x
  | .cell _ => .cell k
def cell0 : AV → Bool
  | .d _ => true
  | .cell 0 => true
  | .cell _ => false
theorem RpVs.down {k : Nat} {a : Addr} (ha : α[k]? = some a) : ∀ {vs : List V} {xs : List AV}, xs.all cell0 = true → RpVs K α Z H vs (xs.map (up1 k)) → RpVs K [a] Z H vs xs
  | _, [], _, .nil => .nil
  | _, .d x :: xs, p, .cons (.d h) r => .cons (.d h) (RpVs.down ha (by simpa [cell0] using p) r)
  | _, .cell 0 :: xs, p, .cons (.cell h) r => by
    rw [ha] at h; cases h
    exact .cons (.cell rfl) (RpVs.down ha (by simpa [cell0] using p) r)
  | _, .cell (n + 1) :: xs, p, _ => by simp [cell0] at p
theorem ev_call1 {cargs : List AV} {k : Nat} {c c' : CC} {r : D} (ha : EA K ta ρ μ (cargs.map (up1 k)) μ1) (hc : μ1[k]? = some c) (hR : R cargs [c] (.ret (.d r)) [c']) (hcell : cargs.all cell0 = true := by rfl) (hd : c.isD = true := by rfl) (hd' : c'.isD = true := by rfl) :
    EV K (tCl (SpR K R) [] W ta) ρ μ (.d r) (μ1.set k c') :=
  fun α Z σ H ok sl Q kk => ha α Z σ H ok sl _ fun vs H1 e1 ok1 r1 => by
    rw [List.append_nil]
    have hk : k < α.length := by rw [ok1.c.len]; exact (List.getElem?_eq_some_iff.mp hc).1
    have hα := List.getElem?_eq_getElem hk
    refine ⟨[α[k]], Z, cargs, [c], _, [c'], ok1.one hα hc hd, r1.down hα hcell, hR, fun r' v H' e ex ok' rv => ?_, fun c fs d H' e => (nomatch e), fun xs p ws H' e => (nomatch e)⟩
    cases e
    exact kk v H' (e1.trans (ex.one (List.getElem_mem hk))) (ok1.back hα hd' ex ok') (rv.re rfl)
theorem en_call1 {cargs : List AV} {k : Nat} {c c' : CC} {xs : List D} (ha : EA K ta ρ μ (cargs.map (up1 k)) μ1) (hc : μ1[k]? = some c) (hR : R cargs [c] (.new xs) [c']) (hcell : cargs.all cell0 = true := by rfl) (hd : c.isD = true := by rfl) (hd' : c'.isD = true := by rfl) :
    EN K (tCl (SpR K R) [] W ta) ρ μ (xs.map .d) (μ1.set k c') :=
  fun α Z σ H ok sl Q kk => ha α Z σ H ok sl _ fun vs H1 e1 ok1 r1 => by
    rw [List.append_nil]
    have hk : k < α.length := by rw [ok1.c.len]; exact (List.getElem?_eq_some_iff.mp hc).1
    have hα := List.getElem?_eq_getElem hk
    refine ⟨[α[k]], Z, cargs, [c], _, [c'], ok1.one hα hc hd, r1.down hα hcell, hR, fun r' v H' e => (nomatch e), fun c fs d H' e => (nomatch e), fun xs p ws H' e ex hp hv ok' ra => ?_⟩
    cases e
    have hm : α[k] ∈ α := List.getElem_mem hk
    have ex1 : Ext α H1 H' := ex.one hm
    -- the cells, off p too
    have b := ok1.back hα hd' ex (ok'.less fun a ha => by rw [List.mem_singleton.mp ha]; exact ok1.w.sub _ hm)
    have g : Gr α Z H1 α (p :: Z) H' := ⟨⟨[], by simp, by simp⟩, fun z hz => List.mem_cons_of_mem _ hz, fun z hz => by
      rcases List.mem_cons.mp hz with q | q
      · exact .inr (q ▸ hp)
      · exact .inl q, ex1⟩
    refine kk p ws H' (e1.trans ex1) (none_back (fun q => ok1.w.off hp (ok.w.sub p q)) e1 hp) hv ⟨⟨b.w.nd, fun a ha => List.mem_cons_of_mem _ (b.w.sub a ha), fun z hz => ?_⟩, ⟨b.c.len, fun j a c2 h1 h2 => ?_⟩⟩ (.of_data ra)
    · rcases List.mem_cons.mp hz with q | q
      · exact ⟨_, by rw [q]; exact hv⟩
      · exact b.w.there z q
    · by_cases q : j = k
      · subst q
        rw [hα] at h1; cases h1
        rw [List.getElem?_set_self (by rw [← ok1.c.len]; exact hk)] at h2
        cases h2
        exact (ok'.c.at_ 0 _ _ rfl rfl).re hd'
      · rw [List.getElem?_set_ne (fun z => q z.symm)] at h2
        have nb : a ≠ α[k] := fun z => q ((List.getElem?_inj (List.getElem?_eq_some_iff.mp h1).1 ok1.w.nd).mp (by rw [h1, hα, z]))
        obtain ⟨ob, hob⟩ := ok1.w.there a (ok1.w.sub a (List.mem_of_getElem? h1))
        exact (ok1.c.at_ j a c2 h1 h2).gr ok1.w g (by rw [ex a (fun z => nb (List.mem_singleton.mp z)) ob hob, hob])
/-- an expression that raises -/
def EX (K : PySem.W.Frag) (W : WX) (te : TE) (ρ : Slots) (μ : List CC) (c : Value) (fs : List (Str × D)) (μ' : List CC) : Prop :=
  ∀ (α Z : List Addr) (σ : L2.St) (H : Hp), Okay K α Z H μ → SlotsOk K α Z H σ ρ → ∀ Q : VK, (∀ d H', Ext α H H' → Okay K α Z H' μ' → ExcOk K Z H' d fs → W c d σ H') → te σ H Q
theorem ex_call0 {ds : List D} {c : Value} {fs : List (Str × D)} (ha : EA K ta ρ μ (ds.map .d) μ1) (hR : R (ds.map .d) [] (.exc c fs) []) : EX K W (tCl (SpR K R) [] W ta) ρ μ c fs μ1 :=
  fun α Z σ H ok sl Q k => ha α Z σ H ok sl _ fun vs H1 e1 ok1 r1 => by
    rw [List.append_nil]
    refine ⟨[], Z, _, [], _, [], ok1.noCells, r1.re (data_all ds), hR, fun r' v H' e => (nomatch e), fun c fs d H' e ex ok' xo => ?_, fun xs p ws H' e => (nomatch e)⟩
    cases e
    exact k d H' (e1.trans ex.nil_any) (ok1.still ex) xo
theorem sv_dropX {c : Value} {fs : List (Str × D)} (h : EX K W te ρ μ c fs μ1) (k : P.xc ρ c fs μ1) : SV K W (tDrop te) ρ μ P :=
  fun α0 Z0 H0 α Z σ H D w0 gr ok sl kc => h α Z σ H ok sl _ fun d H' e ok' xo => kc.xc ρ c fs μ1 d α Z σ H' k (gr.ext1 w0 ok e) ok' (sl.ext ok e) xo
theorem sv_asgX {g : TG} {c : Value} {fs : List (Str × D)} (h : EX K W te ρ μ c fs μ1) (k : P.xc ρ c fs μ1) : SV K W (tAsg te g) ρ μ P :=
  fun α0 Z0 H0 α Z σ H D w0 gr ok sl kc => h α Z σ H ok sl _ fun d H' e ok' xo => kc.xc ρ c fs μ1 d α Z σ H' k (gr.ext1 w0 ok e) ok' (sl.ext ok e) xo
theorem sv_retX {c : Value} {fs : List (Str × D)} (h : EX K W te ρ μ c fs μ1) (k : P.xc ρ c fs μ1) : SV K W (tRet te) ρ μ P :=
  fun α0 Z0 H0 α Z σ H D w0 gr ok sl kc => h α Z σ H ok sl _ fun d H' e ok' xo => kc.xc ρ c fs μ1 d α Z σ H' k (gr.ext1 w0 ok e) ok' (sl.ext ok e) xo
/-- never come to -/
theorem sv_never (h : False) : SV K W tNever ρ μ P := h.elim
/-! ### a def by its body -/
/-- what may be handed back: data, a new list (which is data from now on), a parameter's cell -/
inductive Fin (μ' : List CC) : AV → List CC → AV → Prop
  | data {d : D} {new : List CC} : Fin μ' (.d d) (μ' ++ new) (.d d)
  | lst {new : List CC} {j : Nat} {ds : List D} : new[j]? = some (.lst (ds.map .d)) → Fin μ' (.cell (μ'.length + j)) (μ' ++ new) (.d (.lst ds))
/-- .. told as new -/
inductive FinN (μ' : List CC) : AV → List CC → List D → Prop
  | mk {new : List CC} {j : Nat} {ds : List D} : new[j]? = some (.lst (ds.map .d)) → FinN μ' (.cell (μ'.length + j)) (μ' ++ new) ds
def poOf (o : Out) (μ' : List CC) : Po where
  nx := fun _ μ1 => ∃ new, μ1 = μ' ++ new ∧ o = .ret (.d .non)
  rt := fun r μ1 => (∃ r', Fin μ' r μ1 r' ∧ o = .ret r') ∨ ∃ ds, FinN μ' r μ1 ds ∧ o = .new ds
  xc := fun _ c fs μ1 => ∃ new, μ1 = μ' ++ new ∧ o = .exc c fs
def startA (N : List Str) (args : List AV) : Slots := args.map some ++ List.replicate (N.length - args.length) none
theorem slots_start {N : List Str} {vs : List V} {args : List AV} (r : RpVs K α Z H vs args) (hl : args.length ≤ N.length) : SlotsOk K α Z H (L2.start N vs) (startA N args) := by
  have e := r.length
  refine ⟨by unfold L2.start startA; simp only [List.length_append, List.length_map, List.length_replicate]; omega, fun i x h => ?_⟩
  unfold startA at h
  by_cases hi : i < args.length
  · rw [List.getElem?_append_left (by simpa using hi), List.getElem?_map] at h
    cases q : args[i]? with
    | none => rw [q] at h; cases h
    | some y =>
      rw [q] at h; cases h
      obtain ⟨v, h1, h2⟩ := r.get q
      refine ⟨v, ?_, h2⟩
      unfold L2.start
      rw [List.getElem?_append_left (by rw [List.length_map, e]; exact hi), List.getElem?_map, h1]; rfl
  · rw [List.getElem?_append_right (by simpa using Nat.le_of_not_lt hi), List.getElem?_replicate] at h
    split at h <;> cases h
theorem Okay.drop {α0 Z0 : List Addr} {new : List CC} (nd : α0.Nodup) (sub : ∀ a ∈ α0, a ∈ Z0) (keep : ∀ z ∈ Z0, z ∈ Z) (idx : ∀ (k : Nat) (a : Addr), α0[k]? = some a → α[k]? = some a) (ok : Okay K α Z H (μ ++ new)) (hl : α0.length = μ.length) (hd : μ.all CC.isD = true) : Okay K α0 Z0 H μ := by
  refine ⟨⟨nd, sub, fun z hz => ok.w.there z (keep z hz)⟩, ⟨hl, fun k a c h1 h2 => ?_⟩⟩
  have hk : k < μ.length := (List.getElem?_eq_some_iff.mp h2).1
  have q := ok.c.at_ k a c (idx k a h1) (by rw [List.getElem?_append_left hk]; exact h2)
  have q2 : CellOk K α0 Z H a c := q.re (List.all_eq_true.mp hd c (List.mem_of_getElem? h2))
  have wk : ∀ {vs : List V} {xs : List AV}, RpVs K α0 Z H vs xs → RpVs K α0 Z0 H vs xs := fun {vs xs} r => by
    induction vs generalizing xs with
    | nil => cases r; exact .nil
    | cons v vs ih => cases r with
      | cons a b => exact .cons (by cases a with | d a => exact .d (a.weak keep) | cell h => exact .cell h) (ih b)
  have wkk : ∀ {vs : List (Key × V)} {xs : List (Key × AV)}, RpVK K α0 Z H vs xs → RpVK K α0 Z0 H vs xs := fun {vs xs} r => by
    induction vs generalizing xs with
    | nil => cases r; exact .nil
    | cons v vs ih => cases r with
      | cons a b => exact .cons (by cases a with | d a => exact .d (a.weak keep) | cell h => exact .cell h) (ih b)
  have wkf : ∀ {vs : List (Str × V)} {xs : List (Str × AV)}, RpVF K α0 Z H vs xs → RpVF K α0 Z0 H vs xs := fun {vs xs} r => by
    induction vs generalizing xs with
    | nil => cases r; exact .nil
    | cons v vs ih => cases r with
      | cons a b => exact .cons (by cases a with | d a => exact .d (a.weak keep) | cell h => exact .cell h) (ih b)
  cases c with
  | lst xs => obtain ⟨vs, h1, h2⟩ := q2; exact ⟨vs, h1, wk h2⟩
  | dct xs => obtain ⟨vs, h1, h2⟩ := q2; exact ⟨vs, h1, wkk h2⟩
  | ins C fs => obtain ⟨dx, vs, h1, h2⟩ := q2; exact ⟨dx, vs, h1, wkf h2⟩
end
section
variable {P : Program} {w : World} {K : PySem.W.Frag} {mg : Str → Option Value} {base : Heap}
/-- THE RULE: a def of the text by its body's data -/
theorem fng_body {gd : Bool} {x qual : Str} {st : Stmt} {f : Addr} {fd : FuncData} {N ps : List Str} {k : Nat} {R : Ctr} (F : Fun K x qual st f fd) (S : FnScope N ps (defScope st)) (hlen : ∀ args μ o μ', R args μ o μ' → args.length = ps.length ∧ μ'.length = μ.length ∧ μ'.all CC.isD = true)
    (hb : ∀ (cdv : Value) (A : Around) (outer : List Env) (s : Shared) (H : Hp) (E : XK), Room k (A.deeper (envOfC qual (defScope st) s.heap.objs.size f cdv)) → (gd = true → (A.deeper (envOfC qual (defScope st) s.heap.objs.size f cdv)).guards = some []) →
      ∃ t, PSs (cxOf (L2.CX P w) P w K mg base N qual (defScope st) f cdv A outer s H E) (defBody st) t ∧ ∀ args μ o μ', R args μ o μ' → SV K (fun c d _ H => E c d H) t (startA N args) μ (poOf o μ')) :
    FnG gd P w K mg base (k + 1) f fd ps (SpR K R) := by
  refine fng_of F S (fun vs H Q E h => ?_) (fun cdv A outer s H vs Q E hr hg h => ?_)
  · obtain ⟨α, Z, args, μ, o, μ', _, r, hR, _, _⟩ := h
    rw [r.length]; exact (hlen _ _ _ _ hR).1
  · obtain ⟨α, Z, args, μ, o, μ', ok, rv, hR, hq, he, hnw⟩ := h
    obtain ⟨t, ht, hs⟩ := hb cdv A outer s H E hr hg
    obtain ⟨l1, l2, l3⟩ := hlen _ _ _ _ hR
    have hN : ps.length ≤ N.length := by have := congrArg List.length S.pre; rw [List.length_take] at this; omega
    have lα : α.length = μ'.length := by rw [l2]; exact ok.c.len
    refine ⟨t, ht, hs args μ o μ' hR α Z H α Z _ H _ ok.w .refl ok (slots_start rv (by omega)) ⟨?_, ?_, fun _ _ _ _ _ _ h => h.elim, fun _ _ _ _ _ _ h => h.elim, ?_⟩⟩
    · rintro ρ μ1 α1 Z1 σ1 H1 ⟨new, rfl, rfl⟩ g ok1 sl1
      exact hq _ _ _ rfl g.ext (ok1.drop ok.w.nd ok.w.sub g.keep (fun k a h => g.idx h) lα l3) (.d .non)
    · rintro r μ1 v α1 Z1 H1 (⟨r', hf, rfl⟩ | ⟨ds, hf, rfl⟩) g ok1 rv1
      rotate_left
      · cases hf with
        | @mk new j ds hj =>
          cases rv1 with
          | @cell _ p ha =>
            obtain ⟨vs, h1, h2⟩ := ok1.c.at_ _ _ _ ha (by rw [List.getElem?_append_right (Nat.le_add_right _ _), Nat.add_sub_cancel_left]; exact hj)
            have pn : H p = none := by
              obtain ⟨⟨nw, en, fr⟩, _⟩ := g
              rw [en, List.getElem?_append_right (by rw [lα]; exact Nat.le_add_right _ _)] at ha
              exact fr _ (List.mem_of_getElem? ha)
            have kp : ∀ z ∈ p :: Z, z ∈ Z1 := fun z hz => by
              rcases List.mem_cons.mp hz with q | q
              · rw [q]; exact ok1.w.sub p (List.mem_of_getElem? ha)
              · exact g.keep z q
            -- what is in the list is off p: p is a cell, data is off all cells
            exact hnw _ p vs H1 rfl g.ext pn h1 (ok1.drop ok.w.nd (fun a ha => List.mem_cons_of_mem _ (ok.w.sub a ha)) kp (fun k a h => g.idx h) lα l3) ((RpVs.to_data h2).weak kp)
      cases hf with
      | data =>
        cases rv1 with
        | d rv1 => exact hq _ _ _ rfl g.ext (ok1.drop ok.w.nd ok.w.sub g.keep (fun k a h => g.idx h) lα l3) (.d (rv1.weak g.keep))
      | @lst new j ds hj =>
        cases rv1 with
        | cell ha =>
          have ok2 := ok1.drop ok.w.nd ok.w.sub g.keep (fun k a h => g.idx h) lα l3
          obtain ⟨vs, h1, h2⟩ := ok1.c.at_ _ _ _ ha (by rw [List.getElem?_append_right (Nat.le_add_right _ _), Nat.add_sub_cancel_left]; exact hj)
          refine hq _ _ _ rfl g.ext ok2 (.d (.lst (fun q => ?_) h1 ((RpVs.to_data h2).weak g.keep)))
          obtain ⟨⟨nw, en, fr⟩, _⟩ := g
          rw [en, List.getElem?_append_right (by rw [lα]; exact Nat.le_add_right _ _)] at ha
          exact ok.w.off (fr _ (List.mem_of_getElem? ha)) q
    · rintro ρ1 c fs μ1 d α1 Z1 σ1 H1 ⟨new, rfl, rfl⟩ g ok1 _ xo
      refine he _ _ _ _ rfl g.ext (ok1.drop ok.w.nd ok.w.sub g.keep (fun k a h => g.idx h) lα l3) ?_
      rcases xo with q | ⟨a, vs, q1, q2, q3, q4⟩
      · exact .inl q
      · refine .inr ⟨a, vs, q1, fun z => q2 (g.keep _ z), q3, q4.weak g.keep⟩
end
end DL

set_option Elab.async false
set_option linter.all false
set_option maxRecDepth 100000
set_option maxHeartbeats 4000000
/-! DL9: the law's end; comprehensions with two clauses. -/
namespace DL
open PySem PySem.Spec PyProof.Rows L2
/-- the law's own contract: of a script of at most 63 whole numbers it hands back True -/
def lawR : Ctr := fun args μ o μ' => ∃ ns : List Int, ns.length ≤ 63 ∧ args = [.d (.fz ns)] ∧ μ = [] ∧ o = .ret (.d (.bl true)) ∧ μ' = []
theorem hid_ns {h : Heap} {H : Hp} {b a : Addr} {its : Array Value} {m : Str → Option Value} (ha : h.get? a = some { cls := .type "list", data := .seq its }) (only : ∀ b, H b ≠ none → b = a) (n : h.Ns b m) : (hidT h H).Ns b m := by
  obtain ⟨ob, es, ep, e1, e2, e3⟩ := n
  refine ⟨ob, es, ep, hidT_get e1 ?_, e2, e3⟩
  cases q : H b with
  | none => rfl
  | some u =>
    have eb := only b (by rw [q]; simp)
    rw [eb, ha] at e1
    cases e1
    cases e2
theorem end_g {l : PySem.W.OpenLaw} {k : Nat} {q : Program} {loose : List Str} {XP : (Str → Option Value) → Heap → Prop} {YP : World → Heap → Prop} {d : DefRec} {K : Params → PySem.W.Frag} {x : Str}
    (hn : l.most = some 63) (hdf : d.params.defaults = []) (hr : Room k callerA) (hY : ∀ (w : World) (h : Heap), YP w h → (K w.params).In h)
    (F : ∀ (w : World) (mg : Str → Option Value) (fa : Addr) (h : Heap), (K w.params).In h → h.Ns mainGlobals mg → mg d.name = some (.ref fa) →
      ∃ fd : FuncData, (∀ (s : Shared) (u : Value), BindsTo s fd ⟨[u], []⟩ [(x, u)]) ∧ ∀ base : Heap, (K w.params).In base → base.Ns mainGlobals mg → FnG true l.prog w (K w.params) mg base k fa fd [x] (SpR (K w.params) lawR)) :
    PySem.W.WalkO q loose XP YP l.row.toRowW d [] (fun f vs => PySem.call f vs) := by
  refine Att.attach_call hn hdf ?_
  intro w s₀ s₁ mg mb fa o pm cd doc a vs ns G Y ho hd hcd hmg hobj hints hlen hgens
  have kin := hY w _ Y
  obtain ⟨fd, hbind, hF⟩ := F w mg fa _ kin G.T.g hmg
  have rvs := vals_ints hints
  have lvs := hints.length
  have small : ns.length ≤ sizeLine := Nat.le_trans hlen (by rw [sizeLine_eq]; decide)
  -- with H: what is tracked at the entry (nothing, or the script alone)
  have main : ∀ H : Hp, (∀ b, H b ≠ none → b = a) → (∀ b, H b = none ∨ ∃ ob, H b = some (.frz ob (.lst (ns.map V.int)))) → Rp (K w.params) [] H (.ref a) (.fz ns) → HOk l.prog w H s₁.heap → (H a ≠ none → (K w.params).lookup a = none) →
      codeAny (model l.prog w) callerA (.call (.ref fa) ⟨[.ref a], []⟩) (fun r s' => r = .ok (.ret (.bool true)) ∧ OldK s₁.heap s'.heap ∧ s'.os = s₁.os ∧ AllBare s'.gens) s₁ := by
    intro H only frz rp hok hK
    have kin2 : (K w.params).In (hidT s₁.heap H) := by
      intro b ob hb
      refine hidT_get (kin b ob hb) ?_
      cases hq : H b with
      | none => rfl
      | some u =>
        have eb := only b (by rw [hq]; simp)
        subst eb
        rw [hK (by rw [hq]; simp)] at hb
        cases hb
    obtain ⟨mc, l1, l2⟩ := G.T.nolimit
    have md : Mod (K w.params) mg (hidT s₁.heap H) := ⟨kin2, hid_ns hobj only G.T.g, ⟨mb, hid_ns hobj only G.T.b, G.T.builtins⟩, ⟨mc, hid_ns hobj only l1, l2⟩⟩
    have en : Env0 l.prog w (K w.params) mg (hidT s₁.heap H) callerA [] s₁ H := ⟨rfl, md, fun b ob e => of_hidT e, Nat.le_of_eq (hidT_size _ _), trivial, (fun b hb => by cases hb), hok, .of_eq hgens⟩
    have run := (hF _ kin2 (hid_ns hobj only G.T.g)).run callerA [] s₁ H ⟨[.ref a], []⟩ [.ref a] [.ref a] (fun v _ => v = .bl true) (fun _ _ _ => False) hr (fun _ => rfl) en (hbind s₁ (.ref a)) (.cons rfl .nil)
      ⟨[], [], _, [], _, [], ⟨⟨.nil, fun _ h => h, fun z hz => by cases hz⟩, ⟨rfl, fun k a c h => by simp at h⟩⟩, .cons (.d rp) .nil, ⟨ns, hlen, rfl, rfl, rfl, rfl⟩,
        fun r v H' e _ _ rv => by cases e; cases rv with | d rv => cases rv; rfl, fun c fs d H' e => (nomatch e), fun xs p ws H' e => (nomatch e)⟩
    refine codeAny_mono run ?_
    intro r s' h
    match r, h with
    | .error e, h => exact (let ⟨_, _, _, _, _, _, _, _, _, _, _, _, z⟩ := h; z.elim)
    | .ok .next, h => exact h.elim
    | .ok .brk, h => exact h.elim
    | .ok .cont, h => exact h.elim
    | .ok (.ret u), h =>
      obtain ⟨v, H', e1, e2, un, hok', ru, ev⟩ := h
      have ev' : v = .bl true := ev
      subst ev'
      cases (show u = Value.bool true from ru)
      refine ⟨rfl, OldK.of_keep fun b ob eb => ?_, e1, e2⟩
      cases hq : H b with
      | none => exact un.keep b ob eb hq (by simp [frs]) (by simp)
      | some u =>
        rcases frz b with z | ⟨oz, z⟩
        · rw [hq] at z; cases z
        · have g1 := (hok b _ z).1
          have g2 := (hok' b _ (un.frzs b oz _ z)).1
          rw [eb] at g1; cases g1
          exact g2
  cases hk : (K w.params).lookup a with
  | some ob =>
    have e := kin a ob hk
    rw [hobj] at e
    cases e
    exact main (fun _ => none) (fun b h => (h rfl).elim) (fun _ => .inl rfl) (.fzK ⟨_, vs.toArray, _, hk, rfl, rfl, rfl, by rw [List.size_toArray, lvs]; exact small, by simpa using rvs⟩) (fun b u z => nomatch (show (none : Option HO) = some u from z)) (fun h => (h rfl).elim)
  | none =>
    have at_a : ∀ {b : Addr} {o : HO}, (if b = a then some (HO.frz { cls := .type "list", data := .seq vs.toArray } (.lst (ns.map V.int))) else none) = some o → b = a ∧ o = .frz { cls := .type "list", data := .seq vs.toArray } (.lst (ns.map V.int)) := fun {b o} z => by
      by_cases hb : b = a
      · rw [if_pos hb] at z; cases z; exact ⟨hb, rfl⟩
      · rw [if_neg hb] at z; cases z
    refine main (fun b => if b = a then some (.frz { cls := .type "list", data := .seq vs.toArray } (.lst (ns.map V.int))) else none) (fun b h => ?_) (fun b => ?_) (.fzT List.not_mem_nil (if_pos rfl)) (fun b u z => ?_) (fun _ => hk)
    · by_cases hb : b = a
      · exact hb
      · exact (h (if_neg hb)).elim
    · by_cases hb : b = a
      · exact .inr ⟨_, if_pos hb⟩
      · exact .inl (if_neg hb)
    · obtain ⟨rfl, rfl⟩ := at_a z
      exact ⟨hobj, by rw [List.length_map]; exact small, vs, _, rvs, hobj⟩
/-! ### two clauses -/
section
variable {K : PySem.W.Frag} {ρ : Slots} {μ μ1 : List CC} {te : TE}
theorem wipe_twice : ∀ (us : List Nat) (σ : L2.St), L2.wipe (L2.wipe σ us) us = L2.wipe σ us := by
  intro us σ
  apply List.ext_getElem?
  intro n
  by_cases hn : n ∈ us
  · have q : ∀ (ws : List Nat) (τ : L2.St), n ∈ ws → (L2.wipe τ ws)[n]? = if n < τ.length then some none else none := by
      intro ws
      induction ws with
      | nil => intro τ h; exact absurd h List.not_mem_nil
      | cons u us ih =>
        intro τ h
        show ((L2.wipe τ us).set u none)[n]? = _
        by_cases e : u = n
        · subst e
          by_cases hlt : u < τ.length
          · rw [List.getElem?_set_self (by rw [wipe_length]; exact hlt), if_pos hlt]
          · rw [List.getElem?_eq_none (by rw [List.length_set, wipe_length]; omega), if_neg hlt]
        · rw [List.getElem?_set_ne e]
          rcases List.mem_cons.mp h with z | z
          · exact absurd z.symm e
          · exact ih τ z
    rw [q us _ hn, q us _ hn, wipe_length]
  · rw [wipe_out hn]
/-- [elt for .. in .. if .. for .. in .. if ..], no cell changes: what is made ahead of turn i, and within it ahead of turn j -/
theorem en_lc2 {wi wi1 : TI} {g g1 : TG} {tt tt1 : TT} {vs vs1 : List Nat} {items : List AV} (hi : IW K wi ρ μ items μ1) (acc : Nat → List AV) (h0 : acc 0 = []) (hn : items.length ≤ 100000)
    (hs : ∀ (i : Nat) (d : AV), items[i]? = some d → ∃ (ρ2 : Slots) (js : List Nat) (b : Bool), GV K g d (wipeA ρ vs) ρ2 js ∧ (∀ j ∈ js, j ∈ vs) ∧ ET K tt ρ2 μ1 b μ1 ∧ (b = false → acc (i + 1) = acc i) ∧
      (b = true → ∃ (its : List AV) (acc2 : Nat → List AV), IW K wi1 ρ2 μ1 its μ1 ∧ acc2 0 = acc i ∧ acc2 its.length = acc (i + 1) ∧ (∀ j, (acc2 j).length ≤ 1000000) ∧
        ∀ (j : Nat) (e : AV), its[j]? = some e → ∃ (ρ3 : Slots) (js1 : List Nat) (c : Bool), GV K g1 e (wipeA ρ2 vs1) ρ3 js1 ∧ (∀ j ∈ js1, j ∈ vs1) ∧ ET K tt1 ρ3 μ1 c μ1 ∧
          (c = true → ∃ r, EV K te ρ3 μ1 r μ1 ∧ acc2 (j + 1) = acc2 j ++ [r]) ∧ (c = false → acc2 (j + 1) = acc2 j))) :
    EN K (tLc2 wi g tt wi1 g1 tt1 te vs vs1) ρ μ (acc items.length) μ1 := by
  intro α Z σ H ok sl Q k
  refine hi α Z σ H ok sl _ fun J H1 G Y e1 ok1 w hG hY => ?_
  intro Dl hD
  have sl1 := sl.ext ok e1
  have hD0 : H Dl = none := none_back (fun q => ok1.w.off hD (ok.w.sub Dl q)) e1 hD
  have hDα : Dl ∉ α := fun q => ok1.w.off hD (ok1.w.sub _ q)
  -- what stands while the list at Dl grows
  let Up : List AV → Hp → Prop := fun zs H' => ∃ vs', H' Dl = some (.lst vs') ∧ (∀ a, a ∉ α → a ≠ Dl → ∀ o, H1 a = some o → H' a = some o) ∧ Okay K α (Dl :: Z) H' μ1 ∧ RpVs K α (Dl :: Z) H' vs' zs
  have up_ext : ∀ {zs H'}, Up zs H' → Ext α H1 H' := fun {zs H'} ⟨_, _, h2, _⟩ a ha o q => h2 a ha (ne_of_none q hD) o q
  have up_gr : ∀ {zs H'}, Up zs H' → Gr α Z H1 α (Dl :: Z) H' := fun {zs H'} u => ⟨⟨[], by simp, by simp⟩, fun z hz => List.mem_cons_of_mem _ hz, fun z hz => by
    rcases List.mem_cons.mp hz with q | q
    · exact .inr (q ▸ hD)
    · exact .inl q, up_ext u⟩
  have up_mv : ∀ {zs H' H2}, Up zs H' → Ext α H' H2 → Okay K α (Dl :: Z) H2 μ1 → Up zs H2 := fun {zs H' H2} ⟨vs', h1, h2, h3, h4⟩ e o2 => ⟨vs', e Dl hDα _ h1, fun a ha hne o q => e a ha o (h2 a ha hne o q), o2, h4.ext h3 e⟩
  have accLen : ∀ i, i ≤ items.length → (acc i).length ≤ 1000000 := by
    intro i
    induction i with
    | zero => intro _; rw [h0]; exact Nat.zero_le _
    | succ i ih =>
      intro hi'
      obtain ⟨_, _, b, _, _, _, hb0, hb1⟩ := hs i items[i] (List.getElem?_eq_getElem hi')
      cases b with
      | true => obtain ⟨its, acc2, _, _, e2, e3, _⟩ := hb1 rfl; rw [← e2]; exact e3 _
      | false => rw [hb0 rfl]; exact ih (Nat.le_of_succ_le hi')
  refine ⟨fun i m H' => i + m = items.length ∧ Up (acc i) H', ⟨items.length, Nat.zero_add _, h0 ▸ ⟨[], upd_same, fun a ha hne o q => by rw [upd_ne hne]; exact q, ok1.keepOff hD (Ext.laid hD) ⟨_, upd_same⟩, .nil⟩⟩, ?_⟩
  rintro i m Hx ⟨him, u⟩
  by_cases hil : i < items.length
  · refine .inr ⟨w.goes i Hx hil (hG Hx ((up_ext u).wide ok1.w)), fun H' => Up (acc (i + 1)) H', fun H' u' => ⟨m - 1, by omega, by omega, u'⟩, fun x Hy hy => ?_⟩
    have o3 : Okay K α (Dl :: Z) Hx μ1 := u.elim fun _ h => h.2.2.1
    obtain ⟨d, hd, ey, ry⟩ := hY i Hx x Hy α (Dl :: Z) ((up_gr u).gw ok1.w) o3.w hil (w.yields i Hx x Hy hil (hG Hx ((up_ext u).wide ok1.w)) hy)
    obtain ⟨ρ2, js, b, hg, hjs, ht, hb0, hb1⟩ := hs i d hd
    have oy := o3.still ey
    have uy := up_mv u ey.nil_any oy
    have sw : SlotsOk K α (Dl :: Z) Hy (L2.wipe σ vs) (wipeA ρ vs) := (sl1.gr ok1.w (up_gr uy)).wipe vs
    refine hg α (Dl :: Z) μ1 (L2.wipe σ vs) Hy x oy ry sw _ fun σ2 w2 s2 => ⟨by rw [w2 vs hjs]; exact wipe_twice vs σ, ?_⟩
    refine ht α (Dl :: Z) σ2 Hy oy s2 _ fun H3 e3 o4 => ?_
    have u3 := up_mv uy e3 o4
    cases b with
    | false => show Up (acc (i + 1)) H3; rw [hb0 rfl]; exact u3
    | true =>
      obtain ⟨its, acc2, hi1, z0, z1, z2, hin⟩ := hb1 rfl
      refine hi1 α (Dl :: Z) σ2 H3 o4 (s2.ext oy e3) _ fun J1 H4 G1 Y1 e4 o5 w1 hG1 hY1 => ?_
      have u4 := up_mv u3 e4 o5
      have s4 := (s2.ext oy e3).ext o4 e4
      -- within: all but the list at Dl (and the cells) stands as at H4
      refine ⟨fun j n H' => j + n = its.length ∧ Up (acc2 j) H' ∧ Ext (Dl :: Z) H4 H' ∧ Ext (Dl :: α) H4 H', ⟨its.length, Nat.zero_add _, z0 ▸ u4, .refl _ _, .refl _ _⟩, ?_⟩
      rintro j n Hz ⟨hjn, uz, ez, ez2⟩
      have oz : Okay K α (Dl :: Z) Hz μ1 := uz.elim fun _ h => h.2.2.1
      by_cases hjl : j < its.length
      · refine .inr ⟨w1.goes j Hz hjl (hG1 Hz ez), fun H' => Up (acc2 (j + 1)) H' ∧ Ext (Dl :: Z) H4 H' ∧ Ext (Dl :: α) H4 H', fun H' u' => ⟨n - 1, by omega, by omega, u'⟩, fun x2 Hv hv => ?_⟩
        have gz : Gw α (Dl :: Z) H4 α (Dl :: Z) Hz := ⟨⟨[], by simp⟩, fun z hz => .inl hz, ez⟩
        obtain ⟨e, he, ev, rv⟩ := hY1 j Hz x2 Hv α (Dl :: Z) gz oz.w hjl (w1.yields j Hz x2 Hv hjl (hG1 Hz ez) hv)
        obtain ⟨ρ3, js1, c, hg1, hjs1, ht1, hc1, hc0⟩ := hin j e he
        have ov := oz.still ev
        have uv := up_mv uz ev.nil_any ov
        have av : Ext (Dl :: α) H4 Hv := ez2.trans ev.nil_any
        -- the outer slots stand: they speak of data off Dl
        have s5 : SlotsOk K α (Dl :: Z) Hv (L2.wipe σ2 vs1) (wipeA ρ2 vs1) := by
          have g5 : Gw α (Dl :: Z) H4 α (Dl :: Z) Hv := ⟨⟨[], by simp⟩, fun z hz => .inl hz, ez.trans ev.nil_any⟩
          have s6 : SlotsOk K α (Dl :: Z) Hv σ2 ρ2 := ⟨s4.len, fun i x hx => by
            obtain ⟨v, h1, h2⟩ := s4.at_ i x hx
            exact ⟨v, h1, h2.gw g5⟩⟩
          exact s6.wipe vs1
        refine hg1 α (Dl :: Z) μ1 (L2.wipe σ2 vs1) Hv x2 ov rv s5 _ fun σ3 w3 s3 => ⟨by rw [w3 vs1 hjs1]; exact wipe_twice vs1 σ2, ?_⟩
        refine ht1 α (Dl :: Z) σ3 Hv ov s3 _ fun H6 e6 o6 => ?_
        have u6 := up_mv uv e6 o6
        have wideα : ∀ {Ha Hb : Hp}, Ext α Ha Hb → Ext (Dl :: α) Ha Hb := fun {Ha Hb} ex a ha o q => ex a (fun z => ha (List.mem_cons_of_mem _ z)) o q
        have wideZ : ∀ {Ha Hb : Hp}, Ext α Ha Hb → Ext (Dl :: Z) Ha Hb := fun {Ha Hb} ex a ha o q => ex a (fun z => ha (List.mem_cons_of_mem _ (ok1.w.sub a z))) o q
        cases c with
        | false => show Up (acc2 (j + 1)) H6 ∧ _; rw [hc0 rfl]; exact ⟨u6, (ez.trans ev.nil_any).trans (wideZ e6), av.trans (wideα e6)⟩
        | true =>
          obtain ⟨r, hr, ea⟩ := hc1 rfl
          refine hr α (Dl :: Z) σ3 H6 o6 (s3.ext ov e6) _ fun v H7 e7 o7 r7 => ?_
          obtain ⟨vs7, p1, p2, p3, p4⟩ := up_mv u6 e7 o7
          refine ⟨vs7, p1, ?_, ?_⟩
          · have z := p4.length
            have z3 := z2 j
            rw [z, sizeLine_eq]; omega
          · refine ⟨⟨vs7 ++ [v], upd_same, fun a ha hne o q => by rw [upd_ne hne]; exact p2 a ha hne o q, p3.touch List.mem_cons_self hDα, by rw [ea]; exact (p4.append (.cons r7 .nil)).touch List.mem_cons_self⟩, ?_, ?_⟩
            · exact ((ez.trans ev.nil_any).trans (wideZ (e6.trans e7))).trans fun a ha o q => by rw [upd_ne (fun z => ha (by rw [z]; exact List.mem_cons_self))]; exact q
            · exact (av.trans (wideα (e6.trans e7))).trans fun a ha o q => by rw [upd_ne (fun z => ha (by rw [z]; exact List.mem_cons_self))]; exact q
      · refine .inl ⟨?_, ?_⟩
        · have e : j = its.length := by omega
          rw [e]; exact w1.stops Hz (hG1 Hz ez)
        · have e : j = its.length := by omega
          subst e
          show Up (acc (i + 1)) Hz
          rw [← z1]; exact uz
  · refine .inl ⟨?_, ?_⟩
    · have e : i = items.length := by omega
      rw [e]; exact w.stops Hx (hG Hx ((up_ext u).wide ok1.w))
    · have e : i = items.length := by omega
      subst e
      obtain ⟨vs', h1, h2, h3, h4⟩ := u
      exact k Dl vs' Hx (fun a ha o q => h2 a ha (ne_of_none q hD0) o (e1 a ha o q)) hD0 h1 h3 h4
end
end DL

set_option Elab.async false
set_option linter.all false
set_option maxRecDepth 100000
set_option maxHeartbeats 4000000
/-! DL10: the rules for the text, the written part K always told. -/
namespace DL
open PySem PySem.Spec PyProof.Rows L2
section
variable {X : Cx} {a b e l : Expr} {es : List Expr} {ta tb te tl : TE} {t : TA} {pos p apos cpos : Pos} {tg : Expr}
theorem k_add (K : PySem.W.Frag) (hK : X.K = K) : OpR X (binaryOp .Add) (rAddA K) := hK ▸ o_add
theorem k_eq (K : PySem.W.Frag) (hK : X.K = K) (hu : X.A.units + 64 < cLine) : OpR X (compareOp .Eq) (rEqD K) := hK ▸ op_eqD hu
theorem k_ne (K : PySem.W.Frag) (hK : X.K = K) (hu : X.A.units + 64 < cLine) : OpR X (compareOp .NotEq) (rNeD K) := hK ▸ op_neD hu
theorem k_ix (K : PySem.W.Frag) (hK : X.K = K) : IxR X (rIx K) := hK ▸ ix_seq
theorem k_sl (K : PySem.W.Frag) (hK : X.K = K) : SlR X (rSlAny K) := hK ▸ sl_any
theorem k_len (K : PySem.W.Frag) (hK : X.K = K) : CallR X (.builtin "len") (rLenA K) := hK ▸ c_len
theorem k_repr (K : PySem.W.Frag) (hK : X.K = K) (hg : X.A.guards = some []) (hu : X.A.units + 64 < cLine) : CallR X (.builtin "repr") (rReprA K) := hK ▸ c_repr hg hu
theorem k_list (K : PySem.W.Frag) (hK : X.K = K) : CallR X (.type "list") (rListA K) := hK ▸ call_list_of
theorem k_tuple (K : PySem.W.Frag) (hK : X.K = K) : CallR X (.type "tuple") (rTupA K) := hK ▸ call_tuple_of
theorem k_any (K : PySem.W.Frag) (hK : X.K = K) (hc : X.calm = true) : CallR X (.builtin "any") (rAny K) := hK ▸ cr_any hc
theorem k_all (K : PySem.W.Frag) (hK : X.K = K) (hc : X.calm = true) : CallR X (.builtin "all") (rAll K) := hK ▸ cr_all hc
theorem k_sortI (K : PySem.W.Frag) (hK : X.K = K) : CallR X (.builtin "sorted") (rSortedI K) := hK ▸ cr_sortedI
theorem k_isi (K : PySem.W.Frag) (hK : X.K = K) : CallR X (.builtin "isinstance") (rIsi K) := hK ▸ call_isi
theorem k_isiT (K : PySem.W.Frag) (hK : X.K = K) : CallR X (.builtin "isinstance") (rIsiT K) := hK ▸ call_isiT
theorem k_plist (K : PySem.W.Frag) (hK : X.K = K) (h : PE X l tl) : PI X tg l (iList K tl) := hK ▸ pi_list h
theorem k_ptup (K : PySem.W.Frag) (hK : X.K = K) (h : PE X l tl) : PI X tg l (iTup K tl) := hK ▸ pi_tup h
theorem k_penum (K : PySem.W.Frag) (hK : X.K = K) {elts : List Expr} {kk : Nat} {tpos : Pos} (hg : Gl X "enumerate") (hm : X.mg "enumerate" = none) (ha : PA X [e] t) (hs : starEach [e] X.env = [(false, eval e X.env)] := by rfl) : PI X (.Tuple elts kk tpos) (.Call (.Name "enumerate" p) [e] [] pos) (iEnum K t) := hK ▸ pi_enum hg hm ha hs
theorem k_gtup (K : PySem.W.Frag) (hK : X.K = K) {tt : TGs} {k n : Nat} (hc : X.calm = true) (h : PGs X es tt) (hn : (assignEach es X.env).length = n := by rfl) (hst : (assignEach es X.env).findIdx? (·.1) = none := by rfl) : PG X (.Tuple es k pos) (gTup K n tt) := hK ▸ pg_tup hc h hn hst
theorem k_bm0 (K : PySem.W.Frag) (hK : X.K = K) {T id : String} {name : Str} {r : V → List V → Hp → VK → Prop} (pa : PlainAttrs T) (slot : Slot T name id) (hty : typeOf (.builtin id) = pure (.type "method_descriptor")) (hm : MtR X id r) (ho : PE X l tl)
    (hbase : attributeBase l name X.env (eval l X.env) = eval l X.env := by rfl) (hline : (apos.endLine == cpos.line) = true := by rfl) : PE X (.Call (.Attribute l name apos) [] [] cpos) (tBM0 K T r tl) := hK ▸ pe_bm0 pa slot hty hm ho hbase hline
theorem k_bm (K : PySem.W.Frag) (hK : X.K = K) {T id : String} {name : Str} {r : V → List V → Hp → VK → Prop} (pa : PlainAttrs T) (slot : Slot T name id) (hty : typeOf (.builtin id) = pure (.type "method_descriptor")) (hm : MtR X id r) (ho : PE X l tl) (ha : PA X (e :: es) t)
    (hbase : attributeBase l name X.env (eval l X.env) = eval l X.env := by rfl)
    (hfew : ((backTo cpos (starEach (e :: es) X.env)).all (fun x => !x.1) && (backToKw cpos (keywordEach [] X.env)).all (fun x => x.1.isSome)
      && decide ((e :: es).length + ([] : List Keyword).length + (if ([] : List Keyword).isEmpty then 0 else 1) < 30)) = true := by rfl)
    (hline : (apos.endLine == cpos.line) = true := by rfl) (hs : starEach (e :: es) X.env = (false, eval e X.env) :: starEach es X.env := by rfl) (hplain : (backTo cpos (starEach es X.env)).any (·.1) = false := by rfl) :
    PE X (.Call (.Attribute l name apos) (e :: es) [] cpos) (tBM K T r tl t) := hK ▸ pe_bm pa slot hty hm ho ha hbase hfew hline hs hplain
/-- a module's whole number, text -/
theorem k_gint {x : Str} {i : Int} (hg : Gl X x) (hm : ∃ u, X.mg x = some (.int i u)) (hd : (x == ("__debug__" : Str)) = false := by decide) : PE X (.Name x pos) (tC (.int i)) := hm.elim fun u h => pe_glob hg h ⟨u, rfl⟩ hd
theorem k_gstr {x : Str} {i : Str} (hg : Gl X x) (hm : ∃ u, X.mg x = some (.str i u)) (hd : (x == ("__debug__" : Str)) = false := by decide) : PE X (.Name x pos) (tC (.str i)) := hm.elim fun u h => pe_glob hg h ⟨u, rfl⟩ hd
theorem k_ty {n : String} {x : Str} (hg : Gl X x) (hm : X.mg x = none) (hv : bootBuiltins x = some (.type n)) (hn : x ≠ "__name__" := by decide) (hd : (x == ("__debug__" : Str)) = false := by decide) : PE X (.Name x pos) (tC (.ty n)) := pe_bltn hg hm hv rfl hn hd
/-- what a call's level leaves -/
theorem room64 {k : Nat} {A : Around} (r : Room k A) : A.units + 64 < cLine := by have := r.un; omega
/-- a def of the module that may be called by its name, all its parameters given -/
structure Cal (gd : Bool) (P : Program) (w : World) (K : PySem.W.Frag) (mg : Str → Option Value) (base : Heap) (k : Nat) (x : Str) (sp : Sp) : Prop where
  ex : ∃ (f : Addr) (fd : FuncData) (ps : List Str), FnG gd P w K mg base k f fd ps sp ∧ mg x = some (.ref f) ∧ PySem.W.keepIn K (.ref f) = true ∧ Binds K fd ps []
theorem k_call {gd : Bool} {k j : Nat} {x : Str} {sp : Sp} {W : WX} (K : PySem.W.Frag) (hK : X.K = K) (c : Cal gd X.prog X.w K X.mg X.base k x sp) (hr : Room j X.A) (hk : k ≤ j) (hgd : gd = true → X.A.guards = some []) (hg : Gl X x) (tk : Takes X W) (ha : PA X (e :: es) t)
    (hdb : (x == ("__debug__" : Str)) = false := by decide) (he : starEach (e :: es) X.env = (false, eval e X.env) :: starEach es X.env := by rfl) (hpl : (backTo pos (starEach es X.env)).any (·.1) = false := by rfl) :
    PE X (.Call (.Name x p) (e :: es) [] pos) (tCl sp [] W t) := by
  subst hK
  obtain ⟨f, fd, ps, F, hm, kp, b⟩ := c.ex
  exact pe_cl F (hr.mono hk) hgd hg hm kp b .nil tk ha hdb he hpl
/-- a def that stands in the module -/
structure Def (K : PySem.W.Frag) (mg : Str → Option Value) (x : Str) (st : Stmt) (f : Addr) (fd : FuncData) : Prop where
  fn : Fun K x x st f fd
  mgf : mg x = some (.ref f)
end
end DL
namespace DL
open PySem PySem.Spec PyProof.Rows L2
/-! ### a statement, then the rest -/
section
variable {K : PySem.W.Frag} {W : WX} {P : Po} {ρ ρ' : Slots} {μ μ1 μ2 : List CC} {t u v : TS} {te tb : TE} {x y : AV} {xs : List AV}
theorem q_asg {i : Nat} (h : EV K te ρ μ x μ1) (k : SV K W u (ρ.set i (some x)) μ1 P) : SV K W (tSeq (tAsg te (gName i)) u) ρ μ P := sv_seq (sv_asg h k)
theorem q_asgN {i : Nat} (h : EN K te ρ μ xs μ1) (k : SV K W u (ρ.set i (some (.cell μ1.length))) (μ1 ++ [.lst xs]) P) : SV K W (tSeq (tAsg te (gName i)) u) ρ μ P := sv_seq (sv_asgN h k)
theorem q_asgT {g : TG} {js : List Nat} (h : EV K te ρ μ x μ1) (hg : GV K g x ρ ρ' js) (k : SV K W u ρ' μ1 P) : SV K W (tSeq (tAsg te g) u) ρ μ P := sv_seq (sv_asgT h hg k)
theorem q_drop (h : EV K te ρ μ x μ1) (k : SV K W u ρ μ1 P) : SV K W (tSeq (tDrop te) u) ρ μ P := sv_seq (sv_drop h k)
theorem q_if {b : Bool} {tc : TT} (h : ET K tc ρ μ b μ1) (h1 : b = true → SV K W t ρ μ1 { P with nx := fun ρ' μ' => SV K W v ρ' μ' P }) (h2 : b = false → SV K W u ρ μ1 { P with nx := fun ρ' μ' => SV K W v ρ' μ' P }) : SV K W (tSeq (tIfS tc t u) v) ρ μ P := sv_seq (sv_if h h1 h2)
/-- if .. without else -/
theorem q_when {b : Bool} {tc : TT} (h : ET K tc ρ μ b μ1) (h1 : b = true → SV K W t ρ μ1 { P with nx := fun ρ' μ' => SV K W v ρ' μ' P }) (h2 : b = false → SV K W v ρ μ1 P) : SV K W (tSeq (tIfS tc t tNext) v) ρ μ P := q_if h h1 fun e => sv_next (h2 e)
/-- if c: name = e, told by the value behind it -/
theorem q_ifAsg {b : Bool} {tc : TT} {i : Nat} (h : ET K tc ρ μ b μ1) (h1 : b = true → EV K te ρ μ1 x μ1) (h2 : b = false → ρ.set i (some x) = ρ) (k : SV K W v (ρ.set i (some x)) μ1 P) : SV K W (tSeq (tIfS tc (tAsg te (gName i)) tNext) v) ρ μ P :=
  q_when h (fun e => sv_asg (h1 e) k) fun e => by rw [h2 e] at k; exact k
theorem q_aug {i : Nat} {r : R2} (h : ρ[i]? = some (some x)) (he : EV K te ρ μ y μ1) {z : AV} (hr : RV K r x y μ1 z μ2) (k : SV K W u (ρ.set i (some z)) μ2 P) : SV K W (tSeq (tAug i te r) u) ρ μ P := sv_seq (sv_aug h he hr k)
theorem q_setL {to ti : TE} {k n : Nat} {cs : List AV} (he : EV K te ρ μ x μ1) (ho : EV K to ρ μ1 (.cell k) μ1) (hi : EV K ti ρ μ1 (.d (.int (n : Nat))) μ1) (hc : μ1[k]? = some (.lst cs)) (hn : n < cs.length) (kk : SV K W u ρ (μ1.set k (.lst (cs.set n x))) P) :
    SV K W (tSeq (tAsg te (gSub to ti rSetL)) u) ρ μ P := sv_seq (sv_setL he ho hi hc hn kk)
theorem q_par {i j : Nat} {ta : TA} (h : EA K ta ρ μ [x, y] μ1) (k : SV K W u ((ρ.set i (some x)).set j (some y)) μ1 P) : SV K W (tSeq (tPar i j ta) u) ρ μ P := by
  refine sv_seq fun α0 Z0 H0 α Z σ H D w0 gr ok sl kk => h α Z σ H ok sl _ fun vs H1 e1 ok1 r1 => ?_
  cases r1 with
  | cons a b => cases b with
    | cons b c =>
      cases c
      exact ⟨_, _, rfl, kk.nx _ _ α Z _ H1 k (gr.ext1 w0 ok e1) ok1 (((sl.ext ok e1).set a).set b)⟩
theorem q_for {wi : TI} {g : TG} {items : List AV} (hi : IW K wi ρ μ items μ1) (Inv : Nat → Slots → List CC → Prop) (h0 : Inv 0 ρ μ1)
    (hs : ∀ (i : Nat) (d : AV) (ρ1 : Slots) (μ2 : List CC), items[i]? = some d → Inv i ρ1 μ2 → ∃ ρ2 js, GV K g d ρ1 ρ2 js ∧ SV K W t ρ2 μ2 { P with nx := Inv (i + 1), ct := Inv (i + 1), bk := fun ρ' μ' => SV K W u ρ' μ' P })
    (hd : ∀ ρ1 μ2, Inv items.length ρ1 μ2 → SV K W u ρ1 μ2 P) : SV K W (tSeq (tFor wi g t) u) ρ μ P := sv_seq (sv_for hi Inv h0 hs hd)
end
/-- new cells by data -/
theorem set_app {α : Type} (xs ys : List α) (k : Nat) (c : α) (h : k < xs.length) : (xs ++ ys).set k c = xs.set k c ++ ys := List.set_append_left _ _ h
end DL

set_option Elab.async false
set_option linter.all false
set_option maxRecDepth 100000
set_option maxHeartbeats 4000000
/-! DL11: cells read as data, kinds of data, comprehensions in short. -/
namespace DL
open PySem PySem.Spec PyProof.Rows L2
/-- no object within -/
def D.flat : D → Bool
  | .non | .bl _ | .int _ | .str _ => true
  | _ => false
/-- a cell read as what it holds -/
inductive Thaw (μ : List CC) : AV → D → Prop
  | d (x : D) : Thaw μ (.d x) x
  | lst {k : Nat} {ds : List D} : μ[k]? = some (.lst (ds.map .d)) → Thaw μ (.cell k) (.lst ds)
inductive Thaws (μ : List CC) : List AV → List D → Prop
  | nil : Thaws μ [] []
  | cons {x : AV} {d : D} {xs : List AV} {ds : List D} : Thaw μ x d → Thaws μ xs ds → Thaws μ (x :: xs) (d :: ds)
section
variable {K : PySem.W.Frag} {W : WX} {P : Po} {ρ ρ' : Slots} {μ μ1 μ2 μ3 : List CC} {ta : TA} {te : TE} {R : Ctr} {α β Z : List Addr} {H : Hp} {x y : AV} {dx dy dz : D} {i j : Int}
theorem Rp.flat {v : V} (h : dz.flat = true) (r : Rp K Z H v dz) {Z' : List Addr} {H' : Hp} : Rp K Z' H' v dz := by
  cases r <;> first | exact .non | exact .bl _ | exact .int _ | exact .str _ | (simp [D.flat] at h)
theorem Thaw.rp (ok : Okay K α Z H μ) {v : V} (t : Thaw μ x dx) (r : RpV K α Z H v x) : Rp K [] H v dx := by
  cases t with
  | d => cases r with | d r => exact r.weak fun a h => absurd h List.not_mem_nil
  | lst hk =>
    cases r with
    | cell ha =>
      obtain ⟨vs, h1, h2⟩ := ok.c.at_ _ _ _ ha hk
      exact .lst List.not_mem_nil h1 ((RpVs.to_data h2).weak fun a h => absurd h List.not_mem_nil)
theorem Thaws.rp (ok : Okay K α Z H μ) : ∀ {xs : List AV} {ds : List D} {vs : List V}, Thaws μ xs ds → RpVs K α Z H vs xs → RpVs K [] [] H vs (ds.map .d)
  | _, _, _, .nil, .nil => .nil
  | _, _, _, .cons t ts, .cons r rs => .cons (.d (t.rp ok r)) (Thaws.rp ok ts rs)
theorem okay0 : Okay K [] [] H [] := ⟨⟨.nil, fun a h => h, fun z hz => absurd hz List.not_mem_nil⟩, ⟨rfl, fun k a c h => by simp at h⟩⟩
theorem rv_thaw {r : R2} (h : RV K r (.d dx) (.d dy) [] (.d dz) []) (hf : dz.flat = true) (tx : Thaw μ x dx) (ty : Thaw μ y dy) : RV K r x y μ (.d dz) μ := fun α Z H ok vx vy rx ry Q k =>
  h [] [] H okay0 vx vy (.d (tx.rp ok rx)) (.d (ty.rp ok ry)) Q fun v H' e _ rv => k v H' e.nil_any (ok.still e) (by cases rv with | d rv => exact .d (rv.flat hf))
theorem rc_thaw {r : List V → Hp → VK → Prop} {xs : List AV} {ds : List D} (h : RC K r (ds.map .d) [] (.d dz) []) (hf : dz.flat = true) (ts : Thaws μ xs ds) : RC K r xs μ (.d dz) μ := fun α Z H ok vs rs Q k =>
  h [] [] H okay0 vs (ts.rp ok rs) Q fun v H' e _ rv => k v H' e.nil_any (ok.still e) (by cases rv with | d rv => exact .d (rv.flat hf))
/-- a call that reads cells and hands back no object -/
theorem ev_callF {args : List AV} {cargs : List D} {r : D} (ha : EA K ta ρ μ args μ1) (ts : Thaws μ1 args cargs) (hR : R (cargs.map .d) [] (.ret (.d r)) []) (hf : r.flat = true) : EV K (tCl (SpR K R) [] W ta) ρ μ (.d r) μ1 :=
  fun α Z σ H ok sl Q k => ha α Z σ H ok sl _ fun vs H1 e1 ok1 r1 => by
    rw [List.append_nil]
    refine ⟨[], [], _, [], _, [], okay0, ts.rp ok1 r1, hR, fun r' v H' e ex ok' rv => ?_, fun c fs d H' e => (nomatch e), fun xs p ws H' e => (nomatch e)⟩
    cases e
    cases rv with
    | d rv => exact k v H' (e1.trans ex.nil_any) (ok1.still ex) (.d (rv.flat hf))
/-! ### kinds -/
def D.ty : D → Option String
  | .non => some "NoneType"
  | .bl _ => some "bool"
  | .int _ => some "int"
  | .str _ => some "str"
  | .lst _ => some "list"
  | .tup _ => some "tuple"
  | .dct _ => some "dict"
  | .fz _ => some "list"
  | .raw _ => none
  | .ins _ _ => none
  | .exc _ _ _ _ => none
theorem Rp.tyx {v : V} {t : String} (r : Rp K Z H v dx) (h : dx.ty = some t) : TyX K H v (.type t) := by
  cases r with
  | non => cases h; exact .base .non
  | bl b => cases h; exact .base (.bl b)
  | int i => cases h; exact .base (.int i)
  | str s => cases h; exact .base (.str s)
  | lst n q r => cases h; exact .base (.lst q)
  | tup n q r => cases h; exact .base (.tup q)
  | dct n q r => cases h; exact .base (.dK q)
  | fzT n q => cases h; exact .base (.frz q)
  | fzK q => cases h; obtain ⟨o, its, n, q1, q2, _⟩ := q; exact .kList q1 q2
  | raw v => cases h
  | ins n q r => cases h
  | exc0 => cases h
  | exc1 n q r => cases h
theorem b_isi {t n : String} {b : Bool} (h : dx.ty = some t) (hk : kitB t n = some b) : RC K (rIsi K) [.d dx, .d (.raw (.ty n))] μ (.d (.bl b)) μ := rc_2 fun Z H v w r1 r2 Q k => by
  cases r2
  exact ⟨v, .ty n, .type t, .type n, b, rfl, .ty n, r1.tyx h, kit_ty hk, k _ (.bl _)⟩
/-- isinstance(x, (S, T)) -/
theorem b_isi2 {t n m : String} {b c : Bool} (h : dx.ty = some t) (hk : kitB t n = some b) (hm : kitB t m = some c) : RC K (rIsiT K) [.d dx, .d (.tup [.raw (.ty n), .raw (.ty m)])] μ (.d (.bl (b || c))) μ := rc_2 fun Z H v w r1 r2 Q k => by
  cases r2 with
  | tup nn q r =>
    cases r with
    | cons a r => cases a; cases r with
      | cons a r => cases a; cases r
                    refine ⟨v, _, _, .type t, [.type n, .type m], b || c, rfl, q, .cons (.ty n) (.cons (.ty m) .nil), r1.tyx h, ?_, k _ (.bl _)⟩
                    refine kitAny_cons (kit_ty hk) (fun e => ?_) fun e => by rw [e]; rfl
                    rw [e, Bool.false_or]
                    exact kitAny_cons (kit_ty hm) (fun e => by rw [e]; exact kitAny_nil) fun e => e
/-! ### comprehensions over data, a name the target, no cell changes -/
theorem take_succ {γ : Type} {xs : List γ} {i : Nat} {d : γ} (h : xs[i]? = some d) : xs.take (i + 1) = xs.take i ++ [d] := by rw [List.take_add_one, h]; rfl
theorem map_get {ds : List D} {i : Nat} {d : AV} (h : (ds.map AV.d)[i]? = some d) : ∃ e, d = .d e ∧ ds[i]? = some e := by
  rw [List.getElem?_map] at h
  cases q : ds[i]? with
  | none => rw [q] at h; cases h
  | some e => rw [q] at h; cases h; exact ⟨e, rfl, rfl⟩
theorem en_map {wi : TI} {vs : List Nat} {i : Nat} {ds : List D} (f : D → D) (hi : IW K wi ρ μ (ds.map .d) μ1) (hv : i ∈ vs) (hn : ds.length ≤ 100000) (he : ∀ d ∈ ds, EV K te ((wipeA ρ vs).set i (some (.d d))) μ1 (.d (f d)) μ1) :
    EN K (tLc wi (gName i) tYes te vs) ρ μ ((ds.map f).map .d) μ1 := by
  have h := en_lc (te := te) (g := gName i) (tt := tYes) (vs := vs) hi (fun i => ((ds.take i).map f).map .d) (fun _ => μ1) rfl rfl (fun j d hd => ?_) (by rw [List.length_map]; exact hn)
  · rw [List.length_map, List.take_length] at h; exact h
  · obtain ⟨e, rfl, he'⟩ := map_get hd
    exact ⟨_, [i], true, μ1, gv_name, fun j hj => by rw [List.mem_singleton.mp hj]; exact hv, et_yes, fun _ => ⟨_, he e (List.mem_of_getElem? he'), by rw [take_succ he', List.map_append, List.map_append]; rfl⟩, fun z => nomatch z⟩
theorem en_filter {wi : TI} {tt : TT} {vs : List Nat} {i : Nat} {ds : List D} (p : D → Bool) (f : D → D) (hi : IW K wi ρ μ (ds.map .d) μ1) (hv : i ∈ vs) (hn : ds.length ≤ 100000) (ht : ∀ d ∈ ds, ET K tt ((wipeA ρ vs).set i (some (.d d))) μ1 (p d) μ1)
    (he : ∀ d ∈ ds, p d = true → EV K te ((wipeA ρ vs).set i (some (.d d))) μ1 (.d (f d)) μ1) : EN K (tLc wi (gName i) tt te vs) ρ μ (((ds.filter p).map f).map .d) μ1 := by
  have h := en_lc (te := te) (g := gName i) (tt := tt) (vs := vs) hi (fun i => (((ds.take i).filter p).map f).map .d) (fun _ => μ1) rfl rfl (fun j d hd => ?_) (by rw [List.length_map]; exact hn)
  · rw [List.length_map, List.take_length] at h; exact h
  · obtain ⟨e, rfl, he'⟩ := map_get hd
    have hm := List.mem_of_getElem? he'
    refine ⟨_, [i], p e, μ1, gv_name, fun j hj => by rw [List.mem_singleton.mp hj]; exact hv, ht e hm, fun q => ⟨_, he e hm q, ?_⟩, fun q => ⟨rfl, ?_⟩⟩
    · rw [take_succ he', List.filter_append, List.filter_cons_of_pos q, List.map_append, List.map_append]; rfl
    · rw [take_succ he', List.filter_append, List.filter_cons_of_neg (by rw [q]; exact Bool.false_ne_true), List.filter_nil, List.append_nil]
theorem b_allM {ds : List D} {p : D → Bool} : RC K (rAll K) [.d (.lst (ds.map fun d => .bl (p d)))] μ (.d (.bl (ds.all p))) μ := by
  have h := b_all (K := K) (μ := μ) (bs := ds.map p)
  rw [List.map_map, List.all_map] at h; exact h
theorem b_anyM {ds : List D} {p : D → Bool} : RC K (rAny K) [.d (.lst (ds.map fun d => .bl (p d)))] μ (.d (.bl (ds.any p))) μ := by
  have h := b_any (K := K) (μ := μ) (bs := ds.map p)
  rw [List.map_map, List.any_map] at h; exact h
/-! ### ranges as data -/
def rangeL (lo : Int) (n : Nat) : List D := (List.range n).map fun k => .int (lo + (k : Nat))
theorem rangeD_map (lo : Int) (n : Nat) : rangeD lo n = (rangeL lo n).map .d := by unfold rangeD rangeL; rw [List.map_map]; rfl
theorem iw_rng1 {ts : TA} (h : EA K ts ρ μ [.d (.int j)] μ1) (hj : j ≤ 100000) (hj0 : -100000 ≤ j) : IW K (iRng1 ts) ρ μ ((rangeL 0 j.toNat).map .d) μ1 := rangeD_map 0 _ ▸ iw_range1 h hj hj0
theorem iw_rng2 {ts : TA} (h : EA K ts ρ μ [.d (.int i), .d (.int j)] μ1) (hi : -100000 ≤ i ∧ i ≤ 100000) (hj : -100000 ≤ j ∧ j ≤ 100000) : IW K (iRng2 ts) ρ μ ((rangeL i (j - i).toNat).map .d) μ1 := rangeD_map i _ ▸ iw_range2 h hi hj
/-- list(range(n)) -/
theorem en_listRg1 (h : EV K te ρ μ (.d (.int j)) μ1) (h0 : 0 ≤ j) (hj : j ≤ 100000) : EN K (tLstRg (tRg1 te)) ρ μ ((rangeL 0 j.toNat).map .d) μ1 :=
  fun α Z σ H ok sl Q k => h α Z σ H ok sl _ fun v H1 e1 ok1 r1 => by
    cases r1 with
    | d r1 =>
      cases r1
      refine ⟨j, rfl, ⟨by omega, by omega, by omega, by omega, by omega⟩, fun p hp => k p _ _ (e1.trans (Ext.new hp)) (none_back (fun q => ok1.w.off hp (ok.w.sub p q)) e1 hp) upd_same (ok1.keepOff hp (Ext.laid hp) ⟨_, upd_same⟩) ?_⟩
      have e : rgV 0 j = (((List.range j.toNat).map fun k => (0 : Int) + (k : Nat)).map V.int) := by unfold rgV; rw [List.map_map, Int.sub_zero]; rfl
      have e2 : rangeL 0 j.toNat = (((List.range j.toNat).map fun k => (0 : Int) + (k : Nat)).map D.int) := by unfold rangeL; rw [List.map_map]; rfl
      rw [e, e2]
      exact .of_data (RpA.ints _)
end
end DL

set_option Elab.async false
set_option linter.all false
set_option maxRecDepth 100000
set_option maxHeartbeats 4000000
/-! DL12: data of a Lean type: equality; what repr shows; places. -/
namespace DL
open PySem PySem.Spec PyProof.Rows L2
mutual
theorem py_plain : ∀ d : D, d.py.plain = true
  | .non => rfl
  | .bl _ => rfl
  | .int _ => rfl
  | .str _ => rfl
  | .lst xs => by simp only [D.py, PyData.plain]; exact py_plainAll xs
  | .tup xs => by simp only [D.py, PyData.plain]; exact py_plainAll xs
  | .dct _ => rfl
  | .fz ns => by
    simp only [D.py, PyData.plain]
    induction ns with
    | nil => rfl
    | cons n ns ih => simp only [List.map_cons, PyData.plainAll, PyData.plain, Bool.true_and]; exact ih
  | .raw _ => rfl
  | .ins _ _ => rfl
  | .exc _ _ _ _ => rfl
theorem py_plainAll : ∀ xs : List D, PyData.plainAll (D.pyAll xs) = true
  | [] => rfl
  | x :: xs => by simp only [D.pyAll, PyData.plainAll, py_plain x, py_plainAll xs, Bool.and_self]
end
/-! ### == of data without dicts -/
def rEqP (K : PySem.W.Frag) : R2 := fun x y H Q => ∃ d e, Dp K H x d ∧ Dp K H y e ∧ d.plain = true ∧ e.plain = true ∧ d.depth ≤ 60 ∧ Q (.bl (PyData.eqv d e)) H
def rNeP (K : PySem.W.Frag) : R2 := fun x y H Q => ∃ d e, Dp K H x d ∧ Dp K H y e ∧ d.plain = true ∧ e.plain = true ∧ d.depth ≤ 60 ∧ Q (.bl (!PyData.eqv d e)) H
section
variable {X : Cx}
theorem o_eqP (K : PySem.W.Frag) (hK : X.K = K) (hu : X.A.units + 64 < cLine) : OpR X (compareOp .Eq) (rEqP K) := by
  subst hK
  intro pins s σ H x y v u Q I rx ry h
  obtain ⟨d, e, hd, he, pd, pe, dp, q⟩ := h
  obtain ⟨as, r1⟩ := Dp.reads I d x v hd rx
  obtain ⟨bs, r2⟩ := Dp.reads I e y u he ry
  exact PySem.SeqAt.eq_plain r1 r2 pd pe (by have := Nat.min_le_left d.depth e.depth; omega) ⟨.bl _, H, I, rfl, q⟩
theorem o_neP (K : PySem.W.Frag) (hK : X.K = K) (hu : X.A.units + 64 < cLine) : OpR X (compareOp .NotEq) (rNeP K) := by
  subst hK
  intro pins s σ H x y v u Q I rx ry h
  obtain ⟨d, e, hd, he, pd, pe, dp, q⟩ := h
  obtain ⟨as, r1⟩ := Dp.reads I d x v hd rx
  obtain ⟨bs, r2⟩ := Dp.reads I e y u he ry
  exact PySem.SeqAt.ne_plain r1 r2 pd pe (by have := Nat.min_le_left d.depth e.depth; omega) ⟨.bl _, H, I, rfl, q⟩
end
section
variable {K : PySem.W.Frag} {W : WX} {P : Po} {ρ ρ' : Slots} {μ μ1 μ2 : List CC} {te to : TE} {d e : D} {x y : AV}
theorem b_eqP (h1 : d.plain = true) (h2 : e.plain = true) (hd : d.py.depth ≤ 60) : RV K (rEqP K) (.d d) (.d e) μ (.d (.bl (PyData.eqv d.py e.py))) μ := rv_of fun Z H vx vy rx ry Q k => ⟨_, _, rx.dp h1, ry.dp h2, py_plain d, py_plain e, hd, k _ (.bl _)⟩
theorem b_neP (h1 : d.plain = true) (h2 : e.plain = true) (hd : d.py.depth ≤ 60) : RV K (rNeP K) (.d d) (.d e) μ (.d (.bl (!PyData.eqv d.py e.py))) μ := rv_of fun Z H vx vy rx ry Q k => ⟨_, _, rx.dp h1, ry.dp h2, py_plain d, py_plain e, hd, k _ (.bl _)⟩
end
theorem beq_dec {α : Type} [BEq α] [LawfulBEq α] [DecidableEq α] (a b : α) : (a == b) = decide (a = b) := by
  by_cases h : a = b
  · rw [decide_eq_true h, h, beq_self_eq_true]
  · rw [decide_eq_false h]; exact beq_eq_false_iff_ne.mpr h
/-- a Lean type that is data: == is equality -/
class Dt (α : Type) [DecidableEq α] where
  toD : α → D
  plain : ∀ a, (toD a).plain = true
  k : Nat
  depth : ∀ a, (toD a).py.depth ≤ k
  eqv : ∀ a b, PyData.eqv (toD a).py (toD b).py = decide (a = b)
instance : Dt Int where
  toD := .int
  plain _ := rfl
  k := 0
  depth _ := Nat.le_refl _
  eqv a b := by simp only [D.py, PyData.eqv]; exact beq_dec a b
instance : Dt Bool where
  toD := .bl
  plain _ := rfl
  k := 0
  depth _ := Nat.le_refl _
  eqv a b := by simp only [D.py, PyData.eqv]; exact beq_dec a b
instance : Dt Str where
  toD := .str
  plain _ := rfl
  k := 0
  depth _ := Nat.le_refl _
  eqv a b := by simp only [D.py, PyData.eqv]; exact beq_dec a b
/-- whole numbers from 0 -/
instance : Dt Nat where
  toD n := .int (n : Nat)
  plain _ := rfl
  k := 0
  depth _ := Nat.le_refl _
  eqv a b := by simp only [D.py, PyData.eqv]; exact (beq_dec _ _).trans (decide_eq_decide.mpr (by omega))
/-- a tuple of any length -/
structure Tu (α : Type) where
  xs : List α
  deriving DecidableEq
section
variable {α β : Type} [DecidableEq α] [Dt α] [DecidableEq β] [Dt β]
theorem dt_plainAll (xs : List α) : D.plainAll (xs.map Dt.toD) = true := D.plainAll_iff.mpr fun x hx => by
  obtain ⟨a, _, rfl⟩ := List.mem_map.mp hx
  exact Dt.plain a
theorem dt_depthAll : ∀ xs : List α, PyData.depthAll (D.pyAll (xs.map Dt.toD)) ≤ Dt.k α
  | [] => Nat.zero_le _
  | x :: xs => by rw [List.map_cons, D.pyAll, PyData.depthAll]; exact Nat.max_le.mpr ⟨Dt.depth x, dt_depthAll xs⟩
theorem dt_eqvAll : ∀ xs ys : List α, PyData.eqvAll (D.pyAll (xs.map Dt.toD)) (D.pyAll (ys.map Dt.toD)) = decide (xs = ys)
  | [], [] => by simp [D.pyAll, PyData.eqvAll]
  | [], _ :: _ => by simp [D.pyAll, PyData.eqvAll]
  | _ :: _, [] => by simp [D.pyAll, PyData.eqvAll]
  | x :: xs, y :: ys => by
    rw [List.map_cons, List.map_cons, D.pyAll, D.pyAll, PyData.eqvAll, Dt.eqv x y, dt_eqvAll xs ys, ← Bool.decide_and]
    exact decide_eq_decide.mpr (by rw [List.cons.injEq])
instance : Dt (List α) where
  toD xs := .lst (xs.map Dt.toD)
  plain xs := by simp only [D.plain]; exact dt_plainAll xs
  k := Dt.k α + 1
  depth xs := by simp only [D.py, PyData.depth]; exact Nat.succ_le_succ (dt_depthAll xs)
  eqv xs ys := by simp only [D.py, PyData.eqv]; exact dt_eqvAll xs ys
instance : Dt (Tu α) where
  toD t := .tup (t.xs.map Dt.toD)
  plain t := by simp only [D.plain]; exact dt_plainAll t.xs
  k := Dt.k α + 1
  depth t := by simp only [D.py, PyData.depth]; exact Nat.succ_le_succ (dt_depthAll t.xs)
  eqv t u := by
    simp only [D.py, PyData.eqv]
    rw [dt_eqvAll]
    exact decide_eq_decide.mpr ⟨fun e => by cases t; cases u; exact congrArg Tu.mk e, fun e => by rw [e]⟩
instance : Dt (α × β) where
  toD p := .tup [Dt.toD p.1, Dt.toD p.2]
  plain p := by simp only [D.plain, D.plainAll, Dt.plain, Bool.and_self]
  k := max (Dt.k α) (Dt.k β) + 1
  depth p := by
    simp only [D.py, D.pyAll, PyData.depth, PyData.depthAll]
    exact Nat.succ_le_succ (Nat.max_le.mpr ⟨Nat.le_trans (Dt.depth p.1) (Nat.le_max_left _ _), Nat.max_le.mpr ⟨Nat.le_trans (Dt.depth p.2) (Nat.le_max_right _ _), Nat.zero_le _⟩⟩)
  eqv p q := by
    simp only [D.py, D.pyAll, PyData.eqv, PyData.eqvAll]
    rw [Dt.eqv, Dt.eqv, Bool.and_true, ← Bool.decide_and]
    exact decide_eq_decide.mpr ⟨fun e => Prod.ext e.1 e.2, fun e => by rw [e]; exact ⟨rfl, rfl⟩⟩
instance : Dt (Option α) where
  toD
    | none => .tup [.non]
    | some a => .tup [.bl true, Dt.toD a]
  plain a := by cases a <;> simp [D.plain, D.plainAll, Dt.plain]
  k := Dt.k α + 1
  depth a := by
    cases a with
    | none => simp [D.py, D.pyAll, PyData.depth, PyData.depthAll]
    | some a => simp only [D.py, D.pyAll, PyData.depth, PyData.depthAll]; exact Nat.succ_le_succ (Nat.max_le.mpr ⟨Nat.zero_le _, Nat.max_le.mpr ⟨Dt.depth a, Nat.zero_le _⟩⟩)
  eqv a b := by
    cases a <;> cases b <;> simp [D.py, D.pyAll, PyData.eqv, PyData.eqvAll, Dt.eqv]
variable {K : PySem.W.Frag} {μ : List CC} {d e : D}
theorem b_eqT (a b : α) (hk : Dt.k α ≤ 60 := by decide) (hd : d = Dt.toD a := by rfl) (he : e = Dt.toD b := by rfl) : RV K (rEqP K) (.d d) (.d e) μ (.d (.bl (decide (a = b)))) μ := by
  subst hd; subst he
  rw [← Dt.eqv]
  exact b_eqP (Dt.plain a) (Dt.plain b) (Nat.le_trans (Dt.depth a) hk)
theorem b_neT (a b : α) (hk : Dt.k α ≤ 60 := by decide) (hd : d = Dt.toD a := by rfl) (he : e = Dt.toD b := by rfl) : RV K (rNeP K) (.d d) (.d e) μ (.d (.bl (!decide (a = b)))) μ := by
  subst hd; subst he
  rw [← Dt.eqv]
  exact b_neP (Dt.plain a) (Dt.plain b) (Nat.le_trans (Dt.depth a) hk)
end
/-! ### what repr shows: at most n signs, k deep -/
structure Sh (d : D) (n k : Nat) : Prop where
  plain : d.plain = true
  showable : d.py.showable = true
  depth : d.py.depth ≤ k
  len : d.py.shown.length ≤ n
theorem sh_non : Sh .non 4 0 := ⟨rfl, rfl, Nat.le_refl _, by decide +kernel⟩
theorem sh_bl (b : Bool) : Sh (.bl b) 5 0 := ⟨rfl, rfl, Nat.le_refl _, by cases b <;> decide +kernel⟩
theorem sh_int {i : Int} {k : Nat} (hk : 0 < k) (h : i.natAbs < 10 ^ k) (hk2 : k ≤ 500 := by decide) : Sh (.int i) (k + 1) 0 := by
  refine ⟨rfl, ?_, Nat.le_refl _, ?_⟩
  · simp only [D.py, PyData.showable, decide_eq_true_eq]
    by_cases h0 : i.natAbs = 0
    · rw [h0]; decide
    · refine (Nat.log2_lt h0).mpr (Nat.lt_of_lt_of_le h ?_)
      calc 10 ^ k ≤ 10 ^ 500 := Nat.pow_le_pow_right (by decide) hk2
        _ ≤ 2 ^ 1920 := by decide +kernel
  · show (Str.ofString (toString i)).length ≤ k + 1
    have q := int_text_length_le10 (a := i) hk h
    exact Nat.le_trans (Nat.le_of_eq (PySem.ofString_length _)) q
theorem Sh.mono {d : D} {n m k j : Nat} (s : Sh d n k) (h : n ≤ m) (h2 : k ≤ j) : Sh d m j := ⟨s.plain, s.showable, Nat.le_trans s.depth h2, Nat.le_trans s.len h⟩
theorem shAll_parts {ds : List D} {n k : Nat} (h : ∀ d ∈ ds, Sh d n k) : D.plainAll ds = true ∧ PyData.showableAll (D.pyAll ds) = true ∧ PyData.depthAll (D.pyAll ds) ≤ k ∧ ((PyData.shownAll (D.pyAll ds)).map (·.length)).sum ≤ n * ds.length ∧ (PyData.shownAll (D.pyAll ds)).length = ds.length := by
  induction ds with
  | nil => exact ⟨rfl, rfl, Nat.zero_le _, Nat.zero_le _, rfl⟩
  | cons d ds ih =>
    obtain ⟨h1, h2, h3, h4, h5⟩ := ih fun e he => h e (List.mem_cons_of_mem _ he)
    have s := h d List.mem_cons_self
    refine ⟨?_, ?_, ?_, ?_, ?_⟩
    · rw [D.plainAll, s.plain, h1]; rfl
    · rw [D.pyAll, PyData.showableAll, s.showable, h2]; rfl
    · rw [D.pyAll, PyData.depthAll]; exact Nat.max_le.mpr ⟨s.depth, h3⟩
    · rw [D.pyAll, PyData.shownAll, List.map_cons, List.sum_cons, List.length_cons, Nat.mul_succ]
      have := s.len
      omega
    · rw [D.pyAll, PyData.shownAll, List.length_cons, List.length_cons, h5]
theorem sh_lst {ds : List D} {n k : Nat} (h : ∀ d ∈ ds, Sh d n k) : Sh (.lst ds) (n * ds.length + 2 * ds.length + 3) (k + 1) := by
  obtain ⟨h1, h2, h3, h4, h5⟩ := shAll_parts h
  refine ⟨h1, h2, ?_, ?_⟩
  · simp only [D.py, PyData.depth]; omega
  · simp only [D.py, PyData.shown]
    refine Nat.le_trans (listText_len_le _) ?_
    rw [h5]; omega
theorem sh_tup {ds : List D} {n k : Nat} (h : ∀ d ∈ ds, Sh d n k) : Sh (.tup ds) (n * ds.length + 2 * ds.length + 3) (k + 1) := by
  obtain ⟨h1, h2, h3, h4, h5⟩ := shAll_parts h
  refine ⟨h1, h2, ?_, ?_⟩
  · simp only [D.py, PyData.depth]; omega
  · simp only [D.py, PyData.shown]
    refine Nat.le_trans (tupleText_len_le _) ?_
    rw [h5]; omega
mutual
theorem noDict_plain : ∀ d : D, d.plain = true → d.py.hasDict = false
  | .non, _ => rfl
  | .bl _, _ => rfl
  | .int _, _ => rfl
  | .str _, _ => rfl
  | .lst xs, h => by simp only [D.py, PyData.hasDict]; exact noDict_all xs h
  | .tup xs, h => by simp only [D.py, PyData.hasDict]; exact noDict_all xs h
  | .dct _, _ => rfl
  | .fz ns, h => by simp [D.plain] at h
  | .raw _, _ => rfl
  | .ins _ _, _ => rfl
  | .exc _ _ _ _, _ => rfl
theorem noDict_all : ∀ xs : List D, D.plainAll xs = true → PyData.hasDictAll (D.pyAll xs) = false
  | [], _ => rfl
  | x :: xs, h => by
    simp only [D.plainAll, Bool.and_eq_true] at h
    simp only [D.pyAll, PyData.hasDictAll, noDict_plain x h.1, noDict_all xs h.2, Bool.or_self]
end
/-- what repr of d shows -/
def D.shown (d : D) : Str := d.py.shown
section
variable {K : PySem.W.Frag} {W : WX} {P : Po} {ρ ρ' : Slots} {μ μ1 μ2 : List CC} {te to : TE} {d e : D} {x y : AV}
theorem b_reprS {n k : Nat} (s : Sh d n k) (hn : n ≤ 16777216) (hk : k ≤ 60) : RC K (rReprA K) [.d d] μ (.d (.str d.shown)) μ := b_repr s.plain s.showable (noDict_plain d s.plain) (Nat.le_trans s.depth hk) (Nat.le_trans s.len hn)
/-! ### xs.index(e), whole numbers -/
theorem idxOf_ne {n : Int} : ∀ {ns : List Int} {m : Nat} (h : m < ns.length), m < ns.idxOf n → ns[m] ≠ n
  | a :: ns, 0, _, q => fun e => by
    simp only [List.getElem_cons_zero] at e
    rw [e, List.idxOf_cons_self] at q
    exact Nat.lt_irrefl _ q
  | a :: ns, m + 1, h, q => by
    simp only [List.getElem_cons_succ]
    refine idxOf_ne (Nat.lt_of_succ_lt_succ h) ?_
    rw [List.idxOf_cons] at q
    cases e : (a == n) with
    | true => rw [e] at q; simp at q
    | false => rw [e] at q; simp at q; exact q
theorem all_int (ns : List Int) : (ns.map V.int).all flatV = true := List.all_eq_true.mpr fun v hv => by obtain ⟨n, _, rfl⟩ := List.mem_map.mp hv; rfl
theorem ev_indexI {ns : List Int} {n : Int} (ho : EV K to ρ μ (.d (.lst (ns.map .int))) μ) (he : EV K te ρ μ (.d (.int n)) μ) (hm : n ∈ ns) : EV K (tBM K "list" (rIndex K) to (tCons te tNil)) ρ μ (.d (.int (ns.idxOf n : Nat))) μ :=
  fun α Z σ H ok sl Q k => ho α Z σ H ok sl _ fun v H1 e1 ok1 r1 => by
    cases r1 with
    | d r1 =>
      cases r1 with
      | lst nn h1 r =>
        refine ⟨.inl ⟨rfl, _, SqL.of h1⟩, he α Z σ H1 ok1 (sl.ext ok e1) _ fun w H2 e2 ok2 r2 => ?_⟩
        cases r2 with
        | d r2 =>
          cases r2
          have ei := r.ints_inv
          subst ei
          have hlt : ns.idxOf n < ns.length := List.idxOf_lt_length_iff.mpr hm
          refine ⟨_, ns.map V.int, .int n, ns.idxOf n, .int n, rfl, rfl, SqL.of (e2 _ (fun q => nn (ok1.w.sub _ q)) _ h1), rfl, all_int ns, ?_, ?_, fun m z hmm hz => ?_, k _ H2 (e1.trans e2) ok2 (.d (.int _))⟩
          · rw [List.getElem?_map, List.getElem?_eq_getElem hlt, List.getElem_idxOf hlt]; rfl
          · show (n == n) = true; exact beq_self_eq_true n
          · rw [List.getElem?_map] at hz
            have hml : m < ns.length := by omega
            rw [List.getElem?_eq_getElem hml] at hz
            cases hz
            show (ns[m] == n) = false
            exact beq_eq_false_iff_ne.mpr (idxOf_ne hml hmm)
end
end DL

set_option Elab.async false
set_option linter.all false
set_option maxRecDepth 100000
set_option maxHeartbeats 4000000
/-! DL13: whole numbers from 0, lists of them; short comparisons. -/
namespace DL
open PySem PySem.Spec PyProof.Rows L2
abbrev nD (n : Nat) : D := .int (n : Nat)
abbrev nL (ns : List Nat) : D := .lst (ns.map nD)
section
variable {K : PySem.W.Frag} {W : WX} {P : Po} {ρ ρ' : Slots} {μ μ1 μ2 : List CC} {ta : TA} {te tl : TE} {d e : D} {x y : AV} {i j : Int} {m n : Nat} {a b : Str} {xs ys : List D}
theorem RV.to {r : R2} {z z' : AV} (h : RV K r x y μ z μ1) (q : z = z') : RV K r x y μ z' μ1 := q ▸ h
theorem RC.to {r : List V → Hp → VK → Prop} {xs : List AV} {z z' : AV} (h : RC K r xs μ z μ1) (q : z = z') : RC K r xs μ z' μ1 := q ▸ h
theorem RCN.to {r : List V → Hp → VK → Prop} {xs zs zs' : List AV} (h : RCN K r xs μ zs μ1) (q : zs = zs') : RCN K r xs μ zs' μ1 := q ▸ h
theorem IW.to {wi : TI} {zs zs' : List AV} (h : IW K wi ρ μ zs μ1) (q : zs = zs') : IW K wi ρ μ zs' μ1 := q ▸ h
theorem b_eqI : RV K (rEqP K) (.d (.int i)) (.d (.int j)) μ (.d (.bl (decide (i = j)))) μ := b_eqT (α := Int) i j
theorem b_neI : RV K (rNeP K) (.d (.int i)) (.d (.int j)) μ (.d (.bl (!decide (i = j)))) μ := b_neT (α := Int) i j
theorem b_eqN : RV K (rEqP K) (.d (nD m)) (.d (nD n)) μ (.d (.bl (decide (m = n)))) μ := b_eqT (α := Nat) m n
theorem b_neN : RV K (rNeP K) (.d (nD m)) (.d (nD n)) μ (.d (.bl (!decide (m = n)))) μ := b_neT (α := Nat) m n
theorem b_eqS : RV K (rEqP K) (.d (.str a)) (.d (.str b)) μ (.d (.bl (decide (a = b)))) μ := b_eqT (α := Str) a b
theorem b_neS : RV K (rNeP K) (.d (.str a)) (.d (.str b)) μ (.d (.bl (!decide (a = b)))) μ := b_neT (α := Str) a b
theorem b_eqLN {ms ns : List Nat} : RV K (rEqP K) (.d (nL ms)) (.d (nL ns)) μ (.d (.bl (decide (ms = ns)))) μ := b_eqT (α := List Nat) ms ns
theorem b_neLN {ms ns : List Nat} : RV K (rNeP K) (.d (nL ms)) (.d (nL ns)) μ (.d (.bl (!decide (ms = ns)))) μ := b_neT (α := List Nat) ms ns
theorem b_ltN : RV K rLtI (.d (nD m)) (.d (nD n)) μ (.d (.bl (decide (m < n)))) μ := b_lt.to (by rw [decide_eq_decide.mpr Int.ofNat_lt])
theorem b_leN : RV K rLeI (.d (nD m)) (.d (nD n)) μ (.d (.bl (decide (m ≤ n)))) μ := b_le.to (by rw [decide_eq_decide.mpr Int.ofNat_le])
theorem b_gtN : RV K rGtI (.d (nD m)) (.d (nD n)) μ (.d (.bl (decide (n < m)))) μ := b_gt.to (by rw [decide_eq_decide.mpr Int.ofNat_lt])
theorem b_geN : RV K rGeI (.d (nD m)) (.d (nD n)) μ (.d (.bl (decide (n ≤ m)))) μ := b_ge.to (by rw [decide_eq_decide.mpr Int.ofNat_le])
theorem b_addN : RV K (rAddA K) (.d (nD m)) (.d (nD n)) μ (.d (nD (m + n))) μ := b_add.to (by rw [← Int.natCast_add])
theorem b_addN1 {c : Nat} : RV K (rAddA K) (.d (nD m)) (.d (.int (OfNat.ofNat c))) μ (.d (nD (m + c))) μ := b_addN
theorem at_nat {α : Type} {xs : List α} {v : α} (h : xs[n]? = some v) : atI xs (n : Nat) = some v := by
  have hn := (List.getElem?_eq_some_iff.mp h).1
  unfold atI ixN
  rw [if_pos (Int.natCast_nonneg n), if_pos (by omega)]
  exact h
theorem b_ixLN (h : xs[n]? = some d) : RV K (rIx K) (.d (.lst xs)) (.d (nD n)) μ (.d d) μ := b_ixL (at_nat h)
theorem b_ixTN (h : xs[n]? = some d) : RV K (rIx K) (.d (.tup xs)) (.d (nD n)) μ (.d d) μ := b_ixT (at_nat h)
theorem b_ixCN {k : Nat} {cs : List AV} {d : AV} (hc : μ[k]? = some (.lst cs)) (h : cs[n]? = some d) : RV K (rIx K) (.cell k) (.d (nD n)) μ d μ := b_ixC hc (at_nat h)
theorem rangeL_nat (n : Nat) : rangeL 0 n = (List.range n).map nD := List.map_congr_left fun k _ => by rw [Int.zero_add]
theorem en_listRgN (h : EV K te ρ μ (.d (nD n)) μ1) (hn : n ≤ 100000) : EN K (tLstRg (tRg1 te)) ρ μ (((List.range n).map nD).map .d) μ1 :=
  (en_listRg1 h (Int.natCast_nonneg n) (by omega)).to (by rw [Int.toNat_natCast, rangeL_nat])
theorem iw_rngN {ts : TA} (h : EA K ts ρ μ [.d (nD n)] μ1) (hn : n ≤ 100000) : IW K (iRng1 ts) ρ μ (((List.range n).map nD).map .d) μ1 :=
  (iw_rng1 h (by omega) (by omega)).to (by rw [Int.toNat_natCast, rangeL_nat])
theorem iw_rngN2 {ts : TA} (h : EA K ts ρ μ [.d (nD m), .d (nD n)] μ1) (hm : m ≤ 100000) (hn : n ≤ 100000) : IW K (iRng2 ts) ρ μ (((List.range' m (n - m)).map nD).map .d) μ1 :=
  IW.to (iw_rng2 (i := (m : Nat)) (j := (n : Nat)) h ⟨by omega, by omega⟩ ⟨by omega, by omega⟩) (by
    have e : ((n : Int) - (m : Int)).toNat = n - m := by omega
    rw [e, List.range'_eq_map_range]
    unfold rangeL
    rw [List.map_map]
    rw [List.map_map, List.map_map]
    refine List.map_congr_left fun k _ => ?_
    show AV.d (D.int _) = AV.d (D.int _)
    rw [Int.natCast_add])
theorem sortI_perm_range {os : List Nat} (h : os.Perm (List.range n)) : sortI (os.map fun n : Nat => (n : Int)) = (List.range n).map fun n : Nat => (n : Int) :=
  sorted_one ((sortI_perm _).trans (h.map _)) (sortI_sorted _) (by
    rw [List.pairwise_map]
    exact List.pairwise_lt_range.imp fun h => by omega)
theorem b_sortN {os : List Nat} (h : os.Perm (List.range n)) : RCN K (rSortedI K) [.d (nL os)] μ (((List.range n).map nD).map .d) μ := by
  have q := b_sortI (K := K) (μ := μ) (ns := os.map fun n : Nat => (n : Int))
  rw [List.map_map, sortI_perm_range h] at q
  refine q.to ?_
  rw [List.map_map, List.map_map]; rfl
theorem idxOf_castN (os : List Nat) (n : Nat) : (os.map fun n : Nat => (n : Int)).idxOf (n : Int) = os.idxOf n := by
  induction os with
  | nil => rfl
  | cons a os ih =>
    rw [List.map_cons, List.idxOf_cons, List.idxOf_cons, ih]
    have e : ((a : Int) == (n : Int)) = (a == n) := by
      rw [beq_dec, beq_dec]; exact decide_eq_decide.mpr Int.ofNat_inj
    rw [e]
theorem ev_indexN {os : List Nat} (ho : EV K tl ρ μ (.d (nL os)) μ) (he : EV K te ρ μ (.d (nD n)) μ) (hm : n ∈ os) : EV K (tBM K "list" (rIndex K) tl (tCons te tNil)) ρ μ (.d (nD (os.idxOf n))) μ := by
  have q := ev_indexI (K := K) (to := tl) (te := te) (ρ := ρ) (μ := μ) (ns := os.map fun n : Nat => (n : Int)) (n := n) (by rw [List.map_map]; exact ho) he (List.mem_map_of_mem hm)
  rw [idxOf_castN] at q; exact q
/-! a test that is told -/
theorem q_skip {t v : TS} {tc : TT} (h : ET K tc ρ μ false μ1) (k : SV K W v ρ μ1 P) : SV K W (tSeq (tIfS tc t tNext) v) ρ μ P := q_when h (fun e => nomatch e) fun _ => k
theorem q_then {t u v : TS} {tc : TT} (h : ET K tc ρ μ true μ1) (k : SV K W t ρ μ1 { P with nx := fun ρ' μ' => SV K W v ρ' μ' P }) : SV K W (tSeq (tIfS tc t u) v) ρ μ P := q_if h (fun _ => k) fun e => nomatch e
theorem sv_skip {t : TS} {tc : TT} (h : ET K tc ρ μ false μ1) (k : P.nx ρ μ1) : SV K W (tIfS tc t tNext) ρ μ P := sv_if h (fun e => nomatch e) fun _ => sv_next k
/-! calls without cells, so many arguments -/
theorem ev_c1 {R : Ctr} {d0 r : D} (ha : EA K ta ρ μ [.d d0] μ1) (hR : R [.d d0] [] (.ret (.d r)) []) : EV K (tCl (SpR K R) [] W ta) ρ μ (.d r) μ1 := ev_call0 (ds := [d0]) ha hR
theorem en_c1 {R : Ctr} {d0 : D} {xs : List D} (ha : EA K ta ρ μ [.d d0] μ1) (hR : R [.d d0] [] (.new xs) []) : EN K (tCl (SpR K R) [] W ta) ρ μ (xs.map .d) μ1 := en_call0 (ds := [d0]) ha hR
theorem ex_c1 {R : Ctr} {d0 : D} {c : Value} {fs : List (Str × D)} (ha : EA K ta ρ μ [.d d0] μ1) (hR : R [.d d0] [] (.exc c fs) []) : EX K W (tCl (SpR K R) [] W ta) ρ μ c fs μ1 := ex_call0 (ds := [d0]) ha hR
theorem ev_c2 {R : Ctr} {d0 d1 r : D} (ha : EA K ta ρ μ [.d d0, .d d1] μ1) (hR : R [.d d0, .d d1] [] (.ret (.d r)) []) : EV K (tCl (SpR K R) [] W ta) ρ μ (.d r) μ1 := ev_call0 (ds := [d0, d1]) ha hR
theorem en_c2 {R : Ctr} {d0 d1 : D} {xs : List D} (ha : EA K ta ρ μ [.d d0, .d d1] μ1) (hR : R [.d d0, .d d1] [] (.new xs) []) : EN K (tCl (SpR K R) [] W ta) ρ μ (xs.map .d) μ1 := en_call0 (ds := [d0, d1]) ha hR
theorem ex_c2 {R : Ctr} {d0 d1 : D} {c : Value} {fs : List (Str × D)} (ha : EA K ta ρ μ [.d d0, .d d1] μ1) (hR : R [.d d0, .d d1] [] (.exc c fs) []) : EX K W (tCl (SpR K R) [] W ta) ρ μ c fs μ1 := ex_call0 (ds := [d0, d1]) ha hR
theorem ev_c3 {R : Ctr} {d0 d1 d2 r : D} (ha : EA K ta ρ μ [.d d0, .d d1, .d d2] μ1) (hR : R [.d d0, .d d1, .d d2] [] (.ret (.d r)) []) : EV K (tCl (SpR K R) [] W ta) ρ μ (.d r) μ1 := ev_call0 (ds := [d0, d1, d2]) ha hR
theorem en_c3 {R : Ctr} {d0 d1 d2 : D} {xs : List D} (ha : EA K ta ρ μ [.d d0, .d d1, .d d2] μ1) (hR : R [.d d0, .d d1, .d d2] [] (.new xs) []) : EN K (tCl (SpR K R) [] W ta) ρ μ (xs.map .d) μ1 := en_call0 (ds := [d0, d1, d2]) ha hR
theorem ex_c3 {R : Ctr} {d0 d1 d2 : D} {c : Value} {fs : List (Str × D)} (ha : EA K ta ρ μ [.d d0, .d d1, .d d2] μ1) (hR : R [.d d0, .d d1, .d d2] [] (.exc c fs) []) : EX K W (tCl (SpR K R) [] W ta) ρ μ c fs μ1 := ex_call0 (ds := [d0, d1, d2]) ha hR
theorem ev_c4 {R : Ctr} {d0 d1 d2 d3 r : D} (ha : EA K ta ρ μ [.d d0, .d d1, .d d2, .d d3] μ1) (hR : R [.d d0, .d d1, .d d2, .d d3] [] (.ret (.d r)) []) : EV K (tCl (SpR K R) [] W ta) ρ μ (.d r) μ1 := ev_call0 (ds := [d0, d1, d2, d3]) ha hR
theorem en_c4 {R : Ctr} {d0 d1 d2 d3 : D} {xs : List D} (ha : EA K ta ρ μ [.d d0, .d d1, .d d2, .d d3] μ1) (hR : R [.d d0, .d d1, .d d2, .d d3] [] (.new xs) []) : EN K (tCl (SpR K R) [] W ta) ρ μ (xs.map .d) μ1 := en_call0 (ds := [d0, d1, d2, d3]) ha hR
theorem ex_c4 {R : Ctr} {d0 d1 d2 d3 : D} {c : Value} {fs : List (Str × D)} (ha : EA K ta ρ μ [.d d0, .d d1, .d d2, .d d3] μ1) (hR : R [.d d0, .d d1, .d d2, .d d3] [] (.exc c fs) []) : EX K W (tCl (SpR K R) [] W ta) ρ μ c fs μ1 := ex_call0 (ds := [d0, d1, d2, d3]) ha hR
theorem ev_c5 {R : Ctr} {d0 d1 d2 d3 d4 r : D} (ha : EA K ta ρ μ [.d d0, .d d1, .d d2, .d d3, .d d4] μ1) (hR : R [.d d0, .d d1, .d d2, .d d3, .d d4] [] (.ret (.d r)) []) : EV K (tCl (SpR K R) [] W ta) ρ μ (.d r) μ1 := ev_call0 (ds := [d0, d1, d2, d3, d4]) ha hR
theorem en_c5 {R : Ctr} {d0 d1 d2 d3 d4 : D} {xs : List D} (ha : EA K ta ρ μ [.d d0, .d d1, .d d2, .d d3, .d d4] μ1) (hR : R [.d d0, .d d1, .d d2, .d d3, .d d4] [] (.new xs) []) : EN K (tCl (SpR K R) [] W ta) ρ μ (xs.map .d) μ1 := en_call0 (ds := [d0, d1, d2, d3, d4]) ha hR
theorem ex_c5 {R : Ctr} {d0 d1 d2 d3 d4 : D} {c : Value} {fs : List (Str × D)} (ha : EA K ta ρ μ [.d d0, .d d1, .d d2, .d d3, .d d4] μ1) (hR : R [.d d0, .d d1, .d d2, .d d3, .d d4] [] (.exc c fs) []) : EX K W (tCl (SpR K R) [] W ta) ρ μ c fs μ1 := ex_call0 (ds := [d0, d1, d2, d3, d4]) ha hR
theorem ev_c6 {R : Ctr} {d0 d1 d2 d3 d4 d5 r : D} (ha : EA K ta ρ μ [.d d0, .d d1, .d d2, .d d3, .d d4, .d d5] μ1) (hR : R [.d d0, .d d1, .d d2, .d d3, .d d4, .d d5] [] (.ret (.d r)) []) : EV K (tCl (SpR K R) [] W ta) ρ μ (.d r) μ1 := ev_call0 (ds := [d0, d1, d2, d3, d4, d5]) ha hR
theorem en_c6 {R : Ctr} {d0 d1 d2 d3 d4 d5 : D} {xs : List D} (ha : EA K ta ρ μ [.d d0, .d d1, .d d2, .d d3, .d d4, .d d5] μ1) (hR : R [.d d0, .d d1, .d d2, .d d3, .d d4, .d d5] [] (.new xs) []) : EN K (tCl (SpR K R) [] W ta) ρ μ (xs.map .d) μ1 := en_call0 (ds := [d0, d1, d2, d3, d4, d5]) ha hR
theorem ex_c6 {R : Ctr} {d0 d1 d2 d3 d4 d5 : D} {c : Value} {fs : List (Str × D)} (ha : EA K ta ρ μ [.d d0, .d d1, .d d2, .d d3, .d d4, .d d5] μ1) (hR : R [.d d0, .d d1, .d d2, .d d3, .d d4, .d d5] [] (.exc c fs) []) : EX K W (tCl (SpR K R) [] W ta) ρ μ c fs μ1 := ex_call0 (ds := [d0, d1, d2, d3, d4, d5]) ha hR
/-! comprehensions over typed data -/
section
variable {α β : Type} {tD : α → D} {tE : β → D}
theorem map_getG {as : List α} {i : Nat} {d : AV} (h : ((as.map tD).map AV.d)[i]? = some d) : ∃ a, d = .d (tD a) ∧ as[i]? = some a := by
  rw [List.getElem?_map, List.getElem?_map] at h
  cases q : as[i]? with
  | none => rw [q] at h; cases h
  | some e => rw [q] at h; cases h; exact ⟨e, rfl, rfl⟩
theorem en_mapG {wi : TI} {vs : List Nat} {i : Nat} {as : List α} (f : α → D) (hi : IW K wi ρ μ ((as.map tD).map .d) μ1) (hv : i ∈ vs) (hn : as.length ≤ 100000) (he : ∀ a ∈ as, EV K te ((wipeA ρ vs).set i (some (.d (tD a)))) μ1 (.d (f a)) μ1) :
    EN K (tLc wi (gName i) tYes te vs) ρ μ ((as.map f).map .d) μ1 := by
  have h := en_lc (te := te) (g := gName i) (tt := tYes) (vs := vs) hi (fun i => ((as.take i).map f).map .d) (fun _ => μ1) rfl rfl (fun j d hd => ?_) (by rw [List.length_map, List.length_map]; exact hn)
  · rw [List.length_map, List.length_map, List.take_length] at h; exact h
  · obtain ⟨e, rfl, he'⟩ := map_getG hd
    exact ⟨_, [i], true, μ1, gv_name, fun j hj => by rw [List.mem_singleton.mp hj]; exact hv, et_yes, fun _ => ⟨_, he e (List.mem_of_getElem? he'), by rw [take_succ he', List.map_append, List.map_append]; rfl⟩, fun z => nomatch z⟩
theorem en_filterG {wi : TI} {tt : TT} {vs : List Nat} {i : Nat} {as : List α} (p : α → Bool) (f : α → D) (hi : IW K wi ρ μ ((as.map tD).map .d) μ1) (hv : i ∈ vs) (hn : as.length ≤ 100000) (ht : ∀ a ∈ as, ET K tt ((wipeA ρ vs).set i (some (.d (tD a)))) μ1 (p a) μ1)
    (he : ∀ a ∈ as, p a = true → EV K te ((wipeA ρ vs).set i (some (.d (tD a)))) μ1 (.d (f a)) μ1) : EN K (tLc wi (gName i) tt te vs) ρ μ (((as.filter p).map f).map .d) μ1 := by
  have h := en_lc (te := te) (g := gName i) (tt := tt) (vs := vs) hi (fun i => (((as.take i).filter p).map f).map .d) (fun _ => μ1) rfl rfl (fun j d hd => ?_) (by rw [List.length_map, List.length_map]; exact hn)
  · rw [List.length_map, List.length_map, List.take_length] at h; exact h
  · obtain ⟨e, rfl, he'⟩ := map_getG hd
    have hm := List.mem_of_getElem? he'
    refine ⟨_, [i], p e, μ1, gv_name, fun j hj => by rw [List.mem_singleton.mp hj]; exact hv, ht e hm, fun q => ⟨_, he e hm q, ?_⟩, fun q => ⟨rfl, ?_⟩⟩
    · rw [take_succ he', List.filter_append, List.filter_cons_of_pos q, List.map_append, List.map_append]; rfl
    · rw [take_succ he', List.filter_append, List.filter_cons_of_neg (by rw [q]; exact Bool.false_ne_true), List.filter_nil, List.append_nil]
/-- [f a b for a in as for b in bs a if p a b] -/
theorem en_pairsG {wi wi1 : TI} {tt1 : TT} {vs vs1 : List Nat} {i i1 : Nat} {as : List α} (bs : α → List β) (p : α → β → Bool) (f : α → β → D) (hi : IW K wi ρ μ ((as.map tD).map .d) μ1) (hv : i ∈ vs) (hv1 : i1 ∈ vs1) (hn : as.length ≤ 100000)
    (hl : (as.flatMap fun a => ((bs a).filter (p a)).map (f a)).length ≤ 100000)
    (hb : ∀ a ∈ as, IW K wi1 ((wipeA ρ vs).set i (some (.d (tD a)))) μ1 (((bs a).map tE).map .d) μ1)
    (ht : ∀ a ∈ as, ∀ b ∈ bs a, ET K tt1 ((wipeA ((wipeA ρ vs).set i (some (.d (tD a)))) vs1).set i1 (some (.d (tE b)))) μ1 (p a b) μ1)
    (he : ∀ a ∈ as, ∀ b ∈ bs a, p a b = true → EV K te ((wipeA ((wipeA ρ vs).set i (some (.d (tD a)))) vs1).set i1 (some (.d (tE b)))) μ1 (.d (f a b)) μ1) :
    EN K (tLc2 wi (gName i) tYes wi1 (gName i1) tt1 te vs vs1) ρ μ ((as.flatMap fun a => ((bs a).filter (p a)).map (f a)).map .d) μ1 := by
  have h := en_lc2 (te := te) (g := gName i) (tt := tYes) (vs := vs) (vs1 := vs1) (tt1 := tt1) (g1 := gName i1) (wi1 := wi1) hi (fun n => ((as.take n).flatMap fun a => ((bs a).filter (p a)).map (f a)).map .d) rfl (by rw [List.length_map, List.length_map]; exact hn) (fun n d hd => ?_)
  · rw [List.length_map, List.length_map, List.take_length] at h; exact h
  · obtain ⟨a, rfl, ha'⟩ := map_getG hd
    have ha := List.mem_of_getElem? ha'
    have split : as = as.take n ++ a :: as.drop (n + 1) := by
      obtain ⟨hlt, e⟩ := List.getElem?_eq_some_iff.mp ha'
      rw [← e, List.getElem_cons_drop, List.take_append_drop]
    refine ⟨_, [i], true, gv_name, fun j hj => by rw [List.mem_singleton.mp hj]; exact hv, et_yes, (fun z => nomatch z), fun _ =>
      ⟨_, fun j => (((as.take n).flatMap fun a => ((bs a).filter (p a)).map (f a)) ++ (((bs a).take j).filter (p a)).map (f a)).map .d, hb a ha, ?_, ?_, fun j => ?_, fun j e hj => ?_⟩⟩
    · simp
    · simp only [List.length_map, List.take_length]
      rw [take_succ ha', List.flatMap_append, List.flatMap_singleton]
    · rw [List.length_map, List.length_append]
      have e1 : (as.flatMap fun a => ((bs a).filter (p a)).map (f a)).length = ((as.take n).flatMap fun a => ((bs a).filter (p a)).map (f a)).length + (((bs a).filter (p a)).map (f a)).length + ((as.drop (n + 1)).flatMap fun a => ((bs a).filter (p a)).map (f a)).length := by
        conv => lhs; rw [split]
        rw [List.flatMap_append, List.flatMap_cons, List.length_append, List.length_append]; omega
      have e2 : ((((bs a).take j).filter (p a)).map (f a)).length ≤ (((bs a).filter (p a)).map (f a)).length := by
        rw [List.length_map, List.length_map]
        exact ((List.take_sublist j (bs a)).filter (p a)).length_le
      omega
    · obtain ⟨b, rfl, hb'⟩ := map_getG hj
      have hbm := List.mem_of_getElem? hb'
      refine ⟨_, [i1], p a b, gv_name, fun j hj => by rw [List.mem_singleton.mp hj]; exact hv1, ht a ha b hbm, fun q => ⟨_, he a ha b hbm q, ?_⟩, fun q => ?_⟩
      · dsimp only; rw [take_succ hb', List.filter_append, List.filter_cons_of_pos q, List.map_append, List.map_append, List.map_append]; simp
      · dsimp only; rw [take_succ hb', List.filter_append, List.filter_cons_of_neg (by rw [q]; exact Bool.false_ne_true), List.filter_nil, List.append_nil]
theorem b_allG {as : List α} {p : α → Bool} : RC K (rAll K) [.d (.lst (as.map fun a => .bl (p a)))] μ (.d (.bl (as.all p))) μ := by
  have h := b_all (K := K) (μ := μ) (bs := as.map p)
  rw [List.map_map, List.all_map] at h; exact h
theorem b_anyG {as : List α} {p : α → Bool} : RC K (rAny K) [.d (.lst (as.map fun a => .bl (p a)))] μ (.d (.bl (as.any p))) μ := by
  have h := b_any (K := K) (μ := μ) (bs := as.map p)
  rw [List.map_map, List.any_map] at h; exact h
end
theorem ev_t1 {d0 : D} (ha : EA K ta ρ μ [.d d0] μ1) : EV K (tTup ta) ρ μ (.d (.tup [d0])) μ1 := ev_tup (ds := [d0]) ha (by simp)
theorem ev_l1 {d0 : D} (ha : EA K ta ρ μ [.d d0] μ1) : EV K (tLst ta) ρ μ (.d (.lst [d0])) μ1 := EN.ev (ds := [d0]) (en_lst ha (by simp))
theorem ev_t2 {d0 d1 : D} (ha : EA K ta ρ μ [.d d0, .d d1] μ1) : EV K (tTup ta) ρ μ (.d (.tup [d0, d1])) μ1 := ev_tup (ds := [d0, d1]) ha (by simp)
theorem ev_l2 {d0 d1 : D} (ha : EA K ta ρ μ [.d d0, .d d1] μ1) : EV K (tLst ta) ρ μ (.d (.lst [d0, d1])) μ1 := EN.ev (ds := [d0, d1]) (en_lst ha (by simp))
theorem ev_t3 {d0 d1 d2 : D} (ha : EA K ta ρ μ [.d d0, .d d1, .d d2] μ1) : EV K (tTup ta) ρ μ (.d (.tup [d0, d1, d2])) μ1 := ev_tup (ds := [d0, d1, d2]) ha (by simp)
theorem ev_l3 {d0 d1 d2 : D} (ha : EA K ta ρ μ [.d d0, .d d1, .d d2] μ1) : EV K (tLst ta) ρ μ (.d (.lst [d0, d1, d2])) μ1 := EN.ev (ds := [d0, d1, d2]) (en_lst ha (by simp))
theorem ev_t4 {d0 d1 d2 d3 : D} (ha : EA K ta ρ μ [.d d0, .d d1, .d d2, .d d3] μ1) : EV K (tTup ta) ρ μ (.d (.tup [d0, d1, d2, d3])) μ1 := ev_tup (ds := [d0, d1, d2, d3]) ha (by simp)
theorem ev_l4 {d0 d1 d2 d3 : D} (ha : EA K ta ρ μ [.d d0, .d d1, .d d2, .d d3] μ1) : EV K (tLst ta) ρ μ (.d (.lst [d0, d1, d2, d3])) μ1 := EN.ev (ds := [d0, d1, d2, d3]) (en_lst ha (by simp))
theorem ev_t5 {d0 d1 d2 d3 d4 : D} (ha : EA K ta ρ μ [.d d0, .d d1, .d d2, .d d3, .d d4] μ1) : EV K (tTup ta) ρ μ (.d (.tup [d0, d1, d2, d3, d4])) μ1 := ev_tup (ds := [d0, d1, d2, d3, d4]) ha (by simp)
theorem ev_l5 {d0 d1 d2 d3 d4 : D} (ha : EA K ta ρ μ [.d d0, .d d1, .d d2, .d d3, .d d4] μ1) : EV K (tLst ta) ρ μ (.d (.lst [d0, d1, d2, d3, d4])) μ1 := EN.ev (ds := [d0, d1, d2, d3, d4]) (en_lst ha (by simp))
theorem ev_l0 : EV K (tLst tNil) ρ μ (.d (.lst [])) μ := EN.ev (ds := []) (en_lst ea_nil (by simp))
/-! slices, no sign -/
theorem cut_to {α : Type} {xs : List α} (h : n ≤ xs.length) : cutD xs none (some (n : Nat)) = xs.take n := by
  have e : HT.sIx xs.length xs.length (some (n : Nat)) = n := by rw [HT.sIx_nat]; omega
  have e0 : HT.sIx xs.length 0 (none : Option Int) = 0 := rfl
  unfold cutD
  rw [e, e0]; rfl
theorem ev_toN {α : Type} {tD : α → D} {ti : TE} {as : List α} (h : EV K te ρ μ (.d (.lst (as.map tD))) μ) (hi : EV K ti ρ μ (.d (nD n)) μ) (hn : n ≤ as.length) : EV K (tSl (rSlAny K) te tNoPart (tPart ti)) ρ μ (.d (.lst ((as.take n).map tD))) μ :=
  EN.ev ((en_slL h eo_none (eo_some hi)).to (by rw [cut_to (by rw [List.length_map]; exact hn)]; simp only [List.map_take]))
theorem flat_le {α β : Type} {f : α → List β} {m : Nat} : ∀ {as : List α}, (∀ a ∈ as, (f a).length ≤ m) → (as.flatMap f).length ≤ m * as.length
  | [], _ => Nat.le_refl _
  | a :: as, h => by
    rw [List.flatMap_cons, List.length_append, List.length_cons, Nat.mul_succ]
    have := h a List.mem_cons_self
    have := flat_le fun x hx => h x (List.mem_cons_of_mem _ hx)
    omega
end
end DL

set_option Elab.async false
set_option linter.all false
set_option maxRecDepth 100000
set_option maxHeartbeats 4000000
/-! DL14: loops by slots told, a contract never met, draws' bounds. -/
namespace DL
open PySem PySem.Spec PyProof.Rows L2
/-- b forgets some of a -/
def Fgt : Slots → Slots → Prop
  | [], [] => True
  | a :: as, b :: bs => (b = none ∨ a = b) ∧ Fgt as bs
  | _, _ => False
theorem fgt_nil : Fgt [] [] := trivial
theorem fgt_same {a : Option AV} {as bs : Slots} (h : Fgt as bs) : Fgt (a :: as) (a :: bs) := ⟨.inr rfl, h⟩
theorem fgt_none {a : Option AV} {as bs : Slots} (h : Fgt as bs) : Fgt (a :: as) (none :: bs) := ⟨.inl rfl, h⟩
theorem fgt_refl : ∀ as : Slots, Fgt as as
  | [] => trivial
  | a :: as => ⟨.inr rfl, fgt_refl as⟩
theorem Fgt.len : ∀ {as bs : Slots}, Fgt as bs → bs.length = as.length
  | [], [], _ => rfl
  | a :: as, b :: bs, h => congrArg (· + 1) (Fgt.len h.2)
  | [], _ :: _, h => h.elim
  | _ :: _, [], h => h.elim
theorem Fgt.at_ : ∀ {as bs : Slots}, Fgt as bs → ∀ (i : Nat) (x : AV), bs[i]? = some (some x) → as[i]? = some (some x)
  | [], [], _, i, x, q => by simp at q
  | a :: as, b :: bs, h, 0, x, q => by
    simp only [List.getElem?_cons_zero] at q ⊢
    rcases h.1 with e | e
    · rw [e] at q; cases q
    · rw [e]; exact q
  | a :: as, b :: bs, h, i + 1, x, q => by
    simp only [List.getElem?_cons_succ] at q ⊢
    exact Fgt.at_ h.2 i x q
  | [], _ :: _, h, _, _, _ => h.elim
  | _ :: _, [], h, _, _, _ => h.elim
theorem fgt_trans : ∀ {as bs cs : Slots}, Fgt as bs → Fgt bs cs → Fgt as cs
  | [], [], [], _, _ => trivial
  | a :: as, b :: bs, c :: cs, h, h2 => ⟨by rcases h2.1 with e | e; exact .inl e; rcases h.1 with e2 | e2; exact .inl (e ▸ e2); exact .inr (e2.trans e), fgt_trans h.2 h2.2⟩
  | [], [], _ :: _, _, h => h.elim
  | _ :: _, _ :: _, [], _, h => h.elim
  | [], _ :: _, _, h, _ => h.elim
  | _ :: _, [], _, h, _ => h.elim
section
variable {K : PySem.W.Frag} {W : WX} {P : Po} {ρ ρ' : Slots} {μ μ1 μ2 : List CC} {t u : TS} {ta : TA} {te : TE} {d : D} {x : AV} {xs : List D}
theorem SV.fgt (f : Fgt ρ ρ') (h : SV K W t ρ' μ P) : SV K W t ρ μ P := h.weak f.len f.at_
theorem GV.fgt {g : TG} {d : AV} {ρ2 : Slots} {js : List Nat} (f : Fgt ρ ρ') (h : GV K g d ρ' ρ2 js) : GV K g d ρ ρ2 js := fun α Z μ σ H v ok r sl Q k => h α Z μ σ H v ok r (sl.weak f.len f.at_) Q k
theorem q_forF {wi : TI} {g : TG} {items : List AV} (hi : IW K wi ρ μ items μ1) (σ : Nat → Slots) (Inv : Nat → List CC → Prop) (h0 : Fgt ρ (σ 0)) (i0 : Inv 0 μ1)
    (hs : ∀ (i : Nat) (d : AV) (μ2 : List CC), items[i]? = some d → Inv i μ2 → ∃ ρ2 js, GV K g d (σ i) ρ2 js ∧
      SV K W t ρ2 μ2 { P with nx := fun ρ' μ' => Fgt ρ' (σ (i + 1)) ∧ Inv (i + 1) μ', ct := fun ρ' μ' => Fgt ρ' (σ (i + 1)) ∧ Inv (i + 1) μ', bk := fun ρ' μ' => SV K W u ρ' μ' P })
    (hd : ∀ μ2, Inv items.length μ2 → SV K W u (σ items.length) μ2 P) : SV K W (tSeq (tFor wi g t) u) ρ μ P :=
  q_for hi (fun i ρ μ => Fgt ρ (σ i) ∧ Inv i μ) ⟨h0, i0⟩ (fun i d ρ1 μ2 h q => by
    obtain ⟨ρ2, js, hg, hb⟩ := hs i d μ2 h q.2
    exact ⟨ρ2, js, hg.fgt q.1, hb⟩) fun ρ1 μ2 q => (hd μ2 q.2).fgt q.1
/-- a loop at a block's end -/
theorem sv_forF {wi : TI} {g : TG} {items : List AV} (hi : IW K wi ρ μ items μ1) (σ : Nat → Slots) (Inv : Nat → List CC → Prop) (h0 : Fgt ρ (σ 0)) (i0 : Inv 0 μ1)
    (hs : ∀ (i : Nat) (d : AV) (μ2 : List CC), items[i]? = some d → Inv i μ2 → ∃ ρ2 js, GV K g d (σ i) ρ2 js ∧
      SV K W t ρ2 μ2 { P with nx := fun ρ' μ' => Fgt ρ' (σ (i + 1)) ∧ Inv (i + 1) μ', ct := fun ρ' μ' => Fgt ρ' (σ (i + 1)) ∧ Inv (i + 1) μ', bk := P.nx })
    (hd : ∀ ρ1 μ2, Fgt ρ1 (σ items.length) → Inv items.length μ2 → P.nx ρ1 μ2) : SV K W (tFor wi g t) ρ μ P :=
  sv_for hi (fun i ρ μ => Fgt ρ (σ i) ∧ Inv i μ) ⟨h0, i0⟩ (fun i d ρ1 μ2 h q => by
    obtain ⟨ρ2, js, hg, hb⟩ := hs i d μ2 h q.2
    exact ⟨ρ2, js, hg.fgt q.1, hb⟩) fun ρ1 μ2 q => hd ρ1 μ2 q.1 q.2
end
section
variable {K : PySem.W.Frag} {W : WX} {P : Po} {ρ ρ' : Slots} {μ μ1 μ2 : List CC} {ta : TA} {te : TE}
theorem EV.ends {x : AV} (h : EV K te ρ μ x μ1) (e : μ1 = μ2) : EV K te ρ μ x μ2 := e ▸ h
theorem b_lenG {α : Type} {tD : α → D} {as : List α} : RC K (rLenA K) [.d (.lst (as.map tD))] μ (.d (nD as.length)) μ := b_lenL.to (by rw [List.length_map])
theorem b_lenCG {α : Type} {tD : α → AV} {as : List α} {k : Nat} (h : μ[k]? = some (.lst (as.map tD))) : RC K (rLenA K) [.cell k] μ (.d (nD as.length)) μ := (b_lenC h).to (by rw [List.length_map])
theorem getD_at {α : Type} {xs : List α} {n : Nat} {z : α} (h : n < xs.length) : xs[n]? = some (xs.getD n z) := by rw [List.getD_eq_getElem?_getD, List.getElem?_eq_getElem h]; rfl
theorem getD_mem {α : Type} {xs : List α} {n : Nat} {z : α} (h : n < xs.length) : xs.getD n z ∈ xs := List.mem_of_getElem? (getD_at h)
/-- an element of typed data -/
theorem b_ixG {α : Type} {tD : α → D} {as : List α} {n : Nat} {z : α} (h : n < as.length) : RV K (rIx K) (.d (.lst (as.map tD))) (.d (nD n)) μ (.d (tD (as.getD n z))) μ := b_ixLN (by rw [List.getElem?_map, getD_at h]; rfl)
theorem b_ixCG {α : Type} {tD : α → D} {as : List α} {n k : Nat} {z : α} (hc : μ[k]? = some (.lst ((as.map tD).map .d))) (h : n < as.length) : RV K (rIx K) (.cell k) (.d (nD n)) μ (.d (tD (as.getD n z))) μ := b_ixCN hc (by rw [List.getElem?_map, List.getElem?_map, getD_at h]; rfl)
theorem map_set2 {α β γ : Type} (f : α → β) (g : β → γ) (as : List α) (n : Nat) (a : α) : ((as.map f).map g).set n (g (f a)) = ((as.set n a).map f).map g := by rw [List.map_set, List.map_set]
theorem get_last {c : CC} : (μ ++ [c])[μ.length]? = some c := by rw [List.getElem?_append_right (Nat.le_refl _), Nat.sub_self]; rfl
theorem set_last {c c' : CC} : (μ ++ [c]).set μ.length c' = μ ++ [c'] := by rw [List.set_append_right _ _ (Nat.le_refl _), Nat.sub_self]; rfl
/-- a call with the last cell -/
theorem ev_call1L {R : Ctr} {μ0 : List CC} {cargs : List AV} {c c' : CC} {r : D} (ha : EA K ta ρ μ0 (cargs.map (DL.up1 μ.length)) (μ ++ [c])) (hR : R cargs [c] (.ret (.d r)) [c']) (hcell : cargs.all cell0 = true := by rfl) (hd : c.isD = true := by rfl) (hd' : c'.isD = true := by rfl) :
    EV K (tCl (SpR K R) [] W ta) ρ μ0 (.d r) (μ ++ [c']) := (ev_call1 ha get_last hR hcell hd hd').ends set_last
theorem en_call1L {R : Ctr} {μ0 : List CC} {cargs : List AV} {c c' : CC} {xs : List D} (ha : EA K ta ρ μ0 (cargs.map (DL.up1 μ.length)) (μ ++ [c])) (hR : R cargs [c] (.new xs) [c']) (hcell : cargs.all cell0 = true := by rfl) (hd : c.isD = true := by rfl) (hd' : c'.isD = true := by rfl) :
    EN K (tCl (SpR K R) [] W ta) ρ μ0 (xs.map .d) (μ ++ [c']) := by
  have h := en_call1 (W := W) ha get_last hR hcell hd hd'
  rw [set_last] at h; exact h
theorem IW.of_lst {tl : TE} {xs : List D} (h : EV K tl ρ μ (.d (.lst xs)) μ1) : IW K (iList K tl) ρ μ (xs.map .d) μ1 := iw_list h
/-- a comprehension over typed data, cells change -/
theorem en_lcG {α : Type} {tD : α → D} {wi : TI} {g : TG} {tt : TT} {vs : List Nat} {as : List α} (hi : IW K wi ρ μ ((as.map tD).map .d) μ1) (acc : Nat → List AV) (M : Nat → List CC) (h0 : acc 0 = []) (m0 : M 0 = μ1)
    (hs : ∀ (i : Nat) (a : α), as[i]? = some a → ∃ (ρ2 : Slots) (js : List Nat) (b : Bool) (μ2 : List CC), GV K g (.d (tD a)) (wipeA ρ vs) ρ2 js ∧ (∀ j ∈ js, j ∈ vs) ∧ ET K tt ρ2 (M i) b μ2 ∧
      (b = true → ∃ r, EV K te ρ2 μ2 r (M (i + 1)) ∧ acc (i + 1) = acc i ++ [r]) ∧ (b = false → M (i + 1) = μ2 ∧ acc (i + 1) = acc i)) (hn : as.length ≤ 100000) :
    EN K (tLc wi g tt te vs) ρ μ (acc as.length) (M as.length) := by
  have h := en_lc (te := te) (g := g) (tt := tt) (vs := vs) hi acc M h0 m0 (fun i d hd => by
    obtain ⟨a, rfl, ha⟩ := map_getG hd
    exact hs i a ha) (by rw [List.length_map, List.length_map]; exact hn)
  rw [List.length_map, List.length_map] at h; exact h
end
theorem eraseIdx_mapG {α β : Type} (f : α → β) : ∀ (l : List α) (n : Nat), (l.map f).eraseIdx n = (l.eraseIdx n).map f
  | [], _ => rfl
  | a :: l, 0 => rfl
  | a :: l, n + 1 => congrArg (f a :: ·) (eraseIdx_mapG f l n)
theorem eraseIdx_permG {α : Type} : ∀ {l : List α} {n : Nat} (h : n < l.length), (l[n] :: l.eraseIdx n).Perm l
  | a :: l, 0, _ => .refl _
  | a :: l, n + 1, h => (List.Perm.swap _ _ _).trans ((eraseIdx_permG (Nat.lt_of_succ_lt_succ h)).cons a)
/-- a contract that is never met -/
theorem cal_never {gd : Bool} {P : Program} {w : World} {K : PySem.W.Frag} {mg : Str → Option Value} {base : Heap} {k : Nat} {x : Str} {R : Ctr} {f : Addr} {fd : FuncData} {ps : List Str} (hR : ∀ args μ o μ', ¬ R args μ o μ') (hm : mg x = some (.ref f)) (kp : PySem.W.keepIn K (.ref f) = true) (b : Binds K fd ps []) :
    Cal gd P w K mg base k x (SpR K R) := ⟨f, fd, ps, ⟨fun vs H Q E h => (let ⟨_, _, _, _, _, _, _, _, q, _⟩ := h; (hR _ _ _ _ q).elim), fun A outer s H args us vs Q E _ _ _ _ _ h => (let ⟨_, _, _, _, _, _, _, _, q, _⟩ := h; (hR _ _ _ _ q).elim)⟩, hm, kp, b⟩
/-! slices from behind -/
theorem sIx_neg1 (n d : Nat) : HT.sIx n d (some (-1)) = n - 1 := by
  show (if (-1 : Int) < 0 then ((-1 : Int) + (n : Int)).toNat else min (-1 : Int).toNat n) = n - 1
  rw [if_pos (by decide)]; omega
theorem cut_last {α : Type} (xs : List α) : cutD xs (some (-1)) none = xs.drop (xs.length - 1) := by
  unfold cutD
  rw [sIx_neg1, HT.sIx_none]
  exact List.take_of_length_le (by rw [List.length_drop]; exact Nat.le_refl _)
theorem cut_but {α : Type} (xs : List α) : cutD xs none (some (-1)) = xs.dropLast := by
  unfold cutD
  rw [sIx_neg1, HT.sIx_none, List.dropLast_eq_take]; rfl
end DL

set_option Elab.async false
set_option linter.all false
set_option maxRecDepth 100000
set_option maxHeartbeats 4000000
/-! DL15: own exceptions with one field, made and raised. -/
namespace PySem
namespace LowX_value
open PySem.W PySem.Calls PyProof.Rows PySem.HandSPX
/-! ### the text of __init__ -/
def iA (p1 p2 : Pos) : Arguments := { posonlyargs := [], args := [{ arg := "self", annotation := none, pos := p1 }, { arg := "value", annotation := none, pos := p2 }], vararg := none, kwonlyargs := [], kw_defaults := [], kwarg := none, defaults := [] }
def iB (q1 q2 q3 q4 : Pos) : List Stmt := [.Assign [.Attribute (.Name "self" q1) "value" q2] (.Name "value" q3) q4]
def iS : Scope := { kind := .function, names := [(PySem.Str.ofString "self", .local), (PySem.Str.ofString "value", .local)], isGenerator := false, isCoroutine := false, more := [] }
/-- what the written part says of Low, at C, and of its __init__, at fI -/
structure LowTxt (K : Frag) (mg : Str → Option Value) (cn : Str) (C fI : Addr) : Prop where
  gC : mg cn = some (.ref C)
  cls : ∃ nm q N bs bm sn sub ab col dd k0 k1 k2 k3 k5, K.lookup C = some (excClassObj nm q C N bs bm true sn sub ab col dd k0 k1 k2 k3 k5 "ValueError.__new__") ∧ refsVE bm = true
  sa : findIn K (.ref C) "__setattr__" = some (some (.builtin "object.__setattr__"))
  ga : findIn K (.ref C) "__getattribute__" = some (some (.builtin "BaseException.__getattribute__"))
  gg : findIn K (.ref C) "__getattr__" = some none
  noN : findIn K (.ref C) "value" = some none
  iC : findIn K (.ref C) "__init__" = some (some (.ref fI))
  tC : typeIn K (.ref fI) = some (.type "function")
  kC : keepIn K (.ref C) = true
  exC : subIn K (.ref C) (.type "BaseException") = some true
  tyC : typeIn K (.ref C) = some (.type "type")
  hdC : hasDictIn K C = true
  te : exmOne K (.ref C) (.ref C) = some true
  fn : ∃ (qn : Str) (oc : Value) (od : Option Addr) (doc pm : Value) (an : Option Addr) (cdv ct : Value) (osl : Array (Option Value)) (p1 p2 q1 q2 q3 q4 : Pos),
    K.lookup fI = some ⟨oc, od, .func (fnOf "__init__" qn (iA p1 p2) (iB q1 q2 q3 q4) iS .none .none doc pm an cdv ct), osl⟩ ∧ codeIn K cdv qn = true
theorem one_size (v : Value) : [v].length ≤ sizeLine := by
  rw [sizeLine_eq]
  exact (by decide : 1 ≤ 16777216)
theorem kept_but {K : Frag} {h h' : Heap} {x : Addr} (X : K.In h) (hx : K.lookup x = none) (k : ∀ b o, b ≠ x → h.get? b = some o → h'.get? b = some o) : K.In h' := fun a o e =>
  k a o (fun z => by rw [z, hx] at e; cases e) (X a o e)
theorem ldC {M : Model} {s : Shared} {name : Str} {scope : Scope} {L a : Addr} {cd : Value} {m : Str → Option Value} {x : Str} {pos : Pos} {v : Value} {Q : Value → Shared → Prop} {A : Around} {E : Value → Shared → Prop} (hn : s.heap.Ns L m) (hv : m x = some v) (h : Q v s)
    (hk : scope.kind = .function := by rfl) (hl : (envOfC name scope L a cd).kindOf x = some .local := by rfl) (hd : (x == ("__debug__" : Str)) = false := by decide) :
    wpAny M A (eval (.Name x pos) (envOfC name scope L a cd)) Q E s := wpAny_Name (wpAny_loadName_local hk hl hn hv h) hd
/-- what __init__ leaves of a fresh exception at x -/
structure InitEnd (h h' : Heap) (x C dx t1 : Addr) (v : Value) : Prop where
  keep : ∀ b o, b ≠ x → h.get? b = some o → h'.get? b = some o
  obj : h'.get? x = some { cls := .ref C, dict := some dx, data := .fields #[.ref t1, .none, .none, .none, .bool false, .none] }
  dbig : h.objs.size ≤ dx
  dne : dx ≠ x
  ns : h'.Ns1 dx (fun y => if y = "value" then some v else none)
/-- a made Low -/
structure OwnMade (h h' : Heap) (e C d : Addr) (v : Value) : Prop where
  keep : ∀ b o, h.get? b = some o → h'.get? b = some o
  new : h.objs.size ≤ e
  obj : ∃ oe vs, h'.get? e = some oe ∧ oe.cls = .ref C ∧ oe.dict = some d ∧ oe.data = .fields vs ∧ vs[1]? = some .none
  dbig : h.objs.size ≤ d
  dne : d ≠ e
  ns : h'.Ns1 d (fun y => if y = "value" then some v else none)
section
variable {prog : Program} {w : World} {A : Around} {E : Value → Shared → Prop} {R : Result → Shared → Prop} {s : Shared} {K : Frag} {mg : Str → Option Value} {C fI : Addr}
theorem low_init {cn : Str} (T : LowTxt K mg cn C fI) {x t0 : Addr} {v : Value} (X : K.In s.heap) (hlim : s.heap.NoLimit) (hx : s.heap.get? x = some (excO C t0)) (hnx : K.lookup x = none) (hroom : A.depth < recursionLimit)
    (hq : ∀ h' tk dx, InitEnd s.heap h' x C dx t0 v → R (.ok (.ret .none)) { s with heap := h', toks := tk }) :
    codeAny (model prog w) A (.call (.ref fI) ⟨[.ref x, v], []⟩) R s := by
  obtain ⟨qn, oc, od, doc, pm, an, cdv, ct, osl, p1, p2, q1, q2, q3, q4, ho, hcd⟩ := T.fn
  obtain ⟨nm, q, N, bs, bm, sn, sub, ab, col, dd, k0, k1, k2, k3, k5, hC, hbm⟩ := T.cls
  have hcl : clsIn K C = some { name := nm, bases := bs, mro := .ref C :: bm, ns := N, qualname := q, hasDict := true, slotNames := sn, subclasses := sub, abstract := ab, collection := col, hasDel := false } := by unfold clsIn; rw [hC] <;> rfl
  refine Att.call_fn (binds := [("self", .ref x), ("value", v)]) X hlim ho hcd hroom (BindsTo.of_eq (by first | rfl | with_unfolding_all rfl)) (by first | rfl | decide | with_unfolding_all rfl) (fun s₁ IC => ?_) rfl rfl rfl
  obtain ⟨h₁, tk₁, rfl⟩ := IC.toInCall.same
  have k : ∀ b o, s.heap.get? b = some o → h₁.get? b = some o := IC.toInCall.keep
  have hn := IC.toInCall.ns
  have hxL : s.heap.objs.size ≠ x := Nat.ne_of_gt (Heap.lt_size hx)
  have X₁ : K.In h₁ := X.keeps k
  have hx₁ := k _ _ hx
  -- self.by = by
  show wpAny _ _ (execs _ _) _ _ _
  refine wpAny_execs_cons (plainObj_wpAny_Assign_Attribute ?_)
  refine ldC (v := v) hn (by first | rfl | with_unfolding_all rfl | kernel_rfl) (ldC (v := .ref x) hn (by first | rfl | with_unfolding_all rfl | kernel_rfl) ?_)
  refine set_plain X₁ (ox := excO C t0) (od := none) ⟨hx₁, rfl, rfl, trivial⟩ T.sa ?_
  refine exc_osa X₁ hx₁ hcl (show refsVE (.ref C :: bm) = true from hbm) rfl T.noN (fun h₃ tk₃ dx k₃ dn dne hx₃ hn₃ => ?_)
  show wpAny _ _ (execs _ _) _ _ _
  have z : s.heap.objs.size < h₁.objs.size := hn.lt
  exact wpAny_execs_nil (hq h₃ tk₃ dx ⟨fun b o hb e => k₃ b o hb (k b o e), hx₃, Nat.le_of_lt (Nat.lt_of_lt_of_le z dn), dne, hn₃⟩)
theorem low_made {cn : Str} (T : LowTxt K mg cn C fI) {v : Value} (X : K.In s.heap) (hlim : s.heap.NoLimit) (hroom : A.depth + 1 < recursionLimit)
    (hq : ∀ h' tk e d, OwnMade s.heap h' e C d v → R (.ok (.ret (.ref e))) { s with heap := h', toks := tk }) :
    codeAny (model prog w) A (.call (.ref C) ⟨[v], []⟩) R s := by
  obtain ⟨nm, q, N, bs, bm, sn, sub, ab, col, dd, k0, k1, k2, k3, k5, hC, hbm⟩ := T.cls
  obtain ⟨hp, g, dr, tk, os⟩ := s
  have k : ∀ b o, hp.get? b = some o → ((hp.push (kdv_tup [v])).push (excO C hp.objs.size)).get? b = some o := fun b o e => Heap.get?_push_of_some _ (Heap.get?_push_of_some _ e)
  have hget : ((hp.push (kdv_tup [v])).push (excO C hp.objs.size)).get? (hp.objs.size + 1) = some (excO C hp.objs.size) := by heap_get
  have hnx : K.lookup (hp.objs.size + 1) = none := by
    cases e : K.lookup (hp.objs.size + 1) with
    | none => rfl
    | some o =>
      have z : hp.get? (hp.objs.size + 1) = some o := X _ _ e
      exact absurd (Nat.lt_of_succ_lt (Heap.lt_size z)) (Nat.lt_irrefl _)
  refine call_own F.excBase_ValueError (fun X => refsVE_contains X bm hbm) (X _ _ hC) (looks_findIn X T.iC) (fun self => bind_fn X self T.tC) (one_size v) ?_
  refine low_init (s := ⟨(hp.push (kdv_tup [v])).push (excO C hp.objs.size), g, dr, tk, os⟩) T (X.keeps k) (hlim.keeps k) hget hnx ?_ fun h' tk' dx ⟨k', hx, dn, dne, hns⟩ => ?_
  · show A.depth + 1 < recursionLimit
    exact hroom
  · have old : ∀ b o, hp.get? b = some o → h'.get? b = some o := fun b o e => k' b o (Nat.ne_of_lt (Nat.lt_succ_of_lt (Heap.lt_size e))) (k b o e)
    have z : hp.objs.size + 1 + 1 ≤ dx := by
      first
        | (simpa only [Heap.size_push] using dn)
        | exact dn
        | (have q := dn; rw [Heap.size_push, Heap.size_push] at q; exact q)
    exact ⟨rfl, hq h' tk' (hp.objs.size + 1) dx ⟨old, Nat.le_succ _, ⟨_, _, hx, rfl, rfl, rfl, rfl⟩, Nat.le_trans (Nat.le_trans (Nat.le_succ _) (Nat.le_succ _)) z, dne, hns⟩⟩
end
end LowX_value
end PySem
namespace L2
open PySem PySem.Spec PyProof.Rows
theorem relO_low_value {v : V} {v' : Value} (r : RelV v v') (f : Str) : RelO (List.lookup f [(("value" : Str), v)]) (if f = "value" then some v' else none) := by
  by_cases hw : f = "value"
  · subst hw
    rw [if_pos rfl]
    have q : List.lookup ("value" : Str) [(("value" : Str), v)] = some v := by simp [List.lookup]
    rw [q]
    exact r
  · rw [if_neg hw]
    have qw : (f == ("value" : Str)) = false := by simpa using hw
    have q2 : List.lookup f [(("value" : Str), v)] = none := by simp [List.lookup, qw]
    rw [q2]
    trivial
section
variable {X : Cx} {C fI : Addr}
/-- Low(e) -/
def tMkLow_value (C : Addr) (ta : TA) : St → Hp → XK → Prop := fun σ H Q => ta σ H fun vs H1 => ∃ v, vs = [v] ∧ ∀ d, H1 d = none → Q (.ref C) (some d) (upd H1 d (.xd [(("value" : Str), v)]))
theorem pmk_low_value {a : Expr} {ta : TA} {p pos : Pos} {k : Nat} {cn : Str} (T : PySem.LowX_value.LowTxt X.K X.mg cn C fI) (hr : Room k X.A) (ha : PA X [a] ta) (hg : Gl X cn := by rfl) (hdb : (cn == ("__debug__" : Str)) = false := by decide)
    (he : starEach (a :: []) X.env = (false, eval a X.env) :: starEach [] X.env := by rfl) (hpl : (backTo pos (starEach [] X.env)).any (·.1) = false := by rfl) :
    PMk X (.Call (.Name cn p) [a] [] pos) (tMkLow_value C ta) := by
  intro pins s σ H Q I h
  refine wpAny_Call_Name_kw (ld_glob I hg T.gC ?_ hdb)
  refine PySem.W.callWith_K (h₀ := X.base) I.ok.mod.kin T.kC (thn (ha.run pos pins s σ H _ I h) fun us s1 hh => ?_) he hpl
  obtain ⟨vs, H1, I1, r1, v, ev, q1⟩ := hh
  subst ev
  refine ⟨I1.kIn, ?_⟩
  cases r1 with
  | cons rv rn =>
    rename_i v' us'
    cases rn
    show wpAny _ _ (call (.ref C) [v']) _ _ _
    have hlim := I1.nolimit
    obtain ⟨hp, g, dr, tk, os⟩ := s1
    refine wpAny_call (PySem.LowX_value.low_made T I1.kIn hlim (by have := hr.dp; omega) fun h' tk' e d M => ?_)
    show MkP X pins σ Q (.ref e) ⟨h', g, dr, tk', os⟩
    obtain ⟨oe, fv, hoe, hc, hd, hdat, h1⟩ := M.obj
    have hns := M.ns
    obtain ⟨G', g1, g2⟩ := restrict h' fun b => decide (b ≠ e)
    have gk : ∀ b, b ≠ e → G'.get? b = h'.get? b := fun b hb => g1 b (decide_eq_true hb)
    have ge : G'.get? e = none := g2 e (by simp)
    have old : ∀ b o, hp.get? b = some o → G'.get? b = some o := fun b o q => (gk b (Nat.ne_of_lt (Nat.lt_of_lt_of_le (Heap.lt_size q) M.new))).trans (M.keep b o q)
    have ob : ObjOk X.prog X.w (upd H1 d (.xd [(("value" : Str), v)])) G' d (.xd [(("value" : Str), v)]) :=
      ⟨_, hns.at (fun o q => (gk d M.dne).trans q), fun f => relO_low_value rv f⟩
    have J : Inv X pins σ (upd H1 d (.xd [(("value" : Str), v)])) ⟨G', g, dr, tk', os⟩ := I1.laid (t' := tk') old M.dbig ob
    refine ⟨e, oe, fv, ⟨G', g, dr, tk', os⟩, _, .ref C, some d, rfl, J, fun b o q => ?_, ge, hoe, ⟨hc, hd⟩, hdat, h1, ?_, rfl, I1.bare, raises_own T.exC T.tyC, q1 d (I1.hok.fresh M.dbig)⟩
    · by_cases hb : b = e
      · have q' : G'.get? b = some o := q
        rw [hb, ge] at q'; cases q'
      · exact (gk b hb).symm.trans q
    · rw [upd_ne (Ne.symm M.dne)]
      exact I1.hok.fresh M.new
/-- raise Low(e) -/
def tRaiseLow_value (C : Addr) (W : WX) (ta : TA) : TS := fun _ σ H => tMkLow_value C ta σ H fun cls d H' => W cls d σ H'
theorem ps_raiseLow_value {a : Expr} {ta : TA} {W : WX} {p pos pos2 : Pos} {k : Nat} (hc : X.calm = true) {cn : Str} (T : PySem.LowX_value.LowTxt X.K X.mg cn C fI) (hr : Room k X.A) (tk : Takes X W) (ha : PA X [a] ta) (hg : Gl X cn := by rfl) (hdb : (cn == ("__debug__" : Str)) = false := by decide)
    (he : starEach (a :: []) X.env = (false, eval a X.env) :: starEach [] X.env := by rfl) (hpl : (backTo pos (starEach [] X.env)).any (·.1) = false := by rfl) :
    PS X (.Raise (some (.Call (.Name cn p) [a] [] pos)) none pos2) (tRaiseLow_value C W ta) := ps_raise hc tk (pmk_low_value T hr ha hg hdb he hpl)
end
end L2
namespace PySem
namespace LowX_index
open PySem.W PySem.Calls PyProof.Rows PySem.HandSPX
/-! ### the text of __init__ -/
def iA (p1 p2 : Pos) : Arguments := { posonlyargs := [], args := [{ arg := "self", annotation := none, pos := p1 }, { arg := "index", annotation := none, pos := p2 }], vararg := none, kwonlyargs := [], kw_defaults := [], kwarg := none, defaults := [] }
def iB (q1 q2 q3 q4 : Pos) : List Stmt := [.Assign [.Attribute (.Name "self" q1) "index" q2] (.Name "index" q3) q4]
def iS : Scope := { kind := .function, names := [(PySem.Str.ofString "self", .local), (PySem.Str.ofString "index", .local)], isGenerator := false, isCoroutine := false, more := [] }
/-- what the written part says of Low, at C, and of its __init__, at fI -/
structure LowTxt (K : Frag) (mg : Str → Option Value) (cn : Str) (C fI : Addr) : Prop where
  gC : mg cn = some (.ref C)
  cls : ∃ nm q N bs bm sn sub ab col dd k0 k1 k2 k3 k5, K.lookup C = some (excClassObj nm q C N bs bm true sn sub ab col dd k0 k1 k2 k3 k5 "ValueError.__new__") ∧ refsVE bm = true
  sa : findIn K (.ref C) "__setattr__" = some (some (.builtin "object.__setattr__"))
  ga : findIn K (.ref C) "__getattribute__" = some (some (.builtin "BaseException.__getattribute__"))
  gg : findIn K (.ref C) "__getattr__" = some none
  noN : findIn K (.ref C) "index" = some none
  iC : findIn K (.ref C) "__init__" = some (some (.ref fI))
  tC : typeIn K (.ref fI) = some (.type "function")
  kC : keepIn K (.ref C) = true
  exC : subIn K (.ref C) (.type "BaseException") = some true
  tyC : typeIn K (.ref C) = some (.type "type")
  hdC : hasDictIn K C = true
  te : exmOne K (.ref C) (.ref C) = some true
  fn : ∃ (qn : Str) (oc : Value) (od : Option Addr) (doc pm : Value) (an : Option Addr) (cdv ct : Value) (osl : Array (Option Value)) (p1 p2 q1 q2 q3 q4 : Pos),
    K.lookup fI = some ⟨oc, od, .func (fnOf "__init__" qn (iA p1 p2) (iB q1 q2 q3 q4) iS .none .none doc pm an cdv ct), osl⟩ ∧ codeIn K cdv qn = true
theorem one_size (v : Value) : [v].length ≤ sizeLine := by
  rw [sizeLine_eq]
  exact (by decide : 1 ≤ 16777216)
theorem kept_but {K : Frag} {h h' : Heap} {x : Addr} (X : K.In h) (hx : K.lookup x = none) (k : ∀ b o, b ≠ x → h.get? b = some o → h'.get? b = some o) : K.In h' := fun a o e =>
  k a o (fun z => by rw [z, hx] at e; cases e) (X a o e)
theorem ldC {M : Model} {s : Shared} {name : Str} {scope : Scope} {L a : Addr} {cd : Value} {m : Str → Option Value} {x : Str} {pos : Pos} {v : Value} {Q : Value → Shared → Prop} {A : Around} {E : Value → Shared → Prop} (hn : s.heap.Ns L m) (hv : m x = some v) (h : Q v s)
    (hk : scope.kind = .function := by rfl) (hl : (envOfC name scope L a cd).kindOf x = some .local := by rfl) (hd : (x == ("__debug__" : Str)) = false := by decide) :
    wpAny M A (eval (.Name x pos) (envOfC name scope L a cd)) Q E s := wpAny_Name (wpAny_loadName_local hk hl hn hv h) hd
/-- what __init__ leaves of a fresh exception at x -/
structure InitEnd (h h' : Heap) (x C dx t1 : Addr) (v : Value) : Prop where
  keep : ∀ b o, b ≠ x → h.get? b = some o → h'.get? b = some o
  obj : h'.get? x = some { cls := .ref C, dict := some dx, data := .fields #[.ref t1, .none, .none, .none, .bool false, .none] }
  dbig : h.objs.size ≤ dx
  dne : dx ≠ x
  ns : h'.Ns1 dx (fun y => if y = "index" then some v else none)
/-- a made Low -/
structure OwnMade (h h' : Heap) (e C d : Addr) (v : Value) : Prop where
  keep : ∀ b o, h.get? b = some o → h'.get? b = some o
  new : h.objs.size ≤ e
  obj : ∃ oe vs, h'.get? e = some oe ∧ oe.cls = .ref C ∧ oe.dict = some d ∧ oe.data = .fields vs ∧ vs[1]? = some .none
  dbig : h.objs.size ≤ d
  dne : d ≠ e
  ns : h'.Ns1 d (fun y => if y = "index" then some v else none)
section
variable {prog : Program} {w : World} {A : Around} {E : Value → Shared → Prop} {R : Result → Shared → Prop} {s : Shared} {K : Frag} {mg : Str → Option Value} {C fI : Addr}
theorem low_init {cn : Str} (T : LowTxt K mg cn C fI) {x t0 : Addr} {v : Value} (X : K.In s.heap) (hlim : s.heap.NoLimit) (hx : s.heap.get? x = some (excO C t0)) (hnx : K.lookup x = none) (hroom : A.depth < recursionLimit)
    (hq : ∀ h' tk dx, InitEnd s.heap h' x C dx t0 v → R (.ok (.ret .none)) { s with heap := h', toks := tk }) :
    codeAny (model prog w) A (.call (.ref fI) ⟨[.ref x, v], []⟩) R s := by
  obtain ⟨qn, oc, od, doc, pm, an, cdv, ct, osl, p1, p2, q1, q2, q3, q4, ho, hcd⟩ := T.fn
  obtain ⟨nm, q, N, bs, bm, sn, sub, ab, col, dd, k0, k1, k2, k3, k5, hC, hbm⟩ := T.cls
  have hcl : clsIn K C = some { name := nm, bases := bs, mro := .ref C :: bm, ns := N, qualname := q, hasDict := true, slotNames := sn, subclasses := sub, abstract := ab, collection := col, hasDel := false } := by unfold clsIn; rw [hC] <;> rfl
  refine Att.call_fn (binds := [("self", .ref x), ("index", v)]) X hlim ho hcd hroom (BindsTo.of_eq (by first | rfl | with_unfolding_all rfl)) (by first | rfl | decide | with_unfolding_all rfl) (fun s₁ IC => ?_) rfl rfl rfl
  obtain ⟨h₁, tk₁, rfl⟩ := IC.toInCall.same
  have k : ∀ b o, s.heap.get? b = some o → h₁.get? b = some o := IC.toInCall.keep
  have hn := IC.toInCall.ns
  have hxL : s.heap.objs.size ≠ x := Nat.ne_of_gt (Heap.lt_size hx)
  have X₁ : K.In h₁ := X.keeps k
  have hx₁ := k _ _ hx
  -- self.by = by
  show wpAny _ _ (execs _ _) _ _ _
  refine wpAny_execs_cons (plainObj_wpAny_Assign_Attribute ?_)
  refine ldC (v := v) hn (by first | rfl | with_unfolding_all rfl | kernel_rfl) (ldC (v := .ref x) hn (by first | rfl | with_unfolding_all rfl | kernel_rfl) ?_)
  refine set_plain X₁ (ox := excO C t0) (od := none) ⟨hx₁, rfl, rfl, trivial⟩ T.sa ?_
  refine exc_osa X₁ hx₁ hcl (show refsVE (.ref C :: bm) = true from hbm) rfl T.noN (fun h₃ tk₃ dx k₃ dn dne hx₃ hn₃ => ?_)
  show wpAny _ _ (execs _ _) _ _ _
  have z : s.heap.objs.size < h₁.objs.size := hn.lt
  exact wpAny_execs_nil (hq h₃ tk₃ dx ⟨fun b o hb e => k₃ b o hb (k b o e), hx₃, Nat.le_of_lt (Nat.lt_of_lt_of_le z dn), dne, hn₃⟩)
theorem low_made {cn : Str} (T : LowTxt K mg cn C fI) {v : Value} (X : K.In s.heap) (hlim : s.heap.NoLimit) (hroom : A.depth + 1 < recursionLimit)
    (hq : ∀ h' tk e d, OwnMade s.heap h' e C d v → R (.ok (.ret (.ref e))) { s with heap := h', toks := tk }) :
    codeAny (model prog w) A (.call (.ref C) ⟨[v], []⟩) R s := by
  obtain ⟨nm, q, N, bs, bm, sn, sub, ab, col, dd, k0, k1, k2, k3, k5, hC, hbm⟩ := T.cls
  obtain ⟨hp, g, dr, tk, os⟩ := s
  have k : ∀ b o, hp.get? b = some o → ((hp.push (kdv_tup [v])).push (excO C hp.objs.size)).get? b = some o := fun b o e => Heap.get?_push_of_some _ (Heap.get?_push_of_some _ e)
  have hget : ((hp.push (kdv_tup [v])).push (excO C hp.objs.size)).get? (hp.objs.size + 1) = some (excO C hp.objs.size) := by heap_get
  have hnx : K.lookup (hp.objs.size + 1) = none := by
    cases e : K.lookup (hp.objs.size + 1) with
    | none => rfl
    | some o =>
      have z : hp.get? (hp.objs.size + 1) = some o := X _ _ e
      exact absurd (Nat.lt_of_succ_lt (Heap.lt_size z)) (Nat.lt_irrefl _)
  refine call_own F.excBase_ValueError (fun X => refsVE_contains X bm hbm) (X _ _ hC) (looks_findIn X T.iC) (fun self => bind_fn X self T.tC) (one_size v) ?_
  refine low_init (s := ⟨(hp.push (kdv_tup [v])).push (excO C hp.objs.size), g, dr, tk, os⟩) T (X.keeps k) (hlim.keeps k) hget hnx ?_ fun h' tk' dx ⟨k', hx, dn, dne, hns⟩ => ?_
  · show A.depth + 1 < recursionLimit
    exact hroom
  · have old : ∀ b o, hp.get? b = some o → h'.get? b = some o := fun b o e => k' b o (Nat.ne_of_lt (Nat.lt_succ_of_lt (Heap.lt_size e))) (k b o e)
    have z : hp.objs.size + 1 + 1 ≤ dx := by
      first
        | (simpa only [Heap.size_push] using dn)
        | exact dn
        | (have q := dn; rw [Heap.size_push, Heap.size_push] at q; exact q)
    exact ⟨rfl, hq h' tk' (hp.objs.size + 1) dx ⟨old, Nat.le_succ _, ⟨_, _, hx, rfl, rfl, rfl, rfl⟩, Nat.le_trans (Nat.le_trans (Nat.le_succ _) (Nat.le_succ _)) z, dne, hns⟩⟩
end
end LowX_index
end PySem
namespace L2
open PySem PySem.Spec PyProof.Rows
theorem relO_low_index {v : V} {v' : Value} (r : RelV v v') (f : Str) : RelO (List.lookup f [(("index" : Str), v)]) (if f = "index" then some v' else none) := by
  by_cases hw : f = "index"
  · subst hw
    rw [if_pos rfl]
    have q : List.lookup ("index" : Str) [(("index" : Str), v)] = some v := by simp [List.lookup]
    rw [q]
    exact r
  · rw [if_neg hw]
    have qw : (f == ("index" : Str)) = false := by simpa using hw
    have q2 : List.lookup f [(("index" : Str), v)] = none := by simp [List.lookup, qw]
    rw [q2]
    trivial
section
variable {X : Cx} {C fI : Addr}
/-- Low(e) -/
def tMkLow_index (C : Addr) (ta : TA) : St → Hp → XK → Prop := fun σ H Q => ta σ H fun vs H1 => ∃ v, vs = [v] ∧ ∀ d, H1 d = none → Q (.ref C) (some d) (upd H1 d (.xd [(("index" : Str), v)]))
theorem pmk_low_index {a : Expr} {ta : TA} {p pos : Pos} {k : Nat} {cn : Str} (T : PySem.LowX_index.LowTxt X.K X.mg cn C fI) (hr : Room k X.A) (ha : PA X [a] ta) (hg : Gl X cn := by rfl) (hdb : (cn == ("__debug__" : Str)) = false := by decide)
    (he : starEach (a :: []) X.env = (false, eval a X.env) :: starEach [] X.env := by rfl) (hpl : (backTo pos (starEach [] X.env)).any (·.1) = false := by rfl) :
    PMk X (.Call (.Name cn p) [a] [] pos) (tMkLow_index C ta) := by
  intro pins s σ H Q I h
  refine wpAny_Call_Name_kw (ld_glob I hg T.gC ?_ hdb)
  refine PySem.W.callWith_K (h₀ := X.base) I.ok.mod.kin T.kC (thn (ha.run pos pins s σ H _ I h) fun us s1 hh => ?_) he hpl
  obtain ⟨vs, H1, I1, r1, v, ev, q1⟩ := hh
  subst ev
  refine ⟨I1.kIn, ?_⟩
  cases r1 with
  | cons rv rn =>
    rename_i v' us'
    cases rn
    show wpAny _ _ (call (.ref C) [v']) _ _ _
    have hlim := I1.nolimit
    obtain ⟨hp, g, dr, tk, os⟩ := s1
    refine wpAny_call (PySem.LowX_index.low_made T I1.kIn hlim (by have := hr.dp; omega) fun h' tk' e d M => ?_)
    show MkP X pins σ Q (.ref e) ⟨h', g, dr, tk', os⟩
    obtain ⟨oe, fv, hoe, hc, hd, hdat, h1⟩ := M.obj
    have hns := M.ns
    obtain ⟨G', g1, g2⟩ := restrict h' fun b => decide (b ≠ e)
    have gk : ∀ b, b ≠ e → G'.get? b = h'.get? b := fun b hb => g1 b (decide_eq_true hb)
    have ge : G'.get? e = none := g2 e (by simp)
    have old : ∀ b o, hp.get? b = some o → G'.get? b = some o := fun b o q => (gk b (Nat.ne_of_lt (Nat.lt_of_lt_of_le (Heap.lt_size q) M.new))).trans (M.keep b o q)
    have ob : ObjOk X.prog X.w (upd H1 d (.xd [(("index" : Str), v)])) G' d (.xd [(("index" : Str), v)]) :=
      ⟨_, hns.at (fun o q => (gk d M.dne).trans q), fun f => relO_low_index rv f⟩
    have J : Inv X pins σ (upd H1 d (.xd [(("index" : Str), v)])) ⟨G', g, dr, tk', os⟩ := I1.laid (t' := tk') old M.dbig ob
    refine ⟨e, oe, fv, ⟨G', g, dr, tk', os⟩, _, .ref C, some d, rfl, J, fun b o q => ?_, ge, hoe, ⟨hc, hd⟩, hdat, h1, ?_, rfl, I1.bare, raises_own T.exC T.tyC, q1 d (I1.hok.fresh M.dbig)⟩
    · by_cases hb : b = e
      · have q' : G'.get? b = some o := q
        rw [hb, ge] at q'; cases q'
      · exact (gk b hb).symm.trans q
    · rw [upd_ne (Ne.symm M.dne)]
      exact I1.hok.fresh M.new
/-- raise Low(e) -/
def tRaiseLow_index (C : Addr) (W : WX) (ta : TA) : TS := fun _ σ H => tMkLow_index C ta σ H fun cls d H' => W cls d σ H'
theorem ps_raiseLow_index {a : Expr} {ta : TA} {W : WX} {p pos pos2 : Pos} {k : Nat} (hc : X.calm = true) {cn : Str} (T : PySem.LowX_index.LowTxt X.K X.mg cn C fI) (hr : Room k X.A) (tk : Takes X W) (ha : PA X [a] ta) (hg : Gl X cn := by rfl) (hdb : (cn == ("__debug__" : Str)) = false := by decide)
    (he : starEach (a :: []) X.env = (false, eval a X.env) :: starEach [] X.env := by rfl) (hpl : (backTo pos (starEach [] X.env)).any (·.1) = false := by rfl) :
    PS X (.Raise (some (.Call (.Name cn p) [a] [] pos)) none pos2) (tRaiseLow_index C W ta) := ps_raise hc tk (pmk_low_index T hr ha hg hdb he hpl)
end
end L2

set_option Elab.async false
set_option linter.all false
set_option maxRecDepth 100000
set_option maxHeartbeats 4000000
/-! DL16: raise, try .. except, e.field, isinstance of a caught exception: on data. -/
namespace DL
open PySem PySem.Spec PyProof.Rows L2
section
variable {X : Cx} {W : WX} {p pos pos2 : Pos} {k : Nat} {a : Expr} {ta : TA} {C : Addr} {cn : Str}
theorem k_raise_value (K : PySem.W.Frag) (hK : X.K = K) (hc : X.calm = true) (T : ∃ fI, PySem.LowX_value.LowTxt K X.mg cn C fI) (hr : Room k X.A) (tk : Takes X W) (ha : PA X [a] ta) (hg : Gl X cn := by rfl) (hdb : (cn == ("__debug__" : Str)) = false := by decide)
    (he : starEach (a :: []) X.env = (false, eval a X.env) :: starEach [] X.env := by rfl) (hpl : (backTo pos (starEach [] X.env)).any (·.1) = false := by rfl) :
    PS X (.Raise (some (.Call (.Name cn p) [a] [] pos)) none pos2) (tRaiseLow_value C W ta) := by
  subst hK; obtain ⟨fI, T⟩ := T; exact ps_raiseLow_value hc T hr tk ha hg hdb he hpl
theorem k_raise_index (K : PySem.W.Frag) (hK : X.K = K) (hc : X.calm = true) (T : ∃ fI, PySem.LowX_index.LowTxt K X.mg cn C fI) (hr : Room k X.A) (tk : Takes X W) (ha : PA X [a] ta) (hg : Gl X cn := by rfl) (hdb : (cn == ("__debug__" : Str)) = false := by decide)
    (he : starEach (a :: []) X.env = (false, eval a X.env) :: starEach [] X.env := by rfl) (hpl : (backTo pos (starEach [] X.env)).any (·.1) = false := by rfl) :
    PS X (.Raise (some (.Call (.Name cn p) [a] [] pos)) none pos2) (tRaiseLow_index C W ta) := by
  subst hK; obtain ⟨fI, T⟩ := T; exact ps_raiseLow_index hc T hr tk ha hg hdb he hpl
end
section
variable {K : PySem.W.Frag} {W : WX} {P : Po} {ρ ρ' : Slots} {μ μ1 μ2 : List CC} {ta : TA} {te : TE} {α β Z : List Addr} {H : Hp} {d : D} {C : Addr}
theorem sv_raise_value (h : EA K ta ρ μ [.d d] μ1) (k : P.xc ρ (.ref C) [("value", d)] μ1) : SV K W (tRaiseLow_value C W ta) ρ μ P := fun α0 Z0 H0 α Z σ H D w0 gr ok sl kc =>
  h α Z σ H ok sl _ fun vs H1 e1 ok1 r1 => by
    cases r1 with
    | cons a b =>
      cases b; cases a with
      | d r =>
        refine ⟨_, rfl, fun dd hdd => ?_⟩
        have e2 : ∀ o, Ext [] H1 (upd H1 dd o) := fun o => Ext.new hdd
        exact kc.xc ρ _ _ μ1 (some dd) α Z σ _ k (gr.ext1 w0 ok (e1.trans (e2 _).nil_any)) (ok1.still (e2 _)) (sl.ext ok (e1.trans (e2 _).nil_any)) (.inr ⟨dd, _, rfl, ok1.w.off hdd, upd_same, .cons (r.mono (α := []) (fun a h => absurd h List.not_mem_nil) (e2 _)) .nil⟩)
theorem sv_raise_index (h : EA K ta ρ μ [.d d] μ1) (k : P.xc ρ (.ref C) [("index", d)] μ1) : SV K W (tRaiseLow_index C W ta) ρ μ P := fun α0 Z0 H0 α Z σ H D w0 gr ok sl kc =>
  h α Z σ H ok sl _ fun vs H1 e1 ok1 r1 => by
    cases r1 with
    | cons a b =>
      cases b; cases a with
      | d r =>
        refine ⟨_, rfl, fun dd hdd => ?_⟩
        have e2 : ∀ o, Ext [] H1 (upd H1 dd o) := fun o => Ext.new hdd
        exact kc.xc ρ _ _ μ1 (some dd) α Z σ _ k (gr.ext1 w0 ok (e1.trans (e2 _).nil_any)) (ok1.still (e2 _)) (sl.ext ok (e1.trans (e2 _).nil_any)) (.inr ⟨dd, _, rfl, ok1.w.off hdd, upd_same, .cons (r.mono (α := []) (fun a h => absurd h List.not_mem_nil) (e2 _)) .nil⟩)
/-- the exception that a suite holds -/
theorem ExcOk.rp {dd : Option Addr} {fs : List (Str × D)} {c : Value} {a : Addr} (x : ExcOk K Z H dd fs) : Rp K Z H (.ref a) (.exc c a dd fs) := by
  rcases x with ⟨rfl, rfl⟩ | ⟨b, vs, rfl, h1, h2, h3⟩
  · exact .exc0
  · exact .exc1 h1 h2 h3
theorem sv_try_as {i : Nat} {c : Value} {tb : WX → TS} {ts : Addr → Value → Option Addr → TS} (Xc : Slots → Value → List (Str × D) → List CC → Prop) (hb : ∀ W' : WX, SV K W' (tb W') ρ μ { P with xc := Xc })
    (hc : ∀ ρ' cls fs μ', Xc ρ' cls fs μ' → ∃ b, PySem.W.exmOne K cls c = some b ∧
      (b = true → ∀ a d, SV K W (ts a cls d) (ρ'.set i (some (.d (.exc cls a d fs)))) μ' { nx := fun ρ μ => P.nx (ρ.set i none) μ, rt := P.rt, bk := fun ρ μ => P.bk (ρ.set i none) μ, ct := fun ρ μ => P.ct (ρ.set i none) μ }) ∧ (b = false → P.xc ρ' cls fs μ')) :
    SV K W (fun D σ H => tb (wAs K c i ts W D) D σ H) ρ μ P := fun α0 Z0 H0 α Z σ H D w0 g ok sl kk => by
  refine hb (wAs K c i ts W D) α0 Z0 H0 α Z σ H D w0 g ok sl ⟨kk.nx, kk.rt, kk.bk, kk.ct, fun ρ' cls fs μ' d α' Z' σ' H' hx g' ok' sl' xo => ?_⟩
  obtain ⟨b, hm, hy, hn⟩ := hc ρ' cls fs μ' hx
  refine ⟨b, hm, fun e a ha => ?_, fun e => kk.xc ρ' cls fs μ' d α' Z' σ' H' (hn e) g' ok' sl' xo⟩
  exact hy e a d α0 Z0 H0 α' Z' _ H' _ w0 g' ok' (sl'.set (.d xo.rp))
    ⟨fun ρ2 μ2 α2 Z2 σ2 H2 p g2 ok2 sl2 => kk.nx _ _ α2 Z2 _ H2 p g2 ok2 sl2.none, kk.rt, fun ρ2 μ2 α2 Z2 σ2 H2 p g2 ok2 sl2 => kk.bk _ _ α2 Z2 _ H2 p g2 ok2 sl2.none, fun ρ2 μ2 α2 Z2 σ2 H2 p g2 ok2 sl2 => kk.ct _ _ α2 Z2 _ H2 p g2 ok2 sl2.none, fun _ _ _ _ _ _ _ _ _ h => h.elim⟩
theorem sv_try_only {c : Value} {tb : WX → TS} {ts : Addr → Value → Option Addr → TS} (Xc : Slots → Value → List (Str × D) → List CC → Prop) (hb : ∀ W' : WX, SV K W' (tb W') ρ μ { P with xc := Xc })
    (hc : ∀ ρ' cls fs μ', Xc ρ' cls fs μ' → ∃ b, PySem.W.exmOne K cls c = some b ∧
      (b = true → ∀ a d, SV K W (ts a cls d) ρ' μ' { P with xc := fun _ _ _ _ => False }) ∧ (b = false → P.xc ρ' cls fs μ')) :
    SV K W (fun D σ H => tb (wOnly K c ts W D) D σ H) ρ μ P := fun α0 Z0 H0 α Z σ H D w0 g ok sl kk => by
  refine hb (wOnly K c ts W D) α0 Z0 H0 α Z σ H D w0 g ok sl ⟨kk.nx, kk.rt, kk.bk, kk.ct, fun ρ' cls fs μ' d α' Z' σ' H' hx g' ok' sl' xo => ?_⟩
  obtain ⟨b, hm, hy, hn⟩ := hc ρ' cls fs μ' hx
  refine ⟨b, hm, fun e a ha => ?_, fun e => kk.xc ρ' cls fs μ' d α' Z' σ' H' (hn e) g' ok' sl' xo⟩
  exact hy e a d α0 Z0 H0 α' Z' _ H' _ w0 g' ok' sl' ⟨kk.nx, kk.rt, kk.bk, kk.ct, fun _ _ _ _ _ _ _ _ _ h => h.elim⟩
/-! ### the caught exception looked at -/
theorem RpF.lookup : ∀ {vs : List (Str × V)} {fs : List (Str × D)} {n : Str} {x : D}, RpF K Z H vs fs → fs.lookup n = some x → ∃ v, vs.lookup n = some v ∧ Rp K Z H v x
  | _, _, _, _, .nil, h => by cases h
  | (k, v) :: vs, (_, y) :: fs, n, x, .cons r rs, h => by
    rw [List.lookup_cons] at h ⊢
    cases q : (n == k) with
    | true => rw [q] at h; cases h; exact ⟨v, rfl, r⟩
    | false => rw [q] at h; exact RpF.lookup rs h
theorem ev_xf {a : Addr} {dd : Option Addr} {fs : List (Str × D)} {n : Str} {x : D} (h : EV K te ρ μ (.d (.exc (.ref C) a dd fs)) μ1) (hl : fs.lookup n = some x) : EV K (tXf a (.ref C) dd C n te) ρ μ (.d x) μ1 :=
  fun α Z σ H ok sl Q k => h α Z σ H ok sl _ fun v H1 e1 ok1 r1 => by
    cases r1 with
    | d r1 =>
      cases r1 with
      | exc0 => cases hl
      | exc1 nn q r =>
        obtain ⟨v, h1, h2⟩ := r.lookup hl
        exact ⟨rfl, rfl, _, _, v, rfl, q, h1, k v H1 e1 ok1 (.d h2)⟩
end
/-- isinstance(e, c), e the exception (with its own dict) that the suite holds -/
def rIsX (K : PySem.W.Frag) (a : Addr) (cls : Value) (d : Option Addr) : List V → Hp → VK → Prop := fun xs H Q => ∃ (D dd : Addr) (fs : List (Str × V)) (c : V) (cv : Value) (b : Bool), cls = .ref D ∧ d = some dd ∧ ExcC K D ∧ H dd = some (.xd fs) ∧ xs = [.ref a, c] ∧ (∀ u, RelV c u → u = cv) ∧ PySem.W.kitOne K (.ref D) cv = some b ∧ Q (.bl b) H
theorem k_isX {X : Cx} {a : Addr} {cls : Value} {d : Option Addr} {oe : Obj} {pn : List (Addr × Obj)} (K : PySem.W.Frag) (hK : X.K = K) (hz : Zc cls d oe) (hf : ∃ vs, oe.data = .fields vs) : CallR (X.suite a ((a, oe) :: pn)) (.builtin "isinstance") (rIsX K a cls d) := by
  subst hK
  intro pins s σ H xs us Q I r h
  obtain ⟨D, dd, fs, c, cv, b, rfl, rfl, C, hdd, rfl, hcv, e, q⟩ := h
  cases r with
  | cons rx rr =>
    cases rr with
    | cons rt rr =>
      cases rr
      cases rx
      have ec := hcv _ rt
      subst ec
      obtain ⟨hget, _⟩ := I.pin (a, oe) (List.mem_append.mpr (.inl List.mem_cons_self))
      obtain ⟨vs, hv⟩ := hf
      have hx : ObjOk X.prog X.w H s.heap dd (.xd fs) := I.hok dd _ hdd
      obtain ⟨mA, hns, _⟩ := hx
      obtain ⟨od, ho, _⟩ := lookIn_ns hns
      have J : PySem.W.InstAt s.heap a oe D (some od) := ⟨hget, hz.1, by unfold PySem.W.notCls; rw [hv] <;> rfl, by rw [hz.2]; exact ho⟩
      exact PySem.W.kia_one (PySem.W.kitx_exc (by obtain ⟨cd, hc, _⟩ := PySem.W.any_some C.hd; rw [hc]; rfl) C.hg C.hk C.hs C.ha C.hn C.ht C.hm) I.kIn J e (fun z => nomatch z) fun tk => ⟨.bl b, H, I.kept (t' := tk) fun _ _ z => z, rfl, q⟩
theorem b_isX {K : PySem.W.Frag} {μ : List CC} {a dd D : Addr} {fs : List (Str × DL.D)} {E : Addr} {b : Bool} (hC : ExcC K D) (hk : PySem.W.kitOne K (.ref D) (.ref E) = some b) : RC K (rIsX K a (.ref D) (some dd)) [.d (.exc (.ref D) a (some dd) fs), .d (.raw (.ref E))] μ (.d (.bl b)) μ := rc_2 fun Z H v w r1 r2 Q k => by
  cases r1 with
  | exc1 n q r =>
    cases r2
    exact ⟨D, dd, _, .ref E, .ref E, b, rfl, rfl, hC, q, rfl, (fun u hu => hu), hk, k _ (.bl b)⟩
end DL

set_option Elab.async false
set_option linter.all false
set_option maxRecDepth 100000
set_option maxHeartbeats 4000000
/-! DL17: enumerate of a tuple. -/
namespace PySem
open AutoSeq1 (wpAny_loadPart')
theorem enum_newT (p : Addr) (xs : Array Value) (m : Nat) (dd : Option Addr) (ss : Array (Option Value)) :
    Meets (Builtin.«enumerate.__new__» ⟨[.type "enumerate", .ref p], []⟩) (fun _ R s => s.heap.get? p = some { cls := .type "tuple", dict := dd, data := .seq xs m, slots := ss } ∧
      R (.ok (.ret (.ref (s.heap.push { cls := .type "tuple_iterator", data := .fields #[.ref p, .int 0 0] }).objs.size)))
        { s with heap := (s.heap.push { cls := .type "tuple_iterator", data := .fields #[.ref p, .int 0 0] }).push { cls := .type "enumerate", data := .fields #[.none, .bool false, .ref s.heap.objs.size, rawInt 0, .none, .none] } }) :=
  .of_wp fun prog w A R s h => by
    obtain ⟨hh, gg, dr, tt, oo⟩ := s
    obtain ⟨hp, hr⟩ := h
    have sub1 := sub_enumerate
    have isT : Heap.IsTuple (Shared.heap ⟨hh, gg, dr, tt, oo⟩) p xs := ⟨_, hp, rfl, m, rfl⟩
    wp_walk using wpAny_loadPart' hp
    refine wpAny_stack_any fun st => wpAny_pure ?_
    split
    · rename_i c _ _ _ _ _
      cases (c == Value.type "enumerate") <;>
      · wp_walk using wpAny_loadPart' hp, wpAny_pyIter_tuple isT
        exact ⟨_, rfl, hr⟩
    · wp_walk using wpAny_loadPart' hp, wpAny_pyIter_tuple isT
      exact ⟨_, rfl, hr⟩
end PySem
namespace PySem
section
variable {prog : Program} {w : World} {A : Around} {E : Value → Shared → Prop} {s : Shared}
theorem call_enumT {p : Addr} {xs : Array Value} {Q : Value → Shared → Prop} (isT : s.heap.IsTuple p xs)
    (hq : ∀ h2, IsEnum h2 (s.heap.objs.size + 1) s.heap.objs.size 0 .none → h2.IsTupleIter s.heap.objs.size p 0 → (∀ b o, s.heap.get? b = some o → h2.get? b = some o) → Q (.ref (s.heap.objs.size + 1)) { s with heap := h2 }) :
    wpAny (model prog w) A (call (.type "enumerate") [.ref p]) Q E s := by
  obtain ⟨⟨cc, dd, da, ss⟩, hp, e1, m, e2⟩ := isT
  replace e1 : cc = .type "tuple" := e1
  replace e2 : da = .seq xs m := e2
  subst e1 e2
  refine callType_new F.called_enumerate (by decide) (F.typeCall_enumerate_1 _) (F.newCall_enumerate_1 _) (fun obj => F.args_object_init_2 obj _) F.entry_enumerate_new (enum_newT p xs m dd ss) ⟨hp, ?_⟩
  have sz : (s.heap.push { cls := .type "tuple_iterator", data := .fields #[.ref p, .int 0 0] }).objs.size = s.heap.objs.size + 1 := Heap.size_push ..
  show _ ∧ _
  rw [sz]
  have isE : IsEnum ((s.heap.push { cls := .type "tuple_iterator", data := .fields #[.ref p, .int 0 0] }).push { cls := .type "enumerate", data := .fields #[.none, .bool false, .ref s.heap.objs.size, rawInt 0, .none, .none] }) (s.heap.objs.size + 1) s.heap.objs.size 0 .none := by
    have q := Heap.get?_push_size (s.heap.push { cls := .type "tuple_iterator", data := .fields #[.ref p, .int 0 0] }) (o := { cls := .type "enumerate", data := .fields #[.none, .bool false, .ref s.heap.objs.size, rawInt 0, .none, .none] }) rfl
    rw [sz] at q; exact q
  exact ⟨⟨_, isE, rfl⟩, hq _ isE ⟨_, Heap.get?_push_of_some _ (Heap.get?_push_size _ rfl), rfl, rfl⟩ fun b o q => Heap.get?_push_of_some _ (Heap.get?_push_of_some _ q)⟩
theorem enum_endT {e it p : Addr} {i : Nat} {xs : Array Value} {old : Value} {Q : Option Value → Shared → Prop} (hh : A.handled = none) (he : IsEnum s.heap e it i old) (hit : s.heap.IsTupleIter it p i) (isT : s.heap.IsTuple p xs) (hx : xs[i]? = none)
    (hQ : ∀ h2, Heap.ExtBut it s.heap h2 → Q none { s with heap := h2 }) : wpAny (model prog w) A (pyNext (.ref e)) Q E s := by
  have isE : s.TypeIs (.ref e) "enumerate" := ⟨_, he, rfl⟩
  unfold pyNext
  refine wpAny_bind (wpAny_attempt (wpAny_callSpecial?_slot (name := Str.ofString "__next__") isE F.slot_enumerate_next (wpAny_call_entry F.slot_enumerate_next isE F.entry_enumerate_next ?_ (F.args_enumerate_next_1 _))))
  show wpAny _ _ (field (.ref e) 2 >>= _) _ _ _
  refine wpAny_bind (wpAny_field he rfl (x := .ref it) rfl (wpAny_bind (wpAny_nextOf_tuple_end hh hit isT hx fun h2 x eb hs => ?_)))
  obtain ⟨o, ho, hc⟩ := hs
  exact wpAny_bind (wpAny_isInstance (T := "StopIteration") (b := true) ⟨o, ho, hc⟩ isSubtype_stop (wpAny_pure (hQ _ eb)))
end
end PySem
namespace DL
open PySem PySem.Spec PyProof.Rows L2
/-- the tuple at a as it stands at each turn, each item in a new pair -/
def IteT (K : PySem.W.Frag) (a : Addr) : It :=
  ⟨fun i H => ∃ (xs : List V) (x : V), SqT K H a xs ∧ xs[i]? = some x, fun i H v H' => ∃ T x, v = .ref T ∧ H T = none ∧ H' = upd H T (.tup [.int (i : Nat), x]) ∧ ∀ xs, SqT K H a xs → xs[i]? = some x, fun i H => ∃ xs : List V, SqT K H a xs ∧ xs.length ≤ i⟩
theorem turn_enumT {P : Program} {w : World} {K : PySem.W.Frag} {es : List Expr} {kk : Nat} {tp : Pos} (a e it : Addr) :
    Turn P w K (.Tuple es kk tp) (IteT K a) [e, it] e (fun i h => (∃ old, IsEnum h e it ((i : Nat) : Int) old) ∧ h.IsTupleIter it a i ∧ e ≠ it) where
  mem := List.mem_cons_self
  obj := fun i h st b hb => by
    obtain ⟨⟨old, h1⟩, ⟨o, h2, h3, h4⟩, _⟩ := st
    rcases List.mem_cons.mp hb with z | z
    · rw [z]; exact ⟨_, h1, fun v q => nomatch q⟩
    · rw [List.mem_singleton.mp z]; exact ⟨o, h2, fun v q => by rw [h4] at q; cases q⟩
  keep := fun i h h' st k => by
    obtain ⟨⟨old, h1⟩, h2, h3⟩ := st
    exact ⟨⟨old, k e List.mem_cons_self _ h1⟩, h2.at fun o q => k it (List.mem_cons_of_mem _ List.mem_cons_self) o q, h3⟩
  item := by
    intro X hP hw hK hc i pins s σ H E I hf st hg
    subst hP hw hK
    obtain ⟨⟨old, he⟩, hit, hne⟩ := st
    obtain ⟨xs, x, hq, hx⟩ := hg
    obtain ⟨its, rv, p, hz⟩ := I.tuple hq
    obtain ⟨u, hu, ru⟩ := rv.get hx
    have isT : s.heap.IsTuple a its.toArray := p
    have lt_e : e < s.heap.objs.size := Heap.lt_size he
    have lt_i : it < s.heap.objs.size := by obtain ⟨_, q, _⟩ := hit; exact Heap.lt_size q
    have nai : a ≠ it := fun z => by
      obtain ⟨o1, q1, c1, _⟩ := isT
      obtain ⟨o2, q2, c2, _⟩ := hit
      rw [z, q2] at q1; cases q1; exact absurd (Value.type.inj (c2.symm.trans c1)) (by decide)
    have nae : e ≠ a := fun z => by
      obtain ⟨o1, q1, c1, _⟩ := isT
      rw [← z, he] at q1; cases q1; exact absurd (Value.type.inj c1) (by decide)
    have hi : i < its.toArray.size := by simpa using (List.getElem?_eq_some_iff.mp hu).1
    refine wpAny_pyNext_enum_itemD (Draws.tuple (A := X.A.in1) (I.ok.hd hc) it a nai its.toArray) he ⟨hit, isT⟩ hi hne (by simp [hne, nae]) fun y h' tk hy ho hst hT hsz hk => ?_
    have ey : y = u := Option.some.inj ((show its.toArray[i]? = some y from hy).symm.trans (by simpa using hu))
    subst ey
    refine ⟨_, rfl, wpAny_letOwnedTupleGo_enum (s := { s with heap := h', toks := tk + 1 }) ho fun h2 he2 sb => ?_⟩
    have new : ObjOk X.prog X.w (upd H s.heap.objs.size (.tup [.int (i : Nat), x])) h2 s.heap.objs.size (.tup [.int (i : Nat), x]) :=
      ⟨by show 2 ≤ sizeLine; decide, [.int i tk, y], .cons ⟨_, rfl⟩ (.cons ru .nil), ⟨_, (sb.2 _ (Nat.ne_of_gt lt_e)).trans hT, rfl, _, rfl⟩⟩
    have J : Inv X pins σ (upd H s.heap.objs.size (.tup [.int (i : Nat), x])) { s with heap := h2, toks := tk + 1 } :=
      I.turnedNew (ch := [e, it]) (fun b ob hb q => (sb.2 b (fun z => hb (by simp [z]))).trans (hk b ob (fun z => hb (by simp [z])) (fun z => hb (by simp [z])) q)) hf (Nat.le_refl _) new
    refine ⟨.ref s.heap.objs.size, _, J, rfl, ⟨_, x, rfl, I.hok.fresh (Nat.le_refl _), rfl, fun ys hy => by rw [I.tuple_inj hy hq]; exact hx⟩, ⟨⟨y, ?_⟩, hst.1.at fun o q => (sb.2 it (Ne.symm hne)).trans q, hne⟩, fun b hb => ?_⟩
    · rw [show ((i + 1 : Nat) : Int) = (i : Int) + 1 by omega]; exact he2
    · have lt_b : b < s.heap.objs.size := by
        rcases List.mem_cons.mp hb with z | z
        · rw [z]; exact lt_e
        · rw [List.mem_singleton.mp z]; exact lt_i
      rw [upd_ne (Nat.ne_of_lt lt_b)]
      exact (hf b hb).1
  done := by
    intro X hP hw hK hc i pins s σ H E I hf st hg
    subst hP hw hK
    obtain ⟨⟨old, he⟩, hit, hne⟩ := st
    obtain ⟨xs, hq, hx⟩ := hg
    obtain ⟨its, rv, p, hz⟩ := I.tuple hq
    obtain ⟨f0, f1, f2, f3, f4, f5⟩ := hf it (List.mem_cons_of_mem _ List.mem_cons_self)
    have hl := rv.length
    have isT : s.heap.IsTuple a its.toArray := p
    exact enum_endT (I.ok.hd hc) he hit isT (by simp; omega) fun h2 eb => ⟨rfl, I.turned (t' := s.toks) (fun b o hb q => eb b o hb q) f0 f1 f3 f4 f5⟩
  self := fun A i s Q E st h => let ⟨⟨_, q⟩, _⟩ := st; wpAny_pyIter_enum q h
theorem walk_enumT {K : PySem.W.Frag} {a : Addr} {xs : List V} : Walk (IteT K a) xs.length (fun H => SqT K H a xs) (YPair (fun i => some (.int (i : Nat))) (fun i => xs[i]?)) := by
  refine ⟨fun i H hi q => ⟨xs, xs[i], q, List.getElem?_eq_getElem hi⟩, fun H q => ⟨xs, q, Nat.le_refl _⟩, fun i H v H' _ q y => ?_⟩
  obtain ⟨T, x, y1, y2, y3, y4⟩ := y
  exact ⟨T, .int (i : Nat), x, y1, y2, y3, rfl, y4 xs q⟩
/-- enumerate of a list or a tuple -/
def iEnumA (K : PySem.W.Frag) (ta : TA) : TI := fun σ H R => ta σ H fun vs H1 => ∃ a xs, vs = [.ref a] ∧ ((SqL K H1 a xs ∧ R (Ite K a) H1) ∨ (SqT K H1 a xs ∧ R (IteT K a) H1))
theorem k_penumA {X : Cx} (K : PySem.W.Frag) (hK : X.K = K) {e : Expr} {ta : TA} {p pos tp : Pos} {es : List Expr} {kk : Nat} (hg : Gl X "enumerate") (hm : X.mg "enumerate" = none) (ha : PA X [e] ta) (hs : starEach [e] X.env = [(false, eval e X.env)] := by rfl) :
    PI X (.Tuple es kk tp) (.Call (.Name "enumerate" p) [e] [] pos) (iEnumA K ta) := by
  subst hK
  refine ⟨fun pins s σ H R I h => Call_ (ld_blt I hg hm boot_enumerate (PyProof.Rows.callWith_type1 (thn (ha.run pos pins s σ H _ I h) fun us s1 ⟨vs, H1, I1, r1, q1⟩ => ?_) hs rfl))⟩
  obtain ⟨a, xs, rfl, q1⟩ := q1
  cases r1 with
  | cons r rr =>
    cases rr
    cases r
    have ext2 : ∀ b : Addr, b ∈ [s1.heap.objs.size + 1, s1.heap.objs.size] → s1.heap.objs.size ≤ b := fun b hb => by
      rcases List.mem_cons.mp hb with z | z
      · rw [z]; exact Nat.le_add_right _ _
      · rw [List.mem_singleton.mp z]; exact Nat.le_refl _
    rcases q1 with ⟨hq, q⟩ | ⟨hq, q⟩
    · obtain ⟨its, rv, p', hz⟩ := I1.list hq
      refine call_enumerate_list p'.isList fun h' he hit hsz hk => wpAny_pyIter_enum he ?_
      have I2 : Inv X pins σ H1 { s1 with heap := h' } := I1.kept (t' := s1.toks) hk
      exact ⟨s1.heap.objs.size + 1, [s1.heap.objs.size + 1, s1.heap.objs.size], _, _, H1, rfl, I2, turn_enum a _ _, ⟨⟨.none, he⟩, hit, Nat.succ_ne_self _⟩, fun b hb => I1.fpOk (ext2 b hb) (I1.hok.fresh (ext2 b hb)), q⟩
    · obtain ⟨its, rv, p', hz⟩ := I1.tuple hq
      refine call_enumT (xs := its.toArray) p' fun h' he hit hk => wpAny_pyIter_enum he ?_
      have I2 : Inv X pins σ H1 { s1 with heap := h' } := I1.kept (t' := s1.toks) hk
      exact ⟨s1.heap.objs.size + 1, [s1.heap.objs.size + 1, s1.heap.objs.size], _, _, H1, rfl, I2, turn_enumT a _ _, ⟨⟨.none, he⟩, hit, Nat.succ_ne_self _⟩, fun b hb => I1.fpOk (ext2 b hb) (I1.hok.fresh (ext2 b hb)), q⟩
section
variable {K : PySem.W.Frag} {ρ : Slots} {μ μ1 : List CC} {ts : TA} {xs : List D}
def enumD (xs : List D) : List AV := (xs.zipIdx.map fun p => (D.int (p.2 : Nat), p.1)).map fun d => .d (.tup [d.1, d.2])
theorem enum_at {Z : List Addr} {H : Hp} {vs : List V} (r : RpA K Z H vs xs) {i : Nat} {d : D × D} {v w : V} (hd : (xs.zipIdx.map fun p => (D.int (p.2 : Nat), p.1))[i]? = some d) (hv : (some (V.int (i : Nat))) = some v) (hw : vs[i]? = some w) : Rp K Z H v d.1 ∧ Rp K Z H w d.2 := by
  rw [List.getElem?_map, List.getElem?_zipIdx] at hd
  obtain ⟨d2, q1, q2⟩ := r.at hw
  rw [q1] at hd
  have e := Option.some.inj hd
  subst e
  cases hv
  exact ⟨by show Rp K Z H _ (.int ((0 + i : Nat) : Int)); rw [Nat.zero_add]; exact .int _, q2⟩
theorem iw_enumL (h : EA K ts ρ μ [.d (.lst xs)] μ1) : IW K (iEnumA K ts) ρ μ (enumD xs) μ1 :=
  iw_pair (fx := fun _ => none) (fy := fun _ => none) fun α Z σ H ok sl R k => h α Z σ H ok sl _ fun vs H1 e1 ok1 r1 => by
    cases r1 with
    | cons a b => cases b; cases a with
      | d a => cases a with
        | lst n h1 r =>
          exact ⟨_, _, rfl, .inl ⟨SqL.of h1, k _ H1 _ _ _ e1 ok1 (fun i d v w hd hv hw => enum_at r hd hv hw) (by rw [List.length_map, List.length_zipIdx, ← r.length]; exact walk_enum) fun H2 e2 => SqL.of (e2 _ n _ h1)⟩⟩
theorem iw_enumT (h : EA K ts ρ μ [.d (.tup xs)] μ1) : IW K (iEnumA K ts) ρ μ (enumD xs) μ1 :=
  iw_pair (fx := fun _ => none) (fy := fun _ => none) fun α Z σ H ok sl R k => h α Z σ H ok sl _ fun vs H1 e1 ok1 r1 => by
    cases r1 with
    | cons a b => cases b; cases a with
      | d a => cases a with
        | tup n h1 r =>
          exact ⟨_, _, rfl, .inr ⟨SqT.of h1, k _ H1 _ _ _ e1 ok1 (fun i d v w hd hv hw => enum_at r hd hv hw) (by rw [List.length_map, List.length_zipIdx, ← r.length]; exact walk_enumT) fun H2 e2 => SqT.of (e2 _ n _ h1)⟩⟩
end
end DL

set_option Elab.async false
set_option linter.all false
set_option maxRecDepth 100000
set_option maxHeartbeats 4000000
/-! DL18: tuple targets, a def held by a name, texts, membership, tuple * int, star displays. -/
namespace DL
open PySem PySem.Spec PyProof.Rows L2
/-! ### a tuple unpacked -/
section
variable {K : PySem.W.Frag} {W : WX} {P : Po} {ρ ρ' : Slots} {μ μ1 μ2 : List CC} {ta ts : TA} {te tl : TE} {d e : D} {x y : AV} {xs ys : List D} {a b : Str} {i j : Int}
theorem gv_tup {n k : Nat} {t : TGs} {js : List Nat} (h : GVs K t (xs.map .d) ρ ρ' js) (hn : xs.length = n) : GV K (gTup K n t) (.d (.tup xs)) ρ ρ' js := fun α Z μ σ H v ok r sl Q k => by
  cases r with
  | d r => cases r with
    | tup nn h1 r1 => exact ⟨_, _, rfl, SqT.of h1, by rw [r1.length]; exact hn, h α Z μ σ H _ ok (RpVs.of_data r1) sl Q k⟩
theorem gv_tup2 {t1 t2 : TG} {d1 d2 : D} {ρ1 ρ2 : Slots} {j1 j2 : List Nat} (h1 : GV K t1 (.d d1) ρ ρ1 j1) (h2 : GV K t2 (.d d2) ρ1 ρ2 j2) : GV K (gTup K 2 (gCons t1 (gCons t2 gNil))) (.d (.tup [d1, d2])) ρ ρ2 (j1 ++ (j2 ++ [])) := gv_tup (k := 0) (gvs_cons h1 (gvs_cons h2 gvs_nil)) rfl
theorem gv_tup3 {t1 t2 t3 : TG} {d1 d2 d3 : D} {ρ1 ρ2 ρ3 : Slots} {j1 j2 j3 : List Nat} (h1 : GV K t1 (.d d1) ρ ρ1 j1) (h2 : GV K t2 (.d d2) ρ1 ρ2 j2) (h3 : GV K t3 (.d d3) ρ2 ρ3 j3) : GV K (gTup K 3 (gCons t1 (gCons t2 (gCons t3 gNil)))) (.d (.tup [d1, d2, d3])) ρ ρ3 (j1 ++ (j2 ++ (j3 ++ []))) := gv_tup (k := 0) (gvs_cons h1 (gvs_cons h2 (gvs_cons h3 gvs_nil))) rfl
/-! ### texts -/
theorem b_ltS : RV K (fun x y H Q => ∃ i j, x = .str i ∧ y = .str j ∧ Q (.bl (decide (i.cps.toList < j.cps.toList))) H) (.d (.str a)) (.d (.str b)) μ (.d (.bl (decide (a.cps.toList < b.cps.toList)))) μ := rv_of fun Z H vx vy rx ry Q k => by
  cases rx; cases ry; exact ⟨a, b, rfl, rfl, k _ (.bl _)⟩
theorem b_leS : RV K (fun x y H Q => ∃ i j, x = .str i ∧ y = .str j ∧ Q (.bl (!decide (j.cps.toList < i.cps.toList))) H) (.d (.str a)) (.d (.str b)) μ (.d (.bl (!decide (b.cps.toList < a.cps.toList)))) μ := rv_of fun Z H vx vy rx ry Q k => by
  cases rx; cases ry; exact ⟨a, b, rfl, rfl, k _ (.bl _)⟩
theorem b_inSign {c : Nat} : RV K (fun x y H Q => ∃ (c : Nat) (z : Str), x = .str ⟨#[c]⟩ ∧ y = .str z ∧ Q (.bl (decide (c ∈ z.cps.toList))) H) (.d (.str ⟨#[c]⟩)) (.d (.str b)) μ (.d (.bl (decide (c ∈ b.cps.toList)))) μ := rv_of fun Z H vx vy rx ry Q k => by
  cases rx; cases ry; exact ⟨c, b, rfl, rfl, k _ (.bl _)⟩
/-! ### in a list, a tuple, of flat things -/
def rInA (K : PySem.W.Frag) : R2 := rIn K false
def rNotInA (K : PySem.W.Frag) : R2 := rIn K true
theorem k_in {X : Cx} (K : PySem.W.Frag) (hK : X.K = K) : OpR X (compareOp .In) (rInA K) := hK ▸ op_in_seq
theorem k_notin {X : Cx} (K : PySem.W.Frag) (hK : X.K = K) : OpR X (compareOp .NotIn) (rNotInA K) := hK ▸ op_notIn_seq
/-- == of flat data -/
def D.v : D → V
  | .bl b => .bl b
  | .int i => .int i
  | .str s => .str s
  | _ => .non
theorem Rp.v {Z : List Addr} {H : Hp} {v : V} {d : D} (h : d.flat = true) (r : Rp K Z H v d) : v = d.v := by
  cases r <;> first | rfl | (simp [D.flat] at h)
theorem flat_v {d : D} (h : d.flat = true) : flatV d.v = true := by cases d <;> first | rfl | (simp [D.flat] at h)
theorem RpA.v {Z : List Addr} {H : Hp} : ∀ {vs : List V} {ds : List D}, ds.all D.flat = true → RpA K Z H vs ds → vs = ds.map D.v
  | _, [], _, .nil => rfl
  | _, d :: ds, h, .cons r rs => by
    rw [List.all_cons, Bool.and_eq_true] at h
    rw [List.map_cons, r.v h.1, RpA.v h.2 rs]
def inD (d : D) (ds : List D) : Bool := inV d.v (ds.map D.v)
theorem flats_v {ds : List D} (h : ds.all D.flat = true) : (ds.map D.v).all flatV = true := List.all_eq_true.mpr fun v hv => by
  obtain ⟨d, hd, rfl⟩ := List.mem_map.mp hv
  exact flat_v (List.all_eq_true.mp h d hd)
theorem b_inL (h1 : d.flat = true) (h2 : xs.all D.flat = true) : RV K (rInA K) (.d d) (.d (.lst xs)) μ (.d (.bl (inD d xs))) μ := rv_of fun Z H vx vy rx ry Q k => by
  cases ry with
  | lst n h r =>
    rw [rx.v h1]
    have e := RpA.v h2 r
    subst e
    exact ⟨_, _, rfl, .inl (SqL.of h), flat_v h1, flats_v h2, k _ (.bl _)⟩
theorem b_inT (h1 : d.flat = true) (h2 : xs.all D.flat = true) : RV K (rInA K) (.d d) (.d (.tup xs)) μ (.d (.bl (inD d xs))) μ := rv_of fun Z H vx vy rx ry Q k => by
  cases ry with
  | tup n h r =>
    rw [rx.v h1]
    have e := RpA.v h2 r
    subst e
    exact ⟨_, _, rfl, .inr (SqT.of h), flat_v h1, flats_v h2, k _ (.bl _)⟩
theorem b_notinL (h1 : d.flat = true) (h2 : xs.all D.flat = true) : RV K (rNotInA K) (.d d) (.d (.lst xs)) μ (.d (.bl (!inD d xs))) μ := rv_of fun Z H vx vy rx ry Q k => by
  cases ry with
  | lst n h r =>
    rw [rx.v h1]
    have e := RpA.v h2 r
    subst e
    exact ⟨_, _, rfl, .inl (SqL.of h), flat_v h1, flats_v h2, k _ (.bl _)⟩
theorem inD_str (s : Str) (ss : List Str) : inD (.str s) (ss.map .str) = decide (s ∈ ss) := by
  unfold inD inV
  rw [List.map_map, List.any_map]
  induction ss with
  | nil => simp
  | cons a ss ih =>
    rw [List.any_cons, ih, Bool.eq_iff_iff, Bool.or_eq_true, decide_eq_true_eq, decide_eq_true_eq, List.mem_cons]
    refine or_congr ?_ Iff.rfl
    show ((a == s) = true) ↔ s = a
    rw [beq_iff_eq]; exact ⟨Eq.symm, Eq.symm⟩
/-! ### a def held by a name -/
end
/-- a def at f -/
structure CalAt (gd : Bool) (P : Program) (w : World) (K : PySem.W.Frag) (mg : Str → Option Value) (base : Heap) (k : Nat) (f : Addr) (sp : Sp) : Prop where
  ex : ∃ (fd : FuncData) (ps : List Str), FnG gd P w K mg base k f fd ps sp ∧ PySem.W.keepIn K (.ref f) = true ∧ Binds K fd ps []
theorem Cal.at {gd : Bool} {P : Program} {w : World} {K : PySem.W.Frag} {mg : Str → Option Value} {base : Heap} {k : Nat} {x : Str} {sp : Sp} {f : Addr} (c : Cal gd P w K mg base k x sp) (h : mg x = some (.ref f)) : CalAt gd P w K mg base k f sp := by
  obtain ⟨f', fd, ps, F, hm, kp, b⟩ := c.ex
  rw [h] at hm
  cases hm
  exact ⟨fd, ps, F, kp, b⟩
def tClL (i : Nat) (f : Addr) (sp : Sp) (W : WX) (t : TA) : TE := fun σ H Q => σ[i]? = some (some (.ref f)) ∧ tCl sp [] W t σ H Q
section
variable {X : Cx} {W : WX} {k j i : Nat} {f : Addr} {sp : Sp} {x : Str} {p pos : Pos} {e : Expr} {es : List Expr} {t : TA}
theorem k_callL {gd : Bool} (K : PySem.W.Frag) (hK : X.K = K) (c : CalAt gd X.prog X.w K X.mg X.base k f sp) (hr : Room j X.A) (hk : k ≤ j) (hgd : gd = true → X.A.guards = some []) (hN : X.N[i]? = some x) (hv : Vis X.env.scope x) (tk : Takes X W) (ha : PA X (e :: es) t)
    (hdb : (x == ("__debug__" : Str)) = false := by decide) (hcd : (x == ("__classdict__" : Str)) = false := by decide) (he : starEach (e :: es) X.env = (false, eval e X.env) :: starEach es X.env := by rfl) (hpl : (backTo pos (starEach es X.env)).any (·.1) = false := by rfl) :
    PE X (.Call (.Name x p) (e :: es) [] pos) (tClL i f sp W t) := by
  subst hK
  obtain ⟨fd, ps, F, kp, b⟩ := c.ex
  refine ⟨fun pins s σ H Q I h => ?_⟩
  obtain ⟨hs, ht⟩ := h
  refine wpAny_Call_Name_kw (thn ((pe_var (pos := p) hN hv hdb hcd).run pins s σ H (fun v H1 => v = .ref f ∧ H1 = H) I ⟨.ref f, hs, rfl, rfl⟩) fun u s1 hh => ?_)
  obtain ⟨v, H1, I1, r1, rfl, rfl⟩ := hh
  cases r1
  refine PySem.W.callWith_K (h₀ := X.base) I.ok.mod.kin kp (thn (ha.run pos pins s1 σ _ _ I1 ht) ?_) he hpl
  rintro us s2 ⟨vs, H2, I2, rv, q⟩
  exact ⟨I2.kIn, run_cl (F.mono hk) hr hgd b .nil tk I2 rv q⟩
/-- a def or a class of the module as a value -/
theorem k_fun {C : Addr} (hg : Gl X x) (hm : X.mg x = some (.ref C)) (hd : (x == ("__debug__" : Str)) = false := by decide) : PE X (.Name x p) (tC (.ref C)) := pe_glob hg hm rfl hd
end
section
variable {K : PySem.W.Frag} {W : WX} {ρ : Slots} {μ μ1 : List CC} {ta : TA} {te : TE} {i : Nat} {f : Addr} {R : Ctr} {z : AV}
theorem ev_clL (hs : ρ[i]? = some (some (.d (.raw (.ref f))))) (h : EV K (tCl (SpR K R) [] W ta) ρ μ z μ1) : EV K (tClL i f (SpR K R) W ta) ρ μ z μ1 := fun α Z σ H ok sl Q k => by
  obtain ⟨v, h1, h2⟩ := sl.at_ i _ hs
  cases h2 with
  | d h2 => cases h2; exact ⟨h1, h α Z σ H ok sl Q k⟩
end
/-! ### e.value of a caught own exception -/
theorem k_xf_value {X : Cx} (K : PySem.W.Frag) (hK : X.K = K) {cn : Str} {a C : Addr} {oe : Obj} {cls : Value} {d : Option Addr} {pn : List (Addr × Obj)} {e : Expr} {te : TE} {pos : Pos} (T : ∃ fI, PySem.LowX_value.LowTxt K X.mg cn C fI)
    (hz : Zc cls d oe) (hf : ∃ vs, oe.data = .fields vs) (he : PE (X.suite a ((a, oe) :: pn)) e te) (hb : attributeBase e "value" X.env (eval e X.env) = eval e X.env := by rfl) : PE (X.suite a ((a, oe) :: pn)) (.Attribute e "value" pos) (tXf a cls d C "value" te) := by
  subst hK; obtain ⟨fI, T⟩ := T
  exact pe_xf ⟨T.ga, T.gg, T.exC, T.hdC⟩ T.noN hz hf he hb
theorem k_xf_index {X : Cx} (K : PySem.W.Frag) (hK : X.K = K) {cn : Str} {a C : Addr} {oe : Obj} {cls : Value} {d : Option Addr} {pn : List (Addr × Obj)} {e : Expr} {te : TE} {pos : Pos} (T : ∃ fI, PySem.LowX_index.LowTxt K X.mg cn C fI)
    (hz : Zc cls d oe) (hf : ∃ vs, oe.data = .fields vs) (he : PE (X.suite a ((a, oe) :: pn)) e te) (hb : attributeBase e "index" X.env (eval e X.env) = eval e X.env := by rfl) : PE (X.suite a ((a, oe) :: pn)) (.Attribute e "index" pos) (tXf a cls d C "index" te) := by
  subst hK; obtain ⟨fI, T⟩ := T
  exact pe_xf ⟨T.ga, T.gg, T.exC, T.hdC⟩ T.noN hz hf he hb
end DL

set_option Elab.async false
set_option linter.all false
set_option maxRecDepth 100000
set_option maxHeartbeats 4000000
/-! DL19: tuple * int, star displays. -/
namespace DL
open PySem PySem.Spec PyProof.Rows L2
def rRepA (K : PySem.W.Frag) : R2 := fun x y H Q => ∃ l k xs, x = .ref l ∧ y = .int k ∧ SqT K H l xs ∧ xs ≠ [] ∧ 2 ≤ k ∧ (xs.length : Int) * k ≤ 1000000 ∧ ∀ p, H p = none → Q (.ref p) (upd H p (.tup (List.replicate k.toNat xs).flatten))
section
variable {X : Cx}
theorem k_repT (K : PySem.W.Frag) (hK : X.K = K) : OpR X (binaryOp .Mult) (rRepA K) := by
  subst hK
  intro pins s σ H x y v u Q I rx ry h
  obtain ⟨l, k, xs, rfl, rfl, hT, ne, k2, many, q⟩ := h
  cases rx
  obtain ⟨t, rfl⟩ := ry
  obtain ⟨its, r, ⟨⟨cls, dd, data, sl⟩, ho, hc, n, hd⟩, hs⟩ := I.tuple hT
  simp only at hc hd
  subst hc hd
  have len1 : its.length = xs.length := r.length.symm
  have pos : 0 < xs.length := List.length_pos_iff.mpr ne
  have emp : its.toArray.isEmpty = false := by
    cases its with
    | nil => simp at len1; omega
    | cons a b => rfl
  have siz : its.toArray.size = xs.length := by rw [List.size_toArray, len1]
  have kle : k ≤ 1000000 := by
    have z : 1 * k ≤ (xs.length : Int) * k := Int.mul_le_mul_of_nonneg_right (by omega) (by omega)
    omega
  have nat : k.toNat * xs.length ≤ 1000000 := by
    have z : ((k.toNat * xs.length : Nat) : Int) = (xs.length : Int) * k := by rw [Int.natCast_mul, Int.toNat_of_nonneg (by omega), Int.mul_comm]
    omega
  have d0 : (decide (k < -(2 ^ 63)) || decide (k ≥ 2 ^ 63)) = false := by rw [decide_eq_false (by omega), decide_eq_false (by omega)]; rfl
  have d1 : (its.toArray.isEmpty || k == 1) = false := by rw [emp, Bool.false_or]; exact beq_eq_false_iff_ne.mpr (by omega)
  have d2 : (decide (k ≤ 0) || its.toArray.isEmpty) = false := by rw [emp, Bool.or_false]; exact decide_eq_false (by omega)
  have d3 : ((its.toArray.size : Nat) : Int) * k ≤ 1000000 := by rw [siz]; exact many
  have d4 : Builtin.Tuple.tupleTooMany (((its.toArray.size : Nat) : Int) * k) = false := by
    unfold Builtin.Tuple.tupleTooMany
    rw [sizeLine_eq]; exact decide_eq_false (by omega)
  have d5 : (List.replicate k.toNat its).flatten.length ≤ sizeLine := by rw [lm_len_rep_flat, len1, sizeLine_eq]; omega
  refine wpAny_binaryOp_repeat_ref (T := "tuple") (U := "int") (by decide) ⟨_, ho, rfl⟩ (fun s' => typeIs_int s' k t) noFill_tuple_mul F.fills_int_mul F.slot_int_rmul repeat_tuple F.slot_int_index.lookup
    (call_meets F.slot_int_rmul (typeIs_int s k t) F.entry_int_rmul (F.args_int_rmul_2 _ _) (int_rmul_tuple k t l its.toArray n dd sl) ⟨ho, rfl, ⟨_, ho, rfl⟩,
      call_meets F.slot_tuple_mul ⟨_, ho, rfl⟩ F.entry_tuple_mul (F.args_tuple_mul_2 _ _) (tuple_mulW l its.toArray n dd sl k t d0 d1 d2 (by omega) d4 (by rw [size_rep, List.size_toArray]; exact d5)) ⟨ho, ?_⟩⟩)
  rw [size_rep]
  have new : ObjOk X.prog X.w (upd H s.heap.objs.size (.tup (List.replicate k.toNat xs).flatten)) (s.heap.push { cls := .type "tuple", data := .seq (List.replicate k.toNat its).flatten.toArray }) s.heap.objs.size (.tup (List.replicate k.toNat xs).flatten) :=
    ⟨by rw [lm_len_rep_flat, sizeLine_eq]; omega, _, r.rep k.toNat, IsTup.new _ _⟩
  exact ⟨.ref s.heap.objs.size, _, I.laid (t' := s.toks) (fun b ob z => Heap.get?_push_of_some _ z) (Nat.le_refl _) new, rfl, q _ (I.hok.fresh (Nat.le_refl _))⟩
end
section
variable {K : PySem.W.Frag} {W : WX} {ρ : Slots} {μ μ1 μ2 : List CC} {ta : TA} {te : TE} {xs : List D} {ys : List AV} {j : Int}
theorem b_repT (h1 : xs ≠ []) (h2 : 2 ≤ j) (h3 : (xs.length : Int) * j ≤ 1000000) : RV K (rRepA K) (.d (.tup xs)) (.d (.int j)) μ (.d (.tup (List.replicate j.toNat xs).flatten)) μ := fun α Z H ok vx vy rx ry Q k => by
  cases rx with
  | d rx => cases ry with
    | d ry =>
      cases ry
      cases rx with
      | tup n h r =>
        refine ⟨_, j, _, rfl, rfl, SqT.of h, (fun z => h1 ?_), h2, by rw [r.length]; exact h3, fun p hp => k _ _ ((Ext.new hp : Ext α H _)) (ok.laid hp) (.d (.tup (ok.w.off hp) upd_same ((r.rep j.toNat).mono (α := []) (fun a h => absurd h List.not_mem_nil) (Ext.laid hp))))⟩
        have e := r.length
        rw [z] at e
        exact List.eq_nil_of_length_eq_zero e.symm
/-- *e in a display, e a tuple -/
theorem ea_starT (h : EV K te ρ μ (.d (.tup xs)) μ1) (hr : EA K ta ρ μ1 ys μ2) : EA K (StX.tStar K te ta) ρ μ (xs.map .d ++ ys) μ2 := fun α Z σ H ok sl Q k => h α Z σ H ok sl _ fun v H1 e1 ok1 r1 => by
  cases r1 with
  | d r1 => cases r1 with
    | tup n h1 r =>
      exact ⟨_, _, rfl, .inl (SqT.of h1), hr α Z σ H1 ok1 (sl.ext ok e1) _ fun ws H2 e2 ok2 r2 => k _ H2 (e1.trans e2) ok2 (((RpVs.of_data r).ext ok1 e2).append r2)⟩
theorem ea_starL (h : EV K te ρ μ (.d (.lst xs)) μ1) (hr : EA K ta ρ μ1 ys μ2) : EA K (StX.tStar K te ta) ρ μ (xs.map .d ++ ys) μ2 := fun α Z σ H ok sl Q k => h α Z σ H ok sl _ fun v H1 e1 ok1 r1 => by
  cases r1 with
  | d r1 => cases r1 with
    | lst n h1 r =>
      exact ⟨_, _, rfl, .inr (SqL.of h1), hr α Z σ H1 ok1 (sl.ext ok e1) _ fun ws H2 e2 ok2 r2 => k _ H2 (e1.trans e2) ok2 (((RpVs.of_data r).ext ok1 e2).append r2)⟩
end
end DL

set_option Elab.async false
set_option linter.all false
set_option maxRecDepth 100000
set_option maxHeartbeats 4000000
/-! DL20: kinds asked of any value; signs of a text. -/
namespace DL
open PySem PySem.Spec PyProof.Rows L2
def D.isStr : D → Bool
  | .str _ => true
  | _ => false
def D.isTup : D → Bool
  | .tup _ => true
  | _ => false
def D.isLst : D → Bool
  | .lst _ => true
  | .fz _ => true
  | _ => false
def D.isInt : D → Bool
  | .int _ => true
  | .bl _ => true
  | _ => false
def D.isBool : D → Bool
  | .bl _ => true
  | _ => false
section
variable {K : PySem.W.Frag} {ρ : Slots} {μ μ1 : List CC} {te : TE} {d : D} {a : Str}
theorem b_isStr (h : d.ty.isSome = true) : RC K (rIsi K) [.d d, .d (.raw (.ty "str"))] μ (.d (.bl d.isStr)) μ := by
  cases d <;> first | exact b_isi rfl rfl | (simp [D.ty] at h)
theorem b_isTup (h : d.ty.isSome = true) : RC K (rIsi K) [.d d, .d (.raw (.ty "tuple"))] μ (.d (.bl d.isTup)) μ := by
  cases d <;> first | exact b_isi rfl rfl | (simp [D.ty] at h)
theorem b_isLst (h : d.ty.isSome = true) : RC K (rIsi K) [.d d, .d (.raw (.ty "list"))] μ (.d (.bl d.isLst)) μ := by
  cases d <;> first | exact b_isi rfl rfl | (simp [D.ty] at h)
theorem b_isInt (h : d.ty.isSome = true) : RC K (rIsi K) [.d d, .d (.raw (.ty "int"))] μ (.d (.bl d.isInt)) μ := by
  cases d <;> first | exact b_isi rfl rfl | (simp [D.ty] at h)
theorem b_isBool (h : d.ty.isSome = true) : RC K (rIsi K) [.d d, .d (.raw (.ty "bool"))] μ (.d (.bl d.isBool)) μ := by
  cases d <;> first | exact b_isi rfl rfl | (simp [D.ty] at h)
theorem b_isSeq (h : d.ty.isSome = true) : RC K (rIsiT K) [.d d, .d (.tup [.raw (.ty "list"), .raw (.ty "tuple")])] μ (.d (.bl (d.isLst || d.isTup))) μ := by
  cases d <;> first | exact b_isi2 rfl rfl rfl | (simp [D.ty] at h)
/-- one sign -/
abbrev sgD (c : Nat) : D := .str ⟨#[c]⟩
theorem iw_signs (h : EV K te ρ μ (.d (.str a)) μ1) : IW K (iStr te) ρ μ ((a.cps.toList.map sgD).map .d) μ1 := (iw_str h).to (by rw [List.map_map]; rfl)
end
end DL

set_option Elab.async false
set_option linter.all false
set_option maxRecDepth 100000
set_option maxHeartbeats 4000000
/-! DL21: if and for in a generator's body. -/
namespace DL
open PySem PySem.Spec PyProof.Rows L2 GenW
section
variable {X : Cx}
def tGIf (c : TT) (t u : TGn) : TGn := fun D ys σ H => c σ H fun b H1 => if b = true then t D ys σ H1 else u D ys σ H1
theorem gs_if {test : Expr} {body orelse : List Stmt} {pos : Pos} {c : TT} {t u : TGn} (hc : PT X test c) (hb : GSs X body t) (ho : GSs X orelse u) : GS X (.If test body orelse pos) (tGIf c t u) := by
  refine ⟨fun A S ip R n ys s₀ co fs K J gd lv s σ H D g hn k hI ht => ?_⟩
  obtain ⟨acc, cc, r, I⟩ := hI
  show Seg _ _ _ _ _ _ _ (((standAt pos : Sem Unit) >>= fun _ => (isTrue test X.env (eval test X.env) >>= fun b => if b = true then execs body X.env else execs orelse X.env)).wrap K J gd lv) _ _
  refine seg_bind_wrap (wpAny_standAt (seg_bind_wrap ?_))
  rw [g.over]
  refine wpAny_mono (hc.run _ s σ H _ I ht) (fun b s' hb' => ?_) fun x s' hx => k.exc n s₀ x s' hx
  obtain ⟨H1, I1, q⟩ := hb'
  cases b with
  | true => exact hb.run A S ip R n ys s₀ co fs K J gd lv s' σ H1 D g hn k ⟨acc, cc, r, I1⟩ q
  | false => exact ho.run A S ip R n ys s₀ co fs K J gd lv s' σ H1 D g hn k ⟨acc, cc, r, I1⟩ q
end
section
variable {prog : Program} {w : World} {A : Around} {R : GenEnd} {Y : Protocol} {n : Nat} {s₀ : Shared} {fs : List Frame} {s : Shared} {env : Env}
/-- what a loop's code does with an exception -/
def loopX (env : Env) (e : Value) : Sem PySem.Fin := (do noteFrame e env; theTreesLotGoes e : Sem Unit).wrap (fun _ => .raise e) .raise id id
theorem seg_forTurn {tg : Expr} {it : Value} {body : List Stmt}
    (h : wpAny (model prog w) (A.over (.forLoop tg it body [] env) fs) (pyNext it) (fun r s1 => match r with
      | none => Seg (model prog w) A R Y n s₀ (.block [] env) ((model prog w).den (.block [] env)) fs s1
      | some v => wpAny (model prog w) (A.over (.forLoop tg it body [] env) fs) (letOwnedTupleGo tg it v) (fun _ s2 => wpAny (model prog w) (A.over (.forLoop tg it body [] env) fs) (assign tg env v) (fun _ s3 =>
          Seg (model prog w) A R Y n s₀ (.forLoop tg it body [] env) ((execs body env).wrap (fun f => match f with
            | .next | .cont => .pure (.again (.forLoop tg it body [] env))
            | .brk => .pure (.done .next)
            | .ret v => .pure (.done (.ret v))) (loopX env) id id) fs s3)
          (fun x s' => Seg (model prog w) A R Y n s₀ (.forLoop tg it body [] env) (loopX env x) fs s') s2) (fun x s' => Seg (model prog w) A R Y n s₀ (.forLoop tg it body [] env) (loopX env x) fs s') s1)
      (fun x s' => Seg (model prog w) A R Y n s₀ (.forLoop tg it body [] env) (loopX env x) fs s') s) :
    Seg (model prog w) A R Y n s₀ (.forLoop tg it body [] env) ((model prog w).den (.forLoop tg it body [] env)) fs s := by
  show Seg _ A R Y n s₀ _ ((forTurn tg it body [] env).onRaise (fun x => do noteFrame x env; theTreesLotGoes x)) fs s
  have hx : ∀ e : Value, ((do noteFrame e env; theTreesLotGoes e : Sem Unit).bind fun _ => (.raise e : Sem PySem.Fin)) = loopX env e := fun e => Sem.bind_eq_wrap _ _
  unfold forTurn
  rw [Sem.onRaise_eq_wrap]
  simp only [hx]
  refine seg_bind_wrap (wpAny_standAt (seg_bind_wrap (wpAny_onRaise (wpAny_mono h (fun r s1 h1 => ?_) fun _ _ q => wpAny_standAt q))))
  cases r with
  | none => exact seg_again rfl h1
  | some v =>
    refine seg_bind_wrap (wpAny_mono h1 (fun _ s2 h2 => seg_bind_wrap (wpAny_mono h2 (fun _ s3 h3 => ?_) fun _ _ q => q)) fun _ _ q => q)
    rw [Sem.bind_eq_wrap', Sem.wrap_wrap]
    refine Eq.mpr (congrArg (fun t => Seg (model prog w) A R Y n s₀ (.forLoop tg it body [] env) t fs s3) (Sem.wrap_congr (execs body env) id id (fun f => ?_) fun e => ?_)) h3
    · cases f <;> rfl
    · rfl
end
section
variable {X : Cx}
/-- for in a generator's body -/
def tGFor (wi : TI) (g : TG) (tb : TGn) : TGn := fun D ys σ H => wi σ H fun J H1 => ∃ W : Nat → Nat → List V → L2.St → Hp → Prop, (∃ m, W 0 m ys σ H1) ∧ ∀ i m ys σ H, W i m ys σ H →
  (J.stop i H ∧ D.nx ys σ H) ∨ (J.go i H ∧ ∃ N : List V → L2.St → Hp → Prop, (∀ ys' σ' H', N ys' σ' H' → ∃ m', m' < m ∧ W (i + 1) m' ys' σ' H') ∧ ∀ x H', J.yld i H x H' → g x σ H' fun σ2 H2 => tb { D with nx := N, ct := N, bk := D.nx } ys σ2 H2)
theorem gs_for {tg iter : Expr} {body : List Stmt} {wi : TI} {g : TG} {tb : TGn} {pos : Pos} (hp : PassesOwn (model X.prog X.w) X.A X.env X.xe) (hc : X.calm = true) (hi : PI X tg iter wi) (hg : PG X tg g) (hb : GSs X body tb)
    (hs : ∀ x, foldedSetIterable iter X.env x = pure x := by intro _; rfl) : GS X (.For tg iter body [] pos) (tGFor wi g tb) := by
  refine ⟨fun A S ip R n ys s₀ co fs K J gd lv s σ H D G hn k hI ht => ?_⟩
  obtain ⟨acc, cc, r, I⟩ := hI
  rw [exec_For]
  refine seg_bind_wrap (wpAny_standAt (seg_bind_wrap ?_))
  rw [G.over]
  refine wpAny_mono (hi.run _ s σ H _ I ht) (fun v s1 h1 => ?_) fun x s' hx => k.exc n s₀ x s' hx
  refine seg_bind_wrap (wpAny_of_eq (hs v) (seg_bind_wrap (wpAny_standAt (seg_bind_wrap ?_))))
  rw [G.over]
  refine wpAny_holding (wpAny_mono h1 (fun itv s2 h2 => ?_) fun x s' hx => k.exc n s₀ x s' hx)
  obtain ⟨it, fp, tn, It, H2, rfl, I2, T, st2, f2, W, ⟨m0, w0⟩, turn⟩ := h2
  -- the iterator's objects keep off, whatever stands in the consumer's list
  have stat : ∀ {a2 : Array Value} {c2 : Nat} {H' : Hp}, (∀ b ∈ fp, H' b = none) → ∀ b ∈ fp, FpOk X ((S, lstObj a2 c2) :: ip) H' b := fun {a2 c2 H'} hn b hb => by
    obtain ⟨_, q1, q2, q3, q4, q5⟩ := f2 b hb
    refine ⟨hn b hb, q1, q2, q3, q4, fun z hz => ?_⟩
    rcases List.mem_append.mp hz with y | y
    · exact q5 z (List.mem_append_left _ y)
    · rcases List.mem_cons.mp y with e | y
      · rw [e]; exact q5 (S, lstObj acc cc) (List.mem_append_right _ List.mem_cons_self)
      · exact q5 z (List.mem_append_right _ (List.mem_cons_of_mem _ y))
  have offS : ∀ b ∈ fp, b ≠ S := fun b hb e => (f2 b hb).2.2.2.2.2 (S, _) (List.mem_append_right _ List.mem_cons_self) e.symm
  refine seg_call fun p => ?_
  have gl := fun (kk : Result → Sem PySem.Fin) => gc_loop (k := kk) (c' := .forLoop tg (.ref it) body [] X.env) (l := lv []) (kp := []) (p := p) G rfl rfl
  have ee : ∀ (n : Nat) (s₀ : Shared) (x : Value) (s' : Shared), X.xe x s' → Seg (model X.prog X.w) A R (GY X S) n s₀ (.forLoop tg (.ref it) body [] X.env) (loopX X.env x)
      (.ret (fun r => ((match r with | .ok f => (.pure f : Sem Flow) | .error e => .raise e).onRaise (cameBack X.env)).wrap K J gd lv) none (gd false) (lv []) co p [] :: fs) s' := fun n s₀ x s' hx => by
    unfold loopX
    refine seg_wrap ?_
    rw [(gl _).over]
    exact wpAny_bind (wpAny_mono (hp x s' hx) (fun _ s3 q => wpAny_theTreesLotGoes (seg_leaf (.error x) (seg_cameBack G k q))) fun y s3 q => seg_leaf (.error y) (seg_cameBack G k q))
  have go : ∀ (m i n : Nat) (ys : List V) (s₀ s : Shared) (σ : L2.St) (H : Hp), n + ys.length = sizeLine → W i m ys σ H → GI X S ip ys σ H s → tn i s.heap → (∀ b ∈ fp, H b = none) →
      Seg (model X.prog X.w) A R (GY X S) n s₀ (.forLoop tg (.ref it) body [] X.env) ((model X.prog X.w).den (.forLoop tg (.ref it) body [] X.env))
        (.ret (fun r => ((match r with | .ok f => (.pure f : Sem Flow) | .error e => .raise e).onRaise (cameBack X.env)).wrap K J gd lv) none (gd false) (lv []) co p [] :: fs) s := by
    intro m
    induction m using Nat.strongRecOn
    rename_i m ih
    intro i n ys s₀ s σ H hn w hI st fr
    refine seg_forTurn ?_
    rw [(gl _).over]
    obtain ⟨acc, cc, r, I⟩ := hI
    rcases turn i m ys σ H w with ⟨stop, qn⟩ | ⟨goes, N, hN, step⟩
    · refine wpAny_mono (T.done X rfl rfl rfl hc i _ s σ H X.xe I (stat fr) st stop) (fun r0 s4 z => ?_) fun x s' hx => ee n s₀ x s' hx
      obtain ⟨rfl, I4⟩ := z
      exact seg_leaf (.ok .next) (k.ok n ys s₀ s4 .next hn ⟨σ, H, ⟨acc, cc, r, I4⟩, qn⟩)
    · refine wpAny_mono (T.item X rfl rfl rfl hc i _ s σ H X.xe I (stat fr) st goes) (fun r0 s4 z => ?_) fun x s' hx => ee n s₀ x s' hx
      obtain ⟨u, rfl, h4⟩ := z
      refine wpAny_mono h4 (fun _ s5 z => ?_) fun x s' hx => ee n s₀ x s' hx
      obtain ⟨x, H5, I5, r5, y5, st5, fr5⟩ := z
      have I5' := I5.pinned (stat fr5) (T.obj _ _ st5)
      refine wpAny_mono (hg.run _ s5 σ H5 x u _ I5' r5 (step x H5 y5)) (fun _ s6 z => ?_) fun x s' hx => ee n s₀ x s' hx
      obtain ⟨σ6, H6, I6, q6⟩ := z
      have gp := gl (fun r => ((match r with | .ok f => (.pure f : Sem Flow) | .error e => .raise e).onRaise (cameBack X.env)).wrap K J gd lv)
      have gp2 : GC X S (ip ++ pinsAt fp s5.heap) A (.forLoop tg (.ref it) body [] X.env) _ id := ⟨gp.pn, fun q hq => by
        rcases List.mem_append.mp hq with y | y
        · exact gp.ip q y
        · exact offS q.1 (of_pinsAt y).1, gp.apart, gp.over, gp.split, gp.guard, gp.gd⟩
      have un : ∀ {ys' : List V} {σ' : L2.St} {H' : Hp} {s' : Shared}, GI X S (ip ++ pinsAt fp s5.heap) ys' σ' H' s' → GI X S ip ys' σ' H' s' := fun z => by
        obtain ⟨a2, c2, r2, J2⟩ := z
        exact ⟨a2, c2, r2, Inv.unpinned (pins := (S, lstObj a2 c2) :: ip) J2⟩
      have again : ∀ (n' : Nat) (ys' : List V) (s₀' s7 : Shared) (σ7 : L2.St) (H7 : Hp), n' + ys'.length = sizeLine → GI X S (ip ++ pinsAt fp s5.heap) ys' σ7 H7 s7 → N ys' σ7 H7 → Seg (model X.prog X.w) A R (GY X S) n' s₀' (.forLoop tg (.ref it) body [] X.env) (.pure (.again (.forLoop tg (.ref it) body [] X.env)))
          (.ret (fun r => ((match r with | .ok f => (.pure f : Sem Flow) | .error e => .raise e).onRaise (cameBack X.env)).wrap K J gd lv) none (gd false) (lv []) co p [] :: fs) s7 := fun n' ys' s₀' s7 σ7 H7 hn' z n7 => by
        obtain ⟨m', hm, w7⟩ := hN ys' σ7 H7 n7
        obtain ⟨a2, c2, r2, J2⟩ := id z
        refine seg_again rfl (ih m' hm (i + 1) n' ys' s₀' s7 σ7 H7 hn' w7 (un z) ?_ fun b hb => ?_)
        · exact T.keep _ _ _ st5 fun b hb o e => (J2.pin (b, o) (List.mem_append_right _ (List.mem_cons_of_mem _ (List.mem_append_right _ (mem_pinsAt hb e))))).1
        · obtain ⟨o, e, d⟩ := T.obj _ _ st5 b hb
          exact (J2.pin (b, o) (List.mem_append_right _ (List.mem_cons_of_mem _ (List.mem_append_right _ (mem_pinsAt hb e))))).2.1
      refine hb.run A S (ip ++ pinsAt fp s5.heap) R n ys s₀ _ _ _ (loopX X.env) id id s6 σ6 H6 { D with nx := N, ct := N, bk := D.nx } gp2 hn ⟨fun n' ys' s₀' s7 f hn' q7 => ?_, fun n' s₀' x s7 hx => ee n' s₀' x s7 hx⟩ ⟨acc, cc, r, I6⟩ q6
      cases f with
      | next => obtain ⟨σ7, H7, z, n7⟩ := q7; exact again n' ys' s₀' s7 σ7 H7 hn' z n7
      | cont => obtain ⟨σ7, H7, z, n7⟩ := q7; exact again n' ys' s₀' s7 σ7 H7 hn' z n7
      | brk => obtain ⟨σ7, H7, z, q7⟩ := q7; exact seg_leaf (.ok .next) (k.ok n' ys' s₀' s7 .next hn' ⟨σ7, H7, un z, q7⟩)
      | ret u => obtain ⟨x7, σ7, H7, z, r7, q7⟩ := q7; exact seg_leaf (.ok (.ret u)) (k.ok n' ys' s₀' s7 (.ret u) hn' ⟨x7, σ7, H7, un z, r7, q7⟩)
  exact go m0 0 n ys s₀ s2 σ H2 hn w0 ⟨acc, cc, r, I2⟩ st2 fun b hb => (f2 b hb).1
end
end DL

set_option Elab.async false
set_option linter.all false
set_option maxRecDepth 100000
set_option maxHeartbeats 4000000
/-! DL22: a generator's body on data. -/
namespace DL
open PySem PySem.Spec PyProof.Rows L2 GenW
/-- what is wanted behind a statement of a generator; the last: what is out -/
structure GPo where
  nx : Slots → List CC → List D → Prop
  rt : AV → List CC → List D → Prop := fun _ _ _ => False
  bk : Slots → List CC → List D → Prop := fun _ _ _ => False
  ct : Slots → List CC → List D → Prop := fun _ _ _ => False
  xc : Slots → Value → List (Str × D) → List CC → Prop := fun _ _ _ _ => False
structure GCont (K : PySem.W.Frag) (W : WX) (α0 Z0 : List Addr) (H0 : Hp) (D : GEnds) (P : GPo) : Prop where
  nx : ∀ ρ μ out α Z σ H ys, P.nx ρ μ out → Gr α0 Z0 H0 α Z H → Okay K α Z H μ → SlotsOk K α Z H σ ρ → RpA K Z H ys out → D.nx ys σ H
  rt : ∀ r μ out v α Z H ys, P.rt r μ out → Gr α0 Z0 H0 α Z H → Okay K α Z H μ → RpV K α Z H v r → RpA K Z H ys out → D.rt ys v H
  bk : ∀ ρ μ out α Z σ H ys, P.bk ρ μ out → Gr α0 Z0 H0 α Z H → Okay K α Z H μ → SlotsOk K α Z H σ ρ → RpA K Z H ys out → D.bk ys σ H
  ct : ∀ ρ μ out α Z σ H ys, P.ct ρ μ out → Gr α0 Z0 H0 α Z H → Okay K α Z H μ → SlotsOk K α Z H σ ρ → RpA K Z H ys out → D.ct ys σ H
  xc : ∀ ρ c fs μ d α Z σ H, P.xc ρ c fs μ → Gr α0 Z0 H0 α Z H → Okay K α Z H μ → SlotsOk K α Z H σ ρ → ExcOk K Z H d fs → W c d σ H
def GSV (K : PySem.W.Frag) (W : WX) (t : TGn) (ρ : Slots) (μ : List CC) (out : List D) (P : GPo) : Prop :=
  ∀ (α0 Z0 : List Addr) (H0 : Hp) (α Z : List Addr) (σ : L2.St) (H : Hp) (ys : List V) (D : GEnds), WOk α0 Z0 H0 → Gr α0 Z0 H0 α Z H → Okay K α Z H μ → SlotsOk K α Z H σ ρ → RpA K Z H ys out → GCont K W α0 Z0 H0 D P → t D ys σ H
section
variable {K : PySem.W.Frag} {W : WX} {ρ ρ' : Slots} {μ μ1 μ2 : List CC} {out : List D} {P : GPo} {t u : TGn} {te : TE} {d : D}
theorem RpA.grow {α0 Z0 α Z : List Addr} {H0 H : Hp} {ys : List V} (w : WOk α0 Z0 H0) (g : Gr α0 Z0 H0 α Z H) (r : RpA K Z0 H0 ys out) : RpA K Z H ys out := RpA.gr w g r
theorem GCont.up {α0 Z0 α Z : List Addr} {H0 H1 : Hp} {D : GEnds} (kk : GCont K W α0 Z0 H0 D P) (w0 : WOk α0 Z0 H0) (w1 : WOk α Z H1) (g : Gr α0 Z0 H0 α Z H1) : GCont K W α Z H1 D P :=
  ⟨fun ρ μ o α' Z' σ H ys p g' => kk.nx ρ μ o α' Z' σ H ys p (g.trans w0 w1 g'), fun r μ o v α' Z' H ys p g' => kk.rt r μ o v α' Z' H ys p (g.trans w0 w1 g'), fun ρ μ o α' Z' σ H ys p g' => kk.bk ρ μ o α' Z' σ H ys p (g.trans w0 w1 g'), fun ρ μ o α' Z' σ H ys p g' => kk.ct ρ μ o α' Z' σ H ys p (g.trans w0 w1 g'),
    fun ρ c fs μ d α' Z' σ H p g' => kk.xc ρ c fs μ d α' Z' σ H p (g.trans w0 w1 g')⟩
theorem gsv_nil (h : P.nx ρ μ out) : GSV K W tG0 ρ μ out P := fun α0 Z0 H0 α Z σ H ys D w0 g ok sl r k => k.nx ρ μ out α Z σ H ys h g ok sl r
theorem gsv_then (h : GSV K W t ρ μ out { P with nx := fun ρ' μ' o => GSV K W u ρ' μ' o P }) : GSV K W (tGThen t u) ρ μ out P :=
  fun α0 Z0 H0 α Z σ H ys D w0 g ok sl r k => h α0 Z0 H0 α Z σ H ys _ w0 g ok sl r ⟨fun ρ μ o α Z σ H ys p g' ok' sl' r' => p α0 Z0 H0 α Z σ H ys D w0 g' ok' sl' r' k, k.rt, k.bk, k.ct, k.xc⟩
/-- a statement that hands out nothing -/
theorem gsv_plain {t : TS} (h : SV K W t ρ μ { nx := fun ρ' μ' => P.nx ρ' μ' out, rt := fun v μ' => P.rt v μ' out, bk := fun ρ' μ' => P.bk ρ' μ' out, ct := fun ρ' μ' => P.ct ρ' μ' out, xc := P.xc }) : GSV K W (tPlain t) ρ μ out P :=
  fun α0 Z0 H0 α Z σ H ys D w0 g ok sl r k => by
    have k1 := k.up w0 ok.w g
    exact h α Z H α Z σ H (D.at ys) ok.w .refl ok sl ⟨fun ρ2 μ2 α2 Z2 σ2 H2 p g2 ok2 sl2 => k1.nx ρ2 μ2 out α2 Z2 σ2 H2 ys p g2 ok2 sl2 (RpA.gr ok.w g2 r), fun v2 μ2 x2 α2 Z2 H2 p g2 ok2 rv => k1.rt v2 μ2 out x2 α2 Z2 H2 ys p g2 ok2 rv (RpA.gr ok.w g2 r),
      fun ρ2 μ2 α2 Z2 σ2 H2 p g2 ok2 sl2 => k1.bk ρ2 μ2 out α2 Z2 σ2 H2 ys p g2 ok2 sl2 (RpA.gr ok.w g2 r), fun ρ2 μ2 α2 Z2 σ2 H2 p g2 ok2 sl2 => k1.ct ρ2 μ2 out α2 Z2 σ2 H2 ys p g2 ok2 sl2 (RpA.gr ok.w g2 r), k1.xc⟩
theorem gsv_if {b : Bool} {tc : TT} (h : ET K tc ρ μ b μ1) (h1 : b = true → GSV K W t ρ μ1 out P) (h2 : b = false → GSV K W u ρ μ1 out P) : GSV K W (tGIf tc t u) ρ μ out P :=
  fun α0 Z0 H0 α Z σ H ys D w0 g ok sl r k => h α Z σ H ok sl _ fun H1 e1 ok1 => by
    have g1 := g.ext1 w0 ok e1
    have r1 : RpA K Z H1 ys out := RpA.gr ok.w (.of_ext e1) r
    cases b with
    | true => rw [if_pos rfl]; exact h1 rfl α0 Z0 H0 α Z σ H1 ys D w0 g1 ok1 (sl.ext ok e1) r1 k
    | false => rw [if_neg Bool.false_ne_true]; exact h2 rfl α0 Z0 H0 α Z σ H1 ys D w0 g1 ok1 (sl.ext ok e1) r1 k
theorem gsv_yield (h : EV K te ρ μ (.d d) μ1) (hl : out.length ≤ 100000) (k : P.nx ρ μ1 (out ++ [d])) : GSV K W (tGYield te) ρ μ out P :=
  fun α0 Z0 H0 α Z σ H ys D w0 g ok sl r kk => by
    refine ⟨by rw [r.length, sizeLine_eq]; omega, h α Z σ H ok sl _ fun v H1 e1 ok1 r1 => ?_⟩
    cases r1 with
    | d r1 => exact kk.nx _ _ _ α Z σ H1 _ k (g.ext1 w0 ok e1) ok1 (sl.ext ok e1) ((RpA.gr ok.w (.of_ext e1) r).append (.cons r1 .nil))
theorem gsv_for {wi : TI} {g : TG} {items : List AV} (hi : IW K wi ρ μ items μ1) (Inv : Nat → Slots → List CC → List D → Prop) (h0 : Inv 0 ρ μ1 out)
    (hs : ∀ (i : Nat) (d : AV) (ρ1 : Slots) (μ2 : List CC) (o : List D), items[i]? = some d → Inv i ρ1 μ2 o → ∃ ρ2 js, GV K g d ρ1 ρ2 js ∧ GSV K W t ρ2 μ2 o { P with nx := Inv (i + 1), ct := Inv (i + 1), bk := P.nx })
    (hd : ∀ ρ1 μ2 o, Inv items.length ρ1 μ2 o → P.nx ρ1 μ2 o) : GSV K W (tGFor wi g t) ρ μ out P := by
  intro α0 Z0 H0 α Z σ H ys D w0 gr ok sl r kk
  refine hi α Z σ H ok sl _ fun J H1 G Y e1 ok1 w hG hY => ?_
  have gr1 := gr.ext1 w0 ok e1
  refine ⟨fun i m ys' σ' H' => i + m = items.length ∧ ∃ ρ1 μ2 o α' Z', Inv i ρ1 μ2 o ∧ Gr α Z H1 α' Z' H' ∧ Okay K α' Z' H' μ2 ∧ SlotsOk K α' Z' H' σ' ρ1 ∧ RpA K Z' H' ys' o,
    ⟨items.length, Nat.zero_add _, ρ, μ1, out, α, Z, h0, .refl, ok1, sl.ext ok e1, RpA.gr ok.w (.of_ext e1) r⟩, ?_⟩
  rintro i m ys' σ' Hx ⟨him, ρ1, μ2, o, α', Z', hI, g', ok', sl', r'⟩
  have hGx := hG Hx (g'.ext.wide ok1.w)
  by_cases hil : i < items.length
  · refine .inr ⟨w.goes i Hx hil hGx, fun ys2 σ2 H2 => ∃ ρ1 μ2 o α' Z', Inv (i + 1) ρ1 μ2 o ∧ Gr α Z H1 α' Z' H2 ∧ Okay K α' Z' H2 μ2 ∧ SlotsOk K α' Z' H2 σ2 ρ1 ∧ RpA K Z' H2 ys2 o, fun ys2 σ2 H2 z => ⟨m - 1, by omega, by omega, z⟩, fun x Hy hy => ?_⟩
    obtain ⟨d, hd', ey, rd⟩ := hY i Hx x Hy α' Z' (g'.gw ok1.w) ok'.w hil (w.yields i Hx x Hy hil hGx hy)
    obtain ⟨ρ2, js, hg, hb⟩ := hs i d ρ1 μ2 o hd' hI
    have oky := ok'.still ey
    have gy : Gr α Z H1 α' Z' Hy := g'.trans ok1.w ok'.w (.of_ext ey.nil_any)
    have ry : RpA K Z' Hy ys' o := RpA.gr ok'.w (.of_ext ey.nil_any) r'
    refine hg α' Z' μ2 σ' Hy x oky rd (sl'.gr ok'.w (.of_ext ey.nil_any)) _ fun σ2 _ s2 => ?_
    have k1 := kk.up w0 ok1.w gr1
    exact hb α Z H1 α' Z' σ2 Hy ys' _ ok1.w gy oky s2 ry ⟨fun ρ3 μ3 o3 α3 Z3 σ3 H3 ys3 hI3 g3 ok3 s3 r3 => ⟨ρ3, μ3, o3, α3, Z3, hI3, g3, ok3, s3, r3⟩, k1.rt, k1.nx, fun ρ3 μ3 o3 α3 Z3 σ3 H3 ys3 hI3 g3 ok3 s3 r3 => ⟨ρ3, μ3, o3, α3, Z3, hI3, g3, ok3, s3, r3⟩, k1.xc⟩
  · have e : i = items.length := by omega
    subst e
    exact .inl ⟨w.stops Hx hGx, kk.nx _ _ _ α' Z' σ' Hx ys' (hd _ _ _ hI) (gr1.trans w0 ok1.w g') ok' sl' r'⟩
end
end DL

set_option Elab.async false
set_option linter.all false
set_option maxRecDepth 100000
set_option maxHeartbeats 4000000
/-! DL23: a generator def by contract; list(f(..)). -/
namespace DL
open PySem PySem.Spec PyProof.Rows L2 GenW
/-- a generator def's promise by a contract: what it hands out (Out.new) -/
def SpGR (K : PySem.W.Frag) (R : Ctr) : SpG := fun vs H Q E => ∃ (Z : List Addr) (args : List AV) (o : Out), Okay K [] Z H [] ∧ RpVs K [] Z H vs args ∧ R args [] o [] ∧
  (∀ xs ys H', o = .new xs → Ext [] H H' → Okay K [] Z H' [] → RpA K Z H' ys xs → Q ys H') ∧ (∀ c fs d H', o = .exc c fs → Ext [] H H' → Okay K [] Z H' [] → ExcOk K Z H' d fs → E c d H')
def gpoOf (o : Out) : GPo where
  nx := fun _ _ out => o = .new out
  rt := fun v _ out => v = .d .non ∧ o = .new out
  xc := fun _ c fs _ => o = .exc c fs
theorem Okay.none0 {K : PySem.W.Frag} {α Z Z0 : List Addr} {H : Hp} {μ : List CC} (ok : Okay K α Z H μ) (h : ∀ z ∈ Z0, z ∈ Z) : Okay K [] Z0 H [] := ⟨⟨.nil, fun a h => absurd h List.not_mem_nil, fun z hz => ok.w.there z (h z hz)⟩, ⟨rfl, fun k a c h => by simp at h⟩⟩
section
variable {P : Program} {w : World} {K : PySem.W.Frag} {mg : Str → Option Value} {base : Heap}
/-- THE RULE: a generator def by its body's data -/
theorem gfng_body {x qual : Str} {st : Stmt} {f : Addr} {fd : FuncData} {N ps : List Str} {k : Nat} {R : Ctr} (F : Fun K x qual st f fd) (S : GScope N ps (defScope st)) (hlen : ∀ args o, R args [] o [] → args.length = ps.length)
    (hb : ∀ (cdv : Value) (A : Around) (outer : List Env) (s : Shared) (H : Hp) (E : XK) (pn : List (Addr × Obj)), Room k (A.deeper (envOfC qual (defScope st) s.heap.objs.size f cdv)) →
      ∃ t, GSs (gcxOf P w K mg base N qual (defScope st) f cdv A outer s H E pn) (defBody st) t ∧ ∀ args o, R args [] o [] → GSV K (fun c d _ H => E c d H) t (startA N args) [] [] (gpoOf o)) :
    GFn P w K mg base (k + 1) f fd ps (SpGR K R) := by
  obtain ⟨oc, od, kV, doc, pm, an, cdv, ct, osl, rfl, lk, hcd⟩ := F.ex
  refine gfn_of lk hcd S (fun vs H Q E h => ?_) (fun A outer s H vs Q E pn hr h => ?_)
  · obtain ⟨Z, args, o, _, r, hR, _⟩ := h
    rw [r.length]; exact hlen _ _ hR
  · obtain ⟨Z, args, o, ok, rv, hR, hq, he⟩ := h
    obtain ⟨t, ht, hs⟩ := hb cdv A outer s H E pn hr
    have hN : ps.length ≤ N.length := by have := congrArg List.length S.pre; rw [List.length_take] at this; omega
    have hl := hlen _ _ hR
    refine ⟨t, ht, hs args o hR [] Z H [] Z _ H [] _ ok.w .refl ok (slots_start rv (by omega)) .nil ⟨?_, ?_, fun _ _ _ _ _ _ _ _ h => h.elim, fun _ _ _ _ _ _ _ _ h => h.elim, ?_⟩⟩
    · intro ρ μ out α1 Z1 σ1 H1 ys p g ok1 sl1 r1
      exact hq out ys H1 p g.ext (ok1.none0 g.keep) (r1.weak g.keep)
    · intro v μ out v1 α1 Z1 H1 ys p g ok1 rv1 r1
      obtain ⟨rfl, p⟩ := p
      cases rv1 with
      | d rv1 => cases rv1; exact ⟨rfl, hq out ys H1 p g.ext (ok1.none0 g.keep) (r1.weak g.keep)⟩
    · intro ρ c fs μ d α1 Z1 σ1 H1 p g ok1 sl1 xo
      refine he c fs d H1 p g.ext (ok1.none0 g.keep) ?_
      rcases xo with q | ⟨a, vs, q1, q2, q3, q4⟩
      · exact .inl q
      · exact .inr ⟨a, vs, q1, fun z => q2 (g.keep _ z), q3, q4.weak g.keep⟩
end
/-- a generator def that may be called by its name -/
structure GCal (P : Program) (w : World) (K : PySem.W.Frag) (mg : Str → Option Value) (base : Heap) (k : Nat) (x : Str) (n : Nat) (ks : List Str) (sp : SpG) : Prop where
  ex : ∃ (f : Addr) (fd : FuncData) (ps : List Str), GFn P w K mg base k f fd ps sp ∧ mg x = some (.ref f) ∧ PySem.W.keepIn K (.ref f) = true ∧ KBn K fd ps n ks (fun us ws => us ++ ws) (fun vs zs => vs ++ zs)
/-- f(e, .., k = v, ..) of a generator def -/
def tCallGN (n m : Nat) (sp : SpG) (E : XK) (t tk : TA) : TGen := fun σ H cont => t σ H fun vs H1 => tk σ H1 fun zs H2 => vs.length = n ∧ zs.length = m ∧ sp (vs ++ zs) H2 cont E
section
variable {X : Cx} {k n : Nat} {x : Str} {ks : List Str} {sp : SpG} {E : XK} {p pos : Pos} {e : Expr} {es : List Expr} {kws : List Keyword} {t tk : TA}
theorem pgen_callN (K : PySem.W.Frag) (hK : X.K = K) (c : GCal X.prog X.w K X.mg X.base k x n ks sp) (hr : Room k X.A) (hg : Gl X x) (ha : PA X (e :: es) t) (hkw : PK X kws tk)
    (hall : (backToKw pos (keywordEach kws X.env)).all (·.1.isSome) = true := by rfl) (hks : (backToKw pos (keywordEach kws X.env)).filterMap (·.1) = ks := by rfl) (hdb : (x == ("__debug__" : Str)) = false := by decide) (he : starEach (e :: es) X.env = (false, eval e X.env) :: starEach es X.env := by rfl)
    (hpl : ((backTo pos (starEach (e :: es) X.env)).any (·.1) || (backToKw pos (keywordEach kws X.env)).any (·.1.isNone)) = false := by rfl) :
    PGen X k (.Call (.Name x p) (e :: es) kws pos) (tCallGN n ks.length sp E t tk) E := by
  subst hK
  obtain ⟨f, fd, ps, F, hm, kp, hb⟩ := c.ex
  refine ⟨fun pins s σ H cont I h => ?_⟩
  refine wpAny_Call_Name_kw (ld_glob I hg hm (PySem.W.callWith_KW (h₀ := X.base) I.ok.mod.kin kp hall (thn (ha.run pos pins s σ H _ I h) fun us s1 hh => ?_) hpl he) hdb)
  obtain ⟨vs, H1, I1, r, q⟩ := hh
  refine thn (hkw.run pos pins s1 σ H1 _ I1 q) fun ws s2 h2 => ?_
  obtain ⟨zs, H2, I2, rz, l1, l2, q2⟩ := h2
  refine ⟨I2.kIn, ?_⟩
  rw [hks]
  have r2 : Vals (vs ++ zs) (us ++ ws) := hb.rel r rz
  refine wpAny_call (codeAny_mono (F.run X.A X.stack s2 H2 ⟨us, ks.zip ws⟩ (us ++ ws) (vs ++ zs) cont E hr I2.env0 (hb.to s2 us ws I2.kIn (r.length.symm.trans l1) (rz.length.symm.trans l2)) r2 q2) fun z s3 hq => ?_)
  match z, hq with
  | .ok (.ret u), hq => exact ⟨H2, s2, [], I2, .nil, hq⟩
  | .error _, hq => exact hq.elim
  | .ok .next, hq => exact hq.elim
  | .ok .brk, hq => exact hq.elim
  | .ok .cont, hq => exact hq.elim
/-- list(f(..)), no exception -/
theorem k_listG (K : PySem.W.Frag) (hK : X.K = K) {tg : TGen} (h : PGen X k e tg (fun _ _ _ => False)) (hr : Room (k + 3) X.A) (hg : Gl X "list") (hmg : X.mg "list" = none) (he : starEach [e] X.env = (false, eval e X.env) :: starEach [] X.env := by rfl) :
    PE X (.Call (.Name "list" p) [e] [] pos) (tListG tg) := by
  subst hK
  exact pe_listG h (fun _ _ _ _ _ _ _ z => by obtain ⟨_, _, _, _, _, _, _, _, _, _, _, _, q⟩ := z; exact q.elim) (fun _ _ _ z => z.elim) hr hg hmg (by decide +kernel) (he := he)
end
section
variable {K : PySem.W.Frag} {W : WX} {ρ : Slots} {μ μ1 μ2 : List CC} {ta tk : TA} {R : Ctr} {as bs xs : List D} {n m : Nat} {E : XK}
/-- list of what a generator hands out -/
theorem en_listG (h1 : EA K ta ρ μ (as.map .d) μ1) (h2 : EA K tk ρ μ1 (bs.map .d) μ2) (hn : as.length = n) (hm : bs.length = m) (hR : R ((as ++ bs).map .d) [] (.new xs) []) : EN K (tListG (tCallGN n m (SpGR K R) E ta tk)) ρ μ (xs.map .d) μ2 :=
  fun α Z σ H ok sl Q k => h1 α Z σ H ok sl _ fun vs H1 e1 ok1 r1 => h2 α Z σ H1 ok1 (sl.ext ok e1) _ fun ws H2 e2 ok2 r2 => by
    have e12 := e1.trans e2
    refine ⟨by rw [r1.length, List.length_map]; exact hn, by rw [r2.length, List.length_map]; exact hm, Z, _, .new xs, ok2.noCells, by rw [List.map_append]; exact ((r1.ext ok1 e2).re (data_all as)).append (r2.re (data_all bs)), hR, fun xs' ys H' e ex ok' rv p hp => ?_, fun c fs d H' e => nomatch e⟩
    cases e
    have ok3 := ok2.still ex
    have e3 : Ext α H H' := e12.trans ex.nil_any
    exact k p ys _ (e3.trans (Ext.new hp)) (none_back (fun q => ok3.w.off hp (ok3.w.sub p q)) e3 hp) upd_same (ok3.keepOff hp (Ext.laid hp) ⟨_, upd_same⟩) (.of_data ((RpA.more hp rv).mono (α := []) (fun a h => absurd h List.not_mem_nil) (Ext.laid hp)))
end
end DL

set_option Elab.async false
set_option linter.all false
set_option maxRecDepth 100000
set_option maxHeartbeats 4000000
/-! DL24: is None of any value. -/
namespace DL
open PySem PySem.Spec PyProof.Rows L2
def D.isNon : D → Bool
  | .non => true
  | _ => false
section
variable {K : PySem.W.Frag} {μ : List CC} {d : D}
theorem Rp.notNon {Z : List Addr} {H : Hp} {v : V} (h : d.ty.isSome = true) (hn : d.isNon = false) (r : Rp K Z H v d) : v ≠ .non := fun e => by
  subst e
  cases r with
  | non => cases hn
  | raw => cases h
theorem Rp.isNon {Z : List Addr} {H : Hp} {v : V} (h : d.ty.isSome = true) (r : Rp K Z H v d) : decide (v = .non) = d.isNon := by
  cases hn : d.isNon with
  | true => cases r <;> first | exact decide_eq_true rfl | cases hn
  | false => exact decide_eq_false (r.notNon h hn)
theorem b_isNon (h : d.ty.isSome = true) : RV K rIsA (.d d) (.d .non) μ (.d (.bl d.isNon)) μ := rv_of fun Z H vx vy rx ry Q k => by
  cases ry
  refine .inl ⟨rfl, ?_⟩
  rw [rx.isNon h]; exact k _ (.bl _)
theorem b_notNon (h : d.ty.isSome = true) : RV K rIsNotA (.d d) (.d .non) μ (.d (.bl (!d.isNon))) μ := rv_of fun Z H vx vy rx ry Q k => by
  cases ry
  refine .inl ⟨rfl, ?_⟩
  have e := rx.isNon h
  have q := k _ (.bl (!d.isNon))
  rw [← e] at q
  first | exact q | simpa using q
end
theorem cut_to1 {α : Type} (xs : List α) : cutD xs none (some 1) = xs.take 1 := by
  unfold cutD
  rw [show HT.sIx xs.length xs.length (some 1) = min 1 xs.length from HT.sIx_nat xs.length xs.length 1, HT.sIx_none]
  cases xs with
  | nil => rfl
  | cons x r => rw [List.length_cons, Nat.min_eq_left (by omega)]; rfl
theorem cut_from1 {α : Type} (xs : List α) : cutD xs (some 1) none = xs.drop 1 := by
  unfold cutD
  rw [show HT.sIx xs.length 0 (some 1) = min 1 xs.length from HT.sIx_nat xs.length 0 1, HT.sIx_none]
  cases xs with
  | nil => rfl
  | cons x r =>
    rw [List.length_cons, Nat.min_eq_left (by omega)]
    exact List.take_of_length_le (by simp)
theorem b_eqTS {K : PySem.W.Frag} {μ : List CC} {a b : List Str} : RV K (rEqP K) (.d (.tup (a.map .str))) (.d (.tup (b.map .str))) μ (.d (.bl (decide (a = b)))) μ :=
  (b_eqT (α := Tu Str) ⟨a⟩ ⟨b⟩).to (by rw [decide_eq_decide.mpr (show (Tu.mk a = Tu.mk b) ↔ a = b from ⟨fun e => Tu.mk.inj e, fun e => by rw [e]⟩)])
theorem b_neTS {K : PySem.W.Frag} {μ : List CC} {a b : List Str} : RV K (rNeP K) (.d (.tup (a.map .str))) (.d (.tup (b.map .str))) μ (.d (.bl (!decide (a = b)))) μ :=
  (b_neT (α := Tu Str) ⟨a⟩ ⟨b⟩).to (by rw [decide_eq_decide.mpr (show (Tu.mk a = Tu.mk b) ↔ a = b from ⟨fun e => Tu.mk.inj e, fun e => by rw [e]⟩)])
section
variable {K : PySem.W.Frag} {W : WX} {ρ : Slots} {μ μ1 : List CC} {out : List D} {P : GPo} {t u v : TGn} {te : TE} {x : AV} {b : Bool} {tc : TT}
theorem GSV.imp {P' : GPo} (h : GSV K W t ρ μ out P) (n : ∀ ρ μ o, P.nx ρ μ o → P'.nx ρ μ o) (r : ∀ v μ o, P.rt v μ o → P'.rt v μ o) (b : ∀ ρ μ o, P.bk ρ μ o → P'.bk ρ μ o) (c : ∀ ρ μ o, P.ct ρ μ o → P'.ct ρ μ o) (e : ∀ ρ c fs μ, P.xc ρ c fs μ → P'.xc ρ c fs μ) : GSV K W t ρ μ out P' :=
  fun α0 Z0 H0 α Z σ H ys D w0 g ok sl ry k => h α0 Z0 H0 α Z σ H ys D w0 g ok sl ry ⟨fun ρ μ o α Z σ H ys p => k.nx ρ μ o α Z σ H ys (n _ _ _ p), fun v μ o x α Z H ys p => k.rt v μ o x α Z H ys (r _ _ _ p), fun ρ μ o α Z σ H ys p => k.bk ρ μ o α Z σ H ys (b _ _ _ p), fun ρ μ o α Z σ H ys p => k.ct ρ μ o α Z σ H ys (c _ _ _ p), fun ρ cc fs μ d α Z σ H p => k.xc ρ cc fs μ d α Z σ H (e _ _ _ _ p)⟩
theorem gsv_cut (Mid : Slots → List CC → List D → Prop) (h : GSV K W t ρ μ out { P with nx := Mid }) (h2 : ∀ ρ' μ' o, Mid ρ' μ' o → GSV K W u ρ' μ' o P) : GSV K W (tGThen t u) ρ μ out P :=
  gsv_then (h.imp (fun ρ μ o p => h2 ρ μ o p) (fun _ _ _ q => q) (fun _ _ _ q => q) (fun _ _ _ q => q) fun _ _ _ _ q => q)
theorem GSV.fgt {ρ' : Slots} (f : Fgt ρ ρ') (h : GSV K W t ρ' μ out P) : GSV K W t ρ μ out P := fun α0 Z0 H0 α Z σ H ys D w0 g ok sl r k => h α0 Z0 H0 α Z σ H ys D w0 g ok (sl.weak f.len f.at_) r k
theorem gsv_yield1 {d : D} (h : EV K te ρ μ (.d d) μ1) (hl : out.length ≤ 100000) (k : P.nx ρ μ1 (out ++ [d])) : GSV K W (tGThen (tGYield te) tG0) ρ μ out P := gsv_then (gsv_yield h hl (gsv_nil k))
theorem gq_drop (h : EV K te ρ μ x μ1) (k : GSV K W u ρ μ1 out P) : GSV K W (tGThen (tPlain (tDrop te)) u) ρ μ out P := gsv_then (gsv_plain (sv_drop h k))
theorem gq_asg {i : Nat} (h : EV K te ρ μ x μ1) (k : GSV K W u (ρ.set i (some x)) μ1 out P) : GSV K W (tGThen (tPlain (tAsg te (gName i))) u) ρ μ out P := gsv_then (gsv_plain (sv_asg h k))
theorem gq_if (h : ET K tc ρ μ b μ1) (h1 : b = true → GSV K W t ρ μ1 out { P with nx := fun ρ' μ' o => GSV K W v ρ' μ' o P }) (h2 : b = false → GSV K W u ρ μ1 out { P with nx := fun ρ' μ' o => GSV K W v ρ' μ' o P }) : GSV K W (tGThen (tGIf tc t u) v) ρ μ out P := gsv_then (gsv_if h h1 h2)
end
end DL

set_option Elab.async false
set_option linter.all false
set_option maxRecDepth 100000
set_option maxHeartbeats 4000000
/-! DL25: calls where defaults fill up; calls by keywords. -/
namespace DL
open PySem PySem.Spec PyProof.Rows L2
/-- a def called with its defaults dvs left out -/
structure CalD (gd : Bool) (P : Program) (w : World) (K : PySem.W.Frag) (mg : Str → Option Value) (base : Heap) (k : Nat) (x : Str) (dvs : List V) (sp : Sp) : Prop where
  ex : ∃ (f : Addr) (fd : FuncData) (ps : List Str) (ds : List Value), FnG gd P w K mg base k f fd ps sp ∧ mg x = some (.ref f) ∧ PySem.W.keepIn K (.ref f) = true ∧ Binds K fd ps ds ∧ Vals dvs ds
/-- .. with keywords ks behind n values -/
structure CalK (gd : Bool) (P : Program) (w : World) (K : PySem.W.Frag) (mg : Str → Option Value) (base : Heap) (k : Nat) (x : Str) (n : Nat) (ks : List Str) (sp : Sp) : Prop where
  ex : ∃ (f : Addr) (fd : FuncData) (ps : List Str), FnG gd P w K mg base k f fd ps sp ∧ mg x = some (.ref f) ∧ PySem.W.keepIn K (.ref f) = true ∧ KBn K fd ps n ks (fun us ws => us ++ ws) (fun vs zs => vs ++ zs)
def tClK (n m : Nat) (sp : Sp) (W : WX) (t tk : TA) : TE := fun σ H Q => t σ H fun vs H1 => tk σ H1 fun zs H2 => vs.length = n ∧ zs.length = m ∧ sp (vs ++ zs) H2 Q (fun c d H' => W c d σ H')
section
variable {X : Cx} {W : WX} {gd : Bool} {k j n : Nat} {x : Str} {ks : List Str} {sp : Sp} {p pos : Pos} {e : Expr} {es : List Expr} {kws : List Keyword} {t tk : TA} {dvs : List V}
theorem k_callD (K : PySem.W.Frag) (hK : X.K = K) (c : CalD gd X.prog X.w K X.mg X.base k x dvs sp) (hr : Room j X.A) (hk : k ≤ j) (hgd : gd = true → X.A.guards = some []) (hg : Gl X x) (tk : Takes X W) (ha : PA X (e :: es) t)
    (hdb : (x == ("__debug__" : Str)) = false := by decide) (he : starEach (e :: es) X.env = (false, eval e X.env) :: starEach es X.env := by rfl) (hpl : (backTo pos (starEach es X.env)).any (·.1) = false := by rfl) :
    PE X (.Call (.Name x p) (e :: es) [] pos) (tCl sp dvs W t) := by
  subst hK
  obtain ⟨f, fd, ps, ds, F, hm, kp, b, hd⟩ := c.ex
  exact pe_cl (F.mono hk) hr hgd hg hm kp b hd tk ha hdb he hpl
theorem k_callK (K : PySem.W.Frag) (hK : X.K = K) (c : CalK gd X.prog X.w K X.mg X.base k x n ks sp) (hr : Room j X.A) (hk : k ≤ j) (hgd : gd = true → X.A.guards = some []) (hg : Gl X x) (tx : Takes X W) (ha : PA X (e :: es) t) (hkw : PK X kws tk)
    (hall : (backToKw pos (keywordEach kws X.env)).all (·.1.isSome) = true := by rfl) (hks : (backToKw pos (keywordEach kws X.env)).filterMap (·.1) = ks := by rfl) (hdb : (x == ("__debug__" : Str)) = false := by decide) (he : starEach (e :: es) X.env = (false, eval e X.env) :: starEach es X.env := by rfl)
    (hpl : ((backTo pos (starEach (e :: es) X.env)).any (·.1) || (backToKw pos (keywordEach kws X.env)).any (·.1.isNone)) = false := by rfl) :
    PE X (.Call (.Name x p) (e :: es) kws pos) (tClK n ks.length sp W t tk) := by
  subst hK
  obtain ⟨f, fd, ps, F, hm, kp, hb⟩ := c.ex
  refine ⟨fun pins s σ H Q I h => ?_⟩
  refine wpAny_Call_Name_kw (ld_glob I hg hm (PySem.W.callWith_KW (h₀ := X.base) I.ok.mod.kin kp hall (thn (ha.run pos pins s σ H _ I h) fun us s1 hh => ?_) hpl he) hdb)
  obtain ⟨vs, H1, I1, r, q⟩ := hh
  refine thn (hkw.run pos pins s1 σ H1 _ I1 q) fun ws s2 h2 => ?_
  obtain ⟨zs, H2, I2, rz, l1, l2, q2⟩ := h2
  refine ⟨I2.kIn, ?_⟩
  rw [hks]
  have r2 : Vals (vs ++ zs) (us ++ ws) := hb.rel r rz
  refine wpAny_call (codeAny_mono ((F.mono hk).run X.A X.stack s2 H2 ⟨us, ks.zip ws⟩ (us ++ ws) (vs ++ zs) Q _ hr hgd I2.env0 (hb.to s2 us ws I2.kIn (r.length.symm.trans l1) (rz.length.symm.trans l2)) r2 q2) fun z s3 hq => ?_)
  match z, hq with
  | .error ex, hq => exact passAt tx σ pins H2 s2 ex s3 I2 hq
  | .ok (.ret u), hq => exact I2.after hq
  | .ok .next, hq => exact hq.elim
  | .ok .brk, hq => exact hq.elim
  | .ok .cont, hq => exact hq.elim
end
section
variable {K : PySem.W.Frag} {W : WX} {ρ : Slots} {μ μ1 μ2 : List CC} {ta tk : TA} {R : Ctr} {as bs : List D} {r : D} {n m : Nat} {dvs : List V}
/-- defaults dd fill up -/
theorem ev_callD {dd : List D} (ha : EA K ta ρ μ (as.map .d) μ1) (hd : ∀ Z H, RpA K Z H dvs dd) (hR : R ((as ++ dd).map .d) [] (.ret (.d r)) []) : EV K (tCl (SpR K R) dvs W ta) ρ μ (.d r) μ1 :=
  fun α Z σ H ok sl Q k => ha α Z σ H ok sl _ fun vs H1 e1 ok1 r1 => by
    refine ⟨[], Z, _, [], _, [], ok1.noCells, by rw [List.map_append]; exact (r1.re (data_all as)).append (RpVs.of_data (hd Z H1)), hR, fun r' v H' e ex ok' rv => ?_, fun c fs d H' e => (nomatch e), fun xs p ws H' e => (nomatch e)⟩
    cases e
    exact k v H' (e1.trans ex.nil_any) (ok1.still ex) (rv.re rfl)
theorem ev_callK (h1 : EA K ta ρ μ (as.map .d) μ1) (h2 : EA K tk ρ μ1 (bs.map .d) μ2) (hn : as.length = n) (hm : bs.length = m) (hR : R ((as ++ bs).map .d) [] (.ret (.d r)) []) : EV K (tClK n m (SpR K R) W ta tk) ρ μ (.d r) μ2 :=
  fun α Z σ H ok sl Q k => h1 α Z σ H ok sl _ fun vs H1 e1 ok1 r1 => h2 α Z σ H1 ok1 (sl.ext ok e1) _ fun ws H2 e2 ok2 r2 => by
    refine ⟨by rw [r1.length, List.length_map]; exact hn, by rw [r2.length, List.length_map]; exact hm, [], Z, _, [], _, [], ok2.noCells, by rw [List.map_append]; exact ((r1.ext ok1 e2).re (data_all as)).append (r2.re (data_all bs)), hR, fun r' v H' e ex ok' rv => ?_, fun c fs d H' e => (nomatch e), fun xs p ws H' e => (nomatch e)⟩
    cases e
    exact k v H' ((e1.trans e2).trans ex.nil_any) (ok2.still ex) (rv.re rfl)
end
end DL

set_option Elab.async false
set_option linter.all false
set_option maxRecDepth 100000
set_option maxHeartbeats 4000000
/-! DL26: xs[::-1]. -/
namespace DL
open PySem PySem.Spec PyProof.Rows L2
section
variable {K : PySem.W.Frag} {ρ : Slots} {μ μ1 : List CC} {te : TE} {xs : List D}
theorem k_revL {X : Cx} (K : PySem.W.Frag) (hK : X.K = K) {e : Expr} {te : TE} {k : Nat} {p1 p2 p3 pos : Pos} (he : PE X e te) : PE X (.Subscript e (.Slice none none (some (.UnaryOp .USub (.Constant (.int 1) k p1) p2)) p3) pos) (tRevL K te) := hK ▸ pe_revL he
theorem en_revL (h : EV K te ρ μ (.d (.lst xs)) μ1) : EN K (tRevL K te) ρ μ (xs.reverse.map .d) μ1 := fun α Z σ H ok sl Q k => h α Z σ H ok sl _ fun v H1 e1 ok1 r1 => by
  cases r1 with
  | d r1 => cases r1 with
    | lst n h1 r =>
      exact ⟨_, _, rfl, SqL.of h1, fun p hp => k p _ _ (e1.trans (Ext.new hp)) (none_back (fun q => ok1.w.off hp (ok1.w.sub p q)) e1 hp) upd_same (ok1.keepOff hp (Ext.laid hp) ⟨_, upd_same⟩) (.of_data ((RpA.more hp r.reverse).mono (α := []) (fun a h => absurd h List.not_mem_nil) (Ext.laid hp)))⟩
end
end DL

set_option Elab.async false
set_option linter.all false
set_option maxRecDepth 100000
set_option maxHeartbeats 4000000
/-! FX0: a reckoner: what an expression gives, as a function of slots and cells, with the proof that it is so. -/
namespace FX
open PySem PySem.Spec PyProof.Rows L2 DL
/-- the module's names as addresses; sub: what except takes, isa: what isinstance tells of a caught error, isx: error classes with plain attributes -/
structure Gb where
  at_ : Str → Addr
  sub : Addr → Value → Option Bool := fun _ _ => none
  isa : Addr → Value → Option Bool := fun _ _ => none
  isx : Addr → Bool := fun _ => false
/-- a value and the cells behind it, or what was raised -/
inductive Rs (α : Type) where
  | v (x : α) (μ : List CC)
  | x (c : Value) (fs : List (Str × D)) (μ : List CC)
def bnd {α β : Type} : Option (Rs α) → (α → List CC → Option (Rs β)) → Option (Rs β)
  | none, _ => none
  | some (.v x μ), k => k x μ
  | some (.x c fs μ), _ => some (.x c fs μ)
def lft {α : Type} : Option α → List CC → Option (Rs α)
  | none, _ => none
  | some x, μ => some (.v x μ)
section
variable {α β : Type} {m : Option (Rs α)} {k : α → List CC → Option (Rs β)} {μ μ' : List CC} {x : α} {y : β} {c : Value} {fs : List (Str × D)}
theorem bnd_n : bnd (none : Option (Rs α)) k = none := rfl
theorem bnd_v : bnd (some (.v x μ)) k = k x μ := rfl
theorem bnd_x : bnd (some (.x c fs μ) : Option (Rs α)) k = some (.x c fs μ) := rfl
theorem lft_s : lft (some x) μ = some (.v x μ) := rfl
theorem lft_n : lft (none : Option α) μ = none := rfl
theorem bnd_v_inv (h : bnd m k = some (.v y μ')) : ∃ x μ1, m = some (.v x μ1) ∧ k x μ1 = some (.v y μ') := by
  match m, h with
  | some (.v x μ1), h => exact ⟨x, μ1, rfl, h⟩
theorem bnd_x_inv (h : bnd m k = some (.x c fs μ')) : m = some (.x c fs μ') ∨ ∃ x μ1, m = some (.v x μ1) ∧ k x μ1 = some (.x c fs μ') := by
  match m, h with
  | some (.v x μ1), h => exact .inr ⟨x, μ1, rfl, h⟩
  | some (.x c fs μ1), h => exact .inl (by cases h; rfl)
theorem lft_v_inv {o : Option α} (h : lft o μ = some (.v x μ')) : o = some x ∧ μ' = μ := by
  cases o with
  | none => cases h
  | some z => cases h; exact ⟨rfl, rfl⟩
theorem lft_x_inv {o : Option α} (h : lft o μ = some (.x c fs μ')) : False := by cases o <;> cases h
end
/-- it raises, whatever is wanted -/
def XX (K : PySem.W.Frag) (W : WX) {τ : Type} (t : L2.St → Hp → τ → Prop) (ρ : Slots) (μ : List CC) (c : Value) (fs : List (Str × D)) (μ' : List CC) : Prop :=
  ∀ (α Z : List Addr) (σ : L2.St) (H : Hp), Okay K α Z H μ → SlotsOk K α Z H σ ρ → ∀ Q : τ, (∀ d H', Ext α H H' → Okay K α Z H' μ' → ExcOk K Z H' d fs → W c d σ H') → t σ H Q
/-- what the module's written part must know for G -/
structure Gb.Ok (G : Gb) (K : PySem.W.Frag) : Prop where
  exm : ∀ (c : Addr) (d : Value) (b : Bool), G.sub c d = some b → PySem.W.exmOne K (.ref c) d = some b
  kit : ∀ (c : Addr) (d : Value) (b : Bool), G.isa c d = some b → PySem.W.kitOne K (.ref c) d = some b
  exc : ∀ c : Addr, G.isx c = true → ExcC K c
structure XE where
  t : PySem.W.Frag → WX → TE
  ev : Slots → List CC → Option (Rs AV)
  ok : ∀ {K W ρ μ x μ'}, ev ρ μ = some (.v x μ') → EV K (t K W) ρ μ x μ'
  ex : ∀ {K W ρ μ c fs μ'}, ev ρ μ = some (.x c fs μ') → XX K W (t K W) ρ μ c fs μ'
structure XN where
  t : PySem.W.Frag → WX → TE
  ev : Slots → List CC → Option (Rs (List AV))
  ok : ∀ {K W ρ μ x μ'}, ev ρ μ = some (.v x μ') → EN K (t K W) ρ μ x μ'
  ex : ∀ {K W ρ μ c fs μ'}, ev ρ μ = some (.x c fs μ') → XX K W (t K W) ρ μ c fs μ'
structure XA where
  t : PySem.W.Frag → WX → TA
  ev : Slots → List CC → Option (Rs (List AV))
  ok : ∀ {K W ρ μ x μ'}, ev ρ μ = some (.v x μ') → EA K (t K W) ρ μ x μ'
  ex : ∀ {K W ρ μ c fs μ'}, ev ρ μ = some (.x c fs μ') → XX K W (t K W) ρ μ c fs μ'
structure XT where
  t : PySem.W.Frag → WX → TT
  ev : Slots → List CC → Option (Rs Bool)
  ok : ∀ {K W ρ μ x μ'}, ev ρ μ = some (.v x μ') → ET K (t K W) ρ μ x μ'
  ex : ∀ {K W ρ μ c fs μ'}, ev ρ μ = some (.x c fs μ') → XX K W (t K W) ρ μ c fs μ'
structure XI where
  t : PySem.W.Frag → WX → TI
  ev : Slots → List CC → Option (Rs (List AV))
  ok : ∀ {K W ρ μ x μ'}, ev ρ μ = some (.v x μ') → IW K (t K W) ρ μ x μ'
  ex : ∀ {K W ρ μ c fs μ'}, ev ρ μ = some (.x c fs μ') → XX K W (t K W) ρ μ c fs μ'
structure XO where
  t : PySem.W.Frag → WX → TO
  ev : Slots → List CC → Option (Rs (Option Int))
  ok : ∀ {K W ρ μ x μ'}, ev ρ μ = some (.v x μ') → EO K (t K W) ρ μ x μ'
  ex : ∀ {K W ρ μ c fs μ'}, ev ρ μ = some (.x c fs μ') → XX K W (t K W) ρ μ c fs μ'
structure XG where
  t : PySem.W.Frag → TG
  ev : AV → Slots → Option Slots
  js : List Nat
  ok : ∀ {K d ρ ρ'}, ev d ρ = some ρ' → GV K (t K) d ρ ρ' js
structure XGs where
  t : PySem.W.Frag → TGs
  ev : List AV → Slots → Option Slots
  js : List Nat
  ok : ∀ {K d ρ ρ'}, ev d ρ = some ρ' → GVs K (t K) d ρ ρ' js
/-- a two-place operation; one that makes a new list -/
structure XR where
  r : PySem.W.Frag → R2
  f : AV → AV → List CC → Option AV
  ok : ∀ {K x y μ z}, f x y μ = some z → RV K (r K) x y μ z μ
structure XRN where
  r : PySem.W.Frag → R2
  f : AV → AV → List CC → Option (List AV)
  ok : ∀ {K x y μ z}, f x y μ = some z → RVN K (r K) x y μ z μ
structure XU where
  r : PySem.W.Frag → V → Hp → VK → Prop
  f : AV → List CC → Option AV
  ok : ∀ {K x μ z}, f x μ = some z → RU K (r K) x μ z μ
structure XC where
  r : PySem.W.Frag → List V → Hp → VK → Prop
  f : List AV → List CC → Option AV
  ok : ∀ {K x μ z}, f x μ = some z → RC K (r K) x μ z μ
structure XCN where
  r : PySem.W.Frag → List V → Hp → VK → Prop
  f : List AV → List CC → Option (List AV)
  ok : ∀ {K x μ z}, f x μ = some z → RCN K (r K) x μ z μ
/-- only data within? -/
def toD : List AV → Option (List D)
  | [] => some []
  | .d x :: r => match toD r with
    | some ds => some (x :: ds)
    | none => none
  | .cell _ :: _ => none
theorem toD_map (ds : List D) : toD (ds.map .d) = some ds := by
  induction ds with
  | nil => rfl
  | cons d ds ih => simp only [List.map_cons, toD, ih]
theorem toD_inv {xs : List AV} {ds : List D} (h : toD xs = some ds) : xs = ds.map .d := by
  induction xs generalizing ds with
  | nil => cases h; rfl
  | cons x xs ih =>
    cases x with
    | cell k => cases h
    | d x =>
      unfold toD at h
      cases q : toD xs with
      | none => rw [q] at h; cases h
      | some es => rw [q] at h; cases h; rw [ih q]; rfl
/-! ### names, constants -/
def xVar (i : Nat) : XE where
  t _ _ := tVar i
  ev ρ μ := lft (ρ[i]?.join) μ
  ok {K W ρ μ x μ'} h := by
    obtain ⟨h, rfl⟩ := lft_v_inv h
    refine ev_var ?_
    cases q : ρ[i]? with
    | none => rw [q] at h; cases h
    | some o => rw [q] at h; cases o with
      | none => cases h
      | some y => cases h; rfl
  ex h := (lft_x_inv h).elim
def xC (v : V) (d : D) (h : ∀ K Z H, Rp K Z H v d) : XE where
  t _ _ := tC v
  ev _ μ := some (.v (.d d) μ)
  ok e := by cases e; exact ev_c (h _)
  ex h := by cases h
def xInt (i : Int) : XE := xC (.int i) (.int i) fun _ _ _ => .int i
def xBl (b : Bool) : XE := xC (.bl b) (.bl b) fun _ _ _ => .bl b
def xStr (s : Str) : XE := xC (.str s) (.str s) fun _ _ _ => .str s
def xNon : XE := xC .non .non fun _ _ _ => .non
def xRaw (v : V) : XE := xC v (.raw v) fun _ _ _ => .raw v
/-! ### operations -/
def xOp (o : XR) (a b : XE) : XE where
  t K W := tOp (o.r K) (a.t K W) (b.t K W)
  ev ρ μ := bnd (a.ev ρ μ) fun x μ1 => bnd (b.ev ρ μ1) fun y μ2 => lft (o.f x y μ2) μ2
  ok h := by
    obtain ⟨x, μ1, h1, h⟩ := bnd_v_inv h
    obtain ⟨y, μ2, h2, h⟩ := bnd_v_inv h
    obtain ⟨h3, rfl⟩ := lft_v_inv h
    exact ev_op (a.ok h1) (b.ok h2) (o.ok h3)
  ex h := by
    rcases bnd_x_inv h with h1 | ⟨x, μ1, h1, h⟩
    · exact fun α Z σ H ok sl Q k => a.ex h1 α Z σ H ok sl _ k
    rcases bnd_x_inv h with h2 | ⟨y, μ2, h2, h⟩
    · exact fun α Z σ H ok sl Q k => a.ok h1 α Z σ H ok sl _ fun v1 H1 e1 ok1 r1 => b.ex h2 α Z σ H1 ok1 (sl.ext ok e1) _ fun d H' e o x => k d H' (e1.trans e) o x
    exact (lft_x_inv h).elim
def xOpN (o : XRN) (a b : XE) : XN where
  t K W := tOp (o.r K) (a.t K W) (b.t K W)
  ev ρ μ := bnd (a.ev ρ μ) fun x μ1 => bnd (b.ev ρ μ1) fun y μ2 => lft (o.f x y μ2) μ2
  ok h := by
    obtain ⟨x, μ1, h1, h⟩ := bnd_v_inv h
    obtain ⟨y, μ2, h2, h⟩ := bnd_v_inv h
    obtain ⟨h3, rfl⟩ := lft_v_inv h
    exact en_op (a.ok h1) (b.ok h2) (o.ok h3)
  ex h := by
    rcases bnd_x_inv h with h1 | ⟨x, μ1, h1, h⟩
    · exact fun α Z σ H ok sl Q k => a.ex h1 α Z σ H ok sl _ k
    rcases bnd_x_inv h with h2 | ⟨y, μ2, h2, h⟩
    · exact fun α Z σ H ok sl Q k => a.ok h1 α Z σ H ok sl _ fun v1 H1 e1 ok1 r1 => b.ex h2 α Z σ H1 ok1 (sl.ext ok e1) _ fun d H' e o x => k d H' (e1.trans e) o x
    exact (lft_x_inv h).elim
def xUn (o : XU) (a : XE) : XE where
  t K W := tUn (o.r K) (a.t K W)
  ev ρ μ := bnd (a.ev ρ μ) fun x μ1 => lft (o.f x μ1) μ1
  ok h := by
    obtain ⟨x, μ1, h1, h⟩ := bnd_v_inv h
    obtain ⟨h3, rfl⟩ := lft_v_inv h
    exact ev_un (a.ok h1) (o.ok h3)
  ex h := by
    rcases bnd_x_inv h with h1 | ⟨x, μ1, h1, h⟩
    · exact fun α Z σ H ok sl Q k => a.ex h1 α Z σ H ok sl _ k
    exact (lft_x_inv h).elim
def xNil : XA where
  t _ _ := tNil
  ev _ μ := some (.v [] μ)
  ok h := by cases h; exact ea_nil
  ex h := by cases h
def xCons (a : XE) (b : XA) : XA where
  t K W := tCons (a.t K W) (b.t K W)
  ev ρ μ := bnd (a.ev ρ μ) fun x μ1 => bnd (b.ev ρ μ1) fun xs μ2 => some (.v (x :: xs) μ2)
  ok h := by
    obtain ⟨x, μ1, h1, h⟩ := bnd_v_inv h
    obtain ⟨y, μ2, h2, h⟩ := bnd_v_inv h
    cases h
    exact ea_cons (a.ok h1) (b.ok h2)
  ex h := by
    rcases bnd_x_inv h with h1 | ⟨x, μ1, h1, h⟩
    · exact fun α Z σ H ok sl Q k => a.ex h1 α Z σ H ok sl _ k
    rcases bnd_x_inv h with h2 | ⟨y, μ2, h2, h⟩
    · exact fun α Z σ H ok sl Q k => a.ok h1 α Z σ H ok sl _ fun v1 H1 e1 ok1 r1 => b.ex h2 α Z σ H1 ok1 (sl.ext ok e1) _ fun d H' e o x => k d H' (e1.trans e) o x
    cases h
/-- *xs among the arguments, xs a list or a tuple of data -/
def xStar (a : XE) (b : XA) : XA where
  t K W := StX.tStar K (a.t K W) (b.t K W)
  ev ρ μ := bnd (a.ev ρ μ) fun x μ1 => match x with
    | .d (.tup xs) => bnd (b.ev ρ μ1) fun ys μ2 => some (.v (xs.map .d ++ ys) μ2)
    | .d (.lst xs) => bnd (b.ev ρ μ1) fun ys μ2 => some (.v (xs.map .d ++ ys) μ2)
    | _ => none
  ok h := by
    obtain ⟨x, μ1, h1, h⟩ := bnd_v_inv h
    split at h
    · obtain ⟨y, μ2, h2, h⟩ := bnd_v_inv h
      cases h
      exact ea_starT (a.ok h1) (b.ok h2)
    · obtain ⟨y, μ2, h2, h⟩ := bnd_v_inv h
      cases h
      exact ea_starL (a.ok h1) (b.ok h2)
    · cases h
  ex h := by
    rcases bnd_x_inv h with h1 | ⟨x, μ1, h1, h⟩
    · exact fun α Z σ H ok sl Q k => a.ex h1 α Z σ H ok sl _ k
    split at h
    · rcases bnd_x_inv h with h2 | ⟨y, μ2, h2, h⟩
      · exact fun α Z σ H ok sl Q k => a.ok h1 α Z σ H ok sl _ fun v1 H1 e1 ok1 r1 => by
          cases r1 with
          | d r => cases r with
            | tup n q r => exact ⟨_, _, rfl, .inl (SqT.of q), b.ex h2 α Z σ H1 ok1 (sl.ext ok e1) _ fun d H' e o x => k d H' (e1.trans e) o x⟩
      cases h
    · rcases bnd_x_inv h with h2 | ⟨y, μ2, h2, h⟩
      · exact fun α Z σ H ok sl Q k => a.ok h1 α Z σ H ok sl _ fun v1 H1 e1 ok1 r1 => by
          cases r1 with
          | d r => cases r with
            | lst n q r => exact ⟨_, _, rfl, .inr (SqL.of q), b.ex h2 α Z σ H1 ok1 (sl.ext ok e1) _ fun d H' e o x => k d H' (e1.trans e) o x⟩
      cases h
    · cases h
def xCB (c : XC) (a : XA) : XE where
  t K W := tCB (c.r K) (a.t K W)
  ev ρ μ := bnd (a.ev ρ μ) fun x μ1 => lft (c.f x μ1) μ1
  ok h := by
    obtain ⟨x, μ1, h1, h⟩ := bnd_v_inv h
    obtain ⟨h3, rfl⟩ := lft_v_inv h
    exact ev_cb (a.ok h1) (c.ok h3)
  ex h := by
    rcases bnd_x_inv h with h1 | ⟨x, μ1, h1, h⟩
    · exact fun α Z σ H ok sl Q k => a.ex h1 α Z σ H ok sl _ k
    exact (lft_x_inv h).elim
def xCBN (c : XCN) (a : XA) : XN where
  t K W := tCB (c.r K) (a.t K W)
  ev ρ μ := bnd (a.ev ρ μ) fun x μ1 => lft (c.f x μ1) μ1
  ok h := by
    obtain ⟨x, μ1, h1, h⟩ := bnd_v_inv h
    obtain ⟨h3, rfl⟩ := lft_v_inv h
    exact en_cb (a.ok h1) (c.ok h3)
  ex h := by
    rcases bnd_x_inv h with h1 | ⟨x, μ1, h1, h⟩
    · exact fun α Z σ H ok sl Q k => a.ex h1 α Z σ H ok sl _ k
    exact (lft_x_inv h).elim
/-- a new list as data -/
def xDat (n : XN) : XE where
  t K W := n.t K W
  ev ρ μ := bnd (n.ev ρ μ) fun xs μ1 => match toD xs with
    | some ds => some (.v (.d (.lst ds)) μ1)
    | none => none
  ok h := by
    obtain ⟨x, μ1, h1, h⟩ := bnd_v_inv h
    split at h
    · rename_i ds q
      cases h
      have e := toD_inv q
      subst e
      exact EN.ev (n.ok h1)
    · cases h
  ex h := by
    rcases bnd_x_inv h with h1 | ⟨x, μ1, h1, h⟩
    · exact n.ex h1
    split at h <;> cases h
def xTup (a : XA) : XE where
  t K W := tTup (a.t K W)
  ev ρ μ := bnd (a.ev ρ μ) fun xs μ1 => match toD xs with
    | some ds => if ds.length ≤ 100000 then some (.v (.d (.tup ds)) μ1) else none
    | none => none
  ok h := by
    obtain ⟨x, μ1, h1, h⟩ := bnd_v_inv h
    split at h
    · rename_i ds q
      split at h
      · rename_i hl
        cases h
        have e := toD_inv q
        subst e
        exact ev_tup (a.ok h1) hl
      · cases h
    · cases h
  ex h := by
    rcases bnd_x_inv h with h1 | ⟨x, μ1, h1, h⟩
    · exact fun α Z σ H ok sl Q k => a.ex h1 α Z σ H ok sl _ k
    split at h
    · split at h <;> cases h
    · cases h
def xLst (a : XA) : XN where
  t K W := tLst (a.t K W)
  ev ρ μ := bnd (a.ev ρ μ) fun xs μ1 => if xs.length ≤ 100000 then some (.v xs μ1) else none
  ok h := by
    obtain ⟨x, μ1, h1, h⟩ := bnd_v_inv h
    split at h
    · cases h; exact en_lst (a.ok h1) (by assumption)
    · cases h
  ex h := by
    rcases bnd_x_inv h with h1 | ⟨x, μ1, h1, h⟩
    · exact fun α Z σ H ok sl Q k => a.ex h1 α Z σ H ok sl _ k
    split at h <;> cases h
/-! ### tests -/
def asB : AV → Option Bool
  | .d (.bl b) => some b
  | _ => none
theorem asB_inv {x : AV} {b : Bool} (h : asB x = some b) : x = .d (.bl b) := by
  unfold asB at h
  split at h
  · cases h; rfl
  · cases h
def xTest (a : XE) : XT where
  t K W := tTest (a.t K W)
  ev ρ μ := bnd (a.ev ρ μ) fun x μ1 => lft (asB x) μ1
  ok h := by
    obtain ⟨x, μ1, h1, h⟩ := bnd_v_inv h
    obtain ⟨h3, rfl⟩ := lft_v_inv h
    have e := asB_inv h3
    subst e
    exact et_test (a.ok h1)
  ex h := by
    rcases bnd_x_inv h with h1 | ⟨x, μ1, h1, h⟩
    · exact fun α Z σ H ok sl Q k => a.ex h1 α Z σ H ok sl _ k
    exact (lft_x_inv h).elim
def xB (a : XE) : XT where
  t K W := tB (a.t K W)
  ev ρ μ := bnd (a.ev ρ μ) fun x μ1 => lft (asB x) μ1
  ok h := by
    obtain ⟨x, μ1, h1, h⟩ := bnd_v_inv h
    obtain ⟨h3, rfl⟩ := lft_v_inv h
    have e := asB_inv h3
    subst e
    exact et_B (a.ok h1)
  ex h := by
    rcases bnd_x_inv h with h1 | ⟨x, μ1, h1, h⟩
    · exact fun α Z σ H ok sl Q k => a.ex h1 α Z σ H ok sl _ k
    exact (lft_x_inv h).elim
def xYes : XT where
  t _ _ := tYes
  ev _ μ := some (.v true μ)
  ok h := by cases h; exact et_yes
  ex h := by cases h
def xNot (a : XT) : XT where
  t K W := tNot (a.t K W)
  ev ρ μ := bnd (a.ev ρ μ) fun x μ1 => some (.v (!x) μ1)
  ok h := by
    obtain ⟨x, μ1, h1, h⟩ := bnd_v_inv h
    cases h
    exact et_not (a.ok h1)
  ex h := by
    rcases bnd_x_inv h with h1 | ⟨x, μ1, h1, h⟩
    · exact fun α Z σ H ok sl Q k => a.ex h1 α Z σ H ok sl _ k
    cases h
def xAnd (a b : XT) : XT where
  t K W := tAnd (a.t K W) (b.t K W)
  ev ρ μ := bnd (a.ev ρ μ) fun x μ1 => if x = true then b.ev ρ μ1 else some (.v false μ1)
  ok {K W ρ μ x μ'} h := by
    obtain ⟨y, μ1, h1, h⟩ := bnd_v_inv h
    intro α Z σ H ok sl Q k
    refine a.ok h1 α Z σ H ok sl _ fun H1 e1 ok1 => ?_
    split at h
    · rename_i hy; rw [if_pos hy]
      exact b.ok h α Z σ H1 ok1 (sl.ext ok e1) Q fun H2 e2 ok2 => k H2 (e1.trans e2) ok2
    · rename_i hy; rw [if_neg hy]; cases h
      exact k H1 e1 ok1
  ex h := by
    rcases bnd_x_inv h with h1 | ⟨x, μ1, h1, h⟩
    · exact fun α Z σ H ok sl Q k => a.ex h1 α Z σ H ok sl _ k
    split at h
    · rename_i hy
      exact fun α Z σ H ok sl Q k => a.ok h1 α Z σ H ok sl _ fun H1 e1 ok1 => by
        rw [if_pos hy]; exact b.ex h α Z σ H1 ok1 (sl.ext ok e1) _ fun d H' e o x => k d H' (e1.trans e) o x
    · cases h
def xOr (a b : XT) : XT where
  t K W := tOr (a.t K W) (b.t K W)
  ev ρ μ := bnd (a.ev ρ μ) fun x μ1 => if x = true then some (.v true μ1) else b.ev ρ μ1
  ok {K W ρ μ x μ'} h := by
    obtain ⟨y, μ1, h1, h⟩ := bnd_v_inv h
    intro α Z σ H ok sl Q k
    refine a.ok h1 α Z σ H ok sl _ fun H1 e1 ok1 => ?_
    split at h
    · rename_i hy; rw [if_pos hy]; cases h
      exact k H1 e1 ok1
    · rename_i hy; rw [if_neg hy]
      exact b.ok h α Z σ H1 ok1 (sl.ext ok e1) Q fun H2 e2 ok2 => k H2 (e1.trans e2) ok2
  ex h := by
    rcases bnd_x_inv h with h1 | ⟨x, μ1, h1, h⟩
    · exact fun α Z σ H ok sl Q k => a.ex h1 α Z σ H ok sl _ k
    split at h
    · cases h
    · rename_i hy
      exact fun α Z σ H ok sl Q k => a.ok h1 α Z σ H ok sl _ fun H1 e1 ok1 => by
        rw [if_neg hy]; exact b.ex h α Z σ H1 ok1 (sl.ext ok e1) _ fun d H' e o x => k d H' (e1.trans e) o x
def andR : Option Bool → Option (Rs AV) → List CC → Option (Rs AV)
  | some true, k, _ => k
  | some false, _, μ => some (.v (.d (.bl false)) μ)
  | none, _, _ => none
def orR : Option Bool → Option (Rs AV) → List CC → Option (Rs AV)
  | some true, _, μ => some (.v (.d (.bl true)) μ)
  | some false, k, _ => k
  | none, _, _ => none
def xAndV (a b : XE) : XE where
  t K W := tAndV (a.t K W) (b.t K W)
  ev ρ μ := bnd (a.ev ρ μ) fun x μ1 => andR (asB x) (b.ev ρ μ1) μ1
  ok {K W ρ μ x μ'} h := by
    obtain ⟨y, μ9, h1, h⟩ := bnd_v_inv h
    unfold andR at h
    split at h
    · rename_i q; have e := asB_inv q; subst e
      exact ev_andV (a.ok h1) (fun _ => b.ok h) fun z => nomatch z
    · rename_i q; have e := asB_inv q; subst e; cases h
      exact ev_andV (μ2 := μ') (tb := b.t K W) (a.ok h1) (fun z => nomatch z) fun _ => ⟨rfl, rfl⟩
    · cases h
  ex h := by
    rcases bnd_x_inv h with h1 | ⟨x, μ1, h1, h⟩
    · exact fun α Z σ H ok sl Q k => a.ex h1 α Z σ H ok sl _ k
    unfold andR at h
    split at h
    · rename_i q; have e := asB_inv q; subst e
      exact fun α Z σ H ok sl Q k => a.ok h1 α Z σ H ok sl _ fun v H1 e1 ok1 r1 => by
        cases r1 with
        | d r => cases r; exact ⟨true, rfl, b.ex h α Z σ H1 ok1 (sl.ext ok e1) _ fun d H' e o x => k d H' (e1.trans e) o x⟩
    · cases h
    · cases h
def xOrV (a b : XE) : XE where
  t K W := tOrV (a.t K W) (b.t K W)
  ev ρ μ := bnd (a.ev ρ μ) fun x μ1 => orR (asB x) (b.ev ρ μ1) μ1
  ok {K W ρ μ x μ'} h := by
    obtain ⟨y, μ9, h1, h⟩ := bnd_v_inv h
    unfold orR at h
    split at h
    · rename_i q; have e := asB_inv q; subst e; cases h
      exact ev_orV (μ2 := μ') (tb := b.t K W) (a.ok h1) (fun z => nomatch z) fun _ => ⟨rfl, rfl⟩
    · rename_i q; have e := asB_inv q; subst e
      exact ev_orV (a.ok h1) (fun _ => b.ok h) fun z => nomatch z
    · cases h
  ex h := by
    rcases bnd_x_inv h with h1 | ⟨x, μ1, h1, h⟩
    · exact fun α Z σ H ok sl Q k => a.ex h1 α Z σ H ok sl _ k
    unfold orR at h
    split at h
    · cases h
    · rename_i q; have e := asB_inv q; subst e
      exact fun α Z σ H ok sl Q k => a.ok h1 α Z σ H ok sl _ fun v H1 e1 ok1 r1 => by
        cases r1 with
        | d r => cases r; exact ⟨false, rfl, b.ex h α Z σ H1 ok1 (sl.ext ok e1) _ fun d H' e o x => k d H' (e1.trans e) o x⟩
    · cases h
def xNotV (a : XE) : XE where
  t K W := tNotV (a.t K W)
  ev ρ μ := bnd (a.ev ρ μ) fun x μ1 => match asB x with
    | some b => some (.v (.d (.bl (!b))) μ1)
    | none => none
  ok h := by
    obtain ⟨y, μ1, h1, h⟩ := bnd_v_inv h
    split at h
    · rename_i q; have e := asB_inv q; subst e; cases h
      exact ev_notV (a.ok h1)
    · cases h
  ex h := by
    rcases bnd_x_inv h with h1 | ⟨x, μ1, h1, h⟩
    · exact fun α Z σ H ok sl Q k => a.ex h1 α Z σ H ok sl _ k
    split at h <;> cases h
def xIf (c : XT) (a b : XE) : XE where
  t K W := tIf (c.t K W) (a.t K W) (b.t K W)
  ev ρ μ := bnd (c.ev ρ μ) fun x μ1 => if x = true then a.ev ρ μ1 else b.ev ρ μ1
  ok h := by
    obtain ⟨x, μ1, h1, h⟩ := bnd_v_inv h
    split at h
    · rename_i hx; exact ev_if (c.ok h1) (fun _ => a.ok h) fun z => by rw [hx] at z; cases z
    · rename_i hx; exact ev_if (c.ok h1) (fun z => absurd z hx) fun _ => b.ok h
  ex h := by
    rcases bnd_x_inv h with h1 | ⟨x, μ1, h1, h⟩
    · exact fun α Z σ H ok sl Q k => c.ex h1 α Z σ H ok sl _ k
    split at h
    · rename_i hx
      exact fun α Z σ H ok sl Q k => c.ok h1 α Z σ H ok sl _ fun H1 e1 ok1 => by
        rw [if_pos hx]; exact a.ex h α Z σ H1 ok1 (sl.ext ok e1) _ fun d H' e o x => k d H' (e1.trans e) o x
    · rename_i hx
      exact fun α Z σ H ok sl Q k => c.ok h1 α Z σ H ok sl _ fun H1 e1 ok1 => by
        rw [if_neg hx]; exact b.ex h α Z σ H1 ok1 (sl.ext ok e1) _ fun d H' e o x => k d H' (e1.trans e) o x
/-- a < b < c -/
def xChain (o o' : XR) (a b c : XE) : XE where
  t K W := tChain (o.r K) (o'.r K) (a.t K W) (b.t K W) (c.t K W)
  ev ρ μ := bnd (a.ev ρ μ) fun x μ1 => bnd (b.ev ρ μ1) fun y μ2 => match (o.f x y μ2).bind asB with
    | some true => bnd (c.ev ρ μ2) fun z μ3 => lft (o'.f y z μ3) μ3
    | some false => some (.v (.d (.bl false)) μ2)
    | none => none
  ok {K W ρ μ x μ'} h := by
    obtain ⟨x1, μ1, h1, h⟩ := bnd_v_inv h
    obtain ⟨y, μ2, h2, h⟩ := bnd_v_inv h
    intro α Z σ H ok sl Q k
    refine a.ok h1 α Z σ H ok sl _ fun v1 H1 e1 ok1 r1 => b.ok h2 α Z σ H1 ok1 (sl.ext ok e1) _ fun v2 H2 e2 ok2 r2 => ?_
    split at h
    · rename_i q
      cases q1 : o.f x1 y μ2 with
      | none => rw [q1] at q; cases q
      | some z =>
        rw [q1] at q
        have e := asB_inv q; subst e
        obtain ⟨z, μ3, h3, h⟩ := bnd_v_inv h
        obtain ⟨h4, rfl⟩ := lft_v_inv h
        refine o.ok q1 α Z H2 ok2 v1 v2 (r1.ext ok1 e2) r2 _ fun v H3 e3 ok3 r3 => ?_
        cases r3 with
        | d r3 =>
          cases r3
          have e123 := e1.trans (e2.trans e3)
          exact ⟨true, rfl, c.ok h3 α Z σ H3 ok3 (sl.ext ok e123) _ fun v4 H4 e4 ok4 r4 => o'.ok h4 α Z H4 ok4 v2 v4 ((r2.ext ok2 e3).ext ok3 e4) r4 Q fun v5 H5 e5 ok5 r5 => k v5 H5 (e123.trans (e4.trans e5)) ok5 r5⟩
    · rename_i q
      cases q1 : o.f x1 y μ2 with
      | none => rw [q1] at q; cases q
      | some z =>
        rw [q1] at q
        have e := asB_inv q; subst e
        cases h
        refine o.ok q1 α Z H2 ok2 v1 v2 (r1.ext ok1 e2) r2 _ fun v H3 e3 ok3 r3 => ?_
        cases r3 with
        | d r3 =>
          cases r3
          exact ⟨false, rfl, k _ H3 (e1.trans (e2.trans e3)) ok3 (.d (.bl false))⟩
    · cases h
  ex h := by
    rcases bnd_x_inv h with h1 | ⟨x, μ1, h1, h⟩
    · exact fun α Z σ H ok sl Q k => a.ex h1 α Z σ H ok sl _ k
    rcases bnd_x_inv h with h2 | ⟨y, μ2, h2, h⟩
    · exact fun α Z σ H ok sl Q k => a.ok h1 α Z σ H ok sl _ fun v1 H1 e1 ok1 r1 => b.ex h2 α Z σ H1 ok1 (sl.ext ok e1) _ fun d H' e o x => k d H' (e1.trans e) o x
    split at h
    · rename_i q
      cases q1 : o.f x y μ2 with
      | none => rw [q1] at q; cases q
      | some z =>
        rw [q1] at q
        have e := asB_inv q; subst e
        rcases bnd_x_inv h with h3 | ⟨z, μ3, h3, h⟩
        · refine fun α Z σ H ok sl Q k => a.ok h1 α Z σ H ok sl _ fun v1 H1 e1 ok1 r1 => b.ok h2 α Z σ H1 ok1 (sl.ext ok e1) _ fun v2 H2 e2 ok2 r2 => ?_
          refine o.ok q1 α Z H2 ok2 v1 v2 (r1.ext ok1 e2) r2 _ fun v H3 e3 ok3 r3 => ?_
          cases r3 with
          | d r3 =>
            cases r3
            have e123 := e1.trans (e2.trans e3)
            exact ⟨true, rfl, c.ex h3 α Z σ H3 ok3 (sl.ext ok e123) _ fun d H' e o x => k d H' (e123.trans e) o x⟩
        exact (lft_x_inv h).elim
    · cases h
    · cases h
/-! ### slices -/
def xONone : XO where
  t _ _ := tNoPart
  ev _ μ := some (.v none μ)
  ok h := by cases h; exact eo_none
  ex h := by cases h
def asI : AV → Option (Option Int)
  | .d (.int i) => some (some i)
  | _ => none
def xOSome (a : XE) : XO where
  t K W := tPart (a.t K W)
  ev ρ μ := bnd (a.ev ρ μ) fun x μ1 => lft (asI x) μ1
  ok h := by
    obtain ⟨x, μ1, h1, h⟩ := bnd_v_inv h
    obtain ⟨h3, rfl⟩ := lft_v_inv h
    unfold asI at h3
    split at h3
    · cases h3; exact eo_some (a.ok h1)
    · cases h3
  ex h := by
    rcases bnd_x_inv h with h1 | ⟨x, μ1, h1, h⟩
    · exact fun α Z σ H ok sl Q k => a.ex h1 α Z σ H ok sl _ k
    exact (lft_x_inv h).elim
end FX

set_option Elab.async false
set_option linter.all false
set_option maxRecDepth 100000
set_option maxHeartbeats 4000000
/-! FX1: operators and built-ins, reckoned. -/
namespace FX
open PySem PySem.Spec PyProof.Rows L2 DL
/-! ### cells read as data -/
def thaw : AV → List CC → Option D
  | .d x, _ => some x
  | .cell k, μ => match μ[k]? with
    | some (.lst xs) => (toD xs).map .lst
    | _ => none
theorem thaw_inv {x : AV} {μ : List CC} {d : D} (h : thaw x μ = some d) : Thaw μ x d := by
  cases x with
  | d x => cases h; exact .d _
  | cell k =>
    unfold thaw at h
    cases q : μ[k]? with
    | none => simp only [q] at h; cases h
    | some c =>
      simp only [q] at h
      cases c with
      | lst xs =>
        cases e : toD xs with
        | none => simp only [e] at h; cases h
        | some ds => simp only [e] at h; cases h; exact .lst (by rw [q, toD_inv e])
      | dct xs => cases h
      | ins C xs => cases h
def thaws : List AV → List CC → Option (List D)
  | [], _ => some []
  | x :: xs, μ => match thaw x μ, thaws xs μ with
    | some d, some ds => some (d :: ds)
    | _, _ => none
theorem thaws_inv : ∀ {xs : List AV} {μ : List CC} {ds : List D}, thaws xs μ = some ds → Thaws μ xs ds
  | [], _, _, h => by cases h; exact .nil
  | x :: xs, μ, ds, h => by
    unfold thaws at h
    split at h
    · rename_i d es h1 h2
      cases h
      exact .cons (thaw_inv h1) (thaws_inv h2)
    · cases h
/-! ### + - * // % ** -/
def addF : AV → AV → List CC → Option AV
  | .d (.int i), .d (.int j), _ => some (.d (.int (i + j)))
  | .d (.str a), .d (.str b), _ => if a.length + b.length ≤ 100000 then some (.d (.str (a ++ b))) else none
  | .d (.lst a), .d (.lst b), _ => if a.length + b.length ≤ 100000 then some (.d (.lst (a ++ b))) else none
  | .d (.tup a), .d (.tup b), _ => if a.length + b.length ≤ 100000 then some (.d (.tup (a ++ b))) else none
  | _, _, _ => none
def oAdd : XR where
  r K := rAddA K
  f := addF
  ok h := by
    unfold addF at h
    split at h
    · cases h; exact b_add
    · split at h
      · cases h; exact b_addS (by assumption)
      · cases h
    · split at h
      · cases h; exact RVN.rv (b_addL (by assumption))
      · cases h
    · split at h
      · cases h; exact b_addT (by assumption)
      · cases h
    · cases h
def addNF : AV → AV → List CC → Option (List AV)
  | .d (.lst a), .d (.lst b), _ => if a.length + b.length ≤ 100000 then some ((a ++ b).map .d) else none
  | _, _, _ => none
def oAddN : XRN where
  r K := rAddA K
  f := addNF
  ok h := by
    unfold addNF at h
    split at h
    · split at h
      · cases h; exact b_addL (by assumption)
      · cases h
    · cases h
/-- * of whole numbers, a list or a tuple times a number -/
def rMulB (K : PySem.W.Frag) : R2 := fun x y H Q => rMulA x y H Q ∨ rRepA K x y H Q
theorem k_mulB {X : Cx} (K : PySem.W.Frag) (hK : X.K = K) : OpR X (binaryOp .Mult) (rMulB K) := o_mul.or (k_repT K hK)
def okMul (i j : Int) : Bool := (decide (-(2 ^ 64) < i) && decide (i < 2 ^ 64)) || (decide (-(2 ^ 64) < j) && decide (j < 2 ^ 64))
def mulF : AV → AV → List CC → Option AV
  | .d (.int i), .d (.int j), _ => if okMul i j = true then some (.d (.int (i * j))) else none
  | .d (.lst a), .d (.int j), _ => if 0 ≤ j ∧ a.length * j.toNat ≤ 100000 ∧ j ≤ 100000 then some (.d (.lst (List.replicate j.toNat a).flatten)) else none
  | .d (.tup a), .d (.int j), _ => if a ≠ [] ∧ 2 ≤ j ∧ (a.length : Int) * j ≤ 1000000 then some (.d (.tup (List.replicate j.toNat a).flatten)) else none
  | _, _, _ => none
instance {α : Type} (a : List α) : Decidable (a = []) := match a with
  | [] => .isTrue rfl
  | _ :: _ => .isFalse (fun h => nomatch h)
def oMul : XR where
  r K := rMulB K
  f := mulF
  ok h := by
    unfold mulF at h
    split at h
    · split at h
      · rename_i q; cases h
        refine rv_or1 (b_mul ?_)
        simp only [okMul, Bool.or_eq_true, Bool.and_eq_true, decide_eq_true_eq] at q
        exact q
      · cases h
    · split at h
      · rename_i q; cases h; exact rv_or1 (RVN.rv (b_rep q.1 q.2.1 q.2.2))
      · cases h
    · split at h
      · rename_i q; cases h; exact rv_or2 (b_repT q.1 q.2.1 q.2.2)
      · cases h
    · cases h
def intF (g : Int → Int → Option D) : AV → AV → List CC → Option AV
  | .d (.int i), .d (.int j), _ => (g i j).map .d
  | _, _, _ => none
theorem intF_inv {g : Int → Int → Option D} {x y : AV} {μ : List CC} {z : AV} (h : intF g x y μ = some z) : ∃ i j d, x = .d (.int i) ∧ y = .d (.int j) ∧ g i j = some d ∧ z = .d d := by
  unfold intF at h
  split at h
  · rename_i i j
    cases q : g i j with
    | none => rw [q] at h; cases h
    | some d => rw [q] at h; cases h; exact ⟨i, j, d, rfl, rfl, q, rfl⟩
  · cases h
def oSub : XR where
  r _ := rSubI
  f := intF fun i j => some (.int (i - j))
  ok h := by obtain ⟨i, j, d, rfl, rfl, q, rfl⟩ := intF_inv h; cases q; exact b_sub
def oDiv : XR where
  r _ := rDivI
  f := intF fun i j => if 0 < j ∧ j < 1073741824 then some (.int (i / j)) else none
  ok h := by
    obtain ⟨i, j, d, rfl, rfl, q, rfl⟩ := intF_inv h
    split at q
    · cases q; exact b_div (by assumption)
    · cases q
def oMod : XR where
  r _ := rModI
  f := intF fun i j => if 0 < j then some (.int (i % j)) else none
  ok h := by
    obtain ⟨i, j, d, rfl, rfl, q, rfl⟩ := intF_inv h
    split at q
    · cases q; exact b_mod (by assumption)
    · cases q
def oPow : XR where
  r _ := rPowI
  f := intF fun i j => if 0 ≤ j ∧ j ≤ 1000000 ∧ i.natAbs < 2 ^ 64 then some (.int (i ^ j.toNat)) else none
  ok h := by
    obtain ⟨i, j, d, rfl, rfl, q, rfl⟩ := intF_inv h
    split at q
    · cases q; exact b_pow (by assumption)
    · cases q
/-! ### comparisons -/
def oLt : XR where
  r _ := rLtI
  f := intF fun i j => some (.bl (decide (i < j)))
  ok h := by obtain ⟨i, j, d, rfl, rfl, q, rfl⟩ := intF_inv h; cases q; exact b_lt
def oLe : XR where
  r _ := rLeI
  f := intF fun i j => some (.bl (decide (i ≤ j)))
  ok h := by obtain ⟨i, j, d, rfl, rfl, q, rfl⟩ := intF_inv h; cases q; exact b_le
def oGt : XR where
  r _ := rGtI
  f := intF fun i j => some (.bl (decide (j < i)))
  ok h := by obtain ⟨i, j, d, rfl, rfl, q, rfl⟩ := intF_inv h; cases q; exact b_gt
def oGe : XR where
  r _ := rGeI
  f := intF fun i j => some (.bl (decide (j ≤ i)))
  ok h := by obtain ⟨i, j, d, rfl, rfl, q, rfl⟩ := intF_inv h; cases q; exact b_ge
/-- data that == may compare: at most n deep, no dicts, no objects -/
def okD : Nat → D → Bool
  | _, .non | _, .bl _ | _, .int _ | _, .str _ => true
  | n + 1, .lst xs => xs.all (okD n)
  | n + 1, .tup xs => xs.all (okD n)
  | _, _ => false
theorem depthAll_le {n : Nat} : ∀ {xs : List D}, (∀ x ∈ xs, x.py.depth ≤ n) → PyData.depthAll (D.pyAll xs) ≤ n
  | [], _ => Nat.zero_le _
  | x :: xs, h => by
    rw [D.pyAll, PyData.depthAll]
    exact Nat.max_le.mpr ⟨h x List.mem_cons_self, depthAll_le fun y hy => h y (List.mem_cons_of_mem _ hy)⟩
theorem okD_inv : ∀ {n : Nat} {d : D}, okD n d = true → d.plain = true ∧ d.py.depth ≤ n
  | n, .non, _ => ⟨rfl, Nat.zero_le _⟩
  | n, .bl _, _ => ⟨rfl, Nat.zero_le _⟩
  | n, .int _, _ => ⟨rfl, Nat.zero_le _⟩
  | n, .str _, _ => ⟨rfl, Nat.zero_le _⟩
  | n + 1, .lst xs, h => by
    simp only [okD, List.all_eq_true] at h
    refine ⟨by simp only [D.plain]; exact D.plainAll_iff.mpr fun x hx => (okD_inv (h x hx)).1, ?_⟩
    simp only [D.py, PyData.depth]
    exact Nat.succ_le_succ (depthAll_le fun x hx => (okD_inv (h x hx)).2)
  | n + 1, .tup xs, h => by
    simp only [okD, List.all_eq_true] at h
    refine ⟨by simp only [D.plain]; exact D.plainAll_iff.mpr fun x hx => (okD_inv (h x hx)).1, ?_⟩
    simp only [D.py, PyData.depth]
    exact Nat.succ_le_succ (depthAll_le fun x hx => (okD_inv (h x hx)).2)
  | 0, .lst xs, h => by simp [okD] at h
  | 0, .tup xs, h => by simp [okD] at h
  | 0, .dct _, h => by simp [okD] at h
  | 0, .fz _, h => by simp [okD] at h
  | 0, .raw _, h => by simp [okD] at h
  | 0, .ins _ _, h => by simp [okD] at h
  | 0, .exc _ _ _ _, h => by simp [okD] at h
  | n + 1, .dct _, h => by simp [okD] at h
  | n + 1, .fz _, h => by simp [okD] at h
  | n + 1, .raw _, h => by simp [okD] at h
  | n + 1, .ins _ _, h => by simp [okD] at h
  | n + 1, .exc _ _ _ _, h => by simp [okD] at h
def eqD (d e : D) : Bool := PyData.eqv d.py e.py
def eqF (x y : AV) (μ : List CC) : Option AV := match thaw x μ, thaw y μ with
  | some d, some e => if okD 50 d = true ∧ okD 50 e = true then some (.d (.bl (eqD d e))) else none
  | _, _ => none
def neF (x y : AV) (μ : List CC) : Option AV := match thaw x μ, thaw y μ with
  | some d, some e => if okD 50 d = true ∧ okD 50 e = true then some (.d (.bl (!eqD d e))) else none
  | _, _ => none
def oEq : XR where
  r K := rEqP K
  f := eqF
  ok h := by
    unfold eqF at h
    split at h
    · rename_i d e h1 h2
      split at h
      · rename_i q; cases h
        exact rv_thaw (b_eqP (okD_inv q.1).1 (okD_inv q.2).1 (Nat.le_trans (okD_inv q.1).2 (by decide))) rfl (thaw_inv h1) (thaw_inv h2)
      · cases h
    · cases h
def oNe : XR where
  r K := rNeP K
  f := neF
  ok h := by
    unfold neF at h
    split at h
    · rename_i d e h1 h2
      split at h
      · rename_i q; cases h
        exact rv_thaw (b_neP (okD_inv q.1).1 (okD_inv q.2).1 (Nat.le_trans (okD_inv q.1).2 (by decide))) rfl (thaw_inv h1) (thaw_inv h2)
      · cases h
    · cases h
/-! ### is None -/
def isNonF : AV → Option Bool
  | .d .non => some true
  | .cell _ => some false
  | .d (.raw _) => none
  | .d _ => some false
theorem Rp.nonDec {K : PySem.W.Frag} {Z : List Addr} {H : Hp} {v : V} {d : D} {b : Bool} (h : isNonF (.d d) = some b) (r : Rp K Z H v d) : decide (v = .non) = b := by
  cases r <;> first | (cases h; rfl) | (simp [isNonF] at h; subst h; rfl) | (simp [isNonF] at h)
theorem RpV.nonDec {K : PySem.W.Frag} {α Z : List Addr} {H : Hp} {v : V} {x : AV} {b : Bool} (h : isNonF x = some b) (r : RpV K α Z H v x) : decide (v = .non) = b := by
  cases r with
  | d r => exact Rp.nonDec h r
  | cell _ => cases h; rfl
def isF (x y : AV) (_ : List CC) : Option AV := match y with
  | .d .non => (isNonF x).map fun b => .d (.bl b)
  | .d (.bl q) => match x with
    | .d (.bl p) => some (.d (.bl (decide (p = q))))
    | _ => none
  | _ => none
def isnF (x y : AV) (_ : List CC) : Option AV := match y with
  | .d .non => (isNonF x).map fun b => .d (.bl (!b))
  | .d (.bl q) => match x with
    | .d (.bl p) => some (.d (.bl (!decide (p = q))))
    | _ => none
  | _ => none
def oIs : XR where
  r _ := rIsA
  f := isF
  ok h := by
    unfold isF at h
    split at h
    · rename_i x y μ z
      cases q : isNonF x with
      | none => rw [q] at h; cases h
      | some b =>
        rw [q] at h; cases h
        intro α Z H ok vx vy rx ry Q k
        cases ry with
        | d ry => cases ry; exact .inl ⟨rfl, by rw [RpV.nonDec q rx]; exact k _ H (.refl _ _) ok (.d (.bl b))⟩
    · split at h
      · cases h; exact b_isB
      · cases h
    · cases h
def oIsN : XR where
  r _ := rIsNotA
  f := isnF
  ok h := by
    unfold isnF at h
    split at h
    · rename_i x y μ z
      cases q : isNonF x with
      | none => rw [q] at h; cases h
      | some b =>
        rw [q] at h; cases h
        intro α Z H ok vx vy rx ry Q k
        cases ry with
        | d ry => cases ry; exact .inl ⟨rfl, by rw [RpV.nonDec q rx]; exact k _ H (.refl _ _) ok (.d (.bl (!b)))⟩
    · split at h
      · cases h; exact b_isnotB
      · cases h
    · cases h
/-! ### in -/
def inF (neg : Bool) (x y : AV) (μ : List CC) : Option AV := match thaw x μ, thaw y μ with
  | some d, some (.lst xs) => if d.flat = true ∧ xs.all D.flat = true then some (.d (.bl (if neg = true then !inD d xs else inD d xs))) else none
  | some d, some (.tup xs) => if d.flat = true ∧ xs.all D.flat = true then some (.d (.bl (if neg = true then !inD d xs else inD d xs))) else none
  | some (.str a), some (.str b) => match a.cps.toList with
    | [c] => some (.d (.bl (if neg = true then !decide (c ∈ b.cps.toList) else decide (c ∈ b.cps.toList))))
    | _ => none
  | _, _ => none
/-- in a list, a tuple; a sign in a text -/
def rInU (K : PySem.W.Frag) : R2 := fun x y H Q => rInA K x y H Q ∨ (∃ (c : Nat) (z : Str), x = .str ⟨#[c]⟩ ∧ y = .str z ∧ Q (.bl (decide (c ∈ z.cps.toList))) H)
def rNotInU (K : PySem.W.Frag) : R2 := fun x y H Q => rNotInA K x y H Q ∨ (∃ (c : Nat) (z : Str), x = .str ⟨#[c]⟩ ∧ y = .str z ∧ Q (.bl (!decide (c ∈ z.cps.toList))) H)
theorem k_inU {X : Cx} (K : PySem.W.Frag) (hK : X.K = K) : OpR X (compareOp .In) (rInU K) := (k_in K hK).or op_in_sign
theorem k_notinU {X : Cx} (K : PySem.W.Frag) (hK : X.K = K) : OpR X (compareOp .NotIn) (rNotInU K) := (k_notin K hK).or op_notIn_sign
theorem b_notinT {K : PySem.W.Frag} {μ : List CC} {d : D} {xs : List D} (h1 : d.flat = true) (h2 : xs.all D.flat = true) : RV K (rNotInA K) (.d d) (.d (.tup xs)) μ (.d (.bl (!inD d xs))) μ := rv_of fun Z H vx vy rx ry Q k => by
  cases ry with
  | tup n q r =>
    have e := Rp.v h1 rx
    have e2 := RpA.v h2 r
    subst e; subst e2
    exact ⟨_, _, rfl, .inr (SqT.of q), flat_v h1, flats_v h2, k _ (.bl _)⟩
theorem sgStr {a : Str} {c : Nat} (h : a.cps.toList = [c]) : a = ⟨#[c]⟩ := by
  cases a with
  | mk cps => simp only at h; congr 1; exact Array.toList_inj.mp h
def oIn : XR where
  r K := rInU K
  f := inF false
  ok h := by
    unfold inF at h
    split at h
    · rename_i h1 h2
      split at h
      · rename_i q; cases h; exact rv_or1 (rv_thaw (b_inL q.1 q.2) rfl (thaw_inv h1) (thaw_inv h2))
      · cases h
    · rename_i h1 h2
      split at h
      · rename_i q; cases h; exact rv_or1 (rv_thaw (b_inT q.1 q.2) rfl (thaw_inv h1) (thaw_inv h2))
      · cases h
    · rename_i h1 h2
      split at h
      · rename_i q; cases h
        have e := sgStr q; subst e
        refine rv_thaw (rv_of fun Z H vx vy rx ry Q k => ?_) rfl (thaw_inv h1) (thaw_inv h2)
        cases rx; cases ry
        exact .inr ⟨_, _, rfl, rfl, k _ (.bl _)⟩
      · cases h
    · cases h
def oNotIn : XR where
  r K := rNotInU K
  f := inF true
  ok h := by
    unfold inF at h
    split at h
    · rename_i h1 h2
      split at h
      · rename_i q; cases h; exact rv_or1 (rv_thaw (b_notinL q.1 q.2) rfl (thaw_inv h1) (thaw_inv h2))
      · cases h
    · rename_i h1 h2
      split at h
      · rename_i q; cases h; exact rv_or1 (rv_thaw (b_notinT q.1 q.2) rfl (thaw_inv h1) (thaw_inv h2))
      · cases h
    · rename_i h1 h2
      split at h
      · rename_i q; cases h
        have e := sgStr q; subst e
        refine rv_thaw (rv_of fun Z H vx vy rx ry Q k => ?_) rfl (thaw_inv h1) (thaw_inv h2)
        cases rx; cases ry
        exact .inr ⟨_, _, rfl, rfl, k _ (.bl _)⟩
      · cases h
    · cases h
/-! ### x[i] -/
def ixF : AV → AV → List CC → Option AV
  | .d (.lst xs), .d (.int i), _ => (atI xs i).map .d
  | .d (.tup xs), .d (.int i), _ => (atI xs i).map .d
  | .d (.fz ns), .d (.int i), _ => (atI ns i).map fun n => .d (.int n)
  | .d (.str a), .d (.int i), _ => if a.length ≤ 100000 then (atI a.cps.toList i).map fun c => .d (.str ⟨#[c]⟩) else none
  | .cell k, .d (.int i), μ => match μ[k]? with
    | some (.lst cs) => atI cs i
    | _ => none
  | _, _, _ => none
theorem map_some_inv {α β : Type} {o : Option α} {g : α → β} {z : β} (h : o.map g = some z) : ∃ x, o = some x ∧ z = g x := by
  cases o with
  | none => cases h
  | some x => cases h; exact ⟨x, rfl, rfl⟩
def oIx : XR where
  r K := rIx K
  f := ixF
  ok h := by
    unfold ixF at h
    split at h
    · obtain ⟨x, q, rfl⟩ := map_some_inv h; exact b_ixL q
    · obtain ⟨x, q, rfl⟩ := map_some_inv h; exact b_ixT q
    · obtain ⟨x, q, rfl⟩ := map_some_inv h; exact b_ixF q
    · split at h
      · obtain ⟨x, q, rfl⟩ := map_some_inv h; exact b_ixS (by assumption) q
      · cases h
    · split at h
      · rename_i q; exact b_ixC q h
      · cases h
    · cases h
def uNeg : XU where
  r _ := rU fun i => .int (-i)
  f x _ := match x with
    | .d (.int i) => some (.d (.int (-i)))
    | _ => none
  ok h := by
    split at h
    · cases h; exact b_neg
    · cases h
/-! ### built-ins -/
def lenF : List AV → List CC → Option AV
  | [.d (.lst xs)], _ => some (.d (.int xs.length))
  | [.d (.tup xs)], _ => some (.d (.int xs.length))
  | [.d (.str a)], _ => if a.length ≤ 100000 then some (.d (.int a.length)) else none
  | [.d (.fz ns)], _ => some (.d (.int ns.length))
  | [.cell k], μ => match μ[k]? with
    | some (.lst cs) => some (.d (.int cs.length))
    | _ => none
  | _, _ => none
def cLen : XC where
  r K := rLenA K
  f := lenF
  ok h := by
    unfold lenF at h
    split at h
    · cases h; exact b_lenL
    · cases h; exact b_lenT
    · split at h
      · cases h; exact b_lenS (by assumption)
      · cases h
    · cases h; exact b_lenF
    · split at h
      · cases h; exact b_lenC (by assumption)
      · cases h
    · cases h
def reprOk (d : D) : Bool := d.plain && d.py.showable && decide (d.py.depth ≤ 60) && decide (d.py.shown.length ≤ 16777216)
theorem reprOk_of {d : D} {n k : Nat} (s : Sh d n k) (hn : n ≤ 16777216) (hk : k ≤ 60) : reprOk d = true := by
  unfold reprOk
  rw [s.plain, s.showable, decide_eq_true (Nat.le_trans s.depth hk), decide_eq_true (Nat.le_trans s.len hn)]; rfl
def reprF : List AV → List CC → Option AV
  | [x], μ => match thaw x μ with
    | some d => if reprOk d = true then some (.d (.str d.shown)) else none
    | none => none
  | _, _ => none
def cRepr : XC where
  r K := rReprA K
  f := reprF
  ok h := by
    unfold reprF at h
    split at h
    · rename_i x μ
      split at h
      · rename_i d q
        split at h
        · rename_i g; cases h
          simp only [reprOk, Bool.and_eq_true, decide_eq_true_eq] at g
          exact rc_thaw (ds := [d]) (b_repr g.1.1.1 g.1.1.2 (noDict_plain d g.1.1.1) g.1.2 g.2) rfl (.cons (thaw_inv q) .nil)
        · cases h
      · cases h
    · cases h
def listF : List AV → List CC → Option (List AV)
  | [x], μ => match thaw x μ with
    | some (.lst xs) => some (xs.map .d)
    | some (.tup xs) => some (xs.map .d)
    | _ => none
  | _, _ => none
theorem rcn_thaw {K : PySem.W.Frag} {μ : List CC} {x : AV} {d : D} {xs : List D} (t : Thaw μ x d) (hd : d = .lst xs ∨ d = .tup xs) : RCN K (rListA K) [x] μ (xs.map .d) μ := by
  intro α Z H ok vs rs Q k
  have key : ∀ (v : V), RpV K α Z H v x → ∃ p vs, v = .ref p ∧ (SqL K H p vs ∨ SqT K H p vs) ∧ RpA K Z H vs xs := by
    intro v r
    cases t with
    | d =>
      cases r with
      | d r =>
        rcases hd with rfl | rfl
        · cases r with | lst n h r => exact ⟨_, _, rfl, .inl (SqL.of h), r⟩
        · cases r with | tup n h r => exact ⟨_, _, rfl, .inr (SqT.of h), r⟩
    | lst hk =>
      cases r with
      | cell ha =>
        rcases hd with e | e
        · cases e
          obtain ⟨vs, h1, h2⟩ := ok.c.at_ _ _ _ ha hk
          exact ⟨_, _, rfl, .inl (SqL.of h1), RpVs.to_data h2⟩
        · cases e
  cases rs with
  | cons r rs =>
    cases rs
    obtain ⟨p, ys, rfl, hs, ra⟩ := key _ r
    exact ⟨p, ys, rfl, hs, fun l hl => k l ys _ (Ext.new hl) hl upd_same (ok.keepOff hl (Ext.laid hl) ⟨_, upd_same⟩) (.of_data (ra.gr ok.w (Gr.new1 hl (Ext.laid hl))))⟩
def cList : XCN where
  r K := rListA K
  f := listF
  ok h := by
    unfold listF at h
    split at h
    · split at h
      · rename_i q; cases h; exact rcn_thaw (thaw_inv q) (.inl rfl)
      · rename_i q; cases h; exact rcn_thaw (thaw_inv q) (.inr rfl)
      · cases h
    · cases h
def tupF : List AV → List CC → Option AV
  | [.d (.tup xs)], _ => some (.d (.tup xs))
  | [x], μ => match thaw x μ with
    | some (.lst xs) => some (.d (.tup xs))
    | _ => none
  | _, _ => none
theorem rc_tupL {K : PySem.W.Frag} {μ : List CC} {x : AV} {xs : List D} (t : Thaw μ x (.lst xs)) : RC K (rTupA K) [x] μ (.d (.tup xs)) μ := by
  intro α Z H ok vs rs Q k
  have key : ∀ (v : V), RpV K α Z H v x → ∃ p vs, v = .ref p ∧ SqL K H p vs ∧ RpA K Z H vs xs := by
    intro v r
    cases t with
    | d =>
      cases r with
      | d r => cases r with | lst n h r => exact ⟨_, _, rfl, SqL.of h, r⟩
    | lst hk =>
      cases r with
      | cell ha =>
        obtain ⟨vs, h1, h2⟩ := ok.c.at_ _ _ _ ha hk
        exact ⟨_, _, rfl, SqL.of h1, RpVs.to_data h2⟩
  cases rs with
  | cons r rs =>
    cases rs
    obtain ⟨p, ys, rfl, hs, ra⟩ := key _ r
    exact ⟨p, ys, rfl, .inl ⟨hs, fun l hl => k _ _ (Ext.new hl) (ok.laid hl) (.d (.tup (ok.w.off hl) upd_same (ra.gr ok.w (.of_ext (Ext.new hl)))))⟩⟩
def cTup : XC where
  r K := rTupA K
  f := tupF
  ok h := by
    unfold tupF at h
    split at h
    · cases h; exact b_tupT
    · split at h
      · rename_i q; cases h; exact rc_tupL (thaw_inv q)
      · cases h
    · cases h
def cAbs : XC where
  r _ := rAbsA
  f xs _ := match xs with
    | [.d (.int i)] => some (.d (.int (if i < 0 then -i else i)))
    | _ => none
  ok h := by
    split at h
    · cases h; exact b_abs
    · cases h
def cInt : XC where
  r _ := rIntA
  f xs _ := match xs with
    | [.d (.bl p)] => some (.d (.int (if p then 1 else 0)))
    | _ => none
  ok h := by
    split at h
    · cases h; exact b_intB
    · cases h
def cMax2 : XC where
  r _ := rMax2A
  f xs _ := match xs with
    | [.d (.int i), .d (.int j)] => some (.d (.int (max i j)))
    | _ => none
  ok h := by
    split at h
    · cases h; exact b_max2
    · cases h
def cMin2 : XC where
  r _ := rMin2A
  f xs _ := match xs with
    | [.d (.int i), .d (.int j)] => some (.d (.int (min i j)))
    | _ => none
  ok h := by
    split at h
    · cases h; exact b_min2
    · cases h
def asBs : List D → Option (List Bool)
  | [] => some []
  | .bl b :: r => match asBs r with
    | some bs => some (b :: bs)
    | none => none
  | _ :: _ => none
theorem asBs_map {α : Type} (p : α → Bool) (as : List α) : asBs (as.map fun a => D.bl (p a)) = some (as.map p) := by
  induction as with
  | nil => rfl
  | cons a as ih => simp only [List.map_cons, asBs, ih]
theorem asBs_inv : ∀ {xs : List D} {bs : List Bool}, asBs xs = some bs → xs = bs.map .bl
  | [], bs, h => by cases h; rfl
  | x :: xs, bs, h => by
    unfold asBs at h
    split at h
    · cases h; rename_i e; cases e
    · rename_i b r e
      cases e
      cases q : asBs xs with
      | none => rw [q] at h; cases h
      | some cs => rw [q] at h; cases h; rw [asBs_inv q]; rfl
    · cases h
def anyF : List AV → List CC → Option AV
  | [.d (.lst xs)], _ => (asBs xs).map fun bs => .d (.bl (bs.any id))
  | _, _ => none
def allF : List AV → List CC → Option AV
  | [.d (.lst xs)], _ => (asBs xs).map fun bs => .d (.bl (bs.all id))
  | _, _ => none
def cAny : XC where
  r K := rAny K
  f := anyF
  ok h := by
    unfold anyF at h
    split at h
    · obtain ⟨bs, q, rfl⟩ := map_some_inv h
      have e := asBs_inv q; subst e; exact b_any
    · cases h
def cAll : XC where
  r K := rAll K
  f := allF
  ok h := by
    unfold allF at h
    split at h
    · obtain ⟨bs, q, rfl⟩ := map_some_inv h
      have e := asBs_inv q; subst e; exact b_all
    · cases h
def asIs : List D → Option (List Int)
  | [] => some []
  | .int b :: r => match asIs r with
    | some bs => some (b :: bs)
    | none => none
  | _ :: _ => none
theorem asIs_map {α : Type} (p : α → Int) (as : List α) : asIs (as.map fun a => D.int (p a)) = some (as.map p) := by
  induction as with
  | nil => rfl
  | cons a as ih => simp only [List.map_cons, asIs, ih]
theorem asIs_inv : ∀ {xs : List D} {bs : List Int}, asIs xs = some bs → xs = bs.map .int
  | [], bs, h => by cases h; rfl
  | x :: xs, bs, h => by
    unfold asIs at h
    split at h
    · cases h; rename_i e; cases e
    · rename_i b r e
      cases e
      cases q : asIs xs with
      | none => rw [q] at h; cases h
      | some cs => rw [q] at h; cases h; rw [asIs_inv q]; rfl
    · cases h
def cSortI : XCN where
  r K := rSortedI K
  f xs _ := match xs with
    | [.d (.lst xs)] => (asIs xs).map fun ns => (sortI ns).map fun n => .d (.int n)
    | _ => none
  ok h := by
    split at h
    · obtain ⟨bs, q, rfl⟩ := map_some_inv h
      have e := asIs_inv q; subst e; exact b_sortI
    · cases h
/-- the kind asked -/
def isKind (n : String) (d : D) : Option Bool :=
  if n = "str" then some d.isStr else if n = "tuple" then some d.isTup else if n = "list" then some d.isLst else if n = "int" then some d.isInt else if n = "bool" then some d.isBool else none
def isiF : List AV → List CC → Option AV
  | [.d d, .d (.raw (.ty n))], _ => if d.ty.isSome = true then (isKind n d).map fun b => .d (.bl b) else none
  | _, _ => none
def cIsi : XC where
  r K := rIsi K
  f := isiF
  ok h := by
    unfold isiF at h
    split at h
    · rename_i d n μ
      split at h
      · rename_i g
        obtain ⟨b, q, rfl⟩ := map_some_inv h
        unfold isKind at q
        split at q
        · rename_i e; subst e; cases q; exact b_isStr g
        split at q
        · rename_i e; subst e; cases q; exact b_isTup g
        split at q
        · rename_i e; subst e; cases q; exact b_isLst g
        split at q
        · rename_i e; subst e; cases q; exact b_isInt g
        split at q
        · rename_i e; subst e; cases q; exact b_isBool g
        · cases q
      · cases h
    · cases h
def isSeqF : List AV → List CC → Option AV
  | [.d d, .d (.tup [.raw (.ty m), .raw (.ty n)])], _ => if d.ty.isSome = true ∧ m = "list" ∧ n = "tuple" then some (.d (.bl (d.isLst || d.isTup))) else none
  | _, _ => none
def cIsSeq : XC where
  r K := rIsiT K
  f := isSeqF
  ok h := by
    unfold isSeqF at h
    split at h
    · split at h
      · rename_i g; obtain ⟨g, rfl, rfl⟩ := g; cases h; exact b_isSeq g
      · cases h
    · cases h
end FX

set_option Elab.async false
set_option linter.all false
set_option maxRecDepth 100000
set_option maxHeartbeats 4000000
/-! FX2: walks, targets, comprehensions, statements, reckoned. -/
namespace FX
open PySem PySem.Spec PyProof.Rows L2 DL
/-! ### forgetting -/
theorem fgt_setN : ∀ (ρ : Slots) (i : Nat), Fgt ρ (ρ.set i none)
  | [], _ => trivial
  | a :: as, 0 => ⟨.inl rfl, fgt_refl as⟩
  | a :: as, i + 1 => ⟨.inr rfl, fgt_setN as i⟩
theorem fgt_wipe (ρ : Slots) : ∀ vs : List Nat, Fgt ρ (wipeA ρ vs)
  | [] => fgt_refl ρ
  | v :: vs => fgt_trans (fgt_wipe ρ vs) (fgt_setN _ v)
theorem ET.fgt {K : PySem.W.Frag} {t : TT} {ρ ρ' : Slots} {μ μ' : List CC} {b : Bool} (f : Fgt ρ ρ') (h : ET K t ρ' μ b μ') : ET K t ρ μ b μ' := fun α Z σ H ok sl Q k => h α Z σ H ok (sl.weak f.len f.at_) Q k
/-! ### slices, walks -/
theorem cut_all {xs : List D} {l u : Option Int} (hw : HT.sIx xs.length 0 l = 0 ∧ HT.sIx xs.length xs.length u = xs.length) : DL.cutD xs l u = xs := by
  unfold DL.cutD
  rw [hw.1, hw.2, List.drop_zero, Nat.sub_zero, List.take_length]
def xSl (a : XE) (lo hi : XO) : XE where
  t K W := tSl (rSlAny K) (a.t K W) (lo.t K W) (hi.t K W)
  ev ρ μ := bnd (a.ev ρ μ) fun x μ1 => bnd (lo.ev ρ μ1) fun l μ2 => bnd (hi.ev ρ μ2) fun h μ3 => match x with
    | .d (.lst xs) => some (.v (.d (.lst (DL.cutD xs l h))) μ3)
    | .d (.tup xs) => some (.v (.d (.tup (DL.cutD xs l h))) μ3)
    | _ => none
  ok {K W ρ μ x μ'} h := by
    obtain ⟨x, μ1, h1, h⟩ := bnd_v_inv h
    obtain ⟨l, μ2, h2, h⟩ := bnd_v_inv h
    obtain ⟨u, μ3, h3, h⟩ := bnd_v_inv h
    intro α Z σ H ok sl Q k
    refine a.ok h1 α Z σ H ok sl _ fun v H1 e1 ok1 r1 => lo.ok h2 α Z σ H1 ok1 (sl.ext ok e1) _ fun H2 e2 ok2 => hi.ok h3 α Z σ H2 ok2 (sl.ext ok (e1.trans e2)) _ fun H3 e3 ok3 => ?_
    have e123 := e1.trans (e2.trans e3)
    have r3 := (r1.ext ok1 e2).ext ok2 e3
    split at h
    · cases h
      cases r3 with
      | d r3 => cases r3 with
        | lst n q r => exact .inl ⟨_, _, rfl, SqL.of q, fun p hp => k _ _ (e123.trans (Ext.new hp)) (ok3.laid hp) (.d (.lst (ok3.w.off hp) upd_same ((r.cut l u).gr ok3.w (.of_ext (Ext.new (α := α) hp)))))⟩
    · cases h
      cases r3 with
      | d r3 => cases r3 with
        | tup n q r =>
          refine .inr ⟨_, _, rfl, SqT.of q, fun hw => ?_, fun hw p hp => ?_⟩
          · rw [r.length] at hw
            exact k _ H3 e123 ok3 (.d (by rw [cut_all hw]; exact .tup n q r))
          · exact k _ _ (e123.trans (Ext.new hp)) (ok3.laid hp) (.d (.tup (ok3.w.off hp) upd_same ((r.cut l u).gr ok3.w (.of_ext (Ext.new (α := α) hp)))))
    · cases h
  ex h := by
    rcases bnd_x_inv h with h1 | ⟨x, μ1, h1, h⟩
    · exact fun α Z σ H ok sl Q k => a.ex h1 α Z σ H ok sl _ k
    rcases bnd_x_inv h with h2 | ⟨l, μ2, h2, h⟩
    · exact fun α Z σ H ok sl Q k => a.ok h1 α Z σ H ok sl _ fun v1 H1 e1 ok1 r1 => lo.ex h2 α Z σ H1 ok1 (sl.ext ok e1) _ fun d H' e o x => k d H' (e1.trans e) o x
    rcases bnd_x_inv h with h3 | ⟨u, μ3, h3, h⟩
    · exact fun α Z σ H ok sl Q k => a.ok h1 α Z σ H ok sl _ fun v1 H1 e1 ok1 r1 => lo.ok h2 α Z σ H1 ok1 (sl.ext ok e1) _ fun H2 e2 ok2 => hi.ex h3 α Z σ H2 ok2 (sl.ext ok (e1.trans e2)) _ fun d H' e o x => k d H' (e1.trans (e2.trans e)) o x
    split at h <;> cases h
/-- a list's slice as a new list; the list data or a cell -/
def xSlN (a : XE) (lo hi : XO) : XN where
  t K W := tSl (rSlAny K) (a.t K W) (lo.t K W) (hi.t K W)
  ev ρ μ := bnd (a.ev ρ μ) fun x μ1 => bnd (lo.ev ρ μ1) fun l μ2 => bnd (hi.ev ρ μ2) fun h μ3 => match x with
    | .d (.lst xs) => some (.v ((DL.cutD xs l h).map .d) μ3)
    | .cell k => match μ3[k]? with
      | some (.lst cs) => match toD cs with
        | some ds => some (.v ((DL.cutD ds l h).map .d) μ3)
        | none => none
      | _ => none
    | _ => none
  ok {K W ρ μ x μ'} h := by
    obtain ⟨x, μ1, h1, h⟩ := bnd_v_inv h
    obtain ⟨l, μ2, h2, h⟩ := bnd_v_inv h
    obtain ⟨u, μ3, h3, h⟩ := bnd_v_inv h
    intro α Z σ H ok sl Q k
    refine a.ok h1 α Z σ H ok sl _ fun v H1 e1 ok1 r1 => lo.ok h2 α Z σ H1 ok1 (sl.ext ok e1) _ fun H2 e2 ok2 => hi.ok h3 α Z σ H2 ok2 (sl.ext ok (e1.trans e2)) _ fun H3 e3 ok3 => ?_
    have e123 := e1.trans (e2.trans e3)
    have r3 := (r1.ext ok1 e2).ext ok2 e3
    split at h
    · cases h
      cases r3 with
      | d r3 => cases r3 with
        | lst n q r => exact .inl ⟨_, _, rfl, SqL.of q, fun p hp => k p _ _ (e123.trans (Ext.new hp)) (none_back (fun q => ok3.w.off hp (ok.w.sub p q)) e123 hp) upd_same (ok3.keepOff hp (Ext.laid hp) ⟨_, upd_same⟩)
          (.of_data ((r.cut l u).gr ok3.w (Gr.new1 (α := α) hp (Ext.laid hp))))⟩
    · cases r3 with
      | cell ha =>
        split at h
        · rename_i q
          split at h
          · rename_i q2
            cases h
            have e := toD_inv q2; subst e
            obtain ⟨vs, s1, s2⟩ := ok3.c.at_ _ _ _ ha q
            exact .inl ⟨_, _, rfl, SqL.of s1, fun p hp => k p _ _ (e123.trans (Ext.new hp)) (none_back (fun q => ok3.w.off hp (ok.w.sub p q)) e123 hp) upd_same (ok3.keepOff hp (Ext.laid hp) ⟨_, upd_same⟩)
                (.of_data (((RpVs.to_data s2).cut l u).gr ok3.w (Gr.new1 (α := α) hp (Ext.laid hp))))⟩
          · cases h
        · cases h
    · cases h
  ex h := by
    rcases bnd_x_inv h with h1 | ⟨x, μ1, h1, h⟩
    · exact fun α Z σ H ok sl Q k => a.ex h1 α Z σ H ok sl _ k
    rcases bnd_x_inv h with h2 | ⟨l, μ2, h2, h⟩
    · exact fun α Z σ H ok sl Q k => a.ok h1 α Z σ H ok sl _ fun v1 H1 e1 ok1 r1 => lo.ex h2 α Z σ H1 ok1 (sl.ext ok e1) _ fun d H' e o x => k d H' (e1.trans e) o x
    rcases bnd_x_inv h with h3 | ⟨u, μ3, h3, h⟩
    · exact fun α Z σ H ok sl Q k => a.ok h1 α Z σ H ok sl _ fun v1 H1 e1 ok1 r1 => lo.ok h2 α Z σ H1 ok1 (sl.ext ok e1) _ fun H2 e2 ok2 => hi.ex h3 α Z σ H2 ok2 (sl.ext ok (e1.trans e2)) _ fun d H' e o x => k d H' (e1.trans (e2.trans e)) o x
    split at h
    · cases h
    · split at h
      · split at h <;> cases h
      · cases h
    · cases h
/-- a walk over a list, a tuple or a text of any kind -/
def iAny (K : PySem.W.Frag) (tl : TE) : TI := fun σ H R => tl σ H fun x H1 => (∃ a, x = .ref a ∧ (∃ xs, SqL K H1 a xs) ∧ R (Itl K a) H1) ∨ (∃ a, x = .ref a ∧ (∃ xs, SqT K H1 a xs) ∧ R (Itt K a) H1) ∨ (∃ x', x = .str x' ∧ R (Its x') H1)
theorem k_pany {X : Cx} {tg l : Expr} {tl : TE} (K : PySem.W.Frag) (hK : X.K = K) (hl : PE X l tl) : PI X tg l (iAny K tl) := by
  subst hK
  refine ⟨fun pins s σ H R I h => ?_⟩
  refine thn (hl.run pins s σ H _ I h) fun v s1 ⟨x, H1, I1, r1, q1⟩ => ?_
  rcases q1 with ⟨a, e, ⟨xs, hq⟩, q⟩ | ⟨a, e, ⟨xs, hq⟩, q⟩ | ⟨x', ex, q⟩
  · subst e
    cases r1
    obtain ⟨its, rv, p, hz⟩ := I1.list hq
    refine wpAny_pyIter_list p.isList ?_
    refine ⟨s1.heap.objs.size, [s1.heap.objs.size], _, _, H1, rfl, I1.kept (t' := s1.toks) fun b o e => Heap.get?_push_of_some _ e, turn_list a _, ⟨_, Heap.get?_push_size _ rfl, rfl, rfl⟩, fun b hb => ?_, q⟩
    have e : b = s1.heap.objs.size := by simpa using hb
    subst e
    exact I1.fpOk (Nat.le_refl _) (I1.hok.fresh (Nat.le_refl _))
  · subst e
    cases r1
    obtain ⟨its, rv, p, hz⟩ := I1.tuple hq
    refine wpAny_pyIter_tuple (show s1.heap.IsTuple a its.toArray from p) ?_
    refine ⟨s1.heap.objs.size, [s1.heap.objs.size], _, _, H1, rfl, I1.kept (t' := s1.toks) fun b o e => Heap.get?_push_of_some _ e, turn_tuple a _, ⟨_, Heap.get?_push_size _ rfl, rfl, rfl⟩, fun b hb => ?_, q⟩
    have e : b = s1.heap.objs.size := by simpa using hb
    subst e
    exact I1.fpOk (Nat.le_refl _) (I1.hok.fresh (Nat.le_refl _))
  · subst ex
    obtain ⟨t, rfl⟩ := r1
    cases ha : x'.cps.all (· < 128)
    · exact wpAny_pyIter_wide ha (pi_one (tk := s1.toks) I1 _ (turn_str _ x' t "str_iterator" (.inr rfl)) ⟨_, Heap.get?_push_size _ rfl, rfl, rfl⟩ q)
    · exact wpAny_pyIter_ascii ha (pi_one (tk := s1.toks) I1 _ (turn_str _ x' t "str_ascii_iterator" (.inl rfl)) ⟨_, Heap.get?_push_size _ rfl, rfl, rfl⟩ q)
section
variable {K : PySem.W.Frag} {ρ : Slots} {μ μ1 : List CC} {tl : TE} {xs : List D} {a : Str}
theorem iw_anyL (h : EV K tl ρ μ (.d (.lst xs)) μ1) : IW K (iAny K tl) ρ μ (xs.map .d) μ1 := iw_plain fun α Z σ H ok sl R k => h α Z σ H ok sl _ fun v H1 e1 ok1 r1 => by
  cases r1 with
  | d r1 => cases r1 with
    | lst n h1 r => exact .inl ⟨_, rfl, ⟨_, SqL.of h1⟩, k _ H1 _ _ e1 ok1 (.of_data r) walk_list fun H2 e2 => SqL.of (e2 _ n _ h1)⟩
theorem iw_anyT (h : EV K tl ρ μ (.d (.tup xs)) μ1) : IW K (iAny K tl) ρ μ (xs.map .d) μ1 := iw_plain fun α Z σ H ok sl R k => h α Z σ H ok sl _ fun v H1 e1 ok1 r1 => by
  cases r1 with
  | d r1 => cases r1 with
    | tup n h1 r => exact .inr (.inl ⟨_, rfl, ⟨_, SqT.of h1⟩, k _ H1 _ _ e1 ok1 (.of_data r) walk_tup fun H2 e2 => SqT.of (e2 _ n _ h1)⟩)
theorem iw_anyS (h : EV K tl ρ μ (.d (.str a)) μ1) : IW K (iAny K tl) ρ μ (a.cps.toList.map fun c => .d (sgD c)) μ1 := fun α Z σ H ok sl R k => by
  have w := iw_str h α Z σ H ok sl R k
  exact h α Z σ H ok sl _ fun v H1 e1 ok1 r1 => by
    cases r1 with
    | d r1 =>
      cases r1
      refine .inr (.inr ⟨_, rfl, ?_⟩)
      have z : IW K (iStr (tC (.str a))) ρ μ1 (a.cps.toList.map fun c => .d (sgD c)) μ1 := iw_str (ev_c fun _ _ => .str a)
      obtain ⟨x, ex, q⟩ := z α Z σ H1 ok1 (sl.ext ok e1) R fun J H2 G Y e2 ok2 w2 hG hY => k J H2 G Y (e1.trans e2) ok2 w2 hG hY
      cases ex
      exact q
end
def xEach (a : XE) : XI where
  t K W := iAny K (a.t K W)
  ev ρ μ := bnd (a.ev ρ μ) fun x μ1 => match x with
    | .d (.lst xs) => some (.v (xs.map .d) μ1)
    | .d (.tup xs) => some (.v (xs.map .d) μ1)
    | .d (.str s) => some (.v (s.cps.toList.map fun c => .d (sgD c)) μ1)
    | _ => none
  ok h := by
    obtain ⟨x, μ1, h1, h⟩ := bnd_v_inv h
    split at h
    · cases h; exact iw_anyL (a.ok h1)
    · cases h; exact iw_anyT (a.ok h1)
    · cases h; exact iw_anyS (a.ok h1)
    · cases h
  ex h := by
    rcases bnd_x_inv h with h1 | ⟨x, μ1, h1, h⟩
    · exact fun α Z σ H ok sl Q k => a.ex h1 α Z σ H ok sl _ k
    split at h <;> cases h
def xRng1 (a : XA) : XI where
  t K W := iRng1 (a.t K W)
  ev ρ μ := bnd (a.ev ρ μ) fun x μ1 => match x with
    | [.d (.int j)] => if -100000 ≤ j ∧ j ≤ 100000 then some (.v ((rangeL 0 j.toNat).map .d) μ1) else none
    | _ => none
  ok h := by
    obtain ⟨x, μ1, h1, h⟩ := bnd_v_inv h
    split at h
    · split at h
      · rename_i q; cases h; exact iw_rng1 (a.ok h1) q.2 q.1
      · cases h
    · cases h
  ex h := by
    rcases bnd_x_inv h with h1 | ⟨x, μ1, h1, h⟩
    · exact fun α Z σ H ok sl Q k => a.ex h1 α Z σ H ok sl _ k
    split at h
    · split at h <;> cases h
    · cases h
def xRng2 (a : XA) : XI where
  t K W := iRng2 (a.t K W)
  ev ρ μ := bnd (a.ev ρ μ) fun x μ1 => match x with
    | [.d (.int i), .d (.int j)] => if (-100000 ≤ i ∧ i ≤ 100000) ∧ -100000 ≤ j ∧ j ≤ 100000 then some (.v ((rangeL i (j - i).toNat).map .d) μ1) else none
    | _ => none
  ok h := by
    obtain ⟨x, μ1, h1, h⟩ := bnd_v_inv h
    split at h
    · split at h
      · rename_i q; cases h; exact iw_rng2 (a.ok h1) q.1 q.2
      · cases h
    · cases h
  ex h := by
    rcases bnd_x_inv h with h1 | ⟨x, μ1, h1, h⟩
    · exact fun α Z σ H ok sl Q k => a.ex h1 α Z σ H ok sl _ k
    split at h
    · split at h <;> cases h
    · cases h
def xEnum (a : XA) : XI where
  t K W := iEnumA K (a.t K W)
  ev ρ μ := bnd (a.ev ρ μ) fun x μ1 => match x with
    | [.d (.lst xs)] => some (.v (enumD xs) μ1)
    | [.d (.tup xs)] => some (.v (enumD xs) μ1)
    | _ => none
  ok h := by
    obtain ⟨x, μ1, h1, h⟩ := bnd_v_inv h
    split at h
    · cases h; exact iw_enumL (a.ok h1)
    · cases h; exact iw_enumT (a.ok h1)
    · cases h
  ex h := by
    rcases bnd_x_inv h with h1 | ⟨x, μ1, h1, h⟩
    · exact fun α Z σ H ok sl Q k => a.ex h1 α Z σ H ok sl _ k
    split at h <;> cases h
def xZip (a : XA) : XI where
  t K W := iZip K (a.t K W)
  ev ρ μ := bnd (a.ev ρ μ) fun x μ1 => match x with
    | [.d (.lst xs), .d (.lst ys)] => some (.v ((xs.zip ys).map fun d => .d (.tup [d.1, d.2])) μ1)
    | _ => none
  ok h := by
    obtain ⟨x, μ1, h1, h⟩ := bnd_v_inv h
    split at h
    · cases h; exact iw_zip (a.ok h1)
    · cases h
  ex h := by
    rcases bnd_x_inv h with h1 | ⟨x, μ1, h1, h⟩
    · exact fun α Z σ H ok sl Q k => a.ex h1 α Z σ H ok sl _ k
    split at h <;> cases h
/-! ### targets -/
def xName (i : Nat) : XG where
  t _ := gName i
  ev x ρ := some (ρ.set i (some x))
  js := [i]
  ok h := by cases h; exact gv_name
def xGNil : XGs where
  t _ := gNil
  ev xs ρ := match xs with
    | [] => some ρ
    | _ => none
  js := []
  ok h := by
    split at h
    · cases h; exact gvs_nil
    · cases h
def xGCons (a : XG) (b : XGs) : XGs where
  t K := gCons (a.t K) (b.t K)
  ev xs ρ := match xs with
    | x :: xs => match a.ev x ρ with
      | some ρ1 => b.ev xs ρ1
      | none => none
    | [] => none
  js := a.js ++ b.js
  ok h := by
    split at h
    · split at h
      · exact gvs_cons (a.ok (by assumption)) (b.ok h)
      · cases h
    · cases h
def xGTup (n : Nat) (b : XGs) : XG where
  t K := gTup K n (b.t K)
  ev x ρ := match x with
    | .d (.tup xs) => if xs.length = n then b.ev (xs.map .d) ρ else none
    | _ => none
  js := b.js
  ok h := by
    split at h
    · split at h
      · exact gv_tup (k := 0) (b.ok h) (by assumption)
      · cases h
    · cases h
/-! ### comprehensions -/
def runLc (g : AV → Slots → Option Slots) (tt : Slots → List CC → Option (Rs Bool)) (e : Slots → List CC → Option (Rs AV)) (ρ : Slots) : List AV → List CC → Option (List AV × List CC)
  | [], μ => some ([], μ)
  | a :: as, μ => match g a ρ with
    | none => none
    | some ρ2 => match tt ρ2 μ with
      | some (.v true μa) => match e ρ2 μa with
        | some (.v r μ2) => match runLc g tt e ρ as μ2 with
          | some (rs, μ3) => some (r :: rs, μ3)
          | none => none
        | _ => none
      | some (.v false μa) => runLc g tt e ρ as μa
      | _ => none
theorem runLc_snoc {g : AV → Slots → Option Slots} {tt : Slots → List CC → Option (Rs Bool)} {e : Slots → List CC → Option (Rs AV)} {ρ : Slots} : ∀ {as bs : List AV} {μ μ' : List CC} {rs : List AV},
    runLc g tt e ρ (as ++ bs) μ = some (rs, μ') → ∃ r1 μ1 r2, runLc g tt e ρ as μ = some (r1, μ1) ∧ runLc g tt e ρ bs μ1 = some (r2, μ') ∧ rs = r1 ++ r2
  | [], bs, μ, μ', rs, h => ⟨[], μ, rs, rfl, h, rfl⟩
  | a :: as, bs, μ, μ', rs, h => by
    simp only [List.cons_append, runLc] at h ⊢
    cases hg : g a ρ with
    | none => simp only [hg] at h; cases h
    | some ρ2 =>
      simp only [hg] at h ⊢
      cases ht : tt ρ2 μ with
      | none => simp only [ht] at h; cases h
      | some rb =>
        cases rb with
        | x c fs m => simp only [ht] at h; cases h
        | v b μa =>
          cases b with
          | false =>
            simp only [ht] at h ⊢
            exact runLc_snoc h
          | true =>
            simp only [ht] at h ⊢
            cases he : e ρ2 μa with
            | none => simp only [he] at h; cases h
            | some re =>
              cases re with
              | x c fs m => simp only [he] at h; cases h
              | v r μ2 =>
                simp only [he] at h ⊢
                cases hr : runLc g tt e ρ (as ++ bs) μ2 with
                | none => simp only [hr] at h; cases h
                | some p =>
                  obtain ⟨rs', μ3⟩ := p
                  simp only [hr] at h
                  cases h
                  obtain ⟨r1, μ1, r2, q1, q2, rfl⟩ := runLc_snoc hr
                  exact ⟨r :: r1, μ1, r2, by simp only [q1], q2, rfl⟩
def W0 : WX := fun _ _ _ _ => False
def xLc (it : XI) (g : XG) (tt : XT) (e : XE) (vs : List Nat) (hv : ∀ j ∈ g.js, j ∈ vs) : XN where
  t K W := tLc (it.t K W) (g.t K) (tt.t K W0) (e.t K W0) vs
  ev ρ μ := bnd (it.ev ρ μ) fun items μ1 => if items.length ≤ 100000 then (match runLc g.ev tt.ev e.ev (wipeA ρ vs) items μ1 with
    | some (rs, μ2) => some (.v rs μ2)
    | none => none) else none
  ok {K W ρ μ x μ'} h := by
    obtain ⟨items, μ1, h1, h⟩ := bnd_v_inv h
    split at h
    · rename_i hn
      split at h
      · rename_i rs μ2 hr
        cases h
        have key : ∀ i, i ≤ items.length → ∃ p, runLc g.ev tt.ev e.ev (wipeA ρ vs) (items.take i) μ1 = some p := fun i hi => by
          have z := hr
          rw [← List.take_append_drop i items] at z
          obtain ⟨r1, m1, r2, q1, _, _⟩ := runLc_snoc z
          exact ⟨_, q1⟩
        have z := en_lc (te := e.t K W0) (g := g.t K) (tt := tt.t K W0) (vs := vs) (it.ok (K := K) (W := W) h1)
          (fun i => ((runLc g.ev tt.ev e.ev (wipeA ρ vs) (items.take i) μ1).getD ([], [])).1) (fun i => ((runLc g.ev tt.ev e.ev (wipeA ρ vs) (items.take i) μ1).getD ([], [])).2) rfl rfl (fun i d hd => ?_) hn
        · rw [List.take_length, hr] at z; exact z
        · have hi : i < items.length := (List.getElem?_eq_some_iff.mp hd).1
          obtain ⟨p1, q1⟩ := key i (Nat.le_of_lt hi)
          obtain ⟨p2, q2⟩ := key (i + 1) hi
          rw [take_succ hd] at q2 ⊢
          obtain ⟨r1, m1, r2, s1, s2, s3⟩ := runLc_snoc (rs := p2.1) (μ' := p2.2) q2
          rw [q2, q1]
          rw [q1] at s1
          have e1 := (Option.some.inj s1)
          subst e1
          simp only [Option.getD_some]
          unfold runLc at s2
          cases hg : g.ev d (wipeA ρ vs) with
          | none => simp only [hg] at s2; cases s2
          | some ρ2 =>
            simp only [hg] at s2
            cases ht : tt.ev ρ2 m1 with
            | none => simp only [ht] at s2; cases s2
            | some rb =>
              cases rb with
              | x c fs m => simp only [ht] at s2; cases s2
              | v b μa =>
                cases b with
                | false =>
                  simp only [ht] at s2
                  unfold runLc at s2
                  cases s2
                  exact ⟨ρ2, g.js, false, _, g.ok hg, hv, tt.ok ht, (fun z => nomatch z), fun _ => ⟨rfl, by rw [s3, List.append_nil]⟩⟩
                | true =>
                  simp only [ht] at s2
                  cases he : e.ev ρ2 μa with
                  | none => simp only [he] at s2; cases s2
                  | some re =>
                    cases re with
                    | x c fs m => simp only [he] at s2; cases s2
                    | v r m2 =>
                      simp only [he] at s2
                      unfold runLc at s2
                      cases s2
                      exact ⟨ρ2, g.js, true, _, g.ok hg, hv, tt.ok ht, fun _ => ⟨r, e.ok he, s3⟩, (fun z => nomatch z)⟩
      · cases h
    · cases h
  ex h := by
    rcases bnd_x_inv h with h1 | ⟨x, μ1, h1, h⟩
    · exact fun α Z σ H ok sl Q k => it.ex h1 α Z σ H ok sl _ k
    split at h
    · split at h <;> cases h
    · cases h
end FX

set_option Elab.async false
set_option linter.all false
set_option maxRecDepth 100000
set_option maxHeartbeats 4000000
/-! FX3: statements, reckoned. -/
namespace FX
open PySem PySem.Spec PyProof.Rows L2 DL
inductive Ct where
  | nx (ρ : Slots) (μ : List CC) | bk (ρ : Slots) (μ : List CC) | ct (ρ : Slots) (μ : List CC) | rt (r : AV) (μ : List CC) | xc (ρ : Slots) (c : Value) (fs : List (Str × D)) (μ : List CC)
def Ct.sat (P : Po) : Ct → Prop
  | .nx ρ μ => P.nx ρ μ
  | .bk ρ μ => P.bk ρ μ
  | .ct ρ μ => P.ct ρ μ
  | .rt r μ => P.rt r μ
  | .xc ρ c fs μ => P.xc ρ c fs μ
def Ct.po : Ct → Po
  | .nx ρ μ => { nx := fun ρ' μ' => Fgt ρ' ρ ∧ μ' = μ, rt := fun _ _ => False }
  | .bk ρ μ => { nx := fun _ _ => False, bk := fun ρ' μ' => Fgt ρ' ρ ∧ μ' = μ, rt := fun _ _ => False }
  | .ct ρ μ => { nx := fun _ _ => False, ct := fun ρ' μ' => Fgt ρ' ρ ∧ μ' = μ, rt := fun _ _ => False }
  | .rt r μ => { nx := fun _ _ => False, rt := fun r' μ' => r' = r ∧ μ' = μ }
  | .xc ρ c fs μ => { nx := fun _ _ => False, rt := fun _ _ => False, xc := fun ρ' c' fs' μ' => Fgt ρ' ρ ∧ c' = c ∧ fs' = fs ∧ μ' = μ }
theorem Ct.self (r : Ct) : r.sat r.po := by
  cases r with
  | nx ρ μ => exact ⟨fgt_refl _, rfl⟩
  | bk ρ μ => exact ⟨fgt_refl _, rfl⟩
  | ct ρ μ => exact ⟨fgt_refl _, rfl⟩
  | rt r μ => exact ⟨rfl, rfl⟩
  | xc ρ c fs μ => exact ⟨fgt_refl _, rfl, rfl, rfl⟩
theorem SV.of {K : PySem.W.Frag} {W : WX} {t : TS} {ρ : Slots} {μ : List CC} {P : Po} {r : Ct} (h : SV K W t ρ μ r.po) (s : r.sat P) : SV K W t ρ μ P := fun α0 Z0 H0 α Z σ H D w0 g ok sl kk => by
  refine h α0 Z0 H0 α Z σ H D w0 g ok sl ?_
  cases r with
  | nx ρ1 μ1 => exact ⟨fun ρ' μ' α' Z' σ' H' ⟨f, e⟩ g' ok' sl' => kk.nx ρ1 μ1 α' Z' σ' H' s g' (e ▸ ok') (sl'.weak f.len f.at_), fun _ _ _ _ _ _ q => q.elim, fun _ _ _ _ _ _ q => q.elim, fun _ _ _ _ _ _ q => q.elim, fun _ _ _ _ _ _ _ _ _ q => q.elim⟩
  | bk ρ1 μ1 => exact ⟨fun _ _ _ _ _ _ q => q.elim, fun _ _ _ _ _ _ q => q.elim, fun ρ' μ' α' Z' σ' H' ⟨f, e⟩ g' ok' sl' => kk.bk ρ1 μ1 α' Z' σ' H' s g' (e ▸ ok') (sl'.weak f.len f.at_), fun _ _ _ _ _ _ q => q.elim, fun _ _ _ _ _ _ _ _ _ q => q.elim⟩
  | ct ρ1 μ1 => exact ⟨fun _ _ _ _ _ _ q => q.elim, fun _ _ _ _ _ _ q => q.elim, fun _ _ _ _ _ _ q => q.elim, fun ρ' μ' α' Z' σ' H' ⟨f, e⟩ g' ok' sl' => kk.ct ρ1 μ1 α' Z' σ' H' s g' (e ▸ ok') (sl'.weak f.len f.at_), fun _ _ _ _ _ _ _ _ _ q => q.elim⟩
  | rt r1 μ1 => exact ⟨fun _ _ _ _ _ _ q => q.elim, fun r' μ' v α' Z' H' ⟨e1, e2⟩ g' ok' rv => kk.rt r1 μ1 v α' Z' H' s g' (e2 ▸ ok') (e1 ▸ rv), fun _ _ _ _ _ _ q => q.elim, fun _ _ _ _ _ _ q => q.elim, fun _ _ _ _ _ _ _ _ _ q => q.elim⟩
  | xc ρ1 c fs μ1 => exact ⟨fun _ _ _ _ _ _ q => q.elim, fun _ _ _ _ _ _ q => q.elim, fun _ _ _ _ _ _ q => q.elim, fun _ _ _ _ _ _ q => q.elim, fun ρ' c' fs' μ' d α' Z' σ' H' ⟨f, e1, e2, e3⟩ g' ok' sl' xo => by
      subst e1; subst e2; subst e3
      exact kk.xc ρ1 _ _ _ d α' Z' σ' H' s g' ok' (sl'.weak f.len f.at_) xo⟩
structure XS where
  t : PySem.W.Frag → WX → TS
  ev : Slots → List CC → Option Ct
  ok : ∀ {K W ρ μ r}, ev ρ μ = some r → SV K W (t K W) ρ μ r.po
/-- a reckoned value, then a statement's end -/
def fin {α : Type} (ρ : Slots) : Option (Rs α) → (α → List CC → Option Ct) → Option Ct
  | none, _ => none
  | some (.v x μ), k => k x μ
  | some (.x c fs μ), _ => some (.xc ρ c fs μ)
section
variable {α : Type} {ρ : Slots} {m : Option (Rs α)} {k : α → List CC → Option Ct} {x : α} {μ : List CC} {c : Value} {fs : List (Str × D)}
theorem fin_v : fin ρ (some (.v x μ)) k = k x μ := rfl
theorem fin_x : fin ρ (some (.x c fs μ) : Option (Rs α)) k = some (.xc ρ c fs μ) := rfl
theorem fin_inv {r : Ct} (h : fin ρ m k = some r) : (∃ x μ1, m = some (.v x μ1) ∧ k x μ1 = some r) ∨ ∃ c fs μ1, m = some (.x c fs μ1) ∧ r = .xc ρ c fs μ1 := by
  match m, h with
  | some (.v x μ1), h => exact .inl ⟨x, μ1, rfl, h⟩
  | some (.x c fs μ1), h => exact .inr ⟨c, fs, μ1, rfl, (Option.some.inj h).symm⟩
end
/-- raised within: the statement's end -/
theorem sv_x {K : PySem.W.Frag} {W : WX} {τ : Type} {t : L2.St → Hp → τ → Prop} {ts : TS} {ρ : Slots} {μ μ1 : List CC} {c : Value} {fs : List (Str × D)} (h : XX K W t ρ μ c fs μ1) (m : ∀ D σ H, (∃ Q, t σ H Q → ts D σ H)) : SV K W ts ρ μ (Ct.xc ρ c fs μ1).po :=
  fun α0 Z0 H0 α Z σ H D w0 gr ok sl kc => by
    obtain ⟨Q, q⟩ := m D σ H
    exact q (h α Z σ H ok sl Q fun d H' e ok' xo => kc.xc ρ c fs μ1 d α Z σ H' ⟨fgt_refl _, rfl, rfl, rfl⟩ (gr.ext1 w0 ok e) ok' (sl.ext ok e) xo)
/-! ### small statements -/
def xNext : XS where
  t _ _ := tNext
  ev ρ μ := some (.nx ρ μ)
  ok h := by cases h; exact sv_next ⟨fgt_refl _, rfl⟩
def xBreak : XS where
  t _ _ := tBreak
  ev ρ μ := some (.bk ρ μ)
  ok h := by cases h; exact sv_brk ⟨fgt_refl _, rfl⟩
def xCont : XS where
  t _ _ := tCont
  ev ρ μ := some (.ct ρ μ)
  ok h := by cases h; exact sv_cont ⟨fgt_refl _, rfl⟩
def xNever : XS where
  t _ _ := tNever
  ev _ _ := none
  ok h := by cases h
/-- what follows -/
def thenC : Option Ct → (Slots → List CC → Option Ct) → Option Ct
  | some (.nx ρ μ), k => k ρ μ
  | r, _ => r
def xSeq (a b : XS) : XS where
  t K W := tSeq (a.t K W) (b.t K W)
  ev ρ μ := thenC (a.ev ρ μ) b.ev
  ok {K W ρ μ r} h := by
    cases q : a.ev ρ μ with
    | none => simp only [q] at h; cases h
    | some r1 =>
      simp only [q] at h
      refine sv_seq (SV.of (a.ok q) ?_)
      cases r1 with
      | nx ρ1 μ1 => exact b.ok h
      | bk ρ1 μ1 => cases h; exact ⟨fgt_refl _, rfl⟩
      | ct ρ1 μ1 => cases h; exact ⟨fgt_refl _, rfl⟩
      | rt r1 μ1 => cases h; exact ⟨rfl, rfl⟩
      | xc ρ1 c fs μ1 => cases h; exact ⟨fgt_refl _, rfl, rfl, rfl⟩
def xIfS (c : XT) (a b : XS) : XS where
  t K W := tIfS (c.t K W) (a.t K W) (b.t K W)
  ev ρ μ := fin ρ (c.ev ρ μ) fun x μ1 => if x = true then a.ev ρ μ1 else b.ev ρ μ1
  ok {K W ρ μ r} h := by
    rcases fin_inv h with ⟨x, μ1, h1, h⟩ | ⟨c', fs, μ1, h1, rfl⟩
    · split at h
      · rename_i hx; exact sv_if (c.ok h1) (fun _ => a.ok h) fun z => by rw [hx] at z; cases z
      · rename_i hx; exact sv_if (c.ok h1) (fun z => absurd z hx) fun _ => b.ok h
    · exact sv_x (c.ex h1) fun D σ H => ⟨_, fun q => q⟩
def xDrop (a : XE) : XS where
  t K W := tDrop (a.t K W)
  ev ρ μ := fin ρ (a.ev ρ μ) fun _ μ1 => some (.nx ρ μ1)
  ok {K W ρ μ r} h := by
    rcases fin_inv h with ⟨x, μ1, h1, h⟩ | ⟨c', fs, μ1, h1, rfl⟩
    · cases h; exact sv_drop (a.ok h1) ⟨fgt_refl _, rfl⟩
    · exact sv_x (a.ex h1) fun D σ H => ⟨_, fun q => q⟩
def xRet (a : XE) : XS where
  t K W := tRet (a.t K W)
  ev ρ μ := fin ρ (a.ev ρ μ) fun x μ1 => some (.rt x μ1)
  ok {K W ρ μ r} h := by
    rcases fin_inv h with ⟨x, μ1, h1, h⟩ | ⟨c', fs, μ1, h1, rfl⟩
    · cases h; exact sv_ret (a.ok h1) ⟨rfl, rfl⟩
    · exact sv_x (a.ex h1) fun D σ H => ⟨_, fun q => q⟩
def xRetN : XS where
  t _ _ := tRetN
  ev _ μ := some (.rt (.d .non) μ)
  ok h := by cases h; exact sv_retN ⟨rfl, rfl⟩
/-- return of a new list -/
def xRetL (n : XN) : XS where
  t K W := tRet (n.t K W)
  ev ρ μ := fin ρ (n.ev ρ μ) fun xs μ1 => some (.rt (.cell μ1.length) (μ1 ++ [.lst xs]))
  ok {K W ρ μ r} h := by
    rcases fin_inv h with ⟨x, μ1, h1, h⟩ | ⟨c', fs, μ1, h1, rfl⟩
    · cases h; exact sv_retNew (n.ok h1) ⟨rfl, rfl⟩
    · exact sv_x (n.ex h1) fun D σ H => ⟨_, fun q => q⟩
def xAsg (a : XE) (g : XG) : XS where
  t K W := tAsg (a.t K W) (g.t K)
  ev ρ μ := fin ρ (a.ev ρ μ) fun x μ1 => match g.ev x ρ with
    | some ρ1 => some (.nx ρ1 μ1)
    | none => none
  ok {K W ρ μ r} h := by
    rcases fin_inv h with ⟨x, μ1, h1, h⟩ | ⟨c', fs, μ1, h1, rfl⟩
    · split at h
      · cases h; exact sv_asgT (a.ok h1) (g.ok (by assumption)) ⟨fgt_refl _, rfl⟩
      · cases h
    · exact sv_x (a.ex h1) fun D σ H => ⟨_, fun q => q⟩
/-- a new list that will change -/
def xAsgN (n : XN) (i : Nat) : XS where
  t K W := tAsg (n.t K W) (gName i)
  ev ρ μ := fin ρ (n.ev ρ μ) fun xs μ1 => some (.nx (ρ.set i (some (.cell μ1.length))) (μ1 ++ [.lst xs]))
  ok {K W ρ μ r} h := by
    rcases fin_inv h with ⟨x, μ1, h1, h⟩ | ⟨c', fs, μ1, h1, rfl⟩
    · cases h; exact sv_asgN (n.ok h1) ⟨fgt_refl _, rfl⟩
    · exact sv_x (n.ex h1) fun D σ H => ⟨_, fun q => q⟩
/-- name = new list if c else e -/
def xAsgIfN (c : XT) (n : XN) (b : XE) (i : Nat) : XS where
  t K W := tAsg (tIf (c.t K W) (n.t K W) (b.t K W)) (gName i)
  ev ρ μ := fin ρ (c.ev ρ μ) fun x μ1 => if x = true then (fin ρ (n.ev ρ μ1) fun xs μ2 => some (.nx (ρ.set i (some (.cell μ2.length))) (μ2 ++ [.lst xs])))
    else fin ρ (b.ev ρ μ1) fun y μ2 => some (.nx (ρ.set i (some y)) μ2)
  ok {K W ρ μ r} h := by
    rcases fin_inv h with ⟨x, μ1, h1, h⟩ | ⟨c', fs, μ1, h1, rfl⟩
    · intro α0 Z0 H0 α Z σ H D w0 gr ok sl kk
      refine c.ok h1 α Z σ H ok sl _ fun H1 e1 ok1 => ?_
      split at h
      · rename_i hx
        rw [if_pos hx]
        rcases fin_inv h with ⟨x, μ2, h2, h⟩ | ⟨c', fs, μ1, h2, rfl⟩
        · cases h
          exact (sv_asgN (W := W) (n.ok (W := W) h2) (P := (Ct.nx _ _).po) ⟨fgt_refl _, rfl⟩) α0 Z0 H0 α Z σ H1 D w0 (gr.ext1 w0 ok e1) ok1 (sl.ext ok e1) kk
        · exact n.ex h2 α Z σ H1 ok1 (sl.ext ok e1) _ fun d H' e o xo => kk.xc ρ _ _ _ d α Z σ H' ⟨fgt_refl _, rfl, rfl, rfl⟩ (gr.ext1 w0 ok (e1.trans e)) o (sl.ext ok (e1.trans e)) xo
      · rename_i hx
        rw [if_neg hx]
        rcases fin_inv h with ⟨x, μ2, h2, h⟩ | ⟨c', fs, μ1, h2, rfl⟩
        · cases h
          exact (sv_asg (W := W) (b.ok (W := W) h2) (P := (Ct.nx _ _).po) ⟨fgt_refl _, rfl⟩) α0 Z0 H0 α Z σ H1 D w0 (gr.ext1 w0 ok e1) ok1 (sl.ext ok e1) kk
        · exact b.ex h2 α Z σ H1 ok1 (sl.ext ok e1) _ fun d H' e o xo => kk.xc ρ _ _ _ d α Z σ H' ⟨fgt_refl _, rfl, rfl, rfl⟩ (gr.ext1 w0 ok (e1.trans e)) o (sl.ext ok (e1.trans e)) xo
    · exact sv_x (c.ex h1) fun D σ H => ⟨_, fun q => q⟩
/-- name op= e (whole numbers) -/
def xAug (i : Nat) (a : XE) (f : Int → Int → Int) : XS where
  t K W := tAug i (a.t K W) (ipI f)
  ev ρ μ := match ρ[i]?.join with
    | some (.d (.int x)) => fin ρ (a.ev ρ μ) fun y μ1 => match y with
      | .d (.int y) => some (.nx (ρ.set i (some (.d (.int (f x y))))) μ1)
      | _ => none
    | _ => none
  ok {K W ρ μ r} h := by
    split at h
    · rename_i x q
      have hx : ρ[i]? = some (some (.d (.int x))) := by
        cases e : ρ[i]? with
        | none => rw [e] at q; cases q
        | some o => rw [e] at q; cases o with
          | none => cases q
          | some y => cases q; rfl
      rcases fin_inv h with ⟨y, μ1, h1, h⟩ | ⟨c', fs, μ1, h1, rfl⟩
      · split at h
        · cases h
          refine sv_aug hx (a.ok h1) (r := ipI f) ?_ ⟨fgt_refl _, rfl⟩
          intro α Z H ok vx vy rx ry Q k
          cases rx with
          | d rx => cases ry with
            | d ry => cases rx; cases ry; exact ⟨_, _, rfl, rfl, k _ H (.refl _ _) ok (.d (.int _))⟩
        · cases h
      · intro α0 Z0 H0 α Z σ H D w0 gr ok sl kc
        obtain ⟨v, q1, q2⟩ := sl.at_ i _ hx
        exact ⟨v, q1, a.ex h1 α Z σ H ok sl _ fun d H' e ok' xo => kc.xc ρ _ _ _ d α Z σ H' ⟨fgt_refl _, rfl, rfl, rfl⟩ (gr.ext1 w0 ok e) ok' (sl.ext ok e) xo⟩
    · cases h
/-! ### several new lists at once -/
def EAg (K : PySem.W.Frag) (ta : TA) (ρ : Slots) (μ : List CC) (rs : List AV) (μ' : List CC) : Prop :=
  ∀ (α Z : List Addr) (σ : L2.St) (H : Hp), Okay K α Z H μ → SlotsOk K α Z H σ ρ → ∀ Q : List V → Hp → Prop, (∀ vs α' Z' H', Gr α Z H α' Z' H' → Okay K α' Z' H' μ' → RpVs K α' Z' H' vs rs → Q vs H') → ta σ H Q
structure XM where
  t : PySem.W.Frag → WX → TA
  ev : Slots → List CC → Option (Rs (List AV))
  ok : ∀ {K W ρ μ x μ'}, ev ρ μ = some (.v x μ') → EAg K (t K W) ρ μ x μ'
def xMNil : XM where
  t _ _ := tNil
  ev _ μ := some (.v [] μ)
  ok h := by cases h; exact fun α Z σ H ok sl Q k => k [] α Z H .refl ok .nil
def xMCons (a : XE) (b : XM) : XM where
  t K W := tCons (a.t K W) (b.t K W)
  ev ρ μ := bnd (a.ev ρ μ) fun x μ1 => bnd (b.ev ρ μ1) fun xs μ2 => some (.v (x :: xs) μ2)
  ok h := by
    obtain ⟨x, μ1, h1, h⟩ := bnd_v_inv h
    obtain ⟨y, μ2, h2, h⟩ := bnd_v_inv h
    cases h
    exact fun α Z σ H ok sl Q k => a.ok h1 α Z σ H ok sl _ fun v1 H1 e1 ok1 r1 => b.ok h2 α Z σ H1 ok1 (sl.ext ok e1) _ fun vs α' Z' H2 g ok2 r2 => k (v1 :: vs) α' Z' H2 ((Gr.of_ext e1).trans ok.w ok1.w g) ok2 (.cons (r1.gr ok1.w g) r2)
def xMConsN (a : XN) (b : XM) : XM where
  t K W := tCons (a.t K W) (b.t K W)
  ev ρ μ := bnd (a.ev ρ μ) fun x μ1 => bnd (b.ev ρ (μ1 ++ [.lst x])) fun xs μ2 => some (.v (.cell μ1.length :: xs) μ2)
  ok h := by
    obtain ⟨x, μ1, h1, h⟩ := bnd_v_inv h
    obtain ⟨y, μ2, h2, h⟩ := bnd_v_inv h
    cases h
    exact fun α Z σ H ok sl Q k => a.ok h1 α Z σ H ok sl _ fun p vs H1 e1 hp hv ok1 r1 => by
      obtain ⟨α', g1, ok2, hi⟩ := new_cell ok ok1 e1 hp hv r1
      exact b.ok h2 α' (p :: Z) σ H1 ok2 (sl.gr ok.w g1) _ fun vs α2 Z2 H2 g ok3 r2 => k (.ref p :: vs) α2 Z2 H2 (g1.trans ok.w ok2.w g) ok3 (.cons ((RpV.cell hi).gr ok2.w g) r2)
def xPar (i j : Nat) (a : XM) : XS where
  t K W := tPar i j (a.t K W)
  ev ρ μ := match a.ev ρ μ with
    | some (.v [x, y] μ1) => some (.nx ((ρ.set i (some x)).set j (some y)) μ1)
    | _ => none
  ok {K W ρ μ r} h := by
    split at h
    · rename_i h1
      cases h
      intro α0 Z0 H0 α Z σ H D w0 gr ok sl kk
      refine a.ok h1 α Z σ H ok sl _ fun vs α' Z' H1 g ok1 r1 => ?_
      cases r1 with
      | cons p q => cases q with
        | cons q s =>
          cases s
          exact ⟨_, _, rfl, kk.nx _ _ α' Z' _ H1 ⟨fgt_refl _, rfl⟩ (gr.trans w0 ok.w g) ok1 (((sl.gr ok.w g).set p).set q)⟩
    · cases h
def xPar3 (i j l : Nat) (a : XM) : XS where
  t K W := tPar3 i j l (a.t K W)
  ev ρ μ := match a.ev ρ μ with
    | some (.v [x, y, z] μ1) => some (.nx (((ρ.set i (some x)).set j (some y)).set l (some z)) μ1)
    | _ => none
  ok {K W ρ μ r} h := by
    split at h
    · rename_i h1
      cases h
      intro α0 Z0 H0 α Z σ H D w0 gr ok sl kk
      refine a.ok h1 α Z σ H ok sl _ fun vs α' Z' H1 g ok1 r1 => ?_
      cases r1 with
      | cons p q => cases q with
        | cons q s => cases s with
          | cons s u =>
            cases u
            exact ⟨_, _, _, rfl, kk.nx _ _ α' Z' _ H1 ⟨fgt_refl _, rfl⟩ (gr.trans w0 ok.w g) ok1 ((((sl.gr ok.w g).set p).set q).set s)⟩
    · cases h
/-! ### what is no longer reached is let go -/
def AV.lo (n : Nat) : AV → Bool
  | .d _ => true
  | .cell k => decide (k < n)
def CC.lo (n : Nat) : CC → Bool
  | .lst xs => xs.all (AV.lo n)
  | .dct xs => xs.all fun p => AV.lo n p.2
  | .ins _ xs => xs.all fun p => AV.lo n p.2
/-- the cells from n on that slots hold -/
def newRefs (n : Nat) : Slots → List Nat
  | [] => []
  | some (.cell k) :: r => if k < n ∨ k ∈ newRefs n r then newRefs n r else k :: newRefs n r
  | _ :: r => newRefs n r
def reAV (n : Nat) (R : List Nat) : AV → AV
  | .d x => .d x
  | .cell k => if k < n then .cell k else .cell (n + R.idxOf k)
def hasD3 (μ : List CC) (k : Nat) : Bool := match μ[k]? with
  | some c => c.isD
  | none => false
def gcOk (n : Nat) (ρ : Slots) (μ : List CC) : Bool := decide (n < μ.length) && (newRefs n ρ).all (hasD3 μ) && (μ.take n).all (CC.lo n)
def gcR (n : Nat) (ρ : Slots) (μ : List CC) : Slots := if gcOk n ρ μ = true then ρ.map (Option.map (reAV n (newRefs n ρ))) else ρ
def gcM (n : Nat) (ρ : Slots) (μ : List CC) : List CC := if gcOk n ρ μ = true then μ.take n ++ (newRefs n ρ).map fun k => μ.getD k (.lst []) else μ
theorem newRefs_ge {n k : Nat} : ∀ {ρ : Slots}, k ∈ newRefs n ρ → n ≤ k
  | some (.cell j) :: r, h => by
    unfold newRefs at h
    split at h
    · exact newRefs_ge h
    · rename_i q
      rcases List.mem_cons.mp h with e | e
      · subst e
        rcases Nat.lt_or_ge k n with z | z
        · exact absurd (.inl z) q
        · exact z
      · exact newRefs_ge e
  | some (.d _) :: r, h => newRefs_ge (ρ := r) h
  | none :: r, h => newRefs_ge (ρ := r) h
  | [], h => absurd h List.not_mem_nil
theorem newRefs_nodup {n : Nat} : ∀ ρ : Slots, (newRefs n ρ).Nodup
  | some (.cell j) :: r => by
    unfold newRefs
    split
    · exact newRefs_nodup r
    · rename_i q; exact List.nodup_cons.mpr ⟨fun z => q (.inr z), newRefs_nodup r⟩
  | some (.d _) :: r => newRefs_nodup r
  | none :: r => newRefs_nodup r
  | [] => .nil
theorem newRefs_mem {n k : Nat} : ∀ {ρ : Slots}, some (AV.cell k) ∈ ρ → n ≤ k → k ∈ newRefs n ρ
  | some (.cell j) :: r, h, hk => by
    unfold newRefs
    rcases List.mem_cons.mp h with e | e
    · cases e
      split
      · rename_i q
        rcases q with q | q
        · omega
        · exact q
      · exact List.mem_cons_self
    · split
      · exact newRefs_mem e hk
      · exact List.mem_cons_of_mem _ (newRefs_mem e hk)
  | some (.d _) :: r, h, hk => by
    rcases List.mem_cons.mp h with e | e
    · cases e
    · exact newRefs_mem (ρ := r) e hk
  | none :: r, h, hk => by
    rcases List.mem_cons.mp h with e | e
    · cases e
    · exact newRefs_mem (ρ := r) e hk
  | [], h, _ => absurd h List.not_mem_nil
section
variable {K : PySem.W.Frag} {α α' Z : List Addr} {H : Hp} {n : Nat}
theorem RpV.lo {v : V} {x : AV} (h : AV.lo n x = true) (hα : ∀ k, k < n → ∀ a, α[k]? = some a → α'[k]? = some a) (r : RpV K α Z H v x) : RpV K α' Z H v x := by
  cases r with
  | d r => exact .d r
  | cell ha => exact .cell (hα _ (by simpa [AV.lo] using h) _ ha)
theorem RpVs.lo (hα : ∀ k, k < n → ∀ a, α[k]? = some a → α'[k]? = some a) : ∀ {vs : List V} {xs : List AV}, xs.all (AV.lo n) = true → RpVs K α Z H vs xs → RpVs K α' Z H vs xs
  | _, _, _, .nil => .nil
  | _, _ :: _, h, .cons a r => .cons (RpV.lo (by simp only [List.all_cons, Bool.and_eq_true] at h; exact h.1) hα a) (RpVs.lo hα (by simp only [List.all_cons, Bool.and_eq_true] at h; exact h.2) r)
theorem RpVK.lo (hα : ∀ k, k < n → ∀ a, α[k]? = some a → α'[k]? = some a) : ∀ {vs : List (Key × V)} {xs : List (Key × AV)}, (xs.all fun p => AV.lo n p.2) = true → RpVK K α Z H vs xs → RpVK K α' Z H vs xs
  | _, _, _, .nil => .nil
  | _, _ :: _, h, .cons a r => .cons (RpV.lo (by simp only [List.all_cons, Bool.and_eq_true] at h; exact h.1) hα a) (RpVK.lo hα (by simp only [List.all_cons, Bool.and_eq_true] at h; exact h.2) r)
theorem RpVF.lo (hα : ∀ k, k < n → ∀ a, α[k]? = some a → α'[k]? = some a) : ∀ {vs : List (Str × V)} {xs : List (Str × AV)}, (xs.all fun p => AV.lo n p.2) = true → RpVF K α Z H vs xs → RpVF K α' Z H vs xs
  | _, _, _, .nil => .nil
  | _, _ :: _, h, .cons a r => .cons (RpV.lo (by simp only [List.all_cons, Bool.and_eq_true] at h; exact h.1) hα a) (RpVF.lo hα (by simp only [List.all_cons, Bool.and_eq_true] at h; exact h.2) r)
theorem CellOk.lo {a : Addr} {c : CC} (hα : ∀ k, k < n → ∀ a, α[k]? = some a → α'[k]? = some a) (h : CC.lo n c = true) (r : CellOk K α Z H a c) : CellOk K α' Z H a c := by
  cases c with
  | lst xs => obtain ⟨vs, h1, h2⟩ := r; exact ⟨vs, h1, RpVs.lo hα h h2⟩
  | dct xs => obtain ⟨vs, h1, h2⟩ := r; exact ⟨vs, h1, RpVK.lo hα h h2⟩
  | ins C xs => obtain ⟨dx, vs, h1, h2⟩ := r; exact ⟨dx, vs, h1, RpVF.lo hα h h2⟩
theorem getD_some3 {γ : Type} {xs : List γ} {k : Nat} {x d : γ} (h : xs[k]? = some x) : xs.getD k d = x := by rw [List.getD_eq_getElem?_getD, h]; rfl
theorem gc_ok {μ : List CC} {ρ : Slots} {σ : L2.St} {α0 Z0 : List Addr} {H0 : Hp} (w0 : WOk α0 Z0 H0) (g : Gr α0 Z0 H0 α Z H) (ok : Okay K α Z H μ) (sl : SlotsOk K α Z H σ ρ) (hn : α0.length = n) :
    ∃ α', Gr α0 Z0 H0 α' Z H ∧ Okay K α' Z H (gcM n ρ μ) ∧ SlotsOk K α' Z H σ (gcR n ρ μ) := by
  unfold gcM gcR
  split
  · rename_i hg
    simp only [gcOk, Bool.and_eq_true, decide_eq_true_eq] at hg
    obtain ⟨⟨h1, h2⟩, h3⟩ := hg
    have h1 := Nat.le_of_lt h1
    have hR : ∀ k ∈ newRefs n ρ, ∃ c, μ[k]? = some c ∧ c.isD = true ∧ α[k]? = some (α.getD k 0) := fun k hk => by
      have q := List.all_eq_true.mp h2 k hk
      unfold hasD3 at q
      split at q
      · rename_i c e
        have hl : k < α.length := by rw [ok.c.len]; exact (List.getElem?_eq_some_iff.mp e).1
        exact ⟨c, e, q, by rw [List.getD_eq_getElem?_getD, List.getElem?_eq_getElem hl]; rfl⟩
      · cases q
    have hlen : n ≤ α.length := by rw [ok.c.len]; exact h1
    have tl : (α.take n).length = n := by rw [List.length_take]; omega
    have at1 : ∀ k, k < n → ∀ a, α[k]? = some a → (α.take n ++ (newRefs n ρ).map fun k => α.getD k 0)[k]? = some a := fun k hk a ha => by
      rw [List.getElem?_append_left (by rw [tl]; exact hk), List.getElem?_take_of_lt hk]; exact ha
    have at2 : ∀ i k, (newRefs n ρ)[i]? = some k → (α.take n ++ (newRefs n ρ).map fun k => α.getD k 0)[n + i]? = some (α.getD k 0) := fun i k hk => by
      rw [List.getElem?_append_right (by rw [tl]; exact Nat.le_add_right _ _), tl, Nat.add_sub_cancel_left, List.getElem?_map, hk]; rfl
    refine ⟨α.take n ++ (newRefs n ρ).map fun k => α.getD k 0, ⟨?_, g.keep, g.new, g.ext⟩, ⟨⟨?_, fun a ha => ?_, ok.w.there⟩, ⟨by rw [List.length_append, List.length_append, tl, List.length_take, List.length_map, List.length_map]; omega, fun k a c q1 q2 => ?_⟩⟩, ⟨by rw [List.length_map]; exact sl.len, fun i x hx => ?_⟩⟩
    · obtain ⟨⟨nw, e, f⟩, _⟩ := g
      refine ⟨(newRefs n ρ).map fun k => α.getD k 0, ?_, fun p hp => ?_⟩
      · congr 1
        rw [e, ← hn, List.take_left]
      · obtain ⟨k, hk, rfl⟩ := List.mem_map.mp hp
        obtain ⟨_, _, _, q⟩ := hR k hk
        have hge := newRefs_ge hk
        refine f _ ?_
        have z : (α0 ++ nw)[k]? = some (α.getD k 0) := by rw [← e]; exact q
        rw [List.getElem?_append_right (by omega)] at z
        exact List.mem_of_getElem? z
    · rw [List.nodup_append]
      refine ⟨ok.w.nd.sublist (List.take_sublist _ _), ?_, fun a ha b hb e => ?_⟩
      · rw [List.nodup_iff_pairwise_ne, List.pairwise_map]
        refine (List.nodup_iff_pairwise_ne.mp (newRefs_nodup (n := n) ρ)).imp_of_mem fun {a b} ha hb hne e => hne ?_
        obtain ⟨_, _, _, q1⟩ := hR a ha
        obtain ⟨_, _, _, q2⟩ := hR b hb
        have q3 : α[a]? = α[b]? := by rw [q1, q2, e]
        exact (List.getElem?_inj (List.getElem?_eq_some_iff.mp q1).1 ok.w.nd).mp q3
      · obtain ⟨k, hk, rfl⟩ := List.mem_map.mp hb
        obtain ⟨_, _, _, q1⟩ := hR k hk
        obtain ⟨j, hj, ej⟩ := List.getElem_of_mem ha
        have hj' : j < n := by rw [tl] at hj; exact hj
        have q2 : α[j]? = some a := by
          have z : (α.take n)[j]? = some a := by rw [List.getElem?_eq_getElem hj, ej]
          rw [List.getElem?_take_of_lt hj'] at z; exact z
        have q3 : α[j]? = α[k]? := by rw [q1, q2, e]
        have := (List.getElem?_inj (List.getElem?_eq_some_iff.mp q2).1 ok.w.nd).mp q3
        have := newRefs_ge hk
        omega
    · rcases List.mem_append.mp ha with q | q
      · exact ok.w.sub a (List.mem_of_mem_take q)
      · obtain ⟨k, hk, rfl⟩ := List.mem_map.mp q
        obtain ⟨_, _, _, q1⟩ := hR k hk
        exact ok.w.sub _ (List.mem_of_getElem? q1)
    · by_cases hk : k < n
      · rw [List.getElem?_append_left (by rw [tl]; exact hk), List.getElem?_take_of_lt hk] at q1
        have tm : (μ.take n).length = n := by rw [List.length_take]; omega
        rw [List.getElem?_append_left (by rw [tm]; exact hk), List.getElem?_take_of_lt hk] at q2
        refine CellOk.lo at1 (List.all_eq_true.mp h3 c ?_) (ok.c.at_ k a c q1 q2)
        have z : (μ.take n)[k]? = some c := by rw [List.getElem?_take_of_lt hk]; exact q2
        exact List.mem_of_getElem? z
      · have tm : (μ.take n).length = n := by rw [List.length_take]; omega
        rw [List.getElem?_append_right (by rw [tl]; omega), tl, List.getElem?_map] at q1
        rw [List.getElem?_append_right (by rw [tm]; omega), tm, List.getElem?_map] at q2
        cases q : (newRefs n ρ)[k - n]? with
        | none => rw [q] at q1; cases q1
        | some j =>
          rw [q] at q1 q2
          cases q1; cases q2
          obtain ⟨c, e1, e2, e3⟩ := hR j (List.mem_of_getElem? q)
          show CellOk K _ Z H (α.getD j 0) (μ.getD j (.lst []))
          rw [getD_some3 e1]
          exact (ok.c.at_ j _ c e3 e1).re e2
    · rw [List.getElem?_map] at hx
      cases q : ρ[i]? with
      | none => rw [q] at hx; cases hx
      | some o =>
        rw [q] at hx
        cases o with
        | none => cases hx
        | some y =>
          cases hx
          obtain ⟨v, s1, s2⟩ := sl.at_ i y q
          refine ⟨v, s1, ?_⟩
          cases s2 with
          | d r => exact .d r
          | @cell k a ha =>
            show RpV K _ Z H (.ref a) (if k < n then .cell k else .cell (n + (newRefs n ρ).idxOf k))
            split
            · rename_i hk; exact .cell (at1 k hk a ha)
            · rename_i hk
              have hm := newRefs_mem (n := n) (List.mem_of_getElem? q) (by omega)
              have hi : (newRefs n ρ)[(newRefs n ρ).idxOf k]? = some k := by rw [List.getElem?_eq_getElem (List.idxOf_lt_length_iff.mpr hm), List.getElem_idxOf]
              have z := at2 _ _ hi
              rw [getD_some3 ha] at z
              exact .cell z
  · exact ⟨α, g, ok, sl⟩
end
/-- the rule for a loop whose turns let go what they no longer reach -/
theorem sv_forG {K : PySem.W.Frag} {W : WX} {ρ : Slots} {μ μ1 : List CC} {P : Po} {t : TS} {wi : TI} {g : TG} {items : List AV} (hi : IW K wi ρ μ items μ1) (Inv : Nat → Slots → List CC → Prop) (h0 : Inv 0 ρ μ1)
    (hs : ∀ (i : Nat) (d : AV) (ρ1 : Slots) (μ2 : List CC), items[i]? = some d → Inv i ρ1 μ2 → ∃ ρ2 js, GV K g d ρ1 ρ2 js ∧ SV K W t ρ2 μ2 { P with nx := fun ρ' μ' => ∃ ρ'', Fgt ρ' ρ'' ∧ Inv (i + 1) (gcR μ1.length ρ'' μ') (gcM μ1.length ρ'' μ'), ct := fun ρ' μ' => ∃ ρ'', Fgt ρ' ρ'' ∧ Inv (i + 1) (gcR μ1.length ρ'' μ') (gcM μ1.length ρ'' μ'), bk := P.nx })
    (hd : ∀ ρ1 μ2, Inv items.length ρ1 μ2 → P.nx ρ1 μ2) : SV K W (tFor wi g t) ρ μ P := by
  intro α0 Z0 H0 α Z σ H D w0 gr ok sl kk
  refine hi α Z σ H ok sl _ fun J H1 G Y e1 ok1 w hG hY => ?_
  have gr1 := gr.ext1 w0 ok e1
  have go : ∀ i σ' H', (∃ ρ1 μ2 α' Z', Inv i ρ1 μ2 ∧ Gr α Z H1 α' Z' H' ∧ Okay K α' Z' H' μ2 ∧ SlotsOk K α' Z' H' σ' ρ1) → G H' := fun i σ' H' ⟨_, _, _, _, _, g', _, _⟩ => hG H' (g'.ext.wide ok1.w)
  have back : ∀ i (ρ3 : Slots) (μ3 : List CC) (α3 Z3 : List Addr) (σ3 : L2.St) (H3 : Hp), (∃ ρ'', Fgt ρ3 ρ'' ∧ Inv i (gcR μ1.length ρ'' μ3) (gcM μ1.length ρ'' μ3)) → Gr α Z H1 α3 Z3 H3 → Okay K α3 Z3 H3 μ3 → SlotsOk K α3 Z3 H3 σ3 ρ3 → ∃ ρ1 μ2 α' Z', Inv i ρ1 μ2 ∧ Gr α Z H1 α' Z' H3 ∧ Okay K α' Z' H3 μ2 ∧ SlotsOk K α' Z' H3 σ3 ρ1 := fun i ρ3 μ3 α3 Z3 σ3 H3 ⟨ρ'', f, hI⟩ g3 ok3 s3 => by
    obtain ⟨α', q1, q2, q3⟩ := gc_ok (n := μ1.length) ok1.w g3 ok3 (s3.weak f.len f.at_) ok1.c.len
    exact ⟨_, _, α', Z3, hI, q1, q2, q3⟩
  refine for_it w (fun i σ' H' => ∃ ρ1 μ2 α' Z', Inv i ρ1 μ2 ∧ Gr α Z H1 α' Z' H' ∧ Okay K α' Z' H' μ2 ∧ SlotsOk K α' Z' H' σ' ρ1) ⟨ρ, μ1, α, Z, h0, .refl, ok1, sl.ext ok e1⟩ (fun i σ' H' _ => go i σ' H') ?_ ?_
  · rintro i x σ' Hx Hy hil ⟨ρ1, μ2, α', Z', hI, g', ok', sl'⟩ hy
    obtain ⟨d, hd', ey, rd⟩ := hY i Hx x Hy α' Z' (g'.gw ok1.w) ok'.w hil hy
    obtain ⟨ρ2, js, hg, hb⟩ := hs i d ρ1 μ2 hd' hI
    have oky := ok'.still ey
    have gy : Gr α Z H1 α' Z' Hy := g'.trans ok1.w ok'.w (.of_ext ey.nil_any)
    refine hg α' Z' μ2 σ' Hy x oky rd (sl'.gr ok'.w (.of_ext ey.nil_any)) _ fun σ2 _ s2 => ?_
    have k1 := kk.up w0 ok1.w gr1
    exact hb α Z H1 α' Z' σ2 Hy _ ok1.w gy oky s2 ⟨fun ρ3 μ3 α3 Z3 σ3 H3 hI3 g3 ok3 s3 => back _ ρ3 μ3 α3 Z3 σ3 H3 hI3 g3 ok3 s3, k1.rt, k1.nx, fun ρ3 μ3 α3 Z3 σ3 H3 hI3 g3 ok3 s3 => back _ ρ3 μ3 α3 Z3 σ3 H3 hI3 g3 ok3 s3, k1.xc⟩
  · rintro σ' H' ⟨ρ1, μ2, α', Z', hI, g', ok', sl'⟩
    exact kk.nx _ _ α' Z' σ' H' (hd _ _ hI) (gr1.trans w0 ok1.w g') ok' sl'
theorem sv_whileG {K : PySem.W.Frag} {W : WX} {ρ : Slots} {μ : List CC} {P : Po} {t : TS} {tc : TT} (Inv : Nat → Slots → List CC → Prop) (m0 : Nat) (h0 : Inv m0 ρ μ)
    (hs : ∀ (m : Nat) (ρ1 : Slots) (μ1 : List CC), Inv m ρ1 μ1 → ∃ (b : Bool) (μ2 : List CC), ET K tc ρ1 μ1 b μ2 ∧
      (b = true → SV K W t ρ1 μ2 { P with nx := fun ρ' μ' => ∃ m' ρ'', m' < m ∧ Fgt ρ' ρ'' ∧ Inv m' (gcR μ.length ρ'' μ') (gcM μ.length ρ'' μ'), ct := fun ρ' μ' => ∃ m' ρ'', m' < m ∧ Fgt ρ' ρ'' ∧ Inv m' (gcR μ.length ρ'' μ') (gcM μ.length ρ'' μ'), bk := P.nx }) ∧ (b = false → P.nx ρ1 μ2)) : SV K W (tWhile tc t) ρ μ P := by
  intro α0 Z0 H0 α Z σ H D w0 gr ok sl kk
  refine ⟨fun m σ' H' => ∃ ρ1 μ2 α' Z', Inv m ρ1 μ2 ∧ Gr α Z H α' Z' H' ∧ Okay K α' Z' H' μ2 ∧ SlotsOk K α' Z' H' σ' ρ1, ⟨m0, ρ, μ, α, Z, h0, .refl, ok, sl⟩, ?_⟩
  have back : ∀ (m : Nat) (ρ3 : Slots) (μ3 : List CC) (α3 Z3 : List Addr) (σ3 : L2.St) (H3 : Hp), (∃ m' ρ'', m' < m ∧ Fgt ρ3 ρ'' ∧ Inv m' (gcR μ.length ρ'' μ3) (gcM μ.length ρ'' μ3)) → Gr α Z H α3 Z3 H3 → Okay K α3 Z3 H3 μ3 → SlotsOk K α3 Z3 H3 σ3 ρ3 → ∃ m', m' < m ∧ ∃ ρ1 μ2 α' Z', Inv m' ρ1 μ2 ∧ Gr α Z H α' Z' H3 ∧ Okay K α' Z' H3 μ2 ∧ SlotsOk K α' Z' H3 σ3 ρ1 := fun m ρ3 μ3 α3 Z3 σ3 H3 ⟨m', ρ'', hm, f, hI⟩ g3 ok3 s3 => by
    obtain ⟨α', q1, q2, q3⟩ := gc_ok (n := μ.length) ok.w g3 ok3 (s3.weak f.len f.at_) ok.c.len
    exact ⟨m', hm, _, _, α', Z3, hI, q1, q2, q3⟩
  rintro m σ' H' ⟨ρ1, μ1, α', Z', hI, g', ok', sl'⟩
  obtain ⟨b, μ2, ht, hb, he⟩ := hs m ρ1 μ1 hI
  refine ht α' Z' σ' H' ok' sl' _ fun H2 e2 ok2 => ?_
  have g2 : Gr α Z H α' Z' H2 := g'.trans ok.w ok'.w (.of_ext e2)
  cases b with
  | true =>
    refine ⟨fun σ3 H3 => ∃ m', m' < m ∧ ∃ ρ1 μ2 α' Z', Inv m' ρ1 μ2 ∧ Gr α Z H α' Z' H3 ∧ Okay K α' Z' H3 μ2 ∧ SlotsOk K α' Z' H3 σ3 ρ1, fun σ3 H3 h => h, ?_⟩
    have k1 := kk.up w0 ok.w gr
    exact hb rfl α Z H α' Z' σ' H2 _ ok.w g2 ok2 (sl'.ext ok' e2) ⟨fun ρ3 μ3 α3 Z3 σ3 H3 hI3 g3 ok3 s3 => back _ ρ3 μ3 α3 Z3 σ3 H3 hI3 g3 ok3 s3, k1.rt, k1.nx,
      fun ρ3 μ3 α3 Z3 σ3 H3 hI3 g3 ok3 s3 => back _ ρ3 μ3 α3 Z3 σ3 H3 hI3 g3 ok3 s3, k1.xc⟩
  | false => exact kk.nx _ _ α' Z' σ' H2 (he rfl) (gr.trans w0 ok.w g2) ok2 (sl'.ext ok' e2)
/-! ### loops -/
def runFor (g : AV → Slots → Option Slots) (b : Slots → List CC → Option Ct) (ks : List Nat) (n : Nat) : List AV → Slots → List CC → Option Ct
  | [], ρ, μ => some (.nx (wipeA ρ ks) μ)
  | a :: as, ρ, μ => match g a (wipeA ρ ks) with
    | none => none
    | some ρ1 => match b ρ1 μ with
      | some (.nx ρ2 μ2) => runFor g b ks n as (gcR n (wipeA ρ2 ks) μ2) (gcM n (wipeA ρ2 ks) μ2)
      | some (.ct ρ2 μ2) => runFor g b ks n as (gcR n (wipeA ρ2 ks) μ2) (gcM n (wipeA ρ2 ks) μ2)
      | some (.bk ρ2 μ2) => some (.nx (wipeA ρ2 ks) μ2)
      | r => r
def xFor (it : XI) (g : XG) (ks : List Nat) (b : XS) : XS where
  t K W := tFor (it.t K W) (g.t K) (b.t K W)
  ev ρ μ := fin ρ (it.ev ρ μ) fun items μ1 => runFor g.ev b.ev ks μ1.length items ρ μ1
  ok {K W ρ μ r} h := by
    rcases fin_inv h with ⟨items, μ1, h1, h⟩ | ⟨c', fs, μ1, h1, rfl⟩
    · refine sv_forG (it.ok h1) (fun i ρ1 μ2 => runFor g.ev b.ev ks μ1.length (items.drop i) ρ1 μ2 = some r) h ?_ ?_
      · intro i d ρ1 μ2 hd hI
        have hi : i < items.length := (List.getElem?_eq_some_iff.mp hd).1
        have hdr : items.drop i = d :: items.drop (i + 1) := by rw [List.drop_eq_getElem_cons hi]; congr 1; exact (List.getElem?_eq_some_iff.mp hd).2
        rw [hdr] at hI
        simp only [runFor] at hI
        cases hg : g.ev d (wipeA ρ1 ks) with
        | none => simp only [hg] at hI; cases hI
        | some ρ2 =>
          simp only [hg] at hI
          refine ⟨ρ2, g.js, (g.ok hg).fgt (fgt_wipe _ _), ?_⟩
          cases hb : b.ev ρ2 μ2 with
          | none => simp only [hb] at hI; cases hI
          | some r1 =>
            simp only [hb] at hI
            refine SV.of (b.ok hb) ?_
            cases r1 with
            | nx ρ3 μ3 => exact ⟨_, fgt_wipe _ _, hI⟩
            | ct ρ3 μ3 => exact ⟨_, fgt_wipe _ _, hI⟩
            | bk ρ3 μ3 => cases hI; exact ⟨fgt_wipe _ _, rfl⟩
            | rt x μ3 => cases hI; exact ⟨rfl, rfl⟩
            | xc ρ3 c fs μ3 => cases hI; exact ⟨fgt_refl _, rfl, rfl, rfl⟩
      · intro ρ1 μ2 hI
        rw [List.drop_length] at hI
        cases hI
        exact ⟨fgt_wipe _ _, rfl⟩
    · exact sv_x (it.ex h1) fun D σ H => ⟨_, fun q => q⟩
def runWhile (c : Slots → List CC → Option (Rs Bool)) (b : Slots → List CC → Option Ct) (ks : List Nat) (n : Nat) : Nat → Slots → List CC → Option Ct
  | 0, _, _ => none
  | m + 1, ρ, μ => match c (wipeA ρ ks) μ with
    | some (.v true μ1) => match b (wipeA ρ ks) μ1 with
      | some (.nx ρ2 μ2) => runWhile c b ks n m (gcR n (wipeA ρ2 ks) μ2) (gcM n (wipeA ρ2 ks) μ2)
      | some (.ct ρ2 μ2) => runWhile c b ks n m (gcR n (wipeA ρ2 ks) μ2) (gcM n (wipeA ρ2 ks) μ2)
      | some (.bk ρ2 μ2) => some (.nx (wipeA ρ2 ks) μ2)
      | r => r
    | some (.v false μ1) => some (.nx (wipeA ρ ks) μ1)
    | _ => none
def xWhile (fuel : Nat) (c : XT) (ks : List Nat) (b : XS) : XS where
  t K W := tWhile (c.t K W) (b.t K W)
  ev ρ μ := runWhile c.ev b.ev ks μ.length fuel ρ μ
  ok {K W ρ μ r} h := by
    refine sv_whileG (fun m ρ1 μ1 => runWhile c.ev b.ev ks μ.length m ρ1 μ1 = some r) fuel h ?_
    intro m ρ1 μ1 hI
    cases m with
    | zero => cases hI
    | succ n =>
      simp only [runWhile] at hI
      cases hc : c.ev (wipeA ρ1 ks) μ1 with
      | none => simp only [hc] at hI; cases hI
      | some rb =>
        cases rb with
        | x cc fs mm => simp only [hc] at hI; cases hI
        | v bb μ2 =>
          refine ⟨bb, μ2, ET.fgt (fgt_wipe _ _) (c.ok hc), fun e => ?_, fun e => ?_⟩
          · subst e
            simp only [hc] at hI
            cases hb : b.ev (wipeA ρ1 ks) μ2 with
            | none => simp only [hb] at hI; cases hI
            | some r1 =>
              simp only [hb] at hI
              refine SV.fgt (fgt_wipe _ _) (SV.of (b.ok hb) ?_)
              cases r1 with
              | nx ρ3 μ3 => exact ⟨n, _, Nat.lt_succ_self n, fgt_wipe _ _, hI⟩
              | ct ρ3 μ3 => exact ⟨n, _, Nat.lt_succ_self n, fgt_wipe _ _, hI⟩
              | bk ρ3 μ3 => cases hI; exact ⟨fgt_wipe _ _, rfl⟩
              | rt x μ3 => cases hI; exact ⟨rfl, rfl⟩
              | xc ρ3 c fs μ3 => cases hI; exact ⟨fgt_refl _, rfl, rfl, rfl⟩
          · subst e
            simp only [hc] at hI
            cases hI
            exact ⟨fgt_wipe _ _, rfl⟩
end FX

set_option Elab.async false
set_option linter.all false
set_option maxRecDepth 100000
set_option maxHeartbeats 4000000
/-! FX4: cells changed, errors raised and caught, calls, a def by its body: reckoned. -/
namespace FX
open PySem PySem.Spec PyProof.Rows L2 DL
theorem join_some {α : Type} {o : Option (Option α)} {x : α} (h : o.join = some x) : o = some (some x) := by
  cases o with
  | none => cases h
  | some y => cases y with
    | none => cases h
    | some z => cases h; rfl
/-! ### a name's list changed -/
def cellOf : Option (Option AV) → Option Nat
  | some (some (.cell k)) => some k
  | _ => none
theorem cellOf_inv {o : Option (Option AV)} {k : Nat} (h : cellOf o = some k) : o = some (some (.cell k)) := by
  unfold cellOf at h
  split at h
  · cases h; rfl
  · cases h
def lstAt (μ : List CC) (k : Nat) : Option (List AV) := match μ[k]? with
  | some (.lst cs) => some cs
  | _ => none
theorem lstAt_inv {μ : List CC} {k : Nat} {cs : List AV} (h : lstAt μ k = some cs) : μ[k]? = some (.lst cs) := by
  unfold lstAt at h
  split at h
  · cases h; assumption
  · cases h
/-- name.append(e) -/
def xAppend (i : Nat) (a : XE) : XE where
  t K W := tBM K "list" rAppend (tVar i) (tCons (a.t K W) tNil)
  ev ρ μ := match cellOf ρ[i]? with
    | none => none
    | some k => match lstAt μ k with
      | none => none
      | some _ => bnd (a.ev ρ μ) fun x μ1 => match lstAt μ1 k with
        | none => none
        | some cs => if cs.length ≤ 100000 then some (.v (.d .non) (μ1.set k (.lst (cs ++ [x])))) else none
  ok {K W ρ μ x μ'} h := by
    split at h
    · cases h
    · rename_i k hk
      split at h
      · cases h
      · rename_i ys hy
        obtain ⟨x, μ1, h1, h⟩ := bnd_v_inv h
        split at h
        · cases h
        · rename_i cs hc
          split at h
          · cases h
            exact ev_append (ev_var (cellOf_inv hk)) (a.ok h1) (lstAt_inv hy) (lstAt_inv hc) (by assumption)
          · cases h
  ex {K W ρ μ c fs μ'} h := by
    split at h
    · cases h
    · rename_i k hk
      split at h
      · cases h
      · rename_i ys hy
        rcases bnd_x_inv h with h1 | ⟨x, μ1, h1, h⟩
        · exact fun α Z σ H ok sl Q kk => by
            obtain ⟨v, q1, q2⟩ := sl.at_ i _ (cellOf_inv hk)
            refine ⟨v, q1, ?_⟩
            cases q2 with
            | cell ha =>
              obtain ⟨vs0, q0, _⟩ := ok.c.at_ k _ _ ha (lstAt_inv hy)
              exact ⟨.inl ⟨rfl, _, SqL.of q0⟩, a.ex h1 α Z σ H ok sl _ kk⟩
        · split at h
          · cases h
          · split at h <;> cases h
/-- name.pop() -/
def xPop (i : Nat) : XE where
  t K _ := tBM0 K "list" rPop (tVar i)
  ev ρ μ := match cellOf ρ[i]? with
    | none => none
    | some k => match lstAt μ k with
      | none => none
      | some cs => match cs[cs.length - 1]? with
        | none => none
        | some x => some (.v x (μ.set k (.lst cs.dropLast)))
  ok {K W ρ μ x μ'} h := by
    split at h
    · cases h
    · rename_i k hk
      split at h
      · cases h
      · rename_i cs hc
        split at h
        · cases h
        · cases h; exact ev_pop (ev_var (cellOf_inv hk)) (lstAt_inv hc) (by assumption)
  ex h := by
    split at h
    · cases h
    · split at h
      · cases h
      · split at h <;> cases h
/-- name.pop(e), 0 ≤ e -/
def xPopAt (i : Nat) (a : XE) : XE where
  t K W := tBM K "list" rPopAt (tVar i) (tCons (a.t K W) tNil)
  ev ρ μ := match cellOf ρ[i]? with
    | none => none
    | some k => match lstAt μ k with
      | none => none
      | some _ => bnd (a.ev ρ μ) fun x μ1 => match x with
        | .d (.int z) => if 0 ≤ z then (match lstAt μ1 k with
          | none => none
          | some cs => if cs.length ≤ 100000 then (match cs[z.toNat]? with
            | none => none
            | some y => some (.v y (μ1.set k (.lst (cs.eraseIdx z.toNat))))) else none) else none
        | _ => none
  ok {K W ρ μ x μ'} h := by
    split at h
    · cases h
    · rename_i k hk
      split at h
      · cases h
      · rename_i ys hy
        obtain ⟨x, μ1, h1, h⟩ := bnd_v_inv h
        split at h
        · split at h
          · rename_i hz
            split at h
            · cases h
            · rename_i cs hc
              split at h
              · split at h
                · cases h
                · rename_i z _ hx
                  cases h
                  exact ev_popAt (ev_var (cellOf_inv hk)) (lstAt_inv hy) (by have e := Int.toNat_of_nonneg hz; rw [e]; exact a.ok h1) (lstAt_inv hc) (by assumption) (by assumption)
              · cases h
          · cases h
        · cases h
  ex {K W ρ μ c fs μ'} h := by
    split at h
    · cases h
    · rename_i k hk
      split at h
      · cases h
      · rename_i ys hy
        rcases bnd_x_inv h with h1 | ⟨x, μ1, h1, h⟩
        · exact fun α Z σ H ok sl Q kk => by
            obtain ⟨v, q1, q2⟩ := sl.at_ i _ (cellOf_inv hk)
            refine ⟨v, q1, ?_⟩
            cases q2 with
            | cell ha =>
              obtain ⟨vs0, q0, _⟩ := ok.c.at_ k _ _ ha (lstAt_inv hy)
              exact ⟨.inl ⟨rfl, _, SqL.of q0⟩, a.ex h1 α Z σ H ok sl _ kk⟩
        · split at h
          · split at h
            · split at h
              · cases h
              · split at h
                · split at h <;> cases h
                · cases h
            · cases h
          · cases h
/-- name[e] = v, 0 ≤ e -/
def xSetL (a : XE) (i : Nat) (ix : XE) : XS where
  t K W := tAsg (a.t K W) (gSub (tVar i) (ix.t K W) rSetL)
  ev ρ μ := fin ρ (a.ev ρ μ) fun x μ1 => match cellOf ρ[i]? with
    | none => none
    | some k => fin ρ (ix.ev ρ μ1) fun z μ2 => match z with
      | .d (.int z) => if 0 ≤ z then (match lstAt μ2 k with
        | none => none
        | some cs => if z.toNat < cs.length then some (.nx ρ (μ2.set k (.lst (cs.set z.toNat x)))) else none) else none
      | _ => none
  ok {K W ρ μ r} h := by
    rcases fin_inv h with ⟨x, μ1, h1, h⟩ | ⟨c', fs, μ1, h1, rfl⟩
    · split at h
      · cases h
      · rename_i k hk
        rcases fin_inv h with ⟨z, μ2, h2, h⟩ | ⟨c', fs, μ2, h2, rfl⟩
        · split at h
          · rename_i z
            split at h
            · rename_i hz
              split at h
              · cases h
              · rename_i cs hc
                split at h
                · rename_i hn
                  cases h
                  intro α0 Z0 H0 α Z σ H D w0 gr ok sl kc
                  refine a.ok h1 α Z σ H ok sl _ fun v H1 e1 ok1 r1 => ?_
                  obtain ⟨u, q1, q2⟩ := sl.at_ i _ (cellOf_inv hk)
                  refine ⟨u, q1, ?_⟩
                  cases q2 with
                  | cell ha =>
                    refine ix.ok h2 α Z σ H1 ok1 (sl.ext ok e1) _ fun w H3 e3 ok3 r3 => ?_
                    cases r3 with
                    | d r3 =>
                      cases r3
                      obtain ⟨vs, s1, s2⟩ := ok3.c.at_ k _ _ ha (lstAt_inv hc)
                      have hZ := ok3.w.sub _ (List.mem_of_getElem? ha)
                      have ez := Int.toNat_of_nonneg hz
                      refine ⟨_, vs, z, z.toNat, rfl, rfl, s1, ?_, ?_⟩
                      · unfold ixN
                        rw [s2.length, if_pos hz, if_pos (by omega)]
                      · have r' := r1.ext ok1 e3
                        obtain ⟨ok4, e4⟩ := ok3.write (c := .lst (cs.set z.toNat x)) (o := .lst (vs.set z.toNat v)) ha ⟨_, upd_same, (s2.set z.toNat r').touch hZ⟩
                        have e := e1.trans (e3.trans e4)
                        exact kc.nx _ _ α Z σ _ ⟨fgt_refl _, rfl⟩ (gr.ext1 w0 ok e) ok4 (sl.ext ok e)
                · cases h
            · cases h
          · cases h
        · intro α0 Z0 H0 α Z σ H D w0 gr ok sl kc
          refine a.ok h1 α Z σ H ok sl _ fun v H1 e1 ok1 r1 => ?_
          obtain ⟨u, q1, q2⟩ := sl.at_ i _ (cellOf_inv hk)
          exact ⟨u, q1, ix.ex h2 α Z σ H1 ok1 (sl.ext ok e1) _ fun d H' e o xo => kc.xc ρ _ _ _ d α Z σ H' ⟨fgt_refl _, rfl, rfl, rfl⟩ (gr.ext1 w0 ok (e1.trans e)) o (sl.ext ok (e1.trans e)) xo⟩
    · exact sv_x (a.ex h1) fun D σ H => ⟨_, fun q => q⟩
/-! ### errors -/
def one : List AV → Option D
  | [.d d] => some d
  | _ => none
theorem one_inv {xs : List AV} {d : D} (h : one xs = some d) : xs = [.d d] := by
  unfold one at h
  split at h
  · cases h; rfl
  · cases h
def xRaiseV (C : Addr) (a : XA) : XS where
  t K W := tRaiseLow_value C W (a.t K W)
  ev ρ μ := fin ρ (a.ev ρ μ) fun xs μ1 => match one xs with
    | some d => some (.xc ρ (.ref C) [("value", d)] μ1)
    | none => none
  ok {K W ρ μ r} h := by
    rcases fin_inv h with ⟨x, μ1, h1, h⟩ | ⟨c', fs, μ1, h1, rfl⟩
    · split at h
      · rename_i q; cases h
        have e := one_inv q; subst e
        exact sv_raise_value (a.ok h1) ⟨fgt_refl _, rfl, rfl, rfl⟩
      · cases h
    · exact sv_x (a.ex h1) fun D σ H => ⟨_, fun q => q⟩
def xRaiseI (C : Addr) (a : XA) : XS where
  t K W := tRaiseLow_index C W (a.t K W)
  ev ρ μ := fin ρ (a.ev ρ μ) fun xs μ1 => match one xs with
    | some d => some (.xc ρ (.ref C) [("index", d)] μ1)
    | none => none
  ok {K W ρ μ r} h := by
    rcases fin_inv h with ⟨x, μ1, h1, h⟩ | ⟨c', fs, μ1, h1, rfl⟩
    · split at h
      · rename_i q; cases h
        have e := one_inv q; subst e
        exact sv_raise_index (a.ok h1) ⟨fgt_refl _, rfl, rfl, rfl⟩
      · cases h
    · exact sv_x (a.ex h1) fun D σ H => ⟨_, fun q => q⟩
/-! ### calls -/
abbrev Fn := List AV → List CC → Option (Out × List CC)
def gr (F : Fn) : Ctr := fun args μ o μ' => F args μ = some (o, μ')
def cellsOf : List AV → List Nat
  | [] => []
  | .d _ :: r => cellsOf r
  | .cell k :: r => if k ∈ cellsOf r then cellsOf r else k :: cellsOf r
def renum (ks : List Nat) : AV → AV
  | .d x => .d x
  | .cell k => .cell (ks.idxOf k)
def setAll : List CC → List Nat → List CC → List CC
  | μ, k :: ks, c :: cs => setAll (μ.set k c) ks cs
  | μ, _, _ => μ
def hasD (μ : List CC) (k : Nat) : Bool := match μ[k]? with
  | some c => c.isD
  | none => false
def callM (F : Fn) (args : List AV) (μ : List CC) : Option (Out × List CC) :=
  if (cellsOf args).all (hasD μ) = true then
    match F (args.map (renum (cellsOf args))) ((cellsOf args).map fun k => μ.getD k (.lst [])) with
    | some (o, sub) => if sub.length = (cellsOf args).length ∧ sub.all CC.isD = true then some (o, setAll μ (cellsOf args) sub) else none
    | none => none
  else none
theorem cellsOf_nodup : ∀ args : List AV, (cellsOf args).Nodup
  | [] => .nil
  | .d _ :: r => cellsOf_nodup r
  | .cell k :: r => by
    unfold cellsOf
    split
    · exact cellsOf_nodup r
    · exact List.nodup_cons.mpr ⟨by assumption, cellsOf_nodup r⟩
theorem mem_cellsOf {k : Nat} : ∀ {args : List AV}, AV.cell k ∈ args → k ∈ cellsOf args
  | .d _ :: r, h => by
    unfold cellsOf
    rcases List.mem_cons.mp h with e | e
    · cases e
    · exact mem_cellsOf e
  | .cell j :: r, h => by
    unfold cellsOf
    rcases List.mem_cons.mp h with e | e
    · cases e
      split
      · assumption
      · exact List.mem_cons_self
    · split
      · exact mem_cellsOf e
      · exact List.mem_cons_of_mem _ (mem_cellsOf e)
theorem setAll_len : ∀ (μ : List CC) (ks : List Nat) (cs : List CC), (setAll μ ks cs).length = μ.length
  | μ, [], cs => by cases cs <;> rfl
  | μ, k :: ks, [] => rfl
  | μ, k :: ks, c :: cs => by rw [setAll, setAll_len, List.length_set]
theorem setAll_out {j : Nat} : ∀ {μ : List CC} {ks : List Nat} {cs : List CC}, j ∉ ks → (setAll μ ks cs)[j]? = μ[j]?
  | μ, [], cs, _ => by cases cs <;> rfl
  | μ, k :: ks, [], _ => rfl
  | μ, k :: ks, c :: cs, h => by
    rw [setAll, setAll_out fun q => h (List.mem_cons_of_mem _ q)]
    exact List.getElem?_set_ne fun e => h (by rw [e]; exact List.mem_cons_self)
theorem setAll_in {j i : Nat} : ∀ {μ : List CC} {ks : List Nat} {cs : List CC}, ks.Nodup → ks[i]? = some j → j < μ.length → cs.length = ks.length → (setAll μ ks cs)[j]? = cs[i]?
  | μ, [], cs, _, h, _, _ => by simp at h
  | μ, k :: ks, [], _, _, _, e => by simp at e
  | μ, k :: ks, c :: cs, nd, h, hj, e => by
    obtain ⟨n1, n2⟩ := List.nodup_cons.mp nd
    rw [setAll]
    cases i with
    | zero =>
      simp only [List.getElem?_cons_zero, Option.some.injEq] at h
      subst h
      rw [setAll_out n1, List.getElem?_set_self hj]; rfl
    | succ i =>
      simp only [List.getElem?_cons_succ] at h ⊢
      exact setAll_in n2 h (by rw [List.length_set]; exact hj) (by simpa using e)
section
variable {K : PySem.W.Frag} {α Z Z' : List Addr} {H H' : Hp} {μ sub : List CC} {ks : List Nat}
theorem hasD_inv {k : Nat} (h : hasD μ k = true) : ∃ c, μ[k]? = some c ∧ c.isD = true := by
  unfold hasD at h
  split at h
  · exact ⟨_, by assumption, h⟩
  · cases h
abbrev addrs (α : List Addr) (ks : List Nat) : List Addr := ks.map fun k => α.getD k 0
theorem getD_some {γ : Type} {xs : List γ} {k : Nat} {x d : γ} (h : xs[k]? = some x) : xs.getD k d = x := by rw [List.getD_eq_getElem?_getD, h]; rfl
theorem addr_at (ok : Okay K α Z H μ) {k : Nat} {c : CC} (h : μ[k]? = some c) : α[k]? = some (α.getD k 0) := by
  have hk : k < α.length := by rw [ok.c.len]; exact (List.getElem?_eq_some_iff.mp h).1
  rw [List.getD_eq_getElem?_getD, List.getElem?_eq_getElem hk]; rfl
theorem Okay.some_ (ok : Okay K α Z H μ) (nd : ks.Nodup) (h : ks.all (hasD μ) = true) : Okay K (addrs α ks) Z H (ks.map fun k => μ.getD k (.lst [])) := by
  have hh : ∀ k ∈ ks, ∃ c, μ[k]? = some c ∧ c.isD = true ∧ α[k]? = some (α.getD k 0) := fun k hk => by
    obtain ⟨c, h1, h2⟩ := hasD_inv (List.all_eq_true.mp h k hk)
    exact ⟨c, h1, h2, addr_at ok h1⟩
  refine ⟨⟨?_, fun a ha => ?_, ok.w.there⟩, ⟨by rw [List.length_map, List.length_map], fun i a c h1 h2 => ?_⟩⟩
  · rw [List.nodup_iff_pairwise_ne, List.pairwise_map]
    refine (List.nodup_iff_pairwise_ne.mp nd).imp_of_mem fun {a b} ha hb hne e => hne ?_
    obtain ⟨_, _, _, q1⟩ := hh a ha
    obtain ⟨_, _, _, q2⟩ := hh b hb
    exact (List.getElem?_inj (List.getElem?_eq_some_iff.mp q1).1 ok.w.nd).mp (by rw [q1, q2, e])
  · obtain ⟨k, hk, rfl⟩ := List.mem_map.mp ha
    obtain ⟨_, _, _, q1⟩ := hh k hk
    exact ok.w.sub _ (List.mem_of_getElem? q1)
  · rw [List.getElem?_map] at h1 h2
    cases q : ks[i]? with
    | none => rw [q] at h1; cases h1
    | some k =>
      rw [q] at h1 h2
      cases h1; cases h2
      obtain ⟨c, q1, q2, q3⟩ := hh k (List.mem_of_getElem? q)
      show CellOk K _ Z H (α.getD k 0) (μ.getD k (.lst []))
      rw [getD_some q1]
      exact (ok.c.at_ k _ c q3 q1).re q2
theorem Okay.backs (ok : Okay K α Z H μ) (nd : ks.Nodup) (h : ks.all (hasD μ) = true) (hl : sub.length = ks.length) (hd : sub.all CC.isD = true) (e : Ext (addrs α ks) H H') (o2 : Okay K (addrs α ks) Z' H' sub)
    (keep : ∀ z ∈ Z, z ∈ Z') (new : ∀ z ∈ Z', z ∈ Z ∨ H z = none) : Okay K α Z' H' (setAll μ ks sub) ∧ Ext α H H' := by
  have hh : ∀ k ∈ ks, ∃ c, μ[k]? = some c ∧ c.isD = true ∧ α[k]? = some (α.getD k 0) := fun k hk => by
    obtain ⟨c, h1, h2⟩ := hasD_inv (List.all_eq_true.mp h k hk)
    exact ⟨c, h1, h2, addr_at ok h1⟩
  have eα : Ext α H H' := fun b hb o q => e b (fun z => hb (by
    obtain ⟨k, hk, rfl⟩ := List.mem_map.mp z
    obtain ⟨_, _, _, q1⟩ := hh k hk
    exact List.mem_of_getElem? q1)) o q
  have g : Gr α Z H α Z' H' := ⟨⟨[], by simp, by simp⟩, keep, new, eα⟩
  refine ⟨⟨⟨ok.w.nd, fun a ha => keep _ (ok.w.sub a ha), o2.w.there⟩, ⟨by rw [setAll_len]; exact ok.c.len, fun j b c h1 h2 => ?_⟩⟩, eα⟩
  by_cases hj : j ∈ ks
  · obtain ⟨i, hi, q⟩ := List.getElem_of_mem hj
    have q : ks[i]? = some j := by rw [List.getElem?_eq_getElem hi, q]
    obtain ⟨c0, q1, q2, q3⟩ := hh j hj
    rw [setAll_in nd q (List.getElem?_eq_some_iff.mp q1).1 hl] at h2
    rw [h1] at q3
    have hb : (addrs α ks)[i]? = some b := by rw [List.getElem?_map, q]; exact q3.symm
    exact (o2.c.at_ i b c hb h2).re (List.all_eq_true.mp hd c (List.mem_of_getElem? h2))
  · rw [setAll_out hj] at h2
    have nb : b ∉ addrs α ks := fun z => by
      obtain ⟨k, hk, rfl⟩ := List.mem_map.mp z
      obtain ⟨_, _, _, q1⟩ := hh k hk
      have e1 : α[j]? = α[k]? := h1.trans q1.symm
      have e2 : j = k := (List.getElem?_inj (List.getElem?_eq_some_iff.mp h1).1 ok.w.nd).mp e1
      exact hj (by rw [e2]; exact hk)
    obtain ⟨ob, hob⟩ := ok.w.there b (ok.w.sub b (List.mem_of_getElem? h1))
    exact (ok.c.at_ j b c h1 h2).gr ok.w g (by rw [e b nb ob hob, hob])
theorem RpVs.renum (ok : Okay K α Z H μ) : ∀ {vs : List V} {xs : List AV}, (∀ k, AV.cell k ∈ xs → k ∈ ks) → RpVs K α Z H vs xs → RpVs K (addrs α ks) Z H vs (xs.map (FX.renum ks))
  | _, _, _, .nil => .nil
  | _, .d x :: xs, h, .cons (.d r) rs => .cons (.d r) (RpVs.renum ok (fun k q => h k (List.mem_cons_of_mem _ q)) rs)
  | _, .cell k :: xs, h, .cons (.cell ha) rs => .cons (.cell (by
      have hk := h k List.mem_cons_self
      rw [List.getElem?_map, List.getElem?_eq_getElem (List.idxOf_lt_length_iff.mpr hk), List.getElem_idxOf]
      show some (α.getD k 0) = _
      rw [getD_some ha])) (RpVs.renum ok (fun k q => h k (List.mem_cons_of_mem _ q)) rs)
/-- a call, cells among its arguments -/
theorem call_core {F : Fn} {args : List AV} {μ' : List CC} {o : Out} {vs : List V} {Q : VK} {E : XK} (h : callM F args μ = some (o, μ')) (ok : Okay K α Z H μ) (rv : RpVs K α Z H vs args)
    (hq : ∀ r v H', o = .ret r → (∃ d, r = .d d) → Ext α H H' → Okay K α Z H' μ' → RpV K α Z H' v r → Q v H') (hr : ∀ k, o ≠ .ret (.cell k))
    (he : ∀ c fs d H', o = .exc c fs → Ext α H H' → Okay K α Z H' μ' → ExcOk K Z H' d fs → E c d H')
    (hn : ∀ xs p vs H', o = .new xs → Ext α H H' → H p = none → H' p = some (.lst vs) → Okay K α (p :: Z) H' μ' → RpA K (p :: Z) H' vs xs → Q (.ref p) H') : SpR K (gr F) vs H Q E := by
  unfold callM at h
  split at h
  · rename_i ha
    split at h
    · rename_i o1 sub hF
      split at h
      · rename_i hs
        cases h
        have nd := cellsOf_nodup args
        refine ⟨addrs α (cellsOf args), Z, _, _, o, sub, Okay.some_ ok nd ha, RpVs.renum ok (fun k => mem_cellsOf) rv, hF, fun r v H' e ex ok' rv' => ?_, fun c fs d H' e ex ok' xo => ?_, fun xs p ws H' e ex hp hv ok' ra => ?_⟩
        · cases r with
          | cell k => exact absurd e (hr k)
          | d d =>
            obtain ⟨o3, e3⟩ := Okay.backs ok nd ha hs.1 hs.2 ex ok' (fun _ h => h) (fun _ h => .inl h)
            exact hq _ v H' e ⟨d, rfl⟩ e3 o3 (rv'.re rfl)
        · obtain ⟨o3, e3⟩ := Okay.backs ok nd ha hs.1 hs.2 ex ok' (fun _ h => h) (fun _ h => .inl h)
          exact he c fs d H' e e3 o3 xo
        · obtain ⟨o3, e3⟩ := Okay.backs ok nd ha hs.1 hs.2 ex ok' (fun _ h => List.mem_cons_of_mem _ h) (fun z h => by
            rcases List.mem_cons.mp h with q | q
            · exact .inr (q ▸ hp)
            · exact .inl q)
          exact hn xs p ws H' e e3 hp hv o3 ra
      · cases h
    · cases h
  · cases h
end
/-- what a call hands back, as a value -/
def outV : Option (Out × List CC) → Option (Rs AV)
  | some (.ret (.d d), μ) => some (.v (.d d) μ)
  | some (.new xs, μ) => some (.v (.d (.lst xs)) μ)
  | some (.exc c fs, μ) => some (.x c fs μ)
  | _ => none
/-- .. as a new list -/
def outN : Option (Out × List CC) → Option (Rs (List AV))
  | some (.new xs, μ) => some (.v (xs.map .d) μ)
  | some (.exc c fs, μ) => some (.x c fs μ)
  | _ => none
section
variable {K : PySem.W.Frag} {F : Fn} {args : List AV} {μ μ' : List CC} {α Z : List Addr} {H : Hp} {vs : List V} {Q : VK} {E : XK}
theorem call_v {x : AV} (h : outV (callM F args μ) = some (.v x μ')) (ok : Okay K α Z H μ) (rv : RpVs K α Z H vs args) (k : ∀ v H', Ext α H H' → Okay K α Z H' μ' → RpV K α Z H' v x → Q v H') : SpR K (gr F) vs H Q E := by
  cases hc : callM F args μ with
  | none => rw [hc] at h; cases h
  | some p =>
    obtain ⟨o, m⟩ := p
    rw [hc] at h
    refine call_core hc ok rv (fun r v H' e hd ex ok' rv' => ?_) (fun k' e => ?_) (fun c fs d H' e ex ok' xo => ?_) fun xs p ws H' e ex hp hv ok' ra => ?_
    · subst e; obtain ⟨d, rfl⟩ := hd; cases h; exact k v H' ex ok' rv'
    · subst e; cases h
    · subst e; cases h
    · subst e; cases h
      exact k _ H' ex (ok'.less ok.w.sub) (.d (.lst (ok.w.off hp) hv (RpA.weak (fun a ha => List.mem_cons_of_mem _ ha) ra)))
theorem call_x {c : Value} {fs : List (Str × D)} (h : outV (callM F args μ) = some (.x c fs μ')) (ok : Okay K α Z H μ) (rv : RpVs K α Z H vs args) (k : ∀ d H', Ext α H H' → Okay K α Z H' μ' → ExcOk K Z H' d fs → E c d H') : SpR K (gr F) vs H Q E := by
  cases hc : callM F args μ with
  | none => rw [hc] at h; cases h
  | some p =>
    obtain ⟨o, m⟩ := p
    rw [hc] at h
    refine call_core hc ok rv (fun r v H' e hd ex ok' rv' => ?_) (fun k' e => ?_) (fun c fs d H' e ex ok' xo => ?_) fun xs p ws H' e ex hp hv ok' ra => ?_
    · subst e; obtain ⟨d, rfl⟩ := hd; cases h
    · subst e; cases h
    · subst e; cases h; exact k d H' ex ok' xo
    · subst e; cases h
theorem call_n {xs : List AV} (h : outN (callM F args μ) = some (.v xs μ')) (ok : Okay K α Z H μ) (rv : RpVs K α Z H vs args)
    (k : ∀ p vs H', Ext α H H' → H p = none → H' p = some (.lst vs) → Okay K α (p :: Z) H' μ' → RpVs K α (p :: Z) H' vs xs → Q (.ref p) H') : SpR K (gr F) vs H Q E := by
  cases hc : callM F args μ with
  | none => rw [hc] at h; cases h
  | some p =>
    obtain ⟨o, m⟩ := p
    rw [hc] at h
    refine call_core hc ok rv (fun r v H' e hd ex ok' rv' => ?_) (fun k' e => ?_) (fun c fs d H' e ex ok' xo => ?_) fun xs p ws H' e ex hp hv ok' ra => ?_
    · subst e; cases h
    · subst e; cases h
    · subst e; cases h
    · subst e; cases h; exact k p ws H' ex hp hv ok' (.of_data ra)
theorem call_nx {c : Value} {fs : List (Str × D)} (h : outN (callM F args μ) = some (.x c fs μ')) (ok : Okay K α Z H μ) (rv : RpVs K α Z H vs args) (k : ∀ d H', Ext α H H' → Okay K α Z H' μ' → ExcOk K Z H' d fs → E c d H') : SpR K (gr F) vs H Q E := by
  cases hc : callM F args μ with
  | none => rw [hc] at h; cases h
  | some p =>
    obtain ⟨o, m⟩ := p
    rw [hc] at h
    refine call_core hc ok rv (fun r v H' e hd ex ok' rv' => ?_) (fun k' e => ?_) (fun c fs d H' e ex ok' xo => ?_) fun xs p ws H' e ex hp hv ok' ra => ?_
    · subst e; cases h
    · subst e; cases h
    · subst e; cases h; exact k d H' ex ok' xo
    · subst e; cases h
end
/-- f(a, ..), the last parameters by their defaults -/
def xCallD (F : Fn) (a : XA) (dvs : List V) (dd : List D) (hd : ∀ K Z H, RpA K Z H dvs dd) : XE where
  t K W := tCl (SpR K (gr F)) dvs W (a.t K W)
  ev ρ μ := bnd (a.ev ρ μ) fun xs μ1 => outV (callM F (xs ++ dd.map .d) μ1)
  ok h := by
    obtain ⟨xs, μ1, h1, h⟩ := bnd_v_inv h
    exact fun α Z σ H ok sl Q k => a.ok h1 α Z σ H ok sl _ fun vs H1 e1 ok1 r1 => call_v h ok1 (r1.append (RpVs.of_data (hd _ Z H1))) fun v H' e ok' rv => k v H' (e1.trans e) ok' rv
  ex h := by
    rcases bnd_x_inv h with h1 | ⟨xs, μ1, h1, h⟩
    · exact fun α Z σ H ok sl Q k => a.ex h1 α Z σ H ok sl _ k
    · exact fun α Z σ H ok sl Q k => a.ok h1 α Z σ H ok sl _ fun vs H1 e1 ok1 r1 => call_x h ok1 (r1.append (RpVs.of_data (hd _ Z H1))) fun d H' e ok' xo => k d H' (e1.trans e) ok' xo
def xCallDN (F : Fn) (a : XA) (dvs : List V) (dd : List D) (hd : ∀ K Z H, RpA K Z H dvs dd) : XN where
  t K W := tCl (SpR K (gr F)) dvs W (a.t K W)
  ev ρ μ := bnd (a.ev ρ μ) fun xs μ1 => outN (callM F (xs ++ dd.map .d) μ1)
  ok h := by
    obtain ⟨xs, μ1, h1, h⟩ := bnd_v_inv h
    exact fun α Z σ H ok sl Q k => a.ok h1 α Z σ H ok sl _ fun vs H1 e1 ok1 r1 => call_n h ok1 (r1.append (RpVs.of_data (hd _ Z H1))) fun p ws H' e hp hv ok' rv => k p ws H' (e1.trans e) (none_back (fun q => ok1.w.off hp (ok.w.sub p q)) e1 hp) hv ok' rv
  ex h := by
    rcases bnd_x_inv h with h1 | ⟨xs, μ1, h1, h⟩
    · exact fun α Z σ H ok sl Q k => a.ex h1 α Z σ H ok sl _ k
    · exact fun α Z σ H ok sl Q k => a.ok h1 α Z σ H ok sl _ fun vs H1 e1 ok1 r1 => call_nx h ok1 (r1.append (RpVs.of_data (hd _ Z H1))) fun d H' e ok' xo => k d H' (e1.trans e) ok' xo
def xCall (F : Fn) (a : XA) : XE := xCallD F a [] [] fun _ _ _ => .nil
def xCallN (F : Fn) (a : XA) : XN := xCallDN F a [] [] fun _ _ _ => .nil
/-- f(a, .., x=b, ..): the keywords in the parameters' order -/
def xCallK (F : Fn) (n m : Nat) (a b : XA) : XE where
  t K W := tClK n m (SpR K (gr F)) W (a.t K W) (b.t K W)
  ev ρ μ := bnd (a.ev ρ μ) fun xs μ1 => bnd (b.ev ρ μ1) fun ys μ2 => if xs.length = n ∧ ys.length = m then outV (callM F (xs ++ ys) μ2) else none
  ok h := by
    obtain ⟨xs, μ1, h1, h⟩ := bnd_v_inv h
    obtain ⟨ys, μ2, h2, h⟩ := bnd_v_inv h
    split at h
    · rename_i hl
      exact fun α Z σ H ok sl Q k => a.ok h1 α Z σ H ok sl _ fun vs H1 e1 ok1 r1 => b.ok h2 α Z σ H1 ok1 (sl.ext ok e1) _ fun ws H2 e2 ok2 r2 =>
        ⟨r1.length.trans hl.1, r2.length.trans hl.2, call_v h ok2 ((r1.ext ok1 e2).append r2) fun v H' e ok' rv => k v H' (e1.trans (e2.trans e)) ok' rv⟩
    · cases h
  ex h := by
    rcases bnd_x_inv h with h1 | ⟨xs, μ1, h1, h⟩
    · exact fun α Z σ H ok sl Q k => a.ex h1 α Z σ H ok sl _ k
    rcases bnd_x_inv h with h2 | ⟨ys, μ2, h2, h⟩
    · exact fun α Z σ H ok sl Q k => a.ok h1 α Z σ H ok sl _ fun vs H1 e1 ok1 r1 => b.ex h2 α Z σ H1 ok1 (sl.ext ok e1) _ fun d H' e o x => k d H' (e1.trans e) o x
    split at h
    · rename_i hl
      exact fun α Z σ H ok sl Q k => a.ok h1 α Z σ H ok sl _ fun vs H1 e1 ok1 r1 => b.ok h2 α Z σ H1 ok1 (sl.ext ok e1) _ fun ws H2 e2 ok2 r2 =>
        ⟨r1.length.trans hl.1, r2.length.trans hl.2, call_x h ok2 ((r1.ext ok1 e2).append r2) fun d H' e ok' xo => k d H' (e1.trans (e2.trans e)) ok' xo⟩
    · cases h
/-! ### a def by its body -/
def chk (n : Nat) (o : Out) (μ : List CC) : Option (Out × List CC) := if n ≤ μ.length ∧ (μ.take n).all CC.isD = true then some (o, μ.take n) else none
def finD (n : Nat) : Ct → Option (Out × List CC)
  | .nx _ μ => chk n (.ret (.d .non)) μ
  | .rt (.d d) μ => chk n (.ret (.d d)) μ
  | .rt (.cell j) μ => if n ≤ j then (match lstAt μ j with
    | some xs => match toD xs with
      | some ds => chk n (.new ds) μ
      | none => none
    | none => none) else none
  | .xc _ c fs μ => chk n (.exc c fs) μ
  | _ => none
def runDef (nP nN : Nat) (b : Slots → List CC → Option Ct) : Fn := fun args μ =>
  if args.length = nP then (match b (args.map some ++ List.replicate (nN - args.length) none) μ with
    | some r => finD μ.length r
    | none => none) else none
theorem chk_inv {n : Nat} {o o' : Out} {μ μ' : List CC} (h : chk n o μ = some (o', μ')) : o' = o ∧ μ'.length = n ∧ μ'.all CC.isD = true ∧ ∃ new, μ = μ' ++ new := by
  unfold chk at h
  split at h
  · rename_i q
    cases h
    exact ⟨rfl, by rw [List.length_take]; omega, q.2, μ.drop n, (List.take_append_drop n μ).symm⟩
  · cases h
theorem finD_inv {n : Nat} {r : Ct} {o : Out} {μ' : List CC} (h : finD n r = some (o, μ')) : μ'.length = n ∧ μ'.all CC.isD = true ∧ r.sat (poOf o μ') := by
  unfold finD at h
  split at h
  · obtain ⟨rfl, h1, h2, new, rfl⟩ := chk_inv h
    exact ⟨h1, h2, new, rfl, rfl⟩
  · obtain ⟨rfl, h1, h2, new, rfl⟩ := chk_inv h
    exact ⟨h1, h2, .inl ⟨_, .data, rfl⟩⟩
  · split at h
    · rename_i j μ hj
      split at h
      · rename_i xs hx
        split at h
        · rename_i ds hd
          obtain ⟨rfl, h1, h2, new, rfl⟩ := chk_inv h
          have e := toD_inv hd; subst e
          have hx := lstAt_inv hx
          rw [List.getElem?_append_right (by omega)] at hx
          refine ⟨h1, h2, .inr ⟨ds, ?_, rfl⟩⟩
          have z := FinN.mk (μ' := μ') hx
          rw [show μ'.length + (j - μ'.length) = j by omega] at z
          exact z
        · cases h
      · cases h
    · cases h
  · obtain ⟨rfl, h1, h2, new, rfl⟩ := chk_inv h
    exact ⟨h1, h2, new, rfl, rfl⟩
  · cases h
theorem fx_body {P : Program} {w : World} {K : PySem.W.Frag} {mg : Str → Option Value} {base : Heap} {gd : Bool} {x qual : Str} {st : Stmt} {f : Addr} {fd : FuncData} {N ps : List Str} {k : Nat} {b : XS} (F : Fun K x qual st f fd) (S : FnScope N ps (defScope st))
    (hb : ∀ (cdv : Value) (A : Around) (outer : List Env) (s : Shared) (H : Hp) (E : XK), Room k (A.deeper (envOfC qual (defScope st) s.heap.objs.size f cdv)) → (gd = true → (A.deeper (envOfC qual (defScope st) s.heap.objs.size f cdv)).guards = some []) →
      ∃ t, PSs (cxOf (L2.CX P w) P w K mg base N qual (defScope st) f cdv A outer s H E) (defBody st) t ∧ t = b.t K (fun c d _ H => E c d H)) :
    FnG gd P w K mg base (k + 1) f fd ps (SpR K (gr (runDef ps.length N.length b.ev))) := by
  have key : ∀ {args μ o μ'}, gr (runDef ps.length N.length b.ev) args μ o μ' → args.length = ps.length ∧ ∃ r, b.ev (startA N args) μ = some r ∧ finD μ.length r = some (o, μ') := fun {args μ o μ'} h => by
    unfold gr runDef at h
    split at h
    · rename_i hl
      split at h
      · rename_i r hr
        exact ⟨hl, r, hr, h⟩
      · cases h
    · cases h
  refine fng_body F S (fun args μ o μ' h => ?_) fun cdv A outer s H E hr hg => ?_
  · obtain ⟨h1, r, _, h3⟩ := key h
    obtain ⟨q1, q2, _⟩ := finD_inv h3
    exact ⟨h1, q1, q2⟩
  · obtain ⟨t, ht, rfl⟩ := hb cdv A outer s H E hr hg
    refine ⟨_, ht, fun args μ o μ' h => ?_⟩
    obtain ⟨h1, r, h2, h3⟩ := key h
    exact SV.of (b.ok h2) (finD_inv h3).2.2
theorem FnG.imp {gd : Bool} {P : Program} {w : World} {K : PySem.W.Frag} {mg : Str → Option Value} {base : Heap} {k : Nat} {f : Addr} {fd : FuncData} {ps : List Str} {R R' : Ctr} (F : FnG gd P w K mg base k f fd ps (SpR K R)) (h : ∀ args μ o μ', R' args μ o μ' → R args μ o μ') : FnG gd P w K mg base k f fd ps (SpR K R') :=
  ⟨fun vs H Q E ⟨α, Z, args, μ, o, μ', h1, h2, h3, h4⟩ => F.len vs H Q E ⟨α, Z, args, μ, o, μ', h1, h2, h _ _ _ _ h3, h4⟩,
   fun A outer s H args us vs Q E hr hg e0 hb rv ⟨α, Z, ar, μ, o, μ', h1, h2, h3, h4⟩ => F.run A outer s H args us vs Q E hr hg e0 hb rv ⟨α, Z, ar, μ, o, μ', h1, h2, h _ _ _ _ h3, h4⟩⟩
end FX

set_option Elab.async false
set_option linter.all false
set_option maxRecDepth 100000
set_option maxHeartbeats 4000000
/-! FX5: a list or a tuple backwards; calls that read cells; errors caught. -/
namespace HT
open PySem PySem.Spec PyProof.Rows
section
variable {prog : Program} {w : World} {A : Around} {E : Value → Shared → Prop} {s : Shared}
theorem adjust_rev (n : Nat) : Builtin.Slice.sliceAdjust none none (-1) (n : Int) = ((n : Int) - 1, -1) := by
  unfold Builtin.Slice.sliceAdjust
  simp
theorem places_rev (n : Nat) : Builtin.Slice.slicePlaces ((n : Int) - 1) (-1) (-1) = n := by
  unfold Builtin.Slice.slicePlaces
  have h1 : ¬ (-1 : Int) > 0 := by decide
  simp only [h1, if_false]
  by_cases h : (n : Int) - 1 > -1
  · simp only [h, if_true]
    have e : ((n : Int) - 1 - -1 - 1) / -(-1) = (n : Int) - 1 := by
      rw [show (- -1 : Int) = 1 by decide, Int.ediv_one]; omega
    first
    | (rw [e]; omega)
    | (simp; omega)
  · have e : n = 0 := by omega
    subst e
    simp
theorem applied_rev {sl : Addr} {vs : Value} {n : Nat} {Q : Int × Int × Nat → Shared → Prop} (hs : s.heap.IsSliceOf sl .none .none vs) (ps : IsPart vs (some (-1)))
    (h : Q ((n : Int) - 1, -1, n) s) : wpAny (model prog w) A (Builtin.Slice.sliceApplied (.ref sl) (pure (n : Int))) Q E s := by
  obtain ⟨os, hos, hcs, hds⟩ := id hs
  unfold Builtin.Slice.sliceApplied Builtin.Slice.sliceFields
  refine wpAny_bind (wpAny_bind (wpAny_field hos hds (x := .none) rfl (wpAny_bind (wpAny_field hos hds (x := .none) rfl (wpAny_bind (wpAny_field hos hds (x := vs) rfl (wpAny_pure ?_)))))))
  refine wpAny_bind (slicePart_ ps ?_)
  show wpAny _ _ (if ((-1 : Int) == 0) = true then _ else _) _ _ s
  rw [if_neg (by decide)]
  refine wpAny_bind (slicePart_none (wpAny_bind (slicePart_none (wpAny_bind (wpAny_pure ?_)))))
  show wpAny _ _ (match Builtin.Slice.sliceAdjust none none (-1) (n : Int) with | (lo, hi) => pure (lo, (-1 : Int), Builtin.Slice.slicePlaces lo hi (-1))) _ _ s
  rw [adjust_rev n]
  show wpAny _ _ (pure ((n : Int) - 1, (-1 : Int), Builtin.Slice.slicePlaces ((n : Int) - 1) (-1) (-1))) _ _ s
  rw [places_rev]
  exact wpAny_pure h
theorem fm_congr {α β : Type} {f g : α → Option β} : ∀ {l : List α}, (∀ m ∈ l, f m = g m) → l.filterMap f = l.filterMap g
  | [], _ => rfl
  | a :: l, h => by
    rw [List.filterMap_cons, List.filterMap_cons, h a List.mem_cons_self, fm_congr fun m hm => h m (List.mem_cons_of_mem _ hm)]
theorem pick_rev (xs : Array Value) : ((List.range xs.size).filterMap fun (m : Nat) => xs[(((xs.size : Int) - 1) + (m : Int) * (-1)).toNat]?).toArray = xs.toList.reverse.toArray := by
  have e : (List.range xs.size).filterMap (fun (m : Nat) => xs[(((xs.size : Int) - 1) + (m : Int) * (-1)).toNat]?) = (List.range xs.size).filterMap fun m => xs[xs.size - 1 - m]? := by
    refine fm_congr fun m hm => ?_
    have := List.mem_range.mp hm
    have e : (((xs.size : Int) - 1) + (m : Int) * (-1)).toNat = xs.size - 1 - m := by omega
    rw [e]
  rw [e]
  have e2 : (List.range xs.size).filterMap (fun m => xs[xs.size - 1 - m]?) = ((List.range xs.size).map fun k => xs.size - 1 - k).filterMap (xs[·]?) := by
    rw [List.filterMap_map]; rfl
  rw [e2, PySem.W.krv_range, List.filterMap_reverse, PySem.W.krv_all]
theorem getItem_tuple_rev {t sl : Addr} {items : Array Value} {vs : Value} {Q : Value → Shared → Prop} (ht : IsTup s.heap t items) (hs : s.heap.IsSliceOf sl .none .none vs) (ps : IsPart vs (some (-1)))
    (h : Q (.ref s.heap.objs.size) { s with heap := s.heap.push { cls := .type "tuple", data := .seq items.toList.reverse.toArray } })
    (hsz : items.size ≤ sizeLine) : wpAny (model prog w) A (getItem (.ref t) (.ref sl)) Q E s := by
  have htake : sizeOk (.seq items.toList.reverse.toArray) := by
    show items.toList.reverse.toArray.size ≤ sizeLine
    rw [List.size_toArray, List.length_reverse, Array.length_toList]
    omega
  obtain ⟨os, hos, hcs, hds⟩ := id hs
  have hTs : s.TypeIs (.ref sl) "slice" := ⟨os, hos, hcs⟩
  unfold getItem
  try with_reducible refine wpAny_holding ?_
  first | refine wpAny_bind (wpAny_pure ?_) | skip
  refine wpAny_bind (wpAny_sequenceKey ht.typeIs (by decide) ?_)
  refine wpAny_bind (wpAny_callSpecial?_slot (name := Str.ofString "__getitem__") ht.typeIs PyProof.Rows.slot_tuple_getitem
    (wpAny_call_entry PyProof.Rows.slot_tuple_getitem ht.typeIs entry_tuple_getitem ?_ (args_tuple_getitem _ _)))
  show wpAny _ _ (Builtin.Tuple.tupleItemsOf (.ref t) >>= _) _ _ s
  refine wpAny_bind (tupleItemsOf_ ht ?_)
  refine wpAny_bind (wpAny_typeOf hTs ?_)
  rw [if_pos (by decide)]
  refine wpAny_bind (applied_rev hs ps ?_)
  have hno : ¬ (((((items.size : Int) - 1) == 0) && (-1 : Int) == 1 && items.size == items.size) = true) := by simp
  show wpAny _ _ (if (((((items.size : Int) - 1) == 0) && (-1 : Int) == 1 && items.size == items.size) = true) then _ else _) _ _ s
  rw [if_neg hno, pick_rev]
  first
    | exact wpAny_bind (m := Builtin.Tuple.tupleExact _) (wpAny_newObj_type (wpAny_pure ⟨_, rfl, wpAny_pure h⟩) htake)
    | exact wpAny_bind (m := Builtin.Tuple.tupleExact _) (wpAny_newObj_type (wpAny_bind (wpAny_pure (wpAny_pure ⟨_, rfl, wpAny_pure h⟩))) htake)
    | exact wpAny_bind (wpAny_bind (m := Builtin.Tuple.tupleExact _) (wpAny_newObj_type (wpAny_pure (wpAny_pure ⟨_, rfl, wpAny_pure h⟩)) htake))
    | exact wpAny_bind (wpAny_bind (m := Builtin.Tuple.tupleExact _) (wpAny_newObj_type (wpAny_pure ⟨_, rfl, wpAny_pure h⟩) htake))
end
end HT
namespace FX
open PySem PySem.Spec PyProof.Rows L2 DL
/-- xs[::-1], a list or a tuple -/
def tRevA (K : PySem.W.Frag) (te : TE) : TE := fun σ H Q => te σ H fun x H1 => (∃ a xs, x = .ref a ∧ SqL K H1 a xs ∧ ∀ p, H1 p = none → Q (.ref p) (upd H1 p (.lst xs.reverse))) ∨ (∃ a xs, x = .ref a ∧ SqT K H1 a xs ∧ ∀ p, H1 p = none → Q (.ref p) (upd H1 p (.tup xs.reverse)))
theorem k_rev {X : Cx} (K : PySem.W.Frag) (hK : X.K = K) {e : Expr} {te : TE} {k : Nat} {p1 p2 p3 pos : Pos} (he : PE X e te) : PE X (.Subscript e (.Slice none none (some (.UnaryOp .USub (.Constant (.int 1) k p1) p2)) p3) pos) (tRevA K te) := by
  subst hK
  refine ⟨fun pins s σ H Q I h => ?_⟩
  refine Subscript_ (thn (he.run pins s σ H _ I h) fun v s1 ⟨x, H1, I1, r1, q1⟩ => ?_)
  have hst : PO X (some (.UnaryOp .USub (.Constant (.int 1) k p1) p2)) (tPart (tUn (rU fun i => .int (-i)) (tC (.int 1)))) := po_some (pe_un un_neg pe_int)
  refine wpAny_Slice (thn (po_none.run pins s1 σ H1 (fun o H2 => o = none ∧ H2 = H1) I1 ⟨rfl, rfl⟩) fun vl s2 ⟨l, H2, I2, pl, el, e2⟩ => ?_)
  subst el e2
  refine thn (po_none.run pins s2 σ H2 (fun o H3 => o = none ∧ H3 = H2) I2 ⟨rfl, rfl⟩) fun vu s3 ⟨u, H3, I3, pu, eu, e3⟩ => ?_
  subst eu e3
  refine thn (hst.run pins s3 σ H3 (fun o H4 => o = some (-1) ∧ H4 = H3) I3 ⟨1, rfl, -1, rfl, rfl, rfl⟩) fun vs s4 ⟨o, H4, I4, ps, eo, e4⟩ => ?_
  subst eo e4
  have I5 : Inv X pins σ H4 { s4 with heap := s4.heap.push { cls := .type "slice", data := .fields #[vl, vu, vs] } } := I4.kept (t' := s4.toks) fun b ob q => Heap.get?_push_of_some _ q
  rcases q1 with ⟨a, xs, ex, hx, q⟩ | ⟨a, xs, ex, hx, q⟩
  · subst ex
    cases r1
    obtain ⟨its, r, ht, hz⟩ := I5.list hx
    have hlen := r.length
    show wpAny (model X.prog X.w) X.A (subscriptTail e (.Slice none none (some (.UnaryOp .USub (.Constant (.int 1) k p1) p2)) p3) (.ref a) (.ref s4.heap.objs.size)) (EP X pins σ Q) X.xe { s4 with heap := s4.heap.push { cls := .type "slice", data := .fields #[vl, vu, vs] } }
    refine tail_any (ops := [.ref a, .ref s4.heap.objs.size]) ht.isList.typeIs (PySem.slot_list_getitem.lookup) ?_ (by with_unfolding_all rfl)
    refine wpAny_getItem_list_slice ht.isList (Heap.IsSliceOf.new _ vl vu vs) pl pu ps (by decide) ?_ (by rw [List.size_toArray]; omega)
    rw [PySem.W.krv_pick]
    refine ⟨.ref _, _, I5.laid (t' := s4.toks) (o := .lst xs.reverse) (fun b ob q => Heap.get?_push_of_some _ q) (Nat.le_refl _) ?_, rfl, q _ (I5.hok.fresh (Nat.le_refl _))⟩
    exact ⟨by rw [List.length_reverse]; exact hz, _, 0, r.reverse, Heap.get?_push_size _ rfl⟩
  · subst ex
    cases r1
    obtain ⟨its, r, ht, hz⟩ := I5.tuple hx
    have hlen := r.length
    cases pl
    cases pu
    show wpAny (model X.prog X.w) X.A (subscriptTail e (.Slice none none (some (.UnaryOp .USub (.Constant (.int 1) k p1) p2)) p3) (.ref a) (.ref s4.heap.objs.size)) (EP X pins σ Q) X.xe { s4 with heap := s4.heap.push { cls := .type "slice", data := .fields #[.none, .none, vs] } }
    refine tail_any (ops := [.ref a, .ref s4.heap.objs.size]) ht.typeIs (PyProof.Rows.slot_tuple_getitem.lookup) ?_ (by with_unfolding_all rfl)
    refine HT.getItem_tuple_rev ht (Heap.IsSliceOf.new _ .none .none vs) ps ?_ (by rw [List.size_toArray]; omega)
    refine ⟨.ref _, _, I5.laid (t' := s4.toks) (o := .tup xs.reverse) (fun b ob q => Heap.get?_push_of_some _ q) (Nat.le_refl _) ?_, rfl, q _ (I5.hok.fresh (Nat.le_refl _))⟩
    exact ⟨by rw [List.length_reverse]; exact hz, _, r.reverse, IsTup.new _ _⟩
def xRev (a : XE) : XE where
  t K W := tRevA K (a.t K W)
  ev ρ μ := bnd (a.ev ρ μ) fun x μ1 => match x with
    | .d (.lst xs) => some (.v (.d (.lst xs.reverse)) μ1)
    | .d (.tup xs) => some (.v (.d (.tup xs.reverse)) μ1)
    | _ => none
  ok {K W ρ μ x μ'} h := by
    obtain ⟨x, μ1, h1, h⟩ := bnd_v_inv h
    split at h
    · cases h
      exact fun α Z σ H ok sl Q k => a.ok h1 α Z σ H ok sl _ fun v H1 e1 ok1 r1 => by
        cases r1 with
        | d r1 => cases r1 with
          | lst n q r => exact .inl ⟨_, _, rfl, SqL.of q, fun p hp => k _ _ (e1.trans (Ext.new hp)) (ok1.laid hp) (.d (.lst (ok1.w.off hp) upd_same (r.reverse.gr ok1.w (.of_ext (Ext.new hp)))))⟩
    · cases h
      exact fun α Z σ H ok sl Q k => a.ok h1 α Z σ H ok sl _ fun v H1 e1 ok1 r1 => by
        cases r1 with
        | d r1 => cases r1 with
          | tup n q r => exact .inr ⟨_, _, rfl, SqT.of q, fun p hp => k _ _ (e1.trans (Ext.new hp)) (ok1.laid hp) (.d (.tup (ok1.w.off hp) upd_same (r.reverse.gr ok1.w (.of_ext (Ext.new hp)))))⟩
    · cases h
  ex h := by
    rcases bnd_x_inv h with h1 | ⟨x, μ1, h1, h⟩
    · exact fun α Z σ H ok sl Q k => a.ex h1 α Z σ H ok sl _ k
    split at h <;> cases h
/-! ### calls that read cells -/
/-- nothing within that could change -/
def stillD : Nat → D → Bool
  | _, .non | _, .bl _ | _, .int _ | _, .str _ => true
  | n + 1, .tup xs => xs.all (stillD n)
  | _, _ => false
mutual
theorem Rp.unthaw {K : PySem.W.Frag} {Z Z' T : List Addr} {H : Hp} (hZ : ∀ z ∈ Z, z ∈ Z' ∨ z ∈ T) (hT : ∀ a ∈ T, ∃ vs, H a = some (.lst vs)) : ∀ {n : Nat} {v : V} {d : D}, stillD n d = true → Rp K Z' H v d → Rp K Z H v d
  | _, _, .non, _, .non => .non
  | _, _, .bl _, _, .bl _ => .bl _
  | _, _, .int _, _, .int _ => .int _
  | _, _, .str _, _, .str _ => .str _
  | n + 1, _, .tup _, h, .tup na q r => .tup (fun z => by
      rcases hZ _ z with e | e
      · exact na e
      · obtain ⟨vs, e2⟩ := hT _ e
        rw [q] at e2; cases e2) q (RpA.unthaw hZ hT (by simpa only [stillD] using h) r)
  | 0, _, .tup _, h, _ => by simp [stillD] at h
  | 0, _, .lst _, h, _ => by simp [stillD] at h
  | 0, _, .dct _, h, _ => by simp [stillD] at h
  | 0, _, .fz _, h, _ => by simp [stillD] at h
  | 0, _, .raw _, h, _ => by simp [stillD] at h
  | 0, _, .ins _ _, h, _ => by simp [stillD] at h
  | 0, _, .exc _ _ _ _, h, _ => by simp [stillD] at h
  | _ + 1, _, .lst _, h, _ => by simp [stillD] at h
  | _ + 1, _, .dct _, h, _ => by simp [stillD] at h
  | _ + 1, _, .fz _, h, _ => by simp [stillD] at h
  | _ + 1, _, .raw _, h, _ => by simp [stillD] at h
  | _ + 1, _, .ins _ _, h, _ => by simp [stillD] at h
  | _ + 1, _, .exc _ _ _ _, h, _ => by simp [stillD] at h
theorem RpA.unthaw {K : PySem.W.Frag} {Z Z' T : List Addr} {H : Hp} (hZ : ∀ z ∈ Z, z ∈ Z' ∨ z ∈ T) (hT : ∀ a ∈ T, ∃ vs, H a = some (.lst vs)) : ∀ {n : Nat} {vs : List V} {ds : List D}, ds.all (stillD n) = true → RpA K Z' H vs ds → RpA K Z H vs ds
  | _, _, _, _, .nil => .nil
  | n, _, d :: ds, h, .cons a r => .cons (Rp.unthaw hZ hT (by simp only [List.all_cons, Bool.and_eq_true] at h; exact h.1) a) (RpA.unthaw hZ hT (by simp only [List.all_cons, Bool.and_eq_true] at h; exact h.2) r)
end
/-- the addresses of the cells among values -/
def cellAddrs (α : List Addr) : List AV → List Addr
  | [] => []
  | .d _ :: r => cellAddrs α r
  | .cell k :: r => α.getD k 0 :: cellAddrs α r
theorem Thaws.rpZ {K : PySem.W.Frag} {α Z Z' : List Addr} {H : Hp} {μ : List CC} (ok : Okay K α Z H μ) (sub : ∀ z ∈ Z', z ∈ Z) : ∀ {xs : List AV} {ds : List D} {vs : List V}, (∀ a ∈ cellAddrs α xs, a ∉ Z') → Thaws μ xs ds → RpVs K α Z H vs xs → RpVs K [] Z' H vs (ds.map .d)
  | _, _, _, _, .nil, .nil => .nil
  | .d _ :: xs, _, _, h, .cons (.d _) ts, .cons (.d r) rs => .cons (.d (r.weak sub)) (Thaws.rpZ (xs := xs) ok sub h ts rs)
  | .cell k :: xs, _, _, h, .cons (.lst hk) ts, .cons (.cell ha) rs => .cons (.d (by
      obtain ⟨vs, h1, h2⟩ := ok.c.at_ _ _ _ ha hk
      refine .lst (fun z => h _ ?_ z) h1 ((RpVs.to_data h2).weak sub)
      unfold cellAddrs
      rw [getD_some ha]; exact List.mem_cons_self)) (Thaws.rpZ ok sub (fun a q => h a (by unfold cellAddrs; exact List.mem_cons_of_mem _ q)) ts rs)
def outVT : Option (Out × List CC) → List CC → Option (Rs AV)
  | some (.ret (.d d), []), μ => if stillD 20 d = true then some (.v (.d d) μ) else none
  | some (.new xs, []), μ => if xs.all (stillD 20) = true then some (.v (.d (.lst xs)) μ) else none
  | _, _ => none
def outNT : Option (Out × List CC) → List CC → Option (Rs (List AV))
  | some (.new xs, []), μ => if xs.all (stillD 20) = true then some (.v (xs.map .d) μ) else none
  | _, _ => none
theorem thaw_call {K : PySem.W.Frag} {F : Fn} {args : List AV} {ds : List D} {μ : List CC} {α Z : List Addr} {H : Hp} {vs : List V} {Q : VK} {E : XK} {o : Out} (ht : thaws args μ = some ds) (h : F (ds.map .d) [] = some (o, [])) (ok : Okay K α Z H μ) (rv : RpVs K α Z H vs args)
    (hr : ∀ d v H', o = .ret (.d d) → Ext [] H H' → (∀ n, stillD n d = true → Rp K Z H' v d) → Q v H') (hc : ∀ k, o ≠ .ret (.cell k)) (hx : ∀ c fs, o ≠ .exc c fs)
    (hn : ∀ xs p vs H', o = .new xs → Ext [] H H' → H p = none → H' p = some (.lst vs) → (∀ n, xs.all (stillD n) = true → RpA K (p :: Z) H' vs xs) → Q (.ref p) H') : SpR K (gr F) vs H Q E := by
  have tt := thaws_inv ht
  let T := cellAddrs α args
  let Z' := Z.filter fun z => decide (z ∉ T)
  have sub : ∀ z ∈ Z', z ∈ Z := fun z hz => (List.mem_filter.mp hz).1
  have out : ∀ a ∈ T, a ∉ Z' := fun a ha hz => by
    have := (List.mem_filter.mp hz).2
    simp only [decide_eq_true_eq] at this
    exact this ha
  have hZ : ∀ z ∈ Z, z ∈ Z' ∨ z ∈ T := fun z hz => by
    by_cases e : z ∈ T
    · exact .inr e
    · exact .inl (List.mem_filter.mpr ⟨hz, by simpa using e⟩)
  have hT : ∀ a ∈ T, ∃ vs, H a = some (.lst vs) := by
    have go : ∀ (xs : List AV) (es : List D) (us : List V), Thaws μ xs es → RpVs K α Z H us xs → ∀ a ∈ cellAddrs α xs, ∃ vs, H a = some (.lst vs) := by
      intro xs
      induction xs with
      | nil => intro _ _ _ _ a ha; cases ha
      | cons x xs ih =>
        intro es us t r a ha
        cases t with
        | cons t ts =>
          cases r with
          | cons r rs =>
            cases t with
            | d => exact ih _ _ ts rs a ha
            | lst hk =>
              cases r with
              | cell hα =>
                rcases List.mem_cons.mp ha with e | e
                · obtain ⟨vs, h1, _⟩ := ok.c.at_ _ _ _ hα hk
                  rw [getD_some hα] at e
                  exact ⟨vs, e ▸ h1⟩
                · exact ih _ _ ts rs a e
    exact go _ _ _ tt rv
  have w0 : Okay K [] Z' H [] := ⟨⟨.nil, fun a h => absurd h List.not_mem_nil, fun z hz => ok.w.there z (sub z hz)⟩, ⟨rfl, fun k a c h => by simp at h⟩⟩
  refine ⟨[], Z', _, [], o, [], w0, Thaws.rpZ ok sub out tt rv, h, fun r v H' e ex ok' rv' => ?_, fun c fs d H' e => absurd e (hx c fs), fun xs p ws H' e ex hp hv ok' ra => ?_⟩
  · cases r with
    | cell k => exact absurd e (hc k)
    | d d =>
      refine hr d v H' e ex fun n hs => ?_
      cases rv' with
      | d rv' => exact Rp.unthaw hZ (fun a ha => by obtain ⟨vs, q⟩ := hT a ha; exact ⟨vs, ex a List.not_mem_nil _ q⟩) hs rv'
  · refine hn xs p ws H' e ex hp hv fun n hs => ?_
    exact RpA.unthaw (Z' := p :: Z') (T := T) (fun z hz => by
      rcases List.mem_cons.mp hz with q | q
      · exact .inl (q ▸ List.mem_cons_self)
      · rcases hZ z q with q | q
        · exact .inl (List.mem_cons_of_mem _ q)
        · exact .inr q) (fun a ha => by obtain ⟨vs, q⟩ := hT a ha; exact ⟨vs, ex a List.not_mem_nil _ q⟩) hs ra
def callT (F : Fn) (args : List AV) (μ : List CC) : Option (Out × List CC) := match thaws args μ with
  | some ds => F (ds.map .d) []
  | none => none
theorem outVT_inv {F : Fn} {args : List AV} {μ μ' : List CC} {x : AV} (h : outVT (callT F args μ) μ = some (.v x μ')) : μ' = μ ∧ ∃ ds o, thaws args μ = some ds ∧ F (ds.map .d) [] = some (o, []) ∧ ((∃ d, o = .ret (.d d) ∧ x = .d d ∧ stillD 20 d = true) ∨ ∃ xs, o = .new xs ∧ x = .d (.lst xs) ∧ xs.all (stillD 20) = true) := by
  unfold callT at h
  cases ht : thaws args μ with
  | none => rw [ht] at h; cases h
  | some ds =>
    rw [ht] at h
    simp only at h
    cases hF : F (ds.map .d) [] with
    | none => rw [hF] at h; cases h
    | some p =>
      obtain ⟨o, m⟩ := p
      rw [hF] at h
      unfold outVT at h
      split at h
      · rename_i e
        cases e
        split at h
        · cases h; exact ⟨rfl, ds, _, rfl, hF, .inl ⟨_, rfl, rfl, by assumption⟩⟩
        · cases h
      · rename_i e
        cases e
        split at h
        · cases h; exact ⟨rfl, ds, _, rfl, hF, .inr ⟨_, rfl, rfl, by assumption⟩⟩
        · cases h
      · cases h
theorem outNT_inv {F : Fn} {args : List AV} {μ μ' : List CC} {x : List AV} (h : outNT (callT F args μ) μ = some (.v x μ')) : μ' = μ ∧ ∃ ds xs, thaws args μ = some ds ∧ F (ds.map .d) [] = some (.new xs, []) ∧ x = xs.map .d ∧ xs.all (stillD 20) = true := by
  unfold callT at h
  cases ht : thaws args μ with
  | none => rw [ht] at h; cases h
  | some ds =>
    rw [ht] at h
    simp only at h
    cases hF : F (ds.map .d) [] with
    | none => rw [hF] at h; cases h
    | some p =>
      obtain ⟨o, m⟩ := p
      rw [hF] at h
      unfold outNT at h
      split at h
      · rename_i e
        cases e
        split at h
        · cases h; exact ⟨rfl, ds, _, rfl, hF, rfl, by assumption⟩
        · cases h
      · cases h
theorem outVT_x {F : Fn} {args : List AV} {μ μ' : List CC} {c : Value} {fs : List (Str × D)} (h : outVT (callT F args μ) μ = some (.x c fs μ')) : False := by
  unfold outVT at h
  split at h
  · split at h <;> cases h
  · split at h <;> cases h
  · cases h
theorem outNT_x {F : Fn} {args : List AV} {μ μ' : List CC} {c : Value} {fs : List (Str × D)} (h : outNT (callT F args μ) μ = some (.x c fs μ')) : False := by
  unfold outNT at h
  split at h
  · split at h <;> cases h
  · cases h
/-- f(a, ..), cells among the arguments read as data -/
def xCallT (F : Fn) (a : XA) : XE where
  t K W := tCl (SpR K (gr F)) [] W (a.t K W)
  ev ρ μ := bnd (a.ev ρ μ) fun xs μ1 => outVT (callT F xs μ1) μ1
  ok h := by
    obtain ⟨xs, μ1, h1, h⟩ := bnd_v_inv h
    obtain ⟨rfl, ds, o, ht, hF, hh⟩ := outVT_inv h
    exact fun α Z σ H ok sl Q k => a.ok h1 α Z σ H ok sl _ fun vs H1 e1 ok1 r1 => by
      rw [List.append_nil]
      refine thaw_call ht hF ok1 r1 (fun d v H' e ex hp => ?_) (fun k' e => ?_) (fun c fs e => ?_) fun xs p ws H' e ex hp hv ra => ?_
      · rcases hh with ⟨d', rfl, rfl, hs⟩ | ⟨xs, rfl, rfl, hs⟩
        · cases e; exact k v H' (e1.trans ex.nil_any) (ok1.still ex) (.d (hp 20 hs))
        · cases e
      · rcases hh with ⟨d', rfl, rfl, hs⟩ | ⟨xs, rfl, rfl, hs⟩ <;> cases e
      · rcases hh with ⟨d', rfl, rfl, hs⟩ | ⟨xs, rfl, rfl, hs⟩ <;> cases e
      · rcases hh with ⟨d', rfl, rfl, hs⟩ | ⟨xs, rfl, rfl, hs⟩
        · cases e
        · cases e
          exact k _ H' (e1.trans ex.nil_any) (ok1.still ex) (.d (.lst (ok1.w.off hp) hv (RpA.weak (fun a ha => List.mem_cons_of_mem _ ha) (ra 20 hs))))
  ex h := by
    rcases bnd_x_inv h with h1 | ⟨xs, μ1, h1, h⟩
    · exact fun α Z σ H ok sl Q k => a.ex h1 α Z σ H ok sl _ k
    · exact (outVT_x h).elim
def xCallTN (F : Fn) (a : XA) : XN where
  t K W := tCl (SpR K (gr F)) [] W (a.t K W)
  ev ρ μ := bnd (a.ev ρ μ) fun xs μ1 => outNT (callT F xs μ1) μ1
  ok h := by
    obtain ⟨xs, μ1, h1, h⟩ := bnd_v_inv h
    obtain ⟨rfl, ds, ys, ht, hF, rfl, hs⟩ := outNT_inv h
    exact fun α Z σ H ok sl Q k => a.ok h1 α Z σ H ok sl _ fun vs H1 e1 ok1 r1 => by
      rw [List.append_nil]
      refine thaw_call ht hF ok1 r1 (fun d v H' e ex hp => by cases e) (fun k' e => by cases e) (fun c fs e => by cases e) fun xs p ws H' e ex hp hv ra => ?_
      cases e
      exact k p ws H' (e1.trans ex.nil_any) (none_back (fun q => ok1.w.off hp (ok.w.sub p q)) e1 hp) hv (ok1.keepOff hp ex ⟨_, hv⟩) (.of_data (ra 20 hs))
  ex h := by
    rcases bnd_x_inv h with h1 | ⟨xs, μ1, h1, h⟩
    · exact fun α Z σ H ok sl Q k => a.ex h1 α Z σ H ok sl _ k
    · exact (outNT_x h).elim
end FX

set_option Elab.async false
set_option linter.all false
set_option maxRecDepth 100000
set_option maxHeartbeats 4000000
/-! FX6: list(range(n)), xs.index(e), a def held by a name; errors caught. -/
namespace FX
open PySem PySem.Spec PyProof.Rows L2 DL
/-- list(range(n)) -/
def xLRg1 (a : XE) : XN where
  t K W := tLstRg (tRg1 (a.t K W))
  ev ρ μ := bnd (a.ev ρ μ) fun x μ1 => match x with
    | .d (.int j) => if 0 ≤ j ∧ j ≤ 100000 then some (.v ((rangeL 0 j.toNat).map .d) μ1) else none
    | _ => none
  ok h := by
    obtain ⟨x, μ1, h1, h⟩ := bnd_v_inv h
    split at h
    · split at h
      · rename_i q; cases h; exact en_listRg1 (a.ok h1) q.1 q.2
      · cases h
    · cases h
  ex h := by
    rcases bnd_x_inv h with h1 | ⟨x, μ1, h1, h⟩
    · exact fun α Z σ H ok sl Q k => a.ex h1 α Z σ H ok sl _ k
    split at h
    · split at h <;> cases h
    · cases h
/-- f(..), f a name that holds a def -/
def xCallL (i : Nat) (fv : Addr) (F : Fn) (a : XA) : XE where
  t K W := tClL i fv (SpR K (gr F)) W (a.t K W)
  ev ρ μ := match ρ[i]?.join with
    | some (.d (.raw (.ref g))) => if g = fv then bnd (a.ev ρ μ) fun xs μ1 => outV (callM F (xs ++ List.map .d []) μ1) else none
    | _ => none
  ok {K W ρ μ x μ'} h := by
    split at h
    · rename_i g q
      split at h
      · rename_i e; subst e
        exact ev_clL (join_some q) ((xCallD F a [] [] fun _ _ _ => .nil).ok h)
      · cases h
    · cases h
  ex {K W ρ μ c fs μ'} h := by
    split at h
    · rename_i g q
      split at h
      · rename_i e; subst e
        intro α Z σ H ok sl Q k
        obtain ⟨v, q1, q2⟩ := sl.at_ i _ (join_some q)
        cases q2 with
        | d q2 => cases q2; exact ⟨q1, (xCallD F a [] [] fun _ _ _ => .nil).ex h α Z σ H ok sl Q k⟩
      · cases h
    · cases h
end FX

set_option Elab.async false
set_option linter.all false
set_option maxRecDepth 100000
set_option maxHeartbeats 4000000
/-! FX7: the reckoner's equations. -/
namespace FX
open PySem PySem.Spec PyProof.Rows L2 DL
section
variable {ρ : Slots} {μ : List CC} {a b c : XE} {o o' : XR} {t u : XT} {s r : XS} {n m : XN} {as bs : XA} {it : XI} {g : XG} {gs : XGs} {lo hi : XO} {i j l : Nat} {F : Fn} {C : Addr} {ks vs : List Nat} {x : AV} {xs : List AV}
theorem e_xVar : (xVar i).ev ρ μ = lft (ρ[i]?.join) μ := rfl
theorem e_xC {v : V} {d : D} {h : _} : (xC v d h).ev ρ μ = some (.v (.d d) μ) := rfl
theorem e_xInt {z : Int} : (xInt z).ev ρ μ = some (.v (.d (.int z)) μ) := rfl
theorem e_xBl {z : Bool} : (xBl z).ev ρ μ = some (.v (.d (.bl z)) μ) := rfl
theorem e_xStr {z : Str} : (xStr z).ev ρ μ = some (.v (.d (.str z)) μ) := rfl
theorem e_xNon : xNon.ev ρ μ = some (.v (.d .non) μ) := rfl
theorem e_xRaw {z : V} : (xRaw z).ev ρ μ = some (.v (.d (.raw z)) μ) := rfl
theorem e_xOp : (xOp o a b).ev ρ μ = bnd (a.ev ρ μ) fun x μ1 => bnd (b.ev ρ μ1) fun y μ2 => lft (o.f x y μ2) μ2 := rfl
theorem e_xOpN {on : XRN} : (xOpN on a b).ev ρ μ = bnd (a.ev ρ μ) fun x μ1 => bnd (b.ev ρ μ1) fun y μ2 => lft (on.f x y μ2) μ2 := rfl
theorem e_xUn {un : XU} : (xUn un a).ev ρ μ = bnd (a.ev ρ μ) fun x μ1 => lft (un.f x μ1) μ1 := rfl
theorem e_xNil : xNil.ev ρ μ = some (.v [] μ) := rfl
theorem e_xCons : (xCons a as).ev ρ μ = bnd (a.ev ρ μ) fun x μ1 => bnd (as.ev ρ μ1) fun xs μ2 => some (.v (x :: xs) μ2) := rfl
theorem e_xStar : (xStar a as).ev ρ μ = bnd (a.ev ρ μ) fun x μ1 => match x with | .d (.tup xs) => bnd (as.ev ρ μ1) fun ys μ2 => some (.v (xs.map .d ++ ys) μ2) | .d (.lst xs) => bnd (as.ev ρ μ1) fun ys μ2 => some (.v (xs.map .d ++ ys) μ2) | _ => none := rfl
theorem e_xCB {cb : XC} : (xCB cb as).ev ρ μ = bnd (as.ev ρ μ) fun x μ1 => lft (cb.f x μ1) μ1 := rfl
theorem e_xCBN {cb : XCN} : (xCBN cb as).ev ρ μ = bnd (as.ev ρ μ) fun x μ1 => lft (cb.f x μ1) μ1 := rfl
theorem e_xDat : (xDat n).ev ρ μ = bnd (n.ev ρ μ) fun xs μ1 => match toD xs with | some ds => some (.v (.d (.lst ds)) μ1) | none => none := rfl
theorem e_xTup : (xTup as).ev ρ μ = bnd (as.ev ρ μ) fun xs μ1 => match toD xs with | some ds => if ds.length ≤ 100000 then some (.v (.d (.tup ds)) μ1) else none | none => none := rfl
theorem e_xLst : (xLst as).ev ρ μ = bnd (as.ev ρ μ) fun xs μ1 => if xs.length ≤ 100000 then some (.v xs μ1) else none := rfl
theorem e_xTest : (xTest a).ev ρ μ = bnd (a.ev ρ μ) fun x μ1 => lft (asB x) μ1 := rfl
theorem e_xB : (xB a).ev ρ μ = bnd (a.ev ρ μ) fun x μ1 => lft (asB x) μ1 := rfl
theorem e_xYes : xYes.ev ρ μ = some (.v true μ) := rfl
theorem e_xNot : (xNot t).ev ρ μ = bnd (t.ev ρ μ) fun x μ1 => some (.v (!x) μ1) := rfl
theorem e_xAnd : (xAnd t u).ev ρ μ = bnd (t.ev ρ μ) fun x μ1 => if x = true then u.ev ρ μ1 else some (.v false μ1) := rfl
theorem e_xOr : (xOr t u).ev ρ μ = bnd (t.ev ρ μ) fun x μ1 => if x = true then some (.v true μ1) else u.ev ρ μ1 := rfl
theorem e_xAndV : (xAndV a b).ev ρ μ = bnd (a.ev ρ μ) fun x μ1 => andR (asB x) (b.ev ρ μ1) μ1 := rfl
theorem e_xOrV : (xOrV a b).ev ρ μ = bnd (a.ev ρ μ) fun x μ1 => orR (asB x) (b.ev ρ μ1) μ1 := rfl
theorem e_xNotV : (xNotV a).ev ρ μ = bnd (a.ev ρ μ) fun x μ1 => match asB x with | some b => some (.v (.d (.bl (!b))) μ1) | none => none := rfl
theorem e_xIf : (xIf t a b).ev ρ μ = bnd (t.ev ρ μ) fun x μ1 => if x = true then a.ev ρ μ1 else b.ev ρ μ1 := rfl
theorem e_xChain : (xChain o o' a b c).ev ρ μ = bnd (a.ev ρ μ) fun x μ1 => bnd (b.ev ρ μ1) fun y μ2 => match (o.f x y μ2).bind asB with | some true => bnd (c.ev ρ μ2) fun z μ3 => lft (o'.f y z μ3) μ3 | some false => some (.v (.d (.bl false)) μ2) | none => none := rfl
theorem e_xONone : xONone.ev ρ μ = some (.v none μ) := rfl
theorem e_xOSome : (xOSome a).ev ρ μ = bnd (a.ev ρ μ) fun x μ1 => lft (asI x) μ1 := rfl
theorem e_xSl : (xSl a lo hi).ev ρ μ = bnd (a.ev ρ μ) fun x μ1 => bnd (lo.ev ρ μ1) fun l μ2 => bnd (hi.ev ρ μ2) fun h μ3 => match x with | .d (.lst xs) => some (.v (.d (.lst (DL.cutD xs l h))) μ3) | .d (.tup xs) => some (.v (.d (.tup (DL.cutD xs l h))) μ3) | _ => none := rfl
theorem e_xSlN : (xSlN a lo hi).ev ρ μ = bnd (a.ev ρ μ) fun x μ1 => bnd (lo.ev ρ μ1) fun l μ2 => bnd (hi.ev ρ μ2) fun h μ3 => match x with | .d (.lst xs) => some (.v ((DL.cutD xs l h).map .d) μ3) | .cell k => (match μ3[k]? with | some (.lst cs) => (match toD cs with | some ds => some (.v ((DL.cutD ds l h).map .d) μ3) | none => none) | _ => none) | _ => none := rfl
theorem e_xRev : (xRev a).ev ρ μ = bnd (a.ev ρ μ) fun x μ1 => match x with | .d (.lst xs) => some (.v (.d (.lst xs.reverse)) μ1) | .d (.tup xs) => some (.v (.d (.tup xs.reverse)) μ1) | _ => none := rfl
theorem e_xEach : (xEach a).ev ρ μ = bnd (a.ev ρ μ) fun x μ1 => match x with | .d (.lst xs) => some (.v (xs.map .d) μ1) | .d (.tup xs) => some (.v (xs.map .d) μ1) | .d (.str s) => some (.v (s.cps.toList.map fun c => .d (sgD c)) μ1) | _ => none := rfl
theorem e_xRng1 : (xRng1 as).ev ρ μ = bnd (as.ev ρ μ) fun x μ1 => match x with | [.d (.int j)] => if -100000 ≤ j ∧ j ≤ 100000 then some (.v ((rangeL 0 j.toNat).map .d) μ1) else none | _ => none := rfl
theorem e_xRng2 : (xRng2 as).ev ρ μ = bnd (as.ev ρ μ) fun x μ1 => match x with | [.d (.int i), .d (.int j)] => if (-100000 ≤ i ∧ i ≤ 100000) ∧ -100000 ≤ j ∧ j ≤ 100000 then some (.v ((rangeL i (j - i).toNat).map .d) μ1) else none | _ => none := rfl
theorem e_xEnum : (xEnum as).ev ρ μ = bnd (as.ev ρ μ) fun x μ1 => match x with | [.d (.lst xs)] => some (.v (enumD xs) μ1) | [.d (.tup xs)] => some (.v (enumD xs) μ1) | _ => none := rfl
theorem e_xZip : (xZip as).ev ρ μ = bnd (as.ev ρ μ) fun x μ1 => match x with | [.d (.lst xs), .d (.lst ys)] => some (.v ((xs.zip ys).map fun d => .d (.tup [d.1, d.2])) μ1) | _ => none := rfl
theorem e_xName : (xName i).ev x ρ = some (ρ.set i (some x)) := rfl
theorem e_xGNil : xGNil.ev [] ρ = some ρ := rfl
theorem e_xGCons : (xGCons g gs).ev (x :: xs) ρ = (match g.ev x ρ with | some ρ1 => gs.ev xs ρ1 | none => none) := rfl
theorem e_xGTup {ds : List D} : (xGTup i gs).ev (.d (.tup ds)) ρ = if ds.length = i then gs.ev (ds.map .d) ρ else none := rfl
theorem e_xLc {hv : ∀ j ∈ g.js, j ∈ vs} : (xLc it g t a vs hv).ev ρ μ = bnd (it.ev ρ μ) fun items μ1 => if items.length ≤ 100000 then (match runLc g.ev t.ev a.ev (wipeA ρ vs) items μ1 with | some (rs, μ2) => some (.v rs μ2) | none => none) else none := rfl
theorem e_xNext : xNext.ev ρ μ = some (.nx ρ μ) := rfl
theorem e_xBreak : xBreak.ev ρ μ = some (.bk ρ μ) := rfl
theorem e_xCont : xCont.ev ρ μ = some (.ct ρ μ) := rfl
theorem e_xSeq : (xSeq s r).ev ρ μ = thenC (s.ev ρ μ) r.ev := rfl
theorem e_xIfS : (xIfS t s r).ev ρ μ = fin ρ (t.ev ρ μ) fun x μ1 => if x = true then s.ev ρ μ1 else r.ev ρ μ1 := rfl
theorem e_xDrop : (xDrop a).ev ρ μ = fin ρ (a.ev ρ μ) fun _ μ1 => some (.nx ρ μ1) := rfl
theorem e_xRet : (xRet a).ev ρ μ = fin ρ (a.ev ρ μ) fun x μ1 => some (.rt x μ1) := rfl
theorem e_xRetN : xRetN.ev ρ μ = some (.rt (.d .non) μ) := rfl
theorem e_xRetL : (xRetL n).ev ρ μ = fin ρ (n.ev ρ μ) fun xs μ1 => some (.rt (.cell μ1.length) (μ1 ++ [.lst xs])) := rfl
theorem e_xAsg : (xAsg a g).ev ρ μ = fin ρ (a.ev ρ μ) fun x μ1 => match g.ev x ρ with | some ρ1 => some (.nx ρ1 μ1) | none => none := rfl
theorem e_xAsgN : (xAsgN n i).ev ρ μ = fin ρ (n.ev ρ μ) fun xs μ1 => some (.nx (ρ.set i (some (.cell μ1.length))) (μ1 ++ [.lst xs])) := rfl
theorem e_xAsgIfN : (xAsgIfN t n b i).ev ρ μ = fin ρ (t.ev ρ μ) fun x μ1 => if x = true then (fin ρ (n.ev ρ μ1) fun xs μ2 => some (.nx (ρ.set i (some (.cell μ2.length))) (μ2 ++ [.lst xs]))) else fin ρ (b.ev ρ μ1) fun y μ2 => some (.nx (ρ.set i (some y)) μ2) := rfl
theorem e_xAug {f : Int → Int → Int} : (xAug i a f).ev ρ μ = (match ρ[i]?.join with | some (.d (.int x)) => fin ρ (a.ev ρ μ) fun y μ1 => (match y with | .d (.int y) => some (.nx (ρ.set i (some (.d (.int (f x y))))) μ1) | _ => none) | _ => none) := rfl
theorem e_xMNil : xMNil.ev ρ μ = some (.v [] μ) := rfl
theorem e_xMCons {ms : XM} : (xMCons a ms).ev ρ μ = bnd (a.ev ρ μ) fun x μ1 => bnd (ms.ev ρ μ1) fun xs μ2 => some (.v (x :: xs) μ2) := rfl
theorem e_xMConsN {ms : XM} : (xMConsN n ms).ev ρ μ = bnd (n.ev ρ μ) fun x μ1 => bnd (ms.ev ρ (μ1 ++ [.lst x])) fun xs μ2 => some (.v (.cell μ1.length :: xs) μ2) := rfl
theorem e_xPar {ms : XM} : (xPar i j ms).ev ρ μ = (match ms.ev ρ μ with | some (.v [x, y] μ1) => some (.nx ((ρ.set i (some x)).set j (some y)) μ1) | _ => none) := rfl
theorem e_xPar3 {ms : XM} : (xPar3 i j l ms).ev ρ μ = (match ms.ev ρ μ with | some (.v [x, y, z] μ1) => some (.nx (((ρ.set i (some x)).set j (some y)).set l (some z)) μ1) | _ => none) := rfl
theorem e_xFor : (xFor it g ks s).ev ρ μ = fin ρ (it.ev ρ μ) fun items μ1 => runFor g.ev s.ev ks μ1.length items ρ μ1 := rfl
theorem e_xWhile : (xWhile i t ks s).ev ρ μ = runWhile t.ev s.ev ks μ.length i ρ μ := rfl
theorem e_xAppend : (xAppend i a).ev ρ μ = (match cellOf ρ[i]? with | none => none | some k => (match lstAt μ k with | none => none | some _ => bnd (a.ev ρ μ) fun x μ1 => (match lstAt μ1 k with | none => none | some cs => if cs.length ≤ 100000 then some (.v (.d .non) (μ1.set k (.lst (cs ++ [x])))) else none))) := rfl
theorem e_xPop : (xPop i).ev ρ μ = (match cellOf ρ[i]? with | none => none | some k => (match lstAt μ k with | none => none | some cs => (match cs[cs.length - 1]? with | none => none | some x => some (.v x (μ.set k (.lst cs.dropLast)))))) := rfl
theorem e_xPopAt : (xPopAt i a).ev ρ μ = (match cellOf ρ[i]? with | none => none | some k => (match lstAt μ k with | none => none | some _ => bnd (a.ev ρ μ) fun x μ1 => (match x with | .d (.int z) => if 0 ≤ z then (match lstAt μ1 k with | none => none | some cs => if cs.length ≤ 100000 then (match cs[z.toNat]? with | none => none | some y => some (.v y (μ1.set k (.lst (cs.eraseIdx z.toNat))))) else none) else none | _ => none))) := rfl
theorem e_xSetL : (xSetL a i b).ev ρ μ = fin ρ (a.ev ρ μ) fun x μ1 => (match cellOf ρ[i]? with | none => none | some k => fin ρ (b.ev ρ μ1) fun z μ2 => (match z with | .d (.int z) => if 0 ≤ z then (match lstAt μ2 k with | none => none | some cs => if z.toNat < cs.length then some (.nx ρ (μ2.set k (.lst (cs.set z.toNat x)))) else none) else none | _ => none)) := rfl
theorem e_xRaiseV : (xRaiseV C as).ev ρ μ = fin ρ (as.ev ρ μ) fun xs μ1 => match one xs with | some d => some (.xc ρ (.ref C) [("value", d)] μ1) | none => none := rfl
theorem e_xRaiseI : (xRaiseI C as).ev ρ μ = fin ρ (as.ev ρ μ) fun xs μ1 => match one xs with | some d => some (.xc ρ (.ref C) [("index", d)] μ1) | none => none := rfl
theorem e_xCall : (xCall F as).ev ρ μ = bnd (as.ev ρ μ) fun xs μ1 => outV (callM F (xs ++ []) μ1) := rfl
theorem e_xCallN : (xCallN F as).ev ρ μ = bnd (as.ev ρ μ) fun xs μ1 => outN (callM F (xs ++ []) μ1) := rfl
theorem e_xCallD {dvs : List V} {dd : List D} {hd : _} : (xCallD F as dvs dd hd).ev ρ μ = bnd (as.ev ρ μ) fun xs μ1 => outV (callM F (xs ++ dd.map .d) μ1) := rfl
theorem e_xCallK : (xCallK F i j as bs).ev ρ μ = bnd (as.ev ρ μ) fun xs μ1 => bnd (bs.ev ρ μ1) fun ys μ2 => if xs.length = i ∧ ys.length = j then outV (callM F (xs ++ ys) μ2) else none := rfl
theorem e_xCallL : (xCallL i C F as).ev ρ μ = (match ρ[i]?.join with | some (.d (.raw (.ref g))) => if g = C then bnd (as.ev ρ μ) fun xs μ1 => outV (callM F (xs ++ List.map .d []) μ1) else none | _ => none) := rfl
theorem e_xCallT : (xCallT F as).ev ρ μ = bnd (as.ev ρ μ) fun xs μ1 => outVT (callT F xs μ1) μ1 := rfl
theorem e_xCallTN : (xCallTN F as).ev ρ μ = bnd (as.ev ρ μ) fun xs μ1 => outNT (callT F xs μ1) μ1 := rfl
theorem e_xLRg1 : (xLRg1 a).ev ρ μ = bnd (a.ev ρ μ) fun x μ1 => match x with | .d (.int j) => if 0 ≤ j ∧ j ≤ 100000 then some (.v ((rangeL 0 j.toNat).map .d) μ1) else none | _ => none := rfl
theorem f_oAdd : oAdd.f = addF := rfl
theorem f_oMul : oMul.f = mulF := rfl
theorem f_oEq : oEq.f = eqF := rfl
theorem f_oNe : oNe.f = neF := rfl
theorem f_oIs : oIs.f = isF := rfl
theorem f_oIsN : oIsN.f = isnF := rfl
theorem f_oIn : oIn.f = inF false := rfl
theorem f_oNotIn : oNotIn.f = inF true := rfl
theorem f_oIx : oIx.f = ixF := rfl
theorem f_oSub {p q : Int} : oSub.f (.d (.int p)) (.d (.int q)) μ = ((fun i j => some (.int (i - j))) p q).map AV.d := rfl
theorem f_oDiv {p q : Int} : oDiv.f (.d (.int p)) (.d (.int q)) μ = ((fun i j => if 0 < j ∧ j < 1073741824 then some (.int (i / j)) else none) p q).map AV.d := rfl
theorem f_oMod {p q : Int} : oMod.f (.d (.int p)) (.d (.int q)) μ = ((fun i j => if 0 < j then some (.int (i % j)) else none) p q).map AV.d := rfl
theorem f_oPow {p q : Int} : oPow.f (.d (.int p)) (.d (.int q)) μ = ((fun i j => if 0 ≤ j ∧ j ≤ 1000000 ∧ i.natAbs < 2 ^ 64 then some (.int (i ^ j.toNat)) else none) p q).map AV.d := rfl
theorem f_oLt {p q : Int} : oLt.f (.d (.int p)) (.d (.int q)) μ = ((fun i j => some (.bl (decide (i < j)))) p q).map AV.d := rfl
theorem f_oLe {p q : Int} : oLe.f (.d (.int p)) (.d (.int q)) μ = ((fun i j => some (.bl (decide (i ≤ j)))) p q).map AV.d := rfl
theorem f_oGt {p q : Int} : oGt.f (.d (.int p)) (.d (.int q)) μ = ((fun i j => some (.bl (decide (j < i)))) p q).map AV.d := rfl
theorem f_oGe {p q : Int} : oGe.f (.d (.int p)) (.d (.int q)) μ = ((fun i j => some (.bl (decide (j ≤ i)))) p q).map AV.d := rfl
theorem f_uNeg {p : Int} : uNeg.f (.d (.int p)) μ = some (.d (.int (-p))) := rfl
theorem f_oAddN : oAddN.f = addNF := rfl
theorem f_cLen : cLen.f = lenF := rfl
theorem f_cRepr : cRepr.f = reprF := rfl
theorem f_cList : cList.f = listF := rfl
theorem f_cTup : cTup.f = tupF := rfl
theorem f_cAny : cAny.f = anyF := rfl
theorem f_cAll : cAll.f = allF := rfl
theorem f_cIsi : cIsi.f = isiF := rfl
theorem f_cIsSeq : cIsSeq.f = isSeqF := rfl
theorem f_cAbs {p : Int} : cAbs.f [.d (.int p)] μ = some (.d (.int (if p < 0 then -p else p))) := rfl
theorem f_cInt {p : Bool} : cInt.f [.d (.bl p)] μ = some (.d (.int (if p = true then 1 else 0))) := rfl
theorem f_cMax2 {p q : Int} : cMax2.f [.d (.int p), .d (.int q)] μ = some (.d (.int (max p q))) := rfl
theorem f_cMin2 {p q : Int} : cMin2.f [.d (.int p), .d (.int q)] μ = some (.d (.int (min p q))) := rfl
theorem f_cSortI {ds : List D} : cSortI.f [.d (.lst ds)] μ = (asIs ds).map fun ns => (sortI ns).map fun n => AV.d (.int n) := rfl
theorem add_ii {p q : Int} : addF (.d (.int p)) (.d (.int q)) μ = some (.d (.int (p + q))) := rfl
theorem add_ss {p q : Str} : addF (.d (.str p)) (.d (.str q)) μ = if p.length + q.length ≤ 100000 then some (.d (.str (p ++ q))) else none := rfl
theorem add_ll {p q : List D} : addF (.d (.lst p)) (.d (.lst q)) μ = if p.length + q.length ≤ 100000 then some (.d (.lst (p ++ q))) else none := rfl
theorem add_tt {p q : List D} : addF (.d (.tup p)) (.d (.tup q)) μ = if p.length + q.length ≤ 100000 then some (.d (.tup (p ++ q))) else none := rfl
theorem addN_ll {p q : List D} : addNF (.d (.lst p)) (.d (.lst q)) μ = if p.length + q.length ≤ 100000 then some ((p ++ q).map .d) else none := rfl
theorem mul_ii {p q : Int} : mulF (.d (.int p)) (.d (.int q)) μ = if okMul p q = true then some (.d (.int (p * q))) else none := rfl
theorem mul_li {p : List D} {q : Int} : mulF (.d (.lst p)) (.d (.int q)) μ = if 0 ≤ q ∧ p.length * q.toNat ≤ 100000 ∧ q ≤ 100000 then some (.d (.lst (List.replicate q.toNat p).flatten)) else none := rfl
theorem eq_dd {d e : D} : eqF (.d d) (.d e) μ = if okD 50 d = true ∧ okD 50 e = true then some (.d (.bl (eqD d e))) else none := rfl
theorem ne_dd {d e : D} : neF (.d d) (.d e) μ = if okD 50 d = true ∧ okD 50 e = true then some (.d (.bl (!eqD d e))) else none := rfl
theorem is_n {x : AV} : isF x (.d .non) μ = (isNonF x).map fun b => .d (.bl b) := rfl
theorem isn_n {x : AV} : isnF x (.d .non) μ = (isNonF x).map fun b => .d (.bl (!b)) := rfl
theorem is_bb {p q : Bool} : isF (.d (.bl p)) (.d (.bl q)) μ = some (.d (.bl (decide (p = q)))) := rfl
theorem isn_bb {p q : Bool} : isnF (.d (.bl p)) (.d (.bl q)) μ = some (.d (.bl (!decide (p = q)))) := rfl
theorem nonF_n : isNonF (.d .non) = some true := rfl
theorem nonF_c {k : Nat} : isNonF (.cell k) = some false := rfl
theorem nonF_i {p : Int} : isNonF (.d (.int p)) = some false := rfl
theorem nonF_t {p : List D} : isNonF (.d (.tup p)) = some false := rfl
theorem nonF_l {p : List D} : isNonF (.d (.lst p)) = some false := rfl
theorem nonF_s {p : Str} : isNonF (.d (.str p)) = some false := rfl
theorem nonF_b {p : Bool} : isNonF (.d (.bl p)) = some false := rfl
theorem nonF_d {p : List (Key × D)} : isNonF (.d (.dct p)) = some false := rfl
theorem nonF_f {p : List Int} : isNonF (.d (.fz p)) = some false := rfl
theorem nonF_o {C : Addr} {fs : List (Str × D)} : isNonF (.d (.ins C fs)) = some false := rfl
theorem ix_l {p : List D} {q : Int} : ixF (.d (.lst p)) (.d (.int q)) μ = (atI p q).map .d := rfl
theorem ix_t {p : List D} {q : Int} : ixF (.d (.tup p)) (.d (.int q)) μ = (atI p q).map .d := rfl
theorem ix_f {p : List Int} {q : Int} : ixF (.d (.fz p)) (.d (.int q)) μ = (atI p q).map fun n => .d (.int n) := rfl
theorem ix_s {p : Str} {q : Int} : ixF (.d (.str p)) (.d (.int q)) μ = if p.length ≤ 100000 then (atI p.cps.toList q).map fun c => .d (.str ⟨#[c]⟩) else none := rfl
theorem ix_c {k : Nat} {q : Int} : ixF (.cell k) (.d (.int q)) μ = (match lstAt μ k with | some cs => atI cs q | none => none) := by
  simp only [ixF, lstAt]
  generalize μ[k]? = z
  cases z with
  | none => rfl
  | some c => cases c <;> rfl
theorem len_l {p : List D} : lenF [.d (.lst p)] μ = some (.d (.int p.length)) := rfl
theorem len_t {p : List D} : lenF [.d (.tup p)] μ = some (.d (.int p.length)) := rfl
theorem len_f {p : List Int} : lenF [.d (.fz p)] μ = some (.d (.int p.length)) := rfl
theorem len_s {p : Str} : lenF [.d (.str p)] μ = if p.length ≤ 100000 then some (.d (.int p.length)) else none := rfl
theorem len_c {k : Nat} : lenF [.cell k] μ = (match lstAt μ k with | some cs => some (.d (.int cs.length)) | none => none) := by
  simp only [lenF, lstAt]
  generalize μ[k]? = z
  cases z with
  | none => rfl
  | some c => cases c <;> rfl
theorem thaw_d {d : D} : thaw (.d d) μ = some d := rfl
theorem thaw_c {k : Nat} : thaw (.cell k) μ = (match lstAt μ k with | some cs => (toD cs).map .lst | none => none) := by
  simp only [thaw, lstAt]
  generalize μ[k]? = z
  cases z with
  | none => rfl
  | some c => cases c <;> rfl
theorem tup_l {p : List D} : tupF [.d (.lst p)] μ = some (.d (.tup p)) := rfl
theorem tup_t {p : List D} : tupF [.d (.tup p)] μ = some (.d (.tup p)) := rfl
theorem list_l {p : List D} : listF [.d (.lst p)] μ = some (p.map .d) := rfl
theorem list_t {p : List D} : listF [.d (.tup p)] μ = some (p.map .d) := rfl
theorem asB_b {p : Bool} : asB (.d (.bl p)) = some p := rfl
theorem asI_i {p : Int} : asI (.d (.int p)) = some (some p) := rfl
theorem any_l {p : List D} : anyF [.d (.lst p)] μ = (asBs p).map fun bs => .d (.bl (bs.any id)) := rfl
theorem all_l {p : List D} : allF [.d (.lst p)] μ = (asBs p).map fun bs => .d (.bl (bs.all id)) := rfl
theorem isi_d {d : D} {n : String} : isiF [.d d, .d (.raw (.ty n))] μ = if d.ty.isSome = true then (isKind n d).map fun b => .d (.bl b) else none := rfl
theorem kind_str {d : D} : isKind "str" d = some d.isStr := rfl
theorem kind_tup {d : D} : isKind "tuple" d = some d.isTup := rfl
theorem kind_lst {d : D} : isKind "list" d = some d.isLst := rfl
theorem kind_int {d : D} : isKind "int" d = some d.isInt := rfl
theorem kind_bool {d : D} : isKind "bool" d = some d.isBool := rfl
theorem seq_d {d : D} : isSeqF [.d d, .d (.tup [.raw (.ty "list"), .raw (.ty "tuple")])] μ = if d.ty.isSome = true ∧ ("list" : String) = "list" ∧ ("tuple" : String) = "tuple" then some (.d (.bl (d.isLst || d.isTup))) else none := rfl
theorem toD_nil : toD [] = some [] := rfl
theorem toD_cons {d : D} {xs : List AV} : toD (.d d :: xs) = (match toD xs with | some ds => some (d :: ds) | none => none) := rfl
theorem then_nx {k : Slots → List CC → Option Ct} : thenC (some (.nx ρ μ)) k = k ρ μ := rfl
theorem then_rt {k : Slots → List CC → Option Ct} : thenC (some (.rt x μ)) k = some (.rt x μ) := rfl
theorem then_bk {k : Slots → List CC → Option Ct} : thenC (some (.bk ρ μ)) k = some (.bk ρ μ) := rfl
theorem then_ct {k : Slots → List CC → Option Ct} : thenC (some (.ct ρ μ)) k = some (.ct ρ μ) := rfl
theorem then_xc {c : Value} {fs : List (Str × D)} {k : Slots → List CC → Option Ct} : thenC (some (.xc ρ c fs μ)) k = some (.xc ρ c fs μ) := rfl
theorem cell_c {k : Nat} : cellOf (some (some (.cell k))) = some k := rfl
theorem one_d {d : D} : one [.d d] = some d := rfl
theorem lst_at0 {cs : List AV} : lstAt (.lst cs :: μ) 0 = some cs := rfl
theorem lst_at1 {c : CC} {k : Nat} : lstAt (c :: μ) (k + 1) = lstAt μ k := rfl
theorem outV_r {d : D} : outV (some (.ret (.d d), μ)) = some (.v (.d d) μ) := rfl
theorem outV_n {ds : List D} : outV (some (.new ds, μ)) = some (.v (.d (.lst ds)) μ) := rfl
theorem outV_x {c : Value} {fs : List (Str × D)} : outV (some (.exc c fs, μ)) = some (.x c fs μ) := rfl
theorem outN_n {ds : List D} : outN (some (.new ds, μ)) = some (.v (ds.map .d) μ) := rfl
theorem outN_x {c : Value} {fs : List (Str × D)} : outN (some (.exc c fs, μ)) = some (.x c fs μ) := rfl
theorem finD_nx {k : Nat} : finD k (.nx ρ μ) = chk k (.ret (.d .non)) μ := rfl
theorem finD_rd {k : Nat} {d : D} : finD k (.rt (.d d) μ) = chk k (.ret (.d d)) μ := rfl
theorem finD_rc {k j : Nat} : finD k (.rt (.cell j) μ) = if k ≤ j then (match lstAt μ j with | some xs => (match toD xs with | some ds => chk k (.new ds) μ | none => none) | none => none) else none := rfl
theorem finD_xc {k : Nat} {c : Value} {fs : List (Str × D)} : finD k (.xc ρ c fs μ) = chk k (.exc c fs) μ := rfl
theorem call_0 {ds : List D} (h : cellsOf xs = []) : callM F xs μ = (match F xs [] with | some (o, []) => some (o, μ) | _ => none) := by
  unfold callM
  rw [h]
  have e : xs.map (renum []) = xs := by
    have : ∀ ys : List AV, cellsOf ys = [] → ys.map (renum []) = ys := by
      intro ys
      induction ys with
      | nil => intro _; rfl
      | cons y ys ih =>
        cases y with
        | d d => intro q; exact congrArg _ (ih q)
        | cell k =>
          intro q
          unfold cellsOf at q
          split at q
          · rename_i q2; rw [q] at q2; cases q2
          · cases q
    exact this xs h
  simp only [List.all_nil, List.map_nil, e, if_true]
  cases F xs [] with
  | none => rfl
  | some p =>
    obtain ⟨o, sub⟩ := p
    cases sub with
    | nil => rfl
    | cons c sub => simp
end
end FX

set_option Elab.async false
set_option linter.all false
set_option maxRecDepth 100000
set_option maxHeartbeats 4000000
/-! FX8: facts for reckoning: places, comparisons, loops, comprehensions. -/
namespace FX
open PySem PySem.Spec PyProof.Rows L2 DL
section
variable {γ : Type} {x y z u : γ} {xs : List γ} {n : Nat}
theorem at0 : L2.atI (x :: xs) 0 = some x := at_nat (n := 0) rfl
theorem at1 : L2.atI (x :: y :: xs) 1 = some y := at_nat (n := 1) rfl
theorem at2 : L2.atI (x :: y :: z :: xs) 2 = some z := at_nat (n := 2) rfl
theorem at3 : L2.atI (x :: y :: z :: u :: xs) 3 = some u := at_nat (n := 3) rfl
theorem atN : L2.atI xs ((n : Nat) : Int) = xs[n]? := by
  by_cases h : n < xs.length
  · rw [List.getElem?_eq_getElem h]; exact at_nat (List.getElem?_eq_getElem h)
  · rw [List.getElem?_eq_none (Nat.le_of_not_lt h)]
    unfold L2.atI ixN
    rw [if_pos (Int.natCast_nonneg n), if_neg (by omega)]; rfl
theorem atLast (h : xs ≠ []) : L2.atI xs (-1) = xs.getLast? := by
  obtain ⟨ys, z, rfl⟩ : ∃ ys z, xs = ys ++ [z] := ⟨xs.dropLast, xs.getLast h, (List.dropLast_concat_getLast h).symm⟩
  rw [atI_last, List.getLast?_concat]
theorem atMap {δ : Type} (f : γ → δ) {i : Int} : L2.atI (xs.map f) i = (L2.atI xs i).map f := by
  unfold L2.atI
  rw [List.length_map]
  cases ixN xs.length i with
  | none => rfl
  | some k => exact List.getElem?_map ..
end
/-! ### slices -/
theorem cut_map {γ δ : Type} (f : γ → δ) (xs : List γ) (lo hi : Option Int) : DL.cutD (xs.map f) lo hi = (DL.cutD xs lo hi).map f := by
  unfold DL.cutD
  rw [List.length_map, List.map_take, List.map_drop]
theorem take_map {γ δ : Type} {f : γ → δ} {xs : List γ} {n : Nat} : (xs.map f).take n = (xs.take n).map f := List.map_take.symm
theorem drop_map {γ δ : Type} {f : γ → δ} {xs : List γ} {n : Nat} : (xs.map f).drop n = (xs.drop n).map f := List.map_drop.symm
theorem dropLast_map {γ δ : Type} {f : γ → δ} {xs : List γ} : (xs.map f).dropLast = xs.dropLast.map f := List.map_dropLast.symm
theorem rev_map {γ δ : Type} {f : γ → δ} {xs : List γ} : (xs.map f).reverse = xs.reverse.map f := List.map_reverse.symm
/-! ### == of data -/
section
variable {a b : D} {i j : Int} {p q : Bool} {s t : Str} {xs ys : List D} {n : Nat}
theorem okD_n : okD n .non = true := by cases n <;> rfl
theorem okD_b : okD n (.bl p) = true := by cases n <;> rfl
theorem okD_i : okD n (.int i) = true := by cases n <;> rfl
theorem okD_s : okD n (.str s) = true := by cases n <;> rfl
theorem okD_l : okD (n + 1) (.lst xs) = xs.all (okD n) := rfl
theorem okD_t : okD (n + 1) (.tup xs) = xs.all (okD n) := rfl
theorem stD_n : stillD n .non = true := by cases n <;> rfl
theorem stD_b : stillD n (.bl p) = true := by cases n <;> rfl
theorem stD_i : stillD n (.int i) = true := by cases n <;> rfl
theorem stD_s : stillD n (.str s) = true := by cases n <;> rfl
theorem stD_t : stillD (n + 1) (.tup xs) = xs.all (stillD n) := rfl
theorem eqD_ii : eqD (.int i) (.int j) = decide (i = j) := Dt.eqv i j
theorem eqD_bb : eqD (.bl p) (.bl q) = decide (p = q) := Dt.eqv p q
theorem eqD_ss : eqD (.str s) (.str t) = decide (s = t) := Dt.eqv s t
theorem eqD_nn : eqD .non .non = true := rfl
def eqA : List D → List D → Bool
  | [], [] => true
  | x :: xs, y :: ys => eqD x y && eqA xs ys
  | _, _ => false
theorem eqA_all : ∀ xs ys : List D, PyData.eqvAll (D.pyAll xs) (D.pyAll ys) = eqA xs ys
  | [], [] => by simp [D.pyAll, PyData.eqvAll, eqA]
  | [], _ :: _ => by simp [D.pyAll, PyData.eqvAll, eqA]
  | _ :: _, [] => by simp [D.pyAll, PyData.eqvAll, eqA]
  | x :: xs, y :: ys => by
    rw [D.pyAll, D.pyAll, PyData.eqvAll, eqA_all xs ys]; rfl
theorem eqD_ll : eqD (.lst xs) (.lst ys) = eqA xs ys := by
  unfold eqD; simp only [D.py, PyData.eqv]; exact eqA_all xs ys
theorem eqD_tt : eqD (.tup xs) (.tup ys) = eqA xs ys := by
  unfold eqD; simp only [D.py, PyData.eqv]; exact eqA_all xs ys
theorem eqD_ni : eqD .non (.int i) = false := rfl
theorem eqD_in : eqD (.int i) .non = false := rfl
theorem eqD_nt : eqD .non (.tup xs) = false := rfl
theorem eqD_tn : eqD (.tup xs) .non = false := rfl
theorem eqD_nl : eqD .non (.lst xs) = false := rfl
theorem eqD_ln : eqD (.lst xs) .non = false := rfl
theorem eqD_ns : eqD .non (.str s) = false := rfl
theorem eqD_sn : eqD (.str s) .non = false := rfl
theorem eqA_nil : eqA [] [] = true := rfl
theorem eqA_cons {x y : D} : eqA (x :: xs) (y :: ys) = (eqD x y && eqA xs ys) := rfl
theorem eqA_nc {y : D} : eqA [] (y :: ys) = false := rfl
theorem eqA_cn {x : D} : eqA (x :: xs) [] = false := rfl
/-- lists of what is told by f -/
theorem eqA_map {α : Type} [DecidableEq α] {f : α → D} (hf : ∀ a b, eqD (f a) (f b) = decide (a = b)) : ∀ as bs : List α, eqA (as.map f) (bs.map f) = decide (as = bs)
  | [], [] => rfl
  | [], b :: bs => by simp [eqA]
  | a :: as, [] => by simp [eqA]
  | a :: as, b :: bs => by
    rw [List.map_cons, List.map_cons, eqA_cons, hf, eqA_map hf as bs, ← Bool.decide_and]
    exact decide_eq_decide.mpr (by rw [List.cons.injEq])
theorem eqD_tS {as bs : List Str} : eqD (.tup (as.map .str)) (.tup (bs.map .str)) = decide (as = bs) := by rw [eqD_tt]; exact eqA_map (f := D.str) (fun a b => eqD_ss) as bs
theorem eqD_lS {as bs : List Str} : eqD (.lst (as.map .str)) (.lst (bs.map .str)) = decide (as = bs) := by rw [eqD_ll]; exact eqA_map (f := D.str) (fun a b => eqD_ss) as bs
theorem eqD_tS1 {as : List Str} {x : Str} : eqD (.tup (as.map .str)) (.tup [.str x]) = decide (as = [x]) := eqD_tS (bs := [x])
theorem eqD_lS1 {as : List Str} {x : Str} : eqD (.lst (as.map .str)) (.lst [.str x]) = decide (as = [x]) := eqD_lS (bs := [x])
theorem eqD_lS0 {as : List Str} : eqD (.lst (as.map .str)) (.lst []) = decide (as = []) := eqD_lS (bs := [])
theorem eqA_S {as bs : List Str} : eqA (as.map .str) (bs.map .str) = decide (as = bs) := eqA_map (f := D.str) (fun a b => eqD_ss) as bs
theorem eqA_S1 {as : List Str} {x : Str} : eqA (as.map .str) [.str x] = decide (as = [x]) := eqA_S (bs := [x])
theorem eqA_S0 {as : List Str} : eqA (as.map .str) [] = decide (as = []) := eqA_S (bs := [])
theorem all_map_okD {α : Type} {f : α → D} {as : List α} (h : ∀ a, okD n (f a) = true) : (as.map f).all (okD n) = true := by
  rw [List.all_map]; exact List.all_eq_true.mpr fun a _ => h a
theorem all_map_stD {α : Type} {f : α → D} {as : List α} (h : ∀ a, stillD n (f a) = true) : (as.map f).all (stillD n) = true := by
  rw [List.all_map]; exact List.all_eq_true.mpr fun a _ => h a
theorem inD_nil : inD a [] = false := rfl
theorem inD_ss : inD (.str s) (.str t :: xs) = (decide (t = s) || inD (.str s) xs) := by
  show (eqV (.str t) (.str s) || inD (.str s) xs) = _
  rw [show eqV (.str t) (.str s) = (t == s) from rfl, beq_dec]
theorem inD_ii : inD (.int i) (.int j :: xs) = (decide (j = i) || inD (.int i) xs) := by
  show (eqV (.int j) (.int i) || inD (.int i) xs) = _
  rw [show eqV (.int j) (.int i) = (j == i) from rfl, beq_dec]
theorem inD_int (ns : List Int) : inD (.int i) (ns.map .int) = decide (i ∈ ns) := by
  induction ns with
  | nil => rfl
  | cons n ns ih =>
    rw [List.map_cons, inD_ii, ih, ← Bool.decide_or]
    exact decide_eq_decide.mpr (by rw [List.mem_cons]; exact or_congr eq_comm Iff.rfl)
end
theorem flat_all {α : Type} {f : α → D} {as : List α} (h : ∀ a, (f a).flat = true) : (as.map f).all D.flat = true := by
  rw [List.all_map]; exact List.all_eq_true.mpr fun a _ => h a
theorem okMul_t {i j : Int} (h : (-18446744073709551616 < i ∧ i < 18446744073709551616) ∨ (-18446744073709551616 < j ∧ j < 18446744073709551616)) : okMul i j = true := by
  simp only [okMul, Bool.or_eq_true, Bool.and_eq_true, decide_eq_true_eq]
  rcases h with h | h
  · exact .inl ⟨by omega, by omega⟩
  · exact .inr ⟨by omega, by omega⟩
/-! ### == of a cell -/
theorem eq_cd {k : Nat} {e : D} {μ : List CC} : eqF (.cell k) (.d e) μ = (match lstAt μ k with
    | some cs => (match toD cs with
      | some ds => if okD 50 (.lst ds) = true ∧ okD 50 e = true then some (.d (.bl (eqD (.lst ds) e))) else none
      | none => none)
    | none => none) := by
  unfold eqF
  rw [thaw_d, thaw_c]
  cases lstAt μ k with
  | none => rfl
  | some cs => cases h : toD cs <;> simp only [h] <;> rfl
theorem ne_cd {k : Nat} {e : D} {μ : List CC} : neF (.cell k) (.d e) μ = (match lstAt μ k with
    | some cs => (match toD cs with
      | some ds => if okD 50 (.lst ds) = true ∧ okD 50 e = true then some (.d (.bl (!eqD (.lst ds) e))) else none
      | none => none)
    | none => none) := by
  unfold neF
  rw [thaw_d, thaw_c]
  cases lstAt μ k with
  | none => rfl
  | some cs => cases h : toD cs <;> simp only [h] <;> rfl
/-! ### bools -/
section
variable {b c : Bool} {μ : List CC} {k : Option (Rs AV)} {p : Prop} [Decidable p]
theorem dec_t {i : Decidable True} : @decide True i = true := decide_eq_true trivial
theorem dec_f {i : Decidable False} : @decide False i = false := decide_eq_false id
theorem and_t : andR (some true) k μ = k := rfl
theorem and_f : andR (some false) k μ = some (.v (.d (.bl false)) μ) := rfl
theorem and_b : andR (some b) (some (.v (.d (.bl c)) μ)) μ = some (.v (.d (.bl (b && c))) μ) := by cases b <;> rfl
theorem or_t : orR (some true) k μ = some (.v (.d (.bl true)) μ) := rfl
theorem or_f : orR (some false) k μ = k := rfl
theorem or_b : orR (some b) (some (.v (.d (.bl c)) μ)) μ = some (.v (.d (.bl (b || c))) μ) := by cases b <;> rfl
theorem ite_and : (if p then some (Rs.v c μ) else some (Rs.v false μ)) = some (Rs.v (decide p && c) μ) := by
  by_cases h : p <;> simp [h]
theorem ite_or : (if p then some (Rs.v true μ) else some (Rs.v c μ)) = some (Rs.v (decide p || c) μ) := by
  by_cases h : p <;> simp [h]
end
/-! ### in -/
section
variable {d : D} {xs : List D} {μ : List CC} {neg : Bool} {k : Nat}
theorem in_dl : inF neg (.d d) (.d (.lst xs)) μ = if d.flat = true ∧ xs.all D.flat = true then some (.d (.bl (if neg = true then !inD d xs else inD d xs))) else none := by
  cases d <;> rfl
theorem in_dt : inF neg (.d d) (.d (.tup xs)) μ = if d.flat = true ∧ xs.all D.flat = true then some (.d (.bl (if neg = true then !inD d xs else inD d xs))) else none := by
  cases d <;> rfl
theorem in_dc : inF neg (.d d) (.cell k) μ = (match lstAt μ k with
    | some cs => (match toD cs with
      | some xs => if d.flat = true ∧ xs.all D.flat = true then some (.d (.bl (if neg = true then !inD d xs else inD d xs))) else none
      | none => none)
    | none => none) := by
  unfold inF
  rw [thaw_d, thaw_c]
  cases lstAt μ k with
  | none => cases d <;> rfl
  | some cs =>
    cases h : toD cs with
    | none => simp only [h]; cases d <;> rfl
    | some ys => simp only [h]; cases d <;> rfl
theorem in_sg {c : Nat} {b : Str} : inF neg (.d (.str ⟨#[c]⟩)) (.d (.str b)) μ = some (.d (.bl (if neg = true then !decide (c ∈ b.cps.toList) else decide (c ∈ b.cps.toList)))) := rfl
theorem flat_s {s : Str} : D.flat (.str s) = true := rfl
theorem flat_i {i : Int} : D.flat (.int i) = true := rfl
theorem flat_b {b : Bool} : D.flat (.bl b) = true := rfl
theorem flat_n : D.flat .non = true := rfl
theorem flat_mapS {ss : List Str} : (ss.map D.str).all D.flat = true := by rw [List.all_map]; exact List.all_eq_true.mpr fun _ _ => rfl
theorem flat_mapI {ss : List Int} : (ss.map D.int).all D.flat = true := by rw [List.all_map]; exact List.all_eq_true.mpr fun _ _ => rfl
theorem isD_mapD {ds : List D} : (ds.map AV.d).all AV.isD = true := data_all ds
theorem lo_mapD {ds : List D} {n : Nat} : (ds.map AV.d).all (AV.lo n) = true := by rw [List.all_map]; exact List.all_eq_true.mpr fun _ _ => rfl
theorem okD_mapS {ss : List Str} {n : Nat} : (ss.map D.str).all (okD n) = true := all_map_okD fun _ => okD_s
theorem stD_mapS {ss : List Str} {n : Nat} : (ss.map D.str).all (stillD n) = true := all_map_stD fun _ => stD_s
end
/-! ### loops -/
section
variable {α β γ : Type} {g : AV → Slots → Option Slots} {body : Slots → List CC → Option Ct} {ks : List Nat} {n : Nat} {ρ : Slots} {μ : List CC}
theorem gcR_same (h : μ.length ≤ n) : gcR n ρ μ = ρ := by
  unfold gcR gcOk
  rw [decide_eq_false (by omega)]; rfl
theorem gcM_same (h : μ.length ≤ n) : gcM n ρ μ = μ := by
  unfold gcM gcOk
  rw [decide_eq_false (by omega)]; rfl
/-- no cell from n on is held: all new ones go -/
theorem gc_drop (h1 : n ≤ μ.length) (h2 : newRefs n ρ = []) (h3 : (μ.take n).all (CC.lo n) = true) : gcM n ρ μ = μ.take n := by
  rcases Nat.lt_or_ge n μ.length with h | h
  · unfold gcM gcOk
    rw [decide_eq_true h, h2, h3]
    simp
  · rw [gcM_same h, List.take_of_length_le h]
theorem reAV_lo : ∀ {ρ : Slots}, newRefs n ρ = [] → ρ.map (Option.map (reAV n [])) = ρ
  | [], _ => rfl
  | some (.cell k) :: r, h => by
    unfold newRefs at h
    split at h
    · rename_i q
      rw [h] at q
      rcases q with q | q
      · rw [List.map_cons, reAV_lo h]
        simp only [Option.map_some, reAV, if_pos q]
      · cases q
    · cases h
  | some (.d _) :: r, h => by rw [List.map_cons, reAV_lo (ρ := r) h]; rfl
  | none :: r, h => by rw [List.map_cons, reAV_lo (ρ := r) h]; rfl
theorem gcR_drop (h2 : newRefs n ρ = []) : gcR n ρ μ = ρ := by
  unfold gcR
  split
  · rw [h2]; exact reAV_lo h2
  · rfl
theorem gc_one {k : Nat} {c : CC} (h1 : newRefs n ρ = [k]) (h2 : μ[k]? = some c) (h3 : c.isD = true) (h4 : (μ.take n).all (CC.lo n) = true) (h5 : n < μ.length) : gcM n ρ μ = μ.take n ++ [c] ∧ gcR n ρ μ = ρ.map (Option.map (reAV n [k])) := by
  have hg : gcOk n ρ μ = true := by
    unfold gcOk
    rw [h1, h4, decide_eq_true h5]
    simp [hasD3, h2, h3]
  unfold gcM gcR
  rw [if_pos hg, if_pos hg, h1]
  refine ⟨?_, rfl⟩
  rw [List.map_cons, List.map_nil, getD_some3 h2]
theorem runFor_fold (tD : α → AV) (S : β → Slots) (M : β → List CC) (f : β → α → β) (hS : ∀ b, wipeA (S b) ks = S b) : ∀ {as : List α} {b0 : β} {ρ : Slots} {μ : List CC} (P : Nat → β → Prop), wipeA ρ ks = S b0 → μ = M b0 → P 0 b0 →
    (∀ i b a, as[i]? = some a → P i b → ∃ ρ1, g (tD a) (S b) = some ρ1 ∧ ∃ ρ2 μ2, (body ρ1 (M b) = some (.nx ρ2 μ2) ∨ body ρ1 (M b) = some (.ct ρ2 μ2)) ∧ gcR n (wipeA ρ2 ks) μ2 = S (f b a) ∧ gcM n (wipeA ρ2 ks) μ2 = M (f b a) ∧ P (i + 1) (f b a)) →
    runFor g body ks n (as.map tD) ρ μ = some (.nx (S (as.foldl f b0)) (M (as.foldl f b0))) ∧ P as.length (as.foldl f b0)
  | [], b0, ρ, μ, P, hw, hm, hP, _ => by
    subst hm
    exact ⟨by simp only [List.map_nil, runFor, hw, List.foldl_nil], hP⟩
  | a :: as, b0, ρ, μ, P, hw, hm, hP, h => by
    subst hm
    obtain ⟨ρ1, h1, ρ2, μ2, h2, h3, h4, h5⟩ := h 0 b0 a rfl hP
    have ih := runFor_fold tD S M f hS (fun i => P (i + 1)) (hS (f b0 a)) rfl h5 (as := as) fun i b a' ha => h (i + 1) b a' (by simpa using ha)
    rw [List.foldl_cons]
    refine ⟨?_, ih.2⟩
    simp only [List.map_cons, runFor, hw, h1]
    rcases h2 with h2 | h2 <;> simp only [h2, h3, h4] <;> exact ih.1
/-- a loop that looks for the first item that ends it -/
theorem runFor_find (tD : α → AV) (p : α → Bool) (r : α → Ct) {S : Slots} (hS : wipeA S ks = S) : ∀ {as : List α} {ρ : Slots}, wipeA ρ ks = S →
    (∀ a, a ∈ as → ∃ ρ1, g (tD a) S = some ρ1 ∧ (p a = true → ∃ ρ2 μ2, body ρ1 μ = some (.nx ρ2 μ2) ∧ gcR n (wipeA ρ2 ks) μ2 = S ∧ gcM n (wipeA ρ2 ks) μ2 = μ) ∧ (p a = false → body ρ1 μ = some (r a) ∧ ((∃ c x fs m, r a = .xc c x fs m) ∨ ∃ x m, r a = .rt x m))) →
    runFor g body ks n (as.map tD) ρ μ = match as.find? (fun a => !p a) with
      | none => some (.nx S μ)
      | some a => some (r a)
  | [], ρ, hw, _ => by simp only [List.map_nil, runFor, hw, List.find?_nil]
  | a :: as, ρ, hw, h => by
    obtain ⟨ρ1, h1, h2, h3⟩ := h a List.mem_cons_self
    simp only [List.map_cons, runFor, hw, h1]
    cases hp : p a with
    | true =>
      obtain ⟨ρ2, μ2, q1, q2, q3⟩ := h2 hp
      rw [List.find?_cons_of_neg (by simp [hp])]
      simp only [q1, q2, q3]
      exact runFor_find tD p r hS hS fun a' ha => h a' (List.mem_cons_of_mem _ ha)
    | false =>
      obtain ⟨q1, q2⟩ := h3 hp
      rw [List.find?_cons_of_pos (by simp [hp])]
      simp only [q1]
      rcases q2 with ⟨c, x, fs, m, e⟩ | ⟨x, m, e⟩ <;> rw [e]
/-- a loop by a word over its state; a turn may end it by handing back -/
theorem runFor_inv {Q : Ct → Prop} (I : Nat → Slots → List CC → Prop) (items : List AV) : ∀ (k : Nat) {ρ : Slots} {μ : List CC}, k ≤ items.length → I k (wipeA ρ ks) μ →
    (∀ i a ρ μ, items[i]? = some a → I i ρ μ → ∃ ρ1, g a ρ = some ρ1 ∧ ((∃ ρ2 μ2, (body ρ1 μ = some (.nx ρ2 μ2) ∨ body ρ1 μ = some (.ct ρ2 μ2)) ∧ I (i + 1) (wipeA (gcR n (wipeA ρ2 ks) μ2) ks) (gcM n (wipeA ρ2 ks) μ2)) ∨ (∃ ρ2 μ2, body ρ1 μ = some (.bk ρ2 μ2) ∧ Q (.nx (wipeA ρ2 ks) μ2)) ∨ ∃ r, body ρ1 μ = some r ∧ Q r ∧ ((∃ c x fs m, r = .xc c x fs m) ∨ ∃ x m, r = .rt x m))) →
    (∀ ρ μ, I items.length ρ μ → Q (.nx ρ μ)) → ∃ r, runFor g body ks n (items.drop k) ρ μ = some r ∧ Q r := by
  intro k
  generalize hn : items.length - k = m
  induction m generalizing k with
  | zero =>
    intro ρ μ hk h0 hs hd
    have e : k = items.length := by omega
    subst e
    rw [List.drop_length]
    exact ⟨_, rfl, hd _ _ h0⟩
  | succ m ih =>
    intro ρ μ hk h0 hs hd
    have hlt : k < items.length := by omega
    rw [List.drop_eq_getElem_cons hlt]
    obtain ⟨ρ1, h1, h⟩ := hs k _ _ _ (List.getElem?_eq_getElem hlt) h0
    simp only [runFor, h1]
    rcases h with ⟨ρ2, μ2, h2, h3⟩ | ⟨ρ2, μ2, h2, h3⟩ | ⟨r, h2, h3, h4⟩
    · obtain ⟨r, q1, q2⟩ := ih (k + 1) (by omega) (by omega) h3 hs hd
      rcases h2 with h2 | h2 <;> simp only [h2] <;> exact ⟨r, q1, q2⟩
    · simp only [h2]; exact ⟨_, rfl, h3⟩
    · simp only [h2]
      rcases h4 with ⟨c, x, fs, m, e⟩ | ⟨x, m, e⟩ <;> subst e <;> exact ⟨_, rfl, h3⟩
/-- a while by a measure: what is wanted holds behind -/
theorem runWhile_meas {Q : Ct → Prop} {c : Slots → List CC → Option (Rs Bool)} (I : Nat → Slots → List CC → Prop) : ∀ (m fuel : Nat) {ρ : Slots} {μ : List CC}, m < fuel → I m (wipeA ρ ks) μ →
    (∀ m ρ μ, I m ρ μ → ∃ bb μ1, c ρ μ = some (.v bb μ1) ∧ (bb = false → Q (.nx ρ μ1)) ∧ (bb = true → ((∃ ρ2 μ2 m', (body ρ μ1 = some (.nx ρ2 μ2) ∨ body ρ μ1 = some (.ct ρ2 μ2)) ∧ m' < m ∧ I m' (wipeA (gcR n (wipeA ρ2 ks) μ2) ks) (gcM n (wipeA ρ2 ks) μ2)) ∨ (∃ ρ2 μ2, body ρ μ1 = some (.bk ρ2 μ2) ∧ Q (.nx (wipeA ρ2 ks) μ2)) ∨ ∃ r, body ρ μ1 = some r ∧ Q r ∧ ((∃ c x fs m, r = .xc c x fs m) ∨ ∃ x m, r = .rt x m)))) →
    ∃ r, runWhile c body ks n fuel ρ μ = some r ∧ Q r := by
  intro m
  induction m using Nat.strongRecOn with
  | _ m ih =>
    intro fuel ρ μ hf h0 hs
    cases fuel with
    | zero => omega
    | succ fuel =>
      obtain ⟨bb, μ1, h1, h2, h3⟩ := hs m _ _ h0
      cases bb with
      | false => exact ⟨_, by simp only [runWhile, h1], h2 rfl⟩
      | true =>
        rcases h3 rfl with ⟨ρ2, μ2, m', q1, q2, q3⟩ | ⟨ρ2, μ2, q1, q2⟩ | ⟨r, q1, q2, q3⟩
        · obtain ⟨r, s1, s2⟩ := ih m' q2 fuel (by omega) q3 hs
          refine ⟨r, ?_, s2⟩
          simp only [runWhile, h1]
          rcases q1 with q1 | q1 <;> simp only [q1] <;> exact s1
        · exact ⟨_, by simp only [runWhile, h1, q1], q2⟩
        · refine ⟨r, ?_, q2⟩
          simp only [runWhile, h1, q1]
          rcases q3 with ⟨c, x, fs, m, e⟩ | ⟨x, m, e⟩ <;> subst e <;> rfl
theorem for_fold {as : List α} {z : Option Ct} (tD : α → AV) (S : β → Slots) (M : β → List CC) (f : β → α → β) (P : Nat → β → Prop) (b0 : β) (hz : runFor g body ks n (as.map tD) ρ μ = z) (hw : wipeA ρ ks = S b0) (hm : μ = M b0) (hS : ∀ b, wipeA (S b) ks = S b) (hP : P 0 b0)
    (hs : ∀ i b a, as[i]? = some a → P i b → ∃ ρ1, g (tD a) (S b) = some ρ1 ∧ ∃ ρ2 μ2, (body ρ1 (M b) = some (.nx ρ2 μ2) ∨ body ρ1 (M b) = some (.ct ρ2 μ2)) ∧ gcR n (wipeA ρ2 ks) μ2 = S (f b a) ∧ gcM n (wipeA ρ2 ks) μ2 = M (f b a) ∧ P (i + 1) (f b a)) :
    z = some (.nx (S (as.foldl f b0)) (M (as.foldl f b0))) ∧ P as.length (as.foldl f b0) := by
  subst hz
  exact runFor_fold tD S M f hS P hw hm hP hs
theorem for_find {as : List α} {z : Option Ct} (tD : α → AV) (p : α → Bool) (r : α → Ct) (S : Slots) (hz : runFor g body ks n (as.map tD) ρ μ = z) (hS : wipeA S ks = S) (hw : wipeA ρ ks = S)
    (hs : ∀ a, a ∈ as → ∃ ρ1, g (tD a) S = some ρ1 ∧ (p a = true → ∃ ρ2 μ2, body ρ1 μ = some (.nx ρ2 μ2) ∧ gcR n (wipeA ρ2 ks) μ2 = S ∧ gcM n (wipeA ρ2 ks) μ2 = μ) ∧ (p a = false → body ρ1 μ = some (r a) ∧ ((∃ c x fs m, r a = .xc c x fs m) ∨ ∃ x m, r a = .rt x m))) :
    z = match as.find? (fun a => !p a) with
      | none => some (.nx S μ)
      | some a => some (r a) := by
  subst hz
  exact runFor_find tD p r hS hw hs
theorem for_inv {items : List AV} {z : Option Ct} (Q : Ct → Prop) (I : Nat → Slots → List CC → Prop) (hz : runFor g body ks n items ρ μ = z) (h0 : I 0 (wipeA ρ ks) μ)
    (hs : ∀ i a ρ μ, items[i]? = some a → I i ρ μ → ∃ ρ1, g a ρ = some ρ1 ∧ ((∃ ρ2 μ2, (body ρ1 μ = some (.nx ρ2 μ2) ∨ body ρ1 μ = some (.ct ρ2 μ2)) ∧ I (i + 1) (wipeA (gcR n (wipeA ρ2 ks) μ2) ks) (gcM n (wipeA ρ2 ks) μ2)) ∨ (∃ ρ2 μ2, body ρ1 μ = some (.bk ρ2 μ2) ∧ Q (.nx (wipeA ρ2 ks) μ2)) ∨ ∃ r, body ρ1 μ = some r ∧ Q r ∧ ((∃ c x fs m, r = .xc c x fs m) ∨ ∃ x m, r = .rt x m)))
    (hd : ∀ ρ μ, I items.length ρ μ → Q (.nx ρ μ)) : ∃ r, z = some r ∧ Q r := by
  subst hz
  have := runFor_inv I items 0 (Nat.zero_le _) h0 hs hd
  rwa [List.drop_zero] at this
theorem while_meas {c : Slots → List CC → Option (Rs Bool)} {z : Option Ct} {fuel : Nat} (Q : Ct → Prop) (I : Nat → Slots → List CC → Prop) (m : Nat) (hz : runWhile c body ks n fuel ρ μ = z) (hf : m < fuel) (h0 : I m (wipeA ρ ks) μ)
    (hs : ∀ m ρ μ, I m ρ μ → ∃ bb μ1, c ρ μ = some (.v bb μ1) ∧ (bb = false → Q (.nx ρ μ1)) ∧ (bb = true → ((∃ ρ2 μ2 m', (body ρ μ1 = some (.nx ρ2 μ2) ∨ body ρ μ1 = some (.ct ρ2 μ2)) ∧ m' < m ∧ I m' (wipeA (gcR n (wipeA ρ2 ks) μ2) ks) (gcM n (wipeA ρ2 ks) μ2)) ∨ (∃ ρ2 μ2, body ρ μ1 = some (.bk ρ2 μ2) ∧ Q (.nx (wipeA ρ2 ks) μ2)) ∨ ∃ r, body ρ μ1 = some r ∧ Q r ∧ ((∃ c x fs m, r = .xc c x fs m) ∨ ∃ x m, r = .rt x m)))) :
    ∃ r, z = some r ∧ Q r := by
  subst hz
  exact runWhile_meas I m fuel hf h0 hs
theorem for_foldD {as : List α} {z : Option Ct} (tD : α → D) (S : β → Slots) (M : β → List CC) (f : β → α → β) (P : Nat → β → Prop) (b0 : β) (hz : runFor g body ks n ((as.map tD).map AV.d) ρ μ = z) (hw : wipeA ρ ks = S b0) (hm : μ = M b0) (hS : ∀ b, wipeA (S b) ks = S b) (hP : P 0 b0)
    (hs : ∀ i b a, as[i]? = some a → P i b → ∃ ρ1, g (.d (tD a)) (S b) = some ρ1 ∧ ∃ ρ2 μ2, (body ρ1 (M b) = some (.nx ρ2 μ2) ∨ body ρ1 (M b) = some (.ct ρ2 μ2)) ∧ gcR n (wipeA ρ2 ks) μ2 = S (f b a) ∧ gcM n (wipeA ρ2 ks) μ2 = M (f b a) ∧ P (i + 1) (f b a)) :
    z = some (.nx (S (as.foldl f b0)) (M (as.foldl f b0))) ∧ P as.length (as.foldl f b0) := by
  rw [List.map_map] at hz
  exact for_fold (AV.d ∘ tD) S M f P b0 hz hw hm hS hP hs
theorem turn_nx {ρ1 ρ2 R : Slots} {μ1 μ2 M : List CC} {Pp : Prop} (h : body ρ1 μ1 = some (.nx ρ2 μ2)) (h3 : gcR n (wipeA ρ2 ks) μ2 = R) (h4 : gcM n (wipeA ρ2 ks) μ2 = M) (h5 : Pp) :
    ∃ ρ2 μ2, (body ρ1 μ1 = some (.nx ρ2 μ2) ∨ body ρ1 μ1 = some (.ct ρ2 μ2)) ∧ gcR n (wipeA ρ2 ks) μ2 = R ∧ gcM n (wipeA ρ2 ks) μ2 = M ∧ Pp := ⟨ρ2, μ2, .inl h, h3, h4, h5⟩
theorem find_nx {ρ1 ρ2 R : Slots} {μ1 μ2 M : List CC} (h : body ρ1 μ1 = some (.nx ρ2 μ2)) (h3 : gcR n (wipeA ρ2 ks) μ2 = R) (h4 : gcM n (wipeA ρ2 ks) μ2 = M) :
    ∃ ρ2 μ2, body ρ1 μ1 = some (.nx ρ2 μ2) ∧ gcR n (wipeA ρ2 ks) μ2 = R ∧ gcM n (wipeA ρ2 ks) μ2 = M := ⟨ρ2, μ2, h, h3, h4⟩
theorem inv_nx {ρ1 ρ2 : Slots} {μ1 μ2 : List CC} {I : Slots → List CC → Prop} {A B : Prop} (h : body ρ1 μ1 = some (.nx ρ2 μ2)) (h3 : I (wipeA (gcR n (wipeA ρ2 ks) μ2) ks) (gcM n (wipeA ρ2 ks) μ2)) :
    (∃ ρ2 μ2, (body ρ1 μ1 = some (.nx ρ2 μ2) ∨ body ρ1 μ1 = some (.ct ρ2 μ2)) ∧ I (wipeA (gcR n (wipeA ρ2 ks) μ2) ks) (gcM n (wipeA ρ2 ks) μ2)) ∨ A ∨ B := .inl ⟨ρ2, μ2, .inl h, h3⟩
theorem lo_l {xs : List AV} : CC.lo n (.lst xs) = xs.all (AV.lo n) := rfl
theorem lo_d {d : D} : AV.lo n (.d d) = true := rfl
theorem lo_map {α : Type} (f : α → D) (as : List α) : (as.map fun a => AV.d (f a)).all (AV.lo n) = true := by rw [List.all_map]; exact List.all_eq_true.mpr fun _ _ => rfl
theorem nr_nil : newRefs n [] = [] := rfl
theorem nr_none {r : Slots} : newRefs n (none :: r) = newRefs n r := rfl
theorem nr_d {d : D} {r : Slots} : newRefs n (some (.d d) :: r) = newRefs n r := rfl
theorem nr_c {k : Nat} {r : Slots} : newRefs n (some (.cell k) :: r) = if k < n ∨ k ∈ newRefs n r then newRefs n r else k :: newRefs n r := rfl
end
/-! ### comprehensions -/
section
variable {α β γ : Type} {g : AV → Slots → Option Slots} {tt : Slots → List CC → Option (Rs Bool)} {e : Slots → List CC → Option (Rs AV)} {ρ : Slots} {μ : List CC}
theorem runLc_filter (tD : α → AV) (p : α → Bool) (f : α → AV) : ∀ {as : List α}, (∀ a ∈ as, ∃ ρ2, g (tD a) ρ = some ρ2 ∧ tt ρ2 μ = some (.v (p a) μ) ∧ (p a = true → e ρ2 μ = some (.v (f a) μ))) → runLc g tt e ρ (as.map tD) μ = some ((as.filter p).map f, μ)
  | [], _ => rfl
  | a :: as, h => by
    obtain ⟨ρ2, h1, h2, h3⟩ := h a List.mem_cons_self
    have ih := runLc_filter tD p f fun a' ha => h a' (List.mem_cons_of_mem _ ha)
    simp only [List.map_cons, runLc, h1, h2]
    cases hp : p a with
    | true =>
      rw [List.filter_cons_of_pos hp]
      simp only [h3 hp, ih, List.map_cons]
    | false =>
      rw [List.filter_cons_of_neg (by rw [hp]; exact Bool.false_ne_true)]
      exact ih
theorem runLc_map (tD : α → AV) (f : α → AV) {as : List α} (h : ∀ a ∈ as, ∃ ρ2, g (tD a) ρ = some ρ2 ∧ tt ρ2 μ = some (.v true μ) ∧ e ρ2 μ = some (.v (f a) μ)) : runLc g tt e ρ (as.map tD) μ = some (as.map f, μ) := by
  have z := runLc_filter (g := g) (tt := tt) (e := e) (ρ := ρ) (μ := μ) tD (fun _ => true) f (as := as) fun a ha => by
    obtain ⟨ρ2, h1, h2, h3⟩ := h a ha
    exact ⟨ρ2, h1, h2, fun _ => h3⟩
  rwa [List.filter_eq_self.mpr (fun _ _ => rfl)] at z
/-- a walk that hands a state on -/
def mapS (st : β → α → γ × β) : β → List α → List γ × β
  | b, [] => ([], b)
  | b, a :: as => ((st b a).1 :: (mapS st (st b a).2 as).1, (mapS st (st b a).2 as).2)
theorem mapS_len (st : β → α → γ × β) : ∀ (b : β) (as : List α), (mapS st b as).1.length = as.length
  | _, [] => rfl
  | b, a :: as => by unfold mapS; exact congrArg (· + 1) (mapS_len st _ as)
theorem runLc_mapS (tD : α → AV) (tC : γ → AV) (M : β → List CC) (st : β → α → γ × β) (P : β → Prop) : ∀ {as : List α} {b : β}, P b →
    (∀ b a, a ∈ as → P b → ∃ ρ2, g (tD a) ρ = some ρ2 ∧ tt ρ2 (M b) = some (.v true (M b)) ∧ e ρ2 (M b) = some (.v (tC (st b a).1) (M (st b a).2)) ∧ P (st b a).2) →
    runLc g tt e ρ (as.map tD) (M b) = some ((mapS st b as).1.map tC, M (mapS st b as).2) ∧ P (mapS st b as).2
  | [], b, hP, _ => ⟨rfl, hP⟩
  | a :: as, b, hP, h => by
    obtain ⟨ρ2, h1, h2, h3, h4⟩ := h b a List.mem_cons_self hP
    obtain ⟨i1, i2⟩ := runLc_mapS tD tC M st P h4 fun b a' ha => h b a' (List.mem_cons_of_mem _ ha)
    refine ⟨?_, i2⟩
    simp only [List.map_cons, runLc, h1, h2, h3, i1, mapS]
theorem lc_mapS {as : List α} {z : Option (List AV × List CC)} (tD : α → AV) (tC : γ → AV) (M : β → List CC) (st : β → α → γ × β) (P : β → Prop) (b : β) (hz : runLc g tt e ρ (as.map tD) μ = z) (hm : μ = M b) (hP : P b)
    (h : ∀ b a, a ∈ as → P b → ∃ ρ2, g (tD a) ρ = some ρ2 ∧ tt ρ2 (M b) = some (.v true (M b)) ∧ e ρ2 (M b) = some (.v (tC (st b a).1) (M (st b a).2)) ∧ P (st b a).2) :
    z = some ((mapS st b as).1.map tC, M (mapS st b as).2) ∧ P (mapS st b as).2 := by
  subst hz; subst hm
  exact runLc_mapS tD tC M st P hP h
theorem lc_map {as : List α} {z : Option (List AV × List CC)} (tD : α → AV) (f : α → AV) (hz : runLc g tt e ρ (as.map tD) μ = z) (h : ∀ a ∈ as, ∃ ρ2, g (tD a) ρ = some ρ2 ∧ tt ρ2 μ = some (.v true μ) ∧ e ρ2 μ = some (.v (f a) μ)) : z = some (as.map f, μ) := by
  subst hz
  exact runLc_map tD f h
theorem lc_filter {as : List α} {z : Option (List AV × List CC)} (tD : α → AV) (p : α → Bool) (f : α → AV) (hz : runLc g tt e ρ (as.map tD) μ = z) (h : ∀ a ∈ as, ∃ ρ2, g (tD a) ρ = some ρ2 ∧ tt ρ2 μ = some (.v (p a) μ) ∧ (p a = true → e ρ2 μ = some (.v (f a) μ))) : z = some ((as.filter p).map f, μ) := by
  subst hz
  exact runLc_filter tD p f h
theorem lc_mapD {as : List α} {z : Option (List AV × List CC)} (tD : α → D) (f : α → D) (hz : runLc g tt e ρ ((as.map tD).map AV.d) μ = z) (h : ∀ a ∈ as, ∃ ρ2, g (.d (tD a)) ρ = some ρ2 ∧ tt ρ2 μ = some (.v true μ) ∧ e ρ2 μ = some (.v (.d (f a)) μ)) : z = some ((as.map f).map AV.d, μ) := by
  rw [List.map_map] at hz
  have := lc_map (AV.d ∘ tD) (AV.d ∘ f) hz h
  rw [this, List.map_map]
theorem lc_filterD {as : List α} {z : Option (List AV × List CC)} (tD : α → D) (p : α → Bool) (f : α → D) (hz : runLc g tt e ρ ((as.map tD).map AV.d) μ = z) (h : ∀ a ∈ as, ∃ ρ2, g (.d (tD a)) ρ = some ρ2 ∧ tt ρ2 μ = some (.v (p a) μ) ∧ (p a = true → e ρ2 μ = some (.v (.d (f a)) μ))) : z = some (((as.filter p).map f).map AV.d, μ) := by
  rw [List.map_map] at hz
  have := lc_filter (AV.d ∘ tD) p (AV.d ∘ f) hz h
  rw [this, List.map_map]
theorem lc_mapSD {as : List α} {z : Option (List AV × List CC)} (tD : α → AV) (tC : γ → D) (M : β → List CC) (st : β → α → γ × β) (P : β → Prop) (b : β) (hz : runLc g tt e ρ (as.map tD) μ = z) (hm : μ = M b) (hP : P b)
    (h : ∀ b a, a ∈ as → P b → ∃ ρ2, g (tD a) ρ = some ρ2 ∧ tt ρ2 (M b) = some (.v true (M b)) ∧ e ρ2 (M b) = some (.v (.d (tC (st b a).1)) (M (st b a).2)) ∧ P (st b a).2) :
    z = some (((mapS st b as).1.map tC).map AV.d, M (mapS st b as).2) ∧ P (mapS st b as).2 := by
  have := lc_mapS tD (AV.d ∘ tC) M st P b hz hm hP h
  rw [List.map_map]; exact this
theorem mapS_mem {Pc : γ → Prop} (st : β → α → γ × β) (P : β → Prop) : ∀ {as : List α} {b : β}, P b → (∀ b a, a ∈ as → P b → Pc (st b a).1 ∧ P (st b a).2) → ∀ c ∈ (mapS st b as).1, Pc c
  | [], _, _, _, c, hc => absurd hc List.not_mem_nil
  | a :: as, b, hP, h, c, hc => by
    unfold mapS at hc
    rcases List.mem_cons.mp hc with q | q
    · exact q ▸ (h b a List.mem_cons_self hP).1
    · exact mapS_mem st P (h b a List.mem_cons_self hP).2 (fun b a' ha => h b a' (List.mem_cons_of_mem _ ha)) c q
end
/-! ### calls -/
theorem callM_1 {F : Fn} {args : List AV} {μ : List CC} {k : Nat} {c c' : CC} {o : Out} (hk : μ[k]? = some c) (hc : cellsOf args = [k]) (hF : F (args.map (renum [k])) [c] = some (o, [c'])) (hd : c.isD = true) (hd' : c'.isD = true) : callM F args μ = some (o, μ.set k c') := by
  unfold callM
  rw [hc]
  have h1 : ([k].all (hasD μ)) = true := by simp only [List.all_cons, List.all_nil, Bool.and_true, hasD, hk, hd]
  rw [if_pos h1]
  have h2 : ([k].map fun k => μ.getD k (.lst [])) = [c] := by rw [List.map_cons, List.map_nil, getD_some hk]
  rw [h2, hF]
  simp only [List.length_cons, List.length_nil, List.all_cons, List.all_nil, hd', Bool.and_true, and_self, if_true, setAll]
theorem callM_0 {F : Fn} {ds : List D} {μ : List CC} {o : Out} (hF : F (ds.map .d) [] = some (o, [])) : callM F (ds.map .d) μ = some (o, μ) := by
  have hc : ∀ ds : List D, cellsOf (ds.map AV.d) = [] := fun ds => by
    induction ds with
    | nil => rfl
    | cons d ds ih => exact ih
  rw [call_0 (ds := ds) (hc ds), hF]
theorem sub_len {α : Type} [DecidableEq α] : ∀ {xs ys : List α}, xs.Nodup → (∀ x ∈ xs, x ∈ ys) → xs.length ≤ ys.length
  | [], _, _, _ => Nat.zero_le _
  | x :: xs, ys, nd, h => by
    obtain ⟨n1, n2⟩ := List.nodup_cons.mp nd
    have hx := h x List.mem_cons_self
    have ih := sub_len (xs := xs) (ys := ys.erase x) n2 fun z hz => (List.mem_erase_of_ne (fun e : z = x => n1 (by rw [← e]; exact hz))).mpr (h z (List.mem_cons_of_mem _ hz))
    rw [List.length_erase_of_mem hx] at ih
    have : 0 < ys.length := List.length_pos_of_mem hx
    rw [List.length_cons]; omega
theorem callM_d1 {F : Fn} {a : D} {μ : List CC} : callM F [.d a] μ = (match F [.d a] [] with | some (o, []) => some (o, μ) | _ => none) := call_0 (ds := [a]) rfl
theorem callM_d2 {F : Fn} {a b : D} {μ : List CC} : callM F [.d a, .d b] μ = (match F [.d a, .d b] [] with | some (o, []) => some (o, μ) | _ => none) := call_0 (ds := [a]) rfl
theorem callM_d3 {F : Fn} {a b c : D} {μ : List CC} : callM F [.d a, .d b, .d c] μ = (match F [.d a, .d b, .d c] [] with | some (o, []) => some (o, μ) | _ => none) := call_0 (ds := [a]) rfl
theorem callM_d4 {F : Fn} {a b c d : D} {μ : List CC} : callM F [.d a, .d b, .d c, .d d] μ = (match F [.d a, .d b, .d c, .d d] [] with | some (o, []) => some (o, μ) | _ => none) := call_0 (ds := [a]) rfl
/-! ### ranges -/
theorem rangeL0 (n : Nat) : (rangeL 0 n).map AV.d = (List.range n).map fun k => AV.d (nD k) := by rw [rangeL_nat, List.map_map]; rfl
theorem allP {α : Type} (p : α → Bool) (as : List α) : (as.map p).all id = as.all p := by rw [List.all_map]; rfl
theorem anyP {α : Type} (p : α → Bool) (as : List α) : (as.map p).any id = as.any p := by rw [List.any_map]; rfl
theorem toD_mapf {α : Type} (f : α → D) (as : List α) : toD (as.map fun a => AV.d (f a)) = some (as.map f) := by
  have := toD_map (as.map f)
  rw [List.map_map] at this; exact this
theorem isD_map {α : Type} (f : α → D) (as : List α) : (as.map fun a => AV.d (f a)).all AV.isD = true := by rw [List.all_map]; exact List.all_eq_true.mpr fun _ _ => rfl
theorem isD_lst {xs : List AV} : CC.isD (.lst xs) = xs.all AV.isD := rfl
theorem isD_d {d : D} : AV.isD (.d d) = true := rfl
end FX

set_option Elab.async false
set_option linter.all false
set_option maxRecDepth 100000
set_option maxHeartbeats 4000000
/-! FX9: generators, reckoned: what is handed out, walked to its end. -/
namespace FX
open PySem PySem.Spec PyProof.Rows L2 DL GenW
inductive Gt where
  | nx (ρ : Slots) (μ : List CC) (o : List D) | bk (ρ : Slots) (μ : List CC) (o : List D) | ct (ρ : Slots) (μ : List CC) (o : List D) | rt (r : AV) (μ : List CC) (o : List D) | xc (ρ : Slots) (c : Value) (fs : List (Str × D)) (μ : List CC)
def Gt.sat (P : GPo) : Gt → Prop
  | .nx ρ μ o => P.nx ρ μ o
  | .bk ρ μ o => P.bk ρ μ o
  | .ct ρ μ o => P.ct ρ μ o
  | .rt r μ o => P.rt r μ o
  | .xc ρ c fs μ => P.xc ρ c fs μ
def Gt.po : Gt → GPo
  | .nx ρ μ o => { nx := fun ρ' μ' o' => Fgt ρ' ρ ∧ μ' = μ ∧ o' = o }
  | .bk ρ μ o => { nx := fun _ _ _ => False, bk := fun ρ' μ' o' => Fgt ρ' ρ ∧ μ' = μ ∧ o' = o }
  | .ct ρ μ o => { nx := fun _ _ _ => False, ct := fun ρ' μ' o' => Fgt ρ' ρ ∧ μ' = μ ∧ o' = o }
  | .rt r μ o => { nx := fun _ _ _ => False, rt := fun r' μ' o' => r' = r ∧ μ' = μ ∧ o' = o }
  | .xc ρ c fs μ => { nx := fun _ _ _ => False, xc := fun ρ' c' fs' μ' => Fgt ρ' ρ ∧ c' = c ∧ fs' = fs ∧ μ' = μ }
theorem GSV.of {K : PySem.W.Frag} {W : WX} {t : TGn} {ρ : Slots} {μ : List CC} {out : List D} {P : GPo} {r : Gt} (h : GSV K W t ρ μ out r.po) (s : r.sat P) : GSV K W t ρ μ out P := fun α0 Z0 H0 α Z σ H ys D w0 g ok sl rr kk => by
  refine h α0 Z0 H0 α Z σ H ys D w0 g ok sl rr ?_
  cases r with
  | nx ρ1 μ1 o1 => exact ⟨fun ρ' μ' o' α' Z' σ' H' ys' ⟨f, e, e2⟩ g' ok' sl' r' => kk.nx ρ1 μ1 o1 α' Z' σ' H' ys' s g' (e ▸ ok') (sl'.weak f.len f.at_) (e2 ▸ r'), fun _ _ _ _ _ _ _ _ q => q.elim, fun _ _ _ _ _ _ _ _ q => q.elim, fun _ _ _ _ _ _ _ _ q => q.elim, fun _ _ _ _ _ _ _ _ _ q => q.elim⟩
  | bk ρ1 μ1 o1 => exact ⟨fun _ _ _ _ _ _ _ _ q => q.elim, fun _ _ _ _ _ _ _ _ q => q.elim, fun ρ' μ' o' α' Z' σ' H' ys' ⟨f, e, e2⟩ g' ok' sl' r' => kk.bk ρ1 μ1 o1 α' Z' σ' H' ys' s g' (e ▸ ok') (sl'.weak f.len f.at_) (e2 ▸ r'), fun _ _ _ _ _ _ _ _ q => q.elim, fun _ _ _ _ _ _ _ _ _ q => q.elim⟩
  | ct ρ1 μ1 o1 => exact ⟨fun _ _ _ _ _ _ _ _ q => q.elim, fun _ _ _ _ _ _ _ _ q => q.elim, fun _ _ _ _ _ _ _ _ q => q.elim, fun ρ' μ' o' α' Z' σ' H' ys' ⟨f, e, e2⟩ g' ok' sl' r' => kk.ct ρ1 μ1 o1 α' Z' σ' H' ys' s g' (e ▸ ok') (sl'.weak f.len f.at_) (e2 ▸ r'), fun _ _ _ _ _ _ _ _ _ q => q.elim⟩
  | rt r1 μ1 o1 => exact ⟨fun _ _ _ _ _ _ _ _ q => q.elim, fun r' μ' o' v α' Z' H' ys' ⟨e1, e2, e3⟩ g' ok' rv r2 => kk.rt r1 μ1 o1 v α' Z' H' ys' s g' (e2 ▸ ok') (e1 ▸ rv) (e3 ▸ r2), fun _ _ _ _ _ _ _ _ q => q.elim, fun _ _ _ _ _ _ _ _ q => q.elim, fun _ _ _ _ _ _ _ _ _ q => q.elim⟩
  | xc ρ1 c fs μ1 => exact ⟨fun _ _ _ _ _ _ _ _ q => q.elim, fun _ _ _ _ _ _ _ _ q => q.elim, fun _ _ _ _ _ _ _ _ q => q.elim, fun _ _ _ _ _ _ _ _ q => q.elim, fun ρ' c' fs' μ' d α' Z' σ' H' ⟨f, e1, e2, e3⟩ g' ok' sl' xo => by
      subst e1; subst e2; subst e3
      exact kk.xc ρ1 _ _ _ d α' Z' σ' H' s g' ok' (sl'.weak f.len f.at_) xo⟩
theorem GSV.fgt' {K : PySem.W.Frag} {W : WX} {t : TGn} {ρ ρ' : Slots} {μ : List CC} {out : List D} {P : GPo} (f : Fgt ρ ρ') (h : GSV K W t ρ' μ out P) : GSV K W t ρ μ out P := GSV.fgt f h
structure XGS where
  t : PySem.W.Frag → WX → TGn
  ev : Slots → List CC → List D → Option Gt
  ok : ∀ {K W ρ μ o r}, ev ρ μ o = some r → GSV K W (t K W) ρ μ o r.po
def thenG : Option Gt → (Slots → List CC → List D → Option Gt) → Option Gt
  | some (.nx ρ μ o), k => k ρ μ o
  | r, _ => r
def xG0 : XGS where
  t _ _ := tG0
  ev ρ μ o := some (.nx ρ μ o)
  ok h := by cases h; exact gsv_nil ⟨fgt_refl _, rfl, rfl⟩
def xGThen (a b : XGS) : XGS where
  t K W := tGThen (a.t K W) (b.t K W)
  ev ρ μ o := thenG (a.ev ρ μ o) b.ev
  ok {K W ρ μ o r} h := by
    cases q : a.ev ρ μ o with
    | none => simp only [q] at h; cases h
    | some r1 =>
      simp only [q] at h
      refine gsv_then (GSV.of (a.ok q) ?_)
      cases r1 with
      | nx ρ1 μ1 o1 => exact b.ok h
      | bk ρ1 μ1 o1 => cases h; exact ⟨fgt_refl _, rfl, rfl⟩
      | ct ρ1 μ1 o1 => cases h; exact ⟨fgt_refl _, rfl, rfl⟩
      | rt r1 μ1 o1 => cases h; exact ⟨rfl, rfl, rfl⟩
      | xc ρ1 c fs μ1 => cases h; exact ⟨fgt_refl _, rfl, rfl, rfl⟩
def liftG (o : List D) : Ct → Gt
  | .nx ρ μ => .nx ρ μ o
  | .bk ρ μ => .bk ρ μ o
  | .ct ρ μ => .ct ρ μ o
  | .rt r μ => .rt r μ o
  | .xc ρ c fs μ => .xc ρ c fs μ
/-- a statement that hands out nothing -/
def xGPlain (s : XS) : XGS where
  t K W := tPlain (s.t K W)
  ev ρ μ o := (s.ev ρ μ).map (liftG o)
  ok {K W ρ μ o r} h := by
    obtain ⟨c, q, rfl⟩ := map_some_inv h
    refine gsv_plain (SV.of (s.ok q) ?_)
    cases c with
    | nx ρ1 μ1 => exact ⟨fgt_refl _, rfl, rfl⟩
    | bk ρ1 μ1 => exact ⟨fgt_refl _, rfl, rfl⟩
    | ct ρ1 μ1 => exact ⟨fgt_refl _, rfl, rfl⟩
    | rt r1 μ1 => exact ⟨rfl, rfl, rfl⟩
    | xc ρ1 c fs μ1 => exact ⟨fgt_refl _, rfl, rfl, rfl⟩
def xGIf (c : XT) (a b : XGS) : XGS where
  t K W := tGIf (c.t K W) (a.t K W) (b.t K W)
  ev ρ μ o := match c.ev ρ μ with
    | some (.v true μ1) => a.ev ρ μ1 o
    | some (.v false μ1) => b.ev ρ μ1 o
    | _ => none
  ok {K W ρ μ o r} h := by
    split at h
    · rename_i q; exact gsv_if (c.ok q) (fun _ => a.ok h) fun z => nomatch z
    · rename_i q; exact gsv_if (c.ok q) (fun z => nomatch z) fun _ => b.ok h
    · cases h
def xGYield (a : XE) : XGS where
  t K W := tGYield (a.t K W)
  ev ρ μ o := match a.ev ρ μ with
    | some (.v (.d d) μ1) => if o.length ≤ 100000 then some (.nx ρ μ1 (o ++ [d])) else none
    | _ => none
  ok {K W ρ μ o r} h := by
    split at h
    · rename_i q
      split at h
      · cases h; exact gsv_yield (a.ok q) (by assumption) ⟨fgt_refl _, rfl, rfl⟩
      · cases h
    · cases h
def runGFor (g : AV → Slots → Option Slots) (b : Slots → List CC → List D → Option Gt) (ks : List Nat) : List AV → Slots → List CC → List D → Option Gt
  | [], ρ, μ, o => some (.nx (wipeA ρ ks) μ o)
  | a :: as, ρ, μ, o => match g a (wipeA ρ ks) with
    | none => none
    | some ρ1 => match b ρ1 μ o with
      | some (.nx ρ2 μ2 o2) => runGFor g b ks as ρ2 μ2 o2
      | some (.ct ρ2 μ2 o2) => runGFor g b ks as ρ2 μ2 o2
      | some (.bk ρ2 μ2 o2) => some (.nx (wipeA ρ2 ks) μ2 o2)
      | r => r
def xGFor (it : XI) (g : XG) (ks : List Nat) (b : XGS) : XGS where
  t K W := tGFor (it.t K W) (g.t K) (b.t K W)
  ev ρ μ o := match it.ev ρ μ with
    | some (.v items μ1) => runGFor g.ev b.ev ks items ρ μ1 o
    | _ => none
  ok {K W ρ μ o r} h := by
    split at h
    · rename_i items μ1 h1
      refine gsv_for (it.ok h1) (fun i ρ1 μ2 o2 => runGFor g.ev b.ev ks (items.drop i) ρ1 μ2 o2 = some r) h ?_ ?_
      · intro i d ρ1 μ2 o2 hd hI
        have hi : i < items.length := (List.getElem?_eq_some_iff.mp hd).1
        have hdr : items.drop i = d :: items.drop (i + 1) := by rw [List.drop_eq_getElem_cons hi]; congr 1; exact (List.getElem?_eq_some_iff.mp hd).2
        rw [hdr] at hI
        simp only [runGFor] at hI
        cases hg : g.ev d (wipeA ρ1 ks) with
        | none => simp only [hg] at hI; cases hI
        | some ρ2 =>
          simp only [hg] at hI
          refine ⟨ρ2, g.js, (g.ok hg).fgt (fgt_wipe _ _), ?_⟩
          cases hb : b.ev ρ2 μ2 o2 with
          | none => simp only [hb] at hI; cases hI
          | some r1 =>
            simp only [hb] at hI
            refine GSV.of (b.ok hb) ?_
            cases r1 with
            | nx ρ3 μ3 o3 => exact hI
            | ct ρ3 μ3 o3 => exact hI
            | bk ρ3 μ3 o3 => cases hI; exact ⟨fgt_wipe _ _, rfl, rfl⟩
            | rt x μ3 o3 => cases hI; exact ⟨rfl, rfl, rfl⟩
            | xc ρ3 c fs μ3 => cases hI; exact ⟨fgt_refl _, rfl, rfl, rfl⟩
      · intro ρ1 μ2 o2 hI
        rw [List.drop_length] at hI
        cases hI
        exact ⟨fgt_wipe _ _, rfl, rfl⟩
    · cases h
/-! ### a generator def by its body -/
def finG : Gt → Option (Out × List CC)
  | .nx _ _ o => some (.new o, [])
  | .rt (.d .non) _ o => some (.new o, [])
  | .xc _ c fs _ => some (.exc c fs, [])
  | _ => none
def runGen (nP nN : Nat) (b : Slots → List CC → List D → Option Gt) : Fn := fun args μ =>
  if args.length = nP ∧ μ.length = 0 then (match b (args.map some ++ List.replicate (nN - args.length) none) [] [] with
    | some r => finG r
    | none => none) else none
theorem gfx_body {P : Program} {w : World} {K : PySem.W.Frag} {mg : Str → Option Value} {base : Heap} {x qual : Str} {st : Stmt} {f : Addr} {fd : FuncData} {N ps : List Str} {k : Nat} {b : XGS} (F : Fun K x qual st f fd) (S : GScope N ps (defScope st))
    (hb : ∀ (cdv : Value) (A : Around) (outer : List Env) (s : Shared) (H : Hp) (E : XK) (pn : List (Addr × Obj)), Room k (A.deeper (envOfC qual (defScope st) s.heap.objs.size f cdv)) →
      ∃ t, GSs (gcxOf P w K mg base N qual (defScope st) f cdv A outer s H E pn) (defBody st) t ∧ t = b.t K (fun c d _ H => E c d H)) :
    GFn P w K mg base (k + 1) f fd ps (SpGR K (gr (runGen ps.length N.length b.ev))) := by
  have key : ∀ {args o}, gr (runGen ps.length N.length b.ev) args [] o [] → args.length = ps.length ∧ ∃ r, b.ev (startA N args) [] [] = some r ∧ finG r = some (o, []) := fun {args o} h => by
    unfold gr runGen at h
    split at h
    · rename_i hl
      split at h
      · rename_i r hr
        exact ⟨hl.1, r, hr, h⟩
      · cases h
    · cases h
  refine gfng_body F S (fun args o h => (key h).1) fun cdv A outer s H E pn hr => ?_
  obtain ⟨t, ht, rfl⟩ := hb cdv A outer s H E pn hr
  refine ⟨_, ht, fun args o h => ?_⟩
  obtain ⟨_, r, h2, h3⟩ := key h
  refine GSV.of (b.ok h2) ?_
  cases r with
  | nx ρ μ o1 => cases h3; rfl
  | rt r1 μ o1 =>
    unfold finG at h3
    cases r1 with
    | cell k => cases h3
    | d d => cases d <;> first | (cases h3; exact ⟨rfl, rfl⟩) | cases h3
  | bk ρ μ o1 => cases h3
  | ct ρ μ o1 => cases h3
  | xc ρ c fs μ => cases h3; rfl
/-- list(f(a, .., x=b, ..)), f a generator def -/
def xListG (F : Fn) (n m : Nat) (a b : XA) : XN where
  t K W := tListG (tCallGN n m (SpGR K (gr F)) (fun _ _ _ => False) (a.t K W) (b.t K W))
  ev ρ μ := bnd (a.ev ρ μ) fun xs μ1 => bnd (b.ev ρ μ1) fun ys μ2 => match toD xs, toD ys with
    | some as, some bs => if as.length = n ∧ bs.length = m then (match F ((as ++ bs).map .d) [] with
      | some (.new zs, []) => some (.v (zs.map .d) μ2)
      | _ => none) else none
    | _, _ => none
  ok h := by
    obtain ⟨xs, μ1, h1, h⟩ := bnd_v_inv h
    obtain ⟨ys, μ2, h2, h⟩ := bnd_v_inv h
    split at h
    · rename_i as bs q1 q2
      split at h
      · rename_i hl
        split at h
        · rename_i zs hF
          cases h
          have e1 := toD_inv q1; subst e1
          have e2 := toD_inv q2; subst e2
          exact en_listG (a.ok h1) (b.ok h2) hl.1 hl.2 hF
        · cases h
      · cases h
    · cases h
  ex h := by
    rcases bnd_x_inv h with h1 | ⟨xs, μ1, h1, h⟩
    · exact fun α Z σ H ok sl Q k => a.ex h1 α Z σ H ok sl _ k
    rcases bnd_x_inv h with h2 | ⟨ys, μ2, h2, h⟩
    · exact fun α Z σ H ok sl Q k => a.ok h1 α Z σ H ok sl _ fun v1 H1 e1 ok1 r1 => b.ex h2 α Z σ H1 ok1 (sl.ext ok e1) _ fun d H' e o x => k d H' (e1.trans e) o x
    split at h
    · split at h
      · split at h <;> cases h
      · cases h
    · cases h
section
variable {ρ : Slots} {μ : List CC} {o : List D} {a b : XGS} {s : XS} {t : XT} {e : XE} {it : XI} {g : XG} {ks : List Nat} {as bs : XA} {n m : Nat} {F : Fn}
theorem e_xG0 : xG0.ev ρ μ o = some (.nx ρ μ o) := rfl
theorem e_xGThen : (xGThen a b).ev ρ μ o = thenG (a.ev ρ μ o) b.ev := rfl
theorem e_xGPlain : (xGPlain s).ev ρ μ o = (s.ev ρ μ).map (liftG o) := rfl
theorem e_xGIf : (xGIf t a b).ev ρ μ o = (match t.ev ρ μ with | some (.v true μ1) => a.ev ρ μ1 o | some (.v false μ1) => b.ev ρ μ1 o | _ => none) := rfl
theorem e_xGYield : (xGYield e).ev ρ μ o = (match e.ev ρ μ with | some (.v (.d d) μ1) => if o.length ≤ 100000 then some (.nx ρ μ1 (o ++ [d])) else none | _ => none) := rfl
theorem e_xGFor : (xGFor it g ks a).ev ρ μ o = (match it.ev ρ μ with | some (.v items μ1) => runGFor g.ev a.ev ks items ρ μ1 o | _ => none) := rfl
theorem e_xListG : (xListG F n m as bs).ev ρ μ = bnd (as.ev ρ μ) fun xs μ1 => bnd (bs.ev ρ μ1) fun ys μ2 => match toD xs, toD ys with
    | some as, some bs => if as.length = n ∧ bs.length = m then (match F ((as ++ bs).map .d) [] with
      | some (.new zs, []) => some (.v (zs.map .d) μ2)
      | _ => none) else none
    | _, _ => none := rfl
theorem gthen_nx {k : Slots → List CC → List D → Option Gt} : thenG (some (.nx ρ μ o)) k = k ρ μ o := rfl
theorem gthen_xc {k : Slots → List CC → List D → Option Gt} {c : Value} {fs : List (Str × D)} : thenG (some (.xc ρ c fs μ)) k = some (.xc ρ c fs μ) := rfl
theorem glift_nx : liftG o (.nx ρ μ) = .nx ρ μ o := rfl
theorem glift_xc {c : Value} {fs : List (Str × D)} : liftG o (.xc ρ c fs μ) = .xc ρ c fs μ := rfl
theorem gfin_nx : finG (.nx ρ μ o) = some (.new o, []) := rfl
theorem gfin_xc {c : Value} {fs : List (Str × D)} : finG (.xc ρ c fs μ) = some (.exc c fs, []) := rfl
variable {α β : Type} {gg : AV → Slots → Option Slots} {body : Slots → List CC → List D → Option Gt}
theorem gfor_fold {as : List α} {z : Option Gt} (tD : α → AV) (S : β → Slots) (M : β → List CC) (O : β → List D) (f : β → α → β) : ∀ (P : Nat → β → Prop) (b0 : β) {ρ : Slots} {μ : List CC} {o : List D}, runGFor gg body ks (as.map tD) ρ μ o = z → wipeA ρ ks = S b0 → μ = M b0 → o = O b0 → P 0 b0 →
    (∀ i b a, as[i]? = some a → P i b → ∃ ρ1, gg (tD a) (S b) = some ρ1 ∧ ∃ ρ2, body ρ1 (M b) (O b) = some (.nx ρ2 (M (f b a)) (O (f b a))) ∧ wipeA ρ2 ks = S (f b a) ∧ P (i + 1) (f b a)) →
    z = some (.nx (S (as.foldl f b0)) (M (as.foldl f b0)) (O (as.foldl f b0))) ∧ P as.length (as.foldl f b0) := by
  induction as with
  | nil =>
    intro P b0 ρ μ o hz hw hm ho hP _
    subst hm; subst ho; subst hz
    exact ⟨by simp only [List.map_nil, runGFor, hw, List.foldl_nil], hP⟩
  | cons a as ih =>
    intro P b0 ρ μ o hz hw hm ho hP h
    subst hm; subst ho
    obtain ⟨ρ1, h1, ρ2, h2, h3, h4⟩ := h 0 b0 a rfl hP
    simp only [List.map_cons, runGFor, hw, h1, h2] at hz
    exact ih (fun i => P (i + 1)) (f b0 a) hz h3 rfl rfl h4 fun i b a' ha => h (i + 1) b a' (by simpa using ha)
theorem gfor_foldD {as : List α} {z : Option Gt} (tD : α → D) (S : β → Slots) (M : β → List CC) (O : β → List D) (f : β → α → β) (P : Nat → β → Prop) (b0 : β) {ρ : Slots} {μ : List CC} {o : List D} (hz : runGFor gg body ks ((as.map tD).map AV.d) ρ μ o = z) (hw : wipeA ρ ks = S b0) (hm : μ = M b0) (ho : o = O b0) (hP : P 0 b0)
    (hs : ∀ i b a, as[i]? = some a → P i b → ∃ ρ1, gg (.d (tD a)) (S b) = some ρ1 ∧ ∃ ρ2, body ρ1 (M b) (O b) = some (.nx ρ2 (M (f b a)) (O (f b a))) ∧ wipeA ρ2 ks = S (f b a) ∧ P (i + 1) (f b a)) :
    z = some (.nx (S (as.foldl f b0)) (M (as.foldl f b0)) (O (as.foldl f b0))) ∧ P as.length (as.foldl f b0) := by
  rw [List.map_map] at hz
  exact gfor_fold (AV.d ∘ tD) S M O f P b0 hz hw hm ho hP hs
end
end FX

set_option Elab.async false
set_option linter.all false
set_option maxRecDepth 100000
set_option maxHeartbeats 4000000
/-! FX10: dicts as data: displayed, asked. -/
namespace FX
open PySem PySem.Spec PyProof.Rows L2 DL
def keyOf : AV → Option Key
  | .d (.str s) => some (.inr s)
  | .d (.int i) => some (.inl i)
  | _ => none
theorem keyOf_rp {K : PySem.W.Frag} {α Z : List Addr} {H : Hp} {v : V} {x : AV} {k : Key} (h : keyOf x = some k) (r : RpV K α Z H v x) : v = kV k := by
  unfold keyOf at h
  split at h
  · cases h; cases r with | d r => cases r; rfl
  · cases h; cases r with | d r => cases r; rfl
  · cases h
def valD (es : List (Key × D)) (k : Key) : Option D := (es.find? fun kv => decide (kv.1 = k)).map (·.2)
theorem RpK.val {K : PySem.W.Frag} {Z : List Addr} {H : Hp} {k : Key} : ∀ {ks : List (Key × V)} {es : List (Key × D)} {d : D}, RpK K Z H ks es → valD es k = some d → ∃ v, valV ks k = some v ∧ Rp K Z H v d
  | _, _, _, .nil, h => by cases h
  | (k1, v) :: ks, (_, x) :: es, d, .cons r rs, h => by
    by_cases e : k1 = k
    · have h2 : valD ((k1, x) :: es) k = some x := by simp [valD, List.find?_cons, e]
      rw [h2] at h; cases h
      exact ⟨v, valV_pos e, r⟩
    · have h2 : valD ((k1, x) :: es) k = valD es k := by simp [valD, List.find?_cons, e]
      rw [h2] at h
      obtain ⟨w, q1, q2⟩ := RpK.val rs h
      exact ⟨w, by rw [valV_neg e]; exact q1, q2⟩
/-- d[k], k in d -/
def xDGet (a b : XE) : XE where
  t K W := tDGet (a.t K W) (b.t K W)
  ev ρ μ := bnd (a.ev ρ μ) fun x μ1 => bnd (b.ev ρ μ1) fun y μ2 => match x, keyOf y with
    | .d (.dct es), some k => (match valD es k with
      | some d => some (.v (.d d) μ2)
      | none => none)
    | _, _ => none
  ok {K W ρ μ x μ'} h := by
    obtain ⟨x, μ1, h1, h⟩ := bnd_v_inv h
    obtain ⟨y, μ2, h2, h⟩ := bnd_v_inv h
    cases hk : keyOf y with
    | none => simp only [hk] at h; cases h
    | some k =>
    simp only [hk] at h
    cases x with
    | cell j => cases h
    | d dx =>
    cases dx with
    | dct es =>
      simp only at h
      cases hd : valD es k with
      | none => simp only [hd] at h; cases h
      | some d =>
        simp only [hd] at h
        cases h
        exact fun α Z σ H ok sl Q kk => a.ok h1 α Z σ H ok sl _ fun v1 H1 e1 ok1 r1 => b.ok h2 α Z σ H1 ok1 (sl.ext ok e1) _ fun v2 H2 e2 ok2 r2 => by
          have r1' := r1.ext ok1 e2
          have ek := keyOf_rp hk r2
          subst ek
          cases r1' with
          | d r1 => cases r1 with
            | dct n q r =>
              obtain ⟨w, q1, q2⟩ := RpK.val r hd
              exact ⟨_, w, rfl, by rw [← q1]; exact DGet.k q, kk w H2 (e1.trans e2) ok2 (.d q2)⟩
    | _ => cases h
  ex h := by
    rcases bnd_x_inv h with h1 | ⟨x, μ1, h1, h⟩
    · exact fun α Z σ H ok sl Q k => a.ex h1 α Z σ H ok sl _ k
    rcases bnd_x_inv h with h2 | ⟨y, μ2, h2, h⟩
    · exact fun α Z σ H ok sl Q k => a.ok h1 α Z σ H ok sl _ fun v1 H1 e1 ok1 r1 => b.ex h2 α Z σ H1 ok1 (sl.ext ok e1) _ fun d H' e o x => k d H' (e1.trans e) o x
    split at h
    · split at h <;> cases h
    · cases h
/-! ### displays -/
structure XPs where
  t : PySem.W.Frag → WX → List (TE × TE)
  ev : Slots → List CC → Option (Rs (List (Key × D)))
  ok : ∀ {K W ρ μ es μ'}, ev ρ μ = some (.v es μ') → ∀ (α Z : List Addr) (σ : L2.St) (H : Hp), Okay K α Z H μ → SlotsOk K α Z H σ ρ → ∀ Q : List (V × V) → Hp → Prop,
    (∀ (kvs : List (Key × V)) H', Ext α H H' → Okay K α Z H' μ' → RpK K Z H' kvs es → Q (kvs.map fun kv => (kV kv.1, kv.2)) H') → tPairs (t K W) σ H Q
def xPNil : XPs where
  t _ _ := []
  ev _ μ := some (.v [] μ)
  ok h := by cases h; exact fun α Z σ H ok sl Q k => k [] H (.refl _ _) ok .nil
def xPCons (a b : XE) (r : XPs) : XPs where
  t K W := (a.t K W, b.t K W) :: r.t K W
  ev ρ μ := bnd (a.ev ρ μ) fun x μ1 => bnd (b.ev ρ μ1) fun y μ2 => bnd (r.ev ρ μ2) fun es μ3 => match keyOf x, y with
    | some k, .d d => some (.v ((k, d) :: es) μ3)
    | _, _ => none
  ok {K W ρ μ es μ'} h := by
    obtain ⟨x, μ1, h1, h⟩ := bnd_v_inv h
    obtain ⟨y, μ2, h2, h⟩ := bnd_v_inv h
    obtain ⟨es, μ3, h3, h⟩ := bnd_v_inv h
    cases hk : keyOf x with
    | none => simp only [hk] at h; cases h
    | some k =>
    simp only [hk] at h
    cases y with
    | cell j => cases h
    | d d =>
      cases h
      exact fun α Z σ H ok sl Q kk => a.ok h1 α Z σ H ok sl _ fun v1 H1 e1 ok1 r1 => b.ok h2 α Z σ H1 ok1 (sl.ext ok e1) _ fun v2 H2 e2 ok2 r2 => r.ok h3 α Z σ H2 ok2 (sl.ext ok (e1.trans e2)) _ fun kvs H3 e3 ok3 r3 => by
        have ek := keyOf_rp hk r1
        subst ek
        have r2' := r2.ext ok2 e3
        cases r2' with
        | d r2 => exact kk ((k, v2) :: kvs) H3 (e1.trans (e2.trans e3)) ok3 (.cons r2 r3)
theorem putK_new {kvs : List (Key × V)} {k : Key} {v : V} (h : k ∉ kvs.map (·.1)) : putK kvs k v = kvs ++ [(k, v)] := by
  unfold putK
  rw [if_neg]
  intro q
  obtain ⟨kv, q1, q2⟩ := List.any_eq_true.mp q
  exact h (List.mem_map.mpr ⟨kv, q1, by simpa using q2⟩)
theorem mergeK_new : ∀ {more kvs : List (Key × V)}, (kvs.map (·.1) ++ more.map (·.1)).Nodup → mergeK kvs more = kvs ++ more
  | [], kvs, _ => by simp [mergeK]
  | (k, v) :: more, kvs, h => by
    have hk : k ∉ kvs.map (·.1) := fun q => by
      rw [List.nodup_append] at h
      exact h.2.2 k q k List.mem_cons_self rfl
    unfold mergeK
    rw [List.foldl_cons]
    show mergeK (putK kvs k v) more = _
    rw [putK_new hk, mergeK_new (by rw [List.map_append, List.append_assoc]; exact h), List.append_assoc]; rfl
theorem RpK.keys {K : PySem.W.Frag} {Z : List Addr} {H : Hp} : ∀ {ks : List (Key × V)} {es : List (Key × D)}, RpK K Z H ks es → ks.map (·.1) = es.map (·.1)
  | _, _, .nil => rfl
  | _, _, .cons _ r => by rw [List.map_cons, List.map_cons, RpK.keys r]
/-- {k: v, ..}, the keys different -/
def xDct (ps : XPs) : XE where
  t K W := tDisp (ps.t K W)
  ev ρ μ := match ps.ev ρ μ with
    | some (.v es μ1) => if (es.map (·.1)).Nodup ∧ es.length ≤ 15 then some (.v (.d (.dct es)) μ1) else none
    | _ => none
  ok {K W ρ μ x μ'} h := by
    split at h
    · rename_i es μ1 h1
      split at h
      · rename_i hn
        cases h
        intro α Z σ H ok sl Q k p hp
        have e0 : Ext [] H (upd H p (.dK [])) := Ext.laid hp
        have ok1 : Okay K α (p :: Z) (upd H p (.dK [])) μ := ok.keepOff hp e0 ⟨_, upd_same⟩
        have hpα : p ∉ α := fun q => ok.w.off hp (ok.w.sub p q)
        refine ps.ok h1 α (p :: Z) σ _ ok1 (sl.gr ok.w (Gr.new1 hp e0)) _ fun kvs H2 e2 ok2 r2 => ?_
        have hp2 : H2 p = some (.dK []) := e2 p hpα _ upd_same
        have hk := RpK.keys r2
        have hlen : kvs.length = es.length := by have := congrArg List.length hk; simpa using this
        refine ⟨hp2, kvs, rfl, by omega, ?_⟩
        rw [mergeK_new (by rw [List.map_nil, List.nil_append, hk]; exact hn.1), List.nil_append]
        have ok3 : Okay K α (p :: Z) (upd H2 p (.dK kvs)) μ' := ok2.touch List.mem_cons_self hpα
        refine k _ _ (fun a ha o q => ?_) (ok3.less ok.w.sub) (.d (.dct (ok.w.off hp) upd_same ?_))
        · have ne : a ≠ p := ne_of_none q hp
          rw [upd_ne ne]
          exact e2 a ha o (by rw [upd_ne ne]; exact q)
        · exact (RpK.mono (α := [p]) (fun a ha => by rw [List.mem_singleton.mp ha]; exact List.mem_cons_self) Ext.touch r2).weak fun a ha => List.mem_cons_of_mem _ ha
      · cases h
    · cases h
  ex h := by
    split at h
    · split at h <;> cases h
    · cases h
section
variable {ρ : Slots} {μ : List CC} {a b : XE} {ps : XPs} {es : List (Key × D)} {s t : Str} {i j : Int} {d : D}
theorem e_xDGet : (xDGet a b).ev ρ μ = bnd (a.ev ρ μ) fun x μ1 => bnd (b.ev ρ μ1) fun y μ2 => match x, keyOf y with
    | .d (.dct es), some k => (match valD es k with
      | some d => some (.v (.d d) μ2)
      | none => none)
    | _, _ => none := rfl
theorem e_xPNil : xPNil.ev ρ μ = some (.v [] μ) := rfl
theorem e_xPCons : (xPCons a b ps).ev ρ μ = bnd (a.ev ρ μ) fun x μ1 => bnd (b.ev ρ μ1) fun y μ2 => bnd (ps.ev ρ μ2) fun es μ3 => match keyOf x, y with
    | some k, .d d => some (.v ((k, d) :: es) μ3)
    | _, _ => none := rfl
theorem e_xDct : (xDct ps).ev ρ μ = (match ps.ev ρ μ with
    | some (.v es μ1) => if (es.map (·.1)).Nodup ∧ es.length ≤ 15 then some (.v (.d (.dct es)) μ1) else none
    | _ => none) := rfl
theorem key_s : keyOf (.d (.str s)) = some (.inr s) := rfl
theorem key_i : keyOf (.d (.int i)) = some (.inl i) := rfl
theorem valD_nil {k : Key} : valD [] k = none := rfl
theorem valD_s : valD ((.inr s, d) :: es) (.inr t) = if s = t then some d else valD es (.inr t) := by
  by_cases h : s = t <;> simp [valD, List.find?_cons, h]
theorem valD_i : valD ((.inl i, d) :: es) (.inl j) = if i = j then some d else valD es (.inl j) := by
  by_cases h : i = j <;> simp [valD, List.find?_cons, h]
end
end FX

set_option Elab.async false
set_option linter.all false
set_option maxRecDepth 100000
set_option maxHeartbeats 4000000
/-! FX11: calls by keywords in any order, defaults filling up; of defs and of generator defs. -/
namespace FX
open PySem PySem.Spec PyProof.Rows L2 DL
/-- the places named, in that order -/
def pickL {γ : Type} (pi : List Nat) (xs : List γ) : List γ := pi.filterMap (xs[·]?)
theorem pickL_map {γ δ : Type} (f : γ → δ) (xs : List γ) : ∀ pi : List Nat, pickL pi (xs.map f) = (pickL pi xs).map f
  | [] => rfl
  | i :: pi => by
    have ih := pickL_map f xs pi
    unfold pickL at ih ⊢
    rw [List.filterMap_cons, List.filterMap_cons, List.getElem?_map]
    cases xs[i]? with
    | none => exact ih
    | some x => exact congrArg (f x :: ·) ih
theorem Vals.at? : ∀ {vs : List V} {us : List Value}, Vals vs us → ∀ i : Nat, (vs[i]? = none ∧ us[i]? = none) ∨ ∃ v u, vs[i]? = some v ∧ us[i]? = some u ∧ RelV v u
  | _, _, .nil, i => .inl ⟨by simp, by simp⟩
  | _, _, .cons a r, 0 => .inr ⟨_, _, rfl, rfl, a⟩
  | _, _, .cons a r, i + 1 => by simpa using Vals.at? r i
theorem Vals.pick {vs : List V} {us : List Value} (r : Vals vs us) : ∀ pi : List Nat, Vals (pickL pi vs) (pickL pi us)
  | [] => .nil
  | i :: pi => by
    have ih := Vals.pick r pi
    unfold pickL at ih ⊢
    rcases Vals.at? r i with ⟨h1, h2⟩ | ⟨v, u, h1, h2, h3⟩
    · rw [List.filterMap_cons, List.filterMap_cons, h1, h2]; exact ih
    · rw [List.filterMap_cons, List.filterMap_cons, h1, h2]; exact .cons h3 ih
section
variable {K : PySem.W.Frag} {α Z : List Addr} {H : Hp}
theorem RpVs.at? : ∀ {vs : List V} {xs : List AV}, RpVs K α Z H vs xs → ∀ i : Nat, (vs[i]? = none ∧ xs[i]? = none) ∨ ∃ v x, vs[i]? = some v ∧ xs[i]? = some x ∧ RpV K α Z H v x
  | _, _, .nil, i => .inl ⟨by simp, by simp⟩
  | _, _, .cons a r, 0 => .inr ⟨_, _, rfl, rfl, a⟩
  | _, _, .cons a r, i + 1 => by simpa using RpVs.at? r i
theorem RpVs.pick {vs : List V} {xs : List AV} (r : RpVs K α Z H vs xs) : ∀ pi : List Nat, RpVs K α Z H (pickL pi vs) (pickL pi xs)
  | [] => .nil
  | i :: pi => by
    have ih := RpVs.pick r pi
    unfold pickL at ih ⊢
    rcases RpVs.at? r i with ⟨h1, h2⟩ | ⟨v, u, h1, h2, h3⟩
    · rw [List.filterMap_cons, List.filterMap_cons, h1, h2]; exact ih
    · rw [List.filterMap_cons, List.filterMap_cons, h1, h2]; exact .cons h3 ih
end
structure CalP (gd : Bool) (P : Program) (w : World) (K : PySem.W.Frag) (mg : Str → Option Value) (base : Heap) (k : Nat) (x : Str) (n : Nat) (ks : List Str) (pi : List Nat) (dvs : List V) (sp : Sp) : Prop where
  ex : ∃ (f : Addr) (fd : FuncData) (ps : List Str) (ds : List Value), FnG gd P w K mg base k f fd ps sp ∧ mg x = some (.ref f) ∧ PySem.W.keepIn K (.ref f) = true ∧ KBn K fd ps n ks (fun us ws => pickL pi (us ++ ws ++ ds)) (fun vs zs => pickL pi (vs ++ zs ++ dvs))
structure GCalP (P : Program) (w : World) (K : PySem.W.Frag) (mg : Str → Option Value) (base : Heap) (k : Nat) (x : Str) (n : Nat) (ks : List Str) (pi : List Nat) (dvs : List V) (sp : SpG) : Prop where
  ex : ∃ (f : Addr) (fd : FuncData) (ps : List Str) (ds : List Value), GFn P w K mg base k f fd ps sp ∧ mg x = some (.ref f) ∧ PySem.W.keepIn K (.ref f) = true ∧ KBn K fd ps n ks (fun us ws => pickL pi (us ++ ws ++ ds)) (fun vs zs => pickL pi (vs ++ zs ++ dvs))
theorem kbn_of {K : PySem.W.Frag} {fd : FuncData} {ps : List Str} {n : Nat} {ks : List Str} {pi : List Nat} (to : ∀ (s : Shared) (us ws : List Value), K.In s.heap → us.length = n → ws.length = ks.length → BindsTo s fd ⟨us, ks.zip ws⟩ (ps.zip (pickL pi (us ++ ws ++ [])))) :
    KBn K fd ps n ks (fun us ws => pickL pi (us ++ ws ++ [])) (fun vs zs => pickL pi (vs ++ zs ++ [])) :=
  ⟨to, fun r1 r2 => Vals.pick ((r1.append r2).append .nil) pi⟩
/-- keyword-only defaults fill up, some written -/
theorem kbn_dflt {K : PySem.W.Frag} {x qual : Str} {params : Arguments} {body : List Stmt} {scope : Scope} {kws : List (Str × V)} {f : Addr} {fd : FuncData} {ps : List Str} (F : FunD K x qual params body scope [] kws f fd) (n : Nat) (ks : List Str) (ms : List (Str × V)) (pi : List Nat) (hk : kws ≠ []) (hms : ∀ q ∈ ms, q ∈ kws)
    (h : ∀ (D : Addr) (doc pm : Value) (an : Option Addr) (cdv ct : Value) (us mv ws : List Value), us.length = n → mv.length = ms.length → ws.length = ks.length →
      KwChain D ((ms.map (·.1)).zip mv) (bindArgs (PySem.W.fnOf x qual params body scope .none (.ref D) doc pm an cdv ct) ⟨us, ks.zip ws⟩) (ps.zip (pickL pi (us ++ ws ++ mv)))) :
    ∃ ds : List Value, KBn K fd ps n ks (fun us ws => pickL pi (us ++ ws ++ ds)) (fun vs zs => pickL pi (vs ++ zs ++ ms.map (·.2))) := by
  obtain ⟨oc, od, dV, kV, doc, pm, an, cdv, ct, osl, rfl, lk, hcd, hD, hK⟩ := F.ex
  rcases hD with ⟨_, rfl⟩ | ⟨e, _⟩
  · rcases hK with e | ⟨D, rfl, hq⟩
    · exact absurd e hk
    · obtain ⟨mv, hl, rk, hks⟩ := kwd_vals (ms := ms) fun q hm => hq q (hms q hm)
      exact ⟨mv, fun s us ws X l1 l2 => BindsTo.of_looks fun M => KwChain.looks X hks (h D doc pm an cdv ct us mv ws l1 hl l2), fun r1 r2 => Vals.pick ((r1.append r2).append rk) pi⟩
  · exact absurd rfl e
def tClP (n m : Nat) (pi : List Nat) (dvs : List V) (sp : Sp) (W : WX) (t tk : TA) : TE := fun σ H Q => t σ H fun vs H1 => tk σ H1 fun zs H2 => vs.length = n ∧ zs.length = m ∧ sp (pickL pi (vs ++ zs ++ dvs)) H2 Q (fun c d H' => W c d σ H')
def tCallGP (n m : Nat) (pi : List Nat) (dvs : List V) (sp : SpG) (E : XK) (t tk : TA) : TGen := fun σ H cont => t σ H fun vs H1 => tk σ H1 fun zs H2 => vs.length = n ∧ zs.length = m ∧ sp (pickL pi (vs ++ zs ++ dvs)) H2 cont E
section
variable {X : Cx} {W : WX} {gd : Bool} {k j n : Nat} {x : Str} {ks : List Str} {pi : List Nat} {sp : Sp} {spG : SpG} {E : XK} {p pos : Pos} {e : Expr} {es : List Expr} {kws : List Keyword} {t tk : TA} {dvs : List V}
theorem k_callP (K : PySem.W.Frag) (hK : X.K = K) (c : CalP gd X.prog X.w K X.mg X.base k x n ks pi dvs sp) (hr : Room j X.A) (hk : k ≤ j) (hgd : gd = true → X.A.guards = some []) (hg : Gl X x) (tx : Takes X W) (ha : PA X (e :: es) t) (hkw : PK X kws tk)
    (hall : (backToKw pos (keywordEach kws X.env)).all (·.1.isSome) = true := by rfl) (hks : (backToKw pos (keywordEach kws X.env)).filterMap (·.1) = ks := by rfl) (hdb : (x == ("__debug__" : Str)) = false := by decide) (he : starEach (e :: es) X.env = (false, eval e X.env) :: starEach es X.env := by rfl)
    (hpl : ((backTo pos (starEach (e :: es) X.env)).any (·.1) || (backToKw pos (keywordEach kws X.env)).any (·.1.isNone)) = false := by rfl) :
    PE X (.Call (.Name x p) (e :: es) kws pos) (tClP n ks.length pi dvs sp W t tk) := by
  subst hK
  obtain ⟨f, fd, ps, ds, F, hm, kp, hb⟩ := c.ex
  refine ⟨fun pins s σ H Q I h => ?_⟩
  refine wpAny_Call_Name_kw (ld_glob I hg hm (PySem.W.callWith_KW (h₀ := X.base) I.ok.mod.kin kp hall (thn (ha.run pos pins s σ H _ I h) fun us s1 hh => ?_) hpl he) hdb)
  obtain ⟨vs, H1, I1, r, q⟩ := hh
  refine thn (hkw.run pos pins s1 σ H1 _ I1 q) fun ws s2 h2 => ?_
  obtain ⟨zs, H2, I2, rz, l1, l2, q2⟩ := h2
  refine ⟨I2.kIn, ?_⟩
  rw [hks]
  have r2 := hb.rel r rz
  refine wpAny_call (codeAny_mono ((F.mono hk).run X.A X.stack s2 H2 ⟨us, ks.zip ws⟩ _ _ Q _ hr hgd I2.env0 (hb.to s2 us ws I2.kIn (r.length.symm.trans l1) (rz.length.symm.trans l2)) r2 q2) fun z s3 hq => ?_)
  match z, hq with
  | .error ex, hq => exact passAt tx σ pins H2 s2 ex s3 I2 hq
  | .ok (.ret u), hq => exact I2.after hq
  | .ok .next, hq => exact hq.elim
  | .ok .brk, hq => exact hq.elim
  | .ok .cont, hq => exact hq.elim
theorem k_callP0 (K : PySem.W.Frag) (hK : X.K = K) (c : CalP gd X.prog X.w K X.mg X.base k x 0 ks pi dvs sp) (hr : Room j X.A) (hk : k ≤ j) (hgd : gd = true → X.A.guards = some []) (hg : Gl X x) (tx : Takes X W) (hkw : PK X kws tk)
    (hall : (backToKw pos (keywordEach kws X.env)).all (·.1.isSome) = true := by rfl) (hks : (backToKw pos (keywordEach kws X.env)).filterMap (·.1) = ks := by rfl) (hdb : (x == ("__debug__" : Str)) = false := by decide)
    (hpl : ((backTo pos (starEach [] X.env)).any (·.1) || (backToKw pos (keywordEach kws X.env)).any (·.1.isNone)) = false := by rfl) :
    PE X (.Call (.Name x p) [] kws pos) (tClP 0 ks.length pi dvs sp W tNil tk) := by
  subst hK
  obtain ⟨f, fd, ps, ds, F, hm, kp, hb⟩ := c.ex
  refine ⟨fun pins s σ H Q I h => ?_⟩
  refine wpAny_Call_Name_kw (ld_glob I hg hm (PySem.W.callWith_KW0 (h₀ := X.base) I.ok.mod.kin kp hall (thn (hkw.run pos pins s σ H _ I h) fun ws s2 h2 => ?_) hpl) hdb)
  obtain ⟨zs, H2, I2, rz, l1, l2, q2⟩ := h2
  refine ⟨I2.kIn, ?_⟩
  rw [hks]
  have r2 := hb.rel (.nil : Vals [] []) rz
  refine wpAny_call (codeAny_mono ((F.mono hk).run X.A X.stack s2 H2 ⟨[], ks.zip ws⟩ _ _ Q _ hr hgd I2.env0 (hb.to s2 [] ws I2.kIn rfl (rz.length.symm.trans l2)) r2 q2) fun z s3 hq => ?_)
  match z, hq with
  | .error ex, hq => exact passAt tx σ pins H2 s2 ex s3 I2 hq
  | .ok (.ret u), hq => exact I2.after hq
  | .ok .next, hq => exact hq.elim
  | .ok .brk, hq => exact hq.elim
  | .ok .cont, hq => exact hq.elim
theorem pgen_callP (K : PySem.W.Frag) (hK : X.K = K) (c : GCalP X.prog X.w K X.mg X.base k x n ks pi dvs spG) (hr : Room k X.A) (hg : Gl X x) (ha : PA X (e :: es) t) (hkw : PK X kws tk)
    (hall : (backToKw pos (keywordEach kws X.env)).all (·.1.isSome) = true := by rfl) (hks : (backToKw pos (keywordEach kws X.env)).filterMap (·.1) = ks := by rfl) (hdb : (x == ("__debug__" : Str)) = false := by decide) (he : starEach (e :: es) X.env = (false, eval e X.env) :: starEach es X.env := by rfl)
    (hpl : ((backTo pos (starEach (e :: es) X.env)).any (·.1) || (backToKw pos (keywordEach kws X.env)).any (·.1.isNone)) = false := by rfl) :
    PGen X k (.Call (.Name x p) (e :: es) kws pos) (tCallGP n ks.length pi dvs spG E t tk) E := by
  subst hK
  obtain ⟨f, fd, ps, ds, F, hm, kp, hb⟩ := c.ex
  refine ⟨fun pins s σ H cont I h => ?_⟩
  refine wpAny_Call_Name_kw (ld_glob I hg hm (PySem.W.callWith_KW (h₀ := X.base) I.ok.mod.kin kp hall (thn (ha.run pos pins s σ H _ I h) fun us s1 hh => ?_) hpl he) hdb)
  obtain ⟨vs, H1, I1, r, q⟩ := hh
  refine thn (hkw.run pos pins s1 σ H1 _ I1 q) fun ws s2 h2 => ?_
  obtain ⟨zs, H2, I2, rz, l1, l2, q2⟩ := h2
  refine ⟨I2.kIn, ?_⟩
  rw [hks]
  have r2 := hb.rel r rz
  refine wpAny_call (codeAny_mono (F.run X.A X.stack s2 H2 ⟨us, ks.zip ws⟩ _ _ cont E hr I2.env0 (hb.to s2 us ws I2.kIn (r.length.symm.trans l1) (rz.length.symm.trans l2)) r2 q2) fun z s3 hq => ?_)
  match z, hq with
  | .ok (.ret u), hq => exact ⟨H2, s2, [], I2, .nil, hq⟩
  | .error _, hq => exact hq.elim
  | .ok .next, hq => exact hq.elim
  | .ok .brk, hq => exact hq.elim
  | .ok .cont, hq => exact hq.elim
theorem pgen_callP0 (K : PySem.W.Frag) (hK : X.K = K) (c : GCalP X.prog X.w K X.mg X.base k x 0 ks pi dvs spG) (hr : Room k X.A) (hg : Gl X x) (hkw : PK X kws tk)
    (hall : (backToKw pos (keywordEach kws X.env)).all (·.1.isSome) = true := by rfl) (hks : (backToKw pos (keywordEach kws X.env)).filterMap (·.1) = ks := by rfl) (hdb : (x == ("__debug__" : Str)) = false := by decide)
    (hpl : ((backTo pos (starEach [] X.env)).any (·.1) || (backToKw pos (keywordEach kws X.env)).any (·.1.isNone)) = false := by rfl) :
    PGen X k (.Call (.Name x p) [] kws pos) (tCallGP 0 ks.length pi dvs spG E tNil tk) E := by
  subst hK
  obtain ⟨f, fd, ps, ds, F, hm, kp, hb⟩ := c.ex
  refine ⟨fun pins s σ H cont I h => ?_⟩
  refine wpAny_Call_Name_kw (ld_glob I hg hm (PySem.W.callWith_KW0 (h₀ := X.base) I.ok.mod.kin kp hall (thn (hkw.run pos pins s σ H _ I h) fun ws s2 h2 => ?_) hpl) hdb)
  obtain ⟨zs, H2, I2, rz, l1, l2, q2⟩ := h2
  refine ⟨I2.kIn, ?_⟩
  rw [hks]
  have r2 := hb.rel (.nil : Vals [] []) rz
  refine wpAny_call (codeAny_mono (F.run X.A X.stack s2 H2 ⟨[], ks.zip ws⟩ _ _ cont E hr I2.env0 (hb.to s2 [] ws I2.kIn rfl (rz.length.symm.trans l2)) r2 q2) fun z s3 hq => ?_)
  match z, hq with
  | .ok (.ret u), hq => exact ⟨H2, s2, [], I2, .nil, hq⟩
  | .error _, hq => exact hq.elim
  | .ok .next, hq => exact hq.elim
  | .ok .brk, hq => exact hq.elim
  | .ok .cont, hq => exact hq.elim
end
/-! ### records -/
def xCallP (F : Fn) (n m : Nat) (pi : List Nat) (a b : XA) (dvs : List V) (dd : List D) (hd : ∀ K Z H, RpA K Z H dvs dd) : XE where
  t K W := tClP n m pi dvs (SpR K (gr F)) W (a.t K W) (b.t K W)
  ev ρ μ := bnd (a.ev ρ μ) fun xs μ1 => bnd (b.ev ρ μ1) fun ys μ2 => if xs.length = n ∧ ys.length = m then outV (callM F (pickL pi (xs ++ ys ++ dd.map .d)) μ2) else none
  ok h := by
    obtain ⟨xs, μ1, h1, h⟩ := bnd_v_inv h
    obtain ⟨ys, μ2, h2, h⟩ := bnd_v_inv h
    split at h
    · rename_i hl
      exact fun α Z σ H ok sl Q k => a.ok h1 α Z σ H ok sl _ fun vs H1 e1 ok1 r1 => b.ok h2 α Z σ H1 ok1 (sl.ext ok e1) _ fun ws H2 e2 ok2 r2 =>
        ⟨r1.length.trans hl.1, r2.length.trans hl.2, call_v h ok2 (RpVs.pick (((r1.ext ok1 e2).append r2).append (RpVs.of_data (hd _ Z H2))) pi) fun v H' e ok' rv => k v H' (e1.trans (e2.trans e)) ok' rv⟩
    · cases h
  ex h := by
    rcases bnd_x_inv h with h1 | ⟨xs, μ1, h1, h⟩
    · exact fun α Z σ H ok sl Q k => a.ex h1 α Z σ H ok sl _ k
    rcases bnd_x_inv h with h2 | ⟨ys, μ2, h2, h⟩
    · exact fun α Z σ H ok sl Q k => a.ok h1 α Z σ H ok sl _ fun vs H1 e1 ok1 r1 => b.ex h2 α Z σ H1 ok1 (sl.ext ok e1) _ fun d H' e o x => k d H' (e1.trans e) o x
    split at h
    · rename_i hl
      exact fun α Z σ H ok sl Q k => a.ok h1 α Z σ H ok sl _ fun vs H1 e1 ok1 r1 => b.ok h2 α Z σ H1 ok1 (sl.ext ok e1) _ fun ws H2 e2 ok2 r2 =>
        ⟨r1.length.trans hl.1, r2.length.trans hl.2, call_x h ok2 (RpVs.pick (((r1.ext ok1 e2).append r2).append (RpVs.of_data (hd _ Z H2))) pi) fun d H' e ok' xo => k d H' (e1.trans (e2.trans e)) ok' xo⟩
    · cases h
/-- list(f(a, .., x=b, ..)), f a generator def, by any keywords -/
def xListGP (F : Fn) (n m : Nat) (pi : List Nat) (a b : XA) (dvs : List V) (dd : List D) (hd : ∀ K Z H, RpA K Z H dvs dd) : XN where
  t K W := tListG (tCallGP n m pi dvs (SpGR K (gr F)) (fun _ _ _ => False) (a.t K W) (b.t K W))
  ev ρ μ := bnd (a.ev ρ μ) fun xs μ1 => bnd (b.ev ρ μ1) fun ys μ2 => match toD xs, toD ys with
    | some as, some bs => if as.length = n ∧ bs.length = m then (match F ((pickL pi (as ++ bs ++ dd)).map .d) [] with
      | some (.new zs, []) => some (.v (zs.map .d) μ2)
      | _ => none) else none
    | _, _ => none
  ok {K W ρ μ x μ'} h := by
    obtain ⟨xs, μ1, h1, h⟩ := bnd_v_inv h
    obtain ⟨ys, μ2, h2, h⟩ := bnd_v_inv h
    split at h
    · rename_i as bs q1 q2
      split at h
      · rename_i hl
        split at h
        · rename_i zs hF
          cases h
          have e1 := toD_inv q1; subst e1
          have e2 := toD_inv q2; subst e2
          intro α Z σ H ok sl Q k
          refine a.ok h1 α Z σ H ok sl _ fun vs H1 e1 ok1 r1 => b.ok h2 α Z σ H1 ok1 (sl.ext ok e1) _ fun ws H2 e2 ok2 r2 => ?_
          have e12 := e1.trans e2
          refine ⟨by rw [r1.length, List.length_map]; exact hl.1, by rw [r2.length, List.length_map]; exact hl.2, Z, _, .new zs, ok2.noCells, ?_, hF, fun xs' ys H' e ex ok' rv p hp => ?_, fun c fs d H' e => nomatch e⟩
          · rw [← pickL_map, List.map_append, List.map_append]
            exact RpVs.pick ((((r1.ext ok1 e2).re (data_all as)).append (r2.re (data_all bs))).append (RpVs.of_data (hd _ Z H2))) pi
          · cases e
            have ok3 := ok2.still ex
            have e3 : Ext α H H' := e12.trans ex.nil_any
            exact k p ys _ (e3.trans (Ext.new hp)) (none_back (fun q => ok3.w.off hp (ok3.w.sub p q)) e3 hp) upd_same (ok3.keepOff hp (Ext.laid hp) ⟨_, upd_same⟩) (.of_data ((RpA.more hp rv).mono (α := []) (fun a h => absurd h List.not_mem_nil) (Ext.laid hp)))
        · cases h
      · cases h
    · cases h
  ex h := by
    rcases bnd_x_inv h with h1 | ⟨xs, μ1, h1, h⟩
    · exact fun α Z σ H ok sl Q k => a.ex h1 α Z σ H ok sl _ k
    rcases bnd_x_inv h with h2 | ⟨ys, μ2, h2, h⟩
    · exact fun α Z σ H ok sl Q k => a.ok h1 α Z σ H ok sl _ fun v1 H1 e1 ok1 r1 => b.ex h2 α Z σ H1 ok1 (sl.ext ok e1) _ fun d H' e o x => k d H' (e1.trans e) o x
    split at h
    · split at h
      · split at h <;> cases h
      · cases h
    · cases h
section
variable {ρ : Slots} {μ : List CC} {F : Fn} {n m : Nat} {pi : List Nat} {a b : XA} {dvs : List V} {dd : List D}
theorem e_xCallP {hd : _} : (xCallP F n m pi a b dvs dd hd).ev ρ μ = bnd (a.ev ρ μ) fun xs μ1 => bnd (b.ev ρ μ1) fun ys μ2 => if xs.length = n ∧ ys.length = m then outV (callM F (pickL pi (xs ++ ys ++ dd.map .d)) μ2) else none := rfl
theorem e_xListGP {hd : _} : (xListGP F n m pi a b dvs dd hd).ev ρ μ = bnd (a.ev ρ μ) fun xs μ1 => bnd (b.ev ρ μ1) fun ys μ2 => match toD xs, toD ys with
    | some as, some bs => if as.length = n ∧ bs.length = m then (match F ((pickL pi (as ++ bs ++ dd)).map .d) [] with
      | some (.new zs, []) => some (.v (zs.map .d) μ2)
      | _ => none) else none
    | _, _ => none := rfl
theorem pick_nil {γ : Type} {xs : List γ} : pickL [] xs = [] := rfl
theorem pick_cons {γ : Type} {xs : List γ} {i : Nat} : pickL (i :: pi) xs = (match xs[i]? with | some x => x :: pickL pi xs | none => pickL pi xs) := by
  unfold pickL; rw [List.filterMap_cons]; cases xs[i]? <;> rfl
end
end FX

set_option Elab.async false
set_option linter.all false
set_option maxRecDepth 100000
set_option maxHeartbeats 4000000
/-! FX12: try .. except, reckoned. -/
namespace FX
open PySem PySem.Spec PyProof.Rows L2 DL
theorem PS.ask {X : Cx} {st : Stmt} {t : TS} {p : Prop} (hp : p) (h : PS X st t) : PS X st (fun D σ H => p → t D σ H) := ⟨fun pins s σ H D I q => h.run pins s σ H D I (q hp)⟩
theorem SV.ask {K : PySem.W.Frag} {W : WX} {t : TS} {ρ : Slots} {μ : List CC} {P : Po} {p : Prop} (h : p → SV K W t ρ μ P) : SV K W (fun D σ H => p → t D σ H) ρ μ P := fun α0 Z0 H0 α Z σ H D w0 g ok sl kk hp => h hp α0 Z0 H0 α Z σ H D w0 g ok sl kk
/-- raises nothing: whatever is wanted of errors -/
theorem SV.noX {K : PySem.W.Frag} {W W0 : WX} {t : TS} {ρ : Slots} {μ : List CC} {P : Po} (h : SV K W0 t ρ μ P) (n : ∀ ρ c fs μ, ¬ P.xc ρ c fs μ) : SV K W t ρ μ P := fun α0 Z0 H0 α Z σ H D w0 g ok sl kk =>
  h α0 Z0 H0 α Z σ H D w0 g ok sl ⟨kk.nx, kk.rt, kk.bk, kk.ct, fun ρ c fs μ _ _ _ _ _ p => (n ρ c fs μ p).elim⟩
theorem fgt_set {x : Option AV} : ∀ {as bs : Slots} (i : Nat), Fgt as bs → Fgt (as.set i x) (bs.set i x)
  | [], [], _, h => h
  | _ :: _, _ :: _, 0, h => ⟨.inr rfl, h.2⟩
  | _ :: _, _ :: _, i + 1, h => ⟨h.1, fgt_set i h.2⟩
  | [], _ :: _, _, h => h.elim
  | _ :: _, [], _, h => h.elim
/-- what the clause for C does with the body's end -/
def clause (G : Gb) (C : Addr) (s : Slots → Value → List (Str × D) → List CC → Option Ct) : Option Ct → Option Ct
  | some (.xc ρ c fs μ) => match c with
    | .ref a => (match G.sub a (.ref C) with
      | some true => (match s ρ c fs μ with
        | some (.xc _ _ _ _) => none
        | r => r)
      | some false => some (.xc ρ c fs μ)
      | none => none)
    | _ => none
  | r => r
/-- try: .. except C: .. -/
def xTry (G : Gb) (C : Addr) (b s : XS) : XS where
  t K W := fun D σ H => G.Ok K → b.t K (wOnly K (.ref C) (fun _ _ _ => s.t K (fun _ _ _ _ => False)) W D) D σ H
  ev ρ μ := clause G C (fun ρ' _ _ μ' => s.ev ρ' μ') (b.ev ρ μ)
  ok {K W ρ μ r} h := SV.ask fun hG => by
    cases hb : b.ev ρ μ with
    | none => rw [hb] at h; cases h
    | some r1 =>
      rw [hb] at h
      have two : ∀ W' : WX, SV K W' (b.t K W') ρ μ r1.po := fun W' => b.ok hb
      cases r1 with
      | nx ρ1 μ1 =>
        cases h
        exact sv_try_only (tb := fun W' => b.t K W') (fun _ _ _ _ => False) two (fun ρ' cls fs μ' hx => hx.elim)
      | bk ρ1 μ1 =>
        cases h
        exact sv_try_only (tb := fun W' => b.t K W') (fun _ _ _ _ => False) two (fun ρ' cls fs μ' hx => hx.elim)
      | ct ρ1 μ1 =>
        cases h
        exact sv_try_only (tb := fun W' => b.t K W') (fun _ _ _ _ => False) two (fun ρ' cls fs μ' hx => hx.elim)
      | rt x μ1 =>
        cases h
        exact sv_try_only (tb := fun W' => b.t K W') (fun _ _ _ _ => False) two (fun ρ' cls fs μ' hx => hx.elim)
      | xc ρ1 c fs μ1 =>
        simp only [clause] at h
        split at h
        · rename_i a
          have two' : ∀ W' : WX, SV K W' (b.t K W') ρ μ { r.po with xc := fun ρ' c' fs' μ' => Fgt ρ' ρ1 ∧ c' = .ref a ∧ fs' = fs ∧ μ' = μ1 } := fun W' => SV.of (b.ok hb) ⟨fgt_refl _, rfl, rfl, rfl⟩
          split at h
          · rename_i hs
            refine sv_try_only (tb := fun W' => b.t K W') _ two' fun ρ' cls fs' μ' ⟨f, e1, e2, e3⟩ => ?_
            subst e1; subst e2; subst e3
            refine ⟨true, hG.exm _ _ _ hs, fun _ a' d' => ?_, (fun e => nomatch e)⟩
            split at h
            · cases h
            · rename_i hne
              refine SV.noX (W0 := fun _ _ _ _ => False) (SV.fgt f (SV.of (s.ok h) ?_)) fun _ _ _ _ z => z
              cases r with
              | xc ρ2 c2 fs2 μ2 => exact (hne _ _ _ _ h).elim
              | nx ρ2 μ2 => exact ⟨fgt_refl _, rfl⟩
              | bk ρ2 μ2 => exact ⟨fgt_refl _, rfl⟩
              | ct ρ2 μ2 => exact ⟨fgt_refl _, rfl⟩
              | rt x2 μ2 => exact ⟨rfl, rfl⟩
          · rename_i hs
            cases h
            refine sv_try_only (tb := fun W' => b.t K W') _ two' fun ρ' cls fs' μ' ⟨f, e1, e2, e3⟩ => ?_
            subst e1; subst e2; subst e3
            exact ⟨false, hG.exm _ _ _ hs, (fun e => nomatch e), fun _ => ⟨f, rfl, rfl, rfl⟩⟩
          · cases h
        · cases h
/-! ### except C as e -/
def wipe1 (i : Nat) : Ct → Ct
  | .nx ρ μ => .nx (ρ.set i none) μ
  | .bk ρ μ => .bk (ρ.set i none) μ
  | .ct ρ μ => .ct (ρ.set i none) μ
  | r => r
open Classical in
/-- the suite's end, whatever the error's addresses are -/
noncomputable def asEnd (i : Nat) (s : Addr → Value → Option Addr → XS) (ρ : Slots) (c : Value) (fs : List (Str × D)) (μ : List CC) : Option Ct :=
  if h : ∃ r : Ct, ∀ (a : Addr) (d : Option Addr), (s a c d).ev (ρ.set i (some (.d (.exc c a d fs)))) μ = some r then some (wipe1 i (Classical.choose h)) else none
theorem asEnd_eq {i : Nat} {s : Addr → Value → Option Addr → XS} {ρ : Slots} {c : Value} {fs : List (Str × D)} {μ : List CC} {r : Ct} (h : ∀ (a : Addr) (d : Option Addr), (s a c d).ev (ρ.set i (some (.d (.exc c a d fs)))) μ = some r) : asEnd i s ρ c fs μ = some (wipe1 i r) := by
  unfold asEnd
  have ex : ∃ r : Ct, ∀ (a : Addr) (d : Option Addr), (s a c d).ev (ρ.set i (some (.d (.exc c a d fs)))) μ = some r := ⟨r, h⟩
  rw [dif_pos ex]
  have e1 := Classical.choose_spec ex 0 none
  have e2 := h 0 none
  rw [e1] at e2
  rw [Option.some.inj e2]
theorem asEnd_inv {i : Nat} {s : Addr → Value → Option Addr → XS} {ρ : Slots} {c : Value} {fs : List (Str × D)} {μ : List CC} {r : Ct} (h : asEnd i s ρ c fs μ = some r) : ∃ r0, r = wipe1 i r0 ∧ ∀ (a : Addr) (d : Option Addr), (s a c d).ev (ρ.set i (some (.d (.exc c a d fs)))) μ = some r0 := by
  unfold asEnd at h
  split at h
  · rename_i ex
    cases h
    exact ⟨_, rfl, Classical.choose_spec ex⟩
  · cases h
/-- try: .. except C as name: .. -/
noncomputable def xTryAs (G : Gb) (C : Addr) (i : Nat) (b : XS) (s : Addr → Value → Option Addr → XS) : XS where
  t K W := fun D σ H => G.Ok K → b.t K (wAs K (.ref C) i (fun a cls d => (s a cls d).t K (fun _ _ _ _ => False)) W D) D σ H
  ev ρ μ := clause G C (asEnd i s) (b.ev ρ μ)
  ok {K W ρ μ r} h := SV.ask fun hG => by
    cases hb : b.ev ρ μ with
    | none => rw [hb] at h; cases h
    | some r1 =>
      rw [hb] at h
      have two : ∀ W' : WX, SV K W' (b.t K W') ρ μ r1.po := fun W' => b.ok hb
      cases r1 with
      | nx ρ1 μ1 =>
        cases h
        exact sv_try_as (tb := fun W' => b.t K W') (fun _ _ _ _ => False) two (fun ρ' cls fs μ' hx => hx.elim)
      | bk ρ1 μ1 =>
        cases h
        exact sv_try_as (tb := fun W' => b.t K W') (fun _ _ _ _ => False) two (fun ρ' cls fs μ' hx => hx.elim)
      | ct ρ1 μ1 =>
        cases h
        exact sv_try_as (tb := fun W' => b.t K W') (fun _ _ _ _ => False) two (fun ρ' cls fs μ' hx => hx.elim)
      | rt x μ1 =>
        cases h
        exact sv_try_as (tb := fun W' => b.t K W') (fun _ _ _ _ => False) two (fun ρ' cls fs μ' hx => hx.elim)
      | xc ρ1 c fs μ1 =>
        simp only [clause] at h
        split at h
        · rename_i a
          have two' : ∀ W' : WX, SV K W' (b.t K W') ρ μ { r.po with xc := fun ρ' c' fs' μ' => Fgt ρ' ρ1 ∧ c' = .ref a ∧ fs' = fs ∧ μ' = μ1 } := fun W' => SV.of (b.ok hb) ⟨fgt_refl _, rfl, rfl, rfl⟩
          split at h
          · rename_i hs
            refine sv_try_as (tb := fun W' => b.t K W') _ two' fun ρ' cls fs' μ' ⟨f, e1, e2, e3⟩ => ?_
            subst e1; subst e2; subst e3
            refine ⟨true, hG.exm _ _ _ hs, fun _ a' d' => ?_, (fun e => nomatch e)⟩
            split at h
            · cases h
            · rename_i hne
              obtain ⟨r0, e0, hev⟩ := asEnd_inv h
              refine SV.noX (W0 := fun _ _ _ _ => False) (SV.fgt (fgt_set i f) (SV.of ((s a' _ d').ok (hev a' d')) ?_)) fun _ _ _ _ z => z
              cases r0 with
              | xc ρ2 c2 fs2 μ2 => rw [e0] at h; exact (hne _ _ _ _ h).elim
              | nx ρ2 μ2 => subst e0; exact ⟨fgt_refl _, rfl⟩
              | bk ρ2 μ2 => subst e0; exact ⟨fgt_refl _, rfl⟩
              | ct ρ2 μ2 => subst e0; exact ⟨fgt_refl _, rfl⟩
              | rt x2 μ2 => subst e0; exact ⟨rfl, rfl⟩
          · rename_i hs
            cases h
            refine sv_try_as (tb := fun W' => b.t K W') _ two' fun ρ' cls fs' μ' ⟨f, e1, e2, e3⟩ => ?_
            subst e1; subst e2; subst e3
            exact ⟨false, hG.exm _ _ _ hs, (fun e => nomatch e), fun _ => ⟨f, rfl, rfl, rfl⟩⟩
          · cases h
        · cases h
/-! ### the caught error looked at -/
theorem PE.ask {X : Cx} {e : Expr} {t : TE} {p : Prop} (hp : p) (h : PE X e t) : PE X e (fun σ H Q => p → t σ H Q) := ⟨fun pins s σ H Q I q => h.run pins s σ H Q I (q hp)⟩
/-- e.name -/
def xXf (a : Addr) (cls : Value) (d : Option Addr) (C : Addr) (n : Str) (e : XE) : XE where
  t K W := tXf a cls d C n (e.t K W)
  ev ρ μ := bnd (e.ev ρ μ) fun x μ1 => match x, cls with
    | .d (.exc (.ref c1) a1 d1 fs), .ref c2 => if c1 = C ∧ c2 = C ∧ a1 = a ∧ d1 = d then lft ((fs.lookup n).map .d) μ1 else none
    | _, _ => none
  ok {K W ρ μ x μ'} h := by
    obtain ⟨y, μ1, h1, h9⟩ := bnd_v_inv h
    clear h
    revert h9; intro h
    split at h
    · split at h
      · rename_i q
        obtain ⟨rfl, rfl, rfl, rfl⟩ := q
        obtain ⟨h2, rfl⟩ := lft_v_inv h
        obtain ⟨z, h3, rfl⟩ := map_some_inv h2
        exact ev_xf (e.ok h1) h3
      · cases h
    · cases h
  ex h := by
    rcases bnd_x_inv h with h1 | ⟨y, μ1, h1, h⟩
    · exact fun α Z σ H ok sl Q k => e.ex h1 α Z σ H ok sl _ k
    · split at h
      · split at h
        · exact (lft_x_inv h).elim
        · cases h
      · cases h
def cvOf : V → Option Value
  | .ref a => some (.ref a)
  | .ty n => some (.type n)
  | _ => none
theorem cvOf_rel {c : V} {cv u : Value} (h : cvOf c = some cv) (r : RelV c u) : u = cv := by
  unfold cvOf at h
  split at h
  · cases h; exact r
  · cases h; exact r
  · cases h
/-- isinstance(e, c) -/
def xIsX (G : Gb) (a : Addr) (cls : Value) (d : Option Addr) (as : XA) : XE where
  t K W := fun σ H Q => G.Ok K → tCB (rIsX K a cls d) (as.t K W) σ H Q
  ev ρ μ := bnd (as.ev ρ μ) fun xs μ1 => match xs, cls with
    | [.d (.exc (.ref c1) a1 d1 (_ :: _)), .d (.raw c)], .ref c2 => (match cvOf c with
      | some cv => if c1 = c2 ∧ a1 = a ∧ d1 = d ∧ G.isx c1 = true then (match G.isa c1 cv with
        | some b => some (.v (.d (.bl b)) μ1)
        | none => none) else none
      | none => none)
    | _, _ => none
  ok {K W ρ μ x μ'} h := by
    obtain ⟨xs, μ1, h1, h9⟩ := bnd_v_inv h
    clear h
    revert h9; intro h
    split at h
    · split at h
      · rename_i cv hcv
        split at h
        · rename_i q
          obtain ⟨rfl, rfl, rfl, hx⟩ := q
          split at h
          · rename_i b hb
            cases h
            intro α Z σ H ok sl Q k hG
            refine ev_cb (as.ok h1) (r := rIsX K _ _ _) (rc_2 fun Z H v w r1 r2 Q k => ?_) α Z σ H ok sl Q k
            cases r1 with
            | exc1 n q r =>
              cases r2
              exact ⟨_, _, _, _, cv, b, rfl, rfl, hG.exc _ hx, q, rfl, fun u hu => cvOf_rel hcv hu, hG.kit _ _ _ hb, k _ (.bl b)⟩
          · cases h
        · cases h
      · cases h
    · cases h
  ex h := by
    rcases bnd_x_inv h with h1 | ⟨xs, μ1, h1, h⟩
    · exact fun α Z σ H ok sl Q k _ => as.ex h1 α Z σ H ok sl _ k
    · split at h
      · split at h
        · split at h
          · split at h <;> cases h
          · cases h
        · cases h
      · cases h
section
variable {ρ : Slots} {μ : List CC} {G : Gb} {C a c1 a1 : Addr} {i : Nat} {b s : XS} {ss : Addr → Value → Option Addr → XS} {cls : Value} {d : Option Addr} {n : Str} {e : XE} {as : XA} {fs : List (Str × D)}
theorem e_xTry : (xTry G C b s).ev ρ μ = clause G C (fun ρ' _ _ μ' => s.ev ρ' μ') (b.ev ρ μ) := rfl
theorem e_xTryAs : (xTryAs G C i b ss).ev ρ μ = clause G C (asEnd i ss) (b.ev ρ μ) := rfl
theorem e_xXf : (xXf a cls d C n e).ev ρ μ = bnd (e.ev ρ μ) fun x μ1 => match x, cls with
    | .d (.exc (.ref c1) a1 d1 fs), .ref c2 => if c1 = C ∧ c2 = C ∧ a1 = a ∧ d1 = d then lft ((fs.lookup n).map .d) μ1 else none
    | _, _ => none := rfl
theorem e_xIsX : (xIsX G a cls d as).ev ρ μ = bnd (as.ev ρ μ) fun xs μ1 => match xs, cls with
    | [.d (.exc (.ref c1) a1 d1 (_ :: _)), .d (.raw c)], .ref c2 => (match cvOf c with
      | some cv => if c1 = c2 ∧ a1 = a ∧ d1 = d ∧ G.isx c1 = true then (match G.isa c1 cv with
        | some b => some (.v (.d (.bl b)) μ1)
        | none => none) else none
      | none => none)
    | _, _ => none := rfl
theorem e_cl_nx {k : Slots → Value → List (Str × D) → List CC → Option Ct} : clause G C k (some (.nx ρ μ)) = some (.nx ρ μ) := rfl
theorem e_cl_bk {k : Slots → Value → List (Str × D) → List CC → Option Ct} : clause G C k (some (.bk ρ μ)) = some (.bk ρ μ) := rfl
theorem e_cl_ct {k : Slots → Value → List (Str × D) → List CC → Option Ct} : clause G C k (some (.ct ρ μ)) = some (.ct ρ μ) := rfl
theorem e_cl_rt {k : Slots → Value → List (Str × D) → List CC → Option Ct} {x : AV} : clause G C k (some (.rt x μ)) = some (.rt x μ) := rfl
theorem e_cl_xc {k : Slots → Value → List (Str × D) → List CC → Option Ct} : clause G C k (some (.xc ρ (.ref a) fs μ)) = (match G.sub a (.ref C) with
      | some true => (match k ρ (.ref a) fs μ with
        | some (.xc _ _ _ _) => none
        | r => r)
      | some false => some (.xc ρ (.ref a) fs μ)
      | none => none) := rfl
theorem e_cv_r : cvOf (.ref a) = some (.ref a) := rfl
theorem e_cv_t {m : String} : cvOf (.ty m) = some (.type m) := rfl
end
end FX

set_option Elab.async false
set_option linter.all false
set_option maxRecDepth 100000
set_option maxHeartbeats 4000000
/-! FX13: the names' addresses as a table. -/
namespace FX
open PySem PySem.Spec PyProof.Rows L2 DL
def pickAt : List (Str × Addr) → Str → Addr
  | [], _ => 0
  | (x, a) :: r, n => if n = x then a else pickAt r n
theorem pickAt_hd {x : Str} {a : Addr} {r : List (Str × Addr)} : pickAt ((x, a) :: r) x = a := if_pos rfl
theorem pickAt_tl {x n : Str} {a b : Addr} {r : List (Str × Addr)} (h : n ≠ x) (e : pickAt r n = b) : pickAt ((x, a) :: r) n = b := (if_neg h).trans e
/-- what one class tells of another, as a table -/
def hitTo (c : Addr) (u : Value) (x : Addr) (v : Value) : Bool := match u, v with
  | .ref d, .ref y => decide (x = c ∧ y = d)
  | .type n, .type m => decide (x = c ∧ m = n)
  | _, _ => false
theorem hitTo_eq {c x : Addr} {u v : Value} (h : hitTo c u x v = true) : x = c ∧ v = u := by
  unfold hitTo at h
  split at h
  · have q := of_decide_eq_true h; exact ⟨q.1, by rw [q.2]⟩
  · have q := of_decide_eq_true h; exact ⟨q.1, by rw [q.2]⟩
  · cases h
def pickTo : List (Addr × Value × Bool) → Addr → Value → Option Bool
  | [], _, _ => none
  | (c, u, b) :: r, x, v => if hitTo c u x v = true then some b else pickTo r x v
theorem pickTo_all {R : Addr → Value → Bool → Prop} : ∀ {l : List (Addr × Value × Bool)}, (∀ p ∈ l, R p.1 p.2.1 p.2.2) → ∀ (x : Addr) (v : Value) (b : Bool), pickTo l x v = some b → R x v b
  | [], _, x, v, b, e => by cases e
  | (c, u, b0) :: r, h, x, v, b, e => by
    have ih := pickTo_all (R := R) (l := r) (fun q hq => h q (List.mem_cons_of_mem _ hq))
    have h0 := h _ List.mem_cons_self
    unfold pickTo at e
    split at e
    · rename_i q
      obtain ⟨rfl, rfl⟩ := hitTo_eq q
      cases e
      exact h0
    · exact ih _ _ _ e
theorem pickTo_rhd {c d : Addr} {b : Bool} {r : List (Addr × Value × Bool)} : pickTo ((c, .ref d, b) :: r) c (.ref d) = some b := if_pos (decide_eq_true ⟨rfl, rfl⟩)
theorem pickTo_thd {c : Addr} {n : String} {b : Bool} {r : List (Addr × Value × Bool)} : pickTo ((c, .type n, b) :: r) c (.type n) = some b := if_pos (decide_eq_true ⟨rfl, rfl⟩)
theorem pickTo_rtl {c d x y : Addr} {b b' : Bool} {r : List (Addr × Value × Bool)} (h : ¬ (x = c ∧ y = d)) (e : pickTo r x (.ref y) = some b') : pickTo ((c, .ref d, b) :: r) x (.ref y) = some b' :=
  (if_neg (by show ¬ decide (x = c ∧ y = d) = true; rw [decide_eq_false h]; exact Bool.false_ne_true)).trans e
theorem pickTo_ttl {c x : Addr} {n m : String} {b b' : Bool} {r : List (Addr × Value × Bool)} (h : ¬ (x = c ∧ m = n)) (e : pickTo r x (.type m) = some b') : pickTo ((c, .type n, b) :: r) x (.type m) = some b' :=
  (if_neg (by show ¬ decide (x = c ∧ m = n) = true; rw [decide_eq_false h]; exact Bool.false_ne_true)).trans e
theorem pickTo_rt {c x y : Addr} {n : String} {b b' : Bool} {r : List (Addr × Value × Bool)} (e : pickTo r x (.ref y) = some b') : pickTo ((c, .type n, b) :: r) x (.ref y) = some b' := (if_neg Bool.false_ne_true).trans e
theorem pickTo_tr {c x d : Addr} {n : String} {b b' : Bool} {r : List (Addr × Value × Bool)} (e : pickTo r x (.type n) = some b') : pickTo ((c, .ref d, b) :: r) x (.type n) = some b' := (if_neg Bool.false_ne_true).trans e
end FX

set_option Elab.async false
set_option linter.all false
set_option maxRecDepth 100000
set_option maxHeartbeats 4000000
/-! FX14: any value in a list of texts; repr where empty dicts stand; {}; join; texts compared. -/
namespace PySem.SeqAt
open AutoSeq1 (wpAny_loadPart')
open MeetsSeq
theorem fx_str_dict (b : Str) (u : Tok) (l : Addr) (dd : Option Addr) (es : Array DictEntry) (n : Nat) (sl : Array (Option Value)) : Meets (Builtin.«str.__eq__» ⟨[.str b u, .ref l], []⟩) (fun _ R s => s.heap.get? l = some { cls := .type "dict", dict := dd, data := .dict es n, slots := sl } ∧ R (.ok (.ret .notImplemented)) s) := .of_wp fun prog w A R s h => by
  obtain ⟨hp, g, d, tk, os⟩ := s; obtain ⟨hl, h⟩ := h; wp_walk using wpAny_loadPart' hl, wpAny_load hl; exact ⟨_, rfl, h⟩
theorem fx_dict_str (b : Str) (u : Tok) (l : Addr) (dd : Option Addr) (es : Array DictEntry) (n : Nat) (sl : Array (Option Value)) : Meets (Builtin.«dict.__eq__» ⟨[.ref l, .str b u], []⟩) (fun _ R s => s.heap.get? l = some { cls := .type "dict", dict := dd, data := .dict es n, slots := sl } ∧ R (.ok (.ret .notImplemented)) s) := .of_wp fun prog w A R s h => by
  obtain ⟨hp, g, d, tk, os⟩ := s; obtain ⟨hl, h⟩ := h; have f1 := F.sub_str_dict; wp_walk using wpAny_loadPart' hl, wpAny_load hl; exact ⟨_, rfl, h⟩
theorem fx_eq_str_dict {A : Around} {s : Shared} {l : Addr} {dd : Option Addr} {es : Array DictEntry} {n : Nat} {sl : Array (Option Value)} (b : Str) (u : Tok) (ho : s.heap.get? l = some { cls := .type "dict", dict := dd, data := .dict es n, slots := sl }) (hu : A.units < cLine) : EqAt A s (.str b u) (.ref l) false := fun prog w E Q h => by
  have key : ∀ Q' : Value → Shared → Prop, Q' (.bool false) s → wpAny (model prog w) A (richCompare .Eq (.str b u) (.ref l)) Q' E s := fun Q' q => rc_eq_decline_or (k := false) (typeIs_str s b u) ⟨_, ho, rfl⟩ (by decide) F.sub_dict_str F.slot_str_eq F.slot_dict_eq_refl
    (fun _ hq => call_meets F.slot_str_eq (typeIs_str s b u) F.entry_str_eq (F.args_str_eq_2 _ _) (fx_str_dict b u l dd es n sl) ⟨ho, hq⟩)
    (fun _ hq => call_meets F.slot_dict_eq_refl ⟨_, ho, rfl⟩ F.entry_dict_eq (F.args_dict_eq_2 _ _) (fx_dict_str b u l dd es n sl) ⟨ho, hq⟩)
    (fun _ hq => wpAny_of_eq (rfl : isSame (.str b u) (.ref l) = pure false) hq) (.inr hu) q
  unfold eqBool; refine wpAny_holding (wpAny_ite_split (fun z => absurd (eq_of_beq z) nofun) fun _ => wpAny_bind (key _ (wpAny_truthy_bool h)))
end PySem.SeqAt
namespace FX
open PySem PySem.Spec PyProof.Rows L2 DL
/-! ### an object in a list of texts -/
def rInR (K : PySem.W.Frag) : R2 := fun x y H Q => ∃ (p a : Addr) (ss : List Str), x = .ref p ∧ y = .ref a ∧ ((∃ xs, SqL K H p xs) ∨ (∃ xs, SqT K H p xs) ∨ ∃ ks, H p = some (.dK ks)) ∧ (SqL K H a (ss.map V.str) ∨ SqT K H a (ss.map V.str)) ∧ Q (.bl false) H
theorem op_inR {X : Cx} (hu : X.A.units + 64 < cLine) : OpR X (compareOp .In) (rInR X.K) := by
  intro pins s σ H x y v u Q I rx ry h
  obtain ⟨p, a, ss, rfl, rfl, hp, ha, q⟩ := h
  cases rx; cases ry
  have txs : ∀ (its : List Value), Vals (ss.map V.str) its → ∀ y ∈ its, ∃ b t, y = Value.str b t := by
    have go : ∀ (ts : List Str) (its : List Value), Vals (ts.map V.str) its → ∀ y ∈ its, ∃ b t, y = Value.str b t := by
      intro ts
      induction ts with
      | nil => intro its r y hy; cases r; cases hy
      | cons t ts ih =>
        intro its r y hy
        cases r with
        | cons r1 r2 =>
          obtain ⟨t1, e⟩ := r1
          rcases List.mem_cons.mp hy with z | z
          · exact ⟨_, _, z.trans e⟩
          · exact ih _ r2 y z
    exact go ss
  have one : ∀ (b : Str) (t : Tok), SeqAt.EqAt X.A.in1 s (.str b t) (.ref p) false := fun b t => by
    have hu' : X.A.in1.units < cLine := by show X.A.units + 1 < cLine; omega
    rcases hp with ⟨xs, h⟩ | ⟨xs, h⟩ | ⟨ks, h⟩
    · obtain ⟨its, _, hl, _⟩ := I.list h
      exact SeqAt.EqAt.str_list b t hl.isList hu'
    · obtain ⟨its, _, ht, _⟩ := I.tuple h
      exact SeqAt.EqAt.str_tuple b t ht hu'
    · obtain ⟨_, _, vs, _, ob, es, ep, e1, ⟨e2, e3, e4⟩, e5, _⟩ := I.hok p _ h
      obtain ⟨c0, d0, da, sl⟩ := ob
      simp only at e2 e3 e4 e5
      subst e2; subst e5
      exact SeqAt.fx_eq_str_dict b t e1 hu'
  have none_ : ∀ its : List Value, its.any (fun _ => false) = false := fun its => by induction its with | nil => rfl | cons a l ih => rw [List.any_cons, ih]; rfl
  rcases ha with h | h
  · obtain ⟨its, rv, hl, _⟩ := I.list h
    refine SeqAt.in_listAt (fun _ => false) hl.isList (fun y hy => ?_) ⟨.bl _, H, I, rfl, ?_⟩
    · obtain ⟨b, t, rfl⟩ := txs its rv y (by simpa using hy)
      exact one b t
    · rw [← Array.any_toList, none_]; exact q
  · obtain ⟨its, rv, ht, _⟩ := I.tuple h
    refine SeqAt.in_tupleAt (fun _ => false) ht (fun y hy => ?_) ⟨.bl _, H, I, rfl, ?_⟩
    · obtain ⟨b, t, rfl⟩ := txs its rv y (by simpa using hy)
      exact one b t
    · rw [← Array.any_toList, none_]; exact q
def rInV (K : PySem.W.Frag) : R2 := fun x y H Q => rInU K x y H Q ∨ rInR K x y H Q
theorem k_inV {X : Cx} (K : PySem.W.Frag) (hK : X.K = K) (hu : X.A.units + 64 < cLine) : OpR X (compareOp .In) (rInV K) := (k_inU K hK).or (hK ▸ op_inR hu)
def _root_.DL.D.boxed : D → Bool
  | .lst _ | .tup _ | .dct _ => true
  | _ => false
def strsOf : List D → Option (List Str)
  | [] => some []
  | .str s :: r => match strsOf r with
    | some ss => some (s :: ss)
    | none => none
  | _ :: _ => none
theorem strsOf_map (ss : List Str) : strsOf (ss.map .str) = some ss := by
  induction ss with
  | nil => rfl
  | cons s ss ih => simp only [List.map_cons, strsOf, ih]
theorem strsOf_inv : ∀ {xs : List D} {ss : List Str}, strsOf xs = some ss → xs = ss.map .str
  | [], _, h => by cases h; rfl
  | .str s :: r, _, h => by
    simp only [strsOf] at h
    split at h
    · rename_i ss q; cases h; rw [strsOf_inv q]; rfl
    · cases h
  | .non :: _, _, h => by cases h
  | .bl _ :: _, _, h => by cases h
  | .int _ :: _, _, h => by cases h
  | .lst _ :: _, _, h => by cases h
  | .tup _ :: _, _, h => by cases h
  | .dct _ :: _, _, h => by cases h
  | .fz _ :: _, _, h => by cases h
  | .raw _ :: _, _, h => by cases h
  | .ins _ _ :: _, _, h => by cases h
  | .exc _ _ _ _ :: _, _, h => by cases h
theorem RpA.strs {K : PySem.W.Frag} {Z : List Addr} {H : Hp} : ∀ {ss : List Str} {vs : List V}, RpA K Z H vs (ss.map .str) → vs = ss.map V.str
  | [], _, .nil => rfl
  | s :: ss, _, .cons (.str _) r => by rw [RpA.strs r]; rfl
/-- x in texts, x any value -/
def inVF (x y : AV) (μ : List CC) : Option AV := match inF false x y μ with
  | some z => some z
  | none => match x, y with
    | .d d, .d (.lst xs) => if d.boxed = true ∧ (strsOf xs).isSome = true then some (.d (.bl false)) else none
    | .d d, .d (.tup xs) => if d.boxed = true ∧ (strsOf xs).isSome = true then some (.d (.bl false)) else none
    | _, _ => none
theorem boxed_inv {K : PySem.W.Frag} {Z : List Addr} {H : Hp} {v : V} {d : D} (h : d.boxed = true) (r : Rp K Z H v d) : ∃ p, v = .ref p ∧ ((∃ xs, SqL K H p xs) ∨ (∃ xs, SqT K H p xs) ∨ ∃ ks, H p = some (.dK ks)) := by
  cases r with
  | lst n q _ => exact ⟨_, rfl, .inl ⟨_, SqL.of q⟩⟩
  | tup n q _ => exact ⟨_, rfl, .inr (.inl ⟨_, SqT.of q⟩)⟩
  | dct n q _ => exact ⟨_, rfl, .inr (.inr ⟨_, q⟩)⟩
  | _ => cases h
theorem RV.inr' {K : PySem.W.Frag} {r r' : R2} {x y z : AV} {μ : List CC} (h : RV K r' x y μ z μ) : RV K (fun x y H Q => r x y H Q ∨ r' x y H Q) x y μ z μ := fun α Z H ok vx vy rx ry Q k => .inr (h α Z H ok vx vy rx ry Q k)
theorem RV.inl' {K : PySem.W.Frag} {r r' : R2} {x y z : AV} {μ : List CC} (h : RV K r x y μ z μ) : RV K (fun x y H Q => r x y H Q ∨ r' x y H Q) x y μ z μ := fun α Z H ok vx vy rx ry Q k => .inl (h α Z H ok vx vy rx ry Q k)
def oInV : XR where
  r K := rInV K
  f := inVF
  ok {K x y μ z} h := by
    unfold inVF at h
    split at h
    · rename_i z' q; cases h; exact RV.inl' (oIn.ok (K := K) q)
    · split at h
      · split at h
        · rename_i q
          cases h
          obtain ⟨ss, e⟩ := Option.isSome_iff_exists.mp q.2
          have e := strsOf_inv e; subst e
          refine RV.inr' (rv_of fun Z H vx vy rx ry Q k => ?_)
          obtain ⟨p, rfl, hp⟩ := boxed_inv q.1 rx
          cases ry with
          | lst n h r => have e := RpA.strs r; subst e; exact ⟨_, _, ss, rfl, rfl, hp, .inl (SqL.of h), k _ (.bl _)⟩
        · cases h
      · split at h
        · rename_i q
          cases h
          obtain ⟨ss, e⟩ := Option.isSome_iff_exists.mp q.2
          have e := strsOf_inv e; subst e
          refine RV.inr' (rv_of fun Z H vx vy rx ry Q k => ?_)
          obtain ⟨p, rfl, hp⟩ := boxed_inv q.1 rx
          cases ry with
          | tup n h r => have e := RpA.strs r; subst e; exact ⟨_, _, ss, rfl, rfl, hp, .inr (SqT.of h), k _ (.bl _)⟩
        · cases h
      · cases h
/-! ### repr where empty dicts stand -/
mutual
/-- no list within: none, bools, ints, texts, tuples, the empty dict -/
inductive Dq (K : PySem.W.Frag) (H : Hp) : V → PyData → Prop
  | non : Dq K H .non .none
  | bl (b : Bool) : Dq K H (.bl b) (.bool b)
  | int (i : Int) : Dq K H (.int i) (.int i)
  | str (x : Str) : Dq K H (.str x) (.str x)
  | tup {a : Addr} {xs : List V} {ds : List PyData} : SqT K H a xs → DqAll K H xs ds → Dq K H (.ref a) (.tuple ds)
  | dct {a : Addr} : H a = some (.dK []) → Dq K H (.ref a) (.dict [])
inductive DqAll (K : PySem.W.Frag) (H : Hp) : List V → List PyData → Prop
  | nil : DqAll K H [] []
  | cons {v : V} {vs : List V} {d : PyData} {ds : List PyData} : Dq K H v d → DqAll K H vs ds → DqAll K H (v :: vs) (d :: ds)
end
section
variable {X : Cx} {pins : List (Addr × Obj)} {σ : L2.St} {H : Hp} {s : Shared}
theorem dk_nil {P : Program} {w : World} {h : Heap} {a : Addr} (x : ObjOk P w H h a (.dK [])) : (a == sysModules) = false ∧ ∃ o es ep, h.get? a = some o ∧ o.cls = .type "dict" ∧ o.data = .dict es ep ∧ es.toList = [] := by
  obtain ⟨_, q, vs, kv, o, es, ep, e1, ⟨e2, e3, e4⟩, e5, _, e6, _⟩ := x
  have ev : vs = [] := by cases kv; rfl
  subst ev
  exact ⟨q, o, es, ep, e1, e2, e5, by generalize es.toList = l at e6; cases e6; rfl⟩
mutual
theorem Dq.reads (I : Inv X pins σ H s) : ∀ (d : PyData) (v : V) (u : Value), Dq X.K H v d → RelV v u → ∃ as, Reads s.heap u d as ∧ sysModules ∉ as
  | .none, _, _, h, r => by cases h; cases r; exact ⟨_, Reads.none, List.not_mem_nil⟩
  | .bool b, _, _, h, r => by cases h; cases r; exact ⟨_, Reads.bool b, List.not_mem_nil⟩
  | .int i, _, _, h, r => by cases h; obtain ⟨t, rfl⟩ := r; exact ⟨_, Reads.int i t, List.not_mem_nil⟩
  | .str x, _, _, h, r => by cases h; obtain ⟨t, rfl⟩ := r; exact ⟨_, Reads.str x t, List.not_mem_nil⟩
  | .list ds, _, _, h, r => by cases h
  | .tuple ds, _, _, h, r => by
    cases h with
    | tup hs ha =>
      cases r
      obtain ⟨its, rv, ⟨o, ho, hc, n, hd⟩, _⟩ := I.tuple hs
      obtain ⟨as, hr, hn⟩ := DqAll.reads I ds _ its ha rv
      exact ⟨_, Reads.tuple ho hc hd hr, hn⟩
  | .dict kvs, _, _, h, r => by
    cases h with
    | dct hs =>
      cases r
      obtain ⟨q, o, es, ep, e1, e2, e3, e4⟩ := dk_nil (I.hok _ _ hs)
      refine ⟨_, Reads.dict e1 e2 e3 (as := []) (bs := []) (by rw [e4]; exact .nil) (by rw [e4]; exact .nil), ?_⟩
      intro hm
      rcases List.mem_cons.mp hm with z | z
      · rw [z] at q; simp at q
      · cases z
theorem DqAll.reads (I : Inv X pins σ H s) : ∀ (ds : List PyData) (vs : List V) (us : List Value), DqAll X.K H vs ds → Vals vs us → ∃ as, ReadsAll s.heap us ds as ∧ sysModules ∉ as
  | [], _, _, h, r => by cases h; cases r; exact ⟨_, ReadsAll.nil, List.not_mem_nil⟩
  | d :: ds, _, _, h, r => by
    cases h with
    | cons h1 h2 =>
      cases r with
      | cons r1 r2 =>
        obtain ⟨as, q1, n1⟩ := Dq.reads I d _ _ h1 r1
        obtain ⟨bs, q2, n2⟩ := DqAll.reads I ds _ _ h2 r2
        exact ⟨_, ReadsAll.cons q1 q2, fun hm => (List.mem_append.mp hm).elim n1 n2⟩
end
end
/-- a list of such, or one such -/
def rReprB (K : PySem.W.Frag) : List V → Hp → VK → Prop := fun xs H Q => ∃ (a : Addr) (d : PyData), xs = [.ref a] ∧ ((Dq K H (.ref a) d) ∨ ∃ ys ds, d = .list ds ∧ SqL K H a ys ∧ DqAll K H ys ds) ∧ d.showable = true ∧ d.depth ≤ 60 ∧ d.shown.length ≤ sizeLine ∧ Q (.str d.shown) H
theorem c_reprB {X : Cx} (hg : X.A.guards = some []) (hu : X.A.units + 64 < cLine) : CallR X (.builtin "repr") (rReprB X.K) := by
  intro pins s σ H xs us Q I r h
  obtain ⟨a, d, rfl, hd, hs, hdep, hz, q⟩ := h
  obtain ⟨u, rfl, rx⟩ := vals1 r
  cases rx
  have fin : ∀ (s' : Shared) (t : Tok), Inv X pins σ H s' → EP X pins σ Q (.str d.shown t) s' := fun s' t J => ⟨.str d.shown, H, J, ⟨t, rfl⟩, q⟩
  rcases hd with hd | ⟨ys, ds, rfl, h1, h2⟩
  · obtain ⟨as, hr, hn⟩ := Dq.reads I d _ _ hd rfl
    exact repr_of_reads' hr hs (fun _ => hn) hg (by omega) (fun _ _ e => e) (fun h' u tk hk => fin _ _ (I.kept hk)) hz
  · obtain ⟨its, rv, ⟨o, n, ho, hc, _, hd⟩, _⟩ := I.list h1
    obtain ⟨as, hr, hn⟩ := DqAll.reads I ds ys its h2 rv
    by_cases hx : (PyData.list ds).hasDict = true
    · have hs' : PyData.showableAll ds = true := by simpa [PyData.showable] using hs
      have hz' : (listText (PyData.shownAll ds)).length ≤ sizeLine := by simpa only [PyData.shown] using hz
      obtain ⟨bs, hb, hk⟩ := ReprAllK.of_readsAll (prog := X.prog) (w := X.w) hr hs' (fun _ => hn) (fun t ht => Nat.le_trans (listText_mem_le ht) hz')
      have hdp : PyData.depthAll ds < (PyData.list ds).depth := by simp only [PyData.depth]; omega
      have hna : a ∉ bs := not_mem_of_deeper (.list ho hc hd hr) hdp hb
      exact call_repr_slot (by omega) ⟨o, ho, hc⟩ F.slot_list_repr.toG (by
        cases its with
        | nil => cases hr; simp [PyData.hasDict, PyData.hasDictAll] at hx
        | cons y l => exact call_list_reprK ho hc hd hna (by simpa using hk.length_eq) (fun i z e => hk.item i z (by simpa using e)) hg (fun b _ => Clear.nil b) (by show X.A.units + 1 + _ < cLine; simp only [PyData.depth] at hdep; omega) (fun _ _ e => e) (fun h' u tk hk2 => by have := fin { s with heap := h', toks := tk } u (I.kept hk2); simp only [PyData.shown] at this; exact ⟨_, _, rfl, this⟩) hz')
    · exact repr_of_reads' (.list ho hc hd hr) hs (fun z => absurd z hx) hg (by omega) (fun _ _ e => e) (fun h' u tk hk => fin _ _ (I.kept hk)) hz
end FX

set_option Elab.async false
set_option linter.all false
set_option maxRecDepth 100000
set_option maxHeartbeats 4000000
/-! FX15: records: repr of any value, {}, join, texts compared. -/
namespace DL
open PySem PySem.Spec PyProof.Rows L2
mutual
def D.pyE : D → PyData
  | .non => .none
  | .bl b => .bool b
  | .int i => .int i
  | .str x => .str x
  | .lst xs => .list (D.pyEs xs)
  | .tup xs => .tuple (D.pyEs xs)
  | .dct _ => .dict []
  | .fz _ => .none
  | .raw _ => .none
  | .ins _ _ => .none
  | .exc _ _ _ _ => .none
def D.pyEs : List D → List PyData
  | [] => []
  | x :: xs => D.pyE x :: D.pyEs xs
end
mutual
/-- no list within -/
def D.noL : D → Bool
  | .non | .bl _ | .int _ | .str _ => true
  | .tup xs => D.noLs xs
  | .dct [] => true
  | _ => false
def D.noLs : List D → Bool
  | [] => true
  | x :: xs => D.noL x && D.noLs xs
end
def D.shownE (d : D) : Str := d.pyE.shown
end DL
namespace FX
open PySem PySem.Spec PyProof.Rows L2 DL
section
variable {K : PySem.W.Frag} {Z : List Addr} {H : Hp}
mutual
theorem Rp.dq : ∀ {v : V} {d : D}, d.noL = true → Rp K Z H v d → Dq K H v d.pyE
  | _, _, _, .non => by unfold D.pyE; exact .non
  | _, _, _, .bl b => by unfold D.pyE; exact .bl b
  | _, _, _, .int i => by unfold D.pyE; exact .int i
  | _, _, _, .str s => by unfold D.pyE; exact .str s
  | _, _, p, .tup n h r => by
    unfold D.noL at p; unfold D.pyE
    exact .tup (SqT.of h) (RpA.dq p r)
  | _, .dct [], _, .dct _ h .nil => by unfold D.pyE; exact .dct h
  | _, .dct (_ :: _), p, _ => by simp [D.noL] at p
  | _, _, p, .lst _ _ _ => by simp [D.noL] at p
  | _, _, p, .fzT _ _ => by simp [D.noL] at p
  | _, _, p, .fzK _ => by simp [D.noL] at p
  | _, _, p, .raw _ => by simp [D.noL] at p
  | _, _, p, .ins _ _ _ => by simp [D.noL] at p
  | _, _, p, .exc0 => by simp [D.noL] at p
  | _, _, p, .exc1 _ _ _ => by simp [D.noL] at p
theorem RpA.dq : ∀ {vs : List V} {ds : List D}, D.noLs ds = true → RpA K Z H vs ds → DqAll K H vs (D.pyEs ds)
  | _, _, _, .nil => by unfold D.pyEs; exact .nil
  | _, _, p, .cons h r => by
    unfold D.noLs at p; unfold D.pyEs
    rw [Bool.and_eq_true] at p
    exact .cons (Rp.dq p.1 h) (RpA.dq p.2 r)
end
end
def noL1 : D → Bool
  | .lst xs => D.noLs xs
  | .tup xs => D.noLs xs
  | .dct [] => true
  | _ => false
def reprOkE (d : D) : Bool := noL1 d && d.pyE.showable && decide (d.pyE.depth ≤ 60) && decide (d.pyE.shown.length ≤ 16777216)
def reprVF (xs : List AV) (μ : List CC) : Option AV := match reprF xs μ with
  | some z => some z
  | none => match xs with
    | [.d d] => if reprOkE d = true then some (.d (.str d.shownE)) else none
    | _ => none
def rReprV (K : PySem.W.Frag) : List V → Hp → VK → Prop := fun xs H Q => rReprA K xs H Q ∨ rReprB K xs H Q
theorem k_reprV {X : Cx} (K : PySem.W.Frag) (hK : X.K = K) (hg : X.A.guards = some []) (hu : X.A.units + 64 < cLine) : CallR X (.builtin "repr") (rReprV K) := by
  subst hK
  intro pins s σ H xs us Q I r h
  rcases h with h | h
  · exact k_repr X.K rfl hg hu pins s σ H xs us Q I r h
  · exact c_reprB hg hu pins s σ H xs us Q I r h
theorem noL1_inv {K : PySem.W.Frag} {Z : List Addr} {H : Hp} {v : V} {d : D} (h : noL1 d = true) (r : Rp K Z H v d) : ∃ a, v = .ref a ∧ (Dq K H (.ref a) d.pyE ∨ ∃ ys ds, d.pyE = .list ds ∧ SqL K H a ys ∧ DqAll K H ys ds) := by
  cases d with
  | lst xs => cases r with
    | lst n q r => exact ⟨_, rfl, .inr ⟨_, _, by rw [D.pyE], SqL.of q, RpA.dq h r⟩⟩
  | tup xs => cases r with
    | tup n q r => exact ⟨_, rfl, .inl (Rp.dq (d := .tup xs) (by rw [D.noL]; exact h) (.tup n q r))⟩
  | dct es =>
    cases es with
    | nil => cases r with
      | dct n q r => exact ⟨_, rfl, .inl (Rp.dq (d := .dct []) (by rw [D.noL]) (.dct n q r))⟩
    | cons e es => cases h
  | _ => cases h
def cReprV : XC where
  r K := rReprV K
  f := reprVF
  ok {K x μ z} h := by
    unfold reprVF at h
    split at h
    · rename_i z' q
      cases h
      exact fun α Z H ok vs rs Q k => .inl (cRepr.ok (K := K) q α Z H ok vs rs Q k)
    · split at h
      · rename_i d
        split at h
        · rename_i g
          cases h
          simp only [reprOkE, Bool.and_eq_true, decide_eq_true_eq] at g
          refine rc_1 fun Z H v rv Q k => .inr ?_
          obtain ⟨a, rfl, q⟩ := noL1_inv g.1.1.1 rv
          exact ⟨a, _, rfl, q, g.1.1.2, g.1.2, by rw [sizeLine_eq]; exact g.2, k _ (.str _)⟩
        · cases h
      · cases h
/-! ### {} -/
def xDct0 : XE where
  t _ _ := tDNewK
  ev _ μ := some (.v (.d (.dct [])) μ)
  ok {K W ρ μ x μ'} h := by
    cases h
    exact fun α Z σ H ok sl Q k p hp => k _ _ (Ext.new hp) (ok.laid hp) (.d (.dct (ok.w.off hp) upd_same .nil))
  ex h := by cases h
/-! ### sep.join(texts) -/
def rJoinK (K : PySem.W.Frag) : V → List V → Hp → VK → Prop := fun x xs H Q => ∃ a p, ∃ ys : List Str, x = .str a ∧ xs = [.ref p] ∧ (SqL K H p (ys.map V.str) ∨ SqT K H p (ys.map V.str)) ∧ (ys.map (·.length)).sum + ys.length * a.length ≤ 16777216 ∧ Q (.str (Txt.join a ys)) H
theorem k_join {X : Cx} {o e : Expr} {to te : TE} {apos pos : Pos} (K : PySem.W.Frag) (hK : X.K = K) (ho : PE X o to) (he : PE X e te) (hs : starEach [e] X.env = [(false, eval e X.env)] := by rfl) (hbase : attributeBase o "join" X.env (eval o X.env) = eval o X.env := by rfl) (hline : (apos.endLine == pos.line) = true := by rfl) : PE X (.Call (.Attribute o "join" apos) [e] [] pos) (tM1 (rJoinK K) to te) := by
  subst hK; exact pe_join ho he hs hbase hline
def xJoin (a b : XE) : XE where
  t K W := tM1 (rJoinK K) (a.t K W) (b.t K W)
  ev ρ μ := bnd (a.ev ρ μ) fun x μ1 => match x with
    | .d (.str s) => bnd (b.ev ρ μ1) fun y μ2 => match y with
      | .d (.lst xs) => (match strsOf xs with
        | some ys => if (ys.map (·.length)).sum + ys.length * s.length ≤ 16777216 then some (.v (.d (.str (Txt.join s ys))) μ2) else none
        | none => none)
      | _ => none
    | _ => none
  ok {K W ρ μ x μ'} h := by
    obtain ⟨x, μ1, h1, h9⟩ := bnd_v_inv h
    clear h; revert h9; intro h
    split at h
    · rename_i s
      obtain ⟨y, μ2, h2, h9⟩ := bnd_v_inv h
      clear h; revert h9; intro h
      split at h
      · rename_i xs
        split at h
        · rename_i ys q
          split at h
          · rename_i hl
            cases h
            have e := strsOf_inv q; subst e
            exact fun α Z σ H ok sl Q k => a.ok h1 α Z σ H ok sl _ fun v1 H1 e1 ok1 r1 => by
              cases r1 with
              | d r1 =>
                cases r1
                exact ⟨⟨_, rfl⟩, b.ok h2 α Z σ H1 ok1 (sl.ext ok e1) _ fun v2 H2 e2 ok2 r2 => by
                  cases r2 with
                  | d r2 => cases r2 with
                    | lst n q r => have e := RpA.strs r; subst e; exact ⟨_, _, ys, rfl, rfl, .inl (SqL.of q), hl, k _ H2 (e1.trans e2) ok2 (.d (.str _))⟩⟩
          · cases h
        · cases h
      · cases h
    · cases h
  ex {K W ρ μ c fs μ'} h := by
    rcases bnd_x_inv h with h1 | ⟨x, μ1, h1, h9⟩
    · exact fun α Z σ H ok sl Q k => a.ex h1 α Z σ H ok sl _ k
    · clear h; revert h9; intro h
      split at h
      · rename_i s
        rcases bnd_x_inv h with h2 | ⟨y, μ2, h2, h9⟩
        · exact fun α Z σ H ok sl Q k => a.ok h1 α Z σ H ok sl _ fun v1 H1 e1 ok1 r1 => by
            cases r1 with
            | d r1 => cases r1; exact ⟨⟨_, rfl⟩, b.ex h2 α Z σ H1 ok1 (sl.ext ok e1) _ fun d H' e o x => k d H' (e1.trans e) o x⟩
        · clear h; revert h9; intro h
          split at h
          · split at h
            · split at h <;> cases h
            · cases h
          · cases h
      · cases h
/-! ### texts compared -/
def leSF (x y : AV) (_ : List CC) : Option AV := match x, y with
  | .d (.str a), .d (.str b) => some (.d (.bl (!decide (b.cps.toList < a.cps.toList))))
  | _, _ => none
def oLeS : XR where
  r _ := fun x y H Q => ∃ i j, x = .str i ∧ y = .str j ∧ Q (.bl (!decide (j.cps.toList < i.cps.toList))) H
  f := leSF
  ok {K x y μ z} h := by
    unfold leSF at h
    split at h
    · cases h; exact b_leS
    · cases h
/-- a name's list or tuple spread over names -/
theorem e_xDct0 {ρ : Slots} {μ : List CC} : xDct0.ev ρ μ = some (.v (.d (.dct [])) μ) := rfl
theorem e_xJoin {ρ : Slots} {μ : List CC} {a b : XE} : (xJoin a b).ev ρ μ = bnd (a.ev ρ μ) fun x μ1 => match x with
    | .d (.str s) => bnd (b.ev ρ μ1) fun y μ2 => (match y with
      | .d (.lst xs) => (match strsOf xs with
        | some ys => if (ys.map (·.length)).sum + ys.length * s.length ≤ 16777216 then some (.v (.d (.str (Txt.join s ys))) μ2) else none
        | none => none)
      | _ => none)
    | _ => none := rfl
theorem e_cReprV : cReprV.f = reprVF := rfl
theorem e_oInV : oInV.f = inVF := rfl
theorem e_oLeS {a b : Str} {μ : List CC} : oLeS.f (.d (.str a)) (.d (.str b)) μ = some (.d (.bl (!decide (b.cps.toList < a.cps.toList)))) := rfl
theorem e_strs (ss : List Str) : strsOf (ss.map .str) = some ss := strsOf_map ss
end FX

set_option Elab.async false
set_option linter.all false
set_option maxRecDepth 100000
set_option maxHeartbeats 4000000
/-! FX16: any list beside the empty one. -/
namespace FX
open PySem PySem.Spec PyProof.Rows L2 DL
def rEqNil (K : PySem.W.Frag) : R2 := fun x y H Q => ∃ (p a : Addr) (xs : List V), x = .ref p ∧ y = .ref a ∧ SqL K H p xs ∧ SqL K H a [] ∧ Q (.bl xs.isEmpty) H
theorem op_eqNil {X : Cx} (hu : X.A.units + 64 < cLine) : OpR X (compareOp .Eq) (rEqNil X.K) := by
  intro pins s σ H x y v u Q I rx ry h
  obtain ⟨p, a, xs, rfl, rfl, hp, ha, q⟩ := h
  cases rx; cases ry
  obtain ⟨its, rv, hl, _⟩ := I.list hp
  obtain ⟨its2, rv2, hl2, _⟩ := I.list ha
  have e2 : its2 = [] := by cases rv2; rfl
  subst e2
  have hu' : X.A.units < cLine := by omega
  cases rv with
  | nil =>
    have := SeqAt.RcAt.lists (A := X.A) (s := s) (e := fun _ => true) hl.isList hl2.isList rfl hu' (fun j h1 h2 => absurd h1 (by simp)) X.prog X.w X.xe (EP X pins σ Q) ⟨.bl true, H, I, rfl, q⟩
    exact this
  | cons r1 r2 => exact SeqAt.RcAt.lists_lengths (A := X.A) (s := s) hl.isList hl2.isList (by simp) hu' X.prog X.w X.xe (EP X pins σ Q) ⟨.bl false, H, I, rfl, q⟩
def rEqV (K : PySem.W.Frag) : R2 := fun x y H Q => rEqP K x y H Q ∨ rEqNil K x y H Q
theorem k_eqV {X : Cx} (K : PySem.W.Frag) (hK : X.K = K) (hu : X.A.units + 64 < cLine) : OpR X (compareOp .Eq) (rEqV K) := (o_eqP K hK hu).or (hK ▸ op_eqNil hu)
def eqVF (x y : AV) (μ : List CC) : Option AV := match eqF x y μ with
  | some z => some z
  | none => match x, y with
    | .d (.lst xs), .d (.lst []) => some (.d (.bl xs.isEmpty))
    | _, _ => none
theorem RpA.isE {K : PySem.W.Frag} {Z : List Addr} {H : Hp} {vs : List V} {ds : List D} (r : RpA K Z H vs ds) : vs.isEmpty = ds.isEmpty := by cases r <;> rfl
def oEqV : XR where
  r K := rEqV K
  f := eqVF
  ok {K x y μ z} h := by
    unfold eqVF at h
    split at h
    · rename_i z' q; cases h; exact RV.inl' (oEq.ok (K := K) q)
    · split at h
      · cases h
        refine RV.inr' (rv_of fun Z H vx vy rx ry Q k => ?_)
        cases rx with
        | lst n h r => cases ry with
          | lst n2 h2 r2 =>
            cases r2
            exact ⟨_, _, _, rfl, rfl, SqL.of h, SqL.of h2, by rw [RpA.isE r]; exact k _ (.bl _)⟩
      · cases h
theorem e_oEqV : oEqV.f = eqVF := rfl
theorem eqV_nil {xs : List D} {μ : List CC} : eqVF (.d (.lst xs)) (.d (.lst [])) μ = some (.d (.bl xs.isEmpty)) := by
  unfold eqVF
  cases q : eqF (.d (.lst xs)) (.d (.lst [])) μ with
  | none => rfl
  | some z =>
    have : eqF (.d (.lst xs)) (.d (.lst [])) μ = if okD 50 (.lst xs) = true ∧ okD 50 (.lst []) = true then some (.d (.bl (eqD (.lst xs) (.lst [])))) else none := rfl
    rw [this] at q
    split at q
    · cases q
      show some (AV.d (.bl (eqD (.lst xs) (.lst [])))) = _
      rw [eqD_ll]
      cases xs <;> rfl
    · cases q
theorem e_eqV_nil {xs : List D} {μ : List CC} : eqVF (.d (.lst xs)) (.d (.lst [])) μ = some (.d (.bl xs.isEmpty)) := eqV_nil
end FX

set_option Elab.async false
set_option linter.all false
set_option maxRecDepth 100000
set_option maxHeartbeats 4000000
namespace Law
open PySem PySem.Spec PyProof.Rows L2 DL FX
local macro_rules | `(tactic| walk_at "fx") => `(tactic| try simp (disch := first | assumption | omega) only [runDef, FX.runGen, FX.take_map, FX.drop_map, FX.dropLast_map, FX.rev_map, FX.cut_map, DL.cut_to1, DL.cut_from1, DL.cut_but, DL.cut_last, List.all_append, FX.eq_cd, FX.ne_cd, ne_eq, not_true_eq_false, not_false_eq_true, FX.and_t, FX.and_f, FX.and_b, FX.or_t, FX.or_f, FX.or_b, bnd_v, bnd_x, bnd_n, lft_s, lft_n, fin_v, fin_x, wipeA, List.getElem?_cons_zero, List.getElem?_cons_succ, List.getElem?_nil, Option.join_some, List.set_cons_zero, List.set_cons_succ, List.map_cons, List.map_nil, List.cons_append, List.nil_append, List.append_nil, List.length_cons, List.length_nil, Option.map_some, Option.map_none, Option.bind_some, Option.bind_none, List.replicate_succ, List.replicate_zero, Nat.reduceAdd, Nat.reduceSub, Nat.reduceLeDiff, if_true, if_false, decide_eq_true_eq, Bool.not_true, Bool.true_eq_false, reduceCtorEq, Bool.decide_eq_true, Bool.true_and, Bool.false_and, Bool.true_or, Bool.false_or, Bool.or_true, Bool.or_false, Bool.and_false, Bool.and_eq_true, Bool.or_eq_true, Bool.not_not, Bool.decide_eq_false, Bool.not_false, Bool.not_eq_true', decide_eq_false_iff_not, Bool.false_eq_true, reduceIte, Nat.zero_add, chk, List.take_succ_cons, List.take_zero, List.all_cons, List.all_nil, Bool.and_true, Bool.and_self, and_self, and_true, true_and, Nat.le_refl, ge_iff_le, Int.reduceNeg, Int.reduceLT, Int.reduceLE, Int.reduceToNat, Nat.not_lt_zero, Int.toNat_natCast, rangeL0, toD_map, inD_str, D.isStr, D.isTup, D.isLst, D.isInt, D.isBool, D.ty, Option.isSome_some, Option.isSome_none, DL.nD, DL.sgD, List.length_map, List.length_range, List.length_append, FX.e_xVar, FX.e_xC, FX.e_xInt, FX.e_xBl, FX.e_xStr, FX.e_xNon, FX.e_xRaw, FX.e_xOp, FX.e_xOpN, FX.e_xUn, FX.e_xNil, FX.e_xCons, FX.e_xStar, FX.e_xCB, FX.e_xCBN, FX.e_xDat, FX.e_xTup, FX.e_xLst, FX.e_xTest, FX.e_xB, FX.e_xYes, FX.e_xNot, FX.e_xAnd, FX.e_xOr, FX.e_xAndV, FX.e_xOrV, FX.e_xNotV, FX.e_xIf, FX.e_xChain, FX.e_xONone, FX.e_xOSome, FX.e_xSl, FX.e_xSlN, FX.e_xRev, FX.e_xEach, FX.e_xRng1, FX.e_xRng2, FX.e_xEnum, FX.e_xZip, FX.e_xName, FX.e_xGNil, FX.e_xGCons, FX.e_xGTup, FX.e_xLc, FX.e_xNext, FX.e_xBreak, FX.e_xCont, FX.e_xSeq, FX.e_xIfS, FX.e_xDrop, FX.e_xRet, FX.e_xRetN, FX.e_xRetL, FX.e_xAsg, FX.e_xAsgN, FX.e_xAsgIfN, FX.e_xAug, FX.e_xMNil, FX.e_xMCons, FX.e_xMConsN, FX.e_xPar, FX.e_xPar3, FX.e_xFor, FX.e_xWhile, FX.e_xAppend, FX.e_xPop, FX.e_xPopAt, FX.e_xSetL, FX.e_xRaiseV, FX.e_xRaiseI, FX.e_xCall, FX.e_xCallN, FX.e_xCallD, FX.e_xCallK, FX.e_xCallL, FX.e_xCallT, FX.e_xCallTN, FX.e_xLRg1, FX.f_oAdd, FX.f_oMul, FX.f_oEq, FX.f_oNe, FX.f_oIs, FX.f_oIsN, FX.f_oIn, FX.f_oNotIn, FX.f_oIx, FX.f_oSub, FX.f_oDiv, FX.f_oMod, FX.f_oPow, FX.f_oLt, FX.f_oLe, FX.f_oGt, FX.f_oGe, FX.f_uNeg, FX.f_oAddN, FX.f_cLen, FX.f_cRepr, FX.f_cList, FX.f_cTup, FX.f_cAny, FX.f_cAll, FX.f_cIsi, FX.f_cIsSeq, FX.f_cAbs, FX.f_cInt, FX.f_cMax2, FX.f_cMin2, FX.f_cSortI, FX.add_ii, FX.add_ss, FX.add_ll, FX.add_tt, FX.addN_ll, FX.mul_ii, FX.mul_li, FX.eq_dd, FX.ne_dd, FX.is_n, FX.isn_n, FX.is_bb, FX.isn_bb, FX.nonF_n, FX.nonF_c, FX.nonF_i, FX.nonF_t, FX.nonF_l, FX.nonF_s, FX.nonF_b, FX.ix_l, FX.ix_t, FX.ix_f, FX.ix_s, FX.ix_c, FX.len_l, FX.len_t, FX.len_f, FX.len_s, FX.len_c, FX.thaw_d, FX.thaw_c, FX.tup_l, FX.tup_t, FX.list_l, FX.list_t, FX.asB_b, FX.asI_i, FX.any_l, FX.all_l, FX.isi_d, FX.kind_str, FX.kind_tup, FX.kind_lst, FX.kind_int, FX.kind_bool, FX.seq_d, FX.toD_nil, FX.toD_cons, FX.then_nx, FX.then_rt, FX.then_bk, FX.then_ct, FX.then_xc, FX.cell_c, FX.one_d, FX.lst_at0, FX.lst_at1, FX.outV_r, FX.outV_n, FX.outV_x, FX.outN_n, FX.outN_x, FX.finD_nx, FX.finD_rd, FX.finD_rc, FX.finD_xc, FX.nonF_d, FX.nonF_f, FX.nonF_o, FX.at0, FX.at1, FX.at2, FX.at3, FX.okD_n, FX.okD_b, FX.okD_i, FX.okD_s, FX.okD_l, FX.okD_t, FX.stD_n, FX.stD_b, FX.stD_i, FX.stD_s, FX.stD_t, FX.eqD_ii, FX.eqD_bb, FX.eqD_ss, FX.eqD_nn, FX.eqD_ll, FX.eqD_tt, FX.eqD_ni, FX.eqD_in, FX.eqD_nt, FX.eqD_tn, FX.eqD_nl, FX.eqD_ln, FX.eqD_ns, FX.eqD_sn, FX.eqA_nil, FX.eqA_cons, FX.eqA_nc, FX.eqA_cn, FX.eqD_tS, FX.eqD_lS, FX.eqD_tS1, FX.eqD_lS1, FX.eqD_lS0, FX.eqA_S, FX.eqA_S1, FX.eqA_S0, FX.inD_nil, FX.inD_ss, FX.inD_ii, FX.dec_t, FX.dec_f, FX.ite_and, FX.ite_or, FX.in_dl, FX.in_dt, FX.in_dc, FX.in_sg, FX.flat_s, FX.flat_i, FX.flat_b, FX.flat_n, FX.flat_mapS, FX.flat_mapI, FX.isD_mapD, FX.lo_mapD, FX.okD_mapS, FX.stD_mapS, FX.lo_l, FX.lo_d, FX.nr_nil, FX.nr_none, FX.nr_d, FX.nr_c, FX.callM_d1, FX.callM_d2, FX.callM_d3, FX.callM_d4, FX.isD_lst, FX.isD_d, FX.e_xG0, FX.e_xGThen, FX.e_xGPlain, FX.e_xGIf, FX.e_xGYield, FX.e_xGFor, FX.e_xListG, FX.gthen_nx, FX.gthen_xc, FX.glift_nx, FX.glift_xc, FX.gfin_nx, FX.gfin_xc, FX.e_xDGet, FX.e_xPNil, FX.e_xPCons, FX.e_xDct, FX.key_s, FX.key_i, FX.valD_nil, FX.valD_s, FX.valD_i, FX.e_xCallP, FX.e_xListGP, FX.pick_nil, FX.pick_cons, FX.e_xTry, FX.e_xTryAs, FX.e_xXf, FX.e_xIsX, FX.e_cl_nx, FX.e_cl_bk, FX.e_cl_ct, FX.e_cl_rt, FX.e_cl_xc, FX.e_cv_r, FX.e_cv_t, FX.e_xDct0, FX.e_xJoin, FX.e_cReprV, FX.e_oInV, FX.e_oLeS, FX.e_strs, FX.e_oEqV, FX.e_eqV_nil, FX.okMul_t, if_pos, if_neg])
local macro_rules | `(tactic| walk_at "fxh") => `(tactic| try simp (disch := first | assumption | omega) only [runDef, FX.runGen, FX.take_map, FX.drop_map, FX.dropLast_map, FX.rev_map, FX.cut_map, DL.cut_to1, DL.cut_from1, DL.cut_but, DL.cut_last, List.all_append, FX.eq_cd, FX.ne_cd, ne_eq, not_true_eq_false, not_false_eq_true, FX.and_t, FX.and_f, FX.and_b, FX.or_t, FX.or_f, FX.or_b, bnd_v, bnd_x, bnd_n, lft_s, lft_n, fin_v, fin_x, wipeA, List.getElem?_cons_zero, List.getElem?_cons_succ, List.getElem?_nil, Option.join_some, List.set_cons_zero, List.set_cons_succ, List.map_cons, List.map_nil, List.cons_append, List.nil_append, List.append_nil, List.length_cons, List.length_nil, Option.map_some, Option.map_none, Option.bind_some, Option.bind_none, List.replicate_succ, List.replicate_zero, Nat.reduceAdd, Nat.reduceSub, Nat.reduceLeDiff, if_true, if_false, decide_eq_true_eq, Bool.not_true, Bool.true_eq_false, reduceCtorEq, Bool.decide_eq_true, Bool.true_and, Bool.false_and, Bool.true_or, Bool.false_or, Bool.or_true, Bool.or_false, Bool.and_false, Bool.and_eq_true, Bool.or_eq_true, Bool.not_not, Bool.decide_eq_false, Bool.not_false, Bool.not_eq_true', decide_eq_false_iff_not, Bool.false_eq_true, reduceIte, Nat.zero_add, chk, List.take_succ_cons, List.take_zero, List.all_cons, List.all_nil, Bool.and_true, Bool.and_self, and_self, and_true, true_and, Nat.le_refl, ge_iff_le, Int.reduceNeg, Int.reduceLT, Int.reduceLE, Int.reduceToNat, Nat.not_lt_zero, Int.toNat_natCast, rangeL0, toD_map, inD_str, D.isStr, D.isTup, D.isLst, D.isInt, D.isBool, D.ty, Option.isSome_some, Option.isSome_none, DL.nD, DL.sgD, List.length_map, List.length_range, List.length_append, FX.e_xVar, FX.e_xC, FX.e_xInt, FX.e_xBl, FX.e_xStr, FX.e_xNon, FX.e_xRaw, FX.e_xOp, FX.e_xOpN, FX.e_xUn, FX.e_xNil, FX.e_xCons, FX.e_xStar, FX.e_xCB, FX.e_xCBN, FX.e_xDat, FX.e_xTup, FX.e_xLst, FX.e_xTest, FX.e_xB, FX.e_xYes, FX.e_xNot, FX.e_xAnd, FX.e_xOr, FX.e_xAndV, FX.e_xOrV, FX.e_xNotV, FX.e_xIf, FX.e_xChain, FX.e_xONone, FX.e_xOSome, FX.e_xSl, FX.e_xSlN, FX.e_xRev, FX.e_xEach, FX.e_xRng1, FX.e_xRng2, FX.e_xEnum, FX.e_xZip, FX.e_xName, FX.e_xGNil, FX.e_xGCons, FX.e_xGTup, FX.e_xLc, FX.e_xNext, FX.e_xBreak, FX.e_xCont, FX.e_xSeq, FX.e_xIfS, FX.e_xDrop, FX.e_xRet, FX.e_xRetN, FX.e_xRetL, FX.e_xAsg, FX.e_xAsgN, FX.e_xAsgIfN, FX.e_xAug, FX.e_xMNil, FX.e_xMCons, FX.e_xMConsN, FX.e_xPar, FX.e_xPar3, FX.e_xFor, FX.e_xWhile, FX.e_xAppend, FX.e_xPop, FX.e_xPopAt, FX.e_xSetL, FX.e_xRaiseV, FX.e_xRaiseI, FX.e_xCall, FX.e_xCallN, FX.e_xCallD, FX.e_xCallK, FX.e_xCallL, FX.e_xCallT, FX.e_xCallTN, FX.e_xLRg1, FX.f_oAdd, FX.f_oMul, FX.f_oEq, FX.f_oNe, FX.f_oIs, FX.f_oIsN, FX.f_oIn, FX.f_oNotIn, FX.f_oIx, FX.f_oSub, FX.f_oDiv, FX.f_oMod, FX.f_oPow, FX.f_oLt, FX.f_oLe, FX.f_oGt, FX.f_oGe, FX.f_uNeg, FX.f_oAddN, FX.f_cLen, FX.f_cRepr, FX.f_cList, FX.f_cTup, FX.f_cAny, FX.f_cAll, FX.f_cIsi, FX.f_cIsSeq, FX.f_cAbs, FX.f_cInt, FX.f_cMax2, FX.f_cMin2, FX.f_cSortI, FX.add_ii, FX.add_ss, FX.add_ll, FX.add_tt, FX.addN_ll, FX.mul_ii, FX.mul_li, FX.eq_dd, FX.ne_dd, FX.is_n, FX.isn_n, FX.is_bb, FX.isn_bb, FX.nonF_n, FX.nonF_c, FX.nonF_i, FX.nonF_t, FX.nonF_l, FX.nonF_s, FX.nonF_b, FX.ix_l, FX.ix_t, FX.ix_f, FX.ix_s, FX.ix_c, FX.len_l, FX.len_t, FX.len_f, FX.len_s, FX.len_c, FX.thaw_d, FX.thaw_c, FX.tup_l, FX.tup_t, FX.list_l, FX.list_t, FX.asB_b, FX.asI_i, FX.any_l, FX.all_l, FX.isi_d, FX.kind_str, FX.kind_tup, FX.kind_lst, FX.kind_int, FX.kind_bool, FX.seq_d, FX.toD_nil, FX.toD_cons, FX.then_nx, FX.then_rt, FX.then_bk, FX.then_ct, FX.then_xc, FX.cell_c, FX.one_d, FX.lst_at0, FX.lst_at1, FX.outV_r, FX.outV_n, FX.outV_x, FX.outN_n, FX.outN_x, FX.finD_nx, FX.finD_rd, FX.finD_rc, FX.finD_xc, FX.nonF_d, FX.nonF_f, FX.nonF_o, FX.at0, FX.at1, FX.at2, FX.at3, FX.okD_n, FX.okD_b, FX.okD_i, FX.okD_s, FX.okD_l, FX.okD_t, FX.stD_n, FX.stD_b, FX.stD_i, FX.stD_s, FX.stD_t, FX.eqD_ii, FX.eqD_bb, FX.eqD_ss, FX.eqD_nn, FX.eqD_ll, FX.eqD_tt, FX.eqD_ni, FX.eqD_in, FX.eqD_nt, FX.eqD_tn, FX.eqD_nl, FX.eqD_ln, FX.eqD_ns, FX.eqD_sn, FX.eqA_nil, FX.eqA_cons, FX.eqA_nc, FX.eqA_cn, FX.eqD_tS, FX.eqD_lS, FX.eqD_tS1, FX.eqD_lS1, FX.eqD_lS0, FX.eqA_S, FX.eqA_S1, FX.eqA_S0, FX.inD_nil, FX.inD_ss, FX.inD_ii, FX.dec_t, FX.dec_f, FX.ite_and, FX.ite_or, FX.in_dl, FX.in_dt, FX.in_dc, FX.in_sg, FX.flat_s, FX.flat_i, FX.flat_b, FX.flat_n, FX.flat_mapS, FX.flat_mapI, FX.isD_mapD, FX.lo_mapD, FX.okD_mapS, FX.stD_mapS, FX.lo_l, FX.lo_d, FX.nr_nil, FX.nr_none, FX.nr_d, FX.nr_c, FX.callM_d1, FX.callM_d2, FX.callM_d3, FX.callM_d4, FX.isD_lst, FX.isD_d, FX.e_xG0, FX.e_xGThen, FX.e_xGPlain, FX.e_xGIf, FX.e_xGYield, FX.e_xGFor, FX.e_xListG, FX.gthen_nx, FX.gthen_xc, FX.glift_nx, FX.glift_xc, FX.gfin_nx, FX.gfin_xc, FX.e_xDGet, FX.e_xPNil, FX.e_xPCons, FX.e_xDct, FX.key_s, FX.key_i, FX.valD_nil, FX.valD_s, FX.valD_i, FX.e_xCallP, FX.e_xListGP, FX.pick_nil, FX.pick_cons, FX.e_xTry, FX.e_xTryAs, FX.e_xXf, FX.e_xIsX, FX.e_cl_nx, FX.e_cl_bk, FX.e_cl_ct, FX.e_cl_rt, FX.e_cl_xc, FX.e_cv_r, FX.e_cv_t, FX.e_xDct0, FX.e_xJoin, FX.e_cReprV, FX.e_oInV, FX.e_oLeS, FX.e_strs, FX.e_oEqV, FX.e_eqV_nil, FX.okMul_t, if_pos, if_neg, *])
local macro_rules | `(tactic| walk_at "fx!") => `(tactic| simp (disch := first | assumption | omega) only [runDef, FX.runGen, FX.take_map, FX.drop_map, FX.dropLast_map, FX.rev_map, FX.cut_map, DL.cut_to1, DL.cut_from1, DL.cut_but, DL.cut_last, List.all_append, FX.eq_cd, FX.ne_cd, ne_eq, not_true_eq_false, not_false_eq_true, FX.and_t, FX.and_f, FX.and_b, FX.or_t, FX.or_f, FX.or_b, bnd_v, bnd_x, bnd_n, lft_s, lft_n, fin_v, fin_x, wipeA, List.getElem?_cons_zero, List.getElem?_cons_succ, List.getElem?_nil, Option.join_some, List.set_cons_zero, List.set_cons_succ, List.map_cons, List.map_nil, List.cons_append, List.nil_append, List.append_nil, List.length_cons, List.length_nil, Option.map_some, Option.map_none, Option.bind_some, Option.bind_none, List.replicate_succ, List.replicate_zero, Nat.reduceAdd, Nat.reduceSub, Nat.reduceLeDiff, if_true, if_false, decide_eq_true_eq, Bool.not_true, Bool.true_eq_false, reduceCtorEq, Bool.decide_eq_true, Bool.true_and, Bool.false_and, Bool.true_or, Bool.false_or, Bool.or_true, Bool.or_false, Bool.and_false, Bool.and_eq_true, Bool.or_eq_true, Bool.not_not, Bool.decide_eq_false, Bool.not_false, Bool.not_eq_true', decide_eq_false_iff_not, Bool.false_eq_true, reduceIte, Nat.zero_add, chk, List.take_succ_cons, List.take_zero, List.all_cons, List.all_nil, Bool.and_true, Bool.and_self, and_self, and_true, true_and, Nat.le_refl, ge_iff_le, Int.reduceNeg, Int.reduceLT, Int.reduceLE, Int.reduceToNat, Nat.not_lt_zero, Int.toNat_natCast, rangeL0, toD_map, inD_str, D.isStr, D.isTup, D.isLst, D.isInt, D.isBool, D.ty, Option.isSome_some, Option.isSome_none, DL.nD, DL.sgD, List.length_map, List.length_range, List.length_append, FX.e_xVar, FX.e_xC, FX.e_xInt, FX.e_xBl, FX.e_xStr, FX.e_xNon, FX.e_xRaw, FX.e_xOp, FX.e_xOpN, FX.e_xUn, FX.e_xNil, FX.e_xCons, FX.e_xStar, FX.e_xCB, FX.e_xCBN, FX.e_xDat, FX.e_xTup, FX.e_xLst, FX.e_xTest, FX.e_xB, FX.e_xYes, FX.e_xNot, FX.e_xAnd, FX.e_xOr, FX.e_xAndV, FX.e_xOrV, FX.e_xNotV, FX.e_xIf, FX.e_xChain, FX.e_xONone, FX.e_xOSome, FX.e_xSl, FX.e_xSlN, FX.e_xRev, FX.e_xEach, FX.e_xRng1, FX.e_xRng2, FX.e_xEnum, FX.e_xZip, FX.e_xName, FX.e_xGNil, FX.e_xGCons, FX.e_xGTup, FX.e_xLc, FX.e_xNext, FX.e_xBreak, FX.e_xCont, FX.e_xSeq, FX.e_xIfS, FX.e_xDrop, FX.e_xRet, FX.e_xRetN, FX.e_xRetL, FX.e_xAsg, FX.e_xAsgN, FX.e_xAsgIfN, FX.e_xAug, FX.e_xMNil, FX.e_xMCons, FX.e_xMConsN, FX.e_xPar, FX.e_xPar3, FX.e_xFor, FX.e_xWhile, FX.e_xAppend, FX.e_xPop, FX.e_xPopAt, FX.e_xSetL, FX.e_xRaiseV, FX.e_xRaiseI, FX.e_xCall, FX.e_xCallN, FX.e_xCallD, FX.e_xCallK, FX.e_xCallL, FX.e_xCallT, FX.e_xCallTN, FX.e_xLRg1, FX.f_oAdd, FX.f_oMul, FX.f_oEq, FX.f_oNe, FX.f_oIs, FX.f_oIsN, FX.f_oIn, FX.f_oNotIn, FX.f_oIx, FX.f_oSub, FX.f_oDiv, FX.f_oMod, FX.f_oPow, FX.f_oLt, FX.f_oLe, FX.f_oGt, FX.f_oGe, FX.f_uNeg, FX.f_oAddN, FX.f_cLen, FX.f_cRepr, FX.f_cList, FX.f_cTup, FX.f_cAny, FX.f_cAll, FX.f_cIsi, FX.f_cIsSeq, FX.f_cAbs, FX.f_cInt, FX.f_cMax2, FX.f_cMin2, FX.f_cSortI, FX.add_ii, FX.add_ss, FX.add_ll, FX.add_tt, FX.addN_ll, FX.mul_ii, FX.mul_li, FX.eq_dd, FX.ne_dd, FX.is_n, FX.isn_n, FX.is_bb, FX.isn_bb, FX.nonF_n, FX.nonF_c, FX.nonF_i, FX.nonF_t, FX.nonF_l, FX.nonF_s, FX.nonF_b, FX.ix_l, FX.ix_t, FX.ix_f, FX.ix_s, FX.ix_c, FX.len_l, FX.len_t, FX.len_f, FX.len_s, FX.len_c, FX.thaw_d, FX.thaw_c, FX.tup_l, FX.tup_t, FX.list_l, FX.list_t, FX.asB_b, FX.asI_i, FX.any_l, FX.all_l, FX.isi_d, FX.kind_str, FX.kind_tup, FX.kind_lst, FX.kind_int, FX.kind_bool, FX.seq_d, FX.toD_nil, FX.toD_cons, FX.then_nx, FX.then_rt, FX.then_bk, FX.then_ct, FX.then_xc, FX.cell_c, FX.one_d, FX.lst_at0, FX.lst_at1, FX.outV_r, FX.outV_n, FX.outV_x, FX.outN_n, FX.outN_x, FX.finD_nx, FX.finD_rd, FX.finD_rc, FX.finD_xc, FX.nonF_d, FX.nonF_f, FX.nonF_o, FX.at0, FX.at1, FX.at2, FX.at3, FX.okD_n, FX.okD_b, FX.okD_i, FX.okD_s, FX.okD_l, FX.okD_t, FX.stD_n, FX.stD_b, FX.stD_i, FX.stD_s, FX.stD_t, FX.eqD_ii, FX.eqD_bb, FX.eqD_ss, FX.eqD_nn, FX.eqD_ll, FX.eqD_tt, FX.eqD_ni, FX.eqD_in, FX.eqD_nt, FX.eqD_tn, FX.eqD_nl, FX.eqD_ln, FX.eqD_ns, FX.eqD_sn, FX.eqA_nil, FX.eqA_cons, FX.eqA_nc, FX.eqA_cn, FX.eqD_tS, FX.eqD_lS, FX.eqD_tS1, FX.eqD_lS1, FX.eqD_lS0, FX.eqA_S, FX.eqA_S1, FX.eqA_S0, FX.inD_nil, FX.inD_ss, FX.inD_ii, FX.dec_t, FX.dec_f, FX.ite_and, FX.ite_or, FX.in_dl, FX.in_dt, FX.in_dc, FX.in_sg, FX.flat_s, FX.flat_i, FX.flat_b, FX.flat_n, FX.flat_mapS, FX.flat_mapI, FX.isD_mapD, FX.lo_mapD, FX.okD_mapS, FX.stD_mapS, FX.lo_l, FX.lo_d, FX.nr_nil, FX.nr_none, FX.nr_d, FX.nr_c, FX.callM_d1, FX.callM_d2, FX.callM_d3, FX.callM_d4, FX.isD_lst, FX.isD_d, FX.e_xG0, FX.e_xGThen, FX.e_xGPlain, FX.e_xGIf, FX.e_xGYield, FX.e_xGFor, FX.e_xListG, FX.gthen_nx, FX.gthen_xc, FX.glift_nx, FX.glift_xc, FX.gfin_nx, FX.gfin_xc, FX.e_xDGet, FX.e_xPNil, FX.e_xPCons, FX.e_xDct, FX.key_s, FX.key_i, FX.valD_nil, FX.valD_s, FX.valD_i, FX.e_xCallP, FX.e_xListGP, FX.pick_nil, FX.pick_cons, FX.e_xTry, FX.e_xTryAs, FX.e_xXf, FX.e_xIsX, FX.e_cl_nx, FX.e_cl_bk, FX.e_cl_ct, FX.e_cl_rt, FX.e_cl_xc, FX.e_cv_r, FX.e_cv_t, FX.e_xDct0, FX.e_xJoin, FX.e_cReprV, FX.e_oInV, FX.e_oLeS, FX.e_strs, FX.e_oEqV, FX.e_eqV_nil, FX.okMul_t, if_pos, if_neg])
local macro_rules | `(tactic| walk_at "rd") => `(tactic| dsimp only [List.length_cons, List.length_nil, Nat.reduceAdd, Nat.zero_add, FX.xVar, FX.xC, FX.xInt, FX.xBl, FX.xStr, FX.xNon, FX.xRaw, FX.xOp, FX.xOpN, FX.xUn, FX.xNil, FX.xCons, FX.xStar, FX.xCB, FX.xCBN, FX.xDat, FX.xTup, FX.xLst, FX.xTest, FX.xB, FX.xYes, FX.xNot, FX.xAnd, FX.xOr, FX.xAndV, FX.xOrV, FX.xNotV, FX.xIf, FX.xChain, FX.xONone, FX.xOSome, FX.oAdd, FX.oAddN, FX.oMul, FX.oSub, FX.oDiv, FX.oMod, FX.oPow, FX.oLt, FX.oLe, FX.oGt, FX.oGe, FX.oEq, FX.oNe, FX.oIs, FX.oIsN, FX.oIn, FX.oNotIn, FX.oIx, FX.uNeg, FX.cLen, FX.cRepr, FX.cList, FX.cTup, FX.cAbs, FX.cInt, FX.cMax2, FX.cMin2, FX.cAny, FX.cAll, FX.cSortI, FX.cIsi, FX.cIsSeq, FX.xSl, FX.xSlN, FX.xEach, FX.xRng1, FX.xRng2, FX.xEnum, FX.xZip, FX.xName, FX.xGNil, FX.xGCons, FX.xGTup, FX.xLc, FX.xNext, FX.xBreak, FX.xCont, FX.xNever, FX.xSeq, FX.xIfS, FX.xDrop, FX.xRet, FX.xRetN, FX.xRetL, FX.xAsg, FX.xAsgN, FX.xAsgIfN, FX.xAug, FX.xMNil, FX.xMCons, FX.xMConsN, FX.xPar, FX.xPar3, FX.xFor, FX.xWhile, FX.xAppend, FX.xPop, FX.xPopAt, FX.xSetL, FX.xRaiseV, FX.xRaiseI, FX.xCallD, FX.xCallDN, FX.xCall, FX.xCallN, FX.xCallK, FX.xRev, FX.xCallT, FX.xCallTN, FX.xLRg1, FX.xCallL, FX.xG0, FX.xGThen, FX.xGPlain, FX.xGIf, FX.xGYield, FX.xGFor, FX.xListG, FX.xDGet, FX.xPNil, FX.xPCons, FX.xDct, FX.xCallP, FX.xListGP, FX.xTry, FX.xTryAs, FX.xXf, FX.xIsX, FX.oInV, FX.cReprV, FX.xDct0, FX.xJoin, FX.oLeS, FX.oEqV])
noncomputable section
variable {P : Program} {w : World} {K : PySem.W.Frag} {mg : Str → Option Value} {base : Heap}
abbrev st__law_pool : Stmt := PySem.Challenge.pw_stackeffect_k01_items_words_sequences.main.body.getD 16 (.Pass ⟨0, 0, 0, 0⟩)
abbrev N__law_pool : List Str := ["_law_script", "_law_k", "_law_cell", "_law_size", "_law_seed"]
theorem sc__law_pool : FnScope N__law_pool ["_law_script", "_law_k"] (defScope st__law_pool) := ⟨rfl, rfl, rfl, by decide +kernel, rfl, by decide +kernel, by decide +kernel⟩
def x__law_pool (G : Gb) : XS :=
 (xSeq (xAsg (xInt 0) (xName 2))
 (xSeq (xIfS (xTest (xOp oLt (xVar 1) (xCB cLen (xCons (xVar 0) xNil))))
 (xAsg (xOp oIx (xVar 0) (xVar 1)) (xName 2))
 xNext)
 (xSeq (xAsg (xCB cAbs (xCons (xVar 2) xNil)) (xName 3))
 (xSeq (xAsg (xOp oMod (xOp oPow (xOp oAdd (xOp oAdd (xOp oAdd (xOp oMod (xVar 2) (xInt 2147483629)) (xOp oMul (xOp oMul (xInt 104729) (xVar 1)) (xVar 1))) (xOp oMul (xInt 7919) (xVar 1))) (xInt 11)) (xInt 3)) (xInt 2147483647)) (xName 4))
 (xRetL (xLst (xCons (xOp oMul (xVar 3) (xCB cInt (xCons (xOp oGe (xVar 3) (xOp oPow (xInt 10) (xInt 18))) xNil))) (xCons (xVar 4) xNil))))))))
def F__law_pool (G : Gb) : Fn := runDef 2 5 (x__law_pool G).ev
theorem ok__law_pool {G : Gb} {f : Addr} {fd : FuncData} (F : Def K mg "_law_pool" st__law_pool f fd) (b : Binds K fd ["_law_script", "_law_k"] [])
    (n_int : mg "int" = none) (n_abs : mg "abs" = none) (n_len : mg "len" = none) : Cal false P w K mg base 1 "_law_pool" (SpR K (gr (F__law_pool G))) := by
  refine ⟨f, fd, _, fx_body (b := x__law_pool G) F.fn sc__law_pool ?_, F.mgf, F.fn.kp, b⟩
  intro cdv A outer s H E hr hgd
  have nd := sc__law_pool.nd
  exact ⟨_, (pss_cons (ps_set (i := 2) nd rfl (by first | exact .inl rfl | exact .inr rfl) pe_int)
 (pss_cons (ps_if (pt_cmpR o_lt (pv 1) (pe_callB (k_len K rfl) (by rfl) n_len (by decide +kernel) (pa_cons (pv 0) pa_nil)) (nomark _))
 (pss_one (ps_set (i := 2) nd rfl (by first | exact .inl rfl | exact .inr rfl) (pe_ix (k_ix K rfl) (pv 0) (pv 1) (fun _ _ => rfl))))
 pss_nil)
 (pss_cons (ps_set (i := 3) nd rfl (by first | exact .inl rfl | exact .inr rfl) (pe_callB call_abs (by rfl) n_abs (by decide +kernel) (pa_cons (pv 2) pa_nil)))
 (pss_cons (ps_set (i := 4) nd rfl (by first | exact .inl rfl | exact .inr rfl) (pe_op o_mod (pe_op o_pow (pe_op (k_add K rfl) (pe_op (k_add K rfl) (pe_op (k_add K rfl) (pe_op o_mod (pv 2) pe_int) (pe_op (k_mulB K rfl) (pe_op (k_mulB K rfl) pe_int (pv 1)) (pv 1))) (pe_op (k_mulB K rfl) pe_int (pv 1))) pe_int) pe_int) pe_int))
 (pss_one (ps_ret (pe_lst (pa_cons (pe_op (k_mulB K rfl) (pv 3) (pe_callTy call_int1 (by rfl) n_int (by decide +kernel) (pa_cons (pe_cmpR o_ge (pv 3) (pe_op o_pow pe_int pe_int) (nomark _)) pa_nil))) (pa_cons (pv 4) pa_nil))))))))), rfl⟩
abbrev st__law_take : Stmt := PySem.Challenge.pw_stackeffect_k01_items_words_sequences.main.body.getD 17 (.Pass ⟨0, 0, 0, 0⟩)
abbrev N__law_take : List Str := ["_law_pool_here", "_law_many", "_law_found"]
theorem sc__law_take : FnScope N__law_take ["_law_pool_here", "_law_many"] (defScope st__law_take) := ⟨rfl, rfl, rfl, by decide +kernel, rfl, by decide +kernel, by decide +kernel⟩
def x__law_take (G : Gb) : XS :=
 (xSeq (xIfS (xTest (xOp oGt (xOp oIx (xVar 0) (xInt 0)) (xInt 0)))
 (xSeq (xAsg (xOp oMod (xOp oIx (xVar 0) (xInt 0)) (xVar 1)) (xName 2))
 (xSeq (xSetL (xOp oDiv (xOp oIx (xVar 0) (xInt 0)) (xVar 1)) 0 (xInt 0))
 (xRet (xVar 2))))
 xNext)
 (xSeq (xSetL (xOp oMod (xOp oAdd (xOp oMul (xOp oIx (xVar 0) (xInt 1)) (xInt 48271)) (xInt 11)) (xInt 2147483647)) 0 (xInt 1))
 (xRet (xOp oMod (xOp oDiv (xOp oMod (xOp oMul (xOp oIx (xVar 0) (xInt 1)) (xOp oIx (xVar 0) (xInt 1))) (xInt 2147483629)) (xInt 64)) (xVar 1)))))
def F__law_take (G : Gb) : Fn := runDef 2 3 (x__law_take G).ev
theorem ok__law_take {G : Gb} {f : Addr} {fd : FuncData} (F : Def K mg "_law_take" st__law_take f fd) (b : Binds K fd ["_law_pool_here", "_law_many"] [])
     : Cal false P w K mg base 1 "_law_take" (SpR K (gr (F__law_take G))) := by
  refine ⟨f, fd, _, fx_body (b := x__law_take G) F.fn sc__law_take ?_, F.mgf, F.fn.kp, b⟩
  intro cdv A outer s H E hr hgd
  have nd := sc__law_take.nd
  exact ⟨_, (pss_cons (ps_if (pt_cmpR o_gt (pe_ix (k_ix K rfl) (pv 0) pe_int (fun _ _ => rfl)) pe_int (nomark _))
 (pss_cons (ps_set (i := 2) nd rfl (by first | exact .inl rfl | exact .inr rfl) (pe_op o_mod (pe_ix (k_ix K rfl) (pv 0) pe_int (fun _ _ => rfl)) (pv 1)))
 (pss_cons (ps_asg (pe_op o_div (pe_ix (k_ix K rfl) (pv 0) pe_int (fun _ _ => rfl)) (pv 1)) (pg_sub (pv 0) pe_int set_list))
 (pss_one (ps_ret (pv 2)))))
 pss_nil)
 (pss_cons (ps_asg (pe_op o_mod (pe_op (k_add K rfl) (pe_op (k_mulB K rfl) (pe_ix (k_ix K rfl) (pv 0) pe_int (fun _ _ => rfl)) pe_int) pe_int) pe_int) (pg_sub (pv 0) pe_int set_list))
 (pss_one (ps_ret (pe_op o_mod (pe_op o_div (pe_op o_mod (pe_op (k_mulB K rfl) (pe_ix (k_ix K rfl) (pv 0) pe_int (fun _ _ => rfl)) (pe_ix (k_ix K rfl) (pv 0) pe_int (fun _ _ => rfl))) pe_int) pe_int) (pv 1)))))), rfl⟩
/-! ### the draws -/
abbrev Pl : Type := {p : Int × Int // -1 < p.2 ∧ p.2 < 2147483647}
def poolD (p : Pl) : List D := [.int p.1.1, .int p.1.2]
def poolC (p : Pl) : CC := .lst ((poolD p).map .d)
theorem poolC_eq (p : Pl) : CC.lst ((poolD p).map .d) = poolC p := rfl
theorem poolC_lst (p : Pl) : poolC p = .lst [.d (.int p.1.1), .d (.int p.1.2)] := rfl
theorem lo_pool {n : Nat} (p : Pl) : CC.lo n (poolC p) = true := rfl
theorem isD_pool (p : Pl) : CC.isD (poolC p) = true := rfl
def takeP (n : Nat) (p : Pl) : Nat × Pl :=
  if 0 < p.1.1 then ((p.1.1 % (n : Int)).toNat, ⟨(p.1.1 / (n : Int), p.1.2), p.2⟩)
  else (((p.1.2 * 48271 + 11) % 2147483647 * ((p.1.2 * 48271 + 11) % 2147483647) % 2147483629 / 64 % (n : Int)).toNat, ⟨(p.1.1, (p.1.2 * 48271 + 11) % 2147483647), by constructor <;> (show _ < _; dsimp only; omega)⟩)
theorem takeP_lt {n : Nat} (p : Pl) (h : 0 < n) : (takeP n p).1 < n := by
  unfold takeP
  split
  · have h1 := Int.emod_nonneg p.1.1 (show (n : Int) ≠ 0 by omega)
    have h2 := Int.emod_lt_of_pos p.1.1 (show 0 < (n : Int) by omega)
    show (p.1.1 % (n : Int)).toNat < n
    omega
  · generalize (p.1.2 * 48271 + 11) % 2147483647 * ((p.1.2 * 48271 + 11) % 2147483647) % 2147483629 / 64 = x
    have h1 := Int.emod_nonneg x (show (n : Int) ≠ 0 by omega)
    have h2 := Int.emod_lt_of_pos x (show 0 < (n : Int) by omega)
    show (x % (n : Int)).toNat < n
    omega
theorem F_take (G : Gb) (p : Pl) {z : Int} (h1 : 0 < z) (h2 : z < 1000000) : F__law_take G [.cell 0, .d (.int z)] [poolC p] = some (.ret (.d (.int ((takeP z.toNat p).1 : Nat))), [poolC (takeP z.toNat p).2]) := by
  obtain ⟨⟨a, b⟩, h3, h4⟩ := p
  have e : ((z.toNat : Nat) : Int) = z := Int.toNat_of_nonneg (by omega)
  unfold F__law_take x__law_take takeP
  simp only [poolC_lst, e]
  dsimp only at h3 h4 ⊢
  by_cases h : 0 < a
  · have h5 := Int.emod_nonneg a (show z ≠ 0 by omega)
    walk_at "fx"
    rw [Int.toNat_of_nonneg h5]
  · have h5 := Int.emod_nonneg ((b * 48271 + 11) % 2147483647 * ((b * 48271 + 11) % 2147483647) % 2147483629 / 64) (show z ≠ 0 by omega)
    walk_at "fx"
    rw [Int.toNat_of_nonneg h5]
theorem C_take (G : Gb) {k : Nat} {μ : List CC} {p : Pl} {z : Int} (hk : μ[k]? = some (poolC p)) (h1 : 0 < z) (h2 : z < 1000000) : callM (F__law_take G) [.cell k, .d (.int z)] μ = some (.ret (.d (.int ((takeP z.toNat p).1 : Nat))), μ.set k (poolC (takeP z.toNat p).2)) :=
  callM_1 hk rfl (by simp only [List.map_cons, List.map_nil, renum, List.idxOf_cons_self]; exact F_take G p h1 h2) rfl rfl
theorem C_take0 (G : Gb) {μ : List CC} {p : Pl} {z : Int} (h1 : 0 < z) (h2 : z < 1000000) : callM (F__law_take G) [.cell 0, .d (.int z)] (poolC p :: μ) = some (.ret (.d (.int ((takeP z.toNat p).1 : Nat))), poolC (takeP z.toNat p).2 :: μ) := C_take G rfl h1 h2
local macro_rules | `(tactic| walk_at "fx") => `(tactic| try simp (disch := first | assumption | omega) only [runDef, FX.runGen, FX.take_map, FX.drop_map, FX.dropLast_map, FX.rev_map, FX.cut_map, DL.cut_to1, DL.cut_from1, DL.cut_but, DL.cut_last, List.all_append, FX.eq_cd, FX.ne_cd, ne_eq, not_true_eq_false, not_false_eq_true, FX.and_t, FX.and_f, FX.and_b, FX.or_t, FX.or_f, FX.or_b, bnd_v, bnd_x, bnd_n, lft_s, lft_n, fin_v, fin_x, wipeA, List.getElem?_cons_zero, List.getElem?_cons_succ, List.getElem?_nil, Option.join_some, List.set_cons_zero, List.set_cons_succ, List.map_cons, List.map_nil, List.cons_append, List.nil_append, List.append_nil, List.length_cons, List.length_nil, Option.map_some, Option.map_none, Option.bind_some, Option.bind_none, List.replicate_succ, List.replicate_zero, Nat.reduceAdd, Nat.reduceSub, Nat.reduceLeDiff, if_true, if_false, decide_eq_true_eq, Bool.not_true, Bool.true_eq_false, reduceCtorEq, Bool.decide_eq_true, Bool.true_and, Bool.false_and, Bool.true_or, Bool.false_or, Bool.or_true, Bool.or_false, Bool.and_false, Bool.and_eq_true, Bool.or_eq_true, Bool.not_not, Bool.decide_eq_false, Bool.not_false, Bool.not_eq_true', decide_eq_false_iff_not, Bool.false_eq_true, reduceIte, Nat.zero_add, chk, List.take_succ_cons, List.take_zero, List.all_cons, List.all_nil, Bool.and_true, Bool.and_self, and_self, and_true, true_and, Nat.le_refl, ge_iff_le, Int.reduceNeg, Int.reduceLT, Int.reduceLE, Int.reduceToNat, Nat.not_lt_zero, Int.toNat_natCast, rangeL0, toD_map, inD_str, D.isStr, D.isTup, D.isLst, D.isInt, D.isBool, D.ty, Option.isSome_some, Option.isSome_none, DL.nD, DL.sgD, List.length_map, List.length_range, List.length_append, FX.e_xVar, FX.e_xC, FX.e_xInt, FX.e_xBl, FX.e_xStr, FX.e_xNon, FX.e_xRaw, FX.e_xOp, FX.e_xOpN, FX.e_xUn, FX.e_xNil, FX.e_xCons, FX.e_xStar, FX.e_xCB, FX.e_xCBN, FX.e_xDat, FX.e_xTup, FX.e_xLst, FX.e_xTest, FX.e_xB, FX.e_xYes, FX.e_xNot, FX.e_xAnd, FX.e_xOr, FX.e_xAndV, FX.e_xOrV, FX.e_xNotV, FX.e_xIf, FX.e_xChain, FX.e_xONone, FX.e_xOSome, FX.e_xSl, FX.e_xSlN, FX.e_xRev, FX.e_xEach, FX.e_xRng1, FX.e_xRng2, FX.e_xEnum, FX.e_xZip, FX.e_xName, FX.e_xGNil, FX.e_xGCons, FX.e_xGTup, FX.e_xLc, FX.e_xNext, FX.e_xBreak, FX.e_xCont, FX.e_xSeq, FX.e_xIfS, FX.e_xDrop, FX.e_xRet, FX.e_xRetN, FX.e_xRetL, FX.e_xAsg, FX.e_xAsgN, FX.e_xAsgIfN, FX.e_xAug, FX.e_xMNil, FX.e_xMCons, FX.e_xMConsN, FX.e_xPar, FX.e_xPar3, FX.e_xFor, FX.e_xWhile, FX.e_xAppend, FX.e_xPop, FX.e_xPopAt, FX.e_xSetL, FX.e_xRaiseV, FX.e_xRaiseI, FX.e_xCall, FX.e_xCallN, FX.e_xCallD, FX.e_xCallK, FX.e_xCallL, FX.e_xCallT, FX.e_xCallTN, FX.e_xLRg1, FX.f_oAdd, FX.f_oMul, FX.f_oEq, FX.f_oNe, FX.f_oIs, FX.f_oIsN, FX.f_oIn, FX.f_oNotIn, FX.f_oIx, FX.f_oSub, FX.f_oDiv, FX.f_oMod, FX.f_oPow, FX.f_oLt, FX.f_oLe, FX.f_oGt, FX.f_oGe, FX.f_uNeg, FX.f_oAddN, FX.f_cLen, FX.f_cRepr, FX.f_cList, FX.f_cTup, FX.f_cAny, FX.f_cAll, FX.f_cIsi, FX.f_cIsSeq, FX.f_cAbs, FX.f_cInt, FX.f_cMax2, FX.f_cMin2, FX.f_cSortI, FX.add_ii, FX.add_ss, FX.add_ll, FX.add_tt, FX.addN_ll, FX.mul_ii, FX.mul_li, FX.eq_dd, FX.ne_dd, FX.is_n, FX.isn_n, FX.is_bb, FX.isn_bb, FX.nonF_n, FX.nonF_c, FX.nonF_i, FX.nonF_t, FX.nonF_l, FX.nonF_s, FX.nonF_b, FX.ix_l, FX.ix_t, FX.ix_f, FX.ix_s, FX.ix_c, FX.len_l, FX.len_t, FX.len_f, FX.len_s, FX.len_c, FX.thaw_d, FX.thaw_c, FX.tup_l, FX.tup_t, FX.list_l, FX.list_t, FX.asB_b, FX.asI_i, FX.any_l, FX.all_l, FX.isi_d, FX.kind_str, FX.kind_tup, FX.kind_lst, FX.kind_int, FX.kind_bool, FX.seq_d, FX.toD_nil, FX.toD_cons, FX.then_nx, FX.then_rt, FX.then_bk, FX.then_ct, FX.then_xc, FX.cell_c, FX.one_d, FX.lst_at0, FX.lst_at1, FX.outV_r, FX.outV_n, FX.outV_x, FX.outN_n, FX.outN_x, FX.finD_nx, FX.finD_rd, FX.finD_rc, FX.finD_xc, FX.nonF_d, FX.nonF_f, FX.nonF_o, FX.at0, FX.at1, FX.at2, FX.at3, FX.okD_n, FX.okD_b, FX.okD_i, FX.okD_s, FX.okD_l, FX.okD_t, FX.stD_n, FX.stD_b, FX.stD_i, FX.stD_s, FX.stD_t, FX.eqD_ii, FX.eqD_bb, FX.eqD_ss, FX.eqD_nn, FX.eqD_ll, FX.eqD_tt, FX.eqD_ni, FX.eqD_in, FX.eqD_nt, FX.eqD_tn, FX.eqD_nl, FX.eqD_ln, FX.eqD_ns, FX.eqD_sn, FX.eqA_nil, FX.eqA_cons, FX.eqA_nc, FX.eqA_cn, FX.eqD_tS, FX.eqD_lS, FX.eqD_tS1, FX.eqD_lS1, FX.eqD_lS0, FX.eqA_S, FX.eqA_S1, FX.eqA_S0, FX.inD_nil, FX.inD_ss, FX.inD_ii, FX.dec_t, FX.dec_f, FX.ite_and, FX.ite_or, FX.in_dl, FX.in_dt, FX.in_dc, FX.in_sg, FX.flat_s, FX.flat_i, FX.flat_b, FX.flat_n, FX.flat_mapS, FX.flat_mapI, FX.isD_mapD, FX.lo_mapD, FX.okD_mapS, FX.stD_mapS, FX.lo_l, FX.lo_d, FX.nr_nil, FX.nr_none, FX.nr_d, FX.nr_c, FX.callM_d1, FX.callM_d2, FX.callM_d3, FX.callM_d4, FX.isD_lst, FX.isD_d, FX.e_xG0, FX.e_xGThen, FX.e_xGPlain, FX.e_xGIf, FX.e_xGYield, FX.e_xGFor, FX.e_xListG, FX.gthen_nx, FX.gthen_xc, FX.glift_nx, FX.glift_xc, FX.gfin_nx, FX.gfin_xc, FX.e_xDGet, FX.e_xPNil, FX.e_xPCons, FX.e_xDct, FX.key_s, FX.key_i, FX.valD_nil, FX.valD_s, FX.valD_i, FX.e_xCallP, FX.e_xListGP, FX.pick_nil, FX.pick_cons, FX.e_xTry, FX.e_xTryAs, FX.e_xXf, FX.e_xIsX, FX.e_cl_nx, FX.e_cl_bk, FX.e_cl_ct, FX.e_cl_rt, FX.e_cl_xc, FX.e_cv_r, FX.e_cv_t, FX.e_xDct0, FX.e_xJoin, FX.e_cReprV, FX.e_oInV, FX.e_oLeS, FX.e_strs, FX.e_oEqV, FX.e_eqV_nil, C_take0, isD_pool, lo_pool, poolC_eq, FX.okMul_t, if_pos, if_neg])
local macro_rules | `(tactic| walk_at "fxh") => `(tactic| try simp (disch := first | assumption | omega) only [runDef, FX.runGen, FX.take_map, FX.drop_map, FX.dropLast_map, FX.rev_map, FX.cut_map, DL.cut_to1, DL.cut_from1, DL.cut_but, DL.cut_last, List.all_append, FX.eq_cd, FX.ne_cd, ne_eq, not_true_eq_false, not_false_eq_true, FX.and_t, FX.and_f, FX.and_b, FX.or_t, FX.or_f, FX.or_b, bnd_v, bnd_x, bnd_n, lft_s, lft_n, fin_v, fin_x, wipeA, List.getElem?_cons_zero, List.getElem?_cons_succ, List.getElem?_nil, Option.join_some, List.set_cons_zero, List.set_cons_succ, List.map_cons, List.map_nil, List.cons_append, List.nil_append, List.append_nil, List.length_cons, List.length_nil, Option.map_some, Option.map_none, Option.bind_some, Option.bind_none, List.replicate_succ, List.replicate_zero, Nat.reduceAdd, Nat.reduceSub, Nat.reduceLeDiff, if_true, if_false, decide_eq_true_eq, Bool.not_true, Bool.true_eq_false, reduceCtorEq, Bool.decide_eq_true, Bool.true_and, Bool.false_and, Bool.true_or, Bool.false_or, Bool.or_true, Bool.or_false, Bool.and_false, Bool.and_eq_true, Bool.or_eq_true, Bool.not_not, Bool.decide_eq_false, Bool.not_false, Bool.not_eq_true', decide_eq_false_iff_not, Bool.false_eq_true, reduceIte, Nat.zero_add, chk, List.take_succ_cons, List.take_zero, List.all_cons, List.all_nil, Bool.and_true, Bool.and_self, and_self, and_true, true_and, Nat.le_refl, ge_iff_le, Int.reduceNeg, Int.reduceLT, Int.reduceLE, Int.reduceToNat, Nat.not_lt_zero, Int.toNat_natCast, rangeL0, toD_map, inD_str, D.isStr, D.isTup, D.isLst, D.isInt, D.isBool, D.ty, Option.isSome_some, Option.isSome_none, DL.nD, DL.sgD, List.length_map, List.length_range, List.length_append, FX.e_xVar, FX.e_xC, FX.e_xInt, FX.e_xBl, FX.e_xStr, FX.e_xNon, FX.e_xRaw, FX.e_xOp, FX.e_xOpN, FX.e_xUn, FX.e_xNil, FX.e_xCons, FX.e_xStar, FX.e_xCB, FX.e_xCBN, FX.e_xDat, FX.e_xTup, FX.e_xLst, FX.e_xTest, FX.e_xB, FX.e_xYes, FX.e_xNot, FX.e_xAnd, FX.e_xOr, FX.e_xAndV, FX.e_xOrV, FX.e_xNotV, FX.e_xIf, FX.e_xChain, FX.e_xONone, FX.e_xOSome, FX.e_xSl, FX.e_xSlN, FX.e_xRev, FX.e_xEach, FX.e_xRng1, FX.e_xRng2, FX.e_xEnum, FX.e_xZip, FX.e_xName, FX.e_xGNil, FX.e_xGCons, FX.e_xGTup, FX.e_xLc, FX.e_xNext, FX.e_xBreak, FX.e_xCont, FX.e_xSeq, FX.e_xIfS, FX.e_xDrop, FX.e_xRet, FX.e_xRetN, FX.e_xRetL, FX.e_xAsg, FX.e_xAsgN, FX.e_xAsgIfN, FX.e_xAug, FX.e_xMNil, FX.e_xMCons, FX.e_xMConsN, FX.e_xPar, FX.e_xPar3, FX.e_xFor, FX.e_xWhile, FX.e_xAppend, FX.e_xPop, FX.e_xPopAt, FX.e_xSetL, FX.e_xRaiseV, FX.e_xRaiseI, FX.e_xCall, FX.e_xCallN, FX.e_xCallD, FX.e_xCallK, FX.e_xCallL, FX.e_xCallT, FX.e_xCallTN, FX.e_xLRg1, FX.f_oAdd, FX.f_oMul, FX.f_oEq, FX.f_oNe, FX.f_oIs, FX.f_oIsN, FX.f_oIn, FX.f_oNotIn, FX.f_oIx, FX.f_oSub, FX.f_oDiv, FX.f_oMod, FX.f_oPow, FX.f_oLt, FX.f_oLe, FX.f_oGt, FX.f_oGe, FX.f_uNeg, FX.f_oAddN, FX.f_cLen, FX.f_cRepr, FX.f_cList, FX.f_cTup, FX.f_cAny, FX.f_cAll, FX.f_cIsi, FX.f_cIsSeq, FX.f_cAbs, FX.f_cInt, FX.f_cMax2, FX.f_cMin2, FX.f_cSortI, FX.add_ii, FX.add_ss, FX.add_ll, FX.add_tt, FX.addN_ll, FX.mul_ii, FX.mul_li, FX.eq_dd, FX.ne_dd, FX.is_n, FX.isn_n, FX.is_bb, FX.isn_bb, FX.nonF_n, FX.nonF_c, FX.nonF_i, FX.nonF_t, FX.nonF_l, FX.nonF_s, FX.nonF_b, FX.ix_l, FX.ix_t, FX.ix_f, FX.ix_s, FX.ix_c, FX.len_l, FX.len_t, FX.len_f, FX.len_s, FX.len_c, FX.thaw_d, FX.thaw_c, FX.tup_l, FX.tup_t, FX.list_l, FX.list_t, FX.asB_b, FX.asI_i, FX.any_l, FX.all_l, FX.isi_d, FX.kind_str, FX.kind_tup, FX.kind_lst, FX.kind_int, FX.kind_bool, FX.seq_d, FX.toD_nil, FX.toD_cons, FX.then_nx, FX.then_rt, FX.then_bk, FX.then_ct, FX.then_xc, FX.cell_c, FX.one_d, FX.lst_at0, FX.lst_at1, FX.outV_r, FX.outV_n, FX.outV_x, FX.outN_n, FX.outN_x, FX.finD_nx, FX.finD_rd, FX.finD_rc, FX.finD_xc, FX.nonF_d, FX.nonF_f, FX.nonF_o, FX.at0, FX.at1, FX.at2, FX.at3, FX.okD_n, FX.okD_b, FX.okD_i, FX.okD_s, FX.okD_l, FX.okD_t, FX.stD_n, FX.stD_b, FX.stD_i, FX.stD_s, FX.stD_t, FX.eqD_ii, FX.eqD_bb, FX.eqD_ss, FX.eqD_nn, FX.eqD_ll, FX.eqD_tt, FX.eqD_ni, FX.eqD_in, FX.eqD_nt, FX.eqD_tn, FX.eqD_nl, FX.eqD_ln, FX.eqD_ns, FX.eqD_sn, FX.eqA_nil, FX.eqA_cons, FX.eqA_nc, FX.eqA_cn, FX.eqD_tS, FX.eqD_lS, FX.eqD_tS1, FX.eqD_lS1, FX.eqD_lS0, FX.eqA_S, FX.eqA_S1, FX.eqA_S0, FX.inD_nil, FX.inD_ss, FX.inD_ii, FX.dec_t, FX.dec_f, FX.ite_and, FX.ite_or, FX.in_dl, FX.in_dt, FX.in_dc, FX.in_sg, FX.flat_s, FX.flat_i, FX.flat_b, FX.flat_n, FX.flat_mapS, FX.flat_mapI, FX.isD_mapD, FX.lo_mapD, FX.okD_mapS, FX.stD_mapS, FX.lo_l, FX.lo_d, FX.nr_nil, FX.nr_none, FX.nr_d, FX.nr_c, FX.callM_d1, FX.callM_d2, FX.callM_d3, FX.callM_d4, FX.isD_lst, FX.isD_d, FX.e_xG0, FX.e_xGThen, FX.e_xGPlain, FX.e_xGIf, FX.e_xGYield, FX.e_xGFor, FX.e_xListG, FX.gthen_nx, FX.gthen_xc, FX.glift_nx, FX.glift_xc, FX.gfin_nx, FX.gfin_xc, FX.e_xDGet, FX.e_xPNil, FX.e_xPCons, FX.e_xDct, FX.key_s, FX.key_i, FX.valD_nil, FX.valD_s, FX.valD_i, FX.e_xCallP, FX.e_xListGP, FX.pick_nil, FX.pick_cons, FX.e_xTry, FX.e_xTryAs, FX.e_xXf, FX.e_xIsX, FX.e_cl_nx, FX.e_cl_bk, FX.e_cl_ct, FX.e_cl_rt, FX.e_cl_xc, FX.e_cv_r, FX.e_cv_t, FX.e_xDct0, FX.e_xJoin, FX.e_cReprV, FX.e_oInV, FX.e_oLeS, FX.e_strs, FX.e_oEqV, FX.e_eqV_nil, C_take0, isD_pool, lo_pool, poolC_eq, FX.okMul_t, if_pos, if_neg, *])
local macro_rules | `(tactic| walk_at "fx!") => `(tactic| simp (disch := first | assumption | omega) only [runDef, FX.runGen, FX.take_map, FX.drop_map, FX.dropLast_map, FX.rev_map, FX.cut_map, DL.cut_to1, DL.cut_from1, DL.cut_but, DL.cut_last, List.all_append, FX.eq_cd, FX.ne_cd, ne_eq, not_true_eq_false, not_false_eq_true, FX.and_t, FX.and_f, FX.and_b, FX.or_t, FX.or_f, FX.or_b, bnd_v, bnd_x, bnd_n, lft_s, lft_n, fin_v, fin_x, wipeA, List.getElem?_cons_zero, List.getElem?_cons_succ, List.getElem?_nil, Option.join_some, List.set_cons_zero, List.set_cons_succ, List.map_cons, List.map_nil, List.cons_append, List.nil_append, List.append_nil, List.length_cons, List.length_nil, Option.map_some, Option.map_none, Option.bind_some, Option.bind_none, List.replicate_succ, List.replicate_zero, Nat.reduceAdd, Nat.reduceSub, Nat.reduceLeDiff, if_true, if_false, decide_eq_true_eq, Bool.not_true, Bool.true_eq_false, reduceCtorEq, Bool.decide_eq_true, Bool.true_and, Bool.false_and, Bool.true_or, Bool.false_or, Bool.or_true, Bool.or_false, Bool.and_false, Bool.and_eq_true, Bool.or_eq_true, Bool.not_not, Bool.decide_eq_false, Bool.not_false, Bool.not_eq_true', decide_eq_false_iff_not, Bool.false_eq_true, reduceIte, Nat.zero_add, chk, List.take_succ_cons, List.take_zero, List.all_cons, List.all_nil, Bool.and_true, Bool.and_self, and_self, and_true, true_and, Nat.le_refl, ge_iff_le, Int.reduceNeg, Int.reduceLT, Int.reduceLE, Int.reduceToNat, Nat.not_lt_zero, Int.toNat_natCast, rangeL0, toD_map, inD_str, D.isStr, D.isTup, D.isLst, D.isInt, D.isBool, D.ty, Option.isSome_some, Option.isSome_none, DL.nD, DL.sgD, List.length_map, List.length_range, List.length_append, FX.e_xVar, FX.e_xC, FX.e_xInt, FX.e_xBl, FX.e_xStr, FX.e_xNon, FX.e_xRaw, FX.e_xOp, FX.e_xOpN, FX.e_xUn, FX.e_xNil, FX.e_xCons, FX.e_xStar, FX.e_xCB, FX.e_xCBN, FX.e_xDat, FX.e_xTup, FX.e_xLst, FX.e_xTest, FX.e_xB, FX.e_xYes, FX.e_xNot, FX.e_xAnd, FX.e_xOr, FX.e_xAndV, FX.e_xOrV, FX.e_xNotV, FX.e_xIf, FX.e_xChain, FX.e_xONone, FX.e_xOSome, FX.e_xSl, FX.e_xSlN, FX.e_xRev, FX.e_xEach, FX.e_xRng1, FX.e_xRng2, FX.e_xEnum, FX.e_xZip, FX.e_xName, FX.e_xGNil, FX.e_xGCons, FX.e_xGTup, FX.e_xLc, FX.e_xNext, FX.e_xBreak, FX.e_xCont, FX.e_xSeq, FX.e_xIfS, FX.e_xDrop, FX.e_xRet, FX.e_xRetN, FX.e_xRetL, FX.e_xAsg, FX.e_xAsgN, FX.e_xAsgIfN, FX.e_xAug, FX.e_xMNil, FX.e_xMCons, FX.e_xMConsN, FX.e_xPar, FX.e_xPar3, FX.e_xFor, FX.e_xWhile, FX.e_xAppend, FX.e_xPop, FX.e_xPopAt, FX.e_xSetL, FX.e_xRaiseV, FX.e_xRaiseI, FX.e_xCall, FX.e_xCallN, FX.e_xCallD, FX.e_xCallK, FX.e_xCallL, FX.e_xCallT, FX.e_xCallTN, FX.e_xLRg1, FX.f_oAdd, FX.f_oMul, FX.f_oEq, FX.f_oNe, FX.f_oIs, FX.f_oIsN, FX.f_oIn, FX.f_oNotIn, FX.f_oIx, FX.f_oSub, FX.f_oDiv, FX.f_oMod, FX.f_oPow, FX.f_oLt, FX.f_oLe, FX.f_oGt, FX.f_oGe, FX.f_uNeg, FX.f_oAddN, FX.f_cLen, FX.f_cRepr, FX.f_cList, FX.f_cTup, FX.f_cAny, FX.f_cAll, FX.f_cIsi, FX.f_cIsSeq, FX.f_cAbs, FX.f_cInt, FX.f_cMax2, FX.f_cMin2, FX.f_cSortI, FX.add_ii, FX.add_ss, FX.add_ll, FX.add_tt, FX.addN_ll, FX.mul_ii, FX.mul_li, FX.eq_dd, FX.ne_dd, FX.is_n, FX.isn_n, FX.is_bb, FX.isn_bb, FX.nonF_n, FX.nonF_c, FX.nonF_i, FX.nonF_t, FX.nonF_l, FX.nonF_s, FX.nonF_b, FX.ix_l, FX.ix_t, FX.ix_f, FX.ix_s, FX.ix_c, FX.len_l, FX.len_t, FX.len_f, FX.len_s, FX.len_c, FX.thaw_d, FX.thaw_c, FX.tup_l, FX.tup_t, FX.list_l, FX.list_t, FX.asB_b, FX.asI_i, FX.any_l, FX.all_l, FX.isi_d, FX.kind_str, FX.kind_tup, FX.kind_lst, FX.kind_int, FX.kind_bool, FX.seq_d, FX.toD_nil, FX.toD_cons, FX.then_nx, FX.then_rt, FX.then_bk, FX.then_ct, FX.then_xc, FX.cell_c, FX.one_d, FX.lst_at0, FX.lst_at1, FX.outV_r, FX.outV_n, FX.outV_x, FX.outN_n, FX.outN_x, FX.finD_nx, FX.finD_rd, FX.finD_rc, FX.finD_xc, FX.nonF_d, FX.nonF_f, FX.nonF_o, FX.at0, FX.at1, FX.at2, FX.at3, FX.okD_n, FX.okD_b, FX.okD_i, FX.okD_s, FX.okD_l, FX.okD_t, FX.stD_n, FX.stD_b, FX.stD_i, FX.stD_s, FX.stD_t, FX.eqD_ii, FX.eqD_bb, FX.eqD_ss, FX.eqD_nn, FX.eqD_ll, FX.eqD_tt, FX.eqD_ni, FX.eqD_in, FX.eqD_nt, FX.eqD_tn, FX.eqD_nl, FX.eqD_ln, FX.eqD_ns, FX.eqD_sn, FX.eqA_nil, FX.eqA_cons, FX.eqA_nc, FX.eqA_cn, FX.eqD_tS, FX.eqD_lS, FX.eqD_tS1, FX.eqD_lS1, FX.eqD_lS0, FX.eqA_S, FX.eqA_S1, FX.eqA_S0, FX.inD_nil, FX.inD_ss, FX.inD_ii, FX.dec_t, FX.dec_f, FX.ite_and, FX.ite_or, FX.in_dl, FX.in_dt, FX.in_dc, FX.in_sg, FX.flat_s, FX.flat_i, FX.flat_b, FX.flat_n, FX.flat_mapS, FX.flat_mapI, FX.isD_mapD, FX.lo_mapD, FX.okD_mapS, FX.stD_mapS, FX.lo_l, FX.lo_d, FX.nr_nil, FX.nr_none, FX.nr_d, FX.nr_c, FX.callM_d1, FX.callM_d2, FX.callM_d3, FX.callM_d4, FX.isD_lst, FX.isD_d, FX.e_xG0, FX.e_xGThen, FX.e_xGPlain, FX.e_xGIf, FX.e_xGYield, FX.e_xGFor, FX.e_xListG, FX.gthen_nx, FX.gthen_xc, FX.glift_nx, FX.glift_xc, FX.gfin_nx, FX.gfin_xc, FX.e_xDGet, FX.e_xPNil, FX.e_xPCons, FX.e_xDct, FX.key_s, FX.key_i, FX.valD_nil, FX.valD_s, FX.valD_i, FX.e_xCallP, FX.e_xListGP, FX.pick_nil, FX.pick_cons, FX.e_xTry, FX.e_xTryAs, FX.e_xXf, FX.e_xIsX, FX.e_cl_nx, FX.e_cl_bk, FX.e_cl_ct, FX.e_cl_rt, FX.e_cl_xc, FX.e_cv_r, FX.e_cv_t, FX.e_xDct0, FX.e_xJoin, FX.e_cReprV, FX.e_oInV, FX.e_oLeS, FX.e_strs, FX.e_oEqV, FX.e_eqV_nil, C_take0, isD_pool, lo_pool, poolC_eq, FX.okMul_t, if_pos, if_neg])
local macro_rules | `(tactic| walk_at "rd") => `(tactic| dsimp only [List.length_cons, List.length_nil, Nat.reduceAdd, Nat.zero_add, FX.xVar, FX.xC, FX.xInt, FX.xBl, FX.xStr, FX.xNon, FX.xRaw, FX.xOp, FX.xOpN, FX.xUn, FX.xNil, FX.xCons, FX.xStar, FX.xCB, FX.xCBN, FX.xDat, FX.xTup, FX.xLst, FX.xTest, FX.xB, FX.xYes, FX.xNot, FX.xAnd, FX.xOr, FX.xAndV, FX.xOrV, FX.xNotV, FX.xIf, FX.xChain, FX.xONone, FX.xOSome, FX.oAdd, FX.oAddN, FX.oMul, FX.oSub, FX.oDiv, FX.oMod, FX.oPow, FX.oLt, FX.oLe, FX.oGt, FX.oGe, FX.oEq, FX.oNe, FX.oIs, FX.oIsN, FX.oIn, FX.oNotIn, FX.oIx, FX.uNeg, FX.cLen, FX.cRepr, FX.cList, FX.cTup, FX.cAbs, FX.cInt, FX.cMax2, FX.cMin2, FX.cAny, FX.cAll, FX.cSortI, FX.cIsi, FX.cIsSeq, FX.xSl, FX.xSlN, FX.xEach, FX.xRng1, FX.xRng2, FX.xEnum, FX.xZip, FX.xName, FX.xGNil, FX.xGCons, FX.xGTup, FX.xLc, FX.xNext, FX.xBreak, FX.xCont, FX.xNever, FX.xSeq, FX.xIfS, FX.xDrop, FX.xRet, FX.xRetN, FX.xRetL, FX.xAsg, FX.xAsgN, FX.xAsgIfN, FX.xAug, FX.xMNil, FX.xMCons, FX.xMConsN, FX.xPar, FX.xPar3, FX.xFor, FX.xWhile, FX.xAppend, FX.xPop, FX.xPopAt, FX.xSetL, FX.xRaiseV, FX.xRaiseI, FX.xCallD, FX.xCallDN, FX.xCall, FX.xCallN, FX.xCallK, FX.xRev, FX.xCallT, FX.xCallTN, FX.xLRg1, FX.xCallL, FX.xG0, FX.xGThen, FX.xGPlain, FX.xGIf, FX.xGYield, FX.xGFor, FX.xListG, FX.xDGet, FX.xPNil, FX.xPCons, FX.xDct, FX.xCallP, FX.xListGP, FX.xTry, FX.xTryAs, FX.xXf, FX.xIsX, FX.oInV, FX.cReprV, FX.xDct0, FX.xJoin, FX.oLeS, FX.oEqV])
/-! ### the pool made -/
def cellAt (ns : List Int) (k : Int) : Int := if k < (ns.length : Int) then (ns[k.toNat]?).getD 0 else 0
def poolA (ns : List Int) (k : Int) : Int := (if cellAt ns k < 0 then -(cellAt ns k) else cellAt ns k) * (if 10 ^ (18 : Int).toNat ≤ (if cellAt ns k < 0 then -(cellAt ns k) else cellAt ns k) then 1 else 0)
def poolB (ns : List Int) (k : Int) : Int := (cellAt ns k % 2147483629 + 104729 * k * k + 7919 * k + 11) ^ (3 : Int).toNat % 2147483647
def mkPool (ns : List Int) (k : Int) : Pl := ⟨(poolA ns k, poolB ns k), by
  have h1 := Int.emod_nonneg ((cellAt ns k % 2147483629 + 104729 * k * k + 7919 * k + 11) ^ (3 : Int).toNat) (show (2147483647 : Int) ≠ 0 by decide)
  have h2 := Int.emod_lt_of_pos ((cellAt ns k % 2147483629 + 104729 * k * k + 7919 * k + 11) ^ (3 : Int).toNat) (show (0 : Int) < 2147483647 by decide)
  constructor
  · show -1 < poolB ns k; unfold poolB; omega
  · show poolB ns k < 2147483647; unfold poolB; omega⟩
theorem F_pool (G : Gb) (ns : List Int) {k : Int} (h1 : 0 ≤ k) (h2 : k ≤ 100) : F__law_pool G [.d (.fz ns), .d (.int k)] [] = some (.new (poolD (mkPool ns k)), []) := by
  have h5 : 0 ≤ 104729 * k * k := Int.mul_nonneg (by omega) h1
  have h6 : 104729 * k * k ≤ 104729 * 100 * 100 := Int.mul_le_mul (by omega) h2 h1 (by omega)
  unfold F__law_pool x__law_pool
  simp only [poolD, mkPool, poolA, poolB]
  by_cases h : k < (ns.length : Int)
  · have hk : k.toNat < ns.length := by omega
    have ha : L2.atI ns k = some ((ns[k.toNat]?).getD 0) := by
      have := atN (xs := ns) (n := k.toNat)
      rw [Int.toNat_of_nonneg h1, List.getElem?_eq_getElem hk] at this
      rw [this, List.getElem?_eq_getElem hk]; rfl
    have hc : cellAt ns k = (ns[k.toNat]?).getD 0 := by unfold cellAt; rw [if_pos h]
    simp only [hc]
    generalize (ns[k.toNat]?).getD 0 = c at ha
    walk_at "fx"
    simp only [ha]
    walk_at "fx"
  · have hc : cellAt ns k = 0 := by unfold cellAt; rw [if_neg h]
    simp only [hc]
    walk_at "fx"

abbrev st__law_name : Stmt := PySem.Challenge.pw_stackeffect_k01_items_words_sequences.main.body.getD 18 (.Pass ⟨0, 0, 0, 0⟩)
abbrev N__law_name : List Str := ["_law_pool_here", "_law_letters", "_law_found", "_law_turn"]
theorem sc__law_name : FnScope N__law_name ["_law_pool_here"] (defScope st__law_name) := ⟨rfl, rfl, rfl, by decide +kernel, rfl, by decide +kernel, by decide +kernel⟩
def x__law_name (G : Gb) : XS :=
 (xSeq (xAsg (xStr "abcdefghijklmnopqrstuvwxyz") (xName 1))
 (xSeq (xAsg (xOp oIx (xVar 1) (xCall (F__law_take G) (xCons (xVar 0) (xCons (xInt 26) xNil)))) (xName 2))
 (xSeq (xFor (xRng1 (xCons (xCall (F__law_take G) (xCons (xVar 0) (xCons (xInt 8) xNil))) xNil)) (xName 3) [3]
 (xAsg (xOp oAdd (xVar 2) (xOp oIx (xVar 1) (xCall (F__law_take G) (xCons (xVar 0) (xCons (xInt 26) xNil))))) (xName 2)))
 (xRet (xVar 2)))))
def F__law_name (G : Gb) : Fn := runDef 1 4 (x__law_name G).ev
theorem ok__law_name {G : Gb} {f : Addr} {fd : FuncData} (F : Def K mg "_law_name" st__law_name f fd) (b : Binds K fd ["_law_pool_here"] [])
    (n_range : mg "range" = none) (c__law_take : Cal false P w K mg base 1 "_law_take" (SpR K (gr (F__law_take G)))) : Cal false P w K mg base 2 "_law_name" (SpR K (gr (F__law_name G))) := by
  refine ⟨f, fd, _, fx_body (b := x__law_name G) F.fn sc__law_name ?_, F.mgf, F.fn.kp, b⟩
  intro cdv A outer s H E hr hgd
  have nd := sc__law_name.nd
  exact ⟨_, (pss_cons (ps_set (i := 1) nd rfl (by first | exact .inl rfl | exact .inr rfl) pe_str)
 (pss_cons (ps_set (i := 2) nd rfl (by first | exact .inl rfl | exact .inr rfl) (pe_ix (k_ix K rfl) (pv 1) (k_call K rfl c__law_take hr (by first | decide | omega) (fun h => nomatch h) (by rfl) (takes_of rfl rfl rfl rfl) (pa_cons (pv 0) (pa_cons pe_int pa_nil))) (fun _ _ => rfl)))
 (pss_cons (ps_for (passes_of rfl) rfl (pi_range1 (by rfl) n_range (pa_cons (k_call K rfl c__law_take hr (by first | decide | omega) (fun h => nomatch h) (by rfl) (takes_of rfl rfl rfl rfl) (pa_cons (pv 0) (pa_cons pe_int pa_nil))) pa_nil)) (pg_name (i := 3) nd rfl (by first | exact .inl rfl | exact .inr rfl))
 (pss_one (ps_set (i := 2) nd rfl (by first | exact .inl rfl | exact .inr rfl) (pe_op (k_add K rfl) (pv 2) (pe_ix (k_ix K rfl) (pv 1) (k_call K rfl c__law_take hr (by first | decide | omega) (fun h => nomatch h) (by rfl) (takes_of rfl rfl rfl rfl) (pa_cons (pv 0) (pa_cons pe_int pa_nil))) (fun _ _ => rfl))))))
 (pss_one (ps_ret (pv 2)))))), rfl⟩
abbrev st__law_items : Stmt := PySem.Challenge.pw_stackeffect_k01_items_words_sequences.main.body.getD 19 (.Pass ⟨0, 0, 0, 0⟩)
abbrev N__law_items : List Str := ["_law_pool_here", "_law_many", "_law_found", "_law_at", "_law_name_here", "_law_some", "_law_one"]
theorem sc__law_items : FnScope N__law_items ["_law_pool_here", "_law_many"] (defScope st__law_items) := ⟨rfl, rfl, rfl, by decide +kernel, rfl, by decide +kernel, by decide +kernel⟩
def x__law_items (G : Gb) : XS :=
 (xSeq (xAsgN (xLst xNil) 2)
 (xSeq (xFor (xRng1 (xCons (xVar 1) xNil)) (xName 3) [1, 3, 4, 5]
 (xSeq (xAsg (xCall (F__law_name G) (xCons (xVar 0) xNil)) (xName 4))
 (xSeq (xIfS (xTest (xOp oIn (xVar 4) (xVar 2)))
 (xSeq (xAsg (xDat (xLc (xEach (xStr "abcdefghijklmnopqrstuvwxyz")) (xName 6) xYes (xOp oAdd (xVar 6) (xStr "zz")) [6] (by decide))) (xName 5))
 (xAsg (xOp oIx (xDat (xLc (xEach (xVar 5)) (xName 6) (xTest (xOp oNotIn (xVar 6) (xVar 2))) (xVar 6) [6] (by decide))) (xInt 0)) (xName 4)))
 xNext)
 (xDrop (xAppend 2 (xVar 4))))))
 (xRet (xVar 2))))
def F__law_items (G : Gb) : Fn := runDef 2 7 (x__law_items G).ev
theorem ok__law_items {G : Gb} {f : Addr} {fd : FuncData} (F : Def K mg "_law_items" st__law_items f fd) (b : Binds K fd ["_law_pool_here", "_law_many"] [])
    (n_range : mg "range" = none) (c__law_name : Cal false P w K mg base 2 "_law_name" (SpR K (gr (F__law_name G)))) : Cal false P w K mg base 3 "_law_items" (SpR K (gr (F__law_items G))) := by
  refine ⟨f, fd, _, fx_body (b := x__law_items G) F.fn sc__law_items ?_, F.mgf, F.fn.kp, b⟩
  intro cdv A outer s H E hr hgd
  have nd := sc__law_items.nd
  exact ⟨_, (pss_cons (ps_set (i := 2) nd rfl (by first | exact .inl rfl | exact .inr rfl) (pe_lst pa_nil))
 (pss_cons (ps_for (passes_of rfl) rfl (pi_range1 (by rfl) n_range (pa_cons (pv 1) pa_nil)) (pg_name (i := 3) nd rfl (by first | exact .inl rfl | exact .inr rfl))
 (pss_cons (ps_set (i := 4) nd rfl (by first | exact .inl rfl | exact .inr rfl) (k_call K rfl c__law_name hr (by first | decide | omega) (fun h => nomatch h) (by rfl) (takes_of rfl rfl rfl rfl) (pa_cons (pv 0) pa_nil)))
 (pss_cons (ps_if (pt_cmpR (k_inU K rfl) (pv 4) (pv 2) (by with_unfolding_all rfl))
 (pss_cons (ps_setLc (i := 5) (own := [("_law_one", 6)]) rfl nd rfl rfl (sw_true rfl rfl rfl (by decide +kernel)) (k_pany K rfl pe_str) (blkOk_by (N := N__law_items) (sc := defScope st__law_items) (by decide +kernel)) (fun _ _ _ _ _ => (pg_name (i := 6) nd rfl (by first | exact .inl rfl | exact .inr rfl))) (fun _ _ _ _ _ => pts_nil) (fun _ _ _ _ _ => (pe_op (k_add K rfl) (pv 6) pe_str)))
 (pss_one (ps_set (i := 4) nd rfl (by first | exact .inl rfl | exact .inr rfl) (pe_ix (k_ix K rfl) (pe_lc (own := [("_law_one", 6)]) rfl nd (k_pany K rfl (pv 5)) (blkOk_by (N := N__law_items) (sc := defScope st__law_items) (by decide +kernel)) (fun _ _ _ _ _ => (pg_name (i := 6) nd rfl (by first | exact .inl rfl | exact .inr rfl))) (fun _ _ _ _ _ => (pts_one (pt_cmpR (k_notinU K rfl) (pv 6) (pv 2) (by with_unfolding_all rfl)))) (fun _ _ _ _ _ => (pv 6))) pe_int (fun _ _ => rfl)))))
 pss_nil)
 (pss_one (ps_expr (k_bm K rfl PySem.F.plainAttrs_list PySem.F.slot_list_append PySem.F.type_list_append mt_append (pv 2) (pa_cons (pv 4) pa_nil)))))))
 (pss_one (ps_ret (pv 2))))), rfl⟩
abbrev st__law_word : Stmt := PySem.Challenge.pw_stackeffect_k01_items_words_sequences.main.body.getD 21 (.Pass ⟨0, 0, 0, 0⟩)
abbrev N__law_word : List Str := ["_law_pool_here", "_law_items_here", "_law_most", "_law_turn"]
theorem sc__law_word : FnScope N__law_word ["_law_pool_here", "_law_items_here", "_law_most"] (defScope st__law_word) := ⟨rfl, rfl, rfl, by decide +kernel, rfl, by decide +kernel, by decide +kernel⟩
def x__law_word (G : Gb) : XS :=
 (xRet (xCB cTup (xCons (xDat (xLc (xRng1 (xCons (xCall (F__law_take G) (xCons (xVar 0) (xCons (xOp oAdd (xVar 2) (xInt 1)) xNil))) xNil)) (xName 3) xYes (xOp oIx (xVar 1) (xCall (F__law_take G) (xCons (xVar 0) (xCons (xCB cLen (xCons (xVar 1) xNil)) xNil)))) [3] (by decide))) xNil)))
def F__law_word (G : Gb) : Fn := runDef 3 4 (x__law_word G).ev
theorem ok__law_word {G : Gb} {f : Addr} {fd : FuncData} (F : Def K mg "_law_word" st__law_word f fd) (b : Binds K fd ["_law_pool_here", "_law_items_here", "_law_most"] [])
    (n_tuple : mg "tuple" = none) (n_range : mg "range" = none) (c__law_take : Cal false P w K mg base 1 "_law_take" (SpR K (gr (F__law_take G)))) (n_len : mg "len" = none) : Cal false P w K mg base 2 "_law_word" (SpR K (gr (F__law_word G))) := by
  refine ⟨f, fd, _, fx_body (b := x__law_word G) F.fn sc__law_word ?_, F.mgf, F.fn.kp, b⟩
  intro cdv A outer s H E hr hgd
  have nd := sc__law_word.nd
  exact ⟨_, (pss_one (ps_ret (pe_callTy (k_tuple K rfl) (by rfl) n_tuple (by decide +kernel) (pa_cons (pe_lc (own := [("_law_turn", 3)]) rfl nd (pi_range1 (by rfl) n_range (pa_cons (k_call K rfl c__law_take hr (by first | decide | omega) (fun h => nomatch h) (by rfl) (takes_of rfl rfl rfl rfl) (pa_cons (pv 0) (pa_cons (pe_op (k_add K rfl) (pv 2) pe_int) pa_nil))) pa_nil)) (blkOk_by (N := N__law_word) (sc := defScope st__law_word) (by decide +kernel)) (fun _ _ _ _ _ => (pg_name (i := 3) nd rfl (by first | exact .inl rfl | exact .inr rfl))) (fun _ _ _ _ _ => pts_nil) (fun _ _ _ _ _ => (pe_ix (k_ix K rfl) (pv 1) (k_call K rfl c__law_take hr (by first | decide | omega) (fun h => nomatch h) (by rfl) takes0 (pa_cons (pv 0) (pa_cons (pe_callB (k_len K rfl) (by rfl) n_len (by decide +kernel) (pa_cons (pv 1) pa_nil)) pa_nil))) (fun _ _ => rfl)))) pa_nil)))), rfl⟩
/-! ### names -/
abbrev LET : Str := "abcdefghijklmnopqrstuvwxyz"
def ltr (i : Nat) : Nat := 97 + i
theorem let_at : ∀ i : Nat, i < 26 → LET.cps.toList[i]? = some (ltr i) := by decide +kernel
theorem let_in : ∀ i : Nat, i < 26 → ltr i ∈ LET.cps.toList := fun i h => List.mem_of_getElem? (let_at i h)
theorem let_len : LET.length = 26 := by decide +kernel
def okSign (c : Nat) : Bool := decide (c ∈ LET.cps.toList)
def okItem (s : Str) : Bool := (decide (1 ≤ s.length) && decide (s.length ≤ 8)) && s.cps.toList.all okSign
/-- one sign more -/
def addSign (s : Str) (i : Nat) : Str := s ++ ⟨#[ltr i]⟩
theorem addSign_len (s : Str) (i : Nat) : (addSign s i).length = s.length + 1 := by
  unfold addSign
  show (s.cps ++ #[ltr i]).size = s.cps.size + 1
  simp
theorem addSign_ok {s : Str} {i : Nat} (h : i < 26) (hs : s.cps.toList.all okSign = true) : (addSign s i).cps.toList.all okSign = true := by
  unfold addSign
  show (s.cps ++ #[ltr i]).toList.all okSign = true
  rw [Array.toList_append, List.all_append, hs]
  simp only [List.all_cons, List.all_nil, Bool.and_true, Bool.true_and]
  exact decide_eq_true (let_in i h)
def nameS (b : Str × Pl) (_ : Nat) : Str × Pl := (addSign b.1 (takeP 26 b.2).1, (takeP 26 b.2).2)
def nameP (p : Pl) : Str × Pl := (List.range (takeP 8 (takeP 26 p).2).1).foldl nameS (⟨#[ltr (takeP 26 p).1]⟩, (takeP 8 (takeP 26 p).2).2)
theorem F_name (G : Gb) (p : Pl) : F__law_name G [.cell 0] [poolC p] = some (.ret (.d (.str (nameP p).1)), [poolC (nameP p).2]) ∧ okItem (nameP p).1 = true := by
  have h26 := takeP_lt (n := 26) p (by decide)
  have h8 := takeP_lt (n := 8) (takeP 26 p).2 (by decide)
  have il : LET.length ≤ 100000 := by decide +kernel
  have ia : ∀ i : Nat, i < 26 → L2.atI LET.cps.toList (i : Int) = some (ltr i) := fun i h => by rw [atN, let_at i h]
  unfold F__law_name x__law_name
  walk_at "fxh"
  generalize hz : runFor _ _ _ _ _ _ _ = z
  obtain ⟨rfl, hP1, hP2⟩ := for_fold (fun k => AV.d (nD k)) (fun b : Str × Pl => [some (.cell 0), some (.d (.str LET)), some (.d (.str b.1)), none]) (fun b => [poolC b.2]) nameS
    (fun i b => b.1.length = i + 1 ∧ b.1.cps.toList.all okSign = true) (⟨#[ltr (takeP 26 p).1]⟩, (takeP 8 (takeP 26 p).2).2) hz rfl rfl (fun _ => rfl) ⟨rfl, by simp [okSign, let_in _ h26]⟩ (fun i b a ha ⟨h1, h2⟩ => by
      have hb := takeP_lt (n := 26) b.2 (by decide)
      have hi := (List.getElem?_eq_some_iff.mp ha).1
      rw [List.length_range] at hi
      have hl : b.1.length + (⟨#[ltr (takeP 26 b.2).1]⟩ : Str).length ≤ 100000 := by show b.1.length + 1 ≤ 100000; omega
      refine ⟨_, rfl, turn_nx (ρ2 := ?r) (μ2 := ?m) ?h1 ?h2 ?h3 ⟨by rw [← h1]; exact addSign_len _ _, addSign_ok hb h2⟩⟩
      case h1 => walk_at "fxh"; exact rfl
      case h2 => exact rfl
      case h3 => exact rfl)
  walk_at "fx"
  rw [List.length_range] at hP1
  refine ⟨rfl, ?_⟩
  show okItem (List.foldl nameS _ _).1 = true
  unfold okItem
  rw [hP2, decide_eq_true (by omega), decide_eq_true (by omega)]; rfl

theorem C_name (G : Gb) {k : Nat} {μ : List CC} {p : Pl} (hk : μ[k]? = some (poolC p)) : callM (F__law_name G) [.cell k] μ = some (.ret (.d (.str (nameP p).1)), μ.set k (poolC (nameP p).2)) :=
  callM_1 hk rfl (by simp only [List.map_cons, List.map_nil, renum, List.idxOf_cons_self]; exact (F_name G p).1) rfl rfl
theorem C_name0 (G : Gb) {μ : List CC} {p : Pl} : callM (F__law_name G) [.cell 0] (poolC p :: μ) = some (.ret (.d (.str (nameP p).1)), poolC (nameP p).2 :: μ) := C_name G rfl
local macro_rules | `(tactic| walk_at "fx") => `(tactic| try simp (disch := first | assumption | omega) only [runDef, FX.runGen, FX.take_map, FX.drop_map, FX.dropLast_map, FX.rev_map, FX.cut_map, DL.cut_to1, DL.cut_from1, DL.cut_but, DL.cut_last, List.all_append, FX.eq_cd, FX.ne_cd, ne_eq, not_true_eq_false, not_false_eq_true, FX.and_t, FX.and_f, FX.and_b, FX.or_t, FX.or_f, FX.or_b, bnd_v, bnd_x, bnd_n, lft_s, lft_n, fin_v, fin_x, wipeA, List.getElem?_cons_zero, List.getElem?_cons_succ, List.getElem?_nil, Option.join_some, List.set_cons_zero, List.set_cons_succ, List.map_cons, List.map_nil, List.cons_append, List.nil_append, List.append_nil, List.length_cons, List.length_nil, Option.map_some, Option.map_none, Option.bind_some, Option.bind_none, List.replicate_succ, List.replicate_zero, Nat.reduceAdd, Nat.reduceSub, Nat.reduceLeDiff, if_true, if_false, decide_eq_true_eq, Bool.not_true, Bool.true_eq_false, reduceCtorEq, Bool.decide_eq_true, Bool.true_and, Bool.false_and, Bool.true_or, Bool.false_or, Bool.or_true, Bool.or_false, Bool.and_false, Bool.and_eq_true, Bool.or_eq_true, Bool.not_not, Bool.decide_eq_false, Bool.not_false, Bool.not_eq_true', decide_eq_false_iff_not, Bool.false_eq_true, reduceIte, Nat.zero_add, chk, List.take_succ_cons, List.take_zero, List.all_cons, List.all_nil, Bool.and_true, Bool.and_self, and_self, and_true, true_and, Nat.le_refl, ge_iff_le, Int.reduceNeg, Int.reduceLT, Int.reduceLE, Int.reduceToNat, Nat.not_lt_zero, Int.toNat_natCast, rangeL0, toD_map, inD_str, D.isStr, D.isTup, D.isLst, D.isInt, D.isBool, D.ty, Option.isSome_some, Option.isSome_none, DL.nD, DL.sgD, List.length_map, List.length_range, List.length_append, FX.e_xVar, FX.e_xC, FX.e_xInt, FX.e_xBl, FX.e_xStr, FX.e_xNon, FX.e_xRaw, FX.e_xOp, FX.e_xOpN, FX.e_xUn, FX.e_xNil, FX.e_xCons, FX.e_xStar, FX.e_xCB, FX.e_xCBN, FX.e_xDat, FX.e_xTup, FX.e_xLst, FX.e_xTest, FX.e_xB, FX.e_xYes, FX.e_xNot, FX.e_xAnd, FX.e_xOr, FX.e_xAndV, FX.e_xOrV, FX.e_xNotV, FX.e_xIf, FX.e_xChain, FX.e_xONone, FX.e_xOSome, FX.e_xSl, FX.e_xSlN, FX.e_xRev, FX.e_xEach, FX.e_xRng1, FX.e_xRng2, FX.e_xEnum, FX.e_xZip, FX.e_xName, FX.e_xGNil, FX.e_xGCons, FX.e_xGTup, FX.e_xLc, FX.e_xNext, FX.e_xBreak, FX.e_xCont, FX.e_xSeq, FX.e_xIfS, FX.e_xDrop, FX.e_xRet, FX.e_xRetN, FX.e_xRetL, FX.e_xAsg, FX.e_xAsgN, FX.e_xAsgIfN, FX.e_xAug, FX.e_xMNil, FX.e_xMCons, FX.e_xMConsN, FX.e_xPar, FX.e_xPar3, FX.e_xFor, FX.e_xWhile, FX.e_xAppend, FX.e_xPop, FX.e_xPopAt, FX.e_xSetL, FX.e_xRaiseV, FX.e_xRaiseI, FX.e_xCall, FX.e_xCallN, FX.e_xCallD, FX.e_xCallK, FX.e_xCallL, FX.e_xCallT, FX.e_xCallTN, FX.e_xLRg1, FX.f_oAdd, FX.f_oMul, FX.f_oEq, FX.f_oNe, FX.f_oIs, FX.f_oIsN, FX.f_oIn, FX.f_oNotIn, FX.f_oIx, FX.f_oSub, FX.f_oDiv, FX.f_oMod, FX.f_oPow, FX.f_oLt, FX.f_oLe, FX.f_oGt, FX.f_oGe, FX.f_uNeg, FX.f_oAddN, FX.f_cLen, FX.f_cRepr, FX.f_cList, FX.f_cTup, FX.f_cAny, FX.f_cAll, FX.f_cIsi, FX.f_cIsSeq, FX.f_cAbs, FX.f_cInt, FX.f_cMax2, FX.f_cMin2, FX.f_cSortI, FX.add_ii, FX.add_ss, FX.add_ll, FX.add_tt, FX.addN_ll, FX.mul_ii, FX.mul_li, FX.eq_dd, FX.ne_dd, FX.is_n, FX.isn_n, FX.is_bb, FX.isn_bb, FX.nonF_n, FX.nonF_c, FX.nonF_i, FX.nonF_t, FX.nonF_l, FX.nonF_s, FX.nonF_b, FX.ix_l, FX.ix_t, FX.ix_f, FX.ix_s, FX.ix_c, FX.len_l, FX.len_t, FX.len_f, FX.len_s, FX.len_c, FX.thaw_d, FX.thaw_c, FX.tup_l, FX.tup_t, FX.list_l, FX.list_t, FX.asB_b, FX.asI_i, FX.any_l, FX.all_l, FX.isi_d, FX.kind_str, FX.kind_tup, FX.kind_lst, FX.kind_int, FX.kind_bool, FX.seq_d, FX.toD_nil, FX.toD_cons, FX.then_nx, FX.then_rt, FX.then_bk, FX.then_ct, FX.then_xc, FX.cell_c, FX.one_d, FX.lst_at0, FX.lst_at1, FX.outV_r, FX.outV_n, FX.outV_x, FX.outN_n, FX.outN_x, FX.finD_nx, FX.finD_rd, FX.finD_rc, FX.finD_xc, FX.nonF_d, FX.nonF_f, FX.nonF_o, FX.at0, FX.at1, FX.at2, FX.at3, FX.okD_n, FX.okD_b, FX.okD_i, FX.okD_s, FX.okD_l, FX.okD_t, FX.stD_n, FX.stD_b, FX.stD_i, FX.stD_s, FX.stD_t, FX.eqD_ii, FX.eqD_bb, FX.eqD_ss, FX.eqD_nn, FX.eqD_ll, FX.eqD_tt, FX.eqD_ni, FX.eqD_in, FX.eqD_nt, FX.eqD_tn, FX.eqD_nl, FX.eqD_ln, FX.eqD_ns, FX.eqD_sn, FX.eqA_nil, FX.eqA_cons, FX.eqA_nc, FX.eqA_cn, FX.eqD_tS, FX.eqD_lS, FX.eqD_tS1, FX.eqD_lS1, FX.eqD_lS0, FX.eqA_S, FX.eqA_S1, FX.eqA_S0, FX.inD_nil, FX.inD_ss, FX.inD_ii, FX.dec_t, FX.dec_f, FX.ite_and, FX.ite_or, FX.in_dl, FX.in_dt, FX.in_dc, FX.in_sg, FX.flat_s, FX.flat_i, FX.flat_b, FX.flat_n, FX.flat_mapS, FX.flat_mapI, FX.isD_mapD, FX.lo_mapD, FX.okD_mapS, FX.stD_mapS, FX.lo_l, FX.lo_d, FX.nr_nil, FX.nr_none, FX.nr_d, FX.nr_c, FX.callM_d1, FX.callM_d2, FX.callM_d3, FX.callM_d4, FX.isD_lst, FX.isD_d, FX.e_xG0, FX.e_xGThen, FX.e_xGPlain, FX.e_xGIf, FX.e_xGYield, FX.e_xGFor, FX.e_xListG, FX.gthen_nx, FX.gthen_xc, FX.glift_nx, FX.glift_xc, FX.gfin_nx, FX.gfin_xc, FX.e_xDGet, FX.e_xPNil, FX.e_xPCons, FX.e_xDct, FX.key_s, FX.key_i, FX.valD_nil, FX.valD_s, FX.valD_i, FX.e_xCallP, FX.e_xListGP, FX.pick_nil, FX.pick_cons, FX.e_xTry, FX.e_xTryAs, FX.e_xXf, FX.e_xIsX, FX.e_cl_nx, FX.e_cl_bk, FX.e_cl_ct, FX.e_cl_rt, FX.e_cl_xc, FX.e_cv_r, FX.e_cv_t, FX.e_xDct0, FX.e_xJoin, FX.e_cReprV, FX.e_oInV, FX.e_oLeS, FX.e_strs, FX.e_oEqV, FX.e_eqV_nil, C_take0, isD_pool, lo_pool, poolC_eq, C_name0, FX.okMul_t, if_pos, if_neg])
local macro_rules | `(tactic| walk_at "fxh") => `(tactic| try simp (disch := first | assumption | omega) only [runDef, FX.runGen, FX.take_map, FX.drop_map, FX.dropLast_map, FX.rev_map, FX.cut_map, DL.cut_to1, DL.cut_from1, DL.cut_but, DL.cut_last, List.all_append, FX.eq_cd, FX.ne_cd, ne_eq, not_true_eq_false, not_false_eq_true, FX.and_t, FX.and_f, FX.and_b, FX.or_t, FX.or_f, FX.or_b, bnd_v, bnd_x, bnd_n, lft_s, lft_n, fin_v, fin_x, wipeA, List.getElem?_cons_zero, List.getElem?_cons_succ, List.getElem?_nil, Option.join_some, List.set_cons_zero, List.set_cons_succ, List.map_cons, List.map_nil, List.cons_append, List.nil_append, List.append_nil, List.length_cons, List.length_nil, Option.map_some, Option.map_none, Option.bind_some, Option.bind_none, List.replicate_succ, List.replicate_zero, Nat.reduceAdd, Nat.reduceSub, Nat.reduceLeDiff, if_true, if_false, decide_eq_true_eq, Bool.not_true, Bool.true_eq_false, reduceCtorEq, Bool.decide_eq_true, Bool.true_and, Bool.false_and, Bool.true_or, Bool.false_or, Bool.or_true, Bool.or_false, Bool.and_false, Bool.and_eq_true, Bool.or_eq_true, Bool.not_not, Bool.decide_eq_false, Bool.not_false, Bool.not_eq_true', decide_eq_false_iff_not, Bool.false_eq_true, reduceIte, Nat.zero_add, chk, List.take_succ_cons, List.take_zero, List.all_cons, List.all_nil, Bool.and_true, Bool.and_self, and_self, and_true, true_and, Nat.le_refl, ge_iff_le, Int.reduceNeg, Int.reduceLT, Int.reduceLE, Int.reduceToNat, Nat.not_lt_zero, Int.toNat_natCast, rangeL0, toD_map, inD_str, D.isStr, D.isTup, D.isLst, D.isInt, D.isBool, D.ty, Option.isSome_some, Option.isSome_none, DL.nD, DL.sgD, List.length_map, List.length_range, List.length_append, FX.e_xVar, FX.e_xC, FX.e_xInt, FX.e_xBl, FX.e_xStr, FX.e_xNon, FX.e_xRaw, FX.e_xOp, FX.e_xOpN, FX.e_xUn, FX.e_xNil, FX.e_xCons, FX.e_xStar, FX.e_xCB, FX.e_xCBN, FX.e_xDat, FX.e_xTup, FX.e_xLst, FX.e_xTest, FX.e_xB, FX.e_xYes, FX.e_xNot, FX.e_xAnd, FX.e_xOr, FX.e_xAndV, FX.e_xOrV, FX.e_xNotV, FX.e_xIf, FX.e_xChain, FX.e_xONone, FX.e_xOSome, FX.e_xSl, FX.e_xSlN, FX.e_xRev, FX.e_xEach, FX.e_xRng1, FX.e_xRng2, FX.e_xEnum, FX.e_xZip, FX.e_xName, FX.e_xGNil, FX.e_xGCons, FX.e_xGTup, FX.e_xLc, FX.e_xNext, FX.e_xBreak, FX.e_xCont, FX.e_xSeq, FX.e_xIfS, FX.e_xDrop, FX.e_xRet, FX.e_xRetN, FX.e_xRetL, FX.e_xAsg, FX.e_xAsgN, FX.e_xAsgIfN, FX.e_xAug, FX.e_xMNil, FX.e_xMCons, FX.e_xMConsN, FX.e_xPar, FX.e_xPar3, FX.e_xFor, FX.e_xWhile, FX.e_xAppend, FX.e_xPop, FX.e_xPopAt, FX.e_xSetL, FX.e_xRaiseV, FX.e_xRaiseI, FX.e_xCall, FX.e_xCallN, FX.e_xCallD, FX.e_xCallK, FX.e_xCallL, FX.e_xCallT, FX.e_xCallTN, FX.e_xLRg1, FX.f_oAdd, FX.f_oMul, FX.f_oEq, FX.f_oNe, FX.f_oIs, FX.f_oIsN, FX.f_oIn, FX.f_oNotIn, FX.f_oIx, FX.f_oSub, FX.f_oDiv, FX.f_oMod, FX.f_oPow, FX.f_oLt, FX.f_oLe, FX.f_oGt, FX.f_oGe, FX.f_uNeg, FX.f_oAddN, FX.f_cLen, FX.f_cRepr, FX.f_cList, FX.f_cTup, FX.f_cAny, FX.f_cAll, FX.f_cIsi, FX.f_cIsSeq, FX.f_cAbs, FX.f_cInt, FX.f_cMax2, FX.f_cMin2, FX.f_cSortI, FX.add_ii, FX.add_ss, FX.add_ll, FX.add_tt, FX.addN_ll, FX.mul_ii, FX.mul_li, FX.eq_dd, FX.ne_dd, FX.is_n, FX.isn_n, FX.is_bb, FX.isn_bb, FX.nonF_n, FX.nonF_c, FX.nonF_i, FX.nonF_t, FX.nonF_l, FX.nonF_s, FX.nonF_b, FX.ix_l, FX.ix_t, FX.ix_f, FX.ix_s, FX.ix_c, FX.len_l, FX.len_t, FX.len_f, FX.len_s, FX.len_c, FX.thaw_d, FX.thaw_c, FX.tup_l, FX.tup_t, FX.list_l, FX.list_t, FX.asB_b, FX.asI_i, FX.any_l, FX.all_l, FX.isi_d, FX.kind_str, FX.kind_tup, FX.kind_lst, FX.kind_int, FX.kind_bool, FX.seq_d, FX.toD_nil, FX.toD_cons, FX.then_nx, FX.then_rt, FX.then_bk, FX.then_ct, FX.then_xc, FX.cell_c, FX.one_d, FX.lst_at0, FX.lst_at1, FX.outV_r, FX.outV_n, FX.outV_x, FX.outN_n, FX.outN_x, FX.finD_nx, FX.finD_rd, FX.finD_rc, FX.finD_xc, FX.nonF_d, FX.nonF_f, FX.nonF_o, FX.at0, FX.at1, FX.at2, FX.at3, FX.okD_n, FX.okD_b, FX.okD_i, FX.okD_s, FX.okD_l, FX.okD_t, FX.stD_n, FX.stD_b, FX.stD_i, FX.stD_s, FX.stD_t, FX.eqD_ii, FX.eqD_bb, FX.eqD_ss, FX.eqD_nn, FX.eqD_ll, FX.eqD_tt, FX.eqD_ni, FX.eqD_in, FX.eqD_nt, FX.eqD_tn, FX.eqD_nl, FX.eqD_ln, FX.eqD_ns, FX.eqD_sn, FX.eqA_nil, FX.eqA_cons, FX.eqA_nc, FX.eqA_cn, FX.eqD_tS, FX.eqD_lS, FX.eqD_tS1, FX.eqD_lS1, FX.eqD_lS0, FX.eqA_S, FX.eqA_S1, FX.eqA_S0, FX.inD_nil, FX.inD_ss, FX.inD_ii, FX.dec_t, FX.dec_f, FX.ite_and, FX.ite_or, FX.in_dl, FX.in_dt, FX.in_dc, FX.in_sg, FX.flat_s, FX.flat_i, FX.flat_b, FX.flat_n, FX.flat_mapS, FX.flat_mapI, FX.isD_mapD, FX.lo_mapD, FX.okD_mapS, FX.stD_mapS, FX.lo_l, FX.lo_d, FX.nr_nil, FX.nr_none, FX.nr_d, FX.nr_c, FX.callM_d1, FX.callM_d2, FX.callM_d3, FX.callM_d4, FX.isD_lst, FX.isD_d, FX.e_xG0, FX.e_xGThen, FX.e_xGPlain, FX.e_xGIf, FX.e_xGYield, FX.e_xGFor, FX.e_xListG, FX.gthen_nx, FX.gthen_xc, FX.glift_nx, FX.glift_xc, FX.gfin_nx, FX.gfin_xc, FX.e_xDGet, FX.e_xPNil, FX.e_xPCons, FX.e_xDct, FX.key_s, FX.key_i, FX.valD_nil, FX.valD_s, FX.valD_i, FX.e_xCallP, FX.e_xListGP, FX.pick_nil, FX.pick_cons, FX.e_xTry, FX.e_xTryAs, FX.e_xXf, FX.e_xIsX, FX.e_cl_nx, FX.e_cl_bk, FX.e_cl_ct, FX.e_cl_rt, FX.e_cl_xc, FX.e_cv_r, FX.e_cv_t, FX.e_xDct0, FX.e_xJoin, FX.e_cReprV, FX.e_oInV, FX.e_oLeS, FX.e_strs, FX.e_oEqV, FX.e_eqV_nil, C_take0, isD_pool, lo_pool, poolC_eq, C_name0, FX.okMul_t, if_pos, if_neg, *])
local macro_rules | `(tactic| walk_at "fx!") => `(tactic| simp (disch := first | assumption | omega) only [runDef, FX.runGen, FX.take_map, FX.drop_map, FX.dropLast_map, FX.rev_map, FX.cut_map, DL.cut_to1, DL.cut_from1, DL.cut_but, DL.cut_last, List.all_append, FX.eq_cd, FX.ne_cd, ne_eq, not_true_eq_false, not_false_eq_true, FX.and_t, FX.and_f, FX.and_b, FX.or_t, FX.or_f, FX.or_b, bnd_v, bnd_x, bnd_n, lft_s, lft_n, fin_v, fin_x, wipeA, List.getElem?_cons_zero, List.getElem?_cons_succ, List.getElem?_nil, Option.join_some, List.set_cons_zero, List.set_cons_succ, List.map_cons, List.map_nil, List.cons_append, List.nil_append, List.append_nil, List.length_cons, List.length_nil, Option.map_some, Option.map_none, Option.bind_some, Option.bind_none, List.replicate_succ, List.replicate_zero, Nat.reduceAdd, Nat.reduceSub, Nat.reduceLeDiff, if_true, if_false, decide_eq_true_eq, Bool.not_true, Bool.true_eq_false, reduceCtorEq, Bool.decide_eq_true, Bool.true_and, Bool.false_and, Bool.true_or, Bool.false_or, Bool.or_true, Bool.or_false, Bool.and_false, Bool.and_eq_true, Bool.or_eq_true, Bool.not_not, Bool.decide_eq_false, Bool.not_false, Bool.not_eq_true', decide_eq_false_iff_not, Bool.false_eq_true, reduceIte, Nat.zero_add, chk, List.take_succ_cons, List.take_zero, List.all_cons, List.all_nil, Bool.and_true, Bool.and_self, and_self, and_true, true_and, Nat.le_refl, ge_iff_le, Int.reduceNeg, Int.reduceLT, Int.reduceLE, Int.reduceToNat, Nat.not_lt_zero, Int.toNat_natCast, rangeL0, toD_map, inD_str, D.isStr, D.isTup, D.isLst, D.isInt, D.isBool, D.ty, Option.isSome_some, Option.isSome_none, DL.nD, DL.sgD, List.length_map, List.length_range, List.length_append, FX.e_xVar, FX.e_xC, FX.e_xInt, FX.e_xBl, FX.e_xStr, FX.e_xNon, FX.e_xRaw, FX.e_xOp, FX.e_xOpN, FX.e_xUn, FX.e_xNil, FX.e_xCons, FX.e_xStar, FX.e_xCB, FX.e_xCBN, FX.e_xDat, FX.e_xTup, FX.e_xLst, FX.e_xTest, FX.e_xB, FX.e_xYes, FX.e_xNot, FX.e_xAnd, FX.e_xOr, FX.e_xAndV, FX.e_xOrV, FX.e_xNotV, FX.e_xIf, FX.e_xChain, FX.e_xONone, FX.e_xOSome, FX.e_xSl, FX.e_xSlN, FX.e_xRev, FX.e_xEach, FX.e_xRng1, FX.e_xRng2, FX.e_xEnum, FX.e_xZip, FX.e_xName, FX.e_xGNil, FX.e_xGCons, FX.e_xGTup, FX.e_xLc, FX.e_xNext, FX.e_xBreak, FX.e_xCont, FX.e_xSeq, FX.e_xIfS, FX.e_xDrop, FX.e_xRet, FX.e_xRetN, FX.e_xRetL, FX.e_xAsg, FX.e_xAsgN, FX.e_xAsgIfN, FX.e_xAug, FX.e_xMNil, FX.e_xMCons, FX.e_xMConsN, FX.e_xPar, FX.e_xPar3, FX.e_xFor, FX.e_xWhile, FX.e_xAppend, FX.e_xPop, FX.e_xPopAt, FX.e_xSetL, FX.e_xRaiseV, FX.e_xRaiseI, FX.e_xCall, FX.e_xCallN, FX.e_xCallD, FX.e_xCallK, FX.e_xCallL, FX.e_xCallT, FX.e_xCallTN, FX.e_xLRg1, FX.f_oAdd, FX.f_oMul, FX.f_oEq, FX.f_oNe, FX.f_oIs, FX.f_oIsN, FX.f_oIn, FX.f_oNotIn, FX.f_oIx, FX.f_oSub, FX.f_oDiv, FX.f_oMod, FX.f_oPow, FX.f_oLt, FX.f_oLe, FX.f_oGt, FX.f_oGe, FX.f_uNeg, FX.f_oAddN, FX.f_cLen, FX.f_cRepr, FX.f_cList, FX.f_cTup, FX.f_cAny, FX.f_cAll, FX.f_cIsi, FX.f_cIsSeq, FX.f_cAbs, FX.f_cInt, FX.f_cMax2, FX.f_cMin2, FX.f_cSortI, FX.add_ii, FX.add_ss, FX.add_ll, FX.add_tt, FX.addN_ll, FX.mul_ii, FX.mul_li, FX.eq_dd, FX.ne_dd, FX.is_n, FX.isn_n, FX.is_bb, FX.isn_bb, FX.nonF_n, FX.nonF_c, FX.nonF_i, FX.nonF_t, FX.nonF_l, FX.nonF_s, FX.nonF_b, FX.ix_l, FX.ix_t, FX.ix_f, FX.ix_s, FX.ix_c, FX.len_l, FX.len_t, FX.len_f, FX.len_s, FX.len_c, FX.thaw_d, FX.thaw_c, FX.tup_l, FX.tup_t, FX.list_l, FX.list_t, FX.asB_b, FX.asI_i, FX.any_l, FX.all_l, FX.isi_d, FX.kind_str, FX.kind_tup, FX.kind_lst, FX.kind_int, FX.kind_bool, FX.seq_d, FX.toD_nil, FX.toD_cons, FX.then_nx, FX.then_rt, FX.then_bk, FX.then_ct, FX.then_xc, FX.cell_c, FX.one_d, FX.lst_at0, FX.lst_at1, FX.outV_r, FX.outV_n, FX.outV_x, FX.outN_n, FX.outN_x, FX.finD_nx, FX.finD_rd, FX.finD_rc, FX.finD_xc, FX.nonF_d, FX.nonF_f, FX.nonF_o, FX.at0, FX.at1, FX.at2, FX.at3, FX.okD_n, FX.okD_b, FX.okD_i, FX.okD_s, FX.okD_l, FX.okD_t, FX.stD_n, FX.stD_b, FX.stD_i, FX.stD_s, FX.stD_t, FX.eqD_ii, FX.eqD_bb, FX.eqD_ss, FX.eqD_nn, FX.eqD_ll, FX.eqD_tt, FX.eqD_ni, FX.eqD_in, FX.eqD_nt, FX.eqD_tn, FX.eqD_nl, FX.eqD_ln, FX.eqD_ns, FX.eqD_sn, FX.eqA_nil, FX.eqA_cons, FX.eqA_nc, FX.eqA_cn, FX.eqD_tS, FX.eqD_lS, FX.eqD_tS1, FX.eqD_lS1, FX.eqD_lS0, FX.eqA_S, FX.eqA_S1, FX.eqA_S0, FX.inD_nil, FX.inD_ss, FX.inD_ii, FX.dec_t, FX.dec_f, FX.ite_and, FX.ite_or, FX.in_dl, FX.in_dt, FX.in_dc, FX.in_sg, FX.flat_s, FX.flat_i, FX.flat_b, FX.flat_n, FX.flat_mapS, FX.flat_mapI, FX.isD_mapD, FX.lo_mapD, FX.okD_mapS, FX.stD_mapS, FX.lo_l, FX.lo_d, FX.nr_nil, FX.nr_none, FX.nr_d, FX.nr_c, FX.callM_d1, FX.callM_d2, FX.callM_d3, FX.callM_d4, FX.isD_lst, FX.isD_d, FX.e_xG0, FX.e_xGThen, FX.e_xGPlain, FX.e_xGIf, FX.e_xGYield, FX.e_xGFor, FX.e_xListG, FX.gthen_nx, FX.gthen_xc, FX.glift_nx, FX.glift_xc, FX.gfin_nx, FX.gfin_xc, FX.e_xDGet, FX.e_xPNil, FX.e_xPCons, FX.e_xDct, FX.key_s, FX.key_i, FX.valD_nil, FX.valD_s, FX.valD_i, FX.e_xCallP, FX.e_xListGP, FX.pick_nil, FX.pick_cons, FX.e_xTry, FX.e_xTryAs, FX.e_xXf, FX.e_xIsX, FX.e_cl_nx, FX.e_cl_bk, FX.e_cl_ct, FX.e_cl_rt, FX.e_cl_xc, FX.e_cv_r, FX.e_cv_t, FX.e_xDct0, FX.e_xJoin, FX.e_cReprV, FX.e_oInV, FX.e_oLeS, FX.e_strs, FX.e_oEqV, FX.e_eqV_nil, C_take0, isD_pool, lo_pool, poolC_eq, C_name0, FX.okMul_t, if_pos, if_neg])
local macro_rules | `(tactic| walk_at "rd") => `(tactic| dsimp only [List.length_cons, List.length_nil, Nat.reduceAdd, Nat.zero_add, FX.xVar, FX.xC, FX.xInt, FX.xBl, FX.xStr, FX.xNon, FX.xRaw, FX.xOp, FX.xOpN, FX.xUn, FX.xNil, FX.xCons, FX.xStar, FX.xCB, FX.xCBN, FX.xDat, FX.xTup, FX.xLst, FX.xTest, FX.xB, FX.xYes, FX.xNot, FX.xAnd, FX.xOr, FX.xAndV, FX.xOrV, FX.xNotV, FX.xIf, FX.xChain, FX.xONone, FX.xOSome, FX.oAdd, FX.oAddN, FX.oMul, FX.oSub, FX.oDiv, FX.oMod, FX.oPow, FX.oLt, FX.oLe, FX.oGt, FX.oGe, FX.oEq, FX.oNe, FX.oIs, FX.oIsN, FX.oIn, FX.oNotIn, FX.oIx, FX.uNeg, FX.cLen, FX.cRepr, FX.cList, FX.cTup, FX.cAbs, FX.cInt, FX.cMax2, FX.cMin2, FX.cAny, FX.cAll, FX.cSortI, FX.cIsi, FX.cIsSeq, FX.xSl, FX.xSlN, FX.xEach, FX.xRng1, FX.xRng2, FX.xEnum, FX.xZip, FX.xName, FX.xGNil, FX.xGCons, FX.xGTup, FX.xLc, FX.xNext, FX.xBreak, FX.xCont, FX.xNever, FX.xSeq, FX.xIfS, FX.xDrop, FX.xRet, FX.xRetN, FX.xRetL, FX.xAsg, FX.xAsgN, FX.xAsgIfN, FX.xAug, FX.xMNil, FX.xMCons, FX.xMConsN, FX.xPar, FX.xPar3, FX.xFor, FX.xWhile, FX.xAppend, FX.xPop, FX.xPopAt, FX.xSetL, FX.xRaiseV, FX.xRaiseI, FX.xCallD, FX.xCallDN, FX.xCall, FX.xCallN, FX.xCallK, FX.xRev, FX.xCallT, FX.xCallTN, FX.xLRg1, FX.xCallL, FX.xG0, FX.xGThen, FX.xGPlain, FX.xGIf, FX.xGYield, FX.xGFor, FX.xListG, FX.xDGet, FX.xPNil, FX.xPCons, FX.xDct, FX.xCallP, FX.xListGP, FX.xTry, FX.xTryAs, FX.xXf, FX.xIsX, FX.oInV, FX.cReprV, FX.xDct0, FX.xJoin, FX.oLeS, FX.oEqV])
/-! ### items -/
def cand (i : Nat) : Str := (⟨#[ltr i]⟩ : Str) ++ "zz"
def cands : List Str := (List.range 26).map cand
theorem cands_eq : (LET.cps.toList.map fun c => (⟨#[c]⟩ : Str) ++ "zz") = cands := by decide +kernel
theorem cands_nodup : cands.Nodup := by decide +kernel
theorem cands_ok : cands.all okItem = true := by decide +kernel
theorem cands_len : cands.length = 26 := by decide +kernel
def itemS (b : List Str × Pl) (_ : Nat) : List Str × Pl :=
  (b.1 ++ [if (nameP b.2).1 ∈ b.1 then (cands.filter fun s => decide (s ∉ b.1)).headD "a" else (nameP b.2).1], (nameP b.2).2)
def itemsP (n : Nat) (p : Pl) : List Str × Pl := (List.range n).foldl itemS ([], p)
theorem cand_some {xs : List Str} (h : xs.length < 26) : ∃ s r, (cands.filter fun s => decide (s ∉ xs)) = s :: r ∧ s ∉ xs ∧ okItem s = true := by
  cases e : cands.filter fun s => decide (s ∉ xs) with
  | nil =>
    exfalso
    have := sub_len cands_nodup (ys := xs) fun s hs => by
      have := List.filter_eq_nil_iff.mp e s hs
      simpa using this
    rw [cands_len] at this
    omega
  | cons s r =>
    have hm : s ∈ cands.filter fun s => decide (s ∉ xs) := by rw [e]; exact List.mem_cons_self
    obtain ⟨h1, h2⟩ := List.mem_filter.mp hm
    exact ⟨s, r, rfl, by simpa using h2, List.all_eq_true.mp cands_ok s h1⟩
abbrev sL (xs : List Str) : CC := .lst ((xs.map D.str).map AV.d)
theorem F_items (G : Gb) (p : Pl) {n : Nat} (hn : n ≤ 20) : F__law_items G [.cell 0, .d (.int n)] [poolC p] = some (.new ((itemsP n p).1.map .str), [poolC (itemsP n p).2]) ∧ (itemsP n p).1.length = n ∧ (itemsP n p).1.Nodup ∧ ∀ s ∈ (itemsP n p).1, okItem s = true := by
  have il : LET.cps.toList.length ≤ 100000 := by decide +kernel
  have hzz : ("zz" : Str).length = 2 := by decide +kernel
  unfold F__law_items x__law_items
  walk_at "fx"
  generalize hz : runFor _ _ _ _ _ _ _ = z
  obtain ⟨rfl, hP1, hP2, hP3⟩ := for_fold (fun k => AV.d (nD k)) (fun b : List Str × Pl => [some (.cell 0), none, some (.cell 1), none, none, none, none]) (fun b => [poolC b.2, sL b.1]) itemS
    (fun i b => b.1.length = i ∧ b.1.Nodup ∧ ∀ s ∈ b.1, okItem s = true) ([], p) hz rfl rfl (fun _ => rfl) ⟨rfl, .nil, fun s h => absurd h List.not_mem_nil⟩ (fun i b a ha ⟨h1, h2, h3⟩ => by
      have hi := (List.getElem?_eq_some_iff.mp ha).1
      rw [List.length_range] at hi
      have hnm := (F_name G b.2).2
      by_cases hin : (nameP b.2).1 ∈ b.1
      · obtain ⟨s, r, q1, q2, q3⟩ := cand_some (xs := b.1) (by omega)
        have e : itemS b a = (b.1 ++ [s], (nameP b.2).2) := by unfold itemS; rw [if_pos hin, q1]; rfl
        refine ⟨_, rfl, turn_nx (ρ2 := ?r) (μ2 := ?m) ?h1 ?h2 ?h3 ?h4⟩
        case h1 =>
          walk_at "fxh"
          generalize hz2 : runLc _ _ _ _ (List.map _ LET.cps.toList) _ = z2
          have e2 := lc_map (fun c => AV.d (sgD c)) (fun c => AV.d (D.str ((⟨#[c]⟩ : Str) ++ "zz"))) hz2 fun c hc => ⟨_, rfl, rfl, by
            have hl : (⟨#[c]⟩ : Str).length + ("zz" : Str).length ≤ 100000 := by rw [hzz]; show 1 + 2 ≤ 100000; decide
            walk_at "fxh"⟩
          rw [e2]
          walk_at "fx"
          rw [toD_mapf, show (LET.cps.toList.map fun c => D.str ((⟨#[c]⟩ : Str) ++ "zz")) = cands.map .str by rw [← cands_eq, List.map_map]; rfl]
          walk_at "fx"
          generalize hz3 : runLc _ _ _ _ _ _ = z3
          have e3 := lc_filterD D.str (fun s => decide (s ∉ b.1)) D.str hz3 fun s hs => ⟨_, rfl, by walk_at "fx"; rw [decide_not], fun _ => rfl⟩
          rw [e3, q1]
          have hcl : cands.length ≤ 100000 := by rw [cands_len]; decide
          walk_at "fxh"
          exact rfl
        case h2 => exact rfl
        case h3 =>
          rw [e]
          show _ = [poolC _, CC.lst (((b.1 ++ [_]).map D.str).map AV.d)]
          rw [List.map_append, List.map_append]; rfl
        case h4 =>
          rw [e]
          refine ⟨by simp [h1], ?_, fun s hs => ?_⟩
          · rw [List.nodup_append]
            exact ⟨h2, by simp, fun x hx y hy => by rw [List.mem_singleton.mp hy]; exact fun z => q2 (z ▸ hx)⟩
          · rcases List.mem_append.mp hs with q | q
            · exact h3 _ q
            · rw [List.mem_singleton.mp q]; exact q3
      · have e : itemS b a = (b.1 ++ [(nameP b.2).1], (nameP b.2).2) := by unfold itemS; rw [if_neg hin]
        refine ⟨_, rfl, turn_nx (ρ2 := ?r2) (μ2 := ?m2) ?h1 ?h2 ?h3 ?h4⟩
        case h1 => walk_at "fxh"; exact rfl
        case h2 => exact rfl
        case h3 =>
          rw [e]
          show _ = [poolC _, CC.lst (((b.1 ++ [_]).map D.str).map AV.d)]
          rw [List.map_append, List.map_append]; rfl
        case h4 =>
          rw [e]
          refine ⟨by simp [h1], ?_, fun s hs => ?_⟩
          · rw [List.nodup_append]
            exact ⟨h2, by simp, fun x hx y hy => by rw [List.mem_singleton.mp hy]; exact fun z => hin (z ▸ hx)⟩
          · rcases List.mem_append.mp hs with q | q
            · exact h3 s q
            · rw [List.mem_singleton.mp q]; exact hnm)
  walk_at "fx"
  rw [List.length_range] at hP1
  exact ⟨rfl, hP1, hP2, hP3⟩

abbrev st_is_item : Stmt := PySem.Challenge.pw_stackeffect_k01_items_words_sequences.main.body.getD 9 (.Pass ⟨0, 0, 0, 0⟩)
abbrev N_is_item : List Str := ["value", "sign"]
theorem sc_is_item : FnScope N_is_item ["value"] (defScope st_is_item) := ⟨rfl, rfl, rfl, by decide +kernel, rfl, by decide +kernel, by decide +kernel⟩
def x_is_item (G : Gb) : XS :=
 (xSeq (xIfS (xOr (xNot (xB (xCB cIsi (xCons (xVar 0) (xCons (xRaw (.ty "str")) xNil))))) (xNot (xTest (xChain oLe oLe (xInt 1) (xCB cLen (xCons (xVar 0) xNil)) (xInt 8)))))
 (xRet (xBl false))
 xNext)
 (xRet (xCB cAll (xCons (xDat (xLc (xEach (xVar 0)) (xName 1) xYes (xOp oIn (xVar 1) (xStr "abcdefghijklmnopqrstuvwxyz")) [1] (by decide))) xNil))))
def F_is_item (G : Gb) : Fn := runDef 1 2 (x_is_item G).ev
theorem ok_is_item {G : Gb} {f : Addr} {fd : FuncData} (F : Def K mg "is_item" st_is_item f fd) (b : Binds K fd ["value"] [])
    (n_all : mg "all" = none) (g_LETTERS : ∃ u, mg "LETTERS" = some (.str "abcdefghijklmnopqrstuvwxyz" u)) (n_len : mg "len" = none) (g_MAX_LENGTH : ∃ u, mg "MAX_LENGTH" = some (.int 8 u)) (n_isinstance : mg "isinstance" = none) (n_str : mg "str" = none) : Cal false P w K mg base 1 "is_item" (SpR K (gr (F_is_item G))) := by
  refine ⟨f, fd, _, fx_body (b := x_is_item G) F.fn sc_is_item ?_, F.mgf, F.fn.kp, b⟩
  intro cdv A outer s H E hr hgd
  have nd := sc_is_item.nd
  exact ⟨_, (pss_cons (ps_if (PW.pt (pw_or (pt_not (pt_val (pe_callB (k_isi K rfl) (by rfl) n_isinstance (by decide +kernel) (pa_cons (pv 0) (pa_cons (k_ty (n := "str") (by rfl) n_str (by decide +kernel)) pa_nil))))) (pw_or1 (pt_not (pt_chain o_le o_le pe_int (pe_callB (k_len K rfl) (by rfl) n_len (by decide +kernel) (pa_cons (pv 0) pa_nil)) (k_gint (by rfl) g_MAX_LENGTH))))))
 (pss_one (ps_ret pe_bl))
 pss_nil)
 (pss_one (ps_ret (pe_callB (k_all K rfl rfl) (by rfl) n_all (by decide +kernel) (pa_cons (pe_lc (own := [("sign", 1)]) rfl nd (k_pany K rfl (pv 0)) (blkOk_by (N := N_is_item) (sc := defScope st_is_item) (by decide +kernel)) (fun _ _ _ _ _ => (pg_name (i := 1) nd rfl (by first | exact .inl rfl | exact .inr rfl))) (fun _ _ _ _ _ => pts_nil) (fun _ _ _ _ _ => (pe_cmpR (k_inU K rfl) (pv 1) (k_gstr (by rfl) g_LETTERS) (by with_unfolding_all rfl)))) pa_nil))))), rfl⟩
abbrev st_is_word : Stmt := PySem.Challenge.pw_stackeffect_k01_items_words_sequences.main.body.getD 10 (.Pass ⟨0, 0, 0, 0⟩)
abbrev N_is_word : List Str := ["value", "item"]
theorem sc_is_word : FnScope N_is_word ["value"] (defScope st_is_word) := ⟨rfl, rfl, rfl, by decide +kernel, rfl, by decide +kernel, by decide +kernel⟩
def x_is_word (G : Gb) : XS :=
 (xRet (xAndV (xCB cIsi (xCons (xVar 0) (xCons (xRaw (.ty "tuple")) xNil))) (xCB cAll (xCons (xDat (xLc (xEach (xVar 0)) (xName 1) xYes (xCall (F_is_item G) (xCons (xVar 1) xNil)) [1] (by decide))) xNil))))
def F_is_word (G : Gb) : Fn := runDef 1 2 (x_is_word G).ev
theorem ok_is_word {G : Gb} {f : Addr} {fd : FuncData} (F : Def K mg "is_word" st_is_word f fd) (b : Binds K fd ["value"] [])
    (n_all : mg "all" = none) (c_is_item : Cal false P w K mg base 1 "is_item" (SpR K (gr (F_is_item G)))) (n_isinstance : mg "isinstance" = none) (n_tuple : mg "tuple" = none) : Cal false P w K mg base 2 "is_word" (SpR K (gr (F_is_word G))) := by
  refine ⟨f, fd, _, fx_body (b := x_is_word G) F.fn sc_is_word ?_, F.mgf, F.fn.kp, b⟩
  intro cdv A outer s H E hr hgd
  have nd := sc_is_word.nd
  exact ⟨_, (pss_one (ps_ret (pe_and (pe_callB (k_isi K rfl) (by rfl) n_isinstance (by decide +kernel) (pa_cons (pv 0) (pa_cons (k_ty (n := "tuple") (by rfl) n_tuple (by decide +kernel)) pa_nil))) (pe_one (pe_callB (k_all K rfl rfl) (by rfl) n_all (by decide +kernel) (pa_cons (pe_lc (own := [("item", 1)]) rfl nd (k_pany K rfl (pv 0)) (blkOk_by (N := N_is_word) (sc := defScope st_is_word) (by decide +kernel)) (fun _ _ _ _ _ => (pg_name (i := 1) nd rfl (by first | exact .inl rfl | exact .inr rfl))) (fun _ _ _ _ _ => pts_nil) (fun _ _ _ _ _ => (k_call K rfl c_is_item hr (by first | decide | omega) (fun h => nomatch h) (by rfl) takes0 (pa_cons (pv 1) pa_nil)))) pa_nil)))))), rfl⟩
abbrev st_is_step : Stmt := PySem.Challenge.pw_stackeffect_k01_items_words_sequences.main.body.getD 11 (.Pass ⟨0, 0, 0, 0⟩)
abbrev N_is_step : List Str := ["value"]
theorem sc_is_step : FnScope N_is_step ["value"] (defScope st_is_step) := ⟨rfl, rfl, rfl, by decide +kernel, rfl, by decide +kernel, by decide +kernel⟩
def x_is_step (G : Gb) : XS :=
 (xSeq (xIfS (xOr (xNot (xB (xCB cIsi (xCons (xVar 0) (xCons (xRaw (.ty "tuple")) xNil))))) (xOr (xTest (xOp oNe (xCB cLen (xCons (xVar 0) xNil)) (xInt 2))) (xNot (xB (xCB cIsi (xCons (xOp oIx (xVar 0) (xInt 0)) (xCons (xRaw (.ty "str")) xNil)))))))
 (xRet (xBl false))
 xNext)
 (xRet (xAndV (xOp oIn (xOp oIx (xVar 0) (xInt 0)) (xTup (xCons (xStr "push") (xCons (xStr "pop") xNil)))) (xCall (F_is_item G) (xCons (xOp oIx (xVar 0) (xInt 1)) xNil)))))
def F_is_step (G : Gb) : Fn := runDef 1 1 (x_is_step G).ev
theorem ok_is_step {G : Gb} {f : Addr} {fd : FuncData} (F : Def K mg "is_step" st_is_step f fd) (b : Binds K fd ["value"] [])
    (c_is_item : Cal false P w K mg base 1 "is_item" (SpR K (gr (F_is_item G)))) (g_PUSH : ∃ u, mg "PUSH" = some (.str "push" u)) (g_POP : ∃ u, mg "POP" = some (.str "pop" u)) (n_isinstance : mg "isinstance" = none) (n_str : mg "str" = none) (n_len : mg "len" = none) (n_tuple : mg "tuple" = none) : Cal false P w K mg base 2 "is_step" (SpR K (gr (F_is_step G))) := by
  refine ⟨f, fd, _, fx_body (b := x_is_step G) F.fn sc_is_step ?_, F.mgf, F.fn.kp, b⟩
  intro cdv A outer s H E hr hgd
  have nd := sc_is_step.nd
  exact ⟨_, (pss_cons (ps_if (PW.pt (pw_or (pt_not (pt_val (pe_callB (k_isi K rfl) (by rfl) n_isinstance (by decide +kernel) (pa_cons (pv 0) (pa_cons (k_ty (n := "tuple") (by rfl) n_tuple (by decide +kernel)) pa_nil))))) (pw_or (pt_cmpR (o_neP K rfl (room64 hr)) (pe_callB (k_len K rfl) (by rfl) n_len (by decide +kernel) (pa_cons (pv 0) pa_nil)) pe_int (nomark _)) (pw_or1 (pt_not (pt_val (pe_callB (k_isi K rfl) (by rfl) n_isinstance (by decide +kernel) (pa_cons (pe_ix (k_ix K rfl) (pv 0) pe_int (fun _ _ => rfl)) (pa_cons (k_ty (n := "str") (by rfl) n_str (by decide +kernel)) pa_nil)))))))))
 (pss_one (ps_ret pe_bl))
 pss_nil)
 (pss_one (ps_ret (pe_and (pe_cmpR (k_inU K rfl) (pe_ix (k_ix K rfl) (pv 0) pe_int (fun _ _ => rfl)) (pe_tup (pa_cons (k_gstr (by rfl) g_PUSH) (pa_cons (k_gstr (by rfl) g_POP) pa_nil))) (by with_unfolding_all rfl)) (pe_one (k_call K rfl c_is_item hr (by first | decide | omega) (fun h => nomatch h) (by rfl) (takes_of rfl rfl rfl rfl) (pa_cons (pe_ix (k_ix K rfl) (pv 0) pe_int (fun _ _ => rfl)) pa_nil))))))), rfl⟩
abbrev st_check_parts : Stmt := PySem.Challenge.pw_stackeffect_k01_items_words_sequences.main.body.getD 12 (.Pass ⟨0, 0, 0, 0⟩)
abbrev N_check_parts : List Str := ["steps", "is_valid", "index", "step"]
theorem sc_check_parts : FnScope N_check_parts ["steps", "is_valid"] (defScope st_check_parts) := ⟨rfl, rfl, rfl, by decide +kernel, rfl, by decide +kernel, by decide +kernel⟩
def x_check_parts (G : Gb) (fv_is_valid : Addr) (F_is_valid : Fn) : XS :=
 (xSeq (xIfS (xOr (xNot (xB (xCB cIsSeq (xCons (xVar 0) (xCons (xTup (xCons (xRaw (.ty "list")) (xCons (xRaw (.ty "tuple")) xNil))) xNil))))) (xTest (xOp oGt (xCB cLen (xCons (xVar 0) xNil)) (xInt 1000))))
 (xRaiseI (G.at_ "InvalidSteps") (xCons xNon xNil))
 xNext)
 (xFor (xEnum (xCons (xVar 0) xNil)) (xGTup 2 (xGCons (xName 2) (xGCons (xName 3) xGNil))) [0, 2, 3]
 (xIfS (xNot (xB (xCallL 1 fv_is_valid F_is_valid (xCons (xVar 3) xNil))))
 (xRaiseI (G.at_ "InvalidSteps") (xCons (xVar 2) xNil))
 xNext)))
def F_check_parts (G : Gb) (fv_is_valid : Addr) (F_is_valid : Fn) : Fn := runDef 2 4 (x_check_parts G fv_is_valid F_is_valid).ev
theorem ok_check_parts {G : Gb} {fv_is_valid : Addr} {F_is_valid : Fn} {f : Addr} {fd : FuncData} (F : Def K mg "check_parts" st_check_parts f fd) (b : Binds K fd ["steps", "is_valid"] [])
    (n_enumerate : mg "enumerate" = none) (x_InvalidSteps : ∃ fI, PySem.LowX_index.LowTxt K mg "InvalidSteps" (G.at_ "InvalidSteps") fI) (n_len : mg "len" = none) (g_MOST_STEPS : ∃ u, mg "MOST_STEPS" = some (.int 1000 u)) (n_isinstance : mg "isinstance" = none) (n_list : mg "list" = none) (n_tuple : mg "tuple" = none) (cf_is_valid : CalAt false P w K mg base 2 fv_is_valid (SpR K (gr F_is_valid))) : Cal false P w K mg base 4 "check_parts" (SpR K (gr (F_check_parts G fv_is_valid F_is_valid))) := by
  refine ⟨f, fd, _, fx_body (b := x_check_parts G fv_is_valid F_is_valid) F.fn sc_check_parts ?_, F.mgf, F.fn.kp, b⟩
  intro cdv A outer s H E hr hgd
  have nd := sc_check_parts.nd
  exact ⟨_, (pss_cons (ps_if (PW.pt (pw_or (pt_not (pt_val (pe_callB (k_isiT K rfl) (by rfl) n_isinstance (by decide +kernel) (pa_cons (pv 0) (pa_cons (pe_tup (pa_cons (k_ty (n := "list") (by rfl) n_list (by decide +kernel)) (pa_cons (k_ty (n := "tuple") (by rfl) n_tuple (by decide +kernel)) pa_nil))) pa_nil))))) (pw_or1 (pt_cmpR o_gt (pe_callB (k_len K rfl) (by rfl) n_len (by decide +kernel) (pa_cons (pv 0) pa_nil)) (k_gint (by rfl) g_MOST_STEPS) (nomark _)))))
 (pss_one (k_raise_index K rfl rfl x_InvalidSteps hr (takes_of rfl rfl rfl rfl) (pa_cons pe_non pa_nil)))
 pss_nil)
 (pss_one (ps_for (passes_of rfl) rfl (k_penumA K rfl (by rfl) n_enumerate (pa_cons (pv 0) pa_nil)) (k_gtup K rfl rfl (pgs_cons (pg_name (i := 2) nd rfl (by first | exact .inl rfl | exact .inr rfl)) (pgs_cons (pg_name (i := 3) nd rfl (by first | exact .inl rfl | exact .inr rfl)) pgs_nil)))
 (pss_one (ps_if (pt_not (pt_val (k_callL (i := 1) K rfl cf_is_valid hr (by first | decide | omega) (fun h => nomatch h) rfl (by first | exact .inl rfl | exact .inr (.inl rfl) | exact .inr (.inr rfl)) (takes_of rfl rfl rfl rfl) (pa_cons (pv 3) pa_nil))))
 (pss_one (k_raise_index K rfl rfl x_InvalidSteps hr (takes_of rfl rfl rfl rfl) (pa_cons (pv 2) pa_nil)))
 pss_nil))))), rfl⟩
abbrev st_check_steps : Stmt := PySem.Challenge.pw_stackeffect_k01_items_words_sequences.main.body.getD 13 (.Pass ⟨0, 0, 0, 0⟩)
abbrev N_check_steps : List Str := ["steps"]
theorem sc_check_steps : FnScope N_check_steps ["steps"] (defScope st_check_steps) := ⟨rfl, rfl, rfl, by decide +kernel, rfl, by decide +kernel, by decide +kernel⟩
def x_check_steps (G : Gb) : XS :=
 (xDrop (xCall (F_check_parts G (G.at_ "is_step") (F_is_step G)) (xCons (xVar 0) (xCons (xRaw (.ref (G.at_ "is_step"))) xNil))))
def F_check_steps (G : Gb) : Fn := runDef 1 1 (x_check_steps G).ev
theorem ok_check_steps {G : Gb} {f : Addr} {fd : FuncData} (F : Def K mg "check_steps" st_check_steps f fd) (b : Binds K fd ["steps"] [])
    (c_check_parts__is_step : Cal false P w K mg base 4 "check_parts" (SpR K (gr (F_check_parts G (G.at_ "is_step") (F_is_step G))))) (v_is_step : mg "is_step" = some (.ref (G.at_ "is_step"))) : Cal false P w K mg base 5 "check_steps" (SpR K (gr (F_check_steps G))) := by
  refine ⟨f, fd, _, fx_body (b := x_check_steps G) F.fn sc_check_steps ?_, F.mgf, F.fn.kp, b⟩
  intro cdv A outer s H E hr hgd
  have nd := sc_check_steps.nd
  exact ⟨_, (pss_one (ps_expr (k_call K rfl c_check_parts__is_step hr (by first | decide | omega) (fun h => nomatch h) (by rfl) (takes_of rfl rfl rfl rfl) (pa_cons (pv 0) (pa_cons (k_fun (by rfl) v_is_step) pa_nil))))), rfl⟩
/-! ### items, words, steps -/
/-- texts within are not too long -/
def SmallS (d : D) : Prop := ∀ s, d = .str s → s.length ≤ 100000
def isItem : D → Bool
  | .str s => okItem s
  | _ => false
theorem F_is_item' (G : Gb) {d : D} (h1 : d.ty.isSome = true) (h2 : SmallS d) : F_is_item G [.d d] [] = some (.ret (.d (.bl (isItem d))), []) := by
  unfold F_is_item x_is_item
  cases d with
  | str s =>
    have hl := h2 s rfl
    by_cases h : 1 ≤ s.length ∧ s.length ≤ 8
    · obtain ⟨ha, hb⟩ := h
      have e1 : (1 : Int) ≤ (s.length : Int) := by omega
      have e2 : (s.length : Int) ≤ 8 := by omega
      have e3 : s.cps.toList.length ≤ 100000 := by rw [Array.length_toList]; exact hl
      walk_at "fxh"
      generalize hz : runLc _ _ _ _ _ _ = z
      have e4 := lc_map (fun c => AV.d (D.str ⟨#[c]⟩)) (fun c => AV.d (D.bl (okSign c))) hz fun c hc => ⟨_, rfl, rfl, by walk_at "fx"; rfl⟩
      rw [e4]
      walk_at "fx"
      rw [toD_mapf]
      walk_at "fx"
      rw [asBs_map]
      walk_at "fx"
      rw [allP, isItem, okItem, decide_eq_true ha, decide_eq_true hb]; rfl
    · have hi : isItem (.str s) = false := by
        simp only [isItem, okItem]
        by_cases ha : 1 ≤ s.length
        · have hb : ¬ s.length ≤ 8 := fun z => h ⟨ha, z⟩
          rw [decide_eq_false hb]; simp
        · rw [decide_eq_false ha]; simp
      rw [hi]
      by_cases ha : 1 ≤ s.length
      · have e1 : (1 : Int) ≤ (s.length : Int) := by omega
        have e2 : ¬ (s.length : Int) ≤ 8 := by omega
        walk_at "fxh"
      · have e1 : ¬ (1 : Int) ≤ (s.length : Int) := by omega
        walk_at "fxh"
  | raw v => simp [D.ty] at h1
  | ins C fs => simp [D.ty] at h1
  | exc c a dd fs => simp [D.ty] at h1
  | _ => walk_at "fx"; rfl
/-- any value, its parts too -/
structure Odd (d : D) : Prop where
  ty : d.ty.isSome = true
  s : SmallS d
def OddT (d : D) : Prop := Odd d ∧ ∀ xs, d = .tup xs → xs.length ≤ 100000 ∧ ∀ x ∈ xs, Odd x
def isWord : D → Bool
  | .tup xs => xs.all isItem
  | _ => false
theorem F_is_word' (G : Gb) {d : D} (h : OddT d) : F_is_word G [.d d] [] = some (.ret (.d (.bl (isWord d))), []) := by
  obtain ⟨⟨h1, h2⟩, h3⟩ := h
  unfold F_is_word x_is_word
  cases d with
  | tup xs =>
    obtain ⟨hl, hx⟩ := h3 xs rfl
    walk_at "fxh"
    generalize hz : runLc _ _ _ _ _ _ = z
    have e4 := lc_map (fun c => AV.d c) (fun c => AV.d (D.bl (isItem c))) hz fun c hc => ⟨_, rfl, rfl, by
      have := F_is_item' G (hx c hc).ty (hx c hc).s
      walk_at "fxh"⟩
    rw [e4]
    walk_at "fx"
    rw [toD_mapf]
    walk_at "fx"
    rw [asBs_map]
    walk_at "fx"
    rw [allP]; rfl
  | raw v => simp [D.ty] at h1
  | ins C fs => simp [D.ty] at h1
  | exc c a dd fs => simp [D.ty] at h1
  | _ => walk_at "fx"; rfl
def isStep : D → Bool
  | .tup [.str a, x] => decide (a ∈ [("push" : Str), "pop"]) && isItem x
  | _ => false
theorem F_is_step' (G : Gb) {d : D} (h : OddT d) : F_is_step G [.d d] [] = some (.ret (.d (.bl (isStep d))), []) := by
  obtain ⟨⟨h1, h2⟩, h3⟩ := h
  unfold F_is_step x_is_step
  cases d with
  | tup xs =>
    obtain ⟨hl, hx⟩ := h3 xs rfl
    by_cases h : xs.length = 2
    · obtain ⟨x, y, rfl⟩ : ∃ x y, xs = [x, y] := by
        match xs, h with
        | [x, y], _ => exact ⟨x, y, rfl⟩
      have hx1 := hx x List.mem_cons_self
      have hy1 := hx y (List.mem_cons_of_mem _ List.mem_cons_self)
      have hF := F_is_item' G hy1.ty hy1.s
      have hty := hx1.ty
      cases x with
      | str a =>
        walk_at "fxh"
        show some (Out.ret (.d (.bl _)), _) = some (Out.ret (.d (.bl (decide (a ∈ [("push" : Str), "pop"]) && isItem y))), _)
        rw [show decide (a ∈ [("push" : Str), "pop"]) = (decide (("push" : Str) = a) || decide (("pop" : Str) = a)) by
          rw [← Bool.decide_or]; exact decide_eq_decide.mpr (by simp [eq_comm])]
      | raw v => simp [D.ty] at hty
      | ins C fs => simp [D.ty] at hty
      | exc c a dd fs => simp [D.ty] at hty
      | _ => walk_at "fx"; rfl
    · have e1 : ¬ (xs.length : Int) = 2 := by omega
      have hi : isStep (.tup xs) = false := by
        unfold isStep
        split
        · rename_i e; cases e; simp at h
        · rfl
      walk_at "fxh"
  | raw v => simp [D.ty] at h1
  | ins C fs => simp [D.ty] at h1
  | exc c a dd fs => simp [D.ty] at h1
  | _ => walk_at "fx"; rfl
local macro_rules | `(tactic| walk_at "fx") => `(tactic| try simp (disch := first | assumption | omega) only [runDef, FX.runGen, FX.take_map, FX.drop_map, FX.dropLast_map, FX.rev_map, FX.cut_map, DL.cut_to1, DL.cut_from1, DL.cut_but, DL.cut_last, List.all_append, FX.eq_cd, FX.ne_cd, ne_eq, not_true_eq_false, not_false_eq_true, FX.and_t, FX.and_f, FX.and_b, FX.or_t, FX.or_f, FX.or_b, bnd_v, bnd_x, bnd_n, lft_s, lft_n, fin_v, fin_x, wipeA, List.getElem?_cons_zero, List.getElem?_cons_succ, List.getElem?_nil, Option.join_some, List.set_cons_zero, List.set_cons_succ, List.map_cons, List.map_nil, List.cons_append, List.nil_append, List.append_nil, List.length_cons, List.length_nil, Option.map_some, Option.map_none, Option.bind_some, Option.bind_none, List.replicate_succ, List.replicate_zero, Nat.reduceAdd, Nat.reduceSub, Nat.reduceLeDiff, if_true, if_false, decide_eq_true_eq, Bool.not_true, Bool.true_eq_false, reduceCtorEq, Bool.decide_eq_true, Bool.true_and, Bool.false_and, Bool.true_or, Bool.false_or, Bool.or_true, Bool.or_false, Bool.and_false, Bool.and_eq_true, Bool.or_eq_true, Bool.not_not, Bool.decide_eq_false, Bool.not_false, Bool.not_eq_true', decide_eq_false_iff_not, Bool.false_eq_true, reduceIte, Nat.zero_add, chk, List.take_succ_cons, List.take_zero, List.all_cons, List.all_nil, Bool.and_true, Bool.and_self, and_self, and_true, true_and, Nat.le_refl, ge_iff_le, Int.reduceNeg, Int.reduceLT, Int.reduceLE, Int.reduceToNat, Nat.not_lt_zero, Int.toNat_natCast, rangeL0, toD_map, inD_str, D.isStr, D.isTup, D.isLst, D.isInt, D.isBool, D.ty, Option.isSome_some, Option.isSome_none, DL.nD, DL.sgD, List.length_map, List.length_range, List.length_append, FX.e_xVar, FX.e_xC, FX.e_xInt, FX.e_xBl, FX.e_xStr, FX.e_xNon, FX.e_xRaw, FX.e_xOp, FX.e_xOpN, FX.e_xUn, FX.e_xNil, FX.e_xCons, FX.e_xStar, FX.e_xCB, FX.e_xCBN, FX.e_xDat, FX.e_xTup, FX.e_xLst, FX.e_xTest, FX.e_xB, FX.e_xYes, FX.e_xNot, FX.e_xAnd, FX.e_xOr, FX.e_xAndV, FX.e_xOrV, FX.e_xNotV, FX.e_xIf, FX.e_xChain, FX.e_xONone, FX.e_xOSome, FX.e_xSl, FX.e_xSlN, FX.e_xRev, FX.e_xEach, FX.e_xRng1, FX.e_xRng2, FX.e_xEnum, FX.e_xZip, FX.e_xName, FX.e_xGNil, FX.e_xGCons, FX.e_xGTup, FX.e_xLc, FX.e_xNext, FX.e_xBreak, FX.e_xCont, FX.e_xSeq, FX.e_xIfS, FX.e_xDrop, FX.e_xRet, FX.e_xRetN, FX.e_xRetL, FX.e_xAsg, FX.e_xAsgN, FX.e_xAsgIfN, FX.e_xAug, FX.e_xMNil, FX.e_xMCons, FX.e_xMConsN, FX.e_xPar, FX.e_xPar3, FX.e_xFor, FX.e_xWhile, FX.e_xAppend, FX.e_xPop, FX.e_xPopAt, FX.e_xSetL, FX.e_xRaiseV, FX.e_xRaiseI, FX.e_xCall, FX.e_xCallN, FX.e_xCallD, FX.e_xCallK, FX.e_xCallL, FX.e_xCallT, FX.e_xCallTN, FX.e_xLRg1, FX.f_oAdd, FX.f_oMul, FX.f_oEq, FX.f_oNe, FX.f_oIs, FX.f_oIsN, FX.f_oIn, FX.f_oNotIn, FX.f_oIx, FX.f_oSub, FX.f_oDiv, FX.f_oMod, FX.f_oPow, FX.f_oLt, FX.f_oLe, FX.f_oGt, FX.f_oGe, FX.f_uNeg, FX.f_oAddN, FX.f_cLen, FX.f_cRepr, FX.f_cList, FX.f_cTup, FX.f_cAny, FX.f_cAll, FX.f_cIsi, FX.f_cIsSeq, FX.f_cAbs, FX.f_cInt, FX.f_cMax2, FX.f_cMin2, FX.f_cSortI, FX.add_ii, FX.add_ss, FX.add_ll, FX.add_tt, FX.addN_ll, FX.mul_ii, FX.mul_li, FX.eq_dd, FX.ne_dd, FX.is_n, FX.isn_n, FX.is_bb, FX.isn_bb, FX.nonF_n, FX.nonF_c, FX.nonF_i, FX.nonF_t, FX.nonF_l, FX.nonF_s, FX.nonF_b, FX.ix_l, FX.ix_t, FX.ix_f, FX.ix_s, FX.ix_c, FX.len_l, FX.len_t, FX.len_f, FX.len_s, FX.len_c, FX.thaw_d, FX.thaw_c, FX.tup_l, FX.tup_t, FX.list_l, FX.list_t, FX.asB_b, FX.asI_i, FX.any_l, FX.all_l, FX.isi_d, FX.kind_str, FX.kind_tup, FX.kind_lst, FX.kind_int, FX.kind_bool, FX.seq_d, FX.toD_nil, FX.toD_cons, FX.then_nx, FX.then_rt, FX.then_bk, FX.then_ct, FX.then_xc, FX.cell_c, FX.one_d, FX.lst_at0, FX.lst_at1, FX.outV_r, FX.outV_n, FX.outV_x, FX.outN_n, FX.outN_x, FX.finD_nx, FX.finD_rd, FX.finD_rc, FX.finD_xc, FX.nonF_d, FX.nonF_f, FX.nonF_o, FX.at0, FX.at1, FX.at2, FX.at3, FX.okD_n, FX.okD_b, FX.okD_i, FX.okD_s, FX.okD_l, FX.okD_t, FX.stD_n, FX.stD_b, FX.stD_i, FX.stD_s, FX.stD_t, FX.eqD_ii, FX.eqD_bb, FX.eqD_ss, FX.eqD_nn, FX.eqD_ll, FX.eqD_tt, FX.eqD_ni, FX.eqD_in, FX.eqD_nt, FX.eqD_tn, FX.eqD_nl, FX.eqD_ln, FX.eqD_ns, FX.eqD_sn, FX.eqA_nil, FX.eqA_cons, FX.eqA_nc, FX.eqA_cn, FX.eqD_tS, FX.eqD_lS, FX.eqD_tS1, FX.eqD_lS1, FX.eqD_lS0, FX.eqA_S, FX.eqA_S1, FX.eqA_S0, FX.inD_nil, FX.inD_ss, FX.inD_ii, FX.dec_t, FX.dec_f, FX.ite_and, FX.ite_or, FX.in_dl, FX.in_dt, FX.in_dc, FX.in_sg, FX.flat_s, FX.flat_i, FX.flat_b, FX.flat_n, FX.flat_mapS, FX.flat_mapI, FX.isD_mapD, FX.lo_mapD, FX.okD_mapS, FX.stD_mapS, FX.lo_l, FX.lo_d, FX.nr_nil, FX.nr_none, FX.nr_d, FX.nr_c, FX.callM_d1, FX.callM_d2, FX.callM_d3, FX.callM_d4, FX.isD_lst, FX.isD_d, FX.e_xG0, FX.e_xGThen, FX.e_xGPlain, FX.e_xGIf, FX.e_xGYield, FX.e_xGFor, FX.e_xListG, FX.gthen_nx, FX.gthen_xc, FX.glift_nx, FX.glift_xc, FX.gfin_nx, FX.gfin_xc, FX.e_xDGet, FX.e_xPNil, FX.e_xPCons, FX.e_xDct, FX.key_s, FX.key_i, FX.valD_nil, FX.valD_s, FX.valD_i, FX.e_xCallP, FX.e_xListGP, FX.pick_nil, FX.pick_cons, FX.e_xTry, FX.e_xTryAs, FX.e_xXf, FX.e_xIsX, FX.e_cl_nx, FX.e_cl_bk, FX.e_cl_ct, FX.e_cl_rt, FX.e_cl_xc, FX.e_cv_r, FX.e_cv_t, FX.e_xDct0, FX.e_xJoin, FX.e_cReprV, FX.e_oInV, FX.e_oLeS, FX.e_strs, FX.e_oEqV, FX.e_eqV_nil, C_take0, isD_pool, lo_pool, poolC_eq, C_name0, F_is_item', FX.okMul_t, if_pos, if_neg])
local macro_rules | `(tactic| walk_at "fxh") => `(tactic| try simp (disch := first | assumption | omega) only [runDef, FX.runGen, FX.take_map, FX.drop_map, FX.dropLast_map, FX.rev_map, FX.cut_map, DL.cut_to1, DL.cut_from1, DL.cut_but, DL.cut_last, List.all_append, FX.eq_cd, FX.ne_cd, ne_eq, not_true_eq_false, not_false_eq_true, FX.and_t, FX.and_f, FX.and_b, FX.or_t, FX.or_f, FX.or_b, bnd_v, bnd_x, bnd_n, lft_s, lft_n, fin_v, fin_x, wipeA, List.getElem?_cons_zero, List.getElem?_cons_succ, List.getElem?_nil, Option.join_some, List.set_cons_zero, List.set_cons_succ, List.map_cons, List.map_nil, List.cons_append, List.nil_append, List.append_nil, List.length_cons, List.length_nil, Option.map_some, Option.map_none, Option.bind_some, Option.bind_none, List.replicate_succ, List.replicate_zero, Nat.reduceAdd, Nat.reduceSub, Nat.reduceLeDiff, if_true, if_false, decide_eq_true_eq, Bool.not_true, Bool.true_eq_false, reduceCtorEq, Bool.decide_eq_true, Bool.true_and, Bool.false_and, Bool.true_or, Bool.false_or, Bool.or_true, Bool.or_false, Bool.and_false, Bool.and_eq_true, Bool.or_eq_true, Bool.not_not, Bool.decide_eq_false, Bool.not_false, Bool.not_eq_true', decide_eq_false_iff_not, Bool.false_eq_true, reduceIte, Nat.zero_add, chk, List.take_succ_cons, List.take_zero, List.all_cons, List.all_nil, Bool.and_true, Bool.and_self, and_self, and_true, true_and, Nat.le_refl, ge_iff_le, Int.reduceNeg, Int.reduceLT, Int.reduceLE, Int.reduceToNat, Nat.not_lt_zero, Int.toNat_natCast, rangeL0, toD_map, inD_str, D.isStr, D.isTup, D.isLst, D.isInt, D.isBool, D.ty, Option.isSome_some, Option.isSome_none, DL.nD, DL.sgD, List.length_map, List.length_range, List.length_append, FX.e_xVar, FX.e_xC, FX.e_xInt, FX.e_xBl, FX.e_xStr, FX.e_xNon, FX.e_xRaw, FX.e_xOp, FX.e_xOpN, FX.e_xUn, FX.e_xNil, FX.e_xCons, FX.e_xStar, FX.e_xCB, FX.e_xCBN, FX.e_xDat, FX.e_xTup, FX.e_xLst, FX.e_xTest, FX.e_xB, FX.e_xYes, FX.e_xNot, FX.e_xAnd, FX.e_xOr, FX.e_xAndV, FX.e_xOrV, FX.e_xNotV, FX.e_xIf, FX.e_xChain, FX.e_xONone, FX.e_xOSome, FX.e_xSl, FX.e_xSlN, FX.e_xRev, FX.e_xEach, FX.e_xRng1, FX.e_xRng2, FX.e_xEnum, FX.e_xZip, FX.e_xName, FX.e_xGNil, FX.e_xGCons, FX.e_xGTup, FX.e_xLc, FX.e_xNext, FX.e_xBreak, FX.e_xCont, FX.e_xSeq, FX.e_xIfS, FX.e_xDrop, FX.e_xRet, FX.e_xRetN, FX.e_xRetL, FX.e_xAsg, FX.e_xAsgN, FX.e_xAsgIfN, FX.e_xAug, FX.e_xMNil, FX.e_xMCons, FX.e_xMConsN, FX.e_xPar, FX.e_xPar3, FX.e_xFor, FX.e_xWhile, FX.e_xAppend, FX.e_xPop, FX.e_xPopAt, FX.e_xSetL, FX.e_xRaiseV, FX.e_xRaiseI, FX.e_xCall, FX.e_xCallN, FX.e_xCallD, FX.e_xCallK, FX.e_xCallL, FX.e_xCallT, FX.e_xCallTN, FX.e_xLRg1, FX.f_oAdd, FX.f_oMul, FX.f_oEq, FX.f_oNe, FX.f_oIs, FX.f_oIsN, FX.f_oIn, FX.f_oNotIn, FX.f_oIx, FX.f_oSub, FX.f_oDiv, FX.f_oMod, FX.f_oPow, FX.f_oLt, FX.f_oLe, FX.f_oGt, FX.f_oGe, FX.f_uNeg, FX.f_oAddN, FX.f_cLen, FX.f_cRepr, FX.f_cList, FX.f_cTup, FX.f_cAny, FX.f_cAll, FX.f_cIsi, FX.f_cIsSeq, FX.f_cAbs, FX.f_cInt, FX.f_cMax2, FX.f_cMin2, FX.f_cSortI, FX.add_ii, FX.add_ss, FX.add_ll, FX.add_tt, FX.addN_ll, FX.mul_ii, FX.mul_li, FX.eq_dd, FX.ne_dd, FX.is_n, FX.isn_n, FX.is_bb, FX.isn_bb, FX.nonF_n, FX.nonF_c, FX.nonF_i, FX.nonF_t, FX.nonF_l, FX.nonF_s, FX.nonF_b, FX.ix_l, FX.ix_t, FX.ix_f, FX.ix_s, FX.ix_c, FX.len_l, FX.len_t, FX.len_f, FX.len_s, FX.len_c, FX.thaw_d, FX.thaw_c, FX.tup_l, FX.tup_t, FX.list_l, FX.list_t, FX.asB_b, FX.asI_i, FX.any_l, FX.all_l, FX.isi_d, FX.kind_str, FX.kind_tup, FX.kind_lst, FX.kind_int, FX.kind_bool, FX.seq_d, FX.toD_nil, FX.toD_cons, FX.then_nx, FX.then_rt, FX.then_bk, FX.then_ct, FX.then_xc, FX.cell_c, FX.one_d, FX.lst_at0, FX.lst_at1, FX.outV_r, FX.outV_n, FX.outV_x, FX.outN_n, FX.outN_x, FX.finD_nx, FX.finD_rd, FX.finD_rc, FX.finD_xc, FX.nonF_d, FX.nonF_f, FX.nonF_o, FX.at0, FX.at1, FX.at2, FX.at3, FX.okD_n, FX.okD_b, FX.okD_i, FX.okD_s, FX.okD_l, FX.okD_t, FX.stD_n, FX.stD_b, FX.stD_i, FX.stD_s, FX.stD_t, FX.eqD_ii, FX.eqD_bb, FX.eqD_ss, FX.eqD_nn, FX.eqD_ll, FX.eqD_tt, FX.eqD_ni, FX.eqD_in, FX.eqD_nt, FX.eqD_tn, FX.eqD_nl, FX.eqD_ln, FX.eqD_ns, FX.eqD_sn, FX.eqA_nil, FX.eqA_cons, FX.eqA_nc, FX.eqA_cn, FX.eqD_tS, FX.eqD_lS, FX.eqD_tS1, FX.eqD_lS1, FX.eqD_lS0, FX.eqA_S, FX.eqA_S1, FX.eqA_S0, FX.inD_nil, FX.inD_ss, FX.inD_ii, FX.dec_t, FX.dec_f, FX.ite_and, FX.ite_or, FX.in_dl, FX.in_dt, FX.in_dc, FX.in_sg, FX.flat_s, FX.flat_i, FX.flat_b, FX.flat_n, FX.flat_mapS, FX.flat_mapI, FX.isD_mapD, FX.lo_mapD, FX.okD_mapS, FX.stD_mapS, FX.lo_l, FX.lo_d, FX.nr_nil, FX.nr_none, FX.nr_d, FX.nr_c, FX.callM_d1, FX.callM_d2, FX.callM_d3, FX.callM_d4, FX.isD_lst, FX.isD_d, FX.e_xG0, FX.e_xGThen, FX.e_xGPlain, FX.e_xGIf, FX.e_xGYield, FX.e_xGFor, FX.e_xListG, FX.gthen_nx, FX.gthen_xc, FX.glift_nx, FX.glift_xc, FX.gfin_nx, FX.gfin_xc, FX.e_xDGet, FX.e_xPNil, FX.e_xPCons, FX.e_xDct, FX.key_s, FX.key_i, FX.valD_nil, FX.valD_s, FX.valD_i, FX.e_xCallP, FX.e_xListGP, FX.pick_nil, FX.pick_cons, FX.e_xTry, FX.e_xTryAs, FX.e_xXf, FX.e_xIsX, FX.e_cl_nx, FX.e_cl_bk, FX.e_cl_ct, FX.e_cl_rt, FX.e_cl_xc, FX.e_cv_r, FX.e_cv_t, FX.e_xDct0, FX.e_xJoin, FX.e_cReprV, FX.e_oInV, FX.e_oLeS, FX.e_strs, FX.e_oEqV, FX.e_eqV_nil, C_take0, isD_pool, lo_pool, poolC_eq, C_name0, F_is_item', FX.okMul_t, if_pos, if_neg, *])
local macro_rules | `(tactic| walk_at "fx!") => `(tactic| simp (disch := first | assumption | omega) only [runDef, FX.runGen, FX.take_map, FX.drop_map, FX.dropLast_map, FX.rev_map, FX.cut_map, DL.cut_to1, DL.cut_from1, DL.cut_but, DL.cut_last, List.all_append, FX.eq_cd, FX.ne_cd, ne_eq, not_true_eq_false, not_false_eq_true, FX.and_t, FX.and_f, FX.and_b, FX.or_t, FX.or_f, FX.or_b, bnd_v, bnd_x, bnd_n, lft_s, lft_n, fin_v, fin_x, wipeA, List.getElem?_cons_zero, List.getElem?_cons_succ, List.getElem?_nil, Option.join_some, List.set_cons_zero, List.set_cons_succ, List.map_cons, List.map_nil, List.cons_append, List.nil_append, List.append_nil, List.length_cons, List.length_nil, Option.map_some, Option.map_none, Option.bind_some, Option.bind_none, List.replicate_succ, List.replicate_zero, Nat.reduceAdd, Nat.reduceSub, Nat.reduceLeDiff, if_true, if_false, decide_eq_true_eq, Bool.not_true, Bool.true_eq_false, reduceCtorEq, Bool.decide_eq_true, Bool.true_and, Bool.false_and, Bool.true_or, Bool.false_or, Bool.or_true, Bool.or_false, Bool.and_false, Bool.and_eq_true, Bool.or_eq_true, Bool.not_not, Bool.decide_eq_false, Bool.not_false, Bool.not_eq_true', decide_eq_false_iff_not, Bool.false_eq_true, reduceIte, Nat.zero_add, chk, List.take_succ_cons, List.take_zero, List.all_cons, List.all_nil, Bool.and_true, Bool.and_self, and_self, and_true, true_and, Nat.le_refl, ge_iff_le, Int.reduceNeg, Int.reduceLT, Int.reduceLE, Int.reduceToNat, Nat.not_lt_zero, Int.toNat_natCast, rangeL0, toD_map, inD_str, D.isStr, D.isTup, D.isLst, D.isInt, D.isBool, D.ty, Option.isSome_some, Option.isSome_none, DL.nD, DL.sgD, List.length_map, List.length_range, List.length_append, FX.e_xVar, FX.e_xC, FX.e_xInt, FX.e_xBl, FX.e_xStr, FX.e_xNon, FX.e_xRaw, FX.e_xOp, FX.e_xOpN, FX.e_xUn, FX.e_xNil, FX.e_xCons, FX.e_xStar, FX.e_xCB, FX.e_xCBN, FX.e_xDat, FX.e_xTup, FX.e_xLst, FX.e_xTest, FX.e_xB, FX.e_xYes, FX.e_xNot, FX.e_xAnd, FX.e_xOr, FX.e_xAndV, FX.e_xOrV, FX.e_xNotV, FX.e_xIf, FX.e_xChain, FX.e_xONone, FX.e_xOSome, FX.e_xSl, FX.e_xSlN, FX.e_xRev, FX.e_xEach, FX.e_xRng1, FX.e_xRng2, FX.e_xEnum, FX.e_xZip, FX.e_xName, FX.e_xGNil, FX.e_xGCons, FX.e_xGTup, FX.e_xLc, FX.e_xNext, FX.e_xBreak, FX.e_xCont, FX.e_xSeq, FX.e_xIfS, FX.e_xDrop, FX.e_xRet, FX.e_xRetN, FX.e_xRetL, FX.e_xAsg, FX.e_xAsgN, FX.e_xAsgIfN, FX.e_xAug, FX.e_xMNil, FX.e_xMCons, FX.e_xMConsN, FX.e_xPar, FX.e_xPar3, FX.e_xFor, FX.e_xWhile, FX.e_xAppend, FX.e_xPop, FX.e_xPopAt, FX.e_xSetL, FX.e_xRaiseV, FX.e_xRaiseI, FX.e_xCall, FX.e_xCallN, FX.e_xCallD, FX.e_xCallK, FX.e_xCallL, FX.e_xCallT, FX.e_xCallTN, FX.e_xLRg1, FX.f_oAdd, FX.f_oMul, FX.f_oEq, FX.f_oNe, FX.f_oIs, FX.f_oIsN, FX.f_oIn, FX.f_oNotIn, FX.f_oIx, FX.f_oSub, FX.f_oDiv, FX.f_oMod, FX.f_oPow, FX.f_oLt, FX.f_oLe, FX.f_oGt, FX.f_oGe, FX.f_uNeg, FX.f_oAddN, FX.f_cLen, FX.f_cRepr, FX.f_cList, FX.f_cTup, FX.f_cAny, FX.f_cAll, FX.f_cIsi, FX.f_cIsSeq, FX.f_cAbs, FX.f_cInt, FX.f_cMax2, FX.f_cMin2, FX.f_cSortI, FX.add_ii, FX.add_ss, FX.add_ll, FX.add_tt, FX.addN_ll, FX.mul_ii, FX.mul_li, FX.eq_dd, FX.ne_dd, FX.is_n, FX.isn_n, FX.is_bb, FX.isn_bb, FX.nonF_n, FX.nonF_c, FX.nonF_i, FX.nonF_t, FX.nonF_l, FX.nonF_s, FX.nonF_b, FX.ix_l, FX.ix_t, FX.ix_f, FX.ix_s, FX.ix_c, FX.len_l, FX.len_t, FX.len_f, FX.len_s, FX.len_c, FX.thaw_d, FX.thaw_c, FX.tup_l, FX.tup_t, FX.list_l, FX.list_t, FX.asB_b, FX.asI_i, FX.any_l, FX.all_l, FX.isi_d, FX.kind_str, FX.kind_tup, FX.kind_lst, FX.kind_int, FX.kind_bool, FX.seq_d, FX.toD_nil, FX.toD_cons, FX.then_nx, FX.then_rt, FX.then_bk, FX.then_ct, FX.then_xc, FX.cell_c, FX.one_d, FX.lst_at0, FX.lst_at1, FX.outV_r, FX.outV_n, FX.outV_x, FX.outN_n, FX.outN_x, FX.finD_nx, FX.finD_rd, FX.finD_rc, FX.finD_xc, FX.nonF_d, FX.nonF_f, FX.nonF_o, FX.at0, FX.at1, FX.at2, FX.at3, FX.okD_n, FX.okD_b, FX.okD_i, FX.okD_s, FX.okD_l, FX.okD_t, FX.stD_n, FX.stD_b, FX.stD_i, FX.stD_s, FX.stD_t, FX.eqD_ii, FX.eqD_bb, FX.eqD_ss, FX.eqD_nn, FX.eqD_ll, FX.eqD_tt, FX.eqD_ni, FX.eqD_in, FX.eqD_nt, FX.eqD_tn, FX.eqD_nl, FX.eqD_ln, FX.eqD_ns, FX.eqD_sn, FX.eqA_nil, FX.eqA_cons, FX.eqA_nc, FX.eqA_cn, FX.eqD_tS, FX.eqD_lS, FX.eqD_tS1, FX.eqD_lS1, FX.eqD_lS0, FX.eqA_S, FX.eqA_S1, FX.eqA_S0, FX.inD_nil, FX.inD_ss, FX.inD_ii, FX.dec_t, FX.dec_f, FX.ite_and, FX.ite_or, FX.in_dl, FX.in_dt, FX.in_dc, FX.in_sg, FX.flat_s, FX.flat_i, FX.flat_b, FX.flat_n, FX.flat_mapS, FX.flat_mapI, FX.isD_mapD, FX.lo_mapD, FX.okD_mapS, FX.stD_mapS, FX.lo_l, FX.lo_d, FX.nr_nil, FX.nr_none, FX.nr_d, FX.nr_c, FX.callM_d1, FX.callM_d2, FX.callM_d3, FX.callM_d4, FX.isD_lst, FX.isD_d, FX.e_xG0, FX.e_xGThen, FX.e_xGPlain, FX.e_xGIf, FX.e_xGYield, FX.e_xGFor, FX.e_xListG, FX.gthen_nx, FX.gthen_xc, FX.glift_nx, FX.glift_xc, FX.gfin_nx, FX.gfin_xc, FX.e_xDGet, FX.e_xPNil, FX.e_xPCons, FX.e_xDct, FX.key_s, FX.key_i, FX.valD_nil, FX.valD_s, FX.valD_i, FX.e_xCallP, FX.e_xListGP, FX.pick_nil, FX.pick_cons, FX.e_xTry, FX.e_xTryAs, FX.e_xXf, FX.e_xIsX, FX.e_cl_nx, FX.e_cl_bk, FX.e_cl_ct, FX.e_cl_rt, FX.e_cl_xc, FX.e_cv_r, FX.e_cv_t, FX.e_xDct0, FX.e_xJoin, FX.e_cReprV, FX.e_oInV, FX.e_oLeS, FX.e_strs, FX.e_oEqV, FX.e_eqV_nil, C_take0, isD_pool, lo_pool, poolC_eq, C_name0, F_is_item', FX.okMul_t, if_pos, if_neg])
local macro_rules | `(tactic| walk_at "rd") => `(tactic| dsimp only [List.length_cons, List.length_nil, Nat.reduceAdd, Nat.zero_add, FX.xVar, FX.xC, FX.xInt, FX.xBl, FX.xStr, FX.xNon, FX.xRaw, FX.xOp, FX.xOpN, FX.xUn, FX.xNil, FX.xCons, FX.xStar, FX.xCB, FX.xCBN, FX.xDat, FX.xTup, FX.xLst, FX.xTest, FX.xB, FX.xYes, FX.xNot, FX.xAnd, FX.xOr, FX.xAndV, FX.xOrV, FX.xNotV, FX.xIf, FX.xChain, FX.xONone, FX.xOSome, FX.oAdd, FX.oAddN, FX.oMul, FX.oSub, FX.oDiv, FX.oMod, FX.oPow, FX.oLt, FX.oLe, FX.oGt, FX.oGe, FX.oEq, FX.oNe, FX.oIs, FX.oIsN, FX.oIn, FX.oNotIn, FX.oIx, FX.uNeg, FX.cLen, FX.cRepr, FX.cList, FX.cTup, FX.cAbs, FX.cInt, FX.cMax2, FX.cMin2, FX.cAny, FX.cAll, FX.cSortI, FX.cIsi, FX.cIsSeq, FX.xSl, FX.xSlN, FX.xEach, FX.xRng1, FX.xRng2, FX.xEnum, FX.xZip, FX.xName, FX.xGNil, FX.xGCons, FX.xGTup, FX.xLc, FX.xNext, FX.xBreak, FX.xCont, FX.xNever, FX.xSeq, FX.xIfS, FX.xDrop, FX.xRet, FX.xRetN, FX.xRetL, FX.xAsg, FX.xAsgN, FX.xAsgIfN, FX.xAug, FX.xMNil, FX.xMCons, FX.xMConsN, FX.xPar, FX.xPar3, FX.xFor, FX.xWhile, FX.xAppend, FX.xPop, FX.xPopAt, FX.xSetL, FX.xRaiseV, FX.xRaiseI, FX.xCallD, FX.xCallDN, FX.xCall, FX.xCallN, FX.xCallK, FX.xRev, FX.xCallT, FX.xCallTN, FX.xLRg1, FX.xCallL, FX.xG0, FX.xGThen, FX.xGPlain, FX.xGIf, FX.xGYield, FX.xGFor, FX.xListG, FX.xDGet, FX.xPNil, FX.xPCons, FX.xDct, FX.xCallP, FX.xListGP, FX.xTry, FX.xTryAs, FX.xXf, FX.xIsX, FX.oInV, FX.cReprV, FX.xDct0, FX.xJoin, FX.oLeS, FX.oEqV])
/-! ### check_parts -/
def items? : D → Option (List D)
  | .lst xs => some xs
  | .tup xs => some xs
  | _ => none
/-- what check_parts does with d: done, or the index told -/
def badPart (pd : D → Bool) (d : D) : Option D :=
  match items? d with
  | none => some .non
  | some xs => if 1000 < xs.length then some .non else (xs.zipIdx.find? fun p => !pd p.1).map fun p => nD p.2
def outOf (C : Addr) : Option D → Out
  | none => .ret (.d .non)
  | some x => .exc (.ref C) [("index", x)]
theorem enumD_eq (xs : List D) : enumD xs = xs.zipIdx.map fun p => AV.d (.tup [nD p.2, p.1]) := by unfold enumD; rw [List.map_map]; rfl
/-- a value that may be looked at as steps -/
structure OddP (Pe : D → Prop) (d : D) : Prop where
  ty : d.ty.isSome = true
  nf : ∀ ns, d ≠ .fz ns
  it : ∀ xs, items? d = some xs → xs.length ≤ 100000 ∧ ∀ x ∈ xs, Pe x
theorem F_parts (G : Gb) {fv : Addr} {Fv : Fn} {pd : D → Bool} {d : D} (h : OddP (fun x => Fv [.d x] [] = some (.ret (.d (.bl (pd x))), [])) d) : F_check_parts G fv Fv [.d d, .d (.raw (.ref fv))] [] = some (outOf (G.at_ "InvalidSteps") (badPart pd d), []) := by
  obtain ⟨h1, h2, h3⟩ := h
  unfold F_check_parts x_check_parts
  have key : ∀ xs : List D, xs.length ≤ 100000 → (∀ x ∈ xs, Fv [.d x] [] = some (.ret (.d (.bl (pd x))), [])) → ¬ 1000 < xs.length → ∀ (d' : D),
      (match runFor (xGTup 2 (xGCons (xName 2) (xGCons (xName 3) xGNil))).ev (xIfS (xNot (xB (xCallL 1 fv Fv (xCons (xVar 3) xNil)))) (xRaiseI (G.at_ "InvalidSteps") (xCons (xVar 2) xNil)) xNext).ev [0, 2, 3] 0 (enumD xs) [some (.d d'), some (.d (.raw (.ref fv))), none, none] [] with
        | some r => finD 0 r
        | none => none) = some (outOf (G.at_ "InvalidSteps") ((xs.zipIdx.find? fun p => !pd p.1).map fun p => nD p.2), []) := by
    intro xs hl hx hn d'
    rw [enumD_eq]
    generalize hz : runFor _ _ _ _ _ _ _ = z
    have e := for_find (fun p : D × Nat => AV.d (.tup [nD p.2, p.1])) (fun p => pd p.1) (fun p => Ct.xc [none, some (.d (.raw (.ref fv))), some (.d (nD p.2)), some (.d p.1)] (.ref (G.at_ "InvalidSteps")) [("index", nD p.2)] []) [none, some (.d (.raw (.ref fv))), none, none] hz rfl rfl fun p hp => by
      have hpx : p.1 ∈ xs := by
        obtain ⟨x, i⟩ := p
        obtain ⟨_, _, q3⟩ := List.mem_zipIdx hp
        show x ∈ xs
        rw [q3]; exact List.getElem_mem _
      have hF := hx _ hpx
      refine ⟨_, rfl, fun q => find_nx (ρ2 := ?r) (μ2 := ?m) ?h1 ?h2 ?h3, fun q => ⟨?h4, .inl ⟨_, _, _, _, rfl⟩⟩⟩
      case h1 => walk_at "fxh"; exact rfl
      case h2 => exact rfl
      case h3 => exact rfl
      case h4 => walk_at "fxh"
    rw [e]
    cases xs.zipIdx.find? fun a => !pd a.1 with
    | none => rfl
    | some p => rfl
  cases d with
  | lst xs =>
    obtain ⟨hl, hx⟩ := h3 xs rfl
    by_cases hn : 1000 < xs.length
    · have e1 : (1000 : Int) < (xs.length : Int) := by omega
      walk_at "fxh"
      show _ = some (outOf _ (if 1000 < xs.length then _ else _), _)
      rw [if_pos hn]; rfl
    · have e1 : ¬ (1000 : Int) < (xs.length : Int) := by omega
      walk_at "fxh"
      first
      | (refine (key xs hl hx hn _).trans ?_; show _ = some (outOf _ (if 1000 < xs.length then _ else _), _); rw [if_neg hn])
      | (show _ = some (outOf _ (if 1000 < xs.length then _ else _), _); rw [if_neg hn])
  | tup xs =>
    obtain ⟨hl, hx⟩ := h3 xs rfl
    by_cases hn : 1000 < xs.length
    · have e1 : (1000 : Int) < (xs.length : Int) := by omega
      walk_at "fxh"
      show _ = some (outOf _ (if 1000 < xs.length then _ else _), _)
      rw [if_pos hn]; rfl
    · have e1 : ¬ (1000 : Int) < (xs.length : Int) := by omega
      walk_at "fxh"
      first
      | (refine (key xs hl hx hn _).trans ?_; show _ = some (outOf _ (if 1000 < xs.length then _ else _), _); rw [if_neg hn])
      | (show _ = some (outOf _ (if 1000 < xs.length then _ else _), _); rw [if_neg hn])
  | fz ns => exact absurd rfl (h2 ns)
  | raw v => simp [D.ty] at h1
  | ins C fs => simp [D.ty] at h1
  | exc c a dd fs => simp [D.ty] at h1
  | _ => walk_at "fx"; rfl
abbrev OddS (d : D) : Prop := OddP OddT d
theorem F_check_steps' (G : Gb) {d : D} (h : OddS d) : F_check_steps G [.d d] [] = some (outOf (G.at_ "InvalidSteps") (badPart isStep d), []) := by
  have hF := F_parts G (fv := G.at_ "is_step") (Fv := F_is_step G) (pd := isStep) (d := d) ⟨h.ty, h.nf, fun xs hx => ⟨(h.it xs hx).1, fun x hm => F_is_step' G ((h.it xs hx).2 x hm)⟩⟩
  unfold F_check_steps x_check_steps
  walk_at "fxh"
  cases badPart isStep d with
  | none => simp only [outOf]; walk_at "fx"
  | some x => simp only [outOf]; walk_at "fx"
abbrev wD (w : List Str) : D := .tup (w.map .str)
def actS (b : Bool) : Str := if b = true then "push" else "pop"
def stD (st : Bool × Str) : D := .tup [.str (actS st.1), .str st.2]
theorem act_eq (b : Bool) : decide (actS b = "push") = b := by cases b <;> decide +kernel
/-- valid steps -/
structure Steps (d : D) (sts : List (Bool × Str)) : Prop where
  d : d = .lst (sts.map stD) ∨ d = .tup (sts.map stD)
  n : sts.length ≤ 1000
  ok : ∀ st ∈ sts, okItem st.2 = true
theorem stD_odd {st : Bool × Str} (h : okItem st.2 = true) : OddT (stD st) := by
  have hl : st.2.length ≤ 100000 := by
    unfold okItem at h
    simp only [Bool.and_eq_true, decide_eq_true_eq] at h
    omega
  refine ⟨⟨rfl, fun s e => by cases e⟩, fun xs e => ?_⟩
  cases e
  refine ⟨by show 2 ≤ 100000; decide, fun x hx => ?_⟩
  rcases List.mem_cons.mp hx with e | e
  · subst e
    refine ⟨rfl, fun s e => ?_⟩
    cases e
    cases st.1 <;> decide +kernel
  · rw [List.mem_singleton.mp e]
    exact ⟨rfl, fun s e => by cases e; exact hl⟩
theorem stD_step {st : Bool × Str} (h : okItem st.2 = true) : isStep (stD st) = true := by
  show (decide (actS st.1 ∈ [("push" : Str), "pop"]) && okItem st.2) = true
  rw [h, Bool.and_true]
  cases st.1 <;> decide +kernel
theorem Steps.odd {d : D} {sts : List (Bool × Str)} (h : Steps d sts) : OddS d := by
  have key : ∀ x ∈ sts.map stD, OddT x := fun x hx => by
    obtain ⟨st, hs, rfl⟩ := List.mem_map.mp hx
    exact stD_odd (h.ok st hs)
  have hn := h.n
  rcases h.d with rfl | rfl
  · exact ⟨rfl, (fun ns e => by cases e), fun xs e => by cases e; exact ⟨by rw [List.length_map]; omega, key⟩⟩
  · exact ⟨rfl, (fun ns e => by cases e), fun xs e => by cases e; exact ⟨by rw [List.length_map]; omega, key⟩⟩
theorem Steps.good {d : D} {sts : List (Bool × Str)} (h : Steps d sts) : badPart isStep d = none := by
  have hn := h.n
  have hi : items? d = some (sts.map stD) := by rcases h.d with rfl | rfl <;> rfl
  unfold badPart
  rw [hi]
  show (if 1000 < (sts.map stD).length then _ else _) = _
  rw [List.length_map, if_neg (by omega)]
  have : (sts.map stD).zipIdx.find? (fun p => !isStep p.1) = none := by
    refine List.find?_eq_none.mpr fun p hp => ?_
    obtain ⟨x, i⟩ := p
    obtain ⟨_, _, q3⟩ := List.mem_zipIdx hp
    have hx : x ∈ sts.map stD := by rw [q3]; exact List.getElem_mem _
    obtain ⟨st, hs, rfl⟩ := List.mem_map.mp hx
    simp [stD_step (h.ok st hs)]
  rw [this]; rfl
/-- a valid word -/
def Word (w : List Str) : Prop := w.length ≤ 5000 ∧ ∀ s ∈ w, okItem s = true
theorem okItem_len {s : Str} (h : okItem s = true) : s.length ≤ 8 := by
  unfold okItem at h
  simp only [Bool.and_eq_true, decide_eq_true_eq] at h
  exact h.1.2
theorem Word.odd {w : List Str} (h : Word w) : OddT (wD w) := by
  refine ⟨⟨rfl, fun s e => by cases e⟩, fun xs e => ?_⟩
  cases e
  have := h.1
  refine ⟨by rw [List.length_map]; omega, fun x hx => ?_⟩
  obtain ⟨s, hs, rfl⟩ := List.mem_map.mp hx
  exact ⟨rfl, fun t e => by cases e; have := okItem_len (h.2 s hs); omega⟩
theorem Word.good {w : List Str} (h : Word w) : isWord (wD w) = true := by
  show (w.map D.str).all isItem = true
  rw [List.all_map]
  exact List.all_eq_true.mpr h.2

abbrev st__law_steps : Stmt := PySem.Challenge.pw_stackeffect_k01_items_words_sequences.main.body.getD 20 (.Pass ⟨0, 0, 0, 0⟩)
abbrev N__law_steps : List Str := ["_law_pool_here", "_law_items_here", "_law_many", "_law_found", "_law_held", "_law_turn", "_law_way", "_law_item"]
theorem sc__law_steps : FnScope N__law_steps ["_law_pool_here", "_law_items_here", "_law_many"] (defScope st__law_steps) := ⟨rfl, rfl, rfl, by decide +kernel, rfl, by decide +kernel, by decide +kernel⟩
def x__law_steps (G : Gb) : XS :=
 (xSeq (xPar 3 4 (xMConsN (xLst xNil) (xMConsN (xLst xNil) xMNil)))
 (xSeq (xFor (xRng1 (xCons (xVar 2) xNil)) (xName 5) [2, 5, 6, 7]
 (xSeq (xAsg (xCall (F__law_take G) (xCons (xVar 0) (xCons (xInt 8) xNil))) (xName 6))
 (xSeq (xAsg (xOp oIx (xVar 1) (xCall (F__law_take G) (xCons (xVar 0) (xCons (xCB cLen (xCons (xVar 1) xNil)) xNil)))) (xName 7))
 (xIfS (xAnd (xTest (xOp oLt (xVar 6) (xInt 3))) (xTest (xOp oNe (xVar 4) (xDat (xLst xNil)))))
 (xSeq (xAsg (xPop 4) (xName 7))
 (xDrop (xAppend 3 (xTup (xCons (xStr "pop") (xCons (xVar 7) xNil))))))
 (xIfS (xOr (xTest (xOp oEq (xVar 6) (xInt 3))) (xAnd (xTest (xOp oEq (xVar 6) (xInt 4))) (xTest (xOp oEq (xVar 4) (xDat (xLst xNil))))))
 (xSeq (xDrop (xAppend 3 (xTup (xCons (xStr "pop") (xCons (xVar 7) xNil)))))
 (xAsgIfN (xTest (xOp oEq (xDat (xSlN (xVar 4) (xOSome (xUn uNeg (xInt 1))) xONone)) (xDat (xLst (xCons (xVar 7) xNil))))) (xSlN (xVar 4) xONone (xOSome (xUn uNeg (xInt 1)))) (xVar 4) 4))
 (xSeq (xDrop (xAppend 3 (xTup (xCons (xStr "push") (xCons (xVar 7) xNil)))))
 (xDrop (xAppend 4 (xVar 7)))))))))
 (xRet (xVar 3))))
def F__law_steps (G : Gb) : Fn := runDef 3 8 (x__law_steps G).ev
theorem ok__law_steps {G : Gb} {f : Addr} {fd : FuncData} (F : Def K mg "_law_steps" st__law_steps f fd) (b : Binds K fd ["_law_pool_here", "_law_items_here", "_law_many"] [])
    (n_range : mg "range" = none) (c__law_take : Cal false P w K mg base 1 "_law_take" (SpR K (gr (F__law_take G)))) (n_len : mg "len" = none) : Cal false P w K mg base 2 "_law_steps" (SpR K (gr (F__law_steps G))) := by
  refine ⟨f, fd, _, fx_body (b := x__law_steps G) F.fn sc__law_steps ?_, F.mgf, F.fn.kp, b⟩
  intro cdv A outer s H E hr hgd
  have nd := sc__law_steps.nd
  exact ⟨_, (pss_cons (ps_par (i := 3) (j := 4) rfl nd rfl rfl (by decide) rfl rfl (pa_cons (pe_lst pa_nil) (pa_cons (pe_lst pa_nil) pa_nil)) (by rfl))
 (pss_cons (ps_for (passes_of rfl) rfl (pi_range1 (by rfl) n_range (pa_cons (pv 2) pa_nil)) (pg_name (i := 5) nd rfl (by first | exact .inl rfl | exact .inr rfl))
 (pss_cons (ps_set (i := 6) nd rfl (by first | exact .inl rfl | exact .inr rfl) (k_call K rfl c__law_take hr (by first | decide | omega) (fun h => nomatch h) (by rfl) (takes_of rfl rfl rfl rfl) (pa_cons (pv 0) (pa_cons pe_int pa_nil))))
 (pss_cons (ps_set (i := 7) nd rfl (by first | exact .inl rfl | exact .inr rfl) (pe_ix (k_ix K rfl) (pv 1) (k_call K rfl c__law_take hr (by first | decide | omega) (fun h => nomatch h) (by rfl) (takes_of rfl rfl rfl rfl) (pa_cons (pv 0) (pa_cons (pe_callB (k_len K rfl) (by rfl) n_len (by decide +kernel) (pa_cons (pv 1) pa_nil)) pa_nil))) (fun _ _ => rfl)))
 (pss_one (ps_if (PW.pt (pw_and (pt_cmpR o_lt (pv 6) pe_int (nomark _)) (pw_and1 (pt_cmpR (o_neP K rfl (room64 hr)) (pv 4) (pe_lst pa_nil) (nomark _)))))
 (pss_cons (ps_set (i := 7) nd rfl (by first | exact .inl rfl | exact .inr rfl) (k_bm0 K rfl PySem.F.plainAttrs_list PySem.F.slot_list_pop PySem.F.type_list_pop mt_pop (pv 4)))
 (pss_one (ps_expr (k_bm K rfl PySem.F.plainAttrs_list PySem.F.slot_list_append PySem.F.type_list_append mt_append (pv 3) (pa_cons (pe_tup (pa_cons pe_str (pa_cons (pv 7) pa_nil))) pa_nil)))))
 (pss_one (ps_if (PW.pt (pw_or (pt_cmpR (o_eqP K rfl (room64 hr)) (pv 6) pe_int (nomark _)) (pw_or1 (PW.pt (pw_and (pt_cmpR (o_eqP K rfl (room64 hr)) (pv 6) pe_int (nomark _)) (pw_and1 (pt_cmpR (o_eqP K rfl (room64 hr)) (pv 4) (pe_lst pa_nil) (nomark _))))))))
 (pss_cons (ps_expr (k_bm K rfl PySem.F.plainAttrs_list PySem.F.slot_list_append PySem.F.type_list_append mt_append (pv 3) (pa_cons (pe_tup (pa_cons pe_str (pa_cons (pv 7) pa_nil))) pa_nil)))
 (pss_one (ps_set (i := 4) nd rfl (by first | exact .inl rfl | exact .inr rfl) (pe_ifExp (pt_cmpR (o_eqP K rfl (room64 hr)) (pe_slice (k_sl K rfl) (pv 4) (po_some (pe_un un_neg pe_int)) po_none) (pe_lst (pa_cons (pv 7) pa_nil)) (nomark _)) (pe_slice (k_sl K rfl) (pv 4) po_none (po_some (pe_un un_neg pe_int))) (pv 4)))))
 (pss_cons (ps_expr (k_bm K rfl PySem.F.plainAttrs_list PySem.F.slot_list_append PySem.F.type_list_append mt_append (pv 3) (pa_cons (pe_tup (pa_cons pe_str (pa_cons (pv 7) pa_nil))) pa_nil)))
 (pss_one (ps_expr (k_bm K rfl PySem.F.plainAttrs_list PySem.F.slot_list_append PySem.F.type_list_append mt_append (pv 4) (pa_cons (pv 7) pa_nil))))))))))))
 (pss_one (ps_ret (pv 3))))), rfl⟩
/-! ### words drawn -/
def wordS (its : List Str) (q : Pl) (_ : Nat) : Str × Pl := (its.getD (takeP its.length q).1 "", (takeP its.length q).2)
def wordP (its : List Str) (most : Nat) (p : Pl) : List Str × Pl := mapS (wordS its) (takeP (most + 1) p).2 (List.range (takeP (most + 1) p).1)
theorem its_at {its : List Str} {i : Nat} (h : i < its.length) : L2.atI (its.map D.str) (i : Int) = some (.str (its.getD i "")) := by
  rw [atN, List.getElem?_map, List.getElem?_eq_getElem h, List.getD_eq_getElem?_getD, List.getElem?_eq_getElem h]; rfl
theorem its_mem {its : List Str} {i : Nat} (h : i < its.length) : its.getD i "" ∈ its := by
  rw [List.getD_eq_getElem?_getD, List.getElem?_eq_getElem h]; exact List.getElem_mem h
theorem F_word (G : Gb) {its : List Str} (h1 : 0 < its.length) (h2 : its.length ≤ 1000) {most : Nat} (h3 : most ≤ 1000) (p : Pl) :
    F__law_word G [.cell 0, .d (.lst (its.map .str)), .d (.int most)] [poolC p] = some (.ret (.d (wD (wordP its most p).1)), [poolC (wordP its most p).2]) ∧ (∀ s ∈ (wordP its most p).1, s ∈ its) ∧ (wordP its most p).1.length ≤ most := by
  have hm := takeP_lt (n := most + 1) p (by omega)
  have hz1 : (0 : Int) < (most : Int) + 1 := by omega
  have hz2 : (most : Int) + 1 < 1000000 := by omega
  have ez : ((most : Int) + 1).toNat = most + 1 := by omega
  have key : ∀ (q : Pl) (s : Str), s ∈ (mapS (wordS its) q (List.range (takeP (most + 1) p).1)).1 → s ∈ its := fun q s hs =>
    mapS_mem (Pc := fun s => s ∈ its) (wordS its) (fun _ => True) trivial (fun b a _ _ => ⟨its_mem (takeP_lt b h1), trivial⟩) s hs
  refine ⟨?_, fun s hs => key _ s hs, by unfold wordP; rw [mapS_len, List.length_range]; omega⟩
  unfold F__law_word x__law_word
  walk_at "fxh"
  generalize hz : runLc _ _ _ _ _ _ = z
  obtain ⟨rfl, _⟩ := lc_mapSD (fun k => AV.d (nD k)) D.str (fun q => [poolC q]) (wordS its) (fun _ => True) (takeP (most + 1) p).2 hz rfl trivial fun b a ha _ => by
    have hb := takeP_lt (n := its.length) b h1
    have ha := its_at hb
    have e1 : (0 : Int) < (its.length : Int) := by omega
    have e2 : (its.length : Int) < 1000000 := by omega
    refine ⟨_, rfl, rfl, ?_, trivial⟩
    walk_at "fxh"
    rfl
  have hl : (takeP (most + 1) p).1 ≤ 100000 := by omega
  walk_at "fxh"
  rfl
theorem C_word (G : Gb) {its : List Str} (h1 : 0 < its.length) (h2 : its.length ≤ 1000) {most : Nat} (h3 : most ≤ 1000) (p : Pl) {μ : List CC} : callM (F__law_word G) [.cell 0, .d (.lst (its.map .str)), .d (.int most)] (poolC p :: μ) = some (.ret (.d (wD (wordP its most p).1)), poolC (wordP its most p).2 :: μ) :=
  callM_1 (k := 0) rfl rfl (by simp only [List.map_cons, List.map_nil, renum, List.idxOf_cons_self]; exact (F_word G h1 h2 h3 p).1) rfl rfl
/-! ### steps drawn -/
structure SB where
  found : List (Bool × Str)
  held : List Str
  g : Option (List Str)
  p : Pl
def stepsS (its : List Str) (b : SB) (_ : Nat) : SB :=
  if (takeP 8 b.p).1 < 3 ∧ b.held ≠ [] then ⟨b.found ++ [(false, b.held.getLastD "")], b.held.dropLast, b.g, (takeP its.length (takeP 8 b.p).2).2⟩
  else if (takeP 8 b.p).1 = 3 ∨ ((takeP 8 b.p).1 = 4 ∧ b.held = []) then
    (if b.held.drop (b.held.length - 1) = [its.getD (takeP its.length (takeP 8 b.p).2).1 ""] then ⟨b.found ++ [(false, its.getD (takeP its.length (takeP 8 b.p).2).1 "")], b.held.dropLast, some (b.g.getD b.held), (takeP its.length (takeP 8 b.p).2).2⟩
    else ⟨b.found ++ [(false, its.getD (takeP its.length (takeP 8 b.p).2).1 "")], b.held, b.g, (takeP its.length (takeP 8 b.p).2).2⟩)
  else ⟨b.found ++ [(true, its.getD (takeP its.length (takeP 8 b.p).2).1 "")], b.held ++ [its.getD (takeP its.length (takeP 8 b.p).2).1 ""], b.g, (takeP its.length (takeP 8 b.p).2).2⟩
def stepsP (its : List Str) (many : Nat) (p : Pl) : SB := (List.range many).foldl (stepsS its) ⟨[], [], none, p⟩
abbrev stL (xs : List (Bool × Str)) : CC := .lst ((xs.map stD).map AV.d)
def stepsM (b : SB) : List CC := match b.g with
  | none => [poolC b.p, stL b.found, sL b.held]
  | some c => [poolC b.p, stL b.found, sL c, sL b.held]
def heldK (b : SB) : Nat := match b.g with
  | none => 2
  | some _ => 3
theorem stD_f (x : Str) : D.tup [.str "pop", .str x] = stD (false, x) := rfl
theorem stD_t (x : Str) : D.tup [.str "push", .str x] = stD (true, x) := rfl
theorem stL_app (xs : List (Bool × Str)) (st : Bool × Str) : CC.lst ((xs.map stD).map AV.d ++ [.d (stD st)]) = stL (xs ++ [st]) := by
  show _ = CC.lst _
  rw [List.map_append, List.map_append]; rfl
theorem sL_app (xs : List Str) (s : Str) : CC.lst ((xs.map D.str).map AV.d ++ [.d (.str s)]) = sL (xs ++ [s]) := by
  show _ = CC.lst _
  rw [List.map_append, List.map_append]; rfl
theorem F_steps (G : Gb) {its : List Str} (h1 : 0 < its.length) (h2 : its.length ≤ 1000) {many : Nat} (h3 : many ≤ 1000) (p : Pl) :
    F__law_steps G [.cell 0, .d (.lst (its.map .str)), .d (.int many)] [poolC p] = some (.new ((stepsP its many p).found.map stD), [poolC (stepsP its many p).p]) ∧ (stepsP its many p).found.length = many ∧ ∀ st ∈ (stepsP its many p).found, st.2 ∈ its := by
  have e1 : (0 : Int) < (its.length : Int) := by omega
  have e2 : (its.length : Int) < 1000000 := by omega
  unfold F__law_steps x__law_steps
  walk_at "fxh"
  generalize hz : runFor _ _ _ _ _ _ _ = z
  obtain ⟨rfl, hP1, hP2, hP3, hP4⟩ := for_fold (fun k => AV.d (nD k)) (fun b : SB => [some (.cell 0), some (.d (.lst (its.map .str))), none, some (.cell 1), some (.cell (heldK b)), none, none, none]) stepsM (stepsS its)
    (fun i b => b.found.length = i ∧ b.held.length ≤ i ∧ (∀ st ∈ b.found, st.2 ∈ its) ∧ (∀ s ∈ b.held, s ∈ its)) ⟨[], [], none, p⟩ hz rfl rfl (fun _ => rfl) ⟨rfl, Nat.le_refl _, fun _ h => (nomatch h), fun _ h => (nomatch h)⟩ (fun i b a ha ⟨q1, q2, q3, q4⟩ => by
      obtain ⟨found, held, g, p⟩ := b
      have hi := (List.getElem?_eq_some_iff.mp ha).1
      rw [List.length_range] at hi
      dsimp only at q1 q2 q3 q4
      have hb := takeP_lt (n := its.length) (takeP 8 p).2 h1
      have hat := its_at hb
      have hmem := its_mem hb
      have hfl : found.length ≤ 100000 := by omega
      have hhl : held.length ≤ 100000 := by omega
      unfold stepsS
      dsimp only
      generalize its.getD (takeP its.length (takeP 8 p).2).1 "" = x at hat hmem
      have hwy := takeP_lt (n := 8) p (by decide)
      generalize hp2 : (takeP its.length (takeP 8 p).2).2 = p2
      generalize hway : (takeP 8 p).1 = way at hwy
      by_cases hw : way < 3
      · by_cases hh : held = []
        · rw [if_neg (fun q => q.2 hh), if_neg (by omega)]
          have i1 : (way : Int) < 3 := by omega
          have i2 : ¬ (way : Int) = 3 := by omega
          have i3 : ¬ (way : Int) = 4 := by omega
          subst hh
          cases g with
          | none =>
            refine ⟨_, rfl, turn_nx (ρ2 := ?r1) (μ2 := ?m1) ?h1 ?h2 ?h3 ?h4⟩
            case h1 => simp only [stepsM, heldK]; walk_at "fxh"; exact rfl
            case h2 => exact rfl
            case h3 => simp only [stepsM]; rw [← stL_app]; rw [← sL_app]; rfl
            case h4 => exact ⟨by simp [q1], by simp <;> omega, fun st hs => by rcases List.mem_append.mp hs with q | q; exact q3 st q; rw [List.mem_singleton.mp q]; exact hmem, fun s hs => by rcases List.mem_append.mp hs with q | q; exact q4 s q; rw [List.mem_singleton.mp q]; exact hmem⟩
          | some c =>
            refine ⟨_, rfl, turn_nx (ρ2 := ?r2) (μ2 := ?m2) ?h1 ?h2 ?h3 ?h4⟩
            case h1 => simp only [stepsM, heldK]; walk_at "fxh"; exact rfl
            case h2 => exact (gc_one (k := 3) rfl rfl (by walk_at "fx") (by walk_at "fx") (by show 3 < 4; decide)).2
            case h3 => refine (gc_one (k := 3) rfl rfl (by walk_at "fx") (by walk_at "fx") (by show 3 < 4; decide)).1.trans ?_; simp only [stepsM]; rw [← stL_app]; rw [← sL_app]; rfl
            case h4 => exact ⟨by simp [q1], by simp <;> omega, fun st hs => by rcases List.mem_append.mp hs with q | q; exact q3 st q; rw [List.mem_singleton.mp q]; exact hmem, fun s hs => by rcases List.mem_append.mp hs with q | q; exact q4 s q; rw [List.mem_singleton.mp q]; exact hmem⟩
        · rw [if_pos ⟨hw, hh⟩]
          have i1 : (way : Int) < 3 := by omega
          have i2 : ¬ (way : Int) = 3 := by omega
          have i3 : ¬ (way : Int) = 4 := by omega
          have hlast : ((held.map D.str).map AV.d)[held.length - 1]? = some (.d (.str (held.getLastD ""))) := by
            rw [List.getElem?_map, List.getElem?_map, ← List.getLast?_eq_getElem?, List.getLast?_eq_some_getLast hh, List.getLastD_eq_getLast?, List.getLast?_eq_some_getLast hh]; rfl
          have hlm : held.getLastD "" ∈ its := by
            rw [List.getLastD_eq_getLast?, List.getLast?_eq_some_getLast hh]; exact q4 _ (List.getLast_mem hh)
          cases g with
          | none =>
            refine ⟨_, rfl, turn_nx (ρ2 := ?r3) (μ2 := ?m3) ?h1 ?h2 ?h3 ?h4⟩
            case h1 => simp only [stepsM, heldK]; walk_at "fxh"; exact rfl
            case h2 => exact rfl
            case h3 => simp only [stepsM]; rw [← stL_app]; rfl
            case h4 => exact ⟨by simp [q1], by simp <;> omega, fun st hs => by rcases List.mem_append.mp hs with q | q; exact q3 st q; rw [List.mem_singleton.mp q]; exact hlm, fun s hs => q4 s ((List.dropLast_sublist _).mem hs)⟩
          | some c =>
            refine ⟨_, rfl, turn_nx (ρ2 := ?r4) (μ2 := ?m4) ?h1 ?h2 ?h3 ?h4⟩
            case h1 => simp only [stepsM, heldK]; walk_at "fxh"; exact rfl
            case h2 => exact (gc_one (k := 3) rfl rfl (by walk_at "fx") (by walk_at "fx") (by show 3 < 4; decide)).2
            case h3 => refine (gc_one (k := 3) rfl rfl (by walk_at "fx") (by walk_at "fx") (by show 3 < 4; decide)).1.trans ?_; simp only [stepsM]; rw [← stL_app]; rfl
            case h4 => exact ⟨by simp [q1], by simp <;> omega, fun st hs => by rcases List.mem_append.mp hs with q | q; exact q3 st q; rw [List.mem_singleton.mp q]; exact hlm, fun s hs => q4 s ((List.dropLast_sublist _).mem hs)⟩
      · rw [if_neg (fun q => hw q.1)]
        by_cases h3 : way = 3
        · rw [if_pos (Or.inl h3)]
          have i1 : ¬ (way : Int) < 3 := by omega
          have i2 : (way : Int) = 3 := by omega
          have i3 : ¬ (way : Int) = 4 := by omega
          by_cases hd : held.drop (held.length - 1) = [x]
          · rw [if_pos hd]
            cases g with
            | none =>
              refine ⟨_, rfl, turn_nx (ρ2 := ?r5) (μ2 := ?m5) ?h1 ?h2 ?h3 ?h4⟩
              case h1 => simp only [stepsM, heldK]; walk_at "fxh"; exact rfl
              case h2 => exact (gc_one (k := 3) rfl rfl (by walk_at "fx") (by walk_at "fx") (by show 3 < 4; decide)).2
              case h3 => refine (gc_one (k := 3) rfl rfl (by walk_at "fx") (by walk_at "fx") (by show 3 < 4; decide)).1.trans ?_; simp only [stepsM]; rw [← stL_app]; rfl
              case h4 => exact ⟨by simp [q1], by simp <;> omega, fun st hs => by rcases List.mem_append.mp hs with q | q; exact q3 st q; rw [List.mem_singleton.mp q]; exact hmem, fun s hs => q4 s ((List.dropLast_sublist _).mem hs)⟩
            | some c =>
              refine ⟨_, rfl, turn_nx (ρ2 := ?r6) (μ2 := ?m6) ?h1 ?h2 ?h3 ?h4⟩
              case h1 => simp only [stepsM, heldK]; walk_at "fxh"; exact rfl
              case h2 => exact (gc_one (k := 4) rfl rfl (by walk_at "fx") (by walk_at "fx") (by show 3 < 5; decide)).2
              case h3 => refine (gc_one (k := 4) rfl rfl (by walk_at "fx") (by walk_at "fx") (by show 3 < 5; decide)).1.trans ?_; simp only [stepsM]; rw [← stL_app]; rfl
              case h4 => exact ⟨by simp [q1], by simp <;> omega, fun st hs => by rcases List.mem_append.mp hs with q | q; exact q3 st q; rw [List.mem_singleton.mp q]; exact hmem, fun s hs => q4 s ((List.dropLast_sublist _).mem hs)⟩
          · rw [if_neg hd]
            cases g with
            | none =>
              refine ⟨_, rfl, turn_nx (ρ2 := ?r7) (μ2 := ?m7) ?h1 ?h2 ?h3 ?h4⟩
              case h1 => simp only [stepsM, heldK]; walk_at "fxh"; exact rfl
              case h2 => exact rfl
              case h3 => simp only [stepsM]; rw [← stL_app]; rfl
              case h4 => exact ⟨by simp [q1], by dsimp only; omega, fun st hs => by rcases List.mem_append.mp hs with q | q; exact q3 st q; rw [List.mem_singleton.mp q]; exact hmem, q4⟩
            | some c =>
              refine ⟨_, rfl, turn_nx (ρ2 := ?r8) (μ2 := ?m8) ?h1 ?h2 ?h3 ?h4⟩
              case h1 => simp only [stepsM, heldK]; walk_at "fxh"; exact rfl
              case h2 => exact (gc_one (k := 3) rfl rfl (by walk_at "fx") (by walk_at "fx") (by show 3 < 4; decide)).2
              case h3 => refine (gc_one (k := 3) rfl rfl (by walk_at "fx") (by walk_at "fx") (by show 3 < 4; decide)).1.trans ?_; simp only [stepsM]; rw [← stL_app]; rfl
              case h4 => exact ⟨by simp [q1], by dsimp only; omega, fun st hs => by rcases List.mem_append.mp hs with q | q; exact q3 st q; rw [List.mem_singleton.mp q]; exact hmem, q4⟩
        · by_cases h4 : way = 4
          · by_cases hh : held = []
            · rw [if_pos (Or.inr ⟨h4, hh⟩)]
              have i1 : ¬ (way : Int) < 3 := by omega
              have i2 : ¬ (way : Int) = 3 := by omega
              have i3 : (way : Int) = 4 := by omega
              subst hh
              have hd : ¬ (([] : List Str).drop (([] : List Str).length - 1) = [x]) := by simp
              have hd2 : ¬ (([] : List Str) = [x]) := by simp
              rw [if_neg hd]
              cases g with
              | none =>
                refine ⟨_, rfl, turn_nx (ρ2 := ?r9) (μ2 := ?m9) ?h1 ?h2 ?h3 ?h4⟩
                case h1 => simp only [stepsM, heldK]; walk_at "fxh"; exact rfl
                case h2 => exact rfl
                case h3 => simp only [stepsM]; rw [← stL_app]; rfl
                case h4 => exact ⟨by simp [q1], by dsimp only; omega, fun st hs => by rcases List.mem_append.mp hs with q | q; exact q3 st q; rw [List.mem_singleton.mp q]; exact hmem, q4⟩
              | some c =>
                refine ⟨_, rfl, turn_nx (ρ2 := ?r10) (μ2 := ?m10) ?h1 ?h2 ?h3 ?h4⟩
                case h1 => simp only [stepsM, heldK]; walk_at "fxh"; exact rfl
                case h2 => exact (gc_one (k := 3) rfl rfl (by walk_at "fx") (by walk_at "fx") (by show 3 < 4; decide)).2
                case h3 => refine (gc_one (k := 3) rfl rfl (by walk_at "fx") (by walk_at "fx") (by show 3 < 4; decide)).1.trans ?_; simp only [stepsM]; rw [← stL_app]; rfl
                case h4 => exact ⟨by simp [q1], by dsimp only; omega, fun st hs => by rcases List.mem_append.mp hs with q | q; exact q3 st q; rw [List.mem_singleton.mp q]; exact hmem, q4⟩
            · rw [if_neg (by intro q; rcases q with q | q; exact h3 q; exact hh q.2)]
              have i1 : ¬ (way : Int) < 3 := by omega
              have i2 : ¬ (way : Int) = 3 := by omega
              have i3 : (way : Int) = 4 := by omega
              cases g with
              | none =>
                refine ⟨_, rfl, turn_nx (ρ2 := ?r11) (μ2 := ?m11) ?h1 ?h2 ?h3 ?h4⟩
                case h1 => simp only [stepsM, heldK]; walk_at "fxh"; exact rfl
                case h2 => exact rfl
                case h3 => simp only [stepsM]; rw [← stL_app]; rw [← sL_app]; rfl
                case h4 => exact ⟨by simp [q1], by simp <;> omega, fun st hs => by rcases List.mem_append.mp hs with q | q; exact q3 st q; rw [List.mem_singleton.mp q]; exact hmem, fun s hs => by rcases List.mem_append.mp hs with q | q; exact q4 s q; rw [List.mem_singleton.mp q]; exact hmem⟩
              | some c =>
                refine ⟨_, rfl, turn_nx (ρ2 := ?r12) (μ2 := ?m12) ?h1 ?h2 ?h3 ?h4⟩
                case h1 => simp only [stepsM, heldK]; walk_at "fxh"; exact rfl
                case h2 => exact (gc_one (k := 3) rfl rfl (by walk_at "fx") (by walk_at "fx") (by show 3 < 4; decide)).2
                case h3 => refine (gc_one (k := 3) rfl rfl (by walk_at "fx") (by walk_at "fx") (by show 3 < 4; decide)).1.trans ?_; simp only [stepsM]; rw [← stL_app]; rw [← sL_app]; rfl
                case h4 => exact ⟨by simp [q1], by simp <;> omega, fun st hs => by rcases List.mem_append.mp hs with q | q; exact q3 st q; rw [List.mem_singleton.mp q]; exact hmem, fun s hs => by rcases List.mem_append.mp hs with q | q; exact q4 s q; rw [List.mem_singleton.mp q]; exact hmem⟩
          · rw [if_neg (by intro q; rcases q with q | q; exact h3 q; exact h4 q.1)]
            have i1 : ¬ (way : Int) < 3 := by omega
            have i2 : ¬ (way : Int) = 3 := by omega
            have i3 : ¬ (way : Int) = 4 := by omega
            cases g with
            | none =>
              refine ⟨_, rfl, turn_nx (ρ2 := ?r13) (μ2 := ?m13) ?h1 ?h2 ?h3 ?h4⟩
              case h1 => simp only [stepsM, heldK]; walk_at "fxh"; exact rfl
              case h2 => exact rfl
              case h3 => simp only [stepsM]; rw [← stL_app]; rw [← sL_app]; rfl
              case h4 => exact ⟨by simp [q1], by simp <;> omega, fun st hs => by rcases List.mem_append.mp hs with q | q; exact q3 st q; rw [List.mem_singleton.mp q]; exact hmem, fun s hs => by rcases List.mem_append.mp hs with q | q; exact q4 s q; rw [List.mem_singleton.mp q]; exact hmem⟩
            | some c =>
              refine ⟨_, rfl, turn_nx (ρ2 := ?r14) (μ2 := ?m14) ?h1 ?h2 ?h3 ?h4⟩
              case h1 => simp only [stepsM, heldK]; walk_at "fxh"; exact rfl
              case h2 => exact (gc_one (k := 3) rfl rfl (by walk_at "fx") (by walk_at "fx") (by show 3 < 4; decide)).2
              case h3 => refine (gc_one (k := 3) rfl rfl (by walk_at "fx") (by walk_at "fx") (by show 3 < 4; decide)).1.trans ?_; simp only [stepsM]; rw [← stL_app]; rw [← sL_app]; rfl
              case h4 => exact ⟨by simp [q1], by simp <;> omega, fun st hs => by rcases List.mem_append.mp hs with q | q; exact q3 st q; rw [List.mem_singleton.mp q]; exact hmem, fun s hs => by rcases List.mem_append.mp hs with q | q; exact q4 s q; rw [List.mem_singleton.mp q]; exact hmem⟩)
  rw [List.length_range] at hP1
  walk_at "fx"
  refine ⟨?_, hP1, hP3⟩
  unfold stepsP
  generalize (List.range many).foldl (stepsS its) ⟨[], [], none, p⟩ = b
  obtain ⟨f, h, g, q⟩ := b
  cases g <;> (simp only [stepsM]; walk_at "fx")
theorem C_steps (G : Gb) {its : List Str} (h1 : 0 < its.length) (h2 : its.length ≤ 1000) {many : Nat} (h3 : many ≤ 1000) (p : Pl) {μ : List CC} : callM (F__law_steps G) [.cell 0, .d (.lst (its.map .str)), .d (.int many)] (poolC p :: μ) = some (.new ((stepsP its many p).found.map stD), poolC (stepsP its many p).p :: μ) :=
  callM_1 (k := 0) rfl rfl (by simp only [List.map_cons, List.map_nil, renum, List.idxOf_cons_self]; exact (F_steps G h1 h2 h3 p).1) rfl rfl

abbrev st_is_sequence : Stmt := PySem.Challenge.pw_stackeffect_k01_items_words_sequences.main.body.getD 14 (.Pass ⟨0, 0, 0, 0⟩)
abbrev N_is_sequence : List Str := ["value"]
theorem sc_is_sequence : FnScope N_is_sequence ["value"] (defScope st_is_sequence) := ⟨rfl, rfl, rfl, by decide +kernel, rfl, by decide +kernel, by decide +kernel⟩
def x_is_sequence (G : Gb) : XS :=
 (xSeq (xTry G (G.at_ "InvalidSteps") (xDrop (xCall (F_check_steps G) (xCons (xVar 0) xNil))) (xRet (xBl false)))
 (xRet (xBl true)))
def F_is_sequence (G : Gb) : Fn := runDef 1 1 (x_is_sequence G).ev
theorem ok_is_sequence {G : Gb} {f : Addr} {fd : FuncData} (F : Def K mg "is_sequence" st_is_sequence f fd) (b : Binds K fd ["value"] [])
    (hG : G.Ok K) (v_InvalidSteps : mg "InvalidSteps" = some (.ref (G.at_ "InvalidSteps"))) (c_check_steps : Cal false P w K mg base 5 "check_steps" (SpR K (gr (F_check_steps G)))) : Cal false P w K mg base 6 "is_sequence" (SpR K (gr (F_is_sequence G))) := by
  refine ⟨f, fd, _, fx_body (b := x_is_sequence G) F.fn sc_is_sequence ?_, F.mgf, F.fn.kp, b⟩
  intro cdv A outer s H E hr hgd
  have nd := sc_is_sequence.nd
  exact ⟨_, (pss_cons (PS.ask hG (ps_try_only rfl rfl ⟨by rfl, by decide, .inl v_InvalidSteps⟩ (takes_of rfl rfl rfl rfl) (fun W pn xe tk po => (pss_one (ps_expr (k_call K rfl c_check_steps hr (by first | decide | omega) (fun h => nomatch h) (by rfl) tk (pa_cons (pv 0) pa_nil)))))
 (fun a oe cls d pn hz hf => (pss_one (ps_ret pe_bl)))))
 (pss_one (ps_ret pe_bl))), rfl⟩
abbrev st__law_odd : Stmt := PySem.Challenge.pw_stackeffect_k01_items_words_sequences.main.body.getD 22 (.Pass ⟨0, 0, 0, 0⟩)
abbrev N__law_odd : List Str := ["_law_pool_here", "_law_item", "_law_some"]
theorem sc__law_odd : FnScope N__law_odd ["_law_pool_here", "_law_item"] (defScope st__law_odd) := ⟨rfl, rfl, rfl, by decide +kernel, rfl, by decide +kernel, by decide +kernel⟩
def x__law_odd (G : Gb) : XS :=
 (xSeq (xAsg (xDat (xLst (xCons xNon (xCons (xBl true) (xCons (xInt 0) (xCons (xStr "") (xCons (xStr "A") (xCons (xStr "a1") (xCons (xStr "a b") (xCons (xStr "abcdefghi") (xCons (xTup (xCons (xVar 1) xNil)) (xCons (xDat (xLst (xCons (xVar 1) xNil))) (xCons xDct0 (xCons (xOp oAdd (xVar 1) (xStr "abcdefgh")) (xCons (xStr "a\n") (xCons (xStr "`") (xCons (xStr "{a") xNil))))))))))))))))) (xName 2))
 (xRet (xOp oIx (xVar 2) (xCall (F__law_take G) (xCons (xVar 0) (xCons (xCB cLen (xCons (xVar 2) xNil)) xNil))))))
def F__law_odd (G : Gb) : Fn := runDef 2 3 (x__law_odd G).ev
theorem ok__law_odd {G : Gb} {f : Addr} {fd : FuncData} (F : Def K mg "_law_odd" st__law_odd f fd) (b : Binds K fd ["_law_pool_here", "_law_item"] [])
    (c__law_take : Cal false P w K mg base 1 "_law_take" (SpR K (gr (F__law_take G)))) (n_len : mg "len" = none) : Cal false P w K mg base 2 "_law_odd" (SpR K (gr (F__law_odd G))) := by
  refine ⟨f, fd, _, fx_body (b := x__law_odd G) F.fn sc__law_odd ?_, F.mgf, F.fn.kp, b⟩
  intro cdv A outer s H E hr hgd
  have nd := sc__law_odd.nd
  exact ⟨_, (pss_cons (ps_set (i := 2) nd rfl (by first | exact .inl rfl | exact .inr rfl) (pe_lst (pa_cons pe_non (pa_cons pe_bl (pa_cons pe_int (pa_cons pe_str (pa_cons pe_str (pa_cons pe_str (pa_cons pe_str (pa_cons pe_str (pa_cons (pe_tup (pa_cons (pv 1) pa_nil)) (pa_cons (pe_lst (pa_cons (pv 1) pa_nil)) (pa_cons pe_dnewK (pa_cons (pe_op (k_add K rfl) (pv 1) pe_str) (pa_cons pe_str (pa_cons pe_str (pa_cons pe_str pa_nil)))))))))))))))))
 (pss_one (ps_ret (pe_ix (k_ix K rfl) (pv 2) (k_call K rfl c__law_take hr (by first | decide | omega) (fun h => nomatch h) (by rfl) (takes_of rfl rfl rfl rfl) (pa_cons (pv 0) (pa_cons (pe_callB (k_len K rfl) (by rfl) n_len (by decide +kernel) (pa_cons (pv 2) pa_nil)) pa_nil))) (fun _ _ => rfl))))), rfl⟩
abbrev st__law_is_item : Stmt := PySem.Challenge.pw_stackeffect_k01_items_words_sequences.main.body.getD 23 (.Pass ⟨0, 0, 0, 0⟩)
abbrev N__law_is_item : List Str := ["_law_what", "_law_sign"]
theorem sc__law_is_item : FnScope N__law_is_item ["_law_what"] (defScope st__law_is_item) := ⟨rfl, rfl, rfl, by decide +kernel, rfl, by decide +kernel, by decide +kernel⟩
def x__law_is_item (G : Gb) : XS :=
 (xSeq (xIfS (xOr (xNot (xB (xCB cIsi (xCons (xVar 0) (xCons (xRaw (.ty "str")) xNil))))) (xNot (xTest (xChain oLe oLe (xInt 1) (xCB cLen (xCons (xVar 0) xNil)) (xInt 8)))))
 (xRet (xBl false))
 xNext)
 (xRet (xOp oEqV (xDat (xLc (xEach (xVar 0)) (xName 1) (xNot (xTest (xChain oLeS oLeS (xStr "a") (xVar 1) (xStr "z")))) (xVar 1) [1] (by decide))) (xDat (xLst xNil)))))
def F__law_is_item (G : Gb) : Fn := runDef 1 2 (x__law_is_item G).ev
theorem ok__law_is_item {G : Gb} {f : Addr} {fd : FuncData} (F : Def K mg "_law_is_item" st__law_is_item f fd) (b : Binds K fd ["_law_what"] [])
    (n_len : mg "len" = none) (n_isinstance : mg "isinstance" = none) (n_str : mg "str" = none) : Cal false P w K mg base 1 "_law_is_item" (SpR K (gr (F__law_is_item G))) := by
  refine ⟨f, fd, _, fx_body (b := x__law_is_item G) F.fn sc__law_is_item ?_, F.mgf, F.fn.kp, b⟩
  intro cdv A outer s H E hr hgd
  have nd := sc__law_is_item.nd
  exact ⟨_, (pss_cons (ps_if (PW.pt (pw_or (pt_not (pt_val (pe_callB (k_isi K rfl) (by rfl) n_isinstance (by decide +kernel) (pa_cons (pv 0) (pa_cons (k_ty (n := "str") (by rfl) n_str (by decide +kernel)) pa_nil))))) (pw_or1 (pt_not (pt_chain o_le o_le pe_int (pe_callB (k_len K rfl) (by rfl) n_len (by decide +kernel) (pa_cons (pv 0) pa_nil)) pe_int)))))
 (pss_one (ps_ret pe_bl))
 pss_nil)
 (pss_one (ps_ret (pe_cmpR (k_eqV K rfl (room64 hr)) (pe_lc (own := [("_law_sign", 1)]) rfl nd (k_pany K rfl (pv 0)) (blkOk_by (N := N__law_is_item) (sc := defScope st__law_is_item) (by decide +kernel)) (fun _ _ _ _ _ => (pg_name (i := 1) nd rfl (by first | exact .inl rfl | exact .inr rfl))) (fun _ _ _ _ _ => (pts_one (pt_not (pt_chain op_le_str op_le_str pe_str (pv 1) pe_str)))) (fun _ _ _ _ _ => (pv 1))) (pe_lst pa_nil) (nomark _))))), rfl⟩
abbrev st__law_is_word : Stmt := PySem.Challenge.pw_stackeffect_k01_items_words_sequences.main.body.getD 24 (.Pass ⟨0, 0, 0, 0⟩)
abbrev N__law_is_word : List Str := ["_law_what", "_law_item"]
theorem sc__law_is_word : FnScope N__law_is_word ["_law_what"] (defScope st__law_is_word) := ⟨rfl, rfl, rfl, by decide +kernel, rfl, by decide +kernel, by decide +kernel⟩
def x__law_is_word (G : Gb) : XS :=
 (xRet (xAndV (xCB cIsi (xCons (xVar 0) (xCons (xRaw (.ty "tuple")) xNil))) (xOp oEqV (xDat (xLc (xEach (xVar 0)) (xName 1) (xNot (xB (xCall (F__law_is_item G) (xCons (xVar 1) xNil)))) (xVar 1) [1] (by decide))) (xDat (xLst xNil)))))
def F__law_is_word (G : Gb) : Fn := runDef 1 2 (x__law_is_word G).ev
theorem ok__law_is_word {G : Gb} {f : Addr} {fd : FuncData} (F : Def K mg "_law_is_word" st__law_is_word f fd) (b : Binds K fd ["_law_what"] [])
    (c__law_is_item : Cal false P w K mg base 1 "_law_is_item" (SpR K (gr (F__law_is_item G)))) (n_isinstance : mg "isinstance" = none) (n_tuple : mg "tuple" = none) : Cal false P w K mg base 2 "_law_is_word" (SpR K (gr (F__law_is_word G))) := by
  refine ⟨f, fd, _, fx_body (b := x__law_is_word G) F.fn sc__law_is_word ?_, F.mgf, F.fn.kp, b⟩
  intro cdv A outer s H E hr hgd
  have nd := sc__law_is_word.nd
  exact ⟨_, (pss_one (ps_ret (pe_and (pe_callB (k_isi K rfl) (by rfl) n_isinstance (by decide +kernel) (pa_cons (pv 0) (pa_cons (k_ty (n := "tuple") (by rfl) n_tuple (by decide +kernel)) pa_nil))) (pe_one (pe_cmpR (k_eqV K rfl (room64 hr)) (pe_lc (own := [("_law_item", 1)]) rfl nd (k_pany K rfl (pv 0)) (blkOk_by (N := N__law_is_word) (sc := defScope st__law_is_word) (by decide +kernel)) (fun _ _ _ _ _ => (pg_name (i := 1) nd rfl (by first | exact .inl rfl | exact .inr rfl))) (fun _ _ _ _ _ => (pts_one (pt_not (pt_val (k_call K rfl c__law_is_item hr (by first | decide | omega) (fun h => nomatch h) (by rfl) takes0 (pa_cons (pv 1) pa_nil)))))) (fun _ _ _ _ _ => (pv 1))) (pe_lst pa_nil) (nomark _)))))), rfl⟩
abbrev st__law_is_step : Stmt := PySem.Challenge.pw_stackeffect_k01_items_words_sequences.main.body.getD 25 (.Pass ⟨0, 0, 0, 0⟩)
abbrev N__law_is_step : List Str := ["_law_what"]
theorem sc__law_is_step : FnScope N__law_is_step ["_law_what"] (defScope st__law_is_step) := ⟨rfl, rfl, rfl, by decide +kernel, rfl, by decide +kernel, by decide +kernel⟩
def x__law_is_step (G : Gb) : XS :=
 (xSeq (xIfS (xOr (xNot (xB (xCB cIsi (xCons (xVar 0) (xCons (xRaw (.ty "tuple")) xNil))))) (xTest (xOp oNe (xCB cLen (xCons (xVar 0) xNil)) (xInt 2))))
 (xRet (xBl false))
 xNext)
 (xRet (xAndV (xOp oInV (xOp oIx (xVar 0) (xInt 0)) (xDat (xLst (xCons (xStr "push") (xCons (xStr "pop") xNil))))) (xCall (F__law_is_item G) (xCons (xOp oIx (xVar 0) (xInt 1)) xNil)))))
def F__law_is_step (G : Gb) : Fn := runDef 1 1 (x__law_is_step G).ev
theorem ok__law_is_step {G : Gb} {f : Addr} {fd : FuncData} (F : Def K mg "_law_is_step" st__law_is_step f fd) (b : Binds K fd ["_law_what"] [])
    (c__law_is_item : Cal false P w K mg base 1 "_law_is_item" (SpR K (gr (F__law_is_item G)))) (n_len : mg "len" = none) (n_isinstance : mg "isinstance" = none) (n_tuple : mg "tuple" = none) : Cal false P w K mg base 2 "_law_is_step" (SpR K (gr (F__law_is_step G))) := by
  refine ⟨f, fd, _, fx_body (b := x__law_is_step G) F.fn sc__law_is_step ?_, F.mgf, F.fn.kp, b⟩
  intro cdv A outer s H E hr hgd
  have nd := sc__law_is_step.nd
  exact ⟨_, (pss_cons (ps_if (PW.pt (pw_or (pt_not (pt_val (pe_callB (k_isi K rfl) (by rfl) n_isinstance (by decide +kernel) (pa_cons (pv 0) (pa_cons (k_ty (n := "tuple") (by rfl) n_tuple (by decide +kernel)) pa_nil))))) (pw_or1 (pt_cmpR (o_neP K rfl (room64 hr)) (pe_callB (k_len K rfl) (by rfl) n_len (by decide +kernel) (pa_cons (pv 0) pa_nil)) pe_int (nomark _)))))
 (pss_one (ps_ret pe_bl))
 pss_nil)
 (pss_one (ps_ret (pe_and (pe_cmpR (k_inV K rfl (room64 hr)) (pe_ix (k_ix K rfl) (pv 0) pe_int (fun _ _ => rfl)) (pe_lst (pa_cons pe_str (pa_cons pe_str pa_nil))) (by with_unfolding_all rfl)) (pe_one (k_call K rfl c__law_is_item hr (by first | decide | omega) (fun h => nomatch h) (by rfl) (takes_of rfl rfl rfl rfl) (pa_cons (pe_ix (k_ix K rfl) (pv 0) pe_int (fun _ _ => rfl)) pa_nil))))))), rfl⟩
abbrev st__law_is_sequence : Stmt := PySem.Challenge.pw_stackeffect_k01_items_words_sequences.main.body.getD 26 (.Pass ⟨0, 0, 0, 0⟩)
abbrev N__law_is_sequence : List Str := ["_law_what", "_law_step"]
theorem sc__law_is_sequence : FnScope N__law_is_sequence ["_law_what"] (defScope st__law_is_sequence) := ⟨rfl, rfl, rfl, by decide +kernel, rfl, by decide +kernel, by decide +kernel⟩
def x__law_is_sequence (G : Gb) : XS :=
 (xSeq (xIfS (xOr (xNot (xB (xCB cIsSeq (xCons (xVar 0) (xCons (xTup (xCons (xRaw (.ty "list")) (xCons (xRaw (.ty "tuple")) xNil))) xNil))))) (xTest (xOp oGt (xCB cLen (xCons (xVar 0) xNil)) (xInt 1000))))
 (xRet (xBl false))
 xNext)
 (xRet (xOp oEqV (xDat (xLc (xEach (xVar 0)) (xName 1) (xNot (xB (xCall (F__law_is_step G) (xCons (xVar 1) xNil)))) (xVar 1) [1] (by decide))) (xDat (xLst xNil)))))
def F__law_is_sequence (G : Gb) : Fn := runDef 1 2 (x__law_is_sequence G).ev
theorem ok__law_is_sequence {G : Gb} {f : Addr} {fd : FuncData} (F : Def K mg "_law_is_sequence" st__law_is_sequence f fd) (b : Binds K fd ["_law_what"] [])
    (c__law_is_step : Cal false P w K mg base 2 "_law_is_step" (SpR K (gr (F__law_is_step G)))) (n_len : mg "len" = none) (n_isinstance : mg "isinstance" = none) (n_list : mg "list" = none) (n_tuple : mg "tuple" = none) : Cal false P w K mg base 3 "_law_is_sequence" (SpR K (gr (F__law_is_sequence G))) := by
  refine ⟨f, fd, _, fx_body (b := x__law_is_sequence G) F.fn sc__law_is_sequence ?_, F.mgf, F.fn.kp, b⟩
  intro cdv A outer s H E hr hgd
  have nd := sc__law_is_sequence.nd
  exact ⟨_, (pss_cons (ps_if (PW.pt (pw_or (pt_not (pt_val (pe_callB (k_isiT K rfl) (by rfl) n_isinstance (by decide +kernel) (pa_cons (pv 0) (pa_cons (pe_tup (pa_cons (k_ty (n := "list") (by rfl) n_list (by decide +kernel)) (pa_cons (k_ty (n := "tuple") (by rfl) n_tuple (by decide +kernel)) pa_nil))) pa_nil))))) (pw_or1 (pt_cmpR o_gt (pe_callB (k_len K rfl) (by rfl) n_len (by decide +kernel) (pa_cons (pv 0) pa_nil)) pe_int (nomark _)))))
 (pss_one (ps_ret pe_bl))
 pss_nil)
 (pss_one (ps_ret (pe_cmpR (k_eqV K rfl (room64 hr)) (pe_lc (own := [("_law_step", 1)]) rfl nd (k_pany K rfl (pv 0)) (blkOk_by (N := N__law_is_sequence) (sc := defScope st__law_is_sequence) (by decide +kernel)) (fun _ _ _ _ _ => (pg_name (i := 1) nd rfl (by first | exact .inl rfl | exact .inr rfl))) (fun _ _ _ _ _ => (pts_one (pt_not (pt_val (k_call K rfl c__law_is_step hr (by first | decide | omega) (fun h => nomatch h) (by rfl) takes0 (pa_cons (pv 1) pa_nil)))))) (fun _ _ _ _ _ => (pv 1))) (pe_lst pa_nil) (nomark _))))), rfl⟩
abbrev st__law_right : Stmt := PySem.Challenge.pw_stackeffect_k01_items_words_sequences.main.body.getD 27 (.Pass ⟨0, 0, 0, 0⟩)
abbrev N__law_right : List Str := ["_law_what", "_law_kept", "_law_told"]
theorem sc__law_right : FnScope N__law_right ["_law_what"] (defScope st__law_right) := ⟨rfl, rfl, rfl, by decide +kernel, rfl, by decide +kernel, by decide +kernel⟩
def x__law_right (G : Gb) : XS :=
 (xSeq (xAsg (xCB cReprV (xCons (xVar 0) xNil)) (xName 1))
 (xSeq (xAsg (xDat (xLst (xCons (xCall (F_is_item G) (xCons (xVar 0) xNil)) (xCons (xCall (F_is_word G) (xCons (xVar 0) xNil)) (xCons (xCall (F_is_sequence G) (xCons (xVar 0) xNil)) xNil))))) (xName 2))
 (xRet (xAndV (xOp oEq (xCB cReprV (xCons (xVar 2) xNil)) (xCB cReprV (xCons (xDat (xLst (xCons (xCall (F__law_is_item G) (xCons (xVar 0) xNil)) (xCons (xCall (F__law_is_word G) (xCons (xVar 0) xNil)) (xCons (xCall (F__law_is_sequence G) (xCons (xVar 0) xNil)) xNil))))) xNil))) (xOp oEq (xCB cReprV (xCons (xVar 0) xNil)) (xVar 1))))))
def F__law_right (G : Gb) : Fn := runDef 1 3 (x__law_right G).ev
theorem ok__law_right {G : Gb} {f : Addr} {fd : FuncData} (F : Def K mg "_law_right" st__law_right f fd) (b : Binds K fd ["_law_what"] [])
    (n_repr : mg "repr" = none) (c__law_is_item : Cal false P w K mg base 1 "_law_is_item" (SpR K (gr (F__law_is_item G)))) (c__law_is_word : Cal false P w K mg base 2 "_law_is_word" (SpR K (gr (F__law_is_word G)))) (c__law_is_sequence : Cal false P w K mg base 3 "_law_is_sequence" (SpR K (gr (F__law_is_sequence G)))) (c_is_item : Cal false P w K mg base 1 "is_item" (SpR K (gr (F_is_item G)))) (c_is_word : Cal false P w K mg base 2 "is_word" (SpR K (gr (F_is_word G)))) (c_is_sequence : Cal false P w K mg base 6 "is_sequence" (SpR K (gr (F_is_sequence G)))) : Cal true P w K mg base 7 "_law_right" (SpR K (gr (F__law_right G))) := by
  refine ⟨f, fd, _, fx_body (b := x__law_right G) F.fn sc__law_right ?_, F.mgf, F.fn.kp, b⟩
  intro cdv A outer s H E hr hgd
  have nd := sc__law_right.nd
  exact ⟨_, (pss_cons (ps_set (i := 1) nd rfl (by first | exact .inl rfl | exact .inr rfl) (pe_callB (k_reprV K rfl (hgd rfl) (room64 hr)) (by rfl) n_repr (by decide +kernel) (pa_cons (pv 0) pa_nil)))
 (pss_cons (ps_set (i := 2) nd rfl (by first | exact .inl rfl | exact .inr rfl) (pe_lst (pa_cons (k_call K rfl c_is_item hr (by first | decide | omega) (fun h => nomatch h) (by rfl) (takes_of rfl rfl rfl rfl) (pa_cons (pv 0) pa_nil)) (pa_cons (k_call K rfl c_is_word hr (by first | decide | omega) (fun h => nomatch h) (by rfl) (takes_of rfl rfl rfl rfl) (pa_cons (pv 0) pa_nil)) (pa_cons (k_call K rfl c_is_sequence hr (by first | decide | omega) (fun h => nomatch h) (by rfl) (takes_of rfl rfl rfl rfl) (pa_cons (pv 0) pa_nil)) pa_nil)))))
 (pss_one (ps_ret (pe_and (pe_cmpR (o_eqP K rfl (room64 hr)) (pe_callB (k_reprV K rfl (hgd rfl) (room64 hr)) (by rfl) n_repr (by decide +kernel) (pa_cons (pv 2) pa_nil)) (pe_callB (k_reprV K rfl (hgd rfl) (room64 hr)) (by rfl) n_repr (by decide +kernel) (pa_cons (pe_lst (pa_cons (k_call K rfl c__law_is_item hr (by first | decide | omega) (fun h => nomatch h) (by rfl) (takes_of rfl rfl rfl rfl) (pa_cons (pv 0) pa_nil)) (pa_cons (k_call K rfl c__law_is_word hr (by first | decide | omega) (fun h => nomatch h) (by rfl) (takes_of rfl rfl rfl rfl) (pa_cons (pv 0) pa_nil)) (pa_cons (k_call K rfl c__law_is_sequence hr (by first | decide | omega) (fun h => nomatch h) (by rfl) (takes_of rfl rfl rfl rfl) (pa_cons (pv 0) pa_nil)) pa_nil)))) pa_nil)) (nomark _)) (pe_one (pe_cmpR (o_eqP K rfl (room64 hr)) (pe_callB (k_reprV K rfl (hgd rfl) (room64 hr)) (by rfl) n_repr (by decide +kernel) (pa_cons (pv 0) pa_nil)) (pv 1) (nomark _)))))))), rfl⟩
abbrev st__law_bent_steps : Stmt := PySem.Challenge.pw_stackeffect_k01_items_words_sequences.main.body.getD 28 (.Pass ⟨0, 0, 0, 0⟩)
abbrev N__law_bent_steps : List Str := ["_law_pool_here", "_law_steps_here", "_law_odd_here", "_law_at", "_law_step", "_law_some", "_law_wrong"]
theorem sc__law_bent_steps : FnScope N__law_bent_steps ["_law_pool_here", "_law_steps_here", "_law_odd_here"] (defScope st__law_bent_steps) := ⟨rfl, rfl, rfl, by decide +kernel, rfl, by decide +kernel, by decide +kernel⟩
def x__law_bent_steps (G : Gb) : XS :=
 (xSeq (xAsg (xCall (F__law_take G) (xCons (xVar 0) (xCons (xOp oAdd (xCB cLen (xCons (xVar 1) xNil)) (xInt 1)) xNil))) (xName 3))
 (xSeq (xAsg (xTup (xCons (xStr "push") (xCons (xStr "a") xNil))) (xName 4))
 (xSeq (xAsgN (xLst (xCons (xVar 2) (xCons (xTup (xCons (xVar 2) (xCons (xStr "a") xNil))) (xCons (xTup (xCons (xStr "push") (xCons (xVar 2) xNil))) (xCons (xTup (xCons (xStr "pop") xNil)) (xCons (xTup (xCons (xStr "push") (xCons (xStr "a") (xCons (xStr "a") xNil)))) (xCons (xDat (xLst (xCons (xStr "push") (xCons (xStr "a") xNil)))) (xCons (xTup (xCons (xStr "Push") (xCons (xStr "a") xNil))) xNil)))))))) 5)
 (xSeq (xDrop (xAppend 5 (xTup (xCons (xStr "poppush") (xCons (xStr "a") xNil)))))
 (xSeq (xAsg (xOp oIx (xVar 5) (xCall (F__law_take G) (xCons (xVar 0) (xCons (xCB cLen (xCons (xVar 5) xNil)) xNil)))) (xName 6))
 (xRetL (xLst (xCons (xOp oAdd (xOp oAdd (xSl (xVar 1) xONone (xOSome (xVar 3))) (xDat (xLst (xCons (xVar 6) xNil)))) (xSl (xVar 1) (xOSome (xVar 3)) xONone)) (xCons (xCB cTup (xCons (xOp oAdd (xSl (xVar 1) xONone (xOSome (xVar 3))) (xDat (xLst (xCons (xVar 6) xNil)))) xNil)) (xCons (xOp oAdd (xVar 1) (xDat (xLst (xCons (xVar 4) (xCons (xVar 6) xNil))))) xNil))))))))))
def F__law_bent_steps (G : Gb) : Fn := runDef 3 7 (x__law_bent_steps G).ev
theorem ok__law_bent_steps {G : Gb} {f : Addr} {fd : FuncData} (F : Def K mg "_law_bent_steps" st__law_bent_steps f fd) (b : Binds K fd ["_law_pool_here", "_law_steps_here", "_law_odd_here"] [])
    (n_tuple : mg "tuple" = none) (c__law_take : Cal false P w K mg base 1 "_law_take" (SpR K (gr (F__law_take G)))) (n_len : mg "len" = none) : Cal false P w K mg base 2 "_law_bent_steps" (SpR K (gr (F__law_bent_steps G))) := by
  refine ⟨f, fd, _, fx_body (b := x__law_bent_steps G) F.fn sc__law_bent_steps ?_, F.mgf, F.fn.kp, b⟩
  intro cdv A outer s H E hr hgd
  have nd := sc__law_bent_steps.nd
  exact ⟨_, (pss_cons (ps_set (i := 3) nd rfl (by first | exact .inl rfl | exact .inr rfl) (k_call K rfl c__law_take hr (by first | decide | omega) (fun h => nomatch h) (by rfl) (takes_of rfl rfl rfl rfl) (pa_cons (pv 0) (pa_cons (pe_op (k_add K rfl) (pe_callB (k_len K rfl) (by rfl) n_len (by decide +kernel) (pa_cons (pv 1) pa_nil)) pe_int) pa_nil))))
 (pss_cons (ps_set (i := 4) nd rfl (by first | exact .inl rfl | exact .inr rfl) (pe_tup (pa_cons pe_str (pa_cons pe_str pa_nil))))
 (pss_cons (ps_set (i := 5) nd rfl (by first | exact .inl rfl | exact .inr rfl) (pe_lst (pa_cons (pv 2) (pa_cons (pe_tup (pa_cons (pv 2) (pa_cons pe_str pa_nil))) (pa_cons (pe_tup (pa_cons pe_str (pa_cons (pv 2) pa_nil))) (pa_cons (pe_tup (pa_cons pe_str pa_nil)) (pa_cons (pe_tup (pa_cons pe_str (pa_cons pe_str (pa_cons pe_str pa_nil)))) (pa_cons (pe_lst (pa_cons pe_str (pa_cons pe_str pa_nil))) (pa_cons (pe_tup (pa_cons pe_str (pa_cons pe_str pa_nil))) pa_nil)))))))))
 (pss_cons (ps_expr (k_bm K rfl PySem.F.plainAttrs_list PySem.F.slot_list_append PySem.F.type_list_append mt_append (pv 5) (pa_cons (pe_tup (pa_cons pe_str (pa_cons pe_str pa_nil))) pa_nil)))
 (pss_cons (ps_set (i := 6) nd rfl (by first | exact .inl rfl | exact .inr rfl) (pe_ix (k_ix K rfl) (pv 5) (k_call K rfl c__law_take hr (by first | decide | omega) (fun h => nomatch h) (by rfl) (takes_of rfl rfl rfl rfl) (pa_cons (pv 0) (pa_cons (pe_callB (k_len K rfl) (by rfl) n_len (by decide +kernel) (pa_cons (pv 5) pa_nil)) pa_nil))) (fun _ _ => rfl)))
 (pss_one (ps_ret (pe_lst (pa_cons (pe_op (k_add K rfl) (pe_op (k_add K rfl) (pe_slice (k_sl K rfl) (pv 1) po_none (po_some (pv 3))) (pe_lst (pa_cons (pv 6) pa_nil))) (pe_slice (k_sl K rfl) (pv 1) (po_some (pv 3)) po_none)) (pa_cons (pe_callTy (k_tuple K rfl) (by rfl) n_tuple (by decide +kernel) (pa_cons (pe_op (k_add K rfl) (pe_slice (k_sl K rfl) (pv 1) po_none (po_some (pv 3))) (pe_lst (pa_cons (pv 6) pa_nil))) pa_nil)) (pa_cons (pe_op (k_add K rfl) (pv 1) (pe_lst (pa_cons (pv 4) (pa_cons (pv 6) pa_nil)))) pa_nil))))))))))), rfl⟩
/-! ### the program's answers for any value -/
def isSeq (d : D) : Bool := (badPart isStep d).isNone
theorem F_is_seq' (G : Gb) (hT : G.sub (G.at_ "InvalidSteps") (.ref (G.at_ "InvalidSteps")) = some true) {d : D} (h : OddS d) : F_is_sequence G [.d d] [] = some (.ret (.d (.bl (isSeq d))), []) := by
  have hc := F_check_steps' G h
  unfold F_is_sequence x_is_sequence isSeq
  cases hb : badPart isStep d with
  | none => rw [hb] at hc; simp only [outOf] at hc; walk_at "fxh"; rfl
  | some x => rw [hb] at hc; simp only [outOf] at hc; walk_at "fxh"; rfl
/-! ### the law's own answers -/
theorem let_list : LET.cps.toList = (List.range 26).map (fun i => 97 + i) := by decide +kernel
theorem okSign_iff (c : Nat) : okSign c = (decide (97 ≤ c) && decide (c ≤ 122)) := by
  unfold okSign
  rw [let_list, ← Bool.decide_and]
  refine decide_eq_decide.mpr ⟨fun h => ?_, fun h => ?_⟩
  · obtain ⟨i, hi, rfl⟩ := List.mem_map.mp h
    have := List.mem_range.mp hi
    omega
  · exact List.mem_map.mpr ⟨c - 97, List.mem_range.mpr (by omega), by omega⟩
theorem lt_sg (a b : Nat) : decide (([a] : List Nat) < [b]) = decide (a < b) := decide_eq_decide.mpr (by rw [List.cons_lt_cons_iff]; simp)
theorem str_a : ("a" : Str).cps.toList = [97] := by decide +kernel
theorem str_z : ("z" : Str).cps.toList = [122] := by decide +kernel
theorem sg_list (c : Nat) : (⟨#[c]⟩ : Str).cps.toList = [c] := rfl
theorem fil_none {α : Type} (p : α → Bool) (as : List α) : (as.filter fun a => !p a).isEmpty = as.all p := by
  induction as with
  | nil => rfl
  | cons a as ih =>
    rw [List.filter_cons, List.all_cons]
    cases p a with
    | true => simpa using ih
    | false => rfl
theorem emp_map {α β : Type} (f : α → β) (as : List α) : (as.map f).isEmpty = as.isEmpty := by cases as <;> rfl
theorem F_lis_item (G : Gb) {d : D} (h : Odd d) : F__law_is_item G [.d d] [] = some (.ret (.d (.bl (isItem d))), []) := by
  obtain ⟨h1, h2⟩ := h
  unfold F__law_is_item x__law_is_item
  cases d with
  | str s =>
    have hl := h2 s rfl
    by_cases h : 1 ≤ s.length ∧ s.length ≤ 8
    · obtain ⟨ha, hb⟩ := h
      have e1 : (1 : Int) ≤ (s.length : Int) := by omega
      have e2 : (s.length : Int) ≤ 8 := by omega
      have e3 : s.cps.toList.length ≤ 100000 := by rw [Array.length_toList]; exact hl
      walk_at "fxh"
      generalize hz : runLc _ _ _ _ _ _ = z
      have e4 := lc_filter (fun c => AV.d (D.str ⟨#[c]⟩)) (fun c => !okSign c) (fun c => AV.d (D.str ⟨#[c]⟩)) hz fun c hc => ⟨_, rfl, by
        rw [okSign_iff]
        by_cases i1 : c < 97
        · have j1 : decide ((⟨#[c]⟩ : Str).cps.toList < ("a" : Str).cps.toList) = true := by rw [sg_list, str_a, lt_sg]; exact decide_eq_true i1
          have j2 : decide (97 ≤ c) = false := decide_eq_false (by omega)
          walk_at "fxh"
        · have j1 : decide ((⟨#[c]⟩ : Str).cps.toList < ("a" : Str).cps.toList) = false := by rw [sg_list, str_a, lt_sg]; exact decide_eq_false i1
          have j2 : decide (97 ≤ c) = true := decide_eq_true (by omega)
          by_cases i3 : c ≤ 122
          · have j3 : decide (("z" : Str).cps.toList < (⟨#[c]⟩ : Str).cps.toList) = false := by rw [sg_list, str_z, lt_sg]; exact decide_eq_false (by omega)
            have j4 : decide (c ≤ 122) = true := decide_eq_true i3
            walk_at "fxh"
          · have j3 : decide (("z" : Str).cps.toList < (⟨#[c]⟩ : Str).cps.toList) = true := by rw [sg_list, str_z, lt_sg]; exact decide_eq_true (by omega)
            have j4 : decide (c ≤ 122) = false := decide_eq_false i3
            walk_at "fxh", fun _ => rfl⟩
      rw [e4]
      walk_at "fx"
      rw [toD_mapf]
      walk_at "fx"
      rw [emp_map, fil_none, isItem, okItem, decide_eq_true ha, decide_eq_true hb]; rfl
    · have hi : isItem (.str s) = false := by
        simp only [isItem, okItem]
        by_cases ha : 1 ≤ s.length
        · have hb : ¬ s.length ≤ 8 := fun z => h ⟨ha, z⟩
          rw [decide_eq_false hb]; simp
        · rw [decide_eq_false ha]; simp
      rw [hi]
      by_cases ha : 1 ≤ s.length
      · have e1 : (1 : Int) ≤ (s.length : Int) := by omega
        have e2 : ¬ (s.length : Int) ≤ 8 := by omega
        walk_at "fxh"
      · have e1 : ¬ (1 : Int) ≤ (s.length : Int) := by omega
        walk_at "fxh"
  | raw v => simp [D.ty] at h1
  | ins C fs => simp [D.ty] at h1
  | exc c a dd fs => simp [D.ty] at h1
  | _ => walk_at "fx"; rfl
theorem F_lis_word (G : Gb) {d : D} (h : OddT d) : F__law_is_word G [.d d] [] = some (.ret (.d (.bl (isWord d))), []) := by
  obtain ⟨⟨h1, h2⟩, h3⟩ := h
  unfold F__law_is_word x__law_is_word
  cases d with
  | tup xs =>
    obtain ⟨hl, hx⟩ := h3 xs rfl
    walk_at "fxh"
    generalize hz : runLc _ _ _ _ _ _ = z
    have e4 := lc_filter (fun c => AV.d c) (fun c => !isItem c) (fun c => AV.d c) hz fun c hc => ⟨_, rfl, by
      have := F_lis_item G (hx c hc)
      walk_at "fxh", fun _ => rfl⟩
    rw [e4]
    walk_at "fx"
    rw [fil_none]; rfl
  | raw v => simp [D.ty] at h1
  | ins C fs => simp [D.ty] at h1
  | exc c a dd fs => simp [D.ty] at h1
  | _ => walk_at "fx"; rfl
/-- x in ["push", "pop"], any x -/
theorem in_two {x : D} (h : x.ty.isSome = true) (hn : ∀ ns, x ≠ .fz ns) (μ : List CC) : inVF (.d x) (.d (.lst [.str "push", .str "pop"])) μ = some (.d (.bl (match x with | .str a => decide (a ∈ [("push" : Str), "pop"]) | _ => false))) := by
  unfold inVF
  cases x with
  | str a =>
    simp only [in_dl]
    walk_at "fx"
    rw [show decide (a ∈ [("push" : Str), "pop"]) = (decide (("push" : Str) = a) || decide (("pop" : Str) = a)) by
      rw [← Bool.decide_or]; exact decide_eq_decide.mpr (by simp [eq_comm])]
  | lst xs => rfl
  | tup xs => rfl
  | dct xs => rfl
  | fz ns => exact absurd rfl (hn ns)
  | raw v => simp [D.ty] at h
  | ins C fs => simp [D.ty] at h
  | exc c a dd fs => simp [D.ty] at h
  | _ => rfl
/-- no locked list within -/
def NoFz (d : D) : Prop := ∀ xs, d = .tup xs → ∀ x ∈ xs, ∀ ns, x ≠ .fz ns
theorem F_lis_step (G : Gb) {d : D} (h : OddT d) (hf : NoFz d) : F__law_is_step G [.d d] [] = some (.ret (.d (.bl (isStep d))), []) := by
  obtain ⟨⟨h1, h2⟩, h3⟩ := h
  unfold F__law_is_step x__law_is_step
  cases d with
  | tup xs =>
    obtain ⟨hl, hx⟩ := h3 xs rfl
    by_cases h : xs.length = 2
    · obtain ⟨x, y, rfl⟩ : ∃ x y, xs = [x, y] := by
        match xs, h with
        | [x, y], _ => exact ⟨x, y, rfl⟩
      have hx1 := hx x List.mem_cons_self
      have hy1 := hx y (List.mem_cons_of_mem _ List.mem_cons_self)
      have hF := F_lis_item G hy1
      have hi := in_two hx1.ty (hf _ rfl x List.mem_cons_self)
      cases x with
      | str a => walk_at "fxh"; rfl
      | _ => walk_at "fxh"; rfl
    · have e1 : ¬ (xs.length : Int) = 2 := by omega
      have hi : isStep (.tup xs) = false := by
        unfold isStep
        split
        · rename_i e; cases e; simp at h
        · rfl
      walk_at "fxh"
  | raw v => simp [D.ty] at h1
  | ins C fs => simp [D.ty] at h1
  | exc c a dd fs => simp [D.ty] at h1
  | _ => walk_at "fx"; rfl
theorem seq_all (xs : List D) : isSeq (.lst xs) = (!decide (1000 < xs.length) && xs.all isStep) ∧ isSeq (.tup xs) = (!decide (1000 < xs.length) && xs.all isStep) := by
  have key : (xs.zipIdx.find? fun p => !isStep p.1).isNone = xs.all isStep := by
    have go : ∀ (ys : List D) (k : Nat), ((ys.zipIdx k).find? fun p => !isStep p.1).isNone = ys.all isStep := by
      intro ys
      induction ys with
      | nil => intro k; rfl
      | cons y ys ih =>
        intro k
        rw [List.zipIdx_cons, List.find?_cons, List.all_cons]
        cases h : isStep y with
        | true => simpa [h] using ih (k + 1)
        | false => simp [h]
    exact go xs 0
  have one : ∀ d : D, items? d = some xs → isSeq d = (!decide (1000 < xs.length) && xs.all isStep) := fun d hd => by
    unfold isSeq badPart
    rw [hd]
    by_cases hn : 1000 < xs.length
    · show Option.isNone (if 1000 < xs.length then some D.non else _) = _
      rw [if_pos hn, decide_eq_true hn]; rfl
    · show Option.isNone (if 1000 < xs.length then some D.non else _) = _
      rw [if_neg hn, decide_eq_false hn, ← key]
      cases xs.zipIdx.find? fun p => !isStep p.1 <;> rfl
  exact ⟨one _ rfl, one _ rfl⟩
theorem F_lis_seq (G : Gb) {d : D} (h : OddS d) (hf : ∀ xs, items? d = some xs → ∀ x ∈ xs, NoFz x) : F__law_is_sequence G [.d d] [] = some (.ret (.d (.bl (isSeq d))), []) := by
  obtain ⟨h1, h2, h3⟩ := h
  unfold F__law_is_sequence x__law_is_sequence
  cases d with
  | lst xs =>
    obtain ⟨hl, hx⟩ := h3 xs rfl
    rw [(seq_all xs).1]
    by_cases hn : 1000 < xs.length
    · have e1 : (1000 : Int) < (xs.length : Int) := by omega
      rw [decide_eq_true hn]
      walk_at "fxh"
    · have e1 : ¬ (1000 : Int) < (xs.length : Int) := by omega
      rw [decide_eq_false hn]
      walk_at "fxh"
      generalize hz : runLc _ _ _ _ _ _ = z
      have e4 := lc_filter (fun c => AV.d c) (fun c => !isStep c) (fun c => AV.d c) hz fun c hc => ⟨_, rfl, by
        have := F_lis_step G (hx c hc) (hf xs rfl c hc)
        walk_at "fxh", fun _ => rfl⟩
      rw [e4]
      walk_at "fx"
      rw [fil_none]
  | tup xs =>
    obtain ⟨hl, hx⟩ := h3 xs rfl
    rw [(seq_all xs).2]
    by_cases hn : 1000 < xs.length
    · have e1 : (1000 : Int) < (xs.length : Int) := by omega
      rw [decide_eq_true hn]
      walk_at "fxh"
    · have e1 : ¬ (1000 : Int) < (xs.length : Int) := by omega
      rw [decide_eq_false hn]
      walk_at "fxh"
      generalize hz : runLc _ _ _ _ _ _ = z
      have e4 := lc_filter (fun c => AV.d c) (fun c => !isStep c) (fun c => AV.d c) hz fun c hc => ⟨_, rfl, by
        have := F_lis_step G (hx c hc) (hf xs rfl c hc)
        walk_at "fxh", fun _ => rfl⟩
      rw [e4]
      walk_at "fx"
      rw [fil_none]
  | fz ns => exact absurd rfl (h2 ns)
  | raw v => simp [D.ty] at h1
  | ins C fs => simp [D.ty] at h1
  | exc c a dd fs => simp [D.ty] at h1
  | _ => walk_at "fx"; rfl
/-- what the law may look at -/
structure Lk (d : D) : Prop where
  s : OddS d
  t : OddT d
  f : ∀ xs, items? d = some xs → ∀ x ∈ xs, NoFz x
  r : ∃ T, ∀ μ, reprVF [.d d] μ = some (.d (.str T))
theorem F_lright (G : Gb) (hT : G.sub (G.at_ "InvalidSteps") (.ref (G.at_ "InvalidSteps")) = some true) {d : D} (h : Lk d) : F__law_right G [.d d] [] = some (.ret (.d (.bl true)), []) := by
  obtain ⟨T, hr⟩ := h.r
  have a1 := F_is_item' G h.t.1.ty h.t.1.s
  have a2 := F_is_word' G h.t
  have a3 := F_is_seq' G hT h.s
  have b1 := F_lis_item G h.t.1
  have b2 := F_lis_word G h.t
  have b3 := F_lis_seq G h.s h.f
  have hb : ∀ μ, reprVF [.d (.lst [.bl (isItem d), .bl (isWord d), .bl (isSeq d)])] μ = some (.d (.str (D.lst [.bl (isItem d), .bl (isWord d), .bl (isSeq d)]).shown)) := fun μ => by
    generalize isItem d = x; generalize isWord d = y; generalize isSeq d = z
    cases x <;> cases y <;> cases z <;> rfl
  unfold F__law_right x__law_right
  walk_at "fxh"

/-! ### repr of steps -/
theorem okSign_lt {c : Nat} (h : okSign c = true) : c < 16 ^ 8 := by
  have h : c ∈ LET.cps.toList := of_decide_eq_true h
  have : ∀ c ∈ LET.cps.toList, c < 16 ^ 8 := by decide +kernel
  exact this c h
theorem sh_str {s : Str} (h : ∀ c ∈ s.cps.toList, c < 16 ^ 8) : Sh (.str s) (10 * s.length + 2) 0 := ⟨rfl, rfl, Nat.le_refl _, by
  show (PyData.shown (.str s)).length ≤ _
  rw [PyData.shown_str]
  exact PySem.StrLaws.reprText_len s h⟩
theorem sh_item {s : Str} (h : okItem s = true) : Sh (.str s) 82 0 := by
  have hl := okItem_len h
  unfold okItem at h
  simp only [Bool.and_eq_true, List.all_eq_true] at h
  exact (sh_str fun c hc => okSign_lt (h.2 c hc)).mono (by omega) (Nat.le_refl _)
theorem sh_step {st : Bool × Str} (h : okItem st.2 = true) : Sh (stD st) 171 1 := by
  refine (sh_tup (n := 82) (k := 0) fun d hd => ?_).mono (Nat.le_refl _) (Nat.le_refl _)
  rcases List.mem_cons.mp hd with e | e
  · subst e
    refine (sh_str (s := actS st.1) ?_).mono ?_ (Nat.le_refl _)
    · cases st.1 <;> decide +kernel
    · cases st.1 <;> decide +kernel
  · rw [List.mem_singleton.mp e]; exact sh_item h
theorem sh_steps {sts : List (Bool × Str)} (h : ∀ st ∈ sts, okItem st.2 = true) (hn : sts.length ≤ 1000) : reprOk (.lst (sts.map stD)) = true ∧ reprOk (.tup (sts.map stD)) = true := by
  have key : ∀ d ∈ sts.map stD, Sh d 171 1 := fun d hd => by
    obtain ⟨st, hs, rfl⟩ := List.mem_map.mp hd
    exact sh_step (h st hs)
  have hl : (sts.map stD).length ≤ 1000 := by rw [List.length_map]; exact hn
  exact ⟨reprOk_of (sh_lst key) (by omega) (by decide), reprOk_of (sh_tup key) (by omega) (by decide)⟩

abbrev st_law : Stmt := PySem.Challenge.pw_stackeffect_k01_items_words_sequences.main.body.getD 29 (.Pass ⟨0, 0, 0, 0⟩)
abbrev N_law : List Str := ["_law_script", "_law_k", "_law_pool_here", "_law_items_here", "_law_word_here", "_law_steps_here", "_law_odd_here", "_law_at", "_law_things", "_law_thing", "_law_long"]
theorem sc_law : FnScope N_law ["_law_script"] (defScope st_law) := ⟨rfl, rfl, rfl, by decide +kernel, rfl, by decide +kernel, by decide +kernel⟩
def x_law (G : Gb) : XS :=
 (xSeq (xFor (xRng1 (xCons (xCB cMax2 (xCons (xInt 1) (xCons (xCB cMin2 (xCons (xCB cLen (xCons (xVar 0) xNil)) (xCons (xInt 8) xNil))) xNil))) xNil)) (xName 1) [1, 2, 3, 4, 5, 6, 7, 8, 9, 10]
 (xSeq (xAsgN (xCallN (F__law_pool G) (xCons (xVar 0) (xCons (xVar 1) xNil))) 2)
 (xSeq (xAsg (xCall (F__law_items G) (xCons (xVar 2) (xCons (xOp oAdd (xInt 1) (xCall (F__law_take G) (xCons (xVar 2) (xCons (xInt 4) xNil)))) xNil))) (xName 3))
 (xSeq (xPar 4 5 (xMCons (xCall (F__law_word G) (xCons (xVar 2) (xCons (xVar 3) (xCons (xInt 6) xNil)))) (xMCons (xCall (F__law_steps G) (xCons (xVar 2) (xCons (xVar 3) (xCons (xCall (F__law_take G) (xCons (xVar 2) (xCons (xInt 12) xNil))) xNil)))) xMNil)))
 (xSeq (xPar 6 7 (xMCons (xCall (F__law_odd G) (xCons (xVar 2) (xCons (xOp oIx (xVar 3) (xInt 0)) xNil))) (xMCons (xCall (F__law_take G) (xCons (xVar 2) (xCons (xOp oAdd (xCB cLen (xCons (xVar 4) xNil)) (xInt 1)) xNil))) xMNil)))
 (xSeq (xAsg (xOp oAdd (xVar 3) (xDat (xLst (xCons (xVar 4) (xCons (xDat (xCBN cList (xCons (xVar 4) xNil))) (xCons (xVar 5) (xCons (xCB cTup (xCons (xVar 5) xNil)) (xCons (xVar 6) (xCons (xOp oAdd (xOp oAdd (xSl (xVar 4) xONone (xOSome (xVar 7))) (xTup (xCons (xVar 6) xNil))) (xSl (xVar 4) (xOSome (xVar 7)) xONone)) (xCons (xJoin (xStr "") (xVar 3)) xNil)))))))))) (xName 8))
 (xFor (xEach (xOp oAdd (xVar 8) (xCall (F__law_bent_steps G) (xCons (xVar 2) (xCons (xVar 5) (xCons (xVar 6) xNil)))))) (xName 9) [1, 2, 3, 4, 5, 6, 7, 8, 9, 10]
 (xIfS (xNot (xB (xCall (F__law_right G) (xCons (xVar 9) xNil))))
 (xRet (xBl false))
 xNext))))))))
 (xSeq (xAsg (xOp oMul (xDat (xLst (xCons (xTup (xCons (xStr "push") (xCons (xStr "a") xNil))) xNil))) (xInt 1000)) (xName 10))
 (xRet (xAndV (xOp oIs (xCall (F_is_sequence G) (xCons (xVar 10) xNil)) (xBl true)) (xAndV (xOp oIs (xCall (F_is_sequence G) (xCons (xOp oAdd (xVar 10) (xSl (xVar 10) xONone (xOSome (xInt 1)))) xNil)) (xBl false)) (xOp oIs (xCall (F_is_word G) (xCons (xOp oMul (xTup (xCons (xStr "a") xNil)) (xInt 1500)) xNil)) (xBl true)))))))
def F_law (G : Gb) : Fn := runDef 1 11 (x_law G).ev
theorem ok_law {G : Gb} {f : Addr} {fd : FuncData} (F : Fun K "law" "law" st_law f fd)
    (c_is_word : Cal false P w K mg base 2 "is_word" (SpR K (gr (F_is_word G)))) (c_is_sequence : Cal false P w K mg base 6 "is_sequence" (SpR K (gr (F_is_sequence G)))) (n_range : mg "range" = none) (n_max : mg "max" = none) (n_min : mg "min" = none) (n_len : mg "len" = none) (c__law_bent_steps : Cal false P w K mg base 2 "_law_bent_steps" (SpR K (gr (F__law_bent_steps G)))) (c__law_right : Cal true P w K mg base 7 "_law_right" (SpR K (gr (F__law_right G)))) (n_list : mg "list" = none) (n_tuple : mg "tuple" = none) (c__law_odd : Cal false P w K mg base 2 "_law_odd" (SpR K (gr (F__law_odd G)))) (c__law_take : Cal false P w K mg base 1 "_law_take" (SpR K (gr (F__law_take G)))) (c__law_word : Cal false P w K mg base 2 "_law_word" (SpR K (gr (F__law_word G)))) (c__law_steps : Cal false P w K mg base 2 "_law_steps" (SpR K (gr (F__law_steps G)))) (c__law_items : Cal false P w K mg base 3 "_law_items" (SpR K (gr (F__law_items G)))) (c__law_pool : Cal false P w K mg base 1 "_law_pool" (SpR K (gr (F__law_pool G)))) : FnG true P w K mg base 8 f fd ["_law_script"] (SpR K (gr (F_law G))) := by
  have h := fx_body (P := P) (w := w) (mg := mg) (base := base) (gd := true) (k := 7) (b := x_law G) F sc_law ?_
  · exact h
  intro cdv A outer s H E hr hgd
  have nd := sc_law.nd
  refine ⟨_, (pss_cons (ps_for (passes_of rfl) rfl (pi_range1 (by rfl) n_range (pa_cons (pe_callB (call_max2 rfl) (by rfl) n_max (by decide +kernel) (pa_cons pe_int (pa_cons (pe_callB (call_min2 rfl) (by rfl) n_min (by decide +kernel) (pa_cons (pe_callB (k_len K rfl) (by rfl) n_len (by decide +kernel) (pa_cons (pv 0) pa_nil)) (pa_cons pe_int pa_nil))) pa_nil))) pa_nil)) (pg_name (i := 1) nd rfl (by first | exact .inl rfl | exact .inr rfl))
 (pss_cons (ps_set (i := 2) nd rfl (by first | exact .inl rfl | exact .inr rfl) (k_call K rfl c__law_pool hr (by first | decide | omega) (fun h => nomatch h) (by rfl) (takes_of rfl rfl rfl rfl) (pa_cons (pv 0) (pa_cons (pv 1) pa_nil))))
 (pss_cons (ps_set (i := 3) nd rfl (by first | exact .inl rfl | exact .inr rfl) (k_call K rfl c__law_items hr (by first | decide | omega) (fun h => nomatch h) (by rfl) (takes_of rfl rfl rfl rfl) (pa_cons (pv 2) (pa_cons (pe_op (k_add K rfl) pe_int (k_call K rfl c__law_take hr (by first | decide | omega) (fun h => nomatch h) (by rfl) (takes_of rfl rfl rfl rfl) (pa_cons (pv 2) (pa_cons pe_int pa_nil)))) pa_nil))))
 (pss_cons (ps_par (i := 4) (j := 5) rfl nd rfl rfl (by decide) rfl rfl (pa_cons (k_call K rfl c__law_word hr (by first | decide | omega) (fun h => nomatch h) (by rfl) (takes_of rfl rfl rfl rfl) (pa_cons (pv 2) (pa_cons (pv 3) (pa_cons pe_int pa_nil)))) (pa_cons (k_call K rfl c__law_steps hr (by first | decide | omega) (fun h => nomatch h) (by rfl) (takes_of rfl rfl rfl rfl) (pa_cons (pv 2) (pa_cons (pv 3) (pa_cons (k_call K rfl c__law_take hr (by first | decide | omega) (fun h => nomatch h) (by rfl) (takes_of rfl rfl rfl rfl) (pa_cons (pv 2) (pa_cons pe_int pa_nil))) pa_nil)))) pa_nil)) (by rfl))
 (pss_cons (ps_par (i := 6) (j := 7) rfl nd rfl rfl (by decide) rfl rfl (pa_cons (k_call K rfl c__law_odd hr (by first | decide | omega) (fun h => nomatch h) (by rfl) (takes_of rfl rfl rfl rfl) (pa_cons (pv 2) (pa_cons (pe_ix (k_ix K rfl) (pv 3) pe_int (fun _ _ => rfl)) pa_nil))) (pa_cons (k_call K rfl c__law_take hr (by first | decide | omega) (fun h => nomatch h) (by rfl) (takes_of rfl rfl rfl rfl) (pa_cons (pv 2) (pa_cons (pe_op (k_add K rfl) (pe_callB (k_len K rfl) (by rfl) n_len (by decide +kernel) (pa_cons (pv 4) pa_nil)) pe_int) pa_nil))) pa_nil)) (by rfl))
 (pss_cons (ps_set (i := 8) nd rfl (by first | exact .inl rfl | exact .inr rfl) (pe_op (k_add K rfl) (pv 3) (pe_lst (pa_cons (pv 4) (pa_cons (pe_callTy (k_list K rfl) (by rfl) n_list (by decide +kernel) (pa_cons (pv 4) pa_nil)) (pa_cons (pv 5) (pa_cons (pe_callTy (k_tuple K rfl) (by rfl) n_tuple (by decide +kernel) (pa_cons (pv 5) pa_nil)) (pa_cons (pv 6) (pa_cons (pe_op (k_add K rfl) (pe_op (k_add K rfl) (pe_slice (k_sl K rfl) (pv 4) po_none (po_some (pv 7))) (pe_tup (pa_cons (pv 6) pa_nil))) (pe_slice (k_sl K rfl) (pv 4) (po_some (pv 7)) po_none)) (pa_cons (k_join K rfl pe_str (pv 3)) pa_nil))))))))))
 (pss_one (ps_for (passes_of rfl) rfl (k_pany K rfl (pe_op (k_add K rfl) (pv 8) (k_call K rfl c__law_bent_steps hr (by first | decide | omega) (fun h => nomatch h) (by rfl) (takes_of rfl rfl rfl rfl) (pa_cons (pv 2) (pa_cons (pv 5) (pa_cons (pv 6) pa_nil)))))) (pg_name (i := 9) nd rfl (by first | exact .inl rfl | exact .inr rfl))
 (pss_one (ps_if (pt_not (pt_val (k_call K rfl c__law_right hr (by first | decide | omega) hgd (by rfl) (takes_of rfl rfl rfl rfl) (pa_cons (pv 9) pa_nil))))
 (pss_one (ps_ret pe_bl))
 pss_nil))))))))))
 (pss_cons (ps_set (i := 10) nd rfl (by first | exact .inl rfl | exact .inr rfl) (pe_op (k_mulB K rfl) (pe_lst (pa_cons (pe_tup (pa_cons pe_str (pa_cons pe_str pa_nil))) pa_nil)) pe_int))
 (pss_one (ps_ret (pe_and (pe_cmpR o_is (k_call K rfl c_is_sequence hr (by first | decide | omega) (fun h => nomatch h) (by rfl) (takes_of rfl rfl rfl rfl) (pa_cons (pv 10) pa_nil)) pe_bl (nomark _)) (pe_and (pe_cmpR o_is (k_call K rfl c_is_sequence hr (by first | decide | omega) (fun h => nomatch h) (by rfl) (takes_of rfl rfl rfl rfl) (pa_cons (pe_op (k_add K rfl) (pv 10) (pe_slice (k_sl K rfl) (pv 10) po_none (po_some pe_int))) pa_nil)) pe_bl (nomark _)) (pe_one (pe_cmpR o_is (k_call K rfl c_is_word hr (by first | decide | omega) (fun h => nomatch h) (by rfl) (takes_of rfl rfl rfl rfl) (pa_cons (pe_op (k_mulB K rfl) (pe_tup (pa_cons pe_str pa_nil)) pe_int) pa_nil)) pe_bl (nomark _))))))))), ?_⟩
  unfold x_law
  walk_at "rd"
/-! ### how long repr is, empty dicts too -/
structure Se (d : D) (n k : Nat) : Prop where
  noL : d.noL = true
  showable : d.pyE.showable = true
  depth : d.pyE.depth ≤ k
  len : d.pyE.shown.length ≤ n
theorem Se.mono {d : D} {n m k j : Nat} (s : Se d n k) (h : n ≤ m) (h2 : k ≤ j) : Se d m j := ⟨s.noL, s.showable, Nat.le_trans s.depth h2, Nat.le_trans s.len h⟩
theorem se_of {d : D} {n k : Nat} (s : Sh d n k) (hl : d.noL = true) (e : d.pyE = d.py) : Se d n k := ⟨hl, by rw [e]; exact s.showable, by rw [e]; exact s.depth, by rw [e]; exact s.len⟩
theorem seAll {ds : List D} {n k : Nat} (h : ∀ d ∈ ds, Se d n k) : D.noLs ds = true ∧ PyData.showableAll (D.pyEs ds) = true ∧ PyData.depthAll (D.pyEs ds) ≤ k ∧ ((PyData.shownAll (D.pyEs ds)).map (·.length)).sum ≤ n * ds.length ∧ (PyData.shownAll (D.pyEs ds)).length = ds.length := by
  induction ds with
  | nil => exact ⟨rfl, rfl, Nat.zero_le _, Nat.zero_le _, rfl⟩
  | cons d ds ih =>
    obtain ⟨h1, h2, h3, h4, h5⟩ := ih fun e he => h e (List.mem_cons_of_mem _ he)
    have s := h d List.mem_cons_self
    refine ⟨by rw [D.noLs, s.noL, h1]; rfl, by rw [D.pyEs, PyData.showableAll, s.showable, h2]; rfl, by rw [D.pyEs, PyData.depthAll]; exact Nat.max_le.mpr ⟨s.depth, h3⟩, ?_, by rw [D.pyEs, PyData.shownAll, List.length_cons, List.length_cons, h5]⟩
    rw [D.pyEs, PyData.shownAll, List.map_cons, List.sum_cons, List.length_cons, Nat.mul_succ]
    have := s.len
    omega
theorem se_tup {ds : List D} {n k : Nat} (h : ∀ d ∈ ds, Se d n k) : Se (.tup ds) (n * ds.length + 2 * ds.length + 3) (k + 1) := by
  obtain ⟨h1, h2, h3, h4, h5⟩ := seAll h
  refine ⟨by rw [D.noL]; exact h1, by rw [D.pyE]; exact h2, by rw [D.pyE, PyData.depth]; omega, ?_⟩
  rw [D.pyE, PyData.shown]
  refine Nat.le_trans (tupleText_len_le _) ?_
  rw [h5]; omega
theorem rp_sh {d : D} {n k : Nat} (s : Sh d n k) (hn : n ≤ 16777216) (hk : k ≤ 60) : ∃ T, ∀ μ, reprVF [.d d] μ = some (.d (.str T)) := ⟨d.shown, fun μ => by
  have : reprF [.d d] μ = some (.d (.str d.shown)) := by show (if reprOk d = true then some (AV.d (.str d.shown)) else none) = _; exact if_pos (reprOk_of s hn hk)
  unfold reprVF; rw [this]⟩
theorem rp_e {d : D} (h : reprOkE d = true) : ∃ T, ∀ μ, reprVF [.d d] μ = some (.d (.str T)) := by
  by_cases g : reprOk d = true
  · exact ⟨d.shown, fun μ => by
      have : reprF [.d d] μ = some (.d (.str d.shown)) := by show (if reprOk d = true then some (AV.d (.str d.shown)) else none) = _; exact if_pos g
      unfold reprVF; rw [this]⟩
  · exact ⟨d.shownE, fun μ => by
      have : reprF [.d d] μ = none := by show (if reprOk d = true then some (AV.d (.str d.shown)) else none) = _; exact if_neg g
      unfold reprVF; rw [this]; exact if_pos h⟩
theorem rp_tup {ds : List D} {n k : Nat} (h : (∀ d ∈ ds, Sh d n k) ∨ ∀ d ∈ ds, Se d n k) (hn : n * ds.length + 2 * ds.length + 3 ≤ 16777216) (hk : k + 1 ≤ 60) : ∃ T, ∀ μ, reprVF [.d (.tup ds)] μ = some (.d (.str T)) := by
  rcases h with h | h
  · exact rp_sh (sh_tup h) hn hk
  · have s := se_tup h
    refine rp_e ?_
    unfold reprOkE
    rw [show noL1 (.tup ds) = true from (seAll h).1, s.showable, decide_eq_true (Nat.le_trans s.depth hk), decide_eq_true (Nat.le_trans s.len hn)]; rfl
theorem rp_lst {ds : List D} {n k : Nat} (h : (∀ d ∈ ds, Sh d n k) ∨ ∀ d ∈ ds, Se d n k) (hn : n * ds.length + 2 * ds.length + 3 ≤ 16777216) (hk : k + 1 ≤ 60) : ∃ T, ∀ μ, reprVF [.d (.lst ds)] μ = some (.d (.str T)) := by
  rcases h with h | h
  · exact rp_sh (sh_lst h) hn hk
  · obtain ⟨h1, h2, h3, h4, h5⟩ := seAll h
    refine rp_e ?_
    have e1 : (D.lst ds).pyE.showable = true := by rw [D.pyE]; exact h2
    have e2 : (D.lst ds).pyE.depth ≤ 60 := by rw [D.pyE, PyData.depth]; omega
    have e3 : (D.lst ds).pyE.shown.length ≤ 16777216 := by
      rw [D.pyE, PyData.shown]
      refine Nat.le_trans (listText_len_le _) ?_
      rw [h5]; omega
    unfold reprOkE
    rw [show noL1 (.lst ds) = true from h1, e1, decide_eq_true e2, decide_eq_true e3]; rfl
/-! ### what stands in the law's lists -/
structure Wr (d : D) : Prop where
  o : OddT d
  nz : NoFz d
  nf : ∀ ns, d ≠ .fz ns
def SW (ds : List D) : Prop := (∀ d ∈ ds, Sh d 4000 3) ∨ ∀ d ∈ ds, Se d 4000 3
theorem lk_lst {ds : List D} (h : ∀ d ∈ ds, Wr d) (hn : ds.length ≤ 2000) (hs : SW ds) : Lk (.lst ds) :=
  ⟨⟨rfl, (fun ns e => by cases e), fun xs e => by cases e; exact ⟨by omega, fun x hx => (h x hx).o⟩⟩, ⟨⟨rfl, fun s e => by cases e⟩, fun xs e => by cases e⟩, (fun xs e x hx => by cases e; exact (h x hx).nz), rp_lst hs (by omega) (by decide)⟩
theorem lk_tup {ds : List D} (h : ∀ d ∈ ds, Wr d) (hn : ds.length ≤ 2000) (hs : SW ds) : Lk (.tup ds) :=
  ⟨⟨rfl, (fun ns e => by cases e), fun xs e => by cases e; exact ⟨by omega, fun x hx => (h x hx).o⟩⟩, ⟨⟨rfl, fun s e => by cases e⟩, fun xs e => by cases e; exact ⟨by omega, fun x hx => (h x hx).o.1⟩⟩, (fun xs e x hx => by cases e; exact (h x hx).nz), rp_tup hs (by omega) (by decide)⟩
/-- short texts -/
def Sx (s : Str) : Prop := s.length ≤ 100 ∧ ∀ c ∈ s.cps.toList, c < 16 ^ 8
theorem sx_item {s : Str} (h : okItem s = true) : Sx s := by
  have hl := okItem_len h
  unfold okItem at h
  simp only [Bool.and_eq_true, List.all_eq_true] at h
  exact ⟨by omega, fun c hc => okSign_lt (h.2 c hc)⟩
theorem sh_sx {s : Str} (h : Sx s) : Sh (.str s) 1002 0 := (sh_str h.2).mono (by have := h.1; omega) (Nat.le_refl _)
theorem se_sx {s : Str} (h : Sx s) : Se (.str s) 1002 0 := se_of (sh_sx h) (by rw [D.noL]) (by rw [D.pyE, D.py])
theorem wr_sx {s : Str} (h : Sx s) : Wr (.str s) := ⟨⟨⟨rfl, fun t e => by cases e; have := h.1; omega⟩, fun xs e => by cases e⟩, (fun xs e => by cases e), fun ns e => by cases e⟩
theorem lk_flat {d : D} (h : d.ty.isSome = true) (h2 : SmallS d) (h3 : items? d = none) (h4 : ∀ ns, d ≠ .fz ns) (r : ∃ T, ∀ μ, reprVF [.d d] μ = some (.d (.str T))) : Lk d :=
  ⟨⟨h, h4, fun xs e => by rw [h3] at e; cases e⟩, ⟨⟨h, h2⟩, fun xs e => by subst e; cases h3⟩, (fun xs e => by rw [h3] at e; cases e), r⟩
theorem lk_sx {s : Str} (h : Sx s) : Lk (.str s) := lk_flat rfl (fun t e => by cases e; have := h.1; omega) rfl (fun ns e => by cases e) (rp_sh (sh_sx h) (by decide) (by decide))
/-- one odd value: what is asked of it -/
structure Od (d : D) : Prop where
  w : Wr d
  s : Sh d 1100 1 ∨ Se d 1100 1
  l : Lk d
  i : Odd d
theorem wr_flat {d : D} (h : d.ty.isSome = true) (h2 : SmallS d) (h3 : items? d = none) (h4 : ∀ ns, d ≠ .fz ns) : Wr d := ⟨⟨⟨h, h2⟩, fun xs e => by subst e; cases h3⟩, (fun xs e => by subst e; cases h3), h4⟩
theorem od_sx {s : Str} (h : Sx s) : Od (.str s) := ⟨wr_sx h, .inl ((sh_sx h).mono (by decide) (by decide)), lk_sx h, (wr_sx h).o.1⟩
theorem all1 {P : D → Prop} {a : D} (h : P a) : ∀ d ∈ [a], P d := fun d hd => by rw [List.mem_singleton.mp hd]; exact h
theorem od_tup {s : Str} (h : Sx s) (h82 : Sh (.str s) 82 0) : Od (.tup [.str s]) := by
  have w : ∀ d ∈ [D.str s], Wr d := all1 (wr_sx h)
  have hs : Sh (.tup [.str s]) 87 1 := sh_tup (all1 h82)
  refine ⟨⟨⟨⟨rfl, fun t e => by cases e⟩, fun xs e => by cases e; exact ⟨by show 1 ≤ 100000; decide, fun x hx => (w x hx).o.1⟩⟩, (fun xs e x hx => by cases e; exact (w x hx).nf), fun ns e => by cases e⟩, .inl (hs.mono (by decide) (by decide)), lk_tup w (by show 1 ≤ 2000; decide) (.inl (all1 (h82.mono (by decide) (by decide)))), ⟨rfl, fun t e => by cases e⟩⟩
theorem od_lst {s : Str} (h : Sx s) (h82 : Sh (.str s) 82 0) : Od (.lst [.str s]) := by
  have w : ∀ d ∈ [D.str s], Wr d := all1 (wr_sx h)
  have hs : Sh (.lst [.str s]) 87 1 := sh_lst (all1 h82)
  refine ⟨⟨⟨⟨rfl, fun t e => by cases e⟩, fun xs e => by cases e⟩, (fun xs e => by cases e), fun ns e => by cases e⟩, .inl (hs.mono (by decide) (by decide)), lk_lst w (by show 1 ≤ 2000; decide) (.inl (all1 (h82.mono (by decide) (by decide)))), ⟨rfl, fun t e => by cases e⟩⟩
def odds (x : Str) : List D := [.non, .bl true, .int 0, .str "", .str "A", .str "a1", .str "a b", .str "abcdefghi", .tup [.str x], .lst [.str x], .dct [], .str (x ++ "abcdefgh"), .str "a\n", .str "`", .str "{a"]
theorem sx_const : ∀ s ∈ (["", "A", "a1", "a b", "abcdefghi", "a\n", "`", "{a", "push", "pop", "Push", "poppush", "a"] : List Str), s.length ≤ 100 ∧ ∀ c ∈ s.cps.toList, c < 16 ^ 8 := by decide +kernel
theorem sx_add {x : Str} (h : Sx x) (hx : x.length ≤ 8) : Sx (x ++ "abcdefgh") := by
  refine ⟨?_, fun c hc => ?_⟩
  · show (x.cps ++ ("abcdefgh" : Str).cps).size ≤ 100
    rw [Array.size_append]
    have : ("abcdefgh" : Str).cps.size = 8 := by decide +kernel
    have h2 : x.cps.size ≤ 8 := hx
    omega
  · have hc : c ∈ (x.cps ++ ("abcdefgh" : Str).cps).toList := hc
    rw [Array.toList_append] at hc
    rcases List.mem_append.mp hc with q | q
    · exact h.2 c q
    · have : ∀ c ∈ ("abcdefgh" : Str).cps.toList, c < 16 ^ 8 := by decide +kernel
      exact this c q
theorem od_all {x : Str} (h : okItem x = true) : ∀ d ∈ odds x, Od d := by
  have hx := sx_item h
  have h8 := sh_item h
  have c := sx_const
  have flat : ∀ {d : D} {n k : Nat}, d.ty.isSome = true → SmallS d → items? d = none → (∀ ns, d ≠ .fz ns) → Sh d n k → n ≤ 1100 → k ≤ 1 → Od d := fun a1 a2 a3 a4 s q1 q2 => ⟨wr_flat a1 a2 a3 a4, .inl (s.mono q1 q2), lk_flat a1 a2 a3 a4 (rp_sh s (by omega) (by omega)), ⟨a1, a2⟩⟩
  have se0 : Se (.dct []) 2 1 := ⟨by rw [D.noL], by rw [D.pyE]; rfl, by rw [D.pyE]; decide +kernel, by rw [D.pyE]; decide +kernel⟩
  have od0 : Od (.dct []) := ⟨wr_flat rfl (fun t e => by cases e) rfl (fun ns e => by cases e), .inr (se0.mono (by decide) (by decide)), lk_flat rfl (fun t e => by cases e) rfl (fun ns e => by cases e) (rp_e (by
    unfold reprOkE
    rw [se0.showable, decide_eq_true (Nat.le_trans se0.depth (by decide)), decide_eq_true (Nat.le_trans se0.len (by decide))]; rfl)), ⟨rfl, fun t e => by cases e⟩⟩
  intro d hd
  unfold odds at hd
  simp only [List.mem_cons, List.not_mem_nil, or_false] at hd
  rcases hd with rfl | rfl | rfl | rfl | rfl | rfl | rfl | rfl | rfl | rfl | rfl | rfl | rfl | rfl | rfl
  · exact flat rfl (fun t e => by cases e) rfl (fun ns e => by cases e) sh_non (by decide) (by decide)
  · exact flat rfl (fun t e => by cases e) rfl (fun ns e => by cases e) (sh_bl true) (by decide) (by decide)
  · exact flat rfl (fun t e => by cases e) rfl (fun ns e => by cases e) (sh_int (k := 1) (by decide) (by decide)) (by decide) (by decide)
  · exact od_sx (c _ (by simp))
  · exact od_sx (c _ (by simp))
  · exact od_sx (c _ (by simp))
  · exact od_sx (c _ (by simp))
  · exact od_sx (c _ (by simp))
  · exact od_tup hx h8
  · exact od_lst hx h8
  · exact od0
  · exact od_sx (sx_add hx (okItem_len h))
  · exact od_sx (c _ (by simp))
  · exact od_sx (c _ (by simp))
  · exact od_sx (c _ (by simp))
def oddP (x : Str) (p : Pl) : D := (odds x).getD (takeP 15 p).1 .non
theorem F_odd (G : Gb) (p : Pl) {x : Str} (hx : okItem x = true) : F__law_odd G [.cell 0, .d (.str x)] [poolC p] = some (.ret (.d (oddP x p)), [poolC (takeP 15 p).2]) ∧ Od (oddP x p) := by
  have hb := takeP_lt (n := 15) p (by decide)
  have hl := okItem_len hx
  have h8 : ("abcdefgh" : Str).length = 8 := by decide +kernel
  have hs : x.length + ("abcdefgh" : Str).length ≤ 100000 := by rw [h8]; omega
  have ha : L2.atI (odds x) ((takeP 15 p).1 : Int) = some (oddP x p) := by
    rw [atN, oddP, List.getD_eq_getElem?_getD, List.getElem?_eq_getElem (by show _ < 15; exact hb)]; rfl
  refine ⟨?_, od_all hx _ (by unfold oddP; rw [List.getD_eq_getElem?_getD, List.getElem?_eq_getElem (by show _ < 15; exact hb)]; exact List.getElem_mem _)⟩
  generalize oddP x p = v at ha
  unfold odds at ha
  unfold F__law_odd x__law_odd
  walk_at "fxh"
theorem C_odd (G : Gb) (p : Pl) {x : Str} (hx : okItem x = true) {μ : List CC} : callM (F__law_odd G) [.cell 0, .d (.str x)] (poolC p :: μ) = some (.ret (.d (oddP x p)), poolC (takeP 15 p).2 :: μ) :=
  callM_1 (k := 0) rfl rfl (by simp only [List.map_cons, List.map_nil, renum, List.idxOf_cons_self]; exact (F_odd G p hx).1) rfl rfl

/-! ### bent steps -/
def wrongs (o : D) : List D := [o, .tup [o, .str "a"], .tup [.str "push", o], .tup [.str "pop"], .tup [.str "push", .str "a", .str "a"], .lst [.str "push", .str "a"], .tup [.str "Push", .str "a"], .tup [.str "poppush", .str "a"]]
theorem wr_tup {es : List D} (h : ∀ e ∈ es, Odd e ∧ ∀ ns, e ≠ .fz ns) (hl : es.length ≤ 1000) : Wr (.tup es) :=
  ⟨⟨⟨rfl, fun t e => by cases e⟩, fun xs e => by cases e; exact ⟨by omega, fun x hx => (h x hx).1⟩⟩, (fun xs e x hx => by cases e; exact (h x hx).2), fun ns e => by cases e⟩
theorem wr_lst {es : List D} : Wr (.lst es) := ⟨⟨⟨rfl, fun t e => by cases e⟩, fun xs e => by cases e⟩, (fun xs e => by cases e), fun ns e => by cases e⟩
def S1 (d : D) : Prop := Sh d 4000 3 ∨ Se d 4000 3
theorem od_sz {d : D} (h : Od d) : S1 d := h.s.imp (fun s => s.mono (by decide) (by decide)) (fun s => s.mono (by decide) (by decide))
theorem sz_tup {es : List D} (h : (∀ e ∈ es, Sh e 1100 1) ∨ ∀ e ∈ es, Se e 1100 1) (hl : es.length ≤ 3) : S1 (.tup es) :=
  h.imp (fun s => (sh_tup s).mono (by have : 1100 * es.length ≤ 1100 * 3 := Nat.mul_le_mul_left _ hl; omega) (by decide)) (fun s => (se_tup s).mono (by have : 1100 * es.length ≤ 1100 * 3 := Nat.mul_le_mul_left _ hl; omega) (by decide))
theorem all2 {P : D → Prop} {a b : D} (h : P a) (h2 : P b) : ∀ d ∈ [a, b], P d := fun d hd => by
  rcases List.mem_cons.mp hd with e | e
  · rw [e]; exact h
  · exact all1 h2 d e
theorem wrong_all {o : D} (h : Od o) : ∀ w ∈ wrongs o, Wr w ∧ S1 w := by
  have c := sx_const
  have sa : Sx "a" := c _ (by simp)
  have sp : Sx "push" := c _ (by simp)
  have sq : Sx "pop" := c _ (by simp)
  have sP : Sx "Push" := c _ (by simp)
  have sx2 : Sx "poppush" := c _ (by simp)
  have el : ∀ {s : Str}, Sx s → Odd (.str s) ∧ ∀ ns, D.str s ≠ .fz ns := fun q => ⟨(wr_sx q).o.1, (wr_sx q).nf⟩
  have eo : Odd o ∧ ∀ ns, o ≠ .fz ns := ⟨h.i, h.w.nf⟩
  have zs : ∀ {s : Str}, Sx s → Sh (.str s) 1100 1 := fun q => (sh_sx q).mono (by decide) (by decide)
  have ze : ∀ {s : Str}, Sx s → Se (.str s) 1100 1 := fun q => (se_sx q).mono (by decide) (by decide)
  intro w hw
  unfold wrongs at hw
  simp only [List.mem_cons, List.not_mem_nil, or_false] at hw
  rcases hw with rfl | rfl | rfl | rfl | rfl | rfl | rfl | rfl
  · exact ⟨h.w, od_sz h⟩
  · exact ⟨wr_tup (all2 eo (el sa)) (by show 2 ≤ 1000; decide), sz_tup (h.s.imp (fun s => all2 s (zs sa)) fun s => all2 s (ze sa)) (by show 2 ≤ 3; decide)⟩
  · exact ⟨wr_tup (all2 (el sp) eo) (by show 2 ≤ 1000; decide), sz_tup (h.s.imp (fun s => all2 (zs sp) s) fun s => all2 (ze sp) s) (by show 2 ≤ 3; decide)⟩
  · exact ⟨wr_tup (all1 (el sq)) (by decide), sz_tup (.inl (all1 (zs sq))) (by decide)⟩
  · refine ⟨wr_tup (fun d hd => ?_) (by decide), sz_tup (.inl fun d hd => ?_) (by decide)⟩
    · rcases List.mem_cons.mp hd with e | e
      · rw [e]; exact el sp
      · exact all2 (P := fun d => Odd d ∧ ∀ ns, d ≠ .fz ns) (el sa) (el sa) d e
    · rcases List.mem_cons.mp hd with e | e
      · rw [e]; exact zs sp
      · exact all2 (P := fun d => Sh d 1100 1) (zs sa) (zs sa) d e
  · exact ⟨wr_lst, .inl ((sh_lst (all2 (zs sp) (zs sa))).mono (by decide) (by decide))⟩
  · exact ⟨wr_tup (all2 (el sP) (el sa)) (by decide), sz_tup (.inl (all2 (zs sP) (zs sa))) (by decide)⟩
  · exact ⟨wr_tup (all2 (el sx2) (el sa)) (by decide), sz_tup (.inl (all2 (zs sx2) (zs sa))) (by decide)⟩
theorem cut_toN {α : Type} {xs : List α} {n : Nat} (h : n ≤ xs.length) : DL.cutD xs none (some (n : Int)) = xs.take n := DL.cut_to h
theorem cut_fromN {α : Type} {xs : List α} {n : Nat} (h : n ≤ xs.length) : DL.cutD xs (some (n : Int)) none = xs.drop n := by
  have e : HT.sIx xs.length 0 (some (n : Int)) = n := by rw [HT.sIx_nat]; omega
  have e0 : HT.sIx xs.length xs.length (none : Option Int) = xs.length := rfl
  unfold DL.cutD
  rw [e, e0, List.take_of_length_le (by rw [List.length_drop]; omega)]
def bentP (n : Nat) (o : D) (p : Pl) : Nat × D × Pl := ((takeP (n + 1) p).1, (wrongs o).getD (takeP 8 (takeP (n + 1) p).2).1 .non, (takeP 8 (takeP (n + 1) p).2).2)
theorem F_bent (G : Gb) (p : Pl) {sts : List (Bool × Str)} (hn : sts.length ≤ 1000) {o : D} (ho : Od o) : F__law_bent_steps G [.cell 0, .d (.lst (sts.map stD)), .d o] [poolC p] =
      some (.new [.lst ((sts.take (bentP sts.length o p).1).map stD ++ [(bentP sts.length o p).2.1] ++ (sts.drop (bentP sts.length o p).1).map stD), .tup ((sts.take (bentP sts.length o p).1).map stD ++ [(bentP sts.length o p).2.1]), .lst (sts.map stD ++ [.tup [.str "push", .str "a"], (bentP sts.length o p).2.1])], [poolC (bentP sts.length o p).2.2]) ∧
      Wr (bentP sts.length o p).2.1 ∧ S1 (bentP sts.length o p).2.1 := by
  have h1 := takeP_lt (n := sts.length + 1) p (by omega)
  unfold bentP
  dsimp only
  have h2 := takeP_lt (n := 8) (takeP (sts.length + 1) p).2 (by decide)
  have hat : L2.atI (wrongs o) ((takeP 8 (takeP (sts.length + 1) p).2).1 : Int) = some ((wrongs o).getD (takeP 8 (takeP (sts.length + 1) p).2).1 .non) := by
    rw [atN, List.getD_eq_getElem?_getD, List.getElem?_eq_getElem (by show _ < 8; exact h2)]; rfl
  have hw : Wr ((wrongs o).getD (takeP 8 (takeP (sts.length + 1) p).2).1 .non) ∧ S1 ((wrongs o).getD (takeP 8 (takeP (sts.length + 1) p).2).1 .non) := wrong_all ho _ (by rw [List.getD_eq_getElem?_getD, List.getElem?_eq_getElem (by show _ < 8; exact h2)]; exact List.getElem_mem _)
  refine ⟨?_, hw⟩
  have hz : (((sts.length : Nat) : Int) + 1).toNat = sts.length + 1 := by omega
  have hC := C_take0 G (μ := []) (p := p) (z := (sts.length : Int) + 1) (by omega) (by omega)
  rw [hz] at hC
  generalize hat8 : (takeP (sts.length + 1) p).1 = at8 at *
  generalize hp1 : (takeP (sts.length + 1) p).2 = p1 at *
  have hc1 := cut_toN (xs := sts) (n := at8) (by omega)
  have hc2 := cut_fromN (xs := sts) (n := at8) (by omega)
  have ht : (sts.take at8).length ≤ 1000 := by rw [List.length_take]; omega
  have hd : (sts.drop at8).length ≤ 1000 := by rw [List.length_drop]; omega
  generalize (wrongs o).getD (takeP 8 p1).1 .non = v at hat
  have hat' : L2.atI ((wrongs o).map AV.d) ((takeP 8 p1).1 : Int) = some (.d v) := by rw [atMap, hat]; rfl
  unfold wrongs at hat'
  simp only [List.map_cons, List.map_nil] at hat'
  unfold F__law_bent_steps x__law_bent_steps
  walk_at "fxh"

theorem C_items (G : Gb) (p : Pl) {n : Nat} (hn : n ≤ 20) {μ : List CC} : callM (F__law_items G) [.cell 0, .d (.int n)] (poolC p :: μ) = some (.new ((itemsP n p).1.map .str), poolC (itemsP n p).2 :: μ) :=
  callM_1 (k := 0) rfl rfl (by simp only [List.map_cons, List.map_nil, renum, List.idxOf_cons_self]; exact (F_items G p hn).1) rfl rfl
theorem C_bent (G : Gb) (p : Pl) {sts : List (Bool × Str)} (hn : sts.length ≤ 1000) {o : D} (ho : Od o) {μ : List CC} : callM (F__law_bent_steps G) [.cell 0, .d (.lst (sts.map stD)), .d o] (poolC p :: μ) =
      some (.new [.lst ((sts.take (bentP sts.length o p).1).map stD ++ [(bentP sts.length o p).2.1] ++ (sts.drop (bentP sts.length o p).1).map stD), .tup ((sts.take (bentP sts.length o p).1).map stD ++ [(bentP sts.length o p).2.1]), .lst (sts.map stD ++ [.tup [.str "push", .str "a"], (bentP sts.length o p).2.1])], poolC (bentP sts.length o p).2.2 :: μ) :=
  callM_1 (k := 0) rfl rfl (by simp only [List.map_cons, List.map_nil, renum, List.idxOf_cons_self]; exact (F_bent G p hn ho).1) rfl rfl
theorem wr_st {st : Bool × Str} (h : okItem st.2 = true) : Wr (stD st) := ⟨stD_odd h, (fun xs e x hx => by
  have e' : xs = [.str (actS st.1), .str st.2] := by cases e; rfl
  subst e'
  rcases List.mem_cons.mp hx with q | q
  · rw [q]; exact fun ns z => by cases z
  · rw [List.mem_singleton.mp q]; exact fun ns z => by cases z), fun ns e => by cases e⟩
theorem sh_st {st : Bool × Str} (h : okItem st.2 = true) : Sh (stD st) 4000 3 := (sh_step h).mono (by decide) (by decide)
theorem se_st {st : Bool × Str} (h : okItem st.2 = true) : Se (stD st) 4000 3 := (se_of (sh_step h) (by unfold stD; simp [D.noL, D.noLs]) (by unfold stD; simp [D.pyE, D.pyEs, D.py, D.pyAll])).mono (by decide) (by decide)
/-- parts that may be shown either way, and one more -/
theorem sw_mid {as bs : List D} {w : D} (ha : ∀ d ∈ as, Sh d 4000 3 ∧ Se d 4000 3) (hb : ∀ d ∈ bs, Sh d 4000 3 ∧ Se d 4000 3) (hw : S1 w) : SW (as ++ [w] ++ bs) := by
  have go : ∀ {P : D → Prop}, (∀ d ∈ as, P d) → P w → (∀ d ∈ bs, P d) → ∀ d ∈ as ++ [w] ++ bs, P d := fun h1 h2 h3 d hd => by
    rcases List.mem_append.mp hd with q | q
    · rcases List.mem_append.mp q with q | q
      · exact h1 d q
      · rw [List.mem_singleton.mp q]; exact h2
    · exact h3 d q
  exact hw.imp (fun s => go (fun d hd => (ha d hd).1) s fun d hd => (hb d hd).1) fun s => go (fun d hd => (ha d hd).2) s fun d hd => (hb d hd).2
theorem wr_mid {as bs : List D} {w : D} (ha : ∀ d ∈ as, Wr d) (hb : ∀ d ∈ bs, Wr d) (hw : Wr w) : ∀ d ∈ as ++ [w] ++ bs, Wr d := fun d hd => by
  rcases List.mem_append.mp hd with q | q
  · rcases List.mem_append.mp q with q | q
    · exact ha d q
    · rw [List.mem_singleton.mp q]; exact hw
  · exact hb d q
theorem wr_sts {sts : List (Bool × Str)} (h : ∀ st ∈ sts, okItem st.2 = true) : ∀ d ∈ sts.map stD, Wr d := fun d hd => by obtain ⟨st, hs, rfl⟩ := List.mem_map.mp hd; exact wr_st (h st hs)
theorem sz_sts {sts : List (Bool × Str)} (h : ∀ st ∈ sts, okItem st.2 = true) : ∀ d ∈ sts.map stD, Sh d 4000 3 ∧ Se d 4000 3 := fun d hd => by obtain ⟨st, hs, rfl⟩ := List.mem_map.mp hd; exact ⟨sh_st (h st hs), se_st (h st hs)⟩
theorem wr_strs {ss : List Str} (h : ∀ s ∈ ss, okItem s = true) : ∀ d ∈ ss.map D.str, Wr d := fun d hd => by obtain ⟨s, hs, rfl⟩ := List.mem_map.mp hd; exact wr_sx (sx_item (h s hs))
theorem sz_strs {ss : List Str} (h : ∀ s ∈ ss, okItem s = true) : ∀ d ∈ ss.map D.str, Sh d 4000 3 ∧ Se d 4000 3 := fun d hd => by
  obtain ⟨s, hs, rfl⟩ := List.mem_map.mp hd
  exact ⟨(sh_sx (sx_item (h s hs))).mono (by decide) (by decide), (se_sx (sx_item (h s hs))).mono (by decide) (by decide)⟩
theorem joinL_nil : ∀ ps : List (List Nat), TL.joinL [] ps = ps.flatten
  | [] => rfl
  | [p] => by show p = p ++ []; simp
  | p :: q :: r => by
    show p ++ ([] ++ TL.joinL [] (q :: r)) = p ++ (q :: r).flatten
    rw [joinL_nil (q :: r), List.nil_append]
theorem join_list (ss : List Str) : (Txt.join ("" : Str) ss).cps.toList = (ss.map fun s => s.cps.toList).flatten := by
  have e0 : TL.tl ("" : Str) = [] := by decide +kernel
  have e := TL.tl_join ("" : Str) ss
  rw [e0, joinL_nil] at e
  rw [TL.join_eq]
  exact e
theorem sx_join {ss : List Str} (h : ∀ s ∈ ss, okItem s = true) (hl : ss.length ≤ 10) : Sx (Txt.join ("" : Str) ss) := by
  refine ⟨?_, fun c hc => ?_⟩
  · have e : (Txt.join ("" : Str) ss).length = (Txt.join ("" : Str) ss).cps.toList.length := by rw [Array.length_toList]; rfl
    rw [e, join_list]
    have go : ∀ ts : List Str, (∀ s ∈ ts, okItem s = true) → ((ts.map fun s => s.cps.toList).flatten).length ≤ 8 * ts.length := by
      intro ts
      induction ts with
      | nil => intro _; exact Nat.le_refl _
      | cons t ts ih =>
        intro ht
        have h1 := okItem_len (ht t List.mem_cons_self)
        have h2 := ih fun s hs => ht s (List.mem_cons_of_mem _ hs)
        have h3 : t.cps.toList.length = t.length := Array.length_toList
        rw [List.map_cons, List.flatten_cons, List.length_append, List.length_cons]
        omega
    have := go ss h
    omega
  · rw [join_list] at hc
    obtain ⟨l, hl2, hc2⟩ := List.mem_flatten.mp hc
    obtain ⟨s, hs, rfl⟩ := List.mem_map.mp hl2
    exact (sx_item (h s hs)).2 c hc2
theorem join_sum {ss : List Str} (h : ∀ s ∈ ss, okItem s = true) (hl : ss.length ≤ 10) : (ss.map (·.length)).sum + ss.length * ("" : Str).length ≤ 16777216 := by
  have e0 : ("" : Str).length = 0 := by decide +kernel
  have go : ∀ ts : List Str, (∀ s ∈ ts, okItem s = true) → (ts.map (·.length)).sum ≤ 8 * ts.length := by
    intro ts
    induction ts with
    | nil => intro _; exact Nat.le_refl _
    | cons t ts ih =>
      intro ht
      have h1 := okItem_len (ht t List.mem_cons_self)
      have h2 := ih fun s hs => ht s (List.mem_cons_of_mem _ hs)
      rw [List.map_cons, List.sum_cons, List.length_cons]
      omega
  have := go ss h
  rw [e0]
  omega
def pA : D := .tup [.str "push", .str "a"]
theorem flat_rep {α : Type} (x : α) : ∀ n : Nat, (List.replicate n [x]).flatten = List.replicate n x
  | 0 => rfl
  | n + 1 => by rw [List.replicate_succ, List.flatten_cons, flat_rep x n, List.replicate_succ]; rfl
theorem odd_pA : OddT pA ∧ NoFz pA := by
  have := wr_st (st := (true, "a")) (by decide +kernel)
  exact ⟨this.o, this.nz⟩
theorem F_law' (G : Gb) (hT : G.sub (G.at_ "InvalidSteps") (.ref (G.at_ "InvalidSteps")) = some true) (ns : List Int) (hns : ns.length ≤ 63) : F_law G [.d (.fz ns)] [] = some (.ret (.d (.bl true)), []) := by
  have hm : (max 1 (min (ns.length : Int) 8)).toNat ≤ 8 := by omega
  unfold F_law x_law
  generalize hN : (1000 : Int) = N
  generalize hM : (1500 : Int) = M
  have hN1 : N.toNat = 1000 := by omega
  have hM1 : M.toNat = 1500 := by omega
  have stp : isStep pA = true := by decide +kernel
  have hx1 : ∀ k : Nat, k ≤ 2000 → OddS (.lst (List.replicate k pA)) := fun k hk => ⟨rfl, (fun ns e => by cases e), fun xs e => by cases e; exact ⟨by rw [List.length_replicate]; omega, fun x hx => by rw [List.eq_of_mem_replicate hx]; exact odd_pA.1⟩⟩
  have sq : ∀ k : Nat, k ≤ 2000 → F_is_sequence G [.d (.lst (List.replicate k pA))] [] = some (.ret (.d (.bl (!decide (1000 < k)))), []) := fun k hk => by
    have e := F_is_seq' G hT (hx1 k hk)
    rw [(seq_all _).1, List.length_replicate, show (List.replicate k pA).all isStep = true from List.all_eq_true.mpr fun x hx => by rw [List.eq_of_mem_replicate hx]; exact stp, Bool.and_true] at e
    exact e
  have sA := sq 1000 (by omega)
  have sB := sq 1001 (by omega)
  have hmul : ∀ μ, mulF (.d (.lst [.tup [.str "push", .str "a"]])) (.d (.int N)) μ = some (.d (.lst (List.replicate N.toNat pA))) := fun μ => by
    rw [mul_li, if_pos (by refine ⟨by omega, ?_, by omega⟩; show 1 * N.toNat ≤ 100000; omega), flat_rep]; rfl
  have hmulT : ∀ μ, mulF (.d (.tup [.str "a"])) (.d (.int M)) μ = some (.d (.tup (List.replicate M.toNat (.str "a")))) := fun μ => by
    show (if _ then _ else _) = _
    rw [if_pos ⟨by simp, by omega, by show ((1 : Nat) : Int) * M ≤ 1000000; omega⟩, flat_rep]
  have hadd : ∀ μ, addF (.d (.lst (List.replicate N.toNat pA))) (.d (.lst ((List.replicate N.toNat pA).take 1))) μ = some (.d (.lst (List.replicate 1001 pA))) := fun μ => by
    rw [add_ll, if_pos (by rw [List.length_take, List.length_replicate]; omega), hN1, List.take_replicate, List.replicate_append_replicate]; rfl
  have hwd : F_is_word G [.d (.tup (List.replicate M.toNat (.str "a")))] [] = some (.ret (.d (.bl true)), []) := by
    have ia : isItem (.str "a") = true := by decide +kernel
    have sxa : Sx "a" := sx_const _ (by simp)
    have e := F_is_word' G (d := .tup (List.replicate M.toNat (.str "a"))) ⟨⟨rfl, fun s e => by cases e⟩, fun xs e => by cases e; exact ⟨by rw [List.length_replicate]; omega, fun x hx => by rw [List.eq_of_mem_replicate hx]; exact (wr_sx sxa).o.1⟩⟩
    rw [show isWord (.tup (List.replicate M.toNat (.str "a"))) = true from List.all_eq_true.mpr fun x hx => by rw [List.eq_of_mem_replicate hx]; exact ia] at e
    exact e
  rw [← hN1] at sA
  generalize List.replicate 1001 pA = L1001 at *
  generalize List.replicate N.toNat pA = LN at *
  generalize List.replicate M.toNat (D.str "a") = LM at *
  walk_at "fxh"
  generalize hz : runFor _ _ _ _ _ _ _ = z
  obtain ⟨rfl, -⟩ := for_fold (fun k => AV.d (nD k)) (fun _ : Unit => [some (.d (.fz ns)), none, none, none, none, none, none, none, none, none, none]) (fun _ => []) (fun _ _ => ()) (fun _ _ => True) () hz rfl rfl (fun _ => rfl) trivial (fun i b a ha _ => by
    have ha8 : a < 8 := by
      have := List.mem_range.mp (List.mem_of_getElem? ha)
      omega
    have hpool := F_pool G ns (k := (a : Int)) (by omega) (by omega)
    have hq := takeP_lt (n := 4) (mkPool ns a) (by omega)
    have hI := C_items G (takeP 4 (mkPool ns a)).2 (n := 1 + (takeP 4 (mkPool ns a)).1) (by omega) (μ := [])
    obtain ⟨-, il, -, iok⟩ := F_items G (takeP 4 (mkPool ns a)).2 (n := 1 + (takeP 4 (mkPool ns a)).1) (by omega)
    generalize hits : itemsP (1 + (takeP 4 (mkPool ns a)).1) (takeP 4 (mkPool ns a)).2 = ip at hI il iok
    obtain ⟨its, p0⟩ := ip
    dsimp only at hI il iok
    rw [show ((1 + (takeP 4 (mkPool ns a)).1 : Nat) : Int) = 1 + ((takeP 4 (mkPool ns a)).1 : Int) from by omega] at hI
    have i1 : 0 < its.length := by omega
    have i2 : its.length ≤ 1000 := by omega
    have i10 : its.length ≤ 10 := by omega
    have hW := C_word G i1 i2 (most := 6) (by omega) p0 (μ := [])
    obtain ⟨-, q3, q4⟩ := F_word G i1 i2 (most := 6) (by omega) p0
    generalize wordP its 6 p0 = wp at hW q3 q4
    obtain ⟨wd, p1⟩ := wp
    dsimp only at hW q3 q4
    have hwok : ∀ s ∈ wd, okItem s = true := fun s hs => iok _ (q3 s hs)
    have hq2 := takeP_lt (n := 12) p1 (by omega)
    have hS := C_steps G i1 i2 (many := (takeP 12 p1).1) (by omega) (takeP 12 p1).2 (μ := [])
    obtain ⟨-, q1, q2⟩ := F_steps G i1 i2 (many := (takeP 12 p1).1) (by omega) (takeP 12 p1).2
    generalize stepsP its (takeP 12 p1).1 (takeP 12 p1).2 = sp at hS q1 q2
    obtain ⟨sts, held, g, p2⟩ := sp
    dsimp only at hS q1 q2
    have hsok : ∀ st ∈ sts, okItem st.2 = true := fun st hs => iok _ (q2 st hs)
    have hsn : sts.length ≤ 20 := by omega
    have h0 : L2.atI (its.map D.str) 0 = some (.str (its.getD 0 "")) := its_at i1
    have hx := iok _ (its_mem i1)
    generalize its.getD 0 "" = x at h0 hx
    have hO := C_odd G p2 hx (μ := [])
    have od := (F_odd G p2 hx).2
    generalize oddP x p2 = o at hO od
    have hq3 := takeP_lt (n := wd.length + 1) (takeP 15 p2).2 (by omega)
    have hC := C_take0 G (μ := []) (p := (takeP 15 p2).2) (z := (wd.length : Int) + 1) (by omega) (by omega)
    rw [show ((wd.length : Int) + 1).toNat = wd.length + 1 by omega] at hC
    generalize (takeP (wd.length + 1) (takeP 15 p2).2).1 = at_ at hC hq3
    generalize (takeP (wd.length + 1) (takeP 15 p2).2).2 = p3 at hC
    have hB := C_bent G p3 (sts := sts) (by omega) od (μ := [])
    obtain ⟨-, bw, bs⟩ := F_bent G p3 (sts := sts) (by omega) od
    generalize bentP sts.length o p3 = bp at hB bw bs
    obtain ⟨n8, w, p4⟩ := bp
    dsimp only at hB bw bs
    have hc1 := cut_toN (xs := wd) (n := at_) (by omega)
    have hc2 := cut_fromN (xs := wd) (n := at_) (by omega)
    have ht : (wd.take at_).length ≤ 1000 := by rw [List.length_take]; omega
    have hd : (wd.drop at_).length ≤ 1000 := by rw [List.length_drop]; omega
    have hjs := join_sum iok i10
    rw [il] at hjs
    have hsx := sx_join iok i10
    have hJ := e_strs its
    have tk : ∀ n, ∀ s ∈ wd.take n, okItem s = true := fun n s hs => hwok s (List.mem_of_mem_take hs)
    have dr : ∀ n, ∀ s ∈ wd.drop n, okItem s = true := fun n s hs => hwok s (List.mem_of_mem_drop hs)
    have tks : ∀ n, ∀ s ∈ sts.take n, okItem s.2 = true := fun n s hs => hsok s (List.mem_of_mem_take hs)
    have drs : ∀ n, ∀ s ∈ sts.drop n, okItem s.2 = true := fun n s hs => hsok s (List.mem_of_mem_drop hs)
    have k2 : Lk (wD wd) := lk_tup (wr_strs hwok) (by rw [List.length_map]; omega) (.inl fun d hd => (sz_strs hwok d hd).1)
    have k3 : Lk (.lst (wd.map .str)) := lk_lst (wr_strs hwok) (by rw [List.length_map]; omega) (.inl fun d hd => (sz_strs hwok d hd).1)
    have k4 : Lk (.lst (sts.map stD)) := lk_lst (wr_sts hsok) (by rw [List.length_map]; omega) (.inl fun d hd => (sz_sts hsok d hd).1)
    have k5 : Lk (.tup (sts.map stD)) := lk_tup (wr_sts hsok) (by rw [List.length_map]; omega) (.inl fun d hd => (sz_sts hsok d hd).1)
    have k6 : Lk (.tup ((wd.take at_).map .str ++ [o] ++ (wd.drop at_).map .str)) := lk_tup (wr_mid (wr_strs (tk _)) (wr_strs (dr _)) od.w) (by simp; omega) (sw_mid (sz_strs (tk _)) (sz_strs (dr _)) (od_sz od))
    have k7 : Lk (.str (Txt.join "" its)) := lk_sx hsx
    have ht2 : ∀ n, (sts.take n).length ≤ 1000 := fun n => by rw [List.length_take]; omega
    have hd2 : ∀ n, (sts.drop n).length ≤ 1000 := fun n => by rw [List.length_drop]; omega
    have b1 : Lk (.lst ((sts.take n8).map stD ++ [w] ++ (sts.drop n8).map stD)) := lk_lst (wr_mid (wr_sts (tks _)) (wr_sts (drs _)) bw) (by simp; omega) (sw_mid (sz_sts (tks _)) (sz_sts (drs _)) bs)
    have b2 : Lk (.tup ((sts.take n8).map stD ++ [w])) := by
      have e := lk_tup (ds := (sts.take n8).map stD ++ [w] ++ []) (wr_mid (wr_sts (tks _)) (fun d hd => nomatch hd) bw) (by simp; omega) (sw_mid (sz_sts (tks _)) (fun d hd => nomatch hd) bs)
      rw [List.append_nil] at e; exact e
    have a1 : okItem "a" = true := by decide +kernel
    have b3 : Lk (.lst (sts.map stD ++ [.tup [.str "push", .str "a"], w])) := by
      have ok2 : ∀ st ∈ sts ++ [(true, ("a" : Str))], okItem st.2 = true := fun st hs => by
        rcases List.mem_append.mp hs with q | q
        · exact hsok st q
        · rw [List.mem_singleton.mp q]; exact a1
      have e := lk_lst (ds := (sts ++ [(true, ("a" : Str))]).map stD ++ [w] ++ []) (wr_mid (wr_sts ok2) (fun d hd => nomatch hd) bw) (by simp; omega) (sw_mid (sz_sts ok2) (fun d hd => nomatch hd) bs)
      rw [List.append_nil, List.map_append, List.append_assoc] at e
      exact e
    have hkey : ∀ d, d ∈ (its.map D.str ++ [wD wd, .lst (wd.map .str), .lst (sts.map stD), .tup (sts.map stD), o, .tup ((wd.take at_).map .str ++ [o] ++ (wd.drop at_).map .str), .str (Txt.join "" its)]) ++ [.lst ((sts.take n8).map stD ++ [w] ++ (sts.drop n8).map stD), .tup ((sts.take n8).map stD ++ [w]), .lst (sts.map stD ++ [.tup [.str "push", .str "a"], w])] → Lk d := fun d hd => by
      rcases List.mem_append.mp hd with q | q
      · rcases List.mem_append.mp q with q | q
        · obtain ⟨s, hs, rfl⟩ := List.mem_map.mp q
          exact lk_sx (sx_item (iok s hs))
        · simp only [List.mem_cons, List.not_mem_nil, or_false] at q
          rcases q with rfl | rfl | rfl | rfl | rfl | rfl | rfl
          · exact k2
          · exact k3
          · exact k4
          · exact k5
          · exact od.l
          · exact k6
          · exact k7
      · simp only [List.mem_cons, List.not_mem_nil, or_false] at q
        rcases q with rfl | rfl | rfl
        · exact b1
        · exact b2
        · exact b3
    clear k2 k3 k4 k5 k6 k7 b1 b2 b3 bw bs tk dr tks drs od hsx hwok hsok q1 q2 q3 q4 iok hx a1
    have c6 : ((6 : Nat) : Int) = 6 := rfl
    simp only [wD, c6] at hW
    simp only [wD] at hkey
    refine ⟨_, rfl, ?_⟩
    apply turn_nx
    case h =>
      walk_at "fxh"
      generalize hz : runFor _ _ _ _ _ _ _ = z
      obtain ⟨rfl, -⟩ := for_fold (fun d => AV.d d) (fun _ : Unit => [some (.d (.fz ns)), none, none, none, none, none, none, none, none, none, none]) (fun _ => [poolC p4]) (fun _ _ => ()) (fun _ _ => True) () hz rfl rfl (fun _ => rfl) trivial (fun i b a ha _ => by
        have hL := F_lright G hT (hkey a (by
          have := List.mem_of_getElem? ha
          simpa only [List.append_assoc, List.cons_append, List.nil_append] using this))
        refine ⟨_, rfl, ?_⟩
        apply turn_nx
        case h => walk_at "fxh"; exact rfl
        · rfl
        · rfl
        · trivial)
      walk_at "fxh"
      exact rfl
    · rfl
    · rfl
    · trivial)
  walk_at "fxh"
  rfl

end
end Law
theorem Law.exm_sub {K : PySem.W.Frag} {A S : PySem.Addr} {b : Bool} (h1 : PySem.W.subIn K (.ref S) (.type "BaseException") = some true) (h2 : PySem.W.isClsIn K S = true) (h3 : PySem.W.typeIn K (.ref S) = some (.type "type")) (h4 : PySem.W.subIn K (.ref A) (.ref S) = some b) :
    PySem.W.exmOne K (.ref A) (.ref S) = some b := by
  have e1 : (PySem.W.subIn K (.ref S) (.type "BaseException") == some true) = true := by rw [h1] <;> rfl
  have e2 : ((PySem.W.clsIn K S).isSome && PySem.W.typeIn K (.ref S) == some (.type "type")) = true := by
    have h2q : (PySem.W.clsIn K S).isSome = true := h2
    rw [h2q, h3] <;> rfl
  show (if (PySem.W.subIn K (.ref S) (.type "BaseException") == some true) = true then (if ((PySem.W.clsIn K S).isSome && PySem.W.typeIn K (.ref S) == some (.type "type")) = true then PySem.W.subIn K (.ref A) (.ref S) else none) else none) = some b
  rw [if_pos e1, if_pos e2]
  exact h4
open PySem PySem.Spec PyProof.Rows L2 DL FX in
theorem Law.all_mk {l : PySem.W.OpenLaw} {w : World} {K : PySem.W.Frag} {h : Heap} {mg : Str → Option Value} {fa f0 f1 f2 f3 f4 f5 f6 f7 f8 f9 f10 f11 f12 f13 f14 f15 f16 f17 f18 f19 : Addr} (X : K.In h) (Gn : h.Ns mainGlobals mg) (hfa : mg "law" = some (.ref fa))
    {od0 an0 : Option Addr} {sl0 : Array (Option Value)} {oc0 kV0 dc0 pm0 cd0 ct0 : Value}
    (a0 : PySem.W.nsIn K mainGlobals "_law_pool" = some (some (.ref f0))) (l0 : K.lookup f0 = some ⟨oc0, od0, .func (PySem.W.fnOf "_law_pool" "_law_pool" (defArgs Law.st__law_pool) (defBody Law.st__law_pool) (defScope Law.st__law_pool) .none kV0 dc0 pm0 an0 cd0 ct0), sl0⟩) (c0 : PySem.W.codeIn K cd0 "_law_pool" = true) (k0 : PySem.W.keepIn K (.ref f0) = true)
    {od1 an1 : Option Addr} {sl1 : Array (Option Value)} {oc1 kV1 dc1 pm1 cd1 ct1 : Value}
    (a1 : PySem.W.nsIn K mainGlobals "_law_take" = some (some (.ref f1))) (l1 : K.lookup f1 = some ⟨oc1, od1, .func (PySem.W.fnOf "_law_take" "_law_take" (defArgs Law.st__law_take) (defBody Law.st__law_take) (defScope Law.st__law_take) .none kV1 dc1 pm1 an1 cd1 ct1), sl1⟩) (c1 : PySem.W.codeIn K cd1 "_law_take" = true) (k1 : PySem.W.keepIn K (.ref f1) = true)
    {od2 an2 : Option Addr} {sl2 : Array (Option Value)} {oc2 kV2 dc2 pm2 cd2 ct2 : Value}
    (a2 : PySem.W.nsIn K mainGlobals "_law_name" = some (some (.ref f2))) (l2 : K.lookup f2 = some ⟨oc2, od2, .func (PySem.W.fnOf "_law_name" "_law_name" (defArgs Law.st__law_name) (defBody Law.st__law_name) (defScope Law.st__law_name) .none kV2 dc2 pm2 an2 cd2 ct2), sl2⟩) (c2 : PySem.W.codeIn K cd2 "_law_name" = true) (k2 : PySem.W.keepIn K (.ref f2) = true)
    {od3 an3 : Option Addr} {sl3 : Array (Option Value)} {oc3 kV3 dc3 pm3 cd3 ct3 : Value}
    (a3 : PySem.W.nsIn K mainGlobals "_law_items" = some (some (.ref f3))) (l3 : K.lookup f3 = some ⟨oc3, od3, .func (PySem.W.fnOf "_law_items" "_law_items" (defArgs Law.st__law_items) (defBody Law.st__law_items) (defScope Law.st__law_items) .none kV3 dc3 pm3 an3 cd3 ct3), sl3⟩) (c3 : PySem.W.codeIn K cd3 "_law_items" = true) (k3 : PySem.W.keepIn K (.ref f3) = true)
    {od4 an4 : Option Addr} {sl4 : Array (Option Value)} {oc4 kV4 dc4 pm4 cd4 ct4 : Value}
    (a4 : PySem.W.nsIn K mainGlobals "_law_word" = some (some (.ref f4))) (l4 : K.lookup f4 = some ⟨oc4, od4, .func (PySem.W.fnOf "_law_word" "_law_word" (defArgs Law.st__law_word) (defBody Law.st__law_word) (defScope Law.st__law_word) .none kV4 dc4 pm4 an4 cd4 ct4), sl4⟩) (c4 : PySem.W.codeIn K cd4 "_law_word" = true) (k4 : PySem.W.keepIn K (.ref f4) = true)
    {od5 an5 : Option Addr} {sl5 : Array (Option Value)} {oc5 kV5 dc5 pm5 cd5 ct5 : Value}
    (a5 : PySem.W.nsIn K mainGlobals "is_item" = some (some (.ref f5))) (l5 : K.lookup f5 = some ⟨oc5, od5, .func (PySem.W.fnOf "is_item" "is_item" (defArgs Law.st_is_item) (defBody Law.st_is_item) (defScope Law.st_is_item) .none kV5 dc5 pm5 an5 cd5 ct5), sl5⟩) (c5 : PySem.W.codeIn K cd5 "is_item" = true) (k5 : PySem.W.keepIn K (.ref f5) = true)
    {od6 an6 : Option Addr} {sl6 : Array (Option Value)} {oc6 kV6 dc6 pm6 cd6 ct6 : Value}
    (a6 : PySem.W.nsIn K mainGlobals "is_word" = some (some (.ref f6))) (l6 : K.lookup f6 = some ⟨oc6, od6, .func (PySem.W.fnOf "is_word" "is_word" (defArgs Law.st_is_word) (defBody Law.st_is_word) (defScope Law.st_is_word) .none kV6 dc6 pm6 an6 cd6 ct6), sl6⟩) (c6 : PySem.W.codeIn K cd6 "is_word" = true) (k6 : PySem.W.keepIn K (.ref f6) = true)
    {od7 an7 : Option Addr} {sl7 : Array (Option Value)} {oc7 kV7 dc7 pm7 cd7 ct7 : Value}
    (a7 : PySem.W.nsIn K mainGlobals "is_step" = some (some (.ref f7))) (l7 : K.lookup f7 = some ⟨oc7, od7, .func (PySem.W.fnOf "is_step" "is_step" (defArgs Law.st_is_step) (defBody Law.st_is_step) (defScope Law.st_is_step) .none kV7 dc7 pm7 an7 cd7 ct7), sl7⟩) (c7 : PySem.W.codeIn K cd7 "is_step" = true) (k7 : PySem.W.keepIn K (.ref f7) = true)
    {od8 an8 : Option Addr} {sl8 : Array (Option Value)} {oc8 kV8 dc8 pm8 cd8 ct8 : Value}
    (a8 : PySem.W.nsIn K mainGlobals "check_parts" = some (some (.ref f8))) (l8 : K.lookup f8 = some ⟨oc8, od8, .func (PySem.W.fnOf "check_parts" "check_parts" (defArgs Law.st_check_parts) (defBody Law.st_check_parts) (defScope Law.st_check_parts) .none kV8 dc8 pm8 an8 cd8 ct8), sl8⟩) (c8 : PySem.W.codeIn K cd8 "check_parts" = true) (k8 : PySem.W.keepIn K (.ref f8) = true)
    {od9 an9 : Option Addr} {sl9 : Array (Option Value)} {oc9 kV9 dc9 pm9 cd9 ct9 : Value}
    (a9 : PySem.W.nsIn K mainGlobals "check_steps" = some (some (.ref f9))) (l9 : K.lookup f9 = some ⟨oc9, od9, .func (PySem.W.fnOf "check_steps" "check_steps" (defArgs Law.st_check_steps) (defBody Law.st_check_steps) (defScope Law.st_check_steps) .none kV9 dc9 pm9 an9 cd9 ct9), sl9⟩) (c9 : PySem.W.codeIn K cd9 "check_steps" = true) (k9 : PySem.W.keepIn K (.ref f9) = true)
    {od10 an10 : Option Addr} {sl10 : Array (Option Value)} {oc10 kV10 dc10 pm10 cd10 ct10 : Value}
    (a10 : PySem.W.nsIn K mainGlobals "_law_steps" = some (some (.ref f10))) (l10 : K.lookup f10 = some ⟨oc10, od10, .func (PySem.W.fnOf "_law_steps" "_law_steps" (defArgs Law.st__law_steps) (defBody Law.st__law_steps) (defScope Law.st__law_steps) .none kV10 dc10 pm10 an10 cd10 ct10), sl10⟩) (c10 : PySem.W.codeIn K cd10 "_law_steps" = true) (k10 : PySem.W.keepIn K (.ref f10) = true)
    {od11 an11 : Option Addr} {sl11 : Array (Option Value)} {oc11 kV11 dc11 pm11 cd11 ct11 : Value}
    (a11 : PySem.W.nsIn K mainGlobals "is_sequence" = some (some (.ref f11))) (l11 : K.lookup f11 = some ⟨oc11, od11, .func (PySem.W.fnOf "is_sequence" "is_sequence" (defArgs Law.st_is_sequence) (defBody Law.st_is_sequence) (defScope Law.st_is_sequence) .none kV11 dc11 pm11 an11 cd11 ct11), sl11⟩) (c11 : PySem.W.codeIn K cd11 "is_sequence" = true) (k11 : PySem.W.keepIn K (.ref f11) = true)
    {od12 an12 : Option Addr} {sl12 : Array (Option Value)} {oc12 kV12 dc12 pm12 cd12 ct12 : Value}
    (a12 : PySem.W.nsIn K mainGlobals "_law_odd" = some (some (.ref f12))) (l12 : K.lookup f12 = some ⟨oc12, od12, .func (PySem.W.fnOf "_law_odd" "_law_odd" (defArgs Law.st__law_odd) (defBody Law.st__law_odd) (defScope Law.st__law_odd) .none kV12 dc12 pm12 an12 cd12 ct12), sl12⟩) (c12 : PySem.W.codeIn K cd12 "_law_odd" = true) (k12 : PySem.W.keepIn K (.ref f12) = true)
    {od13 an13 : Option Addr} {sl13 : Array (Option Value)} {oc13 kV13 dc13 pm13 cd13 ct13 : Value}
    (a13 : PySem.W.nsIn K mainGlobals "_law_is_item" = some (some (.ref f13))) (l13 : K.lookup f13 = some ⟨oc13, od13, .func (PySem.W.fnOf "_law_is_item" "_law_is_item" (defArgs Law.st__law_is_item) (defBody Law.st__law_is_item) (defScope Law.st__law_is_item) .none kV13 dc13 pm13 an13 cd13 ct13), sl13⟩) (c13 : PySem.W.codeIn K cd13 "_law_is_item" = true) (k13 : PySem.W.keepIn K (.ref f13) = true)
    {od14 an14 : Option Addr} {sl14 : Array (Option Value)} {oc14 kV14 dc14 pm14 cd14 ct14 : Value}
    (a14 : PySem.W.nsIn K mainGlobals "_law_is_word" = some (some (.ref f14))) (l14 : K.lookup f14 = some ⟨oc14, od14, .func (PySem.W.fnOf "_law_is_word" "_law_is_word" (defArgs Law.st__law_is_word) (defBody Law.st__law_is_word) (defScope Law.st__law_is_word) .none kV14 dc14 pm14 an14 cd14 ct14), sl14⟩) (c14 : PySem.W.codeIn K cd14 "_law_is_word" = true) (k14 : PySem.W.keepIn K (.ref f14) = true)
    {od15 an15 : Option Addr} {sl15 : Array (Option Value)} {oc15 kV15 dc15 pm15 cd15 ct15 : Value}
    (a15 : PySem.W.nsIn K mainGlobals "_law_is_step" = some (some (.ref f15))) (l15 : K.lookup f15 = some ⟨oc15, od15, .func (PySem.W.fnOf "_law_is_step" "_law_is_step" (defArgs Law.st__law_is_step) (defBody Law.st__law_is_step) (defScope Law.st__law_is_step) .none kV15 dc15 pm15 an15 cd15 ct15), sl15⟩) (c15 : PySem.W.codeIn K cd15 "_law_is_step" = true) (k15 : PySem.W.keepIn K (.ref f15) = true)
    {od16 an16 : Option Addr} {sl16 : Array (Option Value)} {oc16 kV16 dc16 pm16 cd16 ct16 : Value}
    (a16 : PySem.W.nsIn K mainGlobals "_law_is_sequence" = some (some (.ref f16))) (l16 : K.lookup f16 = some ⟨oc16, od16, .func (PySem.W.fnOf "_law_is_sequence" "_law_is_sequence" (defArgs Law.st__law_is_sequence) (defBody Law.st__law_is_sequence) (defScope Law.st__law_is_sequence) .none kV16 dc16 pm16 an16 cd16 ct16), sl16⟩) (c16 : PySem.W.codeIn K cd16 "_law_is_sequence" = true) (k16 : PySem.W.keepIn K (.ref f16) = true)
    {od17 an17 : Option Addr} {sl17 : Array (Option Value)} {oc17 kV17 dc17 pm17 cd17 ct17 : Value}
    (a17 : PySem.W.nsIn K mainGlobals "_law_right" = some (some (.ref f17))) (l17 : K.lookup f17 = some ⟨oc17, od17, .func (PySem.W.fnOf "_law_right" "_law_right" (defArgs Law.st__law_right) (defBody Law.st__law_right) (defScope Law.st__law_right) .none kV17 dc17 pm17 an17 cd17 ct17), sl17⟩) (c17 : PySem.W.codeIn K cd17 "_law_right" = true) (k17 : PySem.W.keepIn K (.ref f17) = true)
    {od18 an18 : Option Addr} {sl18 : Array (Option Value)} {oc18 kV18 dc18 pm18 cd18 ct18 : Value}
    (a18 : PySem.W.nsIn K mainGlobals "_law_bent_steps" = some (some (.ref f18))) (l18 : K.lookup f18 = some ⟨oc18, od18, .func (PySem.W.fnOf "_law_bent_steps" "_law_bent_steps" (defArgs Law.st__law_bent_steps) (defBody Law.st__law_bent_steps) (defScope Law.st__law_bent_steps) .none kV18 dc18 pm18 an18 cd18 ct18), sl18⟩) (c18 : PySem.W.codeIn K cd18 "_law_bent_steps" = true) (k18 : PySem.W.keepIn K (.ref f18) = true)
    {od19 an19 : Option Addr} {sl19 : Array (Option Value)} {oc19 kV19 dc19 pm19 cd19 ct19 : Value}
    (a19 : PySem.W.nsIn K mainGlobals "law" = some (some (.ref f19))) (l19 : K.lookup f19 = some ⟨oc19, od19, .func (PySem.W.fnOf "law" "law" (defArgs Law.st_law) (defBody Law.st_law) (defScope Law.st_law) .none kV19 dc19 pm19 an19 cd19 ct19), sl19⟩) (c19 : PySem.W.codeIn K cd19 "law" = true) (k19 : PySem.W.keepIn K (.ref f19) = true)
    (z_int : PySem.W.nsIn K mainGlobals "int" = some none)
    (z_abs : PySem.W.nsIn K mainGlobals "abs" = some none)
    (z_len : PySem.W.nsIn K mainGlobals "len" = some none)
    (z_range : PySem.W.nsIn K mainGlobals "range" = some none)
    (z_tuple : PySem.W.nsIn K mainGlobals "tuple" = some none)
    (z_all : PySem.W.nsIn K mainGlobals "all" = some none)
    (z_isinstance : PySem.W.nsIn K mainGlobals "isinstance" = some none)
    (z_str : PySem.W.nsIn K mainGlobals "str" = some none)
    (z_enumerate : PySem.W.nsIn K mainGlobals "enumerate" = some none)
    (z_list : PySem.W.nsIn K mainGlobals "list" = some none)
    (z_repr : PySem.W.nsIn K mainGlobals "repr" = some none)
    (z_max : PySem.W.nsIn K mainGlobals "max" = some none)
    (z_min : PySem.W.nsIn K mainGlobals "min" = some none)
    {u_LETTERS : _} (y_LETTERS : PySem.W.nsIn K mainGlobals "LETTERS" = some (some (.str "abcdefghijklmnopqrstuvwxyz" u_LETTERS)))
    {u_MAX_LENGTH : _} (y_MAX_LENGTH : PySem.W.nsIn K mainGlobals "MAX_LENGTH" = some (some (.int 8 u_MAX_LENGTH)))
    {u_PUSH : _} (y_PUSH : PySem.W.nsIn K mainGlobals "PUSH" = some (some (.str "push" u_PUSH)))
    {u_POP : _} (y_POP : PySem.W.nsIn K mainGlobals "POP" = some (some (.str "pop" u_POP)))
    {u_MOST_STEPS : _} (y_MOST_STEPS : PySem.W.nsIn K mainGlobals "MOST_STEPS" = some (some (.int 1000 u_MOST_STEPS)))
    {CInvalidSteps IInvalidSteps BStackErrorInvalidSteps : Addr} {nmInvalidSteps qInvalidSteps : Str} {NInvalidSteps : Addr} {bsInvalidSteps : List Value} {snInvalidSteps : List Str} {subInvalidSteps : List Value} {abInvalidSteps : Bool} {colInvalidSteps : Option Bool} {ddInvalidSteps : Option Addr} {m0InvalidSteps m1InvalidSteps m2InvalidSteps m3InvalidSteps m5InvalidSteps : Option Value}
    {odInvalidSteps anInvalidSteps : Option Addr} {slInvalidSteps : Array (Option Value)} {ocInvalidSteps dcInvalidSteps pmInvalidSteps cdInvalidSteps ctInvalidSteps : Value}
    (aCInvalidSteps : PySem.W.nsIn K mainGlobals "InvalidSteps" = some (some (.ref CInvalidSteps)))
    (xLInvalidSteps : K.lookup CInvalidSteps = some (excClassObj nmInvalidSteps qInvalidSteps CInvalidSteps NInvalidSteps bsInvalidSteps [.ref BStackErrorInvalidSteps, .type "ValueError", .type "Exception", .type "BaseException", .type "object"] true snInvalidSteps subInvalidSteps abInvalidSteps colInvalidSteps ddInvalidSteps m0InvalidSteps m1InvalidSteps m2InvalidSteps m3InvalidSteps m5InvalidSteps "ValueError.__new__"))
    (saInvalidSteps : PySem.W.findIn K (.ref CInvalidSteps) "__setattr__" = some (some (.builtin "object.__setattr__"))) (gaInvalidSteps : PySem.W.findIn K (.ref CInvalidSteps) "__getattribute__" = some (some (.builtin "BaseException.__getattribute__"))) (ggInvalidSteps : PySem.W.findIn K (.ref CInvalidSteps) "__getattr__" = some none) (nbInvalidSteps : PySem.W.findIn K (.ref CInvalidSteps) "index" = some none)
    (aiInvalidSteps : PySem.W.findIn K (.ref CInvalidSteps) "__init__" = some (some (.ref IInvalidSteps))) (tiInvalidSteps : PySem.W.typeIn K (.ref IInvalidSteps) = some (.type "function"))
    (liInvalidSteps : K.lookup IInvalidSteps = some ⟨ocInvalidSteps, odInvalidSteps, .func (PySem.W.fnOf "__init__" "InvalidSteps.__init__" (PySem.LowX_index.iA ⟨6, 17, 6, 21⟩ ⟨6, 23, 6, 28⟩) (PySem.LowX_index.iB ⟨7, 8, 7, 12⟩ ⟨7, 8, 7, 18⟩ ⟨7, 21, 7, 26⟩ ⟨7, 8, 7, 26⟩) PySem.LowX_index.iS .none .none dcInvalidSteps pmInvalidSteps anInvalidSteps cdInvalidSteps ctInvalidSteps), slInvalidSteps⟩) (ciInvalidSteps : PySem.W.codeIn K cdInvalidSteps "InvalidSteps.__init__" = true)
    (kCInvalidSteps : PySem.W.keepIn K (.ref CInvalidSteps) = true) (eCInvalidSteps : PySem.W.subIn K (.ref CInvalidSteps) (.type "BaseException") = some true) (tCInvalidSteps : PySem.W.typeIn K (.ref CInvalidSteps) = some (.type "type")) (hCInvalidSteps : PySem.W.hasDictIn K CInvalidSteps = true) (iCInvalidSteps : PySem.W.isClsIn K CInvalidSteps = true) (sCInvalidSteps : PySem.W.subIn K (.ref CInvalidSteps) (.ref CInvalidSteps) = some true)
    (sq_InvalidSteps_InvalidSteps : PySem.W.subIn K (.ref CInvalidSteps) (.ref CInvalidSteps) = some true)
    : ∃ fd : FuncData, (∀ (s : Shared) (v : Value), BindsTo s fd ⟨[v], []⟩ [("_law_script", v)]) ∧ ∀ base : Heap, K.In base → base.Ns mainGlobals mg → FnG true l.prog w K mg base 8 fa fd ["_law_script"] (SpR K lawR) := by
  have e := hfa.symm.trans (PySem.W.mg_of X Gn a19)
  cases e
  obtain ⟨Gb, gq_InvalidSteps, gq_is_step, gs_InvalidSteps_InvalidSteps, hG, -⟩ : ∃ Gb : FX.Gb, Gb.at_ "InvalidSteps" = CInvalidSteps ∧ Gb.at_ "is_step" = f7 ∧ Gb.sub CInvalidSteps (.ref CInvalidSteps) = some true ∧ Gb.Ok K ∧ True := ⟨{ at_ := FX.pickAt [("InvalidSteps", CInvalidSteps), ("is_step", f7)], sub := FX.pickTo [(CInvalidSteps, .ref CInvalidSteps, true)] },
    (by show FX.pickAt [("InvalidSteps", CInvalidSteps), ("is_step", f7)] "InvalidSteps" = CInvalidSteps; exact FX.pickAt_hd),
    (by show FX.pickAt [("InvalidSteps", CInvalidSteps), ("is_step", f7)] "is_step" = f7; refine FX.pickAt_tl (show ¬ (("is_step" : Str) = "InvalidSteps") by decide +kernel) ?_; exact FX.pickAt_hd),
    (by show FX.pickTo [(CInvalidSteps, .ref CInvalidSteps, true)] CInvalidSteps (.ref CInvalidSteps) = some true; exact FX.pickTo_rhd),
    ⟨FX.pickTo_all (R := fun c v b => PySem.W.exmOne K (.ref c) v = some b) (by
      intro p hp
      simp only [List.mem_cons, List.not_mem_nil, or_false] at hp
      rcases hp with rfl
      · exact Law.exm_sub eCInvalidSteps iCInvalidSteps tCInvalidSteps sq_InvalidSteps_InvalidSteps
      ), (by intro _ _ _ h; cases h), (by intro _ h; cases h)⟩, trivial⟩
  have hs_InvalidSteps_InvalidSteps : Gb.sub (Gb.at_ "InvalidSteps") (.ref (Gb.at_ "InvalidSteps")) = some true := by
    rw [gq_InvalidSteps]; exact gs_InvalidSteps_InvalidSteps
  refine ⟨PySem.W.fnOf "law" "law" (defArgs Law.st_law) (defBody Law.st_law) (defScope Law.st_law) .none kV19 dc19 pm19 an19 cd19 ct19, fun s v => .of_eq rfl, fun base _ _ => ?_⟩
  have n_int := PySem.W.mg_none_of X Gn z_int
  have n_abs := PySem.W.mg_none_of X Gn z_abs
  have n_len := PySem.W.mg_none_of X Gn z_len
  have n_range := PySem.W.mg_none_of X Gn z_range
  have n_tuple := PySem.W.mg_none_of X Gn z_tuple
  have n_all := PySem.W.mg_none_of X Gn z_all
  have n_isinstance := PySem.W.mg_none_of X Gn z_isinstance
  have n_str := PySem.W.mg_none_of X Gn z_str
  have n_enumerate := PySem.W.mg_none_of X Gn z_enumerate
  have n_list := PySem.W.mg_none_of X Gn z_list
  have n_repr := PySem.W.mg_none_of X Gn z_repr
  have n_max := PySem.W.mg_none_of X Gn z_max
  have n_min := PySem.W.mg_none_of X Gn z_min
  have g_LETTERS : ∃ u, mg "LETTERS" = some (.str "abcdefghijklmnopqrstuvwxyz" u) := ⟨_, PySem.W.mg_of X Gn y_LETTERS⟩
  have g_MAX_LENGTH : ∃ u, mg "MAX_LENGTH" = some (.int 8 u) := ⟨_, PySem.W.mg_of X Gn y_MAX_LENGTH⟩
  have g_PUSH : ∃ u, mg "PUSH" = some (.str "push" u) := ⟨_, PySem.W.mg_of X Gn y_PUSH⟩
  have g_POP : ∃ u, mg "POP" = some (.str "pop" u) := ⟨_, PySem.W.mg_of X Gn y_POP⟩
  have g_MOST_STEPS : ∃ u, mg "MOST_STEPS" = some (.int 1000 u) := ⟨_, PySem.W.mg_of X Gn y_MOST_STEPS⟩
  have x_InvalidSteps : ∃ fI, PySem.LowX_index.LowTxt K mg "InvalidSteps" (Gb.at_ "InvalidSteps") fI := by
    rw [gq_InvalidSteps]
    exact ⟨IInvalidSteps, { gC := PySem.W.mg_of X Gn aCInvalidSteps, cls := ⟨nmInvalidSteps, qInvalidSteps, NInvalidSteps, bsInvalidSteps, _, snInvalidSteps, subInvalidSteps, abInvalidSteps, colInvalidSteps, ddInvalidSteps, m0InvalidSteps, m1InvalidSteps, m2InvalidSteps, m3InvalidSteps, m5InvalidSteps, xLInvalidSteps, by first | rfl | decide +kernel⟩, sa := saInvalidSteps, ga := gaInvalidSteps, gg := ggInvalidSteps, noN := nbInvalidSteps, iC := aiInvalidSteps, tC := tiInvalidSteps, kC := kCInvalidSteps, exC := eCInvalidSteps, tyC := tCInvalidSteps, hdC := hCInvalidSteps, te := Law.exm_sub eCInvalidSteps iCInvalidSteps tCInvalidSteps sCInvalidSteps, fn := ⟨_, _, _, _, _, _, _, _, _, _, _, _, _, _, _, liInvalidSteps, ciInvalidSteps⟩ }⟩
  have v_InvalidSteps : mg "InvalidSteps" = some (.ref (Gb.at_ "InvalidSteps")) := by rw [gq_InvalidSteps]; exact PySem.W.mg_of X Gn aCInvalidSteps
  have F0 : Def K mg "_law_pool" Law.st__law_pool _ _ := ⟨fun_mk (st := Law.st__law_pool) l0 c0 k0, PySem.W.mg_of X Gn a0⟩
  have b0 := F0.fn.binds (ps := ["_law_script", "_law_k"]) fun _ _ _ _ _ _ us hl => match us, hl with | [_, _], _ => rfl
  have c__law_pool := Law.ok__law_pool (P := l.prog) (w := w) (base := base) (G := Gb) F0 b0 (n_int := n_int) (n_abs := n_abs) (n_len := n_len)
  have F1 : Def K mg "_law_take" Law.st__law_take _ _ := ⟨fun_mk (st := Law.st__law_take) l1 c1 k1, PySem.W.mg_of X Gn a1⟩
  have b1 := F1.fn.binds (ps := ["_law_pool_here", "_law_many"]) fun _ _ _ _ _ _ us hl => match us, hl with | [_, _], _ => rfl
  have c__law_take := Law.ok__law_take (P := l.prog) (w := w) (base := base) (G := Gb) F1 b1 
  have F2 : Def K mg "_law_name" Law.st__law_name _ _ := ⟨fun_mk (st := Law.st__law_name) l2 c2 k2, PySem.W.mg_of X Gn a2⟩
  have b2 := F2.fn.binds (ps := ["_law_pool_here"]) fun _ _ _ _ _ _ us hl => match us, hl with | [_], _ => rfl
  have c__law_name := Law.ok__law_name (P := l.prog) (w := w) (base := base) (G := Gb) F2 b2 (n_range := n_range) (c__law_take := c__law_take)
  have F3 : Def K mg "_law_items" Law.st__law_items _ _ := ⟨fun_mk (st := Law.st__law_items) l3 c3 k3, PySem.W.mg_of X Gn a3⟩
  have b3 := F3.fn.binds (ps := ["_law_pool_here", "_law_many"]) fun _ _ _ _ _ _ us hl => match us, hl with | [_, _], _ => rfl
  have c__law_items := Law.ok__law_items (P := l.prog) (w := w) (base := base) (G := Gb) F3 b3 (n_range := n_range) (c__law_name := c__law_name)
  have F4 : Def K mg "_law_word" Law.st__law_word _ _ := ⟨fun_mk (st := Law.st__law_word) l4 c4 k4, PySem.W.mg_of X Gn a4⟩
  have b4 := F4.fn.binds (ps := ["_law_pool_here", "_law_items_here", "_law_most"]) fun _ _ _ _ _ _ us hl => match us, hl with | [_, _, _], _ => rfl
  have c__law_word := Law.ok__law_word (P := l.prog) (w := w) (base := base) (G := Gb) F4 b4 (n_tuple := n_tuple) (n_range := n_range) (c__law_take := c__law_take) (n_len := n_len)
  have F5 : Def K mg "is_item" Law.st_is_item _ _ := ⟨fun_mk (st := Law.st_is_item) l5 c5 k5, PySem.W.mg_of X Gn a5⟩
  have b5 := F5.fn.binds (ps := ["value"]) fun _ _ _ _ _ _ us hl => match us, hl with | [_], _ => rfl
  have c_is_item := Law.ok_is_item (P := l.prog) (w := w) (base := base) (G := Gb) F5 b5 (n_all := n_all) (g_LETTERS := g_LETTERS) (n_len := n_len) (g_MAX_LENGTH := g_MAX_LENGTH) (n_isinstance := n_isinstance) (n_str := n_str)
  have F6 : Def K mg "is_word" Law.st_is_word _ _ := ⟨fun_mk (st := Law.st_is_word) l6 c6 k6, PySem.W.mg_of X Gn a6⟩
  have b6 := F6.fn.binds (ps := ["value"]) fun _ _ _ _ _ _ us hl => match us, hl with | [_], _ => rfl
  have c_is_word := Law.ok_is_word (P := l.prog) (w := w) (base := base) (G := Gb) F6 b6 (n_all := n_all) (c_is_item := c_is_item) (n_isinstance := n_isinstance) (n_tuple := n_tuple)
  have F7 : Def K mg "is_step" Law.st_is_step _ _ := ⟨fun_mk (st := Law.st_is_step) l7 c7 k7, PySem.W.mg_of X Gn a7⟩
  have v_is_step : mg "is_step" = some (.ref (Gb.at_ "is_step")) := by rw [gq_is_step]; exact F7.mgf
  have b7 := F7.fn.binds (ps := ["value"]) fun _ _ _ _ _ _ us hl => match us, hl with | [_], _ => rfl
  have c_is_step := Law.ok_is_step (P := l.prog) (w := w) (base := base) (G := Gb) F7 b7 (c_is_item := c_is_item) (g_PUSH := g_PUSH) (g_POP := g_POP) (n_isinstance := n_isinstance) (n_str := n_str) (n_len := n_len) (n_tuple := n_tuple)
  have F8 : Def K mg "check_parts" Law.st_check_parts _ _ := ⟨fun_mk (st := Law.st_check_parts) l8 c8 k8, PySem.W.mg_of X Gn a8⟩
  have b8 := F8.fn.binds (ps := ["steps", "is_valid"]) fun _ _ _ _ _ _ us hl => match us, hl with | [_, _], _ => rfl
  have c_check_parts__is_step := Law.ok_check_parts (P := l.prog) (w := w) (base := base) (G := Gb) (fv_is_valid := Gb.at_ "is_step") (F_is_valid := Law.F_is_step Gb) F8 b8 (n_enumerate := n_enumerate) (x_InvalidSteps := x_InvalidSteps) (n_len := n_len) (g_MOST_STEPS := g_MOST_STEPS) (n_isinstance := n_isinstance) (n_list := n_list) (n_tuple := n_tuple) (cf_is_valid := c_is_step.at v_is_step)
  have F9 : Def K mg "check_steps" Law.st_check_steps _ _ := ⟨fun_mk (st := Law.st_check_steps) l9 c9 k9, PySem.W.mg_of X Gn a9⟩
  have b9 := F9.fn.binds (ps := ["steps"]) fun _ _ _ _ _ _ us hl => match us, hl with | [_], _ => rfl
  have c_check_steps := Law.ok_check_steps (P := l.prog) (w := w) (base := base) (G := Gb) F9 b9 (c_check_parts__is_step := c_check_parts__is_step) (v_is_step := v_is_step)
  have F10 : Def K mg "_law_steps" Law.st__law_steps _ _ := ⟨fun_mk (st := Law.st__law_steps) l10 c10 k10, PySem.W.mg_of X Gn a10⟩
  have b10 := F10.fn.binds (ps := ["_law_pool_here", "_law_items_here", "_law_many"]) fun _ _ _ _ _ _ us hl => match us, hl with | [_, _, _], _ => rfl
  have c__law_steps := Law.ok__law_steps (P := l.prog) (w := w) (base := base) (G := Gb) F10 b10 (n_range := n_range) (c__law_take := c__law_take) (n_len := n_len)
  have F11 : Def K mg "is_sequence" Law.st_is_sequence _ _ := ⟨fun_mk (st := Law.st_is_sequence) l11 c11 k11, PySem.W.mg_of X Gn a11⟩
  have b11 := F11.fn.binds (ps := ["value"]) fun _ _ _ _ _ _ us hl => match us, hl with | [_], _ => rfl
  have c_is_sequence := Law.ok_is_sequence (P := l.prog) (w := w) (base := base) (G := Gb) F11 b11 (hG := hG) (v_InvalidSteps := v_InvalidSteps) (c_check_steps := c_check_steps)
  have F12 : Def K mg "_law_odd" Law.st__law_odd _ _ := ⟨fun_mk (st := Law.st__law_odd) l12 c12 k12, PySem.W.mg_of X Gn a12⟩
  have b12 := F12.fn.binds (ps := ["_law_pool_here", "_law_item"]) fun _ _ _ _ _ _ us hl => match us, hl with | [_, _], _ => rfl
  have c__law_odd := Law.ok__law_odd (P := l.prog) (w := w) (base := base) (G := Gb) F12 b12 (c__law_take := c__law_take) (n_len := n_len)
  have F13 : Def K mg "_law_is_item" Law.st__law_is_item _ _ := ⟨fun_mk (st := Law.st__law_is_item) l13 c13 k13, PySem.W.mg_of X Gn a13⟩
  have b13 := F13.fn.binds (ps := ["_law_what"]) fun _ _ _ _ _ _ us hl => match us, hl with | [_], _ => rfl
  have c__law_is_item := Law.ok__law_is_item (P := l.prog) (w := w) (base := base) (G := Gb) F13 b13 (n_len := n_len) (n_isinstance := n_isinstance) (n_str := n_str)
  have F14 : Def K mg "_law_is_word" Law.st__law_is_word _ _ := ⟨fun_mk (st := Law.st__law_is_word) l14 c14 k14, PySem.W.mg_of X Gn a14⟩
  have b14 := F14.fn.binds (ps := ["_law_what"]) fun _ _ _ _ _ _ us hl => match us, hl with | [_], _ => rfl
  have c__law_is_word := Law.ok__law_is_word (P := l.prog) (w := w) (base := base) (G := Gb) F14 b14 (c__law_is_item := c__law_is_item) (n_isinstance := n_isinstance) (n_tuple := n_tuple)
  have F15 : Def K mg "_law_is_step" Law.st__law_is_step _ _ := ⟨fun_mk (st := Law.st__law_is_step) l15 c15 k15, PySem.W.mg_of X Gn a15⟩
  have b15 := F15.fn.binds (ps := ["_law_what"]) fun _ _ _ _ _ _ us hl => match us, hl with | [_], _ => rfl
  have c__law_is_step := Law.ok__law_is_step (P := l.prog) (w := w) (base := base) (G := Gb) F15 b15 (c__law_is_item := c__law_is_item) (n_len := n_len) (n_isinstance := n_isinstance) (n_tuple := n_tuple)
  have F16 : Def K mg "_law_is_sequence" Law.st__law_is_sequence _ _ := ⟨fun_mk (st := Law.st__law_is_sequence) l16 c16 k16, PySem.W.mg_of X Gn a16⟩
  have b16 := F16.fn.binds (ps := ["_law_what"]) fun _ _ _ _ _ _ us hl => match us, hl with | [_], _ => rfl
  have c__law_is_sequence := Law.ok__law_is_sequence (P := l.prog) (w := w) (base := base) (G := Gb) F16 b16 (c__law_is_step := c__law_is_step) (n_len := n_len) (n_isinstance := n_isinstance) (n_list := n_list) (n_tuple := n_tuple)
  have F17 : Def K mg "_law_right" Law.st__law_right _ _ := ⟨fun_mk (st := Law.st__law_right) l17 c17 k17, PySem.W.mg_of X Gn a17⟩
  have b17 := F17.fn.binds (ps := ["_law_what"]) fun _ _ _ _ _ _ us hl => match us, hl with | [_], _ => rfl
  have c__law_right := Law.ok__law_right (P := l.prog) (w := w) (base := base) (G := Gb) F17 b17 (n_repr := n_repr) (c__law_is_item := c__law_is_item) (c__law_is_word := c__law_is_word) (c__law_is_sequence := c__law_is_sequence) (c_is_item := c_is_item) (c_is_word := c_is_word) (c_is_sequence := c_is_sequence)
  have F18 : Def K mg "_law_bent_steps" Law.st__law_bent_steps _ _ := ⟨fun_mk (st := Law.st__law_bent_steps) l18 c18 k18, PySem.W.mg_of X Gn a18⟩
  have b18 := F18.fn.binds (ps := ["_law_pool_here", "_law_steps_here", "_law_odd_here"]) fun _ _ _ _ _ _ us hl => match us, hl with | [_, _, _], _ => rfl
  have c__law_bent_steps := Law.ok__law_bent_steps (P := l.prog) (w := w) (base := base) (G := Gb) F18 b18 (n_tuple := n_tuple) (c__law_take := c__law_take) (n_len := n_len)
  have F19 : Def K mg "law" Law.st_law _ _ := ⟨fun_mk (st := Law.st_law) l19 c19 k19, PySem.W.mg_of X Gn a19⟩
  exact FX.FnG.imp (Law.ok_law (G := Gb) F19.fn (c_is_word := c_is_word) (c_is_sequence := c_is_sequence) (n_range := n_range) (n_max := n_max) (n_min := n_min) (n_len := n_len) (c__law_bent_steps := c__law_bent_steps) (c__law_right := c__law_right) (n_list := n_list) (n_tuple := n_tuple) (c__law_odd := c__law_odd) (c__law_take := c__law_take) (c__law_word := c__law_word) (c__law_steps := c__law_steps) (c__law_items := c__law_items) (c__law_pool := c__law_pool)) (fun args μ o μ' ⟨ns, hl, e1, e2, e3, e4⟩ => by subst e1 e2 e3 e4; exact Law.F_law' Gb hs_InvalidSteps_InvalidSteps ns hl)
open PySem PySem.W PyProof.Rows
set_option maxHeartbeats 0 in
theorem PySem.Challenge.cw_stackeffect_k01_items_words_sequences_holds : PySem.Challenge.rw_stackeffect_k01_items_words_sequences.Holds := by
  w_on; o_law; k_head; (case hw => w_witness2)
  k_fill
  refine DL.end_g (l := PySem.Challenge.rw_stackeffect_k01_items_words_sequences) (k := 8) (x := "_law_script") rfl rfl ⟨rfl, by decide, by decide⟩ (fun w h Y => PySem.W.kIn_of Y) ?F
  case F =>
    intro w mg fa h KX G hmg
    refine' Law.all_mk KX G hmg ?a0 ?l0 ?c0 ?k0 ?a1 ?l1 ?c1 ?k1 ?a2 ?l2 ?c2 ?k2 ?a3 ?l3 ?c3 ?k3 ?a4 ?l4 ?c4 ?k4 ?a5 ?l5 ?c5 ?k5 ?a6 ?l6 ?c6 ?k6 ?a7 ?l7 ?c7 ?k7 ?a8 ?l8 ?c8 ?k8 ?a9 ?l9 ?c9 ?k9 ?a10 ?l10 ?c10 ?k10 ?a11 ?l11 ?c11 ?k11 ?a12 ?l12 ?c12 ?k12 ?a13 ?l13 ?c13 ?k13 ?a14 ?l14 ?c14 ?k14 ?a15 ?l15 ?c15 ?k15 ?a16 ?l16 ?c16 ?k16 ?a17 ?l17 ?c17 ?k17 ?a18 ?l18 ?c18 ?k18 ?a19 ?l19 ?c19 ?k19 ?z_int ?z_abs ?z_len ?z_range ?z_tuple ?z_all ?z_isinstance ?z_str ?z_enumerate ?z_list ?z_repr ?z_max ?z_min ?y_LETTERS ?y_MAX_LENGTH ?y_PUSH ?y_POP ?y_MOST_STEPS ?aCInvalidSteps ?xLInvalidSteps ?saInvalidSteps ?gaInvalidSteps ?ggInvalidSteps ?nbInvalidSteps ?aiInvalidSteps ?tiInvalidSteps ?liInvalidSteps ?ciInvalidSteps ?kCInvalidSteps ?eCInvalidSteps ?tCInvalidSteps ?hCInvalidSteps ?iCInvalidSteps ?sCInvalidSteps ?sq_InvalidSteps_InvalidSteps
    (case a0 => k_is)
    (case l0 => k_is)
    (case c0 => k_is)
    (case k0 => k_is)
    (case a1 => k_is)
    (case l1 => k_is)
    (case c1 => k_is)
    (case k1 => k_is)
    (case a2 => k_is)
    (case l2 => k_is)
    (case c2 => k_is)
    (case k2 => k_is)
    (case a3 => k_is)
    (case l3 => k_is)
    (case c3 => k_is)
    (case k3 => k_is)
    (case a4 => k_is)
    (case l4 => k_is)
    (case c4 => k_is)
    (case k4 => k_is)
    (case a5 => k_is)
    (case l5 => k_is)
    (case c5 => k_is)
    (case k5 => k_is)
    (case a6 => k_is)
    (case l6 => k_is)
    (case c6 => k_is)
    (case k6 => k_is)
    (case a7 => k_is)
    (case l7 => k_is)
    (case c7 => k_is)
    (case k7 => k_is)
    (case a8 => k_is)
    (case l8 => k_is)
    (case c8 => k_is)
    (case k8 => k_is)
    (case a9 => k_is)
    (case l9 => k_is)
    (case c9 => k_is)
    (case k9 => k_is)
    (case a10 => k_is)
    (case l10 => k_is)
    (case c10 => k_is)
    (case k10 => k_is)
    (case a11 => k_is)
    (case l11 => k_is)
    (case c11 => k_is)
    (case k11 => k_is)
    (case a12 => k_is)
    (case l12 => k_is)
    (case c12 => k_is)
    (case k12 => k_is)
    (case a13 => k_is)
    (case l13 => k_is)
    (case c13 => k_is)
    (case k13 => k_is)
    (case a14 => k_is)
    (case l14 => k_is)
    (case c14 => k_is)
    (case k14 => k_is)
    (case a15 => k_is)
    (case l15 => k_is)
    (case c15 => k_is)
    (case k15 => k_is)
    (case a16 => k_is)
    (case l16 => k_is)
    (case c16 => k_is)
    (case k16 => k_is)
    (case a17 => k_is)
    (case l17 => k_is)
    (case c17 => k_is)
    (case k17 => k_is)
    (case a18 => k_is)
    (case l18 => k_is)
    (case c18 => k_is)
    (case k18 => k_is)
    (case a19 => k_is)
    (case l19 => k_is)
    (case c19 => k_is)
    (case k19 => k_is)
    (case z_int => k_is)
    (case z_abs => k_is)
    (case z_len => k_is)
    (case z_range => k_is)
    (case z_tuple => k_is)
    (case z_all => k_is)
    (case z_isinstance => k_is)
    (case z_str => k_is)
    (case z_enumerate => k_is)
    (case z_list => k_is)
    (case z_repr => k_is)
    (case z_max => k_is)
    (case z_min => k_is)
    (case y_LETTERS => k_is)
    (case y_MAX_LENGTH => k_is)
    (case y_PUSH => k_is)
    (case y_POP => k_is)
    (case y_MOST_STEPS => k_is)
    (case aCInvalidSteps => k_is)
    (case xLInvalidSteps => k_is)
    (case saInvalidSteps => k_is)
    (case gaInvalidSteps => k_is)
    (case ggInvalidSteps => k_is)
    (case nbInvalidSteps => k_is)
    (case aiInvalidSteps => k_is)
    (case tiInvalidSteps => k_is)
    (case liInvalidSteps => k_is)
    (case ciInvalidSteps => k_is)
    (case kCInvalidSteps => k_is)
    (case eCInvalidSteps => k_is)
    (case tCInvalidSteps => k_is)
    (case hCInvalidSteps => k_is)
    (case iCInvalidSteps => k_is)
    (case sCInvalidSteps => first | rfl | k_is)
    (case sq_InvalidSteps_InvalidSteps => first | rfl | k_is)
