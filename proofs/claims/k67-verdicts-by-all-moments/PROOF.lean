import PyProof.Rows.All
import HandS.ForMost
import HandS.Deep
import HandS.TupAny
import HandS.TupMul
import HandS.IsInst
import HandS.Flow
import HandS.Conv
import HandS.Star
import KE.KDictKeyed
import HandS.SetKeys
import HandS.RaiseMore
import HandS.Strs
import PyProof.FactsAll.list
import HandS.NoneIn
import HandS.Style
import HandS.Zip
import KE.GoesMore
import PyProof.ListStr
import KE.KDictDisplayH
import HandS.Small
import HandS.WordsDict
import KE.KDictCopyH
import HandS.Iter
import HandS.Remove
import PyProof.Rows.SetFrom
import HandS.Property
import HandS.SortKw
import PyProof.Rows.SetObj
import HandS.SetBool
import HandS.SetFor
import PySem.Challenge.RW_missbounds_k67_verdicts_by_all_moments
set_option Elab.async false
set_option linter.all false
set_option maxRecDepth 100000
set_option maxHeartbeats 4000000
/-! text Z1 -/
namespace Zl
open PySem L2

/-! ## Data, memory, the relation to the abstract heap -/
inductive Dv where
  | non
  | bl (b : Bool)
  | int (i : Int)
  | str (x : Str)
  | tup (xs : List Dv)
  | loc (n : Nat)
  | rol (xs : List Dv)
  | ty (n : String)
  | pr (xs : List Dv)
  deriving Inhabited

inductive Ob where
  | lst (xs : List Dv)
  | ins (c : Nat) (fs : List (Str × Dv))
  | dct (kvs : List (Key × Dv))
  | dcn (kvs : List (NestedKey × Dv × Dv))
  | st (xs : List Int)
  | sk (xs : List Str)
  deriving Inhabited
/-- the classes' places; the program, the world -/
structure Ct where
  cls : Nat → Option Addr
  prg : Program
  wd : World
instance : CoeFun Ct (fun _ => Nat → Option Addr) := ⟨Ct.cls⟩
/-- keys that are tuples, nested -/
def nkL (f : Dv → Option NestedKey) : List Dv → Option (List NestedKey)
  | [] => some []
  | x :: xs => match f x with
    | some k => match nkL f xs with
      | some ks => some (k :: ks)
      | none => none
    | none => none
def nkN : Nat → Dv → Option NestedKey
  | _, .non => some .none
  | _, .bl b => some (.num (if b then 1 else 0))
  | _, .int i => some (.num i)
  | _, .str x => some (.text x)
  | _, .loc _ => none
  | _, .rol _ => none
  | _, .ty _ => none
  | _, .pr _ => none
  | 0, .tup _ => none
  | n + 1, .tup xs => match nkL (nkN n) xs with
    | some ks => some (.tup ks)
    | none => none
def keyN : Dv → Option NestedKey
  | .tup xs => nkN 8 (.tup xs)
  | _ => none
/-- a dict with such keys: where the keys stand, the values -/
def RawN (P : Program) (w : World) (h : Heap) (a : Addr) (xs : List (NestedKey × Addr × Value)) : Prop :=
  ∃ o es ep, h.get? a = some o ∧ o.ExactDict ∧ o.data = .dict es ep ∧ es.toList = xs.map (entryOfKey (nestedKind P w)) ∧ (xs.map (·.1)).Nodup ∧ xs.length ≤ sizeLine ∧ (a == sysModules) = false
def NDic (P : Program) (w : World) (a : Addr) (xs : List (NestedKey × Addr × Value)) : HO := .ext fun h => RawN P w h a xs

abbrev Mem := List Ob
abbrev En := List (Option Dv)
abbrev Frg := PySem.W.Frag

/-- a list that nothing here writes: locked, or of the written part -/
def SqF (K : Frg) (H : Hp) (a : Addr) (xs : List V) : Prop :=
  (∃ o, H a = some (.frz o (.lst xs))) ∨ ((∀ H' : Hp, SqL K H' a xs) ∧ ∃ o : Obj, K.lookup a = some o ∧ o.cls = .type "list")
theorem SqF.sq {K : Frg} {H : Hp} {a : Addr} {xs : List V} (h : SqF K H a xs) : SqL K H a xs := by
  rcases h with ⟨o, h⟩ | ⟨h, _⟩
  · exact .inl (.inr ⟨o, h⟩)
  · exact h H

/-- a tuple without a dict of its own: locked, or of the written part -/
def TupD (K : Frg) (H : Hp) (a : Addr) (xs : List V) : Prop :=
  (∃ o : Obj, H a = some (.frz o (.tup xs)) ∧ o.dict = none) ∨
    ∃ (o : Obj) (its : Array Value) (n : Nat), K.lookup a = some o ∧ o.cls = .type "tuple" ∧ o.dict = none ∧ o.data = .seq its n ∧ its.size ≤ sizeLine ∧ Vals xs its.toList
theorem TupD.sq {K : Frg} {H : Hp} {a : Addr} {xs : List V} (h : TupD K H a xs) : SqT K H a xs := by
  rcases h with ⟨o, h, _⟩ | ⟨o, its, n, h1, h2, _, h3, h4, h5⟩
  · exact .inl (.inr ⟨o, h⟩)
  · exact .inr ⟨o, its, n, h1, h2, h3, h4, h5⟩

mutual
inductive DV (K : Frg) (ρ : List Addr) (H : Hp) : Dv → V → Prop
  | non : DV K ρ H .non .non
  | bl (b : Bool) : DV K ρ H (.bl b) (.bl b)
  | int (i : Int) : DV K ρ H (.int i) (.int i)
  | str (x : Str) : DV K ρ H (.str x) (.str x)
  | tup {ds : List Dv} {vs : List V} {a : Addr} : TupD K H a vs → DVs K ρ H ds vs → DV K ρ H (.tup ds) (.ref a)
  | loc {n : Nat} {a : Addr} : ρ[n]? = some a → DV K ρ H (.loc n) (.ref a)
  | rol {ds : List Dv} {vs : List V} {a : Addr} : SqF K H a vs → DVs K ρ H ds vs → DV K ρ H (.rol ds) (.ref a)
  | ty (n : String) : DV K ρ H (.ty n) (.ty n)
  | pr {ds : List Dv} {vs : List V} {a : Addr} : SqT K H a vs → DVs K ρ H ds vs → DV K ρ H (.pr ds) (.ref a)
inductive DVs (K : Frg) (ρ : List Addr) (H : Hp) : List Dv → List V → Prop
  | nil : DVs K ρ H [] []
  | cons {d : Dv} {v : V} {ds : List Dv} {vs : List V} : DV K ρ H d v → DVs K ρ H ds vs → DVs K ρ H (d :: ds) (v :: vs)
end

structure Ext (K : Frg) (ρ : List Addr) (H : Hp) (ρ' : List Addr) (H' : Hp) : Prop where
  pre : ∀ (n : Nat) (a : Addr), ρ[n]? = some a → ρ'[n]? = some a
  tup : ∀ a vs, SqT K H a vs → SqT K H' a vs
  frz : ∀ a o u, H a = some (.frz o u) → H' a = some (.frz o u)
theorem Ext.refl {K : Frg} {ρ : List Addr} {H : Hp} : Ext K ρ H ρ H := ⟨fun _ _ h => h, fun _ _ h => h, fun _ _ _ h => h⟩
theorem Ext.trans {K : Frg} {ρ ρ1 ρ2 : List Addr} {H H1 H2 : Hp} (a : Ext K ρ H ρ1 H1) (b : Ext K ρ1 H1 ρ2 H2) : Ext K ρ H ρ2 H2 :=
  ⟨fun n x h => b.pre n x (a.pre n x h), fun x vs h => b.tup x vs (a.tup x vs h), fun x o u h => b.frz x o u (a.frz x o u h)⟩
theorem TupD.mono {K : Frg} {ρ ρ' : List Addr} {H H' : Hp} {a : Addr} {xs : List V} (h : TupD K H a xs) (e : Ext K ρ H ρ' H') : TupD K H' a xs := by
  rcases h with ⟨o, h, z⟩ | h
  · exact .inl ⟨o, e.frz _ _ _ h, z⟩
  · exact .inr h
theorem TupD.new {K : Frg} {H : Hp} {p : Addr} {o : Obj} {xs : List V} (z : o.dict = none) : TupD K (upd H p (.frz o (.tup xs))) p xs := .inl ⟨o, upd_same, z⟩
theorem SqF.mono {K : Frg} {ρ ρ' : List Addr} {H H' : Hp} {a : Addr} {xs : List V} (h : SqF K H a xs) (e : Ext K ρ H ρ' H') : SqF K H' a xs := by
  rcases h with ⟨o, h⟩ | h
  · exact .inl ⟨o, e.frz _ _ _ h⟩
  · exact .inr h

section
variable {K : Frg} {ρ ρ' : List Addr} {H H' : Hp}
mutual
theorem DV.mono (e : Ext K ρ H ρ' H') : ∀ {d : Dv} {v : V}, DV K ρ H d v → DV K ρ' H' d v
  | _, _, .non => .non
  | _, _, .bl b => .bl b
  | _, _, .int i => .int i
  | _, _, .str x => .str x
  | _, _, .tup h r => .tup (h.mono e) (DVs.mono e r)
  | _, _, .pr h r => .pr (e.tup _ _ h) (DVs.mono e r)
  | _, _, .loc h => .loc (e.pre _ _ h)
  | _, _, .rol h r => .rol (h.mono e) (DVs.mono e r)
  | _, _, .ty n => .ty n
theorem DVs.mono (e : Ext K ρ H ρ' H') : ∀ {ds : List Dv} {vs : List V}, DVs K ρ H ds vs → DVs K ρ' H' ds vs
  | _, _, .nil => .nil
  | _, _, .cons h r => .cons (DV.mono e h) (DVs.mono e r)
end
theorem DVs.length : ∀ {ds : List Dv} {vs : List V}, DVs K ρ H ds vs → ds.length = vs.length
  | _, _, .nil => rfl
  | _, _, .cons _ r => by rw [List.length_cons, List.length_cons, DVs.length r]
theorem DVs.append : ∀ {ds es : List Dv} {vs ws : List V}, DVs K ρ H ds vs → DVs K ρ H es ws → DVs K ρ H (ds ++ es) (vs ++ ws)
  | _, _, _, _, .nil, s => s
  | _, _, _, _, .cons h r, s => .cons h (DVs.append r s)
theorem DVs.get : ∀ {ds : List Dv} {vs : List V} {i : Nat} {d : Dv}, DVs K ρ H ds vs → ds[i]? = some d → ∃ v, vs[i]? = some v ∧ DV K ρ H d v
  | _, _, _, _, .nil, e => by simp at e
  | _, _, 0, _, .cons h _, e => by simp at e; subst e; exact ⟨_, rfl, h⟩
  | _, _, i + 1, d, .cons _ r, e => by
    obtain ⟨u, h1, h2⟩ := DVs.get (i := i) (d := d) r (by simpa using e)
    exact ⟨u, by simpa using h1, h2⟩
theorem DVs.set {x : Dv} {u : V} (h : DV K ρ H x u) : ∀ {ds : List Dv} {vs : List V} (i : Nat), DVs K ρ H ds vs → DVs K ρ H (ds.set i x) (vs.set i u)
  | _, _, _, .nil => .nil
  | _, _, 0, .cons _ t => .cons h t
  | _, _, i + 1, .cons q t => .cons q (DVs.set h i t)
theorem DVs.take : ∀ {ds : List Dv} {vs : List V} (n : Nat), DVs K ρ H ds vs → DVs K ρ H (ds.take n) (vs.take n)
  | _, _, 0, _ => .nil
  | _, _, _ + 1, .nil => .nil
  | _, _, n + 1, .cons r t => .cons r (DVs.take n t)
theorem DVs.drop : ∀ {ds : List Dv} {vs : List V} (n : Nat), DVs K ρ H ds vs → DVs K ρ H (ds.drop n) (vs.drop n)
  | _, _, 0, r => r
  | _, _, _ + 1, .nil => .nil
  | _, _, n + 1, .cons _ t => DVs.drop n t
theorem DVs.rep {ds : List Dv} {vs : List V} (h : DVs K ρ H ds vs) : ∀ k : Nat, DVs K ρ H (List.replicate k ds).flatten (List.replicate k vs).flatten
  | 0 => .nil
  | k + 1 => by
    rw [List.replicate_succ, List.replicate_succ, List.flatten_cons, List.flatten_cons]
    exact DVs.append h (DVs.rep h k)
end

/-- an instance's attributes -/
def FV (K : Frg) (ρ : List Addr) (H : Hp) (fs : List (Str × Dv)) (vfs : List (Str × V)) : Prop :=
  fs.map (·.1) = vfs.map (·.1) ∧ DVs K ρ H (fs.map (·.2)) (vfs.map (·.2))
def ObOk (K : Frg) (ct : Ct) (ρ : List Addr) (H : Hp) (a : Addr) : Ob → Prop
  | .lst ds => ∃ vs, H a = some (.lst vs) ∧ DVs K ρ H ds vs
  | .ins c fs => ∃ C dx vfs, ct c = some C ∧ H a = some (.ins C dx vfs) ∧ FV K ρ H fs vfs
  | .dct kvs => ∃ vs : List (Key × V), H a = some (.dK vs) ∧ kvs.map (·.1) = vs.map (·.1) ∧ DVs K ρ H (kvs.map (·.2)) (vs.map (·.2))
  | .dcn kvs => ∃ (xs : List (NestedKey × Addr × Value)) (vs : List V), H a = some (NDic ct.prg ct.wd a xs) ∧ kvs.map (·.1) = xs.map (·.1) ∧ (∀ p ∈ kvs, keyN p.2.1 = some p.1) ∧
      DVs K ρ H (kvs.map (·.2.1)) (xs.map fun x => V.ref x.2.1) ∧ DVs K ρ H (kvs.map (·.2.2)) vs ∧ Vals vs (xs.map (·.2.2))
  | .st xs => H a = some (.set (fun k => xs.any (· == k)) xs.length)
  | .sk xs => H a = some (SetK ct.prg ct.wd a (fun k => xs.any fun x => decide (k = Sum.inr x)) xs.length)
structure Rl (K : Frg) (ct : Ct) (ρ : List Addr) (M : Mem) (H : Hp) : Prop where
  len : ρ.length = M.length
  nd : ρ.Nodup
  ok : ∀ (n : Nat) o, M[n]? = some o → ∃ a, ρ[n]? = some a ∧ ObOk K ct ρ H a o
def EnOk (K : Frg) (ρ : List Addr) (H : Hp) (env : En) (σ : St) : Prop :=
  env.length = σ.length ∧ ∀ (i : Nat) d, env[i]? = some (some d) → ∃ v, σ[i]? = some (some v) ∧ DV K ρ H d v

section
variable {K : Frg} {ct : Ct} {ρ ρ' : List Addr} {M : Mem} {H H' : Hp} {a p : Addr}
theorem FV.mono {fs : List (Str × Dv)} {vfs : List (Str × V)} (h : FV K ρ H fs vfs) (e : Ext K ρ H ρ' H') : FV K ρ' H' fs vfs := ⟨h.1, h.2.mono e⟩
theorem ObOk.mono {o : Ob} (h : ObOk K ct ρ H a o) (e : Ext K ρ H ρ' H') (q : H' a = H a) : ObOk K ct ρ' H' a o := by
  cases o with
  | lst ds => obtain ⟨vs, h1, h2⟩ := h; exact ⟨vs, q.trans h1, h2.mono e⟩
  | ins c fs => obtain ⟨C, dx, vfs, h0, h1, h2⟩ := h; exact ⟨C, dx, vfs, h0, q.trans h1, h2.mono e⟩
  | dct kvs => obtain ⟨vs, h1, h2, h3⟩ := h; exact ⟨vs, q.trans h1, h2, h3.mono e⟩
  | dcn kvs => obtain ⟨xs, vs, h1, h2, h3, h4, h5, h6⟩ := h; exact ⟨xs, vs, q.trans h1, h2, h3, h4.mono e, h5.mono e, h6⟩
  | st xs => exact q.trans h
  | sk xs => exact q.trans h
theorem ObOk.there {o : Ob} (h : ObOk K ct ρ H a o) : H a ≠ none := by
  cases o with
  | lst ds => obtain ⟨vs, h1, h2⟩ := h; rw [h1]; simp
  | ins c fs => obtain ⟨C, dx, vfs, h0, h1, h2⟩ := h; rw [h1]; simp
  | dct kvs => obtain ⟨vs, h1, h2, h3⟩ := h; rw [h1]; simp
  | dcn kvs => obtain ⟨xs, vs, h1, h2⟩ := h; rw [h1]; simp
  | st xs => rw [show H a = _ from h]; simp
  | sk xs => rw [show H a = _ from h]; simp
theorem ObOk.soft {o : Ob} (h : ObOk K ct ρ H a o) : (∀ vs, H a ≠ some (.tup vs)) ∧ ∀ o u, H a ≠ some (.frz o u) := by
  cases o with
  | lst ds => obtain ⟨vs, h1, h2⟩ := h; rw [h1]; exact ⟨fun _ q => (by cases q), fun _ _ q => (by cases q)⟩
  | ins c fs => obtain ⟨C, dx, vfs, h0, h1, h2⟩ := h; rw [h1]; exact ⟨fun _ q => (by cases q), fun _ _ q => (by cases q)⟩
  | dct kvs => obtain ⟨vs, h1, h2, h3⟩ := h; rw [h1]; exact ⟨fun _ q => (by cases q), fun _ _ q => (by cases q)⟩
  | dcn kvs => obtain ⟨xs, vs, h1, h2⟩ := h; rw [h1]; exact ⟨fun _ q => (by cases q), fun _ _ q => (by cases q)⟩
  | st xs => rw [show H a = _ from h]; exact ⟨fun _ q => (by cases q), fun _ _ q => (by cases q)⟩
  | sk xs => rw [show H a = _ from h]; exact ⟨fun _ q => (by cases q), fun _ _ q => (by cases q)⟩
theorem EnOk.mono {env : En} {σ : St} (h : EnOk K ρ H env σ) (e : Ext K ρ H ρ' H') : EnOk K ρ' H' env σ :=
  ⟨h.1, fun i d q => let ⟨v, h1, h2⟩ := h.2 i d q; ⟨v, h1, h2.mono e⟩⟩
theorem EnOk.set {env : En} {σ : St} {d : Dv} {v : V} (h : EnOk K ρ H env σ) (i : Nat) (r : DV K ρ H d v) : EnOk K ρ H (env.set i (some d)) (σ.set i (some v)) := by
  refine ⟨by simp [h.1], fun j x q => ?_⟩
  by_cases hij : i = j
  · subst hij
    rw [List.getElem?_set] at q
    by_cases hl : i < env.length
    · rw [if_pos rfl, if_pos hl] at q
      cases q
      exact ⟨v, by rw [List.getElem?_set, if_pos rfl, if_pos (h.1 ▸ hl)], r⟩
    · rw [if_pos rfl, if_neg hl] at q; cases q
  · rw [List.getElem?_set_ne hij] at q
    obtain ⟨u, h1, h2⟩ := h.2 j x q
    exact ⟨u, by rw [List.getElem?_set_ne hij]; exact h1, h2⟩
theorem sqT_soft {vs : List V} {o' : HO} (h : SqT K H p vs) (ht : ∀ vs, H a ≠ some (.tup vs)) (hf : ∀ o u, H a ≠ some (.frz o u)) : SqT K (upd H a o') p vs := by
  rcases h with (h | ⟨o, h⟩) | h
  · have ne : p ≠ a := fun e => ht vs (e ▸ h)
    exact .inl (.inl (by rw [upd_ne ne]; exact h))
  · have ne : p ≠ a := fun e => hf o _ (e ▸ h)
    exact .inl (.inr ⟨o, by rw [upd_ne ne]; exact h⟩)
  · exact .inr h
theorem Ext.soft {o' : HO} (hp : ∀ (n : Nat) (a : Addr), ρ[n]? = some a → ρ'[n]? = some a) (ht : ∀ vs, H a ≠ some (.tup vs)) (hf : ∀ o u, H a ≠ some (.frz o u)) : Ext K ρ H ρ' (upd H a o') :=
  ⟨hp, fun b vs h => sqT_soft h ht hf, fun b o u h => by
    have ne : b ≠ a := fun e => hf o u (e ▸ h)
    rw [upd_ne ne]; exact h⟩
theorem Ext.fresh {o' : HO} (hn : H p = none) : Ext K ρ H ρ (upd H p o') :=
  Ext.soft (fun _ _ h => h) (fun _ q => by rw [hn] at q; cases q) fun _ _ q => by rw [hn] at q; cases q
theorem Rl.addr (r : Rl K ct ρ M H) {n : Nat} (h : ρ[n]? = some a) : ∃ o, M[n]? = some o ∧ ObOk K ct ρ H a o := by
  have hl : n < M.length := by
    rw [← r.len]
    exact (List.getElem?_eq_some_iff.mp h).1
  obtain ⟨b, h1, h2⟩ := r.ok n M[n] (List.getElem?_eq_getElem hl)
  rw [h] at h1; cases h1
  exact ⟨_, List.getElem?_eq_getElem hl, h2⟩
theorem Rl.ne (r : Rl K ct ρ M H) {n : Nat} (h : ρ[n]? = some a) (hn : H p = none) : a ≠ p := by
  obtain ⟨o, _, q⟩ := r.addr h
  intro e; subst e
  exact q.there hn
theorem Rl.tup (r : Rl K ct ρ M H) (hn : H p = none) (o' : HO) : Rl K ct ρ M (upd H p o') :=
  ⟨r.len, r.nd, fun n o h => by
    obtain ⟨b, h1, h2⟩ := r.ok n o h
    exact ⟨b, h1, h2.mono (Ext.fresh hn) (upd_ne (r.ne h1 hn))⟩⟩
theorem pre_app {p : Addr} : ∀ (n : Nat) (a : Addr), ρ[n]? = some a → (ρ ++ [p])[n]? = some a := fun n a h => by
  rw [List.getElem?_append_left (List.getElem?_eq_some_iff.mp h).1]; exact h
theorem Rl.notin (r : Rl K ct ρ M H) (hn : H p = none) : p ∉ ρ := fun hm => by
  obtain ⟨n, hn'⟩ := List.getElem?_of_mem hm
  exact r.ne hn' hn rfl
/-- a new cell -/
theorem Rl.new (r : Rl K ct ρ M H) {o : Ob} {o' : HO} (hn : H p = none) (ho : ObOk K ct (ρ ++ [p]) (upd H p o') p o) :
    Rl K ct (ρ ++ [p]) (M ++ [o]) (upd H p o') ∧ Ext K ρ H (ρ ++ [p]) (upd H p o') ∧ (ρ ++ [p])[M.length]? = some p := by
  have ex : Ext K ρ H (ρ ++ [p]) (upd H p o') := Ext.soft pre_app (fun _ q => by rw [hn] at q; cases q) fun _ _ q => by rw [hn] at q; cases q
  refine ⟨⟨by simp [r.len], ?_, fun n x h => ?_⟩, ex, by rw [← r.len]; simp⟩
  · rw [List.nodup_append]
    refine ⟨r.nd, by simp, fun x hx y hy e => ?_⟩
    have e2 : y = p := by simpa using hy
    subst e2; subst e
    exact r.notin hn hx
  · by_cases hl : n < M.length
    · rw [List.getElem?_append_left hl] at h
      obtain ⟨b, h1, h2⟩ := r.ok n x h
      exact ⟨b, pre_app n b h1, h2.mono ex (upd_ne (r.ne h1 hn))⟩
    · have hl2 : n = M.length := by
        have := (List.getElem?_eq_some_iff.mp h).1
        simp at this; omega
      subst hl2
      simp at h; subst h
      exact ⟨p, by rw [← r.len]; simp, ho⟩
/-- a cell written -/
theorem Rl.put (r : Rl K ct ρ M H) {n : Nat} {o : Ob} {o' : HO} (h : ρ[n]? = some a) (ho : ObOk K ct ρ (upd H a o') a o) :
    Rl K ct ρ (M.set n o) (upd H a o') ∧ Ext K ρ H ρ (upd H a o') := by
  obtain ⟨oo, hm, hk⟩ := r.addr h
  have ex : Ext K ρ H ρ (upd H a o') := Ext.soft (fun _ _ h => h) hk.soft.1 hk.soft.2
  refine ⟨⟨by simp [r.len], r.nd, fun m x hx => ?_⟩, ex⟩
  by_cases hmn : n = m
  · subst hmn
    rw [List.getElem?_set, if_pos rfl] at hx
    have hl := (List.getElem?_eq_some_iff.mp hm).1
    rw [if_pos hl] at hx
    cases hx
    exact ⟨a, h, ho⟩
  · rw [List.getElem?_set_ne hmn] at hx
    obtain ⟨b, h1, h2⟩ := r.ok m x hx
    refine ⟨b, h1, h2.mono ex (upd_ne fun e => ?_)⟩
    subst e
    obtain ⟨i1, e1⟩ := List.getElem?_eq_some_iff.mp h1
    obtain ⟨i2, e2⟩ := List.getElem?_eq_some_iff.mp h
    exact hmn ((List.getElem_inj r.nd).mp (e2.trans e1.symm))
theorem Rl.newL (r : Rl K ct ρ M H) {ds : List Dv} {vs : List V} (hn : H p = none) (hd : DVs K ρ H ds vs) :
    Rl K ct (ρ ++ [p]) (M ++ [.lst ds]) (upd H p (.lst vs)) ∧ Ext K ρ H (ρ ++ [p]) (upd H p (.lst vs)) ∧ (ρ ++ [p])[M.length]? = some p := by
  refine r.new hn ⟨vs, upd_same, hd.mono (Ext.soft pre_app (fun _ q => by rw [hn] at q; cases q) fun _ _ q => by rw [hn] at q; cases q)⟩
theorem Rl.putL (r : Rl K ct ρ M H) {n : Nat} {ds : List Dv} {vs : List V} (h : ρ[n]? = some a) (hd : DVs K ρ H ds vs) :
    Rl K ct ρ (M.set n (.lst ds)) (upd H a (.lst vs)) ∧ Ext K ρ H ρ (upd H a (.lst vs)) := by
  obtain ⟨oo, hm, hk⟩ := r.addr h
  exact r.put h ⟨vs, upd_same, hd.mono (Ext.soft (fun _ _ h => h) hk.soft.1 hk.soft.2)⟩
theorem Rl.lst (r : Rl K ct ρ M H) {n : Nat} {ds : List Dv} (hm : M[n]? = some (.lst ds)) {v : V} (hv : DV K ρ H (.loc n) v) :
    ∃ a vs, v = .ref a ∧ ρ[n]? = some a ∧ H a = some (.lst vs) ∧ DVs K ρ H ds vs := by
  obtain ⟨a, h1, vs, h2, h3⟩ := r.ok n _ hm
  cases hv with
  | loc h => rw [h] at h1; cases h1; exact ⟨_, vs, rfl, h, h2, h3⟩
end

/-! ## The judgements -/
def bnd {α β : Type} (r : Option (α × Mem)) (k : α → Mem → Option (β × Mem)) : Option (β × Mem) :=
  match r with
  | none => none
  | some (a, M) => k a M
theorem bnd_some {α β : Type} {r : Option (α × Mem)} {k : α → Mem → Option (β × Mem)} {y : β × Mem} (h : bnd r k = some y) : ∃ a M, r = some (a, M) ∧ k a M = some y := by
  cases r with
  | none => cases h
  | some p => exact ⟨p.1, p.2, rfl, h⟩

abbrev FE := En → Mem → Option (Dv × Mem)
abbrev FT := En → Mem → Option (Bool × Mem)
abbrev FA := En → Mem → Option (List Dv × Mem)

section
variable (K : Frg) (ct : Ct)
/-- what must follow: the end (d, M') and all that may stand for it -/
def Aft (ρ : List Addr) (H : Hp) (M' : Mem) (Z : List Addr → Hp → Prop) : Prop := ∀ ρ' H', Ext K ρ H ρ' H' → Rl K ct ρ' M' H' → Z ρ' H'
def tE (f : FE) : TE := fun σ H Q => ∃ ρ M env, Rl K ct ρ M H ∧ EnOk K ρ H env σ ∧ ∃ d M', f env M = some (d, M') ∧ Aft K ct ρ H M' fun ρ' H' => ∀ v, DV K ρ' H' d v → Q v H'
def tT (f : FT) : TT := fun σ H Q => ∃ ρ M env, Rl K ct ρ M H ∧ EnOk K ρ H env σ ∧ ∃ b M', f env M = some (b, M') ∧ Aft K ct ρ H M' fun _ H' => Q b H'
def tA (f : FA) : TA := fun σ H Q => ∃ ρ M env, Rl K ct ρ M H ∧ EnOk K ρ H env σ ∧ ∃ ds M', f env M = some (ds, M') ∧ Aft K ct ρ H M' fun ρ' H' => ∀ vs, DVs K ρ' H' ds vs → Q vs H'
def tO (h : Dv → Dv → Mem → Option (Dv × Mem)) : R2 := fun x y H Q => ∃ ρ M d e, Rl K ct ρ M H ∧ DV K ρ H d x ∧ DV K ρ H e y ∧ ∃ z M', h d e M = some (z, M') ∧ Aft K ct ρ H M' fun ρ' H' => ∀ v, DV K ρ' H' z v → Q v H'
def tU (h : Dv → Mem → Option (Dv × Mem)) : V → Hp → VK → Prop := fun x H Q => ∃ ρ M d, Rl K ct ρ M H ∧ DV K ρ H d x ∧ ∃ z M', h d M = some (z, M') ∧ Aft K ct ρ H M' fun ρ' H' => ∀ v, DV K ρ' H' z v → Q v H'
def tC (h : List Dv → Mem → Option (Dv × Mem)) : List V → Hp → VK → Prop := fun xs H Q => ∃ ρ M ds, Rl K ct ρ M H ∧ DVs K ρ H ds xs ∧ ∃ z M', h ds M = some (z, M') ∧ Aft K ct ρ H M' fun ρ' H' => ∀ v, DV K ρ' H' z v → Q v H'
end
theorem Aft.later {K : Frg} {ct : Ct} {ρ ρ1 : List Addr} {H H1 : Hp} {M' : Mem} {Z : List Addr → Hp → Prop} (h : Aft K ct ρ H M' Z) (e : Ext K ρ H ρ1 H1) : Aft K ct ρ1 H1 M' Z := fun ρ' H' x r => h ρ' H' (e.trans x) r

abbrev SE (X : Cx) (ct : Ct) (e : Expr) (f : FE) : Prop := PE X e (tE X.K ct f)
abbrev ST (X : Cx) (ct : Ct) (e : Expr) (f : FT) : Prop := PT X e (tT X.K ct f)
abbrev SW (X : Cx) (ct : Ct) (e : Expr) (f : FT) : Prop := PW X e (tT X.K ct f)
abbrev SA (X : Cx) (ct : Ct) (es : List Expr) (f : FA) : Prop := PA X es (tA X.K ct f)
abbrev SO (X : Cx) (ct : Ct) (g : Value → Value → Sem Value) (h : Dv → Dv → Mem → Option (Dv × Mem)) : Prop := OpR X g (tO X.K ct h)
abbrev SU (X : Cx) (ct : Ct) (g : Value → Sem Value) (h : Dv → Mem → Option (Dv × Mem)) : Prop := UnR X g (tU X.K ct h)
abbrev SC (X : Cx) (ct : Ct) (g : Value) (h : List Dv → Mem → Option (Dv × Mem)) : Prop := CallR X g (tC X.K ct h)

section
variable {X : Cx} {ct : Ct} {e a b c : Expr} {pos : Pos}
theorem PE.imp {t t' : TE} (h : PE X e t) (k : ∀ σ H Q, t' σ H Q → t σ H Q) : PE X e t' := ⟨fun pins s σ H Q I w => h.run pins s σ H Q I (k σ H Q w)⟩
theorem PT.imp {t t' : TT} (h : PT X e t) (k : ∀ σ H Q, t' σ H Q → t σ H Q) : PT X e t' := ⟨fun pins s σ H Q I w => h.run pins s σ H Q I (k σ H Q w)⟩
theorem PW.imp {t t' : TT} (h : PW X e t) (k : ∀ σ H Q, t' σ H Q → t σ H Q) : PW X e t' := ⟨fun wh pins s σ H Q I w => h.run wh pins s σ H Q I (k σ H Q w)⟩
theorem PA.imp {es : List Expr} {t t' : TA} (h : PA X es t) (k : ∀ σ H Q, t' σ H Q → t σ H Q) : PA X es t' := ⟨fun pos pins s σ H Q I w => h.run pos pins s σ H Q I (k σ H Q w)⟩

/-! ### names and constants -/
def fV (i : Nat) : FE := fun env M => match env[i]? with
  | some (some d) => some (d, M)
  | _ => none
def fK (d : Dv) : FE := fun _ M => some (d, M)
theorem tE.const {d : Dv} {v : V} {σ : St} {H : Hp} {Q : VK} (hv : ∀ ρ H, DV X.K ρ H d v) (h : tE X.K ct (fK d) σ H Q) : Q v H := by
  obtain ⟨ρ, M, env, r, he, d', M', hf, hq⟩ := h
  cases hf
  exact hq ρ H .refl r v (hv ρ H)
theorem se_var {i : Nat} {x : Str} (hN : X.N[i]? = some x) (hv : Vis X.env.scope x) (hd : (x == ("__debug__" : Str)) = false := by decide) (hcd : (x == ("__classdict__" : Str)) = false := by decide) : SE X ct (.Name x pos) (fV i) :=
  PE.imp (pe_var hN hv hd hcd) fun σ H Q ⟨ρ, M, env, r, he, d, M', hf, hq⟩ => by
    unfold fV at hf
    split at hf
    · rename_i d' e'
      cases hf
      obtain ⟨v, h1, h2⟩ := he.2 i _ e'
      exact ⟨v, h1, hq ρ H .refl r v h2⟩
    · cases hf
theorem se_int {i j} : SE X ct (.Constant (.int i) j pos) (fK (.int i)) := PE.imp pe_int fun _ _ _ h => tE.const (fun _ _ => .int i) h
theorem se_bl {b j} : SE X ct (.Constant (.bool b) j pos) (fK (.bl b)) := PE.imp pe_bl fun _ _ _ h => tE.const (fun _ _ => .bl b) h
theorem se_non {j} : SE X ct (.Constant .none j pos) (fK .non) := PE.imp pe_non fun _ _ _ h => tE.const (fun _ _ => .non) h
theorem se_str {x j} : SE X ct (.Constant (.str x) j pos) (fK (.str x)) := PE.imp pe_str fun _ _ _ h => tE.const (fun _ _ => .str x) h
/-- a module's constant -/
theorem se_glob {x : Str} {d : Dv} {v : V} {u : Value} (hg : Gl X x) (hm : X.mg x = some u) (r : RelV v u) (hv : ∀ ρ H, DV X.K ρ H d v) (hd : (x == ("__debug__" : Str)) = false := by decide) : SE X ct (.Name x pos) (fK d) :=
  PE.imp (pe_glob hg hm r hd) fun _ _ _ h => tE.const hv h

/-! ### operators -/
def fO (h : Dv → Dv → Mem → Option (Dv × Mem)) (fa fb : FE) : FE := fun env M => bnd (fa env M) fun x M1 => bnd (fb env M1) fun y M2 => h x y M2
def fU (h : Dv → Mem → Option (Dv × Mem)) (fa : FE) : FE := fun env M => bnd (fa env M) h
variable {fa fb fc : FE} {h : Dv → Dv → Mem → Option (Dv × Mem)}
theorem op_imp {σ : St} {H : Hp} {Q : VK} (w : tE X.K ct (fO h fa fb) σ H Q) : tOp (tO X.K ct h) (tE X.K ct fa) (tE X.K ct fb) σ H Q := by
  obtain ⟨ρ, M, env, r, he, d, M', hf, hq⟩ := w
  obtain ⟨x, M1, h1, hf⟩ := bnd_some hf
  obtain ⟨y, M2, h2, h3⟩ := bnd_some hf
  exact ⟨ρ, M, env, r, he, x, M1, h1, fun ρ1 H1 e1 r1 v dv => ⟨ρ1, M1, env, r1, he.mono e1, y, M2, h2, fun ρ2 H2 e2 r2 w dw => ⟨ρ2, M2, x, y, r2, dv.mono e2, dw, d, M', h3, hq.later (e1.trans e2)⟩⟩⟩
theorem se_op {op : Operator} (ho : SO X ct (binaryOp op) h) (ha : SE X ct a fa) (hb : SE X ct b fb) : SE X ct (.BinOp a op b pos) (fO h fa fb) :=
  PE.imp (pe_op ho ha hb) fun _ _ _ w => op_imp w
theorem se_cmp {op : CmpOp} (ho : SO X ct (compareOp op) h) (ha : SE X ct a fa) (hb : SE X ct b fb) (hm : behindInMarks op b = false) : SE X ct (.Compare a [op] [b] pos) (fO h fa fb) :=
  PE.imp (pe_cmpR ho ha hb hm) fun _ _ _ w => op_imp w
theorem se_un {op : UnaryOp} {h : Dv → Mem → Option (Dv × Mem)} (ho : SU X ct (unaryOp op) h) (ha : SE X ct a fa) : SE X ct (.UnaryOp op a pos) (fU h fa) :=
  PE.imp (pe_un ho ha) fun σ H Q ⟨ρ, M, env, r, he, d, M', hf, hq⟩ => by
    obtain ⟨x, M1, h1, hf⟩ := bnd_some hf
    exact ⟨ρ, M, env, r, he, x, M1, h1, fun ρ1 H1 e1 r1 v dv => ⟨ρ1, M1, x, r1, dv, d, M', hf, hq.later e1⟩⟩
/-- a < b < c -/
def fChain (h h' : Dv → Dv → Mem → Option (Dv × Mem)) (fa fb fc : FE) : FE := fun env M => bnd (fa env M) fun x M1 => bnd (fb env M1) fun y M2 => bnd (h x y M2) fun z M3 =>
  match z with
  | .bl true => bnd (fc env M3) fun w M4 => h' y w M4
  | .bl false => some (.bl false, M3)
  | _ => none
theorem se_chain {op op' : CmpOp} {h' : Dv → Dv → Mem → Option (Dv × Mem)} (ho : SO X ct (compareOp op) h) (ho' : SO X ct (compareOp op') h') (ha : SE X ct a fa) (hb : SE X ct b fb) (hc : SE X ct c fc)
    (hm : lastMarks [op, op'] [b, c] = false := by with_unfolding_all rfl) : SE X ct (.Compare a [op, op'] [b, c] pos) (fChain h h' fa fb fc) :=
  PE.imp (pe_chain ho ho' ha hb hc hm) fun σ H Q ⟨ρ, M, env, r, he, d, M', hf, hq⟩ => by
    obtain ⟨x, M1, h1, hf⟩ := bnd_some hf
    obtain ⟨y, M2, h2, hf⟩ := bnd_some hf
    obtain ⟨z, M3, h3, hf⟩ := bnd_some hf
    refine ⟨ρ, M, env, r, he, x, M1, h1, fun ρ1 H1 e1 r1 v dv => ⟨ρ1, M1, env, r1, he.mono e1, y, M2, h2, fun ρ2 H2 e2 r2 w dw => ⟨ρ2, M2, x, y, r2, dv.mono e2, dw, z, M3, h3, fun ρ3 H3 e3 r3 u du => ?_⟩⟩⟩
    split at hf
    · cases du
      obtain ⟨t, M4, h4, hf⟩ := bnd_some hf
      refine ⟨true, rfl, ?_⟩
      rw [if_pos rfl]
      exact ⟨ρ3, M3, env, r3, ((he.mono e1).mono e2).mono e3, t, M4, h4, fun ρ4 H4 e4 r4 u4 du4 => ⟨ρ4, M4, y, t, r4, (dw.mono e3).mono e4, du4, d, M', hf, hq.later (((e1.trans e2).trans e3).trans e4)⟩⟩
    · cases du
      cases hf
      refine ⟨false, rfl, ?_⟩
      rw [if_neg (by decide)]
      exact hq ρ3 H3 ((e1.trans e2).trans e3) r3 _ (.bl false)
    · cases hf
end
end Zl

/-! text Z2 -/
namespace Zl
open PySem L2

section
variable {X : Cx} {ct : Ct} {e a b c : Expr} {pos : Pos} {fa fb fc : FE} {ft fu : FT} {rest : List Expr}
/-! ### tests -/
/-- a value that is a bool, as a test -/
def fB (f : FE) : FT := fun env M => bnd (f env M) fun d M1 => match d with
  | .bl b => some (b, M1)
  | _ => none
theorem b_imp {t : TE} {σ : St} {H : Hp} {Q : Bool → Hp → Prop} (w : tT X.K ct (fB fa) σ H Q) : tTest (tE X.K ct fa) σ H Q := by
  obtain ⟨ρ, M, env, r, he, d, M', hf, hq⟩ := w
  obtain ⟨x, M1, h1, hf⟩ := bnd_some hf
  split at hf
  · cases hf
    exact ⟨ρ, M, env, r, he, _, _, h1, fun ρ1 H1 e1 r1 v dv => by cases dv; exact ⟨_, rfl, hq ρ1 H1 e1 r1⟩⟩
  · cases hf
theorem st_val (h : SE X ct e fa) (he : ∀ whole, isTrue e X.env whole = (do let v ← whole; standAt e.pos; holding [v] (truthy v)) := by intro _; rfl) : ST X ct e (fB fa) :=
  PT.imp (pt_val h he) fun _ _ _ w => b_imp (t := tE X.K ct fa) w
theorem st_cmp {op : CmpOp} {h : Dv → Dv → Mem → Option (Dv × Mem)} (ho : SO X ct (compareOp op) h) (ha : SE X ct a fa) (hb : SE X ct b fb) (hm : behindInMarks op b = false) : ST X ct (.Compare a [op] [b] pos) (fB (fO h fa fb)) :=
  PT.imp (pt_cmpR ho ha hb hm) fun σ H Q w => by
    obtain ⟨ρ, M, env, r, he, d, M', hf, hq⟩ := w
    obtain ⟨x, M1, h1, hf⟩ := bnd_some hf
    split at hf
    · cases hf
      exact op_imp ⟨ρ, M, env, r, he, _, _, h1, fun ρ1 H1 e1 r1 v dv => by cases dv; exact ⟨_, rfl, hq ρ1 H1 e1 r1⟩⟩
    · cases hf
theorem st_chain {op op' : CmpOp} {h h' : Dv → Dv → Mem → Option (Dv × Mem)} (ho : SO X ct (compareOp op) h) (ho' : SO X ct (compareOp op') h') (ha : SE X ct a fa) (hb : SE X ct b fb) (hc : SE X ct c fc)
    (hm : lastMarks [op, op'] [b, c] = false := by with_unfolding_all rfl) : ST X ct (.Compare a [op, op'] [b, c] pos) (fB (fChain h h' fa fb fc)) := by
  refine PT.imp (pt_chain ho ho' ha hb hc hm) fun σ H Q w => ?_
  obtain ⟨ρ, M, env, r, he, d, M', hf, hq⟩ := w
  obtain ⟨x0, M0, h0, hf0⟩ := bnd_some hf
  have hz : ∃ k, x0 = Dv.bl k ∧ d = k ∧ M' = M0 := by
    split at hf0
    · cases hf0; exact ⟨_, rfl, rfl, rfl⟩
    · cases hf0
  obtain ⟨k, rfl, rfl, rfl⟩ := hz
  obtain ⟨x, M1, h1, h0⟩ := bnd_some h0
  obtain ⟨y, M2, h2, h0⟩ := bnd_some h0
  obtain ⟨z, M3, h3, h0⟩ := bnd_some h0
  refine ⟨ρ, M, env, r, he, x, M1, h1, fun ρ1 H1 e1 r1 v dv => ⟨ρ1, M1, env, r1, he.mono e1, y, M2, h2, fun ρ2 H2 e2 r2 w dw => ⟨ρ2, M2, x, y, r2, dv.mono e2, dw, z, M3, h3, fun ρ3 H3 e3 r3 u du => ?_⟩⟩⟩
  split at h0
  · cases du
    obtain ⟨t, M4, h4, h0⟩ := bnd_some h0
    refine ⟨true, rfl, ?_⟩
    rw [if_pos rfl]
    exact ⟨ρ3, M3, env, r3, ((he.mono e1).mono e2).mono e3, t, M4, h4, fun ρ4 H4 e4 r4 u4 du4 => ⟨ρ4, M4, y, t, r4, (dw.mono e3).mono e4, du4, _, _, h0, fun ρ5 H5 e5 r5 u5 du5 => by
      cases du5
      exact ⟨_, rfl, hq ρ5 H5 ((((e1.trans e2).trans e3).trans e4).trans e5) r5⟩⟩⟩
  · cases du
    cases h0
    refine ⟨false, rfl, ?_⟩
    rw [if_neg (by decide)]
    exact ⟨_, rfl, hq ρ3 H3 ((e1.trans e2).trans e3) r3⟩
  · cases h0
/-- a value's truth -/
def fTr (f : FE) : FT := fun env M => bnd (f env M) fun d M1 => match d with
  | .non => some (false, M1)
  | .bl b => some (b, M1)
  | .int i => some (i != 0, M1)
  | .str x => if x.length ≤ sizeLine then some ((x.length : Int) != 0, M1) else none
  | .tup xs => some (!xs.isEmpty, M1)
  | .rol xs => some (!xs.isEmpty, M1)
  | .loc n => match M1[n]? with
    | some (.lst xs) => some (!xs.isEmpty, M1)
    | _ => none
  | _ => none
theorem isEmpty_dvs {K : Frg} {ρ : List Addr} {H : Hp} {ds : List Dv} {vs : List V} (h : DVs K ρ H ds vs) : vs.isEmpty = ds.isEmpty := by cases h <;> rfl
theorem st_truth (h : SE X ct e fa) (he : ∀ whole, isTrue e X.env whole = (do let v ← whole; standAt e.pos; holding [v] (truthy v)) := by intro _; rfl) : ST X ct e (fTr fa) :=
  PT.imp (pt_truth h he) fun σ H Q ⟨ρ, M, env, r, hen, d, M', hf, hq⟩ => by
    obtain ⟨x, M1, h1, hf⟩ := bnd_some hf
    refine ⟨ρ, M, env, r, hen, x, M1, h1, fun ρ1 H1 e1 r1 v dv => ?_⟩
    cases x with
    | non => cases hf; cases dv; exact ⟨_, rfl, hq ρ1 H1 e1 r1⟩
    | bl b => cases hf; cases dv; exact ⟨_, rfl, hq ρ1 H1 e1 r1⟩
    | int i => cases hf; cases dv; exact ⟨_, rfl, hq ρ1 H1 e1 r1⟩
    | str x =>
      dsimp only at hf
      split at hf
      · rename_i hl
        cases hf; cases dv; exact ⟨_, ⟨hl, rfl⟩, hq ρ1 H1 e1 r1⟩
      · cases hf
    | tup xs =>
      cases hf
      cases dv with
      | tup hs hd => exact ⟨_, .inr (.inl ⟨_, hs.sq, by rw [isEmpty_dvs hd]⟩), hq ρ1 H1 e1 r1⟩
    | rol xs =>
      cases hf
      cases dv with
      | rol hs hd => exact ⟨_, .inl ⟨_, hs.sq, by rw [isEmpty_dvs hd]⟩, hq ρ1 H1 e1 r1⟩
    | loc n =>
      dsimp only at hf
      split at hf
      · rename_i xs hm
        cases hf
        obtain ⟨a, vs, rfl, h2, h3, h4⟩ := r1.lst hm dv
        exact ⟨_, .inl ⟨vs, SqL.of h3, by rw [isEmpty_dvs h4]⟩, hq ρ1 H1 e1 r1⟩
      · cases hf
    | ty n => cases hf
    | pr xs => cases hf
/-- not -/
def fNotT (f : FT) : FT := fun env M => bnd (f env M) fun b M1 => some (!b, M1)
theorem st_not (h : ST X ct a ft) : ST X ct (.UnaryOp .Not a pos) (fNotT ft) :=
  PT.imp (pt_not h) fun σ H Q ⟨ρ, M, env, r, he, d, M', hf, hq⟩ => by
    obtain ⟨x, M1, h1, hf⟩ := bnd_some hf
    cases hf
    exact ⟨ρ, M, env, r, he, x, _, h1, fun ρ1 H1 e1 r1 => hq ρ1 H1 e1 r1⟩
def fAndT (f g : FT) : FT := fun env M => bnd (f env M) fun b M1 => if b then g env M1 else some (false, M1)
def fOrT (f g : FT) : FT := fun env M => bnd (f env M) fun b M1 => if b then some (true, M1) else g env M1
theorem sw_and1 (h : ST X ct a ft) : SW X ct (.BoolOp .And [a] pos) ft := pw_and1 h
theorem sw_or1 (h : ST X ct a ft) : SW X ct (.BoolOp .Or [a] pos) ft := pw_or1 h
theorem sw_and (h : ST X ct a ft) (k : SW X ct (.BoolOp .And (b :: rest) pos) fu) : SW X ct (.BoolOp .And (a :: b :: rest) pos) (fAndT ft fu) :=
  PW.imp (pw_and h k) fun σ H Q ⟨ρ, M, env, r, he, d, M', hf, hq⟩ => by
    obtain ⟨x, M1, h1, hf⟩ := bnd_some hf
    refine ⟨ρ, M, env, r, he, x, M1, h1, fun ρ1 H1 e1 r1 => ?_⟩
    cases x with
    | true =>
      rw [if_pos rfl]
      exact ⟨ρ1, M1, env, r1, he.mono e1, d, M', hf, hq.later e1⟩
    | false =>
      cases hf
      rw [if_neg (by decide)]
      exact hq ρ1 H1 e1 r1
theorem sw_or (h : ST X ct a ft) (k : SW X ct (.BoolOp .Or (b :: rest) pos) fu) : SW X ct (.BoolOp .Or (a :: b :: rest) pos) (fOrT ft fu) :=
  PW.imp (pw_or h k) fun σ H Q ⟨ρ, M, env, r, he, d, M', hf, hq⟩ => by
    obtain ⟨x, M1, h1, hf⟩ := bnd_some hf
    refine ⟨ρ, M, env, r, he, x, M1, h1, fun ρ1 H1 e1 r1 => ?_⟩
    cases x with
    | false =>
      rw [if_neg (by decide)]
      exact ⟨ρ1, M1, env, r1, he.mono e1, d, M', hf, hq.later e1⟩
    | true =>
      cases hf
      rw [if_pos rfl]
      exact hq ρ1 H1 e1 r1
theorem SW.st (h : SW X ct e ft) : ST X ct e ft := PW.pt h
/-! ### as values: all but the last one bools -/
def fAndV (f g : FE) : FE := fun env M => bnd (f env M) fun d M1 => match d with
  | .bl true => g env M1
  | .bl false => some (.bl false, M1)
  | _ => none
def fOrV (f g : FE) : FE := fun env M => bnd (f env M) fun d M1 => match d with
  | .bl true => some (.bl true, M1)
  | .bl false => g env M1
  | _ => none
theorem se_one {op} (h : SE X ct a fa) : SE X ct (.BoolOp op [a] pos) fa := pe_one h
theorem se_and (h : SE X ct a fa) (k : SE X ct (.BoolOp .And (b :: rest) pos) fb) : SE X ct (.BoolOp .And (a :: b :: rest) pos) (fAndV fa fb) :=
  PE.imp (pe_and h k) fun σ H Q ⟨ρ, M, env, r, he, d, M', hf, hq⟩ => by
    obtain ⟨x, M1, h1, hf⟩ := bnd_some hf
    refine ⟨ρ, M, env, r, he, x, M1, h1, fun ρ1 H1 e1 r1 v dv => ?_⟩
    split at hf
    · cases dv
      refine ⟨true, rfl, ?_⟩
      rw [if_pos rfl]
      exact ⟨ρ1, M1, env, r1, he.mono e1, d, M', hf, hq.later e1⟩
    · cases dv; cases hf
      refine ⟨false, rfl, ?_⟩
      rw [if_neg (by decide)]
      exact hq ρ1 H1 e1 r1 _ (.bl false)
    · cases hf
theorem se_or (h : SE X ct a fa) (k : SE X ct (.BoolOp .Or (b :: rest) pos) fb) : SE X ct (.BoolOp .Or (a :: b :: rest) pos) (fOrV fa fb) :=
  PE.imp (pe_or h k) fun σ H Q ⟨ρ, M, env, r, he, d, M', hf, hq⟩ => by
    obtain ⟨x, M1, h1, hf⟩ := bnd_some hf
    refine ⟨ρ, M, env, r, he, x, M1, h1, fun ρ1 H1 e1 r1 v dv => ?_⟩
    split at hf
    · cases dv; cases hf
      refine ⟨true, rfl, ?_⟩
      rw [if_pos rfl]
      exact hq ρ1 H1 e1 r1 _ (.bl true)
    · cases dv
      refine ⟨false, rfl, ?_⟩
      rw [if_neg (by decide)]
      exact ⟨ρ1, M1, env, r1, he.mono e1, d, M', hf, hq.later e1⟩
    · cases hf
def fNotV (f : FE) : FE := fun env M => bnd (f env M) fun d M1 => match d with
  | .bl b => some (.bl (!b), M1)
  | _ => none
theorem se_not (h : SE X ct a fa) : SE X ct (.UnaryOp .Not a pos) (fNotV fa) :=
  PE.imp (pe_not h) fun σ H Q ⟨ρ, M, env, r, he, d, M', hf, hq⟩ => by
    obtain ⟨x, M1, h1, hf⟩ := bnd_some hf
    refine ⟨ρ, M, env, r, he, x, M1, h1, fun ρ1 H1 e1 r1 v dv => ?_⟩
    split at hf
    · cases dv; cases hf
      exact ⟨_, rfl, hq ρ1 H1 e1 r1 _ (.bl _)⟩
    · cases hf
def fIf (f : FT) (g h : FE) : FE := fun env M => bnd (f env M) fun b M1 => if b then g env M1 else h env M1
theorem se_if (hc : ST X ct c ft) (ha : SE X ct a fa) (hb : SE X ct b fb) : SE X ct (.IfExp c a b pos) (fIf ft fa fb) :=
  PE.imp (pe_ifExp hc ha hb) fun σ H Q ⟨ρ, M, env, r, he, d, M', hf, hq⟩ => by
    obtain ⟨x, M1, h1, hf⟩ := bnd_some hf
    refine ⟨ρ, M, env, r, he, x, M1, h1, fun ρ1 H1 e1 r1 => ?_⟩
    cases x with
    | true =>
      rw [if_pos rfl]
      exact ⟨ρ1, M1, env, r1, he.mono e1, d, M', hf, hq.later e1⟩
    | false =>
      rw [if_neg (by decide)]
      exact ⟨ρ1, M1, env, r1, he.mono e1, d, M', hf, hq.later e1⟩

/-! ### argument lists, displays -/
variable {es : List Expr} {fr : FA}
def fNil : FA := fun _ M => some ([], M)
def fCons (f : FE) (g : FA) : FA := fun env M => bnd (f env M) fun d M1 => bnd (g env M1) fun ds M2 => some (d :: ds, M2)
theorem sa_nil : SA X ct [] fNil := PA.imp pa_nil fun σ H Q ⟨ρ, M, env, r, he, d, M', hf, hq⟩ => by
  cases hf
  exact hq ρ H .refl r _ .nil
theorem sa_cons (h : SE X ct e fa) (k : SA X ct es fr) (hs : starEach (e :: es) X.env = (false, eval e X.env) :: starEach es X.env := by rfl) : SA X ct (e :: es) (fCons fa fr) :=
  PA.imp (pa_cons h k hs) fun σ H Q ⟨ρ, M, env, r, he, d, M', hf, hq⟩ => by
    obtain ⟨x, M1, h1, hf⟩ := bnd_some hf
    obtain ⟨ys, M2, h2, hf⟩ := bnd_some hf
    cases hf
    exact ⟨ρ, M, env, r, he, x, M1, h1, fun ρ1 H1 e1 r1 v dv => ⟨ρ1, M1, env, r1, he.mono e1, ys, _, h2, fun ρ2 H2 e2 r2 vs dvs => hq ρ2 H2 (e1.trans e2) r2 _ (.cons (dv.mono e2) dvs)⟩⟩
/-- *e ahead of the rest -/
def fStar (f : FE) (g : FA) : FA := fun env M => bnd (f env M) fun d M1 => match d with
  | .tup xs => bnd (g env M1) fun ds M2 => some (xs ++ ds, M2)
  | _ => none
def fTup (f : FA) : FE := fun env M => bnd (f env M) fun ds M1 => if ds.length ≤ sizeLine then some (.tup ds, M1) else none
def fLst (f : FA) : FE := fun env M => bnd (f env M) fun ds M1 => if ds.length ≤ sizeLine then some (.loc M1.length, M1 ++ [.lst ds]) else none
/-- a new tuple, locked -/
theorem layT {pins : List (Addr × Obj)} {σ : St} {H : Hp} {s : Shared} {xs : List V} {us : List Value} {tk : Nat} (I : Inv X pins σ H s) (r : Vals xs us) (hz : xs.length ≤ sizeLine) :
    Inv X pins σ (upd H s.heap.objs.size (.frz { cls := .type "tuple", data := .seq us.toArray } (.tup xs))) { s with heap := s.heap.push { cls := .type "tuple", data := .seq us.toArray }, toks := tk } :=
  I.laid (fun _ _ q => Heap.get?_push_of_some _ q) (Nat.le_refl _) ⟨Heap.get?_push_size _ rfl, hz, us, r, PyProof.Rows.IsTup.new _ _⟩
theorem pe_tupF {x1} {t : TA} (h : PA X es t) : PE X (.Tuple es x1 pos) (fun σ H Q => t σ H fun xs H1 => xs.length ≤ sizeLine ∧ ∀ p o, H1 p = none → o.dict = none → Q (.ref p) (upd H1 p (.frz o (.tup xs)))) :=
  ⟨fun pins s σ H Q I hq => wpAny_Tuple_spliced (thn (h.run pos pins s σ H _ I hq) fun us s1 ⟨xs, H1, I1, r, z, q⟩ => ⟨r.length ▸ z,
    ⟨V.ref s1.heap.objs.size, _, layT (tk := s1.toks) I1 r z, rfl, q _ _ (I1.hok.fresh (Nat.le_refl _)) rfl⟩⟩)⟩
theorem se_tup {x1} (h : SA X ct es fr) : SE X ct (.Tuple es x1 pos) (fTup fr) :=
  PE.imp (pe_tupF h) fun σ H Q ⟨ρ, M, env, r, he, d, M', hf, hq⟩ => by
    obtain ⟨ys, M1, h1, hf⟩ := bnd_some hf
    split at hf
    · rename_i hl
      cases hf
      refine ⟨ρ, M, env, r, he, ys, _, h1, fun ρ1 H1 e1 r1 vs dvs => ⟨by rw [← dvs.length]; exact hl, fun p o hp ho => ?_⟩⟩
      exact hq ρ1 _ (e1.trans (Ext.fresh hp)) (r1.tup hp _) _ (.tup (TupD.new ho) (dvs.mono (Ext.fresh hp)))
    · cases hf
theorem se_lst (h : SA X ct es fr) : SE X ct (.List es pos) (fLst fr) :=
  PE.imp (pe_lst h) fun σ H Q ⟨ρ, M, env, r, he, d, M', hf, hq⟩ => by
    obtain ⟨ys, M1, h1, hf⟩ := bnd_some hf
    split at hf
    · rename_i hl
      cases hf
      refine ⟨ρ, M, env, r, he, ys, _, h1, fun ρ1 H1 e1 r1 vs dvs => ⟨by rw [← dvs.length]; exact hl, fun p hp => ?_⟩⟩
      obtain ⟨r2, e2, h2⟩ := r1.newL hp dvs
      exact hq _ _ (e1.trans e2) r2 _ (.loc h2)
    · cases hf
/-! ### a call of a built-in -/
def fC (h : List Dv → Mem → Option (Dv × Mem)) (f : FA) : FE := fun env M => bnd (f env M) h
variable {hc : List Dv → Mem → Option (Dv × Mem)} {id T : String} {x : Str} {p : Pos}
theorem c_imp {σ : St} {H : Hp} {Q : VK} (w : tE X.K ct (fC hc fr) σ H Q) : tCB (tC X.K ct hc) (tA X.K ct fr) σ H Q := by
  obtain ⟨ρ, M, env, r, he, d, M', hf, hq⟩ := w
  obtain ⟨ys, M1, h1, hf⟩ := bnd_some hf
  exact ⟨ρ, M, env, r, he, ys, M1, h1, fun ρ1 H1 e1 r1 vs dvs => ⟨ρ1, M1, ys, r1, dvs, d, M', hf, hq.later e1⟩⟩
theorem se_callB (h : SC X ct (.builtin id) hc) (hg : Gl X x) (hm : X.mg x = none) (hv : bootBuiltins x = some (.builtin id)) (ha : SA X ct (e :: es) fr) (hn : x ≠ "__name__" := by decide) (hdb : (x == ("__debug__" : Str)) = false := by decide)
    (he : starEach (e :: es) X.env = (false, eval e X.env) :: starEach es X.env := by rfl) (hpl : (backTo pos (starEach es X.env)).any (·.1) = false := by rfl) : SE X ct (.Call (.Name x p) (e :: es) [] pos) (fC hc fr) :=
  PE.imp (pe_callB h hg hm hv ha hn hdb he hpl) fun _ _ _ w => c_imp w
theorem se_callTy (h : SC X ct (.type T) hc) (hg : Gl X x) (hm : X.mg x = none) (hv : bootBuiltins x = some (.type T)) (ha : SA X ct (e :: es) fr) (hn : x ≠ "__name__" := by decide) (hdb : (x == ("__debug__" : Str)) = false := by decide)
    (he : starEach (e :: es) X.env = (false, eval e X.env) :: starEach es X.env := by rfl) (hpl : (backTo pos (starEach es X.env)).any (·.1) = false := by rfl) : SE X ct (.Call (.Name x p) (e :: es) [] pos) (fC hc fr) :=
  PE.imp (pe_callTy h hg hm hv ha hn hdb he hpl) fun _ _ _ w => c_imp w
end
end Zl

/-! text Z3 -/
namespace Zl
open PySem L2 PySem.Spec PyProof.Rows

abbrev Rz := Option (Dv × Mem)
section
variable {X : Cx}
/-- t + u, the sum locked -/
theorem op_catF : OpR X (binaryOp .Add) (fun x y H Q => ∃ a b xs ys, x = .ref a ∧ y = .ref b ∧ SqT X.K H a xs ∧ SqT X.K H b ys ∧ xs.length + ys.length ≤ sizeLine ∧
    (xs = [] → Q (.ref b) H) ∧ (xs ≠ [] → ys = [] → Q (.ref a) H) ∧ (xs ≠ [] → ys ≠ [] → ∀ p o, H p = none → o.dict = none → Q (.ref p) (upd H p (.frz o (.tup (xs ++ ys)))))) := by
  intro pins s σ H x y v u Q I rx ry h
  obtain ⟨a, b, xs, ys, rfl, rfl, ha, hb, hz, q0, q1, q2⟩ := h
  cases rx; cases ry
  obtain ⟨us, r1, p1, _⟩ := I.tuple ha
  obtain ⟨ws, r2, p2, _⟩ := I.tuple hb
  by_cases hx : xs = []
  · subst hx
    cases r1
    exact cat_tup0 p1 p2 ⟨V.ref b, H, I, rfl, q0 rfl⟩
  · have hu : us ≠ [] := fun e => hx (by subst e; cases r1; rfl)
    refine HT.cat_tup p1 p2 hu (fun e => ?_) (fun e => ?_) ?_
    · subst e; cases r2
      exact ⟨V.ref a, H, I, rfl, q1 hx rfl⟩
    · have hy : ys ≠ [] := fun e' => e (by subst e'; cases r2; rfl)
      exact ⟨V.ref s.heap.objs.size, _, layT (tk := s.toks) I (r1.append r2) (by rw [List.length_append]; exact hz), rfl, q2 hx hy _ _ (I.hok.fresh (Nat.le_refl _)) rfl⟩
    · have e1 := r1.length
      have e2 := r2.length
      omega
/-- t * k where nothing new is made: the tuple is empty, or k is 1 -/
theorem tmul_same (l : Addr) (items : Array Value) (n : Nat) (dd : Option Addr) (sl : Array (Option Value)) (x : Int) (u : Tok) (c0 : (decide (x < -(2 ^ 63)) || decide (x ≥ 2 ^ 63)) = false) (c1 : (items.isEmpty || x == 1) = true) :
    Meets (Builtin.«tuple.__mul__» ⟨[.ref l, .int x u], []⟩) (fun _ R s => s.heap.get? l = some { cls := .type "tuple", dict := dd, data := .seq items n, slots := sl } ∧ R (.ok (.ret (Value.ref l))) s) :=
  .of_wp fun prog w A R s h => by
    obtain ⟨hp, g, d, tk, os⟩ := s
    obtain ⟨hl, h⟩ := h
    have f1 := AutoSeq1.idx_int
    wp_walk using wpAny_loadPart' hl
    refine wpAny_ite_false (decide_eq_false (by rw [c0]; exact Bool.false_ne_true)) ?_
    wp_walk using wpAny_loadPart' hl
    exact ⟨_, rfl, h⟩
/-- t * k, k not above 0: a new empty tuple -/
theorem tmul_none (l : Addr) (items : Array Value) (n : Nat) (dd : Option Addr) (sl : Array (Option Value)) (x : Int) (u : Tok) (c0 : (decide (x < -(2 ^ 63)) || decide (x ≥ 2 ^ 63)) = false) (c1 : (items.isEmpty || x == 1) = false) (c2 : (decide (x ≤ 0) || items.isEmpty) = true) :
    Meets (Builtin.«tuple.__mul__» ⟨[.ref l, .int x u], []⟩) (fun _ R s => s.heap.get? l = some { cls := .type "tuple", dict := dd, data := .seq items n, slots := sl } ∧
      R (.ok (.ret (Value.ref s.heap.objs.size))) { s with heap := s.heap.push { cls := .type "tuple", data := .seq #[] } }) :=
  .of_wp fun prog w A R s h => by
    obtain ⟨hp, g, d, tk, os⟩ := s
    obtain ⟨hl, h⟩ := h
    have f1 := AutoSeq1.idx_int
    wp_walk using wpAny_loadPart' hl
    refine wpAny_ite_false (decide_eq_false (by rw [c0]; exact Bool.false_ne_true)) ?_
    wp_walk using wpAny_loadPart' hl
    exact ⟨_, rfl, h⟩
/-- t * k, whatever k: locked where it is new -/
theorem op_repF : OpR X (binaryOp .Mult) (fun x y H Q => ∃ l k xs, x = .ref l ∧ y = .int k ∧ SqT X.K H l xs ∧ -(2 ^ 63) ≤ k ∧ k < 2 ^ 63 ∧ xs.length * k.toNat ≤ sizeLine ∧
    (xs = [] ∨ k = 1 → Q (.ref l) H) ∧ (xs ≠ [] → k ≠ 1 → ∀ p o, H p = none → o.dict = none → Q (.ref p) (upd H p (.frz o (.tup (List.replicate k.toNat xs).flatten))))) := by
  intro pins s σ H x y v u Q I rx ry h
  obtain ⟨l, k, xs, rfl, rfl, hT, h1, h2, hz, q1, q2⟩ := h
  cases rx
  obtain ⟨t, rfl⟩ := ry
  obtain ⟨its, r, ⟨⟨cls, dd, data, sl⟩, ho, hc, n, hd⟩, hs⟩ := I.tuple hT
  simp only at hc hd
  subst hc hd
  have hle : its.length = xs.length := r.length.symm
  have c0 : (decide (k < -(2 ^ 63)) || decide (k ≥ 2 ^ 63)) = false := by
    rw [decide_eq_false (by omega), decide_eq_false (by omega)]; rfl
  have road : ∀ {S : PySem.Spec}, Meets (Builtin.«tuple.__mul__» ⟨[.ref l, .int k t], []⟩) S → S X.A (wants (EP X pins σ Q) X.xe) s → wpAny (model X.prog X.w) X.A (binaryOp .Mult (.ref l) (.int k t)) (EP X pins σ Q) X.xe s := fun {S} g hS =>
    wpAny_binaryOp_repeat_ref (T := "tuple") (U := "int") (by decide) ⟨_, ho, rfl⟩ (fun s' => typeIs_int s' k t) noFill_tuple_mul F.fills_int_mul F.slot_int_rmul repeat_tuple F.slot_int_index.lookup
      (call_meets F.slot_int_rmul (typeIs_int s k t) F.entry_int_rmul (F.args_int_rmul_2 _ _) (int_rmul_tuple k t l its.toArray n dd sl)
        ⟨ho, rfl, ⟨_, ho, rfl⟩, call_meets F.slot_tuple_mul ⟨_, ho, rfl⟩ F.entry_tuple_mul (F.args_tuple_mul_2 _ _) g hS⟩)
  by_cases hx : xs = []
  · subst hx
    cases r
    exact road (tmul_same l [].toArray n dd sl k t c0 rfl) ⟨ho, V.ref l, H, I, rfl, q1 (.inl rfl)⟩
  · have hn : its.toArray.isEmpty = false := by
      cases r with
      | nil => exact absurd rfl hx
      | cons _ _ => rfl
    by_cases hk : k = 1
    · subst hk
      exact road (tmul_same l _ n dd sl 1 t c0 (by rw [hn]; rfl)) ⟨ho, V.ref l, H, I, rfl, q1 (.inr rfl)⟩
    · have c1 : (its.toArray.isEmpty || k == 1) = false := by
        rw [hn, Bool.false_or]
        exact beq_eq_false_iff_ne.mpr hk
      by_cases h0 : k ≤ 0
      · refine road (tmul_none l _ n dd sl k t c0 c1 (by rw [decide_eq_true h0]; rfl)) ⟨ho, V.ref s.heap.objs.size, _, layT (us := []) (xs := []) (tk := s.toks) I .nil (Nat.zero_le _), rfl, ?_⟩
        have e := q2 hx hk s.heap.objs.size { cls := .type "tuple", data := .seq #[] } (I.hok.fresh (Nat.le_refl _)) rfl
        rw [show k.toNat = 0 by omega] at e
        exact e
      · have hm : ((its.toArray.size : Nat) : Int) * k ≤ 16777216 := by
          have e1 : ((its.toArray.size : Nat) : Int) * k = ((xs.length * k.toNat : Nat) : Int) := by
            rw [List.size_toArray, hle, Int.natCast_mul, Int.toNat_of_nonneg (by omega)]
          rw [e1]
          have : xs.length * k.toNat ≤ 16777216 := hz
          omega
        have flen : (List.replicate k.toNat its).flatten.length ≤ sizeLine := by
          rw [lm_len_rep_flat, hle, Nat.mul_comm]; exact hz
        have c4 : Builtin.Tuple.tupleTooMany (((its.toArray.size : Nat) : Int) * k) = false := by
          unfold Builtin.Tuple.tupleTooMany
          exact decide_eq_false (by rw [sizeLine_eq]; omega)
        refine road (tuple_mulW l its.toArray n dd sl k t c0 c1 (by rw [hn, Bool.or_false]; exact decide_eq_false h0) (by omega) c4 (by rw [size_rep, List.size_toArray]; exact flen)) ⟨ho, ?_⟩
        rw [size_rep]
        refine ⟨V.ref s.heap.objs.size, _, layT (tk := s.toks) I (r.rep k.toNat) ?_, rfl, q2 hx hk _ _ (I.hok.fresh (Nat.le_refl _)) rfl⟩
        rw [lm_len_rep_flat, Nat.mul_comm]; exact hz
end
section
variable {X : Cx} {ct : Ct}
/-! ### arithmetic -/
def addD : Dv → Dv → Mem → Rz
  | .int i, .int j, M => some (.int (i + j), M)
  | .str x, .str y, M => if x.length + y.length ≤ sizeLine then some (.str (x ++ y), M) else none
  | .tup xs, .tup ys, M => if xs.length + ys.length ≤ sizeLine then some (.tup (xs ++ ys), M) else none
  | .loc m, .loc n, M => match M[m]?, M[n]? with
    | some (.lst xs), some (.lst ys) => if xs.length + ys.length ≤ sizeLine then some (.loc M.length, M ++ [.lst (xs ++ ys)]) else none
    | _, _ => none
  | _, _, _ => none
theorem so_add : SO X ct (binaryOp .Add) addD := by
  intro pins s σ H x y v u Q I rx ry h
  obtain ⟨ρ, M, d, e, r, dx, dy, z, M', hf, hq⟩ := h
  unfold addD at hf
  split at hf
  · cases hf; cases dx; cases dy
    exact op_add pins s σ H _ _ v u Q I rx ry ⟨_, _, rfl, rfl, hq ρ H .refl r _ (.int _)⟩
  · split at hf
    · rename_i hl
      cases hf; cases dx; cases dy
      exact op_add_str pins s σ H _ _ v u Q I rx ry ⟨_, _, rfl, rfl, hl, hq ρ H .refl r _ (.str _)⟩
    · cases hf
  · split at hf
    · rename_i hl
      cases hf
      cases dx with
      | tup h1 d1 =>
        cases dy with
        | tup h2 d2 =>
          refine op_catF pins s σ H _ _ v u Q I rx ry ⟨_, _, _, _, rfl, rfl, h1.sq, h2.sq, by rw [← d1.length, ← d2.length]; exact hl, fun e1 => ?_, fun n1 e2 => ?_, fun n1 n2 p o hp ho => ?_⟩
          · subst e1
            cases d1
            exact hq ρ H .refl r _ (.tup h2 d2)
          · subst e2
            cases d2
            exact hq ρ H .refl r _ (.tup h1 (by rw [List.append_nil]; exact d1))
          · exact hq ρ _ (Ext.fresh hp) (r.tup hp _) _ (.tup (TupD.new ho) ((d1.append d2).mono (Ext.fresh hp)))
    · cases hf
  · split at hf
    · rename_i m n _ _ hm hn
      split at hf
      · rename_i hl
        cases hf
        obtain ⟨a, vs, rfl, a1, a2, a3⟩ := r.lst hm dx
        obtain ⟨b, ws, rfl, b1, b2, b3⟩ := r.lst hn dy
        refine op_cat pins s σ H _ _ v u Q I rx ry ⟨_, _, _, _, rfl, rfl, a2, b2, by rw [← a3.length, ← b3.length]; exact hl, fun p hp => ?_⟩
        obtain ⟨r2, e2, h2⟩ := r.newL hp (a3.append b3)
        exact hq _ _ e2 r2 _ (.loc h2)
      · cases hf
    · cases hf
  · cases hf
def subD : Dv → Dv → Mem → Rz
  | .int i, .int j, M => some (.int (i - j), M)
  | _, _, _ => none
theorem so_sub : SO X ct (binaryOp .Sub) subD := by
  intro pins s σ H x y v u Q I rx ry h
  obtain ⟨ρ, M, d, e, r, dx, dy, z, M', hf, hq⟩ := h
  unfold subD at hf
  split at hf
  · cases hf; cases dx; cases dy
    exact op_sub pins s σ H _ _ v u Q I rx ry ⟨_, _, rfl, rfl, hq ρ H .refl r _ (.int _)⟩
  · cases hf
theorem rep_nil : ∀ n : Nat, (List.replicate n ([] : List Dv)).flatten = []
  | 0 => rfl
  | n + 1 => by rw [List.replicate_succ, List.flatten_cons, rep_nil n]; rfl
theorem rep_one (xs : List Dv) : (List.replicate (1 : Int).toNat xs).flatten = xs := by simp
def mulD : Dv → Dv → Mem → Rz
  | .int i, .int j, M => if (-(2 ^ 64) < i ∧ i < 2 ^ 64) ∨ (-(2 ^ 64) < j ∧ j < 2 ^ 64) then some (.int (i * j), M) else none
  | .loc n, .int k, M => match M[n]? with
    | some (.lst xs) => if -(2 ^ 63) ≤ k ∧ k < 2 ^ 63 ∧ xs.length * k.toNat ≤ sizeLine then some (.loc M.length, M ++ [.lst (List.replicate k.toNat xs).flatten]) else none
    | _ => none
  | .tup xs, .int k, M => if -(2 ^ 63) ≤ k ∧ k < 2 ^ 63 ∧ xs.length * k.toNat ≤ sizeLine then some (.tup (List.replicate k.toNat xs).flatten, M) else none
  | _, _, _ => none
theorem so_mul : SO X ct (binaryOp .Mult) mulD := by
  intro pins s σ H x y v u Q I rx ry h
  obtain ⟨ρ, M, d, e, r, dx, dy, z, M', hf, hq⟩ := h
  unfold mulD at hf
  split at hf
  · split at hf
    · rename_i hl
      cases hf; cases dx; cases dy
      exact op_mul pins s σ H _ _ v u Q I rx ry ⟨_, _, rfl, rfl, hl, hq ρ H .refl r _ (.int _)⟩
    · cases hf
  · split at hf
    · rename_i n k _ _ hm
      split at hf
      · rename_i hl
        cases hf
        obtain ⟨a, vs, rfl, a1, a2, a3⟩ := r.lst hm dx
        cases dy
        refine op_rep pins s σ H _ _ v u Q I rx ry ⟨_, _, _, rfl, rfl, a2, hl.1, hl.2.1, by rw [← a3.length]; exact hl.2.2, fun p hp => ?_⟩
        obtain ⟨r2, e2, h2⟩ := r.newL hp (a3.rep _)
        exact hq _ _ e2 r2 _ (.loc h2)
      · cases hf
    · cases hf
  · split at hf
    · rename_i xs k _ hl
      cases hf
      cases dy
      cases dx with
      | tup h1 d1 =>
        refine op_repF pins s σ H _ _ v u Q I rx ry ⟨_, _, _, rfl, rfl, h1.sq, hl.1, hl.2.1, by rw [← d1.length]; exact hl.2.2, fun hs => ?_, fun _ _ p o hp ho => ?_⟩
        · refine hq ρ H .refl r _ (.tup h1 ?_)
          rcases hs with e | e
          · subst e; cases d1
            rw [rep_nil]; exact .nil
          · subst e
            rw [rep_one]; exact d1
        · exact hq ρ _ (Ext.fresh hp) (r.tup hp _) _ (.tup (TupD.new ho) ((d1.rep _).mono (Ext.fresh hp)))
    · cases hf
  · cases hf
def fdivD : Dv → Dv → Mem → Rz
  | .int i, .int j, M => if 0 < j ∧ j < 1073741824 then some (.int (i / j), M) else none
  | _, _, _ => none
theorem so_fdiv : SO X ct (binaryOp .FloorDiv) fdivD := by
  intro pins s σ H x y v u Q I rx ry h
  obtain ⟨ρ, M, d, e, r, dx, dy, z, M', hf, hq⟩ := h
  unfold fdivD at hf
  split at hf
  · split at hf
    · rename_i hl
      cases hf; cases dx; cases dy
      exact op_fdiv pins s σ H _ _ v u Q I rx ry ⟨_, _, rfl, rfl, hl, hq ρ H .refl r _ (.int _)⟩
    · cases hf
  · cases hf
def modD : Dv → Dv → Mem → Rz
  | .int i, .int j, M => if 0 < j then some (.int (i % j), M) else none
  | _, _, _ => none
theorem so_mod : SO X ct (binaryOp .Mod) modD := by
  intro pins s σ H x y v u Q I rx ry h
  obtain ⟨ρ, M, d, e, r, dx, dy, z, M', hf, hq⟩ := h
  unfold modD at hf
  split at hf
  · split at hf
    · rename_i hl
      cases hf; cases dx; cases dy
      exact op_mod pins s σ H _ _ v u Q I rx ry ⟨_, _, rfl, rfl, hl, hq ρ H .refl r _ (.int _)⟩
    · cases hf
  · cases hf
def powD : Dv → Dv → Mem → Rz
  | .int i, .int j, M => if 0 ≤ j ∧ j ≤ 1000 ∧ i.natAbs < 2 ^ 64 then some (.int (i ^ j.toNat), M) else none
  | _, _, _ => none
theorem so_pow : SO X ct (binaryOp .Pow) powD := by
  intro pins s σ H x y v u Q I rx ry h
  obtain ⟨ρ, M, d, e, r, dx, dy, z, M', hf, hq⟩ := h
  unfold powD at hf
  split at hf
  · split at hf
    · rename_i hl
      cases hf; cases dx; cases dy
      exact op_pow pins s σ H _ _ v u Q I rx ry ⟨_, _, rfl, rfl, ⟨hl.1, by omega, hl.2.2⟩, hq ρ H .refl r _ (.int _)⟩
    · cases hf
  · cases hf
def negD : Dv → Mem → Rz
  | .int i, M => some (.int (-i), M)
  | _, _ => none
theorem su_neg : SU X ct (unaryOp .USub) negD := by
  intro pins s σ H x v Q I rx h
  obtain ⟨ρ, M, d, r, dx, z, M', hf, hq⟩ := h
  unfold negD at hf
  split at hf
  · cases hf; cases dx
    exact un_neg pins s σ H _ v Q I rx ⟨_, rfl, hq ρ H .refl r _ (.int _)⟩
  · cases hf

/-! ### the order of ints -/
def cmpI (p : Int → Int → Bool) : Dv → Dv → Mem → Rz
  | .int i, .int j, M => some (.bl (p i j), M)
  | _, _, _ => none
theorem so_cmpI {op : CmpOp} {p : Int → Int → Bool} (h0 : OpR X (compareOp op) (rI0 fun i j => .bl (p i j))) : SO X ct (compareOp op) (cmpI p) := by
  intro pins s σ H x y v u Q I rx ry h
  obtain ⟨ρ, M, d, e, r, dx, dy, z, M', hf, hq⟩ := h
  unfold cmpI at hf
  split at hf
  · cases hf; cases dx; cases dy
    exact h0 pins s σ H _ _ v u Q I rx ry ⟨_, _, rfl, rfl, hq ρ H .refl r _ (.bl _)⟩
  · cases hf
abbrev ltD := cmpI fun i j => decide (i < j)
abbrev leD := cmpI fun i j => decide (i ≤ j)
abbrev gtD := cmpI fun i j => decide (j < i)
abbrev geD := cmpI fun i j => decide (j ≤ i)
theorem so_lt : SO X ct (compareOp .Lt) ltD := so_cmpI op_lt
theorem so_le : SO X ct (compareOp .LtE) leD := so_cmpI op_le
theorem so_gt : SO X ct (compareOp .Gt) gtD := so_cmpI op_gt
theorem so_ge : SO X ct (compareOp .GtE) geD := so_cmpI op_ge

/-! ### data as a whole: ==, repr -/
def rdL (f : Dv → Option PyData) : List Dv → Option (List PyData)
  | [] => some []
  | x :: xs => match f x with
    | none => none
    | some p => match rdL f xs with
      | none => none
      | some ps => some (p :: ps)
def rd (M : Mem) : Nat → Dv → Option PyData
  | _, .non => some .none
  | _, .bl b => some (.bool b)
  | _, .int i => some (.int i)
  | _, .str x => some (.str x)
  | _, .ty _ => none
  | _, .pr _ => none
  | 0, _ => none
  | n + 1, .tup xs => match rdL (rd M n) xs with
    | some ps => some (.tuple ps)
    | none => none
  | n + 1, .rol xs => match rdL (rd M n) xs with
    | some ps => some (.list ps)
    | none => none
  | n + 1, .loc k => match M[k]? with
    | some (.lst xs) => match rdL (rd M n) xs with
      | some ps => some (.list ps)
      | none => none
    | _ => none
section
variable {K : Frg} {ρ : List Addr} {M : Mem} {H : Hp}
theorem rdL_dp {f : Dv → Option PyData} (hf : ∀ d v p, DV K ρ H d v → f d = some p → Dp K H v p) : ∀ {xs : List Dv} {vs : List V} {ps : List PyData}, DVs K ρ H xs vs → rdL f xs = some ps → DpAll K H vs ps
  | _, _, _, .nil, e => by cases e; exact .nil
  | _, _, _, .cons h t, e => by
    unfold rdL at e
    split at e
    · cases e
    · rename_i p hp
      split at e
      · cases e
      · rename_i qs hq
        cases e
        exact .cons (hf _ _ _ h hp) (rdL_dp hf t hq)
theorem rd_dp (r : Rl K ct ρ M H) : ∀ (n : Nat) {d : Dv} {v : V} {p : PyData}, DV K ρ H d v → rd M n d = some p → Dp K H v p
  | _, .non, _, _, h, e => by cases h; simp [rd] at e; subst e; exact .non
  | _, .bl b, _, _, h, e => by cases h; simp [rd] at e; subst e; exact .bl b
  | _, .int i, _, _, h, e => by cases h; simp [rd] at e; subst e; exact .int i
  | _, .str x, _, _, h, e => by cases h; simp [rd] at e; subst e; exact .str x
  | _, .ty _, _, _, h, e => by simp [rd] at e
  | _, .pr _, _, _, h, e => by simp [rd] at e
  | 0, .tup _, _, _, _, e => by simp [rd] at e
  | 0, .rol _, _, _, _, e => by simp [rd] at e
  | 0, .loc _, _, _, _, e => by simp [rd] at e
  | n + 1, .tup xs, _, _, h, e => by
    unfold rd at e
    split at e
    · rename_i ps hp
      cases e
      cases h with
      | tup hs hd => exact .tup hs.sq (rdL_dp (fun d v p h1 h2 => rd_dp r n h1 h2) hd hp)
    · cases e
  | n + 1, .rol xs, _, _, h, e => by
    unfold rd at e
    split at e
    · rename_i ps hp
      cases e
      cases h with
      | rol hs hd => exact .lst hs.sq (rdL_dp (fun d v p h1 h2 => rd_dp r n h1 h2) hd hp)
    · cases e
  | n + 1, .loc k, _, _, h, e => by
    unfold rd at e
    split at e
    · rename_i xs hm
      split at e
      · rename_i ps hp
        cases e
        obtain ⟨a, vs, rfl, a1, a2, a3⟩ := r.lst hm h
        exact .lst (SqL.of a2) (rdL_dp (fun d v p h1 h2 => rd_dp r n h1 h2) a3 hp)
      · cases e
    · cases e
end
def deep : Nat := 30
def eqD (neg : Bool) : Dv → Dv → Mem → Rz
  | .int i, .int j, M => some (.bl (xor neg (i == j)), M)
  | .str x, .str y, M => some (.bl (xor neg (x == y)), M)
  | x, y, M => match rd M deep x, rd M deep y with
    | some p, some q => if SeqAt.shaped p = true ∧ SeqAt.shaped q = true then some (.bl (xor neg (PyData.eqv p q)), M) else none
    | _, _ => none
theorem so_eq (hu : X.A.units + 64 < cLine) : SO X ct (compareOp .Eq) (eqD false) := by
  intro pins s σ H x y v u Q I rx ry h
  obtain ⟨ρ, M, d, e, r, dx, dy, z, M', hf, hq⟩ := h
  unfold eqD at hf
  split at hf
  · cases hf; cases dx; cases dy
    refine op_eq pins s σ H _ _ v u Q I rx ry ⟨rfl, ?_⟩
    rw [dec_int]
    exact hq ρ H .refl r _ (by rw [Bool.false_xor]; exact .bl _)
  · cases hf; cases dx; cases dy
    refine op_eq pins s σ H _ _ v u Q I rx ry ⟨rfl, ?_⟩
    rw [dec_str]
    exact hq ρ H .refl r _ (by rw [Bool.false_xor]; exact .bl _)
  · split at hf
    · rename_i p q hp hq'
      split at hf
      · rename_i hs
        cases hf
        exact op_eqD hu pins s σ H _ _ v u Q I rx ry ⟨p, q, rd_dp r _ dx hp, rd_dp r _ dy hq', hs.1, hs.2, hq ρ H .refl r _ (by rw [Bool.false_xor]; exact .bl _)⟩
      · cases hf
    · cases hf
theorem so_ne (hu : X.A.units + 64 < cLine) : SO X ct (compareOp .NotEq) (eqD true) := by
  intro pins s σ H x y v u Q I rx ry h
  obtain ⟨ρ, M, d, e, r, dx, dy, z, M', hf, hq⟩ := h
  unfold eqD at hf
  split at hf
  · cases hf; cases dx; cases dy
    refine op_ne pins s σ H _ _ v u Q I rx ry ⟨rfl, ?_⟩
    rw [dec_int]
    exact hq ρ H .refl r _ (by rw [Bool.true_xor]; exact .bl _)
  · cases hf; cases dx; cases dy
    refine op_ne pins s σ H _ _ v u Q I rx ry ⟨rfl, ?_⟩
    rw [dec_str]
    exact hq ρ H .refl r _ (by rw [Bool.true_xor]; exact .bl _)
  · split at hf
    · rename_i p q hp hq'
      split at hf
      · rename_i hs
        cases hf
        exact op_neD hu pins s σ H _ _ v u Q I rx ry ⟨p, q, rd_dp r _ dx hp, rd_dp r _ dy hq', hs.1, hs.2, hq ρ H .refl r _ (by rw [Bool.true_xor]; exact .bl _)⟩
      · cases hf
    · cases hf
/-! ### is None -/
def isNon : Dv → Bool
  | .non => true
  | _ => false
theorem isNon_of {K : Frg} {ρ : List Addr} {H : Hp} {d : Dv} {v : V} (h : DV K ρ H d v) : decide (v = .non) = isNon d := by cases h <;> rfl
def isD (neg : Bool) : Dv → Dv → Mem → Rz
  | d, .non, M => some (.bl (xor neg (isNon d)), M)
  | _, _, _ => none
theorem so_is : SO X ct (compareOp .Is) (isD false) := by
  intro pins s σ H x y v u Q I rx ry h
  obtain ⟨ρ, M, d, e, r, dx, dy, z, M', hf, hq⟩ := h
  unfold isD at hf
  split at hf
  · cases hf; cases dy
    exact op_isN pins s σ H _ _ v u Q I rx ry ⟨rfl, hq ρ H .refl r _ (by rw [isNon_of dx, Bool.false_xor]; exact .bl _)⟩
  · cases hf
theorem so_isnot : SO X ct (compareOp .IsNot) (isD true) := by
  intro pins s σ H x y v u Q I rx ry h
  obtain ⟨ρ, M, d, e, r, dx, dy, z, M', hf, hq⟩ := h
  unfold isD at hf
  split at hf
  · cases hf; cases dy
    exact op_notN pins s σ H _ _ v u Q I rx ry ⟨rfl, hq ρ H .refl r _ (by rw [isNon_of dx, Bool.true_xor]; exact .bl _)⟩
  · cases hf
end
end Zl

/-! text Z4 -/
namespace Zl
open PySem L2 PySem.Spec PyProof.Rows

/-! ### flat values -/
def flatD : Dv → Bool
  | .non => true
  | .bl _ => true
  | .int _ => true
  | .str _ => true
  | _ => false
def eqF : Dv → Dv → Bool
  | .non, .non => true
  | .bl a, .bl b => a == b
  | .bl a, .int b => (if a then 1 else 0) == b
  | .int a, .bl b => a == (if b then 1 else 0)
  | .int a, .int b => a == b
  | .str a, .str b => a == b
  | _, _ => false
def idxB (p : Dv → Bool) : List Dv → Option Nat
  | [] => none
  | y :: ys => if p y then some 0 else match idxB p ys with
    | some n => some (n + 1)
    | none => none
theorem idxB_some {p : Dv → Bool} : ∀ {ys : List Dv} {j : Nat}, idxB p ys = some j → (∃ z, ys[j]? = some z ∧ p z = true) ∧ ∀ (m : Nat) z, m < j → ys[m]? = some z → p z = false
  | [], j, h => by cases h
  | y :: ys, j, h => by
    unfold idxB at h
    split at h
    · rename_i hp
      cases h
      exact ⟨⟨y, rfl, hp⟩, fun m z hm => absurd hm (Nat.not_lt_zero m)⟩
    · rename_i hp
      split at h
      · rename_i n hn
        cases h
        obtain ⟨⟨z, h1, h2⟩, h3⟩ := idxB_some hn
        refine ⟨⟨z, by simpa using h1, h2⟩, fun m w hm hw => ?_⟩
        cases m with
        | zero => simp at hw; subst hw; simpa using hp
        | succ m => exact h3 m w (by omega) (by simpa using hw)
      · cases h
section
variable {K : Frg} {ρ : List Addr} {H : Hp}
theorem flat_of {d : Dv} {v : V} (h : DV K ρ H d v) : flatV v = flatD d := by cases h <;> rfl
theorem flats_of : ∀ {ds : List Dv} {vs : List V}, DVs K ρ H ds vs → vs.all flatV = ds.all flatD
  | _, _, .nil => rfl
  | _, _, .cons h t => by rw [List.all_cons, List.all_cons, flat_of h, flats_of t]
theorem eq_of {d e : Dv} {v u : V} (h : DV K ρ H d v) (h' : DV K ρ H e u) (f : flatD d = true) (f' : flatD e = true) : eqV v u = eqF d e := by
  cases h <;> cases h' <;> first | rfl | (exact absurd f (by decide)) | (exact absurd f' (by decide))
theorem any_of {x : Dv} {u : V} (hx : DV K ρ H x u) (fx : flatD x = true) : ∀ {ds : List Dv} {vs : List V}, DVs K ρ H ds vs → ds.all flatD = true → (vs.any fun y => eqV y u) = ds.any fun y => eqF y x
  | _, _, .nil, _ => rfl
  | _, _, .cons h t, f => by
    rw [List.all_cons, Bool.and_eq_true] at f
    rw [List.any_cons, List.any_cons, eq_of h hx f.1 fx, any_of hx fx t f.2]
theorem DVs.at_ {ds : List Dv} {vs : List V} {i : Int} {d : Dv} (h : DVs K ρ H ds vs) (e : atI ds i = some d) : ∃ v, atI vs i = some v ∧ DV K ρ H d v := by
  unfold atI at e ⊢
  rw [← h.length]
  cases q : ixN ds.length i with
  | none => rw [q] at e; cases e
  | some j =>
    rw [q] at e
    exact h.get e
theorem DVs.back : ∀ {ds : List Dv} {vs : List V} {i : Nat} {v : V}, DVs K ρ H ds vs → vs[i]? = some v → ∃ d, ds[i]? = some d ∧ DV K ρ H d v
  | _, _, _, _, .nil, e => by simp at e
  | _, _, 0, _, .cons h _, e => by simp at e; subst e; exact ⟨_, rfl, h⟩
  | _, _, i + 1, v, .cons _ r, e => by
    obtain ⟨u, h1, h2⟩ := DVs.back (i := i) (v := v) r (by simpa using e)
    exact ⟨u, by simpa using h1, h2⟩
end

section
variable {X : Cx} {ct : Ct} {e a b : Expr} {es : List Expr} {pos p : Pos} {fa fb : FE} {fr : FA}
/-! ### in -/
def inD (neg : Bool) : Dv → Dv → Mem → Rz
  | x, .tup ys, M => if flatD x && ys.all flatD then some (.bl (xor neg (ys.any fun y => eqF y x)), M) else none
  | x, .loc n, M => match M[n]? with
    | some (.lst ys) => if flatD x && ys.all flatD then some (.bl (xor neg (ys.any fun y => eqF y x)), M) else
      match rd M deep x, rdL (rd M deep) ys with
      | some p, some ps => if SeqAt.shaped p = true ∧ SeqAt.shaped (.list ps) = true then some (.bl (xor neg (ps.any fun z => PyData.eqv z p)), M) else none
      | _, _ => none
    | _ => none
  | .str x, .str y, M => match x.cps.toList with
    | [c] => some (.bl (xor neg (decide (c ∈ y.cps.toList))), M)
    | _ => none
  | _, _, _ => none
theorem one_sign {x : Str} {c : Nat} (h : x.cps.toList = [c]) : x = ⟨#[c]⟩ := by
  obtain ⟨a⟩ := x
  have : a = #[c] := by
    apply Array.toList_inj.mp
    simpa using h
  rw [this]
theorem so_in (hu : X.A.units + 65 < cLine) : SO X ct (compareOp .In) (inD false) := by
  intro pins s σ H x y v u Q I rx ry h
  obtain ⟨ρ, M, d, e, r, dx, dy, z, M', hf, hq⟩ := h
  unfold inD at hf
  split at hf
  · split at hf
    · rename_i hl
      rw [Bool.and_eq_true] at hl
      cases hf
      cases dy with
      | tup hs hd =>
        refine op_in_seq pins s σ H _ _ v u Q I rx ry ⟨_, _, rfl, .inr hs.sq, by rw [flat_of dx]; exact hl.1, by rw [flats_of hd]; exact hl.2, ?_⟩
        rw [if_neg (by decide)]
        refine hq ρ H .refl r _ ?_
        rw [Bool.false_xor]
        unfold inV
        rw [any_of dx hl.1 hd hl.2]
        exact .bl _
    · cases hf
  · split at hf
    · rename_i n M0 _ _ ys hm
      obtain ⟨a, vs, rfl, h1, h2, h3⟩ := r.lst hm dy
      split at hf
      · rename_i hl
        rw [Bool.and_eq_true] at hl
        cases hf
        refine op_in_seq pins s σ H _ _ v u Q I rx ry ⟨_, _, rfl, .inl (SqL.of h2), by rw [flat_of dx]; exact hl.1, by rw [flats_of h3]; exact hl.2, ?_⟩
        rw [if_neg (by decide)]
        refine hq ρ H .refl r _ ?_
        rw [Bool.false_xor]
        unfold inV
        rw [any_of dx hl.1 h3 hl.2]
        exact .bl _
      · split at hf
        · rename_i p ps hp hps
          split at hf
          · rename_i hs
            cases hf
            refine op_inD hu pins s σ H _ _ v u Q I rx ry ⟨p, ps, rd_dp r _ dx hp, .lst (SqL.of h2) (rdL_dp (fun d v p h1 h2 => rd_dp r _ h1 h2) h3 hps), hs.1, hs.2, ?_⟩
            exact hq ρ H .refl r _ (by rw [Bool.false_xor]; exact .bl _)
          · cases hf
        · cases hf
    · cases hf
  · split at hf
    · rename_i c hc
      cases hf; cases dx; cases dy
      exact op_in_sign pins s σ H _ _ v u Q I rx ry ⟨c, _, by rw [one_sign hc], rfl, hq ρ H .refl r _ (by rw [Bool.false_xor]; exact .bl _)⟩
    · cases hf
  · cases hf
theorem so_notin (hu : X.A.units + 65 < cLine) : SO X ct (compareOp .NotIn) (inD true) := by
  intro pins s σ H x y v u Q I rx ry h
  obtain ⟨ρ, M, d, e, r, dx, dy, z, M', hf, hq⟩ := h
  unfold inD at hf
  split at hf
  · split at hf
    · rename_i hl
      rw [Bool.and_eq_true] at hl
      cases hf
      cases dy with
      | tup hs hd =>
        refine op_notIn_seq pins s σ H _ _ v u Q I rx ry ⟨_, _, rfl, .inr hs.sq, by rw [flat_of dx]; exact hl.1, by rw [flats_of hd]; exact hl.2, ?_⟩
        rw [if_pos rfl]
        refine hq ρ H .refl r _ ?_
        rw [Bool.true_xor]
        unfold inV
        rw [any_of dx hl.1 hd hl.2]
        exact .bl _
    · cases hf
  · split at hf
    · rename_i n M0 _ _ ys hm
      obtain ⟨a, vs, rfl, h1, h2, h3⟩ := r.lst hm dy
      split at hf
      · rename_i hl
        rw [Bool.and_eq_true] at hl
        cases hf
        refine op_notIn_seq pins s σ H _ _ v u Q I rx ry ⟨_, _, rfl, .inl (SqL.of h2), by rw [flat_of dx]; exact hl.1, by rw [flats_of h3]; exact hl.2, ?_⟩
        rw [if_pos rfl]
        refine hq ρ H .refl r _ ?_
        rw [Bool.true_xor]
        unfold inV
        rw [any_of dx hl.1 h3 hl.2]
        exact .bl _
      · split at hf
        · rename_i p ps hp hps
          split at hf
          · rename_i hs
            cases hf
            refine op_notInD hu pins s σ H _ _ v u Q I rx ry ⟨p, ps, rd_dp r _ dx hp, .lst (SqL.of h2) (rdL_dp (fun d v p h1 h2 => rd_dp r _ h1 h2) h3 hps), hs.1, hs.2, ?_⟩
            exact hq ρ H .refl r _ (by rw [Bool.true_xor]; exact .bl _)
          · cases hf
        · cases hf
    · cases hf
  · split at hf
    · rename_i c hc
      cases hf; cases dx; cases dy
      exact op_notIn_sign pins s σ H _ _ v u Q I rx ry ⟨c, _, by rw [one_sign hc], rfl, hq ρ H .refl r _ (by rw [Bool.true_xor]; exact .bl _)⟩
    · cases hf
  · cases hf
/-! ### subscripts -/
def ixD : Dv → Dv → Mem → Rz
  | .tup xs, .int i, M => match atI xs i with
    | some d => some (d, M)
    | none => none
  | .pr xs, .int i, M => match atI xs i with
    | some d => some (d, M)
    | none => none
  | .rol xs, .int i, M => match atI xs i with
    | some d => some (d, M)
    | none => none
  | .loc n, .int i, M => match M[n]? with
    | some (.lst xs) => match atI xs i with
      | some d => some (d, M)
      | none => none
    | _ => none
  | .str x, .int i, M => if x.length ≤ sizeLine then match atI x.cps.toList i with
      | some c => some (.str ⟨#[c]⟩, M)
      | none => none
    else none
  | _, _, _ => none
theorem sx_seq : IxR X (tO X.K ct ixD) := by
  intro value slice pins s σ H x y v u Q I rx ry h hsub
  obtain ⟨ρ, M, d, e, r, dx, dy, z, M', hf, hq⟩ := h
  unfold ixD at hf
  split at hf
  · split at hf
    · rename_i d0 hd0
      cases hf; cases dy
      cases dx with
      | tup hs hd =>
        obtain ⟨w, h1, h2⟩ := hd.at_ hd0
        exact ix_seq value slice pins s σ H _ _ v u Q I rx ry (.inr (.inl ⟨_, _, _, w, rfl, rfl, hs.sq, h1, hq ρ H .refl r _ h2⟩)) hsub
    · cases hf
  · split at hf
    · rename_i d0 hd0
      cases hf; cases dy
      cases dx with
      | pr hs hd =>
        obtain ⟨w, h1, h2⟩ := hd.at_ hd0
        exact ix_seq value slice pins s σ H _ _ v u Q I rx ry (.inr (.inl ⟨_, _, _, w, rfl, rfl, hs, h1, hq ρ H .refl r _ h2⟩)) hsub
    · cases hf
  · split at hf
    · rename_i d0 hd0
      cases hf; cases dy
      cases dx with
      | rol hs hd =>
        obtain ⟨w, h1, h2⟩ := hd.at_ hd0
        exact ix_seq value slice pins s σ H _ _ v u Q I rx ry (.inl ⟨_, _, _, w, rfl, rfl, hs.sq, h1, hq ρ H .refl r _ h2⟩) hsub
    · cases hf
  · split at hf
    · rename_i hm
      split at hf
      · rename_i d0 hd0
        cases hf; cases dy
        obtain ⟨a, vs, rfl, a1, a2, a3⟩ := r.lst hm dx
        obtain ⟨w, h1, h2⟩ := a3.at_ hd0
        exact ix_seq value slice pins s σ H _ _ v u Q I rx ry (.inl ⟨_, _, _, w, rfl, rfl, SqL.of a2, h1, hq ρ H .refl r _ h2⟩) hsub
      · cases hf
    · cases hf
  · split at hf
    · rename_i hl
      split at hf
      · rename_i c hc
        cases hf; cases dx; cases dy
        exact ix_seq value slice pins s σ H _ _ v u Q I rx ry (.inr (.inr ⟨_, _, c, rfl, rfl, hl, hc, hq ρ H .refl r _ (.str _)⟩)) hsub
      · cases hf
    · cases hf
  · cases hf
theorem se_ix (ha : SE X ct a fa) (hb : SE X ct b fb) (hs : PlainIx b := by intro _ _; rfl) : SE X ct (.Subscript a b pos) (fO ixD fa fb) :=
  PE.imp (pe_ix sx_seq ha hb hs) fun _ _ _ w => op_imp w
/-! ### slices -/
abbrev FO := En → Mem → Option (Option Int × Mem)
def tPo (K : Frg) (ct : Ct) (f : FO) : TO := fun σ H Q => ∃ ρ M env, Rl K ct ρ M H ∧ EnOk K ρ H env σ ∧ ∃ o M', f env M = some (o, M') ∧ Aft K ct ρ H M' fun _ H' => Q o H'
abbrev SPo (X : Cx) (ct : Ct) (e : Option Expr) (f : FO) : Prop := PO X e (tPo X.K ct f)
theorem PO.imp {e : Option Expr} {t t' : TO} (h : PO X e t) (k : ∀ σ H Q, t' σ H Q → t σ H Q) : PO X e t' := ⟨fun pins s σ H Q I w => h.run pins s σ H Q I (k σ H Q w)⟩
def fNoP : FO := fun _ M => some (none, M)
def fP (f : FE) : FO := fun env M => bnd (f env M) fun d M1 => match d with
  | .int i => some (some i, M1)
  | _ => none
theorem so_none : SPo X ct none fNoP := PO.imp po_none fun σ H Q ⟨ρ, M, env, r, he, o, M', hf, hq⟩ => by
  cases hf
  exact hq ρ H .refl r
theorem so_some (h : SE X ct e fa) : SPo X ct (some e) (fP fa) := PO.imp (po_some h) fun σ H Q ⟨ρ, M, env, r, he, o, M', hf, hq⟩ => by
  obtain ⟨x, M1, h1, hf⟩ := bnd_some hf
  split at hf
  · cases hf
    exact ⟨ρ, M, env, r, he, _, _, h1, fun ρ1 H1 e1 r1 v dv => by cases dv; exact ⟨_, rfl, hq ρ1 H1 e1 r1⟩⟩
  · cases hf
/-- the part from lo to hi -/
def cutD (xs : List Dv) (lo hi : Option Int) : List Dv := (xs.drop (HT.sIx xs.length 0 lo)).take (HT.sIx xs.length xs.length hi - HT.sIx xs.length 0 lo)
theorem DVs.cut {K : Frg} {ρ : List Addr} {H : Hp} {ds : List Dv} {vs : List V} (h : DVs K ρ H ds vs) (lo hi : Option Int) : DVs K ρ H (cutD ds lo hi) (cutV vs lo hi) := by
  unfold cutD cutV
  rw [h.length]
  exact (h.drop _).take _
def slD (x : Dv) (lo hi : Option Int) (M : Mem) : Rz :=
  match x with
  | .tup xs => some (.tup (cutD xs lo hi), M)
  | .rol xs => some (.loc M.length, M ++ [.lst (cutD xs lo hi)])
  | .loc n => match M[n]? with
    | some (.lst xs) => some (.loc M.length, M ++ [.lst (cutD xs lo hi)])
    | _ => none
  | .str z => if z.length ≤ sizeLine then some (.str (cutS z lo hi), M) else none
  | _ => none
def tSlz (K : Frg) (ct : Ct) : V → Option Int → Option Int → Hp → VK → Prop := fun x lo hi H Q => ∃ ρ M d, Rl K ct ρ M H ∧ DV K ρ H d x ∧ ∃ z M', slD d lo hi M = some (z, M') ∧ Aft K ct ρ H M' fun ρ' H' => ∀ v, DV K ρ' H' z v → Q v H'
/-- t[lo:hi] of a tuple, locked where it is new -/
theorem sl_tupF : SlR X (fun x lo hi H Q => ∃ a xs, x = .ref a ∧ SqT X.K H a xs ∧
    (HT.sIx xs.length 0 lo = 0 ∧ HT.sIx xs.length xs.length hi = xs.length → Q (.ref a) H) ∧ (¬ (HT.sIx xs.length 0 lo = 0 ∧ HT.sIx xs.length xs.length hi = xs.length) → ∀ p o, H p = none → o.dict = none → Q (.ref p) (upd H p (.frz o (.tup (cutV xs lo hi)))))) := by
  intro pins s σ H x v vl vu lo hi sl Q I rx hs pl pu h
  obtain ⟨a, xs, rfl, hx, q1, q2⟩ := h
  cases rx
  obtain ⟨us, r, ht, hz⟩ := I.tuple hx
  have hlen : us.toArray.size = xs.length := by rw [List.size_toArray, r.length]
  refine ⟨"tuple", _, PyProof.Rows.slot_tuple_getitem.lookup, ht.typeIs, ?_⟩
  by_cases hw : HT.sIx xs.length 0 lo = 0 ∧ HT.sIx xs.length xs.length hi = xs.length
  · exact getItem_tuple_whole ht hs pl pu (by rw [hlen]; exact hw) ⟨V.ref a, H, I, rfl, q1 hw⟩
  · refine HT.getItem_tuple_cut ht hs pl pu (by rw [hlen]; exact hw) ?_ ?_
    · rw [hlen]
      exact ⟨V.ref s.heap.objs.size, _, layT (tk := s.toks) I ((r.drop _).take _) (Nat.le_trans (cutV_length xs lo hi) hz), rfl, q2 hw _ _ (I.hok.fresh (Nat.le_refl _)) rfl⟩
    · rw [hlen]; exact hz
theorem cut_whole {xs : List Dv} {lo hi : Option Int} (h : HT.sIx xs.length 0 lo = 0 ∧ HT.sIx xs.length xs.length hi = xs.length) : cutD xs lo hi = xs := by
  unfold cutD
  rw [h.1, h.2, List.drop_zero, Nat.sub_zero, List.take_length]
theorem sl_all : SlR X (tSlz X.K ct) := by
  intro pins s σ H x v vl vu lo hi sl Q I rx hs pl pu h
  obtain ⟨ρ, M, d, r, dx, z, M', hf, hq⟩ := h
  unfold slD at hf
  split at hf
  · cases hf
    cases dx with
    | tup h1 d1 =>
      refine sl_tupF pins s σ H _ v vl vu lo hi sl Q I rx hs pl pu ⟨_, _, rfl, h1.sq, fun hw => ?_, fun _ p o hp ho => ?_⟩
      · rw [← d1.length] at hw
        exact hq ρ H .refl r _ (by rw [cut_whole hw]; exact .tup h1 d1)
      · exact hq ρ _ (Ext.fresh hp) (r.tup hp _) _ (.tup (TupD.new ho) ((d1.cut lo hi).mono (Ext.fresh hp)))
  · cases hf
    cases dx with
    | rol h1 d1 =>
      refine sl_list pins s σ H _ v vl vu lo hi sl Q I rx hs pl pu ⟨_, _, rfl, h1.sq, fun p hp => ?_⟩
      obtain ⟨r2, e2, h2⟩ := r.newL hp (d1.cut lo hi)
      exact hq _ _ e2 r2 _ (.loc h2)
  · split at hf
    · rename_i hm
      cases hf
      obtain ⟨a, vs, rfl, a1, a2, a3⟩ := r.lst hm dx
      refine sl_list pins s σ H _ v vl vu lo hi sl Q I rx hs pl pu ⟨_, _, rfl, SqL.of a2, fun p hp => ?_⟩
      obtain ⟨r2, e2, h2⟩ := r.newL hp (a3.cut lo hi)
      exact hq _ _ e2 r2 _ (.loc h2)
    · cases hf
  · split at hf
    · rename_i hz
      cases hf; cases dx
      exact sl_str pins s σ H _ v vl vu lo hi sl Q I rx hs pl pu ⟨_, rfl, hz, hq ρ H .refl r _ (.str _)⟩
    · cases hf
  · cases hf
def fSl (f : FE) (g h : FO) : FE := fun env M => bnd (f env M) fun d M1 => bnd (g env M1) fun lo M2 => bnd (h env M2) fun hi M3 => slD d lo hi M3
theorem se_slice {lo hi : Option Expr} {g h : FO} {p2 : Pos} (ha : SE X ct a fa) (hl : SPo X ct lo g) (hh : SPo X ct hi h) : SE X ct (.Subscript a (.Slice lo hi none p2) pos) (fSl fa g h) :=
  PE.imp (pe_slice sl_all ha hl hh) fun σ H Q ⟨ρ, M, env, r, he, d, M', hf, hq⟩ => by
    obtain ⟨x, M1, h1, hf⟩ := bnd_some hf
    obtain ⟨o, M2, h2, hf⟩ := bnd_some hf
    obtain ⟨o', M3, h3, hf⟩ := bnd_some hf
    exact ⟨ρ, M, env, r, he, x, M1, h1, fun ρ1 H1 e1 r1 v dv => ⟨ρ1, M1, env, r1, he.mono e1, o, M2, h2, fun ρ2 H2 e2 r2 => ⟨ρ2, M2, env, r2, (he.mono e1).mono e2, o', M3, h3, fun ρ3 H3 e3 r3 =>
      ⟨ρ3, M3, x, r3, (dv.mono e2).mono e3, d, M', hf, hq.later ((e1.trans e2).trans e3)⟩⟩⟩⟩
end
end Zl

/-! text Z5 -/
namespace Zl
open PySem L2 PySem.Spec PyProof.Rows

/-- the items of a thing that can be walked whole: tuple, list -/
def itemsD (M : Mem) : Dv → Option (List Dv)
  | .tup xs => some xs
  | .pr xs => some xs
  | .rol xs => some xs
  | .loc n => match M[n]? with
    | some (.lst xs) => some xs
    | _ => none
  | _ => none
def intsD : List Dv → Option (List Int)
  | [] => some []
  | .int i :: r => match intsD r with
    | some ns => some (i :: ns)
    | none => none
  | _ :: _ => none
def blsD : List Dv → Option (List Bool)
  | [] => some []
  | .bl b :: r => match blsD r with
    | some bs => some (b :: bs)
    | none => none
  | _ :: _ => none
section
variable {K : Frg} {ct : Ct} {ρ : List Addr} {M : Mem} {H : Hp}
theorem items_sq (r : Rl K ct ρ M H) {d : Dv} {v : V} {xs : List Dv} (h : DV K ρ H d v) (e : itemsD M d = some xs) : ∃ a vs, v = .ref a ∧ DVs K ρ H xs vs ∧ (SqL K H a vs ∨ SqT K H a vs) := by
  unfold itemsD at e
  split at e
  · cases e
    cases h with
    | tup hs hd => exact ⟨_, _, rfl, hd, .inr hs.sq⟩
  · cases e
    cases h with
    | pr hs hd => exact ⟨_, _, rfl, hd, .inr hs⟩
  · cases e
    cases h with
    | rol hs hd => exact ⟨_, _, rfl, hd, .inl hs.sq⟩
  · split at e
    · rename_i hm
      cases e
      obtain ⟨a, vs, rfl, a1, a2, a3⟩ := r.lst hm h
      exact ⟨a, vs, rfl, a3, .inl (SqL.of a2)⟩
    · cases e
  · cases e
theorem ints_of : ∀ {xs : List Dv} {vs : List V} {ns : List Int}, DVs K ρ H xs vs → intsD xs = some ns → vs = ns.map V.int
  | _, _, _, .nil, e => by cases e; rfl
  | .int i :: r, _, _, .cons h t, e => by
    unfold intsD at e
    split at e
    · rename_i ns hn
      cases e; cases h
      rw [ints_of t hn]; rfl
    · cases e
theorem bls_of : ∀ {xs : List Dv} {vs : List V} {ns : List Bool}, DVs K ρ H xs vs → blsD xs = some ns → vs = ns.map V.bl
  | _, _, _, .nil, e => by cases e; rfl
  | .bl i :: r, _, _, .cons h t, e => by
    unfold blsD at e
    split at e
    · rename_i ns hn
      cases e; cases h
      rw [bls_of t hn]; rfl
    · cases e
theorem dvs_nil {vs : List V} (h : DVs K ρ H [] vs) : vs = [] := by cases h; rfl
theorem dvs_one {d : Dv} {vs : List V} (h : DVs K ρ H [d] vs) : ∃ v, vs = [v] ∧ DV K ρ H d v := by
  cases h with
  | cons h t => cases t; exact ⟨_, rfl, h⟩
theorem dvs_two {d e : Dv} {vs : List V} (h : DVs K ρ H [d, e] vs) : ∃ v u, vs = [v, u] ∧ DV K ρ H d v ∧ DV K ρ H e u := by
  cases h with
  | cons h t =>
    obtain ⟨u, rfl, h2⟩ := dvs_one t
    exact ⟨_, u, rfl, h, h2⟩
end
def maxI : Int → List Int → Int
  | m, [] => m
  | m, x :: xs => maxI (if x > m then x else m) xs
def minI : Int → List Int → Int
  | m, [] => m
  | m, x :: xs => minI (if x < m then x else m) xs
theorem maxI_ok : ∀ (xs : List Int) (m : Int), maxI m xs ∈ m :: xs ∧ ∀ y ∈ m :: xs, y ≤ maxI m xs
  | [], m => ⟨by simp [maxI], by simp [maxI]⟩
  | x :: xs, m => by
    obtain ⟨h1, h2⟩ := maxI_ok xs (if x > m then x else m)
    have h3 := h2 _ List.mem_cons_self
    refine ⟨?_, fun y hy => ?_⟩
    · unfold maxI
      rcases List.mem_cons.mp h1 with e | e
      · rw [e]; split <;> simp
      · exact List.mem_cons_of_mem _ (List.mem_cons_of_mem _ e)
    · unfold maxI
      rcases List.mem_cons.mp hy with e | hy
      · have h4 : y ≤ (if x > y then x else y) := by split <;> omega
        subst e; omega
      · rcases List.mem_cons.mp hy with e | hy
        · have h4 : y ≤ (if y > m then y else m) := by split <;> omega
          subst e; omega
        · exact h2 _ (List.mem_cons_of_mem _ hy)
theorem minI_ok : ∀ (xs : List Int) (m : Int), minI m xs ∈ m :: xs ∧ ∀ y ∈ m :: xs, minI m xs ≤ y
  | [], m => ⟨by simp [minI], by simp [minI]⟩
  | x :: xs, m => by
    obtain ⟨h1, h2⟩ := minI_ok xs (if x < m then x else m)
    have h3 := h2 _ List.mem_cons_self
    refine ⟨?_, fun y hy => ?_⟩
    · unfold minI
      rcases List.mem_cons.mp h1 with e | e
      · rw [e]; split <;> simp
      · exact List.mem_cons_of_mem _ (List.mem_cons_of_mem _ e)
    · unfold minI
      rcases List.mem_cons.mp hy with e | hy
      · have h4 : (if x < y then x else y) ≤ y := by split <;> omega
        subst e; omega
      · rcases List.mem_cons.mp hy with e | hy
        · have h4 : (if y < m then y else m) ≤ y := by split <;> omega
          subst e; omega
        · exact h2 _ (List.mem_cons_of_mem _ hy)

section
variable {X : Cx} {ct : Ct} {e a b : Expr} {es : List Expr} {pos p : Pos} {fa fb : FE} {fr : FA}
/-! ### built-ins by values -/
def lenD : List Dv → Mem → Rz
  | [.str x], M => if x.length ≤ sizeLine then some (.int x.length, M) else none
  | [d], M => match itemsD M d with
    | some xs => some (.int xs.length, M)
    | none => none
  | _, _ => none
theorem sc_len : SC X ct (.builtin "len") lenD := by
  intro pins s σ H xs us Q I rv h
  obtain ⟨ρ, M, ds, r, dv, z, M', hf, hq⟩ := h
  unfold lenD at hf
  split at hf
  · split at hf
    · rename_i hl
      cases hf
      obtain ⟨v, rfl, d1⟩ := dvs_one dv
      cases d1
      exact call_len_str pins s σ H _ us Q I rv ⟨_, rfl, hl, hq ρ H .refl r _ (.int _)⟩
    · cases hf
  · split at hf
    · rename_i ys hy
      cases hf
      obtain ⟨v, rfl, d1⟩ := dvs_one dv
      obtain ⟨a, vs, rfl, d2, hs⟩ := items_sq r d1 hy
      refine call_len_seq pins s σ H _ us Q I rv ⟨_, _, rfl, hs, hq ρ H .refl r _ ?_⟩
      rw [d2.length]; exact .int _
    · cases hf
  · cases hf
def intD : List Dv → Mem → Rz
  | [.int i], M => some (.int i, M)
  | [.bl k], M => some (.int (if k then 1 else 0), M)
  | _, _ => none
theorem sc_int : SC X ct (.type "int") intD := by
  intro pins s σ H xs us Q I rv h
  obtain ⟨ρ, M, ds, r, dv, z, M', hf, hq⟩ := h
  unfold intD at hf
  split at hf
  · cases hf
    obtain ⟨v, rfl, d1⟩ := dvs_one dv
    cases d1
    exact call_int1 pins s σ H _ us Q I rv (.inl ⟨_, rfl, hq ρ H .refl r _ (.int _)⟩)
  · cases hf
    obtain ⟨v, rfl, d1⟩ := dvs_one dv
    cases d1
    exact call_int1 pins s σ H _ us Q I rv (.inr ⟨_, rfl, hq ρ H .refl r _ (.int _)⟩)
  · cases hf
def absD : List Dv → Mem → Rz
  | [.int i], M => some (.int (if i < 0 then -i else i), M)
  | _, _ => none
theorem sc_abs : SC X ct (.builtin "abs") absD := by
  intro pins s σ H xs us Q I rv h
  obtain ⟨ρ, M, ds, r, dv, z, M', hf, hq⟩ := h
  unfold absD at hf
  split at hf
  · cases hf
    obtain ⟨v, rfl, d1⟩ := dvs_one dv
    cases d1
    exact call_abs pins s σ H _ us Q I rv ⟨_, rfl, hq ρ H .refl r _ (.int _)⟩
  · cases hf
def maxD : List Dv → Mem → Rz
  | [.int i, .int j], M => some (.int (if j > i then j else i), M)
  | [.loc n], M => match M[n]? with
    | some (.lst xs) => match intsD xs with
      | some (m :: ms) => some (.int (maxI m ms), M)
      | _ => none
    | _ => none
  | _, _ => none
theorem sc_max (hc : X.calm = true) : SC X ct (.builtin "max") maxD := by
  intro pins s σ H xs us Q I rv h
  obtain ⟨ρ, M, ds, r, dv, z, M', hf, hq⟩ := h
  unfold maxD at hf
  split at hf
  · cases hf
    obtain ⟨v, u, rfl, d1, d2⟩ := dvs_two dv
    cases d1; cases d2
    exact call_max2 hc pins s σ H _ us Q I rv ⟨_, _, rfl, hq ρ H .refl r _ (.int _)⟩
  · split at hf
    · rename_i hm
      split at hf
      · rename_i m ms hi
        cases hf
        obtain ⟨v, rfl, d1⟩ := dvs_one dv
        obtain ⟨a, vs, rfl, a1, a2, a3⟩ := r.lst hm d1
        have e := ints_of a3 hi
        subst e
        refine cr_max hc pins s σ H _ us Q I rv ⟨_, _, rfl, SqL.of a2, by simp, fun k hk hy => ?_⟩
        obtain ⟨o1, o2⟩ := maxI_ok ms m
        have e1 := hy _ o1
        have e2 := o2 _ hk
        have e3 : k = maxI m ms := by omega
        subst e3
        exact hq ρ H .refl r _ (.int _)
      · cases hf
    · cases hf
  · cases hf
def minD : List Dv → Mem → Rz
  | [.int i, .int j], M => some (.int (if j < i then j else i), M)
  | [.loc n], M => match M[n]? with
    | some (.lst xs) => match intsD xs with
      | some (m :: ms) => some (.int (minI m ms), M)
      | _ => none
    | _ => none
  | _, _ => none
theorem sc_min (hc : X.calm = true) : SC X ct (.builtin "min") minD := by
  intro pins s σ H xs us Q I rv h
  obtain ⟨ρ, M, ds, r, dv, z, M', hf, hq⟩ := h
  unfold minD at hf
  split at hf
  · cases hf
    obtain ⟨v, u, rfl, d1, d2⟩ := dvs_two dv
    cases d1; cases d2
    exact call_min2 hc pins s σ H _ us Q I rv ⟨_, _, rfl, hq ρ H .refl r _ (.int _)⟩
  · split at hf
    · rename_i hm
      split at hf
      · rename_i m ms hi
        cases hf
        obtain ⟨v, rfl, d1⟩ := dvs_one dv
        obtain ⟨a, vs, rfl, a1, a2, a3⟩ := r.lst hm d1
        have e := ints_of a3 hi
        subst e
        refine cr_min hc pins s σ H _ us Q I rv ⟨_, _, rfl, SqL.of a2, by simp, fun k hk hy => ?_⟩
        obtain ⟨o1, o2⟩ := minI_ok ms m
        have e1 := hy _ o1
        have e2 := o2 _ hk
        have e3 : k = minI m ms := by omega
        subst e3
        exact hq ρ H .refl r _ (.int _)
      · cases hf
    · cases hf
  · cases hf
def sumD : List Dv → Mem → Rz
  | [.loc n], M => match M[n]? with
    | some (.lst xs) => match intsD xs with
      | some ns => some (.int ns.sum, M)
      | _ => none
    | _ => none
  | _, _ => none
theorem sc_sum (hc : X.calm = true) : SC X ct (.builtin "sum") sumD := by
  intro pins s σ H xs us Q I rv h
  obtain ⟨ρ, M, ds, r, dv, z, M', hf, hq⟩ := h
  unfold sumD at hf
  split at hf
  · split at hf
    · rename_i hm
      split at hf
      · rename_i ns hi
        cases hf
        obtain ⟨v, rfl, d1⟩ := dvs_one dv
        obtain ⟨a, vs, rfl, a1, a2, a3⟩ := r.lst hm d1
        have e := ints_of a3 hi
        subst e
        exact cr_sum hc pins s σ H _ us Q I rv ⟨_, _, rfl, SqL.of a2, hq ρ H .refl r _ (.int _)⟩
      · cases hf
    · cases hf
  · cases hf
def allD : List Dv → Mem → Rz
  | [.loc n], M => match M[n]? with
    | some (.lst xs) => match blsD xs with
      | some bs => some (.bl (bs.all id), M)
      | _ => none
    | _ => none
  | _, _ => none
def anyD : List Dv → Mem → Rz
  | [.loc n], M => match M[n]? with
    | some (.lst xs) => match blsD xs with
      | some bs => some (.bl (bs.any id), M)
      | _ => none
    | _ => none
  | _, _ => none
theorem sc_all (hc : X.calm = true) : SC X ct (.builtin "all") allD := by
  intro pins s σ H xs us Q I rv h
  obtain ⟨ρ, M, ds, r, dv, z, M', hf, hq⟩ := h
  unfold allD at hf
  split at hf
  · split at hf
    · rename_i hm
      split at hf
      · rename_i ns hi
        cases hf
        obtain ⟨v, rfl, d1⟩ := dvs_one dv
        obtain ⟨a, vs, rfl, a1, a2, a3⟩ := r.lst hm d1
        have e := bls_of a3 hi
        subst e
        exact cr_all hc pins s σ H _ us Q I rv ⟨_, _, rfl, SqL.of a2, hq ρ H .refl r _ (.bl _)⟩
      · cases hf
    · cases hf
  · cases hf
theorem sc_any (hc : X.calm = true) : SC X ct (.builtin "any") anyD := by
  intro pins s σ H xs us Q I rv h
  obtain ⟨ρ, M, ds, r, dv, z, M', hf, hq⟩ := h
  unfold anyD at hf
  split at hf
  · split at hf
    · rename_i hm
      split at hf
      · rename_i ns hi
        cases hf
        obtain ⟨v, rfl, d1⟩ := dvs_one dv
        obtain ⟨a, vs, rfl, a1, a2, a3⟩ := r.lst hm d1
        have e := bls_of a3 hi
        subst e
        exact cr_any hc pins s σ H _ us Q I rv ⟨_, _, rfl, SqL.of a2, hq ρ H .refl r _ (.bl _)⟩
      · cases hf
    · cases hf
  · cases hf
/-- tuple(list): locked; tuple(tuple): itself -/
theorem call_tupF : CallR X (.type "tuple") (fun xs H Q => ∃ p ys, xs = [.ref p] ∧ ((SqL X.K H p ys ∧ ∀ l o, H l = none → o.dict = none → Q (.ref l) (upd H l (.frz o (.tup ys)))) ∨ (SqT X.K H p ys ∧ Q (.ref p) H))) := by
  intro pins s σ H xs us Q I rv h
  obtain ⟨p, ys, rfl, h⟩ := h
  obtain ⟨u, rfl, rx⟩ := vals1 rv
  cases rx
  rcases h with ⟨hl, q⟩ | ⟨ht, q⟩
  · obtain ⟨ws, rw', pl, hz⟩ := I.list hl
    have hlen := rw'.length
    refine call_tuple_list pl.isList (fun h' kp => ?_) (by simp only [List.size_toArray]; omega)
    have J : Inv X pins σ H { s with heap := h' } := I.kept (t' := s.toks) kp
    exact ⟨V.ref h'.objs.size, _, layT (tk := s.toks) J rw' hz, rfl, q _ _ (J.hok.fresh (Nat.le_refl _)) rfl⟩
  · obtain ⟨ws, rw', pl, hz⟩ := I.tuple ht
    exact call_tuple_same pl ⟨V.ref p, H, I, rfl, q⟩
def tupD : List Dv → Mem → Rz
  | [.tup xs], M => some (.tup xs, M)
  | [.loc n], M => match M[n]? with
    | some (.lst xs) => some (.tup xs, M)
    | _ => none
  | _, _ => none
theorem sc_tuple : SC X ct (.type "tuple") tupD := by
  intro pins s σ H xs us Q I rv h
  obtain ⟨ρ, M, ds, r, dv, z, M', hf, hq⟩ := h
  unfold tupD at hf
  split at hf
  · cases hf
    obtain ⟨v, rfl, d1⟩ := dvs_one dv
    cases d1 with
    | tup hs hd => exact call_tupF pins s σ H _ us Q I rv ⟨_, _, rfl, .inr ⟨hs.sq, hq ρ H .refl r _ (.tup hs hd)⟩⟩
  · split at hf
    · rename_i hm
      cases hf
      obtain ⟨v, rfl, d1⟩ := dvs_one dv
      obtain ⟨a, vs, rfl, a1, a2, a3⟩ := r.lst hm d1
      exact call_tupF pins s σ H _ us Q I rv ⟨_, _, rfl, .inl ⟨SqL.of a2, fun p o hp ho => hq ρ _ (Ext.fresh hp) (r.tup hp _) _ (.tup (TupD.new ho) (a3.mono (Ext.fresh hp)))⟩⟩
    · cases hf
  · cases hf
def lstD : List Dv → Mem → Rz
  | [d], M => match itemsD M d with
    | some xs => some (.loc M.length, M ++ [.lst xs])
    | none => none
  | _, _ => none
theorem sc_list : SC X ct (.type "list") lstD := by
  intro pins s σ H xs us Q I rv h
  obtain ⟨ρ, M, ds, r, dv, z, M', hf, hq⟩ := h
  unfold lstD at hf
  split at hf
  · split at hf
    · rename_i ys hy
      cases hf
      obtain ⟨v, rfl, d1⟩ := dvs_one dv
      obtain ⟨a, vs, rfl, d2, hs⟩ := items_sq r d1 hy
      refine call_list_of pins s σ H _ us Q I rv ⟨_, _, rfl, hs, fun p hp => ?_⟩
      obtain ⟨r2, e2, h2⟩ := r.newL hp d2
      exact hq _ _ e2 r2 _ (.loc h2)
    · cases hf
  · cases hf
def divmodD : List Dv → Mem → Rz
  | [.int i, .int j], M => if 0 < j ∧ j < 1073741824 then some (.pr [.int (i / j), .int (i % j)], M) else none
  | _, _ => none
theorem sc_divmod : SC X ct (.builtin "divmod") divmodD := by
  intro pins s σ H xs us Q I rv h
  obtain ⟨ρ, M, ds, r, dv, z, M', hf, hq⟩ := h
  unfold divmodD at hf
  split at hf
  · split at hf
    · rename_i hl
      cases hf
      obtain ⟨v, u, rfl, d1, d2⟩ := dvs_two dv
      cases d1; cases d2
      exact call_divmod pins s σ H _ us Q I rv ⟨_, _, rfl, hl, fun p hp => hq ρ _ (Ext.fresh hp) (r.tup hp _) _ (.pr (SqT.of upd_same) (.cons (.int _) (.cons (.int _) .nil)))⟩
    · cases hf
  · cases hf
/-! ### isinstance of a built-in type -/
def tyName (M : Mem) : Dv → Option String
  | .non => some "NoneType"
  | .bl _ => some "bool"
  | .int _ => some "int"
  | .str _ => some "str"
  | .tup _ => some "tuple"
  | .rol _ => some "list"
  | .loc n => match M[n]? with
    | some (.lst _) => some "list"
    | some (.dct _) => some "dict"
    | _ => none
  | _ => none
def tyIs (T a : String) : Bool := a == T || (T == "int" && a == "bool")
def isiD : List Dv → Mem → Rz
  | [d, .ty T], M => if ["int", "bool", "str", "tuple", "list"].contains T then match tyName M d with
      | some a => some (.bl (tyIs T a), M)
      | none => none
    else none
  | _, _ => none
theorem kit_all : (["int", "bool", "str", "tuple", "list"].all fun T => ["NoneType", "bool", "int", "str", "tuple", "list", "dict"].all fun a => kitB a T == some (tyIs T a)) = true := by decide +kernel
theorem kit_two {T a : String} (h1 : ["int", "bool", "str", "tuple", "list"].contains T = true) (h2 : ["NoneType", "bool", "int", "str", "tuple", "list", "dict"].contains a = true) : kitB a T = some (tyIs T a) := by
  have h := kit_all
  rw [List.all_eq_true] at h
  have h3 := h T (by simpa using h1)
  rw [List.all_eq_true] at h3
  exact eq_of_beq (h3 a (by simpa using h2))
theorem tyName_ok {ρ : List Addr} {M : Mem} {H : Hp} {K : Frg} (r : Rl K ct ρ M H) {d : Dv} {v : V} {a : String} (h : DV K ρ H d v) (e : tyName M d = some a) :
    TyX K H v (.type a) ∧ ["NoneType", "bool", "int", "str", "tuple", "list", "dict"].contains a = true := by
  unfold tyName at e
  split at e
  · cases e; cases h; exact ⟨.base .non, by decide⟩
  · cases e; cases h; exact ⟨.base (.bl _), by decide⟩
  · cases e; cases h; exact ⟨.base (.int _), by decide⟩
  · cases e; cases h; exact ⟨.base (.str _), by decide⟩
  · cases e
    cases h with
    | tup hs hd =>
      refine ⟨?_, by decide⟩
      rcases hs with ⟨o, hs, _⟩ | ⟨o, its, n, h1, h2, _⟩
      · exact .fTuple hs
      · exact .kTuple h1 h2
  · cases e
    cases h with
    | rol hs hd =>
      refine ⟨?_, by decide⟩
      rcases hs with ⟨o, hs⟩ | ⟨_, o, h1, h2⟩
      · exact .base (.frz hs)
      · exact .kList h1 h2
  · split at e
    · rename_i hm
      cases e
      obtain ⟨a, vs, rfl, a1, a2, a3⟩ := r.lst hm h
      exact ⟨.base (.lst a2), by decide⟩
    · rename_i hm
      cases e
      obtain ⟨a, h1, vs, h2, h3, h4⟩ := r.ok _ _ hm
      cases h with
      | loc h => rw [h] at h1; cases h1; exact ⟨.base (.dK h2), by decide⟩
    · cases e
  · cases e
theorem sc_isi : SC X ct (.builtin "isinstance") isiD := by
  intro pins s σ H xs us Q I rv h
  obtain ⟨ρ, M, ds, r, dv, z, M', hf, hq⟩ := h
  unfold isiD at hf
  split at hf
  · split at hf
    · rename_i hT
      split at hf
      · rename_i a ha
        cases hf
        obtain ⟨v, u, rfl, d1, d2⟩ := dvs_two dv
        cases d2
        obtain ⟨t1, t2⟩ := tyName_ok r d1 ha
        exact call_isi pins s σ H _ us Q I rv ⟨v, _, _, _, _, rfl, .ty _, t1, kit_ty (kit_two hT t2), hq ρ H .refl r _ (.bl _)⟩
      · cases hf
    · cases hf
  · cases hf
/-- a built-in class by its name, as a value -/
theorem se_ty {x : Str} {T : String} (hg : Gl X x) (hm : X.mg x = none) (hv : bootBuiltins x = some (.type T)) (hn : x ≠ "__name__" := by decide) (hd : (x == ("__debug__" : Str)) = false := by decide) : SE X ct (.Name x pos) (fK (.ty T)) :=
  PE.imp (pe_bltn (v := .ty T) hg hm hv rfl hn hd) fun _ _ _ h => tE.const (fun _ _ => .ty T) h
/-! ### repr -/
def reprD : List Dv → Mem → Rz
  | [d], M => match d with
    | .int i => if i.natAbs.log2 < 1920 then some (.str (toString i), M) else none
    | .tup _ | .rol _ | .loc _ => match rd M deep d with
      | some p => if p.showable = true ∧ p.hasDict = false ∧ p.depth ≤ 60 ∧ p.shown.length ≤ sizeLine then some (.str p.shown, M) else none
      | none => none
    | _ => none
  | _, _ => none
theorem sc_repr (hg : X.A.guards = some []) (hu : X.A.units + 64 < cLine) : SC X ct (.builtin "repr") reprD := by
  intro pins s σ H xs us Q I rv h
  obtain ⟨ρ, M, ds, r, dv, z, M', hf, hq⟩ := h
  have deepen : ∀ {d : Dv} {v : V} {a : Addr}, DV X.K ρ H d v → v = .ref a → xs = [v] → (match rd M deep d with
      | some p => if p.showable = true ∧ p.hasDict = false ∧ p.depth ≤ 60 ∧ p.shown.length ≤ sizeLine then some (Dv.str p.shown, M) else none
      | none => none) = some (z, M') → wpAny (model X.prog X.w) X.A (call (.builtin "repr") us) (EP X pins σ Q) X.xe s := by
    intro d v a hd ev ex hf
    subst ex; subst ev
    split at hf
    · rename_i p hp
      split at hf
      · rename_i hs
        cases hf
        obtain ⟨u, rfl, ru⟩ := vals1 rv
        cases ru
        obtain ⟨as, hr⟩ := Dp.reads I _ _ _ (rd_dp r _ hd hp) rfl
        refine repr_of_reads' hr hs.1 (PyData.noDict_hsm hs.2.1) hg (by omega) (fun _ _ q => q) (fun h' t tk hk => ?_) hs.2.2.2
        exact ⟨V.str p.shown, H, I.kept (t' := tk) hk, ⟨_, rfl⟩, hq ρ H .refl r _ (.str _)⟩
      · cases hf
    · cases hf
  unfold reprD at hf
  split at hf
  · rename_i d _
    obtain ⟨v, ex, d1⟩ := dvs_one dv
    split at hf
    · split at hf
      · rename_i hl
        cases hf; cases d1; subst ex
        exact SkE.call_repr_int pins s σ H _ us Q I rv ⟨_, rfl, hl, hq ρ H .refl r _ (.str _)⟩
      · cases hf
    · have d2 := d1
      cases d1
      exact deepen d2 rfl ex hf
    · have d2 := d1
      cases d1
      exact deepen d2 rfl ex hf
    · have d2 := d1
      cases d1
      exact deepen d2 rfl ex hf
    · cases hf
  · cases hf
end
end Zl

/-! text Z6 -/
namespace Zl
open PySem L2 PySem.Spec PyProof.Rows

abbrev FM := Dv → List Dv → Mem → Rz
def tMt (K : Frg) (ct : Ct) (h : FM) : V → List V → Hp → VK → Prop := fun x xs H Q => ∃ ρ M d ds, Rl K ct ρ M H ∧ DV K ρ H d x ∧ DVs K ρ H ds xs ∧ ∃ z M', h d ds M = some (z, M') ∧ Aft K ct ρ H M' fun ρ' H' => ∀ v, DV K ρ' H' z v → Q v H'
abbrev SM (X : Cx) (ct : Ct) (id : String) (h : FM) : Prop := MtR X id (tMt X.K ct h)
/-- of which built-in type the receiver is -/
def isTy (T : String) (d : Dv) (M : Mem) : Bool :=
  match d with
  | .tup _ => T == "tuple"
  | .rol _ => T == "list"
  | .str _ => T == "str"
  | .loc n => match M[n]? with
    | some (.lst _) => T == "list"
    | _ => false
  | _ => false
section
variable {X : Cx} {ct : Ct} {e o : Expr} {es : List Expr} {apos cpos : Pos} {fo : FE} {fr : FA} {h : FM} {T id : String} {name : Str}
theorem isTy_ok {pins : List (Addr × Obj)} {σ : L2.St} {H : Hp} {s : Shared} {ρ : List Addr} {M : Mem} {d : Dv} {x : V} {v : Value} (I : Inv X pins σ H s) (r : Rl X.K ct ρ M H) (dx : DV X.K ρ H d x) (rx : RelV x v) (ht : isTy T d M = true) :
    s.TypeIs v T ∧ ∀ a, v = .ref a → ∃ ob, s.heap.get? a = some ob ∧ ob.dict = none := by
  unfold isTy at ht
  split at ht
  · have e : T = "tuple" := by simpa using ht
    subst e
    cases dx with
    | tup hs hd =>
      cases rx
      rcases hs with ⟨o, h1, h2⟩ | ⟨o, its, n, h1, h2, h3, h4⟩
      · obtain ⟨g, _, us, _, ob, g2, g3, _⟩ := I.hok _ _ h1
        rw [g] at g2; cases g2
        exact ⟨⟨o, g, g3⟩, fun a e => by cases e; exact ⟨o, g, h2⟩⟩
      · exact ⟨⟨o, I.kIn _ _ h1, h2⟩, fun a e => by cases e; exact ⟨o, I.kIn _ _ h1, h3⟩⟩
  · have e : T = "list" := by simpa using ht
    subst e
    cases dx with
    | rol hs hd => exact tyV_is I rx (.inl ⟨rfl, _, hs.sq⟩)
  · have e : T = "str" := by simpa using ht
    subst e
    cases dx
    exact tyV_is I rx (rfl : tyV X.K "str" (V.str _) H)
  · split at ht
    · rename_i hm
      have e : T = "list" := by simpa using ht
      subst e
      obtain ⟨a, vs, rfl, a1, a2, a3⟩ := r.lst hm dx
      exact tyV_is I rx (.inl ⟨rfl, _, SqL.of a2⟩)
    · exact absurd ht (by decide)
  · exact absurd ht (by decide)
/-- o.m(e, ..) of a built-in type -/
def fM (T : String) (h : FM) (fo : FE) (fr : FA) : FE := fun env M => bnd (fo env M) fun d M1 => if isTy T d M1 then bnd (fr env M1) fun ds M2 => h d ds M2 else none
theorem se_bm (pa : PlainAttrs T) (slot : Slot T name id) (hty : typeOf (.builtin id) = pure (.type "method_descriptor")) (hm : SM X ct id h) (ho : SE X ct o fo) (ha : SA X ct (e :: es) fr)
    (hbase : attributeBase o name X.env (eval o X.env) = eval o X.env := by rfl)
    (hfew : ((backTo cpos (starEach (e :: es) X.env)).all (fun x => !x.1) && (backToKw cpos (keywordEach [] X.env)).all (fun x => x.1.isSome)
      && decide ((e :: es).length + ([] : List Keyword).length + (if ([] : List Keyword).isEmpty then 0 else 1) < 30)) = true := by rfl)
    (hline : (apos.endLine == cpos.line) = true := by rfl)
    (hs : starEach (e :: es) X.env = (false, eval e X.env) :: starEach es X.env := by rfl)
    (hplain : (backTo cpos (starEach es X.env)).any (·.1) = false := by rfl) :
    SE X ct (.Call (.Attribute o name apos) (e :: es) [] cpos) (fM T h fo fr) := by
  refine ⟨fun pins s σ H Q I w => ?_⟩
  obtain ⟨ρ, M, env, r, he, d, M', hf, hq⟩ := w
  obtain ⟨x, M1, h1, hf⟩ := bnd_some hf
  split at hf
  · rename_i ht
    obtain ⟨ys, M2, h2, hf⟩ := bnd_some hf
    refine wpAny_Call_method_late hbase hfew hline rfl (thn (ho.run pins s σ H (fun v H1 => ∃ ρ1, Ext X.K ρ H ρ1 H1 ∧ Rl X.K ct ρ1 M1 H1 ∧ DV X.K ρ1 H1 x v) I ⟨ρ, M, env, r, he, x, M1, h1, fun ρ1 H1 e1 r1 v dv => ⟨ρ1, e1, r1, dv⟩⟩) fun v s1 hv => ?_)
    obtain ⟨y, H1, I1, ry, ρ1, e1, r1, dy⟩ := hv
    obtain ⟨t1, t2⟩ := isTy_ok I1 r1 dy ry ht
    refine ⟨T, id, pa, slot, hty, t1, t2, ?_⟩
    have hA := ha.run cpos pins s1 σ H1 (fun vs H2 => ∃ ρ2, Ext X.K ρ1 H1 ρ2 H2 ∧ Rl X.K ct ρ2 M2 H2 ∧ DVs X.K ρ2 H2 ys vs) I1 ⟨ρ1, M1, env, r1, he.mono e1, ys, M2, h2, fun ρ2 H2 e2 r2 vs dvs => ⟨ρ2, e2, r2, dvs⟩⟩
    rw [hs] at hA ⊢
    refine Calls.callWith_builtin (by show (false || (backTo cpos (starEach es X.env)).any fun z => z.1) = false; rw [hplain]; rfl) (Calls.evalArgs_plain (thn hA fun us s2 hus => ?_))
    obtain ⟨vs, H2, I2, rvs, ρ2, e2, r2, dvs⟩ := hus
    exact hm pins s2 σ H2 y vs v us Q I2 ry rvs ⟨ρ2, M2, x, ys, r2, dy.mono e2, dvs, d, M', hf, hq.later (e1.trans e2)⟩
  · cases hf
theorem se_bm0 (pa : PlainAttrs T) (slot : Slot T name id) (hty : typeOf (.builtin id) = pure (.type "method_descriptor")) (hm : SM X ct id h) (ho : SE X ct o fo)
    (hbase : attributeBase o name X.env (eval o X.env) = eval o X.env := by rfl) (hline : (apos.endLine == cpos.line) = true := by rfl) :
    SE X ct (.Call (.Attribute o name apos) [] [] cpos) (fM T h fo fNil) := by
  refine ⟨fun pins s σ H Q I w => ?_⟩
  obtain ⟨ρ, M, env, r, he, d, M', hf, hq⟩ := w
  obtain ⟨x, M1, h1, hf⟩ := bnd_some hf
  split at hf
  · rename_i ht
    obtain ⟨ys, M2, h2, hf⟩ := bnd_some hf
    cases h2
    refine wpAny_Call_method0_late hbase hline (thn (ho.run pins s σ H (fun v H1 => ∃ ρ1, Ext X.K ρ H ρ1 H1 ∧ Rl X.K ct ρ1 _ H1 ∧ DV X.K ρ1 H1 x v) I ⟨ρ, M, env, r, he, x, _, h1, fun ρ1 H1 e1 r1 v dv => ⟨ρ1, e1, r1, dv⟩⟩) fun v s1 hv => ?_)
    obtain ⟨y, H1, I1, ry, ρ1, e1, r1, dy⟩ := hv
    obtain ⟨t1, t2⟩ := isTy_ok I1 r1 dy ry ht
    refine ⟨T, id, pa, slot, hty, t1, t2, ?_⟩
    refine Calls.callWith_builtin rfl (PySem.evalArgs_none ?_)
    exact hm pins s1 σ H1 y [] v [] Q I1 ry .nil ⟨ρ1, _, x, [], r1, dy, .nil, d, M', hf, hq.later e1⟩
  · cases hf
/-! ### lists -/
def appendD : FM
  | .loc n, [x], M => match M[n]? with
    | some (.lst xs) => if xs.length < sizeLine then some (.non, M.set n (.lst (xs ++ [x]))) else none
    | _ => none
  | _, _, _ => none
theorem sm_append : SM X ct "list.append" appendD := by
  intro pins s σ H x xs v us Q I rx rxs w
  obtain ⟨ρ, M, d, ds, r, dx, dxs, z, M', hf, hq⟩ := w
  unfold appendD at hf
  split at hf
  · split at hf
    · rename_i hm
      split at hf
      · rename_i hl
        cases hf
        obtain ⟨a, vs, rfl, a1, a2, a3⟩ := r.lst hm dx
        obtain ⟨y, rfl, dy⟩ := dvs_one dxs
        obtain ⟨r2, e2⟩ := r.putL a1 (a3.append (.cons dy .nil))
        exact mt_append pins s σ H _ _ v us Q I rx rxs ⟨a, vs, y, rfl, rfl, a2, by rw [← a3.length]; exact hl, hq ρ _ e2 r2 _ .non⟩
      · cases hf
    · cases hf
  · cases hf
def extendD : FM
  | .loc n, [.loc m], M => match M[n]?, M[m]? with
    | some (.lst xs), some (.lst ys) => if xs.length + ys.length ≤ sizeLine then some (.non, M.set n (.lst (xs ++ ys))) else none
    | _, _ => none
  | _, _, _ => none
theorem sm_extend : SM X ct "list.extend" extendD := by
  intro pins s σ H x xs v us Q I rx rxs w
  obtain ⟨ρ, M, d, ds, r, dx, dxs, z, M', hf, hq⟩ := w
  unfold extendD at hf
  split at hf
  · split at hf
    · rename_i hm hm2
      split at hf
      · rename_i hl
        cases hf
        obtain ⟨a, vs, rfl, a1, a2, a3⟩ := r.lst hm dx
        obtain ⟨y, rfl, dy⟩ := dvs_one dxs
        obtain ⟨b, ws, rfl, b1, b2, b3⟩ := r.lst hm2 dy
        obtain ⟨r2, e2⟩ := r.putL a1 (a3.append b3)
        exact mt_extend pins s σ H _ _ v us Q I rx rxs ⟨a, b, vs, ws, rfl, rfl, a2, b2, by rw [← a3.length, ← b3.length]; exact hl, hq ρ _ e2 r2 _ .non⟩
      · cases hf
    · cases hf
  · cases hf
/-- pop(): the last one; pop(i) -/
def popD : FM
  | .loc n, [], M => match M[n]? with
    | some (.lst xs) => match xs[xs.length - 1]? with
      | some d => some (d, M.set n (.lst xs.dropLast))
      | none => none
    | _ => none
  | .loc n, [.int i], M => match M[n]? with
    | some (.lst xs) => if -(2 ^ 63) ≤ i ∧ i < 2 ^ 63 then match seqIndex? i xs.length with
        | some k => match xs[k]? with
          | some d => some (d, M.set n (.lst (xs.eraseIdx k)))
          | none => none
        | none => none
      else none
    | _ => none
  | _, _, _ => none
theorem DVs.dropLast {K : Frg} {ρ : List Addr} {H : Hp} {ds : List Dv} {vs : List V} (h : DVs K ρ H ds vs) : DVs K ρ H ds.dropLast vs.dropLast := by
  rw [List.dropLast_eq_take, List.dropLast_eq_take, h.length]
  exact h.take _
theorem DVs.eraseIdx {K : Frg} {ρ : List Addr} {H : Hp} : ∀ {ds : List Dv} {vs : List V} (i : Nat), DVs K ρ H ds vs → DVs K ρ H (ds.eraseIdx i) (vs.eraseIdx i)
  | _, _, _, .nil => .nil
  | _, _, 0, .cons _ t => t
  | _, _, i + 1, .cons r t => .cons r (DVs.eraseIdx i t)
theorem sm_pop : SM X ct "list.pop" popD := by
  intro pins s σ H x xs v us Q I rx rxs w
  obtain ⟨ρ, M, d, ds, r, dx, dxs, z, M', hf, hq⟩ := w
  unfold popD at hf
  split at hf
  · split at hf
    · rename_i hm
      split at hf
      · rename_i d0 hd
        cases hf
        obtain ⟨a, vs, rfl, a1, a2, a3⟩ := r.lst hm dx
        have := dvs_nil dxs; subst this
        obtain ⟨r2, e2⟩ := r.putL a1 a3.dropLast
        obtain ⟨w, h1, h2⟩ := a3.get hd
        rw [a3.length] at h1
        exact mt_pop pins s σ H _ _ v us Q I rx rxs ⟨a, vs, w, rfl, rfl, a2, h1, hq ρ _ e2 r2 _ (h2.mono e2)⟩
      · cases hf
    · cases hf
  · split at hf
    · rename_i hm
      split at hf
      · rename_i hb
        split at hf
        · rename_i k hk
          split at hf
          · rename_i d0 hd
            cases hf
            obtain ⟨a, vs, rfl, a1, a2, a3⟩ := r.lst hm dx
            obtain ⟨y, rfl, dy⟩ := dvs_one dxs
            cases dy
            obtain ⟨r2, e2⟩ := r.putL a1 (a3.eraseIdx k)
            obtain ⟨w, h1, h2⟩ := a3.get hd
            exact mt_popAt pins s σ H _ _ v us Q I rx rxs ⟨a, vs, _, k, w, rfl, rfl, a2, hb.1, hb.2, by rw [← a3.length]; exact hk, h1, hq ρ _ e2 r2 _ (h2.mono e2)⟩
          · cases hf
        · cases hf
      · cases hf
    · cases hf
  · cases hf
/-- index: the first equal one; flat values, or data of any depth in a list -/
def indexD : FM
  | .loc n, [x], M => match M[n]? with
    | some (.lst ys) => if flatD x && ys.all flatD then match idxB (fun y => eqF y x) ys with
        | some j => some (.int (j : Nat), M)
        | none => none
      else match rd M deep x, rdL (rd M deep) ys with
      | some p, some ps => if SeqAt.shaped p = true ∧ SeqAt.shaped (.list ps) = true then match ps.findIdx? fun z => PyData.eqv z p with
          | some j => some (.int (j : Nat), M)
          | none => none
        else none
      | _, _ => none
    | _ => none
  | _, _, _ => none
theorem sm_index (hu : X.A.units + 65 < cLine) : SM X ct "list.index" indexD := by
  intro pins s σ H x xs v us Q I rx rxs w
  obtain ⟨ρ, M, d, ds, r, dx, dxs, z, M', hf, hq⟩ := w
  unfold indexD at hf
  split at hf
  · split at hf
    · rename_i ys hm
      obtain ⟨a, vs, rfl, a1, a2, a3⟩ := r.lst hm dx
      obtain ⟨y, rfl, dy⟩ := dvs_one dxs
      split at hf
      · rename_i hl
        rw [Bool.and_eq_true] at hl
        split at hf
        · rename_i j hj
          cases hf
          obtain ⟨⟨w, h1, h2⟩, h3⟩ := idxB_some hj
          obtain ⟨u, h4, h5⟩ := a3.get h1
          have fl : ∀ {m : Nat} {c : Dv}, ys[m]? = some c → flatD c = true := fun {m c} hc => List.all_eq_true.mp hl.2 c (List.mem_of_getElem? hc)
          refine mt_index pins s σ H _ _ v us Q I rx rxs ⟨a, vs, y, j, u, rfl, rfl, SqL.of a2, by rw [flat_of dy]; exact hl.1, by rw [flats_of a3]; exact hl.2, h4, by rw [eq_of h5 dy (fl h1) hl.1]; exact h2, fun m w' hm' hw' => ?_, hq ρ H .refl r _ (.int _)⟩
          obtain ⟨c, c1, c2⟩ := a3.back hw'
          rw [eq_of c2 dy (fl c1) hl.1]
          exact h3 m c hm' c1
        · cases hf
      · split at hf
        · rename_i p ps hp hps
          split at hf
          · rename_i hs
            split at hf
            · rename_i j hj
              cases hf
              obtain ⟨h1, h2, h3⟩ := List.findIdx?_eq_some_iff_getElem.mp hj
              refine mt_indexD hu pins s σ H _ _ v us Q I rx rxs ⟨a, y, p, ps, j, ps[j], rfl, rfl, .lst (SqL.of a2) (rdL_dp (fun d v p h1 h2 => rd_dp r _ h1 h2) a3 hps), rd_dp r _ dy hp, hs.2, hs.1, List.getElem?_eq_getElem h1, h2, fun m w' hm' hw' => ?_, hq ρ H .refl r _ (.int _)⟩
              obtain ⟨g1, g2⟩ := List.getElem?_eq_some_iff.mp hw'
              subst g2
              have := h3 m hm'
              simpa using this
            · cases hf
          · cases hf
        · cases hf
    · cases hf
  · cases hf
/-! ### tuples: count, index of flat values -/
def tcountD : FM
  | .tup ys, [x], M => if flatD x && ys.all flatD then some (.int (ys.countP fun y => eqF y x : Nat), M) else none
  | _, _, _ => none
theorem count_eqU {K : Frg} {ρ : List Addr} {H : Hp} {x : Dv} {w : V} (hx : DV K ρ H x w) (fx : flatD x = true) : ∀ {ys : List Dv} {vs : List V} {us : List Value}, DVs K ρ H ys vs → Vals vs us → ys.all flatD = true → us.countP (eqU w) = ys.countP fun y => eqF y x
  | _, _, _, .nil, .nil, _ => rfl
  | _, _, _, .cons h t, .cons r rt, f => by
    rw [List.all_cons, Bool.and_eq_true] at f
    have e : eqU w _ = eqF _ x := (eqU_of r (by rw [flat_of h]; exact f.1)).trans (eq_of h hx f.1 fx)
    rw [List.countP_cons, List.countP_cons, count_eqU hx fx t rt f.2, e]
theorem sm_tcount : SM X ct "tuple.count" tcountD := by
  intro pins s σ H x xs v us Q I rx rxs w
  obtain ⟨ρ, M, d, ds, r, dx, dxs, z, M', hf, hq⟩ := w
  unfold tcountD at hf
  split at hf
  · split at hf
    · rename_i hl
      rw [Bool.and_eq_true] at hl
      cases hf
      obtain ⟨y, rfl, dy⟩ := dvs_one dxs
      obtain ⟨u, rfl, ru⟩ := vals1 rxs
      cases dx with
      | tup hs hd =>
        cases rx
        obtain ⟨ws, rw', ⟨⟨cls, dd, data, sl⟩, ho, hc, n, hd'⟩, hz⟩ := I.tuple hs.sq
        simp only at hc hd'
        subst hc hd'
        refine call_meets PySem.F.slot_tuple_count ⟨_, ho, rfl⟩ PySem.F.entry_tuple_count (PySem.F.args_tuple_count_2 _ _)
          (SeqAt.tuple_countAt _ ws.toArray n dd sl u (eqU y)) ⟨ho, fun c hc => mem_eqAt ru (by rw [flat_of dy]; exact hl.1) rw' (by rw [flats_of hd]; exact hl.2) c (by simpa using hc), ?_⟩
        refine ⟨V.int (ws.countP (eqU y) : Nat), H, I.tok _, ⟨s.toks, rfl⟩, ?_⟩
        rw [count_eqU dy hl.1 hd rw' hl.2]
        exact hq ρ H .refl r _ (.int _)
    · cases hf
  · cases hf
def tindexD : FM
  | .tup ys, [x], M => if flatD x && ys.all flatD then match idxB (fun y => eqF y x) ys with
      | some j => some (.int (j : Nat), M)
      | none => none
    else none
  | _, _, _ => none
theorem sm_tindex : SM X ct "tuple.index" tindexD := by
  intro pins s σ H x xs v us Q I rx rxs w
  obtain ⟨ρ, M, d, ds, r, dx, dxs, z, M', hf, hq⟩ := w
  unfold tindexD at hf
  split at hf
  · rename_i _ ys _
    split at hf
    · rename_i hl
      rw [Bool.and_eq_true] at hl
      split at hf
      · rename_i j hj
        cases hf
        obtain ⟨y, rfl, dy⟩ := dvs_one dxs
        obtain ⟨u, rfl, ru⟩ := vals1 rxs
        obtain ⟨⟨w, h1, h2⟩, h3⟩ := idxB_some hj
        have fl : ∀ {m : Nat} {c : Dv}, ys[m]? = some c → flatD c = true := fun {m c} hc => List.all_eq_true.mp hl.2 c (List.mem_of_getElem? hc)
        cases dx with
        | tup hs hd =>
          cases rx
          obtain ⟨ws, rw', ⟨⟨cls, dd, data, sl⟩, ho, hc, n, hd'⟩, hz⟩ := I.tuple hs.sq
          simp only at hc hd'
          subst hc hd'
          have at_ : ∀ {m : Nat} (hm : m < ws.toArray.size), ∃ c, ys[m]? = some c ∧ eqU y ws.toArray[m] = eqF c _ := fun {m} hm => by
            have hm1 : m < ws.length := by simpa using hm
            have hm2 : m < ys.length := by rw [hd.length, rw'.length]; exact hm1
            have e1 : ys[m]? = some ys[m] := List.getElem?_eq_getElem hm2
            obtain ⟨b, b1, b2⟩ := hd.get e1
            obtain ⟨c, c1, c2⟩ := rw'.get b1
            refine ⟨ys[m], e1, ?_⟩
            have e2 : ws.toArray[m] = c := by simpa using (List.getElem?_eq_some_iff.mp c1).2
            rw [e2]
            exact (eqU_of c2 (by rw [flat_of b2]; exact fl e1)).trans (eq_of b2 dy (fl e1) hl.1)
          have hj1 : j < ws.toArray.size := by
            have := (List.getElem?_eq_some_iff.mp h1).1
            rw [List.size_toArray, ← rw'.length, ← hd.length]; exact this
          refine call_meets PySem.F.slot_tuple_index ⟨_, ho, rfl⟩ PySem.F.entry_tuple_index (PySem.F.args_tuple_index_2 _ _)
            (TI.tuple_indexAt _ ws.toArray n dd sl u (eqU y) j hj1 ?_ ?_) ⟨ho, fun c hc => mem_eqAt ru (by rw [flat_of dy]; exact hl.1) rw' (by rw [flats_of hd]; exact hl.2) c (by simpa using hc), ?_⟩
          · obtain ⟨c, c1, c2⟩ := at_ hj1
            rw [h1] at c1; cases c1
            rw [c2]; exact h2
          · intro m hm hmj
            obtain ⟨c, c1, c2⟩ := at_ hm
            rw [c2]
            exact h3 m c hmj c1
          · exact ⟨V.int (j : Nat), H, I.tok _, ⟨_, rfl⟩, hq ρ H .refl r _ (.int _)⟩
      · cases hf
    · cases hf
  · cases hf
end
end Zl

/-! text Z7 -/
namespace Zl
open PySem L2 PySem.Spec PyProof.Rows

/-! ## Targets -/
/-- equal but for the slots ws -/
def OutEq (ws : List Nat) (σ σ' : L2.St) : Prop := σ'.length = σ.length ∧ ∀ i, i ∉ ws → σ'[i]? = σ[i]?
theorem OutEq.refl {ws : List Nat} {σ : L2.St} : OutEq ws σ σ := ⟨rfl, fun _ _ => rfl⟩
theorem OutEq.set {ws : List Nat} {σ : L2.St} {i : Nat} {v : Option V} (h : i ∈ ws) : OutEq ws σ (σ.set i v) := ⟨by simp, fun j hj => List.getElem?_set_ne fun e => hj (by rw [← e]; exact h)⟩
theorem OutEq.trans {ws : List Nat} {σ σ1 σ2 : L2.St} (a : OutEq ws σ σ1) (b : OutEq ws σ1 σ2) : OutEq ws σ σ2 := ⟨b.1.trans a.1, fun i hi => (b.2 i hi).trans (a.2 i hi)⟩
theorem OutEq.mono {ws us : List Nat} {σ σ' : L2.St} (a : OutEq ws σ σ') (h : ∀ i ∈ ws, i ∈ us) : OutEq us σ σ' := ⟨a.1, fun i hi => a.2 i fun z => hi (h i z)⟩

abbrev FG := Dv → En → Mem → Option (En × Mem)
abbrev FGs := List Dv → En → Mem → Option (En × Mem)
def tG (K : Frg) (ct : Ct) (ws : List Nat) (f : FG) : TG := fun v σ H Q => ∃ ρ M env d, Rl K ct ρ M H ∧ EnOk K ρ H env σ ∧ DV K ρ H d v ∧ ∃ env' M', f d env M = some (env', M') ∧ Aft K ct ρ H M' fun ρ' H' => ∀ σ', EnOk K ρ' H' env' σ' → OutEq ws σ σ' → Q σ' H'
def tGs (K : Frg) (ct : Ct) (ws : List Nat) (f : FGs) : TGs := fun vs σ H Q => ∃ ρ M env ds, Rl K ct ρ M H ∧ EnOk K ρ H env σ ∧ DVs K ρ H ds vs ∧ ∃ env' M', f ds env M = some (env', M') ∧ Aft K ct ρ H M' fun ρ' H' => ∀ σ', EnOk K ρ' H' env' σ' → OutEq ws σ σ' → Q σ' H'
abbrev SG (X : Cx) (ct : Ct) (ws : List Nat) (e : Expr) (f : FG) : Prop := PG X e (tG X.K ct ws f)
abbrev SGs (X : Cx) (ct : Ct) (ws : List Nat) (es : List Expr) (f : FGs) : Prop := PGs X es (tGs X.K ct ws f)
section
variable {X : Cx} {ct : Ct} {ws : List Nat} {e o i' : Expr} {es : List Expr} {pos : Pos} {f : FG} {g : FGs} {fo fi fa : FE}
theorem PG.imp {t t' : TG} (h : PG X e t) (k : ∀ v σ H Q, t' v σ H Q → t v σ H Q) : PG X e t' := ⟨fun pins s σ H v u Q I r w => h.run pins s σ H v u Q I r (k v σ H Q w)⟩
theorem PGs.imp {t t' : TGs} (h : PGs X es t) (k : ∀ v σ H Q, t' v σ H Q → t v σ H Q) : PGs X es t' := ⟨fun pins s σ H v u Q I r w => h.run pins s σ H v u Q I r (k v σ H Q w)⟩
def gN (i : Nat) : FG := fun d env M => some (env.set i (some d), M)
theorem sg_name {i : Nat} {x : Str} (hN : X.N.Nodup) (hi : X.N[i]? = some x) (hx : Loc X.env.scope x) (hw : i ∈ ws := by simp) (hf : X.fn x = true ∨ X.env.scope.names.lookup x = some .local := by first | exact .inl rfl | exact .inr rfl | assumption) : SG X ct ws (.Name x pos) (gN i) :=
  PG.imp (pg_name hN hi hx hf) fun v σ H Q ⟨ρ, M, env, d, r, he, dv, env', M', hf, hq⟩ => by
    cases hf
    exact hq ρ H .refl r _ (he.set i dv) (.set hw)
def gsNil : FGs := fun ds env M => match ds with
  | [] => some (env, M)
  | _ => none
def gsCons (f : FG) (g : FGs) : FGs := fun ds env M => match ds with
  | d :: r => bnd (f d env M) fun e1 M1 => g r e1 M1
  | [] => none
theorem sgs_nil : SGs X ct ws [] gsNil := PGs.imp pgs_nil fun v σ H Q ⟨ρ, M, env, ds, r, he, dv, env', M', hf, hq⟩ => by
  unfold gsNil at hf
  split at hf
  · cases hf
    exact ⟨dvs_nil dv, hq ρ H .refl r σ he .refl⟩
  · cases hf
theorem sgs_cons (h1 : SG X ct ws e f) (h2 : SGs X ct ws es g) (hs : (assignEach (e :: es) X.env).map (·.2) = assign e X.env :: (assignEach es X.env).map (·.2) := by rfl) : SGs X ct ws (e :: es) (gsCons f g) :=
  PGs.imp (pgs_cons h1 h2 hs) fun vs σ H Q ⟨ρ, M, env, ds, r, he, dv, env', M', hf, hq⟩ => by
    unfold gsCons at hf
    split at hf
    · obtain ⟨e1, M1, g1, hf⟩ := bnd_some hf
      cases dv with
      | cons d1 dr =>
        exact ⟨_, _, rfl, ρ, M, env, _, r, he, d1, e1, M1, g1, fun ρ1 H1 x1 r1 σ1 en1 oe1 => ⟨ρ1, M1, e1, _, r1, en1, dr.mono x1, env', M', hf, fun ρ2 H2 x2 r2 σ2 en2 oe2 => hq ρ2 H2 (x1.trans x2) r2 σ2 en2 (oe1.trans oe2)⟩⟩
    · cases hf
/-- (a, b, ..) = a tuple -/
def gT (n : Nat) (g : FGs) : FG := fun d env M => match d with
  | .tup xs => if xs.length = n then g xs env M else none
  | .pr xs => if xs.length = n then g xs env M else none
  | _ => none
theorem sg_tup {k n : Nat} (hc : X.calm = true) (h : SGs X ct ws es g) (hn : (assignEach es X.env).length = n := by rfl) (hst : (assignEach es X.env).findIdx? (·.1) = none := by rfl) : SG X ct ws (.Tuple es k pos) (gT n g) :=
  PG.imp (pg_tup hc h hn hst) fun v σ H Q ⟨ρ, M, env, d, r, he, dv, env', M', hf, hq⟩ => by
    unfold gT at hf
    split at hf
    · split at hf
      · rename_i hl
        cases dv with
        | tup hs hd => exact ⟨_, _, rfl, hs.sq, hd.length ▸ hl, ρ, M, env, _, r, he, hd, env', M', hf, hq⟩
      · cases hf
    · split at hf
      · rename_i hl
        cases dv with
        | pr hs hd => exact ⟨_, _, rfl, hs, hd.length ▸ hl, ρ, M, env, _, r, he, hd, env', M', hf, hq⟩
      · cases hf
    · cases hf
/-- (a, b, ..) = a list -/
def gL (n : Nat) (g : FGs) : FG := fun d env M => match d with
  | .loc m => match M[m]? with
    | some (.lst xs) => if xs.length = n then g xs env M else none
    | _ => none
  | _ => none
theorem sg_unl {k n : Nat} (hc : X.calm = true) (h : SGs X ct ws es g) (hn : (assignEach es X.env).length = n := by rfl) (hst : (assignEach es X.env).findIdx? (·.1) = none := by rfl) : SG X ct ws (.Tuple es k pos) (gL n g) :=
  PG.imp (pg_unl hc h hn hst) fun v σ H Q ⟨ρ, M, env, d, r, he, dv, env', M', hf, hq⟩ => by
    unfold gL at hf
    split at hf
    · split at hf
      · rename_i hm
        split at hf
        · rename_i hl
          obtain ⟨a, vs, rfl, a1, a2, a3⟩ := r.lst hm dv
          exact ⟨_, _, rfl, SqL.of a2, a3.length ▸ hl, ρ, M, env, _, r, he, a3, env', M', hf, hq⟩
        · cases hf
      · cases hf
    · cases hf
/-- o[i] = v of a list -/
def setD (o i v : Dv) (M : Mem) : Option Mem :=
  match o, i with
  | .loc n, .int k => match M[n]? with
    | some (.lst xs) => match ixN xs.length k with
      | some j => some (M.set n (.lst (xs.set j v)))
      | none => none
    | _ => none
  | _, _ => none
def gS (fo fi : FE) : FG := fun d env M => bnd (fo env M) fun o M1 => bnd (fi env M1) fun i M2 => match setD o i d M2 with
  | some M3 => some (env, M3)
  | none => none
theorem sg_sub (ho : SE X ct o fo) (hi : SE X ct i' fi)
    (ha : ∀ v, assign (.Subscript o i' pos) X.env v = (do
      let ov ← holding [v] (eval o X.env)
      let iv ← holding [v, ov] (eval i' X.env)
      standAt pos
      holding [v, ov, iv] (setItem ov iv v)
      release [v, ov, iv] []) := by intro _; rfl) : SG X ct ws (.Subscript o i' pos) (gS fo fi) :=
  PG.imp (pg_sub ho hi set_list ha) fun v σ H Q ⟨ρ, M, env, d, r, he, dv, env', M', hf, hq⟩ => by
    obtain ⟨x, M1, h1, hf⟩ := bnd_some hf
    obtain ⟨y, M2, h2, hf⟩ := bnd_some hf
    refine ⟨ρ, M, env, r, he, x, M1, h1, fun ρ1 H1 e1 r1 w dw => ⟨ρ1, M1, env, r1, he.mono e1, y, M2, h2, fun ρ2 H2 e2 r2 u du => ?_⟩⟩
    split at hf
    · rename_i M3 hs
      cases hf
      unfold setD at hs
      split at hs
      · split at hs
        · rename_i hm
          split at hs
          · rename_i j hj
            cases hs
            obtain ⟨a, vs, rfl, a1, a2, a3⟩ := r2.lst hm (dw.mono e2)
            cases du
            obtain ⟨r3, e3⟩ := r2.putL a1 (a3.set ((dv.mono e1).mono e2) j)
            exact ⟨a, vs, _, j, rfl, rfl, a2, by rw [← a3.length]; exact hj, hq ρ2 _ ((e1.trans e2).trans e3) r3 σ (((he.mono e1).mono e2).mono e3) .refl⟩
          · cases hs
        · cases hs
      · cases hs
    · cases hf
end

/-! ## Statements -/
inductive Fl where
  | nx (env : En)
  | rt (d : Dv)
  | bk (env : En)
  | ct (env : En)
abbrev FS := En → Mem → Option (Fl × Mem)
def endF (K : Frg) (D : Ends) (fl : Fl) (ρ : List Addr) (H : Hp) : Prop :=
  match fl with
  | .nx env => ∀ σ, EnOk K ρ H env σ → D.nx σ H
  | .rt d => ∀ v, DV K ρ H d v → D.rt v H
  | .bk env => ∀ σ, EnOk K ρ H env σ → D.bk σ H
  | .ct env => ∀ σ, EnOk K ρ H env σ → D.ct σ H
def tS (K : Frg) (ct : Ct) (f : FS) : TS := fun D σ H => ∃ ρ M env, Rl K ct ρ M H ∧ EnOk K ρ H env σ ∧ ∃ fl M', f env M = some (fl, M') ∧ Aft K ct ρ H M' fun ρ' H' => endF K D fl ρ' H'
abbrev SS (X : Cx) (ct : Ct) (st : Stmt) (f : FS) : Prop := PS X st (tS X.K ct f)
abbrev SSs (X : Cx) (ct : Ct) (st : List Stmt) (f : FS) : Prop := PSs X st (tS X.K ct f)
section
variable {X : Cx} {ct : Ct} {st : Stmt} {rest body orelse : List Stmt} {e c o v' tg : Expr} {pos tpos : Pos} {f g : FS} {fe fo fv : FE} {ft : FT} {ws : List Nat}
theorem PS.imp {t t' : TS} (h : PS X st t) (k : ∀ D σ H, t' D σ H → t D σ H) : PS X st t' := ⟨fun pins s σ H D I w => h.run pins s σ H D I (k D σ H w)⟩
theorem PSs.imp {t t' : TS} (h : PSs X rest t) (k : ∀ D σ H, t' D σ H → t D σ H) : PSs X rest t' := ⟨fun pins s σ H D I w => h.run pins s σ H D I (k D σ H w)⟩
def fEnd : FS := fun env M => some (.nx env, M)
def fSeq (f g : FS) : FS := fun env M => bnd (f env M) fun fl M1 => match fl with
  | .nx e1 => g e1 M1
  | .rt d => some (.rt d, M1)
  | .bk e1 => some (.bk e1, M1)
  | .ct e1 => some (.ct e1, M1)
theorem ss_nil : SSs X ct [] fEnd := PSs.imp pss_nil fun D σ H ⟨ρ, M, env, r, he, fl, M', hf, hq⟩ => by
  cases hf
  exact hq ρ H .refl r σ he
theorem ss_cons (h1 : SS X ct st f) (h2 : SSs X ct rest g) : SSs X ct (st :: rest) (fSeq f g) :=
  PSs.imp (pss_cons h1 h2) fun D σ H ⟨ρ, M, env, r, he, fl, M', hf, hq⟩ => by
    obtain ⟨f1, M1, h1, hf⟩ := bnd_some hf
    refine ⟨ρ, M, env, r, he, f1, M1, h1, fun ρ1 H1 e1 r1 => ?_⟩
    cases f1 with
    | nx e2 => exact fun σ1 en1 => ⟨ρ1, M1, e2, r1, en1, fl, M', hf, hq.later e1⟩
    | rt d => cases hf; exact hq ρ1 H1 e1 r1
    | bk e2 => cases hf; exact hq ρ1 H1 e1 r1
    | ct e2 => cases hf; exact hq ρ1 H1 e1 r1
theorem ss_one (h1 : SS X ct st f) : SSs X ct [st] f := pss_one h1
theorem ss_pass : SS X ct (.Pass pos) fEnd := PS.imp ps_pass fun D σ H ⟨ρ, M, env, r, he, fl, M', hf, hq⟩ => by
  cases hf
  exact hq ρ H .refl r σ he
def fBrk : FS := fun env M => some (.bk env, M)
def fCnt : FS := fun env M => some (.ct env, M)
theorem ss_break : SS X ct (.Break pos) fBrk := PS.imp ps_break fun D σ H ⟨ρ, M, env, r, he, fl, M', hf, hq⟩ => by
  cases hf
  exact hq ρ H .refl r σ he
theorem ss_continue : SS X ct (.Continue pos) fCnt := PS.imp ps_continue fun D σ H ⟨ρ, M, env, r, he, fl, M', hf, hq⟩ => by
  cases hf
  exact hq ρ H .refl r σ he
/-- code that no run served here comes to -/
def fNo : FS := fun _ _ => none
theorem ss_never : SS X ct st fNo := PS.imp ps_never fun D σ H ⟨_, _, _, _, _, _, _, hf, _⟩ => by cases hf
theorem sss_never : SSs X ct rest fNo := PSs.imp pss_never fun D σ H ⟨_, _, _, _, _, _, _, hf, _⟩ => by cases hf
def fDrop (f : FE) : FS := fun env M => bnd (f env M) fun _ M1 => some (.nx env, M1)
theorem ss_expr (h : SE X ct e fe) (hs : swapsWith e none pos.line X.env = pure false := by rfl) : SS X ct (.Expr e pos) (fDrop fe) :=
  PS.imp (ps_expr h hs) fun D σ H ⟨ρ, M, env, r, he, fl, M', hf, hq⟩ => by
    obtain ⟨x, M1, h1, hf⟩ := bnd_some hf
    cases hf
    exact ⟨ρ, M, env, r, he, x, _, h1, fun ρ1 H1 e1 r1 v dv => hq ρ1 H1 e1 r1 σ (he.mono e1)⟩
def fRet (f : FE) : FS := fun env M => bnd (f env M) fun d M1 => some (.rt d, M1)
theorem ss_ret (h : SE X ct e fe) : SS X ct (.Return (some e) pos) (fRet fe) :=
  PS.imp (ps_ret h) fun D σ H ⟨ρ, M, env, r, he, fl, M', hf, hq⟩ => by
    obtain ⟨x, M1, h1, hf⟩ := bnd_some hf
    cases hf
    exact ⟨ρ, M, env, r, he, x, _, h1, fun ρ1 H1 e1 r1 v dv => hq ρ1 H1 e1 r1 v dv⟩
def fRetN : FS := fun _ M => some (.rt .non, M)
theorem ss_retN : SS X ct (.Return none pos) fRetN :=
  PS.imp ps_retN fun D σ H ⟨ρ, M, env, r, he, fl, M', hf, hq⟩ => by
    cases hf
    exact hq ρ H .refl r _ .non
def fIfS (c : FT) (f g : FS) : FS := fun env M => bnd (c env M) fun b M1 => if b then f env M1 else g env M1
theorem ss_if (hc : ST X ct c ft) (h1 : SSs X ct body f) (h2 : SSs X ct orelse g) : SS X ct (.If c body orelse pos) (fIfS ft f g) :=
  PS.imp (ps_if hc h1 h2) fun D σ H ⟨ρ, M, env, r, he, fl, M', hf, hq⟩ => by
    obtain ⟨b, M1, h1, hf⟩ := bnd_some hf
    refine ⟨ρ, M, env, r, he, b, M1, h1, fun ρ1 H1 e1 r1 => ?_⟩
    cases b with
    | true =>
      rw [if_pos rfl]
      exact ⟨ρ1, M1, env, r1, he.mono e1, fl, M', hf, hq.later e1⟩
    | false =>
      rw [if_neg (by decide)]
      exact ⟨ρ1, M1, env, r1, he.mono e1, fl, M', hf, hq.later e1⟩
/-- name = e -/
def fSet (i : Nat) (f : FE) : FS := fun env M => bnd (f env M) fun d M1 => some (.nx (env.set i (some d)), M1)
theorem ss_set {i : Nat} {x : Str} {pos' : Pos} (hN : X.N.Nodup) (hi : X.N[i]? = some x) (hx : Loc X.env.scope x) (h : SE X ct e fe) (hs : swapsWith e (some (.Name x pos')) pos.line X.env = pure false := by rfl) (hf : X.fn x = true ∨ X.env.scope.names.lookup x = some .local := by first | exact .inl rfl | exact .inr rfl | assumption) :
    SS X ct (.Assign [.Name x pos'] e pos) (fSet i fe) :=
  PS.imp (ps_set hN hi hx h hs hf) fun D σ H ⟨ρ, M, env, r, he, fl, M', hf, hq⟩ => by
    obtain ⟨d, M1, h1, hf⟩ := bnd_some hf
    cases hf
    exact ⟨ρ, M, env, r, he, d, _, h1, fun ρ1 H1 e1 r1 v dv => hq ρ1 H1 e1 r1 _ ((he.mono e1).set i dv)⟩
/-- target = e -/
def fAsg (f : FE) (g : FG) : FS := fun env M => bnd (f env M) fun d M1 => bnd (g d env M1) fun e1 M2 => some (.nx e1, M2)
theorem ss_asg {gg : FG} (h : SE X ct e fe) (hg : SG X ct ws tg gg) (hs : swapsWithSole [tg] e pos.line X.env = pure false := by rfl) (hw : swappedStores [tg] e X.env = pure none := by rfl)
    (h1 : (assignEach [tg] X.env).map (·.2) = [assign tg X.env] := by rfl) : SS X ct (.Assign [tg] e pos) (fAsg fe gg) :=
  PS.imp (ps_asg h hg hs hw h1) fun D σ H ⟨ρ, M, env, r, he, fl, M', hf, hq⟩ => by
    obtain ⟨d, M1, h1, hf⟩ := bnd_some hf
    obtain ⟨e2, M2, h2, hf⟩ := bnd_some hf
    cases hf
    exact ⟨ρ, M, env, r, he, d, M1, h1, fun ρ1 H1 e1 r1 v dv => ⟨ρ1, M1, env, d, r1, he.mono e1, dv, e2, _, h2, fun ρ2 H2 x2 r2 σ2 en2 _ => hq ρ2 H2 (e1.trans x2) r2 σ2 en2⟩⟩
/-- a, b = x, y: plain local names -/
def fPar (is : List Nat) (f : FA) : FS := fun env M => bnd (f env M) fun ds M1 => if ds.length = is.length then some (.nx ((is.zip ds).foldl (fun e p => e.set p.1 (some p.2)) env), M1) else none
theorem ss_par {i j : Nat} {x y : Str} {a b : Expr} {fr : FA} {px py pt : Pos} {kt k2 pt2} (hc : X.calm = true) (hN : X.N.Nodup) (hi : X.N[i]? = some x) (hj : X.N[j]? = some y) (hij : i ≠ j)
    (hx : X.env.scope.names.lookup x = some .local) (hy : X.env.scope.names.lookup y = some .local) (ha : SA X ct [a, b] fr)
    (hw : swappedStores [.Tuple [.Name x px, .Name y py] kt pt] (.Tuple [a, b] k2 pt2) X.env = pure (some [x, y]))
    (hs : swapsWithSole [.Tuple [.Name x px, .Name y py] kt pt] (.Tuple [a, b] k2 pt2) pos.line X.env = pure false := by rfl) :
    SS X ct (.Assign [.Tuple [.Name x px, .Name y py] kt pt] (.Tuple [a, b] k2 pt2) pos) (fPar [i, j] fr) :=
  PS.imp (ps_par hc hN hi hj hij hx hy ha hw hs) fun D σ H ⟨ρ, M, env, r, he, fl, M', hf, hq⟩ => by
    obtain ⟨ds, M1, h1, hf⟩ := bnd_some hf
    split at hf
    · rename_i hl
      cases hf
      refine ⟨ρ, M, env, r, he, ds, _, h1, fun ρ1 H1 e1 r1 vs dvs => ?_⟩
      match ds, hl, dvs with
      | [d1, d2], _, dvs =>
        obtain ⟨u, w, rfl, q1, q2⟩ := dvs_two dvs
        exact ⟨u, w, rfl, hq ρ1 H1 e1 r1 _ (((he.mono e1).set i q1).set j q2)⟩
    · cases hf
theorem ss_par3 {i j l : Nat} {x y z : Str} {a b c : Expr} {fr : FA} {px py pz pt : Pos} {kt k2 pt2} (hc : X.calm = true) (hN : X.N.Nodup) (hi : X.N[i]? = some x) (hj : X.N[j]? = some y) (hl : X.N[l]? = some z) (hij : i ≠ j) (hil : i ≠ l) (hjl : j ≠ l)
    (hx : X.env.scope.names.lookup x = some .local) (hy : X.env.scope.names.lookup y = some .local) (hz : X.env.scope.names.lookup z = some .local) (ha : SA X ct [a, b, c] fr)
    (hw : swappedStores [.Tuple [.Name x px, .Name y py, .Name z pz] kt pt] (.Tuple [a, b, c] k2 pt2) X.env = pure (some [x, y, z]))
    (hs : swapsWithSole [.Tuple [.Name x px, .Name y py, .Name z pz] kt pt] (.Tuple [a, b, c] k2 pt2) pos.line X.env = pure false := by rfl) :
    SS X ct (.Assign [.Tuple [.Name x px, .Name y py, .Name z pz] kt pt] (.Tuple [a, b, c] k2 pt2) pos) (fPar [i, j, l] fr) :=
  PS.imp (ps_par3 hc hN hi hj hl hij hil hjl hx hy hz ha hw hs) fun D σ H ⟨ρ, M, env, r, he, fl, M', hf, hq⟩ => by
    obtain ⟨ds, M1, h1, hf⟩ := bnd_some hf
    split at hf
    · rename_i hl
      cases hf
      refine ⟨ρ, M, env, r, he, ds, _, h1, fun ρ1 H1 e1 r1 vs dvs => ?_⟩
      match ds, hl, dvs with
      | [d1, d2, d3], _, dvs =>
        cases dvs with
        | cons q1 qs =>
          obtain ⟨u, w, rfl, q2, q3⟩ := dvs_two qs
          exact ⟨_, u, w, rfl, hq ρ1 H1 e1 r1 _ ((((he.mono e1).set i q1).set j q2).set l q3)⟩
    · cases hf
/-- name op= e of ints -/
def fAug (i : Nat) (h : Int → Int → Int) (f : FE) : FS := fun env M => match env[i]? with
  | some (some (.int a)) => bnd (f env M) fun d M1 => match d with
    | .int b => some (.nx (env.set i (some (.int (h a b)))), M1)
    | _ => none
  | _ => none
theorem ss_aug {i : Nat} {x : Str} {op : Operator} {h : Int → Int → Int} {pos' : Pos} (hN : X.N.Nodup) (hi : X.N[i]? = some x) (hx : Loc X.env.scope x) (he : SE X ct e fe) (ho : PIp X op (ipI h)) (hf : X.fn x = true ∨ X.env.scope.names.lookup x = some .local := by first | exact .inl rfl | exact .inr rfl | assumption) :
    SS X ct (.AugAssign (.Name x pos') op e pos) (fAug i h fe) :=
  PS.imp (ps_aug hN hi hx he ho hf) fun D σ H ⟨ρ, M, env, r, hen, fl, M', hf, hq⟩ => by
    unfold fAug at hf
    split at hf
    · rename_i a ha
      obtain ⟨d, M1, h1, hf⟩ := bnd_some hf
      split at hf
      · rename_i b
        cases hf
        obtain ⟨v, v1, v2⟩ := hen.2 i _ ha
        cases v2
        refine ⟨_, v1, ρ, M, env, r, hen, _, _, h1, fun ρ1 H1 e1 r1 w dw => ?_⟩
        cases dw
        exact ⟨_, _, rfl, rfl, hq ρ1 H1 e1 r1 _ ((hen.mono e1).set i (.int _))⟩
      · cases hf
    · cases hf

/-! ## while -/
def whileF (c : FT) (body : FS) : Nat → FS
  | 0 => fun _ _ => none
  | k + 1 => fun env M => bnd (c env M) fun b M1 => if b then bnd (body env M1) fun fl M2 => match fl with
      | .nx e1 => whileF c body k e1 M2
      | .ct e1 => whileF c body k e1 M2
      | .bk e1 => some (.nx e1, M2)
      | .rt d => some (.rt d, M2)
    else some (.nx env, M1)
theorem ss_while (k : Nat) (hp : PassesOwn (model X.prog X.w) X.A X.env X.xe) (hc : ST X ct c ft) (hb : SSs X ct body f) : SS X ct (.While c body [] pos) (whileF ft f k) := by
  refine PS.imp (ps_while hp hc hb) fun D σ H w => ?_
  refine ⟨fun m σ H => ∃ ρ M env, Rl X.K ct ρ M H ∧ EnOk X.K ρ H env σ ∧ ∃ fl M', whileF ft f m env M = some (fl, M') ∧ Aft X.K ct ρ H M' fun ρ' H' => endF X.K D fl ρ' H', ⟨k, w⟩, ?_⟩
  intro m σ H w
  obtain ⟨ρ, M, env, r, he, fl, M', hf, hq⟩ := w
  cases m with
  | zero => cases hf
  | succ m =>
    obtain ⟨b, M1, h1, hf⟩ := bnd_some hf
    refine ⟨ρ, M, env, r, he, b, M1, h1, fun ρ1 H1 e1 r1 => ?_⟩
    cases b with
    | false =>
      rw [if_neg (by decide)]
      cases hf
      exact hq ρ1 H1 e1 r1 σ (he.mono e1)
    | true =>
      rw [if_pos rfl]
      rw [if_pos rfl] at hf
      obtain ⟨f1, M2, h2, hf⟩ := bnd_some hf
      refine ⟨fun σ' H' => ∃ ρ M env, Rl X.K ct ρ M H' ∧ EnOk X.K ρ H' env σ' ∧ ∃ fl M', whileF ft f m env M = some (fl, M') ∧ Aft X.K ct ρ H' M' fun ρ' H' => endF X.K D fl ρ' H', fun σ' H' n => ⟨m, Nat.lt_succ_self m, n⟩, ?_⟩
      refine ⟨ρ1, M1, env, r1, he.mono e1, f1, M2, h2, fun ρ2 H2 e2 r2 => ?_⟩
      cases f1 with
      | nx e3 => exact fun σ2 en2 => ⟨ρ2, M2, e3, r2, en2, fl, M', hf, hq.later (e1.trans e2)⟩
      | ct e3 => exact fun σ2 en2 => ⟨ρ2, M2, e3, r2, en2, fl, M', hf, hq.later (e1.trans e2)⟩
      | bk e3 => cases hf; exact fun σ2 en2 => hq ρ2 H2 (e1.trans e2) r2 σ2 en2
      | rt d => cases hf; exact hq ρ2 H2 (e1.trans e2) r2
end
end Zl

/-! text Z8 -/
namespace Zl
open PySem L2 PySem.Spec PyProof.Rows

/-! ## What is walked -/
/-- at turn i: the item, or the end -/
abbrev Stp := Nat → Mem → Option (Option Dv)
structure Src where
  many : Nat
  stp : Stp
def Feeds (K : Frg) (ct : Ct) (ρ0 : List Addr) (H0 : Hp) (J : It) (it : Stp) : Prop := ∀ i ρ M H, Ext K ρ0 H0 ρ H → Rl K ct ρ M H →
  match it i M with
  | some (some d) => J.go i H ∧ ∀ x H', J.yld i H x H' → Ext K ρ H ρ H' ∧ Rl K ct ρ M H' ∧ DV K ρ H' d x
  | some none => J.stop i H
  | none => True
abbrev FI := En → Mem → Option (Src × Mem)
def tI (K : Frg) (ct : Ct) (f : FI) : TI := fun σ H R => ∃ ρ M env, Rl K ct ρ M H ∧ EnOk K ρ H env σ ∧ ∃ src M', f env M = some (src, M') ∧ Aft K ct ρ H M' fun ρ' H' => ∀ J, Feeds K ct ρ' H' J src.stp → R J H'
abbrev SI (X : Cx) (ct : Ct) (tg iter : Expr) (f : FI) : Prop := PI X tg iter (tI X.K ct f)
section
variable {X : Cx} {ct : Ct} {tg iter e a b : Expr} {pos p : Pos} {fe fa fb : FE} {fi : FI} {fr : FA}
theorem PI.imp {t t' : TI} (h : PI X tg iter t) (k : ∀ σ H R, t' σ H R → t σ H R) : PI X tg iter t' := ⟨fun pins s σ H R I w => h.run pins s σ H R I (k σ H R w)⟩
theorem PI.or {t t' : TI} (h : PI X tg iter t) (h' : PI X tg iter t') : PI X tg iter (fun σ H R => t σ H R ∨ t' σ H R) :=
  ⟨fun pins s σ H R I w => w.elim (h.run pins s σ H R I) (h'.run pins s σ H R I)⟩
/-- a tuple, a list, a text -/
def srcOf (M : Mem) : Dv → Option Src
  | .tup xs => some ⟨xs.length, fun i _ => some xs[i]?⟩
  | .rol xs => some ⟨xs.length, fun i _ => some xs[i]?⟩
  | .loc n => match M[n]? with
    | some (.lst xs) => some ⟨xs.length, fun i M => match M[n]? with
      | some (.lst xs) => some xs[i]?
      | _ => none⟩
    | _ => none
  | .str x => some ⟨x.cps.size, fun i _ => some (x.cps[i]?.map fun c => .str ⟨#[c]⟩)⟩
  | _ => none
def fSrc (f : FE) : FI := fun env M => bnd (f env M) fun d M1 => match srcOf M1 d with
  | some s => some (s, M1)
  | none => none
theorem feeds_tup {K : Frg} {ρ0 : List Addr} {H0 : Hp} {a : Addr} {xs : List Dv} {vs : List V} (hs : TupD K H0 a vs) (hd : DVs K ρ0 H0 xs vs) : Feeds K ct ρ0 H0 (Itt K a) (fun i _ => some xs[i]?) := by
  intro i ρ M H x r
  dsimp only
  cases q : xs[i]? with
  | none => exact ⟨vs, (hs.mono x).sq, by rw [← hd.length]; exact List.getElem?_eq_none_iff.mp q⟩
  | some d =>
    obtain ⟨v, h1, h2⟩ := hd.get q
    refine ⟨⟨vs, v, (hs.mono x).sq, h1⟩, fun y H' hy => ?_⟩
    obtain ⟨e, hy⟩ := hy
    subst e
    have := hy vs (hs.mono x).sq
    rw [h1] at this; cases this
    exact ⟨.refl, r, h2.mono x⟩
theorem feeds_rol {K : Frg} {ρ0 : List Addr} {H0 : Hp} {a : Addr} {xs : List Dv} {vs : List V} (hs : SqF K H0 a vs) (hd : DVs K ρ0 H0 xs vs) : Feeds K ct ρ0 H0 (Itl K a) (fun i _ => some xs[i]?) := by
  intro i ρ M H x r
  dsimp only
  cases q : xs[i]? with
  | none => exact ⟨vs, (hs.mono x).sq, by rw [← hd.length]; exact List.getElem?_eq_none_iff.mp q⟩
  | some d =>
    obtain ⟨v, h1, h2⟩ := hd.get q
    refine ⟨⟨vs, v, (hs.mono x).sq, h1⟩, fun y H' hy => ?_⟩
    obtain ⟨e, hy⟩ := hy
    subst e
    have := hy vs (hs.mono x).sq
    rw [h1] at this; cases this
    exact ⟨.refl, r, h2.mono x⟩
theorem feeds_lst {K : Frg} {ρ0 : List Addr} {H0 : Hp} {a : Addr} {n : Nat} (hn : ρ0[n]? = some a) : Feeds K ct ρ0 H0 (Itl K a) (fun i M => match M[n]? with
      | some (.lst xs) => some xs[i]?
      | _ => none) := by
  intro i ρ M H x r
  dsimp only
  split
  · rename_i d hd
    split at hd
    · rename_i xs hm
      obtain ⟨b, vs, eb, b1, b2, b3⟩ := r.lst hm (.loc (x.pre n a hn))
      cases eb
      have q : xs[i]? = some d := by simpa using hd
      obtain ⟨v, h1, h2⟩ := b3.get q
      refine ⟨⟨vs, v, SqL.of b2, h1⟩, fun y H' hy => ?_⟩
      obtain ⟨e, hy⟩ := hy
      subst e
      have := hy vs (SqL.of b2)
      rw [h1] at this; cases this
      exact ⟨.refl, r, h2⟩
    · cases hd
  · rename_i hd
    split at hd
    · rename_i xs hm
      obtain ⟨b, vs, eb, b1, b2, b3⟩ := r.lst hm (.loc (x.pre n a hn))
      cases eb
      have q : xs[i]? = none := by simpa using hd
      exact ⟨vs, SqL.of b2, by rw [← b3.length]; exact List.getElem?_eq_none_iff.mp q⟩
    · cases hd
  · trivial
theorem feeds_str {K : Frg} {ρ0 : List Addr} {H0 : Hp} {x : Str} : Feeds K ct ρ0 H0 (Its x) (fun i _ => some (x.cps[i]?.map fun c => .str ⟨#[c]⟩)) := by
  intro i ρ M H _ r
  dsimp only
  cases q : x.cps[i]? with
  | none => exact Array.getElem?_eq_none_iff.mp q
  | some c =>
    refine ⟨(Array.getElem?_eq_some_iff.mp q).1, fun y H' hy => ?_⟩
    obtain ⟨e, c', hc', ey⟩ := hy
    subst e; subst ey
    rw [q] at hc'; cases hc'
    exact ⟨.refl, r, .str _⟩
theorem si_seq (h : SE X ct e fe) : SI X ct tg e (fSrc fe) := by
  refine PI.imp (PI.or (PI.or (pi_list h) (pi_tup h)) (pi_str h)) fun σ H R ⟨ρ, M, env, r, he, src, M', hf, hq⟩ => ?_
  obtain ⟨d, M1, h1, hf⟩ := bnd_some hf
  split at hf
  · rename_i s0 hs
    cases hf
    unfold srcOf at hs
    split at hs
    · cases hs
      exact .inl (.inr ⟨ρ, M, env, r, he, _, _, h1, fun ρ1 H1 e1 r1 v dv => by
        cases dv with
        | tup hs hd => exact ⟨_, rfl, ⟨_, hs.sq⟩, hq ρ1 H1 e1 r1 _ (feeds_tup hs hd)⟩⟩)
    · cases hs
      exact .inl (.inl ⟨ρ, M, env, r, he, _, _, h1, fun ρ1 H1 e1 r1 v dv => by
        cases dv with
        | rol hs hd => exact ⟨_, rfl, ⟨_, hs.sq⟩, hq ρ1 H1 e1 r1 _ (feeds_rol hs hd)⟩⟩)
    · split at hs
      · rename_i hm
        cases hs
        exact .inl (.inl ⟨ρ, M, env, r, he, _, _, h1, fun ρ1 H1 e1 r1 v dv => by
          obtain ⟨a, vs, rfl, a1, a2, a3⟩ := r1.lst hm dv
          exact ⟨_, rfl, ⟨_, SqL.of a2⟩, hq ρ1 H1 e1 r1 _ (feeds_lst a1)⟩⟩)
      · cases hs
    · cases hs
      exact .inr ⟨ρ, M, env, r, he, _, _, h1, fun ρ1 H1 e1 r1 v dv => by
        cases dv
        exact ⟨_, rfl, hq ρ1 H1 e1 r1 _ feeds_str⟩⟩
    · cases hs
  · cases hf
/-- range(n), range(a, b) -/
def srcR (lo : Int) (n : Nat) : Src := ⟨n, fun i _ => if i < n then some (some (.int (lo + i))) else some none⟩
theorem feeds_rng {K : Frg} {ρ0 : List Addr} {H0 : Hp} {lo : Int} {n : Nat} : Feeds K ct ρ0 H0 (Itr lo n) (srcR lo n).stp := by
  intro i ρ M H _ r
  show (match (if i < n then some (some (Dv.int (lo + i))) else some none) with | some (some d) => _ | some none => _ | none => _)
  by_cases hi : i < n
  · rw [if_pos hi]
    refine ⟨hi, fun y H' hy => ?_⟩
    obtain ⟨e, ey⟩ := hy
    subst e; subst ey
    exact ⟨.refl, r, .int _⟩
  · rw [if_neg hi]
    exact Nat.le_of_not_lt hi
def fRng1 (f : FE) : FI := fun env M => bnd (f env M) fun d M1 => match d with
  | .int j => if -(2 ^ 62) ≤ j ∧ j < 2 ^ 62 then some (srcR 0 j.toNat, M1) else none
  | _ => none
def fRng2 (f g : FE) : FI := fun env M => bnd (f env M) fun d M1 => bnd (g env M1) fun d2 M2 => match d, d2 with
  | .int i, .int j => if -(2 ^ 62) ≤ i ∧ i < 2 ^ 62 ∧ -(2 ^ 62) ≤ j ∧ j < 2 ^ 62 then some (srcR i (j - i).toNat, M2) else none
  | _, _ => none
theorem si_range1 (hg : Gl X "range") (hm : X.mg "range" = none) (ha : SE X ct a fa) (hs : starEach [a] X.env = [(false, eval a X.env)] := by rfl) : SI X ct tg (.Call (.Name "range" p) [a] [] pos) (fRng1 fa) :=
  PI.imp (pi_range1 hg hm (sa_cons ha sa_nil hs) hs) fun σ H R ⟨ρ, M, env, r, he, src, M', hf, hq⟩ => by
    obtain ⟨d, M1, h1, hf⟩ := bnd_some hf
    refine ⟨ρ, M, env, r, he, [d], M1, by show bnd (fa env M) _ = _; rw [h1]; rfl, fun ρ1 H1 e1 r1 vs dvs => ?_⟩
    split at hf
    · split at hf
      · rename_i hb
        cases hf
        obtain ⟨v, rfl, d1⟩ := dvs_one dvs
        cases d1
        exact ⟨_, rfl, hb.1, hb.2, hq ρ1 H1 e1 r1 _ feeds_rng⟩
      · cases hf
    · cases hf
theorem si_range2 (hg : Gl X "range") (hm : X.mg "range" = none) (ha : SE X ct a fa) (hb : SE X ct b fb) (hs : starEach [a, b] X.env = [(false, eval a X.env), (false, eval b X.env)] := by rfl) (hs2 : starEach [b] X.env = [(false, eval b X.env)] := by rfl) : SI X ct tg (.Call (.Name "range" p) [a, b] [] pos) (fRng2 fa fb) :=
  PI.imp (pi_range2 hg hm (sa_cons ha (sa_cons hb sa_nil hs2) (by rw [hs, hs2])) hs hs2) fun σ H R ⟨ρ, M, env, r, he, src, M', hf, hq⟩ => by
    obtain ⟨d, M1, h1, hf⟩ := bnd_some hf
    obtain ⟨d2, M2, h2, hf⟩ := bnd_some hf
    refine ⟨ρ, M, env, r, he, [d, d2], M2, by show bnd (fa env M) _ = _; rw [h1]; show bnd (bnd (fb env M1) _) _ = _; rw [h2]; rfl, fun ρ1 H1 e1 r1 vs dvs => ?_⟩
    split at hf
    · split at hf
      · rename_i hb
        cases hf
        obtain ⟨v, u, rfl, d1, d2⟩ := dvs_two dvs
        cases d1; cases d2
        exact ⟨_, _, rfl, hb, hq ρ1 H1 e1 r1 _ feeds_rng⟩
      · cases hf
    · cases hf

/-! ## for -/
variable {g : FG} {f : FS} {body : List Stmt} {ws : List Nat}
def loopF (it : Stp) (g : FG) (f : FS) : Nat → Nat → FS
  | 0, i => fun env M => match it i M with
    | some none => some (.nx env, M)
    | _ => none
  | k + 1, i => fun env M => match it i M with
    | some none => some (.nx env, M)
    | some (some d) => bnd (g d env M) fun e1 M1 => bnd (f e1 M1) fun fl M2 => match fl with
      | .nx e2 => loopF it g f k (i + 1) e2 M2
      | .ct e2 => loopF it g f k (i + 1) e2 M2
      | .bk e2 => some (.nx e2, M2)
      | .rt d => some (.rt d, M2)
    | none => none
def fFor (fi : FI) (g : FG) (f : FS) : FS := fun env M => bnd (fi env M) fun src M1 => loopF src.stp g f src.many 0 env M1
theorem ss_for (hp : PassesOwn (model X.prog X.w) X.A X.env X.xe) (hc : X.calm = true) (hi : SI X ct tg iter fi) (hg : SG X ct ws tg g) (hb : SSs X ct body f)
    (hs : ∀ x, foldedSetIterable iter X.env x = pure x := by intro _; rfl) : SS X ct (.For tg iter body [] pos) (fFor fi g f) := by
  refine PS.imp (ps_for hp hc hi hg hb hs) fun D σ H ⟨ρ, M, env, r, he, fl, M', hf, hq⟩ => ?_
  obtain ⟨src, M1, h1, hf⟩ := bnd_some hf
  refine ⟨ρ, M, env, r, he, src, M1, h1, fun ρ0 H0 e0 r0 J hJ => ?_⟩
  refine ⟨fun i m σ H => ∃ ρ M env, Ext X.K ρ0 H0 ρ H ∧ Rl X.K ct ρ M H ∧ EnOk X.K ρ H env σ ∧ ∃ fl M', loopF src.stp g f m i env M = some (fl, M') ∧ Aft X.K ct ρ H M' fun ρ' H' => endF X.K D fl ρ' H',
    ⟨src.many, ρ0, M1, env, .refl, r0, he.mono e0, fl, M', hf, hq.later e0⟩, ?_⟩
  rintro i m σ H ⟨ρ, M, env, x0, r, he, fl, M', hf, hq⟩
  have hj := hJ i ρ M H x0 r
  cases q : src.stp i M with
  | none =>
    cases m with
    | zero => (simp only [loopF, q] at hf; try cases hf)
    | succ m => (simp only [loopF, q] at hf; try cases hf)
  | some o =>
    rw [q] at hj
    cases o with
    | none =>
      have e : some (Fl.nx env, M) = some (fl, M') := by
        cases m with
        | zero => simpa only [loopF, q] using hf
        | succ m => simpa only [loopF, q] using hf
      cases e
      exact .inl ⟨hj, hq ρ H .refl r σ he⟩
    | some d =>
      cases m with
      | zero => (simp only [loopF, q] at hf; try cases hf)
      | succ m =>
        simp only [loopF, q] at hf
        obtain ⟨e1, N1, g1, hf⟩ := bnd_some hf
        obtain ⟨f1, N2, g2, hf⟩ := bnd_some hf
        refine .inr ⟨hj.1, fun σ' H' => ∃ ρ M env, Ext X.K ρ0 H0 ρ H' ∧ Rl X.K ct ρ M H' ∧ EnOk X.K ρ H' env σ' ∧ ∃ fl M', loopF src.stp g f m (i + 1) env M = some (fl, M') ∧ Aft X.K ct ρ H' M' fun ρ' H' => endF X.K D fl ρ' H',
          fun σ' H' n => ⟨m, Nat.lt_succ_self m, n⟩, fun x H' hy => ?_⟩
        obtain ⟨y1, y2, y3⟩ := hj.2 x H' hy
        refine ⟨ρ, M, env, d, y2, he.mono y1, y3, e1, N1, g1, fun ρ1 H1 x1 r1 σ1 en1 _ => ⟨ρ1, N1, e1, r1, en1, f1, N2, g2, fun ρ2 H2 x2 r2 => ?_⟩⟩
        have xx := (y1.trans x1).trans x2
        cases f1 with
        | nx e3 => exact fun σ2 en2 => ⟨ρ2, N2, e3, x0.trans xx, r2, en2, fl, M', hf, hq.later xx⟩
        | ct e3 => exact fun σ2 en2 => ⟨ρ2, N2, e3, x0.trans xx, r2, en2, fl, M', hf, hq.later xx⟩
        | bk e3 => cases hf; exact fun σ2 en2 => hq ρ2 H2 xx r2 σ2 en2
        | rt d => cases hf; exact hq ρ2 H2 xx r2
/-! ## comprehensions, one clause -/
def wipeE (env : En) : List Nat → En
  | [] => env
  | v :: vs => (wipeE env vs).set v none
theorem EnOk.forget {K : Frg} {ρ : List Addr} {H : Hp} {env : En} {σ : L2.St} (h : EnOk K ρ H env σ) (i : Nat) : EnOk K ρ H (env.set i none) (σ.set i none) := by
  refine ⟨by simp [h.1], fun j x q => ?_⟩
  by_cases hij : i = j
  · subst hij
    rw [List.getElem?_set] at q
    split at q
    · split at q
      · cases q
      · cases q
    · exact absurd rfl (by assumption)
  · rw [List.getElem?_set_ne hij] at q
    obtain ⟨u, h1, h2⟩ := h.2 j x q
    exact ⟨u, by rw [List.getElem?_set_ne hij]; exact h1, h2⟩
theorem EnOk.wipe {K : Frg} {ρ : List Addr} {H : Hp} {env : En} {σ : L2.St} (h : EnOk K ρ H env σ) : ∀ vs : List Nat, EnOk K ρ H (wipeE env vs) (L2.wipe σ vs)
  | [] => h
  | v :: vs => (EnOk.wipe h vs).forget v
theorem getElem?_wipe (σ : L2.St) (i : Nat) : ∀ vs : List Nat, (L2.wipe σ vs)[i]? = if i ∈ vs then (if i < σ.length then some none else none) else σ[i]?
  | [] => by simp [L2.wipe]
  | v :: vs => by
    unfold L2.wipe
    rw [List.getElem?_set, getElem?_wipe σ i vs, L2.wipe_length]
    by_cases hv : v = i
    · subst hv; simp
    · simp [hv, Ne.symm hv]
theorem wipe_eq {vs : List Nat} {σ σ' : L2.St} (h : OutEq vs (L2.wipe σ vs) σ') : L2.wipe σ' vs = L2.wipe σ vs := by
  apply List.ext_getElem?
  intro i
  have hl : σ'.length = σ.length := by rw [h.1, L2.wipe_length]
  rw [getElem?_wipe, getElem?_wipe, hl]
  by_cases hi : i ∈ vs
  · simp [hi]
  · rw [if_neg hi, if_neg hi, h.2 i hi, getElem?_wipe, if_neg hi]
/-- the turns: the new list stands at cell n -/
def compF (it : Stp) (g : FG) (ft : FT) (fe : FE) (e0 : En) (n : Nat) : Nat → Nat → Mem → Option Mem
  | 0, i, M => match it i M with
    | some none => some M
    | _ => none
  | k + 1, i, M => match it i M with
    | some none => some M
    | some (some d) => match g d e0 M with
      | some (e1, M1) => match ft e1 M1 with
        | some (true, M2) => match fe e1 M2 with
          | some (y, M3) => match M3[n]? with
            | some (.lst acc) => if acc.length < sizeLine then compF it g ft fe e0 n k (i + 1) (M3.set n (.lst (acc ++ [y]))) else none
            | _ => none
          | none => none
        | some (false, M2) => compF it g ft fe e0 n k (i + 1) M2
        | none => none
      | none => none
    | none => none
def fComp (fi : FI) (vs : List Nat) (g : FG) (ft : FT) (fe : FE) : FE := fun env M => bnd (fi env M) fun src M1 =>
  match compF src.stp g ft fe (wipeE env vs) M1.length src.many 0 (M1 ++ [.lst []]) with
  | some M2 => some (.loc M1.length, M2)
  | none => none
def fYes : FT := fun _ M => some (true, M)
abbrev STs (X : Cx) (ct : Ct) (ifs : List Expr) (f : FT) : Prop := PTs X ifs (tT X.K ct f)
theorem PTs.imp {ifs : List Expr} {t t' : TT} (h : PTs X ifs t) (k : ∀ σ H Q, t' σ H Q → t σ H Q) : PTs X ifs t' := ⟨fun pins s σ H Q I w => h.run pins s σ H Q I (k σ H Q w)⟩
theorem sts_nil : STs X ct [] fYes := PTs.imp pts_nil fun σ H Q ⟨ρ, M, env, r, he, b, M', hf, hq⟩ => by
  cases hf
  exact hq ρ H .refl r
theorem sts_one {c : Expr} {ft : FT} (h : ST X ct c ft) : STs X ct [c] ft := pts_one h
/-- a comprehension's block -/
abbrev Cx.cb (X : Cx) (scope : Scope) (s : Shared) (H : Hp) (C : Addr) (cl : List (Str × Addr)) (fp : List Addr) : Cx := X.blk s H scope (compEnvC scope cl C X.env) fp
theorem lc_imp {vs : List Nat} {ft : FT} {σ : L2.St} {H : Hp} {Q : VK} (w : tE X.K ct (fComp fi vs g ft fe) σ H Q) : tLc (tI X.K ct fi) (tG X.K ct vs g) (tT X.K ct ft) (tE X.K ct fe) vs σ H Q := by
  obtain ⟨ρ, M, env, r, he, d, M', hf, hq⟩ := w
  obtain ⟨src, M1, h1, hf⟩ := bnd_some hf
  split at hf
  · rename_i M2 hc
    cases hf
    refine ⟨ρ, M, env, r, he, src, M1, h1, fun ρ0 H0 e0 r0 J hJ D hD => ?_⟩
    obtain ⟨rN, xN, aN⟩ := r0.newL hD (.nil : DVs X.K ρ0 H0 [] [])
    refine ⟨fun i m H => ∃ ρ M, Ext X.K ρ0 H0 ρ H ∧ Rl X.K ct ρ M H ∧ ρ[M1.length]? = some D ∧ compF src.stp g ft fe (wipeE env vs) M1.length m i M = some M' ∧ Aft X.K ct ρ H M' fun ρ' H' => ∀ v, DV X.K ρ' H' (.loc M1.length) v → Q v H',
      ⟨src.many, ρ0 ++ [D], _, xN, rN, aN, hc, (hq.later e0).later xN⟩, ?_⟩
    rintro i m H ⟨ρ, M, x0, r, aD, hf, hq⟩
    have hj := hJ i ρ M H x0 r
    have he' := ((he.mono e0).mono x0).wipe vs
    cases q : src.stp i M with
    | none =>
      cases m with
      | zero => rw [compF, q] at hf; cases hf
      | succ m => rw [compF, q] at hf; cases hf
    | some o =>
      rw [q] at hj
      cases o with
      | none =>
        have e : some M = some M' := by
          cases m with
          | zero => rw [compF, q] at hf; exact hf
          | succ m => rw [compF, q] at hf; exact hf
        cases e
        exact .inl ⟨hj, hq ρ H .refl r _ (.loc aD)⟩
      | some d =>
        cases m with
        | zero => rw [compF, q] at hf; cases hf
        | succ m =>
          rw [compF, q] at hf
          dsimp only at hf
          refine .inr ⟨hj.1, fun H' => ∃ ρ M, Ext X.K ρ0 H0 ρ H' ∧ Rl X.K ct ρ M H' ∧ ρ[M1.length]? = some D ∧ compF src.stp g ft fe (wipeE env vs) M1.length m (i + 1) M = some M' ∧ Aft X.K ct ρ H' M' fun ρ' H' => ∀ v, DV X.K ρ' H' (.loc M1.length) v → Q v H',
            fun H' n => ⟨m, Nat.lt_succ_self m, n⟩, fun x H' hy => ?_⟩
          obtain ⟨y1, y2, y3⟩ := hj.2 x H' hy
          split at hf
          · rename_i e1 N1 g1
            refine ⟨ρ, M, wipeE env vs, d, y2, he'.mono y1, y3, e1, N1, g1, fun ρ1 H1 x1 r1 σ1 en1 oe => ⟨wipe_eq oe, ?_⟩⟩
            split at hf
            · rename_i N2 g2
              refine ⟨ρ1, N1, e1, r1, en1, true, N2, g2, fun ρ2 H2 x2 r2 => ?_⟩
              dsimp only
              rw [if_pos rfl]
              split at hf
              · rename_i y N3 g3
                refine ⟨ρ2, N2, e1, r2, en1.mono x2, y, N3, g3, fun ρ3 H3 x3 r3 v dv => ?_⟩
                split at hf
                · rename_i acc hm
                  split at hf
                  · rename_i hl
                    have xx := ((y1.trans x1).trans x2).trans x3
                    have aD3 := xx.pre _ _ aD
                    obtain ⟨b, ws, eb, b1, b2, b3⟩ := r3.lst hm (.loc aD3)
                    cases eb
                    obtain ⟨r4, x4⟩ := r3.putL aD3 (b3.append (.cons dv .nil))
                    exact ⟨ws, b2, by rw [← b3.length]; exact hl, ρ3, _, (x0.trans xx).trans x4, r4, aD3, hf, hq.later (xx.trans x4)⟩
                  · cases hf
                · cases hf
              · cases hf
            · rename_i N2 g2
              refine ⟨ρ1, N1, e1, r1, en1, false, N2, g2, fun ρ2 H2 x2 r2 => ?_⟩
              dsimp only
              rw [if_neg (by decide)]
              have xx := (y1.trans x1).trans x2
              exact ⟨ρ2, N2, x0.trans xx, r2, xx.pre _ _ aD, hf, hq.later xx⟩
            · cases hf
          · cases hf
  · cases hf
theorem se_comp {elt : Expr} {ifs : List Expr} {scope : Scope} {own : List (Str × Nat)} {ft : FT} (hc : X.calm = true) (hN : X.N.Nodup) (hi : SI X ct tg iter fi) (ok : BlkOk X.N X.env.scope scope own)
    (hg : ∀ s H C cl fp, SG (Cx.cb X scope s H C cl fp) ct (own.map (·.2)) tg g) (ht : ∀ s H C cl fp, STs (Cx.cb X scope s H C cl fp) ct ifs ft)
    (he : ∀ s H C cl fp, SE (Cx.cb X scope s H C cl fp) ct elt fe) (hs : ∀ x, foldedSetIterable iter X.env x = pure x := by intro _; rfl) : SE X ct (.ListComp elt [⟨tg, iter, ifs, 0⟩] scope pos) (fComp fi (own.map (·.2)) g ft fe) :=
  PE.imp (pe_lc hc hN hi ok hg ht he hs) fun _ _ _ w => lc_imp w
/-- name = [..] -/
theorem ss_setLc {i : Nat} {y : Str} {py : Pos} {elt : Expr} {ifs : List Expr} {scope : Scope} {own : List (Str × Nat)} {ft : FT} {spos : Pos} (hc : X.calm = true) (hN : X.N.Nodup) (hy : X.N[i]? = some y) (hyl : X.env.scope.names.lookup y = some .local)
    (hsw : swapsWith (.ListComp elt [⟨tg, iter, ifs, 0⟩] scope pos) (some (.Name y py)) spos.line X.env = pure true) (hi : SI X ct tg iter fi) (ok : BlkOk X.N X.env.scope scope own)
    (hg : ∀ s H C cl fp, SG (Cx.cb X scope s H C cl fp) ct (own.map (·.2)) tg g) (ht : ∀ s H C cl fp, STs (Cx.cb X scope s H C cl fp) ct ifs ft)
    (he : ∀ s H C cl fp, SE (Cx.cb X scope s H C cl fp) ct elt fe) (hs : ∀ x, foldedSetIterable iter X.env x = pure x := by intro _; rfl) :
    SS X ct (.Assign [.Name y py] (.ListComp elt [⟨tg, iter, ifs, 0⟩] scope pos) spos) (fSet i (fComp fi (own.map (·.2)) g ft fe)) :=
  PS.imp (ps_setLc hc hN hy hyl hsw hi ok hg ht he hs) fun D σ H ⟨ρ, M, env, r, hen, fl, M', hf, hq⟩ => by
    obtain ⟨d, M1, h1, hf⟩ := bnd_some hf
    cases hf
    exact lc_imp ⟨ρ, M, env, r, hen, d, _, h1, fun ρ1 H1 e1 r1 v dv => hq ρ1 H1 e1 r1 _ ((hen.mono e1).set i dv)⟩
end
end Zl

/-! text Z9 -/
namespace Zl
open PySem L2 PySem.Spec PyProof.Rows

/-! ## Defs -/
/-- a def of which no error leaves, called where no repr runs -/
structure FnG (P : Program) (w : World) (K : Frg) (mg : Str → Option Value) (base : Heap) (k : Nat) (f : Addr) (fd : FuncData) (ps : List Str) (sp : Sp) : Prop where
  len : ∀ vs H Q E, sp vs H Q E → vs.length = ps.length
  run : ∀ (A : Around) (outer : List Env) (s : Shared) (H : Hp) (args : Args) (us : List Value) (vs : List V) (Q : VK) (E : XK), Room k A → A.guards = some [] → Env0 P w K mg base A outer s H → BindsTo s fd args (ps.zip us) → Vals vs us → sp vs H Q E →
    codeAny (model P w) A (.call (.ref f) args) (CR CX0 outer P w H s Q E) s
theorem FnG.mono {P : Program} {w : World} {K : Frg} {mg : Str → Option Value} {base : Heap} {j k : Nat} {f : Addr} {fd : FuncData} {ps : List Str} {sp : Sp} (F : FnG P w K mg base j f fd ps sp) (h : j ≤ k) : FnG P w K mg base k f fd ps sp :=
  ⟨F.len, fun A outer s H args us vs Q E hr => F.run A outer s H args us vs Q E (hr.mono h)⟩
abbrev FF := List Dv → Mem → Rz
def spF (K : Frg) (ct : Ct) (F : FF) (n : Nat) : Sp := fun vs H Q _ => vs.length = n ∧ ∃ ρ M ds, Rl K ct ρ M H ∧ DVs K ρ H ds vs ∧ ∃ d M', F ds M = some (d, M') ∧ Aft K ct ρ H M' fun ρ' H' => ∀ v, DV K ρ' H' d v → Q v H'
/-- the def's value by its body; n names in all -/
def callF (n : Nat) (f : FS) : FF := fun ds M => match f (ds.map some ++ List.replicate (n - ds.length) none) M with
  | some (.rt d, M') => some (d, M')
  | some (.nx _, M') => some (.non, M')
  | _ => none
theorem enOk_start {K : Frg} {ρ : List Addr} {H : Hp} {N : List Str} {ds : List Dv} {vs : List V} (h : DVs K ρ H ds vs) : EnOk K ρ H (ds.map some ++ List.replicate (N.length - ds.length) none) (L2.start N vs) := by
  have hl := h.length
  refine ⟨by simp [L2.start, hl], fun i d q => ?_⟩
  by_cases hi : i < ds.length
  · rw [List.getElem?_append_left (by simpa using hi), List.getElem?_map] at q
    have e : ds[i]? = some d := by
      cases z : ds[i]? with
      | none => rw [z] at q; simp at q
      | some y => rw [z] at q; simp at q; rw [q]
    obtain ⟨v, h1, h2⟩ := h.get e
    refine ⟨v, ?_, h2⟩
    unfold L2.start
    rw [List.getElem?_append_left (by rw [List.length_map, ← hl]; exact hi), List.getElem?_map, h1]; rfl
  · rw [List.getElem?_append_right (by simpa using hi), List.getElem?_replicate] at q
    split at q <;> cases q
section
variable {P : Program} {w : World} {K : Frg} {mg : Str → Option Value} {base : Heap} {ct : Ct}
/-- THE RULE: a def by its body -/
theorem fn_sim {x qual : Str} {st : Stmt} {f : Addr} {fd : FuncData} {N ps : List Str} {k : Nat} {b : FS} (F : Fun K x qual st f fd) (S : FnScope N ps (defScope st))
    (hbody : ∀ (cdv : Value) (A : Around) (outer : List Env) (s : Shared) (H : Hp) (E : XK), Room k (A.deeper (envOfC qual (defScope st) s.heap.objs.size f cdv)) → (A.deeper (envOfC qual (defScope st) s.heap.objs.size f cdv)).guards = some [] →
      SSs (cxOf CX0 P w K mg base N qual (defScope st) f cdv A outer s H E).nox ct (defBody st) b) : FnG P w K mg base (k + 1) f fd ps (spF K ct (callF N.length b) ps.length) := by
  obtain ⟨oc, od, kV, doc, pm, an, cdv, ct', osl, rfl, lk, hcd⟩ := F.ex
  refine ⟨fun vs H Q E h => h.1, fun A outer s H args us vs Q E hr hgd e0 hb r hsp => ?_⟩
  obtain ⟨hl, ρ, M, ds, rl, dv, d, M', hf, hq⟩ := hsp
  have KX : K.In s.heap := e0.mod.kin.keeps fun b o e => (e0.bs b o e).1
  have lim : s.heap.NoLimit := e0.mod.nolimit.keeps fun b o e => (e0.bs b o e).1
  have hkind : ∀ y ∈ ps.zip us, (defScope st).names.lookup y.1 = some .local ∨ ((defScope st).names.lookup y.1 = some .cell ∧ ((cellsFrom (s.heap.objs.size + 1) (defScope st).names []).lookup y.1).isSome = true) := by
    rintro ⟨n, v⟩ hy
    rcases S.par n (List.of_mem_zip hy).1 with z | z
    · exact .inl z
    · exact .inr ⟨z, PySem.W.cellsFrom_some _ _ _ (.inl z)⟩
  refine codeAny_call_function hr.depth (KX _ _ lk) rfl S.co S.gen rfl (PySem.W.codeRec_of KX hcd) (hb _ _ _ _ ?_)
  refine wpAny_newFunctionEnv_cells S.kind hkind fun env hen s1 x1 => ?_
  subst hen
  refine ⟨lim.keeps x1.toInCall.keep, codeAny_func ?_⟩
  have B := hbody cdv A outer s H E (hr.deeper _) hgd
  have I : Inv (cxOf CX0 P w K mg base N qual (defScope st) f cdv A outer s H E) [] (L2.start N vs) H s1 := inv_start S hr.hd e0 hl r x1
  unfold callF at hf
  have hw : ∃ fl, b (ds.map some ++ List.replicate (N.length - ds.length) none) M = some (fl, M') ∧ ((fl = .rt d) ∨ ∃ e, fl = .nx e ∧ d = .non) := by
    split at hf
    · rename_i z
      cases hf
      exact ⟨_, z, .inl rfl⟩
    · rename_i z
      cases hf
      exact ⟨_, z, .inr ⟨_, rfl, rfl⟩⟩
    · cases hf
  obtain ⟨fl, hb1, hfl⟩ := hw
  have Z := (PSs.nox B).run [] s1 (L2.start N vs) H { nx := fun _ H' => Q .non H', rt := Q } I ⟨ρ, M, _, rl, enOk_start dv, fl, M', hb1, fun ρ' H' e' r' => by
    rcases hfl with rfl | ⟨e, rfl, rfl⟩
    · exact fun v hv => hq ρ' H' e' r' v hv
    · exact fun σ _ => hq ρ' H' e' r' _ .non⟩
  refine wpAny_mono Z (fun fl s' hs => ?_) fun e s' hs => hs
  have fin : ∀ {σ' : L2.St} {H' : Hp} {v : V} {u : Value}, Inv (cxOf CX0 P w K mg base N qual (defScope st) f cdv A outer s H E) [] σ' H' s' → RelV v u → Q v H' → CE outer P w H s Q u s' :=
    fun {σ' H' v u} J rv q => ⟨v, H', J.os, J.bare, J.base, J.hok, rv, q⟩
  cases fl with
  | ret u =>
    obtain ⟨v, σ', H', J, rv, q⟩ := hs
    exact fin J rv q
  | next =>
    obtain ⟨σ', H', J, q⟩ := hs
    exact fin (v := V.non) (u := Value.none) J rfl q
  | brk => exact False.elim hs.choose_spec.choose_spec.2
  | cont => exact False.elim hs.choose_spec.choose_spec.2
end
section
variable {X : Cx} {ct : Ct} {k : Nat} {f C : Addr} {fd : FuncData} {ps : List Str} {F : FF} {x m : Str} {p pos apos : Pos} {e o v' : Expr} {es : List Expr} {fr : FA} {fo fv : FE} {c : Nat}
abbrev SF (X : Cx) (ct : Ct) (k : Nat) (f : Addr) (fd : FuncData) (ps : List Str) (F : FF) : Prop := FnG X.prog X.w X.K X.mg X.base k f fd ps (spF X.K ct F ps.length)
/-- the callee runs -/
theorem run_fnG {pins : List (Addr × Obj)} {σ : L2.St} {H : Hp} {s : Shared} {Q : VK} {us us' : List Value} {kw : List (Str × Value)} {vs : List V} {sp : Sp} (G : FnG X.prog X.w X.K X.mg X.base k f fd ps sp) (hr : Room k X.A) (hgd : X.A.guards = some [])
    (I : Inv X pins σ H s) (bt : BindsTo s fd ⟨us, kw⟩ (ps.zip us')) (r : Vals vs us') (h : sp vs H Q E0) : wpAny (model X.prog X.w) X.A (call (.ref f) us kw) (EP X pins σ Q) X.xe s := by
  refine wpAny_call (codeAny_mono (G.run X.A X.stack s H ⟨us, kw⟩ us' vs Q E0 hr hgd I.env0 bt r h) fun z s' hq => ?_)
  match z, hq with
  | .ok (.ret u), hq => exact I.after hq
theorem spF_use {ρ ρ1 : List Addr} {M1 M' : Mem} {H H1 : Hp} {d : Dv} {ds : List Dv} {vs : List V} {n : Nat} {Q : VK} (hn : ds.length = n) (e1 : Ext X.K ρ H ρ1 H1) (r1 : Rl X.K ct ρ1 M1 H1) (dvs : DVs X.K ρ1 H1 ds vs) (hf : F ds M1 = some (d, M'))
    (hq : Aft X.K ct ρ H M' fun ρ' H' => ∀ v, DV X.K ρ' H' d v → Q v H') : spF X.K ct F n vs H1 Q E0 :=
  ⟨by rw [← dvs.length]; exact hn, ρ1, M1, ds, r1, dvs, d, M', hf, hq.later e1⟩
/-- f(e, ..) -/
def fCall (n : Nat) (F : FF) (fr : FA) : FE := fun env M => bnd (fr env M) fun ds M1 => if ds.length = n then F ds M1 else none
theorem se_call (G : SF X ct k f fd ps F) (hr : Room k X.A) (hgd : X.A.guards = some []) (hg : Gl X x) (hm : X.mg x = some (.ref f)) (hk : PySem.W.keepIn X.K (.ref f) = true) (hb : Binds X.K fd ps []) (ha : SA X ct (e :: es) fr)
    (hdb : (x == ("__debug__" : Str)) = false := by decide) (he : starEach (e :: es) X.env = (false, eval e X.env) :: starEach es X.env := by rfl)
    (hpl : (backTo pos (starEach es X.env)).any (·.1) = false := by rfl) : SE X ct (.Call (.Name x p) (e :: es) [] pos) (fCall ps.length F fr) := by
  refine ⟨fun pins s σ H Q I w => ?_⟩
  obtain ⟨ρ, M, env, r, hen, d, M', hf, hq⟩ := w
  obtain ⟨ds, M1, h1, hf⟩ := bnd_some hf
  split at hf
  · rename_i hn
    refine wpAny_Call_Name_kw (ld_glob I hg hm ?_ hdb)
    refine PySem.W.callWith_K (h₀ := X.base) I.ok.mod.kin hk (thn (ha.run pos pins s σ H (fun vs H1 => ∃ ρ1, Ext X.K ρ H ρ1 H1 ∧ Rl X.K ct ρ1 M1 H1 ∧ DVs X.K ρ1 H1 ds vs) I ⟨ρ, M, env, r, hen, ds, M1, h1, fun ρ1 H1 e1 r1 vs dvs => ⟨ρ1, e1, r1, dvs⟩⟩) fun us s1 z => ?_) he hpl
    obtain ⟨vs, H1, I1, rv, ρ1, e1, r1, dvs⟩ := z
    refine ⟨I1.kIn, run_fnG G hr hgd I1 (hb s1 us I1.kIn (by rw [List.append_nil, ← rv.length, ← dvs.length]; exact hn)) (by rw [List.append_nil]; exact rv) (spF_use hn e1 r1 dvs hf hq)⟩
  · cases hf
theorem se_call0 (G : SF X ct k f fd ps F) (hr : Room k X.A) (hgd : X.A.guards = some []) (hg : Gl X x) (hm : X.mg x = some (.ref f)) (hk : PySem.W.keepIn X.K (.ref f) = true) (hb : Binds X.K fd ps [])
    (hdb : (x == ("__debug__" : Str)) = false := by decide) : SE X ct (.Call (.Name x p) [] [] pos) (fCall ps.length F fNil) := by
  refine ⟨fun pins s σ H Q I w => ?_⟩
  obtain ⟨ρ, M, env, r, hen, d, M', hf, hq⟩ := w
  obtain ⟨ds, M1, h1, hf⟩ := bnd_some hf
  cases h1
  split at hf
  · rename_i hn
    refine wpAny_Call_Name_kw (ld_glob I hg hm ?_ hdb)
    exact PySem.W.callWith_K0 I.kIn hk (run_fnG (us := []) (us' := []) (vs := []) G hr hgd I (hb s [] I.kIn (by simpa using hn)) .nil (spF_use hn .refl r .nil hf hq))
  · cases hf
/-! ### keywords -/
abbrev SK (X : Cx) (ct : Ct) (kws : List Keyword) (f : FA) : Prop := PK X kws (tA X.K ct f)
theorem PK.imp {kws : List Keyword} {t t' : TA} (h : PK X kws t) (q : ∀ σ H Q, t' σ H Q → t σ H Q) : PK X kws t' := ⟨fun pos pins s σ H Q I w => h.run pos pins s σ H Q I (q σ H Q w)⟩
theorem sk_nil : SK X ct [] fNil := PK.imp pk_nil fun σ H Q ⟨ρ, M, env, r, he, d, M', hf, hq⟩ => by
  cases hf
  exact hq ρ H .refl r _ .nil
theorem sk_cons {kws : List Keyword} {nm : Option Str} {kpos : Pos} (h : SE X ct e fo) (q : SK X ct kws fr) : SK X ct (⟨nm, e, kpos⟩ :: kws) (fCons fo fr) :=
  PK.imp (pk_cons h q) fun σ H Q ⟨ρ, M, env, r, he, d, M', hf, hq⟩ => by
    obtain ⟨x, M1, h1, hf⟩ := bnd_some hf
    obtain ⟨ys, M2, h2, hf⟩ := bnd_some hf
    cases hf
    exact ⟨ρ, M, env, r, he, x, M1, h1, fun ρ1 H1 e1 r1 v dv => ⟨ρ1, M1, env, r1, he.mono e1, ys, _, h2, fun ρ2 H2 e2 r2 vs dvs => hq ρ2 H2 (e1.trans e2) r2 _ (.cons (dv.mono e2) dvs)⟩⟩
def pick {α : Type} (is : List Nat) (xs : List α) : List α := is.filterMap fun i => xs[i]?
theorem pick_vals {vs : List V} {us : List Value} (h : Vals vs us) : ∀ is : List Nat, Vals (pick is vs) (pick is us)
  | [] => .nil
  | i :: is => by
    unfold pick
    rw [List.filterMap_cons, List.filterMap_cons]
    cases q : vs[i]? with
    | none => rw [h.none_of q]; exact pick_vals h is
    | some v =>
      obtain ⟨u, h1, h2⟩ := h.get q
      rw [h1]; exact .cons h2 (pick_vals h is)
theorem pick_dvs {K : Frg} {ρ : List Addr} {H : Hp} {ds : List Dv} {vs : List V} (h : DVs K ρ H ds vs) : ∀ is : List Nat, DVs K ρ H (pick is ds) (pick is vs)
  | [] => .nil
  | i :: is => by
    unfold pick
    rw [List.filterMap_cons, List.filterMap_cons]
    cases q : ds[i]? with
    | none =>
      have z : vs[i]? = none := List.getElem?_eq_none_iff.mpr (by rw [← h.length]; exact List.getElem?_eq_none_iff.mp q)
      rw [z]; exact pick_dvs h is
    | some v =>
      obtain ⟨u, h1, h2⟩ := h.get q
      rw [h1]; exact .cons h2 (pick_dvs h is)
/-- how a call by keywords alone binds: parameter j gets the keyword is[j] -/
def KwB (K : Frg) (fd : FuncData) (ps ks : List Str) (is : List Nat) : Prop := ∀ (s : Shared) (ws : List Value), K.In s.heap → ws.length = ks.length → BindsTo s fd ⟨[], ks.zip ws⟩ (ps.zip (pick is ws))
def fCallK (n nk : Nat) (is : List Nat) (F : FF) (fr : FA) : FE := fun env M => bnd (fr env M) fun ds M1 => if ds.length = nk ∧ (pick is ds).length = n then F (pick is ds) M1 else none
theorem se_callK {kws : List Keyword} {ks : List Str} {is : List Nat} (G : SF X ct k f fd ps F) (hr : Room k X.A) (hgd : X.A.guards = some []) (hg : Gl X x) (hm : X.mg x = some (.ref f)) (hk : PySem.W.keepIn X.K (.ref f) = true) (hb : KwB X.K fd ps ks is) (ha : SK X ct kws fr)
    (hall : (backToKw pos (keywordEach kws X.env)).all (·.1.isSome) = true := by rfl) (hks : (backToKw pos (keywordEach kws X.env)).filterMap (·.1) = ks := by rfl) (hdb : (x == ("__debug__" : Str)) = false := by decide)
    (hpl : ((backTo pos (starEach [] X.env)).any (·.1) || (backToKw pos (keywordEach kws X.env)).any (·.1.isNone)) = false := by rfl) : SE X ct (.Call (.Name x p) [] kws pos) (fCallK ps.length ks.length is F fr) := by
  refine ⟨fun pins s σ H Q I w => ?_⟩
  obtain ⟨ρ, M, env, r, hen, d, M', hf, hq⟩ := w
  obtain ⟨ds, M1, h1, hf⟩ := bnd_some hf
  split at hf
  · rename_i hn
    refine wpAny_Call_Name_kw (ld_glob I hg hm ?_ hdb)
    refine PySem.W.callWith_KW0 (h₀ := X.base) I.ok.mod.kin hk hall ?_ hpl
    refine thn (ha.run pos pins s σ H (fun vs H1 => ∃ ρ1, Ext X.K ρ H ρ1 H1 ∧ Rl X.K ct ρ1 M1 H1 ∧ DVs X.K ρ1 H1 ds vs) I ⟨ρ, M, env, r, hen, ds, M1, h1, fun ρ1 H1 e1 r1 vs dvs => ⟨ρ1, e1, r1, dvs⟩⟩) fun us s1 z => ?_
    obtain ⟨vs, H1, I1, rv, ρ1, e1, r1, dvs⟩ := z
    rw [hks]
    exact ⟨I1.kIn, run_fnG G hr hgd I1 (hb s1 us I1.kIn (by rw [← rv.length, ← dvs.length]; exact hn.1)) (pick_vals rv is) (spF_use hn.2 e1 r1 (pick_dvs dvs is) hf hq)⟩
  · cases hf
/-! ## Instances -/
def putD (f : Str) (v : Dv) : List (Str × Dv) → List (Str × Dv)
  | [] => [(f, v)]
  | (g, x) :: r => if g = f then (g, v) :: r else (g, x) :: putD f v r
section
variable {K : Frg} {ρ : List Addr} {H : Hp}
theorem FV.nil : FV K ρ H [] [] := ⟨rfl, .nil⟩
theorem FV.length {fs : List (Str × Dv)} {vfs : List (Str × V)} (h : FV K ρ H fs vfs) : fs.length = vfs.length := by
  have := congrArg List.length h.1
  simpa using this
theorem FV.split {f : Str} {d : Dv} {fs : List (Str × Dv)} {vfs : List (Str × V)} (h : FV K ρ H ((f, d) :: fs) vfs) : ∃ v r, vfs = (f, v) :: r ∧ DV K ρ H d v ∧ FV K ρ H fs r := by
  obtain ⟨h1, h2⟩ := h
  cases vfs with
  | nil => cases h1
  | cons q r =>
    obtain ⟨g, v⟩ := q
    simp only [List.map_cons, List.cons.injEq] at h1
    obtain ⟨rfl, h1⟩ := h1
    cases h2 with
    | cons d1 dr => exact ⟨v, r, rfl, d1, h1, dr⟩
theorem FV.look : ∀ {fs : List (Str × Dv)} {vfs : List (Str × V)} {f : Str}, FV K ρ H fs vfs → (∀ d, fs.lookup f = some d → ∃ v, vfs.lookup f = some v ∧ DV K ρ H d v) ∧ (fs.lookup f = none → vfs.lookup f = none)
  | [], vfs, f, h => by
    obtain ⟨h1, _⟩ := h
    cases vfs with
    | nil => exact ⟨fun d q => (by cases q), fun _ => rfl⟩
    | cons _ _ => cases h1
  | (g, d) :: fs, vfs, f, h => by
    obtain ⟨v, r, rfl, h1, h2⟩ := h.split
    obtain ⟨i1, i2⟩ := FV.look (f := f) h2
    rw [List.lookup_cons, List.lookup_cons]
    cases hb : f == g with
    | true => exact ⟨fun d' q => ⟨v, rfl, (by cases q; exact h1)⟩, fun q => (by cases q)⟩
    | false => exact ⟨i1, i2⟩
theorem FV.put {f : Str} {d : Dv} {v : V} (hd : DV K ρ H d v) : ∀ {fs : List (Str × Dv)} {vfs : List (Str × V)}, FV K ρ H fs vfs → FV K ρ H (putD f d fs) (putF f v vfs)
  | [], vfs, h => by
    obtain ⟨h1, _⟩ := h
    cases vfs with
    | nil => exact ⟨rfl, .cons hd .nil⟩
    | cons _ _ => cases h1
  | (g, d') :: fs, vfs, h => by
    obtain ⟨u, r, rfl, h1, h2⟩ := h.split
    unfold putD putF
    by_cases hg : g = f
    · rw [if_pos hg, if_pos hg]
      exact ⟨by simp [h2.1], .cons hd h2.2⟩
    · rw [if_neg hg, if_neg hg]
      obtain ⟨i1, i2⟩ := FV.put hd h2
      exact ⟨by simp [i1], .cons h1 i2⟩
end
theorem Rl.ins {K : Frg} {ρ : List Addr} {M : Mem} {H : Hp} (r : Rl K ct ρ M H) {n : Nat} {fs : List (Str × Dv)} (hm : M[n]? = some (.ins c fs)) {v : V} (hv : DV K ρ H (.loc n) v) :
    ∃ a C dx vfs, v = .ref a ∧ ρ[n]? = some a ∧ ct c = some C ∧ H a = some (.ins C dx vfs) ∧ FV K ρ H fs vfs := by
  obtain ⟨a, h1, C, dx, vfs, h2, h3, h4⟩ := r.ok n _ hm
  cases hv with
  | loc h => rw [h] at h1; cases h1; exact ⟨_, C, dx, vfs, rfl, h, h2, h3, h4⟩
/-- o.f -/
def fFld (c : Nat) (f : Str) (fo : FE) : FE := fun env M => bnd (fo env M) fun d M1 => match d with
  | .loc n => match M1[n]? with
    | some (.ins c' fs) => if c' = c then match fs.lookup f with
        | some x => some (x, M1)
        | none => none
      else none
    | _ => none
  | _ => none
theorem se_fld {fld : Str} (ho : SE X ct o fo) (hc : ct c = some C) (cl : Cls X.K C) (na : NoAttr X.K C fld) (hb : attributeBase o fld X.env (eval o X.env) = eval o X.env := by rfl) : SE X ct (.Attribute o fld pos) (fFld c fld fo) :=
  PE.imp (pe_fld ho hb) fun σ H Q ⟨ρ, M, env, r, he, d, M', hf, hq⟩ => by
    obtain ⟨x, M1, h1, hf⟩ := bnd_some hf
    refine ⟨ρ, M, env, r, he, x, M1, h1, fun ρ1 H1 e1 r1 v dv => ?_⟩
    split at hf
    · split at hf
      · rename_i hm
        split at hf
        · rename_i hcc
          split at hf
          · rename_i y hy
            cases hf
            subst hcc
            obtain ⟨a, C', dx, vfs, rfl, a1, a2, a3, a4⟩ := r1.ins hm dv
            rw [hc] at a2; cases a2
            obtain ⟨u, u1, u2⟩ := a4.look.1 _ hy
            exact ⟨a, C, dx, vfs, u, rfl, a3, cl, na, u1, hq ρ1 H1 e1 r1 _ u2⟩
          · cases hf
        · cases hf
      · cases hf
    · cases hf
/-- o.f = e -/
def fPut (c : Nat) (f : Str) (fo fv : FE) : FS := fun env M => bnd (fv env M) fun y M1 => bnd (fo env M1) fun d M2 => match d with
  | .loc n => match M2[n]? with
    | some (.ins c' fs) => if c' = c ∧ fs.length < 1000 then some (.nx env, M2.set n (.ins c (putD f y fs))) else none
    | _ => none
  | _ => none
theorem ss_fld {fld : Str} {pos' : Pos} (ho : SE X ct o fo) (hv : SE X ct v' fv) (hc : ct c = some C) (cl : Cls X.K C) (na : NoAttr X.K C fld) (hs : swapsWith v' (some (.Attribute o fld pos')) pos.line X.env = pure false := by rfl) :
    SS X ct (.Assign [.Attribute o fld pos'] v' pos) (fPut c fld fo fv) :=
  PS.imp (ps_fld ho hv hs) fun D σ H ⟨ρ, M, env, r, he, fl, M', hf, hq⟩ => by
    obtain ⟨y, M1, h1, hf⟩ := bnd_some hf
    obtain ⟨d, M2, h2, hf⟩ := bnd_some hf
    refine ⟨ρ, M, env, r, he, y, M1, h1, fun ρ1 H1 e1 r1 v dv => ⟨ρ1, M1, env, r1, he.mono e1, d, M2, h2, fun ρ2 H2 e2 r2 u du => ?_⟩⟩
    split at hf
    · split at hf
      · rename_i hm
        split at hf
        · rename_i hcc
          cases hf
          obtain ⟨hcc, hl⟩ := hcc
          subst hcc
          obtain ⟨a, C', dx, vfs, rfl, a1, a2, a3, a4⟩ := r2.ins hm du
          rw [hc] at a2; cases a2
          have xs : Ext X.K ρ2 H2 ρ2 (upd H2 a (.ins C dx (putF fld v vfs))) := Ext.soft (fun _ _ z => z) (fun _ q => by rw [a3] at q; cases q) fun _ _ q => by rw [a3] at q; cases q
          obtain ⟨r3, e3⟩ := r2.put (o := .ins _ (putD fld y _)) (o' := .ins C dx (putF fld v vfs)) a1 ⟨C, dx, _, hc, upd_same, (a4.put (dv.mono e2)).mono xs⟩
          exact ⟨a, C, dx, vfs, rfl, a3, cl, na, by rw [← a4.length]; exact hl, hq ρ2 _ ((e1.trans e2).trans e3) r3 σ (((he.mono e1).mono e2).mono e3)⟩
        · cases hf
      · cases hf
    · cases hf
/-- o.m(e, ..) of an own class -/
def isIns (c : Nat) (m : Str) (d : Dv) (M : Mem) : Bool :=
  match d with
  | .loc n => match M[n]? with
    | some (.ins c' fs) => c' == c && (fs.lookup m).isNone
    | _ => false
  | _ => false
def fMeth (c : Nat) (m : Str) (np : Nat) (F : FF) (fo : FE) (fr : FA) : FE := fun env M => bnd (fo env M) fun d M1 => if isIns c m d M1 then bnd (fr env M1) fun ds M2 => if (d :: ds).length = np then F (d :: ds) M2 else none else none
theorem isIns_ok {K : Frg} {ρ : List Addr} {M : Mem} {H : Hp} {d : Dv} {v : V} (r : Rl K ct ρ M H) (hv : DV K ρ H d v) (hc : ct c = some C) (h : isIns c m d M = true) : ∃ a dx vfs, v = .ref a ∧ H a = some (.ins C dx vfs) ∧ vfs.lookup m = none := by
  unfold isIns at h
  split at h
  · split at h
    · rename_i hm
      rw [Bool.and_eq_true] at h
      have e := eq_of_beq h.1
      subst e
      obtain ⟨a, C', dx, vfs, rfl, a1, a2, a3, a4⟩ := r.ins hm hv
      rw [hc] at a2; cases a2
      exact ⟨a, dx, vfs, rfl, a3, a4.look.2 (Option.isNone_iff_eq_none.mp h.2)⟩
    · cases h
  · cases h
theorem se_meth {pl : Sem Bool} (ho : SE X ct o fo) (hc : ct c = some C) (cl : Cls X.K C) (hm : Meth X.K C m f) (G : SF X ct k f fd ps F) (hr : Room k X.A) (hgd : X.A.guards = some []) (hb : Binds X.K fd ps []) (ha : SA X ct (e :: es) fr)
    (hst : starEach (e :: es) X.env = (false, eval e X.env) :: starEach es X.env := by rfl) (hpl : (backTo pos (starEach es X.env)).any (·.1) = false := by rfl)
    (ht : eval (.Call (.Attribute o m apos) (e :: es) [] pos) X.env = (do
      let ov ← eval o X.env
      standAt apos.atName
      let (f, first) ← holding [ov] (getMethod ov m pl)
      callWith pos f first (backTo pos (starEach (e :: es) X.env)) (backToKw pos (keywordEach [] X.env))) := by rfl) :
    SE X ct (.Call (.Attribute o m apos) (e :: es) [] pos) (fMeth c m ps.length F fo fr) := by
  refine ⟨fun pins s σ H Q I w => ?_⟩
  obtain ⟨ρ, M, env, r, hen, d, M', hf, hq⟩ := w
  obtain ⟨y, M1, h1, hf⟩ := bnd_some hf
  split at hf
  · rename_i hi
    obtain ⟨ds, M2, h2, hf⟩ := bnd_some hf
    split at hf
    · rename_i hn
      refine PySem.W.methodCall_KW (pl := pl) (thn (ho.run pins s σ H (fun v H1 => ∃ ρ1, Ext X.K ρ H ρ1 H1 ∧ Rl X.K ct ρ1 M1 H1 ∧ DV X.K ρ1 H1 y v) I ⟨ρ, M, env, r, hen, y, M1, h1, fun ρ1 H1 e1 r1 v dv => ⟨ρ1, e1, r1, dv⟩⟩) fun u s1 z => ?_) ht
      obtain ⟨v, H1, I1, rv, ρ1, e1, r1, dv⟩ := z
      obtain ⟨a, dx, vfs, rfl, a3, a4⟩ := isIns_ok r1 dv hc hi
      obtain rfl : u = Value.ref a := rv
      refine getmeth_ok I1 a3 cl hm a4 ?_
      refine PySem.W.callWith_K (first := [.ref a]) (h₀ := X.base) I.ok.mod.kin hm.kp (thn (ha.run pos pins s1 σ H1 (fun vs H2 => ∃ ρ2, Ext X.K ρ1 H1 ρ2 H2 ∧ Rl X.K ct ρ2 M2 H2 ∧ DVs X.K ρ2 H2 ds vs) I1 ⟨ρ1, M1, env, r1, hen.mono e1, ds, M2, h2, fun ρ2 H2 e2 r2 vs dvs => ⟨ρ2, e2, r2, dvs⟩⟩) fun us s2 z => ?_) hst hpl
      obtain ⟨vs, H2, I2, rvs, ρ2, e2, r2, dvs⟩ := z
      have D2 : DVs X.K ρ2 H2 (y :: ds) (.ref a :: vs) := .cons (dv.mono e2) dvs
      exact ⟨I2.kIn, run_fnG (us := .ref a :: us) (us' := .ref a :: us) G hr hgd I2 (by
        have := hb s2 (.ref a :: us) I2.kIn (by rw [List.append_nil, ← hn, D2.length]; exact congrArg (· + 1) rvs.length.symm)
        rwa [List.append_nil] at this) (.cons (a := V.ref a) rfl rvs) (spF_use hn (e1.trans e2) r2 D2 hf hq)⟩
    · cases hf
  · cases hf
theorem se_meth0 {pl : Sem Bool} (ho : SE X ct o fo) (hc : ct c = some C) (cl : Cls X.K C) (hm : Meth X.K C m f) (G : SF X ct k f fd ps F) (hr : Room k X.A) (hgd : X.A.guards = some []) (hb : Binds X.K fd ps [])
    (ht : eval (.Call (.Attribute o m apos) [] [] pos) X.env = (do
      let ov ← eval o X.env
      standAt apos.atName
      let (f, first) ← holding [ov] (getMethod ov m pl)
      callWith pos f first (backTo pos (starEach [] X.env)) (backToKw pos (keywordEach [] X.env))) := by rfl) :
    SE X ct (.Call (.Attribute o m apos) [] [] pos) (fMeth c m ps.length F fo fNil) := by
  refine ⟨fun pins s σ H Q I w => ?_⟩
  obtain ⟨ρ, M, env, r, hen, d, M', hf, hq⟩ := w
  obtain ⟨y, M1, h1, hf⟩ := bnd_some hf
  split at hf
  · rename_i hi
    obtain ⟨ds, M2, h2, hf⟩ := bnd_some hf
    cases h2
    split at hf
    · rename_i hn
      refine PySem.W.methodCall_KW (pl := pl) (thn (ho.run pins s σ H (fun v H1 => ∃ ρ1, Ext X.K ρ H ρ1 H1 ∧ Rl X.K ct ρ1 _ H1 ∧ DV X.K ρ1 H1 y v) I ⟨ρ, M, env, r, hen, y, _, h1, fun ρ1 H1 e1 r1 v dv => ⟨ρ1, e1, r1, dv⟩⟩) fun u s1 z => ?_) ht
      obtain ⟨v, H1, I1, rv, ρ1, e1, r1, dv⟩ := z
      obtain ⟨a, dx, vfs, rfl, a3, a4⟩ := isIns_ok r1 dv hc hi
      obtain rfl : u = Value.ref a := rv
      refine getmeth_ok I1 a3 cl hm a4 ?_
      exact PySem.W.callWith_K0 (first := [.ref a]) I1.kIn hm.kp (run_fnG (us := [.ref a]) (us' := [.ref a]) G hr hgd I1 (by
        have := hb s1 [.ref a] I1.kIn (by simpa using hn)
        rwa [List.append_nil] at this) (.cons (a := V.ref a) rfl .nil) (spF_use hn e1 r1 (.cons dv .nil) hf hq))
    · cases hf
  · cases hf
/-- C(e, ..) -/
def fMake (c : Nat) (np : Nat) (F : FF) (fr : FA) : FE := fun env M => bnd (fr env M) fun ds M1 => if ds.length + 1 = np then bnd (F (.loc M1.length :: ds) (M1 ++ [.ins c []])) fun d M2 => match d with
    | .non => some (.loc M1.length, M2)
    | _ => none
  else none
theorem se_make (M0 : Mk X.K C f) (hc : ct c = some C) (G : SF X ct k f fd ps F) (hr : Room (k + 1) X.A) (hgd : X.A.guards = some []) (hg : Gl X x) (hm : X.mg x = some (.ref C)) (hb : Binds X.K fd ps []) (ha : SA X ct (e :: es) fr)
    (hdb : (x == ("__debug__" : Str)) = false := by decide) (he : starEach (e :: es) X.env = (false, eval e X.env) :: starEach es X.env := by rfl) (hpl : (backTo pos (starEach es X.env)).any (·.1) = false := by rfl) :
    SE X ct (.Call (.Name x p) (e :: es) [] pos) (fMake c ps.length F fr) := by
  refine ⟨fun pins s σ H Q I w => ?_⟩
  obtain ⟨ρ, M, env, r, hen, d, M', hf, hq⟩ := w
  obtain ⟨ds, M1, h1, hf⟩ := bnd_some hf
  split at hf
  · rename_i hn
    obtain ⟨d0, M2, h2, hf⟩ := bnd_some hf
    split at hf
    · cases hf
      refine wpAny_Call_Name_kw (ld_glob I hg hm ?_ hdb)
      refine PySem.W.callWith_K (h₀ := X.base) I.ok.mod.kin M0.kp (thn (ha.run pos pins s σ H (fun vs H1 => ∃ ρ1, Ext X.K ρ H ρ1 H1 ∧ Rl X.K ct ρ1 M1 H1 ∧ DVs X.K ρ1 H1 ds vs) I ⟨ρ, M, env, r, hen, ds, M1, h1, fun ρ1 H1 e1 r1 vs dvs => ⟨ρ1, e1, r1, dvs⟩⟩) fun us s1 z => ?_) he hpl
      obtain ⟨vs, H1, I1, rv, ρ1, e1, r1, dvs⟩ := z
      refine ⟨I1.kIn, ?_⟩
      have n1 : H1 s1.heap.objs.size = none := I1.hok.fresh (Nat.le_refl _)
      have n2 : H1 (s1.heap.objs.size + 1) = none := I1.hok.fresh (Nat.le_succ _)
      have ne : s1.heap.objs.size + 1 ≠ s1.heap.objs.size := Nat.succ_ne_self _
      have I2 := Inv.made (C := C) I1
      have rA := r1.tup n1 (.own (s1.heap.objs.size + 1))
      have n3 : upd H1 s1.heap.objs.size (.own (s1.heap.objs.size + 1)) (s1.heap.objs.size + 1) = none := by rw [upd_ne ne]; exact n2
      obtain ⟨rB, xB, aB⟩ := rA.new (o := .ins c []) (o' := .ins C s1.heap.objs.size []) n3 ⟨C, _, [], hc, upd_same, FV.nil⟩
      have xx := (Ext.fresh n1).trans xB
      have D2 : DVs X.K (ρ1 ++ [s1.heap.objs.size + 1]) _ (.loc M1.length :: ds) (.ref (s1.heap.objs.size + 1) :: vs) := .cons (.loc aB) (dvs.mono xx)
      have len2 : (Value.ref (s1.heap.objs.size + 1) :: us).length = ps.length := by rw [← hn, dvs.length, ← rv.length.symm]; rfl
      have bt := hb { s1 with heap := (s1.heap.push PySem.W.emptyDict).push (PySem.W.instObj C s1.heap.objs.size) } (.ref (s1.heap.objs.size + 1) :: us) I2.kIn (by rw [List.append_nil]; exact len2)
      rw [List.append_nil] at bt
      refine wpAny_call (make_map (f := f) I1.kIn M0.makes M0.init (beq_iff_eq.mp M0.fn) (codeAny_mono (G.run _ X.stack _ _ ⟨.ref (s1.heap.objs.size + 1) :: us, []⟩ (.ref (s1.heap.objs.size + 1) :: us) (.ref (s1.heap.objs.size + 1) :: vs) (fun v H2 => v = .non ∧ Q (.ref (s1.heap.objs.size + 1)) H2) E0 (hr.make C us [])
        hgd (I2.env0.make C us []) bt (.cons rfl rv) ?_) fun z s' hz => ?_))
      · refine ⟨by rw [← D2.length]; exact hn, _, _, _, rB, D2, _, _, h2, fun ρ3 H3 e3 r3 v hv => ?_⟩
        cases hv
        exact ⟨rfl, hq ρ3 H3 ((e1.trans xx).trans e3) r3 _ (.loc (e3.pre _ _ aB))⟩
      · match z, hz with
        | .ok (.ret u), hz =>
          obtain ⟨v, H', I3, rv3, ev, q3⟩ := I2.after hz
          subst ev
          exact ⟨rv3, ⟨V.ref (s1.heap.objs.size + 1), H', I3, rfl, q3⟩⟩
    · cases hf
  · cases hf
end
end Zl

/-! text Z10 -/
namespace Zl
open PySem L2 PySem.Spec PyProof.Rows

/-- the script, all ints -/
theorem dvs_ints {K : Frg} {ρ : List Addr} {H : Hp} : ∀ ns : List Int, DVs K ρ H (ns.map Dv.int) (ns.map V.int)
  | [] => .nil
  | n :: r => .cons (.int n) (dvs_ints r)
/-- the law's call from the def's mirror -/
theorem law_end {P : Program} {w : World} {K : Frg} {mg mb : Str → Option Value} {ct : Ct} {k : Nat} {fa a : Addr} {fd : FuncData} {x : Str} {F : FF} {s₁ : Shared} {us : List Value} {ns : List Int}
    (KX : K.In s₁.heap) (hns : s₁.heap.Ns mainGlobals mg) (hb : s₁.heap.Ns builtinsNs mb) (hbb : ∀ x : Str, x ≠ "__name__" → mb x = bootBuiltins x) (hlim : s₁.heap.NoLimit) (hg : s₁.gens = #[])
    (ha : s₁.heap.get? a = some { cls := .type "list", data := .seq us.toArray }) (hi : IntsAre us ns) (hl : ns.length ≤ sizeLine) (hr : Room k callerA)
    (G : ∀ base : Heap, K.In base → base.Ns mainGlobals mg → FnG P w K mg base k fa fd [x] (spF K ct F 1)) (hbind : ∀ (s : Shared) (u : Value), BindsTo s fd ⟨[u], []⟩ [(x, u)])
    (hF : ∃ M', F [.rol (ns.map Dv.int)] [] = some (.bl true, M')) :
    codeAny (model P w) callerA (.call (.ref fa) ⟨[.ref a], []⟩) (fun r s' => r = .ok (.ret (.bool true)) ∧ OldK s₁.heap s'.heap ∧ s'.os = s₁.os ∧ AllBare s'.gens) s₁ := by
  obtain ⟨M', hF⟩ := hF
  have rv : Vals (ns.map V.int) us := vals_of_ints hi
  have lenV : ns.length = us.length := by simpa using rv.length
  -- from an abstract heap that holds the script at most, locked
  have core : ∀ H : Hp, (∀ b u, H b = some u → b = a ∧ u = .frz { cls := .type "list", data := .seq us.toArray } (.lst (ns.map V.int)) ∧ K.lookup a = none) → SqF K H a (ns.map V.int) →
      codeAny (model P w) callerA (.call (.ref fa) ⟨[.ref a], []⟩) (fun r s' => r = .ok (.ret (.bool true)) ∧ OldK s₁.heap s'.heap ∧ s'.os = s₁.os ∧ AllBare s'.gens) s₁ := by
    intro H hH hS
    have hok : HOk P w H s₁.heap := fun b u e => by
      obtain ⟨rfl, rfl, _⟩ := hH b u e
      exact ⟨ha, by rw [List.length_map]; exact hl, us, _, rv, ha⟩
    have hide : ∀ {b : Addr} {o : Obj} {es : Array DictEntry} {ep : Nat}, s₁.heap.get? b = some o → o.data = .dict es ep → (hidT s₁.heap H).get? b = some o := fun {b o es ep} e d => by
      refine hidT_get e ?_
      cases q : H b with
      | none => rfl
      | some u =>
        obtain ⟨rfl, _, _⟩ := hH b u q
        rw [ha] at e; cases e; cases d
    have nsK : ∀ {b : Addr} {m : Str → Option Value}, s₁.heap.Ns b m → (hidT s₁.heap H).Ns b m := fun ⟨o, es, ep, e, d, z⟩ => ⟨o, es, ep, hide e d, d, z⟩
    have kB : K.In (hidT s₁.heap H) := fun b o e => hidT_get (KX b o e) (by
      cases q : H b with
      | none => rfl
      | some u =>
        obtain ⟨rfl, _, z⟩ := hH b u q
        rw [z] at e; cases e)
    have e0 : Env0 P w K mg (hidT s₁.heap H) callerA [] s₁ H :=
      ⟨rfl, ⟨kB, nsK hns, ⟨mb, nsK hb, hbb⟩, let ⟨mc, h1, h2⟩ := hlim; ⟨mc, nsK h1, h2⟩⟩, fun b o e => of_hidT e, Nat.le_of_eq (hidT_size _ _), trivial, fun b hb => absurd (show b ∈ ([] : List Addr) from hb) (fun y => nomatch y), hok, AllBare.of_eq hg⟩
    have sp : spF K ct F 1 [.ref a] H (fun v _ => v = .bl true) E0 := ⟨rfl, [], [], _, ⟨rfl, List.nodup_nil, fun n o h => by simp at h⟩, .cons (.rol hS (dvs_ints ns)) .nil, _, _, hF, fun ρ' H' _ _ v hv => by cases hv; rfl⟩
    refine codeAny_mono ((G _ kB (nsK hns)).run callerA [] s₁ H ⟨[.ref a], []⟩ [.ref a] [.ref a] _ _ hr rfl e0 (hbind s₁ (.ref a)) (.cons rfl .nil) sp) fun z s' h => ?_
    match z, h with
    | .ok (.ret u), h =>
      obtain ⟨v, H', os, bare, un, hok', r', q⟩ := h
      have q' : v = .bl true := q
      subst q'
      obtain rfl : u = Value.bool true := r'
      refine ⟨rfl, OldK.of_keep fun b o e => ?_, os, bare⟩
      cases z : H b with
      | none => exact un.keep b o e z (fun y => absurd (show b ∈ ([] : List Addr) from y) (fun y => nomatch y)) (fun y => nomatch y)
      | some u =>
        obtain ⟨rfl, rfl, _⟩ := hH b u z
        rw [ha] at e
        rw [← e]
        exact (hok' _ _ (un.frzs _ _ _ z)).1
  cases hk : K.lookup a with
  | some o =>
    have e := KX a o hk
    rw [ha] at e
    cases e
    refine core (fun _ => none) (fun b u z => by cases z) (.inr ⟨fun H' => .inr ⟨_, us.toArray, _, hk, rfl, rfl, rfl, by rw [List.size_toArray, ← lenV]; exact hl, by simpa using rv⟩, _, hk, rfl⟩)
  | none =>
    refine core (fun b => if b = a then some (.frz { cls := .type "list", data := .seq us.toArray } (.lst (ns.map V.int))) else none) (fun b u z => ?_) (.inl ⟨_, if_pos rfl⟩)
    by_cases hb : b = a
    · rw [if_pos hb] at z; cases z
      exact ⟨hb, rfl, hk⟩
    · rw [if_neg hb] at z; cases z
/-- the goal that k_head leaves -/
theorem walk_end {l : PySem.W.OpenLaw} {k : Nat} {q : Program} {loose : List Str} {XP : (Str → Option Value) → Heap → Prop} {YP : World → Heap → Prop} {d : DefRec} {K : Params → Frg} {x : Str} {F : FF}
    (hn : l.most = some 63) (hdf : d.params.defaults = []) (hr : Room k callerA) (hY : ∀ (w : World) (h : Heap), YP w h → (K w.params).In h)
    (T : ∀ (w : World) (mg : Str → Option Value) (fa : Addr) (h : Heap), (K w.params).In h → h.Ns mainGlobals mg → mg d.name = some (.ref fa) →
      ∃ (ct : Ct) (fd : FuncData), (∀ (s : Shared) (u : Value), BindsTo s fd ⟨[u], []⟩ [(x, u)]) ∧ ∀ base : Heap, (K w.params).In base → base.Ns mainGlobals mg → FnG l.prog w (K w.params) mg base k fa fd [x] (spF (K w.params) ct F 1))
    (hF : ∀ ns : List Int, ns.length ≤ 63 → ∃ M', F [.rol (ns.map Dv.int)] [] = some (.bl true, M')) :
    PySem.W.WalkO q loose XP YP l.row.toRowW d [] (fun f vs => PySem.call f vs) := by
  refine Att.attach_call hn hdf fun w s₀ s₁ mg mb fa o pm cd doc a vs ns G Y ho hd hcd hmg hobj hints hlen hg => ?_
  have KX := hY w _ Y
  obtain ⟨ct, fd, hb, hG⟩ := T w mg fa _ KX G.T.g hmg
  exact law_end KX G.T.g G.T.b G.T.builtins G.T.nolimit hg hobj hints (Nat.le_trans hlen (by decide)) hr hG hb (hF ns hlen)
end Zl

/-! text Z11 -/
namespace Zl
open PySem L2 PySem.Spec PyProof.Rows
open AutoSeq1 (wpAny_loadPart')

/-! ## enumerate -/
theorem enumerate_newT (l : Addr) (items : Array Value) (n : Nat) (dct : Option Addr) (sl : Array (Option Value)) :
    Meets (Builtin.«enumerate.__new__» ⟨[.type "enumerate", .ref l], []⟩) (fun _ R s => s.heap.get? l = some { cls := .type "tuple", dict := dct, data := .seq items n, slots := sl } ∧
      R (.ok (.ret (.ref (s.heap.push { cls := .type "tuple_iterator", data := .fields #[.ref l, .int 0 0] }).objs.size)))
        { s with heap := (s.heap.push { cls := .type "tuple_iterator", data := .fields #[.ref l, .int 0 0] }).push { cls := .type "enumerate", data := .fields #[.none, .bool false, .ref s.heap.objs.size, rawInt 0, .none, .none] } }) :=
  .of_wp fun prog w A R s h => by
    obtain ⟨hp, g, d, tk, os⟩ := s
    obtain ⟨hl, h⟩ := h
    have hsub := sub_enumerate
    have hT : Heap.IsTuple (Shared.heap ⟨hp, g, d, tk, os⟩) l items := ⟨_, hl, rfl, n, rfl⟩
    wp_walk using wpAny_loadPart' hl
    refine wpAny_stack_any fun st => wpAny_pure ?_
    split
    · rename_i c _ _ _ _ _
      cases (c == Value.type "enumerate")
      · wp_walk using wpAny_loadPart' hl, wpAny_pyIter_tuple hT
        exact ⟨_, rfl, h⟩
      · wp_walk using wpAny_loadPart' hl, wpAny_pyIter_tuple hT
        exact ⟨_, rfl, h⟩
    · wp_walk using wpAny_loadPart' hl, wpAny_pyIter_tuple hT
      exact ⟨_, rfl, h⟩
theorem call_enumT {prog : Program} {w : World} {A : Around} {E : Value → Shared → Prop} {s : Shared} {l : Addr} {items : Array Value} {Q : Value → Shared → Prop} (hL : s.heap.IsTuple l items)
    (h : ∀ h', IsEnum h' (s.heap.objs.size + 1) s.heap.objs.size 0 .none → h'.IsTupleIter s.heap.objs.size l 0 → (∀ b o, s.heap.get? b = some o → h'.get? b = some o) → Q (.ref (s.heap.objs.size + 1)) { s with heap := h' }) :
    wpAny (model prog w) A (call (.type "enumerate") [.ref l]) Q E s := by
  obtain ⟨⟨c, dct, dt, sl⟩, hl, hc, n, hd⟩ := hL
  replace hc : c = .type "tuple" := hc
  replace hd : dt = .seq items n := hd
  subst hc hd
  refine callType_new F.called_enumerate (by decide) (F.typeCall_enumerate_1 _) (F.newCall_enumerate_1 _) (fun obj => F.args_object_init_2 obj _) F.entry_enumerate_new (enumerate_newT l items n dct sl) ⟨hl, ?_⟩
  have hz : (s.heap.push { cls := .type "tuple_iterator", data := .fields #[.ref l, .int 0 0] }).objs.size = s.heap.objs.size + 1 := Heap.size_push ..
  show _ ∧ _
  rw [hz]
  have he : IsEnum ((s.heap.push { cls := .type "tuple_iterator", data := .fields #[.ref l, .int 0 0] }).push
      { cls := .type "enumerate", data := .fields #[.none, .bool false, .ref s.heap.objs.size, rawInt 0, .none, .none] }) (s.heap.objs.size + 1) s.heap.objs.size 0 .none := by
    have q := Heap.get?_push_size (s.heap.push { cls := .type "tuple_iterator", data := .fields #[.ref l, .int 0 0] })
      (o := { cls := .type "enumerate", data := .fields #[.none, .bool false, .ref s.heap.objs.size, rawInt 0, .none, .none] }) rfl
    rwa [hz] at q
  exact ⟨⟨_, he, rfl⟩, h _ he ⟨_, Heap.get?_push_of_some _ (Heap.get?_push_size _ rfl), rfl, rfl⟩ fun b o x => Heap.get?_push_of_some _ (Heap.get?_push_of_some _ x)⟩
/-- the tuple at a, each item in a new pair -/
def IteT (K : Frg) (a : Addr) : It :=
  ⟨fun i H => ∃ (xs : List V) (x : V), SqT K H a xs ∧ xs[i]? = some x, fun i H v H' => ∃ T x, v = .ref T ∧ H T = none ∧ H' = upd H T (.tup [.int (i : Nat), x]) ∧ ∀ xs, SqT K H a xs → xs[i]? = some x, fun i H => ∃ xs : List V, SqT K H a xs ∧ xs.length = i⟩
theorem turn_enumT {P : Program} {w : World} {K : Frg} {elts : List Expr} {kk : Nat} {tpos : Pos} (a e it : Addr) (hai : a ≠ it) (hea : e ≠ a) :
    Turn P w K (.Tuple elts kk tpos) (IteT K a) [e, it] e (fun i h => (∃ old, IsEnum h e it ((i : Nat) : Int) old) ∧ h.IsTupleIter it a i ∧ e ≠ it) where
  mem := by simp
  obj := fun i h st b hb => by
    obtain ⟨⟨old, he⟩, ⟨o, ho, hc, hd⟩, _⟩ := st
    rcases (show b = e ∨ b = it by simpa using hb) with rfl | rfl
    · exact ⟨_, he, fun v q => nomatch q⟩
    · exact ⟨o, ho, fun v q => by rw [hd] at q; cases q⟩
  keep := fun i h h' st k => let ⟨⟨old, he⟩, hi, hne⟩ := st; ⟨⟨old, k e (by simp) _ he⟩, hi.at fun o q => k it (by simp) o q, hne⟩
  item := by
    intro X hP hw hK hc i pins s σ H E I hf st hg
    subst hP hw hK
    obtain ⟨⟨old, he⟩, hit, hne⟩ := st
    obtain ⟨xs, x, hq, hx⟩ := hg
    obtain ⟨its, rv, p, hz⟩ := I.tuple hq
    obtain ⟨u, hu, ru⟩ := rv.get hx
    have hil : i < its.toArray.size := by simpa using (List.getElem?_eq_some_iff.mp hu).1
    have hel : e < s.heap.objs.size := Heap.lt_size he
    have hitl : it < s.heap.objs.size := by obtain ⟨_, q, _⟩ := hit; exact Heap.lt_size q
    refine wpAny_pyNext_enum_itemD (Draws.tuple (A := X.A.in1) (I.ok.hd hc) it a hai its.toArray) he ⟨hit, p⟩ hil hne (by simp [hne, hea]) fun y h' tk hy ho st' hT hsz hk => ?_
    have ey : y = u := by
      have : its[i]? = some y := by simpa using hy
      rw [hu] at this; exact (Option.some.inj this).symm
    subst ey
    refine ⟨_, rfl, wpAny_letOwnedTupleGo_enum (s := { s with heap := h', toks := tk + 1 }) ho fun h'' he' sb => ?_⟩
    have hT2 : h''.get? s.heap.objs.size = some { cls := .type "tuple", data := .seq #[.int i tk, y] } := (sb.2 _ (Nat.ne_of_gt hel)).trans hT
    have new : ObjOk X.prog X.w (upd H s.heap.objs.size (.tup [.int (i : Nat), x])) h'' s.heap.objs.size (.tup [.int (i : Nat), x]) :=
      ⟨by show 2 ≤ sizeLine; decide, [.int i tk, y], .cons ⟨_, rfl⟩ (.cons ru .nil), ⟨_, hT2, rfl, _, rfl⟩⟩
    have I1 : Inv X pins σ (upd H s.heap.objs.size (.tup [.int (i : Nat), x])) { s with heap := h'', toks := tk + 1 } :=
      I.turnedNew (ch := [e, it]) (fun b ob hb q => (sb.2 b (fun z => hb (by simp [z]))).trans (hk b ob (fun z => hb (by simp [z])) (fun z => hb (by simp [z])) q)) hf (Nat.le_refl _) new
    refine ⟨V.ref s.heap.objs.size, _, I1, rfl, ⟨_, x, rfl, I.hok.fresh (Nat.le_refl _), rfl, fun ys hy => by rw [I.tuple_inj hy hq]; exact hx⟩, ⟨⟨y, by rw [Int.natCast_add]; exact he'⟩, st'.1.at fun o q => (sb.2 it (Ne.symm hne)).trans q, hne⟩, fun b hb => ?_⟩
    have hb' : b < s.heap.objs.size := by
      rcases (show b = e ∨ b = it by simpa using hb) with rfl | rfl
      · exact hel
      · exact hitl
    rw [upd_ne (Nat.ne_of_lt hb')]
    exact (hf b hb).1
  done := by
    intro X hP hw hK hc i pins s σ H E I hf st hg
    subst hP hw hK
    obtain ⟨⟨old, he⟩, hit, hne⟩ := st
    obtain ⟨xs, hq, hx⟩ := hg
    obtain ⟨its, rv, p, hz⟩ := I.tuple hq
    obtain ⟨f0, f1, f2, f3, f4, f5⟩ := hf it (by simp)
    have hl : its.toArray.size = i := by rw [List.size_toArray, ← rv.length, hx]
    subst hl
    exact wpAny_pyNext_enum_endD (Draws.tuple (A := X.A.in1) (I.ok.hd hc) it a hai its.toArray) he ⟨hit, p⟩ fun h' eb => ⟨rfl, I.turned (t' := s.toks) (fun b o hb q => eb b o hb q) f0 f1 f3 f4 f5⟩
  self := fun A i s Q E st h => let ⟨⟨_, he⟩, _⟩ := st; wpAny_pyIter_enum he h
section
variable {X : Cx} {ct : Ct} {e e2 o : Expr} {es : List Expr} {elts : List Expr} {kk : Nat} {p pos tpos apos cpos : Pos} {fe f2 fo : FE} {fr : FA}
theorem pi_enumT {ta : TE} (hg : Gl X "enumerate") (hm : X.mg "enumerate" = none) (ha : PE X e ta) (hs : starEach [e] X.env = [(false, eval e X.env)] := by rfl) :
    PI X (.Tuple elts kk tpos) (.Call (.Name "enumerate" p) [e] [] pos) (fun σ H R => ta σ H fun v H1 => ∃ a xs, v = .ref a ∧ SqT X.K H1 a xs ∧ R (IteT X.K a) H1) := by
  refine ⟨fun pins s σ H R I h => ?_⟩
  refine Call_ (ld_blt I hg hm boot_enumerate (PyProof.Rows.callWith_type1 (args_cons (thn (ha.run pins s σ H _ I h) fun u s1 z => args_nil ?_) hs) hs rfl))
  obtain ⟨v, H1, I1, rv, a, xs, rfl, hq, q⟩ := z
  cases rv
  obtain ⟨its, rv, p', hz⟩ := I1.tuple hq
  have hlt : a < s1.heap.objs.size := p'.lt
  refine call_enumT p' fun h' he hit hk => wpAny_pyIter_enum he ?_
  have I2 : Inv X pins σ H1 { s1 with heap := h' } := I1.kept (t' := s1.toks) hk
  refine ⟨s1.heap.objs.size + 1, [s1.heap.objs.size + 1, s1.heap.objs.size], _, _, H1, rfl, I2, turn_enumT a _ _ (Nat.ne_of_lt hlt) (fun z => absurd (z ▸ hlt : s1.heap.objs.size + 1 < s1.heap.objs.size) (by omega)), ⟨⟨.none, he⟩, hit, Nat.succ_ne_self _⟩, fun b hb => ?_, q⟩
  have hle : s1.heap.objs.size ≤ b := by
    rcases (show b = s1.heap.objs.size + 1 ∨ b = s1.heap.objs.size by simpa using hb) with rfl | rfl
    · exact Nat.le_succ _
    · exact Nat.le_refl _
  exact I1.fpOk hle (I1.hok.fresh hle)
def pairs (xs : List Dv) (i : Nat) : Option Dv := xs[i]?.map fun x => .pr [.int (i : Nat), x]
def srcE (M : Mem) : Dv → Option Src
  | .tup xs => some ⟨xs.length, fun i _ => if i ≤ xs.length then some (pairs xs i) else none⟩
  | .loc n => match M[n]? with
    | some (.lst xs) => some ⟨xs.length, fun i M => match M[n]? with
      | some (.lst xs) => some (pairs xs i)
      | _ => none⟩
    | _ => none
  | _ => none
def fEnum (f : FE) : FI := fun env M => bnd (f env M) fun d M1 => match srcE M1 d with
  | some s => some (s, M1)
  | none => none
theorem feeds_enumT {K : Frg} {ρ0 : List Addr} {H0 : Hp} {a : Addr} {xs : List Dv} {vs : List V} (hs : TupD K H0 a vs) (hd : DVs K ρ0 H0 xs vs) : Feeds K ct ρ0 H0 (IteT K a) (fun i _ => if i ≤ xs.length then some (pairs xs i) else none) := by
  intro i ρ M H x r
  dsimp only
  by_cases hi : i ≤ xs.length
  · rw [if_pos hi]
    unfold pairs
    cases q : xs[i]? with
    | none => exact ⟨vs, (hs.mono x).sq, by rw [← hd.length]; exact Nat.le_antisymm (List.getElem?_eq_none_iff.mp q) hi⟩
    | some d =>
      obtain ⟨v, h1, h2⟩ := hd.get q
      refine ⟨⟨vs, v, (hs.mono x).sq, h1⟩, fun y H' hy => ?_⟩
      obtain ⟨T, z, rfl, hT, rfl, hy⟩ := hy
      have := hy vs (hs.mono x).sq
      rw [h1] at this; cases this
      exact ⟨Ext.fresh hT, r.tup hT _, .pr (SqT.of upd_same) (.cons (.int _) (.cons ((h2.mono x).mono (Ext.fresh hT)) .nil))⟩
  · rw [if_neg hi]; trivial
theorem feeds_enumL {K : Frg} {ρ0 : List Addr} {H0 : Hp} {a : Addr} {n : Nat} (hn : ρ0[n]? = some a) : Feeds K ct ρ0 H0 (Ite K a) (fun i M => match M[n]? with
      | some (.lst xs) => some (pairs xs i)
      | _ => none) := by
  intro i ρ M H x r
  dsimp only
  cases hm : M[n]? with
  | none => trivial
  | some o =>
    cases o with
    | ins c fs => trivial
    | dct kvs => trivial
    | dcn kvs => trivial
    | st xs => trivial
    | sk xs => trivial
    | lst xs =>
      obtain ⟨b, vs, eb, b1, b2, b3⟩ := r.lst hm (.loc (x.pre n a hn))
      cases eb
      show (match some (pairs xs i) with | some (some d) => _ | some none => _ | none => _)
      unfold pairs
      cases q : xs[i]? with
      | none => exact ⟨vs, SqL.of b2, by rw [← b3.length]; exact List.getElem?_eq_none_iff.mp q⟩
      | some d =>
        obtain ⟨v, h1, h2⟩ := b3.get q
        refine ⟨⟨vs, v, SqL.of b2, h1⟩, fun y H' hy => ?_⟩
        obtain ⟨T, z, rfl, hT, rfl, hy⟩ := hy
        have := hy vs (SqL.of b2)
        rw [h1] at this; cases this
        exact ⟨Ext.fresh hT, r.tup hT _, .pr (SqT.of upd_same) (.cons (.int _) (.cons (h2.mono (Ext.fresh hT)) .nil))⟩
theorem si_enum (hg : Gl X "enumerate") (hm : X.mg "enumerate" = none) (h : SE X ct e fe) (hs : starEach [e] X.env = [(false, eval e X.env)] := by rfl) : SI X ct (.Tuple elts kk tpos) (.Call (.Name "enumerate" p) [e] [] pos) (fEnum fe) := by
  refine PI.imp (PI.or (pi_enum hg hm (sa_cons h sa_nil hs) hs) (pi_enumT hg hm h hs)) fun σ H R ⟨ρ, M, env, r, he, src, M', hf, hq⟩ => ?_
  obtain ⟨d, M1, h1, hf⟩ := bnd_some hf
  split at hf
  · rename_i s0 hs
    cases hf
    unfold srcE at hs
    split at hs
    · cases hs
      exact .inr ⟨ρ, M, env, r, he, _, _, h1, fun ρ1 H1 e1 r1 v dv => by
        cases dv with
        | tup hs hd => exact ⟨_, _, rfl, hs.sq, hq ρ1 H1 e1 r1 _ (feeds_enumT hs hd)⟩⟩
    · split at hs
      · rename_i hm
        cases hs
        refine .inl ⟨ρ, M, env, r, he, [_], _, by show bnd (fe env M) _ = _; rw [h1]; rfl, fun ρ1 H1 e1 r1 vs dvs => ?_⟩
        obtain ⟨v, rfl, dv⟩ := dvs_one dvs
        obtain ⟨a, ws, rfl, a1, a2, a3⟩ := r1.lst hm dv
        exact ⟨_, _, rfl, SqL.of a2, hq ρ1 H1 e1 r1 _ (feeds_enumL a1)⟩
      · cases hs
    · cases hs
  · cases hf
/-! ## tuple(range(..)), list(range(..)) -/
def rgD (a b : Int) : List Dv := (List.range (b - a).toNat).map fun i => .int (a + (i : Nat))
theorem dvs_rg {K : Frg} {ρ : List Addr} {H : Hp} (a b : Int) : DVs K ρ H (rgD a b) (rgV a b) := by
  unfold rgD rgV
  induction List.range (b - a).toNat with
  | nil => exact .nil
  | cons x r ih => exact .cons (.int _) ih
def rgOk (a b : Int) : Bool := decide (-(2 ^ 62) ≤ a ∧ a < 2 ^ 62 ∧ -(2 ^ 62) ≤ b ∧ b < 2 ^ 62 ∧ (b - a).toNat ≤ 2 ^ 24)
theorem rgOk_of {a b : Int} (h : rgOk a b = true) : RgOk a b := by
  have := of_decide_eq_true h
  exact this
/-- an expression that makes a range -/
abbrev FR := En → Mem → Option ((Int × Int) × Mem)
def tRz (K : Frg) (ct : Ct) (f : FR) : L2.St → Hp → (Int → Int → Hp → Prop) → Prop := fun σ H Q => ∃ ρ M env, Rl K ct ρ M H ∧ EnOk K ρ H env σ ∧ ∃ q M', f env M = some (q, M') ∧ Aft K ct ρ H M' fun _ H' => Q q.1 q.2 H'
abbrev SR (X : Cx) (ct : Ct) (e : Expr) (f : FR) : Prop := PRg X e (tRz X.K ct f)
def fRg1 (f : FE) : FR := fun env M => bnd (f env M) fun d M1 => match d with
  | .int n => some ((0, n), M1)
  | _ => none
def fRg2 (f g : FE) : FR := fun env M => bnd (f env M) fun d M1 => bnd (g env M1) fun d2 M2 => match d, d2 with
  | .int i, .int j => some ((i, j), M2)
  | _, _ => none
theorem sr_1 (hg : Gl X "range") (hm : X.mg "range" = none) (ha : SE X ct e fe) (na : starEach [e] X.env = (false, eval e X.env) :: starEach [] X.env := by rfl) : SR X ct (.Call (.Name "range" p) [e] [] pos) (fRg1 fe) := by
  intro pins s σ H Q I w
  refine prg_1 hg hm ha na pins s σ H Q I ?_
  obtain ⟨ρ, M, env, r, he, q, M', hf, hq⟩ := w
  obtain ⟨d, M1, h1, hf⟩ := bnd_some hf
  refine ⟨ρ, M, env, r, he, d, M1, h1, fun ρ1 H1 e1 r1 v dv => ?_⟩
  split at hf
  · cases hf; cases dv
    exact ⟨_, rfl, hq ρ1 H1 e1 r1⟩
  · cases hf
theorem sr_2 (hg : Gl X "range") (hm : X.mg "range" = none) (ha : SE X ct e fe) (hb : SE X ct e2 f2) (na : starEach [e, e2] X.env = (false, eval e X.env) :: starEach [e2] X.env := by rfl) (nb : starEach [e2] X.env = (false, eval e2 X.env) :: starEach [] X.env := by rfl) (hpl : (backTo pos (starEach [e2] X.env)).any (·.1) = false := by rfl) : SR X ct (.Call (.Name "range" p) [e, e2] [] pos) (fRg2 fe f2) := by
  intro pins s σ H Q I w
  refine prg_2 hg hm ha hb na nb hpl pins s σ H Q I ?_
  obtain ⟨ρ, M, env, r, he, q, M', hf, hq⟩ := w
  obtain ⟨d, M1, h1, hf⟩ := bnd_some hf
  obtain ⟨d2, M2, h2, hf⟩ := bnd_some hf
  refine ⟨ρ, M, env, r, he, d, M1, h1, fun ρ1 H1 e1 r1 v dv => ⟨ρ1, M1, env, r1, he.mono e1, d2, M2, h2, fun ρ2 H2 e2 r2 u du => ?_⟩⟩
  split at hf
  · cases hf; cases dv; cases du
    exact ⟨_, _, rfl, rfl, hq ρ2 H2 (e1.trans e2) r2⟩
  · cases hf
def fTupR (f : FR) : FE := fun env M => bnd (f env M) fun q M1 => if rgOk q.1 q.2 then some (.tup (rgD q.1 q.2), M1) else none
def fLstR (f : FR) : FE := fun env M => bnd (f env M) fun q M1 => if rgOk q.1 q.2 then some (.loc M1.length, M1 ++ [.lst (rgD q.1 q.2)]) else none
theorem pe_tupRF {te : L2.St → Hp → (Int → Int → Hp → Prop) → Prop} (hc : X.calm = true) (hg : Gl X "tuple") (hm : X.mg "tuple" = none) (he : PRg X e te) (na : starEach [e] X.env = (false, eval e X.env) :: starEach [] X.env := by rfl) :
    PE X (.Call (.Name "tuple" p) [e] [] pos) (fun σ H Q => te σ H fun a b H1 => RgOk a b ∧ ∀ q o, H1 q = none → o.dict = none → Q (.ref q) (upd H1 q (.frz o (.tup (rgV a b))))) := by
  refine ⟨fun pins s σ H Q I h => ?_⟩
  refine Call_ (ld_blt I hg hm boot_tuple (PyProof.Rows.callWith_type1 (args_cons (thn (he pins s σ H _ I h) fun x s1 z => args_nil ?_) na) na))
  obtain ⟨r, a, b, t, u, v, H1, rfl, hr, I1, ok, q⟩ := z
  obtain ⟨b1, b2, b3, b4, b5⟩ := ok
  refine call_tuple_range (n := (b - a).toNat) (I1.ok.hd hc) hr (small_one b1 b2 b3 b4) (rangeSize_nat a b) b5 fun h' tk acc hk hi => ?_
  have I2 : Inv X pins σ H1 { s1 with heap := h', toks := tk } := I1.kept hk
  have Z := layT (tk := tk) I2 (vals_rg hi) (by rw [rgV_length, sizeLine_eq]; omega)
  rw [Array.toArray_toList] at Z
  exact ⟨V.ref h'.objs.size, _, Z, rfl, q _ _ (I2.hok.fresh (Nat.le_refl _)) rfl⟩
theorem se_tupR {fq : FR} (hc : X.calm = true) (hg : Gl X "tuple") (hm : X.mg "tuple" = none) (he : SR X ct e fq) (na : starEach [e] X.env = (false, eval e X.env) :: starEach [] X.env := by rfl) : SE X ct (.Call (.Name "tuple" p) [e] [] pos) (fTupR fq) :=
  PE.imp (pe_tupRF hc hg hm he na) fun σ H Q ⟨ρ, M, env, r, hen, d, M', hf, hq⟩ => by
    obtain ⟨q, M1, h1, hf⟩ := bnd_some hf
    split at hf
    · rename_i hk
      cases hf
      exact ⟨ρ, M, env, r, hen, q, _, h1, fun ρ1 H1 e1 r1 => ⟨rgOk_of hk, fun p o hp ho => hq ρ1 _ (e1.trans (Ext.fresh hp)) (r1.tup hp _) _ (.tup (TupD.new ho) (dvs_rg _ _))⟩⟩
    · cases hf
theorem se_lstR {fq : FR} (hc : X.calm = true) (hg : Gl X "list") (hm : X.mg "list" = none) (he : SR X ct e fq) (na : starEach [e] X.env = (false, eval e X.env) :: starEach [] X.env := by rfl) : SE X ct (.Call (.Name "list" p) [e] [] pos) (fLstR fq) :=
  PE.imp (pe_listRg hc hg hm he na) fun σ H Q ⟨ρ, M, env, r, hen, d, M', hf, hq⟩ => by
    obtain ⟨q, M1, h1, hf⟩ := bnd_some hf
    split at hf
    · rename_i hk
      cases hf
      refine ⟨ρ, M, env, r, hen, q, _, h1, fun ρ1 H1 e1 r1 => ⟨rgOk_of hk, fun p hp => ?_⟩⟩
      obtain ⟨r2, e2, h2⟩ := r1.newL hp (dvs_rg q.1 q.2)
      exact hq _ _ (e1.trans e2) r2 _ (.loc h2)
    · cases hf
/-! ## two roads by what a value is -/
theorem PE.or {t t' : TE} (h : PE X e t) (h' : PE X e t') : PE X e (fun σ H Q => t σ H Q ∨ t' σ H Q) := ⟨fun pins s σ H Q I w => w.elim (h.run pins s σ H Q I) (h'.run pins s σ H Q I)⟩
theorem PG.or {t t' : TG} (h : PG X e t) (h' : PG X e t') : PG X e (fun v σ H Q => t v σ H Q ∨ t' v σ H Q) := ⟨fun pins s σ H v u Q I r w => w.elim (h.run pins s σ H v u Q I r) (h'.run pins s σ H v u Q I r)⟩
/-- f where it serves, else g -/
def fOr (f g : FE) : FE := fun env M => match f env M with
  | some y => some y
  | none => g env M
theorem se_or2 (h : SE X ct e fe) (h' : SE X ct e f2) : SE X ct e (fOr fe f2) :=
  PE.imp (PE.or h h') fun σ H Q ⟨ρ, M, env, r, he, d, M', hf, hq⟩ => by
    unfold fOr at hf
    split at hf
    · rename_i y hy
      cases hf
      exact .inl ⟨ρ, M, env, r, he, d, M', hy, hq⟩
    · exact .inr ⟨ρ, M, env, r, he, d, M', hf, hq⟩
def gOr (f g : FG) : FG := fun d env M => match f d env M with
  | some y => some y
  | none => g d env M
theorem sg_or2 {ws : List Nat} {f g : FG} (h : SG X ct ws e f) (h' : SG X ct ws e g) : SG X ct ws e (gOr f g) :=
  PG.imp (PG.or h h') fun v σ H Q ⟨ρ, M, env, d, r, he, dv, env', M', hf, hq⟩ => by
    unfold gOr at hf
    split at hf
    · rename_i y hy
      cases hf
      exact .inl ⟨ρ, M, env, d, r, he, dv, env', M', hy, hq⟩
    · exact .inr ⟨ρ, M, env, d, r, he, dv, env', M', hf, hq⟩
end
end Zl

/-! text Z12 -/
namespace Zl
open PySem L2 PySem.Spec PyProof.Rows
section
variable {X : Cx} {ct : Ct} {pos : Pos}
theorem sv_l {x : Str} (i : Nat) (hN : X.N[i]? = some x := by rfl) (hv : X.env.scope.names.lookup x = some .local := by exact rfl) (hd : (x == ("__debug__" : Str)) = false := by decide) (hcd : (x == ("__classdict__" : Str)) = false := by decide) : SE X ct (.Name x pos) (fV i) := se_var hN (.inl hv) hd hcd
theorem sv_c {x : Str} (i : Nat) (hN : X.N[i]? = some x := by rfl) (hv : X.env.scope.names.lookup x = some .cell := by exact rfl) (hd : (x == ("__debug__" : Str)) = false := by decide) (hcd : (x == ("__classdict__" : Str)) = false := by decide) : SE X ct (.Name x pos) (fV i) := se_var hN (.inr (.inl hv)) hd hcd
theorem sv_f {x : Str} (i : Nat) (hN : X.N[i]? = some x := by rfl) (hv : Vis X.env.scope x := by first | exact Or.inr (Or.inl rfl) | exact Or.inr (Or.inr rfl)) (hd : (x == ("__debug__" : Str)) = false := by decide) (hcd : (x == ("__classdict__" : Str)) = false := by decide) : SE X ct (.Name x pos) (fV i) := se_var hN hv hd hcd
theorem hu65 {k : Nat} {A : Around} (r : Room k A) : A.units + 65 < cLine := by have := r.un; omega
/-- a constant of the module -/
def GlobIs (K : Frg) (mg : Str → Option Value) (x : Str) (d : Dv) : Prop := ∃ (v : V) (u : Value), mg x = some u ∧ RelV v u ∧ ∀ ρ H, DV K ρ H d v
theorem se_globIs {x : Str} {d : Dv} (hg : Gl X x) (g : GlobIs X.K X.mg x d) (hd : (x == ("__debug__" : Str)) = false := by decide) : SE X ct (.Name x pos) (fK d) := by
  obtain ⟨v, u, h1, h2, h3⟩ := g
  exact se_glob hg h1 h2 h3 hd
def lcountD : FM
  | .loc n, [x], M => match M[n]? with
    | some (.lst ys) => if flatD x && ys.all flatD then some (.int (ys.countP fun y => eqF y x : Nat), M) else none
    | _ => none
  | _, _, _ => none
theorem sm_lcount : SM X ct "list.count" lcountD := by
  intro pins s σ H x xs v us Q I rx rxs w
  obtain ⟨ρ, M, d, ds, r, dx, dxs, z, M', hf, hq⟩ := w
  unfold lcountD at hf
  split at hf
  · split at hf
    · rename_i ys hm
      obtain ⟨a, vs, rfl, a1, a2, a3⟩ := r.lst hm dx
      obtain ⟨y, rfl, dy⟩ := dvs_one dxs
      obtain ⟨u, rfl, ru⟩ := vals1 rxs
      split at hf
      · rename_i hl
        rw [Bool.and_eq_true] at hl
        cases hf
        cases rx
        obtain ⟨ws, rw', ⟨⟨cls, dd, data, sl⟩, n, ho, hc, hc2, hd'⟩, hz⟩ := I.list (SqL.of a2)
        simp only at hc hc2 hd'
        subst hc hc2 hd'
        refine call_meets PySem.F.slot_list_count ⟨_, ho, rfl⟩ PySem.F.entry_list_count (PySem.F.args_list_count_2 _ _)
          (SeqAt.list_countAt _ ws.toArray n none sl u (eqU y)) ⟨ho, fun c hc => mem_eqAt ru (by rw [flat_of dy]; exact hl.1) rw' (by rw [flats_of a3]; exact hl.2) c (by simpa using hc), ?_⟩
        refine ⟨V.int (ws.countP (eqU y) : Nat), H, I.tok _, ⟨s.toks, rfl⟩, ?_⟩
        rw [count_eqU dy hl.1 a3 rw' hl.2]
        exact hq ρ H .refl r _ (.int _)
      · cases hf
    · cases hf
  · cases hf
end
end Zl

/-! text Z14 -/
namespace Zl
open PySem L2 PySem.Spec PyProof.Rows

/-! ## zip of two tuples, of two lists -/
def zipAt (xs ys : List Dv) (i : Nat) : Option Dv := match xs[i]?, ys[i]? with
  | some x, some y => some (.pr [x, y])
  | _, _ => none
def srcZ (M : Mem) : Dv → Dv → Option Src
  | .tup xs, .tup ys => some ⟨min xs.length ys.length, fun i _ => some (zipAt xs ys i)⟩
  | .loc m, .loc n => match M[m]?, M[n]? with
    | some (.lst xs), some (.lst ys) => some ⟨min xs.length ys.length, fun i M => match M[m]?, M[n]? with
      | some (.lst xs), some (.lst ys) => some (zipAt xs ys i)
      | _, _ => none⟩
    | _, _ => none
  | _, _ => none
def fZip (f g : FE) : FI := fun env M => bnd (f env M) fun d M1 => bnd (g env M1) fun e M2 => match srcZ M2 d e with
  | some s => some (s, M2)
  | none => none
section
variable {X : Cx} {ct : Ct} {e e2 : Expr} {elts : List Expr} {kk : Nat} {p pos tpos : Pos} {fe f2 : FE}
theorem feeds_zipT {K : Frg} {ρ0 : List Addr} {H0 : Hp} {a b : Addr} {xs ys : List Dv} {vs ws : List V} (hs : TupD K H0 a vs) (hd : DVs K ρ0 H0 xs vs) (hs' : TupD K H0 b ws) (hd' : DVs K ρ0 H0 ys ws) : Feeds K ct ρ0 H0 (RZ.ItzT K a b) (fun i _ => some (zipAt xs ys i)) := by
  intro i ρ M H x r
  dsimp only
  unfold zipAt
  cases q : xs[i]? with
  | none => exact ⟨vs, ws, (hs.mono x).sq, (hs'.mono x).sq, .inl (by rw [← hd.length]; exact List.getElem?_eq_none_iff.mp q)⟩
  | some d =>
    cases q' : ys[i]? with
    | none => exact ⟨vs, ws, (hs.mono x).sq, (hs'.mono x).sq, .inr (by rw [← hd'.length]; exact List.getElem?_eq_none_iff.mp q')⟩
    | some d' =>
      obtain ⟨v, h1, h2⟩ := hd.get q
      obtain ⟨v', h1', h2'⟩ := hd'.get q'
      refine ⟨⟨vs, ws, v, v', (hs.mono x).sq, (hs'.mono x).sq, h1, h1'⟩, fun y H' hy => ?_⟩
      obtain ⟨T, z, z', rfl, hT, rfl, hy, hy'⟩ := hy
      have e1 := hy vs (hs.mono x).sq
      rw [h1] at e1; cases e1
      have e2 := hy' ws (hs'.mono x).sq
      rw [h1'] at e2; cases e2
      exact ⟨Ext.fresh hT, r.tup hT _, .pr (SqT.of upd_same) (.cons ((h2.mono x).mono (Ext.fresh hT)) (.cons ((h2'.mono x).mono (Ext.fresh hT)) .nil))⟩
theorem feeds_zipL {K : Frg} {ρ0 : List Addr} {H0 : Hp} {a b : Addr} {m n : Nat} (hm : ρ0[m]? = some a) (hn : ρ0[n]? = some b) : Feeds K ct ρ0 H0 (Itz K a b) (fun i M => match M[m]?, M[n]? with
      | some (.lst xs), some (.lst ys) => some (zipAt xs ys i)
      | _, _ => none) := by
  intro i ρ M H x r
  dsimp only
  cases h1 : M[m]? with
  | none => trivial
  | some o =>
    cases o with
    | ins c fs => trivial
    | dct kvs => trivial
    | dcn kvs => trivial
    | st xs => trivial
    | sk xs => trivial
    | lst xs =>
      cases h2 : M[n]? with
      | none => trivial
      | some o2 =>
        cases o2 with
        | ins c fs => trivial
        | dct kvs => trivial
        | dcn kvs => trivial
        | st xs => trivial
        | sk xs => trivial
        | lst ys =>
          obtain ⟨a', vs, ea, a1, a2, a3⟩ := r.lst h1 (.loc (x.pre m a hm))
          cases ea
          obtain ⟨b', ws, eb, b1, b2, b3⟩ := r.lst h2 (.loc (x.pre n b hn))
          cases eb
          show (match some (zipAt xs ys i) with | some (some d) => _ | some none => _ | none => _)
          unfold zipAt
          cases q : xs[i]? with
          | none => exact ⟨vs, ws, SqL.of a2, SqL.of b2, .inl (by rw [← a3.length]; exact List.getElem?_eq_none_iff.mp q)⟩
          | some d =>
            cases q' : ys[i]? with
            | none => exact ⟨vs, ws, SqL.of a2, SqL.of b2, .inr (by rw [← b3.length]; exact List.getElem?_eq_none_iff.mp q')⟩
            | some d' =>
              obtain ⟨v, g1, g2⟩ := a3.get q
              obtain ⟨v', g1', g2'⟩ := b3.get q'
              refine ⟨⟨vs, ws, v, v', SqL.of a2, SqL.of b2, g1, g1'⟩, fun y H' hy => ?_⟩
              obtain ⟨T, z, z', rfl, hT, rfl, hy, hy'⟩ := hy
              have e1 := hy vs (SqL.of a2)
              rw [g1] at e1; cases e1
              have e2 := hy' ws (SqL.of b2)
              rw [g1'] at e2; cases e2
              exact ⟨Ext.fresh hT, r.tup hT _, .pr (SqT.of upd_same) (.cons (g2.mono (Ext.fresh hT)) (.cons (g2'.mono (Ext.fresh hT)) .nil))⟩
theorem si_zip (hg : Gl X "zip") (hm : X.mg "zip" = none) (h : SE X ct e fe) (h2 : SE X ct e2 f2) (hs1 : starEach [e, e2] X.env = (false, eval e X.env) :: starEach [e2] X.env := by rfl) (hs2 : starEach [e2] X.env = [(false, eval e2 X.env)] := by rfl)
    (hpl : (backTo pos (starEach [e2] X.env)).any (·.1) = false := by rfl) : SI X ct (.Tuple elts kk tpos) (.Call (.Name "zip" p) [e, e2] [] pos) (fZip fe f2) := by
  refine PI.imp (RZ.pi_zipA hg hm (sa_cons h (sa_cons h2 sa_nil hs2) hs1) hs1 hpl) fun σ H R ⟨ρ, M, env, r, he, src, M', hf, hq⟩ => ?_
  obtain ⟨d, M1, h1, hf⟩ := bnd_some hf
  obtain ⟨d2, M2, h2, hf⟩ := bnd_some hf
  split at hf
  · rename_i s0 hs
    cases hf
    refine ⟨ρ, M, env, r, he, [d, d2], M', by show bnd (fe env M) _ = _; rw [h1]; show bnd (bnd (f2 env M1) _) _ = _; rw [h2]; rfl, fun ρ1 H1 e1 r1 vs dvs => ?_⟩
    obtain ⟨u, u', rfl, q1, q2⟩ := dvs_two dvs
    unfold srcZ at hs
    split at hs
    · cases hs
      cases q1 with
      | tup hs1 hd1 =>
        cases q2 with
        | tup hs2 hd2 => exact ⟨_, _, _, _, rfl, .inr ⟨hs1.sq, hs2.sq, hq ρ1 H1 e1 r1 _ (feeds_zipT hs1 hd1 hs2 hd2)⟩⟩
    · split at hs
      · rename_i g1 g2
        cases hs
        obtain ⟨a, ws, rfl, a1, a2, a3⟩ := r1.lst g1 q1
        obtain ⟨b, ws2, rfl, b1, b2, b3⟩ := r1.lst g2 q2
        exact ⟨_, _, _, _, rfl, .inl ⟨SqL.of a2, SqL.of b2, hq ρ1 H1 e1 r1 _ (feeds_zipL a1 b1)⟩⟩
      · cases hs
    · cases hs
  · cases hf
end
end Zl

/-! text Z15 -/
namespace Zl
open PySem L2 PySem.Spec PyProof.Rows
section
variable {X : Cx} {ct : Ct}
/-- repr of flat values, too -/
def reprE : List Dv → Mem → Rz
  | [.bl b], M => some (.str (if b then "True" else "False"), M)
  | [.non], M => some (.str "None", M)
  | [.str x], M => if (reprText x).length ≤ sizeLine then some (.str (reprText x), M) else none
  | ds, M => reprD ds M
theorem sc_reprE (hg : X.A.guards = some []) (hu : X.A.units + 64 < cLine) : SC X ct (.builtin "repr") reprE := by
  intro pins s σ H xs us Q I rv h
  obtain ⟨ρ, M, ds, r, dv, z, M', hf, hq⟩ := h
  unfold reprE at hf
  split at hf
  · cases hf
    obtain ⟨v, rfl, d1⟩ := dvs_one dv
    cases d1
    obtain ⟨u, rfl, ru⟩ := vals1 rv
    cases ru
    exact PySem.P.repr_of_bool ⟨.str _, H, I.tok _, ⟨_, rfl⟩, hq ρ H .refl r _ (.str _)⟩
  · cases hf
    obtain ⟨v, rfl, d1⟩ := dvs_one dv
    cases d1
    obtain ⟨u, rfl, ru⟩ := vals1 rv
    cases ru
    exact PySem.P.repr_of_none ⟨.str _, H, I.tok _, ⟨_, rfl⟩, hq ρ H .refl r _ (.str _)⟩
  · split at hf
    · rename_i hl
      cases hf
      obtain ⟨v, rfl, d1⟩ := dvs_one dv
      cases d1
      obtain ⟨u, rfl, t, rfl⟩ := vals1 rv
      exact PySem.P.repr_of_str ⟨.str _, H, I.tok _, ⟨_, rfl⟩, hq ρ H .refl r _ (.str _)⟩ hl
    · cases hf
  · exact sc_repr hg hu pins s σ H xs us Q I rv ⟨ρ, M, ds, r, dv, z, M', hf, hq⟩
/-- is None, is True, is False -/
def isE (neg : Bool) : Dv → Dv → Mem → Rz
  | .bl a, .bl b, M => some (.bl (xor neg (decide (a = b))), M)
  | d, e, M => isD neg d e M
theorem so_isE : SO X ct (compareOp .Is) (isE false) := by
  intro pins s σ H x y v u Q I rx ry h
  obtain ⟨ρ, M, d, e, r, dx, dy, z, M', hf, hq⟩ := h
  unfold isE at hf
  split at hf
  · cases hf; cases dx; cases dy
    exact op_isBl pins s σ H _ _ v u Q I rx ry ⟨_, _, rfl, rfl, hq ρ H .refl r _ (by rw [Bool.false_xor]; exact .bl _)⟩
  · exact so_is pins s σ H x y v u Q I rx ry ⟨ρ, M, _, _, r, dx, dy, z, M', hf, hq⟩
theorem so_isnotE : SO X ct (compareOp .IsNot) (isE true) := by
  intro pins s σ H x y v u Q I rx ry h
  obtain ⟨ρ, M, d, e, r, dx, dy, z, M', hf, hq⟩ := h
  unfold isE at hf
  split at hf
  · cases hf; cases dx; cases dy
    exact op_notBl pins s σ H _ _ v u Q I rx ry ⟨_, _, rfl, rfl, hq ρ H .refl r _ (by rw [Bool.true_xor]; exact .bl _)⟩
  · exact so_isnot pins s σ H x y v u Q I rx ry ⟨ρ, M, _, _, r, dx, dy, z, M', hf, hq⟩
end
end Zl

/-! text Z16 -/
namespace Zl
open PySem L2 PySem.Spec PyProof.Rows
section
variable {X : Cx} {ct : Ct}
def signsD (x : Str) : List Dv := x.cps.toList.map fun c => .str ⟨#[c]⟩
def signsV (x : Str) : List V := x.cps.toList.map fun c => .str ⟨#[c]⟩
theorem dvs_signs {K : Frg} {ρ : List Addr} {H : Hp} : ∀ cs : List Nat, DVs K ρ H (cs.map fun c => Dv.str ⟨#[c]⟩) (cs.map fun c => V.str ⟨#[c]⟩)
  | [] => .nil
  | c :: cs => .cons (.str _) (dvs_signs cs)
/-- list(text), too -/
def lstE : List Dv → Mem → Rz
  | [.str x], M => if x.cps.size ≤ sizeLine then some (.loc M.length, M ++ [.lst (signsD x)]) else none
  | ds, M => lstD ds M
theorem sc_listE (hc : X.calm = true) : SC X ct (.type "list") lstE := by
  intro pins s σ H xs us Q I rv h
  obtain ⟨ρ, M, ds, r, dv, z, M', hf, hq⟩ := h
  unfold lstE at hf
  split at hf
  · rename_i a0 b0 x
    split at hf
    · rename_i hl
      cases hf
      obtain ⟨v, rfl, d1⟩ := dvs_one dv
      cases d1
      obtain ⟨u, rfl, t, rfl⟩ := vals1 rv
      refine call_list_str (I.ok.hd hc) x t (fun h' tk acc' c' hkeep hS hacc => ?_) hl
      obtain ⟨r2, e2, h2⟩ := r.newL (I.hok.fresh (Nat.le_refl s.heap.objs.size)) (dvs_signs (K := X.K) (ρ := ρ) (H := H) x.cps.toList)
      refine ⟨.ref s.heap.objs.size, upd H s.heap.objs.size (.lst (signsV x)), I.laid hkeep (Nat.le_refl _) (show ObjOk X.prog X.w _ _ _ (.lst (signsV x)) from ⟨?_, acc'.toList, c', ?_, ?_⟩), rfl, hq _ _ e2 r2 _ (.loc h2)⟩
      · unfold signsV; rw [List.length_map]; simpa using hl
      · have el : acc'.toList.length = acc'.size := by simp
        refine vals_of_at (by unfold signsV; rw [List.length_map, el, hacc.1]; simp) fun j y w h1 h2 => ?_
        have := hacc.2 j w (by rw [← Array.getElem?_toList]; exact h2)
        obtain ⟨c, t', hc', rfl⟩ := this
        unfold signsV at h1
        rw [List.getElem?_map, Array.getElem?_toList, hc'] at h1
        simp at h1
        subst h1
        exact ⟨t', rfl⟩
      · simpa using hS
    · cases hf
  · exact sc_list pins s σ H xs us Q I rv ⟨ρ, M, ds, r, dv, z, M', hf, hq⟩
end
end Zl

/-! text ZN -/
namespace Zl
open PySem L2 PySem.Spec PyProof.Rows

/-! ## dicts whose keys are nested tuples -/
def valN (kvs : List (NestedKey × Dv × Dv)) (k : NestedKey) : Option Dv := (kvs.find? fun kv => decide (kv.1 = k)).map (·.2.2)
def putN (kvs : List (NestedKey × Dv × Dv)) (k : NestedKey) (kd v : Dv) : List (NestedKey × Dv × Dv) :=
  if (valN kvs k).isSome then kvs.map (fun kv => if kv.1 = k then (kv.1, kv.2.1, v) else kv) else kvs ++ [(k, kd, v)]
section
variable {X : Cx} {ct : Ct} {ρ : List Addr} {H : Hp} {M : Mem} {pins : List (Addr × Obj)} {σ : L2.St} {s : Shared}
theorem nest_all {n : Nat} (I : L2.Inv X pins σ H s) (ih : ∀ {d : Dv} {v : V} {u : Value} {k : NestedKey}, DV X.K ρ H d v → RelV v u → nkN n d = some k → NestedIs s.heap k u ∧ k.depth ≤ n) :
    ∀ {ds : List Dv} {vs : List V} {us : List Value} {ks : List NestedKey}, DVs X.K ρ H ds vs → Vals vs us → nkL (nkN n) ds = some ks → NestedAll s.heap ks us ∧ NestedKey.depthAll ks ≤ n
  | [], _, _, ks, h, r, e => by
    cases h
    cases r
    cases e
    exact ⟨.nil, Nat.zero_le _⟩
  | d :: ds, _, _, ks, h, r, e => by
    cases h with
    | cons h1 h2 =>
      cases r with
      | cons r1 r2 =>
        unfold nkL at e
        split at e
        · rename_i k hk
          split at e
          · rename_i ks' hks
            cases e
            obtain ⟨a1, a2⟩ := ih h1 r1 hk
            obtain ⟨b1, b2⟩ := nest_all I ih h2 r2 hks
            exact ⟨.cons a1 b1, by unfold NestedKey.depthAll; exact Nat.max_le.mpr ⟨a2, b2⟩⟩
          · cases e
        · cases e
theorem nest_is (I : L2.Inv X pins σ H s) : ∀ (n : Nat) {d : Dv} {v : V} {u : Value} {k : NestedKey}, DV X.K ρ H d v → RelV v u → nkN n d = some k → NestedIs s.heap k u ∧ k.depth ≤ n := by
  intro n
  induction n with
  | zero =>
    intro d v u k h r e
    cases h with
    | non => cases e; cases r; exact ⟨.none, Nat.zero_le _⟩
    | bl b => cases e; cases r; exact ⟨.bool rfl, Nat.zero_le _⟩
    | int i => cases e; obtain ⟨t, rfl⟩ := r; exact ⟨.int _ _, Nat.zero_le _⟩
    | str x => cases e; obtain ⟨t, rfl⟩ := r; exact ⟨.text _ _, Nat.zero_le _⟩
    | _ => cases e
  | succ n ih =>
    intro d v u k h r e
    cases h with
    | non => cases e; cases r; exact ⟨.none, Nat.zero_le _⟩
    | bl b => cases e; cases r; exact ⟨.bool rfl, Nat.zero_le _⟩
    | int i => cases e; obtain ⟨t, rfl⟩ := r; exact ⟨.int _ _, Nat.zero_le _⟩
    | str x => cases e; obtain ⟨t, rfl⟩ := r; exact ⟨.text _ _, Nat.zero_le _⟩
    | tup hs hd =>
      unfold nkN at e
      split at e
      · rename_i ks hks
        cases e
        cases r
        obtain ⟨its, rv, ⟨o, ho, hc, m, hdt⟩, _⟩ := I.tuple hs.sq
        obtain ⟨a1, a2⟩ := nest_all I ih hd rv hks
        exact ⟨.tup ho hc hdt (by simpa using a1), by unfold NestedKey.depth; omega⟩
      · cases e
    | _ => cases e
/-- a tuple that is a key stands somewhere -/
theorem key_is (I : L2.Inv X pins σ H s) {d : Dv} {v : V} {u : Value} {k : NestedKey} (h : DV X.K ρ H d v) (r : RelV v u) (e : keyN d = some k) : ∃ b, v = .ref b ∧ u = .ref b ∧ (nestedKind X.prog X.w).is s.heap k b := by
  unfold keyN at e
  split at e
  · have z := nest_is I 8 h r e
    cases h with
    | tup hs hd =>
      cases r
      exact ⟨_, rfl, rfl, z⟩
  · cases e
theorem Rl.dcn {K : Frg} (r : Rl K ct ρ M H) {n : Nat} {kvs : List (NestedKey × Dv × Dv)} (hm : M[n]? = some (.dcn kvs)) {v : V} (hv : DV K ρ H (.loc n) v) :
    ∃ a xs vs, v = .ref a ∧ ρ[n]? = some a ∧ H a = some (NDic ct.prg ct.wd a xs) ∧ kvs.map (·.1) = xs.map (·.1) ∧ (∀ p ∈ kvs, keyN p.2.1 = some p.1) ∧
      DVs K ρ H (kvs.map (·.2.1)) (xs.map fun x => V.ref x.2.1) ∧ DVs K ρ H (kvs.map (·.2.2)) vs ∧ Vals vs (xs.map (·.2.2)) := by
  obtain ⟨a, h1, xs, vs, h2⟩ := r.ok n _ hm
  cases hv with
  | loc h => rw [h] at h1; cases h1; exact ⟨_, xs, vs, rfl, h, h2⟩
theorem keys_are (I : L2.Inv X pins σ H s) : ∀ {kvs : List (NestedKey × Dv × Dv)} {xs : List (NestedKey × Addr × Value)}, kvs.map (·.1) = xs.map (·.1) → (∀ p ∈ kvs, keyN p.2.1 = some p.1) → DVs X.K ρ H (kvs.map (·.2.1)) (xs.map fun x => V.ref x.2.1) →
    ∀ x ∈ xs, (nestedKind X.prog X.w).is s.heap x.1 x.2.1
  | [], [], _, _, _ => fun x hx => by simp at hx
  | [], _ :: _, e, _, _ => by cases e
  | _ :: _, [], e, _, _ => by cases e
  | p :: kvs, q :: xs, e, hk, h => by
    simp only [List.map_cons, List.cons.injEq] at e
    cases h with
    | cons h1 h2 =>
      intro x hx
      rcases List.mem_cons.mp hx with rfl | hx
      · obtain ⟨b, e1, e2, z⟩ := key_is I h1 (show RelV (.ref x.2.1) (.ref x.2.1) from rfl) (hk p (List.mem_cons_self ..))
        cases e1
        rw [← e.1]; exact z
      · exact keys_are I e.2 (fun y hy => hk y (List.mem_cons_of_mem _ hy)) h2 x hx
/-- the dict in the heap -/
theorem dn_of (I : L2.Inv X pins σ H s) (hp : ct.prg = X.prog) (hw : ct.wd = X.w) {a : Addr} {kvs : List (NestedKey × Dv × Dv)} {xs : List (NestedKey × Addr × Value)} (h : H a = some (NDic ct.prg ct.wd a xs)) (h1 : kvs.map (·.1) = xs.map (·.1))
    (h2 : ∀ p ∈ kvs, keyN p.2.1 = some p.1) (h3 : DVs X.K ρ H (kvs.map (·.2.1)) (xs.map fun x => V.ref x.2.1)) : s.heap.DictOfH (nestedKind X.prog X.w) a xs ∧ xs.length ≤ sizeLine ∧ (a == sysModules) = false := by
  rw [hp, hw] at h
  obtain ⟨o, es, ep, g1, g2, g3, g4, g5, g6, g7⟩ := (I.hok a _ h).1
  exact ⟨⟨o, es, ep, g1, g2, g3, g4, keys_are I h1 h2 h3, g5⟩, g6, g7⟩
theorem ndic_new {P : Program} {w : World} {h : Heap} {a : Addr} {xs : List (NestedKey × Addr × Value)} (d : h.DictOfH (nestedKind P w) a xs) (z : xs.length ≤ sizeLine) (hs : (a == sysModules) = false) : ObjOk P w H h a (NDic P w a xs) := by
  obtain ⟨o, es, ep, g1, g2, g3, g4, _, g5⟩ := d
  refine ⟨⟨o, es, ep, g1, g2, g3, g4, g5, z, hs⟩, ⟨o, g1⟩, fun h1 h2 p k => ?_⟩
  obtain ⟨o, es, ep, g1, r⟩ := p
  exact ⟨o, es, ep, k o g1, r⟩
/-- an empty dict is one with such keys, too -/
theorem dn_empty (I : L2.Inv X pins σ H s) {a : Addr} (h : H a = some (.dK [])) : s.heap.DictOfH (nestedKind X.prog X.w) a [] ∧ (a == sysModules) = false := by
  obtain ⟨_, hd, vs, r, dd⟩ := dk_of I.hok h
  cases r
  obtain ⟨o, es, ep, g1, g2, g3, g4, g5, g6⟩ := dd
  refine ⟨⟨o, es, ep, g1, g2, g3, ?_, fun x hx => by simp at hx, List.nodup_nil⟩, hd⟩
  cases hes : es.toList with
  | nil => rfl
  | cons e r =>
    rw [hes] at g5
    cases g5
theorem val_ofN {K : Frg} {k : NestedKey} : ∀ {kvs : List (NestedKey × Dv × Dv)} {xs : List (NestedKey × Addr × Value)} {vs : List V}, kvs.map (·.1) = xs.map (·.1) → DVs K ρ H (kvs.map (·.2.2)) vs → Vals vs (xs.map (·.2.2)) →
    (∀ d, valN kvs k = some d → ∃ p v, atKey xs k = some p ∧ DV K ρ H d v ∧ RelV v p.2) ∧ (valN kvs k = none → atKey xs k = none)
  | [], [], _, _, _, _ => ⟨fun d e => (by cases e), fun _ => rfl⟩
  | [], _ :: _, _, e, _, _ => by cases e
  | _ :: _, [], _, e, _, _ => by cases e
  | p :: kvs, q :: xs, _, e, h, r => by
    simp only [List.map_cons, List.cons.injEq] at e
    cases h with
    | cons h1 h2 =>
      cases r with
      | cons r1 r2 =>
        obtain ⟨i1, i2⟩ := val_ofN (k := k) e.2 h2 r2
        unfold valN atKey
        rw [List.find?_cons, List.find?_cons]
        by_cases z : p.1 = k
        · rw [decide_eq_true z, decide_eq_true (e.1 ▸ z)]
          exact ⟨fun d ed => ⟨_, _, rfl, by simp at ed; rw [← ed]; exact h1, r1⟩, fun ed => by simp at ed⟩
        · rw [decide_eq_false z, decide_eq_false (fun y => z (e.1.trans y))]
          exact ⟨i1, i2⟩
theorem some_ofN {K : Frg} {k : NestedKey} {kvs : List (NestedKey × Dv × Dv)} {xs : List (NestedKey × Addr × Value)} {vs : List V} (e : kvs.map (·.1) = xs.map (·.1)) (h : DVs K ρ H (kvs.map (·.2.2)) vs) (r : Vals vs (xs.map (·.2.2))) : (atKey xs k).isSome = (valN kvs k).isSome := by
  obtain ⟨i1, i2⟩ := val_ofN (k := k) e h r
  cases z : valN kvs k with
  | none => rw [i2 z]; rfl
  | some d => obtain ⟨p, v, e2, _⟩ := i1 d z; rw [e2]; rfl
theorem Vals.app {vs ws : List V} {us ts : List Value} (h : Vals vs us) (h' : Vals ws ts) : Vals (vs ++ ws) (us ++ ts) := h.append h'
/-- the store -/
theorem map_putN {K : Frg} {k : NestedKey} {d : Dv} {v : V} {u : Value} (hd : DV K ρ H d v) (hu : RelV v u) : ∀ {kvs : List (NestedKey × Dv × Dv)} {xs : List (NestedKey × Addr × Value)} {vs : List V}, kvs.map (·.1) = xs.map (·.1) → DVs K ρ H (kvs.map (·.2.2)) vs → Vals vs (xs.map (·.2.2)) →
    ∃ ws, (kvs.map fun kv => if kv.1 = k then (kv.1, kv.2.1, d) else kv).map (·.1) = (xs.map (putAt k u)).map (·.1) ∧ (kvs.map fun kv => if kv.1 = k then (kv.1, kv.2.1, d) else kv).map (·.2.1) = kvs.map (·.2.1) ∧
      ((xs.map (putAt k u)).map fun x => V.ref x.2.1) = (xs.map fun x => V.ref x.2.1) ∧ DVs K ρ H ((kvs.map fun kv => if kv.1 = k then (kv.1, kv.2.1, d) else kv).map (·.2.2)) ws ∧ Vals ws ((xs.map (putAt k u)).map (·.2.2))
  | [], [], _, _, h, r => by cases h; exact ⟨[], rfl, rfl, rfl, .nil, .nil⟩
  | [], _ :: _, _, e, _, _ => by cases e
  | _ :: _, [], _, e, _, _ => by cases e
  | p :: kvs, q :: xs, _, e, h, r => by
    simp only [List.map_cons, List.cons.injEq] at e
    cases h with
    | cons h1 h2 =>
      cases r with
      | cons r1 r2 =>
        rename_i v0 vs0
        obtain ⟨ws, i1, i2, i3, i4, i5⟩ := map_putN (k := k) hd hu e.2 h2 r2
        simp only [List.map_cons]
        by_cases z : p.1 = k
        · have z2 : q.1 = k := e.1 ▸ z
          refine ⟨v :: ws, ?_, ?_, ?_, ?_, ?_⟩
          · rw [if_pos z, i1]; unfold putAt; rw [if_pos z2, e.1]
          · rw [if_pos z, i2]
          · rw [i3]; unfold putAt; rw [if_pos z2]
          · rw [if_pos z]; exact .cons hd i4
          · unfold putAt; rw [if_pos z2]; exact .cons hu i5
        · have z2 : ¬ q.1 = k := fun y => z (e.1.trans y)
          refine ⟨v0 :: ws, ?_, ?_, ?_, ?_, ?_⟩
          · rw [if_neg z, i1]; unfold putAt; rw [if_neg z2, e.1]
          · rw [if_neg z, i2]
          · rw [i3]; unfold putAt; rw [if_neg z2]
          · rw [if_neg z]; exact .cons h1 i4
          · unfold putAt; rw [if_neg z2]; exact .cons r1 i5
theorem put_ofN {K : Frg} {k : NestedKey} {kd d : Dv} {b : Addr} {v : V} {u : Value} {kvs : List (NestedKey × Dv × Dv)} {xs : List (NestedKey × Addr × Value)} {vs : List V} (hk : keyN kd = some k) (hkd : DV K ρ H kd (.ref b)) (hd : DV K ρ H d v) (hu : RelV v u)
    (h1 : kvs.map (·.1) = xs.map (·.1)) (h2 : ∀ p ∈ kvs, keyN p.2.1 = some p.1) (h3 : DVs K ρ H (kvs.map (·.2.1)) (xs.map fun x => V.ref x.2.1)) (h4 : DVs K ρ H (kvs.map (·.2.2)) vs) (h5 : Vals vs (xs.map (·.2.2))) :
    ∃ ws, (putN kvs k kd d).map (·.1) = (storedH xs k b u).map (·.1) ∧ (∀ p ∈ putN kvs k kd d, keyN p.2.1 = some p.1) ∧ DVs K ρ H ((putN kvs k kd d).map (·.2.1)) ((storedH xs k b u).map fun x => V.ref x.2.1) ∧
      DVs K ρ H ((putN kvs k kd d).map (·.2.2)) ws ∧ Vals ws ((storedH xs k b u).map (·.2.2)) := by
  unfold putN storedH
  rw [some_ofN h1 h4 h5]
  cases z : (valN kvs k).isSome with
  | true =>
    rw [if_pos rfl, if_pos rfl]
    obtain ⟨ws, i1, i2, i3, i4, i5⟩ := map_putN (k := k) hd hu h1 h4 h5
    refine ⟨ws, i1, fun p hp => ?_, ?_, i4, i5⟩
    · obtain ⟨q, hq, rfl⟩ := List.mem_map.mp hp
      split
      · exact h2 q hq
      · exact h2 q hq
    · rw [i2, i3]; exact h3
  | false =>
    rw [if_neg (by decide), if_neg (by decide)]
    refine ⟨vs ++ [v], ?_, fun p hp => ?_, ?_, ?_, ?_⟩
    · rw [List.map_append, List.map_append, h1]; rfl
    · rcases List.mem_append.mp hp with y | y
      · exact h2 p y
      · rw [List.mem_singleton.mp y]; exact hk
    · rw [List.map_append, List.map_append]; exact h3.append (.cons hkd .nil)
    · rw [List.map_append]; exact h4.append (.cons hd .nil)
    · rw [List.map_append]; exact h5.append (.cons hu .nil)
end
end Zl

/-! text Z17 -/
namespace Zl
open PySem L2 PySem.Spec PyProof.Rows

/-! ## dicts whose keys are ints and texts -/
def keyD : Dv → Option Key
  | .int i => some (.inl i)
  | .str x => some (.inr x)
  | _ => none
def valD (kvs : List (Key × Dv)) (k : Key) : Option Dv := (kvs.find? fun kv => decide (kv.1 = k)).map (·.2)
def putDk (kvs : List (Key × Dv)) (k : Key) (v : Dv) : List (Key × Dv) :=
  if (kvs.any fun kv => decide (kv.1 = k)) = true then kvs.map (fun kv => if kv.1 = k then (kv.1, v) else kv) else kvs ++ [(k, v)]
section
variable {K : Frg} {ρ : List Addr} {H : Hp}
theorem keyD_of {d : Dv} {v : V} {k : Key} (h : DV K ρ H d v) (e : keyD d = some k) : v = kV k := by
  cases h <;> cases e <;> rfl
/-- what is found, what is not -/
theorem val_of {k : Key} : ∀ {kvs : List (Key × Dv)} {vs : List (Key × V)}, kvs.map (·.1) = vs.map (·.1) → DVs K ρ H (kvs.map (·.2)) (vs.map (·.2)) →
    (∀ d, valD kvs k = some d → ∃ v, valV vs k = some v ∧ DV K ρ H d v) ∧ (valD kvs k = none → valV vs k = none)
  | [], [], _, _ => ⟨fun d e => (by cases e), fun _ => rfl⟩
  | [], _ :: _, e, _ => by cases e
  | _ :: _, [], e, _ => by cases e
  | p :: kvs, q :: vs, e, h => by
    simp only [List.map_cons, List.cons.injEq] at e
    cases h with
    | cons h1 hr =>
      obtain ⟨i1, i2⟩ := val_of (k := k) e.2 hr
      unfold valD
      rw [List.find?_cons]
      by_cases z : p.1 = k
      · rw [decide_eq_true z]
        rw [valV_pos (e.1 ▸ z)]
        exact ⟨fun d ed => ⟨q.2, rfl, by simp at ed; rw [← ed]; exact h1⟩, fun ed => by simp at ed⟩
      · rw [decide_eq_false z]
        rw [valV_neg (fun y => z (e.1.trans y))]
        exact ⟨i1, i2⟩
theorem any_of_keys {k : Key} : ∀ {kvs : List (Key × Dv)} {vs : List (Key × V)}, kvs.map (·.1) = vs.map (·.1) → (kvs.any fun kv => decide (kv.1 = k)) = vs.any fun kv => decide (kv.1 = k)
  | [], [], _ => rfl
  | [], _ :: _, e => by cases e
  | _ :: _, [], e => by cases e
  | p :: kvs, q :: vs, e => by
    simp only [List.map_cons, List.cons.injEq] at e
    rw [List.any_cons, List.any_cons, any_of_keys e.2, e.1]
theorem map_put {k : Key} {x : Dv} {u : V} (hx : DV K ρ H x u) : ∀ {kvs : List (Key × Dv)} {vs : List (Key × V)}, kvs.map (·.1) = vs.map (·.1) → DVs K ρ H (kvs.map (·.2)) (vs.map (·.2)) →
    (kvs.map fun kv => if kv.1 = k then (kv.1, x) else kv).map (·.1) = (vs.map fun kv => if kv.1 = k then (kv.1, u) else kv).map (·.1) ∧
    DVs K ρ H ((kvs.map fun kv => if kv.1 = k then (kv.1, x) else kv).map (·.2)) ((vs.map fun kv => if kv.1 = k then (kv.1, u) else kv).map (·.2))
  | [], [], _, _ => ⟨rfl, .nil⟩
  | [], _ :: _, e, _ => by cases e
  | _ :: _, [], e, _ => by cases e
  | p :: kvs, q :: vs, e, h => by
    simp only [List.map_cons, List.cons.injEq] at e
    cases h with
    | cons h1 hr =>
      obtain ⟨i1, i2⟩ := map_put (k := k) hx e.2 hr
      simp only [List.map_cons, List.cons.injEq]
      by_cases z : p.1 = k
      · rw [if_pos z, if_pos (e.1 ▸ z)]
        exact ⟨⟨e.1, i1⟩, .cons hx i2⟩
      · rw [if_neg z, if_neg (fun y => z (e.1.trans y))]
        exact ⟨⟨e.1, i1⟩, .cons h1 i2⟩
theorem put_of {k : Key} {x : Dv} {u : V} {kvs : List (Key × Dv)} {vs : List (Key × V)} (hx : DV K ρ H x u) (e : kvs.map (·.1) = vs.map (·.1)) (h : DVs K ρ H (kvs.map (·.2)) (vs.map (·.2))) :
    (putDk kvs k x).map (·.1) = (putK vs k u).map (·.1) ∧ DVs K ρ H ((putDk kvs k x).map (·.2)) ((putK vs k u).map (·.2)) := by
  unfold putDk putK
  rw [any_of_keys e]
  split
  · exact map_put hx e h
  · rw [List.map_append, List.map_append, List.map_append, List.map_append, e]
    exact ⟨rfl, h.append (.cons hx .nil)⟩
theorem Rl.dct {ct : Ct} {M : Mem} (r : Rl K ct ρ M H) {n : Nat} {kvs : List (Key × Dv)} (hm : M[n]? = some (.dct kvs)) {v : V} (hv : DV K ρ H (.loc n) v) :
    ∃ a vs, v = .ref a ∧ ρ[n]? = some a ∧ H a = some (.dK vs) ∧ kvs.map (·.1) = vs.map (·.1) ∧ DVs K ρ H (kvs.map (·.2)) (vs.map (·.2)) := by
  obtain ⟨a, h1, vs, h2, h3, h4⟩ := r.ok n _ hm
  cases hv with
  | loc h => rw [h] at h1; cases h1; exact ⟨_, vs, rfl, h, h2, h3, h4⟩
end
theorem Rl.st {K : Frg} {ρ : List Addr} {H : Hp} {ct : Ct} {M : Mem} (r : Rl K ct ρ M H) {n : Nat} {xs : List Int} (hm : M[n]? = some (.st xs)) {v : V} (hv : DV K ρ H (.loc n) v) :
    ∃ a, v = .ref a ∧ ρ[n]? = some a ∧ H a = some (.set (fun k => xs.any (· == k)) xs.length) := by
  obtain ⟨a, h1, h2⟩ := r.ok n _ hm
  cases hv with
  | loc h => rw [h] at h1; cases h1; exact ⟨_, rfl, h, h2⟩
theorem Rl.sk {K : Frg} {ρ : List Addr} {H : Hp} {ct : Ct} {M : Mem} (r : Rl K ct ρ M H) {n : Nat} {xs : List Str} (hm : M[n]? = some (.sk xs)) {v : V} (hv : DV K ρ H (.loc n) v) :
    ∃ a, v = .ref a ∧ ρ[n]? = some a ∧ H a = some (SetK ct.prg ct.wd a (fun k => xs.any fun x => decide (k = Sum.inr x)) xs.length) := by
  obtain ⟨a, h1, h2⟩ := r.ok n _ hm
  cases hv with
  | loc h => rw [h] at h1; cases h1; exact ⟨_, rfl, h, h2⟩
section
variable {X : Cx} {ct : Ct} {pos : Pos} {e o i' : Expr} {fo fe fi : FE}
/-- {} -/
def fDNew : FE := fun _ M => some (.loc M.length, M ++ [.dct []])
theorem se_dnew : SE X ct (.Dict [] [] pos) fDNew := PE.imp pe_dnewK fun σ H Q ⟨ρ, M, env, r, he, d, M', hf, hq⟩ p hp => by
  cases hf
  obtain ⟨r2, e2, h2⟩ := r.new (o := .dct []) (o' := .dK []) hp ⟨[], upd_same, rfl, .nil⟩
  exact hq _ _ e2 r2 _ (.loc h2)
/-- k in d, too -/
def inE (neg : Bool) (x y : Dv) (M : Mem) : Rz := match y with
  | .loc n => match M[n]? with
    | some (.dct kvs) => match keyD x with
      | some k => some (.bl (xor neg (valD kvs k).isSome), M)
      | none => match kvs with
        | [] => match keyN x with
          | some _ => some (.bl (xor neg false), M)
          | none => none
        | _ => none
    | some (.dcn kvs) => match keyN x with
      | some k => some (.bl (xor neg (valN kvs k).isSome), M)
      | none => none
    | _ => inD neg x y M
  | _ => inD neg x y M
theorem room_n (hu : X.A.units + 65 < cLine) : (nestedKind X.prog X.w).room X.A.in1 := by
  show X.A.units + 1 + 8 < cLine
  omega
theorem dget_of {K : Frg} {ρ : List Addr} {H : Hp} {a : Addr} {kvs : List (Key × Dv)} {vs : List (Key × V)} {k : Key} (h2 : H a = some (.dK vs)) (h3 : kvs.map (·.1) = vs.map (·.1)) (h4 : DVs K ρ H (kvs.map (·.2)) (vs.map (·.2))) : (valV vs k).isSome = (valD kvs k).isSome := by
  obtain ⟨i1, i2⟩ := val_of (k := k) h3 h4
  cases e : valD kvs k with
  | none => rw [i2 e]; rfl
  | some d => obtain ⟨v, e2, _⟩ := i1 d e; rw [e2]; rfl
theorem so_inE (hu : X.A.units + 65 < cLine) (hp : ct.prg = X.prog := by rfl) (hw : ct.wd = X.w := by rfl) : SO X ct (compareOp .In) (inE false) := by
  intro pins s σ H x y v u Q I rx ry h
  obtain ⟨ρ, M, d, e, r, dx, dy, z, M', hf, hq⟩ := h
  have old : inD false d e M = some (z, M') → wpAny (model X.prog X.w) X.A (compareOp .In v u) (EP X pins σ Q) X.xe s := fun hf => so_in hu pins s σ H x y v u Q I rx ry ⟨ρ, M, d, e, r, dx, dy, z, M', hf, hq⟩
  unfold inE at hf
  split at hf
  · split at hf
    · rename_i kvs hm
      split at hf
      · rename_i k hk
        cases hf
        obtain ⟨a, vs, rfl, a1, a2, a3, a4⟩ := r.dct hm dy
        obtain rfl := keyD_of dx hk
        obtain rfl : u = Value.ref a := ry
        refine d_in (by omega) I (DGet.k a2) rx fun s' I' => ⟨.bl (valV vs k).isSome, H, I', rfl, hq ρ H .refl r _ ?_⟩
        rw [dget_of a2 a3 a4, Bool.false_xor]; exact .bl _
      · split at hf
        · split at hf
          · rename_i k hk
            cases hf
            obtain ⟨a, vs, rfl, a1, a2, a3, a4⟩ := r.dct hm dy
            have ev : vs = [] := List.length_eq_zero_iff.mp (by have := congrArg List.length a3; simpa using this.symm)
            subst ev
            obtain rfl : u = Value.ref a := ry
            obtain ⟨b, rfl, rfl, ki⟩ := key_is I dx rx hk
            obtain ⟨dd, ds⟩ := dn_empty I a2
            exact wpAny_in_heap (room_n hu) ki ds dd ⟨.bl false, H, I.tok _, rfl, hq ρ H .refl r _ (.bl _)⟩
          · cases hf
        · cases hf
    · rename_i kvs hm
      split at hf
      · rename_i k hk
        cases hf
        obtain ⟨a, xs, vs, rfl, a1, a2, a3, a4, a5, a6, a7⟩ := r.dcn hm dy
        obtain rfl : u = Value.ref a := ry
        obtain ⟨b, rfl, rfl, ki⟩ := key_is I dx rx hk
        obtain ⟨dd, _, ds⟩ := dn_of I hp hw a2 a3 a4 a5
        refine wpAny_in_heap (room_n hu) ki ds dd ⟨.bl (atKey xs k).isSome, H, I.tok _, rfl, hq ρ H .refl r _ ?_⟩
        rw [some_ofN a3 a6 a7, Bool.false_xor]; exact .bl _
      · cases hf
    · exact old hf
  · exact old hf
theorem so_notinE (hu : X.A.units + 65 < cLine) (hp : ct.prg = X.prog := by rfl) (hw : ct.wd = X.w := by rfl) : SO X ct (compareOp .NotIn) (inE true) := by
  intro pins s σ H x y v u Q I rx ry h
  obtain ⟨ρ, M, d, e, r, dx, dy, z, M', hf, hq⟩ := h
  have old : inD true d e M = some (z, M') → wpAny (model X.prog X.w) X.A (compareOp .NotIn v u) (EP X pins σ Q) X.xe s := fun hf => so_notin hu pins s σ H x y v u Q I rx ry ⟨ρ, M, d, e, r, dx, dy, z, M', hf, hq⟩
  unfold inE at hf
  split at hf
  · split at hf
    · rename_i kvs hm
      split at hf
      · rename_i k hk
        cases hf
        obtain ⟨a, vs, rfl, a1, a2, a3, a4⟩ := r.dct hm dy
        obtain rfl := keyD_of dx hk
        obtain rfl : u = Value.ref a := ry
        refine d_notIn (by omega) I (DGet.k a2) rx fun s' I' => ⟨.bl (!(valV vs k).isSome), H, I', rfl, hq ρ H .refl r _ ?_⟩
        rw [dget_of a2 a3 a4, Bool.true_xor]; exact .bl _
      · split at hf
        · split at hf
          · rename_i k hk
            cases hf
            obtain ⟨a, vs, rfl, a1, a2, a3, a4⟩ := r.dct hm dy
            have ev : vs = [] := List.length_eq_zero_iff.mp (by have := congrArg List.length a3; simpa using this.symm)
            subst ev
            obtain rfl : u = Value.ref a := ry
            obtain ⟨b, rfl, rfl, ki⟩ := key_is I dx rx hk
            obtain ⟨dd, ds⟩ := dn_empty I a2
            refine notIn_keyed (kvs := []) (room_n hu) ki ds ⟨[], dd, rfl⟩ ⟨.bl true, H, I.tok _, rfl, hq ρ H .refl r _ (.bl _)⟩
          · cases hf
        · cases hf
    · rename_i kvs hm
      split at hf
      · rename_i k hk
        cases hf
        obtain ⟨a, xs, vs, rfl, a1, a2, a3, a4, a5, a6, a7⟩ := r.dcn hm dy
        obtain rfl : u = Value.ref a := ry
        obtain ⟨b, rfl, rfl, ki⟩ := key_is I dx rx hk
        obtain ⟨dd, _, ds⟩ := dn_of I hp hw a2 a3 a4 a5
        refine notIn_keyed (room_n hu) ki ds ⟨xs, dd, rfl⟩ ⟨.bl (!(valueAt (pairsH xs) k).isSome), H, I.tok _, rfl, hq ρ H .refl r _ ?_⟩
        rw [valueAt_pairsH, Option.isSome_map, some_ofN a3 a6 a7, Bool.true_xor]; exact .bl _
      · cases hf
    · exact old hf
  · exact old hf
/-- d[k], too -/
def ixE (x y : Dv) (M : Mem) : Rz := match x with
  | .loc n => match M[n]? with
    | some (.dct kvs) => match keyD y with
      | some k => match valD kvs k with
        | some d => some (d, M)
        | none => none
      | none => none
    | some (.dcn kvs) => match keyN y with
      | some k => match valN kvs k with
        | some d => some (d, M)
        | none => none
      | none => none
    | _ => ixD x y M
  | _ => ixD x y M
theorem sx_E (hu : X.A.units + 65 < cLine) (hp : ct.prg = X.prog) (hw : ct.wd = X.w) : IxR X (tO X.K ct ixE) := by
  intro value slice pins s σ H x y v u Q I rx ry h hsub
  obtain ⟨ρ, M, d, e, r, dx, dy, z, M', hf, hq⟩ := h
  have old : ixD d e M = some (z, M') → wpAny (model X.prog X.w) X.A (subscriptTail value slice v u) (EP X pins σ Q) X.xe s := fun hf => sx_seq value slice pins s σ H x y v u Q I rx ry ⟨ρ, M, d, e, r, dx, dy, z, M', hf, hq⟩ hsub
  unfold ixE at hf
  split at hf
  · split at hf
    · rename_i kvs hm
      split at hf
      · rename_i k hk
        split at hf
        · rename_i d' hd
          cases hf
          obtain ⟨a, vs, rfl, a1, a2, a3, a4⟩ := r.dct hm dx
          obtain rfl := keyD_of dy hk
          obtain rfl : v = Value.ref a := rx
          obtain ⟨w, e2, dw⟩ := (val_of (k := k) a3 a4).1 _ hd
          have g : DGet H a (kV k) (some w) := e2 ▸ DGet.k a2
          exact tail_any (dict_typeIs I g) PySem.F.slot_dict_getitem.lookup (d_getItem (by omega) I g ry fun w' s' I' rw' => ⟨w, H, I', rw', hq ρ H .refl r _ dw⟩) hsub
        · cases hf
      · cases hf
    · rename_i kvs hm
      split at hf
      · rename_i k hk
        split at hf
        · rename_i d' hd
          cases hf
          obtain ⟨a, xs, vs, rfl, a1, a2, a3, a4, a5, a6, a7⟩ := r.dcn hm dx
          obtain rfl : v = Value.ref a := rx
          obtain ⟨b, rfl, rfl, ki⟩ := key_is I dy ry hk
          obtain ⟨dd, _, ds⟩ := dn_of I hp hw a2 a3 a4 a5
          obtain ⟨p, w, e2, dw, rw'⟩ := (val_ofN (k := k) a3 a6 a7).1 _ hd
          exact tail_any dd.typeIs PySem.F.slot_dict_getitem.lookup (wpAny_getItem_heap (room_n hu) ki dd e2 ⟨w, H, I.tok _, rw', hq ρ H .refl r _ dw⟩) hsub
        · cases hf
      · cases hf
    · exact old hf
  · exact old hf
theorem se_ixE {a b : Expr} {fa fb : FE} (hu : X.A.units + 65 < cLine) (ha : SE X ct a fa) (hb : SE X ct b fb) (hs : PlainIx b := by intro _ _; rfl) (hp : ct.prg = X.prog := by rfl) (hw : ct.wd = X.w := by rfl) : SE X ct (.Subscript a b pos) (fO ixE fa fb) :=
  PE.imp (pe_ix (sx_E hu hp hw) ha hb hs) fun _ _ _ w => op_imp w
/-- len(d), too -/
def lenE : List Dv → Mem → Rz
  | [.loc n], M => match M[n]? with
    | some (.dct kvs) => some (.int (kvs.length : Nat), M)
    | some (.dcn kvs) => some (.int (kvs.length : Nat), M)
    | some (.st xs) => some (.int (xs.length : Nat), M)
    | some (.sk xs) => some (.int (xs.length : Nat), M)
    | _ => lenD [.loc n] M
  | ds, M => lenD ds M
theorem sc_lenE : SC X ct (.builtin "len") lenE := by
  intro pins s σ H xs us Q I rv h
  obtain ⟨ρ, M, ds, r, dv, z, M', hf, hq⟩ := h
  unfold lenE at hf
  split at hf
  · split at hf
    · rename_i kvs hm
      cases hf
      obtain ⟨v, rfl, d1⟩ := dvs_one dv
      obtain ⟨a, vs, rfl, a1, a2, a3, a4⟩ := r.dct hm d1
      refine call_lenD pins s σ H _ us Q I rv ⟨a, vs, rfl, a2, hq ρ H .refl r _ ?_⟩
      have : kvs.length = vs.length := by have := congrArg List.length a3; simpa using this
      rw [this]; exact .int _
    · rename_i kvs hm
      cases hf
      obtain ⟨v, rfl, d1⟩ := dvs_one dv
      obtain ⟨a, xs, vs, rfl, a1, a2, a3, a4⟩ := r.dcn hm d1
      obtain ⟨u, rfl, ru⟩ := vals1 rv
      cases ru
      obtain ⟨o, es, ep, g1, g2, g3, g4, g5, g6, g7⟩ := (I.hok a _ a2).1
      have hl : es.size = kvs.length := by
        have := size_of_entries g4
        have h2 := congrArg List.length a3
        simp only [List.length_map] at h2
        omega
      have raw : s.heap.DictRaw a es ep := ⟨o, g1, g2, g3⟩
      have h62 : sizeLine < 2 ^ 62 := by decide
      refine PyProof.Rows.call_len_slot (n := (kvs.length : Int)) raw.typeIs F.slot_dict_len (fun Q' h => call_len_raw g7 raw (by rw [hl]; exact h)) (by omega) (by
          have h2 := congrArg List.length a3
          simp only [List.length_map] at h2
          omega) ?_
      exact ⟨.int kvs.length, H, I.tok _, ⟨_, rfl⟩, hq ρ H .refl r _ (.int _)⟩
    · rename_i zs hm
      cases hf
      obtain ⟨v, rfl, d1⟩ := dvs_one dv
      obtain ⟨a, rfl, a1, a2⟩ := r.st hm d1
      obtain ⟨u, rfl, ru⟩ := vals1 rv
      cases ru
      obtain ⟨o, es, ep, t, g1, g2, g3, g4, g5, g6, g7, g8⟩ := (show s.heap.SetOf (intKind X.prog X.w) a _ _ from I.hok a _ a2)
      refine call_len_set g1 g2 g3 g7 (by
          have h62 : scanBound < 2 ^ 62 := by decide
          omega) ?_
      rw [g8]
      exact ⟨.int zs.length, H, I.tok _, ⟨_, rfl⟩, hq ρ H .refl r _ (.int _)⟩
    · rename_i zs hm
      cases hf
      obtain ⟨v, rfl, d1⟩ := dvs_one dv
      obtain ⟨a, rfl, a1, a2⟩ := r.sk hm d1
      obtain ⟨u, rfl, ru⟩ := vals1 rv
      cases ru
      obtain ⟨o, es, ep, t, g1, g2, g3, g4, g5, g6, g7, g8⟩ := (I.hok a _ a2).1
      refine call_len_set g1 g2 g3 g7 (by
          have h62 : scanBound < 2 ^ 62 := by decide
          omega) ?_
      rw [g8]
      exact ⟨.int zs.length, H, I.tok _, ⟨_, rfl⟩, hq ρ H .refl r _ (.int _)⟩
    · exact sc_len pins s σ H xs us Q I rv ⟨ρ, M, _, r, dv, z, M', hf, hq⟩
  · exact sc_len pins s σ H xs us Q I rv ⟨ρ, M, _, r, dv, z, M', hf, hq⟩
/-- d[k] = v, too -/
def setE (o i v : Dv) (M : Mem) : Option Mem := match o with
  | .loc n => match M[n]? with
    | some (.dct kvs) => match keyD i with
      | some k => if kvs.length < sizeLine then some (M.set n (.dct (putDk kvs k v))) else none
      | none => match kvs with
        | [] => match keyN i with
          | some k => some (M.set n (.dcn (putN [] k i v)))
          | none => none
        | _ => none
    | some (.dcn kvs) => match keyN i with
      | some k => if kvs.length < sizeLine then some (M.set n (.dcn (putN kvs k i v))) else none
      | none => none
    | _ => setD o i v M
  | _ => setD o i v M
/-- the store of a nested key, by what is known -/
def rSetN (X : Cx) : TSet := fun o i v H Q => ∃ (ρ : List Addr) (a : Addr) (kvs : List (NestedKey × Dv × Dv)) (xs : List (NestedKey × Addr × Value)) (kd : Dv) (k : NestedKey), o = .ref a ∧ (H a = some (NDic X.prog X.w a xs) ∨ (xs = [] ∧ H a = some (.dK []))) ∧
  kvs.map (·.1) = xs.map (·.1) ∧ (∀ p ∈ kvs, keyN p.2.1 = some p.1) ∧ DVs X.K ρ H (kvs.map (·.2.1)) (xs.map fun x => V.ref x.2.1) ∧ keyN kd = some k ∧ DV X.K ρ H kd i ∧ xs.length < sizeLine ∧
  ∀ b u, i = .ref b → RelV v u → Q (upd H a (NDic X.prog X.w a (storedH xs k b u)))
theorem set_dictN (hu : X.A.units + 65 < cLine) : PSet X (rSetN X) := by
  intro pins s σ H o i v ov iv u Q I ro ri rv h
  obtain ⟨ρ, a, kvs, xs, kd, k, rfl, h0, h1, h2, h3, hk, hkd, hl, q⟩ := h
  cases (show ov = Value.ref a from ro)
  obtain ⟨b, rfl, rfl, ki⟩ := key_is I hkd ri hk
  have key : s.heap.DictOfH (nestedKind X.prog X.w) a xs ∧ (a == sysModules) = false ∧ Mut (H a) := by
    rcases h0 with h0 | ⟨rfl, h0⟩
    · obtain ⟨o, es, ep, g1, g2, g3, g4, g5, g6, g7⟩ := (I.hok a _ h0).1
      exact ⟨⟨o, es, ep, g1, g2, g3, g4, keys_are I h1 h2 h3, g5⟩, g7, by rw [h0]; trivial⟩
    · obtain ⟨dd, ds⟩ := dn_empty I h0
      exact ⟨dd, ds, by rw [h0]; trivial⟩
  obtain ⟨dd, ds, mu⟩ := key
  refine wpAny_setItem_heap (hsz := by omega) (room_n hu) ki dd fun h' dd' sb => ?_
  have he : ∃ u, h'.get? a = some u := by
    obtain ⟨o, _, _, ho, _⟩ := dd'
    exact ⟨o, ho⟩
  have hlen : (storedH xs k b u).length ≤ sizeLine := by
    have := storedH_length xs k b u
    omega
  exact ⟨_, I.write (e := a) (t' := s.toks + (nestedKind X.prog X.w).draws k) mu (.inl rfl) (fun b u hb hu => (sb.2 b hb).trans hu) he (ndic_new dd' hlen ds), q b u rfl rv⟩
def gSE (fo fi : FE) : FG := fun d env M => bnd (fo env M) fun o M1 => bnd (fi env M1) fun i M2 => match setE o i d M2 with
  | some M3 => some (env, M3)
  | none => none
theorem PSet.or {r r' : TSet} (h : PSet X r) (h' : PSet X r') : PSet X (fun o i v H Q => r o i v H Q ∨ r' o i v H Q) := fun pins s σ H o i v ov iv u Q I ro ri rv w => w.elim (h pins s σ H o i v ov iv u Q I ro ri rv) (h' pins s σ H o i v ov iv u Q I ro ri rv)
theorem sg_subE {ws : List Nat} (hu : X.A.units + 65 < cLine) (ho : SE X ct o fo) (hi : SE X ct i' fi) (hp : ct.prg = X.prog := by rfl) (hw : ct.wd = X.w := by rfl)
    (ha : ∀ v, assign (.Subscript o i' pos) X.env v = (do
      let ov ← holding [v] (eval o X.env)
      let iv ← holding [v, ov] (eval i' X.env)
      standAt pos
      holding [v, ov, iv] (setItem ov iv v)
      release [v, ov, iv] []) := by intro _; rfl) : SG X ct ws (.Subscript o i' pos) (gSE fo fi) :=
  PG.imp (pg_sub ho hi (PSet.or (PSet.or set_list (set_dict (by omega))) (set_dictN hu)) ha) fun v σ H Q ⟨ρ, M, env, d, r, he, dv, env', M', hf, hq⟩ => by
    obtain ⟨x, M1, h1, hf⟩ := bnd_some hf
    obtain ⟨y, M2, h2, hf⟩ := bnd_some hf
    refine ⟨ρ, M, env, r, he, x, M1, h1, fun ρ1 H1 e1 r1 w dw => ⟨ρ1, M1, env, r1, he.mono e1, y, M2, h2, fun ρ2 H2 e2 r2 u du => ?_⟩⟩
    split at hf
    · rename_i M3 hs
      cases hf
      have old : setD x y d M2 = some M' → (rSetL w u v H2 fun H' => Q σ H') := fun hs => by
        unfold setD at hs
        split at hs
        · split at hs
          · rename_i hm
            split at hs
            · rename_i j hj
              cases hs
              obtain ⟨a, vs, rfl, a1, a2, a3⟩ := r2.lst hm (dw.mono e2)
              cases du
              obtain ⟨r3, e3⟩ := r2.putL a1 (a3.set ((dv.mono e1).mono e2) j)
              exact ⟨a, vs, _, j, rfl, rfl, a2, by rw [← a3.length]; exact hj, hq ρ2 _ ((e1.trans e2).trans e3) r3 σ (((he.mono e1).mono e2).mono e3) .refl⟩
            · cases hs
          · cases hs
        · cases hs
      unfold setE at hs
      split at hs
      · split at hs
        · rename_i kvs hm
          split at hs
          · rename_i k hk
            split at hs
            · rename_i hl
              cases hs
              obtain ⟨a, vs, rfl, a1, a2, a3, a4⟩ := r2.dct hm (dw.mono e2)
              obtain rfl := keyD_of du hk
              have hlen : kvs.length = vs.length := by have := congrArg List.length a3; simpa using this
              obtain ⟨p1, p2⟩ := put_of (k := k) ((dv.mono e1).mono e2) a3 a4
              obtain ⟨oo, hm', hk'⟩ := r2.addr a1
              obtain ⟨r3, e3⟩ := r2.put (o := .dct (putDk kvs k d)) (o' := .dK (putK vs k v)) a1 ⟨_, upd_same, p1, p2.mono (Ext.soft (fun _ _ h => h) hk'.soft.1 hk'.soft.2)⟩
              exact .inl (.inr ⟨a, _, rfl, DPut.k a2 (hlen ▸ hl), hq ρ2 _ ((e1.trans e2).trans e3) r3 σ (((he.mono e1).mono e2).mono e3) .refl⟩)
            · cases hs
          · split at hs
            · split at hs
              · rename_i k hk
                cases hs
                obtain ⟨a, vs, rfl, a1, a2, a3, a4⟩ := r2.dct hm (dw.mono e2)
                have ev : vs = [] := List.length_eq_zero_iff.mp (by have := congrArg List.length a3; simpa using this.symm)
                subst ev
                refine .inr ⟨ρ2, a, [], [], y, k, rfl, .inr ⟨rfl, a2⟩, rfl, fun p hp => by simp at hp, .nil, hk, du, by decide, fun b u' eb ru => ?_⟩
                subst eb
                obtain ⟨ws', p1, p2, p3, p4, p5⟩ := put_ofN (kvs := []) (xs := []) (vs := []) hk du ((dv.mono e1).mono e2) ru rfl (fun p hp => by simp at hp) .nil .nil .nil
                obtain ⟨oo, hm', hk'⟩ := r2.addr a1
                have sf : Ext X.K ρ2 H2 ρ2 (upd H2 a (NDic X.prog X.w a (storedH [] k b u'))) := Ext.soft (fun _ _ h => h) hk'.soft.1 hk'.soft.2
                obtain ⟨r3, e3⟩ := r2.put (o := .dcn (putN [] k y d)) (o' := NDic X.prog X.w a (storedH [] k b u')) a1 ⟨_, ws', by rw [upd_same, hp, hw], p1, p2, p3.mono sf, p4.mono sf, p5⟩
                exact hq ρ2 _ ((e1.trans e2).trans e3) r3 σ (((he.mono e1).mono e2).mono e3) .refl
              · cases hs
            · cases hs
        · rename_i kvs hm
          split at hs
          · rename_i k hk
            split at hs
            · rename_i hl
              cases hs
              obtain ⟨a, xs, vs, rfl, a1, a2, a3, a4, a5, a6, a7⟩ := r2.dcn hm (dw.mono e2)
              have hlen : kvs.length = xs.length := by have := congrArg List.length a3; simpa using this
              refine .inr ⟨ρ2, a, kvs, xs, y, k, rfl, .inl (by rw [a2, hp, hw]), a3, a4, a5, hk, du, hlen ▸ hl, fun b u' eb ru => ?_⟩
              subst eb
              obtain ⟨ws', p1, p2, p3, p4, p5⟩ := put_ofN hk du ((dv.mono e1).mono e2) ru a3 a4 a5 a6 a7
              obtain ⟨oo, hm', hk'⟩ := r2.addr a1
              have sf : Ext X.K ρ2 H2 ρ2 (upd H2 a (NDic X.prog X.w a (storedH xs k b u'))) := Ext.soft (fun _ _ h => h) hk'.soft.1 hk'.soft.2
              obtain ⟨r3, e3⟩ := r2.put (o := .dcn (putN kvs k y d)) (o' := NDic X.prog X.w a (storedH xs k b u')) a1 ⟨_, ws', by rw [upd_same, hp, hw], p1, p2, p3.mono sf, p4.mono sf, p5⟩
              exact hq ρ2 _ ((e1.trans e2).trans e3) r3 σ (((he.mono e1).mono e2).mono e3) .refl
            · cases hs
          · cases hs
        · exact .inl (.inl (old hs))
      · exact .inl (.inl (old hs))
    · cases hf
/-- d.get(k) -/
def fDGet (fo fe : FE) : FE := fun env M => bnd (fo env M) fun d M1 => match d with
  | .loc n => match M1[n]? with
    | some (.dct _) => bnd (fe env M1) fun y M2 => match M2[n]?, keyD y with
      | some (.dct kvs), some k => some ((valD kvs k).getD .non, M2)
      | _, _ => none
    | _ => none
  | _ => none
theorem se_dget {apos cpos : Pos} (hu : X.A.units + 65 < cLine) (ho : SE X ct o fo) (he : SE X ct e fe) (m : M1 X o "get" apos e cpos) : SE X ct (.Call (.Attribute o "get" apos) [e] [] cpos) (fDGet fo fe) :=
  PE.imp (pe_dget1 (by omega) ho he m) fun σ H Q ⟨ρ, M, env, r, hen, d, M', hf, hq⟩ => by
    obtain ⟨x, N1, h1, hf⟩ := bnd_some hf
    refine ⟨ρ, M, env, r, hen, x, N1, h1, fun ρ1 H1 e1 r1 w dw => ?_⟩
    split at hf
    · split at hf
      · rename_i hm
        obtain ⟨a, vs, rfl, a1, a2, a3, a4⟩ := r1.dct hm dw
        obtain ⟨y, N2, h2, hf⟩ := bnd_some hf
        refine ⟨a, rfl, .inl ⟨vs, .inl a2⟩, ρ1, N1, env, r1, hen.mono e1, y, N2, h2, fun ρ2 H2 e2 r2 u du => ?_⟩
        split at hf
        · rename_i kvs k hm2 hk
          cases hf
          obtain ⟨b, vs2, eb, b1, b2, b3, b4⟩ := r2.dct hm2 (dw.mono e2)
          cases eb
          obtain rfl := keyD_of du hk
          refine ⟨_, DGet.k b2, hq ρ2 H2 (e1.trans e2) r2 _ ?_⟩
          obtain ⟨i1, i2⟩ := val_of (k := k) b3 b4
          cases ev : valD kvs k with
          | none => rw [i2 ev]; exact .non
          | some dd => obtain ⟨v, e3, dv⟩ := i1 dd ev; rw [e3]; exact dv
        · cases hf
      · cases hf
    · cases hf
end
end Zl

/-! text Z18 -/
namespace Zl
open PySem L2 PySem.Spec PyProof.Rows
/-! ## range, counting down -/
section
variable {X : Cx} {ct : Ct} {pos p : Pos} {tg a b c : Expr} {fa fb fc : FE}
def srcC (lo c : Int) (n : Nat) : Src := ⟨n, fun i _ => if i < n then some (some (.int (lo + i * c))) else some none⟩
theorem feeds_rngC {K : Frg} {ρ0 : List Addr} {H0 : Hp} {lo c : Int} {n : Nat} : Feeds K ct ρ0 H0 (Itc lo c n) (srcC lo c n).stp := by
  intro i ρ M H _ r
  show (match (if i < n then some (some (Dv.int (lo + i * c))) else some none) with | some (some d) => _ | some none => _ | none => _)
  by_cases hi : i < n
  · rw [if_pos hi]
    refine ⟨hi, fun y H' hy => ?_⟩
    obtain ⟨e, ey⟩ := hy
    subst e; subst ey
    exact ⟨.refl, r, .int _⟩
  · rw [if_neg hi]
    exact Nat.le_of_not_lt hi
def fRng3 (f g h : FE) : FI := fun env M => bnd (f env M) fun d M1 => bnd (g env M1) fun d2 M2 => bnd (h env M2) fun d3 M3 => match d, d2, d3 with
  | .int i, .int j, .int k => if k = -1 ∧ -(2 ^ 62) ≤ i ∧ i < 2 ^ 62 ∧ -(2 ^ 62) ≤ j ∧ j < 2 ^ 62 then some (srcC i (-1) (i - j).toNat, M3) else none
  | _, _, _ => none
theorem dvs_three {K : Frg} {ρ : List Addr} {H : Hp} {x y z : Dv} {vs : List V} (h : DVs K ρ H [x, y, z] vs) : ∃ u v w, vs = [u, v, w] ∧ DV K ρ H x u ∧ DV K ρ H y v ∧ DV K ρ H z w := by
  cases h with
  | cons h1 hr =>
    obtain ⟨v, w, rfl, h2, h3⟩ := dvs_two hr
    exact ⟨_, _, _, rfl, h1, h2, h3⟩
theorem si_range3 (hg : Gl X "range") (hm : X.mg "range" = none) (ha : SE X ct a fa) (hb : SE X ct b fb) (hc : SE X ct c fc)
    (hs : starEach [a, b, c] X.env = (false, eval a X.env) :: starEach [b, c] X.env := by rfl)
    (hs2 : starEach [b, c] X.env = (false, eval b X.env) :: starEach [c] X.env := by rfl)
    (hs3 : starEach [c] X.env = [(false, eval c X.env)] := by rfl)
    (hpl : (backTo pos (starEach [b, c] X.env)).any (·.1) = false := by rfl) : SI X ct tg (.Call (.Name "range" p) [a, b, c] [] pos) (fRng3 fa fb fc) :=
  PI.imp (pi_range3 hg hm (sa_cons ha (sa_cons hb (sa_cons hc sa_nil hs3) hs2) hs) hs hpl) fun σ H R ⟨ρ, M, env, r, he, src, M', hf, hq⟩ => by
    obtain ⟨d, M1, h1, hf⟩ := bnd_some hf
    obtain ⟨d2, M2, h2, hf⟩ := bnd_some hf
    obtain ⟨d3, M3, h3, hf⟩ := bnd_some hf
    refine ⟨ρ, M, env, r, he, [d, d2, d3], M3, by show bnd (fa env M) _ = _; rw [h1]; show bnd (bnd (fb env M1) _) _ = _; rw [h2]; show bnd (bnd (bnd (fc env M2) _) _) _ = _; rw [h3]; rfl, fun ρ1 H1 e1 r1 vs dvs => ?_⟩
    split at hf
    · split at hf
      · rename_i hb
        cases hf
        obtain ⟨v, u, w, rfl, d1, d2, d3⟩ := dvs_three dvs
        cases d1; cases d2; cases d3
        obtain ⟨rfl, b1, b2, b3, b4⟩ := hb
        exact ⟨_, _, _, _, rfl, RgC.neg b1 b2 b3 b4, hq ρ1 H1 e1 r1 _ feeds_rngC⟩
      · cases hf
    · cases hf
end
end Zl

/-! text Z19 -/
namespace Zl
open PySem L2 PySem.Spec PyProof.Rows
section
variable {X : Cx} {ct : Ct}
/-! xs.remove(k): a list of whole numbers, k among them -/
def intsOf : List Dv → Option (List Int)
  | [] => some []
  | .int i :: ds => match intsOf ds with
    | some is => some (i :: is)
    | none => none
  | _ => none
theorem intsOf_eq : ∀ {ds : List Dv} {is : List Int}, intsOf ds = some is → ds = is.map .int
  | [], _, h => by cases h; rfl
  | .int i :: ds, is, h => by
    unfold intsOf at h
    split at h
    · rename_i js e
      cases h
      rw [intsOf_eq e]; rfl
    · cases h
  | .non :: _, _, h => by cases h
  | .bl _ :: _, _, h => by cases h
  | .str _ :: _, _, h => by cases h
  | .tup _ :: _, _, h => by cases h
  | .pr _ :: _, _, h => by cases h
  | .rol _ :: _, _, h => by cases h
  | .loc _ :: _, _, h => by cases h
  | .ty _ :: _, _, h => by cases h
theorem intsOf_map : ∀ is : List Int, intsOf (is.map .int) = some is
  | [] => rfl
  | i :: is => by
    show (match intsOf (is.map .int) with | some js => some (i :: js) | none => none) = _
    rw [intsOf_map]
theorem vs_ints {K : Frg} {ρ : List Addr} {H : Hp} : ∀ {is : List Int} {vs : List V}, DVs K ρ H (is.map .int) vs → vs = is.map V.int
  | [], _, h => by cases h; rfl
  | i :: is, _, h => by
    cases h with
    | cons a b =>
      cases a
      rw [vs_ints b]; rfl
theorem ints_dvs {K : Frg} {ρ : List Addr} {H : Hp} : ∀ (is : List Int), DVs K ρ H (is.map .int) (is.map V.int)
  | [] => .nil
  | i :: is => .cons (.int i) (ints_dvs is)
def removeD : FM
  | .loc n, [.int k], M => match M[n]? with
    | some (.lst ys) => match intsOf ys with
      | some is => if k ∈ is then some (.non, M.set n (.lst ((is.erase k).map .int))) else none
      | none => none
    | _ => none
  | _, _, _ => none
theorem sm_remove : SM X ct "list.remove" removeD := by
  intro pins s σ H x xs v us Q I rx rxs w
  obtain ⟨ρ, M, d, ds, r, dx, dxs, z, M', hf, hq⟩ := w
  unfold removeD at hf
  split at hf
  · split at hf
    · rename_i hm
      split at hf
      · rename_i is hi
        split at hf
        · rename_i hk
          cases hf
          have hy := intsOf_eq hi
          subst hy
          obtain ⟨l, vs, rfl, a1, hH, a3⟩ := r.lst hm dx
          have hv := vs_ints a3
          subst hv
          obtain ⟨y, rfl, dy⟩ := dvs_one dxs
          cases dy
          obtain ⟨u, rfl, ru⟩ := vals1 rxs
          obtain ⟨t, rfl⟩ := ru
          cases rx
          rename_i n k _o1 _o2
          obtain ⟨r2, e2⟩ := r.putL a1 (ints_dvs (K := X.K) (ρ := ρ) (H := H) (is.erase k))
          obtain ⟨z, its, n', rr, hl, e0⟩ := I.lstM hH
          have hi' : IntsAre its is := intsAre_of rr
          have heq := eq_isInt k t hi'
          have hnl : is.length = its.length := by rw [← hl, List.length_map]
          have hsz : its.toArray.size ≤ sizeLine := by rw [List.size_toArray, ← hl]; exact z
          obtain ⟨j, j1, j2, j3, j4⟩ := first_at hk
          have hj : j < its.length := by omega
          refine call_meets PySem.F.slot_list_remove ⟨_, e0, rfl⟩ PySem.F.entry_list_remove (PySem.F.args_list_remove_2 _ _)
            (MeetsSeq.list_remove l its.toArray n' (.int k t) (isInt k) (fun y hy => heq y (by simpa using hy)) j (by rw [List.size_toArray]; exact hj) ?hit (fun i hi2 hlt => ?hno) hsz) ⟨e0, ?_⟩
          case hit =>
            show isInt k its[j] = true
            exact (L2.isInt_at k hi' j hj).mpr j2
          case hno =>
            have hi3 : i < its.length := by rw [List.size_toArray] at hi2; exact hi2
            show isInt k its[i] = false
            rw [Bool.eq_false_iff]
            intro w
            exact j3 i hlt ((L2.isInt_at k hi' i hi3).mp w)
          have r3 : Vals ((is.erase k).map V.int) (its.eraseIdx j) := by
            have w := rr.eraseIdx j
            rw [map_eraseIdx', j4] at w
            exact w
          refine ⟨.non, _, I.lset (its' := its.eraseIdx j) hH e0 ?_ r3 ?_, rfl, hq ρ _ e2 r2 _ .non⟩
          · show its.toArray.eraseIdxIfInBounds j = (its.eraseIdx j).toArray
            rw [List.eraseIdxIfInBounds_toArray]
          · rw [List.length_map]
            have := List.length_erase_le (a := k) (l := is)
            rw [List.length_map] at z
            omega
        · cases hf
      · cases hf
    · cases hf
  · cases hf
end
end Zl

/-! text Z20 -/
namespace Zl
open PySem L2 PySem.Spec PyProof.Rows
/-! ## [e for t in a for t1 in b] -/
def comp2F (it : Stp) (g : FG) (ft : FT) (fi1 : FI) (vs1 : List Nat) (g1 : FG) (ft1 : FT) (fe : FE) (e0 : En) (n : Nat) : Nat → Nat → Mem → Option Mem
  | 0, i, M => match it i M with
    | some none => some M
    | _ => none
  | k + 1, i, M => match it i M with
    | some none => some M
    | some (some d) => match g d e0 M with
      | some (e1, M1) => match ft e1 M1 with
        | some (true, M2) => match fi1 e1 M2 with
          | some (src1, M3) => match compF src1.stp g1 ft1 fe (wipeE e1 vs1) n src1.many 0 M3 with
            | some M4 => comp2F it g ft fi1 vs1 g1 ft1 fe e0 n k (i + 1) M4
            | none => none
          | none => none
        | some (false, M2) => comp2F it g ft fi1 vs1 g1 ft1 fe e0 n k (i + 1) M2
        | none => none
      | none => none
    | none => none
def fComp2 (fi : FI) (vs : List Nat) (g : FG) (ft : FT) (fi1 : FI) (vs1 : List Nat) (g1 : FG) (ft1 : FT) (fe : FE) : FE := fun env M => bnd (fi env M) fun src M1 =>
  match comp2F src.stp g ft fi1 vs1 g1 ft1 fe (wipeE env vs) M1.length src.many 0 (M1 ++ [.lst []]) with
  | some M2 => some (.loc M1.length, M2)
  | none => none
section
variable {X : Cx} {ct : Ct} {tg iter tg1 iter1 : Expr} {pos : Pos} {fe : FE} {fi fi1 : FI} {g g1 : FG}
theorem lc2_imp {vs vs1 : List Nat} {ft ft1 : FT} {σ : L2.St} {H : Hp} {Q : VK} (w : tE X.K ct (fComp2 fi vs g ft fi1 vs1 g1 ft1 fe) σ H Q) : tLc2 (tI X.K ct fi) (tG X.K ct vs g) (tT X.K ct ft) (tI X.K ct fi1) (tG X.K ct vs1 g1) (tT X.K ct ft1) (tE X.K ct fe) vs vs1 σ H Q := by
  obtain ⟨ρ, M, env, r, he, d, M', hf, hq⟩ := w
  obtain ⟨src, M1, h1, hf⟩ := bnd_some hf
  split at hf
  · rename_i M2 hc
    cases hf
    refine ⟨ρ, M, env, r, he, src, M1, h1, fun ρ0 H0 e0 r0 J hJ D hD => ?_⟩
    obtain ⟨rN, xN, aN⟩ := r0.newL hD (.nil : DVs X.K ρ0 H0 [] [])
    refine ⟨fun i m H => ∃ ρ M, Ext X.K ρ0 H0 ρ H ∧ Rl X.K ct ρ M H ∧ ρ[M1.length]? = some D ∧ comp2F src.stp g ft fi1 vs1 g1 ft1 fe (wipeE env vs) M1.length m i M = some M' ∧ Aft X.K ct ρ H M' fun ρ' H' => ∀ v, DV X.K ρ' H' (.loc M1.length) v → Q v H',
      ⟨src.many, ρ0 ++ [D], _, xN, rN, aN, hc, (hq.later e0).later xN⟩, ?_⟩
    rintro i m H ⟨ρ, M, x0, r, aD, hf, hq⟩
    have hj := hJ i ρ M H x0 r
    have he' := ((he.mono e0).mono x0).wipe vs
    cases q : src.stp i M with
    | none =>
      cases m with
      | zero => rw [comp2F, q] at hf; cases hf
      | succ m => rw [comp2F, q] at hf; cases hf
    | some o =>
      rw [q] at hj
      cases o with
      | none =>
        have e : some M = some M' := by
          cases m with
          | zero => rw [comp2F, q] at hf; exact hf
          | succ m => rw [comp2F, q] at hf; exact hf
        cases e
        exact .inl ⟨hj, hq ρ H .refl r _ (.loc aD)⟩
      | some d =>
        cases m with
        | zero => rw [comp2F, q] at hf; cases hf
        | succ m =>
          rw [comp2F, q] at hf
          dsimp only at hf
          refine .inr ⟨hj.1, fun H' => ∃ ρ M, Ext X.K ρ0 H0 ρ H' ∧ Rl X.K ct ρ M H' ∧ ρ[M1.length]? = some D ∧ comp2F src.stp g ft fi1 vs1 g1 ft1 fe (wipeE env vs) M1.length m (i + 1) M = some M' ∧ Aft X.K ct ρ H' M' fun ρ' H' => ∀ v, DV X.K ρ' H' (.loc M1.length) v → Q v H',
            fun H' n => ⟨m, Nat.lt_succ_self m, n⟩, fun x H' hy => ?_⟩
          obtain ⟨y1, y2, y3⟩ := hj.2 x H' hy
          split at hf
          · rename_i e1 N1 gg1
            refine ⟨ρ, M, wipeE env vs, d, y2, he'.mono y1, y3, e1, N1, gg1, fun ρ1 H1 x1 r1 σ1 en1 oe => ⟨wipe_eq oe, ?_⟩⟩
            split at hf
            · rename_i N2 g2
              refine ⟨ρ1, N1, e1, r1, en1, true, N2, g2, fun ρ2 H2 x2 r2 => ?_⟩
              dsimp only
              rw [if_pos rfl]
              split at hf
              · rename_i src1 N3 g3
                split at hf
                · rename_i N4 hc1
                  refine ⟨ρ2, N2, e1, r2, en1.mono x2, src1, N3, g3, fun ρ3 H3 x3 r3 J1 hJ1 => ?_⟩
                  have xx := ((y1.trans x1).trans x2).trans x3
                  have en3 := (en1.mono x2).mono x3
                  refine ⟨fun j k H => ∃ ρ M, Ext X.K ρ3 H3 ρ H ∧ Rl X.K ct ρ M H ∧ ρ[M1.length]? = some D ∧ compF src1.stp g1 ft1 fe (wipeE e1 vs1) M1.length k j M = some N4,
                    ⟨src1.many, ρ3, N3, .refl, r3, xx.pre _ _ aD, hc1⟩, ?_⟩
                  rintro j k H5 ⟨ρ5, M5, x5, r5, aD5, hf5⟩
                  have hj1 := hJ1 j ρ5 M5 H5 x5 r5
                  have en5 := (en3.mono x5).wipe vs1
                  cases q1 : src1.stp j M5 with
                  | none =>
                    cases k with
                    | zero => rw [compF, q1] at hf5; cases hf5
                    | succ k => rw [compF, q1] at hf5; cases hf5
                  | some o =>
                    rw [q1] at hj1
                    cases o with
                    | none =>
                      have e : some M5 = some N4 := by
                        cases k with
                        | zero => rw [compF, q1] at hf5; exact hf5
                        | succ k => rw [compF, q1] at hf5; exact hf5
                      cases e
                      exact .inl ⟨hj1, ρ5, _, x0.trans (xx.trans x5), r5, aD5, hf, hq.later (xx.trans x5)⟩
                    | some d5 =>
                      cases k with
                      | zero => rw [compF, q1] at hf5; cases hf5
                      | succ k =>
                        rw [compF, q1] at hf5
                        dsimp only at hf5
                        refine .inr ⟨hj1.1, fun H' => ∃ ρ M, Ext X.K ρ3 H3 ρ H' ∧ Rl X.K ct ρ M H' ∧ ρ[M1.length]? = some D ∧ compF src1.stp g1 ft1 fe (wipeE e1 vs1) M1.length k (j + 1) M = some N4,
                          fun H' n => ⟨k, Nat.lt_succ_self k, n⟩, fun x H' hy => ?_⟩
                        obtain ⟨z1, z2, z3⟩ := hj1.2 x H' hy
                        split at hf5
                        · rename_i e6 N6 g6
                          refine ⟨ρ5, M5, wipeE e1 vs1, d5, z2, en5.mono z1, z3, e6, N6, g6, fun ρ6 H6 x6 r6 σ6 en6 oe6 => ⟨wipe_eq oe6, ?_⟩⟩
                          split at hf5
                          · rename_i N7 g7
                            refine ⟨ρ6, N6, e6, r6, en6, true, N7, g7, fun ρ7 H7 x7 r7 => ?_⟩
                            dsimp only
                            rw [if_pos rfl]
                            split at hf5
                            · rename_i y N8 g8
                              refine ⟨ρ7, N7, e6, r7, en6.mono x7, y, N8, g8, fun ρ8 H8 x8 r8 v dv => ?_⟩
                              split at hf5
                              · rename_i acc hm
                                split at hf5
                                · rename_i hl
                                  have xx8 := ((z1.trans x6).trans x7).trans x8
                                  have aD8 := xx8.pre _ _ aD5
                                  obtain ⟨b, ws, eb, b1, b2, b3⟩ := r8.lst hm (.loc aD8)
                                  cases eb
                                  obtain ⟨r9, x9⟩ := r8.putL aD8 (b3.append (.cons dv .nil))
                                  exact ⟨ws, b2, by rw [← b3.length]; exact hl, ρ8, _, (x5.trans xx8).trans x9, r9, aD8, hf5⟩
                                · cases hf5
                              · cases hf5
                            · cases hf5
                          · rename_i N7 g7
                            refine ⟨ρ6, N6, e6, r6, en6, false, N7, g7, fun ρ7 H7 x7 r7 => ?_⟩
                            dsimp only
                            rw [if_neg (by decide)]
                            have xx7 := (z1.trans x6).trans x7
                            exact ⟨ρ7, N7, x5.trans xx7, r7, xx7.pre _ _ aD5, hf5⟩
                          · cases hf5
                        · cases hf5
                · cases hf
              · cases hf
            · rename_i N2 g2
              refine ⟨ρ1, N1, e1, r1, en1, false, N2, g2, fun ρ2 H2 x2 r2 => ?_⟩
              dsimp only
              rw [if_neg (by decide)]
              have xx := (y1.trans x1).trans x2
              exact ⟨ρ2, N2, x0.trans xx, r2, xx.pre _ _ aD, hf, hq.later xx⟩
            · cases hf
          · cases hf
  · cases hf
theorem se_comp2 {elt : Expr} {ifs ifs1 : List Expr} {scope : Scope} {own : List (Str × Nat)} {vs1 : List Nat} {ft ft1 : FT} (hc : X.calm = true) (hN : X.N.Nodup) (hi : SI X ct tg iter fi) (ok : BlkOk X.N X.env.scope scope own) (hv : ∀ i ∈ vs1, i ∈ own.map (·.2))
    (hg : ∀ s H C cl fp, SG (Cx.cb X scope s H C cl fp) ct (own.map (·.2)) tg g) (ht : ∀ s H C cl fp, STs (Cx.cb X scope s H C cl fp) ct ifs ft)
    (hi1 : ∀ s H C cl fp, SI (Cx.cb X scope s H C cl fp) ct tg1 iter1 fi1)
    (hg1 : ∀ s H C cl fp, SG (Cx.cb X scope s H C cl fp) ct vs1 tg1 g1) (ht1 : ∀ s H C cl fp, STs (Cx.cb X scope s H C cl fp) ct ifs1 ft1)
    (he : ∀ s H C cl fp, SE (Cx.cb X scope s H C cl fp) ct elt fe) (hs : ∀ x, foldedSetIterable iter X.env x = pure x := by intro _; rfl) (hs1 : ∀ env x, foldedSetIterable iter1 env x = pure x := by intro _ _; rfl) :
    SE X ct (.ListComp elt [⟨tg, iter, ifs, 0⟩, ⟨tg1, iter1, ifs1, 0⟩] scope pos) (fComp2 fi (own.map (·.2)) g ft fi1 vs1 g1 ft1 fe) :=
  PE.imp (pe_lc2 hc hN hi ok hv hg ht hi1 hg1 ht1 he hs hs1) fun _ _ _ w => lc2_imp w
end
end Zl

/-! text Z21 -/
namespace Zl
open PySem L2 PySem.Spec PyProof.Rows
/-! ## {k: v}, the key a nested tuple -/
def fDict1N (fk fv : FE) : FE := fun env M => bnd (fk env (M ++ [.dct []])) fun kd M1 => bnd (fv env M1) fun vd M2 => match M2[M.length]? with
  | some (.dct []) => match keyN kd with
    | some k => some (.loc M.length, M2.set M.length (.dcn (putN [] k kd vd)))
    | none => none
  | _ => none
section
variable {X : Cx} {ct : Ct} {pos : Pos} {k v : Expr} {fk fv : FE}
theorem se_dict1N (hu : X.A.units + 65 < cLine) (hk : SE X ct k fk) (hv : SE X ct v fv) (hp : ct.prg = X.prog := by rfl) (hw : ct.wd = X.w := by rfl) : SE X ct (.Dict [some k] [v] pos) (fDict1N fk fv) := by
  refine ⟨fun pins s σ H Q I h => ?_⟩
  obtain ⟨ρ, M, env, r, he, d, M', hf, hq⟩ := h
  obtain ⟨kd, M1, h1, hf⟩ := bnd_some hf
  obtain ⟨vd, M2, h2, hf⟩ := bnd_some hf
  have hn := I.hok.fresh (Nat.le_refl s.heap.objs.size)
  have I1 := I.laid (a := s.heap.objs.size) (o := .dK []) (h' := s.heap.push { cls := .type "dict", data := .dict #[] }) (t' := s.toks) (fun _ _ q => Heap.get?_push_of_some _ q) (Nat.le_refl _) (dk_empty s.heap I.big)
  obtain ⟨r1, x1, a1⟩ := r.new (o := .dct []) (o' := .dK []) hn ⟨[], upd_same, rfl, .nil⟩
  have room : (nestedKind X.prog X.w).room X.A := by show X.A.units + 8 < cLine; omega
  rw [arm_eval_Dict, zip_pairTrees [some k] [v] X.env pos rfl rfl, dictDisplay_pairs (pairTrees [some k] [v] X.env pos) (by intro z; cases z) (by show 1 < 17; decide)]
  refine wpAny_bind (wpAny_standAt (wpAny_bind (wpAny_subDictH (knd := nestedKind X.prog X.w) (Q := fun d s' => wpAny (model X.prog X.w) X.A (pure (Value.ref d)) (EP X pins σ Q) X.xe s') room (by show 1 ≤ 15; decide)
    (thn ((pps_cons hk hv pps_nil).run pins _ σ _ (fun ps H3 => ∃ ρ3 x y, ps = [(x, y)] ∧ Ext X.K (ρ ++ [s.heap.objs.size]) (upd H s.heap.objs.size (.dK [])) ρ3 H3 ∧ Rl X.K ct ρ3 M2 H3 ∧ DV X.K ρ3 H3 kd x ∧ DV X.K ρ3 H3 vd y) I1
      ⟨ρ ++ [s.heap.objs.size], M ++ [.dct []], env, r1, he.mono x1, kd, M1, h1, fun ρ2 H2 e2 r2 x dx => ⟨ρ2, M1, env, r2, (he.mono x1).mono e2, vd, M2, h2, fun ρ3 H3 e3 r3 y dy => ⟨ρ3, x, y, rfl, e2.trans e3, r3, dx.mono e3, dy⟩⟩⟩) ?_))))
  rintro ws s2 ⟨ps, H2, I2, rel, ρ3, x, y, rfl, e3, r3, dx, dy⟩
  cases rel with
  | cons rl rt =>
    cases rt
    rename_i uu
    obtain ⟨u1, u2⟩ := uu
    obtain ⟨ru1, ru2⟩ := rl
    split at hf
    · rename_i hm
      split at hf
      · rename_i k0 hk0
        cases hf
        obtain ⟨b, rfl, eb, ki⟩ := key_is I2 dx ru1 hk0
        have a3 := e3.pre _ _ a1
        obtain ⟨a, vs, ea, b1, b2, b3, b4⟩ := r3.dct hm (.loc a3)
        cases ea
        have ev : vs = [] := List.length_eq_zero_iff.mp (by have := congrArg List.length b3; simpa using this.symm)
        subst ev
        obtain ⟨dd, ds⟩ := dn_empty I2 b2
        refine ⟨[(k0, b, u2)], ⟨eb, rfl, ki, trivial⟩, dd, fun h' tk dd' sb => wpAny_pure ?_⟩
        have he' : ∃ u, h'.get? s.heap.objs.size = some u := by
          obtain ⟨o, _, _, ho, _⟩ := dd'
          exact ⟨o, ho⟩
        have hst : storedAllH [] [(k0, b, u2)] = storedH [] k0 b u2 := rfl
        rw [hst] at dd'
        have hlen : (storedH ([] : List (NestedKey × Addr × Value)) k0 b u2).length ≤ sizeLine := by
          have := storedH_length ([] : List (NestedKey × Addr × Value)) k0 b u2
          have h0 : (1 : Nat) ≤ sizeLine := by decide
          simp only [List.length_nil] at this
          omega
        obtain ⟨ws', p1, p2, p3, p4, p5⟩ := put_ofN (kvs := []) (xs := []) (vs := []) hk0 dx dy ru2 rfl (fun p hp => by simp at hp) .nil .nil .nil
        obtain ⟨oo, hm', hk'⟩ := r3.addr a3
        have sf : Ext X.K ρ3 H2 ρ3 (upd H2 s.heap.objs.size (NDic X.prog X.w s.heap.objs.size (storedH [] k0 b u2))) := Ext.soft (fun _ _ h => h) hk'.soft.1 hk'.soft.2
        obtain ⟨r4, e4⟩ := r3.put (o := .dcn (putN [] k0 kd vd)) (o' := NDic X.prog X.w s.heap.objs.size (storedH [] k0 b u2)) a3 ⟨_, ws', by rw [upd_same, hp, hw], p1, p2, p3.mono sf, p4.mono sf, p5⟩
        refine ⟨.ref s.heap.objs.size, _, I2.write (e := s.heap.objs.size) (t' := tk) (by rw [b2]; trivial) (.inl rfl) (fun b u hb hu => (sb.2 b hb).trans hu) he' (ndic_new dd' hlen ds), rfl, ?_⟩
        exact hq ρ3 _ ((x1.trans e3).trans e4) r4 _ (.loc (e4.pre _ _ a3))
      · cases hf
    · cases hf
end
end Zl

/-! text Z22 -/
namespace Zl
open PySem L2 PySem.Spec PyProof.Rows
/-! ## set(list of whole numbers) -/
def dedupI (is : List Int) : List Int := PyProof.Rows.firstMet (fun i => is.getD i 0) is.length
def setOfD : List Dv → Mem → Rz
  | [.loc n], M => match M[n]? with
    | some (.lst ys) => match intsOf ys with
      | some is => if is.length < 4000 then some (.loc M.length, M ++ [.st (dedupI is)]) else none
      | none => none
    | _ => none
  | _, _ => none
section
variable {X : Cx} {ct : Ct}
theorem sc_set (hc : X.calm = true) : SC X ct (.type "set") setOfD := by
  intro pins s σ H xs us Q I rv h
  obtain ⟨ρ, M, ds, r, dv, z, M', hf, hq⟩ := h
  unfold setOfD at hf
  split at hf
  · split at hf
    · rename_i ys hm
      split at hf
      · rename_i is hi
        split at hf
        · rename_i hl
          cases hf
          have hy := intsOf_eq hi
          subst hy
          obtain ⟨v, rfl, d1⟩ := dvs_one dv
          obtain ⟨l, vs, rfl, a1, hH, a3⟩ := r.lst hm d1
          have hv := vs_ints a3
          subst hv
          obtain ⟨u, rfl, ru⟩ := vals1 rv
          cases ru
          obtain ⟨its, rvv, pl, hz⟩ := I.list (SqL.of hH)
          have hia : IntsAre its is := intsAre_of rvv
          have hlen : its.length = is.length := by have := rvv.length; simpa using this.symm
          have hn : H s.heap.objs.size = none := I.hok.fresh (Nat.le_refl _)
          refine call_set_list (ns := is) (I.ok.hd hc) pl.isList (by simpa using hia) (by
            have h4 : 4001 < scanBound := by decide
            rw [List.size_toArray, hlen]; omega) fun h' tk R keep => ?_
          have hsz : its.toArray.size = is.length := by simpa using hlen
          rw [hsz] at R
          obtain ⟨r2, e2, h2⟩ := r.new (o := .st (dedupI is)) (o' := .set (fun k => (dedupI is).any (· == k)) (dedupI is).length) hn upd_same
          exact ⟨.ref s.heap.objs.size, _, I.laid (o := .set (fun k => (dedupI is).any (· == k)) (dedupI is).length) (t' := tk) (fun b u e => keep b u (Heap.lt_size e) e) (Nat.le_refl _) R, rfl, hq _ _ e2 r2 _ (.loc h2)⟩
        · cases hf
      · cases hf
    · cases hf
  · cases hf
/-- *e, a tuple, in a display or in a list of arguments -/
theorem sa_star {e : Expr} {es : List Expr} {p : Pos} {fa : FE} {fr : FA} (h : SE X ct e fa) (k : SA X ct es fr) (hs : starEach (.Starred e p :: es) X.env = (true, eval e X.env) :: starEach es X.env := by rfl) : SA X ct (.Starred e p :: es) (fStar fa fr) :=
  PA.imp (StX.pa_star h k hs) fun σ H Q ⟨ρ, M, env, r, he, d, M', hf, hq⟩ => by
    obtain ⟨x, M1, h1, hf⟩ := bnd_some hf
    split at hf
    · rename_i zs
      obtain ⟨ys, M2, h2, hf⟩ := bnd_some hf
      cases hf
      refine ⟨ρ, M, env, r, he, _, M1, h1, fun ρ1 H1 e1 r1 v dv => ?_⟩
      cases dv with
      | tup td ds =>
        exact ⟨_, _, rfl, .inl td.sq, ρ1, M1, env, r1, he.mono e1, ys, _, h2, fun ρ2 H2 e2 r2 vs dvs => hq ρ2 H2 (e1.trans e2) r2 _ ((ds.mono e2).append dvs)⟩
    · cases hf
/-- {k: v}, the key a whole number or a text -/
def fDict1K (fk fv : FE) : FE := fun env M => bnd (fk env (M ++ [.dct []])) fun kd M1 => bnd (fv env M1) fun vd M2 => match M2[M.length]? with
  | some (.dct []) => match keyD kd with
    | some k => some (.loc M.length, M2.set M.length (.dct (putDk [] k vd)))
    | none => none
  | _ => none
theorem se_dict1K {k v : Expr} {fk fv : FE} {pos : Pos} (hk : SE X ct k fk) (hv : SE X ct v fv) : SE X ct (.Dict [some k] [v] pos) (fDict1K fk fv) :=
  PE.imp (pe_disp (pps_cons hk hv pps_nil) rfl rfl (by intro z; cases z) (by show 1 ≤ 15; decide)) fun σ H Q ⟨ρ, M, env, r, he, d, M', hf, hq⟩ p hp => by
    obtain ⟨kd, M1, h1, hf⟩ := bnd_some hf
    obtain ⟨vd, M2, h2, hf⟩ := bnd_some hf
    obtain ⟨r1, x1, a1⟩ := r.new (o := .dct []) (o' := .dK []) hp ⟨[], upd_same, rfl, .nil⟩
    refine ⟨ρ ++ [p], M ++ [.dct []], env, r1, he.mono x1, kd, M1, h1, fun ρ2 H2 e2 r2 x dx => ⟨ρ2, M1, env, r2, (he.mono x1).mono e2, vd, M2, h2, fun ρ3 H3 e3 r3 y dy => ?_⟩⟩
    split at hf
    · rename_i hm
      split at hf
      · rename_i k0 hk0
        cases hf
        have a3 := (e2.trans e3).pre _ _ a1
        obtain ⟨a, vs, ea, b1, b2, b3, b4⟩ := r3.dct hm (.loc a3)
        cases ea
        have ev : vs = [] := List.length_eq_zero_iff.mp (by have := congrArg List.length b3; simpa using this.symm)
        subst ev
        obtain rfl := keyD_of dx hk0
        obtain ⟨p1, p2⟩ := put_of (k := k0) dy b3 b4
        obtain ⟨oo, hm', hk'⟩ := r3.addr a3
        obtain ⟨r4, e4⟩ := r3.put (o := .dct (putDk [] k0 vd)) (o' := .dK (putK [] k0 y)) a3 ⟨_, upd_same, p1, p2.mono (Ext.soft (fun _ _ h => h) hk'.soft.1 hk'.soft.2)⟩
        exact ⟨b2, [(k0, y)], rfl, by show 1 ≤ 15; decide, hq ρ3 _ ((x1.trans (e2.trans e3)).trans e4) r4 _ (.loc (e4.pre _ _ a3))⟩
      · cases hf
    · cases hf
end
end Zl

/-! text Z23 -/
namespace Zl
open PySem L2 PySem.Spec PyProof.Rows
/-! ## properties, attributes that are added to, sets of texts, sorted(.., reverse=True) -/
section
variable {X : Cx} {ct : Ct} {k : Nat} {f C p g : Addr} {fd : FuncData} {ps : List Str} {F : FF} {fld : Str} {pos pos' : Pos} {e o v' : Expr} {fo fv : FE} {c : Nat}
/-- o.f, a property of the own class -/
def fProp (c : Nat) (fld : Str) (np : Nat) (F : FF) (fo : FE) : FE := fun env M => bnd (fo env M) fun d M1 => if isIns c fld d M1 = true ∧ 1 = np then F [d] M1 else none
theorem se_prop (ho : SE X ct o fo) (hc : ct c = some C) (cl : Cls X.K C) (hp : PropOf X.K C fld p g) (G : SF X ct k g fd ps F) (hr : Room (k + 1) X.A) (hgd : X.A.guards = some []) (hb : Binds X.K fd ps [])
    (hab : attributeBase o fld X.env (eval o X.env) = eval o X.env := by rfl) : SE X ct (.Attribute o fld pos) (fProp c fld ps.length F fo) := by
  refine ⟨fun pins s σ H Q I w => ?_⟩
  obtain ⟨ρ, M, env, r, hen, d, M', hf, hq⟩ := w
  obtain ⟨y, M1, h1, hf⟩ := bnd_some hf
  split at hf
  · rename_i hi
    refine attr_of hab (thn (ho.run pins s σ H (fun v H1 => ∃ ρ1, Ext X.K ρ H ρ1 H1 ∧ Rl X.K ct ρ1 M1 H1 ∧ DV X.K ρ1 H1 y v) I ⟨ρ, M, env, r, hen, y, M1, h1, fun ρ1 H1 e1 r1 v dv => ⟨ρ1, e1, r1, dv⟩⟩) fun u s1 z => ?_)
    obtain ⟨v, H1, I1, rv, ρ1, e1, r1, dv⟩ := z
    obtain ⟨a, dx, vfs, rfl, a3, a4⟩ := isIns_ok r1 dv hc hi.1
    obtain rfl : u = Value.ref a := rv
    obtain ⟨mA, O, _, _, _, _⟩ := ins_get I1.hok a3
    obtain ⟨od, J, _⟩ := O.look
    obtain ⟨rest, hrec⟩ := hp.rec_
    have I2 := I1.tok (s1.toks + 1)
    have hC : (PySem.W.clsIn X.K C).isSome = true := by obtain ⟨cd, q, _⟩ := PySem.W.any_some cl.hd; rw [q]; rfl
    have bt := hb { s1 with toks := s1.toks + 1 } [.ref a] I2.kIn (by simpa using hi.2)
    rw [List.append_nil] at bt
    refine PySem.W.get_bind I1.kIn J (PySem.W.plainGet_of (cl.get fld)).1 (PySem.W.findObj_data hC hp.at_ hp.get hp.tak) (PySem.W.plainGet_of (cl.get fld)).2 (wpAny_call (PySem.W.prop_get (s := { s1 with toks := s1.toks + 1 }) I1.kIn hrec ?_))
    refine codeAny_mono (G.run X.A.in1 X.stack { s1 with toks := s1.toks + 1 } H1 ⟨[.ref a], []⟩ [.ref a] [.ref a] Q E0 hr.in1 hgd I2.env0.in1 bt (.cons rfl .nil) (spF_use (ds := [y]) hi.2 e1 r1 (.cons dv .nil) hf hq)) fun z s' hz => ?_
    match z, hz with
    | .ok (.ret u), hz =>
      obtain ⟨v, H', I3, rv, q3⟩ := I2.after hz
      show wpAny _ _ (handedOut u) _ _ _; rw [PySem.W.handedOut_of (handed_of rv)]; exact wpAny_pure ⟨v, H', I3, rv, q3⟩
  · cases hf
/-- o.f op= e, whole numbers -/
def fFldAug (c : Nat) (fld : Str) (h : Int → Int → Int) (fo fv : FE) : FS := fun env M => bnd (fo env M) fun d M1 => match d with
  | .loc n => match M1[n]? with
    | some (.ins c' fs) => if c' = c then match fs.lookup fld with
        | some (.int i) => bnd (fv env M1) fun y M2 => match y with
          | .int j => match M2[n]? with
            | some (.ins c2 fs2) => if c2 = c ∧ fs2.length < 1000 then some (.nx env, M2.set n (.ins c (putD fld (.int (h i j)) fs2))) else none
            | _ => none
          | _ => none
        | _ => none
      else none
    | _ => none
  | _ => none
def rI2 (h : Int → Int → Int) : V → V → Hp → VK → Prop := fun x y H Q => ∃ i j, x = .int i ∧ y = .int j ∧ Q (.int (h i j)) H
theorem ia_add : InOp X .Add (rI2 fun i j => i + j) := in_add
theorem ia_sub : InOp X .Sub (rI2 fun i j => i - j) := in_sub
theorem ss_fldaug {op : Operator} {h : Int → Int → Int} (ho : SE X ct o fo) (hv : SE X ct v' fv) (hop : InOp X op (rI2 h)) (hc : ct c = some C) (cl : Cls X.K C) (na : NoAttr X.K C fld) :
    SS X ct (.AugAssign (.Attribute o fld pos') op v' pos) (fFldAug c fld h fo fv) :=
  PS.imp (ps_fldaug ho hv hop) fun D σ H ⟨ρ, M, env, r, he, fl, M', hf, hq⟩ => by
    obtain ⟨d, M1, h1, hf⟩ := bnd_some hf
    refine ⟨ρ, M, env, r, he, d, M1, h1, fun ρ1 H1 e1 r1 v dv => ?_⟩
    split at hf
    · split at hf
      · rename_i hm
        split at hf
        · rename_i hcc
          subst hcc
          split at hf
          · rename_i i hy
            obtain ⟨y, M2, h2, hf⟩ := bnd_some hf
            split at hf
            · rename_i j
              split at hf
              · rename_i hm2
                split at hf
                · rename_i hc2
                  cases hf
                  obtain ⟨hc2, hl⟩ := hc2
                  subst hc2
                  obtain ⟨a, C', dx, vfs, rfl, a1, a2, a3, a4⟩ := r1.ins hm dv
                  rw [hc] at a2; cases a2
                  obtain ⟨u, u1, u2⟩ := a4.look.1 _ hy
                  cases u2
                  refine ⟨a, C, dx, vfs, _, rfl, a3, cl, na, u1, ρ1, M1, env, r1, he.mono e1, _, M2, h2, fun ρ2 H2 e2 r2 w dw => ?_⟩
                  cases dw
                  obtain ⟨a', C', dx', vfs', ea', b1, b2, b3, b4⟩ := r2.ins hm2 (dv.mono e2)
                  cases ea'
                  rw [hc] at b2; cases b2
                  have xs : Ext X.K ρ2 H2 ρ2 (upd H2 a (.ins C dx' (putF fld (.int (h i j)) vfs'))) := Ext.soft (fun _ _ z => z) (fun _ q => by rw [b3] at q; cases q) fun _ _ q => by rw [b3] at q; cases q
                  obtain ⟨r3, e3⟩ := r2.put (o := .ins _ (putD fld (.int (h i j)) _)) (o' := .ins C dx' (putF fld (.int (h i j)) vfs')) b1 ⟨C, dx', _, hc, upd_same, (b4.put (.int _)).mono xs⟩
                  exact ⟨i, j, rfl, rfl, dx', vfs', b3, by rw [← b4.length]; exact hl, hq ρ2 _ ((e1.trans e2).trans e3) r3 σ (((he.mono e1).mono e2).mono e3)⟩
                · cases hf
              · cases hf
            · cases hf
          · cases hf
        · cases hf
      · cases hf
    · cases hf
end
/-! ### sets of texts -/
def dedS (xs : List Str) : List Str := xs.foldl (fun acc x => if x ∈ acc then acc else acc ++ [x]) []
theorem dedS_snoc {xs : List Str} {x : Str} : dedS (xs ++ [x]) = if x ∈ dedS xs then dedS xs else dedS xs ++ [x] := by
  unfold dedS
  rw [List.foldl_append]; rfl
theorem dedS_len : ∀ n (xs : List Str), xs.length = n → (dedS xs).length ≤ n
  | 0, xs, h => by rw [List.length_eq_zero_iff.mp h]; exact Nat.le_refl _
  | n + 1, xs, h => by
    obtain ⟨ys, y, rfl⟩ : ∃ ys y, xs = ys ++ [y] := ⟨xs.dropLast, xs.getLast (by intro z; rw [z] at h; cases h), (List.dropLast_concat_getLast _).symm⟩
    have h2 : ys.length = n := by simpa using h
    have := dedS_len n ys h2
    rw [dedS_snoc]
    split
    · omega
    · simp; omega
abbrev memS (ys : List Str) : Key → Bool := fun k => ys.any fun x => decide (k = Sum.inr x)
theorem memS_str {ys : List Str} {x : Str} : memS ys (Sum.inr x) = decide (x ∈ ys) := by
  induction ys with
  | nil => rfl
  | cons y ys ih =>
    show (decide ((Sum.inr x : Key) = Sum.inr y) || memS ys (Sum.inr x)) = _
    rw [ih]
    by_cases e : x = y
    · subst e; simp
    · simp [e]
theorem setK_eq {P : Program} {w : World} {h : Heap} {a : Addr} {S S' : Key → Bool} {n n' : Nat} (hS : h.SetOf (mixKind P w) a S n) (e : ∀ k, S k = S' k) (en : n = n') : h.SetOf (mixKind P w) a S' n' := by
  cases en; cases (funext e : S = S'); exact hS
section
variable {prog : Program} {w : World} {A : Around} {R : Result → Shared → Prop} {it : Addr} {fp wr : List Addr} {G : Array GenState → Array GenState → Prop} {n : Nat} {P : Nat → Value → Prop} {St : Nat → Shared → Prop}
theorem set_texts (W : WalksS prog w A.in1 it fp wr G n P St) (z : Addr) (hz : z ∉ fp) (xs : List Str) (hn : xs.length = n) (hb : n + 1 < scanBound) (hv : ∀ i v, P i v → ∃ x t, xs[i]? = some x ∧ v = .str x t) :
    ∀ (k i : Nat) (s : Shared), n - i = k → i ≤ n → St i s → s.heap.SetOf (mixKind prog w) z (memS (dedS (xs.take i))) (dedS (xs.take i)).length →
      (∀ s', Moved (z :: wr) G s s' → s'.heap.SetOf (mixKind prog w) z (memS (dedS xs)) (dedS xs).length → R (.ok (.ret .none)) s') →
      codeAny (model prog w) A (.builtin "set.update.loop" ⟨[.ref z, .ref it], []⟩) R s := by
  have zw : z ∉ wr := fun q => hz (W.sub _ q)
  have up : ∀ b ∈ wr, b ∈ z :: wr := fun b q => List.mem_cons_of_mem _ q
  intro k
  induction k with
  | zero =>
    intro i s hk hi st S0 fin
    obtain rfl : i = n := by omega
    refine codeAny_builtin PyProof.Rows.F.entry_set_update_loop ?_; rw [Around.under_plainId PyProof.Rows.F.plain_set_update_loop _]
    show wpAny _ A.in1 (pyNext (.ref it) >>= _) _ _ s
    refine wpAny_bind (W.done s _ _ st fun s' m => ?_)
    show wpAny _ A.in1 (ret Value.none) _ _ s'
    rw [← hn, List.take_length] at S0
    exact wpAny_pure (fin s' (m.mono up) (setOf_at S0 fun o q => m.heap z o zw q))
  | succ k ih =>
    intro i s hk hi st S0 fin
    have lt : i < n := by omega
    refine codeAny_builtin PyProof.Rows.F.entry_set_update_loop ?_; rw [Around.under_plainId PyProof.Rows.F.plain_set_update_loop _]
    show wpAny _ A.in1 (pyNext (.ref it) >>= _) _ _ s
    refine wpAny_bind (W.item i s _ _ lt st fun v s' pv st' m => ?_)
    obtain ⟨x, t, ex, rfl⟩ := hv i v pv
    have S1 := setOf_at S0 fun o q => m.heap z o zw q
    show wpAny _ A.in1 (holding [Value.str x t] (setAdd z (.str x t)) >>= _) _ _ s'
    refine wpAny_bind (wpAny_holding ?_); unfold setAdd
    refine wpAny_holding (wpAny_bind ((mixKind prog w).pyHash (k := Sum.inr x) (mixKind_str prog w x t) ?_))
    have few := dedS_len i (xs.take i) (by rw [List.length_take]; omega)
    refine wpAny_setAddHashed_of (knd := mixKind prog w) (s := { s' with toks := s'.toks + 1 }) (mixKind_str prog w x t) rfl S1 (by omega) fun h' sb S2 => ?_
    have S3 : h'.SetOf (mixKind prog w) z (memS (dedS (xs.take (i + 1)))) (dedS (xs.take (i + 1))).length := by
      have et : xs.take (i + 1) = xs.take i ++ [x] := by rw [List.take_add_one, ex]; rfl
      rw [et, dedS_snoc]
      rw [memS_str] at S2
      by_cases hm : x ∈ dedS (xs.take i)
      · rw [if_pos hm]
        rw [decide_eq_true hm, if_pos rfl] at S2
        refine setK_eq S2 (fun j => ?_) rfl
        by_cases e : j = Sum.inr x
        · subst e
          rw [memS_str, decide_eq_true hm]; rfl
        · rw [decide_eq_false e, Bool.or_false]
      · rw [if_neg hm]
        rw [decide_eq_false hm, if_neg (by decide)] at S2
        refine setK_eq S2 (fun j => ?_) (by simp)
        show _ = (dedS (xs.take i) ++ [x]).any _
        rw [List.any_append]
        simp
    refine wpAny_pure ⟨plainId_quiet PyProof.Rows.F.plain_set_update_loop _, ih (i + 1) _ (by omega) lt (W.frame _ s' _ _ st' (Nat.le_succ _) fun b q o e => ?_) S3 fun s2 m2 S4 => ?_⟩
    · rw [sb.2 b (fun y : b = z => hz (y ▸ q))]; exact e
    · refine fin s2 (Moved.trans W.gtrans ((m.mono up).then_heap (Nat.le_succ _) fun b o q e => ?_) m2) S4
      rw [sb.2 b (fun y : b = z => q (y ▸ List.mem_cons_self))]; exact e
end
section
variable {prog : Program} {w : World} {A : Around} {E : Value → Shared → Prop} {s : Shared}
set_option maxHeartbeats 8000000 in
/-- set(a tuple of texts) -/
theorem call_set_texts {l : Addr} {its : Array Value} {xs : List Str} {Q : Value → Shared → Prop} (hh : A.handled = none) (hl : s.heap.IsTuple l its) (hs : its.size = xs.length) (hi : ∀ (i : Nat) v, its[i]? = some v → ∃ x t, xs[i]? = some x ∧ v = .str x t) (hb : xs.length + 1 < scanBound)
    (k : ∀ (h' : Heap) (tk : Nat), h'.SetOf (mixKind prog w) s.heap.objs.size (memS (dedS xs)) (dedS xs).length → (∀ b o, b < s.heap.objs.size → s.heap.get? b = some o → h'.get? b = some o) → Q (.ref s.heap.objs.size) { s with heap := h', toks := tk }) :
    wpAny (model prog w) A (call (.type "set") [.ref l]) Q E s := by
  obtain ⟨c, tl, z1⟩ := PySem.F.called_set.mro
  have z2 := PySem.F.called_set.made; have z3 := PySem.F.called_set.sub; have z4 := PySem.F.called_set.notType; have z5 := PySem.F.called_set.canCreate; have z6 := PySem.F.typeCall_set_1 (.ref l)
  refine wpAny_call (codeAny_of_tree ?_); show wpAny _ _ (callAny (.type "set") _) _ _ _
  refine wpAny_pure ⟨Code.quiet_builtin _ (by decide +kernel), codeAny_builtin PySem.F.entry_type_call ?_⟩; rw [Around.under_plain (weight_type_call_type "set" [.ref l] []) rfl]
  repeat (any_goals (first | assumption | wp_step))
  refine codeAny_mono (code_set_new_1 (.ref l) (E := E) (Q₁ := fun y s1 => ∃ led : Bool, y = .ref s.heap.objs.size ∧ s1 = { s with heap := s.heap.push { cls := .type "set", dict := none, data := .set #[] 0 (.fresh 0 0 led) } }) fun led => ⟨led, rfl, rfl⟩) fun r s1 hr => ?_
  match r, hr with
  | .error e, hr => exact hr
  | .ok (.ret y), hr =>
    obtain ⟨led, rfl, rfl⟩ := hr
    have g0 : (s.heap.push { cls := .type "set", dict := none, data := .set #[] 0 (.fresh 0 0 led) }).get? s.heap.objs.size = some { cls := .type "set", dict := none, data := .set #[] 0 (.fresh 0 0 led) } := Heap.get?_push_size _ rfl
    have tS : Shared.TypeIs { s with heap := s.heap.push { cls := .type "set", dict := none, data := .set #[] 0 (.fresh 0 0 led) } } (.ref s.heap.objs.size) "set" := ⟨_, g0, rfl⟩
    have z7 := PySem.F.called_set.init.lookup; have z8 := PySem.F.called_set.init.bind (.ref s.heap.objs.size)
    repeat (any_goals (first | assumption | wp_step))
    refine codeAny_mono (codeAny_call_builtin (R := wants (fun r s2 => r = .none ∧ ∃ h' tk, s2 = { s with heap := h', toks := tk } ∧ h'.SetOf (mixKind prog w) s.heap.objs.size (memS (dedS xs)) (dedS xs).length ∧ (∀ b o, b < s.heap.objs.size → s.heap.get? b = some o → h'.get? b = some o)) E) PySem.F.called_set.init.plain PySem.F.entry_set_init (check_set_init_1 tS ?_)) fun r2 s2 hr2 => ?_
    · obtain ⟨⟨oc, od, odata, os⟩, ho, q1, nl, q2⟩ := hl
      simp only at q1 q2
      subst q1; subst q2
      have g1 : (s.heap.push { cls := .type "set", dict := none, data := .set #[] 0 (.fresh 0 0 led) }).get? l = some { cls := .type "tuple", dict := od, data := .seq its nl, slots := os } := Heap.get?_push_of_some _ ho
      have y1 := PySem.F.sub_tuple_set; have y2 := PySem.F.sub_tuple_frozenset
      have y3 : (Value.type "tuple" == Value.type "dict") = false := by decide
      have l1 : (s.heap.push { cls := .type "set", dict := none, data := .set #[] 0 (.fresh 0 0 led) }).IsTuple l its := ⟨_, g1, rfl, nl, rfl⟩
      unfold Builtin.«set.__init__» noKeywords Builtin.Frozenset.updateFrom; generalize hPI : pyIter = PI; wp_walk; subst hPI
      refine wpAny_pyIter_tuple l1 ?_
      refine wpAny_bind (wpAny_runValue ?_)
      have lS : l < s.heap.objs.size := Heap.lt_size ho
      have h3 : A.in1.in1.in1.handled = none := by simp [hh]
      have sz : (s.heap.push { cls := .type "set", dict := none, data := .set #[] 0 (.fresh 0 0 led) }).objs.size = s.heap.objs.size + 1 := Heap.size_push ..
      have ne : l ≠ (s.heap.push { cls := .type "set", dict := none, data := .set #[] 0 (.fresh 0 0 led) }).objs.size := by rw [sz]; exact Nat.ne_of_lt (Nat.lt_succ_of_lt lS)
      have nf : s.heap.objs.size ∉ [(s.heap.push { cls := .type "set", dict := none, data := .set #[] 0 (.fresh 0 0 led) }).objs.size, l] := by
        rw [sz]; simp only [List.mem_cons, List.not_mem_nil, or_false, not_or]; exact ⟨Nat.ne_of_lt (Nat.lt_succ_self _), Nat.ne_of_gt lS⟩
      refine set_texts ((Walks.tuple h3 _ l ne its).toS) s.heap.objs.size nf xs hs.symm (by omega) hi (its.size - 0) 0 _ (by omega) (Nat.zero_le _) ⟨⟨_, Heap.get?_push_size _ rfl, rfl, rfl⟩, (l1.push _)⟩ ?xa ?xb
      case xa =>
        have g2 : ((s.heap.push { cls := .type "set", dict := none, data := .set #[] 0 (.fresh 0 0 led) }).push { cls := .type "tuple_iterator", data := .fields #[.ref l, .int 0 0] }).get? s.heap.objs.size = some { cls := .type "set", dict := none, data := .set #[] 0 (.fresh 0 0 led) } := Heap.get?_push_of_some _ g0
        have fr : Heap.SetOf (mixKind prog w) _ s.heap.objs.size (fun _ => false) 0 := ⟨_, #[], 0, _, g2, ⟨rfl, rfl, rfl⟩, rfl, fun e he => by simp at he, fun k => by simp, by decide, by rfl, rfl⟩
        exact setK_eq fr (fun _ => rfl) rfl
      case xb =>
        intro s' m S'
        obtain ⟨h', g', d', tk', os'⟩ := s'
        obtain rfl : g' = s.gens := m.gens
        obtain rfl : d' = s.drawn := m.drawn
        obtain rfl : os' = s.os := m.os
        show wpAny _ _ _ _ _ _
        refine wpAny_pure ?_
        show wpAny _ _ (ret Value.none) _ _ _
        refine wpAny_pure ⟨rfl, h', tk', rfl, S', fun b o hb' e => ?_⟩
        exact m.heap b o (by rw [sz]; simp only [List.mem_cons, List.not_mem_nil, or_false, not_or]; exact ⟨Nat.ne_of_lt hb', Nat.ne_of_lt (Nat.lt_succ_of_lt hb')⟩) (Heap.get?_push_of_some _ (Heap.get?_push_of_some _ e))
    · match r2, hr2 with
      | .error e, hr2 => exact hr2
      | .ok (.ret y), hr2 =>
        obtain ⟨rfl, h', tk, rfl, S', keep⟩ := hr2
        repeat (any_goals (first | assumption | wp_step))
        exact k _ _ S' keep
end
end Zl

/-! text Z24 -/
namespace Zl
open PySem L2 PySem.Spec PyProof.Rows
def strsOf : List Dv → Option (List Str)
  | [] => some []
  | .str x :: ds => match strsOf ds with
    | some xs => some (x :: xs)
    | none => none
  | _ :: _ => none
theorem strsOf_eq : ∀ {ds : List Dv} {xs : List Str}, strsOf ds = some xs → ds = xs.map .str
  | [], xs, h => by cases h; rfl
  | d :: ds, xs, h => by
    unfold strsOf at h
    split at h
    · contradiction
    · rename_i x r e
      split at h
      · rename_i ys hy
        cases h
        cases e
        rw [strsOf_eq hy]; rfl
      · cases h
    · cases h
theorem strsOf_map : ∀ xs : List Str, strsOf (xs.map .str) = some xs
  | [] => rfl
  | x :: xs => by
    show (match strsOf (xs.map .str) with | some ys => some (x :: ys) | none => none) = _
    rw [strsOf_map xs]
theorem vs_strs {K : Frg} {ρ : List Addr} {H : Hp} : ∀ {xs : List Str} {vs : List V}, DVs K ρ H (xs.map .str) vs → vs = xs.map V.str
  | [], _, h => by cases h; rfl
  | x :: xs, _, h => by
    cases h with
    | cons a b =>
      cases a
      rw [vs_strs b]; rfl
theorem vals_strs : ∀ {xs : List Str} {us : List Value} {i : Nat} {u : Value}, Vals (xs.map V.str) us → us[i]? = some u → ∃ x t, xs[i]? = some x ∧ u = .str x t
  | [], _, i, u, h, e => by cases h; simp at e
  | x :: xs, _, 0, u, h, e => by
    cases h with
    | cons a b =>
      simp at e
      subst e
      obtain ⟨t, rfl⟩ := a
      exact ⟨x, t, rfl, rfl⟩
  | x :: xs, _, i + 1, u, h, e => by
    cases h with
    | cons a b =>
      obtain ⟨y, t, h1, h2⟩ := vals_strs (i := i) b (by simpa using e)
      exact ⟨y, t, by simpa using h1, h2⟩
def setOfE : List Dv → Mem → Rz
  | [.tup ys], M => match strsOf ys with
    | some xs => if xs.length < 4000 then some (.loc M.length, M ++ [.sk (dedS xs)]) else none
    | none => none
  | ds, M => setOfD ds M
section
variable {X : Cx} {ct : Ct}
theorem sc_setE (hc : X.calm = true) (hp : ct.prg = X.prog := by rfl) (hw : ct.wd = X.w := by rfl) : SC X ct (.type "set") setOfE := by
  intro pins s σ H xs us Q I rv h
  obtain ⟨ρ, M, ds, r, dv, z, M', hf, hq⟩ := h
  unfold setOfE at hf
  split at hf
  · split at hf
    · rename_i ws hx
      split at hf
      · rename_i hl
        cases hf
        have hy := strsOf_eq hx
        subst hy
        obtain ⟨v, rfl, d1⟩ := dvs_one dv
        cases d1 with
        | @tup _ vs l td dd =>
          have hv := vs_strs dd
          subst hv
          obtain ⟨u, rfl, ru⟩ := vals1 rv
          cases ru
          obtain ⟨its, rvv, pl, hz⟩ := I.tuple td.sq
          have hlen : its.length = ws.length := by have := rvv.length; simpa using this.symm
          have hn : H s.heap.objs.size = none := I.hok.fresh (Nat.le_refl _)
          refine call_set_texts (xs := ws) (I.ok.hd hc) (its := its.toArray) pl (by simpa using hlen) (fun i v e => vals_strs rvv (by simpa using e)) (by
            have h4 : 4001 < scanBound := by decide
            omega) fun h' tk R keep => ?_
          obtain ⟨r2, e2, h2⟩ := r.new (o := .sk (dedS ws)) (o' := SetK X.prog X.w s.heap.objs.size (memS (dedS ws)) (dedS ws).length) hn (by
            show upd H _ _ _ = some (SetK ct.prg ct.wd _ _ _)
            rw [hp, hw]; exact upd_same)
          exact ⟨.ref s.heap.objs.size, _, I.laid (o := SetK X.prog X.w s.heap.objs.size (memS (dedS ws)) (dedS ws).length) (t' := tk) (fun b u e => keep b u (Heap.lt_size e) e) (Nat.le_refl _) (setK_new R), rfl, hq _ _ e2 r2 _ (.loc h2)⟩
      · cases hf
    · cases hf
  · exact sc_set hc pins s σ H xs us Q I rv ⟨ρ, M, _, r, dv, z, M', hf, hq⟩
/-- sorted(xs, reverse=True), where xs is in that order -/
def downB : List Int → Bool
  | [] => true
  | x :: xs => xs.all (fun y => decide (y ≤ x)) && downB xs
theorem down_pw : ∀ {xs : List Int}, downB xs = true → xs.Pairwise (· ≥ ·)
  | [], _ => .nil
  | x :: xs, h => by
    unfold downB at h
    rw [Bool.and_eq_true, List.all_eq_true] at h
    exact .cons (fun y hy => of_decide_eq_true (h.1 y hy)) (down_pw h.2)
def fSortR (fa : FE) : FE := fun env M => bnd (fa env M) fun d M1 => match d with
  | .loc n => match M1[n]? with
    | some (.lst ys) => match intsOf ys with
      | some is => if downB is then some (.loc M1.length, M1 ++ [.lst ys]) else none
      | none => none
    | _ => none
  | _ => none
theorem se_sortR {e : Expr} {fa : FE} {p p2 kpos pos : Pos} (hg : Gl X "sorted") (hm : X.mg "sorted" = none) (ha : SE X ct e fa)
    (hst : starEach [e] X.env = (false, eval e X.env) :: starEach [] X.env := by rfl) (he : backTo pos (starEach [e] X.env) = (false, eval e X.env) :: backTo pos (starEach [] X.env) := by rfl) (hpl : (backTo pos (starEach [e] X.env)).any (·.1) = false := by rfl) :
    SE X ct (.Call (.Name "sorted" p) [e] [⟨some "reverse", .Constant (.bool true) 0 p2, kpos⟩] pos) (fSortR fa) :=
  PE.imp (pe_callBK (cr_sortedRev (b := true)) hg hm (by decide +kernel) (pa_cons ha pa_nil hst) (pk_cons pe_bl pk_nil) (he := he) (hpl := hpl)) fun σ H Q ⟨ρ, M, env, r, hen, d, M', hf, hq⟩ => by
    obtain ⟨x, M1, h1, hf⟩ := bnd_some hf
    refine ⟨ρ, M, env, r, hen, x, M1, h1, fun ρ1 H1 e1 r1 v dv => ?_⟩
    split at hf
    · split at hf
      · rename_i ys hm
        split at hf
        · rename_i is hi
          split at hf
          · rename_i hd
            cases hf
            have hy := intsOf_eq hi
            subst hy
            obtain ⟨l, vs, rfl, a1, hH, a3⟩ := r1.lst hm dv
            have hv := vs_ints a3
            subst hv
            refine ⟨l, is, rfl, rfl, SqL.of hH, fun ns' q hP hO hn => ?_⟩
            have hO' : ns'.Pairwise (· ≥ ·) := hO
            have e := List.Perm.eq_of_pairwise (le := fun a b : Int => a ≥ b) (fun a b _ _ h1 h2 => Int.le_antisymm h2 h1) hO' (down_pw hd) hP
            subst e
            obtain ⟨r2, e2, h2⟩ := r1.newL hn a3
            exact hq _ _ (e1.trans e2) r2 _ (.loc h2)
          · cases hf
        · cases hf
      · cases hf
    · cases hf
end
end Zl

/-! text Z25 -/
namespace Zl
open PySem L2 PySem.Spec PyProof.Rows
/-! ## {e for t in xs if c}, texts -/
section
variable {X : Cx}
/-- the new set stands at D -/
def tScK (P : Program) (w : World) (wi : TI) (g : TG) (tt : TT) (te : TE) (vs : List Nat) : TE := fun σ H Q => wi σ H fun J H1 => ∀ D, H1 D = none → ∃ W : Nat → Nat → Hp → Prop, (∃ m, W 0 m (upd H1 D (SetK P w D (memS []) 0))) ∧ ∀ i m H, W i m H →
  (J.stop i H ∧ Q (.ref D) H) ∨ (J.go i H ∧ ∃ Nx : Hp → Prop, (∀ H', Nx H' → ∃ m', m' < m ∧ W (i + 1) m' H') ∧ ∀ x H', J.yld i H x H' → g x (wipe σ vs) H' fun σ2 H2 => wipe σ2 vs = wipe σ vs ∧ tt σ2 H2 fun b H3 =>
    if b = true then te σ2 H3 fun y H4 => ∃ (c : Str) (S : Key → Bool) (n : Nat), y = .str c ∧ H4 D = some (SetK P w D S n) ∧ n + 1 < scanBound ∧ Nx (upd H4 D (SetK P w D (fun j => S j || decide (j = Sum.inr c)) (if S (Sum.inr c) = true then n else n + 1))) else Nx H3)
theorem scK_core {pins : List (Addr × Obj)} {s : Shared} {σ : L2.St} {H : Hp} {Q : VK} {elt tg iter : Expr} {ifs : List Expr} {scope : Scope} {own : List (Str × Nat)} {pos pos' : Pos} {wi : TI} {g : TG} {tt : TT} {te : TE} {Qf : Value → Shared → Prop}
    (hc : X.calm = true) (hN : X.N.Nodup) (I : Inv X pins σ H s) (hi : PI X tg iter wi) (ok : BlkOk X.N X.env.scope scope own)
    (hg : ∀ s H C cl fp, PG (Cx.cb X scope s H C cl fp) tg g) (ht : ∀ s H C cl fp, PTs (Cx.cb X scope s H C cl fp) ifs tt) (he : ∀ s H C cl fp, PE (Cx.cb X scope s H C cl fp) elt te) (hs : ∀ x, foldedSetIterable iter X.env x = pure x)
    (h : tScK X.prog X.w wi g tt te (own.map (·.2)) σ H Q)
    (fin0 : ∀ D C s' m H', Inv X pins σ H' s' → Q (.ref D) H' → s'.heap.Ns C m → FpOk X pins H' C → compPost (model X.prog X.w) X.A X.xe none Qf (.ref D) C (.ok .next) s') :
    wpAny (model X.prog X.w) X.A (comprehension (.SetComp elt [⟨tg, iter, ifs, 0⟩] scope pos) scope X.env pos' (newSet (.type "set")) false (eval iter X.env) none) Qf X.xe s := by
  have fr : ∀ y ∈ scope.names, y.2 = .free → ∃ c, X.env.cells.lookup y.1 = some c := fun y hy e => (ok.free y hy e).elim (fun k => I.ok.has _ (.inl k)) fun k => I.ok.has _ (.inr k)
  refine wpAny_comprehension_free (use := none) rfl hs (closure_ok fr) ok.kind (fun y hy e => by rw [ok.uniq y hy, e]) (thn (hi.run pins s σ H _ I h) fun xv t1 hx => thn hx fun itv t2 z => ?_)
  obtain ⟨it, fp, tn, J, B2, e, J2, T, u2, v2, q⟩ := z
  subst e
  refine PpSet.newSet_ok (newEnv_comp ?_)
  generalize eD : t2.heap.objs.size = D
  obtain ⟨W, ⟨m0, w0⟩, turn⟩ := q D (J2.hok.fresh (Nat.le_of_eq eD))
  generalize e3 : ({ t2 with heap := t2.heap.push { cls := .type "set", dict := none, data := .set #[] 0 (.fresh 0 0 (!X.w.params.followText "set-order")) } } : Shared) = t3
  have hp3 : t3.heap = t2.heap.push { cls := .type "set", dict := none, data := .set #[] 0 (.fresh 0 0 (!X.w.params.followText "set-order")) } := by rw [← e3]
  have J3 : Inv X pins σ (upd B2 D (SetK X.prog X.w D (memS []) 0)) t3 := by
    rw [← e3]
    refine J2.laid (t' := t2.toks) (fun b o e => Heap.get?_push_of_some _ e) (Nat.le_of_eq eD) ?_
    rw [← eD]
    exact setK_new ⟨_, #[], 0, _, Heap.get?_push_size _ rfl, ⟨rfl, rfl, rfl⟩, rfl, fun e he => by simp at he, fun k => by simp, by decide, by rfl, rfl⟩
  have lo : ∀ b ∈ fp, b < t2.heap.objs.size := fun b hb => by obtain ⟨o, e, _⟩ := T.obj _ _ u2 b hb; exact Heap.lt_size e
  have f3 : ∀ b ∈ fp, FpOk X pins (upd B2 D (SetK X.prog X.w D (memS []) 0)) b ∧ b < t3.heap.objs.size := fun b hb => ⟨⟨by rw [upd_ne (by rw [← eD]; exact Nat.ne_of_lt (lo b hb))]; exact (v2 b hb).1, (v2 b hb).2⟩, by rw [hp3, Heap.size_push]; exact Nat.lt_succ_of_lt (lo b hb)⟩
  have u3 : tn 0 t3.heap := T.keep _ _ _ u2 fun b _ o e => by rw [hp3]; exact Heap.get?_push_of_some _ e
  have J4 := block_start J3 ok hN f3
  generalize ecl : cellsFrom (t3.heap.objs.size + 1) scope.names (cloFrom X.env.cells scope.names []) = cl at J4 ⊢
  have pg : PG (X.blk t3 (upd B2 D (SetK X.prog X.w D (memS []) 0)) scope (compEnvC scope cl t3.heap.objs.size X.env) fp) tg g := hg t3 _ _ cl fp
  have pt : PTs (X.blk t3 (upd B2 D (SetK X.prog X.w D (memS []) 0)) scope (compEnvC scope cl t3.heap.objs.size X.env) fp) ifs tt := ht t3 _ _ cl fp
  have pe : PE (X.blk t3 (upd B2 D (SetK X.prog X.w D (memS []) 0)) scope (compEnvC scope cl t3.heap.objs.size X.env) fp) elt te := he t3 _ _ cl fp
  have nf : ∀ b ∈ fp, (upd B2 D (SetK X.prog X.w D (memS []) 0)) b = none := fun b hb => (f3 b hb).1.1
  subst ecl
  show codeAny _ _ (.compStart (.SetComp elt [⟨tg, iter, ifs, 0⟩] scope pos) 0 (.ref it) (.ref D) (compEnvC scope (cellsFrom (t3.heap.objs.size + 1) scope.names (cloFrom X.env.cells scope.names [])) t3.heap.objs.size X.env)) (compPost (model X.prog X.w) X.A X.xe none Qf (.ref D) t3.heap.objs.size) { t3 with heap := pushCells (t3.heap.push { cls := .type "dict", data := .dict #[] }) scope.names }
  generalize hce : compEnvC scope (cellsFrom (t3.heap.objs.size + 1) scope.names (cloFrom X.env.cells scope.names [])) t3.heap.objs.size X.env = ce at J4 pg pt pe ⊢
  have cL : ce.locals = t3.heap.objs.size := by subst hce; rfl
  generalize eB3 : upd B2 D (SetK X.prog X.w D (memS []) 0) = B3 at J3 J4 pg pt pe w0 nf f3
  generalize e4 : ({ t3 with heap := pushCells (t3.heap.push { cls := .type "dict", data := .dict #[] }) scope.names } : Shared) = t4 at J4 ⊢
  have u4 : tn 0 t4.heap := T.keep _ _ _ u3 fun b _ o e => by rw [← e4]; exact pushCells_keeps _ _ _ _ (Heap.get?_push_of_some _ e)
  have fpo : ∀ {σ' : L2.St} {H' : Hp} {s' : Shared}, Inv (X.blk t3 B3 scope ce fp) [] σ' H' s' → (∀ b ∈ fp, H' b = none) → ∀ b ∈ fp, FpOk (X.blk t3 B3 scope ce fp) [] H' b := fun {σ' H' s'} K hn b hb =>
    ⟨hn b hb, (K.ok.exf b hb).1, K.ok.exfs b hb, .inl hb, fun x c e => (K.ok.exf b hb).2 x c e, fun p hp => absurd (show p ∈ ([] : List (Addr × Obj)) ++ [] from hp) (by simp)⟩
  have loop : codeAny (model X.prog X.w) X.A (.compLoop (.SetComp elt [⟨tg, iter, ifs, 0⟩] scope pos) 0 (.ref it) (.ref D) ce) (compPost (model X.prog X.w) X.A X.xe none Qf (.ref D) t3.heap.objs.size) t4 := by
    refine PpSet.compLoopS_any (fun n s' => ∃ i H', Inv (X.blk t3 B3 scope ce fp) [] (wipe σ (own.map (·.2))) H' s' ∧ tn i s'.heap ∧ (∀ b ∈ fp, H' b = none) ∧ W i n H') ?_ m0 ⟨0, B3, J4, u4, nf, w0⟩
    rintro n t5 ⟨i, B5, J5, u5, n5, w5⟩
    rcases turn i n B5 w5 with ⟨stop, qq⟩ | ⟨go, Nx, hNx, step⟩
    · refine thnF (T.done (X.blk t3 B3 scope ce fp) rfl rfl rfl hc i [] t5 _ B5 (fun _ _ => False) J5 (fpo J5 n5) u5 stop) fun r t6 z => ?_
      obtain ⟨rfl, J6⟩ := z
      have J7 : Inv X pins σ B5 t6 := J3.call' (ch := fp) J6.os J6.base J6.hok J6.bare fun b hb => ⟨(f3 b hb).1.2.2.2.1, (f3 b hb).1.2.1, (f3 b hb).1.2.2.2.2.1, (f3 b hb).1.2.2.2.2.2⟩
      have nC : B5 t3.heap.objs.size = none := cL ▸ (show B5 ce.locals = none from J6.free)
      obtain ⟨m, hn, _⟩ := J6.loc
      have hn : t6.heap.Ns t3.heap.objs.size m := cL ▸ (show t6.heap.Ns ce.locals m from hn)
      exact fin0 D t3.heap.objs.size t6 m B5 J7 qq hn (J3.fpOk (Nat.le_refl _) nC)
    · refine thnF (T.item (X.blk t3 B3 scope ce fp) rfl rfl rfl hc i [] t5 _ B5 (fun _ _ => False) J5 (fpo J5 n5) u5 go) fun r t6 z => ?_
      obtain ⟨u, rfl, h6⟩ := z
      refine thnF h6 fun _ t7 ⟨x, B7, J7, r7, y7, u7, n7⟩ => ?_
      refine thnF (pg.run _ t7 _ B7 x u _ (J7.pinned (fpo J7 n7) (T.obj _ _ u7)) r7 (step x B7 y7)) fun _ t8 ⟨σ8, B8, J8, w8, q8⟩ => ?_
      refine thnF (pt.run _ t8 σ8 B8 _ J8 q8) fun b t9 ⟨B9, J9, q9⟩ => ?_
      have done : ∀ {s' : Shared} {H' : Hp}, Inv (X.blk t3 B3 scope ce fp) ([] ++ pinsAt fp t7.heap) σ8 H' s' → Nx H' → ∃ m, m < n ∧ ∃ i H', Inv (X.blk t3 B3 scope ce fp) [] (wipe σ (own.map (·.2))) H' s' ∧ tn i s'.heap ∧ (∀ b ∈ fp, H' b = none) ∧ W i m H' := fun {s' H'} K nx => by
        obtain ⟨m', hm, w'⟩ := hNx H' nx
        have pn : ∀ b ∈ fp, ∀ o, t7.heap.get? b = some o → s'.heap.get? b = some o ∧ H' b = none := fun b hb o e => have z := K.pin (b, o) (List.mem_append_right _ (List.mem_append_right _ (mem_pinsAt hb e))); ⟨z.1, z.2.1⟩
        refine ⟨m', hm, i + 1, H', (K.unpinned (pins := [])).weak (by rw [← w8, wipe_length]) (fun j v e => ?_), T.keep _ _ _ u7 fun b hb o e => (pn b hb o e).1, fun b hb => ?_, w'⟩
        · rw [← w8] at e; exact (wipe_some e).1
        · obtain ⟨o, e, _⟩ := T.obj _ _ u7 b hb; exact (pn b hb o e).2
      cases b with
      | false => simp only [Bool.false_eq_true, if_false] at q9 ⊢; exact done J9 q9
      | true =>
        simp only [if_true] at q9 ⊢
        refine thnF (pe.run _ t9 σ8 B9 _ J9 q9) fun z t10 ⟨yv, B10, J10, r10, cb, S0, n0, ey, d10, z10, nx⟩ => ?_
        subst ey
        exact thnF (mt_saddK (X := X.blk t3 B3 scope ce fp) _ t10 σ8 B10 (.ref D) [kV (Sum.inr cb)] (.ref D) [z] (fun _ H' => Nx H') J10 rfl (.cons r10 .nil) ⟨D, Sum.inr cb, S0, n0, rfl, rfl, d10, z10, nx⟩) fun _ t11 ⟨_, B11, J11, _, nx'⟩ => done J11 nx'
  exact PpSet.codeAny_compStart_set loop (T.self X.A 0 _ _ _ u4 loop)
theorem pe_scK {elt tg iter : Expr} {ifs : List Expr} {scope : Scope} {own : List (Str × Nat)} {pos : Pos} {wi : TI} {g : TG} {tt : TT} {te : TE} (hc : X.calm = true) (hN : X.N.Nodup) (hi : PI X tg iter wi) (ok : BlkOk X.N X.env.scope scope own)
    (hg : ∀ s H C cl fp, PG (Cx.cb X scope s H C cl fp) tg g) (ht : ∀ s H C cl fp, PTs (Cx.cb X scope s H C cl fp) ifs tt) (he : ∀ s H C cl fp, PE (Cx.cb X scope s H C cl fp) elt te) (hs : ∀ x, foldedSetIterable iter X.env x = pure x := by intro _; rfl) :
    PE X (.SetComp elt [⟨tg, iter, ifs, 0⟩] scope pos) (tScK X.prog X.w wi g tt te (own.map (·.2))) := by
  refine ⟨fun pins s σ H Q I h => ?_⟩
  rw [PpSet.eval_SetComp]
  refine scK_core hc hN I hi ok hg ht he hs h fun D C s' m H' I' q hn f => ⟨m, hn, fun h2 sb => ?_⟩
  obtain ⟨f0, f1, f2, f3, f4, f5⟩ := f
  exact ⟨.ref D, H', I'.turned (t' := s'.toks) (fun b o hb e => (sb.2 b hb).trans e) f0 f1 f3 f4 f5, rfl, q⟩
end
/-- the turns: the new set stands at cell n -/
def compSF (it : Stp) (g : FG) (ft : FT) (fe : FE) (e0 : En) (n : Nat) : Nat → Nat → Mem → Option Mem
  | 0, i, M => match it i M with
    | some none => some M
    | _ => none
  | k + 1, i, M => match it i M with
    | some none => some M
    | some (some d) => match g d e0 M with
      | some (e1, M1) => match ft e1 M1 with
        | some (true, M2) => match fe e1 M2 with
          | some (.str y, M3) => match M3[n]? with
            | some (.sk acc) => if acc.length < 4000 then compSF it g ft fe e0 n k (i + 1) (M3.set n (.sk (if y ∈ acc then acc else acc ++ [y]))) else none
            | _ => none
          | _ => none
        | some (false, M2) => compSF it g ft fe e0 n k (i + 1) M2
        | none => none
      | none => none
    | none => none
def fCompS (fi : FI) (vs : List Nat) (g : FG) (ft : FT) (fe : FE) : FE := fun env M => bnd (fi env M) fun src M1 =>
  match compSF src.stp g ft fe (wipeE env vs) M1.length src.many 0 (M1 ++ [.sk []]) with
  | some M2 => some (.loc M1.length, M2)
  | none => none
section
variable {X : Cx} {ct : Ct} {tg iter : Expr} {pos : Pos} {fe : FE} {fi : FI} {g : FG}
theorem sk_put {ys : List Str} {y : Str} : (fun j : Key => memS ys j || decide (j = Sum.inr y)) = memS (if y ∈ ys then ys else ys ++ [y]) := by
  funext j
  by_cases h : y ∈ ys
  · rw [if_pos h]
    by_cases e : j = Sum.inr y
    · subst e
      rw [memS_str, decide_eq_true h]; rfl
    · rw [decide_eq_false e, Bool.or_false]
  · rw [if_neg h]
    show _ = (ys ++ [y]).any _
    rw [List.any_append]
    simp
theorem sk_len {ys : List Str} {y : Str} : (if memS ys (Sum.inr y) = true then ys.length else ys.length + 1) = (if y ∈ ys then ys else ys ++ [y]).length := by
  rw [memS_str]
  by_cases h : y ∈ ys
  · simp [h]
  · simp [h]
theorem sc_imp {vs : List Nat} {ft : FT} {σ : L2.St} {H : Hp} {Q : VK} (hp : ct.prg = X.prog) (hw : ct.wd = X.w) (w : tE X.K ct (fCompS fi vs g ft fe) σ H Q) : tScK X.prog X.w (tI X.K ct fi) (tG X.K ct vs g) (tT X.K ct ft) (tE X.K ct fe) vs σ H Q := by
  obtain ⟨ρ, M, env, r, he, d, M', hf, hq⟩ := w
  obtain ⟨src, M1, h1, hf⟩ := bnd_some hf
  split at hf
  · rename_i M2 hc
    cases hf
    refine ⟨ρ, M, env, r, he, src, M1, h1, fun ρ0 H0 e0 r0 J hJ D hD => ?_⟩
    obtain ⟨rN, xN, aN⟩ := r0.new (o := .sk []) (o' := SetK X.prog X.w D (memS []) 0) hD (by
      show upd H0 _ _ _ = some (SetK ct.prg ct.wd _ _ _)
      rw [hp, hw]; exact upd_same)
    refine ⟨fun i m H => ∃ ρ M, Ext X.K ρ0 H0 ρ H ∧ Rl X.K ct ρ M H ∧ ρ[M1.length]? = some D ∧ compSF src.stp g ft fe (wipeE env vs) M1.length m i M = some M' ∧ Aft X.K ct ρ H M' fun ρ' H' => ∀ v, DV X.K ρ' H' (.loc M1.length) v → Q v H',
      ⟨src.many, ρ0 ++ [D], _, xN, rN, aN, hc, (hq.later e0).later xN⟩, ?_⟩
    rintro i m H ⟨ρ, M, x0, r, aD, hf, hq⟩
    have hj := hJ i ρ M H x0 r
    have he' := ((he.mono e0).mono x0).wipe vs
    cases q : src.stp i M with
    | none =>
      cases m with
      | zero => rw [compSF, q] at hf; cases hf
      | succ m => rw [compSF, q] at hf; cases hf
    | some o =>
      rw [q] at hj
      cases o with
      | none =>
        have e : some M = some M' := by
          cases m with
          | zero => rw [compSF, q] at hf; exact hf
          | succ m => rw [compSF, q] at hf; exact hf
        cases e
        exact .inl ⟨hj, hq ρ H .refl r _ (.loc aD)⟩
      | some d =>
        cases m with
        | zero => rw [compSF, q] at hf; cases hf
        | succ m =>
          rw [compSF, q] at hf
          dsimp only at hf
          refine .inr ⟨hj.1, fun H' => ∃ ρ M, Ext X.K ρ0 H0 ρ H' ∧ Rl X.K ct ρ M H' ∧ ρ[M1.length]? = some D ∧ compSF src.stp g ft fe (wipeE env vs) M1.length m (i + 1) M = some M' ∧ Aft X.K ct ρ H' M' fun ρ' H' => ∀ v, DV X.K ρ' H' (.loc M1.length) v → Q v H',
            fun H' n => ⟨m, Nat.lt_succ_self m, n⟩, fun x H' hy => ?_⟩
          obtain ⟨y1, y2, y3⟩ := hj.2 x H' hy
          split at hf
          · rename_i e1 N1 g1
            refine ⟨ρ, M, wipeE env vs, d, y2, he'.mono y1, y3, e1, N1, g1, fun ρ1 H1 x1 r1 σ1 en1 oe => ⟨wipe_eq oe, ?_⟩⟩
            split at hf
            · rename_i N2 g2
              refine ⟨ρ1, N1, e1, r1, en1, true, N2, g2, fun ρ2 H2 x2 r2 => ?_⟩
              dsimp only
              rw [if_pos rfl]
              split at hf
              · rename_i y N3 g3
                refine ⟨ρ2, N2, e1, r2, en1.mono x2, _, N3, g3, fun ρ3 H3 x3 r3 v dv => ?_⟩
                cases dv
                split at hf
                · rename_i acc hm
                  split at hf
                  · rename_i hl
                    have xx := ((y1.trans x1).trans x2).trans x3
                    have aD3 := xx.pre _ _ aD
                    obtain ⟨b, eb, b1, b2⟩ := r3.sk hm (.loc aD3)
                    cases eb
                    rw [hp, hw] at b2
                    obtain ⟨r4, x4⟩ := r3.put (o := .sk (if y ∈ acc then acc else acc ++ [y])) (o' := SetK X.prog X.w D (memS (if y ∈ acc then acc else acc ++ [y])) (if y ∈ acc then acc else acc ++ [y]).length) aD3 (by
                      show upd H3 _ _ _ = some (SetK ct.prg ct.wd _ _ _)
                      rw [hp, hw]; exact upd_same)
                    have hs : 4001 < scanBound := by decide
                    refine ⟨y, memS acc, acc.length, rfl, b2, by omega, ?_⟩
                    rw [sk_put, sk_len]
                    exact ⟨ρ3, _, (x0.trans xx).trans x4, r4, aD3, hf, hq.later (xx.trans x4)⟩
                  · cases hf
                · cases hf
              · cases hf
            · rename_i N2 g2
              refine ⟨ρ1, N1, e1, r1, en1, false, N2, g2, fun ρ2 H2 x2 r2 => ?_⟩
              dsimp only
              rw [if_neg (by decide)]
              have xx := (y1.trans x1).trans x2
              exact ⟨ρ2, N2, x0.trans xx, r2, xx.pre _ _ aD, hf, hq.later xx⟩
            · cases hf
          · cases hf
  · cases hf
theorem se_compS {elt : Expr} {ifs : List Expr} {scope : Scope} {own : List (Str × Nat)} {ft : FT} (hc : X.calm = true) (hN : X.N.Nodup) (hi : SI X ct tg iter fi) (ok : BlkOk X.N X.env.scope scope own)
    (hg : ∀ s H C cl fp, SG (Cx.cb X scope s H C cl fp) ct (own.map (·.2)) tg g) (ht : ∀ s H C cl fp, STs (Cx.cb X scope s H C cl fp) ct ifs ft)
    (he : ∀ s H C cl fp, SE (Cx.cb X scope s H C cl fp) ct elt fe) (hs : ∀ x, foldedSetIterable iter X.env x = pure x := by intro _; rfl) (hp : ct.prg = X.prog := by rfl) (hw : ct.wd = X.w := by rfl) : SE X ct (.SetComp elt [⟨tg, iter, ifs, 0⟩] scope pos) (fCompS fi (own.map (·.2)) g ft fe) :=
  PE.imp (pe_scK hc hN hi ok hg ht he hs) fun _ _ _ w => sc_imp hp hw w
end
end Zl

/-! text Z26 -/
namespace Zl
open PySem L2 PySem.Spec PyProof.Rows
/-! ## sorted(set(a list of whole numbers)) -/
section
variable {P : Program} {w : World} {A : Around} {E : Value → Shared → Prop} {s : Shared}
set_option maxHeartbeats 8000000 in
theorem call_set_ints {l : Addr} {its : Array Value} {xs : List Int} {Q : Value → Shared → Prop} (hh : A.handled = none) (hl : s.heap.IsList l its) (hs : its.size = xs.length) (hi : ∀ (i : Nat) v, its[i]? = some v → ∃ k t, xs[i]? = some k ∧ v = .int k t) (hb : xs.length + 1 < scanBound)
    (k : ∀ (h' : Heap) (tk c : Nat), SetR w h' s.heap.objs.size (fun j => decide (j ∈ xs)) c → c ≤ xs.length → (∀ b o, b < s.heap.objs.size → s.heap.get? b = some o → h'.get? b = some o) → Q (.ref s.heap.objs.size) { s with heap := h', toks := tk }) :
    wpAny (model P w) A (call (.type "set") [.ref l]) Q E s := by
  obtain ⟨c, tl, z1⟩ := PySem.F.called_set.mro
  have z2 := PySem.F.called_set.made; have z3 := PySem.F.called_set.sub; have z4 := PySem.F.called_set.notType; have z5 := PySem.F.called_set.canCreate; have z6 := PySem.F.typeCall_set_1 (.ref l)
  refine wpAny_call (codeAny_of_tree ?_); show wpAny _ _ (callAny (.type "set") _) _ _ _
  refine wpAny_pure ⟨Code.quiet_builtin _ (by decide +kernel), codeAny_builtin PySem.F.entry_type_call ?_⟩; rw [Around.under_plain (weight_type_call_type "set" [.ref l] []) rfl]
  repeat (any_goals (first | assumption | wp_step))
  refine codeAny_mono (code_set_led1 (.ref l) (E := E) (Q₁ := fun y s1 => y = .ref s.heap.objs.size ∧ s1 = { s with heap := s.heap.push { cls := .type "set", dict := none, data := .set #[] 0 (.fresh 0 0 (!w.params.followText "set-order")) } }) ⟨rfl, rfl⟩) fun r s1 hr => ?_
  match r, hr with
  | .error e, hr => exact hr
  | .ok (.ret y), hr =>
    obtain ⟨rfl, rfl⟩ := hr
    have g0 : (s.heap.push { cls := .type "set", dict := none, data := .set #[] 0 (.fresh 0 0 (!w.params.followText "set-order")) }).get? s.heap.objs.size = some { cls := .type "set", dict := none, data := .set #[] 0 (.fresh 0 0 (!w.params.followText "set-order")) } := Heap.get?_push_size _ rfl
    have tS : Shared.TypeIs { s with heap := s.heap.push { cls := .type "set", dict := none, data := .set #[] 0 (.fresh 0 0 (!w.params.followText "set-order")) } } (.ref s.heap.objs.size) "set" := ⟨_, g0, rfl⟩
    have z7 := PySem.F.called_set.init.lookup; have z8 := PySem.F.called_set.init.bind (.ref s.heap.objs.size)
    repeat (any_goals (first | assumption | wp_step))
    refine codeAny_mono (codeAny_call_builtin (R := wants (fun r s2 => r = .none ∧ ∃ h' tk c, s2 = { s with heap := h', toks := tk } ∧ SetR w h' s.heap.objs.size (fun j => decide (j ∈ xs)) c ∧ c ≤ xs.length ∧ (∀ b o, b < s.heap.objs.size → s.heap.get? b = some o → h'.get? b = some o)) E) PySem.F.called_set.init.plain PySem.F.entry_set_init (check_set_init_1 tS ?_)) fun r2 s2 hr2 => ?_
    · obtain ⟨⟨oc, od, odata, os⟩, ho, q1, nl, q2⟩ := hl
      simp only at q1 q2
      subst q1; subst q2
      have g1 : (s.heap.push { cls := .type "set", dict := none, data := .set #[] 0 (.fresh 0 0 (!w.params.followText "set-order")) }).get? l = some { cls := .type "list", dict := od, data := .seq its nl, slots := os } := Heap.get?_push_of_some _ ho
      have y1 := PySem.F.sub_list_set; have y2 := PySem.F.sub_list_frozenset
      have y3 : (Value.type "list" == Value.type "dict") = false := by decide
      have l1 : (s.heap.push { cls := .type "set", dict := none, data := .set #[] 0 (.fresh 0 0 (!w.params.followText "set-order")) }).IsList l its := ⟨_, g1, rfl, nl, rfl⟩
      unfold Builtin.«set.__init__» noKeywords Builtin.Frozenset.updateFrom; generalize hPI : pyIter = PI; wp_walk; subst hPI
      refine wpAny_pyIter_list l1 ?_
      refine wpAny_bind (wpAny_runValue ?_)
      have lS : l < s.heap.objs.size := Heap.lt_size ho
      have h3 : A.in1.in1.in1.handled = none := by simp [hh]
      have sz : (s.heap.push { cls := .type "set", dict := none, data := .set #[] 0 (.fresh 0 0 (!w.params.followText "set-order")) }).objs.size = s.heap.objs.size + 1 := Heap.size_push ..
      have ne : l ≠ (s.heap.push { cls := .type "set", dict := none, data := .set #[] 0 (.fresh 0 0 (!w.params.followText "set-order")) }).objs.size := by rw [sz]; exact Nat.ne_of_lt (Nat.lt_succ_of_lt lS)
      have nf : s.heap.objs.size ∉ [(s.heap.push { cls := .type "set", dict := none, data := .set #[] 0 (.fresh 0 0 (!w.params.followText "set-order")) }).objs.size, l] := by
        rw [sz]; simp only [List.mem_cons, List.not_mem_nil, or_false, not_or]; exact ⟨Nat.ne_of_lt (Nat.lt_succ_self _), Nat.ne_of_gt lS⟩
      refine set_update_ints ((Walks.list h3 _ l ne its).toS) s.heap.objs.size nf xs hs hb hi (its.size - 0) 0 _ (by omega) (Nat.zero_le _) ⟨⟨_, Heap.get?_push_size _ rfl, rfl, rfl⟩, (l1.push _)⟩ ?xa ?xb
      case xa =>
        have g2 : ((s.heap.push { cls := .type "set", dict := none, data := .set #[] 0 (.fresh 0 0 (!w.params.followText "set-order")) }).push { cls := .type "list_iterator", data := .fields #[.ref l, .int 0 0] }).get? s.heap.objs.size = some { cls := .type "set", dict := none, data := .set #[] 0 (.fresh 0 0 (!w.params.followText "set-order")) } := Heap.get?_push_of_some _ g0
        exact ⟨0, Nat.le_refl 0, setR_new_at g2⟩
      case xb =>
        intro s' c' m hc' S'
        obtain ⟨h', g', d', tk', os'⟩ := s'
        obtain rfl : g' = s.gens := m.gens
        obtain rfl : d' = s.drawn := m.drawn
        obtain rfl : os' = s.os := m.os
        show wpAny _ _ _ _ _ _
        refine wpAny_pure ?_
        show wpAny _ _ (ret Value.none) _ _ _
        refine wpAny_pure ⟨rfl, h', tk', c', rfl, S', hs ▸ hc', fun b o hb' e => ?_⟩
        exact m.heap b o (by rw [sz]; simp only [List.mem_cons, List.not_mem_nil, or_false, not_or]; exact ⟨Nat.ne_of_lt hb', Nat.ne_of_lt (Nat.lt_succ_of_lt hb')⟩) (Heap.get?_push_of_some _ (Heap.get?_push_of_some _ e))
    · match r2, hr2 with
      | .error e, hr2 => exact hr2
      | .ok (.ret y), hr2 =>
        obtain ⟨rfl, h', tk, c2, rfl, S', hc2, keep⟩ := hr2
        repeat (any_goals (first | assumption | wp_step))
        exact k _ _ _ S' hc2 keep
end
def rSetL (K : Frg) (w : World) : List V → Hp → VK → Prop := fun xs H Q => ∃ (a : Addr) (ns : List Int), xs = [.ref a] ∧ SqL K H a (ns.map V.int) ∧ ns.length < 63 ∧ ∀ p n, n ≤ ns.length → H p = none → Q (.ref p) (upd H p (SetO w p (fun j => decide (j ∈ ns)) n))
section
variable {X : Cx} {ct : Ct}
theorem cr_setL (hc : X.calm = true) : CallR X (.type "set") (rSetL X.K X.w) := by
  intro pins s σ H xs us Q I rv h
  obtain ⟨a, ns, rfl, hq, hl, q⟩ := h
  obtain ⟨u, rfl, ru⟩ := vals1 rv
  cases ru
  obtain ⟨its, rvv, pl, hz⟩ := I.list hq
  have hlen : its.length = ns.length := by have := rvv.length; simpa using this.symm
  have hn : H s.heap.objs.size = none := I.hok.fresh (Nat.le_refl _)
  have hia : IntsAre its ns := intsAre_of rvv
  refine call_set_ints (xs := ns) (I.ok.hd hc) pl.isList (by simpa using hlen) (fun i v e => ?_) (by
    have h4 : 4001 < scanBound := by decide
    omega) fun h' tk c R hc' keep => ?_
  · have e' : its[i]? = some v := by simpa using e
    have hi : i < ns.length := by rw [← hlen]; exact (List.getElem?_eq_some_iff.mp e').1
    obtain ⟨t, ev⟩ := PyProof.Rows.IntsAre.int_at hia i v e'
    refine ⟨ns[i], t, List.getElem?_eq_getElem hi, ?_⟩
    rw [ev, List.getD_eq_getElem?_getD, List.getElem?_eq_getElem hi]; rfl
  · exact ⟨.ref s.heap.objs.size, _, I.laid (o := SetO X.w s.heap.objs.size (fun j => decide (j ∈ ns)) c) (t' := tk) (fun b u e => keep b u (Heap.lt_size e) e) (Nat.le_refl _) (setO_new R), rfl, q _ _ hc' hn⟩
/-- the numbers, ascending, each once -/
def insI (x : Int) : List Int → List Int
  | [] => [x]
  | y :: ys => if x < y then x :: y :: ys else if x = y then y :: ys else y :: insI x ys
def sortI (ns : List Int) : List Int := ns.foldr insI []
theorem ins_mem {x k : Int} : ∀ {ys : List Int}, k ∈ insI x ys ↔ k = x ∨ k ∈ ys
  | [] => by simp [insI]
  | y :: ys => by
    unfold insI
    split
    · simp
    · split
      · rename_i h; subst h; simp
      · rw [List.mem_cons, ins_mem, List.mem_cons]
        constructor
        · rintro (h | h | h)
          · exact .inr (.inl h)
          · exact .inl h
          · exact .inr (.inr h)
        · rintro (h | h | h)
          · exact .inr (.inl h)
          · exact .inl h
          · exact .inr (.inr h)
theorem ins_pw {x : Int} : ∀ {ys : List Int}, ys.Pairwise (· < ·) → (insI x ys).Pairwise (· < ·)
  | [], _ => List.pairwise_singleton _ _
  | y :: ys, h => by
    obtain ⟨h1, h2⟩ := List.pairwise_cons.mp h
    unfold insI
    split
    · rename_i hx
      exact .cons (fun z hz => by
        rcases List.mem_cons.mp hz with e | hz
        · rw [e]; exact hx
        · have := h1 z hz; omega) h
    · split
      · exact h
      · refine .cons (fun z hz => ?_) (ins_pw h2)
        rcases ins_mem.mp hz with e | hz
        · omega
        · exact h1 z hz
theorem sort_mem {k : Int} : ∀ {ns : List Int}, k ∈ sortI ns ↔ k ∈ ns
  | [] => Iff.rfl
  | n :: ns => by
    show k ∈ insI n (sortI ns) ↔ _
    rw [ins_mem, sort_mem, List.mem_cons]
theorem sort_pw : ∀ {ns : List Int}, (sortI ns).Pairwise (· < ·)
  | [] => .nil
  | n :: ns => ins_pw (sort_pw (ns := ns))
theorem sort_uniq {as bs : List Int} (ha : as.Pairwise (· < ·)) (hb : bs.Pairwise (· < ·)) (h : ∀ k, k ∈ as ↔ k ∈ bs) : as = bs := by
  have na : as.Nodup := ha.imp fun h e => by omega
  have nb : bs.Nodup := hb.imp fun h e => by omega
  exact List.Perm.eq_of_pairwise (le := fun a b : Int => a < b) (fun a b _ _ h1 h2 => by omega) ha hb ((List.perm_ext_iff_of_nodup na nb).mpr h)
def fSortSet (fa : FE) : FE := fun env M => bnd (fa env M) fun d M1 => match d with
  | .loc n => match M1[n]? with
    | some (.lst ys) => match intsOf ys with
      | some is => if is.length < 60 then some (.loc M1.length, M1 ++ [.lst ((sortI is).map .int)]) else none
      | none => none
    | _ => none
  | _ => none
theorem dvs_mapI {K : Frg} {ρ : List Addr} {H : Hp} : ∀ ns : List Int, DVs K ρ H (ns.map Dv.int) (ns.map V.int)
  | [] => .nil
  | n :: ns => .cons (.int n) (dvs_mapI ns)
theorem se_sortSet {e : Expr} {fa : FE} {p p2 pos pos2 : Pos} (hc : X.calm = true) (hg : Gl X "sorted") (hm : X.mg "sorted" = none) (hg2 : Gl X "set") (hm2 : X.mg "set" = none) (ha : SE X ct e fa)
    (h1 : starEach [e] X.env = (false, eval e X.env) :: starEach [] X.env := by rfl)
    (h2 : starEach [.Call (.Name "set" p2) [e] [] pos2] X.env = (false, eval (.Call (.Name "set" p2) [e] [] pos2) X.env) :: starEach [] X.env := by rfl) :
    SE X ct (.Call (.Name "sorted" p) [.Call (.Name "set" p2) [e] [] pos2] [] pos) (fSortSet fa) :=
  PE.imp (pe_callB (cr_sortedSet hc) hg hm (by decide +kernel) (pa_cons (pe_callTy (cr_setL hc) hg2 hm2 (by decide +kernel) (pa_cons ha pa_nil h1) (he := h1)) pa_nil h2) (he := h2)) fun σ H Q ⟨ρ, M, env, r, hen, d, M', hf, hq⟩ => by
    obtain ⟨x, M1, q1, hf⟩ := bnd_some hf
    refine ⟨ρ, M, env, r, hen, x, M1, q1, fun ρ1 H1 e1 r1 v dv => ?_⟩
    split at hf
    · split at hf
      · rename_i ys hm
        split at hf
        · rename_i is hi
          split at hf
          · rename_i hl
            cases hf
            have hy := intsOf_eq hi
            subst hy
            obtain ⟨l, vs, rfl, a1, hH, a3⟩ := r1.lst hm dv
            have hv := vs_ints a3
            subst hv
            refine ⟨l, is, rfl, SqL.of hH, by omega, fun pa n hn hpa => ?_⟩
            have x2 := Ext.fresh (K := X.K) (ρ := ρ1) (o' := SetO X.w pa (fun j => decide (j ∈ is)) n) hpa
            refine ⟨pa, _, n, rfl, upd_same, by omega, fun ns' q hP hM hL hq' => ?_⟩
            have e := sort_uniq hP (sort_pw (ns := is)) fun k => by rw [hM, sort_mem]; simp
            subst e
            obtain ⟨r3, e3, h3⟩ := (r1.tup hpa (SetO X.w pa (fun j => decide (j ∈ is)) n)).newL hq' (dvs_mapI (sortI is))
            exact hq _ _ ((e1.trans x2).trans e3) r3 _ (.loc h3)
          · cases hf
        · cases hf
      · cases hf
    · cases hf
end
end Zl

/-! text Y1 -/
namespace Zl
open PySem L2 PySem.Spec PyProof.Rows

/-! ## running the mirrors -/
/-- the run ends, and so -/
def Wp {α : Type} (r : Option (α × Mem)) (Q : α → Mem → Prop) : Prop := ∃ a M, r = some (a, M) ∧ Q a M
section
variable {α β : Type} {r : Option (α × Mem)} {Q : α → Mem → Prop} {a : α} {M M' : Mem}
theorem wp_ev (h : r = some (a, M')) (q : Q a M') : Wp r Q := ⟨a, M', h, q⟩
theorem wp_ok (q : Q a M) : Wp (some (a, M)) Q := ⟨a, M, rfl, q⟩
theorem Wp.go {P : α → Mem → Prop} (h : Wp r P) (k : ∀ a M, P a M → Q a M) : Wp r Q := by
  obtain ⟨a, M, e, p⟩ := h
  exact ⟨a, M, e, k a M p⟩
theorem wp_bnd {k : α → Mem → Option (β × Mem)} {Q : β → Mem → Prop} (h : Wp r fun a M => Wp (k a M) Q) : Wp (bnd r k) Q := by
  obtain ⟨a, M, rfl, b, M2, e, q⟩ := h
  exact ⟨b, M2, e, q⟩
end
abbrev QE := Dv → Mem → Prop
abbrev QS := Fl → Mem → Prop
def kSeq (g : FS) (Q : QS) : QS := fun fl M => match fl with
  | .nx e => Wp (g e M) Q
  | .rt d => Q (.rt d) M
  | .bk e => Q (.bk e) M
  | .ct e => Q (.ct e) M
def kFn (Q : QE) : QS := fun fl M => match fl with
  | .nx _ => Q .non M
  | .rt d => Q d M
  | _ => False
def kLen (n : Nat) (Q : List Dv → Mem → Prop) : List Dv → Mem → Prop := fun ds M => ds.length = n ∧ Q ds M
theorem k_len {n : Nat} {Q : List Dv → Mem → Prop} {ds : List Dv} {M : Mem} (h : ds.length = n) (k : Q ds M) : kLen n Q ds M := ⟨h, k⟩
def kLe (Q : List Dv → Mem → Prop) : List Dv → Mem → Prop := fun ds M => ds.length ≤ sizeLine ∧ Q ds M
theorem k_le {Q : List Dv → Mem → Prop} {ds : List Dv} {M : Mem} (h : ds.length.ble sizeLine = true) (k : Q ds M) : kLe Q ds M := ⟨Nat.le_of_ble_eq_true h, k⟩
def kIf {α : Type} (f g : Mem → Option (α × Mem)) (Q : α → Mem → Prop) : Bool → Mem → Prop := fun b M => match b with
  | true => Wp (f M) Q
  | false => Wp (g M) Q
section
variable {env e : En} {M : Mem} {d x : Dv} {f g : FS} {fa fb fc : FE} {ft fu : FT} {fr : FA} {Q : QS} {q : QE} {qt : Bool → Mem → Prop} {qa : List Dv → Mem → Prop} {i j n : Nat} {ds : List Dv}
theorem k_nx (h : Wp (g e M) Q) : kSeq g Q (.nx e) M := h
theorem k_rt (h : Q (.rt d) M) : kSeq g Q (.rt d) M := h
theorem k_bk (h : Q (.bk e) M) : kSeq g Q (.bk e) M := h
theorem k_ct (h : Q (.ct e) M) : kSeq g Q (.ct e) M := h
theorem kf_nx (h : q .non M) : kFn q (.nx e) M := h
theorem kf_rt (h : q d M) : kFn q (.rt d) M := h
theorem ki_t {α : Type} {f g : Mem → Option (α × Mem)} {Q : α → Mem → Prop} (h : Wp (f M) Q) : kIf f g Q true M := h
theorem ki_f {α : Type} {f g : Mem → Option (α × Mem)} {Q : α → Mem → Prop} (h : Wp (g M) Q) : kIf f g Q false M := h
theorem ki_of {α : Type} {f g : Mem → Option (α × Mem)} {Q : α → Mem → Prop} {b c : Bool} (e : b = c) (h : kIf f g Q c M) : kIf f g Q b M := e ▸ h
theorem wp_seq (h : Wp (f env M) (kSeq g Q)) : Wp (fSeq f g env M) Q := by
  refine wp_bnd (h.go fun fl M1 k => ?_)
  cases fl with
  | nx e => exact k
  | rt d => exact wp_ok k
  | bk e => exact wp_ok k
  | ct e => exact wp_ok k
theorem wp_fn {b : FS} {m : FF} (hm : m = callF n b) (env : En) (he : ds.map some ++ List.replicate (n - ds.length) none = env) (h : Wp (b env M) (kFn q)) : Wp (m ds M) q := by
  subst hm; subst he
  obtain ⟨fl, M1, e, k⟩ := h
  show Wp (match b _ M with | some (.rt d, M') => some (d, M') | some (.nx _, M') => some (.non, M') | _ => none) q
  rw [e]
  cases fl with
  | nx e => exact wp_ok k
  | rt d => exact wp_ok k
  | bk e => exact k.elim
  | ct e => exact k.elim
theorem wp_end (h : Q (.nx env) M) : Wp (fEnd env M) Q := wp_ok h
theorem wp_brk (h : Q (.bk env) M) : Wp (fBrk env M) Q := wp_ok h
theorem wp_cnt (h : Q (.ct env) M) : Wp (fCnt env M) Q := wp_ok h
theorem wp_drop (h : Wp (fa env M) fun _ M1 => Q (.nx env) M1) : Wp (fDrop fa env M) Q := wp_bnd (h.go fun _ _ k => wp_ok k)
theorem wp_ret (h : Wp (fa env M) fun d M1 => Q (.rt d) M1) : Wp (fRet fa env M) Q := wp_bnd (h.go fun _ _ k => wp_ok k)
theorem wp_set (h : Wp (fa env M) fun d M1 => Q (.nx (env.set i (some d))) M1) : Wp (fSet i fa env M) Q := wp_bnd (h.go fun _ _ k => wp_ok k)
theorem wp_asg {gg : FG} (h : Wp (fa env M) fun d M1 => Wp (gg d env M1) fun e1 M2 => Q (.nx e1) M2) : Wp (fAsg fa gg env M) Q := wp_bnd (h.go fun _ _ k => wp_bnd (k.go fun _ _ k => wp_ok k))
theorem wp_par {is : List Nat} (h : Wp (fr env M) (kLen is.length fun ds M1 => Q (.nx ((is.zip ds).foldl (fun e p => e.set p.1 (some p.2)) env)) M1)) : Wp (fPar is fr env M) Q :=
  wp_bnd (h.go fun ds M1 k => by
    show Wp (if _ then _ else _) _
    rw [if_pos k.1]
    exact wp_ok k.2)
theorem wp_ifs (h : Wp (ft env M) (kIf (f env) (g env) Q)) : Wp (fIfS ft f g env M) Q := wp_bnd (h.go fun b M1 k => by
  cases b with
  | true => exact k
  | false => exact k)
theorem wp_var (h : env[i]? = some (some d)) (k : q d M) : Wp (fV i env M) q := ⟨d, M, by unfold fV; rw [h], k⟩
theorem wp_k (k : q d M) : Wp (fK d env M) q := wp_ok k
theorem wp_op {h : Dv → Dv → Mem → Option (Dv × Mem)} (k : Wp (fa env M) fun x M1 => Wp (fb env M1) fun y M2 => Wp (h x y M2) q) : Wp (fO h fa fb env M) q := wp_bnd (k.go fun _ _ k => wp_bnd k)
theorem wp_un {h : Dv → Mem → Option (Dv × Mem)} (k : Wp (fa env M) fun x M1 => Wp (h x M1) q) : Wp (fU h fa env M) q := wp_bnd k
def kCh (h : Mem → Option (Dv × Mem)) (q : QE) : QE := fun z M => match z with
  | .bl true => Wp (h M) q
  | .bl false => q (.bl false) M
  | _ => False
theorem kc_t {h : Mem → Option (Dv × Mem)} (k : Wp (h M) q) : kCh h q (.bl true) M := k
theorem kc_f {h : Mem → Option (Dv × Mem)} (k : q (.bl false) M) : kCh h q (.bl false) M := k
theorem kc_of {h : Mem → Option (Dv × Mem)} {b c : Bool} (e : b = c) (k : kCh h q (.bl c) M) : kCh h q (.bl b) M := e ▸ k
theorem wp_chain {h h' : Dv → Dv → Mem → Option (Dv × Mem)} (k : Wp (fa env M) fun x M1 => Wp (fb env M1) fun y M2 => Wp (h x y M2) (kCh (fun M3 => bnd (fc env M3) fun w M4 => h' y w M4) q)) : Wp (fChain h h' fa fb fc env M) q :=
  wp_bnd (k.go fun x M1 k => wp_bnd (k.go fun y M2 k => wp_bnd (k.go fun z M3 k => by
    cases z with
    | bl b => cases b with
      | true => exact k
      | false => exact wp_ok k
    | _ => exact k.elim)))
def kB (Q : Bool → Mem → Prop) : QE := fun d M => match d with
  | .bl b => Q b M
  | _ => False
theorem kb (b : Bool) (h : qt b M) : kB qt (.bl b) M := h
theorem wp_b (h : Wp (fa env M) (kB qt)) : Wp (fB fa env M) qt := wp_bnd (h.go fun d M1 k => by
  cases d with
  | bl b => exact wp_ok k
  | _ => exact k.elim)
theorem wp_trB (h : Wp (fa env M) (kB qt)) : Wp (fTr fa env M) qt := wp_bnd (h.go fun d M1 k => by
  cases d with
  | bl b => exact wp_ok k
  | _ => exact k.elim)
theorem wp_not (h : Wp (ft env M) fun b M1 => qt (!b) M1) : Wp (fNotT ft env M) qt := wp_bnd (h.go fun _ _ k => wp_ok k)
theorem wp_andT (h : Wp (ft env M) (kIf (fu env) (fun M1 => some (false, M1)) qt)) : Wp (fAndT ft fu env M) qt := wp_bnd (h.go fun b M1 k => by
  cases b with
  | true => exact k
  | false => exact k)
theorem wp_orT (h : Wp (ft env M) (kIf (fun M1 => some (true, M1)) (fu env) qt)) : Wp (fOrT ft fu env M) qt := wp_bnd (h.go fun b M1 k => by
  cases b with
  | true => exact k
  | false => exact k)
theorem wp_andV (h : Wp (fa env M) (kCh (fb env) q)) : Wp (fAndV fa fb env M) q := wp_bnd (h.go fun z M1 k => by
  cases z with
  | bl b => cases b with
    | true => exact k
    | false => exact wp_ok k
  | _ => exact k.elim)
theorem wp_notV (h : Wp (fa env M) (kB fun b M1 => q (.bl !b) M1)) : Wp (fNotV fa env M) q := wp_bnd (h.go fun d M1 k => by
  cases d with
  | bl b => exact wp_ok k
  | _ => exact k.elim)
theorem wp_if (h : Wp (ft env M) (kIf (fa env) (fb env) q)) : Wp (fIf ft fa fb env M) q := wp_bnd (h.go fun b M1 k => by
  cases b with
  | true => exact k
  | false => exact k)
theorem wp_nil (h : qa [] M) : Wp (fNil env M) qa := wp_ok h
theorem wp_cons (h : Wp (fa env M) fun d M1 => Wp (fr env M1) fun ds M2 => qa (d :: ds) M2) : Wp (fCons fa fr env M) qa := wp_bnd (h.go fun _ _ k => wp_bnd (k.go fun _ _ k => wp_ok k))
theorem wp_tup (h : Wp (fr env M) (kLe fun ds M1 => q (.tup ds) M1)) : Wp (fTup fr env M) q := wp_bnd (h.go fun ds M1 k => by
  show Wp (if _ then _ else _) _
  rw [if_pos k.1]; exact wp_ok k.2)
theorem wp_lst (h : Wp (fr env M) (kLe fun ds M1 => q (.loc M1.length) (M1 ++ [.lst ds]))) : Wp (fLst fr env M) q := wp_bnd (h.go fun ds M1 k => by
  show Wp (if _ then _ else _) _
  rw [if_pos k.1]; exact wp_ok k.2)
theorem wp_c {h : List Dv → Mem → Option (Dv × Mem)} (k : Wp (fr env M) fun ds M1 => Wp (h ds M1) q) : Wp (fC h fr env M) q := wp_bnd k
theorem wp_call {F : FF} (h : Wp (fr env M) (kLen n fun ds M1 => Wp (F ds M1) q)) : Wp (fCall n F fr env M) q := wp_bnd (h.go fun ds M1 k => by
  show Wp (if _ then _ else _) _
  rw [if_pos k.1]; exact k.2)
theorem wp_callK {F : FF} {nk : Nat} {is : List Nat} (h : Wp (fr env M) fun ds M1 => (ds.length = nk ∧ (pick is ds).length = n) ∧ Wp (F (pick is ds) M1) q) : Wp (fCallK n nk is F fr env M) q := wp_bnd (h.go fun ds M1 k => by
  show Wp (if _ then _ else _) _
  rw [if_pos k.1]; exact k.2)
theorem wp_fld {c : Nat} {fld : Str} (h : Wp (fa env M) fun d M1 => ∃ k fs x, d = .loc k ∧ M1[k]? = some (.ins c fs) ∧ fs.lookup fld = some x ∧ q x M1) : Wp (fFld c fld fa env M) q := wp_bnd (h.go fun d M1 ⟨k, fs, x, e, h1, h2, h3⟩ => by
  subst e
  show Wp (match M1[k]? with | some (.ins c' fs) => if c' = c then match fs.lookup fld with | some x => some (x, M1) | none => none else none | _ => none) _
  simp only [h1, if_true, h2]
  exact wp_ok h3)
theorem wp_put {c : Nat} {fld : Str} (h : Wp (fa env M) fun y M1 => Wp (fb env M1) fun d M2 => ∃ k fs, d = .loc k ∧ M2[k]? = some (.ins c fs) ∧ fs.length < 1000 ∧ Q (.nx env) (M2.set k (.ins c (putD fld y fs)))) : Wp (fPut c fld fb fa env M) Q :=
  wp_bnd (h.go fun y M1 k => wp_bnd (k.go fun d M2 ⟨k, fs, e, h1, h2, h3⟩ => by
    subst e
    show Wp (match M2[k]? with | some (.ins c' fs) => if c' = c ∧ fs.length < 1000 then some (Fl.nx env, M2.set k (.ins c (putD fld y fs))) else none | _ => none) _
    simp only [h1, h2, and_self, if_true]
    exact wp_ok h3))
theorem wp_meth {c np : Nat} {m : Str} {F : FF} (h : Wp (fa env M) fun d M1 => isIns c m d M1 = true ∧ Wp (fr env M1) fun ds M2 => (d :: ds).length = np ∧ Wp (F (d :: ds) M2) q) : Wp (fMeth c m np F fa fr env M) q := wp_bnd (h.go fun d M1 k => by
  show Wp (if _ then _ else _) _
  rw [if_pos k.1]
  refine wp_bnd (k.2.go fun ds M2 k => ?_)
  show Wp (if _ then _ else _) _
  rw [if_pos k.1]
  exact k.2)
theorem wp_make {c np : Nat} {F : FF} (h : Wp (fr env M) fun ds M1 => ds.length + 1 = np ∧ Wp (F (.loc M1.length :: ds) (M1 ++ [.ins c []])) fun d M2 => d = .non ∧ q (.loc M1.length) M2) : Wp (fMake c np F fr env M) q := wp_bnd (h.go fun ds M1 k => by
  show Wp (if _ then _ else _) _
  rw [if_pos k.1]
  refine wp_bnd (k.2.go fun d M2 ⟨e, k⟩ => ?_)
  subst e
  exact wp_ok k)
theorem wp_m {T : String} {h : FM} (k : Wp (fa env M) fun d M1 => isTy T d M1 = true ∧ Wp (fr env M1) fun ds M2 => Wp (h d ds M2) q) : Wp (fM T h fa fr env M) q := wp_bnd (k.go fun d M1 k => by
  show Wp (if _ then _ else _) _
  rw [if_pos k.1]
  exact wp_bnd k.2)
theorem wp_or1 (h : Wp (fa env M) q) : Wp (fOr fa fb env M) q := by
  obtain ⟨d, M1, e, k⟩ := h
  exact ⟨d, M1, by unfold fOr; rw [e], k⟩
theorem wp_or2 (h1 : fa env M = none) (h : Wp (fb env M) q) : Wp (fOr fa fb env M) q := by
  obtain ⟨d, M1, e, k⟩ := h
  exact ⟨d, M1, by unfold fOr; rw [h1, e], k⟩
theorem wp_slP {flo fhi : FO} (h : Wp (fa env M) fun d M1 => Wp (flo env M1) fun lo M2 => Wp (fhi env M2) fun hi M3 => Wp (slD d lo hi M3) q) : Wp (fSl fa flo fhi env M) q := wp_bnd (h.go fun _ _ k => wp_bnd (k.go fun _ _ k => wp_bnd k))
theorem wp_noP {qo : Option Int → Mem → Prop} (h : qo none M) : Wp (fNoP env M) qo := wp_ok h
theorem wp_P {qo : Option Int → Mem → Prop} (h : Wp (fa env M) fun d M1 => ∃ i, d = .int i ∧ qo (some i) M1) : Wp (fP fa env M) qo := wp_bnd (h.go fun d M1 ⟨i, e, k⟩ => by
  subst e; exact wp_ok k)
end
section
variable {env : En} {M : Mem} {d : Dv} {fo fi : FE} {qe : En → Mem → Prop}
theorem wp_addI {i j : Int} {q : QE} (k : q (.int (i + j)) M) : Wp (addD (.int i) (.int j) M) q := wp_ok k
theorem wp_subI {i j : Int} {q : QE} (k : q (.int (i - j)) M) : Wp (subD (.int i) (.int j) M) q := wp_ok k
theorem wp_cmp {p : Int → Int → Bool} {i j : Int} {q : QE} (k : q (.bl (p i j)) M) : Wp (cmpI p (.int i) (.int j) M) q := wp_ok k
theorem wp_modI {i j : Int} {q : QE} (h : 0 < j) (k : q (.int (i % j)) M) : Wp (modD (.int i) (.int j) M) q := wp_ev (if_pos h) k
theorem wp_fdivI {i j : Int} {q : QE} (h : 0 < j ∧ j < 1073741824) (k : q (.int (i / j)) M) : Wp (fdivD (.int i) (.int j) M) q := wp_ev (if_pos h) k
theorem wp_mulI {i j : Int} {q : QE} (h : (-(2 ^ 64) < i ∧ i < 2 ^ 64) ∨ (-(2 ^ 64) < j ∧ j < 2 ^ 64)) (k : q (.int (i * j)) M) : Wp (mulD (.int i) (.int j) M) q := wp_ev (if_pos h) k
theorem wp_eqI {b : Bool} {i j : Int} {q : QE} (k : q (.bl (xor b (i == j))) M) : Wp (eqD b (.int i) (.int j) M) q := wp_ok k
theorem wp_eqS {b : Bool} {i j : Str} {q : QE} (k : q (.bl (xor b (i == j))) M) : Wp (eqD b (.str i) (.str j) M) q := wp_ok k
theorem wp_isi {ds : List Dv} {x : Dv} {M1 : Mem} {q : QE} (h : isiD ds M = some (x, M1)) (k : q x M1) : Wp (isiD ds M) q := wp_ev h k
theorem wp_len {ds : List Dv} {x : Dv} {M1 : Mem} {q : QE} (h : lenE ds M = some (x, M1)) (k : q x M1) : Wp (lenE ds M) q := wp_ev h k
theorem wp_intd {ds : List Dv} {x : Dv} {M1 : Mem} {q : QE} (h : intD ds M = some (x, M1)) (k : q x M1) : Wp (intD ds M) q := wp_ev h k
theorem wp_ixT {xs : List Dv} {i : Int} {x : Dv} {q : QE} (h : atI xs i = some x) (k : q x M) : Wp (ixE (.tup xs) (.int i) M) q := wp_ev (by unfold ixE ixD; simp only [h]) k
theorem wp_ixR {xs : List Dv} {i : Int} {x : Dv} {q : QE} (h : atI xs i = some x) (k : q x M) : Wp (ixE (.rol xs) (.int i) M) q := wp_ev (by unfold ixE ixD; simp only [h]) k
theorem wp_ixL {n : Nat} {xs : List Dv} {i : Int} {x : Dv} {q : QE} (hm : M[n]? = some (.lst xs)) (h : atI xs i = some x) (k : q x M) : Wp (ixE (.loc n) (.int i) M) q := wp_ev (by unfold ixE ixD; simp only [hm, h]) k
theorem wp_lenL {n : Nat} {xs : List Dv} {q : QE} (hm : M[n]? = some (.lst xs)) (k : q (.int xs.length) M) : Wp (lenE [.loc n] M) q := wp_ev (by unfold lenE lenD itemsD; simp only [hm]) k
theorem wp_tupL {n : Nat} {xs : List Dv} {q : QE} (hm : M[n]? = some (.lst xs)) (k : q (.tup xs) M) : Wp (tupD [.loc n] M) q := wp_ev (by unfold tupD; simp only [hm]) k
theorem wp_append {n : Nat} {xs : List Dv} {x : Dv} {q : QE} (hm : M[n]? = some (.lst xs)) (h : xs.length < sizeLine) (k : q .non (M.set n (.lst (xs ++ [x])))) : Wp (appendD (.loc n) [x] M) q := wp_ev (by unfold appendD; simp only [hm, if_pos h]) k
theorem ty_lst {n : Nat} {xs : List Dv} (hm : M[n]? = some (.lst xs)) : isTy "list" (.loc n) M = true := by unfold isTy; simp only [hm]; rfl
theorem wp_all {n : Nat} {xs : List Dv} {bs : List Bool} {q : QE} (hm : M[n]? = some (.lst xs)) (h : blsD xs = some bs) (k : q (.bl (bs.all id)) M) : Wp (allD [.loc n] M) q := wp_ev (by unfold allD; simp only [hm, h]) k
theorem wp_any {n : Nat} {xs : List Dv} {bs : List Bool} {q : QE} (hm : M[n]? = some (.lst xs)) (h : blsD xs = some bs) (k : q (.bl (bs.any id)) M) : Wp (anyD [.loc n] M) q := wp_ev (by unfold anyD; simp only [hm, h]) k
theorem bls_all : ∀ {xs : List Dv}, (∀ x ∈ xs, x = .bl true) → blsD xs = some (List.replicate xs.length true)
  | [], _ => rfl
  | x :: xs, h => by
    have e := h x (by simp)
    subst e
    unfold blsD
    rw [bls_all fun y hy => h y (by simp [hy])]; rfl
theorem wp_src {qi : Src → Mem → Prop} {fa : FE} (h : Wp (fa env M) fun d M1 => ∃ src, srcOf M1 d = some src ∧ qi src M1) : Wp (fSrc fa env M) qi := wp_bnd (h.go fun d M1 ⟨s, e, k⟩ => by
  show Wp (match srcOf M1 d with | some s => some (s, M1) | none => none) _
  rw [e]; exact wp_ok k)
theorem wp_rng1 {qi : Src → Mem → Prop} {fa : FE} (h : Wp (fa env M) fun d M1 => ∃ j : Int, d = .int j ∧ (-(2 ^ 62) ≤ j ∧ j < 2 ^ 62) ∧ qi (srcR 0 j.toNat) M1) : Wp (fRng1 fa env M) qi := wp_bnd (h.go fun d M1 ⟨j, e, h1, k⟩ => by
  subst e
  show Wp (if _ then _ else _) _
  rw [if_pos h1]; exact wp_ok k)
theorem wp_gN {i : Nat} (h : qe (env.set i (some d)) M) : Wp (gN i d env M) qe := wp_ok h
theorem wp_gsNil (h : qe env M) : Wp (gsNil [] env M) qe := wp_ok h
theorem wp_gsCons {f : FG} {g : FGs} {ds : List Dv} (h : Wp (f d env M) fun e1 M1 => Wp (g ds e1 M1) qe) : Wp (gsCons f g (d :: ds) env M) qe := wp_bnd h
theorem wp_gT {n : Nat} {g h : FGs} {xs : List Dv} (hn : xs.length = n) (k : Wp (g xs env M) qe) : Wp (gOr (gT n g) (gL n h) (.tup xs) env M) qe := by
  obtain ⟨e, M1, e1, k⟩ := k
  exact ⟨e, M1, by unfold gOr gT; simp only [if_pos hn, e1], k⟩
theorem wp_gPr {n : Nat} {g h : FGs} {xs : List Dv} (hn : xs.length = n) (k : Wp (g xs env M) qe) : Wp (gOr (gT n g) (gL n h) (.pr xs) env M) qe := by
  obtain ⟨e, M1, e1, k⟩ := k
  exact ⟨e, M1, by unfold gOr gT; simp only [if_pos hn, e1], k⟩
theorem wp_gL {m n : Nat} {g h : FGs} {xs : List Dv} (hm : M[m]? = some (.lst xs)) (hn : xs.length = n) (k : Wp (h xs env M) qe) : Wp (gOr (gT n g) (gL n h) (.loc m) env M) qe := by
  obtain ⟨e, M1, e1, k⟩ := k
  exact ⟨e, M1, by unfold gOr gT gL; simp only [hm, if_pos hn, e1], k⟩
theorem wp_gS (h : Wp (fo env M) fun o M1 => Wp (fi env M1) fun i M2 => ∃ M3, setE o i d M2 = some M3 ∧ qe env M3) : Wp (gSE fo fi d env M) qe := wp_bnd (h.go fun o M1 k => wp_bnd (k.go fun i M2 ⟨M3, e, k⟩ => by
  show Wp (match setE o i d M2 with | some M3 => some (env, M3) | none => none) _
  rw [e]; exact wp_ok k))
/-- o[j] = v -/
theorem ixN_n {n j : Nat} (hj : j < n) : ixN n (j : Int) = some j := by
  unfold ixN
  rw [if_pos (by omega), if_pos (by omega)]; simp
theorem atI_n {α : Type} {xs : List α} {j : Nat} {x : α} (h : xs[j]? = some x) : atI xs (j : Int) = some x := by
  unfold atI
  rw [ixN_n (List.getElem?_eq_some_iff.mp h).1]; exact h
theorem set_i {n j : Nat} {k : Int} {xs : List Dv} {v : Dv} (hm : M[n]? = some (.lst xs)) (hj : ixN xs.length k = some j) : setE (.loc n) (.int k) v M = some (M.set n (.lst (xs.set j v))) := by
  unfold setE setD
  simp only [hm, hj]
theorem set_at {n j : Nat} {xs : List Dv} {v : Dv} (hm : M[n]? = some (.lst xs)) (hj : j < xs.length) : setE (.loc n) (.int (j : Nat)) v M = some (M.set n (.lst (xs.set j v))) := by
  unfold setE setD
  simp only [hm, ixN_n hj]
end
/-! ### loops -/
def kLoop (I : En → Mem → Prop) (Q : QS) : QS := fun fl M => match fl with
  | .nx e => I e M
  | .ct e => I e M
  | .bk e => Q (.nx e) M
  | .rt d => Q (.rt d) M
section
variable {env : En} {M : Mem} {g : FG} {f : FS} {it : Stp} {Q : QS}
theorem kl_nx {I : En → Mem → Prop} {e : En} (h : I e M) : kLoop I Q (.nx e) M := h
theorem kl_ct {I : En → Mem → Prop} {e : En} (h : I e M) : kLoop I Q (.ct e) M := h
theorem kl_rt {I : En → Mem → Prop} {d : Dv} (h : Q (.rt d) M) : kLoop I Q (.rt d) M := h
theorem kl_bk {I : En → Mem → Prop} {e : En} (h : Q (.nx e) M) : kLoop I Q (.bk e) M := h
theorem wp_loop (I : Nat → En → Mem → Prop) (n : Nat) (hgo : ∀ i env M, i < n → I i env M → ∃ d, it i M = some (some d) ∧ Wp (g d env M) fun e1 M1 => Wp (f e1 M1) (kLoop (I (i + 1)) Q))
    (hend : ∀ env M, I n env M → it n M = some none ∧ Q (.nx env) M) : ∀ (k i : Nat) (env : En) (M : Mem), k + i = n → I i env M → Wp (loopF it g f k i env M) Q
  | 0, i, env, M, e, h => by
    have : i = n := by omega
    subst this
    obtain ⟨h1, h2⟩ := hend env M h
    show Wp (match it i M with | some none => some (Fl.nx env, M) | _ => none) Q
    rw [h1]; exact wp_ok h2
  | k + 1, i, env, M, e, h => by
    obtain ⟨d, h1, h2⟩ := hgo i env M (by omega) h
    unfold loopF
    simp only [h1]
    refine wp_bnd (h2.go fun e1 M1 h2 => wp_bnd (h2.go fun fl M2 h2 => ?_))
    cases fl with
    | nx e => exact wp_loop I n hgo hend k (i + 1) e M2 (by omega) h2
    | ct e => exact wp_loop I n hgo hend k (i + 1) e M2 (by omega) h2
    | bk e => exact wp_ok h2
    | rt d => exact wp_ok h2
theorem wp_for {fi : FI} (I : Nat → En → Mem → Prop) (h : Wp (fi env M) fun src M1 => I 0 env M1 ∧
      (∀ i env M, i < src.many → I i env M → ∃ d, src.stp i M = some (some d) ∧ Wp (g d env M) fun e1 M1 => Wp (f e1 M1) (kLoop (I (i + 1)) Q)) ∧
      ∀ env M, I src.many env M → src.stp src.many M = some none ∧ Q (.nx env) M) : Wp (fFor fi g f env M) Q :=
  wp_bnd (h.go fun src M1 ⟨h0, h1, h2⟩ => wp_loop I src.many h1 h2 src.many 0 env M1 (by omega) h0)
/-- while: I m: at most m turns are left -/
theorem wp_whileI {c : FT} (I : Nat → En → Mem → Prop) (h : ∀ m env M, I m env M → Wp (c env M) fun b M1 => match b with
      | true => Wp (f env M1) (kLoop (fun e M => ∃ m', m' < m ∧ I m' e M) Q)
      | false => Q (.nx env) M1) : ∀ (k m : Nat) (env : En) (M : Mem), m < k → I m env M → Wp (whileF c f k env M) Q
  | 0, m, env, M, e, h => by omega
  | k + 1, m, env, M, e, hi => by
    unfold whileF
    refine wp_bnd ((h m env M hi).go fun b M1 h1 => ?_)
    cases b with
    | false => exact wp_ok h1
    | true =>
      refine wp_bnd (Wp.go h1 fun fl M2 h2 => ?_)
      cases fl with
      | nx e => obtain ⟨m', l, h2⟩ := h2; exact wp_whileI I h k m' e M2 (by omega) h2
      | ct e => obtain ⟨m', l, h2⟩ := h2; exact wp_whileI I h k m' e M2 (by omega) h2
      | bk e => exact wp_ok h2
      | rt d => exact wp_ok h2
/-- comprehensions: I i acc M, the new list's cell aside -/
theorem wp_compI {ft : FT} {fe : FE} {e0 : En} {n : Nat} {q : Mem → Prop} (I : Nat → List Dv → Mem → Prop) (m : Nat) (hI : ∀ i acc M, I i acc M → M[n]? = some (.lst acc))
    (hgo : ∀ i acc M, i < m → I i acc M → ∃ d, it i M = some (some d) ∧ Wp (g d e0 M) fun e1 M1 => Wp (ft e1 M1) fun b M2 => match b with
      | true => Wp (fe e1 M2) fun y M3 => ∃ acc', M3[n]? = some (.lst acc') ∧ acc'.length < sizeLine ∧ I (i + 1) (acc' ++ [y]) (M3.set n (.lst (acc' ++ [y])))
      | false => I (i + 1) acc M2)
    (hend : ∀ acc M, I m acc M → it m M = some none ∧ q M) : ∀ (k i : Nat) (acc : List Dv) (M : Mem), k + i = m → I i acc M → ∃ M', compF it g ft fe e0 n k i M = some M' ∧ q M'
  | 0, i, acc, M, e, h => by
    have : i = m := by omega
    subst this
    obtain ⟨h1, h2⟩ := hend acc M h
    refine ⟨M, ?_, h2⟩
    show (match it i M with | some none => some M | _ => none) = _
    rw [h1]
  | k + 1, i, acc, M, e, h => by
    obtain ⟨d, h1, e1, M1, h2, b, M2, h3, h4⟩ := hgo i acc M (by omega) h
    unfold compF
    simp only [h1, h2]
    cases b with
    | false =>
      simp only [h3]
      exact wp_compI I m hI hgo hend k (i + 1) acc M2 (by omega) h4
    | true =>
      obtain ⟨y, M3, h5, acc', h6, h7, h8⟩ := h4
      simp only [h3, h5, h6, if_pos h7]
      exact wp_compI I m hI hgo hend k (i + 1) _ _ (by omega) h8
end
/-! ### what stays in the memory -/
/-- the cells of M stay, but those of W -/
abbrev Kp (W : Nat → Prop) (M M' : Mem) : Prop := M.length ≤ M'.length ∧ ∀ n, n < M.length → ¬ W n → M'[n]? = M[n]?
abbrev NoW : Nat → Prop := fun _ => False
section
variable {W W' : Nat → Prop} {M M1 M2 : Mem} {n : Nat} {o : Ob}
theorem Kp.refl : Kp W M M := ⟨Nat.le_refl _, fun _ _ _ => rfl⟩
theorem Kp.trans (a : Kp W M M1) (b : Kp W' M1 M2) (h : ∀ n, n < M.length → W' n → W n) : Kp W M M2 :=
  ⟨Nat.le_trans a.1 b.1, fun n hn w => (b.2 n (Nat.lt_of_lt_of_le hn a.1) fun x => w (h n hn x)).trans (a.2 n hn w)⟩
theorem Kp.tr (a : Kp W M M1) (b : Kp W M1 M2) : Kp W M M2 := a.trans b fun _ _ h => h
theorem Kp.trN (a : Kp W M M1) (b : Kp NoW M1 M2) : Kp W M M2 := a.trans b fun _ _ h => h.elim
theorem Kp.app (L : Mem) : Kp W M (M ++ L) := ⟨by simp, fun n hn _ => by rw [List.getElem?_append_left hn]⟩
theorem Kp.set (h : n < M.length → W n) : Kp W M (M.set n o) := ⟨by simp, fun m hm w => by
  rw [List.getElem?_set_ne fun e => ?_]
  subst e; exact w (h hm)⟩
theorem Kp.at (k : Kp W M M1) (h : M[n]? = some o) (w : ¬ W n) : M1[n]? = some o := (k.2 n (List.getElem?_eq_some_iff.mp h).1 w).trans h
theorem lt_of {x : Ob} (h : M[n]? = some x) : n < M.length := (List.getElem?_eq_some_iff.mp h).1
theorem at_new : (M ++ [o])[M.length]? = some o := by simp
theorem at_set {x : Ob} (h : M[n]? = some x) : (M.set n o)[n]? = some o := by
  rw [List.getElem?_set, if_pos rfl, if_pos (lt_of h)]
theorem at_set_ne {m : Nat} {x : Ob} (h : M[m]? = some x) (e : n ≠ m) : (M.set n o)[m]? = some x := by
  rw [List.getElem?_set_ne e]; exact h
theorem at_app {x : Ob} {L : Mem} (h : M[n]? = some x) : (M ++ L)[n]? = some x := by
  rw [List.getElem?_append_left (lt_of h)]; exact h
end
inductive All2 {α β : Type} (R : α → β → Prop) : List α → List β → Prop
  | nil : All2 R [] []
  | cons {x : α} {y : β} {xs : List α} {ys : List β} : R x y → All2 R xs ys → All2 R (x :: xs) (y :: ys)
section
variable {α β : Type} {R : α → β → Prop}
theorem All2.length : ∀ {xs : List α} {ys : List β}, All2 R xs ys → xs.length = ys.length
  | _, _, .nil => rfl
  | _, _, .cons _ t => by rw [List.length_cons, List.length_cons, t.length]
theorem All2.snoc {x : α} {y : β} (h : R x y) : ∀ {xs : List α} {ys : List β}, All2 R xs ys → All2 R (xs ++ [x]) (ys ++ [y])
  | _, _, .nil => .cons h .nil
  | _, _, .cons r t => .cons r (All2.snoc h t)
theorem All2.map_eq {φ : α → β} : ∀ {xs : List α} {ys : List β}, All2 (fun x y => y = φ x) xs ys → ys = xs.map φ
  | _, _, .nil => rfl
  | _, _, .cons r t => by rw [r, All2.map_eq t]; rfl
theorem All2.right {P : β → Prop} (h : ∀ x y, R x y → P y) : ∀ {xs : List α} {ys : List β}, All2 R xs ys → ∀ y ∈ ys, P y
  | _, _, .nil => fun y hy => by simp at hy
  | _, _, .cons r t => fun y hy => by
    rcases List.mem_cons.mp hy with e | hy
    · subst e; exact h _ _ r
    · exact All2.right h t y hy
end
/-- [e for x in xs]: over items that stay -/
theorem wp_lc {fi : FI} {fe : FE} {env : En} {M : Mem} {q : QE} {v : Nat} {vs : List Nat} (R : Dv → Dv → Prop) (W : Nat → Prop) (J : Mem → Prop)
    (h : Wp (fi env M) fun src M1 => ∃ xs : List Dv, src.many = xs.length ∧ xs.length ≤ sizeLine ∧ ¬ W M1.length ∧ (∀ i M', Kp W M1 M' → J M' → i ≤ xs.length → src.stp i M' = some xs[i]?) ∧
      J (M1 ++ [.lst []]) ∧ (∀ M' acc acc', J M' → M'[M1.length]? = some (.lst acc) → J (M'.set M1.length (.lst acc'))) ∧
      (∀ x ∈ xs, ∀ M', Kp W M1 M' → M1.length < M'.length → J M' → Wp (fe ((wipeE env vs).set v (some x)) M') fun y M3 => R x y ∧ Kp W M' M3 ∧ J M3) ∧
      ∀ ys M', All2 R xs ys → Kp W M1 M' → J M' → M'[M1.length]? = some (.lst ys) → q (.loc M1.length) M') : Wp (fComp fi vs (gN v) fYes fe env M) q := by
  refine wp_bnd (h.go fun src M1 ⟨xs, h1, h2, h3, h4, h5, h6, h7, h8⟩ => ?_)
  have key : ∃ M', compF src.stp (gN v) fYes fe (wipeE env vs) M1.length src.many 0 (M1 ++ [.lst []]) = some M' ∧ q (.loc M1.length) M' := by
    refine wp_compI (fun i acc M' => i ≤ xs.length ∧ All2 R (xs.take i) acc ∧ Kp W M1 M' ∧ J M' ∧ M'[M1.length]? = some (.lst acc)) src.many (fun i acc M' hh => hh.2.2.2.2) ?_ ?_ src.many 0 [] _ (by omega) ⟨Nat.zero_le _, .nil, .app _, h5, at_new⟩
    · rintro i acc M' hi ⟨a0, a1, a2, a3, a4⟩
      have hx : xs[i]? = some (xs[i]'(by omega)) := List.getElem?_eq_getElem (by omega)
      refine ⟨xs[i]'(by omega), by rw [h4 i M' a2 a3 a0, hx], wp_gN (wp_ok ?_)⟩
      refine (h7 _ (List.getElem_mem _) M' a2 (lt_of a4) a3).go fun y M3 ⟨b1, b2, b3⟩ => ?_
      have c1 : M3[M1.length]? = some (.lst acc) := b2.at a4 h3
      have c2 := a1.length
      rw [List.length_take] at c2
      refine ⟨acc, c1, by omega, by omega, ?_, (a2.tr b2).trans (Kp.set (W := fun n => n = M1.length) fun _ => rfl) ?_, h6 M3 acc _ b3 c1, at_set c1⟩
      · have e : xs.take (i + 1) = xs.take i ++ [xs[i]'(by omega)] := by
          rw [List.take_add_one, hx]; rfl
        rw [e]
        exact a1.snoc b1
      · intro n hn w
        omega
    · rintro acc M' ⟨a0, a1, a2, a3, a4⟩
      refine ⟨?_, ?_⟩
      · rw [h4 _ M' a2 a3 a0, h1]
        simp
      · rw [h1, List.take_length] at a1
        exact h8 acc M' a1 a2 a3 a4
  obtain ⟨M', e, k⟩ := key
  show Wp (match compF _ _ _ _ _ _ _ _ _ with | some M2 => some (Dv.loc M1.length, M2) | none => none) q
  rw [e]
  exact wp_ok k
theorem wp_lstA {env : En} {M : Mem} {fr : FA} {q : QE} (h : Wp (fr env M) (kLe fun ds M1 => ∀ n M2, n = M1.length → M2[n]? = some (.lst ds) → Kp NoW M1 M2 → M2.length = n + 1 → q (.loc n) M2)) : Wp (fLst fr env M) q :=
  wp_lst (h.go fun ds M1 k => ⟨k.1, k.2 _ _ rfl at_new (.app _) (by simp)⟩)
/-- [e for x in xs if t], nothing else written -/
theorem wp_lcF {fi : FI} {ft : FT} {fe : FE} {env : En} {M : Mem} {q : QE} {v : Nat} {vs : List Nat} (p : Dv → Bool) (φ : Dv → Dv)
    (h : Wp (fi env M) fun src M1 => ∃ xs : List Dv, src.many = xs.length ∧ xs.length ≤ sizeLine ∧ (∀ i M', Kp NoW M1 M' → i ≤ xs.length → src.stp i M' = some xs[i]?) ∧
      (∀ x ∈ xs, ∀ M', Kp NoW M1 M' → Wp (ft ((wipeE env vs).set v (some x)) M') fun b M2 => b = p x ∧ Kp NoW M' M2) ∧
      (∀ x ∈ xs, ∀ M', Kp NoW M1 M' → Wp (fe ((wipeE env vs).set v (some x)) M') fun y M3 => y = φ x ∧ Kp NoW M' M3) ∧
      ∀ M', Kp NoW M1 M' → M'[M1.length]? = some (.lst ((xs.filter p).map φ)) → q (.loc M1.length) M') : Wp (fComp fi vs (gN v) ft fe env M) q := by
  refine wp_bnd (h.go fun src M1 ⟨xs, h1, h2, h4, h6, h7, h8⟩ => ?_)
  have key : ∃ M', compF src.stp (gN v) ft fe (wipeE env vs) M1.length src.many 0 (M1 ++ [.lst []]) = some M' ∧ q (.loc M1.length) M' := by
    refine wp_compI (fun i acc M' => i ≤ xs.length ∧ acc = ((xs.take i).filter p).map φ ∧ Kp NoW M1 M' ∧ M'[M1.length]? = some (.lst acc)) src.many (fun i acc M' hh => hh.2.2.2) ?_ ?_ src.many 0 [] _ (by omega) ⟨Nat.zero_le _, rfl, .app _, at_new⟩
    · rintro i acc M' hi ⟨a0, a1, a2, a4⟩
      have hx : xs[i]? = some (xs[i]'(by omega)) := List.getElem?_eq_getElem (by omega)
      have e : xs.take (i + 1) = xs.take i ++ [xs[i]'(by omega)] := by
        rw [List.take_add_one, hx]; rfl
      refine ⟨xs[i]'(by omega), by rw [h4 i M' a2 a0, hx], wp_gN ?_⟩
      refine (h6 _ (List.getElem_mem _) M' a2).go fun b M2 ⟨b1, b2⟩ => ?_
      cases hb : p (xs[i]'(by omega)) with
      | false =>
        rw [b1, hb]
        refine ⟨by omega, ?_, a2.tr b2, b2.at a4 id⟩
        rw [e, List.filter_append, List.filter_cons, if_neg (by rw [hb]; decide)]; simpa using a1
      | true =>
        rw [b1, hb]
        refine (h7 _ (List.getElem_mem _) M2 (a2.tr b2)).go fun y M3 ⟨c1, c2⟩ => ?_
        have d1 : M3[M1.length]? = some (.lst acc) := c2.at (b2.at a4 id) id
        refine ⟨acc, d1, ?_, by omega, ?_, ((a2.tr b2).tr c2).trans (Kp.set (W := fun n => n = M1.length) fun _ => rfl) ?_, at_set d1⟩
        · rw [a1, List.length_map]
          have := List.length_filter_le p (xs.take i)
          rw [List.length_take] at this
          omega
        · rw [e, List.filter_append, List.filter_cons, if_pos hb, a1, c1]; simp
        · intro n hn w; omega
    · rintro acc M' ⟨a0, a1, a2, a4⟩
      refine ⟨by rw [h4 _ M' a2 a0, h1]; simp, ?_⟩
      rw [h1, List.take_length] at a1
      subst a1
      exact h8 M' a2 a4
  obtain ⟨M', e, k⟩ := key
  show Wp (match compF _ _ _ _ _ _ _ _ _ with | some M2 => some (Dv.loc M1.length, M2) | none => none) q
  rw [e]
  exact wp_ok k
/-- [e for x in xs], nothing else written -/
theorem wp_lcP {fi : FI} {fe : FE} {env : En} {M : Mem} {q : QE} {v : Nat} {vs : List Nat} (φ : Dv → Dv)
    (h : Wp (fi env M) fun src M1 => ∃ xs : List Dv, src.many = xs.length ∧ xs.length ≤ sizeLine ∧ (∀ i M', Kp NoW M1 M' → i ≤ xs.length → src.stp i M' = some xs[i]?) ∧
      (∀ x ∈ xs, ∀ M', Kp NoW M1 M' → Wp (fe ((wipeE env vs).set v (some x)) M') fun y M3 => y = φ x ∧ Kp NoW M' M3) ∧
      ∀ M', Kp NoW M1 M' → M'[M1.length]? = some (.lst (xs.map φ)) → q (.loc M1.length) M') : Wp (fComp fi vs (gN v) fYes fe env M) q :=
  wp_lcF (fun _ => true) φ (h.go fun src M1 ⟨xs, h1, h2, h3, h4, h5⟩ => ⟨xs, h1, h2, h3, fun x hx M' k => wp_ok ⟨rfl, .refl⟩, h4, fun M' k e => h5 M' k (by rw [e, List.filter_eq_self.mpr (fun _ _ => rfl)])⟩)
theorem wp_mulT {xs : List Dv} {k : Nat} {M : Mem} {q : QE} (h : xs.length * k ≤ 16777216) (h2 : k < 1000000) (c : q (.tup (List.replicate k xs).flatten) M) : Wp (mulD (.tup xs) (.int (k : Nat)) M) q := by
  refine wp_ev ?_ c
  have e : ((k : Nat) : Int).toNat = k := Int.toNat_natCast k
  unfold mulD
  simp only [e]
  rw [if_pos ⟨by omega, by omega, Nat.le_trans h (by decide)⟩]
theorem wp_mulL {n : Nat} {xs : List Dv} {k : Nat} {M : Mem} {q : QE} (hm : M[n]? = some (.lst xs)) (h : xs.length * k ≤ 16777216) (h2 : k < 1000000)
    (c : ∀ m M2, m = M.length → M2[m]? = some (.lst (List.replicate k xs).flatten) → Kp NoW M M2 → M2.length = m + 1 → q (.loc m) M2) : Wp (mulD (.loc n) (.int (k : Nat)) M) q := by
  refine wp_ev (a := .loc M.length) (M' := M ++ [.lst (List.replicate k xs).flatten]) ?_ (c _ _ rfl at_new (.app _) (by simp))
  have e : ((k : Nat) : Int).toNat = k := Int.toNat_natCast k
  unfold mulD
  simp only [hm, e]
  rw [if_pos ⟨by omega, by omega, Nat.le_trans h (by decide)⟩]
theorem wp_extend {n m : Nat} {xs ys : List Dv} {M : Mem} {q : QE} (hn : M[n]? = some (.lst xs)) (hm : M[m]? = some (.lst ys)) (h : xs.length + ys.length ≤ 16777216) (k : q .non (M.set n (.lst (xs ++ ys)))) : Wp (extendD (.loc n) [.loc m] M) q := by
  refine wp_ev ?_ k
  unfold extendD
  simp only [hn, hm]
  rw [if_pos (Nat.le_trans h (by decide))]
theorem wp_addT {xs ys : List Dv} {M : Mem} {q : QE} (h : xs.length + ys.length ≤ 16777216) (k : q (.tup (xs ++ ys)) M) : Wp (addD (.tup xs) (.tup ys) M) q := by
  refine wp_ev ?_ k
  unfold addD
  simp only
  rw [if_pos (Nat.le_trans h (by decide))]
theorem wp_lcI {fi : FI} {fe : FE} {env : En} {M : Mem} {q : QE} {v : Nat} {vs : List Nat} (I : Nat → Nat → List Dv → Mem → Prop)
    (h : Wp (fi env M) fun src M1 => (∀ i acc M', I M1.length i acc M' → M'[M1.length]? = some (.lst acc)) ∧ I M1.length 0 [] (M1 ++ [.lst []]) ∧
      (∀ i acc M', i < src.many → I M1.length i acc M' → ∃ d, src.stp i M' = some (some d) ∧ Wp (fe ((wipeE env vs).set v (some d)) M') fun y M3 => ∃ acc', M3[M1.length]? = some (.lst acc') ∧ acc'.length < sizeLine ∧ I M1.length (i + 1) (acc' ++ [y]) (M3.set M1.length (.lst (acc' ++ [y])))) ∧
      ∀ acc M', I M1.length src.many acc M' → src.stp src.many M' = some none ∧ q (.loc M1.length) M') : Wp (fComp fi vs (gN v) fYes fe env M) q := by
  refine wp_bnd (h.go fun src M1 ⟨h0, h1, h2, h3⟩ => ?_)
  obtain ⟨M', e, k⟩ := wp_compI (it := src.stp) (g := gN v) (ft := fYes) (fe := fe) (e0 := wipeE env vs) (n := M1.length) (q := fun M' => q (.loc M1.length) M') (I M1.length) src.many h0
    (fun i acc M' hi hh => by
      obtain ⟨d, e, w⟩ := h2 i acc M' hi hh
      exact ⟨d, e, wp_gN (wp_ok w)⟩) h3 src.many 0 [] _ (by omega) h1
  show Wp (match compF _ _ _ _ _ _ _ _ _ with | some M2 => some (Dv.loc M1.length, M2) | none => none) q
  rw [e]
  exact wp_ok k
theorem wp_enum {env : En} {M : Mem} {qi : Src → Mem → Prop} {fa : FE} (h : Wp (fa env M) fun d M1 => ∃ src, srcE M1 d = some src ∧ qi src M1) : Wp (fEnum fa env M) qi := wp_bnd (h.go fun d M1 ⟨s, e, k⟩ => by
  show Wp (match srcE M1 d with | some s => some (s, M1) | none => none) _
  rw [e]; exact wp_ok k)
theorem ins_ok {c n : Nat} {fs : List (Str × Dv)} {m : Str} {M : Mem} (h : M[n]? = some (.ins c fs)) (hl : (fs.lookup m).isNone = true) : isIns c m (.loc n) M = true := by
  unfold isIns
  simp only [h, hl, beq_self_eq_true, Bool.and_self]
theorem wp_inL {b : Bool} {n : Nat} {x : Dv} {ys : List Dv} {M : Mem} {q : QE} (h : M[n]? = some (.lst ys)) (hx : flatD x = true) (hy : ys.all flatD = true) (k : q (.bl (xor b (ys.any fun y => eqF y x))) M) : Wp (inE b x (.loc n) M) q := by
  refine wp_ev ?_ k
  unfold inE inD
  cases x <;> simp_all [flatD]
theorem wp_indexL {n j : Nat} {x : Dv} {ys : List Dv} {M : Mem} {q : QE} (h : M[n]? = some (.lst ys)) (hx : flatD x = true) (hy : ys.all flatD = true) (hj : idxB (fun y => eqF y x) ys = some j) (k : q (.int (j : Nat)) M) : Wp (indexD (.loc n) [x] M) q := by
  refine wp_ev ?_ k
  unfold indexD
  simp only [h, hx, hy, Bool.and_self, if_true, hj]
theorem idxB_of {p : Dv → Bool} : ∀ {ys : List Dv}, ys.any p = true → ∃ j, idxB p ys = some j ∧ j < ys.length
  | [], h => by simp at h
  | y :: ys, h => by
    unfold idxB
    by_cases hp : p y = true
    · exact ⟨0, if_pos hp, by simp⟩
    · rw [if_neg hp]
      rw [List.any_cons, Bool.or_eq_true] at h
      obtain ⟨j, e, hj⟩ := idxB_of (h.resolve_left hp)
      exact ⟨j + 1, by rw [e], by simp; omega⟩
theorem cut_take {xs : List Dv} {c : Nat} (h : c ≤ xs.length) : cutD xs none (some (c : Nat)) = xs.take c := by
  unfold cutD
  have e1 : HT.sIx xs.length 0 none = 0 := rfl
  have e2 : HT.sIx xs.length xs.length (some (c : Nat)) = c := by
    rw [HT.sIx_nat]; omega
  rw [e1, e2]; simp
def stpL (n : Nat) : Stp := fun i M => match M[n]? with
  | some (.lst xs) => some xs[i]?
  | _ => none
theorem stpL_at {n i : Nat} {M : Mem} {xs : List Dv} (h : M[n]? = some (.lst xs)) : stpL n i M = some xs[i]? := by
  unfold stpL; simp only [h]
theorem src_loc {n : Nat} {M : Mem} {xs : List Dv} (h : M[n]? = some (.lst xs)) : srcOf M (.loc n) = some ⟨xs.length, stpL n⟩ := by
  unfold srcOf; simp only [h]; rfl
theorem wp_slR {xs : List Dv} {lo hi : Option Int} {M : Mem} {q : QE} (k : ∀ n M2, n = M.length → M2[n]? = some (.lst (cutD xs lo hi)) → Kp NoW M M2 → M2.length = n + 1 → q (.loc n) M2) : Wp (slD (.rol xs) lo hi M) q :=
  wp_ev (M' := M ++ [.lst (cutD xs lo hi)]) rfl (k _ _ rfl at_new (.app _) (by simp))
theorem wp_slT {xs : List Dv} {lo hi : Option Int} {M : Mem} {q : QE} (k : q (.tup (cutD xs lo hi)) M) : Wp (slD (.tup xs) lo hi M) q := wp_ok k
theorem cut_mem {xs : List Dv} {lo hi : Option Int} {x : Dv} (h : x ∈ cutD xs lo hi) : x ∈ xs := List.mem_of_mem_drop (List.mem_of_mem_take h)
def intsR (n : Nat) : List Dv := (List.range n).map fun j => Dv.int (j : Nat)
theorem intsR_len {n : Nat} : (intsR n).length = n := by simp [intsR]
theorem rng_go {n i : Nat} {M : Mem} (h : i < n) : (srcR 0 n).stp i M = some (some (.int (i : Nat))) := by
  show (if i < n then some (some (Dv.int (0 + i))) else some none) = _
  rw [if_pos h, Int.zero_add]
theorem rng_end {n : Nat} {M : Mem} : (srcR 0 n).stp n M = some none := by
  show (if n < n then some (some (Dv.int (0 + n))) else some none) = _
  rw [if_neg (Nat.lt_irrefl _)]
theorem rng_stp {n i : Nat} {M : Mem} : (srcR 0 n).stp i M = some (intsR n)[i]? := by
  by_cases h : i < n
  · rw [rng_go h]; simp [intsR, h]
  · show (if i < n then some (some (Dv.int (0 + i))) else some none) = _
    rw [if_neg h, List.getElem?_eq_none (by simpa [intsR] using h)]
theorem rgD_n {n : Nat} : rgD 0 (n : Nat) = intsR n := by
  unfold rgD intsR
  simp
theorem wp_tupR {env : En} {M : Mem} {fa : FE} {q : QE} (h : Wp (fa env M) fun d M1 => ∃ n : Nat, d = .int (n : Nat) ∧ n ≤ 1000 ∧ q (.tup (intsR n)) M1) : Wp (fTupR (fRg1 fa) env M) q := by
  obtain ⟨d, M1, e, n, rfl, hn, k⟩ := h
  refine ⟨_, M1, ?_, k⟩
  have hk : rgOk 0 (n : Nat) = true := by
    unfold rgOk
    rw [decide_eq_true_eq]
    omega
  unfold fTupR fRg1 bnd
  simp only [e, hk, if_true, rgD_n]
theorem wp_rngN {env : En} {M : Mem} {qi : Src → Mem → Prop} {fa : FE} (h : Wp (fa env M) fun d M1 => ∃ n : Nat, d = .int (n : Nat) ∧ n < 2 ^ 62 ∧ qi (srcR 0 n) M1) : Wp (fRng1 fa env M) qi := wp_rng1 (h.go fun d M1 ⟨n, e, h1, k⟩ => ⟨n, e, by omega, by simpa using k⟩)
end Zl

/-! text Y2 -/
namespace Zl
open PySem L2 PySem.Spec PyProof.Rows

/-! ## the same rules, each with a name for what it asks -/
section
variable {env e : En} {M : Mem} {d x : Dv} {fa fb : FE} {fr : FA} {q : QE} {Q : QS} {n k c np : Nat} {xs : List Dv} {fs : List (Str × Dv)} {fld m : Str} {F : FF}
def kFld (c : Nat) (fld : Str) (q : QE) : QE := fun d M => ∃ k fs x, d = .loc k ∧ M[k]? = some (.ins c fs) ∧ fs.lookup fld = some x ∧ q x M
theorem wq_fld (h : Wp (fa env M) (kFld c fld q)) : Wp (fFld c fld fa env M) q := wp_fld h
theorem k_fld (h : M[k]? = some (.ins c fs)) (hl : fs.lookup fld = some x) (hq : q x M) : kFld c fld q (.loc k) M := ⟨k, fs, x, rfl, h, hl, hq⟩
def kPut (c : Nat) (fld : Str) (y : Dv) (q : Mem → Prop) : QE := fun d M => ∃ k fs, d = .loc k ∧ M[k]? = some (.ins c fs) ∧ fs.length < 1000 ∧ q (M.set k (.ins c (putD fld y fs)))
theorem wq_put (h : Wp (fa env M) fun y M1 => Wp (fb env M1) (kPut c fld y fun M' => Q (.nx env) M')) : Wp (fPut c fld fb fa env M) Q := wp_put h
theorem k_put {y : Dv} {q : Mem → Prop} (h : M[k]? = some (.ins c fs)) (hl : fs.length.blt 1000 = true) (hq : q (M.set k (.ins c (putD fld y fs)))) : kPut c fld y q (.loc k) M := ⟨k, fs, rfl, h, by simpa using Nat.lt_of_lt_of_le (Nat.le_of_ble_eq_true hl) (Nat.le_refl _), hq⟩
def kIns (c : Nat) (m : Str) (q : QE) : QE := fun d M => isIns c m d M = true ∧ q d M
theorem k_ins (h : M[k]? = some (.ins c fs)) (hl : (fs.lookup m).isNone = true) (hq : q (.loc k) M) : kIns c m q (.loc k) M := ⟨ins_ok h hl, hq⟩
theorem wq_meth (h : Wp (fa env M) (kIns c m fun d M1 => Wp (fr env M1) (kLen (np - 1) fun ds M2 => 0 < np ∧ Wp (F (d :: ds) M2) q))) : Wp (fMeth c m np F fa fr env M) q :=
  wp_meth (h.go fun d M1 ⟨h1, h2⟩ => ⟨h1, h2.go fun ds M2 ⟨h3, h4, h5⟩ => ⟨by rw [List.length_cons, h3]; omega, h5⟩⟩)
def kPos (np : Nat) (P : Prop) : Prop := 0 < np ∧ P
theorem wq_meth' (h : Wp (fa env M) (kIns c m fun d M1 => Wp (fr env M1) (kLen (np - 1) fun ds M2 => kPos np (Wp (F (d :: ds) M2) q)))) : Wp (fMeth c m np F fa fr env M) q := wq_meth h
theorem k_pos {P : Prop} (h : P) : kPos (np + 1) P := ⟨by omega, h⟩
def kNon (q : Mem → Prop) : QE := fun d M => d = .non ∧ q M
theorem k_non {q : Mem → Prop} (h : q M) : kNon q .non M := ⟨rfl, h⟩
theorem wq_make (h : Wp (fr env M) (kLen (np - 1) fun ds M1 => kPos np (Wp (F (.loc M1.length :: ds) (M1 ++ [.ins c []])) (kNon fun M2 => q (.loc M1.length) M2)))) : Wp (fMake c np F fr env M) q :=
  wp_make (h.go fun ds M1 ⟨h1, h2, h3⟩ => ⟨by omega, h3.go fun d M2 ⟨h4, h5⟩ => ⟨h4, h5⟩⟩)
def kTy (T : String) (q : QE) : QE := fun d M => isTy T d M = true ∧ q d M
theorem k_tyL (h : M[n]? = some (.lst xs)) (hq : q (.loc n) M) : kTy "list" q (.loc n) M := ⟨ty_lst h, hq⟩
theorem k_tyT (hq : q (.tup xs) M) : kTy "tuple" q (.tup xs) M := ⟨rfl, hq⟩
theorem wq_m {T : String} {h : FM} (k : Wp (fa env M) (kTy T fun d M1 => Wp (fr env M1) fun ds M2 => Wp (h d ds M2) q)) : Wp (fM T h fa fr env M) q := wp_m k
def kSrc (qi : Src → Mem → Prop) : QE := fun d M => ∃ src, srcOf M d = some src ∧ qi src M
theorem wq_src {qi : Src → Mem → Prop} (h : Wp (fa env M) (kSrc qi)) : Wp (fSrc fa env M) qi := wp_src h
theorem k_srcL {qi : Src → Mem → Prop} (h : M[n]? = some (.lst xs)) (hq : qi ⟨xs.length, stpL n⟩ M) : kSrc qi (.loc n) M := ⟨_, src_loc h, hq⟩
def stpC (xs : List Dv) : Stp := fun i _ => some xs[i]?
theorem k_srcT {qi : Src → Mem → Prop} (hq : qi ⟨xs.length, stpC xs⟩ M) : kSrc qi (.tup xs) M := ⟨_, rfl, hq⟩
theorem k_srcR {qi : Src → Mem → Prop} (hq : qi ⟨xs.length, stpC xs⟩ M) : kSrc qi (.rol xs) M := ⟨_, rfl, hq⟩
def kInt (q : Int → Mem → Prop) : QE := fun d M => ∃ i, d = .int i ∧ q i M
theorem k_int {i : Int} {q : Int → Mem → Prop} (h : q i M) : kInt q (.int i) M := ⟨i, rfl, h⟩
theorem wq_P {qo : Option Int → Mem → Prop} (h : Wp (fa env M) (kInt fun i M1 => qo (some i) M1)) : Wp (fP fa env M) qo := wp_P h
def kNat (q : Nat → Mem → Prop) : QE := fun d M => ∃ n : Nat, d = .int (n : Nat) ∧ q n M
theorem k_nat {q : Nat → Mem → Prop} (h : q n M) : kNat q (.int (n : Nat)) M := ⟨n, rfl, h⟩
theorem k_natL {l : Nat} {q : Nat → Mem → Prop} (h : q l M) : kNat q (.int (OfNat.ofNat l : Int)) M := ⟨l, rfl, h⟩
theorem k_natI {i : Int} {q : Nat → Mem → Prop} (n : Nat) (e : i = n) (h : q n M) : kNat q (.int i) M := ⟨n, by rw [e], h⟩
def kSml (n : Nat) (P : Prop) : Prop := n < 2 ^ 62 ∧ P
theorem k_sml {P : Prop} (h : n < 2 ^ 62) (p : P) : kSml n P := ⟨h, p⟩
theorem wq_rng {qi : Src → Mem → Prop} (h : Wp (fa env M) (kNat fun n M1 => kSml n (qi (srcR 0 n) M1))) : Wp (fRng1 fa env M) qi := wp_rngN h
def kSet (o i d : Dv) (q : Mem → Prop) (M : Mem) : Prop := ∃ M3, setE o i d M = some M3 ∧ q M3
theorem wq_gS {fo fi : FE} {qe : En → Mem → Prop} (h : Wp (fo env M) fun o M1 => Wp (fi env M1) fun i M2 => kSet o i d (fun M3 => qe env M3) M2) : Wp (gSE fo fi d env M) qe := wp_gS h
theorem k_set {j : Nat} {i : Int} {q : Mem → Prop} (hm : M[n]? = some (.lst xs)) (hj : ixN xs.length i = some j) (h : q (M.set n (.lst (xs.set j d)))) : kSet (.loc n) (.int i) d q M := ⟨_, set_i hm hj, h⟩
theorem k_setN {j : Nat} {q : Mem → Prop} (hm : M[n]? = some (.lst xs)) (hj : j < xs.length) (h : q (M.set n (.lst (xs.set j d)))) : kSet (.loc n) (.int (j : Nat)) d q M := ⟨_, set_at hm hj, h⟩
/-- for x in a tuple or a locked list: turn by turn -/
theorem stpC_go {i : Nat} (h : xs[i]? = some d) : stpC xs i M = some (some d) := by unfold stpC; rw [h]
theorem stpC_end : stpC xs xs.length M = some none := by unfold stpC; simp
theorem stpL_go {i : Nat} (hm : M[n]? = some (.lst xs)) (h : xs[i]? = some d) : stpL n i M = some (some d) := by rw [stpL_at hm, h]
theorem stpL_end (hm : M[n]? = some (.lst xs)) : stpL n xs.length M = some none := by rw [stpL_at hm]; simp
end
theorem Kp.tl {W W' : Nat → Prop} {M M1 M2 : Mem} (b : Kp W' M1 M2) (a : Kp W M M1) (h : ∀ n, n < M.length → W' n → W n) : Kp W M M2 := a.trans b h
theorem Kp.setl {W : Nat → Prop} {M M1 : Mem} {n : Nat} {o : Ob} (a : Kp W M M1) (h : n < M.length → W n) : Kp W M (M1.set n o) := a.trans (Kp.set (W := fun m => m = n) fun _ => rfl) fun m hm e => by subst e; exact h hm
theorem Kp.appl {W : Nat → Prop} {M M1 : Mem} {L : Mem} (a : Kp W M M1) : Kp W M (M1 ++ L) := a.trans (Kp.app (W := fun _ => False) _) fun _ _ h => h.elim
theorem wp_inT {b : Bool} {x : Dv} {ys : List Dv} {M : Mem} {q : QE} (h : inE b x (.tup ys) M = some (.bl (xor b (ys.any fun y => eqF y x)), M)) (k : q (.bl (xor b (ys.any fun y => eqF y x))) M) : Wp (inE b x (.tup ys) M) q := wp_ev h k
end Zl
namespace Zl
open PySem L2 PySem.Spec PyProof.Rows
def kNew (o : Ob) (q : Nat → Mem → Prop) (M : Mem) : Prop := ∀ n M2, n = M.length → M2[n]? = some o → Kp NoW M M2 → M2.length = n + 1 → q n M2
theorem k_new {o : Ob} {q : Nat → Mem → Prop} {M : Mem} (h : ∀ n M2, n = M.length → M2[n]? = some o → Kp NoW M M2 → M2.length = n + 1 → q n M2) : kNew o q M := h
theorem wq_lst {env : En} {M : Mem} {fr : FA} {q : QE} (h : Wp (fr env M) (kLe fun ds M1 => kNew (.lst ds) (fun n M2 => q (.loc n) M2) M1)) : Wp (fLst fr env M) q := wp_lstA h
theorem wq_make2 {env : En} {M : Mem} {fr : FA} {q : QE} {c np : Nat} {F : FF} (h : Wp (fr env M) (kLen (np - 1) fun ds M1 => kPos np (kNew (.ins c []) (fun n M2 => Wp (F (.loc n :: ds) M2) (kNon fun M3 => q (.loc n) M3)) M1))) : Wp (fMake c np F fr env M) q :=
  wq_make (h.go fun ds M1 ⟨h1, h2, h3⟩ => ⟨h1, h2, h3 _ _ rfl at_new (.app _) (by simp)⟩)
def kMulN (n : Nat) (P : Prop) : Prop := n ≤ 1000 ∧ P
theorem wq_mulL {n : Nat} {xs : List Dv} {k : Nat} {M : Mem} {q : QE} (hm : M[n]? = some (.lst xs)) (h1 : xs.length ≤ 16) (h2 : k ≤ 100000)
    (c : kNew (.lst (List.replicate k xs).flatten) (fun m M2 => q (.loc m) M2) M) : Wp (mulD (.loc n) (.int (k : Nat)) M) q :=
  wp_mulL hm (Nat.le_trans (Nat.mul_le_mul h1 h2) (by decide)) (by omega) c
theorem wq_slR {xs : List Dv} {lo hi : Option Int} {M : Mem} {q : QE} (k : kNew (.lst (cutD xs lo hi)) (fun n M2 => q (.loc n) M2) M) : Wp (slD (.rol xs) lo hi M) q := wp_slR k
theorem wq_slL {m : Nat} {xs : List Dv} {lo hi : Option Int} {M : Mem} {q : QE} (hm : M[m]? = some (.lst xs)) (k : kNew (.lst (cutD xs lo hi)) (fun n M2 => q (.loc n) M2) M) : Wp (slD (.loc m) lo hi M) q := by
  refine wp_ev (a := .loc M.length) (M' := M ++ [.lst (cutD xs lo hi)]) ?_ (k _ _ rfl at_new (.app _) (by simp))
  unfold slD
  simp only [hm]
/-- a comprehension that writes nothing else -/
def kLc (fe : FE) (ft : FT) (env : En) (v : Nat) (vs : List Nat) (p : Dv → Bool) (φ : Dv → Dv) (q : QE) : Src → Mem → Prop := fun src M1 => ∃ xs : List Dv, src.many = xs.length ∧ xs.length ≤ sizeLine ∧ (∀ i M', Kp NoW M1 M' → i ≤ xs.length → src.stp i M' = some xs[i]?) ∧
      (∀ x ∈ xs, ∀ M', Kp NoW M1 M' → Wp (ft ((wipeE env vs).set v (some x)) M') fun b M2 => b = p x ∧ Kp NoW M' M2) ∧
      (∀ x ∈ xs, ∀ M', Kp NoW M1 M' → Wp (fe ((wipeE env vs).set v (some x)) M') fun y M3 => y = φ x ∧ Kp NoW M' M3) ∧
      ∀ M', Kp NoW M1 M' → M'[M1.length]? = some (.lst ((xs.filter p).map φ)) → q (.loc M1.length) M'
theorem wq_lcF {fi : FI} {ft : FT} {fe : FE} {env : En} {M : Mem} {q : QE} {v : Nat} {vs : List Nat} (p : Dv → Bool) (φ : Dv → Dv) (h : Wp (fi env M) (kLc fe ft env v vs p φ q)) : Wp (fComp fi vs (gN v) ft fe env M) q := wp_lcF p φ h
def kMap (fe : FE) (env : En) (v : Nat) (vs : List Nat) (φ : Dv → Dv) (q : QE) : Src → Mem → Prop := fun src M1 => ∃ xs : List Dv, src.many = xs.length ∧ xs.length ≤ sizeLine ∧ (∀ i M', Kp NoW M1 M' → i ≤ xs.length → src.stp i M' = some xs[i]?) ∧
      (∀ x ∈ xs, ∀ M', Kp NoW M1 M' → Wp (fe ((wipeE env vs).set v (some x)) M') fun y M3 => y = φ x ∧ Kp NoW M' M3) ∧
      ∀ n M', n = M1.length → M1.length < M'.length → Kp NoW M1 M' → M'[n]? = some (.lst (xs.map φ)) → q (.loc n) M'
theorem wq_map {fi : FI} {fe : FE} {env : En} {M : Mem} {q : QE} {v : Nat} {vs : List Nat} (φ : Dv → Dv) (h : Wp (fi env M) (kMap fe env v vs φ q)) : Wp (fComp fi vs (gN v) fYes fe env M) q :=
  wp_lcP φ (h.go fun src M1 ⟨xs, h1, h2, h3, h4, h5⟩ => ⟨xs, h1, h2, h3, h4, fun M' k g => h5 _ _ rfl (lt_of g) k g⟩)
section
variable {fe : FE} {env : En} {v n : Nat} {vs : List Nat} {φ : Dv → Dv} {q : QE} {xs : List Dv} {M : Mem}
theorem k_mapT (hl : xs.length ≤ sizeLine) (he : ∀ x ∈ xs, ∀ M', Kp NoW M M' → Wp (fe ((wipeE env vs).set v (some x)) M') fun y M3 => y = φ x ∧ Kp NoW M' M3)
    (hq : ∀ n M', n = M.length → M.length < M'.length → Kp NoW M M' → M'[n]? = some (.lst (xs.map φ)) → q (.loc n) M') : kMap fe env v vs φ q ⟨xs.length, stpC xs⟩ M := ⟨xs, rfl, hl, fun _ _ _ _ => rfl, he, hq⟩
theorem k_mapL {m : Nat} (hm : M[m]? = some (.lst xs)) (hl : xs.length ≤ sizeLine) (he : ∀ x ∈ xs, ∀ M', Kp NoW M M' → Wp (fe ((wipeE env vs).set v (some x)) M') fun y M3 => y = φ x ∧ Kp NoW M' M3)
    (hq : ∀ n M', n = M.length → M.length < M'.length → Kp NoW M M' → M'[n]? = some (.lst (xs.map φ)) → q (.loc n) M') : kMap fe env v vs φ q ⟨xs.length, stpL m⟩ M := ⟨xs, rfl, hl, fun _ M' k _ => stpL_at (k.at hm id), he, hq⟩
theorem k_mapR {m : Nat} (hl : m ≤ sizeLine) (he : ∀ j : Nat, j < m → ∀ M', Kp NoW M M' → Wp (fe ((wipeE env vs).set v (some (.int (j : Nat)))) M') fun y M3 => y = φ (.int (j : Nat)) ∧ Kp NoW M' M3)
    (hq : ∀ n M', n = M.length → M.length < M'.length → Kp NoW M M' → M'[n]? = some (.lst ((intsR m).map φ)) → q (.loc n) M') : kMap fe env v vs φ q (srcR 0 m) M :=
  ⟨intsR m, intsR_len.symm, by rw [intsR_len]; exact hl, fun _ _ _ _ => rng_stp, fun x hx => by
    unfold intsR at hx
    obtain ⟨j, hj, rfl⟩ := List.mem_map.mp hx
    exact he j (List.mem_range.mp hj), hq⟩
end
theorem size_le {n : Nat} (h : n ≤ 16000000) : n ≤ sizeLine := Nat.le_trans h (by decide)
theorem size_lt {n : Nat} (h : n ≤ 16000000) : n < sizeLine := Nat.lt_of_le_of_lt h (by decide)
/-- a for over a range -/
theorem wq_forR {env : En} {M : Mem} {g : FG} {f : FS} {Q : QS} {n : Nat} (I : Nat → En → Mem → Prop) (h0 : I 0 env M) (h1 : ∀ i env M, i < n → I i env M → Wp (g (.int (i : Nat)) env M) fun e1 M1 => Wp (f e1 M1) (kLoop (I (i + 1)) Q)) (h2 : ∀ env M, I n env M → Q (.nx env) M) :
    I 0 env M ∧ (∀ i env M, i < (srcR 0 n).many → I i env M → ∃ d, (srcR 0 n).stp i M = some (some d) ∧ Wp (g d env M) fun e1 M1 => Wp (f e1 M1) (kLoop (I (i + 1)) Q)) ∧ ∀ env M, I (srcR 0 n).many env M → (srcR 0 n).stp (srcR 0 n).many M = some none ∧ Q (.nx env) M :=
  ⟨h0, fun i env M hi hh => ⟨_, rng_go hi, h1 i env M hi hh⟩, fun env M hh => ⟨rng_end, h2 env M hh⟩⟩
/-- a for over a tuple -/
theorem wq_forT {env : En} {M : Mem} {g : FG} {f : FS} {Q : QS} {xs : List Dv} (I : Nat → En → Mem → Prop) (h0 : I 0 env M) (h1 : ∀ i d env M, xs[i]? = some d → I i env M → Wp (g d env M) fun e1 M1 => Wp (f e1 M1) (kLoop (I (i + 1)) Q)) (h2 : ∀ env M, I xs.length env M → Q (.nx env) M) :
    I 0 env M ∧ (∀ i env M, i < (Src.mk xs.length (stpC xs)).many → I i env M → ∃ d, (Src.mk xs.length (stpC xs)).stp i M = some (some d) ∧ Wp (g d env M) fun e1 M1 => Wp (f e1 M1) (kLoop (I (i + 1)) Q)) ∧ ∀ env M, I (Src.mk xs.length (stpC xs)).many env M → (Src.mk xs.length (stpC xs)).stp (Src.mk xs.length (stpC xs)).many M = some none ∧ Q (.nx env) M :=
  ⟨h0, fun i env M hi hh => ⟨xs[i]'hi, stpC_go (M := M) (List.getElem?_eq_getElem hi), h1 i _ env M (List.getElem?_eq_getElem hi) hh⟩, fun env M hh => ⟨stpC_end (M := M), h2 env M hh⟩⟩
/-- a for over a list that stays -/
theorem wq_forL {env : En} {M : Mem} {g : FG} {f : FS} {Q : QS} {xs : List Dv} {m : Nat} (I : Nat → En → Mem → Prop) (hm : ∀ i env M, I i env M → M[m]? = some (.lst xs)) (h0 : I 0 env M) (h1 : ∀ i d env M, xs[i]? = some d → I i env M → Wp (g d env M) fun e1 M1 => Wp (f e1 M1) (kLoop (I (i + 1)) Q)) (h2 : ∀ env M, I xs.length env M → Q (.nx env) M) :
    I 0 env M ∧ (∀ i env M, i < (Src.mk xs.length (stpL m)).many → I i env M → ∃ d, (Src.mk xs.length (stpL m)).stp i M = some (some d) ∧ Wp (g d env M) fun e1 M1 => Wp (f e1 M1) (kLoop (I (i + 1)) Q)) ∧ ∀ env M, I (Src.mk xs.length (stpL m)).many env M → (Src.mk xs.length (stpL m)).stp (Src.mk xs.length (stpL m)).many M = some none ∧ Q (.nx env) M :=
  ⟨h0, fun i env M hi hh => ⟨xs[i]'hi, stpL_go (hm i env M hh) (List.getElem?_eq_getElem hi), h1 i _ env M (List.getElem?_eq_getElem hi) hh⟩, fun env M hh => ⟨stpL_end (hm _ env M hh), h2 env M hh⟩⟩
section
variable {M : Mem} {k c n : Nat} {fs : List (Str × Dv)} {fld : Str} {y d : Dv} {xs : List Dv} {q : Mem → Prop}
/-- a cell written: the memory behind it by what is known -/
def kWr (n : Nat) (o : Ob) (q : Mem → Prop) (M : Mem) : Prop := ∀ M', M'[n]? = some o → Kp (fun m => m = n) M M' → M'.length = M.length → q M'
theorem k_wr {o : Ob} (h : ∀ M', M'[n]? = some o → Kp (fun m => m = n) M M' → M'.length = M.length → q M') : kWr n o q M := h
theorem k_putO (h : M[k]? = some (.ins c fs)) (hl : fs.length.blt 1000 = true) (hq : kWr k (.ins c (putD fld y fs)) q M) : kPut c fld y q (.loc k) M := k_put h hl (hq _ (at_set h) (.set fun _ => rfl) (by simp))
theorem k_setO {j : Nat} {i : Int} (hm : M[n]? = some (.lst xs)) (hj : ixN xs.length i = some j) (h : kWr n (.lst (xs.set j d)) q M) : kSet (.loc n) (.int i) d q M := k_set hm hj (h _ (at_set hm) (.set fun _ => rfl) (by simp))
theorem k_setNO {j : Nat} (hm : M[n]? = some (.lst xs)) (hj : j < xs.length) (h : kWr n (.lst (xs.set j d)) q M) : kSet (.loc n) (.int (j : Nat)) d q M := k_setN hm hj (h _ (at_set hm) (.set fun _ => rfl) (by simp))
theorem wq_append {x : Dv} {q : QE} (hm : M[n]? = some (.lst xs)) (h : xs.length < sizeLine) (k : kWr n (.lst (xs ++ [x])) (fun M' => q .non M') M) : Wp (appendD (.loc n) [x] M) q := wp_append hm h (k _ (at_set hm) (.set fun _ => rfl) (by simp))
end
end Zl

/-! text Y3 -/
namespace Zl
open PySem L2 PySem.Spec PyProof.Rows

/-! ## turn by turn, without an invariant -/
section
variable {env : En} {M : Mem} {g : FG} {f : FS} {it : Stp} {Q : QS} {k i n : Nat} {d : Dv} {ft : FT} {fe : FE} {fi : FI} {e0 : En} {q : QE} {vs : List Nat}
def kTurn (it : Stp) (g : FG) (f : FS) (k i : Nat) (Q : QS) : QS := fun fl M => match fl with
  | .nx e => Wp (loopF it g f k i e M) Q
  | .ct e => Wp (loopF it g f k i e M) Q
  | .bk e => Q (.nx e) M
  | .rt d => Q (.rt d) M
theorem kt_nx {e : En} (h : Wp (loopF it g f k i e M) Q) : kTurn it g f k i Q (.nx e) M := h
theorem kt_ct {e : En} (h : Wp (loopF it g f k i e M) Q) : kTurn it g f k i Q (.ct e) M := h
theorem kt_bk {e : En} (h : Q (.nx e) M) : kTurn it g f k i Q (.bk e) M := h
theorem kt_rt (h : Q (.rt d) M) : kTurn it g f k i Q (.rt d) M := h
theorem wu_go (h : it i M = some (some d)) (w : Wp (g d env M) fun e1 M1 => Wp (f e1 M1) (kTurn it g f k (i + 1) Q)) : Wp (loopF it g f (k + 1) i env M) Q := by
  unfold loopF
  simp only [h]
  refine wp_bnd (w.go fun e1 M1 w => wp_bnd (w.go fun fl M2 w => ?_))
  cases fl with
  | nx e => exact w
  | ct e => exact w
  | bk e => exact wp_ok w
  | rt d => exact wp_ok w
theorem wu_end (h : it i M = some none) (w : Q (.nx env) M) : Wp (loopF it g f k i env M) Q := by
  cases k with
  | zero => unfold loopF; simp only [h]; exact wp_ok w
  | succ k => unfold loopF; simp only [h]; exact wp_ok w
theorem wu_for (h : Wp (fi env M) fun src M1 => Wp (loopF src.stp g f src.many 0 env M1) Q) : Wp (fFor fi g f env M) Q := wp_bnd h
/-- a comprehension's turns -/
def Wc (r : Option Mem) (q : Mem → Prop) : Prop := ∃ M, r = some M ∧ q M
def kAcc (n : Nat) (y : Dv) (q : Mem → Prop) (M : Mem) : Prop := ∃ acc, M[n]? = some (.lst acc) ∧ acc.length < sizeLine ∧ kWr n (.lst (acc ++ [y])) q M
theorem k_acc {acc : List Dv} {y : Dv} {q : Mem → Prop} (h : M[n]? = some (.lst acc)) (hl : acc.length.blt 1000 = true) (w : kWr n (.lst (acc ++ [y])) q M) : kAcc n y q M :=
  ⟨acc, h, size_lt (by have := Nat.le_of_ble_eq_true hl; omega), w⟩
theorem wuc_go {qm : Mem → Prop} (h : it i M = some (some d)) (w : Wp (g d e0 M) fun e1 M1 => Wp (ft e1 M1) (kIf (fun M2 => bnd (fe e1 M2) fun y M3 => some (some y, M3)) (fun M2 => some (none, M2)) fun o M3 => match o with
      | some y => kAcc n y (fun M4 => Wc (compF it g ft fe e0 n k (i + 1) M4) qm) M3
      | none => Wc (compF it g ft fe e0 n k (i + 1) M3) qm)) : Wc (compF it g ft fe e0 n (k + 1) i M) qm := by
  obtain ⟨e1, M1, h1, b, M2, h2, w⟩ := w
  unfold compF
  simp only [h, h1]
  cases b with
  | false =>
    obtain ⟨o, M3, h3, w⟩ := w
    cases h3
    simp only [h2]
    exact w
  | true =>
    obtain ⟨o, M3, h3, w⟩ := w
    obtain ⟨y, M4, h4, h5⟩ := bnd_some h3
    cases h5
    obtain ⟨acc, w1, w2, w3⟩ := w
    simp only [h2, h4, w1, if_pos w2]
    exact w3 _ (at_set w1) (.set fun _ => rfl) (by simp)
theorem wuc_map {qm : Mem → Prop} (h : it i M = some (some d)) (w : Wp (g d e0 M) fun e1 M1 => Wp (fe e1 M1) fun y M3 => kAcc n y (fun M4 => Wc (compF it g fYes fe e0 n k (i + 1) M4) qm) M3) : Wc (compF it g fYes fe e0 n (k + 1) i M) qm :=
  wuc_go h (w.go fun e1 M1 w => wp_ok (by
    show Wp (bnd _ _) _
    exact wp_bnd (w.go fun y M3 w => wp_ok w)))
theorem wuc_end {qm : Mem → Prop} (h : it i M = some none) (w : qm M) : Wc (compF it g ft fe e0 n k i M) qm := by
  cases k with
  | zero => exact ⟨M, by unfold compF; simp only [h], w⟩
  | succ k => exact ⟨M, by unfold compF; simp only [h], w⟩
theorem wu_comp (h : Wp (fi env M) fun src M1 => kNew (.lst []) (fun n M2 => Wc (compF src.stp g ft fe (wipeE env vs) n src.many 0 M2) fun M3 => q (.loc n) M3) M1) : Wp (fComp fi vs g ft fe env M) q := by
  refine wp_bnd (h.go fun src M1 h => ?_)
  obtain ⟨M3, e, w⟩ := h _ _ rfl at_new (.app _) (by simp)
  show Wp (match compF _ _ _ _ _ _ _ _ _ with | some M2 => some (Dv.loc M1.length, M2) | none => none) q
  rw [e]; exact wp_ok w
end
section
variable {env : En} {M : Mem} {g : FG} {f : FS} {it : Stp} {Q : QS} {k m i n : Nat} {d : Dv} {fe : FE} {e0 : En}
theorem wv_map {qm : Mem → Prop} (hk : m = k + 1) (h : it i M = some (some d)) (w : Wp (g d e0 M) fun e1 M1 => Wp (fe e1 M1) fun y M3 => kAcc n y (fun M4 => Wc (compF it g fYes fe e0 n k (i + 1) M4) qm) M3) : Wc (compF it g fYes fe e0 n m i M) qm := by
  subst hk; exact wuc_map h w
theorem wv_go (hk : m = k + 1) (h : it i M = some (some d)) (w : Wp (g d env M) fun e1 M1 => Wp (f e1 M1) (kTurn it g f k (i + 1) Q)) : Wp (loopF it g f m i env M) Q := by
  subst hk; exact wu_go h w
end
/-! ## == by what is read -/
theorem wq_eqD {b : Bool} {x y : Dv} {M : Mem} {Q : QE} {p q : PyData} (hx : rd M deep x = some p) (hy : rd M deep y = some q) (sp : SeqAt.shaped p = true) (sq : SeqAt.shaped q = true)
    (k : Q (.bl (xor b (PyData.eqv p q))) M) : Wp (eqD b x y M) Q := by
  unfold eqD
  split
  · cases hx; cases hy
    refine wp_ok ?_
    exact k
  · cases hx; cases hy
    refine wp_ok ?_
    exact k
  · simp only [hx, hy]
    rw [if_pos ⟨sp, sq⟩]
    exact wp_ok k
theorem rd_loc {M : Mem} {n k : Nat} {xs : List Dv} {ps : List PyData} (h : M[k]? = some (.lst xs)) (hx : rdL (rd M n) xs = some ps) : rd M (n + 1) (.loc k) = some (.list ps) := by
  show (match M[k]? with | some (.lst xs) => (match rdL (rd M n) xs with | some ps => some (PyData.list ps) | none => none) | _ => none) = _
  rw [h]; simp only [hx]
theorem rd_tup {M : Mem} {n : Nat} {xs : List Dv} {ps : List PyData} (hx : rdL (rd M n) xs = some ps) : rd M (n + 1) (.tup xs) = some (.tuple ps) := by
  show (match rdL (rd M n) xs with | some ps => some (PyData.tuple ps) | none => none) = _
  rw [hx]
theorem rdL_nil {f : Dv → Option PyData} : rdL f [] = some [] := rfl
theorem rdL_cons {f : Dv → Option PyData} {x : Dv} {xs : List Dv} {p : PyData} {ps : List PyData} (h : f x = some p) (hs : rdL f xs = some ps) : rdL f (x :: xs) = some (p :: ps) := by
  unfold rdL; rw [h, hs]
theorem rd_bls {M : Mem} {n : Nat} : ∀ bs : List Bool, rdL (rd M n) (bs.map Dv.bl) = some (bs.map .bool)
  | [] => rfl
  | b :: bs => by
    rw [List.map_cons, List.map_cons]
    exact rdL_cons (by cases n <;> rfl) (rd_bls bs)
/-! ## for, by an invariant -/
def kFor (I : Nat → En → Mem → Prop) (g : FG) (f : FS) (env : En) (Q : QS) : Src → Mem → Prop := fun src M1 => I 0 env M1 ∧
      (∀ i env M, i < src.many → I i env M → ∃ d, src.stp i M = some (some d) ∧ Wp (g d env M) fun e1 M1 => Wp (f e1 M1) (kLoop (I (i + 1)) Q)) ∧
      ∀ env M, I src.many env M → src.stp src.many M = some none ∧ Q (.nx env) M
section
variable {env : En} {M : Mem} {g : FG} {f : FS} {Q : QS} {n m : Nat} {fi : FI} {xs : List Dv} {I : Nat → En → Mem → Prop}
theorem wq_for (I : Nat → En → Mem → Prop) (h : Wp (fi env M) (kFor I g f env Q)) : Wp (fFor fi g f env M) Q := wp_for I h
theorem k_forR (h0 : I 0 env M) (h1 : ∀ i env M, i < n → I i env M → Wp (g (.int (i : Nat)) env M) fun e1 M1 => Wp (f e1 M1) (kLoop (I (i + 1)) Q)) (h2 : ∀ env M, I n env M → Q (.nx env) M) : kFor I g f env Q (srcR 0 n) M := wq_forR I h0 h1 h2
theorem k_forT (h0 : I 0 env M) (h1 : ∀ i d env M, xs[i]? = some d → I i env M → Wp (g d env M) fun e1 M1 => Wp (f e1 M1) (kLoop (I (i + 1)) Q)) (h2 : ∀ env M, I xs.length env M → Q (.nx env) M) : kFor I g f env Q ⟨xs.length, stpC xs⟩ M := wq_forT I h0 h1 h2
theorem k_forL (hm : ∀ i env M, I i env M → M[m]? = some (.lst xs)) (h0 : I 0 env M) (h1 : ∀ i d env M, xs[i]? = some d → I i env M → Wp (g d env M) fun e1 M1 => Wp (f e1 M1) (kLoop (I (i + 1)) Q)) (h2 : ∀ env M, I xs.length env M → Q (.nx env) M) : kFor I g f env Q ⟨xs.length, stpL m⟩ M := wq_forL I hm h0 h1 h2
end
/-- both ways meet -/
theorem k_join {α : Type} {f g : Mem → Option (α × Mem)} {Q : α → Mem → Prop} {b : Bool} {M : Mem} (P : α → Mem → Prop) (h1 : b = true → Wp (f M) P) (h2 : b = false → Wp (g M) P) (h : ∀ a M', P a M' → Q a M') : kIf f g Q b M := by
  cases b with
  | true => exact (h1 rfl).go h
  | false => exact (h2 rfl).go h
end Zl

/-! text Y4 -/
namespace Zl
open PySem L2 PySem.Spec PyProof.Rows
theorem wq_addL {m n : Nat} {xs ys : List Dv} {M : Mem} {q : QE} (hm : M[m]? = some (.lst xs)) (hn : M[n]? = some (.lst ys)) (hl : xs.length + ys.length ≤ 16000000)
    (c : kNew (.lst (xs ++ ys)) (fun k M2 => q (.loc k) M2) M) : Wp (addD (.loc m) (.loc n) M) q := by
  refine wp_ev (a := .loc M.length) (M' := M ++ [.lst (xs ++ ys)]) ?_ (c _ _ rfl at_new (.app _) (by simp))
  unfold addD
  simp only [hm, hn]
  rw [if_pos (size_le hl)]
theorem wq_addT {xs ys : List Dv} {M : Mem} {q : QE} (h : xs.length + ys.length ≤ 16000000) (k : q (.tup (xs ++ ys)) M) : Wp (addD (.tup xs) (.tup ys) M) q := wp_addT (Nat.le_trans h (by decide)) k
theorem wq_lstT {xs : List Dv} {M : Mem} {q : QE} (c : kNew (.lst xs) (fun k M2 => q (.loc k) M2) M) : Wp (lstD [.tup xs] M) q :=
  wp_ev (a := .loc M.length) (M' := M ++ [.lst xs]) rfl (c _ _ rfl at_new (.app _) (by simp))
theorem wq_lstL {n : Nat} {xs : List Dv} {M : Mem} {q : QE} (hm : M[n]? = some (.lst xs)) (c : kNew (.lst xs) (fun k M2 => q (.loc k) M2) M) : Wp (lstD [.loc n] M) q := by
  refine wp_ev (a := .loc M.length) (M' := M ++ [.lst xs]) ?_ (c _ _ rfl at_new (.app _) (by simp))
  unfold lstD itemsD
  simp only [hm]
/-! zip, enumerate -/
def kZip (qi : Src → Mem → Prop) (d : Dv) : QE := fun e M => ∃ src, srcZ M d e = some src ∧ qi src M
theorem wq_zip {env : En} {M : Mem} {qi : Src → Mem → Prop} {fa fb : FE} (h : Wp (fa env M) fun d M1 => Wp (fb env M1) (kZip qi d)) : Wp (fZip fa fb env M) qi :=
  wp_bnd (h.go fun d M1 h => wp_bnd (h.go fun e M2 ⟨s, e1, k⟩ => by
    show Wp (match srcZ M2 d e with | some s => some (s, M2) | none => none) _
    rw [e1]; exact wp_ok k))
def stpZ (xs ys : List Dv) : Stp := fun i _ => some (zipAt xs ys i)
theorem k_zipT {xs ys : List Dv} {M : Mem} {qi : Src → Mem → Prop} (h : qi ⟨min xs.length ys.length, stpZ xs ys⟩ M) : kZip qi (.tup xs) (.tup ys) M := ⟨_, rfl, h⟩
theorem zip_at {xs ys : List Dv} {i : Nat} {x y : Dv} (h : xs[i]? = some x) (h' : ys[i]? = some y) : zipAt xs ys i = some (.pr [x, y]) := by unfold zipAt; rw [h, h']
theorem zip_end {xs ys : List Dv} : zipAt xs ys (min xs.length ys.length) = none := by
  unfold zipAt
  by_cases h : xs.length ≤ ys.length
  · rw [Nat.min_eq_left h, List.getElem?_eq_none (Nat.le_refl _)]
  · rw [Nat.min_eq_right (by omega), List.getElem?_eq_none (l := ys) (Nat.le_refl _)]
    cases xs[ys.length]? <;> rfl
def kEnum (qi : Src → Mem → Prop) : QE := fun d M => ∃ src, srcE M d = some src ∧ qi src M
theorem wq_enum {env : En} {M : Mem} {qi : Src → Mem → Prop} {fa : FE} (h : Wp (fa env M) (kEnum qi)) : Wp (fEnum fa env M) qi := wp_enum h
def stpE (xs : List Dv) : Stp := fun i _ => if i ≤ xs.length then some (pairs xs i) else none
theorem k_enumT {xs : List Dv} {M : Mem} {qi : Src → Mem → Prop} (h : qi ⟨xs.length, stpE xs⟩ M) : kEnum qi (.tup xs) M := ⟨_, rfl, h⟩
theorem stpE_go {xs : List Dv} {i : Nat} {x : Dv} {M : Mem} (h : xs[i]? = some x) : stpE xs i M = some (some (.pr [.int (i : Nat), x])) := by
  have := (List.getElem?_eq_some_iff.mp h).1
  unfold stpE pairs
  rw [if_pos (by omega), h]; rfl
theorem stpE_end {xs : List Dv} {M : Mem} : stpE xs xs.length M = some none := by
  unfold stpE pairs
  rw [if_pos (Nat.le_refl _), List.getElem?_eq_none (Nat.le_refl _)]; rfl
theorem k_forE {env : En} {M : Mem} {g : FG} {f : FS} {Q : QS} {xs : List Dv} {I : Nat → En → Mem → Prop} (h0 : I 0 env M) (h1 : ∀ i d env M, xs[i]? = some d → I i env M → Wp (g (.pr [.int (i : Nat), d]) env M) fun e1 M1 => Wp (f e1 M1) (kLoop (I (i + 1)) Q)) (h2 : ∀ env M, I xs.length env M → Q (.nx env) M) : kFor I g f env Q ⟨xs.length, stpE xs⟩ M :=
  ⟨h0, fun i env M hi hh => ⟨_, stpE_go (M := M) (List.getElem?_eq_getElem hi), h1 i _ env M (List.getElem?_eq_getElem hi) hh⟩, fun env M hh => ⟨stpE_end (M := M), h2 env M hh⟩⟩
/-! ## comprehensions by any target: what each item gives -/
/-- [e for t in xs if c], nothing else written -/
theorem wq_lcG {fi : FI} {g : FG} {ft : FT} {fe : FE} {env : En} {M : Mem} {q : QE} {vs : List Nat} (p : Nat → Bool) (φ : Nat → Dv)
    (h : Wp (fi env M) fun src M1 => src.many ≤ 16000000 ∧ (∀ i M', Kp NoW M1 M' → i < src.many → ∃ d, src.stp i M' = some (some d) ∧ Wp (g d (wipeE env vs) M') fun e1 M2 => Wp (ft e1 M2) fun b M3 => b = p i ∧ Kp NoW M' M3 ∧ (p i = true → Wp (fe e1 M3) fun y M4 => y = φ i ∧ Kp NoW M3 M4)) ∧
      (∀ M', Kp NoW M1 M' → src.stp src.many M' = some none) ∧
      ∀ n M', n = M1.length → M1.length < M'.length → Kp NoW M1 M' → M'[n]? = some (.lst (((List.range src.many).filter p).map φ)) → q (.loc n) M') : Wp (fComp fi vs g ft fe env M) q := by
  refine wp_bnd (h.go fun src M1 ⟨h0, h1, h2, h3⟩ => ?_)
  have key : ∃ M', compF src.stp g ft fe (wipeE env vs) M1.length src.many 0 (M1 ++ [.lst []]) = some M' ∧ q (.loc M1.length) M' := by
    refine wp_compI (fun i acc M' => i ≤ src.many ∧ acc = ((List.range i).filter p).map φ ∧ Kp NoW M1 M' ∧ M'[M1.length]? = some (.lst acc)) src.many (fun i acc M' hh => hh.2.2.2) ?_ ?_ src.many 0 [] _ (by omega) ⟨Nat.zero_le _, rfl, .app _, at_new⟩
    · rintro i acc M' hi ⟨a0, a1, a2, a4⟩
      obtain ⟨d, e1, w⟩ := h1 i M' a2 hi
      refine ⟨d, e1, ?_⟩
      obtain ⟨env1, M2, w1, w⟩ := w
      refine ⟨env1, M2, w1, ?_⟩
      refine w.go fun b M3 ⟨b1, b2, b3⟩ => ?_
      have er : (List.range (i + 1)) = List.range i ++ [i] := List.range_succ
      cases hb : p i with
      | false =>
        rw [b1, hb]
        refine ⟨by omega, ?_, a2.tr b2, b2.at a4 id⟩
        rw [er, List.filter_append, List.filter_cons, if_neg (by rw [hb]; decide)]; simpa using a1
      | true =>
        rw [b1, hb]
        refine (b3 hb).go fun y M4 ⟨c1, c2⟩ => ?_
        have d1 : M4[M1.length]? = some (.lst acc) := c2.at (b2.at a4 id) id
        refine ⟨acc, d1, ?_, by omega, ?_, ((a2.tr b2).tr c2).trans (Kp.set (W := fun n => n = M1.length) fun _ => rfl) ?_, at_set d1⟩
        · rw [a1, List.length_map]
          have := List.length_filter_le p (List.range i)
          rw [List.length_range] at this
          exact size_lt (by omega)
        · rw [er, List.filter_append, List.filter_cons, if_pos hb, a1, c1]; simp
        · intro n hn w; omega
    · rintro acc M' ⟨a0, a1, a2, a4⟩
      refine ⟨h2 M' a2, ?_⟩
      subst a1
      exact h3 _ M' rfl (lt_of a4) a2 a4
  obtain ⟨M', e, k⟩ := key
  show Wp (match compF _ _ _ _ _ _ _ _ _ with | some M2 => some (Dv.loc M1.length, M2) | none => none) q
  rw [e]
  exact wp_ok k
end Zl

/-! text Y5 -/
namespace Zl
open PySem L2 PySem.Spec PyProof.Rows
/-! ## data that is small: depth at most k, weight at most n -/
structure Sm (k n : Nat) (p : PyData) : Prop where
  lay : p.canLay0 = true
  dep : p.depth ≤ k
  sho : p.showable = true
  dic : p.hasDict = false
  sht : p.leavesShort 12 = true
  blk : p.bulk ≤ n
structure SmA (k n : Nat) (ps : List PyData) : Prop where
  lay : PyData.canLayAll0 ps = true
  dep : PyData.depthAll ps ≤ k
  sho : PyData.showableAll ps = true
  dic : PyData.hasDictAll ps = false
  sht : PyData.leavesShortAll 12 ps = true
  blk : PyData.bulkAll ps ≤ n
section
variable {k n m : Nat} {p : PyData} {ps : List PyData}
theorem smA_nil : SmA k n [] := ⟨rfl, Nat.zero_le _, rfl, rfl, rfl, Nat.zero_le _⟩
theorem smA_cons (h : Sm k n p) (hs : SmA k m ps) : SmA k (n + 1 + m) (p :: ps) :=
  ⟨by unfold PyData.canLayAll0; rw [h.lay, hs.lay]; rfl, by unfold PyData.depthAll; exact Nat.max_le.mpr ⟨h.dep, hs.dep⟩, by unfold PyData.showableAll; rw [h.sho, hs.sho]; rfl,
    by unfold PyData.hasDictAll; rw [h.dic, hs.dic]; rfl, by unfold PyData.leavesShortAll; rw [h.sht, hs.sht]; rfl, by unfold PyData.bulkAll; have := h.blk; have := hs.blk; omega⟩
theorem SmA.mono {k' n' : Nat} (h : SmA k n ps) (hk : k ≤ k') (hn : n ≤ n') : SmA k' n' ps := ⟨h.lay, Nat.le_trans h.dep hk, h.sho, h.dic, h.sht, Nat.le_trans h.blk hn⟩
theorem Sm.mono {k' n' : Nat} (h : Sm k n p) (hk : k ≤ k') (hn : n ≤ n') : Sm k' n' p := ⟨h.lay, Nat.le_trans h.dep hk, h.sho, h.dic, h.sht, Nat.le_trans h.blk hn⟩
theorem smA_all : ∀ {ps : List PyData}, (∀ p ∈ ps, Sm k n p) → SmA k ((n + 1) * ps.length) ps
  | [], _ => smA_nil
  | p :: ps, h => (smA_cons (h p (by simp)) (smA_all fun q hq => h q (by simp [hq]))).mono (Nat.le_refl _) (by rw [List.length_cons, Nat.mul_succ]; omega)
theorem sm_list (h : SmA k n ps) : Sm (k + 1) n (.list ps) :=
  ⟨by unfold PyData.canLay0; exact h.lay, by unfold PyData.depth; have := h.dep; omega, by unfold PyData.showable; exact h.sho, by unfold PyData.hasDict; exact h.dic, by unfold PyData.leavesShort; exact h.sht, by unfold PyData.bulk; exact h.blk⟩
theorem sm_tuple (h : SmA k n ps) : Sm (k + 1) n (.tuple ps) :=
  ⟨by unfold PyData.canLay0; exact h.lay, by unfold PyData.depth; have := h.dep; omega, by unfold PyData.showable; exact h.sho, by unfold PyData.hasDict; exact h.dic, by unfold PyData.leavesShort; exact h.sht, by unfold PyData.bulk; exact h.blk⟩
theorem sm_bool {b : Bool} : Sm k n (.bool b) := ⟨rfl, Nat.zero_le _, rfl, rfl, rfl, Nat.zero_le _⟩
theorem sm_none : Sm k n .none := ⟨rfl, Nat.zero_le _, rfl, rfl, rfl, Nat.zero_le _⟩
theorem nat_short : ∀ j : Nat, j ≤ 3000 → (PyData.shown (.int (j : Nat))).length ≤ 12 := by decide +kernel
theorem sm_nat {j : Nat} (h : j ≤ 3000) : Sm k n (.int (j : Nat)) :=
  ⟨rfl, Nat.zero_le _, by
    unfold PyData.showable
    rw [decide_eq_true_eq]
    have : ((j : Nat) : Int).natAbs = j := Int.natAbs_natCast j
    rw [this]
    by_cases e : j = 0
    · rw [e]; decide
    · have := (Nat.log2_lt e (k := 1920)).mpr (Nat.lt_of_le_of_lt h (Nat.lt_of_lt_of_le (by decide : 3000 < 2 ^ 12) (Nat.pow_le_pow_right (by decide) (by decide))))
      exact this, rfl, by unfold PyData.leavesShort; exact decide_eq_true (nat_short j h), Nat.zero_le _⟩
theorem Sm.shaped (h : Sm k n p) (hk : k ≤ 60) : SeqAt.shaped p = true := by
  unfold SeqAt.shaped
  rw [h.lay, Bool.true_and, decide_eq_true_eq]
  have := h.dep; omega
/-- repr, == of small data -/
theorem wq_repr {x : Dv} {M : Mem} {q : QE} (hx : (match x with | .tup _ => true | .rol _ => true | .loc _ => true | _ => false) = true) (hr : rd M deep x = some p) (h : Sm k n p) (hk : k ≤ 60) (hn : n ≤ 1000000) (c : q (.str p.shown) M) : Wp (reprE [x] M) q := by
  have ok : p.showable = true ∧ p.hasDict = false ∧ p.depth ≤ 60 ∧ p.shown.length ≤ sizeLine := by
    refine ⟨h.sho, h.dic, Nat.le_trans h.dep hk, ?_⟩
    have e := PyData.shown_le_bulk 12 (by decide) p h.sht
    have := h.blk
    exact Nat.le_trans e (by show _ ≤ 2 ^ 24; omega)
  refine wp_ev ?_ c
  cases x with
  | tup xs => show reprD [.tup xs] M = _; unfold reprD; simp only [hr, if_pos ok]
  | rol xs => show reprD [.rol xs] M = _; unfold reprD; simp only [hr, if_pos ok]
  | loc m => show reprD [.loc m] M = _; unfold reprD; simp only [hr, if_pos ok]
  | _ => cases hx
theorem wq_reprB {b : Bool} {M : Mem} {q : QE} (c : q (.str (if b then "True" else "False")) M) : Wp (reprE [.bl b] M) q := wp_ok c
theorem wq_reprN {M : Mem} {q : QE} (c : q (.str "None") M) : Wp (reprE [.non] M) q := wp_ok c
theorem wq_eqS {b : Bool} {x y : Dv} {M : Mem} {Q : QE} {p q : PyData} {k' n' : Nat} (hx : rd M deep x = some p) (hy : rd M deep y = some q) (sp : Sm k n p) (sq : Sm k' n' q) (hk : k ≤ 60) (hk' : k' ≤ 60) (c : Q (.bl (xor b (PyData.eqv p q))) M) : Wp (eqD b x y M) Q :=
  wq_eqD hx hy (sp.shaped hk) (sq.shaped hk') c
end
/-! what is read of lists of bools, of numbers -/
theorem smA_bools {k : Nat} (bs : List Bool) : SmA k bs.length (bs.map .bool) :=
  (smA_all (k := k) (n := 0) fun p hp => by obtain ⟨b, _, rfl⟩ := List.mem_map.mp hp; exact sm_bool).mono (Nat.le_refl _) (by simp)
def natsP (ns : List Nat) : List PyData := ns.map fun n => .int (n : Nat)
theorem smA_nats {k : Nat} {ns : List Nat} (h : ∀ n ∈ ns, n ≤ 3000) : SmA k ns.length (natsP ns) :=
  (smA_all (k := k) (n := 0) fun p hp => by obtain ⟨j, hj, rfl⟩ := List.mem_map.mp hp; exact sm_nat (h j hj)).mono (Nat.le_refl _) (by simp [natsP])
theorem rd_nats {M : Mem} {n : Nat} : ∀ ns : List Nat, rdL (rd M n) (ns.map fun j => Dv.int (j : Nat)) = some (natsP ns)
  | [] => rfl
  | j :: ns => rdL_cons (by cases n <;> rfl) (rd_nats ns)
theorem eqvA_bools : ∀ as bs : List Bool, PyData.eqvAll (as.map .bool) (bs.map .bool) = (as == bs)
  | [], [] => rfl
  | [], _ :: _ => rfl
  | _ :: _, [] => rfl
  | a :: as, b :: bs => by
    rw [List.map_cons, List.map_cons]
    unfold PyData.eqvAll
    rw [eqvA_bools as bs]
    cases a <;> cases b <;> rfl
theorem eqvA_nats : ∀ as bs : List Nat, PyData.eqvAll (natsP as) (natsP bs) = (as == bs)
  | [], [] => rfl
  | [], _ :: _ => rfl
  | _ :: _, [] => rfl
  | a :: as, b :: bs => by
    unfold natsP
    rw [List.map_cons, List.map_cons]
    unfold PyData.eqvAll
    have := eqvA_nats as bs
    unfold natsP at this
    rw [this]
    have e : PyData.eqv (.int (a : Nat)) (.int (b : Nat)) = (a == b) := by
      show ((a : Int) == (b : Int)) = _
      rw [Bool.eq_iff_iff, beq_iff_eq, beq_iff_eq]
      exact Int.ofNat_inj
    rw [e]; rfl
end Zl

/-! text Y6 -/
namespace Zl
open PySem L2 PySem.Spec PyProof.Rows
theorem wr_lstT {xs : List Dv} {M : Mem} {q : QE} (c : kNew (.lst xs) (fun k M2 => q (.loc k) M2) M) : Wp (lstE [.tup xs] M) q := wq_lstT c
theorem wr_lstL {n : Nat} {xs : List Dv} {M : Mem} {q : QE} (hm : M[n]? = some (.lst xs)) (c : kNew (.lst xs) (fun k M2 => q (.loc k) M2) M) : Wp (lstE [.loc n] M) q := wq_lstL hm c
theorem wr_lstS {x : Str} {M : Mem} {q : QE} (h : x.cps.size ≤ sizeLine) (c : kNew (.lst (signsD x)) (fun k M2 => q (.loc k) M2) M) : Wp (lstE [.str x] M) q :=
  wp_ev (a := .loc M.length) (M' := M ++ [.lst (signsD x)]) (by unfold lstE; simp only; rw [if_pos h]) (c _ _ rfl at_new (.app _) (by simp))
/-! a text walked -/
def stpS (x : Str) : Stp := fun i _ => some (x.cps[i]?.map fun c => .str ⟨#[c]⟩)
theorem k_srcS {x : Str} {M : Mem} {qi : Src → Mem → Prop} (hq : qi ⟨x.cps.size, stpS x⟩ M) : kSrc qi (.str x) M := ⟨_, rfl, hq⟩
theorem stpS_at {x : Str} {i : Nat} {M : Mem} : stpS x i M = some (signsD x)[i]? := by
  unfold stpS signsD
  rw [List.getElem?_map, Array.getElem?_toList]
theorem signs_len {x : Str} : (signsD x).length = x.cps.size := by simp [signsD]
theorem k_forS {env : En} {M : Mem} {g : FG} {f : FS} {Q : QS} {x : Str} {I : Nat → En → Mem → Prop} (h0 : I 0 env M) (h1 : ∀ i d env M, (signsD x)[i]? = some d → I i env M → Wp (g d env M) fun e1 M1 => Wp (f e1 M1) (kLoop (I (i + 1)) Q)) (h2 : ∀ env M, I x.cps.size env M → Q (.nx env) M) : kFor I g f env Q ⟨x.cps.size, stpS x⟩ M :=
  ⟨h0, fun i env M hi hh => by
    have hi' : i < (signsD x).length := by rw [signs_len]; exact hi
    exact ⟨_, by show stpS x i M = _; rw [stpS_at, List.getElem?_eq_getElem hi'], h1 i _ env M (List.getElem?_eq_getElem hi') hh⟩, fun env M hh => ⟨by show stpS x x.cps.size M = _; rw [stpS_at, List.getElem?_eq_none (by rw [signs_len]; exact Nat.le_refl _)], h2 env M hh⟩⟩
theorem k_mapS {fe : FE} {env : En} {v : Nat} {vs : List Nat} {φ : Dv → Dv} {q : QE} {x : Str} {M : Mem} (hl : x.cps.size ≤ sizeLine) (he : ∀ y ∈ signsD x, ∀ M', Kp NoW M M' → Wp (fe ((wipeE env vs).set v (some y)) M') fun y' M3 => y' = φ y ∧ Kp NoW M' M3)
    (hq : ∀ n M', n = M.length → M.length < M'.length → Kp NoW M M' → M'[n]? = some (.lst ((signsD x).map φ)) → q (.loc n) M') : kMap fe env v vs φ q ⟨x.cps.size, stpS x⟩ M := ⟨signsD x, signs_len.symm, by rw [signs_len]; exact hl, fun _ M' _ _ => stpS_at (M := M'), he, hq⟩
/-! name += e -/
theorem wp_aug {env : En} {M : Mem} {i : Nat} {h : Int → Int → Int} {f : FE} {Q : QS} {a : Int} (he : env[i]? = some (some (.int a))) (k : Wp (f env M) (kInt fun b M1 => Q (.nx (env.set i (some (.int (h a b))))) M1)) : Wp (fAug i h f env M) Q := by
  unfold fAug
  simp only [he]
  refine wp_bnd (k.go fun d M1 ⟨b, e, q⟩ => ?_)
  subst e
  exact wp_ok q
end Zl

/-! text Y7 -/
namespace Zl
open PySem L2 PySem.Spec PyProof.Rows
/-! ## running dicts -/
theorem valD_put {kvs : List (Key × Dv)} {k k' : Key} {v : Dv} : valD (putDk kvs k v) k' = if k = k' then some v else valD kvs k' := by
  unfold putDk
  by_cases h : (kvs.any fun kv => decide (kv.1 = k)) = true
  · rw [if_pos h]
    induction kvs with
    | nil => cases h
    | cons p kvs ih =>
      rw [List.map_cons]
      unfold valD
      rw [List.find?_cons, List.find?_cons]
      by_cases e : p.1 = k
      · rw [if_pos e]
        by_cases e2 : k = k'
        · rw [if_pos e2]
          have : decide ((p.1, v).1 = k') = true := decide_eq_true (e.trans e2)
          rw [this]; rfl
        · rw [if_neg e2]
          have a1 : decide ((p.1, v).1 = k') = false := decide_eq_false (fun z => e2 (e.symm.trans z))
          have a2 : decide (p.1 = k') = false := decide_eq_false (fun z => e2 (e.symm.trans z))
          rw [a1]
          show Option.map _ (List.find? _ (List.map _ kvs)) = Option.map _ (List.find? _ kvs)
          by_cases h2 : (kvs.any fun kv => decide (kv.1 = k)) = true
          · have := ih h2; rw [if_neg e2] at this; exact this
          · have hm : (kvs.map fun kv => if kv.1 = k then (kv.1, v) else kv) = kvs := by
              refine (List.map_congr_left fun x hx => ?_).trans (List.map_id kvs)
              rw [if_neg]; rfl
              intro z
              exact h2 (List.any_eq_true.mpr ⟨x, hx, decide_eq_true z⟩)
            rw [hm]
      · rw [if_neg e]
        have h2 : (kvs.any fun kv => decide (kv.1 = k)) = true := by
          rw [List.any_cons, decide_eq_false e, Bool.false_or] at h; exact h
        have i := ih h2
        unfold valD at i
        by_cases e3 : p.1 = k'
        · rw [decide_eq_true e3]
          rw [if_neg (fun z => e (e3.trans z.symm))]
        · rw [decide_eq_false e3]
          exact i
  · rw [if_neg h]
    unfold valD
    rw [List.find?_append]
    by_cases e2 : k = k'
    · subst e2
      rw [if_pos rfl]
      have : kvs.find? (fun kv => decide (kv.1 = k)) = none := by
        rw [List.find?_eq_none]
        intro x hx z
        exact h (List.any_eq_true.mpr ⟨x, hx, z⟩)
      rw [this]; simp
    · rw [if_neg e2]
      have : [(k, v)].find? (fun kv => decide (kv.1 = k')) = none := by simp [e2]
      rw [this, Option.or_none]
theorem putDk_len {kvs : List (Key × Dv)} {k : Key} {v : Dv} : (putDk kvs k v).length ≤ kvs.length + 1 := by
  unfold putDk
  split <;> simp
section
variable {M : Mem} {n : Nat} {kvs : List (Key × Dv)} {k : Key} {env : En}
theorem wq_dnew {q : QE} (h : kNew (.dct []) (fun n M2 => q (.loc n) M2) M) : Wp (fDNew env M) q :=
  wp_ev (a := .loc M.length) (M' := M ++ [.dct []]) rfl (h _ _ rfl at_new (.app _) (by simp))
theorem k_setDk {i d : Dv} {q : Mem → Prop} (hm : M[n]? = some (.dct kvs)) (hk : keyD i = some k) (hl : kvs.length < sizeLine) (h : kWr n (.dct (putDk kvs k d)) q M) : kSet (.loc n) i d q M :=
  ⟨_, by unfold setE; simp only [hm, hk, if_pos hl], h _ (at_set hm) (.set fun _ => rfl) (by simp)⟩
theorem wq_dget {fo fe : FE} {q : QE} (h : Wp (fo env M) fun d M1 => ∃ m kv1, d = .loc m ∧ M1[m]? = some (.dct kv1) ∧ Wp (fe env M1) fun y M2 => ∃ kv k, M2[m]? = some (.dct kv) ∧ keyD y = some k ∧ q ((valD kv k).getD .non) M2) : Wp (fDGet fo fe env M) q := by
  unfold fDGet
  refine wp_bnd (h.go ?_)
  rintro d M1 ⟨m, kv1, rfl, h1, w⟩
  simp only [h1]
  refine wp_bnd (w.go ?_)
  rintro y M2 ⟨kv, k, h2, h3, h4⟩
  simp only [h2, h3]
  exact wp_ok h4
theorem wq_rng3 {fa fb fc : FE} {qi : Src → Mem → Prop} (h : Wp (fa env M) fun d M1 => Wp (fb env M1) fun d2 M2 => Wp (fc env M2) fun d3 M3 => ∃ i j : Int, d = .int i ∧ d2 = .int j ∧ d3 = .int (-1) ∧ -(2 ^ 62) ≤ i ∧ i < 2 ^ 62 ∧ -(2 ^ 62) ≤ j ∧ j < 2 ^ 62 ∧ qi (srcC i (-1) (i - j).toNat) M3) : Wp (fRng3 fa fb fc env M) qi := by
  unfold fRng3
  refine wp_bnd (h.go fun d M1 w => wp_bnd (w.go fun d2 M2 w => wp_bnd (w.go ?_)))
  rintro d3 M3 ⟨i, j, rfl, rfl, rfl, h1, h2, h3, h4, h5⟩
  simp only [h1, h2, h3, h4, and_self, if_true]
  exact wp_ok h5
/-- a for that counts n - 1, .., 0 -/
theorem k_forD {g : FG} {f : FS} {Q : QS} {I : Nat → En → Mem → Prop} (h0 : I 0 env M) (h1 : ∀ i t env M, t + i + 1 = n → I i env M → Wp (g (.int (t : Nat)) env M) fun e1 M1 => Wp (f e1 M1) (kLoop (I (i + 1)) Q)) (h2 : ∀ env M, I n env M → Q (.nx env) M) : kFor I g f env Q (srcC ((n : Int) - 1) (-1) ((n : Int) - 1 - (-1)).toNat) M := by
  have e : ((n : Int) - 1 - (-1)).toNat = n := by omega
  rw [e]
  refine ⟨h0, fun i env M hi hh => ?_, fun env M hh => ⟨?_, h2 env M hh⟩⟩
  · have hi' : i < n := hi
    refine ⟨.int ((n - 1 - i : Nat) : Int), ?_, h1 i (n - 1 - i) env M (by omega) hh⟩
    show (if i < n then some (some (Dv.int ((n : Int) - 1 + i * (-1)))) else some none) = _
    rw [if_pos hi']
    congr 3
    omega
  · show (if n < n then _ else some none) = _
    rw [if_neg (Nat.lt_irrefl n)]
end
end Zl

/-! text Y8 -/
namespace Zl
open PySem L2 PySem.Spec PyProof.Rows
section
variable {env : En} {M : Mem} {Q : QS} {q : QE} {fo fv fa : FE} {c np : Nat} {fld : Str} {F : FF} {h : Int → Int → Int}
def kFA (c : Nat) (fld : Str) (h : Int → Int → Int) (fv : FE) (env : En) (q : Mem → Prop) : QE := fun d M1 => ∃ n fs i, d = .loc n ∧ M1[n]? = some (.ins c fs) ∧ fs.lookup fld = some (.int i) ∧ Wp (fv env M1) fun y M2 => ∃ j fs2, y = .int j ∧ M2[n]? = some (.ins c fs2) ∧ fs2.length < 1000 ∧ kWr n (.ins c (putD fld (.int (h i j)) fs2)) q M2
theorem wq_fldaug (k : Wp (fo env M) (kFA c fld h fv env fun M3 => Q (.nx env) M3)) : Wp (fFldAug c fld h fo fv env M) Q :=
  wp_bnd (k.go fun d M1 ⟨n, fs, i, e, h1, h2, h3⟩ => by
    subst e
    show Wp (match M1[n]? with | some (.ins c' fs) => if c' = c then match fs.lookup fld with | some (.int i) => bnd (fv env M1) _ | _ => none else none | _ => none) _
    simp only [h1, if_true, h2]
    refine wp_bnd (h3.go fun y M2 ⟨j, fs2, e, g1, g2, g3⟩ => ?_)
    subst e
    show Wp (match M2[n]? with | some (.ins c2 fs2) => if c2 = c ∧ fs2.length < 1000 then some (Fl.nx env, M2.set n (.ins c (putD fld (.int (h i j)) fs2))) else none | _ => none) _
    simp only [g1, g2, and_self, if_true]
    exact wp_ok (g3 _ (at_set g1) (.set fun _ => rfl) (by simp)))
theorem wq_prop (k : Wp (fo env M) fun d M1 => (isIns c fld d M1 = true ∧ 1 = np) ∧ Wp (F [d] M1) q) : Wp (fProp c fld np F fo env M) q :=
  wp_bnd (k.go fun d M1 k => by
    show Wp (if _ then _ else _) _
    rw [if_pos k.1]; exact k.2)
theorem wq_rngAB {fa fb : FE} {qi : Src → Mem → Prop} (h : Wp (fa env M) fun d M1 => Wp (fb env M1) fun d2 M2 => ∃ i j : Int, d = .int i ∧ d2 = .int j ∧ -(2 ^ 62) ≤ i ∧ i < 2 ^ 62 ∧ -(2 ^ 62) ≤ j ∧ j < 2 ^ 62 ∧ qi (srcR i (j - i).toNat) M2) : Wp (fRng2 fa fb env M) qi := by
  unfold fRng2
  refine wp_bnd (h.go fun d M1 w => wp_bnd (w.go ?_))
  rintro d2 M2 ⟨i, j, rfl, rfl, h1, h2, h3, h4, h5⟩
  simp only [h1, h2, h3, h4, and_self, if_true]
  exact wp_ok h5
theorem wq_setT {xs : List Str} {M : Mem} {q : QE} (hl : xs.length < 4000) (k : kNew (.sk (dedS xs)) (fun n M2 => q (.loc n) M2) M) : Wp (setOfE [.tup (xs.map .str)] M) q := by
  refine wp_ev (a := .loc M.length) (M' := M ++ [.sk (dedS xs)]) ?_ (k _ _ rfl at_new (.app _) (by simp))
  unfold setOfE
  simp only [strsOf_map, hl, if_true]
theorem wq_lenSk {n : Nat} {xs : List Str} {M : Mem} {q : QE} (hm : M[n]? = some (.sk xs)) (k : q (.int (xs.length : Nat)) M) : Wp (lenE [.loc n] M) q := by
  refine wp_ev ?_ k
  unfold lenE
  simp only [hm]
theorem wq_sortR (k : Wp (fa env M) fun d M1 => ∃ n is, d = .loc n ∧ M1[n]? = some (.lst (List.map .int is)) ∧ downB is = true ∧ kNew (.lst (List.map .int is)) (fun m M2 => q (.loc m) M2) M1) : Wp (fSortR fa env M) q :=
  wp_bnd (k.go fun d M1 ⟨n, is, e, h1, h2, h3⟩ => by
    subst e
    have hi : ∀ is : List Int, intsOf (is.map .int) = some is := fun is => by
      induction is with
      | nil => rfl
      | cons i is ih =>
        show (match intsOf (is.map .int) with | some ys => some (i :: ys) | none => none) = _
        rw [ih]
    refine ⟨.loc M1.length, M1 ++ [.lst (List.map .int is)], ?_, h3 _ _ rfl at_new (.app _) (by simp)⟩
    simp only [h1, hi, h2, if_true])
end
def stpEM (n : Nat) : Stp := fun i M => match M[n]? with
  | some (.lst xs) => some (pairs xs i)
  | _ => none
theorem k_enumM {n : Nat} {xs : List Dv} {M : Mem} {qi : Src → Mem → Prop} (hm : M[n]? = some (.lst xs)) (h : qi ⟨xs.length, stpEM n⟩ M) : kEnum qi (.loc n) M := by
  refine ⟨⟨xs.length, stpEM n⟩, ?_, h⟩
  unfold srcE
  simp only [hm]
  rfl
theorem stpEM_at {n i : Nat} {xs : List Dv} {M : Mem} (hm : M[n]? = some (.lst xs)) : stpEM n i M = some (pairs xs i) := by
  unfold stpEM; simp only [hm]
theorem k_forEM {env : En} {M : Mem} {g : FG} {f : FS} {Q : QS} {n : Nat} {xs : List Dv} {I : Nat → En → Mem → Prop} (hm : ∀ i env M, I i env M → M[n]? = some (.lst xs)) (h0 : I 0 env M) (h1 : ∀ i d env M, xs[i]? = some d → I i env M → Wp (g (.pr [.int (i : Nat), d]) env M) fun e1 M1 => Wp (f e1 M1) (kLoop (I (i + 1)) Q)) (h2 : ∀ env M, I xs.length env M → Q (.nx env) M) : kFor I g f env Q ⟨xs.length, stpEM n⟩ M :=
  ⟨h0, fun i env M hi hh => ⟨_, by show stpEM n i M = _; rw [stpEM_at (hm i env M hh)]; unfold pairs; rw [List.getElem?_eq_getElem hi]; rfl, h1 i _ env M (List.getElem?_eq_getElem hi) hh⟩,
    fun env M hh => ⟨by show stpEM n xs.length M = _; rw [stpEM_at (hm _ env M hh)]; unfold pairs; rw [List.getElem?_eq_none (Nat.le_refl _)]; rfl, h2 env M hh⟩⟩
end Zl

/-! text B67 -/
namespace L67
open PySem L2 PySem.Spec PyProof.Rows Zl
def top (i : Nat) : Stmt := PySem.Challenge.pw_missbounds_k67_verdicts_by_all_moments.main.body.getD i (.Pass ⟨0, 0, 0, 0⟩)
def c_LETTERS : Dv := .str "abcdefghijklmnopqrstuvwxyz"
def c_LEVELS : Dv := .tup [.str "plain", .str "inclusive", .str "victim"]
def c_LONGEST : Dv := .int 6
def c_MOST_DIFFERENT : Dv := .int 8
def c_MOST_LINES : Dv := .int 4
def c_MOST_PLACES : Dv := .int 30
def c_MOST_SITUATIONS : Dv := .int 600
def c_MOST_STATES : Dv := .int 64
/-! word_of -/
abbrev s_word_of : Stmt := top 32
theorem sc_word_of : FnScope ["misses"] ["misses"] (defScope s_word_of) := ⟨rfl, rfl, rfl, by decide +kernel, rfl, by decide +kernel, by decide +kernel⟩
def b_word_of : FS := (fSeq (fIfS (fNotT (fTr (fV 0))) (fRet (fK (.str "never"))) fEnd) (fSeq (fIfS (fTr (fC allD (fCons (fV 0) fNil))) (fRet (fK (.str "miss"))) fEnd) (fRet (fIf (fTr (fC anyD (fCons (fV 0) fNil))) (fK (.str "both")) (fK (.str "hit"))))))
def m_word_of : FF := callF 1 b_word_of
/-! Moments.index_of -/
abbrev s_Moments_index_of : Stmt := inClass (top 30) 1
theorem sc_Moments_index_of : FnScope ["self", "moment"] ["self", "moment"] (defScope s_Moments_index_of) := ⟨rfl, rfl, rfl, by decide +kernel, rfl, by decide +kernel, by decide +kernel⟩
def b_Moments_index_of : FS := (fSeq (fIfS (fB (fO (inE true) (fV 1) (fFld 1 "indexes" (fV 0)))) (fSeq (fIfS (fB (fO (eqD false) (fC lenE (fCons (fFld 1 "order" (fV 0)) fNil)) (fK c_MOST_SITUATIONS))) (fNo) fEnd) (fSeq (fAsg (fC lenE (fCons (fFld 1 "order" (fV 0)) fNil)) (gSE (fFld 1 "indexes" (fV 0)) (fV 1))) (fSeq (fDrop ((fM "list" appendD (fFld 1 "order" (fV 0)) (fCons (fV 1) fNil)))) (fDrop ((fM "list" appendD (fFld 1 "sources" (fV 0)) (fCons (fC lenE (fCons (fFld 1 "nexts" (fV 0)) fNil)) fNil))))))) fEnd) (fRet (fO ixE (fFld 1 "indexes" (fV 0)) (fV 1))))
def m_Moments_index_of : FF := callF 2 b_Moments_index_of
/-! Box.moment -/
abbrev s_Box_moment : Stmt := inClass (top 15) 8
theorem sc_Box_moment : FnScope ["self", "lines", "name"] ["self"] (defScope s_Box_moment) := ⟨rfl, rfl, rfl, by decide +kernel, rfl, by decide +kernel, by decide +kernel⟩
def b_Box_moment : FS := (fRet (fTup (fCons (fC tupD (fCons (fFld 0 "stages" (fV 0)) fNil)) (fCons (fC tupD (fCons (fComp2 (fSrc (fFld 0 "rows" (fV 0))) [1, 2] (gN 1) fYes (fSrc (fV 1)) [2] (gN 2) fYes (fV 2)) fNil)) fNil))))
def m_Box_moment : FF := callF 3 b_Box_moment
/-! Box.told -/
abbrev s_Box_told : Stmt := inClass (top 15) 2
theorem sc_Box_told : FnScope ["self", "level"] ["self", "level"] (defScope s_Box_told) := ⟨rfl, rfl, rfl, by decide +kernel, rfl, by decide +kernel, by decide +kernel⟩
def b_Box_told : FS := (fRet (fO ixE (fO ixE (fO ixE (fFld 0 "policies" (fV 0)) (fV 1)) (fK (.int 1))) (fO ixE (fFld 0 "stages" (fV 0)) (fV 1))))
def m_Box_told : FF := callF 2 b_Box_told
/-! Box.touch -/
abbrev s_Box_touch : Stmt := inClass (top 15) 3
theorem sc_Box_touch : FnScope ["self", "level", "line"] ["self", "level", "line"] (defScope s_Box_touch) := ⟨rfl, rfl, rfl, by decide +kernel, rfl, by decide +kernel, by decide +kernel⟩
def b_Box_touch : FS := (fAsg (fO ixE (fO ixE (fMeth 0 "told" 2 m_Box_told (fV 0) (fCons (fV 1) fNil)) (fK (.int 2))) (fV 2)) (gSE (fFld 0 "stages" (fV 0)) (fV 1)))
def m_Box_touch : FF := callF 3 b_Box_touch
/-! Box.fill -/
abbrev s_Box_fill : Stmt := inClass (top 15) 4
theorem sc_Box_fill : FnScope ["self", "level", "name", "victim", "state", "hits", "gone"] ["self", "level", "name"] (defScope s_Box_fill) := ⟨rfl, rfl, rfl, by decide +kernel, rfl, by decide +kernel, by decide +kernel⟩
def b_Box_fill : FS := (fSeq (fAsg (fMeth 0 "told" 2 m_Box_told (fV 0) (fCons (fV 1) fNil)) (gOr (gT 3 (gsCons (gN 3) (gsCons (gN 4) (gsCons (gN 5) gsNil)))) (gL 3 (gsCons (gN 3) (gsCons (gN 4) (gsCons (gN 5) gsNil)))))) (fSeq (fSet 6 (fO ixE (fO ixE (fFld 0 "rows" (fV 0)) (fV 1)) (fV 3))) (fSeq (fAsg (fV 2) (gSE (fO ixE (fFld 0 "rows" (fV 0)) (fV 1)) (fV 3))) (fSeq (fAsg (fV 4) (gSE (fFld 0 "stages" (fV 0)) (fV 1))) (fRet (fV 6))))))
def m_Box_fill : FF := callF 7 b_Box_fill
/-! Box.go_down -/
abbrev s_Box_go_down : Stmt := inClass (top 15) 6
theorem sc_Box_go_down : FnScope ["self", "name", "gone", "upper", "lower", "line", "lost"] ["self", "name", "gone"] (defScope s_Box_go_down) := ⟨rfl, rfl, rfl, by decide +kernel, rfl, by decide +kernel, by decide +kernel⟩
def b_Box_go_down : FS := (fSeq (fAsg (fFld 0 "rows" (fV 0)) (gOr (gT 2 (gsCons (gN 3) (gsCons (gN 4) gsNil))) (gL 2 (gsCons (gN 3) (gsCons (gN 4) gsNil))))) (fIfS (fB (fO (eqD false) (fFld 0 "mode" (fV 0)) (fK (.str "victim")))) (fIfS (fB (fO (inE false) (fV 1) (fV 4))) (fSeq (fSet 5 (fOr (fM "list" indexD (fV 4) (fCons (fV 1) fNil)) (fM "tuple" tindexD (fV 4) (fCons (fV 1) fNil)))) (fSeq (fAsg (fV 2) (gSE (fV 4) (fV 5))) (fDrop (fMeth 0 "touch" 3 m_Box_touch (fV 0) (fCons (fK (.int 1)) (fCons (fV 5) fNil)))))) (fIfS (fB (fO (isE true) (fV 2) (fK .non))) (fDrop (fMeth 0 "fill" 3 m_Box_fill (fV 0) (fCons (fK (.int 1)) (fCons (fV 2) fNil)))) fEnd)) (fIfS (fB (fO (inE false) (fV 1) (fV 4))) (fDrop (fMeth 0 "touch" 3 m_Box_touch (fV 0) (fCons (fK (.int 1)) (fCons (fOr (fM "list" indexD (fV 4) (fCons (fV 1) fNil)) (fM "tuple" tindexD (fV 4) (fCons (fV 1) fNil))) fNil)))) (fSeq (fSet 6 (fMeth 0 "fill" 3 m_Box_fill (fV 0) (fCons (fK (.int 1)) (fCons (fV 1) fNil)))) (fIfS ((fAndT (fB (fO (eqD false) (fFld 0 "mode" (fV 0)) (fK (.str "inclusive")))) (fAndT (fB (fO (isE true) (fV 6) (fK .non))) (fB (fO (inE false) (fV 6) (fV 3)))))) (fAsg (fK .non) (gSE (fV 3) (fOr (fM "list" indexD (fV 3) (fCons (fV 6) fNil)) (fM "tuple" tindexD (fV 3) (fCons (fV 6) fNil))))) fEnd)))))
def m_Box_go_down : FF := callF 7 b_Box_go_down
/-! Box.holds -/
abbrev s_Box_holds : Stmt := inClass (top 15) 1
theorem sc_Box_holds : FnScope ["self", "name", "lines"] ["self", "name"] (defScope s_Box_holds) := ⟨rfl, rfl, rfl, by decide +kernel, rfl, by decide +kernel, by decide +kernel⟩
def b_Box_holds : FS := (fRet (fC anyD (fCons (fComp (fSrc (fFld 0 "rows" (fV 0))) [2] (gN 2) fYes (fO (inE false) (fV 1) (fV 2))) fNil)))
def m_Box_holds : FF := callF 3 b_Box_holds
/-! Box.ask -/
abbrev s_Box_ask : Stmt := inClass (top 15) 5
theorem sc_Box_ask : FnScope ["self", "name", "held", "gone"] ["self", "name"] (defScope s_Box_ask) := ⟨rfl, rfl, rfl, by decide +kernel, rfl, by decide +kernel, by decide +kernel⟩
def b_Box_ask : FS := (fSeq (fSet 2 (fMeth 0 "holds" 2 m_Box_holds (fV 0) (fCons (fV 1) fNil))) (fSeq (fIfS (fB (fO (inE false) (fV 1) (fO ixE (fFld 0 "rows" (fV 0)) (fK (.int 0))))) (fDrop (fMeth 0 "touch" 3 m_Box_touch (fV 0) (fCons (fK (.int 0)) (fCons (fOr (fM "list" indexD (fO ixE (fFld 0 "rows" (fV 0)) (fK (.int 0))) (fCons (fV 1) fNil)) (fM "tuple" tindexD (fO ixE (fFld 0 "rows" (fV 0)) (fK (.int 0))) (fCons (fV 1) fNil))) fNil)))) (fSeq (fSet 3 (fMeth 0 "fill" 3 m_Box_fill (fV 0) (fCons (fK (.int 0)) (fCons (fV 1) fNil)))) (fIfS (fB (fO (eqD false) (fC lenE (fCons (fFld 0 "rows" (fV 0)) fNil)) (fK (.int 2)))) (fDrop (fMeth 0 "go_down" 3 m_Box_go_down (fV 0) (fCons (fV 1) (fCons (fV 3) fNil)))) fEnd))) (fRet (fV 2))))
def m_Box_ask : FF := callF 4 b_Box_ask
/-! Box.__init__ -/
abbrev s_Box_init : Stmt := inClass (top 15) 0
theorem sc_Box_init : FnScope ["self", "device", "policy"] ["self", "device"] (defScope s_Box_init) := ⟨rfl, rfl, rfl, by decide +kernel, rfl, by decide +kernel, by decide +kernel⟩
def b_Box_init : FS := (fSeq (fPut 0 "mode" (fV 0) (fO ixE (fV 1) (fK (.int 0)))) (fSeq (fPut 0 "policies" (fV 0) (fSl (fV 1) (fP (fK (.int 1))) fNoP)) (fSeq (fPut 0 "stages" (fV 0) (fO mulD (fLst (fCons (fK (.int 0)) fNil)) (fC lenE (fCons (fFld 0 "policies" (fV 0)) fNil)))) (fPut 0 "rows" (fV 0) (fComp (fSrc (fFld 0 "policies" (fV 0))) [2] (gN 2) fYes (fO mulD (fLst (fCons (fK .non) fNil)) (fO ixE (fV 2) (fK (.int 0)))))))))
def m_Box_init : FF := callF 3 b_Box_init
/-! box_at -/
abbrev s_box_at : Stmt := top 16
theorem sc_box_at : FnScope ["device", "states", "contents", "box", "start", "level", "policy"] ["device", "states", "contents"] (defScope s_box_at) := ⟨rfl, rfl, rfl, by decide +kernel, rfl, by decide +kernel, by decide +kernel⟩
def b_box_at : FS := (fSeq (fPar [3, 4] (fCons (fMake 0 2 m_Box_init (fCons (fV 0) fNil)) (fCons (fK (.int 0)) fNil))) (fSeq (fPut 0 "stages" (fV 3) (fC lstE (fCons (fV 1) fNil))) (fSeq (fFor (fEnum (fSl (fV 0) (fP (fK (.int 1))) fNoP)) (gOr (gT 2 (gsCons (gN 5) (gsCons (gN 6) gsNil))) (gL 2 (gsCons (gN 5) (gsCons (gN 6) gsNil)))) (fSeq (fAsg (fC lstE (fCons (fSl (fV 2) (fP (fV 4)) (fP (fO addD (fV 4) (fO ixE (fV 6) (fK (.int 0)))))) fNil)) (gSE (fFld 0 "rows" (fV 3)) (fV 5))) (fAug 4 (fun i j => i + j) (fO ixE (fV 6) (fK (.int 0)))))) (fRet (fV 3)))))
def m_box_at : FF := callF 7 b_box_at
/-! Moments.__init__ -/
abbrev s_Moments_init : Stmt := inClass (top 30) 0
theorem sc_Moments_init : FnScope ["self", "device", "program", "start", "place", "states", "contents", "box", "name", "targets", "is_hit", "rows", "target"] ["self", "device", "program"] (defScope s_Moments_init) := ⟨rfl, rfl, rfl, by decide +kernel, rfl, by decide +kernel, by decide +kernel⟩
def b_Moments_init : FS := (fSeq (fSet 3 (fTup (fCons (fK (.int 0)) (fStar (fMeth 0 "moment" 1 m_Box_moment (fMake 0 2 m_Box_init (fCons (fV 1) fNil)) fNil) fNil)))) (fSeq (fPut 1 "order" (fV 0) (fLst (fCons (fV 3) fNil))) (fSeq (fPut 1 "indexes" (fV 0) (fOr (fDict1N (fV 3) (fK (.int 0))) (fDict1K (fV 3) (fK (.int 0))))) (fSeq (fPut 1 "sources" (fV 0) (fLst (fCons (fK .non) fNil))) (fSeq (fPut 1 "missed" (fV 0) (fLst fNil)) (fSeq (fPut 1 "nexts" (fV 0) (fLst fNil)) (whileF (fB (fO ltD (fC lenE (fCons (fFld 1 "nexts" (fV 0)) fNil)) (fC lenE (fCons (fFld 1 "order" (fV 0)) fNil)))) (fSeq (fAsg (fO ixE (fFld 1 "order" (fV 0)) (fC lenE (fCons (fFld 1 "nexts" (fV 0)) fNil))) (gOr (gT 3 (gsCons (gN 4) (gsCons (gN 5) (gsCons (gN 6) gsNil)))) (gL 3 (gsCons (gN 4) (gsCons (gN 5) (gsCons (gN 6) gsNil)))))) (fSeq (fSet 7 (fCall 3 m_box_at (fCons (fV 1) (fCons (fV 5) (fCons (fV 6) fNil))))) (fSeq (fAsg (fO ixE (fV 2) (fV 4)) (gOr (gT 2 (gsCons (gN 8) (gsCons (gN 9) gsNil))) (gL 2 (gsCons (gN 8) (gsCons (gN 9) gsNil))))) (fSeq (fSet 10 (fMeth 0 "ask" 2 m_Box_ask (fV 7) (fCons (fV 8) fNil))) (fSeq (fDrop ((fM "list" appendD (fFld 1 "missed" (fV 0)) (fCons (fNotV (fV 10)) fNil)))) (fSeq (fSet 11 (fLst fNil)) (fSeq (fFor (fSrc (fV 9)) (gN 12) (fDrop ((fM "list" appendD (fV 11) (fCons (fMeth 1 "index_of" 2 m_Moments_index_of (fV 0) (fCons (fTup (fCons (fV 12) (fStar (fMeth 0 "moment" 1 m_Box_moment (fV 7) fNil) fNil))) fNil)) fNil))))) (fDrop ((fM "list" appendD (fFld 1 "nexts" (fV 0)) (fCons (fV 11) fNil))))))))))) 1000000)))))))
def m_Moments_init : FF := callF 13 b_Moments_init
/-! is_integer -/
abbrev s_is_integer : Stmt := top 19
theorem sc_is_integer : FnScope ["value"] ["value"] (defScope s_is_integer) := ⟨rfl, rfl, rfl, by decide +kernel, rfl, by decide +kernel, by decide +kernel⟩
def b_is_integer : FS := (fRet ((fAndV (fC isiD (fCons (fV 0) (fCons (fK (.ty "int")) fNil))) (fNotV (fC isiD (fCons (fV 0) (fCons (fK (.ty "bool")) fNil)))))))
def m_is_integer : FF := callF 1 b_is_integer
/-! is_between -/
abbrev s_is_between : Stmt := top 20
theorem sc_is_between : FnScope ["value", "least", "greatest"] ["value", "least", "greatest"] (defScope s_is_between) := ⟨rfl, rfl, rfl, by decide +kernel, rfl, by decide +kernel, by decide +kernel⟩
def b_is_between : FS := (fRet ((fAndV (fCall 1 m_is_integer (fCons (fV 0) fNil)) (fChain leD leD (fV 1) (fV 0) (fV 2)))))
def m_is_between : FF := callF 3 b_is_between
/-! is_name -/
abbrev s_is_name : Stmt := top 14
theorem sc_is_name : FnScope ["value", "letter"] ["value"] (defScope s_is_name) := ⟨rfl, rfl, rfl, by decide +kernel, rfl, by decide +kernel, by decide +kernel⟩
def b_is_name : FS := (fSeq (fIfS ((fOrT (fNotT (fTr (fC isiD (fCons (fV 0) (fCons (fK (.ty "str")) fNil))))) (fNotT (fB (fChain leD leD (fK (.int 1)) (fC lenE (fCons (fV 0) fNil)) (fK c_LONGEST)))))) (fRet (fK (.bl false))) fEnd) (fRet (fC allD (fCons (fComp (fSrc (fV 0)) [1] (gN 1) fYes (fO (inE false) (fV 1) (fK c_LETTERS))) fNil))))
def m_is_name : FF := callF 2 b_is_name
/-! is_place -/
abbrev s_is_place : Stmt := top 27
theorem sc_is_place : FnScope ["value", "count", "targets", "target", "at"] ["value", "count"] (defScope s_is_place) := ⟨rfl, rfl, rfl, by decide +kernel, rfl, by decide +kernel, by decide +kernel⟩
def b_is_place : FS := (fSeq (fIfS ((fOrT (fNotT (fTr (fC isiD (fCons (fV 0) (fCons (fK (.ty "tuple")) fNil))))) (fOrT (fB (fO (eqD true) (fC lenE (fCons (fV 0) fNil)) (fK (.int 2)))) (fOrT (fNotT (fTr (fCall 1 m_is_name (fCons (fO ixE (fV 0) (fK (.int 0))) fNil)))) (fNotT (fTr (fC isiD (fCons (fO ixE (fV 0) (fK (.int 1))) (fCons (fK (.ty "tuple")) fNil))))))))) (fRet (fK (.bl false))) fEnd) (fSeq (fSet 2 (fO ixE (fV 0) (fK (.int 1)))) (fSeq (fIfS (fNotT (fTr (fC allD (fCons (fComp (fSrc (fV 2)) [3] (gN 3) fYes (fCall 3 m_is_between (fCons (fV 3) (fCons (fK (.int 0)) (fCons (fO subD (fV 1) (fK (.int 1))) fNil))))) fNil)))) (fRet (fK (.bl false))) fEnd) (fRet (fC allD (fCons (fComp (fRng2 (fK (.int 1)) (fC lenE (fCons (fV 2) fNil))) [4] (gN 4) fYes (fO ltD (fO ixE (fV 2) (fO subD (fV 4) (fK (.int 1)))) (fO ixE (fV 2) (fV 4)))) fNil))))))
def m_is_place : FF := callF 5 b_is_place
/-! is_program -/
abbrev s_is_program : Stmt := top 28
theorem sc_is_program : FnScope ["value", "place"] ["value"] (defScope s_is_program) := ⟨rfl, rfl, rfl, by decide +kernel, rfl, by decide +kernel, by decide +kernel⟩
def b_is_program : FS := (fSeq (fIfS ((fOrT (fNotT (fTr (fC isiD (fCons (fV 0) (fCons (fK (.ty "tuple")) fNil))))) (fNotT (fB (fChain leD leD (fK (.int 1)) (fC lenE (fCons (fV 0) fNil)) (fK c_MOST_PLACES)))))) (fRet (fK (.bl false))) fEnd) (fSeq (fIfS (fNotT (fTr (fC allD (fCons (fComp (fSrc (fV 0)) [1] (gN 1) fYes (fCall 2 m_is_place (fCons (fV 1) (fCons (fC lenE (fCons (fV 0) fNil)) fNil)))) fNil)))) (fRet (fK (.bl false))) fEnd) (fRet (fO leD (fC lenE (fCons (fCompS (fSrc (fV 0)) [1] (gN 1) fYes (fO ixE (fV 1) (fK (.int 0)))) fNil)) (fK c_MOST_DIFFERENT)))))
def m_is_program : FF := callF 2 b_is_program
/-! check_program -/
abbrev s_check_program : Stmt := top 29
theorem sc_check_program : FnScope ["program"] ["program"] (defScope s_check_program) := ⟨rfl, rfl, rfl, by decide +kernel, rfl, by decide +kernel, by decide +kernel⟩
def b_check_program : FS := (fIfS (fNotT (fTr (fCall 1 m_is_program (fCons (fV 0) fNil)))) (fNo) fEnd)
def m_check_program : FF := callF 1 b_check_program
/-! is_row -/
abbrev s_is_row : Stmt := top 21
theorem sc_is_row : FnScope ["value", "lines", "states", "state"] ["value", "lines", "states"] (defScope s_is_row) := ⟨rfl, rfl, rfl, by decide +kernel, rfl, by decide +kernel, by decide +kernel⟩
def b_is_row : FS := (fSeq (fIfS ((fOrT (fNotT (fTr (fC isiD (fCons (fV 0) (fCons (fK (.ty "tuple")) fNil))))) (fOrT (fB (fO (eqD true) (fC lenE (fCons (fV 0) fNil)) (fK (.int 3)))) (fNotT (fTr (fCall 3 m_is_between (fCons (fO ixE (fV 0) (fK (.int 0))) (fCons (fK (.int 0)) (fCons (fO subD (fV 1) (fK (.int 1))) fNil))))))))) (fRet (fK (.bl false))) fEnd) (fSeq (fIfS ((fOrT (fNotT (fTr (fCall 3 m_is_between (fCons (fO ixE (fV 0) (fK (.int 1))) (fCons (fK (.int 0)) (fCons (fO subD (fV 2) (fK (.int 1))) fNil)))))) (fOrT (fNotT (fTr (fC isiD (fCons (fO ixE (fV 0) (fK (.int 2))) (fCons (fK (.ty "tuple")) fNil))))) (fB (fO (eqD true) (fC lenE (fCons (fO ixE (fV 0) (fK (.int 2))) fNil)) (fV 1)))))) (fRet (fK (.bl false))) fEnd) (fRet (fC allD (fCons (fComp (fSrc (fO ixE (fV 0) (fK (.int 2)))) [3] (gN 3) fYes (fCall 3 m_is_between (fCons (fV 3) (fCons (fK (.int 0)) (fCons (fO subD (fV 2) (fK (.int 1))) fNil))))) fNil)))))
def m_is_row : FF := callF 4 b_is_row
/-! is_policy -/
abbrev s_is_policy : Stmt := top 22
theorem sc_is_policy : FnScope ["value", "lines", "rows", "row"] ["value"] (defScope s_is_policy) := ⟨rfl, rfl, rfl, by decide +kernel, rfl, by decide +kernel, by decide +kernel⟩
def b_is_policy : FS := (fSeq (fIfS ((fOrT (fNotT (fTr (fC isiD (fCons (fV 0) (fCons (fK (.ty "tuple")) fNil))))) (fOrT (fB (fO (eqD true) (fC lenE (fCons (fV 0) fNil)) (fK (.int 2)))) (fNotT (fTr (fCall 3 m_is_between (fCons (fO ixE (fV 0) (fK (.int 0))) (fCons (fK (.int 1)) (fCons (fK c_MOST_LINES) fNil))))))))) (fRet (fK (.bl false))) fEnd) (fSeq (fAsg (fV 0) (gOr (gT 2 (gsCons (gN 1) (gsCons (gN 2) gsNil))) (gL 2 (gsCons (gN 1) (gsCons (gN 2) gsNil))))) (fSeq (fIfS ((fOrT (fNotT (fTr (fC isiD (fCons (fV 2) (fCons (fK (.ty "tuple")) fNil))))) (fNotT (fB (fChain leD leD (fK (.int 1)) (fC lenE (fCons (fV 2) fNil)) (fK c_MOST_STATES)))))) (fRet (fK (.bl false))) fEnd) (fRet (fC allD (fCons (fComp (fSrc (fV 2)) [3] (gN 3) fYes (fCall 3 m_is_row (fCons (fV 3) (fCons (fV 1) (fCons (fC lenE (fCons (fV 2) fNil)) fNil))))) fNil))))))
def m_is_policy : FF := callF 4 b_is_policy
/-! is_device -/
abbrev s_is_device : Stmt := top 23
theorem sc_is_device : FnScope ["value", "policy"] ["value"] (defScope s_is_device) := ⟨rfl, rfl, rfl, by decide +kernel, rfl, by decide +kernel, by decide +kernel⟩
def b_is_device : FS := (fSeq (fIfS ((fOrT (fNotT (fTr (fC isiD (fCons (fV 0) (fCons (fK (.ty "tuple")) fNil))))) (fOrT (fB (fO (inE true) (fC lenE (fCons (fV 0) fNil)) (fTup (fCons (fK (.int 2)) (fCons (fK (.int 3)) fNil))))) (fNotT (fTr (fC isiD (fCons (fO ixE (fV 0) (fK (.int 0))) (fCons (fK (.ty "str")) fNil)))))))) (fRet (fK (.bl false))) fEnd) (fSeq (fIfS ((fOrT ((fAndT (fB (fO (eqD false) (fC lenE (fCons (fV 0) fNil)) (fK (.int 2)))) (fB (fO (eqD true) (fO ixE (fV 0) (fK (.int 0))) (fK (.str "cache")))))) ((fAndT (fB (fO (eqD false) (fC lenE (fCons (fV 0) fNil)) (fK (.int 3)))) (fB (fO (inE true) (fO ixE (fV 0) (fK (.int 0))) (fK c_LEVELS))))))) (fRet (fK (.bl false))) fEnd) (fRet (fC allD (fCons (fComp (fSrc (fSl (fV 0) (fP (fK (.int 1))) fNoP)) [1] (gN 1) fYes (fCall 1 m_is_policy (fCons (fV 1) fNil))) fNil)))))
def m_is_device : FF := callF 2 b_is_device
/-! check_device -/
abbrev s_check_device : Stmt := top 24
theorem sc_check_device : FnScope ["device"] ["device"] (defScope s_check_device) := ⟨rfl, rfl, rfl, by decide +kernel, rfl, by decide +kernel, by decide +kernel⟩
def b_check_device : FS := (fIfS (fNotT (fTr (fCall 1 m_is_device (fCons (fV 0) fNil)))) (fNo) fEnd)
def m_check_device : FF := callF 1 b_check_device
/-! moments_of -/
abbrev s_moments_of : Stmt := top 31
theorem sc_moments_of : FnScope ["device", "program"] ["device", "program"] (defScope s_moments_of) := ⟨rfl, rfl, rfl, by decide +kernel, rfl, by decide +kernel, by decide +kernel⟩
def b_moments_of : FS := (fSeq (fDrop (fCall 1 m_check_device (fCons (fV 0) fNil))) (fSeq (fDrop (fCall 1 m_check_program (fCons (fV 1) fNil))) (fRet (fMake 1 3 m_Moments_init (fCons (fV 0) (fCons (fV 1) fNil))))))
def m_moments_of : FF := callF 2 b_moments_of
/-! verdicts -/
abbrev s_verdicts : Stmt := top 33
theorem sc_verdicts : FnScope ["device", "program", "moments", "found", "index", "moment", "place", "misses"] ["device", "program"] (defScope s_verdicts) := ⟨rfl, rfl, rfl, by decide +kernel, rfl, by decide +kernel, by decide +kernel⟩
def b_verdicts : FS := (fSeq (fSet 2 (fCall 2 m_moments_of (fCons (fV 0) (fCons (fV 1) fNil)))) (fSeq (fSet 3 (fComp (fSrc (fV 1)) [6] (gN 6) fYes (fLst fNil))) (fSeq (fFor (fEnum (fFld 1 "order" (fV 2))) (gOr (gT 2 (gsCons (gN 4) (gsCons (gN 5) gsNil))) (gL 2 (gsCons (gN 4) (gsCons (gN 5) gsNil)))) (fDrop ((fM "list" appendD (fO ixE (fV 3) (fO ixE (fV 5) (fK (.int 0)))) (fCons (fO ixE (fFld 1 "missed" (fV 2)) (fV 4)) fNil))))) (fRet (fC tupD (fCons (fComp (fSrc (fV 3)) [7] (gN 7) fYes (fCall 1 m_word_of (fCons (fV 7) fNil))) fNil))))))
def m_verdicts : FF := callF 8 b_verdicts
/-! _law_words -/
abbrev s__law_words : Stmt := top 49
theorem sc__law_words : FnScope ["_law_rows", "_law_count", "_law_found", "_law_at", "_law_told", "_law_word", "_law_row"] ["_law_rows", "_law_count"] (defScope s__law_words) := ⟨rfl, rfl, rfl, by decide +kernel, rfl, by decide +kernel, by decide +kernel⟩
def b__law_words : FS := (fSeq (fSet 2 (fLst fNil)) (fSeq (fFor (fRng1 (fV 1)) (gN 3) (fSeq (fSet 4 (fComp (fSrc (fV 0)) [6] (gN 6) (fB (fO (eqD false) (fO ixE (fV 6) (fK (.int 0))) (fV 3))) (fO ixE (fV 6) (fK (.int 1))))) (fSeq (fSet 5 (fIf ((fAndT (fB (fO (inE false) (fK (.bl true)) (fV 4))) (fB (fO (inE false) (fK (.bl false)) (fV 4))))) (fK (.str "both")) (fIf (fB (fO (inE false) (fK (.bl true)) (fV 4))) (fK (.str "hit")) (fK (.str "miss"))))) (fDrop ((fM "list" appendD (fV 2) (fCons (fIf (fB (fO (eqD false) (fV 4) (fLst fNil))) (fK (.str "never")) (fV 5)) fNil))))))) (fRet (fC tupD (fCons (fV 2) fNil)))))
def m__law_words : FF := callF 7 b__law_words
/-! _law_go -/
abbrev s__law_go : Stmt := top 43
theorem sc__law_go : FnScope ["_law_table", "_law_box_here", "_law_at", "_law_who", "_law_row", "_law_lines", "_law_gone"] ["_law_table", "_law_box_here", "_law_at", "_law_who"] (defScope s__law_go) := ⟨rfl, rfl, rfl, by decide +kernel, rfl, by decide +kernel, by decide +kernel⟩
def b__law_go : FS := (fSeq (fPar [4, 5] (fCons (fO ixE (fO ixE (fV 0) (fK (.int 1))) (fO ixE (fO ixE (fV 1) (fK (.int 0))) (fV 2))) (fCons (fO ixE (fO ixE (fV 1) (fK (.int 1))) (fV 2)) fNil))) (fSeq (fIfS (fB (fO (inE false) (fV 3) (fV 5))) (fSeq (fAsg (fO ixE (fO ixE (fV 4) (fK (.int 2))) (fOr (fM "list" indexD (fV 5) (fCons (fV 3) fNil)) (fM "tuple" tindexD (fV 5) (fCons (fV 3) fNil)))) (gSE (fO ixE (fV 1) (fK (.int 0))) (fV 2))) (fRet (fLst (fCons (fK (.bl true)) (fCons (fK .non) fNil))))) fEnd) (fSeq (fSet 6 (fO ixE (fV 5) (fO ixE (fV 4) (fK (.int 0))))) (fSeq (fAsg (fV 3) (gSE (fV 5) (fO ixE (fV 4) (fK (.int 0))))) (fSeq (fAsg (fO ixE (fV 4) (fK (.int 1))) (gSE (fO ixE (fV 1) (fK (.int 0))) (fV 2))) (fRet (fLst (fCons (fK (.bl false)) (fCons (fV 6) fNil)))))))))
def m__law_go : FF := callF 7 b__law_go
/-! _law_ask -/
abbrev s__law_ask : Stmt := top 44
theorem sc__law_ask : FnScope ["_law_unit", "_law_box_here", "_law_who", "_law_is_held", "_law_is_hit", "_law_gone", "_law_out", "_law_line", "_law_row", "_law_lines"] ["_law_unit", "_law_box_here", "_law_who"] (defScope s__law_ask) := ⟨rfl, rfl, rfl, by decide +kernel, rfl, by decide +kernel, by decide +kernel⟩
def b__law_ask : FS := (fSeq (fSet 3 (fC anyD (fCons (fComp (fSrc (fO ixE (fV 1) (fK (.int 1)))) [9] (gN 9) fYes (fO (inE false) (fV 2) (fV 9))) fNil))) (fSeq (fAsg (fCall 4 m__law_go (fCons (fO ixE (fV 0) (fK (.int 1))) (fCons (fV 1) (fCons (fK (.int 0)) (fCons (fV 2) fNil))))) (gOr (gT 2 (gsCons (gN 4) (gsCons (gN 5) gsNil))) (gL 2 (gsCons (gN 4) (gsCons (gN 5) gsNil))))) (fSeq (fIfS ((fOrT (fTr (fV 4)) (fB (fO (eqD false) (fC lenE (fCons (fV 0) fNil)) (fK (.int 2)))))) (fRet (fV 3)) fEnd) (fSeq (fIfS (fB (fO (eqD true) (fO ixE (fV 0) (fK (.int 0))) (fK (.str "victim")))) (fSeq (fAsg (fCall 4 m__law_go (fCons (fO ixE (fV 0) (fK (.int 2))) (fCons (fV 1) (fCons (fK (.int 1)) (fCons (fV 2) fNil))))) (gOr (gT 2 (gsCons (gN 4) (gsCons (gN 6) gsNil))) (gL 2 (gsCons (gN 4) (gsCons (gN 6) gsNil))))) (fIfS ((fAndT (fB (fO (eqD false) (fO ixE (fV 0) (fK (.int 0))) (fK (.str "inclusive")))) (fAndT (fB (fO (isE true) (fV 6) (fK .non))) (fB (fO (inE false) (fV 6) (fO ixE (fO ixE (fV 1) (fK (.int 1))) (fK (.int 0)))))))) (fAsg (fK .non) (gSE (fO ixE (fO ixE (fV 1) (fK (.int 1))) (fK (.int 0))) (fOr (fM "list" indexD (fO ixE (fO ixE (fV 1) (fK (.int 1))) (fK (.int 0))) (fCons (fV 6) fNil)) (fM "tuple" tindexD (fO ixE (fO ixE (fV 1) (fK (.int 1))) (fK (.int 0))) (fCons (fV 6) fNil))))) fEnd)) (fIfS (fB (fO (inE false) (fV 2) (fO ixE (fO ixE (fV 1) (fK (.int 1))) (fK (.int 1))))) (fSeq (fPar [7, 8] (fCons (fOr (fM "list" indexD (fO ixE (fO ixE (fV 1) (fK (.int 1))) (fK (.int 1))) (fCons (fV 2) fNil)) (fM "tuple" tindexD (fO ixE (fO ixE (fV 1) (fK (.int 1))) (fK (.int 1))) (fCons (fV 2) fNil))) (fCons (fO ixE (fO ixE (fO ixE (fV 0) (fK (.int 2))) (fK (.int 1))) (fO ixE (fO ixE (fV 1) (fK (.int 0))) (fK (.int 1)))) fNil))) (fSeq (fAsg (fV 5) (gSE (fO ixE (fO ixE (fV 1) (fK (.int 1))) (fK (.int 1))) (fV 7))) (fAsg (fO ixE (fO ixE (fV 8) (fK (.int 2))) (fV 7)) (gSE (fO ixE (fV 1) (fK (.int 0))) (fK (.int 1)))))) (fIfS (fB (fO (isE true) (fV 5) (fK .non))) (fDrop (fCall 4 m__law_go (fCons (fO ixE (fV 0) (fK (.int 2))) (fCons (fV 1) (fCons (fK (.int 1)) (fCons (fV 5) fNil)))))) fEnd))) (fRet (fV 3))))))
def m__law_ask : FF := callF 10 b__law_ask
/-! _law_filled -/
abbrev s__law_filled : Stmt := top 45
theorem sc__law_filled : FnScope ["_law_device_here", "_law_states", "_law_held", "_law_levels", "_law_at", "_law_table"] ["_law_device_here", "_law_states", "_law_held"] (defScope s__law_filled) := ⟨rfl, rfl, rfl, by decide +kernel, rfl, by decide +kernel, by decide +kernel⟩
def b__law_filled : FS := (fSeq (fPar [3, 4] (fCons (fLst fNil) (fCons (fK (.int 0)) fNil))) (fSeq (fFor (fSrc (fSl (fV 0) (fP (fK (.int 1))) fNoP)) (gN 5) (fSeq (fDrop ((fM "list" appendD (fV 3) (fCons (fC lstE (fCons (fSl (fV 2) (fP (fV 4)) (fP (fO addD (fV 4) (fO ixE (fV 5) (fK (.int 0)))))) fNil)) fNil)))) (fSet 4 (fO addD (fV 4) (fO ixE (fV 5) (fK (.int 0))))))) (fRet (fLst (fCons (fC lstE (fCons (fV 1) fNil)) (fCons (fV 3) fNil))))))
def m__law_filled : FF := callF 6 b__law_filled
/-! _law_beads -/
abbrev s__law_beads : Stmt := top 46
theorem sc__law_beads : FnScope ["_law_device_here", "_law_plan_here", "_law_greatest", "_law_start", "_law_order", "_law_known", "_law_rows", "_law_place", "_law_states", "_law_held", "_law_box_here", "_law_goals", "_law_is_held", "_law_flat", "_law_lines", "_law_goal", "_law_bead", "_law_table"] ["_law_device_here", "_law_plan_here", "_law_greatest"] (defScope s__law_beads) := ⟨rfl, rfl, rfl, by decide +kernel, rfl, by decide +kernel, by decide +kernel⟩
def b__law_beads : FS := (fSeq (fSet 3 (fTup (fCons (fK (.int 0)) (fCons (fO mulD (fTup (fCons (fK (.int 0)) fNil)) (fO subD (fC lenE (fCons (fV 0) fNil)) (fK (.int 1)))) (fCons (fO mulD (fTup (fCons (fK .non) fNil)) (fC sumD (fCons (fComp (fSrc (fSl (fV 0) (fP (fK (.int 1))) fNoP)) [17] (gN 17) fYes (fO ixE (fV 17) (fK (.int 0)))) fNil))) fNil))))) (fSeq (fPar [4, 5, 6] (fCons (fLst (fCons (fV 3) fNil)) (fCons (fOr (fDict1N (fV 3) (fK (.int 0))) (fDict1K (fV 3) (fK (.int 0)))) (fCons (fLst fNil) fNil)))) (fSeq (whileF (fB (fO ltD (fC lenE (fCons (fV 6) fNil)) (fC lenE (fCons (fV 4) fNil)))) (fSeq (fAsg (fO ixE (fV 4) (fC lenE (fCons (fV 6) fNil))) (gOr (gT 3 (gsCons (gN 7) (gsCons (gN 8) (gsCons (gN 9) gsNil)))) (gL 3 (gsCons (gN 7) (gsCons (gN 8) (gsCons (gN 9) gsNil)))))) (fSeq (fPar [10, 11] (fCons (fCall 3 m__law_filled (fCons (fV 0) (fCons (fV 8) (fCons (fV 9) fNil)))) (fCons (fLst fNil) fNil))) (fSeq (fSet 12 (fCall 3 m__law_ask (fCons (fV 0) (fCons (fV 10) (fCons (fO ixE (fO ixE (fV 1) (fV 7)) (fK (.int 0))) fNil))))) (fSeq (fSet 13 (fLst fNil)) (fSeq (fFor (fSrc (fO ixE (fV 10) (fK (.int 1)))) (gN 14) (fSet 13 (fO addD (fV 13) (fV 14)))) (fSeq (fFor (fSrc (fO ixE (fO ixE (fV 1) (fV 7)) (fK (.int 1)))) (gN 15) (fSeq (fSet 16 (fTup (fCons (fV 15) (fCons (fC tupD (fCons (fO ixE (fV 10) (fK (.int 0))) fNil)) (fCons (fC tupD (fCons (fV 13) fNil)) fNil))))) (fSeq (fIfS (fB (fO (inE true) (fV 16) (fV 5))) (fSeq (fAsg (fC lenE (fCons (fV 4) fNil)) (gSE (fV 5) (fV 16))) (fDrop ((fM "list" appendD (fV 4) (fCons (fV 16) fNil))))) fEnd) (fDrop ((fM "list" appendD (fV 11) (fCons (fO ixE (fV 5) (fV 16)) fNil))))))) (fSeq (fDrop ((fM "list" appendD (fV 6) (fCons (fTup (fCons (fV 7) (fCons (fV 12) (fCons (fV 11) fNil)))) fNil)))) (fIfS (fB (fO gtD (fC lenE (fCons (fV 4) fNil)) (fV 2))) (fRet (fK .non)) fEnd)))))))) 1000000) (fRet (fV 6)))))
def m__law_beads : FF := callF 18 b__law_beads
/-! _law_draw -/
abbrev s__law_draw : Stmt := top 37
theorem sc__law_draw : FnScope ["_law_pool_here", "_law_most", "_law_state", "_law_digit"] ["_law_pool_here", "_law_most"] (defScope s__law_draw) := ⟨rfl, rfl, rfl, by decide +kernel, rfl, by decide +kernel, by decide +kernel⟩
def b__law_draw : FS := (fSeq (fAsg (fO addD (fO ixE (fV 0) (fK (.int 2))) (fK (.int 1))) (gSE (fV 0) (fK (.int 2)))) (fSeq (fSet 2 (fC intD (fCons (fO ixE (fV 0) (fK (.int 0))) fNil))) (fSeq (fAsg (fO modD (fO addD (fO mulD (fV 2) (fO addD (fO modD (fV 2) (fK (.int 50021))) (fK (.int 30011)))) (fO mulD (fK (.int 80021)) (fO ixE (fV 0) (fK (.int 2))))) (fK (.int 2147483249))) (gSE (fV 0) (fK (.int 0)))) (fSeq (fIfS (fB (fO gtD (fO ixE (fV 0) (fK (.int 1))) (fK (.int 0)))) (fSeq (fAsg (fC divmodD (fCons (fO ixE (fV 0) (fK (.int 1))) (fCons (fV 1) fNil))) (gOr (gT 2 (gsCons (gSE (fV 0) (fK (.int 1))) (gsCons (gN 3) gsNil))) (gL 2 (gsCons (gSE (fV 0) (fK (.int 1))) (gsCons (gN 3) gsNil))))) (fRet (fV 3))) fEnd) (fRet (fO modD (fO fdivD (fO ixE (fV 0) (fK (.int 0))) (fK (.int 64))) (fV 1)))))))
def m__law_draw : FF := callF 4 b__law_draw
/-! _law_plan -/
abbrev s__law_plan : Stmt := top 47
theorem sc__law_plan : FnScope ["_law_pool_here", "_law_most", "_law_many", "_law_count", "_law_found", "_law_at", "_law_goals", "_law_turn"] ["_law_pool_here", "_law_most", "_law_many"] (defScope s__law_plan) := ⟨rfl, rfl, rfl, by decide +kernel, rfl, by decide +kernel, by decide +kernel⟩
def b__law_plan : FS := (fSeq (fAsg (fTup (fCons (fO addD (fK (.int 1)) (fCall 2 m__law_draw (fCons (fV 0) (fCons (fV 1) fNil)))) (fCons (fLst fNil) fNil))) (gOr (gT 2 (gsCons (gN 3) (gsCons (gN 4) gsNil))) (gL 2 (gsCons (gN 3) (gsCons (gN 4) gsNil))))) (fSeq (fFor (fRng1 (fV 3)) (gN 5) (fSeq (fSet 6 (fComp (fRng1 (fO ixE (fLst (fCons (fK (.int 1)) (fCons (fK (.int 2)) (fCons (fK (.int 1)) (fCons (fK (.int 2)) (fCons (fK (.int 3)) (fCons (fK (.int 0)) fNil))))))) (fCall 2 m__law_draw (fCons (fV 0) (fCons (fK (.int 6)) fNil))))) [7] (gN 7) fYes (fCall 2 m__law_draw (fCons (fV 0) (fCons (fV 3) fNil))))) (fDrop ((fM "list" appendD (fV 4) (fCons (fTup (fCons (fO ixE (fK (.str "abcdefgh")) (fCall 2 m__law_draw (fCons (fV 0) (fCons (fV 2) fNil)))) (fCons (fC tupD (fCons (fSortSet (fV 6)) fNil)) fNil))) fNil)))))) (fRet (fC tupD (fCons (fV 4) fNil)))))
def m__law_plan : FF := callF 8 b__law_plan
/-! _law_policy -/
abbrev s__law_policy : Stmt := top 38
theorem sc__law_policy : FnScope ["_law_pool_here", "_law_lines", "_law_states", "_law_rows", "_law_turn", "_law_hits", "_law_line"] ["_law_pool_here", "_law_lines", "_law_states"] (defScope s__law_policy) := ⟨rfl, rfl, rfl, by decide +kernel, rfl, by decide +kernel, by decide +kernel⟩
def b__law_policy : FS := (fSeq (fSet 3 (fLst fNil)) (fSeq (fFor (fRng1 (fV 2)) (gN 4) (fSeq (fSet 5 (fC tupD (fCons (fComp (fRng1 (fV 1)) [6] (gN 6) fYes (fCall 2 m__law_draw (fCons (fV 0) (fCons (fV 2) fNil)))) fNil))) (fDrop ((fM "list" appendD (fV 3) (fCons (fTup (fCons (fCall 2 m__law_draw (fCons (fV 0) (fCons (fV 1) fNil))) (fCons (fCall 2 m__law_draw (fCons (fV 0) (fCons (fV 2) fNil))) (fCons (fV 5) fNil)))) fNil)))))) (fRet (fTup (fCons (fV 1) (fCons (fC tupD (fCons (fV 3) fNil)) fNil))))))
def m__law_policy : FF := callF 7 b__law_policy
/-! _law_queue -/
abbrev s__law_queue : Stmt := top 40
theorem sc__law_queue : FnScope ["_law_lines", "_law_at"] ["_law_lines"] (defScope s__law_queue) := ⟨rfl, rfl, rfl, by decide +kernel, rfl, by decide +kernel, by decide +kernel⟩
def b__law_queue : FS := (fRet (fTup (fCons (fV 0) (fCons (fC tupD (fCons (fComp (fRng1 (fV 0)) [1] (gN 1) fYes (fTup (fCons (fV 1) (fCons (fO modD (fO addD (fV 1) (fK (.int 1))) (fV 0)) (fCons (fO mulD (fTup (fCons (fV 1) fNil)) (fV 0)) fNil))))) fNil)) fNil))))
def m__law_queue : FF := callF 2 b__law_queue
/-! _law_recent -/
abbrev s__law_recent : Stmt := top 39
theorem sc__law_recent : FnScope ["_law_lines", "_law_orders", "_law_rows", "_law_at", "_law_here", "_law_goals", "_law_line", "_law_spot", "_law_goal"] ["_law_lines"] (defScope s__law_recent) := ⟨rfl, rfl, rfl, by decide +kernel, rfl, by decide +kernel, by decide +kernel⟩
def b__law_recent : FS := (fSeq (fAsg (fTup (fCons (fLst (fCons (fTupR (fRg1 (fV 0))) fNil)) (fCons (fLst fNil) (fCons (fK (.int 0)) fNil)))) (gOr (gT 3 (gsCons (gN 1) (gsCons (gN 2) (gsCons (gN 3) gsNil)))) (gL 3 (gsCons (gN 1) (gsCons (gN 2) (gsCons (gN 3) gsNil)))))) (fSeq (whileF (fB (fO ltD (fV 3) (fC lenE (fCons (fV 1) fNil)))) (fSeq (fSet 4 (fO ixE (fV 1) (fV 3))) (fSeq (fSet 5 (fComp (fRng1 (fV 0)) [6] (gN 6) fYes (fO addD (fC tupD (fCons (fComp (fSrc (fV 4)) [7] (gN 7) (fB (fO (eqD true) (fV 7) (fV 6))) (fV 7)) fNil)) (fTup (fCons (fV 6) fNil))))) (fSeq (fDrop ((fM "list" extendD (fV 1) (fCons (fComp (fSrc (fV 5)) [8] (gN 8) (fB (fO (inE true) (fV 8) (fV 1))) (fV 8)) fNil)))) (fSeq (fDrop ((fM "list" appendD (fV 2) (fCons (fTup (fCons (fO ixE (fV 4) (fK (.int 0))) (fCons (fOr (fM "list" indexD (fV 1) (fCons (fO ixE (fV 5) (fO ixE (fV 4) (fK (.int 0)))) fNil)) (fM "tuple" tindexD (fV 1) (fCons (fO ixE (fV 5) (fO ixE (fV 4) (fK (.int 0)))) fNil))) (fCons (fC tupD (fCons (fComp (fSrc (fV 5)) [8] (gN 8) fYes (fOr (fM "list" indexD (fV 1) (fCons (fV 8) fNil)) (fM "tuple" tindexD (fV 1) (fCons (fV 8) fNil)))) fNil)) fNil)))) fNil)))) (fSet 3 (fO addD (fV 3) (fK (.int 1)))))))) 1000000) (fRet (fTup (fCons (fV 0) (fCons (fC tupD (fCons (fV 2) fNil)) fNil))))))
def m__law_recent : FF := callF 9 b__law_recent
/-! _law_device -/
abbrev s__law_device : Stmt := top 41
theorem sc__law_device : FnScope ["_law_pool_here", "_law_most", "_law_states", "_law_way", "_law_found", "_law_turn", "_law_lines", "_law_some", "_law_table"] ["_law_pool_here", "_law_most", "_law_states"] (defScope s__law_device) := ⟨rfl, rfl, rfl, by decide +kernel, rfl, by decide +kernel, by decide +kernel⟩
def b__law_device : FS := (fSeq (fPar [3, 4] (fCons (fCall 2 m__law_draw (fCons (fV 0) (fCons (fK (.int 6)) fNil))) (fCons (fLst fNil) fNil))) (fSeq (fFor (fRng1 (fK (.int 2))) (gN 5) (fSeq (fSet 6 (fO addD (fK (.int 1)) (fCall 2 m__law_draw (fCons (fV 0) (fCons (fV 1) fNil))))) (fSeq (fSet 7 (fLst (fCons (fCall 1 m__law_recent (fCons (fV 6) fNil)) (fCons (fCall 1 m__law_queue (fCons (fV 6) fNil)) fNil)))) (fSeq (fSet 8 (fCall 3 m__law_policy (fCons (fV 0) (fCons (fV 6) (fCons (fO addD (fK (.int 1)) (fCall 2 m__law_draw (fCons (fV 0) (fCons (fV 2) fNil)))) fNil))))) (fDrop ((fM "list" appendD (fV 4) (fCons (fO ixE (fO addD (fV 7) (fO mulD (fLst (fCons (fV 8) fNil)) (fK (.int 4)))) (fCall 2 m__law_draw (fCons (fV 0) (fCons (fK (.int 6)) fNil)))) fNil)))))))) (fSeq (fIfS (fB (fO ltD (fV 3) (fK (.int 3)))) (fRet (fTup (fCons (fK (.str "cache")) (fCons (fO ixE (fV 4) (fK (.int 0))) fNil)))) fEnd) (fRet (fTup (fCons (fO ixE (fLst (fCons (fK (.str "plain")) (fCons (fK (.str "inclusive")) (fCons (fK (.str "victim")) fNil)))) (fO subD (fV 3) (fK (.int 3)))) (fCons (fO ixE (fV 4) (fK (.int 0))) (fCons (fO ixE (fV 4) (fK (.int 1))) fNil))))))))
def m__law_device : FF := callF 9 b__law_device
/-! _law_kit -/
abbrev s__law_kit : Stmt := top 48
theorem sc__law_kit : FnScope ["_law_pool_here"] ["_law_pool_here"] (defScope s__law_kit) := ⟨rfl, rfl, rfl, by decide +kernel, rfl, by decide +kernel, by decide +kernel⟩
def b__law_kit : FS := (fSeq (fIfS (fB (fO gtD (fCall 2 m__law_draw (fCons (fV 0) (fCons (fK (.int 4)) fNil))) (fK (.int 0)))) (fRet (fCall 3 m__law_device (fCons (fV 0) (fCons (fK (.int 2)) (fCons (fK (.int 3)) fNil))))) fEnd) (fRet (fTup (fCons (fK (.str "cache")) (fCons (fO ixE (fLst (fCons (fCall 1 m__law_recent (fCons (fK (.int 3)) fNil)) (fCons (fCall 1 m__law_queue (fCons (fK (.int 4)) fNil)) (fCons (fCall 3 m__law_policy (fCons (fV 0) (fCons (fK (.int 3)) (fCons (fK (.int 4)) fNil)))) fNil)))) (fCall 2 m__law_draw (fCons (fV 0) (fCons (fK (.int 3)) fNil)))) fNil)))))
def m__law_kit : FF := callF 1 b__law_kit
/-! _law_right -/
abbrev s__law_right : Stmt := top 50
theorem sc__law_right : FnScope ["_law_pool_here", "_law_turn", "_law_device_here", "_law_plan_here", "_law_rows", "_law_due"] ["_law_pool_here"] (defScope s__law_right) := ⟨rfl, rfl, rfl, by decide +kernel, rfl, by decide +kernel, by decide +kernel⟩
def b__law_right : FS := (fSeq (fFor (fRng1 (fK (.int 3))) (gN 1) (fSeq (fPar [2, 3] (fCons (fCall 1 m__law_kit (fCons (fV 0) fNil)) (fCons (fCall 3 m__law_plan (fCons (fV 0) (fCons (fK (.int 9)) (fCons (fO addD (fK (.int 1)) (fCall 2 m__law_draw (fCons (fV 0) (fCons (fK (.int 6)) fNil)))) fNil)))) fNil))) (fSeq (fSet 4 (fCall 3 m__law_beads (fCons (fV 2) (fCons (fV 3) (fCons (fK (.int 250)) fNil))))) (fIfS (fB (fO (isE true) (fV 4) (fK .non))) (fSeq (fSet 5 (fCall 2 m__law_words (fCons (fV 4) (fCons (fC lenE (fCons (fV 3) fNil)) fNil)))) (fIfS (fB (fO (eqD true) (fC reprE (fCons (fCall 2 m_verdicts (fCons (fV 2) (fCons (fV 3) fNil))) fNil)) (fC reprE (fCons (fV 5) fNil)))) (fRet (fK (.bl false))) fEnd)) fEnd)))) (fRet (fK (.bl true))))
def m__law_right : FF := callF 6 b__law_right
/-! _law_pool -/
abbrev s__law_pool : Stmt := top 36
theorem sc__law_pool : FnScope ["_law_figure", "_law_digits"] ["_law_figure"] (defScope s__law_pool) := ⟨rfl, rfl, rfl, by decide +kernel, rfl, by decide +kernel, by decide +kernel⟩
def b__law_pool : FS := (fSeq (fSet 1 (fIf ((fOrT (fB (fO ltD (fV 0) (fK (.int 0)))) (fB (fO geD (fV 0) (fO powD (fK (.int 10)) (fK (.int 18))))))) (fC absD (fCons (fV 0) fNil)) (fK (.int 0)))) (fRet (fLst (fCons (fO modD (fC intD (fCons (fV 0) fNil)) (fK (.int 2147483249))) (fCons (fV 1) (fCons (fK (.int 0)) fNil))))))
def m__law_pool : FF := callF 2 b__law_pool
/-! _law_cell -/
abbrev s__law_cell : Stmt := top 35
theorem sc__law_cell : FnScope ["_law_script", "_law_k", "_law_state", "_law_figure"] ["_law_script", "_law_k"] (defScope s__law_cell) := ⟨rfl, rfl, rfl, by decide +kernel, rfl, by decide +kernel, by decide +kernel⟩
def b__law_cell : FS := (fSeq (fIfS (fB (fO ltD (fV 1) (fC lenE (fCons (fV 0) fNil)))) (fRet (fC intD (fCons (fO ixE (fV 0) (fV 1)) fNil))) fEnd) (fSeq (fSet 2 (fO modD (fO mulD (fK (.int 60013)) (fO addD (fO addD (fO mulD (fV 1) (fV 1)) (fO mulD (fK (.int 5)) (fV 1))) (fK (.int 3)))) (fK (.int 2147483249)))) (fSeq (fFor (fSrc (fSl (fV 0) fNoP (fP (fK (.int 3))))) (gN 3) (fSet 2 (fO modD (fO addD (fO mulD (fV 2) (fK (.int 41221))) (fC intD (fCons (fV 3) fNil))) (fK (.int 2147483249))))) (fRet (fV 2)))))
def m__law_cell : FF := callF 4 b__law_cell
/-! _law_by_hand -/
abbrev s__law_by_hand : Stmt := top 53
theorem sc__law_by_hand : FnScope ["_law_single", "_law_one", "_law_two", "_law_some", "_law_chain", "_law_way", "_law_word", "_law_rig", "_law_plan_here", "_law_due"] [] (defScope s__law_by_hand) := ⟨rfl, rfl, rfl, by decide +kernel, rfl, by decide +kernel, by decide +kernel⟩
def b__law_by_hand : FS := (fSeq (fSet 0 (fTup (fCons (fK (.int 1)) (fCons (fTup (fCons (fTup (fCons (fK (.int 0)) (fCons (fK (.int 0)) (fCons (fTup (fCons (fK (.int 0)) fNil)) fNil)))) fNil)) fNil)))) (fSeq (fPar [1, 2] (fCons (fTup (fCons (fK (.str "cache")) (fCons (fV 0) fNil))) (fCons (fTup (fCons (fK (.str "cache")) (fCons (fCall 1 m__law_recent (fCons (fK (.int 2)) fNil)) fNil))) fNil))) (fSeq (fSet 3 (fLst (fCons (fTup (fCons (fV 1) (fCons (fTup (fCons (fTup (fCons (fK (.str "a")) (fCons (fTup fNil) fNil))) fNil)) (fCons (fTup (fCons (fK (.str "miss")) fNil)) fNil)))) (fCons (fTup (fCons (fV 1) (fCons (fTup (fCons (fTup (fCons (fK (.str "a")) (fCons (fTup (fCons (fK (.int 0)) fNil)) fNil))) fNil)) (fCons (fTup (fCons (fK (.str "both")) fNil)) fNil)))) fNil)))) (fSeq (fSet 3 (fO addD (fV 3) (fLst (fCons (fTup (fCons (fV 1) (fCons (fTup (fCons (fTup (fCons (fK (.str "a")) (fCons (fTup (fCons (fK (.int 1)) fNil)) fNil))) (fCons (fTup (fCons (fK (.str "a")) (fCons (fTup fNil) fNil))) (fCons (fTup (fCons (fK (.str "a")) (fCons (fTup (fCons (fK (.int 0)) fNil)) fNil))) fNil)))) (fCons (fTup (fCons (fK (.str "miss")) (fCons (fK (.str "hit")) (fCons (fK (.str "never")) fNil)))) fNil)))) fNil)))) (fSeq (fSet 3 (fO addD (fV 3) (fLst (fCons (fTup (fCons (fV 2) (fCons (fTup (fCons (fTup (fCons (fK (.str "a")) (fCons (fTup (fCons (fK (.int 1)) (fCons (fK (.int 2)) fNil))) fNil))) (fCons (fTup (fCons (fK (.str "b")) (fCons (fTup (fCons (fK (.int 2)) fNil)) fNil))) (fCons (fTup (fCons (fK (.str "b")) (fCons (fTup fNil) fNil))) fNil)))) (fCons (fTup (fCons (fK (.str "miss")) (fCons (fK (.str "miss")) (fCons (fK (.str "both")) fNil)))) fNil)))) fNil)))) (fSeq (fSet 3 (fO addD (fV 3) (fLst (fCons (fTup (fCons (fV 2) (fCons (fTup (fCons (fTup (fCons (fK (.str "a")) (fCons (fTup (fCons (fK (.int 1)) fNil)) fNil))) (fCons (fTup (fCons (fK (.str "b")) (fCons (fTup (fCons (fK (.int 0)) (fCons (fK (.int 2)) fNil))) fNil))) (fCons (fTup (fCons (fK (.str "c")) (fCons (fTup (fCons (fK (.int 0)) fNil)) fNil))) fNil)))) (fCons (fTup (fCons (fK (.str "both")) (fCons (fK (.str "both")) (fCons (fK (.str "miss")) fNil)))) fNil)))) fNil)))) (fSeq (fSet 3 (fO addD (fV 3) (fLst (fCons (fTup (fCons (fV 2) (fCons (fTup (fCons (fTup (fCons (fK (.str "a")) (fCons (fTup (fCons (fK (.int 1)) fNil)) fNil))) (fCons (fTup (fCons (fK (.str "b")) (fCons (fTup (fCons (fK (.int 1)) (fCons (fK (.int 2)) fNil))) fNil))) (fCons (fTup (fCons (fK (.str "a")) (fCons (fTup (fCons (fK (.int 1)) fNil)) fNil))) fNil)))) (fCons (fTup (fCons (fK (.str "miss")) (fCons (fK (.str "both")) (fCons (fK (.str "hit")) fNil)))) fNil)))) fNil)))) (fSeq (fSet 3 (fO addD (fV 3) (fLst (fCons (fTup (fCons (fV 2) (fCons (fTup (fCons (fTup (fCons (fK (.str "a")) (fCons (fTup (fCons (fK (.int 1)) (fCons (fK (.int 2)) fNil))) fNil))) (fCons (fTup (fCons (fK (.str "a")) (fCons (fTup fNil) fNil))) (fCons (fTup (fCons (fK (.str "b")) (fCons (fTup (fCons (fK (.int 3)) fNil)) fNil))) (fCons (fTup (fCons (fK (.str "c")) (fCons (fTup (fCons (fK (.int 1)) fNil)) fNil))) fNil))))) (fCons (fTup (fCons (fK (.str "miss")) (fCons (fK (.str "both")) (fCons (fK (.str "miss")) (fCons (fK (.str "miss")) fNil))))) fNil)))) fNil)))) (fSeq (fSet 3 (fO addD (fV 3) (fLst (fCons (fTup (fCons (fV 2) (fCons (fTup (fCons (fTup (fCons (fK (.str "a")) (fCons (fTup (fCons (fK (.int 1)) (fCons (fK (.int 2)) (fCons (fK (.int 3)) fNil)))) fNil))) (fCons (fTup (fCons (fK (.str "b")) (fCons (fTup fNil) fNil))) (fCons (fTup (fCons (fK (.str "a")) (fCons (fTup fNil) fNil))) (fCons (fTup (fCons (fK (.str "c")) (fCons (fTup fNil) fNil))) fNil))))) (fCons (fTup (fCons (fK (.str "miss")) (fCons (fK (.str "miss")) (fCons (fK (.str "hit")) (fCons (fK (.str "miss")) fNil))))) fNil)))) fNil)))) (fSeq (fSet 4 (fTup (fCons (fTup (fCons (fK (.str "a")) (fCons (fTup (fCons (fK (.int 1)) fNil)) fNil))) (fCons (fTup (fCons (fK (.str "b")) (fCons (fTup (fCons (fK (.int 2)) fNil)) fNil))) (fCons (fTup (fCons (fK (.str "a")) (fCons (fTup (fCons (fK (.int 1)) fNil)) fNil))) fNil))))) (fSeq (fSet 3 (fO addD (fV 3) (fLst (fCons (fTup (fCons (fTup (fCons (fK (.str "victim")) (fCons (fV 0) (fCons (fV 0) fNil)))) (fCons (fV 4) (fCons (fTup (fCons (fK (.str "miss")) (fCons (fK (.str "both")) (fCons (fK (.str "hit")) fNil)))) fNil)))) fNil)))) (fSeq (fSet 3 (fO addD (fV 3) (fComp (fSrc (fLst (fCons (fK (.str "plain")) (fCons (fK (.str "inclusive")) fNil)))) [6] (gN 6) fYes (fTup (fCons (fTup (fCons (fV 6) (fCons (fV 0) (fCons (fV 0) fNil)))) (fCons (fV 4) (fCons (fO mulD (fTup (fCons (fK (.str "miss")) fNil)) (fK (.int 3))) fNil))))))) (fSeq (fSet 3 (fO addD (fV 3) (fLst (fCons (fTup (fCons (fTup (fCons (fK (.str "plain")) (fCons (fV 0) (fCons (fCall 1 m__law_recent (fCons (fK (.int 2)) fNil)) fNil)))) (fCons (fV 4) (fCons (fTup (fCons (fK (.str "miss")) (fCons (fK (.str "both")) (fCons (fK (.str "hit")) fNil)))) fNil)))) fNil)))) (fSeq (fSet 5 (fTup (fCons (fTup (fCons (fK (.str "a")) (fCons (fTup (fCons (fK (.int 1)) fNil)) fNil))) (fCons (fTup (fCons (fK (.str "b")) (fCons (fTup (fCons (fK (.int 2)) fNil)) fNil))) (fCons (fTup (fCons (fK (.str "a")) (fCons (fTup (fCons (fK (.int 3)) fNil)) fNil))) (fCons (fTup (fCons (fK (.str "c")) (fCons (fTup (fCons (fK (.int 4)) fNil)) fNil))) (fCons (fTup (fCons (fK (.str "a")) (fCons (fTup fNil) fNil))) fNil))))))) (fSeq (fSet 3 (fO addD (fV 3) (fLst (fCons (fTup (fCons (fTup (fCons (fK (.str "inclusive")) (fCons (fCall 1 m__law_recent (fCons (fK (.int 2)) fNil)) (fCons (fCall 1 m__law_queue (fCons (fK (.int 2)) fNil)) fNil)))) (fCons (fV 5) (fCons (fTup (fCons (fK (.str "miss")) (fCons (fK (.str "miss")) (fCons (fK (.str "hit")) (fCons (fK (.str "miss")) (fCons (fK (.str "miss")) fNil)))))) fNil)))) fNil)))) (fSeq (fSet 3 (fO addD (fV 3) (fLst (fCons (fTup (fCons (fTup (fCons (fK (.str "plain")) (fCons (fCall 1 m__law_recent (fCons (fK (.int 2)) fNil)) (fCons (fCall 1 m__law_queue (fCons (fK (.int 2)) fNil)) fNil)))) (fCons (fV 5) (fCons (fTup (fCons (fK (.str "miss")) (fCons (fK (.str "miss")) (fCons (fK (.str "hit")) (fCons (fK (.str "miss")) (fCons (fK (.str "hit")) fNil)))))) fNil)))) fNil)))) (fRet (fC allD (fCons (fComp (fSrc (fV 3)) [7, 8, 9] (gOr (gT 3 (gsCons (gN 7) (gsCons (gN 8) (gsCons (gN 9) gsNil)))) (gL 3 (gsCons (gN 7) (gsCons (gN 8) (gsCons (gN 9) gsNil))))) fYes (fO (eqD false) (fC reprE (fCons (fCall 2 m_verdicts (fCons (fV 7) (fCons (fV 8) fNil))) fNil)) (fC reprE (fCons (fV 9) fNil)))) fNil)))))))))))))))))))
def m__law_by_hand : FF := callF 10 b__law_by_hand
/-! _law_wide -/
abbrev s__law_wide : Stmt := top 51
theorem sc__law_wide : FnScope ["_law_found", "_law_at", "_law_goals"] [] (defScope s__law_wide) := ⟨rfl, rfl, rfl, by decide +kernel, rfl, by decide +kernel, by decide +kernel⟩
def b__law_wide : FS := (fSeq (fSet 0 (fLst fNil)) (fSeq (fFor (fRng1 (fK (.int 30))) (gN 1) (fSeq (fSet 2 (fSortSet (fLst (fCons (fO modD (fO addD (fV 1) (fK (.int 1))) (fK (.int 30))) (fCons (fO modD (fO mulD (fK (.int 7)) (fV 1)) (fK (.int 30))) (fCons (fO modD (fO addD (fO mulD (fK (.int 11)) (fV 1)) (fK (.int 4))) (fK (.int 30))) fNil)))))) (fDrop ((fM "list" appendD (fV 0) (fCons (fTup (fCons (fO ixE (fK (.str "abcdefgh")) (fO modD (fO addD (fO mulD (fK (.int 3)) (fV 1)) (fO fdivD (fV 1) (fK (.int 7)))) (fK (.int 8)))) (fCons (fC tupD (fCons (fV 2) fNil)) fNil))) fNil)))))) (fRet (fC tupD (fCons (fV 0) fNil)))))
def m__law_wide : FF := callF 3 b__law_wide
/-! _law_wide_right -/
abbrev s__law_wide_right : Stmt := top 52
theorem sc__law_wide_right : FnScope ["_law_single", "_law_unit", "_law_rows", "_law_due"] [] (defScope s__law_wide_right) := ⟨rfl, rfl, rfl, by decide +kernel, rfl, by decide +kernel, by decide +kernel⟩
def b__law_wide_right : FS := (fSeq (fSet 0 (fTup (fCons (fK (.int 1)) (fCons (fTup (fCons (fTup (fCons (fK (.int 0)) (fCons (fK (.int 0)) (fCons (fTup (fCons (fK (.int 0)) fNil)) fNil)))) fNil)) fNil)))) (fSeq (fFor (fSrc (fLst (fCons (fTup (fCons (fK (.str "cache")) (fCons (fV 0) fNil))) (fCons (fTup (fCons (fK (.str "cache")) (fCons (fCall 1 m__law_recent (fCons (fK (.int 2)) fNil)) fNil))) (fCons (fTup (fCons (fK (.str "victim")) (fCons (fV 0) (fCons (fV 0) fNil)))) (fCons (fTup (fCons (fK (.str "cache")) (fCons (fCall 1 m__law_queue (fCons (fK (.int 3)) fNil)) fNil))) fNil)))))) (gN 1) (fSeq (fSet 2 (fCall 3 m__law_beads (fCons (fV 1) (fCons (fCall 0 m__law_wide fNil) (fCons (fK (.int 600)) fNil))))) (fIfS (fB (fO (isE true) (fV 2) (fK .non))) (fSeq (fSet 3 (fCall 2 m__law_words (fCons (fV 2) (fCons (fK (.int 30)) fNil)))) (fIfS (fB (fO (eqD true) (fC reprE (fCons (fCall 2 m_verdicts (fCons (fV 1) (fCons (fCall 0 m__law_wide fNil) fNil))) fNil)) (fC reprE (fCons (fV 3) fNil)))) (fRet (fK (.bl false))) fEnd)) fEnd))) (fRet (fK (.bl true)))))
def m__law_wide_right : FF := callF 4 b__law_wide_right
/-! law -/
abbrev s_law : Stmt := top 54
theorem sc_law : FnScope ["_law_script", "_law_k"] ["_law_script"] (defScope s_law) := ⟨rfl, rfl, rfl, by decide +kernel, rfl, by decide +kernel, by decide +kernel⟩
def b_law : FS := (fSeq (fIfS ((fOrT (fNotT (fTr (fCall 0 m__law_by_hand fNil))) (fNotT (fTr (fCall 0 m__law_wide_right fNil))))) (fRet (fK (.bl false))) fEnd) (fRet (fC allD (fCons (fComp (fRng1 (fC maxD (fCons (fK (.int 2)) (fCons (fC minD (fCons (fC lenE (fCons (fV 0) fNil)) (fCons (fK (.int 6)) fNil))) fNil)))) [1] (gN 1) fYes (fCall 1 m__law_right (fCons (fCall 1 m__law_pool (fCons (fCall 2 m__law_cell (fCons (fV 0) (fCons (fV 1) fNil))) fNil)) fNil))) fNil))))
def m_law : FF := callF 2 b_law
structure Top (K : Frg) (mg : Str → Option Value) where
  C_Box : Addr
  C_Moments : Addr
  f_word_of : Addr
  d_word_of : FuncData
  F_word_of : Fun K "word_of" "word_of" s_word_of f_word_of d_word_of
  b_word_of : Binds K d_word_of ["misses"] []
  m_word_of : mg "word_of" = some (.ref f_word_of)
  f_Moments_index_of : Addr
  d_Moments_index_of : FuncData
  F_Moments_index_of : Fun K "index_of" "Moments.index_of" s_Moments_index_of f_Moments_index_of d_Moments_index_of
  b_Moments_index_of : Binds K d_Moments_index_of ["self", "moment"] []
  me_Moments_index_of : Meth K C_Moments "index_of" f_Moments_index_of
  f_Box_moment : Addr
  d_Box_moment : FuncData
  F_Box_moment : Fun K "moment" "Box.moment" s_Box_moment f_Box_moment d_Box_moment
  b_Box_moment : Binds K d_Box_moment ["self"] []
  me_Box_moment : Meth K C_Box "moment" f_Box_moment
  f_Box_told : Addr
  d_Box_told : FuncData
  F_Box_told : Fun K "told" "Box.told" s_Box_told f_Box_told d_Box_told
  b_Box_told : Binds K d_Box_told ["self", "level"] []
  me_Box_told : Meth K C_Box "told" f_Box_told
  f_Box_touch : Addr
  d_Box_touch : FuncData
  F_Box_touch : Fun K "touch" "Box.touch" s_Box_touch f_Box_touch d_Box_touch
  b_Box_touch : Binds K d_Box_touch ["self", "level", "line"] []
  me_Box_touch : Meth K C_Box "touch" f_Box_touch
  f_Box_fill : Addr
  d_Box_fill : FuncData
  F_Box_fill : Fun K "fill" "Box.fill" s_Box_fill f_Box_fill d_Box_fill
  b_Box_fill : Binds K d_Box_fill ["self", "level", "name"] []
  me_Box_fill : Meth K C_Box "fill" f_Box_fill
  f_Box_go_down : Addr
  d_Box_go_down : FuncData
  F_Box_go_down : Fun K "go_down" "Box.go_down" s_Box_go_down f_Box_go_down d_Box_go_down
  b_Box_go_down : Binds K d_Box_go_down ["self", "name", "gone"] []
  me_Box_go_down : Meth K C_Box "go_down" f_Box_go_down
  f_Box_holds : Addr
  d_Box_holds : FuncData
  F_Box_holds : Fun K "holds" "Box.holds" s_Box_holds f_Box_holds d_Box_holds
  b_Box_holds : Binds K d_Box_holds ["self", "name"] []
  me_Box_holds : Meth K C_Box "holds" f_Box_holds
  f_Box_ask : Addr
  d_Box_ask : FuncData
  F_Box_ask : Fun K "ask" "Box.ask" s_Box_ask f_Box_ask d_Box_ask
  b_Box_ask : Binds K d_Box_ask ["self", "name"] []
  me_Box_ask : Meth K C_Box "ask" f_Box_ask
  f_Box_init : Addr
  d_Box_init : FuncData
  F_Box_init : Fun K "__init__" "Box.__init__" s_Box_init f_Box_init d_Box_init
  b_Box_init : Binds K d_Box_init ["self", "device"] []
  mk_Box : Mk K C_Box f_Box_init
  f_box_at : Addr
  d_box_at : FuncData
  F_box_at : Fun K "box_at" "box_at" s_box_at f_box_at d_box_at
  b_box_at : Binds K d_box_at ["device", "states", "contents"] []
  m_box_at : mg "box_at" = some (.ref f_box_at)
  f_Moments_init : Addr
  d_Moments_init : FuncData
  F_Moments_init : Fun K "__init__" "Moments.__init__" s_Moments_init f_Moments_init d_Moments_init
  b_Moments_init : Binds K d_Moments_init ["self", "device", "program"] []
  mk_Moments : Mk K C_Moments f_Moments_init
  f_is_integer : Addr
  d_is_integer : FuncData
  F_is_integer : Fun K "is_integer" "is_integer" s_is_integer f_is_integer d_is_integer
  b_is_integer : Binds K d_is_integer ["value"] []
  m_is_integer : mg "is_integer" = some (.ref f_is_integer)
  f_is_between : Addr
  d_is_between : FuncData
  F_is_between : Fun K "is_between" "is_between" s_is_between f_is_between d_is_between
  b_is_between : Binds K d_is_between ["value", "least", "greatest"] []
  m_is_between : mg "is_between" = some (.ref f_is_between)
  f_is_name : Addr
  d_is_name : FuncData
  F_is_name : Fun K "is_name" "is_name" s_is_name f_is_name d_is_name
  b_is_name : Binds K d_is_name ["value"] []
  m_is_name : mg "is_name" = some (.ref f_is_name)
  f_is_place : Addr
  d_is_place : FuncData
  F_is_place : Fun K "is_place" "is_place" s_is_place f_is_place d_is_place
  b_is_place : Binds K d_is_place ["value", "count"] []
  m_is_place : mg "is_place" = some (.ref f_is_place)
  f_is_program : Addr
  d_is_program : FuncData
  F_is_program : Fun K "is_program" "is_program" s_is_program f_is_program d_is_program
  b_is_program : Binds K d_is_program ["value"] []
  m_is_program : mg "is_program" = some (.ref f_is_program)
  f_check_program : Addr
  d_check_program : FuncData
  F_check_program : Fun K "check_program" "check_program" s_check_program f_check_program d_check_program
  b_check_program : Binds K d_check_program ["program"] []
  m_check_program : mg "check_program" = some (.ref f_check_program)
  f_is_row : Addr
  d_is_row : FuncData
  F_is_row : Fun K "is_row" "is_row" s_is_row f_is_row d_is_row
  b_is_row : Binds K d_is_row ["value", "lines", "states"] []
  m_is_row : mg "is_row" = some (.ref f_is_row)
  f_is_policy : Addr
  d_is_policy : FuncData
  F_is_policy : Fun K "is_policy" "is_policy" s_is_policy f_is_policy d_is_policy
  b_is_policy : Binds K d_is_policy ["value"] []
  m_is_policy : mg "is_policy" = some (.ref f_is_policy)
  f_is_device : Addr
  d_is_device : FuncData
  F_is_device : Fun K "is_device" "is_device" s_is_device f_is_device d_is_device
  b_is_device : Binds K d_is_device ["value"] []
  m_is_device : mg "is_device" = some (.ref f_is_device)
  f_check_device : Addr
  d_check_device : FuncData
  F_check_device : Fun K "check_device" "check_device" s_check_device f_check_device d_check_device
  b_check_device : Binds K d_check_device ["device"] []
  m_check_device : mg "check_device" = some (.ref f_check_device)
  f_moments_of : Addr
  d_moments_of : FuncData
  F_moments_of : Fun K "moments_of" "moments_of" s_moments_of f_moments_of d_moments_of
  b_moments_of : Binds K d_moments_of ["device", "program"] []
  m_moments_of : mg "moments_of" = some (.ref f_moments_of)
  f_verdicts : Addr
  d_verdicts : FuncData
  F_verdicts : Fun K "verdicts" "verdicts" s_verdicts f_verdicts d_verdicts
  b_verdicts : Binds K d_verdicts ["device", "program"] []
  m_verdicts : mg "verdicts" = some (.ref f_verdicts)
  f__law_words : Addr
  d__law_words : FuncData
  F__law_words : Fun K "_law_words" "_law_words" s__law_words f__law_words d__law_words
  b__law_words : Binds K d__law_words ["_law_rows", "_law_count"] []
  m__law_words : mg "_law_words" = some (.ref f__law_words)
  f__law_go : Addr
  d__law_go : FuncData
  F__law_go : Fun K "_law_go" "_law_go" s__law_go f__law_go d__law_go
  b__law_go : Binds K d__law_go ["_law_table", "_law_box_here", "_law_at", "_law_who"] []
  m__law_go : mg "_law_go" = some (.ref f__law_go)
  f__law_ask : Addr
  d__law_ask : FuncData
  F__law_ask : Fun K "_law_ask" "_law_ask" s__law_ask f__law_ask d__law_ask
  b__law_ask : Binds K d__law_ask ["_law_unit", "_law_box_here", "_law_who"] []
  m__law_ask : mg "_law_ask" = some (.ref f__law_ask)
  f__law_filled : Addr
  d__law_filled : FuncData
  F__law_filled : Fun K "_law_filled" "_law_filled" s__law_filled f__law_filled d__law_filled
  b__law_filled : Binds K d__law_filled ["_law_device_here", "_law_states", "_law_held"] []
  m__law_filled : mg "_law_filled" = some (.ref f__law_filled)
  f__law_beads : Addr
  d__law_beads : FuncData
  F__law_beads : Fun K "_law_beads" "_law_beads" s__law_beads f__law_beads d__law_beads
  b__law_beads : Binds K d__law_beads ["_law_device_here", "_law_plan_here", "_law_greatest"] []
  m__law_beads : mg "_law_beads" = some (.ref f__law_beads)
  f__law_draw : Addr
  d__law_draw : FuncData
  F__law_draw : Fun K "_law_draw" "_law_draw" s__law_draw f__law_draw d__law_draw
  b__law_draw : Binds K d__law_draw ["_law_pool_here", "_law_most"] []
  m__law_draw : mg "_law_draw" = some (.ref f__law_draw)
  f__law_plan : Addr
  d__law_plan : FuncData
  F__law_plan : Fun K "_law_plan" "_law_plan" s__law_plan f__law_plan d__law_plan
  b__law_plan : Binds K d__law_plan ["_law_pool_here", "_law_most", "_law_many"] []
  m__law_plan : mg "_law_plan" = some (.ref f__law_plan)
  f__law_policy : Addr
  d__law_policy : FuncData
  F__law_policy : Fun K "_law_policy" "_law_policy" s__law_policy f__law_policy d__law_policy
  b__law_policy : Binds K d__law_policy ["_law_pool_here", "_law_lines", "_law_states"] []
  m__law_policy : mg "_law_policy" = some (.ref f__law_policy)
  f__law_queue : Addr
  d__law_queue : FuncData
  F__law_queue : Fun K "_law_queue" "_law_queue" s__law_queue f__law_queue d__law_queue
  b__law_queue : Binds K d__law_queue ["_law_lines"] []
  m__law_queue : mg "_law_queue" = some (.ref f__law_queue)
  f__law_recent : Addr
  d__law_recent : FuncData
  F__law_recent : Fun K "_law_recent" "_law_recent" s__law_recent f__law_recent d__law_recent
  b__law_recent : Binds K d__law_recent ["_law_lines"] []
  m__law_recent : mg "_law_recent" = some (.ref f__law_recent)
  f__law_device : Addr
  d__law_device : FuncData
  F__law_device : Fun K "_law_device" "_law_device" s__law_device f__law_device d__law_device
  b__law_device : Binds K d__law_device ["_law_pool_here", "_law_most", "_law_states"] []
  m__law_device : mg "_law_device" = some (.ref f__law_device)
  f__law_kit : Addr
  d__law_kit : FuncData
  F__law_kit : Fun K "_law_kit" "_law_kit" s__law_kit f__law_kit d__law_kit
  b__law_kit : Binds K d__law_kit ["_law_pool_here"] []
  m__law_kit : mg "_law_kit" = some (.ref f__law_kit)
  f__law_right : Addr
  d__law_right : FuncData
  F__law_right : Fun K "_law_right" "_law_right" s__law_right f__law_right d__law_right
  b__law_right : Binds K d__law_right ["_law_pool_here"] []
  m__law_right : mg "_law_right" = some (.ref f__law_right)
  f__law_pool : Addr
  d__law_pool : FuncData
  F__law_pool : Fun K "_law_pool" "_law_pool" s__law_pool f__law_pool d__law_pool
  b__law_pool : Binds K d__law_pool ["_law_figure"] []
  m__law_pool : mg "_law_pool" = some (.ref f__law_pool)
  f__law_cell : Addr
  d__law_cell : FuncData
  F__law_cell : Fun K "_law_cell" "_law_cell" s__law_cell f__law_cell d__law_cell
  b__law_cell : Binds K d__law_cell ["_law_script", "_law_k"] []
  m__law_cell : mg "_law_cell" = some (.ref f__law_cell)
  f__law_by_hand : Addr
  d__law_by_hand : FuncData
  F__law_by_hand : Fun K "_law_by_hand" "_law_by_hand" s__law_by_hand f__law_by_hand d__law_by_hand
  b__law_by_hand : Binds K d__law_by_hand [] []
  m__law_by_hand : mg "_law_by_hand" = some (.ref f__law_by_hand)
  f__law_wide : Addr
  d__law_wide : FuncData
  F__law_wide : Fun K "_law_wide" "_law_wide" s__law_wide f__law_wide d__law_wide
  b__law_wide : Binds K d__law_wide [] []
  m__law_wide : mg "_law_wide" = some (.ref f__law_wide)
  f__law_wide_right : Addr
  d__law_wide_right : FuncData
  F__law_wide_right : Fun K "_law_wide_right" "_law_wide_right" s__law_wide_right f__law_wide_right d__law_wide_right
  b__law_wide_right : Binds K d__law_wide_right [] []
  m__law_wide_right : mg "_law_wide_right" = some (.ref f__law_wide_right)
  f_law : Addr
  d_law : FuncData
  F_law : Fun K "law" "law" s_law f_law d_law
  b_law : Binds K d_law ["_law_script"] []
  m_law : mg "law" = some (.ref f_law)
  cl_Box : Cls K C_Box
  mC_Box : mg "Box" = some (.ref C_Box)
  cl_Moments : Cls K C_Moments
  mC_Moments : mg "Moments" = some (.ref C_Moments)
  na_Box_mode : NoAttr K C_Box "mode"
  na_Box_policies : NoAttr K C_Box "policies"
  na_Box_rows : NoAttr K C_Box "rows"
  na_Box_stages : NoAttr K C_Box "stages"
  na_Moments_indexes : NoAttr K C_Moments "indexes"
  na_Moments_missed : NoAttr K C_Moments "missed"
  na_Moments_nexts : NoAttr K C_Moments "nexts"
  na_Moments_order : NoAttr K C_Moments "order"
  na_Moments_sources : NoAttr K C_Moments "sources"
  n_abs : mg "abs" = none
  n_all : mg "all" = none
  n_any : mg "any" = none
  n_bool : mg "bool" = none
  n_divmod : mg "divmod" = none
  n_enumerate : mg "enumerate" = none
  n_int : mg "int" = none
  n_isinstance : mg "isinstance" = none
  n_len : mg "len" = none
  n_list : mg "list" = none
  n_max : mg "max" = none
  n_min : mg "min" = none
  n_range : mg "range" = none
  n_repr : mg "repr" = none
  n_set : mg "set" = none
  n_sorted : mg "sorted" = none
  n_str : mg "str" = none
  n_sum : mg "sum" = none
  n_tuple : mg "tuple" = none
  g_LETTERS : GlobIs K mg "LETTERS" c_LETTERS
  g_LEVELS : GlobIs K mg "LEVELS" c_LEVELS
  g_LONGEST : GlobIs K mg "LONGEST" c_LONGEST
  g_MOST_DIFFERENT : GlobIs K mg "MOST_DIFFERENT" c_MOST_DIFFERENT
  g_MOST_LINES : GlobIs K mg "MOST_LINES" c_MOST_LINES
  g_MOST_PLACES : GlobIs K mg "MOST_PLACES" c_MOST_PLACES
  g_MOST_SITUATIONS : GlobIs K mg "MOST_SITUATIONS" c_MOST_SITUATIONS
  g_MOST_STATES : GlobIs K mg "MOST_STATES" c_MOST_STATES
def Top.ct {K : Frg} {mg : Str → Option Value} (T : Top K mg) (P : Program) (w : World) : Ct := ⟨fun n => ([some T.C_Box, some T.C_Moments] : List (Option Addr)).getD n none, P, w⟩
theorem Top.e_LETTERS {X : Cx} {ct : Ct} {pos : Pos} (T : Top X.K X.mg) (hg : Gl X "LETTERS") : SE X ct (.Name "LETTERS" pos) (fK c_LETTERS) := se_globIs hg T.g_LETTERS
theorem Top.e_LEVELS {X : Cx} {ct : Ct} {pos : Pos} (T : Top X.K X.mg) (hg : Gl X "LEVELS") : SE X ct (.Name "LEVELS" pos) (fK c_LEVELS) := se_globIs hg T.g_LEVELS
theorem Top.e_LONGEST {X : Cx} {ct : Ct} {pos : Pos} (T : Top X.K X.mg) (hg : Gl X "LONGEST") : SE X ct (.Name "LONGEST" pos) (fK c_LONGEST) := se_globIs hg T.g_LONGEST
theorem Top.e_MOST_DIFFERENT {X : Cx} {ct : Ct} {pos : Pos} (T : Top X.K X.mg) (hg : Gl X "MOST_DIFFERENT") : SE X ct (.Name "MOST_DIFFERENT" pos) (fK c_MOST_DIFFERENT) := se_globIs hg T.g_MOST_DIFFERENT
theorem Top.e_MOST_LINES {X : Cx} {ct : Ct} {pos : Pos} (T : Top X.K X.mg) (hg : Gl X "MOST_LINES") : SE X ct (.Name "MOST_LINES" pos) (fK c_MOST_LINES) := se_globIs hg T.g_MOST_LINES
theorem Top.e_MOST_PLACES {X : Cx} {ct : Ct} {pos : Pos} (T : Top X.K X.mg) (hg : Gl X "MOST_PLACES") : SE X ct (.Name "MOST_PLACES" pos) (fK c_MOST_PLACES) := se_globIs hg T.g_MOST_PLACES
theorem Top.e_MOST_SITUATIONS {X : Cx} {ct : Ct} {pos : Pos} (T : Top X.K X.mg) (hg : Gl X "MOST_SITUATIONS") : SE X ct (.Name "MOST_SITUATIONS" pos) (fK c_MOST_SITUATIONS) := se_globIs hg T.g_MOST_SITUATIONS
theorem Top.e_MOST_STATES {X : Cx} {ct : Ct} {pos : Pos} (T : Top X.K X.mg) (hg : Gl X "MOST_STATES") : SE X ct (.Name "MOST_STATES" pos) (fK c_MOST_STATES) := se_globIs hg T.g_MOST_STATES
section
variable {P : Program} {w : World} {K : Frg} {mg : Str → Option Value} {base : Heap}
theorem ok_word_of (T : Top K mg) : FnG P w K mg base 1 T.f_word_of T.d_word_of ["misses"] (spF K (T.ct P w) m_word_of 1) := fn_sim T.F_word_of sc_word_of fun cdv A outer s H E hr hgd =>
  (ss_cons (by exact ss_if (by exact st_not (by exact st_truth (by exact sv_l 0))) (by exact (ss_one (by exact ss_ret (by exact se_str)))) (by exact ss_nil)) (by exact (ss_cons (by exact ss_if (by exact st_truth (by exact se_callB (sc_all rfl) (by rfl) (by exact T.n_all) (by decide +kernel) (by exact (sa_cons (by exact sv_l 0) sa_nil)))) (by exact (ss_one (by exact ss_ret (by exact se_str)))) (by exact ss_nil)) (by exact (ss_one (by exact ss_ret (by exact se_if (by exact st_truth (by exact se_callB (sc_any rfl) (by rfl) (by exact T.n_any) (by decide +kernel) (by exact (sa_cons (by exact sv_l 0) sa_nil)))) (by exact se_str) (by exact se_str))))))))
theorem ok_Moments_index_of (T : Top K mg) : FnG P w K mg base 1 T.f_Moments_index_of T.d_Moments_index_of ["self", "moment"] (spF K (T.ct P w) m_Moments_index_of 2) := fn_sim T.F_Moments_index_of sc_Moments_index_of fun cdv A outer s H E hr hgd =>
  (ss_cons (by exact ss_if (by exact st_cmp (by exact so_notinE (hu65 hr)) (by exact sv_l 1) (by exact se_fld (C := T.C_Moments) (by exact sv_l 0) rfl (by exact T.cl_Moments) (by exact T.na_Moments_indexes)) (by rfl)) (by exact (ss_cons (by exact ss_if (by exact st_cmp (by exact so_eq hr.units) (by exact se_callB sc_lenE (by rfl) (by exact T.n_len) (by decide +kernel) (by exact (sa_cons (by exact se_fld (C := T.C_Moments) (by exact sv_l 0) rfl (by exact T.cl_Moments) (by exact T.na_Moments_order)) sa_nil))) (by exact T.e_MOST_SITUATIONS rfl) (nomark _)) (by exact (ss_one (by exact ss_never))) (by exact ss_nil)) (by exact (ss_cons (by exact ss_asg (by exact se_callB sc_lenE (by rfl) (by exact T.n_len) (by decide +kernel) (by exact (sa_cons (by exact se_fld (C := T.C_Moments) (by exact sv_l 0) rfl (by exact T.cl_Moments) (by exact T.na_Moments_order)) sa_nil))) (by exact (sg_subE (ws := []) (hu65 hr) (by exact se_fld (C := T.C_Moments) (by exact sv_l 0) rfl (by exact T.cl_Moments) (by exact T.na_Moments_indexes)) (by exact sv_l 1)))) (by exact (ss_cons (by exact ss_expr (by exact (se_bm PySem.F.plainAttrs_list PySem.F.slot_list_append PySem.F.type_list_append sm_append (by exact se_fld (C := T.C_Moments) (by exact sv_l 0) rfl (by exact T.cl_Moments) (by exact T.na_Moments_order)) (by exact (sa_cons (by exact sv_l 1) sa_nil))))) (by exact (ss_one (by exact ss_expr (by exact (se_bm PySem.F.plainAttrs_list PySem.F.slot_list_append PySem.F.type_list_append sm_append (by exact se_fld (C := T.C_Moments) (by exact sv_l 0) rfl (by exact T.cl_Moments) (by exact T.na_Moments_sources)) (by exact (sa_cons (by exact se_callB sc_lenE (by rfl) (by exact T.n_len) (by decide +kernel) (by exact (sa_cons (by exact se_fld (C := T.C_Moments) (by exact sv_l 0) rfl (by exact T.cl_Moments) (by exact T.na_Moments_nexts)) sa_nil))) sa_nil))))))))))))) (by exact ss_nil)) (by exact (ss_one (by exact ss_ret (by exact se_ixE (hu65 hr) (by exact se_fld (C := T.C_Moments) (by exact sv_l 0) rfl (by exact T.cl_Moments) (by exact T.na_Moments_indexes)) (by exact sv_l 1))))))
theorem ok_Box_moment (T : Top K mg) : FnG P w K mg base 1 T.f_Box_moment T.d_Box_moment ["self"] (spF K (T.ct P w) m_Box_moment 1) := fn_sim T.F_Box_moment sc_Box_moment fun cdv A outer s H E hr hgd =>
  (ss_one (by exact ss_ret (by exact se_tup (by exact (sa_cons (by exact se_callTy sc_tuple (by rfl) (by exact T.n_tuple) (by decide +kernel) (by exact (sa_cons (by exact se_fld (C := T.C_Box) (by exact sv_l 0) rfl (by exact T.cl_Box) (by exact T.na_Box_stages)) sa_nil))) (sa_cons (by exact se_callTy sc_tuple (by rfl) (by exact T.n_tuple) (by decide +kernel) (by exact (sa_cons (by exact se_comp2 (own := [("lines", 1), ("name", 2)]) (vs1 := [2]) rfl sc_Box_moment.nd (by exact (si_seq (by exact se_fld (C := T.C_Box) (by exact sv_l 0) rfl (by exact T.cl_Box) (by exact T.na_Box_rows)))) (blkOk_by (N := ["self", "lines", "name"]) (sc := defScope s_Box_moment) (own := [("lines", 1), ("name", 2)]) (by decide +kernel)) (by decide) (fun _ _ _ _ _ => (by exact (sg_name (ws := [1, 2]) (i := 1) sc_Box_moment.nd rfl (Or.inl rfl) (by decide)))) (fun _ _ _ _ _ => sts_nil) (fun _ _ _ _ _ => (by exact (si_seq (by exact sv_l 1)))) (fun _ _ _ _ _ => (by exact (sg_name (ws := [2]) (i := 2) sc_Box_moment.nd rfl (Or.inl rfl) (by decide)))) (fun _ _ _ _ _ => sts_nil) (fun _ _ _ _ _ => (by exact sv_l 2))) sa_nil))) sa_nil))))))
theorem ok_Box_told (T : Top K mg) : FnG P w K mg base 1 T.f_Box_told T.d_Box_told ["self", "level"] (spF K (T.ct P w) m_Box_told 2) := fn_sim T.F_Box_told sc_Box_told fun cdv A outer s H E hr hgd =>
  (ss_one (by exact ss_ret (by exact se_ixE (hu65 hr) (by exact se_ixE (hu65 hr) (by exact se_ixE (hu65 hr) (by exact se_fld (C := T.C_Box) (by exact sv_l 0) rfl (by exact T.cl_Box) (by exact T.na_Box_policies)) (by exact sv_l 1)) (by exact se_int)) (by exact se_ixE (hu65 hr) (by exact se_fld (C := T.C_Box) (by exact sv_l 0) rfl (by exact T.cl_Box) (by exact T.na_Box_stages)) (by exact sv_l 1)))))
theorem ok_Box_touch (T : Top K mg) : FnG P w K mg base 2 T.f_Box_touch T.d_Box_touch ["self", "level", "line"] (spF K (T.ct P w) m_Box_touch 3) := fn_sim T.F_Box_touch sc_Box_touch fun cdv A outer s H E hr hgd =>
  (ss_one (by exact ss_asg (by exact se_ixE (hu65 hr) (by exact se_ixE (hu65 hr) (by exact se_meth (ps := ["self", "level"]) (C := T.C_Box) (by exact sv_l 0) rfl (by exact T.cl_Box) (by exact T.me_Box_told) (by exact ok_Box_told T) (by exact hr.mono (by decide)) (by exact hgd) (by exact T.b_Box_told) (by exact (sa_cons (by exact sv_l 1) sa_nil))) (by exact se_int)) (by exact sv_l 2)) (by exact (sg_subE (ws := []) (hu65 hr) (by exact se_fld (C := T.C_Box) (by exact sv_l 0) rfl (by exact T.cl_Box) (by exact T.na_Box_stages)) (by exact sv_l 1)))))
theorem ok_Box_fill (T : Top K mg) : FnG P w K mg base 2 T.f_Box_fill T.d_Box_fill ["self", "level", "name"] (spF K (T.ct P w) m_Box_fill 3) := fn_sim T.F_Box_fill sc_Box_fill fun cdv A outer s H E hr hgd =>
  (ss_cons (by exact ss_asg (by exact se_meth (ps := ["self", "level"]) (C := T.C_Box) (by exact sv_l 0) rfl (by exact T.cl_Box) (by exact T.me_Box_told) (by exact ok_Box_told T) (by exact hr.mono (by decide)) (by exact hgd) (by exact T.b_Box_told) (by exact (sa_cons (by exact sv_l 1) sa_nil))) (by exact (sg_or2 (sg_tup rfl (sgs_cons (by exact (sg_name (ws := [3, 4, 5]) (i := 3) sc_Box_fill.nd rfl (Or.inl rfl) (by decide))) (sgs_cons (by exact (sg_name (ws := [3, 4, 5]) (i := 4) sc_Box_fill.nd rfl (Or.inl rfl) (by decide))) (sgs_cons (by exact (sg_name (ws := [3, 4, 5]) (i := 5) sc_Box_fill.nd rfl (Or.inl rfl) (by decide))) sgs_nil)))) (sg_unl rfl (sgs_cons (by exact (sg_name (ws := [3, 4, 5]) (i := 3) sc_Box_fill.nd rfl (Or.inl rfl) (by decide))) (sgs_cons (by exact (sg_name (ws := [3, 4, 5]) (i := 4) sc_Box_fill.nd rfl (Or.inl rfl) (by decide))) (sgs_cons (by exact (sg_name (ws := [3, 4, 5]) (i := 5) sc_Box_fill.nd rfl (Or.inl rfl) (by decide))) sgs_nil))))))) (by exact (ss_cons (by exact ss_set (i := 6) sc_Box_fill.nd rfl (Or.inl rfl) (by exact se_ixE (hu65 hr) (by exact se_ixE (hu65 hr) (by exact se_fld (C := T.C_Box) (by exact sv_l 0) rfl (by exact T.cl_Box) (by exact T.na_Box_rows)) (by exact sv_l 1)) (by exact sv_l 3))) (by exact (ss_cons (by exact ss_asg (by exact sv_l 2) (by exact (sg_subE (ws := []) (hu65 hr) (by exact se_ixE (hu65 hr) (by exact se_fld (C := T.C_Box) (by exact sv_l 0) rfl (by exact T.cl_Box) (by exact T.na_Box_rows)) (by exact sv_l 1)) (by exact sv_l 3)))) (by exact (ss_cons (by exact ss_asg (by exact sv_l 4) (by exact (sg_subE (ws := []) (hu65 hr) (by exact se_fld (C := T.C_Box) (by exact sv_l 0) rfl (by exact T.cl_Box) (by exact T.na_Box_stages)) (by exact sv_l 1)))) (by exact (ss_one (by exact ss_ret (by exact sv_l 6)))))))))))
theorem ok_Box_go_down (T : Top K mg) : FnG P w K mg base 3 T.f_Box_go_down T.d_Box_go_down ["self", "name", "gone"] (spF K (T.ct P w) m_Box_go_down 3) := fn_sim T.F_Box_go_down sc_Box_go_down fun cdv A outer s H E hr hgd =>
  (ss_cons (by exact ss_asg (by exact se_fld (C := T.C_Box) (by exact sv_l 0) rfl (by exact T.cl_Box) (by exact T.na_Box_rows)) (by exact (sg_or2 (sg_tup rfl (sgs_cons (by exact (sg_name (ws := [3, 4]) (i := 3) sc_Box_go_down.nd rfl (Or.inl rfl) (by decide))) (sgs_cons (by exact (sg_name (ws := [3, 4]) (i := 4) sc_Box_go_down.nd rfl (Or.inl rfl) (by decide))) sgs_nil))) (sg_unl rfl (sgs_cons (by exact (sg_name (ws := [3, 4]) (i := 3) sc_Box_go_down.nd rfl (Or.inl rfl) (by decide))) (sgs_cons (by exact (sg_name (ws := [3, 4]) (i := 4) sc_Box_go_down.nd rfl (Or.inl rfl) (by decide))) sgs_nil)))))) (by exact (ss_one (by exact ss_if (by exact st_cmp (by exact so_eq hr.units) (by exact se_fld (C := T.C_Box) (by exact sv_l 0) rfl (by exact T.cl_Box) (by exact T.na_Box_mode)) (by exact se_str) (nomark _)) (by exact (ss_one (by exact ss_if (by exact st_cmp (by exact so_inE (hu65 hr)) (by exact sv_l 1) (by exact sv_l 4) (by rfl)) (by exact (ss_cons (by exact ss_set (i := 5) sc_Box_go_down.nd rfl (Or.inl rfl) (by exact se_or2 (se_bm PySem.F.plainAttrs_list PySem.F.slot_list_index PySem.F.type_list_index (sm_index (hu65 hr)) (by exact sv_l 4) (by exact (sa_cons (by exact sv_l 1) sa_nil))) (se_bm PySem.F.plainAttrs_tuple PySem.F.slot_tuple_index PySem.F.type_tuple_index sm_tindex (by exact sv_l 4) (by exact (sa_cons (by exact sv_l 1) sa_nil))))) (by exact (ss_cons (by exact ss_asg (by exact sv_l 2) (by exact (sg_subE (ws := []) (hu65 hr) (by exact sv_l 4) (by exact sv_l 5)))) (by exact (ss_one (by exact ss_expr (by exact se_meth (ps := ["self", "level", "line"]) (C := T.C_Box) (by exact sv_l 0) rfl (by exact T.cl_Box) (by exact T.me_Box_touch) (by exact ok_Box_touch T) (by exact hr.mono (by decide)) (by exact hgd) (by exact T.b_Box_touch) (by exact (sa_cons (by exact se_int) (sa_cons (by exact sv_l 5) sa_nil))))))))))) (by exact (ss_one (by exact ss_if (by exact st_cmp so_isnotE (by exact sv_l 2) (by exact se_non) (nomark _)) (by exact (ss_one (by exact ss_expr (by exact se_meth (ps := ["self", "level", "name"]) (C := T.C_Box) (by exact sv_l 0) rfl (by exact T.cl_Box) (by exact T.me_Box_fill) (by exact ok_Box_fill T) (by exact hr.mono (by decide)) (by exact hgd) (by exact T.b_Box_fill) (by exact (sa_cons (by exact se_int) (sa_cons (by exact sv_l 2) sa_nil))))))) (by exact ss_nil))))))) (by exact (ss_one (by exact ss_if (by exact st_cmp (by exact so_inE (hu65 hr)) (by exact sv_l 1) (by exact sv_l 4) (by rfl)) (by exact (ss_one (by exact ss_expr (by exact se_meth (ps := ["self", "level", "line"]) (C := T.C_Box) (by exact sv_l 0) rfl (by exact T.cl_Box) (by exact T.me_Box_touch) (by exact ok_Box_touch T) (by exact hr.mono (by decide)) (by exact hgd) (by exact T.b_Box_touch) (by exact (sa_cons (by exact se_int) (sa_cons (by exact se_or2 (se_bm PySem.F.plainAttrs_list PySem.F.slot_list_index PySem.F.type_list_index (sm_index (hu65 hr)) (by exact sv_l 4) (by exact (sa_cons (by exact sv_l 1) sa_nil))) (se_bm PySem.F.plainAttrs_tuple PySem.F.slot_tuple_index PySem.F.type_tuple_index sm_tindex (by exact sv_l 4) (by exact (sa_cons (by exact sv_l 1) sa_nil)))) sa_nil))))))) (by exact (ss_cons (by exact ss_set (i := 6) sc_Box_go_down.nd rfl (Or.inl rfl) (by exact se_meth (ps := ["self", "level", "name"]) (C := T.C_Box) (by exact sv_l 0) rfl (by exact T.cl_Box) (by exact T.me_Box_fill) (by exact ok_Box_fill T) (by exact hr.mono (by decide)) (by exact hgd) (by exact T.b_Box_fill) (by exact (sa_cons (by exact se_int) (sa_cons (by exact sv_l 1) sa_nil))))) (by exact (ss_one (by exact ss_if (by exact SW.st (sw_and (by exact st_cmp (by exact so_eq hr.units) (by exact se_fld (C := T.C_Box) (by exact sv_l 0) rfl (by exact T.cl_Box) (by exact T.na_Box_mode)) (by exact se_str) (nomark _)) (sw_and (by exact st_cmp so_isnotE (by exact sv_l 6) (by exact se_non) (nomark _)) (sw_and1 (by exact st_cmp (by exact so_inE (hu65 hr)) (by exact sv_l 6) (by exact sv_l 3) (by rfl)))))) (by exact (ss_one (by exact ss_asg (by exact se_non) (by exact (sg_subE (ws := []) (hu65 hr) (by exact sv_l 3) (by exact se_or2 (se_bm PySem.F.plainAttrs_list PySem.F.slot_list_index PySem.F.type_list_index (sm_index (hu65 hr)) (by exact sv_l 3) (by exact (sa_cons (by exact sv_l 6) sa_nil))) (se_bm PySem.F.plainAttrs_tuple PySem.F.slot_tuple_index PySem.F.type_tuple_index sm_tindex (by exact sv_l 3) (by exact (sa_cons (by exact sv_l 6) sa_nil))))))))) (by exact ss_nil)))))))))))))
theorem ok_Box_holds (T : Top K mg) : FnG P w K mg base 1 T.f_Box_holds T.d_Box_holds ["self", "name"] (spF K (T.ct P w) m_Box_holds 2) := fn_sim T.F_Box_holds sc_Box_holds fun cdv A outer s H E hr hgd =>
  (ss_one (by exact ss_ret (by exact se_callB (sc_any rfl) (by rfl) (by exact T.n_any) (by decide +kernel) (by exact (sa_cons (by exact se_comp (own := [("lines", 2)]) rfl sc_Box_holds.nd (by exact (si_seq (by exact se_fld (C := T.C_Box) (by exact sv_l 0) rfl (by exact T.cl_Box) (by exact T.na_Box_rows)))) (blkOk_by (N := ["self", "name", "lines"]) (sc := defScope s_Box_holds) (own := [("lines", 2)]) (by decide +kernel)) (fun _ _ _ _ _ => (by exact (sg_name (ws := [2]) (i := 2) sc_Box_holds.nd rfl (Or.inl rfl) (by decide)))) (fun _ _ _ _ _ => sts_nil) (fun _ _ _ _ _ => (by exact se_cmp (by exact so_inE (hu65 hr)) (by exact sv_f 1) (by exact sv_l 2) (by rfl)))) sa_nil)))))
theorem ok_Box_ask (T : Top K mg) : FnG P w K mg base 4 T.f_Box_ask T.d_Box_ask ["self", "name"] (spF K (T.ct P w) m_Box_ask 2) := fn_sim T.F_Box_ask sc_Box_ask fun cdv A outer s H E hr hgd =>
  (ss_cons (by exact ss_set (i := 2) sc_Box_ask.nd rfl (Or.inl rfl) (by exact se_meth (ps := ["self", "name"]) (C := T.C_Box) (by exact sv_l 0) rfl (by exact T.cl_Box) (by exact T.me_Box_holds) (by exact ok_Box_holds T) (by exact hr.mono (by decide)) (by exact hgd) (by exact T.b_Box_holds) (by exact (sa_cons (by exact sv_l 1) sa_nil)))) (by exact (ss_cons (by exact ss_if (by exact st_cmp (by exact so_inE (hu65 hr)) (by exact sv_l 1) (by exact se_ixE (hu65 hr) (by exact se_fld (C := T.C_Box) (by exact sv_l 0) rfl (by exact T.cl_Box) (by exact T.na_Box_rows)) (by exact se_int)) (by rfl)) (by exact (ss_one (by exact ss_expr (by exact se_meth (ps := ["self", "level", "line"]) (C := T.C_Box) (by exact sv_l 0) rfl (by exact T.cl_Box) (by exact T.me_Box_touch) (by exact ok_Box_touch T) (by exact hr.mono (by decide)) (by exact hgd) (by exact T.b_Box_touch) (by exact (sa_cons (by exact se_int) (sa_cons (by exact se_or2 (se_bm PySem.F.plainAttrs_list PySem.F.slot_list_index PySem.F.type_list_index (sm_index (hu65 hr)) (by exact se_ixE (hu65 hr) (by exact se_fld (C := T.C_Box) (by exact sv_l 0) rfl (by exact T.cl_Box) (by exact T.na_Box_rows)) (by exact se_int)) (by exact (sa_cons (by exact sv_l 1) sa_nil))) (se_bm PySem.F.plainAttrs_tuple PySem.F.slot_tuple_index PySem.F.type_tuple_index sm_tindex (by exact se_ixE (hu65 hr) (by exact se_fld (C := T.C_Box) (by exact sv_l 0) rfl (by exact T.cl_Box) (by exact T.na_Box_rows)) (by exact se_int)) (by exact (sa_cons (by exact sv_l 1) sa_nil)))) sa_nil))))))) (by exact (ss_cons (by exact ss_set (i := 3) sc_Box_ask.nd rfl (Or.inl rfl) (by exact se_meth (ps := ["self", "level", "name"]) (C := T.C_Box) (by exact sv_l 0) rfl (by exact T.cl_Box) (by exact T.me_Box_fill) (by exact ok_Box_fill T) (by exact hr.mono (by decide)) (by exact hgd) (by exact T.b_Box_fill) (by exact (sa_cons (by exact se_int) (sa_cons (by exact sv_l 1) sa_nil))))) (by exact (ss_one (by exact ss_if (by exact st_cmp (by exact so_eq hr.units) (by exact se_callB sc_lenE (by rfl) (by exact T.n_len) (by decide +kernel) (by exact (sa_cons (by exact se_fld (C := T.C_Box) (by exact sv_l 0) rfl (by exact T.cl_Box) (by exact T.na_Box_rows)) sa_nil))) (by exact se_int) (nomark _)) (by exact (ss_one (by exact ss_expr (by exact se_meth (ps := ["self", "name", "gone"]) (C := T.C_Box) (by exact sv_l 0) rfl (by exact T.cl_Box) (by exact T.me_Box_go_down) (by exact ok_Box_go_down T) (by exact hr.mono (by decide)) (by exact hgd) (by exact T.b_Box_go_down) (by exact (sa_cons (by exact sv_l 1) (sa_cons (by exact sv_l 3) sa_nil))))))) (by exact ss_nil))))))) (by exact (ss_one (by exact ss_ret (by exact sv_l 2)))))))
theorem ok_Box_init (T : Top K mg) : FnG P w K mg base 1 T.f_Box_init T.d_Box_init ["self", "device"] (spF K (T.ct P w) m_Box_init 2) := fn_sim T.F_Box_init sc_Box_init fun cdv A outer s H E hr hgd =>
  (ss_cons (by exact ss_fld (C := T.C_Box) (by exact sv_l 0) (by exact se_ixE (hu65 hr) (by exact sv_l 1) (by exact se_int)) rfl (by exact T.cl_Box) (by exact T.na_Box_mode)) (by exact (ss_cons (by exact ss_fld (C := T.C_Box) (by exact sv_l 0) (by exact se_slice (by exact sv_l 1) (by exact so_some (by exact se_int)) so_none) rfl (by exact T.cl_Box) (by exact T.na_Box_policies)) (by exact (ss_cons (by exact ss_fld (C := T.C_Box) (by exact sv_l 0) (by exact se_op so_mul (by exact se_lst (by exact (sa_cons (by exact se_int) sa_nil))) (by exact se_callB sc_lenE (by rfl) (by exact T.n_len) (by decide +kernel) (by exact (sa_cons (by exact se_fld (C := T.C_Box) (by exact sv_l 0) rfl (by exact T.cl_Box) (by exact T.na_Box_policies)) sa_nil)))) rfl (by exact T.cl_Box) (by exact T.na_Box_stages)) (by exact (ss_one (by exact ss_fld (C := T.C_Box) (by exact sv_l 0) (by exact se_comp (own := [("policy", 2)]) rfl sc_Box_init.nd (by exact (si_seq (by exact se_fld (C := T.C_Box) (by exact sv_l 0) rfl (by exact T.cl_Box) (by exact T.na_Box_policies)))) (blkOk_by (N := ["self", "device", "policy"]) (sc := defScope s_Box_init) (own := [("policy", 2)]) (by decide +kernel)) (fun _ _ _ _ _ => (by exact (sg_name (ws := [2]) (i := 2) sc_Box_init.nd rfl (Or.inl rfl) (by decide)))) (fun _ _ _ _ _ => sts_nil) (fun _ _ _ _ _ => (by exact se_op so_mul (by exact se_lst (by exact (sa_cons (by exact se_non) sa_nil))) (by exact se_ixE (hu65 hr) (by exact sv_l 2) (by exact se_int))))) rfl (by exact T.cl_Box) (by exact T.na_Box_rows)))))))))
theorem ok_box_at (T : Top K mg) : FnG P w K mg base 3 T.f_box_at T.d_box_at ["device", "states", "contents"] (spF K (T.ct P w) m_box_at 3) := fn_sim T.F_box_at sc_box_at fun cdv A outer s H E hr hgd =>
  (ss_cons (by exact ss_par (i := 3) (j := 4) rfl sc_box_at.nd rfl rfl (by decide) rfl rfl (by exact (sa_cons (by exact se_make (ps := ["self", "device"]) (by exact T.mk_Box) rfl (by exact ok_Box_init T) (by exact hr.mono (by decide)) (by exact hgd) (by rfl) (by exact T.mC_Box) (by exact T.b_Box_init) (by exact (sa_cons (by exact sv_l 0) sa_nil))) (sa_cons (by exact se_int) sa_nil))) (by rfl)) (by exact (ss_cons (by exact ss_fld (C := T.C_Box) (by exact sv_l 3) (by exact se_callTy (sc_listE rfl) (by rfl) (by exact T.n_list) (by decide +kernel) (by exact (sa_cons (by exact sv_l 1) sa_nil))) rfl (by exact T.cl_Box) (by exact T.na_Box_stages)) (by exact (ss_cons (by exact ss_for PassesOwn.never rfl (by exact (si_enum rfl (by exact T.n_enumerate) (by exact se_slice (by exact sv_l 0) (by exact so_some (by exact se_int)) so_none))) (by exact (sg_or2 (sg_tup rfl (sgs_cons (by exact (sg_name (ws := [5, 6]) (i := 5) sc_box_at.nd rfl (Or.inl rfl) (by decide))) (sgs_cons (by exact (sg_name (ws := [5, 6]) (i := 6) sc_box_at.nd rfl (Or.inl rfl) (by decide))) sgs_nil))) (sg_unl rfl (sgs_cons (by exact (sg_name (ws := [5, 6]) (i := 5) sc_box_at.nd rfl (Or.inl rfl) (by decide))) (sgs_cons (by exact (sg_name (ws := [5, 6]) (i := 6) sc_box_at.nd rfl (Or.inl rfl) (by decide))) sgs_nil))))) (by exact (ss_cons (by exact ss_asg (by exact se_callTy (sc_listE rfl) (by rfl) (by exact T.n_list) (by decide +kernel) (by exact (sa_cons (by exact se_slice (by exact sv_l 2) (by exact so_some (by exact sv_l 4)) (by exact so_some (by exact se_op so_add (by exact sv_l 4) (by exact se_ixE (hu65 hr) (by exact sv_l 6) (by exact se_int))))) sa_nil))) (by exact (sg_subE (ws := []) (hu65 hr) (by exact se_fld (C := T.C_Box) (by exact sv_l 3) rfl (by exact T.cl_Box) (by exact T.na_Box_rows)) (by exact sv_l 5)))) (by exact (ss_one (by exact ss_aug (i := 4) sc_box_at.nd rfl (Or.inl rfl) (by exact se_ixE (hu65 hr) (by exact sv_l 6) (by exact se_int)) ip_add)))))) (by exact (ss_one (by exact ss_ret (by exact sv_l 3)))))))))
theorem ok_Moments_init (T : Top K mg) : FnG P w K mg base 5 T.f_Moments_init T.d_Moments_init ["self", "device", "program"] (spF K (T.ct P w) m_Moments_init 3) := fn_sim T.F_Moments_init sc_Moments_init fun cdv A outer s H E hr hgd =>
  (ss_cons (by exact ss_set (i := 3) sc_Moments_init.nd rfl (Or.inl rfl) (by exact se_tup (by exact (sa_cons (by exact se_int) (sa_star (by exact se_meth0 (ps := ["self"]) (C := T.C_Box) (by exact se_make (ps := ["self", "device"]) (by exact T.mk_Box) rfl (by exact ok_Box_init T) (by exact hr.mono (by decide)) (by exact hgd) (by rfl) (by exact T.mC_Box) (by exact T.b_Box_init) (by exact (sa_cons (by exact sv_l 1) sa_nil))) rfl (by exact T.cl_Box) (by exact T.me_Box_moment) (by exact ok_Box_moment T) (by exact hr.mono (by decide)) (by exact hgd) (by exact T.b_Box_moment)) sa_nil))))) (by exact (ss_cons (by exact ss_fld (C := T.C_Moments) (by exact sv_l 0) (by exact se_lst (by exact (sa_cons (by exact sv_l 3) sa_nil))) rfl (by exact T.cl_Moments) (by exact T.na_Moments_order)) (by exact (ss_cons (by exact ss_fld (C := T.C_Moments) (by exact sv_l 0) (by exact se_or2 (by exact se_dict1N (hu65 hr) (by exact sv_l 3) (by exact se_int)) (by exact se_dict1K (by exact sv_l 3) (by exact se_int))) rfl (by exact T.cl_Moments) (by exact T.na_Moments_indexes)) (by exact (ss_cons (by exact ss_fld (C := T.C_Moments) (by exact sv_l 0) (by exact se_lst (by exact (sa_cons (by exact se_non) sa_nil))) rfl (by exact T.cl_Moments) (by exact T.na_Moments_sources)) (by exact (ss_cons (by exact ss_fld (C := T.C_Moments) (by exact sv_l 0) (by exact se_lst (by exact sa_nil)) rfl (by exact T.cl_Moments) (by exact T.na_Moments_missed)) (by exact (ss_cons (by exact ss_fld (C := T.C_Moments) (by exact sv_l 0) (by exact se_lst (by exact sa_nil)) rfl (by exact T.cl_Moments) (by exact T.na_Moments_nexts)) (by exact (ss_one (by exact ss_while 1000000 PassesOwn.never (by exact st_cmp so_lt (by exact se_callB sc_lenE (by rfl) (by exact T.n_len) (by decide +kernel) (by exact (sa_cons (by exact se_fld (C := T.C_Moments) (by exact sv_l 0) rfl (by exact T.cl_Moments) (by exact T.na_Moments_nexts)) sa_nil))) (by exact se_callB sc_lenE (by rfl) (by exact T.n_len) (by decide +kernel) (by exact (sa_cons (by exact se_fld (C := T.C_Moments) (by exact sv_l 0) rfl (by exact T.cl_Moments) (by exact T.na_Moments_order)) sa_nil))) (nomark _)) (by exact (ss_cons (by exact ss_asg (by exact se_ixE (hu65 hr) (by exact se_fld (C := T.C_Moments) (by exact sv_l 0) rfl (by exact T.cl_Moments) (by exact T.na_Moments_order)) (by exact se_callB sc_lenE (by rfl) (by exact T.n_len) (by decide +kernel) (by exact (sa_cons (by exact se_fld (C := T.C_Moments) (by exact sv_l 0) rfl (by exact T.cl_Moments) (by exact T.na_Moments_nexts)) sa_nil)))) (by exact (sg_or2 (sg_tup rfl (sgs_cons (by exact (sg_name (ws := [4, 5, 6]) (i := 4) sc_Moments_init.nd rfl (Or.inl rfl) (by decide))) (sgs_cons (by exact (sg_name (ws := [4, 5, 6]) (i := 5) sc_Moments_init.nd rfl (Or.inl rfl) (by decide))) (sgs_cons (by exact (sg_name (ws := [4, 5, 6]) (i := 6) sc_Moments_init.nd rfl (Or.inl rfl) (by decide))) sgs_nil)))) (sg_unl rfl (sgs_cons (by exact (sg_name (ws := [4, 5, 6]) (i := 4) sc_Moments_init.nd rfl (Or.inl rfl) (by decide))) (sgs_cons (by exact (sg_name (ws := [4, 5, 6]) (i := 5) sc_Moments_init.nd rfl (Or.inl rfl) (by decide))) (sgs_cons (by exact (sg_name (ws := [4, 5, 6]) (i := 6) sc_Moments_init.nd rfl (Or.inl rfl) (by decide))) sgs_nil))))))) (by exact (ss_cons (by exact ss_set (i := 7) sc_Moments_init.nd rfl (Or.inl rfl) (by exact se_call (ps := ["device", "states", "contents"]) (by exact ok_box_at T) (by exact hr.mono (by decide)) (by exact hgd) (by rfl) (by exact T.m_box_at) (by exact T.F_box_at.kp) (by exact T.b_box_at) (by exact (sa_cons (by exact sv_l 1) (sa_cons (by exact sv_l 5) (sa_cons (by exact sv_l 6) sa_nil)))))) (by exact (ss_cons (by exact ss_asg (by exact se_ixE (hu65 hr) (by exact sv_l 2) (by exact sv_l 4)) (by exact (sg_or2 (sg_tup rfl (sgs_cons (by exact (sg_name (ws := [8, 9]) (i := 8) sc_Moments_init.nd rfl (Or.inl rfl) (by decide))) (sgs_cons (by exact (sg_name (ws := [8, 9]) (i := 9) sc_Moments_init.nd rfl (Or.inl rfl) (by decide))) sgs_nil))) (sg_unl rfl (sgs_cons (by exact (sg_name (ws := [8, 9]) (i := 8) sc_Moments_init.nd rfl (Or.inl rfl) (by decide))) (sgs_cons (by exact (sg_name (ws := [8, 9]) (i := 9) sc_Moments_init.nd rfl (Or.inl rfl) (by decide))) sgs_nil)))))) (by exact (ss_cons (by exact ss_set (i := 10) sc_Moments_init.nd rfl (Or.inl rfl) (by exact se_meth (ps := ["self", "name"]) (C := T.C_Box) (by exact sv_l 7) rfl (by exact T.cl_Box) (by exact T.me_Box_ask) (by exact ok_Box_ask T) (by exact hr.mono (by decide)) (by exact hgd) (by exact T.b_Box_ask) (by exact (sa_cons (by exact sv_l 8) sa_nil)))) (by exact (ss_cons (by exact ss_expr (by exact (se_bm PySem.F.plainAttrs_list PySem.F.slot_list_append PySem.F.type_list_append sm_append (by exact se_fld (C := T.C_Moments) (by exact sv_l 0) rfl (by exact T.cl_Moments) (by exact T.na_Moments_missed)) (by exact (sa_cons (by exact se_not (by exact sv_l 10)) sa_nil))))) (by exact (ss_cons (by exact ss_set (i := 11) sc_Moments_init.nd rfl (Or.inl rfl) (by exact se_lst (by exact sa_nil))) (by exact (ss_cons (by exact ss_for PassesOwn.never rfl (by exact (si_seq (by exact sv_l 9))) (by exact (sg_name (ws := [12]) (i := 12) sc_Moments_init.nd rfl (Or.inl rfl) (by decide))) (by exact (ss_one (by exact ss_expr (by exact (se_bm PySem.F.plainAttrs_list PySem.F.slot_list_append PySem.F.type_list_append sm_append (by exact sv_l 11) (by exact (sa_cons (by exact se_meth (ps := ["self", "moment"]) (C := T.C_Moments) (by exact sv_l 0) rfl (by exact T.cl_Moments) (by exact T.me_Moments_index_of) (by exact ok_Moments_index_of T) (by exact hr.mono (by decide)) (by exact hgd) (by exact T.b_Moments_index_of) (by exact (sa_cons (by exact se_tup (by exact (sa_cons (by exact sv_l 12) (sa_star (by exact se_meth0 (ps := ["self"]) (C := T.C_Box) (by exact sv_l 7) rfl (by exact T.cl_Box) (by exact T.me_Box_moment) (by exact ok_Box_moment T) (by exact hr.mono (by decide)) (by exact hgd) (by exact T.b_Box_moment)) sa_nil)))) sa_nil))) sa_nil)))))))) (by exact (ss_one (by exact ss_expr (by exact (se_bm PySem.F.plainAttrs_list PySem.F.slot_list_append PySem.F.type_list_append sm_append (by exact se_fld (C := T.C_Moments) (by exact sv_l 0) rfl (by exact T.cl_Moments) (by exact T.na_Moments_nexts)) (by exact (sa_cons (by exact sv_l 11) sa_nil)))))))))))))))))))))))))))))))))))
theorem ok_is_integer (T : Top K mg) : FnG P w K mg base 1 T.f_is_integer T.d_is_integer ["value"] (spF K (T.ct P w) m_is_integer 1) := fn_sim T.F_is_integer sc_is_integer fun cdv A outer s H E hr hgd =>
  (ss_one (by exact ss_ret (by exact (se_and (by exact se_callB sc_isi (by rfl) (by exact T.n_isinstance) (by decide +kernel) (by exact (sa_cons (by exact sv_l 0) (sa_cons (by exact se_ty (by rfl) (by exact T.n_int) (by decide +kernel)) sa_nil)))) (se_one (by exact se_not (by exact se_callB sc_isi (by rfl) (by exact T.n_isinstance) (by decide +kernel) (by exact (sa_cons (by exact sv_l 0) (sa_cons (by exact se_ty (by rfl) (by exact T.n_bool) (by decide +kernel)) sa_nil))))))))))
theorem ok_is_between (T : Top K mg) : FnG P w K mg base 2 T.f_is_between T.d_is_between ["value", "least", "greatest"] (spF K (T.ct P w) m_is_between 3) := fn_sim T.F_is_between sc_is_between fun cdv A outer s H E hr hgd =>
  (ss_one (by exact ss_ret (by exact (se_and (by exact se_call (ps := ["value"]) (by exact ok_is_integer T) (by exact hr.mono (by decide)) (by exact hgd) (by rfl) (by exact T.m_is_integer) (by exact T.F_is_integer.kp) (by exact T.b_is_integer) (by exact (sa_cons (by exact sv_l 0) sa_nil))) (se_one (by exact se_chain so_le so_le (by exact sv_l 1) (by exact sv_l 0) (by exact sv_l 2)))))))
theorem ok_is_name (T : Top K mg) : FnG P w K mg base 1 T.f_is_name T.d_is_name ["value"] (spF K (T.ct P w) m_is_name 1) := fn_sim T.F_is_name sc_is_name fun cdv A outer s H E hr hgd =>
  (ss_cons (by exact ss_if (by exact SW.st (sw_or (by exact st_not (by exact st_truth (by exact se_callB sc_isi (by rfl) (by exact T.n_isinstance) (by decide +kernel) (by exact (sa_cons (by exact sv_l 0) (sa_cons (by exact se_ty (by rfl) (by exact T.n_str) (by decide +kernel)) sa_nil)))))) (sw_or1 (by exact st_not (by exact st_chain so_le so_le (by exact se_int) (by exact se_callB sc_lenE (by rfl) (by exact T.n_len) (by decide +kernel) (by exact (sa_cons (by exact sv_l 0) sa_nil))) (by exact T.e_LONGEST rfl)))))) (by exact (ss_one (by exact ss_ret (by exact se_bl)))) (by exact ss_nil)) (by exact (ss_one (by exact ss_ret (by exact se_callB (sc_all rfl) (by rfl) (by exact T.n_all) (by decide +kernel) (by exact (sa_cons (by exact se_comp (own := [("letter", 1)]) rfl sc_is_name.nd (by exact (si_seq (by exact sv_l 0))) (blkOk_by (N := ["value", "letter"]) (sc := defScope s_is_name) (own := [("letter", 1)]) (by decide +kernel)) (fun _ _ _ _ _ => (by exact (sg_name (ws := [1]) (i := 1) sc_is_name.nd rfl (Or.inl rfl) (by decide)))) (fun _ _ _ _ _ => sts_nil) (fun _ _ _ _ _ => (by exact se_cmp (by exact so_inE (hu65 hr)) (by exact sv_l 1) (by exact T.e_LETTERS rfl) (by rfl)))) sa_nil)))))))
theorem ok_is_place (T : Top K mg) : FnG P w K mg base 3 T.f_is_place T.d_is_place ["value", "count"] (spF K (T.ct P w) m_is_place 2) := fn_sim T.F_is_place sc_is_place fun cdv A outer s H E hr hgd =>
  (ss_cons (by exact ss_if (by exact SW.st (sw_or (by exact st_not (by exact st_truth (by exact se_callB sc_isi (by rfl) (by exact T.n_isinstance) (by decide +kernel) (by exact (sa_cons (by exact sv_l 0) (sa_cons (by exact se_ty (by rfl) (by exact T.n_tuple) (by decide +kernel)) sa_nil)))))) (sw_or (by exact st_cmp (by exact so_ne hr.units) (by exact se_callB sc_lenE (by rfl) (by exact T.n_len) (by decide +kernel) (by exact (sa_cons (by exact sv_l 0) sa_nil))) (by exact se_int) (nomark _)) (sw_or (by exact st_not (by exact st_truth (by exact se_call (ps := ["value"]) (by exact ok_is_name T) (by exact hr.mono (by decide)) (by exact hgd) (by rfl) (by exact T.m_is_name) (by exact T.F_is_name.kp) (by exact T.b_is_name) (by exact (sa_cons (by exact se_ixE (hu65 hr) (by exact sv_l 0) (by exact se_int)) sa_nil))))) (sw_or1 (by exact st_not (by exact st_truth (by exact se_callB sc_isi (by rfl) (by exact T.n_isinstance) (by decide +kernel) (by exact (sa_cons (by exact se_ixE (hu65 hr) (by exact sv_l 0) (by exact se_int)) (sa_cons (by exact se_ty (by rfl) (by exact T.n_tuple) (by decide +kernel)) sa_nil))))))))))) (by exact (ss_one (by exact ss_ret (by exact se_bl)))) (by exact ss_nil)) (by exact (ss_cons (by exact ss_set (i := 2) sc_is_place.nd rfl (Or.inr rfl) (by exact se_ixE (hu65 hr) (by exact sv_l 0) (by exact se_int))) (by exact (ss_cons (by exact ss_if (by exact st_not (by exact st_truth (by exact se_callB (sc_all rfl) (by rfl) (by exact T.n_all) (by decide +kernel) (by exact (sa_cons (by exact se_comp (own := [("target", 3)]) rfl sc_is_place.nd (by exact (si_seq (by exact sv_c 2))) (blkOk_by (N := ["value", "count", "targets", "target", "at"]) (sc := defScope s_is_place) (own := [("target", 3)]) (by decide +kernel)) (fun _ _ _ _ _ => (by exact (sg_name (ws := [3]) (i := 3) sc_is_place.nd rfl (Or.inl rfl) (by decide)))) (fun _ _ _ _ _ => sts_nil) (fun _ _ _ _ _ => (by exact se_call (ps := ["value", "least", "greatest"]) (by exact ok_is_between T) (by exact hr.mono (by decide)) (by exact hgd) (by rfl) (by exact T.m_is_between) (by exact T.F_is_between.kp) (by exact T.b_is_between) (by exact (sa_cons (by exact sv_l 3) (sa_cons (by exact se_int) (sa_cons (by exact se_op so_sub (by exact sv_f 1) (by exact se_int)) sa_nil))))))) sa_nil))))) (by exact (ss_one (by exact ss_ret (by exact se_bl)))) (by exact ss_nil)) (by exact (ss_one (by exact ss_ret (by exact se_callB (sc_all rfl) (by rfl) (by exact T.n_all) (by decide +kernel) (by exact (sa_cons (by exact se_comp (own := [("at", 4)]) rfl sc_is_place.nd (by exact (si_range2 rfl (by exact T.n_range) (by exact se_int) (by exact se_callB sc_lenE (by rfl) (by exact T.n_len) (by decide +kernel) (by exact (sa_cons (by exact sv_c 2) sa_nil))))) (blkOk_by (N := ["value", "count", "targets", "target", "at"]) (sc := defScope s_is_place) (own := [("at", 4)]) (by decide +kernel)) (fun _ _ _ _ _ => (by exact (sg_name (ws := [4]) (i := 4) sc_is_place.nd rfl (Or.inl rfl) (by decide)))) (fun _ _ _ _ _ => sts_nil) (fun _ _ _ _ _ => (by exact se_cmp so_lt (by exact se_ixE (hu65 hr) (by exact sv_f 2) (by exact se_op so_sub (by exact sv_l 4) (by exact se_int))) (by exact se_ixE (hu65 hr) (by exact sv_f 2) (by exact sv_l 4)) (nomark _)))) sa_nil)))))))))))
theorem ok_is_program (T : Top K mg) : FnG P w K mg base 4 T.f_is_program T.d_is_program ["value"] (spF K (T.ct P w) m_is_program 1) := fn_sim T.F_is_program sc_is_program fun cdv A outer s H E hr hgd =>
  (ss_cons (by exact ss_if (by exact SW.st (sw_or (by exact st_not (by exact st_truth (by exact se_callB sc_isi (by rfl) (by exact T.n_isinstance) (by decide +kernel) (by exact (sa_cons (by exact sv_c 0) (sa_cons (by exact se_ty (by rfl) (by exact T.n_tuple) (by decide +kernel)) sa_nil)))))) (sw_or1 (by exact st_not (by exact st_chain so_le so_le (by exact se_int) (by exact se_callB sc_lenE (by rfl) (by exact T.n_len) (by decide +kernel) (by exact (sa_cons (by exact sv_c 0) sa_nil))) (by exact T.e_MOST_PLACES rfl)))))) (by exact (ss_one (by exact ss_ret (by exact se_bl)))) (by exact ss_nil)) (by exact (ss_cons (by exact ss_if (by exact st_not (by exact st_truth (by exact se_callB (sc_all rfl) (by rfl) (by exact T.n_all) (by decide +kernel) (by exact (sa_cons (by exact se_comp (own := [("place", 1)]) rfl sc_is_program.nd (by exact (si_seq (by exact sv_c 0))) (blkOk_by (N := ["value", "place"]) (sc := defScope s_is_program) (own := [("place", 1)]) (by decide +kernel)) (fun _ _ _ _ _ => (by exact (sg_name (ws := [1]) (i := 1) sc_is_program.nd rfl (Or.inl rfl) (by decide)))) (fun _ _ _ _ _ => sts_nil) (fun _ _ _ _ _ => (by exact se_call (ps := ["value", "count"]) (by exact ok_is_place T) (by exact hr.mono (by decide)) (by exact hgd) (by rfl) (by exact T.m_is_place) (by exact T.F_is_place.kp) (by exact T.b_is_place) (by exact (sa_cons (by exact sv_l 1) (sa_cons (by exact se_callB sc_lenE (by rfl) (by exact T.n_len) (by decide +kernel) (by exact (sa_cons (by exact sv_f 0) sa_nil))) sa_nil)))))) sa_nil))))) (by exact (ss_one (by exact ss_ret (by exact se_bl)))) (by exact ss_nil)) (by exact (ss_one (by exact ss_ret (by exact se_cmp so_le (by exact se_callB sc_lenE (by rfl) (by exact T.n_len) (by decide +kernel) (by exact (sa_cons (by exact se_compS (own := [("place", 1)]) rfl sc_is_program.nd (by exact (si_seq (by exact sv_c 0))) (blkOk_by (N := ["value", "place"]) (sc := defScope s_is_program) (own := [("place", 1)]) (by decide +kernel)) (fun _ _ _ _ _ => (by exact (sg_name (ws := [1]) (i := 1) sc_is_program.nd rfl (Or.inl rfl) (by decide)))) (fun _ _ _ _ _ => sts_nil) (fun _ _ _ _ _ => (by exact se_ixE (hu65 hr) (by exact sv_l 1) (by exact se_int)))) sa_nil))) (by exact T.e_MOST_DIFFERENT rfl) (nomark _))))))))
theorem ok_check_program (T : Top K mg) : FnG P w K mg base 5 T.f_check_program T.d_check_program ["program"] (spF K (T.ct P w) m_check_program 1) := fn_sim T.F_check_program sc_check_program fun cdv A outer s H E hr hgd =>
  (ss_one (by exact ss_if (by exact st_not (by exact st_truth (by exact se_call (ps := ["value"]) (by exact ok_is_program T) (by exact hr.mono (by decide)) (by exact hgd) (by rfl) (by exact T.m_is_program) (by exact T.F_is_program.kp) (by exact T.b_is_program) (by exact (sa_cons (by exact sv_l 0) sa_nil))))) (by exact (ss_one (by exact ss_never))) (by exact ss_nil)))
theorem ok_is_row (T : Top K mg) : FnG P w K mg base 3 T.f_is_row T.d_is_row ["value", "lines", "states"] (spF K (T.ct P w) m_is_row 3) := fn_sim T.F_is_row sc_is_row fun cdv A outer s H E hr hgd =>
  (ss_cons (by exact ss_if (by exact SW.st (sw_or (by exact st_not (by exact st_truth (by exact se_callB sc_isi (by rfl) (by exact T.n_isinstance) (by decide +kernel) (by exact (sa_cons (by exact sv_l 0) (sa_cons (by exact se_ty (by rfl) (by exact T.n_tuple) (by decide +kernel)) sa_nil)))))) (sw_or (by exact st_cmp (by exact so_ne hr.units) (by exact se_callB sc_lenE (by rfl) (by exact T.n_len) (by decide +kernel) (by exact (sa_cons (by exact sv_l 0) sa_nil))) (by exact se_int) (nomark _)) (sw_or1 (by exact st_not (by exact st_truth (by exact se_call (ps := ["value", "least", "greatest"]) (by exact ok_is_between T) (by exact hr.mono (by decide)) (by exact hgd) (by rfl) (by exact T.m_is_between) (by exact T.F_is_between.kp) (by exact T.b_is_between) (by exact (sa_cons (by exact se_ixE (hu65 hr) (by exact sv_l 0) (by exact se_int)) (sa_cons (by exact se_int) (sa_cons (by exact se_op so_sub (by exact sv_l 1) (by exact se_int)) sa_nil))))))))))) (by exact (ss_one (by exact ss_ret (by exact se_bl)))) (by exact ss_nil)) (by exact (ss_cons (by exact ss_if (by exact SW.st (sw_or (by exact st_not (by exact st_truth (by exact se_call (ps := ["value", "least", "greatest"]) (by exact ok_is_between T) (by exact hr.mono (by decide)) (by exact hgd) (by rfl) (by exact T.m_is_between) (by exact T.F_is_between.kp) (by exact T.b_is_between) (by exact (sa_cons (by exact se_ixE (hu65 hr) (by exact sv_l 0) (by exact se_int)) (sa_cons (by exact se_int) (sa_cons (by exact se_op so_sub (by exact sv_c 2) (by exact se_int)) sa_nil))))))) (sw_or (by exact st_not (by exact st_truth (by exact se_callB sc_isi (by rfl) (by exact T.n_isinstance) (by decide +kernel) (by exact (sa_cons (by exact se_ixE (hu65 hr) (by exact sv_l 0) (by exact se_int)) (sa_cons (by exact se_ty (by rfl) (by exact T.n_tuple) (by decide +kernel)) sa_nil)))))) (sw_or1 (by exact st_cmp (by exact so_ne hr.units) (by exact se_callB sc_lenE (by rfl) (by exact T.n_len) (by decide +kernel) (by exact (sa_cons (by exact se_ixE (hu65 hr) (by exact sv_l 0) (by exact se_int)) sa_nil))) (by exact sv_l 1) (nomark _)))))) (by exact (ss_one (by exact ss_ret (by exact se_bl)))) (by exact ss_nil)) (by exact (ss_one (by exact ss_ret (by exact se_callB (sc_all rfl) (by rfl) (by exact T.n_all) (by decide +kernel) (by exact (sa_cons (by exact se_comp (own := [("state", 3)]) rfl sc_is_row.nd (by exact (si_seq (by exact se_ixE (hu65 hr) (by exact sv_l 0) (by exact se_int)))) (blkOk_by (N := ["value", "lines", "states", "state"]) (sc := defScope s_is_row) (own := [("state", 3)]) (by decide +kernel)) (fun _ _ _ _ _ => (by exact (sg_name (ws := [3]) (i := 3) sc_is_row.nd rfl (Or.inl rfl) (by decide)))) (fun _ _ _ _ _ => sts_nil) (fun _ _ _ _ _ => (by exact se_call (ps := ["value", "least", "greatest"]) (by exact ok_is_between T) (by exact hr.mono (by decide)) (by exact hgd) (by rfl) (by exact T.m_is_between) (by exact T.F_is_between.kp) (by exact T.b_is_between) (by exact (sa_cons (by exact sv_l 3) (sa_cons (by exact se_int) (sa_cons (by exact se_op so_sub (by exact sv_f 2) (by exact se_int)) sa_nil))))))) sa_nil)))))))))
theorem ok_is_policy (T : Top K mg) : FnG P w K mg base 4 T.f_is_policy T.d_is_policy ["value"] (spF K (T.ct P w) m_is_policy 1) := fn_sim T.F_is_policy sc_is_policy fun cdv A outer s H E hr hgd =>
  (ss_cons (by exact ss_if (by exact SW.st (sw_or (by exact st_not (by exact st_truth (by exact se_callB sc_isi (by rfl) (by exact T.n_isinstance) (by decide +kernel) (by exact (sa_cons (by exact sv_l 0) (sa_cons (by exact se_ty (by rfl) (by exact T.n_tuple) (by decide +kernel)) sa_nil)))))) (sw_or (by exact st_cmp (by exact so_ne hr.units) (by exact se_callB sc_lenE (by rfl) (by exact T.n_len) (by decide +kernel) (by exact (sa_cons (by exact sv_l 0) sa_nil))) (by exact se_int) (nomark _)) (sw_or1 (by exact st_not (by exact st_truth (by exact se_call (ps := ["value", "least", "greatest"]) (by exact ok_is_between T) (by exact hr.mono (by decide)) (by exact hgd) (by rfl) (by exact T.m_is_between) (by exact T.F_is_between.kp) (by exact T.b_is_between) (by exact (sa_cons (by exact se_ixE (hu65 hr) (by exact sv_l 0) (by exact se_int)) (sa_cons (by exact se_int) (sa_cons (by exact T.e_MOST_LINES rfl) sa_nil))))))))))) (by exact (ss_one (by exact ss_ret (by exact se_bl)))) (by exact ss_nil)) (by exact (ss_cons (by exact ss_asg (by exact sv_l 0) (by exact (sg_or2 (sg_tup rfl (sgs_cons (by exact (sg_name (ws := [1, 2]) (i := 1) sc_is_policy.nd rfl (Or.inr rfl) (by decide))) (sgs_cons (by exact (sg_name (ws := [1, 2]) (i := 2) sc_is_policy.nd rfl (Or.inr rfl) (by decide))) sgs_nil))) (sg_unl rfl (sgs_cons (by exact (sg_name (ws := [1, 2]) (i := 1) sc_is_policy.nd rfl (Or.inr rfl) (by decide))) (sgs_cons (by exact (sg_name (ws := [1, 2]) (i := 2) sc_is_policy.nd rfl (Or.inr rfl) (by decide))) sgs_nil)))))) (by exact (ss_cons (by exact ss_if (by exact SW.st (sw_or (by exact st_not (by exact st_truth (by exact se_callB sc_isi (by rfl) (by exact T.n_isinstance) (by decide +kernel) (by exact (sa_cons (by exact sv_c 2) (sa_cons (by exact se_ty (by rfl) (by exact T.n_tuple) (by decide +kernel)) sa_nil)))))) (sw_or1 (by exact st_not (by exact st_chain so_le so_le (by exact se_int) (by exact se_callB sc_lenE (by rfl) (by exact T.n_len) (by decide +kernel) (by exact (sa_cons (by exact sv_c 2) sa_nil))) (by exact T.e_MOST_STATES rfl)))))) (by exact (ss_one (by exact ss_ret (by exact se_bl)))) (by exact ss_nil)) (by exact (ss_one (by exact ss_ret (by exact se_callB (sc_all rfl) (by rfl) (by exact T.n_all) (by decide +kernel) (by exact (sa_cons (by exact se_comp (own := [("row", 3)]) rfl sc_is_policy.nd (by exact (si_seq (by exact sv_c 2))) (blkOk_by (N := ["value", "lines", "rows", "row"]) (sc := defScope s_is_policy) (own := [("row", 3)]) (by decide +kernel)) (fun _ _ _ _ _ => (by exact (sg_name (ws := [3]) (i := 3) sc_is_policy.nd rfl (Or.inl rfl) (by decide)))) (fun _ _ _ _ _ => sts_nil) (fun _ _ _ _ _ => (by exact se_call (ps := ["value", "lines", "states"]) (by exact ok_is_row T) (by exact hr.mono (by decide)) (by exact hgd) (by rfl) (by exact T.m_is_row) (by exact T.F_is_row.kp) (by exact T.b_is_row) (by exact (sa_cons (by exact sv_l 3) (sa_cons (by exact sv_f 1) (sa_cons (by exact se_callB sc_lenE (by rfl) (by exact T.n_len) (by decide +kernel) (by exact (sa_cons (by exact sv_f 2) sa_nil))) sa_nil))))))) sa_nil)))))))))))
theorem ok_is_device (T : Top K mg) : FnG P w K mg base 5 T.f_is_device T.d_is_device ["value"] (spF K (T.ct P w) m_is_device 1) := fn_sim T.F_is_device sc_is_device fun cdv A outer s H E hr hgd =>
  (ss_cons (by exact ss_if (by exact SW.st (sw_or (by exact st_not (by exact st_truth (by exact se_callB sc_isi (by rfl) (by exact T.n_isinstance) (by decide +kernel) (by exact (sa_cons (by exact sv_l 0) (sa_cons (by exact se_ty (by rfl) (by exact T.n_tuple) (by decide +kernel)) sa_nil)))))) (sw_or (by exact st_cmp (by exact so_notinE (hu65 hr)) (by exact se_callB sc_lenE (by rfl) (by exact T.n_len) (by decide +kernel) (by exact (sa_cons (by exact sv_l 0) sa_nil))) (by exact se_tup (by exact (sa_cons (by exact se_int) (sa_cons (by exact se_int) sa_nil)))) (by rfl)) (sw_or1 (by exact st_not (by exact st_truth (by exact se_callB sc_isi (by rfl) (by exact T.n_isinstance) (by decide +kernel) (by exact (sa_cons (by exact se_ixE (hu65 hr) (by exact sv_l 0) (by exact se_int)) (sa_cons (by exact se_ty (by rfl) (by exact T.n_str) (by decide +kernel)) sa_nil)))))))))) (by exact (ss_one (by exact ss_ret (by exact se_bl)))) (by exact ss_nil)) (by exact (ss_cons (by exact ss_if (by exact SW.st (sw_or (by exact SW.st (sw_and (by exact st_cmp (by exact so_eq hr.units) (by exact se_callB sc_lenE (by rfl) (by exact T.n_len) (by decide +kernel) (by exact (sa_cons (by exact sv_l 0) sa_nil))) (by exact se_int) (nomark _)) (sw_and1 (by exact st_cmp (by exact so_ne hr.units) (by exact se_ixE (hu65 hr) (by exact sv_l 0) (by exact se_int)) (by exact se_str) (nomark _))))) (sw_or1 (by exact SW.st (sw_and (by exact st_cmp (by exact so_eq hr.units) (by exact se_callB sc_lenE (by rfl) (by exact T.n_len) (by decide +kernel) (by exact (sa_cons (by exact sv_l 0) sa_nil))) (by exact se_int) (nomark _)) (sw_and1 (by exact st_cmp (by exact so_notinE (hu65 hr)) (by exact se_ixE (hu65 hr) (by exact sv_l 0) (by exact se_int)) (by exact T.e_LEVELS rfl) (by rfl)))))))) (by exact (ss_one (by exact ss_ret (by exact se_bl)))) (by exact ss_nil)) (by exact (ss_one (by exact ss_ret (by exact se_callB (sc_all rfl) (by rfl) (by exact T.n_all) (by decide +kernel) (by exact (sa_cons (by exact se_comp (own := [("policy", 1)]) rfl sc_is_device.nd (by exact (si_seq (by exact se_slice (by exact sv_l 0) (by exact so_some (by exact se_int)) so_none))) (blkOk_by (N := ["value", "policy"]) (sc := defScope s_is_device) (own := [("policy", 1)]) (by decide +kernel)) (fun _ _ _ _ _ => (by exact (sg_name (ws := [1]) (i := 1) sc_is_device.nd rfl (Or.inl rfl) (by decide)))) (fun _ _ _ _ _ => sts_nil) (fun _ _ _ _ _ => (by exact se_call (ps := ["value"]) (by exact ok_is_policy T) (by exact hr.mono (by decide)) (by exact hgd) (by rfl) (by exact T.m_is_policy) (by exact T.F_is_policy.kp) (by exact T.b_is_policy) (by exact (sa_cons (by exact sv_l 1) sa_nil))))) sa_nil)))))))))
theorem ok_check_device (T : Top K mg) : FnG P w K mg base 6 T.f_check_device T.d_check_device ["device"] (spF K (T.ct P w) m_check_device 1) := fn_sim T.F_check_device sc_check_device fun cdv A outer s H E hr hgd =>
  (ss_one (by exact ss_if (by exact st_not (by exact st_truth (by exact se_call (ps := ["value"]) (by exact ok_is_device T) (by exact hr.mono (by decide)) (by exact hgd) (by rfl) (by exact T.m_is_device) (by exact T.F_is_device.kp) (by exact T.b_is_device) (by exact (sa_cons (by exact sv_l 0) sa_nil))))) (by exact (ss_one (by exact ss_never))) (by exact ss_nil)))
theorem ok_moments_of (T : Top K mg) : FnG P w K mg base 7 T.f_moments_of T.d_moments_of ["device", "program"] (spF K (T.ct P w) m_moments_of 2) := fn_sim T.F_moments_of sc_moments_of fun cdv A outer s H E hr hgd =>
  (ss_cons (by exact ss_expr (by exact se_call (ps := ["device"]) (by exact ok_check_device T) (by exact hr.mono (by decide)) (by exact hgd) (by rfl) (by exact T.m_check_device) (by exact T.F_check_device.kp) (by exact T.b_check_device) (by exact (sa_cons (by exact sv_l 0) sa_nil)))) (by exact (ss_cons (by exact ss_expr (by exact se_call (ps := ["program"]) (by exact ok_check_program T) (by exact hr.mono (by decide)) (by exact hgd) (by rfl) (by exact T.m_check_program) (by exact T.F_check_program.kp) (by exact T.b_check_program) (by exact (sa_cons (by exact sv_l 1) sa_nil)))) (by exact (ss_one (by exact ss_ret (by exact se_make (ps := ["self", "device", "program"]) (by exact T.mk_Moments) rfl (by exact ok_Moments_init T) (by exact hr.mono (by decide)) (by exact hgd) (by rfl) (by exact T.mC_Moments) (by exact T.b_Moments_init) (by exact (sa_cons (by exact sv_l 0) (sa_cons (by exact sv_l 1) sa_nil))))))))))
theorem ok_verdicts (T : Top K mg) : FnG P w K mg base 8 T.f_verdicts T.d_verdicts ["device", "program"] (spF K (T.ct P w) m_verdicts 2) := fn_sim T.F_verdicts sc_verdicts fun cdv A outer s H E hr hgd =>
  (ss_cons (by exact ss_set (i := 2) sc_verdicts.nd rfl (Or.inl rfl) (by exact se_call (ps := ["device", "program"]) (by exact ok_moments_of T) (by exact hr.mono (by decide)) (by exact hgd) (by rfl) (by exact T.m_moments_of) (by exact T.F_moments_of.kp) (by exact T.b_moments_of) (by exact (sa_cons (by exact sv_l 0) (sa_cons (by exact sv_l 1) sa_nil))))) (by exact (ss_cons (by exact ss_setLc (i := 3) (own := [("place", 6)]) rfl sc_verdicts.nd rfl rfl (sw_true rfl rfl rfl (by decide +kernel)) (by exact (si_seq (by exact sv_l 1))) (blkOk_by (N := ["device", "program", "moments", "found", "index", "moment", "place", "misses"]) (sc := defScope s_verdicts) (own := [("place", 6)]) (by decide +kernel)) (fun _ _ _ _ _ => (by exact (sg_name (ws := [6]) (i := 6) sc_verdicts.nd rfl (Or.inl rfl) (by decide)))) (fun _ _ _ _ _ => sts_nil) (fun _ _ _ _ _ => (by exact se_lst (by exact sa_nil)))) (by exact (ss_cons (by exact ss_for PassesOwn.never rfl (by exact (si_enum rfl (by exact T.n_enumerate) (by exact se_fld (C := T.C_Moments) (by exact sv_l 2) rfl (by exact T.cl_Moments) (by exact T.na_Moments_order)))) (by exact (sg_or2 (sg_tup rfl (sgs_cons (by exact (sg_name (ws := [4, 5]) (i := 4) sc_verdicts.nd rfl (Or.inl rfl) (by decide))) (sgs_cons (by exact (sg_name (ws := [4, 5]) (i := 5) sc_verdicts.nd rfl (Or.inl rfl) (by decide))) sgs_nil))) (sg_unl rfl (sgs_cons (by exact (sg_name (ws := [4, 5]) (i := 4) sc_verdicts.nd rfl (Or.inl rfl) (by decide))) (sgs_cons (by exact (sg_name (ws := [4, 5]) (i := 5) sc_verdicts.nd rfl (Or.inl rfl) (by decide))) sgs_nil))))) (by exact (ss_one (by exact ss_expr (by exact (se_bm PySem.F.plainAttrs_list PySem.F.slot_list_append PySem.F.type_list_append sm_append (by exact se_ixE (hu65 hr) (by exact sv_l 3) (by exact se_ixE (hu65 hr) (by exact sv_l 5) (by exact se_int))) (by exact (sa_cons (by exact se_ixE (hu65 hr) (by exact se_fld (C := T.C_Moments) (by exact sv_l 2) rfl (by exact T.cl_Moments) (by exact T.na_Moments_missed)) (by exact sv_l 4)) sa_nil)))))))) (by exact (ss_one (by exact ss_ret (by exact se_callTy sc_tuple (by rfl) (by exact T.n_tuple) (by decide +kernel) (by exact (sa_cons (by exact se_comp (own := [("misses", 7)]) rfl sc_verdicts.nd (by exact (si_seq (by exact sv_l 3))) (blkOk_by (N := ["device", "program", "moments", "found", "index", "moment", "place", "misses"]) (sc := defScope s_verdicts) (own := [("misses", 7)]) (by decide +kernel)) (fun _ _ _ _ _ => (by exact (sg_name (ws := [7]) (i := 7) sc_verdicts.nd rfl (Or.inl rfl) (by decide)))) (fun _ _ _ _ _ => sts_nil) (fun _ _ _ _ _ => (by exact se_call (ps := ["misses"]) (by exact ok_word_of T) (by exact hr.mono (by decide)) (by exact hgd) (by rfl) (by exact T.m_word_of) (by exact T.F_word_of.kp) (by exact T.b_word_of) (by exact (sa_cons (by exact sv_l 7) sa_nil))))) sa_nil)))))))))))
theorem ok__law_words (T : Top K mg) : FnG P w K mg base 1 T.f__law_words T.d__law_words ["_law_rows", "_law_count"] (spF K (T.ct P w) m__law_words 2) := fn_sim T.F__law_words sc__law_words fun cdv A outer s H E hr hgd =>
  (ss_cons (by exact ss_set (i := 2) sc__law_words.nd rfl (Or.inl rfl) (by exact se_lst (by exact sa_nil))) (by exact (ss_cons (by exact ss_for PassesOwn.never rfl (by exact (si_range1 rfl (by exact T.n_range) (by exact sv_l 1))) (by exact (sg_name (ws := [3]) (i := 3) sc__law_words.nd rfl (Or.inr rfl) (by decide))) (by exact (ss_cons (by exact ss_setLc (i := 4) (own := [("_law_row", 6)]) rfl sc__law_words.nd rfl rfl (sw_true rfl rfl rfl (by decide +kernel)) (by exact (si_seq (by exact sv_l 0))) (blkOk_by (N := ["_law_rows", "_law_count", "_law_found", "_law_at", "_law_told", "_law_word", "_law_row"]) (sc := defScope s__law_words) (own := [("_law_row", 6)]) (by decide +kernel)) (fun _ _ _ _ _ => (by exact (sg_name (ws := [6]) (i := 6) sc__law_words.nd rfl (Or.inl rfl) (by decide)))) (fun _ _ _ _ _ => (sts_one (by exact st_cmp (by exact so_eq hr.units) (by exact se_ixE (hu65 hr) (by exact sv_l 6) (by exact se_int)) (by exact sv_f 3) (nomark _)))) (fun _ _ _ _ _ => (by exact se_ixE (hu65 hr) (by exact sv_l 6) (by exact se_int)))) (by exact (ss_cons (by exact ss_set (i := 5) sc__law_words.nd rfl (Or.inl rfl) (by exact se_if (by exact SW.st (sw_and (by exact st_cmp (by exact so_inE (hu65 hr)) (by exact se_bl) (by exact sv_l 4) (by rfl)) (sw_and1 (by exact st_cmp (by exact so_inE (hu65 hr)) (by exact se_bl) (by exact sv_l 4) (by rfl))))) (by exact se_str) (by exact se_if (by exact st_cmp (by exact so_inE (hu65 hr)) (by exact se_bl) (by exact sv_l 4) (by rfl)) (by exact se_str) (by exact se_str)))) (by exact (ss_one (by exact ss_expr (by exact (se_bm PySem.F.plainAttrs_list PySem.F.slot_list_append PySem.F.type_list_append sm_append (by exact sv_l 2) (by exact (sa_cons (by exact se_if (by exact st_cmp (by exact so_eq hr.units) (by exact sv_l 4) (by exact se_lst (by exact sa_nil)) (nomark _)) (by exact se_str) (by exact sv_l 5)) sa_nil)))))))))))) (by exact (ss_one (by exact ss_ret (by exact se_callTy sc_tuple (by rfl) (by exact T.n_tuple) (by decide +kernel) (by exact (sa_cons (by exact sv_l 2) sa_nil)))))))))
theorem ok__law_go (T : Top K mg) : FnG P w K mg base 1 T.f__law_go T.d__law_go ["_law_table", "_law_box_here", "_law_at", "_law_who"] (spF K (T.ct P w) m__law_go 4) := fn_sim T.F__law_go sc__law_go fun cdv A outer s H E hr hgd =>
  (ss_cons (by exact ss_par (i := 4) (j := 5) rfl sc__law_go.nd rfl rfl (by decide) rfl rfl (by exact (sa_cons (by exact se_ixE (hu65 hr) (by exact se_ixE (hu65 hr) (by exact sv_l 0) (by exact se_int)) (by exact se_ixE (hu65 hr) (by exact se_ixE (hu65 hr) (by exact sv_l 1) (by exact se_int)) (by exact sv_l 2))) (sa_cons (by exact se_ixE (hu65 hr) (by exact se_ixE (hu65 hr) (by exact sv_l 1) (by exact se_int)) (by exact sv_l 2)) sa_nil))) (by rfl)) (by exact (ss_cons (by exact ss_if (by exact st_cmp (by exact so_inE (hu65 hr)) (by exact sv_l 3) (by exact sv_l 5) (by rfl)) (by exact (ss_cons (by exact ss_asg (by exact se_ixE (hu65 hr) (by exact se_ixE (hu65 hr) (by exact sv_l 4) (by exact se_int)) (by exact se_or2 (se_bm PySem.F.plainAttrs_list PySem.F.slot_list_index PySem.F.type_list_index (sm_index (hu65 hr)) (by exact sv_l 5) (by exact (sa_cons (by exact sv_l 3) sa_nil))) (se_bm PySem.F.plainAttrs_tuple PySem.F.slot_tuple_index PySem.F.type_tuple_index sm_tindex (by exact sv_l 5) (by exact (sa_cons (by exact sv_l 3) sa_nil))))) (by exact (sg_subE (ws := []) (hu65 hr) (by exact se_ixE (hu65 hr) (by exact sv_l 1) (by exact se_int)) (by exact sv_l 2)))) (by exact (ss_one (by exact ss_ret (by exact se_lst (by exact (sa_cons (by exact se_bl) (sa_cons (by exact se_non) sa_nil))))))))) (by exact ss_nil)) (by exact (ss_cons (by exact ss_set (i := 6) sc__law_go.nd rfl (Or.inl rfl) (by exact se_ixE (hu65 hr) (by exact sv_l 5) (by exact se_ixE (hu65 hr) (by exact sv_l 4) (by exact se_int)))) (by exact (ss_cons (by exact ss_asg (by exact sv_l 3) (by exact (sg_subE (ws := []) (hu65 hr) (by exact sv_l 5) (by exact se_ixE (hu65 hr) (by exact sv_l 4) (by exact se_int))))) (by exact (ss_cons (by exact ss_asg (by exact se_ixE (hu65 hr) (by exact sv_l 4) (by exact se_int)) (by exact (sg_subE (ws := []) (hu65 hr) (by exact se_ixE (hu65 hr) (by exact sv_l 1) (by exact se_int)) (by exact sv_l 2)))) (by exact (ss_one (by exact ss_ret (by exact se_lst (by exact (sa_cons (by exact se_bl) (sa_cons (by exact sv_l 6) sa_nil))))))))))))))))
theorem ok__law_ask (T : Top K mg) : FnG P w K mg base 2 T.f__law_ask T.d__law_ask ["_law_unit", "_law_box_here", "_law_who"] (spF K (T.ct P w) m__law_ask 3) := fn_sim T.F__law_ask sc__law_ask fun cdv A outer s H E hr hgd =>
  (ss_cons (by exact ss_set (i := 3) sc__law_ask.nd rfl (Or.inl rfl) (by exact se_callB (sc_any rfl) (by rfl) (by exact T.n_any) (by decide +kernel) (by exact (sa_cons (by exact se_comp (own := [("_law_lines", 9)]) rfl sc__law_ask.nd (by exact (si_seq (by exact se_ixE (hu65 hr) (by exact sv_l 1) (by exact se_int)))) (blkOk_by (N := ["_law_unit", "_law_box_here", "_law_who", "_law_is_held", "_law_is_hit", "_law_gone", "_law_out", "_law_line", "_law_row", "_law_lines"]) (sc := defScope s__law_ask) (own := [("_law_lines", 9)]) (by decide +kernel)) (fun _ _ _ _ _ => (by exact (sg_name (ws := [9]) (i := 9) sc__law_ask.nd rfl (Or.inl rfl) (by decide)))) (fun _ _ _ _ _ => sts_nil) (fun _ _ _ _ _ => (by exact se_cmp (by exact so_inE (hu65 hr)) (by exact sv_f 2) (by exact sv_l 9) (by rfl)))) sa_nil)))) (by exact (ss_cons (by exact ss_asg (by exact se_call (ps := ["_law_table", "_law_box_here", "_law_at", "_law_who"]) (by exact ok__law_go T) (by exact hr.mono (by decide)) (by exact hgd) (by rfl) (by exact T.m__law_go) (by exact T.F__law_go.kp) (by exact T.b__law_go) (by exact (sa_cons (by exact se_ixE (hu65 hr) (by exact sv_l 0) (by exact se_int)) (sa_cons (by exact sv_l 1) (sa_cons (by exact se_int) (sa_cons (by exact sv_c 2) sa_nil)))))) (by exact (sg_or2 (sg_tup rfl (sgs_cons (by exact (sg_name (ws := [4, 5]) (i := 4) sc__law_ask.nd rfl (Or.inl rfl) (by decide))) (sgs_cons (by exact (sg_name (ws := [4, 5]) (i := 5) sc__law_ask.nd rfl (Or.inl rfl) (by decide))) sgs_nil))) (sg_unl rfl (sgs_cons (by exact (sg_name (ws := [4, 5]) (i := 4) sc__law_ask.nd rfl (Or.inl rfl) (by decide))) (sgs_cons (by exact (sg_name (ws := [4, 5]) (i := 5) sc__law_ask.nd rfl (Or.inl rfl) (by decide))) sgs_nil)))))) (by exact (ss_cons (by exact ss_if (by exact SW.st (sw_or (by exact st_truth (by exact sv_l 4)) (sw_or1 (by exact st_cmp (by exact so_eq hr.units) (by exact se_callB sc_lenE (by rfl) (by exact T.n_len) (by decide +kernel) (by exact (sa_cons (by exact sv_l 0) sa_nil))) (by exact se_int) (nomark _))))) (by exact (ss_one (by exact ss_ret (by exact sv_l 3)))) (by exact ss_nil)) (by exact (ss_cons (by exact ss_if (by exact st_cmp (by exact so_ne hr.units) (by exact se_ixE (hu65 hr) (by exact sv_l 0) (by exact se_int)) (by exact se_str) (nomark _)) (by exact (ss_cons (by exact ss_asg (by exact se_call (ps := ["_law_table", "_law_box_here", "_law_at", "_law_who"]) (by exact ok__law_go T) (by exact hr.mono (by decide)) (by exact hgd) (by rfl) (by exact T.m__law_go) (by exact T.F__law_go.kp) (by exact T.b__law_go) (by exact (sa_cons (by exact se_ixE (hu65 hr) (by exact sv_l 0) (by exact se_int)) (sa_cons (by exact sv_l 1) (sa_cons (by exact se_int) (sa_cons (by exact sv_c 2) sa_nil)))))) (by exact (sg_or2 (sg_tup rfl (sgs_cons (by exact (sg_name (ws := [4, 6]) (i := 4) sc__law_ask.nd rfl (Or.inl rfl) (by decide))) (sgs_cons (by exact (sg_name (ws := [4, 6]) (i := 6) sc__law_ask.nd rfl (Or.inl rfl) (by decide))) sgs_nil))) (sg_unl rfl (sgs_cons (by exact (sg_name (ws := [4, 6]) (i := 4) sc__law_ask.nd rfl (Or.inl rfl) (by decide))) (sgs_cons (by exact (sg_name (ws := [4, 6]) (i := 6) sc__law_ask.nd rfl (Or.inl rfl) (by decide))) sgs_nil)))))) (by exact (ss_one (by exact ss_if (by exact SW.st (sw_and (by exact st_cmp (by exact so_eq hr.units) (by exact se_ixE (hu65 hr) (by exact sv_l 0) (by exact se_int)) (by exact se_str) (nomark _)) (sw_and (by exact st_cmp so_isnotE (by exact sv_l 6) (by exact se_non) (nomark _)) (sw_and1 (by exact st_cmp (by exact so_inE (hu65 hr)) (by exact sv_l 6) (by exact se_ixE (hu65 hr) (by exact se_ixE (hu65 hr) (by exact sv_l 1) (by exact se_int)) (by exact se_int)) (by rfl)))))) (by exact (ss_one (by exact ss_asg (by exact se_non) (by exact (sg_subE (ws := []) (hu65 hr) (by exact se_ixE (hu65 hr) (by exact se_ixE (hu65 hr) (by exact sv_l 1) (by exact se_int)) (by exact se_int)) (by exact se_or2 (se_bm PySem.F.plainAttrs_list PySem.F.slot_list_index PySem.F.type_list_index (sm_index (hu65 hr)) (by exact se_ixE (hu65 hr) (by exact se_ixE (hu65 hr) (by exact sv_l 1) (by exact se_int)) (by exact se_int)) (by exact (sa_cons (by exact sv_l 6) sa_nil))) (se_bm PySem.F.plainAttrs_tuple PySem.F.slot_tuple_index PySem.F.type_tuple_index sm_tindex (by exact se_ixE (hu65 hr) (by exact se_ixE (hu65 hr) (by exact sv_l 1) (by exact se_int)) (by exact se_int)) (by exact (sa_cons (by exact sv_l 6) sa_nil))))))))) (by exact ss_nil)))))) (by exact (ss_one (by exact ss_if (by exact st_cmp (by exact so_inE (hu65 hr)) (by exact sv_c 2) (by exact se_ixE (hu65 hr) (by exact se_ixE (hu65 hr) (by exact sv_l 1) (by exact se_int)) (by exact se_int)) (by rfl)) (by exact (ss_cons (by exact ss_par (i := 7) (j := 8) rfl sc__law_ask.nd rfl rfl (by decide) rfl rfl (by exact (sa_cons (by exact se_or2 (se_bm PySem.F.plainAttrs_list PySem.F.slot_list_index PySem.F.type_list_index (sm_index (hu65 hr)) (by exact se_ixE (hu65 hr) (by exact se_ixE (hu65 hr) (by exact sv_l 1) (by exact se_int)) (by exact se_int)) (by exact (sa_cons (by exact sv_c 2) sa_nil))) (se_bm PySem.F.plainAttrs_tuple PySem.F.slot_tuple_index PySem.F.type_tuple_index sm_tindex (by exact se_ixE (hu65 hr) (by exact se_ixE (hu65 hr) (by exact sv_l 1) (by exact se_int)) (by exact se_int)) (by exact (sa_cons (by exact sv_c 2) sa_nil)))) (sa_cons (by exact se_ixE (hu65 hr) (by exact se_ixE (hu65 hr) (by exact se_ixE (hu65 hr) (by exact sv_l 0) (by exact se_int)) (by exact se_int)) (by exact se_ixE (hu65 hr) (by exact se_ixE (hu65 hr) (by exact sv_l 1) (by exact se_int)) (by exact se_int))) sa_nil))) (by rfl)) (by exact (ss_cons (by exact ss_asg (by exact sv_l 5) (by exact (sg_subE (ws := []) (hu65 hr) (by exact se_ixE (hu65 hr) (by exact se_ixE (hu65 hr) (by exact sv_l 1) (by exact se_int)) (by exact se_int)) (by exact sv_l 7)))) (by exact (ss_one (by exact ss_asg (by exact se_ixE (hu65 hr) (by exact se_ixE (hu65 hr) (by exact sv_l 8) (by exact se_int)) (by exact sv_l 7)) (by exact (sg_subE (ws := []) (hu65 hr) (by exact se_ixE (hu65 hr) (by exact sv_l 1) (by exact se_int)) (by exact se_int)))))))))) (by exact (ss_one (by exact ss_if (by exact st_cmp so_isnotE (by exact sv_l 5) (by exact se_non) (nomark _)) (by exact (ss_one (by exact ss_expr (by exact se_call (ps := ["_law_table", "_law_box_here", "_law_at", "_law_who"]) (by exact ok__law_go T) (by exact hr.mono (by decide)) (by exact hgd) (by rfl) (by exact T.m__law_go) (by exact T.F__law_go.kp) (by exact T.b__law_go) (by exact (sa_cons (by exact se_ixE (hu65 hr) (by exact sv_l 0) (by exact se_int)) (sa_cons (by exact sv_l 1) (sa_cons (by exact se_int) (sa_cons (by exact sv_l 5) sa_nil))))))))) (by exact ss_nil)))))))) (by exact (ss_one (by exact ss_ret (by exact sv_l 3)))))))))))
theorem ok__law_filled (T : Top K mg) : FnG P w K mg base 1 T.f__law_filled T.d__law_filled ["_law_device_here", "_law_states", "_law_held"] (spF K (T.ct P w) m__law_filled 3) := fn_sim T.F__law_filled sc__law_filled fun cdv A outer s H E hr hgd =>
  (ss_cons (by exact ss_par (i := 3) (j := 4) rfl sc__law_filled.nd rfl rfl (by decide) rfl rfl (by exact (sa_cons (by exact se_lst (by exact sa_nil)) (sa_cons (by exact se_int) sa_nil))) (by rfl)) (by exact (ss_cons (by exact ss_for PassesOwn.never rfl (by exact (si_seq (by exact se_slice (by exact sv_l 0) (by exact so_some (by exact se_int)) so_none))) (by exact (sg_name (ws := [5]) (i := 5) sc__law_filled.nd rfl (Or.inl rfl) (by decide))) (by exact (ss_cons (by exact ss_expr (by exact (se_bm PySem.F.plainAttrs_list PySem.F.slot_list_append PySem.F.type_list_append sm_append (by exact sv_l 3) (by exact (sa_cons (by exact se_callTy (sc_listE rfl) (by rfl) (by exact T.n_list) (by decide +kernel) (by exact (sa_cons (by exact se_slice (by exact sv_l 2) (by exact so_some (by exact sv_l 4)) (by exact so_some (by exact se_op so_add (by exact sv_l 4) (by exact se_ixE (hu65 hr) (by exact sv_l 5) (by exact se_int))))) sa_nil))) sa_nil))))) (by exact (ss_one (by exact ss_set (i := 4) sc__law_filled.nd rfl (Or.inl rfl) (by exact se_op so_add (by exact sv_l 4) (by exact se_ixE (hu65 hr) (by exact sv_l 5) (by exact se_int))))))))) (by exact (ss_one (by exact ss_ret (by exact se_lst (by exact (sa_cons (by exact se_callTy (sc_listE rfl) (by rfl) (by exact T.n_list) (by decide +kernel) (by exact (sa_cons (by exact sv_l 1) sa_nil))) (sa_cons (by exact sv_l 3) sa_nil))))))))))
theorem ok__law_beads (T : Top K mg) : FnG P w K mg base 3 T.f__law_beads T.d__law_beads ["_law_device_here", "_law_plan_here", "_law_greatest"] (spF K (T.ct P w) m__law_beads 3) := fn_sim T.F__law_beads sc__law_beads fun cdv A outer s H E hr hgd =>
  (ss_cons (by exact ss_set (i := 3) sc__law_beads.nd rfl (Or.inl rfl) (by exact se_tup (by exact (sa_cons (by exact se_int) (sa_cons (by exact se_op so_mul (by exact se_tup (by exact (sa_cons (by exact se_int) sa_nil))) (by exact se_op so_sub (by exact se_callB sc_lenE (by rfl) (by exact T.n_len) (by decide +kernel) (by exact (sa_cons (by exact sv_l 0) sa_nil))) (by exact se_int))) (sa_cons (by exact se_op so_mul (by exact se_tup (by exact (sa_cons (by exact se_non) sa_nil))) (by exact se_callB (sc_sum rfl) (by rfl) (by exact T.n_sum) (by decide +kernel) (by exact (sa_cons (by exact se_comp (own := [("_law_table", 17)]) rfl sc__law_beads.nd (by exact (si_seq (by exact se_slice (by exact sv_l 0) (by exact so_some (by exact se_int)) so_none))) (blkOk_by (N := ["_law_device_here", "_law_plan_here", "_law_greatest", "_law_start", "_law_order", "_law_known", "_law_rows", "_law_place", "_law_states", "_law_held", "_law_box_here", "_law_goals", "_law_is_held", "_law_flat", "_law_lines", "_law_goal", "_law_bead", "_law_table"]) (sc := defScope s__law_beads) (own := [("_law_table", 17)]) (by decide +kernel)) (fun _ _ _ _ _ => (by exact (sg_name (ws := [17]) (i := 17) sc__law_beads.nd rfl (Or.inl rfl) (by decide)))) (fun _ _ _ _ _ => sts_nil) (fun _ _ _ _ _ => (by exact se_ixE (hu65 hr) (by exact sv_l 17) (by exact se_int)))) sa_nil)))) sa_nil)))))) (by exact (ss_cons (by exact ss_par3 (i := 4) (j := 5) (l := 6) rfl sc__law_beads.nd rfl rfl rfl (by decide) (by decide) (by decide) rfl rfl rfl (by exact (sa_cons (by exact se_lst (by exact (sa_cons (by exact sv_l 3) sa_nil))) (sa_cons (by exact se_or2 (by exact se_dict1N (hu65 hr) (by exact sv_l 3) (by exact se_int)) (by exact se_dict1K (by exact sv_l 3) (by exact se_int))) (sa_cons (by exact se_lst (by exact sa_nil)) sa_nil)))) (by rfl)) (by exact (ss_cons (by exact ss_while 1000000 PassesOwn.never (by exact st_cmp so_lt (by exact se_callB sc_lenE (by rfl) (by exact T.n_len) (by decide +kernel) (by exact (sa_cons (by exact sv_l 6) sa_nil))) (by exact se_callB sc_lenE (by rfl) (by exact T.n_len) (by decide +kernel) (by exact (sa_cons (by exact sv_l 4) sa_nil))) (nomark _)) (by exact (ss_cons (by exact ss_asg (by exact se_ixE (hu65 hr) (by exact sv_l 4) (by exact se_callB sc_lenE (by rfl) (by exact T.n_len) (by decide +kernel) (by exact (sa_cons (by exact sv_l 6) sa_nil)))) (by exact (sg_or2 (sg_tup rfl (sgs_cons (by exact (sg_name (ws := [7, 8, 9]) (i := 7) sc__law_beads.nd rfl (Or.inl rfl) (by decide))) (sgs_cons (by exact (sg_name (ws := [7, 8, 9]) (i := 8) sc__law_beads.nd rfl (Or.inl rfl) (by decide))) (sgs_cons (by exact (sg_name (ws := [7, 8, 9]) (i := 9) sc__law_beads.nd rfl (Or.inl rfl) (by decide))) sgs_nil)))) (sg_unl rfl (sgs_cons (by exact (sg_name (ws := [7, 8, 9]) (i := 7) sc__law_beads.nd rfl (Or.inl rfl) (by decide))) (sgs_cons (by exact (sg_name (ws := [7, 8, 9]) (i := 8) sc__law_beads.nd rfl (Or.inl rfl) (by decide))) (sgs_cons (by exact (sg_name (ws := [7, 8, 9]) (i := 9) sc__law_beads.nd rfl (Or.inl rfl) (by decide))) sgs_nil))))))) (by exact (ss_cons (by exact ss_par (i := 10) (j := 11) rfl sc__law_beads.nd rfl rfl (by decide) rfl rfl (by exact (sa_cons (by exact se_call (ps := ["_law_device_here", "_law_states", "_law_held"]) (by exact ok__law_filled T) (by exact hr.mono (by decide)) (by exact hgd) (by rfl) (by exact T.m__law_filled) (by exact T.F__law_filled.kp) (by exact T.b__law_filled) (by exact (sa_cons (by exact sv_l 0) (sa_cons (by exact sv_l 8) (sa_cons (by exact sv_l 9) sa_nil))))) (sa_cons (by exact se_lst (by exact sa_nil)) sa_nil))) (by rfl)) (by exact (ss_cons (by exact ss_set (i := 12) sc__law_beads.nd rfl (Or.inl rfl) (by exact se_call (ps := ["_law_unit", "_law_box_here", "_law_who"]) (by exact ok__law_ask T) (by exact hr.mono (by decide)) (by exact hgd) (by rfl) (by exact T.m__law_ask) (by exact T.F__law_ask.kp) (by exact T.b__law_ask) (by exact (sa_cons (by exact sv_l 0) (sa_cons (by exact sv_l 10) (sa_cons (by exact se_ixE (hu65 hr) (by exact se_ixE (hu65 hr) (by exact sv_l 1) (by exact sv_l 7)) (by exact se_int)) sa_nil)))))) (by exact (ss_cons (by exact ss_set (i := 13) sc__law_beads.nd rfl (Or.inl rfl) (by exact se_lst (by exact sa_nil))) (by exact (ss_cons (by exact ss_for PassesOwn.never rfl (by exact (si_seq (by exact se_ixE (hu65 hr) (by exact sv_l 10) (by exact se_int)))) (by exact (sg_name (ws := [14]) (i := 14) sc__law_beads.nd rfl (Or.inl rfl) (by decide))) (by exact (ss_one (by exact ss_set (i := 13) sc__law_beads.nd rfl (Or.inl rfl) (by exact se_op so_add (by exact sv_l 13) (by exact sv_l 14)))))) (by exact (ss_cons (by exact ss_for PassesOwn.never rfl (by exact (si_seq (by exact se_ixE (hu65 hr) (by exact se_ixE (hu65 hr) (by exact sv_l 1) (by exact sv_l 7)) (by exact se_int)))) (by exact (sg_name (ws := [15]) (i := 15) sc__law_beads.nd rfl (Or.inl rfl) (by decide))) (by exact (ss_cons (by exact ss_set (i := 16) sc__law_beads.nd rfl (Or.inl rfl) (by exact se_tup (by exact (sa_cons (by exact sv_l 15) (sa_cons (by exact se_callTy sc_tuple (by rfl) (by exact T.n_tuple) (by decide +kernel) (by exact (sa_cons (by exact se_ixE (hu65 hr) (by exact sv_l 10) (by exact se_int)) sa_nil))) (sa_cons (by exact se_callTy sc_tuple (by rfl) (by exact T.n_tuple) (by decide +kernel) (by exact (sa_cons (by exact sv_l 13) sa_nil))) sa_nil)))))) (by exact (ss_cons (by exact ss_if (by exact st_cmp (by exact so_notinE (hu65 hr)) (by exact sv_l 16) (by exact sv_l 5) (by rfl)) (by exact (ss_cons (by exact ss_asg (by exact se_callB sc_lenE (by rfl) (by exact T.n_len) (by decide +kernel) (by exact (sa_cons (by exact sv_l 4) sa_nil))) (by exact (sg_subE (ws := []) (hu65 hr) (by exact sv_l 5) (by exact sv_l 16)))) (by exact (ss_one (by exact ss_expr (by exact (se_bm PySem.F.plainAttrs_list PySem.F.slot_list_append PySem.F.type_list_append sm_append (by exact sv_l 4) (by exact (sa_cons (by exact sv_l 16) sa_nil))))))))) (by exact ss_nil)) (by exact (ss_one (by exact ss_expr (by exact (se_bm PySem.F.plainAttrs_list PySem.F.slot_list_append PySem.F.type_list_append sm_append (by exact sv_l 11) (by exact (sa_cons (by exact se_ixE (hu65 hr) (by exact sv_l 5) (by exact sv_l 16)) sa_nil)))))))))))) (by exact (ss_cons (by exact ss_expr (by exact (se_bm PySem.F.plainAttrs_list PySem.F.slot_list_append PySem.F.type_list_append sm_append (by exact sv_l 6) (by exact (sa_cons (by exact se_tup (by exact (sa_cons (by exact sv_l 7) (sa_cons (by exact sv_l 12) (sa_cons (by exact sv_l 11) sa_nil))))) sa_nil))))) (by exact (ss_one (by exact ss_if (by exact st_cmp so_gt (by exact se_callB sc_lenE (by rfl) (by exact T.n_len) (by decide +kernel) (by exact (sa_cons (by exact sv_l 4) sa_nil))) (by exact sv_l 2) (nomark _)) (by exact (ss_one (by exact ss_ret (by exact se_non)))) (by exact ss_nil))))))))))))))))))) (by exact (ss_one (by exact ss_ret (by exact sv_l 6)))))))))
theorem ok__law_draw (T : Top K mg) : FnG P w K mg base 1 T.f__law_draw T.d__law_draw ["_law_pool_here", "_law_most"] (spF K (T.ct P w) m__law_draw 2) := fn_sim T.F__law_draw sc__law_draw fun cdv A outer s H E hr hgd =>
  (ss_cons (by exact ss_asg (by exact se_op so_add (by exact se_ixE (hu65 hr) (by exact sv_l 0) (by exact se_int)) (by exact se_int)) (by exact (sg_subE (ws := []) (hu65 hr) (by exact sv_l 0) (by exact se_int)))) (by exact (ss_cons (by exact ss_set (i := 2) sc__law_draw.nd rfl (Or.inl rfl) (by exact se_callTy sc_int (by rfl) (by exact T.n_int) (by decide +kernel) (by exact (sa_cons (by exact se_ixE (hu65 hr) (by exact sv_l 0) (by exact se_int)) sa_nil)))) (by exact (ss_cons (by exact ss_asg (by exact se_op so_mod (by exact se_op so_add (by exact se_op so_mul (by exact sv_l 2) (by exact se_op so_add (by exact se_op so_mod (by exact sv_l 2) (by exact se_int)) (by exact se_int))) (by exact se_op so_mul (by exact se_int) (by exact se_ixE (hu65 hr) (by exact sv_l 0) (by exact se_int)))) (by exact se_int)) (by exact (sg_subE (ws := []) (hu65 hr) (by exact sv_l 0) (by exact se_int)))) (by exact (ss_cons (by exact ss_if (by exact st_cmp so_gt (by exact se_ixE (hu65 hr) (by exact sv_l 0) (by exact se_int)) (by exact se_int) (nomark _)) (by exact (ss_cons (by exact ss_asg (by exact se_callB sc_divmod (by rfl) (by exact T.n_divmod) (by decide +kernel) (by exact (sa_cons (by exact se_ixE (hu65 hr) (by exact sv_l 0) (by exact se_int)) (sa_cons (by exact sv_l 1) sa_nil)))) (by exact (sg_or2 (sg_tup rfl (sgs_cons (by exact (sg_subE (ws := [3]) (hu65 hr) (by exact sv_l 0) (by exact se_int))) (sgs_cons (by exact (sg_name (ws := [3]) (i := 3) sc__law_draw.nd rfl (Or.inl rfl) (by decide))) sgs_nil))) (sg_unl rfl (sgs_cons (by exact (sg_subE (ws := [3]) (hu65 hr) (by exact sv_l 0) (by exact se_int))) (sgs_cons (by exact (sg_name (ws := [3]) (i := 3) sc__law_draw.nd rfl (Or.inl rfl) (by decide))) sgs_nil)))))) (by exact (ss_one (by exact ss_ret (by exact sv_l 3)))))) (by exact ss_nil)) (by exact (ss_one (by exact ss_ret (by exact se_op so_mod (by exact se_op so_fdiv (by exact se_ixE (hu65 hr) (by exact sv_l 0) (by exact se_int)) (by exact se_int)) (by exact sv_l 1))))))))))))
theorem ok__law_plan (T : Top K mg) : FnG P w K mg base 2 T.f__law_plan T.d__law_plan ["_law_pool_here", "_law_most", "_law_many"] (spF K (T.ct P w) m__law_plan 3) := fn_sim T.F__law_plan sc__law_plan fun cdv A outer s H E hr hgd =>
  (ss_cons (by exact ss_asg (by exact se_tup (by exact (sa_cons (by exact se_op so_add (by exact se_int) (by exact se_call (ps := ["_law_pool_here", "_law_most"]) (by exact ok__law_draw T) (by exact hr.mono (by decide)) (by exact hgd) (by rfl) (by exact T.m__law_draw) (by exact T.F__law_draw.kp) (by exact T.b__law_draw) (by exact (sa_cons (by exact sv_c 0) (sa_cons (by exact sv_l 1) sa_nil))))) (sa_cons (by exact se_lst (by exact sa_nil)) sa_nil)))) (by exact (sg_or2 (sg_tup rfl (sgs_cons (by exact (sg_name (ws := [3, 4]) (i := 3) sc__law_plan.nd rfl (Or.inr rfl) (by decide))) (sgs_cons (by exact (sg_name (ws := [3, 4]) (i := 4) sc__law_plan.nd rfl (Or.inl rfl) (by decide))) sgs_nil))) (sg_unl rfl (sgs_cons (by exact (sg_name (ws := [3, 4]) (i := 3) sc__law_plan.nd rfl (Or.inr rfl) (by decide))) (sgs_cons (by exact (sg_name (ws := [3, 4]) (i := 4) sc__law_plan.nd rfl (Or.inl rfl) (by decide))) sgs_nil)))))) (by exact (ss_cons (by exact ss_for PassesOwn.never rfl (by exact (si_range1 rfl (by exact T.n_range) (by exact sv_c 3))) (by exact (sg_name (ws := [5]) (i := 5) sc__law_plan.nd rfl (Or.inl rfl) (by decide))) (by exact (ss_cons (by exact ss_setLc (i := 6) (own := [("_law_turn", 7)]) rfl sc__law_plan.nd rfl rfl (sw_true rfl rfl rfl (by decide +kernel)) (by exact (si_range1 rfl (by exact T.n_range) (by exact se_ixE (hu65 hr) (by exact se_lst (by exact (sa_cons (by exact se_int) (sa_cons (by exact se_int) (sa_cons (by exact se_int) (sa_cons (by exact se_int) (sa_cons (by exact se_int) (sa_cons (by exact se_int) sa_nil)))))))) (by exact se_call (ps := ["_law_pool_here", "_law_most"]) (by exact ok__law_draw T) (by exact hr.mono (by decide)) (by exact hgd) (by rfl) (by exact T.m__law_draw) (by exact T.F__law_draw.kp) (by exact T.b__law_draw) (by exact (sa_cons (by exact sv_c 0) (sa_cons (by exact se_int) sa_nil))))))) (blkOk_by (N := ["_law_pool_here", "_law_most", "_law_many", "_law_count", "_law_found", "_law_at", "_law_goals", "_law_turn"]) (sc := defScope s__law_plan) (own := [("_law_turn", 7)]) (by decide +kernel)) (fun _ _ _ _ _ => (by exact (sg_name (ws := [7]) (i := 7) sc__law_plan.nd rfl (Or.inl rfl) (by decide)))) (fun _ _ _ _ _ => sts_nil) (fun _ _ _ _ _ => (by exact se_call (ps := ["_law_pool_here", "_law_most"]) (by exact ok__law_draw T) (by exact hr.mono (by decide)) (by exact hgd) (by rfl) (by exact T.m__law_draw) (by exact T.F__law_draw.kp) (by exact T.b__law_draw) (by exact (sa_cons (by exact sv_f 0) (sa_cons (by exact sv_f 3) sa_nil)))))) (by exact (ss_one (by exact ss_expr (by exact (se_bm PySem.F.plainAttrs_list PySem.F.slot_list_append PySem.F.type_list_append sm_append (by exact sv_l 4) (by exact (sa_cons (by exact se_tup (by exact (sa_cons (by exact se_ixE (hu65 hr) (by exact se_str) (by exact se_call (ps := ["_law_pool_here", "_law_most"]) (by exact ok__law_draw T) (by exact hr.mono (by decide)) (by exact hgd) (by rfl) (by exact T.m__law_draw) (by exact T.F__law_draw.kp) (by exact T.b__law_draw) (by exact (sa_cons (by exact sv_c 0) (sa_cons (by exact sv_l 2) sa_nil))))) (sa_cons (by exact se_callTy sc_tuple (by rfl) (by exact T.n_tuple) (by decide +kernel) (by exact (sa_cons (by exact se_sortSet rfl (by rfl) (by exact T.n_sorted) (by rfl) (by exact T.n_set) (by exact sv_l 6)) sa_nil))) sa_nil)))) sa_nil)))))))))) (by exact (ss_one (by exact ss_ret (by exact se_callTy sc_tuple (by rfl) (by exact T.n_tuple) (by decide +kernel) (by exact (sa_cons (by exact sv_l 4) sa_nil)))))))))
theorem ok__law_policy (T : Top K mg) : FnG P w K mg base 2 T.f__law_policy T.d__law_policy ["_law_pool_here", "_law_lines", "_law_states"] (spF K (T.ct P w) m__law_policy 3) := fn_sim T.F__law_policy sc__law_policy fun cdv A outer s H E hr hgd =>
  (ss_cons (by exact ss_set (i := 3) sc__law_policy.nd rfl (Or.inl rfl) (by exact se_lst (by exact sa_nil))) (by exact (ss_cons (by exact ss_for PassesOwn.never rfl (by exact (si_range1 rfl (by exact T.n_range) (by exact sv_c 2))) (by exact (sg_name (ws := [4]) (i := 4) sc__law_policy.nd rfl (Or.inl rfl) (by decide))) (by exact (ss_cons (by exact ss_set (i := 5) sc__law_policy.nd rfl (Or.inl rfl) (by exact se_callTy sc_tuple (by rfl) (by exact T.n_tuple) (by decide +kernel) (by exact (sa_cons (by exact se_comp (own := [("_law_line", 6)]) rfl sc__law_policy.nd (by exact (si_range1 rfl (by exact T.n_range) (by exact sv_l 1))) (blkOk_by (N := ["_law_pool_here", "_law_lines", "_law_states", "_law_rows", "_law_turn", "_law_hits", "_law_line"]) (sc := defScope s__law_policy) (own := [("_law_line", 6)]) (by decide +kernel)) (fun _ _ _ _ _ => (by exact (sg_name (ws := [6]) (i := 6) sc__law_policy.nd rfl (Or.inl rfl) (by decide)))) (fun _ _ _ _ _ => sts_nil) (fun _ _ _ _ _ => (by exact se_call (ps := ["_law_pool_here", "_law_most"]) (by exact ok__law_draw T) (by exact hr.mono (by decide)) (by exact hgd) (by rfl) (by exact T.m__law_draw) (by exact T.F__law_draw.kp) (by exact T.b__law_draw) (by exact (sa_cons (by exact sv_f 0) (sa_cons (by exact sv_f 2) sa_nil)))))) sa_nil)))) (by exact (ss_one (by exact ss_expr (by exact (se_bm PySem.F.plainAttrs_list PySem.F.slot_list_append PySem.F.type_list_append sm_append (by exact sv_l 3) (by exact (sa_cons (by exact se_tup (by exact (sa_cons (by exact se_call (ps := ["_law_pool_here", "_law_most"]) (by exact ok__law_draw T) (by exact hr.mono (by decide)) (by exact hgd) (by rfl) (by exact T.m__law_draw) (by exact T.F__law_draw.kp) (by exact T.b__law_draw) (by exact (sa_cons (by exact sv_c 0) (sa_cons (by exact sv_l 1) sa_nil)))) (sa_cons (by exact se_call (ps := ["_law_pool_here", "_law_most"]) (by exact ok__law_draw T) (by exact hr.mono (by decide)) (by exact hgd) (by rfl) (by exact T.m__law_draw) (by exact T.F__law_draw.kp) (by exact T.b__law_draw) (by exact (sa_cons (by exact sv_c 0) (sa_cons (by exact sv_c 2) sa_nil)))) (sa_cons (by exact sv_l 5) sa_nil))))) sa_nil)))))))))) (by exact (ss_one (by exact ss_ret (by exact se_tup (by exact (sa_cons (by exact sv_l 1) (sa_cons (by exact se_callTy sc_tuple (by rfl) (by exact T.n_tuple) (by decide +kernel) (by exact (sa_cons (by exact sv_l 3) sa_nil))) sa_nil))))))))))
theorem ok__law_queue (T : Top K mg) : FnG P w K mg base 1 T.f__law_queue T.d__law_queue ["_law_lines"] (spF K (T.ct P w) m__law_queue 1) := fn_sim T.F__law_queue sc__law_queue fun cdv A outer s H E hr hgd =>
  (ss_one (by exact ss_ret (by exact se_tup (by exact (sa_cons (by exact sv_c 0) (sa_cons (by exact se_callTy sc_tuple (by rfl) (by exact T.n_tuple) (by decide +kernel) (by exact (sa_cons (by exact se_comp (own := [("_law_at", 1)]) rfl sc__law_queue.nd (by exact (si_range1 rfl (by exact T.n_range) (by exact sv_c 0))) (blkOk_by (N := ["_law_lines", "_law_at"]) (sc := defScope s__law_queue) (own := [("_law_at", 1)]) (by decide +kernel)) (fun _ _ _ _ _ => (by exact (sg_name (ws := [1]) (i := 1) sc__law_queue.nd rfl (Or.inl rfl) (by decide)))) (fun _ _ _ _ _ => sts_nil) (fun _ _ _ _ _ => (by exact se_tup (by exact (sa_cons (by exact sv_l 1) (sa_cons (by exact se_op so_mod (by exact se_op so_add (by exact sv_l 1) (by exact se_int)) (by exact sv_f 0)) (sa_cons (by exact se_op so_mul (by exact se_tup (by exact (sa_cons (by exact sv_l 1) sa_nil))) (by exact sv_f 0)) sa_nil))))))) sa_nil))) sa_nil))))))
theorem ok__law_recent (T : Top K mg) : FnG P w K mg base 1 T.f__law_recent T.d__law_recent ["_law_lines"] (spF K (T.ct P w) m__law_recent 1) := fn_sim T.F__law_recent sc__law_recent fun cdv A outer s H E hr hgd =>
  (ss_cons (by exact ss_asg (by exact se_tup (by exact (sa_cons (by exact se_lst (by exact (sa_cons (by exact se_tupR rfl rfl (by exact T.n_tuple) (sr_1 rfl (by exact T.n_range) (by exact sv_l 0))) sa_nil))) (sa_cons (by exact se_lst (by exact sa_nil)) (sa_cons (by exact se_int) sa_nil))))) (by exact (sg_or2 (sg_tup rfl (sgs_cons (by exact (sg_name (ws := [1, 2, 3]) (i := 1) sc__law_recent.nd rfl (Or.inr rfl) (by decide))) (sgs_cons (by exact (sg_name (ws := [1, 2, 3]) (i := 2) sc__law_recent.nd rfl (Or.inl rfl) (by decide))) (sgs_cons (by exact (sg_name (ws := [1, 2, 3]) (i := 3) sc__law_recent.nd rfl (Or.inl rfl) (by decide))) sgs_nil)))) (sg_unl rfl (sgs_cons (by exact (sg_name (ws := [1, 2, 3]) (i := 1) sc__law_recent.nd rfl (Or.inr rfl) (by decide))) (sgs_cons (by exact (sg_name (ws := [1, 2, 3]) (i := 2) sc__law_recent.nd rfl (Or.inl rfl) (by decide))) (sgs_cons (by exact (sg_name (ws := [1, 2, 3]) (i := 3) sc__law_recent.nd rfl (Or.inl rfl) (by decide))) sgs_nil))))))) (by exact (ss_cons (by exact ss_while 1000000 PassesOwn.never (by exact st_cmp so_lt (by exact sv_l 3) (by exact se_callB sc_lenE (by rfl) (by exact T.n_len) (by decide +kernel) (by exact (sa_cons (by exact sv_c 1) sa_nil))) (nomark _)) (by exact (ss_cons (by exact ss_set (i := 4) sc__law_recent.nd rfl (Or.inr rfl) (by exact se_ixE (hu65 hr) (by exact sv_c 1) (by exact sv_l 3))) (by exact (ss_cons (by exact ss_setLc (i := 5) (own := [("_law_line", 6)]) rfl sc__law_recent.nd rfl rfl (sw_true rfl rfl rfl (by decide +kernel)) (by exact (si_range1 rfl (by exact T.n_range) (by exact sv_l 0))) (blkOk_by (N := ["_law_lines", "_law_orders", "_law_rows", "_law_at", "_law_here", "_law_goals", "_law_line", "_law_spot", "_law_goal"]) (sc := defScope s__law_recent) (own := [("_law_line", 6)]) (by decide +kernel)) (fun _ _ _ _ _ => (by exact (sg_name (ws := [6]) (i := 6) sc__law_recent.nd rfl (Or.inr rfl) (by decide)))) (fun _ _ _ _ _ => sts_nil) (fun _ _ _ _ _ => (by exact se_op so_add (by exact se_callTy sc_tuple (by rfl) (by exact T.n_tuple) (by decide +kernel) (by exact (sa_cons (by exact se_comp (own := [("_law_spot", 7)]) rfl sc__law_recent.nd (by exact (si_seq (by exact sv_f 4))) (blkOk_by (own := [("_law_spot", 7)]) (by first | rfl | kernel_rfl)) (fun _ _ _ _ _ => (by exact (sg_name (ws := [7]) (i := 7) sc__law_recent.nd rfl (Or.inl rfl) (by decide)))) (fun _ _ _ _ _ => (sts_one (by exact st_cmp (by exact so_ne hr.units) (by exact sv_l 7) (by exact sv_f 6) (nomark _)))) (fun _ _ _ _ _ => (by exact sv_l 7))) sa_nil))) (by exact se_tup (by exact (sa_cons (by exact sv_c 6) sa_nil)))))) (by exact (ss_cons (by exact ss_expr (by exact (se_bm PySem.F.plainAttrs_list PySem.F.slot_list_extend PySem.F.type_list_extend sm_extend (by exact sv_c 1) (by exact (sa_cons (by exact se_comp (own := [("_law_goal", 8)]) rfl sc__law_recent.nd (by exact (si_seq (by exact sv_l 5))) (blkOk_by (N := ["_law_lines", "_law_orders", "_law_rows", "_law_at", "_law_here", "_law_goals", "_law_line", "_law_spot", "_law_goal"]) (sc := defScope s__law_recent) (own := [("_law_goal", 8)]) (by decide +kernel)) (fun _ _ _ _ _ => (by exact (sg_name (ws := [8]) (i := 8) sc__law_recent.nd rfl (Or.inl rfl) (by decide)))) (fun _ _ _ _ _ => (sts_one (by exact st_cmp (by exact so_notinE (hu65 hr)) (by exact sv_l 8) (by exact sv_f 1) (by rfl)))) (fun _ _ _ _ _ => (by exact sv_l 8))) sa_nil))))) (by exact (ss_cons (by exact ss_expr (by exact (se_bm PySem.F.plainAttrs_list PySem.F.slot_list_append PySem.F.type_list_append sm_append (by exact sv_l 2) (by exact (sa_cons (by exact se_tup (by exact (sa_cons (by exact se_ixE (hu65 hr) (by exact sv_c 4) (by exact se_int)) (sa_cons (by exact se_or2 (se_bm PySem.F.plainAttrs_list PySem.F.slot_list_index PySem.F.type_list_index (sm_index (hu65 hr)) (by exact sv_c 1) (by exact (sa_cons (by exact se_ixE (hu65 hr) (by exact sv_l 5) (by exact se_ixE (hu65 hr) (by exact sv_c 4) (by exact se_int))) sa_nil))) (se_bm PySem.F.plainAttrs_tuple PySem.F.slot_tuple_index PySem.F.type_tuple_index sm_tindex (by exact sv_c 1) (by exact (sa_cons (by exact se_ixE (hu65 hr) (by exact sv_l 5) (by exact se_ixE (hu65 hr) (by exact sv_c 4) (by exact se_int))) sa_nil)))) (sa_cons (by exact se_callTy sc_tuple (by rfl) (by exact T.n_tuple) (by decide +kernel) (by exact (sa_cons (by exact se_comp (own := [("_law_goal", 8)]) rfl sc__law_recent.nd (by exact (si_seq (by exact sv_l 5))) (blkOk_by (N := ["_law_lines", "_law_orders", "_law_rows", "_law_at", "_law_here", "_law_goals", "_law_line", "_law_spot", "_law_goal"]) (sc := defScope s__law_recent) (own := [("_law_goal", 8)]) (by decide +kernel)) (fun _ _ _ _ _ => (by exact (sg_name (ws := [8]) (i := 8) sc__law_recent.nd rfl (Or.inl rfl) (by decide)))) (fun _ _ _ _ _ => sts_nil) (fun _ _ _ _ _ => (by exact se_or2 (se_bm PySem.F.plainAttrs_list PySem.F.slot_list_index PySem.F.type_list_index (sm_index (hu65 hr)) (by exact sv_f 1) (by exact (sa_cons (by exact sv_l 8) sa_nil))) (se_bm PySem.F.plainAttrs_tuple PySem.F.slot_tuple_index PySem.F.type_tuple_index sm_tindex (by exact sv_f 1) (by exact (sa_cons (by exact sv_l 8) sa_nil)))))) sa_nil))) sa_nil))))) sa_nil))))) (by exact (ss_one (by exact ss_set (i := 3) sc__law_recent.nd rfl (Or.inl rfl) (by exact se_op so_add (by exact sv_l 3) (by exact se_int)))))))))))))) (by exact (ss_one (by exact ss_ret (by exact se_tup (by exact (sa_cons (by exact sv_l 0) (sa_cons (by exact se_callTy sc_tuple (by rfl) (by exact T.n_tuple) (by decide +kernel) (by exact (sa_cons (by exact sv_l 2) sa_nil))) sa_nil))))))))))
theorem ok__law_device (T : Top K mg) : FnG P w K mg base 3 T.f__law_device T.d__law_device ["_law_pool_here", "_law_most", "_law_states"] (spF K (T.ct P w) m__law_device 3) := fn_sim T.F__law_device sc__law_device fun cdv A outer s H E hr hgd =>
  (ss_cons (by exact ss_par (i := 3) (j := 4) rfl sc__law_device.nd rfl rfl (by decide) rfl rfl (by exact (sa_cons (by exact se_call (ps := ["_law_pool_here", "_law_most"]) (by exact ok__law_draw T) (by exact hr.mono (by decide)) (by exact hgd) (by rfl) (by exact T.m__law_draw) (by exact T.F__law_draw.kp) (by exact T.b__law_draw) (by exact (sa_cons (by exact sv_l 0) (sa_cons (by exact se_int) sa_nil)))) (sa_cons (by exact se_lst (by exact sa_nil)) sa_nil))) (by rfl)) (by exact (ss_cons (by exact ss_for PassesOwn.never rfl (by exact (si_range1 rfl (by exact T.n_range) (by exact se_int))) (by exact (sg_name (ws := [5]) (i := 5) sc__law_device.nd rfl (Or.inl rfl) (by decide))) (by exact (ss_cons (by exact ss_set (i := 6) sc__law_device.nd rfl (Or.inl rfl) (by exact se_op so_add (by exact se_int) (by exact se_call (ps := ["_law_pool_here", "_law_most"]) (by exact ok__law_draw T) (by exact hr.mono (by decide)) (by exact hgd) (by rfl) (by exact T.m__law_draw) (by exact T.F__law_draw.kp) (by exact T.b__law_draw) (by exact (sa_cons (by exact sv_l 0) (sa_cons (by exact sv_l 1) sa_nil)))))) (by exact (ss_cons (by exact ss_set (i := 7) sc__law_device.nd rfl (Or.inl rfl) (by exact se_lst (by exact (sa_cons (by exact se_call (ps := ["_law_lines"]) (by exact ok__law_recent T) (by exact hr.mono (by decide)) (by exact hgd) (by rfl) (by exact T.m__law_recent) (by exact T.F__law_recent.kp) (by exact T.b__law_recent) (by exact (sa_cons (by exact sv_l 6) sa_nil))) (sa_cons (by exact se_call (ps := ["_law_lines"]) (by exact ok__law_queue T) (by exact hr.mono (by decide)) (by exact hgd) (by rfl) (by exact T.m__law_queue) (by exact T.F__law_queue.kp) (by exact T.b__law_queue) (by exact (sa_cons (by exact sv_l 6) sa_nil))) sa_nil))))) (by exact (ss_cons (by exact ss_set (i := 8) sc__law_device.nd rfl (Or.inl rfl) (by exact se_call (ps := ["_law_pool_here", "_law_lines", "_law_states"]) (by exact ok__law_policy T) (by exact hr.mono (by decide)) (by exact hgd) (by rfl) (by exact T.m__law_policy) (by exact T.F__law_policy.kp) (by exact T.b__law_policy) (by exact (sa_cons (by exact sv_l 0) (sa_cons (by exact sv_l 6) (sa_cons (by exact se_op so_add (by exact se_int) (by exact se_call (ps := ["_law_pool_here", "_law_most"]) (by exact ok__law_draw T) (by exact hr.mono (by decide)) (by exact hgd) (by rfl) (by exact T.m__law_draw) (by exact T.F__law_draw.kp) (by exact T.b__law_draw) (by exact (sa_cons (by exact sv_l 0) (sa_cons (by exact sv_l 2) sa_nil))))) sa_nil)))))) (by exact (ss_one (by exact ss_expr (by exact (se_bm PySem.F.plainAttrs_list PySem.F.slot_list_append PySem.F.type_list_append sm_append (by exact sv_l 4) (by exact (sa_cons (by exact se_ixE (hu65 hr) (by exact se_op so_add (by exact sv_l 7) (by exact se_op so_mul (by exact se_lst (by exact (sa_cons (by exact sv_l 8) sa_nil))) (by exact se_int))) (by exact se_call (ps := ["_law_pool_here", "_law_most"]) (by exact ok__law_draw T) (by exact hr.mono (by decide)) (by exact hgd) (by rfl) (by exact T.m__law_draw) (by exact T.F__law_draw.kp) (by exact T.b__law_draw) (by exact (sa_cons (by exact sv_l 0) (sa_cons (by exact se_int) sa_nil))))) sa_nil)))))))))))))) (by exact (ss_cons (by exact ss_if (by exact st_cmp so_lt (by exact sv_l 3) (by exact se_int) (nomark _)) (by exact (ss_one (by exact ss_ret (by exact se_tup (by exact (sa_cons (by exact se_str) (sa_cons (by exact se_ixE (hu65 hr) (by exact sv_l 4) (by exact se_int)) sa_nil))))))) (by exact ss_nil)) (by exact (ss_one (by exact ss_ret (by exact se_tup (by exact (sa_cons (by exact se_ixE (hu65 hr) (by exact se_lst (by exact (sa_cons (by exact se_str) (sa_cons (by exact se_str) (sa_cons (by exact se_str) sa_nil))))) (by exact se_op so_sub (by exact sv_l 3) (by exact se_int))) (sa_cons (by exact se_ixE (hu65 hr) (by exact sv_l 4) (by exact se_int)) (sa_cons (by exact se_ixE (hu65 hr) (by exact sv_l 4) (by exact se_int)) sa_nil)))))))))))))
theorem ok__law_kit (T : Top K mg) : FnG P w K mg base 4 T.f__law_kit T.d__law_kit ["_law_pool_here"] (spF K (T.ct P w) m__law_kit 1) := fn_sim T.F__law_kit sc__law_kit fun cdv A outer s H E hr hgd =>
  (ss_cons (by exact ss_if (by exact st_cmp so_gt (by exact se_call (ps := ["_law_pool_here", "_law_most"]) (by exact ok__law_draw T) (by exact hr.mono (by decide)) (by exact hgd) (by rfl) (by exact T.m__law_draw) (by exact T.F__law_draw.kp) (by exact T.b__law_draw) (by exact (sa_cons (by exact sv_l 0) (sa_cons (by exact se_int) sa_nil)))) (by exact se_int) (nomark _)) (by exact (ss_one (by exact ss_ret (by exact se_call (ps := ["_law_pool_here", "_law_most", "_law_states"]) (by exact ok__law_device T) (by exact hr.mono (by decide)) (by exact hgd) (by rfl) (by exact T.m__law_device) (by exact T.F__law_device.kp) (by exact T.b__law_device) (by exact (sa_cons (by exact sv_l 0) (sa_cons (by exact se_int) (sa_cons (by exact se_int) sa_nil)))))))) (by exact ss_nil)) (by exact (ss_one (by exact ss_ret (by exact se_tup (by exact (sa_cons (by exact se_str) (sa_cons (by exact se_ixE (hu65 hr) (by exact se_lst (by exact (sa_cons (by exact se_call (ps := ["_law_lines"]) (by exact ok__law_recent T) (by exact hr.mono (by decide)) (by exact hgd) (by rfl) (by exact T.m__law_recent) (by exact T.F__law_recent.kp) (by exact T.b__law_recent) (by exact (sa_cons (by exact se_int) sa_nil))) (sa_cons (by exact se_call (ps := ["_law_lines"]) (by exact ok__law_queue T) (by exact hr.mono (by decide)) (by exact hgd) (by rfl) (by exact T.m__law_queue) (by exact T.F__law_queue.kp) (by exact T.b__law_queue) (by exact (sa_cons (by exact se_int) sa_nil))) (sa_cons (by exact se_call (ps := ["_law_pool_here", "_law_lines", "_law_states"]) (by exact ok__law_policy T) (by exact hr.mono (by decide)) (by exact hgd) (by rfl) (by exact T.m__law_policy) (by exact T.F__law_policy.kp) (by exact T.b__law_policy) (by exact (sa_cons (by exact sv_l 0) (sa_cons (by exact se_int) (sa_cons (by exact se_int) sa_nil))))) sa_nil))))) (by exact se_call (ps := ["_law_pool_here", "_law_most"]) (by exact ok__law_draw T) (by exact hr.mono (by decide)) (by exact hgd) (by rfl) (by exact T.m__law_draw) (by exact T.F__law_draw.kp) (by exact T.b__law_draw) (by exact (sa_cons (by exact sv_l 0) (sa_cons (by exact se_int) sa_nil))))) sa_nil))))))))
theorem ok__law_right (T : Top K mg) : FnG P w K mg base 9 T.f__law_right T.d__law_right ["_law_pool_here"] (spF K (T.ct P w) m__law_right 1) := fn_sim T.F__law_right sc__law_right fun cdv A outer s H E hr hgd =>
  (ss_cons (by exact ss_for PassesOwn.never rfl (by exact (si_range1 rfl (by exact T.n_range) (by exact se_int))) (by exact (sg_name (ws := [1]) (i := 1) sc__law_right.nd rfl (Or.inl rfl) (by decide))) (by exact (ss_cons (by exact ss_par (i := 2) (j := 3) rfl sc__law_right.nd rfl rfl (by decide) rfl rfl (by exact (sa_cons (by exact se_call (ps := ["_law_pool_here"]) (by exact ok__law_kit T) (by exact hr.mono (by decide)) (by exact hgd) (by rfl) (by exact T.m__law_kit) (by exact T.F__law_kit.kp) (by exact T.b__law_kit) (by exact (sa_cons (by exact sv_l 0) sa_nil))) (sa_cons (by exact se_call (ps := ["_law_pool_here", "_law_most", "_law_many"]) (by exact ok__law_plan T) (by exact hr.mono (by decide)) (by exact hgd) (by rfl) (by exact T.m__law_plan) (by exact T.F__law_plan.kp) (by exact T.b__law_plan) (by exact (sa_cons (by exact sv_l 0) (sa_cons (by exact se_int) (sa_cons (by exact se_op so_add (by exact se_int) (by exact se_call (ps := ["_law_pool_here", "_law_most"]) (by exact ok__law_draw T) (by exact hr.mono (by decide)) (by exact hgd) (by rfl) (by exact T.m__law_draw) (by exact T.F__law_draw.kp) (by exact T.b__law_draw) (by exact (sa_cons (by exact sv_l 0) (sa_cons (by exact se_int) sa_nil))))) sa_nil))))) sa_nil))) (by rfl)) (by exact (ss_cons (by exact ss_set (i := 4) sc__law_right.nd rfl (Or.inl rfl) (by exact se_call (ps := ["_law_device_here", "_law_plan_here", "_law_greatest"]) (by exact ok__law_beads T) (by exact hr.mono (by decide)) (by exact hgd) (by rfl) (by exact T.m__law_beads) (by exact T.F__law_beads.kp) (by exact T.b__law_beads) (by exact (sa_cons (by exact sv_l 2) (sa_cons (by exact sv_l 3) (sa_cons (by exact se_int) sa_nil)))))) (by exact (ss_one (by exact ss_if (by exact st_cmp so_isnotE (by exact sv_l 4) (by exact se_non) (nomark _)) (by exact (ss_cons (by exact ss_set (i := 5) sc__law_right.nd rfl (Or.inl rfl) (by exact se_call (ps := ["_law_rows", "_law_count"]) (by exact ok__law_words T) (by exact hr.mono (by decide)) (by exact hgd) (by rfl) (by exact T.m__law_words) (by exact T.F__law_words.kp) (by exact T.b__law_words) (by exact (sa_cons (by exact sv_l 4) (sa_cons (by exact se_callB sc_lenE (by rfl) (by exact T.n_len) (by decide +kernel) (by exact (sa_cons (by exact sv_l 3) sa_nil))) sa_nil))))) (by exact (ss_one (by exact ss_if (by exact st_cmp (by exact so_ne hr.units) (by exact se_callB (sc_reprE (by exact hgd) hr.units) (by rfl) (by exact T.n_repr) (by decide +kernel) (by exact (sa_cons (by exact se_call (ps := ["device", "program"]) (by exact ok_verdicts T) (by exact hr.mono (by decide)) (by exact hgd) (by rfl) (by exact T.m_verdicts) (by exact T.F_verdicts.kp) (by exact T.b_verdicts) (by exact (sa_cons (by exact sv_l 2) (sa_cons (by exact sv_l 3) sa_nil)))) sa_nil))) (by exact se_callB (sc_reprE (by exact hgd) hr.units) (by rfl) (by exact T.n_repr) (by decide +kernel) (by exact (sa_cons (by exact sv_l 5) sa_nil))) (nomark _)) (by exact (ss_one (by exact ss_ret (by exact se_bl)))) (by exact ss_nil)))))) (by exact ss_nil))))))))) (by exact (ss_one (by exact ss_ret (by exact se_bl)))))
theorem ok__law_pool (T : Top K mg) : FnG P w K mg base 1 T.f__law_pool T.d__law_pool ["_law_figure"] (spF K (T.ct P w) m__law_pool 1) := fn_sim T.F__law_pool sc__law_pool fun cdv A outer s H E hr hgd =>
  (ss_cons (by exact ss_set (i := 1) sc__law_pool.nd rfl (Or.inl rfl) (by exact se_if (by exact SW.st (sw_or (by exact st_cmp so_lt (by exact sv_l 0) (by exact se_int) (nomark _)) (sw_or1 (by exact st_cmp so_ge (by exact sv_l 0) (by exact se_op so_pow (by exact se_int) (by exact se_int)) (nomark _))))) (by exact se_callB sc_abs (by rfl) (by exact T.n_abs) (by decide +kernel) (by exact (sa_cons (by exact sv_l 0) sa_nil))) (by exact se_int))) (by exact (ss_one (by exact ss_ret (by exact se_lst (by exact (sa_cons (by exact se_op so_mod (by exact se_callTy sc_int (by rfl) (by exact T.n_int) (by decide +kernel) (by exact (sa_cons (by exact sv_l 0) sa_nil))) (by exact se_int)) (sa_cons (by exact sv_l 1) (sa_cons (by exact se_int) sa_nil)))))))))
theorem ok__law_cell (T : Top K mg) : FnG P w K mg base 1 T.f__law_cell T.d__law_cell ["_law_script", "_law_k"] (spF K (T.ct P w) m__law_cell 2) := fn_sim T.F__law_cell sc__law_cell fun cdv A outer s H E hr hgd =>
  (ss_cons (by exact ss_if (by exact st_cmp so_lt (by exact sv_l 1) (by exact se_callB sc_lenE (by rfl) (by exact T.n_len) (by decide +kernel) (by exact (sa_cons (by exact sv_l 0) sa_nil))) (nomark _)) (by exact (ss_one (by exact ss_ret (by exact se_callTy sc_int (by rfl) (by exact T.n_int) (by decide +kernel) (by exact (sa_cons (by exact se_ixE (hu65 hr) (by exact sv_l 0) (by exact sv_l 1)) sa_nil)))))) (by exact ss_nil)) (by exact (ss_cons (by exact ss_set (i := 2) sc__law_cell.nd rfl (Or.inl rfl) (by exact se_op so_mod (by exact se_op so_mul (by exact se_int) (by exact se_op so_add (by exact se_op so_add (by exact se_op so_mul (by exact sv_l 1) (by exact sv_l 1)) (by exact se_op so_mul (by exact se_int) (by exact sv_l 1))) (by exact se_int))) (by exact se_int))) (by exact (ss_cons (by exact ss_for PassesOwn.never rfl (by exact (si_seq (by exact se_slice (by exact sv_l 0) so_none (by exact so_some (by exact se_int))))) (by exact (sg_name (ws := [3]) (i := 3) sc__law_cell.nd rfl (Or.inl rfl) (by decide))) (by exact (ss_one (by exact ss_set (i := 2) sc__law_cell.nd rfl (Or.inl rfl) (by exact se_op so_mod (by exact se_op so_add (by exact se_op so_mul (by exact sv_l 2) (by exact se_int)) (by exact se_callTy sc_int (by rfl) (by exact T.n_int) (by decide +kernel) (by exact (sa_cons (by exact sv_l 3) sa_nil)))) (by exact se_int)))))) (by exact (ss_one (by exact ss_ret (by exact sv_l 2)))))))))
theorem ok__law_by_hand (T : Top K mg) : FnG P w K mg base 9 T.f__law_by_hand T.d__law_by_hand [] (spF K (T.ct P w) m__law_by_hand 0) := fn_sim T.F__law_by_hand sc__law_by_hand fun cdv A outer s H E hr hgd =>
  (ss_cons (by exact ss_set (i := 0) sc__law_by_hand.nd rfl (Or.inr rfl) (by exact se_tup (by exact (sa_cons (by exact se_int) (sa_cons (by exact se_tup (by exact (sa_cons (by exact se_tup (by exact (sa_cons (by exact se_int) (sa_cons (by exact se_int) (sa_cons (by exact se_tup (by exact (sa_cons (by exact se_int) sa_nil))) sa_nil))))) sa_nil))) sa_nil))))) (by exact (ss_cons (by exact ss_par (i := 1) (j := 2) rfl sc__law_by_hand.nd rfl rfl (by decide) rfl rfl (by exact (sa_cons (by exact se_tup (by exact (sa_cons (by exact se_str) (sa_cons (by exact sv_c 0) sa_nil)))) (sa_cons (by exact se_tup (by exact (sa_cons (by exact se_str) (sa_cons (by exact se_call (ps := ["_law_lines"]) (by exact ok__law_recent T) (by exact hr.mono (by decide)) (by exact hgd) (by rfl) (by exact T.m__law_recent) (by exact T.F__law_recent.kp) (by exact T.b__law_recent) (by exact (sa_cons (by exact se_int) sa_nil))) sa_nil)))) sa_nil))) (by rfl)) (by exact (ss_cons (by exact ss_set (i := 3) sc__law_by_hand.nd rfl (Or.inl rfl) (by exact se_lst (by exact (sa_cons (by exact se_tup (by exact (sa_cons (by exact sv_l 1) (sa_cons (by exact se_tup (by exact (sa_cons (by exact se_tup (by exact (sa_cons (by exact se_str) (sa_cons (by exact se_tup (by exact sa_nil)) sa_nil)))) sa_nil))) (sa_cons (by exact se_tup (by exact (sa_cons (by exact se_str) sa_nil))) sa_nil))))) (sa_cons (by exact se_tup (by exact (sa_cons (by exact sv_l 1) (sa_cons (by exact se_tup (by exact (sa_cons (by exact se_tup (by exact (sa_cons (by exact se_str) (sa_cons (by exact se_tup (by exact (sa_cons (by exact se_int) sa_nil))) sa_nil)))) sa_nil))) (sa_cons (by exact se_tup (by exact (sa_cons (by exact se_str) sa_nil))) sa_nil))))) sa_nil))))) (by exact (ss_cons (by exact ss_set (i := 3) sc__law_by_hand.nd rfl (Or.inl rfl) (by exact se_op so_add (by exact sv_l 3) (by exact se_lst (by exact (sa_cons (by exact se_tup (by exact (sa_cons (by exact sv_l 1) (sa_cons (by exact se_tup (by exact (sa_cons (by exact se_tup (by exact (sa_cons (by exact se_str) (sa_cons (by exact se_tup (by exact (sa_cons (by exact se_int) sa_nil))) sa_nil)))) (sa_cons (by exact se_tup (by exact (sa_cons (by exact se_str) (sa_cons (by exact se_tup (by exact sa_nil)) sa_nil)))) (sa_cons (by exact se_tup (by exact (sa_cons (by exact se_str) (sa_cons (by exact se_tup (by exact (sa_cons (by exact se_int) sa_nil))) sa_nil)))) sa_nil))))) (sa_cons (by exact se_tup (by exact (sa_cons (by exact se_str) (sa_cons (by exact se_str) (sa_cons (by exact se_str) sa_nil))))) sa_nil))))) sa_nil))))) (by exact (ss_cons (by exact ss_set (i := 3) sc__law_by_hand.nd rfl (Or.inl rfl) (by exact se_op so_add (by exact sv_l 3) (by exact se_lst (by exact (sa_cons (by exact se_tup (by exact (sa_cons (by exact sv_l 2) (sa_cons (by exact se_tup (by exact (sa_cons (by exact se_tup (by exact (sa_cons (by exact se_str) (sa_cons (by exact se_tup (by exact (sa_cons (by exact se_int) (sa_cons (by exact se_int) sa_nil)))) sa_nil)))) (sa_cons (by exact se_tup (by exact (sa_cons (by exact se_str) (sa_cons (by exact se_tup (by exact (sa_cons (by exact se_int) sa_nil))) sa_nil)))) (sa_cons (by exact se_tup (by exact (sa_cons (by exact se_str) (sa_cons (by exact se_tup (by exact sa_nil)) sa_nil)))) sa_nil))))) (sa_cons (by exact se_tup (by exact (sa_cons (by exact se_str) (sa_cons (by exact se_str) (sa_cons (by exact se_str) sa_nil))))) sa_nil))))) sa_nil))))) (by exact (ss_cons (by exact ss_set (i := 3) sc__law_by_hand.nd rfl (Or.inl rfl) (by exact se_op so_add (by exact sv_l 3) (by exact se_lst (by exact (sa_cons (by exact se_tup (by exact (sa_cons (by exact sv_l 2) (sa_cons (by exact se_tup (by exact (sa_cons (by exact se_tup (by exact (sa_cons (by exact se_str) (sa_cons (by exact se_tup (by exact (sa_cons (by exact se_int) sa_nil))) sa_nil)))) (sa_cons (by exact se_tup (by exact (sa_cons (by exact se_str) (sa_cons (by exact se_tup (by exact (sa_cons (by exact se_int) (sa_cons (by exact se_int) sa_nil)))) sa_nil)))) (sa_cons (by exact se_tup (by exact (sa_cons (by exact se_str) (sa_cons (by exact se_tup (by exact (sa_cons (by exact se_int) sa_nil))) sa_nil)))) sa_nil))))) (sa_cons (by exact se_tup (by exact (sa_cons (by exact se_str) (sa_cons (by exact se_str) (sa_cons (by exact se_str) sa_nil))))) sa_nil))))) sa_nil))))) (by exact (ss_cons (by exact ss_set (i := 3) sc__law_by_hand.nd rfl (Or.inl rfl) (by exact se_op so_add (by exact sv_l 3) (by exact se_lst (by exact (sa_cons (by exact se_tup (by exact (sa_cons (by exact sv_l 2) (sa_cons (by exact se_tup (by exact (sa_cons (by exact se_tup (by exact (sa_cons (by exact se_str) (sa_cons (by exact se_tup (by exact (sa_cons (by exact se_int) sa_nil))) sa_nil)))) (sa_cons (by exact se_tup (by exact (sa_cons (by exact se_str) (sa_cons (by exact se_tup (by exact (sa_cons (by exact se_int) (sa_cons (by exact se_int) sa_nil)))) sa_nil)))) (sa_cons (by exact se_tup (by exact (sa_cons (by exact se_str) (sa_cons (by exact se_tup (by exact (sa_cons (by exact se_int) sa_nil))) sa_nil)))) sa_nil))))) (sa_cons (by exact se_tup (by exact (sa_cons (by exact se_str) (sa_cons (by exact se_str) (sa_cons (by exact se_str) sa_nil))))) sa_nil))))) sa_nil))))) (by exact (ss_cons (by exact ss_set (i := 3) sc__law_by_hand.nd rfl (Or.inl rfl) (by exact se_op so_add (by exact sv_l 3) (by exact se_lst (by exact (sa_cons (by exact se_tup (by exact (sa_cons (by exact sv_l 2) (sa_cons (by exact se_tup (by exact (sa_cons (by exact se_tup (by exact (sa_cons (by exact se_str) (sa_cons (by exact se_tup (by exact (sa_cons (by exact se_int) (sa_cons (by exact se_int) sa_nil)))) sa_nil)))) (sa_cons (by exact se_tup (by exact (sa_cons (by exact se_str) (sa_cons (by exact se_tup (by exact sa_nil)) sa_nil)))) (sa_cons (by exact se_tup (by exact (sa_cons (by exact se_str) (sa_cons (by exact se_tup (by exact (sa_cons (by exact se_int) sa_nil))) sa_nil)))) (sa_cons (by exact se_tup (by exact (sa_cons (by exact se_str) (sa_cons (by exact se_tup (by exact (sa_cons (by exact se_int) sa_nil))) sa_nil)))) sa_nil)))))) (sa_cons (by exact se_tup (by exact (sa_cons (by exact se_str) (sa_cons (by exact se_str) (sa_cons (by exact se_str) (sa_cons (by exact se_str) sa_nil)))))) sa_nil))))) sa_nil))))) (by exact (ss_cons (by exact ss_set (i := 3) sc__law_by_hand.nd rfl (Or.inl rfl) (by exact se_op so_add (by exact sv_l 3) (by exact se_lst (by exact (sa_cons (by exact se_tup (by exact (sa_cons (by exact sv_l 2) (sa_cons (by exact se_tup (by exact (sa_cons (by exact se_tup (by exact (sa_cons (by exact se_str) (sa_cons (by exact se_tup (by exact (sa_cons (by exact se_int) (sa_cons (by exact se_int) (sa_cons (by exact se_int) sa_nil))))) sa_nil)))) (sa_cons (by exact se_tup (by exact (sa_cons (by exact se_str) (sa_cons (by exact se_tup (by exact sa_nil)) sa_nil)))) (sa_cons (by exact se_tup (by exact (sa_cons (by exact se_str) (sa_cons (by exact se_tup (by exact sa_nil)) sa_nil)))) (sa_cons (by exact se_tup (by exact (sa_cons (by exact se_str) (sa_cons (by exact se_tup (by exact sa_nil)) sa_nil)))) sa_nil)))))) (sa_cons (by exact se_tup (by exact (sa_cons (by exact se_str) (sa_cons (by exact se_str) (sa_cons (by exact se_str) (sa_cons (by exact se_str) sa_nil)))))) sa_nil))))) sa_nil))))) (by exact (ss_cons (by exact ss_set (i := 4) sc__law_by_hand.nd rfl (Or.inr rfl) (by exact se_tup (by exact (sa_cons (by exact se_tup (by exact (sa_cons (by exact se_str) (sa_cons (by exact se_tup (by exact (sa_cons (by exact se_int) sa_nil))) sa_nil)))) (sa_cons (by exact se_tup (by exact (sa_cons (by exact se_str) (sa_cons (by exact se_tup (by exact (sa_cons (by exact se_int) sa_nil))) sa_nil)))) (sa_cons (by exact se_tup (by exact (sa_cons (by exact se_str) (sa_cons (by exact se_tup (by exact (sa_cons (by exact se_int) sa_nil))) sa_nil)))) sa_nil)))))) (by exact (ss_cons (by exact ss_set (i := 3) sc__law_by_hand.nd rfl (Or.inl rfl) (by exact se_op so_add (by exact sv_l 3) (by exact se_lst (by exact (sa_cons (by exact se_tup (by exact (sa_cons (by exact se_tup (by exact (sa_cons (by exact se_str) (sa_cons (by exact sv_c 0) (sa_cons (by exact sv_c 0) sa_nil))))) (sa_cons (by exact sv_c 4) (sa_cons (by exact se_tup (by exact (sa_cons (by exact se_str) (sa_cons (by exact se_str) (sa_cons (by exact se_str) sa_nil))))) sa_nil))))) sa_nil))))) (by exact (ss_cons (by exact ss_set (i := 3) sc__law_by_hand.nd rfl (Or.inl rfl) (by exact se_op so_add (by exact sv_l 3) (by exact se_comp (own := [("_law_word", 6)]) rfl sc__law_by_hand.nd (by exact (si_seq (by exact se_lst (by exact (sa_cons (by exact se_str) (sa_cons (by exact se_str) sa_nil)))))) (blkOk_by (N := ["_law_single", "_law_one", "_law_two", "_law_some", "_law_chain", "_law_way", "_law_word", "_law_rig", "_law_plan_here", "_law_due"]) (sc := defScope s__law_by_hand) (own := [("_law_word", 6)]) (by decide +kernel)) (fun _ _ _ _ _ => (by exact (sg_name (ws := [6]) (i := 6) sc__law_by_hand.nd rfl (Or.inl rfl) (by decide)))) (fun _ _ _ _ _ => sts_nil) (fun _ _ _ _ _ => (by exact se_tup (by exact (sa_cons (by exact se_tup (by exact (sa_cons (by exact sv_l 6) (sa_cons (by exact sv_f 0) (sa_cons (by exact sv_f 0) sa_nil))))) (sa_cons (by exact sv_f 4) (sa_cons (by exact se_op so_mul (by exact se_tup (by exact (sa_cons (by exact se_str) sa_nil))) (by exact se_int)) sa_nil))))))))) (by exact (ss_cons (by exact ss_set (i := 3) sc__law_by_hand.nd rfl (Or.inl rfl) (by exact se_op so_add (by exact sv_l 3) (by exact se_lst (by exact (sa_cons (by exact se_tup (by exact (sa_cons (by exact se_tup (by exact (sa_cons (by exact se_str) (sa_cons (by exact sv_c 0) (sa_cons (by exact se_call (ps := ["_law_lines"]) (by exact ok__law_recent T) (by exact hr.mono (by decide)) (by exact hgd) (by rfl) (by exact T.m__law_recent) (by exact T.F__law_recent.kp) (by exact T.b__law_recent) (by exact (sa_cons (by exact se_int) sa_nil))) sa_nil))))) (sa_cons (by exact sv_c 4) (sa_cons (by exact se_tup (by exact (sa_cons (by exact se_str) (sa_cons (by exact se_str) (sa_cons (by exact se_str) sa_nil))))) sa_nil))))) sa_nil))))) (by exact (ss_cons (by exact ss_set (i := 5) sc__law_by_hand.nd rfl (Or.inl rfl) (by exact se_tup (by exact (sa_cons (by exact se_tup (by exact (sa_cons (by exact se_str) (sa_cons (by exact se_tup (by exact (sa_cons (by exact se_int) sa_nil))) sa_nil)))) (sa_cons (by exact se_tup (by exact (sa_cons (by exact se_str) (sa_cons (by exact se_tup (by exact (sa_cons (by exact se_int) sa_nil))) sa_nil)))) (sa_cons (by exact se_tup (by exact (sa_cons (by exact se_str) (sa_cons (by exact se_tup (by exact (sa_cons (by exact se_int) sa_nil))) sa_nil)))) (sa_cons (by exact se_tup (by exact (sa_cons (by exact se_str) (sa_cons (by exact se_tup (by exact (sa_cons (by exact se_int) sa_nil))) sa_nil)))) (sa_cons (by exact se_tup (by exact (sa_cons (by exact se_str) (sa_cons (by exact se_tup (by exact sa_nil)) sa_nil)))) sa_nil)))))))) (by exact (ss_cons (by exact ss_set (i := 3) sc__law_by_hand.nd rfl (Or.inl rfl) (by exact se_op so_add (by exact sv_l 3) (by exact se_lst (by exact (sa_cons (by exact se_tup (by exact (sa_cons (by exact se_tup (by exact (sa_cons (by exact se_str) (sa_cons (by exact se_call (ps := ["_law_lines"]) (by exact ok__law_recent T) (by exact hr.mono (by decide)) (by exact hgd) (by rfl) (by exact T.m__law_recent) (by exact T.F__law_recent.kp) (by exact T.b__law_recent) (by exact (sa_cons (by exact se_int) sa_nil))) (sa_cons (by exact se_call (ps := ["_law_lines"]) (by exact ok__law_queue T) (by exact hr.mono (by decide)) (by exact hgd) (by rfl) (by exact T.m__law_queue) (by exact T.F__law_queue.kp) (by exact T.b__law_queue) (by exact (sa_cons (by exact se_int) sa_nil))) sa_nil))))) (sa_cons (by exact sv_l 5) (sa_cons (by exact se_tup (by exact (sa_cons (by exact se_str) (sa_cons (by exact se_str) (sa_cons (by exact se_str) (sa_cons (by exact se_str) (sa_cons (by exact se_str) sa_nil))))))) sa_nil))))) sa_nil))))) (by exact (ss_cons (by exact ss_set (i := 3) sc__law_by_hand.nd rfl (Or.inl rfl) (by exact se_op so_add (by exact sv_l 3) (by exact se_lst (by exact (sa_cons (by exact se_tup (by exact (sa_cons (by exact se_tup (by exact (sa_cons (by exact se_str) (sa_cons (by exact se_call (ps := ["_law_lines"]) (by exact ok__law_recent T) (by exact hr.mono (by decide)) (by exact hgd) (by rfl) (by exact T.m__law_recent) (by exact T.F__law_recent.kp) (by exact T.b__law_recent) (by exact (sa_cons (by exact se_int) sa_nil))) (sa_cons (by exact se_call (ps := ["_law_lines"]) (by exact ok__law_queue T) (by exact hr.mono (by decide)) (by exact hgd) (by rfl) (by exact T.m__law_queue) (by exact T.F__law_queue.kp) (by exact T.b__law_queue) (by exact (sa_cons (by exact se_int) sa_nil))) sa_nil))))) (sa_cons (by exact sv_l 5) (sa_cons (by exact se_tup (by exact (sa_cons (by exact se_str) (sa_cons (by exact se_str) (sa_cons (by exact se_str) (sa_cons (by exact se_str) (sa_cons (by exact se_str) sa_nil))))))) sa_nil))))) sa_nil))))) (by exact (ss_one (by exact ss_ret (by exact se_callB (sc_all rfl) (by rfl) (by exact T.n_all) (by decide +kernel) (by exact (sa_cons (by exact se_comp (own := [("_law_rig", 7), ("_law_plan_here", 8), ("_law_due", 9)]) rfl sc__law_by_hand.nd (by exact (si_seq (by exact sv_l 3))) (blkOk_by (N := ["_law_single", "_law_one", "_law_two", "_law_some", "_law_chain", "_law_way", "_law_word", "_law_rig", "_law_plan_here", "_law_due"]) (sc := defScope s__law_by_hand) (own := [("_law_rig", 7), ("_law_plan_here", 8), ("_law_due", 9)]) (by decide +kernel)) (fun _ _ _ _ _ => (by exact (sg_or2 (sg_tup rfl (sgs_cons (by exact (sg_name (ws := [7, 8, 9]) (i := 7) sc__law_by_hand.nd rfl (Or.inl rfl) (by decide))) (sgs_cons (by exact (sg_name (ws := [7, 8, 9]) (i := 8) sc__law_by_hand.nd rfl (Or.inl rfl) (by decide))) (sgs_cons (by exact (sg_name (ws := [7, 8, 9]) (i := 9) sc__law_by_hand.nd rfl (Or.inl rfl) (by decide))) sgs_nil)))) (sg_unl rfl (sgs_cons (by exact (sg_name (ws := [7, 8, 9]) (i := 7) sc__law_by_hand.nd rfl (Or.inl rfl) (by decide))) (sgs_cons (by exact (sg_name (ws := [7, 8, 9]) (i := 8) sc__law_by_hand.nd rfl (Or.inl rfl) (by decide))) (sgs_cons (by exact (sg_name (ws := [7, 8, 9]) (i := 9) sc__law_by_hand.nd rfl (Or.inl rfl) (by decide))) sgs_nil))))))) (fun _ _ _ _ _ => sts_nil) (fun _ _ _ _ _ => (by exact se_cmp (by exact so_eq hr.units) (by exact se_callB (sc_reprE (by exact hgd) hr.units) (by rfl) (by exact T.n_repr) (by decide +kernel) (by exact (sa_cons (by exact se_call (ps := ["device", "program"]) (by exact ok_verdicts T) (by exact hr.mono (by decide)) (by exact hgd) (by rfl) (by exact T.m_verdicts) (by exact T.F_verdicts.kp) (by exact T.b_verdicts) (by exact (sa_cons (by exact sv_l 7) (sa_cons (by exact sv_l 8) sa_nil)))) sa_nil))) (by exact se_callB (sc_reprE (by exact hgd) hr.units) (by rfl) (by exact T.n_repr) (by decide +kernel) (by exact (sa_cons (by exact sv_l 9) sa_nil))) (nomark _)))) sa_nil)))))))))))))))))))))))))))))))))))))
theorem ok__law_wide (T : Top K mg) : FnG P w K mg base 1 T.f__law_wide T.d__law_wide [] (spF K (T.ct P w) m__law_wide 0) := fn_sim T.F__law_wide sc__law_wide fun cdv A outer s H E hr hgd =>
  (ss_cons (by exact ss_set (i := 0) sc__law_wide.nd rfl (Or.inl rfl) (by exact se_lst (by exact sa_nil))) (by exact (ss_cons (by exact ss_for PassesOwn.never rfl (by exact (si_range1 rfl (by exact T.n_range) (by exact se_int))) (by exact (sg_name (ws := [1]) (i := 1) sc__law_wide.nd rfl (Or.inl rfl) (by decide))) (by exact (ss_cons (by exact ss_set (i := 2) sc__law_wide.nd rfl (Or.inl rfl) (by exact se_sortSet rfl (by rfl) (by exact T.n_sorted) (by rfl) (by exact T.n_set) (by exact se_lst (by exact (sa_cons (by exact se_op so_mod (by exact se_op so_add (by exact sv_l 1) (by exact se_int)) (by exact se_int)) (sa_cons (by exact se_op so_mod (by exact se_op so_mul (by exact se_int) (by exact sv_l 1)) (by exact se_int)) (sa_cons (by exact se_op so_mod (by exact se_op so_add (by exact se_op so_mul (by exact se_int) (by exact sv_l 1)) (by exact se_int)) (by exact se_int)) sa_nil))))))) (by exact (ss_one (by exact ss_expr (by exact (se_bm PySem.F.plainAttrs_list PySem.F.slot_list_append PySem.F.type_list_append sm_append (by exact sv_l 0) (by exact (sa_cons (by exact se_tup (by exact (sa_cons (by exact se_ixE (hu65 hr) (by exact se_str) (by exact se_op so_mod (by exact se_op so_add (by exact se_op so_mul (by exact se_int) (by exact sv_l 1)) (by exact se_op so_fdiv (by exact sv_l 1) (by exact se_int))) (by exact se_int))) (sa_cons (by exact se_callTy sc_tuple (by rfl) (by exact T.n_tuple) (by decide +kernel) (by exact (sa_cons (by exact sv_l 2) sa_nil))) sa_nil)))) sa_nil)))))))))) (by exact (ss_one (by exact ss_ret (by exact se_callTy sc_tuple (by rfl) (by exact T.n_tuple) (by decide +kernel) (by exact (sa_cons (by exact sv_l 0) sa_nil)))))))))
theorem ok__law_wide_right (T : Top K mg) : FnG P w K mg base 9 T.f__law_wide_right T.d__law_wide_right [] (spF K (T.ct P w) m__law_wide_right 0) := fn_sim T.F__law_wide_right sc__law_wide_right fun cdv A outer s H E hr hgd =>
  (ss_cons (by exact ss_set (i := 0) sc__law_wide_right.nd rfl (Or.inl rfl) (by exact se_tup (by exact (sa_cons (by exact se_int) (sa_cons (by exact se_tup (by exact (sa_cons (by exact se_tup (by exact (sa_cons (by exact se_int) (sa_cons (by exact se_int) (sa_cons (by exact se_tup (by exact (sa_cons (by exact se_int) sa_nil))) sa_nil))))) sa_nil))) sa_nil))))) (by exact (ss_cons (by exact ss_for PassesOwn.never rfl (by exact (si_seq (by exact se_lst (by exact (sa_cons (by exact se_tup (by exact (sa_cons (by exact se_str) (sa_cons (by exact sv_l 0) sa_nil)))) (sa_cons (by exact se_tup (by exact (sa_cons (by exact se_str) (sa_cons (by exact se_call (ps := ["_law_lines"]) (by exact ok__law_recent T) (by exact hr.mono (by decide)) (by exact hgd) (by rfl) (by exact T.m__law_recent) (by exact T.F__law_recent.kp) (by exact T.b__law_recent) (by exact (sa_cons (by exact se_int) sa_nil))) sa_nil)))) (sa_cons (by exact se_tup (by exact (sa_cons (by exact se_str) (sa_cons (by exact sv_l 0) (sa_cons (by exact sv_l 0) sa_nil))))) (sa_cons (by exact se_tup (by exact (sa_cons (by exact se_str) (sa_cons (by exact se_call (ps := ["_law_lines"]) (by exact ok__law_queue T) (by exact hr.mono (by decide)) (by exact hgd) (by rfl) (by exact T.m__law_queue) (by exact T.F__law_queue.kp) (by exact T.b__law_queue) (by exact (sa_cons (by exact se_int) sa_nil))) sa_nil)))) sa_nil)))))))) (by exact (sg_name (ws := [1]) (i := 1) sc__law_wide_right.nd rfl (Or.inl rfl) (by decide))) (by exact (ss_cons (by exact ss_set (i := 2) sc__law_wide_right.nd rfl (Or.inl rfl) (by exact se_call (ps := ["_law_device_here", "_law_plan_here", "_law_greatest"]) (by exact ok__law_beads T) (by exact hr.mono (by decide)) (by exact hgd) (by rfl) (by exact T.m__law_beads) (by exact T.F__law_beads.kp) (by exact T.b__law_beads) (by exact (sa_cons (by exact sv_l 1) (sa_cons (by exact se_call0 (ps := []) (by exact ok__law_wide T) (by exact hr.mono (by decide)) (by exact hgd) (by rfl) (by exact T.m__law_wide) (by exact T.F__law_wide.kp) (by exact T.b__law_wide)) (sa_cons (by exact se_int) sa_nil)))))) (by exact (ss_one (by exact ss_if (by exact st_cmp so_isnotE (by exact sv_l 2) (by exact se_non) (nomark _)) (by exact (ss_cons (by exact ss_set (i := 3) sc__law_wide_right.nd rfl (Or.inl rfl) (by exact se_call (ps := ["_law_rows", "_law_count"]) (by exact ok__law_words T) (by exact hr.mono (by decide)) (by exact hgd) (by rfl) (by exact T.m__law_words) (by exact T.F__law_words.kp) (by exact T.b__law_words) (by exact (sa_cons (by exact sv_l 2) (sa_cons (by exact se_int) sa_nil))))) (by exact (ss_one (by exact ss_if (by exact st_cmp (by exact so_ne hr.units) (by exact se_callB (sc_reprE (by exact hgd) hr.units) (by rfl) (by exact T.n_repr) (by decide +kernel) (by exact (sa_cons (by exact se_call (ps := ["device", "program"]) (by exact ok_verdicts T) (by exact hr.mono (by decide)) (by exact hgd) (by rfl) (by exact T.m_verdicts) (by exact T.F_verdicts.kp) (by exact T.b_verdicts) (by exact (sa_cons (by exact sv_l 1) (sa_cons (by exact se_call0 (ps := []) (by exact ok__law_wide T) (by exact hr.mono (by decide)) (by exact hgd) (by rfl) (by exact T.m__law_wide) (by exact T.F__law_wide.kp) (by exact T.b__law_wide)) sa_nil)))) sa_nil))) (by exact se_callB (sc_reprE (by exact hgd) hr.units) (by rfl) (by exact T.n_repr) (by decide +kernel) (by exact (sa_cons (by exact sv_l 3) sa_nil))) (nomark _)) (by exact (ss_one (by exact ss_ret (by exact se_bl)))) (by exact ss_nil)))))) (by exact ss_nil))))))) (by exact (ss_one (by exact ss_ret (by exact se_bl)))))))
theorem ok_law (T : Top K mg) : FnG P w K mg base 10 T.f_law T.d_law ["_law_script"] (spF K (T.ct P w) m_law 1) := fn_sim T.F_law sc_law fun cdv A outer s H E hr hgd =>
  (ss_cons (by exact ss_if (by exact SW.st (sw_or (by exact st_not (by exact st_truth (by exact se_call0 (ps := []) (by exact ok__law_by_hand T) (by exact hr.mono (by decide)) (by exact hgd) (by rfl) (by exact T.m__law_by_hand) (by exact T.F__law_by_hand.kp) (by exact T.b__law_by_hand)))) (sw_or1 (by exact st_not (by exact st_truth (by exact se_call0 (ps := []) (by exact ok__law_wide_right T) (by exact hr.mono (by decide)) (by exact hgd) (by rfl) (by exact T.m__law_wide_right) (by exact T.F__law_wide_right.kp) (by exact T.b__law_wide_right))))))) (by exact (ss_one (by exact ss_ret (by exact se_bl)))) (by exact ss_nil)) (by exact (ss_one (by exact ss_ret (by exact se_callB (sc_all rfl) (by rfl) (by exact T.n_all) (by decide +kernel) (by exact (sa_cons (by exact se_comp (own := [("_law_k", 1)]) rfl sc_law.nd (by exact (si_range1 rfl (by exact T.n_range) (by exact se_callB (sc_max rfl) (by rfl) (by exact T.n_max) (by decide +kernel) (by exact (sa_cons (by exact se_int) (sa_cons (by exact se_callB (sc_min rfl) (by rfl) (by exact T.n_min) (by decide +kernel) (by exact (sa_cons (by exact se_callB sc_lenE (by rfl) (by exact T.n_len) (by decide +kernel) (by exact (sa_cons (by exact sv_c 0) sa_nil))) (sa_cons (by exact se_int) sa_nil)))) sa_nil)))))) (blkOk_by (N := ["_law_script", "_law_k"]) (sc := defScope s_law) (own := [("_law_k", 1)]) (by decide +kernel)) (fun _ _ _ _ _ => (by exact (sg_name (ws := [1]) (i := 1) sc_law.nd rfl (Or.inl rfl) (by decide)))) (fun _ _ _ _ _ => sts_nil) (fun _ _ _ _ _ => (by exact se_call (ps := ["_law_pool_here"]) (by exact ok__law_right T) (by exact hr.mono (by decide)) (by exact hgd) (by rfl) (by exact T.m__law_right) (by exact T.F__law_right.kp) (by exact T.b__law_right) (by exact (sa_cons (by exact se_call (ps := ["_law_figure"]) (by exact ok__law_pool T) (by exact hr.mono (by decide)) (by exact hgd) (by rfl) (by exact T.m__law_pool) (by exact T.F__law_pool.kp) (by exact T.b__law_pool) (by exact (sa_cons (by exact se_call (ps := ["_law_script", "_law_k"]) (by exact ok__law_cell T) (by exact hr.mono (by decide)) (by exact hgd) (by rfl) (by exact T.m__law_cell) (by exact T.F__law_cell.kp) (by exact T.b__law_cell) (by exact (sa_cons (by exact sv_f 0) (sa_cons (by exact sv_l 1) sa_nil)))) sa_nil))) sa_nil))))) sa_nil)))))))
end
theorem all_mk {K : Frg} {h : Heap} {mg : Str → Option Value} {fa : Addr} {C_Box : Addr} {C_Moments : Addr} {f_word_of : Addr} {oc_word_of kV_word_of dc_word_of pm_word_of cd_word_of ct_word_of : Value} {od_word_of an_word_of : Option Addr} {sl_word_of : Array (Option Value)} {f_Moments_index_of : Addr} {oc_Moments_index_of kV_Moments_index_of dc_Moments_index_of pm_Moments_index_of cd_Moments_index_of ct_Moments_index_of : Value} {od_Moments_index_of an_Moments_index_of : Option Addr} {sl_Moments_index_of : Array (Option Value)} {f_Box_moment : Addr} {oc_Box_moment kV_Box_moment dc_Box_moment pm_Box_moment cd_Box_moment ct_Box_moment : Value} {od_Box_moment an_Box_moment : Option Addr} {sl_Box_moment : Array (Option Value)} {f_Box_told : Addr} {oc_Box_told kV_Box_told dc_Box_told pm_Box_told cd_Box_told ct_Box_told : Value} {od_Box_told an_Box_told : Option Addr} {sl_Box_told : Array (Option Value)} {f_Box_touch : Addr} {oc_Box_touch kV_Box_touch dc_Box_touch pm_Box_touch cd_Box_touch ct_Box_touch : Value} {od_Box_touch an_Box_touch : Option Addr} {sl_Box_touch : Array (Option Value)} {f_Box_fill : Addr} {oc_Box_fill kV_Box_fill dc_Box_fill pm_Box_fill cd_Box_fill ct_Box_fill : Value} {od_Box_fill an_Box_fill : Option Addr} {sl_Box_fill : Array (Option Value)} {f_Box_go_down : Addr} {oc_Box_go_down kV_Box_go_down dc_Box_go_down pm_Box_go_down cd_Box_go_down ct_Box_go_down : Value} {od_Box_go_down an_Box_go_down : Option Addr} {sl_Box_go_down : Array (Option Value)} {f_Box_holds : Addr} {oc_Box_holds kV_Box_holds dc_Box_holds pm_Box_holds cd_Box_holds ct_Box_holds : Value} {od_Box_holds an_Box_holds : Option Addr} {sl_Box_holds : Array (Option Value)} {f_Box_ask : Addr} {oc_Box_ask kV_Box_ask dc_Box_ask pm_Box_ask cd_Box_ask ct_Box_ask : Value} {od_Box_ask an_Box_ask : Option Addr} {sl_Box_ask : Array (Option Value)} {f_Box_init : Addr} {oc_Box_init kV_Box_init dc_Box_init pm_Box_init cd_Box_init ct_Box_init : Value} {od_Box_init an_Box_init : Option Addr} {sl_Box_init : Array (Option Value)} {f_box_at : Addr} {oc_box_at kV_box_at dc_box_at pm_box_at cd_box_at ct_box_at : Value} {od_box_at an_box_at : Option Addr} {sl_box_at : Array (Option Value)} {f_Moments_init : Addr} {oc_Moments_init kV_Moments_init dc_Moments_init pm_Moments_init cd_Moments_init ct_Moments_init : Value} {od_Moments_init an_Moments_init : Option Addr} {sl_Moments_init : Array (Option Value)} {f_is_integer : Addr} {oc_is_integer kV_is_integer dc_is_integer pm_is_integer cd_is_integer ct_is_integer : Value} {od_is_integer an_is_integer : Option Addr} {sl_is_integer : Array (Option Value)} {f_is_between : Addr} {oc_is_between kV_is_between dc_is_between pm_is_between cd_is_between ct_is_between : Value} {od_is_between an_is_between : Option Addr} {sl_is_between : Array (Option Value)} {f_is_name : Addr} {oc_is_name kV_is_name dc_is_name pm_is_name cd_is_name ct_is_name : Value} {od_is_name an_is_name : Option Addr} {sl_is_name : Array (Option Value)} {f_is_place : Addr} {oc_is_place kV_is_place dc_is_place pm_is_place cd_is_place ct_is_place : Value} {od_is_place an_is_place : Option Addr} {sl_is_place : Array (Option Value)} {f_is_program : Addr} {oc_is_program kV_is_program dc_is_program pm_is_program cd_is_program ct_is_program : Value} {od_is_program an_is_program : Option Addr} {sl_is_program : Array (Option Value)} {f_check_program : Addr} {oc_check_program kV_check_program dc_check_program pm_check_program cd_check_program ct_check_program : Value} {od_check_program an_check_program : Option Addr} {sl_check_program : Array (Option Value)} {f_is_row : Addr} {oc_is_row kV_is_row dc_is_row pm_is_row cd_is_row ct_is_row : Value} {od_is_row an_is_row : Option Addr} {sl_is_row : Array (Option Value)} {f_is_policy : Addr} {oc_is_policy kV_is_policy dc_is_policy pm_is_policy cd_is_policy ct_is_policy : Value} {od_is_policy an_is_policy : Option Addr} {sl_is_policy : Array (Option Value)} {f_is_device : Addr} {oc_is_device kV_is_device dc_is_device pm_is_device cd_is_device ct_is_device : Value} {od_is_device an_is_device : Option Addr} {sl_is_device : Array (Option Value)} {f_check_device : Addr} {oc_check_device kV_check_device dc_check_device pm_check_device cd_check_device ct_check_device : Value} {od_check_device an_check_device : Option Addr} {sl_check_device : Array (Option Value)} {f_moments_of : Addr} {oc_moments_of kV_moments_of dc_moments_of pm_moments_of cd_moments_of ct_moments_of : Value} {od_moments_of an_moments_of : Option Addr} {sl_moments_of : Array (Option Value)} {f_verdicts : Addr} {oc_verdicts kV_verdicts dc_verdicts pm_verdicts cd_verdicts ct_verdicts : Value} {od_verdicts an_verdicts : Option Addr} {sl_verdicts : Array (Option Value)} {f__law_words : Addr} {oc__law_words kV__law_words dc__law_words pm__law_words cd__law_words ct__law_words : Value} {od__law_words an__law_words : Option Addr} {sl__law_words : Array (Option Value)} {f__law_go : Addr} {oc__law_go kV__law_go dc__law_go pm__law_go cd__law_go ct__law_go : Value} {od__law_go an__law_go : Option Addr} {sl__law_go : Array (Option Value)} {f__law_ask : Addr} {oc__law_ask kV__law_ask dc__law_ask pm__law_ask cd__law_ask ct__law_ask : Value} {od__law_ask an__law_ask : Option Addr} {sl__law_ask : Array (Option Value)} {f__law_filled : Addr} {oc__law_filled kV__law_filled dc__law_filled pm__law_filled cd__law_filled ct__law_filled : Value} {od__law_filled an__law_filled : Option Addr} {sl__law_filled : Array (Option Value)} {f__law_beads : Addr} {oc__law_beads kV__law_beads dc__law_beads pm__law_beads cd__law_beads ct__law_beads : Value} {od__law_beads an__law_beads : Option Addr} {sl__law_beads : Array (Option Value)} {f__law_draw : Addr} {oc__law_draw kV__law_draw dc__law_draw pm__law_draw cd__law_draw ct__law_draw : Value} {od__law_draw an__law_draw : Option Addr} {sl__law_draw : Array (Option Value)} {f__law_plan : Addr} {oc__law_plan kV__law_plan dc__law_plan pm__law_plan cd__law_plan ct__law_plan : Value} {od__law_plan an__law_plan : Option Addr} {sl__law_plan : Array (Option Value)} {f__law_policy : Addr} {oc__law_policy kV__law_policy dc__law_policy pm__law_policy cd__law_policy ct__law_policy : Value} {od__law_policy an__law_policy : Option Addr} {sl__law_policy : Array (Option Value)} {f__law_queue : Addr} {oc__law_queue kV__law_queue dc__law_queue pm__law_queue cd__law_queue ct__law_queue : Value} {od__law_queue an__law_queue : Option Addr} {sl__law_queue : Array (Option Value)} {f__law_recent : Addr} {oc__law_recent kV__law_recent dc__law_recent pm__law_recent cd__law_recent ct__law_recent : Value} {od__law_recent an__law_recent : Option Addr} {sl__law_recent : Array (Option Value)} {f__law_device : Addr} {oc__law_device kV__law_device dc__law_device pm__law_device cd__law_device ct__law_device : Value} {od__law_device an__law_device : Option Addr} {sl__law_device : Array (Option Value)} {f__law_kit : Addr} {oc__law_kit kV__law_kit dc__law_kit pm__law_kit cd__law_kit ct__law_kit : Value} {od__law_kit an__law_kit : Option Addr} {sl__law_kit : Array (Option Value)} {f__law_right : Addr} {oc__law_right kV__law_right dc__law_right pm__law_right cd__law_right ct__law_right : Value} {od__law_right an__law_right : Option Addr} {sl__law_right : Array (Option Value)} {f__law_pool : Addr} {oc__law_pool kV__law_pool dc__law_pool pm__law_pool cd__law_pool ct__law_pool : Value} {od__law_pool an__law_pool : Option Addr} {sl__law_pool : Array (Option Value)} {f__law_cell : Addr} {oc__law_cell kV__law_cell dc__law_cell pm__law_cell cd__law_cell ct__law_cell : Value} {od__law_cell an__law_cell : Option Addr} {sl__law_cell : Array (Option Value)} {f__law_by_hand : Addr} {oc__law_by_hand kV__law_by_hand dc__law_by_hand pm__law_by_hand cd__law_by_hand ct__law_by_hand : Value} {od__law_by_hand an__law_by_hand : Option Addr} {sl__law_by_hand : Array (Option Value)} {f__law_wide : Addr} {oc__law_wide kV__law_wide dc__law_wide pm__law_wide cd__law_wide ct__law_wide : Value} {od__law_wide an__law_wide : Option Addr} {sl__law_wide : Array (Option Value)} {f__law_wide_right : Addr} {oc__law_wide_right kV__law_wide_right dc__law_wide_right pm__law_wide_right cd__law_wide_right ct__law_wide_right : Value} {od__law_wide_right an__law_wide_right : Option Addr} {sl__law_wide_right : Array (Option Value)} {f_law : Addr} {oc_law kV_law dc_law pm_law cd_law ct_law : Value} {od_law an_law : Option Addr} {sl_law : Array (Option Value)} {gt_LETTERS : Tok} {ga_LEVELS : Addr} {gn_LEVELS : Nat} {gs_LEVELS : Array (Option Value)} {gt0_LEVELS : Tok} {gt1_LEVELS : Tok} {gt2_LEVELS : Tok} {gt_LONGEST : Tok} {gt_MOST_DIFFERENT : Tok} {gt_MOST_LINES : Tok} {gt_MOST_PLACES : Tok} {gt_MOST_SITUATIONS : Tok} {gt_MOST_STATES : Tok} (X : K.In h) (G : h.Ns mainGlobals mg) (hfa : mg "law" = some (.ref fa))
    (aC_Box : PySem.W.nsIn K mainGlobals "Box" = some (some (.ref C_Box)))
    (pg_Box : PySem.W.plainGet K C_Box Str.empty = true)
    (hd_Box : PySem.W.hasDictIn K C_Box = true)
    (po_Box : PySem.W.plainOver K C_Box = true)
    (sa_Box : PySem.W.findIn K (.ref C_Box) "__setattr__" = some (some (.builtin "object.__setattr__")))
    (aC_Moments : PySem.W.nsIn K mainGlobals "Moments" = some (some (.ref C_Moments)))
    (pg_Moments : PySem.W.plainGet K C_Moments Str.empty = true)
    (hd_Moments : PySem.W.hasDictIn K C_Moments = true)
    (po_Moments : PySem.W.plainOver K C_Moments = true)
    (sa_Moments : PySem.W.findIn K (.ref C_Moments) "__setattr__" = some (some (.builtin "object.__setattr__")))
    (a_word_of : PySem.W.nsIn K mainGlobals "word_of" = some (some (.ref f_word_of)))
    (l_word_of : K.lookup f_word_of = some ⟨oc_word_of, od_word_of, .func (PySem.W.fnOf "word_of" "word_of" (defArgs s_word_of) (defBody s_word_of) (defScope s_word_of) .none kV_word_of dc_word_of pm_word_of an_word_of cd_word_of ct_word_of), sl_word_of⟩)
    (c_word_of : PySem.W.codeIn K cd_word_of "word_of" = true)
    (k_word_of : PySem.W.keepIn K (.ref f_word_of) = true)
    (a_Moments_index_of : PySem.W.findIn K (.ref C_Moments) "index_of" = some (some (.ref f_Moments_index_of)))
    (i_Moments_index_of : PySem.W.isFn K (.ref f_Moments_index_of) = true)
    (l_Moments_index_of : K.lookup f_Moments_index_of = some ⟨oc_Moments_index_of, od_Moments_index_of, .func (PySem.W.fnOf "index_of" "Moments.index_of" (defArgs s_Moments_index_of) (defBody s_Moments_index_of) (defScope s_Moments_index_of) .none kV_Moments_index_of dc_Moments_index_of pm_Moments_index_of an_Moments_index_of cd_Moments_index_of ct_Moments_index_of), sl_Moments_index_of⟩)
    (c_Moments_index_of : PySem.W.codeIn K cd_Moments_index_of "Moments.index_of" = true)
    (k_Moments_index_of : PySem.W.keepIn K (.ref f_Moments_index_of) = true)
    (a_Box_moment : PySem.W.findIn K (.ref C_Box) "moment" = some (some (.ref f_Box_moment)))
    (i_Box_moment : PySem.W.isFn K (.ref f_Box_moment) = true)
    (l_Box_moment : K.lookup f_Box_moment = some ⟨oc_Box_moment, od_Box_moment, .func (PySem.W.fnOf "moment" "Box.moment" (defArgs s_Box_moment) (defBody s_Box_moment) (defScope s_Box_moment) .none kV_Box_moment dc_Box_moment pm_Box_moment an_Box_moment cd_Box_moment ct_Box_moment), sl_Box_moment⟩)
    (c_Box_moment : PySem.W.codeIn K cd_Box_moment "Box.moment" = true)
    (k_Box_moment : PySem.W.keepIn K (.ref f_Box_moment) = true)
    (a_Box_told : PySem.W.findIn K (.ref C_Box) "told" = some (some (.ref f_Box_told)))
    (i_Box_told : PySem.W.isFn K (.ref f_Box_told) = true)
    (l_Box_told : K.lookup f_Box_told = some ⟨oc_Box_told, od_Box_told, .func (PySem.W.fnOf "told" "Box.told" (defArgs s_Box_told) (defBody s_Box_told) (defScope s_Box_told) .none kV_Box_told dc_Box_told pm_Box_told an_Box_told cd_Box_told ct_Box_told), sl_Box_told⟩)
    (c_Box_told : PySem.W.codeIn K cd_Box_told "Box.told" = true)
    (k_Box_told : PySem.W.keepIn K (.ref f_Box_told) = true)
    (a_Box_touch : PySem.W.findIn K (.ref C_Box) "touch" = some (some (.ref f_Box_touch)))
    (i_Box_touch : PySem.W.isFn K (.ref f_Box_touch) = true)
    (l_Box_touch : K.lookup f_Box_touch = some ⟨oc_Box_touch, od_Box_touch, .func (PySem.W.fnOf "touch" "Box.touch" (defArgs s_Box_touch) (defBody s_Box_touch) (defScope s_Box_touch) .none kV_Box_touch dc_Box_touch pm_Box_touch an_Box_touch cd_Box_touch ct_Box_touch), sl_Box_touch⟩)
    (c_Box_touch : PySem.W.codeIn K cd_Box_touch "Box.touch" = true)
    (k_Box_touch : PySem.W.keepIn K (.ref f_Box_touch) = true)
    (a_Box_fill : PySem.W.findIn K (.ref C_Box) "fill" = some (some (.ref f_Box_fill)))
    (i_Box_fill : PySem.W.isFn K (.ref f_Box_fill) = true)
    (l_Box_fill : K.lookup f_Box_fill = some ⟨oc_Box_fill, od_Box_fill, .func (PySem.W.fnOf "fill" "Box.fill" (defArgs s_Box_fill) (defBody s_Box_fill) (defScope s_Box_fill) .none kV_Box_fill dc_Box_fill pm_Box_fill an_Box_fill cd_Box_fill ct_Box_fill), sl_Box_fill⟩)
    (c_Box_fill : PySem.W.codeIn K cd_Box_fill "Box.fill" = true)
    (k_Box_fill : PySem.W.keepIn K (.ref f_Box_fill) = true)
    (a_Box_go_down : PySem.W.findIn K (.ref C_Box) "go_down" = some (some (.ref f_Box_go_down)))
    (i_Box_go_down : PySem.W.isFn K (.ref f_Box_go_down) = true)
    (l_Box_go_down : K.lookup f_Box_go_down = some ⟨oc_Box_go_down, od_Box_go_down, .func (PySem.W.fnOf "go_down" "Box.go_down" (defArgs s_Box_go_down) (defBody s_Box_go_down) (defScope s_Box_go_down) .none kV_Box_go_down dc_Box_go_down pm_Box_go_down an_Box_go_down cd_Box_go_down ct_Box_go_down), sl_Box_go_down⟩)
    (c_Box_go_down : PySem.W.codeIn K cd_Box_go_down "Box.go_down" = true)
    (k_Box_go_down : PySem.W.keepIn K (.ref f_Box_go_down) = true)
    (a_Box_holds : PySem.W.findIn K (.ref C_Box) "holds" = some (some (.ref f_Box_holds)))
    (i_Box_holds : PySem.W.isFn K (.ref f_Box_holds) = true)
    (l_Box_holds : K.lookup f_Box_holds = some ⟨oc_Box_holds, od_Box_holds, .func (PySem.W.fnOf "holds" "Box.holds" (defArgs s_Box_holds) (defBody s_Box_holds) (defScope s_Box_holds) .none kV_Box_holds dc_Box_holds pm_Box_holds an_Box_holds cd_Box_holds ct_Box_holds), sl_Box_holds⟩)
    (c_Box_holds : PySem.W.codeIn K cd_Box_holds "Box.holds" = true)
    (k_Box_holds : PySem.W.keepIn K (.ref f_Box_holds) = true)
    (a_Box_ask : PySem.W.findIn K (.ref C_Box) "ask" = some (some (.ref f_Box_ask)))
    (i_Box_ask : PySem.W.isFn K (.ref f_Box_ask) = true)
    (l_Box_ask : K.lookup f_Box_ask = some ⟨oc_Box_ask, od_Box_ask, .func (PySem.W.fnOf "ask" "Box.ask" (defArgs s_Box_ask) (defBody s_Box_ask) (defScope s_Box_ask) .none kV_Box_ask dc_Box_ask pm_Box_ask an_Box_ask cd_Box_ask ct_Box_ask), sl_Box_ask⟩)
    (c_Box_ask : PySem.W.codeIn K cd_Box_ask "Box.ask" = true)
    (k_Box_ask : PySem.W.keepIn K (.ref f_Box_ask) = true)
    (a_Box_init : PySem.W.findIn K (.ref C_Box) "__init__" = some (some (.ref f_Box_init)))
    (i_Box_init : PySem.W.isFn K (.ref f_Box_init) = true)
    (mk_Box : PySem.W.makesIn K C_Box = true)
    (kc_Box : PySem.W.keepIn K (.ref C_Box) = true)
    (l_Box_init : K.lookup f_Box_init = some ⟨oc_Box_init, od_Box_init, .func (PySem.W.fnOf "__init__" "Box.__init__" (defArgs s_Box_init) (defBody s_Box_init) (defScope s_Box_init) .none kV_Box_init dc_Box_init pm_Box_init an_Box_init cd_Box_init ct_Box_init), sl_Box_init⟩)
    (c_Box_init : PySem.W.codeIn K cd_Box_init "Box.__init__" = true)
    (k_Box_init : PySem.W.keepIn K (.ref f_Box_init) = true)
    (a_box_at : PySem.W.nsIn K mainGlobals "box_at" = some (some (.ref f_box_at)))
    (l_box_at : K.lookup f_box_at = some ⟨oc_box_at, od_box_at, .func (PySem.W.fnOf "box_at" "box_at" (defArgs s_box_at) (defBody s_box_at) (defScope s_box_at) .none kV_box_at dc_box_at pm_box_at an_box_at cd_box_at ct_box_at), sl_box_at⟩)
    (c_box_at : PySem.W.codeIn K cd_box_at "box_at" = true)
    (k_box_at : PySem.W.keepIn K (.ref f_box_at) = true)
    (a_Moments_init : PySem.W.findIn K (.ref C_Moments) "__init__" = some (some (.ref f_Moments_init)))
    (i_Moments_init : PySem.W.isFn K (.ref f_Moments_init) = true)
    (mk_Moments : PySem.W.makesIn K C_Moments = true)
    (kc_Moments : PySem.W.keepIn K (.ref C_Moments) = true)
    (l_Moments_init : K.lookup f_Moments_init = some ⟨oc_Moments_init, od_Moments_init, .func (PySem.W.fnOf "__init__" "Moments.__init__" (defArgs s_Moments_init) (defBody s_Moments_init) (defScope s_Moments_init) .none kV_Moments_init dc_Moments_init pm_Moments_init an_Moments_init cd_Moments_init ct_Moments_init), sl_Moments_init⟩)
    (c_Moments_init : PySem.W.codeIn K cd_Moments_init "Moments.__init__" = true)
    (k_Moments_init : PySem.W.keepIn K (.ref f_Moments_init) = true)
    (a_is_integer : PySem.W.nsIn K mainGlobals "is_integer" = some (some (.ref f_is_integer)))
    (l_is_integer : K.lookup f_is_integer = some ⟨oc_is_integer, od_is_integer, .func (PySem.W.fnOf "is_integer" "is_integer" (defArgs s_is_integer) (defBody s_is_integer) (defScope s_is_integer) .none kV_is_integer dc_is_integer pm_is_integer an_is_integer cd_is_integer ct_is_integer), sl_is_integer⟩)
    (c_is_integer : PySem.W.codeIn K cd_is_integer "is_integer" = true)
    (k_is_integer : PySem.W.keepIn K (.ref f_is_integer) = true)
    (a_is_between : PySem.W.nsIn K mainGlobals "is_between" = some (some (.ref f_is_between)))
    (l_is_between : K.lookup f_is_between = some ⟨oc_is_between, od_is_between, .func (PySem.W.fnOf "is_between" "is_between" (defArgs s_is_between) (defBody s_is_between) (defScope s_is_between) .none kV_is_between dc_is_between pm_is_between an_is_between cd_is_between ct_is_between), sl_is_between⟩)
    (c_is_between : PySem.W.codeIn K cd_is_between "is_between" = true)
    (k_is_between : PySem.W.keepIn K (.ref f_is_between) = true)
    (a_is_name : PySem.W.nsIn K mainGlobals "is_name" = some (some (.ref f_is_name)))
    (l_is_name : K.lookup f_is_name = some ⟨oc_is_name, od_is_name, .func (PySem.W.fnOf "is_name" "is_name" (defArgs s_is_name) (defBody s_is_name) (defScope s_is_name) .none kV_is_name dc_is_name pm_is_name an_is_name cd_is_name ct_is_name), sl_is_name⟩)
    (c_is_name : PySem.W.codeIn K cd_is_name "is_name" = true)
    (k_is_name : PySem.W.keepIn K (.ref f_is_name) = true)
    (a_is_place : PySem.W.nsIn K mainGlobals "is_place" = some (some (.ref f_is_place)))
    (l_is_place : K.lookup f_is_place = some ⟨oc_is_place, od_is_place, .func (PySem.W.fnOf "is_place" "is_place" (defArgs s_is_place) (defBody s_is_place) (defScope s_is_place) .none kV_is_place dc_is_place pm_is_place an_is_place cd_is_place ct_is_place), sl_is_place⟩)
    (c_is_place : PySem.W.codeIn K cd_is_place "is_place" = true)
    (k_is_place : PySem.W.keepIn K (.ref f_is_place) = true)
    (a_is_program : PySem.W.nsIn K mainGlobals "is_program" = some (some (.ref f_is_program)))
    (l_is_program : K.lookup f_is_program = some ⟨oc_is_program, od_is_program, .func (PySem.W.fnOf "is_program" "is_program" (defArgs s_is_program) (defBody s_is_program) (defScope s_is_program) .none kV_is_program dc_is_program pm_is_program an_is_program cd_is_program ct_is_program), sl_is_program⟩)
    (c_is_program : PySem.W.codeIn K cd_is_program "is_program" = true)
    (k_is_program : PySem.W.keepIn K (.ref f_is_program) = true)
    (a_check_program : PySem.W.nsIn K mainGlobals "check_program" = some (some (.ref f_check_program)))
    (l_check_program : K.lookup f_check_program = some ⟨oc_check_program, od_check_program, .func (PySem.W.fnOf "check_program" "check_program" (defArgs s_check_program) (defBody s_check_program) (defScope s_check_program) .none kV_check_program dc_check_program pm_check_program an_check_program cd_check_program ct_check_program), sl_check_program⟩)
    (c_check_program : PySem.W.codeIn K cd_check_program "check_program" = true)
    (k_check_program : PySem.W.keepIn K (.ref f_check_program) = true)
    (a_is_row : PySem.W.nsIn K mainGlobals "is_row" = some (some (.ref f_is_row)))
    (l_is_row : K.lookup f_is_row = some ⟨oc_is_row, od_is_row, .func (PySem.W.fnOf "is_row" "is_row" (defArgs s_is_row) (defBody s_is_row) (defScope s_is_row) .none kV_is_row dc_is_row pm_is_row an_is_row cd_is_row ct_is_row), sl_is_row⟩)
    (c_is_row : PySem.W.codeIn K cd_is_row "is_row" = true)
    (k_is_row : PySem.W.keepIn K (.ref f_is_row) = true)
    (a_is_policy : PySem.W.nsIn K mainGlobals "is_policy" = some (some (.ref f_is_policy)))
    (l_is_policy : K.lookup f_is_policy = some ⟨oc_is_policy, od_is_policy, .func (PySem.W.fnOf "is_policy" "is_policy" (defArgs s_is_policy) (defBody s_is_policy) (defScope s_is_policy) .none kV_is_policy dc_is_policy pm_is_policy an_is_policy cd_is_policy ct_is_policy), sl_is_policy⟩)
    (c_is_policy : PySem.W.codeIn K cd_is_policy "is_policy" = true)
    (k_is_policy : PySem.W.keepIn K (.ref f_is_policy) = true)
    (a_is_device : PySem.W.nsIn K mainGlobals "is_device" = some (some (.ref f_is_device)))
    (l_is_device : K.lookup f_is_device = some ⟨oc_is_device, od_is_device, .func (PySem.W.fnOf "is_device" "is_device" (defArgs s_is_device) (defBody s_is_device) (defScope s_is_device) .none kV_is_device dc_is_device pm_is_device an_is_device cd_is_device ct_is_device), sl_is_device⟩)
    (c_is_device : PySem.W.codeIn K cd_is_device "is_device" = true)
    (k_is_device : PySem.W.keepIn K (.ref f_is_device) = true)
    (a_check_device : PySem.W.nsIn K mainGlobals "check_device" = some (some (.ref f_check_device)))
    (l_check_device : K.lookup f_check_device = some ⟨oc_check_device, od_check_device, .func (PySem.W.fnOf "check_device" "check_device" (defArgs s_check_device) (defBody s_check_device) (defScope s_check_device) .none kV_check_device dc_check_device pm_check_device an_check_device cd_check_device ct_check_device), sl_check_device⟩)
    (c_check_device : PySem.W.codeIn K cd_check_device "check_device" = true)
    (k_check_device : PySem.W.keepIn K (.ref f_check_device) = true)
    (a_moments_of : PySem.W.nsIn K mainGlobals "moments_of" = some (some (.ref f_moments_of)))
    (l_moments_of : K.lookup f_moments_of = some ⟨oc_moments_of, od_moments_of, .func (PySem.W.fnOf "moments_of" "moments_of" (defArgs s_moments_of) (defBody s_moments_of) (defScope s_moments_of) .none kV_moments_of dc_moments_of pm_moments_of an_moments_of cd_moments_of ct_moments_of), sl_moments_of⟩)
    (c_moments_of : PySem.W.codeIn K cd_moments_of "moments_of" = true)
    (k_moments_of : PySem.W.keepIn K (.ref f_moments_of) = true)
    (a_verdicts : PySem.W.nsIn K mainGlobals "verdicts" = some (some (.ref f_verdicts)))
    (l_verdicts : K.lookup f_verdicts = some ⟨oc_verdicts, od_verdicts, .func (PySem.W.fnOf "verdicts" "verdicts" (defArgs s_verdicts) (defBody s_verdicts) (defScope s_verdicts) .none kV_verdicts dc_verdicts pm_verdicts an_verdicts cd_verdicts ct_verdicts), sl_verdicts⟩)
    (c_verdicts : PySem.W.codeIn K cd_verdicts "verdicts" = true)
    (k_verdicts : PySem.W.keepIn K (.ref f_verdicts) = true)
    (a__law_words : PySem.W.nsIn K mainGlobals "_law_words" = some (some (.ref f__law_words)))
    (l__law_words : K.lookup f__law_words = some ⟨oc__law_words, od__law_words, .func (PySem.W.fnOf "_law_words" "_law_words" (defArgs s__law_words) (defBody s__law_words) (defScope s__law_words) .none kV__law_words dc__law_words pm__law_words an__law_words cd__law_words ct__law_words), sl__law_words⟩)
    (c__law_words : PySem.W.codeIn K cd__law_words "_law_words" = true)
    (k__law_words : PySem.W.keepIn K (.ref f__law_words) = true)
    (a__law_go : PySem.W.nsIn K mainGlobals "_law_go" = some (some (.ref f__law_go)))
    (l__law_go : K.lookup f__law_go = some ⟨oc__law_go, od__law_go, .func (PySem.W.fnOf "_law_go" "_law_go" (defArgs s__law_go) (defBody s__law_go) (defScope s__law_go) .none kV__law_go dc__law_go pm__law_go an__law_go cd__law_go ct__law_go), sl__law_go⟩)
    (c__law_go : PySem.W.codeIn K cd__law_go "_law_go" = true)
    (k__law_go : PySem.W.keepIn K (.ref f__law_go) = true)
    (a__law_ask : PySem.W.nsIn K mainGlobals "_law_ask" = some (some (.ref f__law_ask)))
    (l__law_ask : K.lookup f__law_ask = some ⟨oc__law_ask, od__law_ask, .func (PySem.W.fnOf "_law_ask" "_law_ask" (defArgs s__law_ask) (defBody s__law_ask) (defScope s__law_ask) .none kV__law_ask dc__law_ask pm__law_ask an__law_ask cd__law_ask ct__law_ask), sl__law_ask⟩)
    (c__law_ask : PySem.W.codeIn K cd__law_ask "_law_ask" = true)
    (k__law_ask : PySem.W.keepIn K (.ref f__law_ask) = true)
    (a__law_filled : PySem.W.nsIn K mainGlobals "_law_filled" = some (some (.ref f__law_filled)))
    (l__law_filled : K.lookup f__law_filled = some ⟨oc__law_filled, od__law_filled, .func (PySem.W.fnOf "_law_filled" "_law_filled" (defArgs s__law_filled) (defBody s__law_filled) (defScope s__law_filled) .none kV__law_filled dc__law_filled pm__law_filled an__law_filled cd__law_filled ct__law_filled), sl__law_filled⟩)
    (c__law_filled : PySem.W.codeIn K cd__law_filled "_law_filled" = true)
    (k__law_filled : PySem.W.keepIn K (.ref f__law_filled) = true)
    (a__law_beads : PySem.W.nsIn K mainGlobals "_law_beads" = some (some (.ref f__law_beads)))
    (l__law_beads : K.lookup f__law_beads = some ⟨oc__law_beads, od__law_beads, .func (PySem.W.fnOf "_law_beads" "_law_beads" (defArgs s__law_beads) (defBody s__law_beads) (defScope s__law_beads) .none kV__law_beads dc__law_beads pm__law_beads an__law_beads cd__law_beads ct__law_beads), sl__law_beads⟩)
    (c__law_beads : PySem.W.codeIn K cd__law_beads "_law_beads" = true)
    (k__law_beads : PySem.W.keepIn K (.ref f__law_beads) = true)
    (a__law_draw : PySem.W.nsIn K mainGlobals "_law_draw" = some (some (.ref f__law_draw)))
    (l__law_draw : K.lookup f__law_draw = some ⟨oc__law_draw, od__law_draw, .func (PySem.W.fnOf "_law_draw" "_law_draw" (defArgs s__law_draw) (defBody s__law_draw) (defScope s__law_draw) .none kV__law_draw dc__law_draw pm__law_draw an__law_draw cd__law_draw ct__law_draw), sl__law_draw⟩)
    (c__law_draw : PySem.W.codeIn K cd__law_draw "_law_draw" = true)
    (k__law_draw : PySem.W.keepIn K (.ref f__law_draw) = true)
    (a__law_plan : PySem.W.nsIn K mainGlobals "_law_plan" = some (some (.ref f__law_plan)))
    (l__law_plan : K.lookup f__law_plan = some ⟨oc__law_plan, od__law_plan, .func (PySem.W.fnOf "_law_plan" "_law_plan" (defArgs s__law_plan) (defBody s__law_plan) (defScope s__law_plan) .none kV__law_plan dc__law_plan pm__law_plan an__law_plan cd__law_plan ct__law_plan), sl__law_plan⟩)
    (c__law_plan : PySem.W.codeIn K cd__law_plan "_law_plan" = true)
    (k__law_plan : PySem.W.keepIn K (.ref f__law_plan) = true)
    (a__law_policy : PySem.W.nsIn K mainGlobals "_law_policy" = some (some (.ref f__law_policy)))
    (l__law_policy : K.lookup f__law_policy = some ⟨oc__law_policy, od__law_policy, .func (PySem.W.fnOf "_law_policy" "_law_policy" (defArgs s__law_policy) (defBody s__law_policy) (defScope s__law_policy) .none kV__law_policy dc__law_policy pm__law_policy an__law_policy cd__law_policy ct__law_policy), sl__law_policy⟩)
    (c__law_policy : PySem.W.codeIn K cd__law_policy "_law_policy" = true)
    (k__law_policy : PySem.W.keepIn K (.ref f__law_policy) = true)
    (a__law_queue : PySem.W.nsIn K mainGlobals "_law_queue" = some (some (.ref f__law_queue)))
    (l__law_queue : K.lookup f__law_queue = some ⟨oc__law_queue, od__law_queue, .func (PySem.W.fnOf "_law_queue" "_law_queue" (defArgs s__law_queue) (defBody s__law_queue) (defScope s__law_queue) .none kV__law_queue dc__law_queue pm__law_queue an__law_queue cd__law_queue ct__law_queue), sl__law_queue⟩)
    (c__law_queue : PySem.W.codeIn K cd__law_queue "_law_queue" = true)
    (k__law_queue : PySem.W.keepIn K (.ref f__law_queue) = true)
    (a__law_recent : PySem.W.nsIn K mainGlobals "_law_recent" = some (some (.ref f__law_recent)))
    (l__law_recent : K.lookup f__law_recent = some ⟨oc__law_recent, od__law_recent, .func (PySem.W.fnOf "_law_recent" "_law_recent" (defArgs s__law_recent) (defBody s__law_recent) (defScope s__law_recent) .none kV__law_recent dc__law_recent pm__law_recent an__law_recent cd__law_recent ct__law_recent), sl__law_recent⟩)
    (c__law_recent : PySem.W.codeIn K cd__law_recent "_law_recent" = true)
    (k__law_recent : PySem.W.keepIn K (.ref f__law_recent) = true)
    (a__law_device : PySem.W.nsIn K mainGlobals "_law_device" = some (some (.ref f__law_device)))
    (l__law_device : K.lookup f__law_device = some ⟨oc__law_device, od__law_device, .func (PySem.W.fnOf "_law_device" "_law_device" (defArgs s__law_device) (defBody s__law_device) (defScope s__law_device) .none kV__law_device dc__law_device pm__law_device an__law_device cd__law_device ct__law_device), sl__law_device⟩)
    (c__law_device : PySem.W.codeIn K cd__law_device "_law_device" = true)
    (k__law_device : PySem.W.keepIn K (.ref f__law_device) = true)
    (a__law_kit : PySem.W.nsIn K mainGlobals "_law_kit" = some (some (.ref f__law_kit)))
    (l__law_kit : K.lookup f__law_kit = some ⟨oc__law_kit, od__law_kit, .func (PySem.W.fnOf "_law_kit" "_law_kit" (defArgs s__law_kit) (defBody s__law_kit) (defScope s__law_kit) .none kV__law_kit dc__law_kit pm__law_kit an__law_kit cd__law_kit ct__law_kit), sl__law_kit⟩)
    (c__law_kit : PySem.W.codeIn K cd__law_kit "_law_kit" = true)
    (k__law_kit : PySem.W.keepIn K (.ref f__law_kit) = true)
    (a__law_right : PySem.W.nsIn K mainGlobals "_law_right" = some (some (.ref f__law_right)))
    (l__law_right : K.lookup f__law_right = some ⟨oc__law_right, od__law_right, .func (PySem.W.fnOf "_law_right" "_law_right" (defArgs s__law_right) (defBody s__law_right) (defScope s__law_right) .none kV__law_right dc__law_right pm__law_right an__law_right cd__law_right ct__law_right), sl__law_right⟩)
    (c__law_right : PySem.W.codeIn K cd__law_right "_law_right" = true)
    (k__law_right : PySem.W.keepIn K (.ref f__law_right) = true)
    (a__law_pool : PySem.W.nsIn K mainGlobals "_law_pool" = some (some (.ref f__law_pool)))
    (l__law_pool : K.lookup f__law_pool = some ⟨oc__law_pool, od__law_pool, .func (PySem.W.fnOf "_law_pool" "_law_pool" (defArgs s__law_pool) (defBody s__law_pool) (defScope s__law_pool) .none kV__law_pool dc__law_pool pm__law_pool an__law_pool cd__law_pool ct__law_pool), sl__law_pool⟩)
    (c__law_pool : PySem.W.codeIn K cd__law_pool "_law_pool" = true)
    (k__law_pool : PySem.W.keepIn K (.ref f__law_pool) = true)
    (a__law_cell : PySem.W.nsIn K mainGlobals "_law_cell" = some (some (.ref f__law_cell)))
    (l__law_cell : K.lookup f__law_cell = some ⟨oc__law_cell, od__law_cell, .func (PySem.W.fnOf "_law_cell" "_law_cell" (defArgs s__law_cell) (defBody s__law_cell) (defScope s__law_cell) .none kV__law_cell dc__law_cell pm__law_cell an__law_cell cd__law_cell ct__law_cell), sl__law_cell⟩)
    (c__law_cell : PySem.W.codeIn K cd__law_cell "_law_cell" = true)
    (k__law_cell : PySem.W.keepIn K (.ref f__law_cell) = true)
    (a__law_by_hand : PySem.W.nsIn K mainGlobals "_law_by_hand" = some (some (.ref f__law_by_hand)))
    (l__law_by_hand : K.lookup f__law_by_hand = some ⟨oc__law_by_hand, od__law_by_hand, .func (PySem.W.fnOf "_law_by_hand" "_law_by_hand" (defArgs s__law_by_hand) (defBody s__law_by_hand) (defScope s__law_by_hand) .none kV__law_by_hand dc__law_by_hand pm__law_by_hand an__law_by_hand cd__law_by_hand ct__law_by_hand), sl__law_by_hand⟩)
    (c__law_by_hand : PySem.W.codeIn K cd__law_by_hand "_law_by_hand" = true)
    (k__law_by_hand : PySem.W.keepIn K (.ref f__law_by_hand) = true)
    (a__law_wide : PySem.W.nsIn K mainGlobals "_law_wide" = some (some (.ref f__law_wide)))
    (l__law_wide : K.lookup f__law_wide = some ⟨oc__law_wide, od__law_wide, .func (PySem.W.fnOf "_law_wide" "_law_wide" (defArgs s__law_wide) (defBody s__law_wide) (defScope s__law_wide) .none kV__law_wide dc__law_wide pm__law_wide an__law_wide cd__law_wide ct__law_wide), sl__law_wide⟩)
    (c__law_wide : PySem.W.codeIn K cd__law_wide "_law_wide" = true)
    (k__law_wide : PySem.W.keepIn K (.ref f__law_wide) = true)
    (a__law_wide_right : PySem.W.nsIn K mainGlobals "_law_wide_right" = some (some (.ref f__law_wide_right)))
    (l__law_wide_right : K.lookup f__law_wide_right = some ⟨oc__law_wide_right, od__law_wide_right, .func (PySem.W.fnOf "_law_wide_right" "_law_wide_right" (defArgs s__law_wide_right) (defBody s__law_wide_right) (defScope s__law_wide_right) .none kV__law_wide_right dc__law_wide_right pm__law_wide_right an__law_wide_right cd__law_wide_right ct__law_wide_right), sl__law_wide_right⟩)
    (c__law_wide_right : PySem.W.codeIn K cd__law_wide_right "_law_wide_right" = true)
    (k__law_wide_right : PySem.W.keepIn K (.ref f__law_wide_right) = true)
    (a_law : PySem.W.nsIn K mainGlobals "law" = some (some (.ref f_law)))
    (l_law : K.lookup f_law = some ⟨oc_law, od_law, .func (PySem.W.fnOf "law" "law" (defArgs s_law) (defBody s_law) (defScope s_law) .none kV_law dc_law pm_law an_law cd_law ct_law), sl_law⟩)
    (c_law : PySem.W.codeIn K cd_law "law" = true)
    (k_law : PySem.W.keepIn K (.ref f_law) = true)
    (na_Box_mode : PySem.W.findIn K (.ref C_Box) "mode" = some none)
    (na_Box_policies : PySem.W.findIn K (.ref C_Box) "policies" = some none)
    (na_Box_rows : PySem.W.findIn K (.ref C_Box) "rows" = some none)
    (na_Box_stages : PySem.W.findIn K (.ref C_Box) "stages" = some none)
    (na_Moments_indexes : PySem.W.findIn K (.ref C_Moments) "indexes" = some none)
    (na_Moments_missed : PySem.W.findIn K (.ref C_Moments) "missed" = some none)
    (na_Moments_nexts : PySem.W.findIn K (.ref C_Moments) "nexts" = some none)
    (na_Moments_order : PySem.W.findIn K (.ref C_Moments) "order" = some none)
    (na_Moments_sources : PySem.W.findIn K (.ref C_Moments) "sources" = some none)
    (z_abs : PySem.W.nsIn K mainGlobals "abs" = some none)
    (z_all : PySem.W.nsIn K mainGlobals "all" = some none)
    (z_any : PySem.W.nsIn K mainGlobals "any" = some none)
    (z_bool : PySem.W.nsIn K mainGlobals "bool" = some none)
    (z_divmod : PySem.W.nsIn K mainGlobals "divmod" = some none)
    (z_enumerate : PySem.W.nsIn K mainGlobals "enumerate" = some none)
    (z_int : PySem.W.nsIn K mainGlobals "int" = some none)
    (z_isinstance : PySem.W.nsIn K mainGlobals "isinstance" = some none)
    (z_len : PySem.W.nsIn K mainGlobals "len" = some none)
    (z_list : PySem.W.nsIn K mainGlobals "list" = some none)
    (z_max : PySem.W.nsIn K mainGlobals "max" = some none)
    (z_min : PySem.W.nsIn K mainGlobals "min" = some none)
    (z_range : PySem.W.nsIn K mainGlobals "range" = some none)
    (z_repr : PySem.W.nsIn K mainGlobals "repr" = some none)
    (z_set : PySem.W.nsIn K mainGlobals "set" = some none)
    (z_sorted : PySem.W.nsIn K mainGlobals "sorted" = some none)
    (z_str : PySem.W.nsIn K mainGlobals "str" = some none)
    (z_sum : PySem.W.nsIn K mainGlobals "sum" = some none)
    (z_tuple : PySem.W.nsIn K mainGlobals "tuple" = some none)
    (g_LETTERS : PySem.W.nsIn K mainGlobals "LETTERS" = some (some (.str "abcdefghijklmnopqrstuvwxyz" gt_LETTERS)))
    (g_LEVELS : PySem.W.nsIn K mainGlobals "LEVELS" = some (some (.ref ga_LEVELS)))
    (gl_LEVELS : K.lookup ga_LEVELS = some ⟨.type "tuple", none, .seq #[Value.str "plain" gt0_LEVELS, Value.str "inclusive" gt1_LEVELS, Value.str "victim" gt2_LEVELS] gn_LEVELS, gs_LEVELS⟩)
    (g_LONGEST : PySem.W.nsIn K mainGlobals "LONGEST" = some (some (.int 6 gt_LONGEST)))
    (g_MOST_DIFFERENT : PySem.W.nsIn K mainGlobals "MOST_DIFFERENT" = some (some (.int 8 gt_MOST_DIFFERENT)))
    (g_MOST_LINES : PySem.W.nsIn K mainGlobals "MOST_LINES" = some (some (.int 4 gt_MOST_LINES)))
    (g_MOST_PLACES : PySem.W.nsIn K mainGlobals "MOST_PLACES" = some (some (.int 30 gt_MOST_PLACES)))
    (g_MOST_SITUATIONS : PySem.W.nsIn K mainGlobals "MOST_SITUATIONS" = some (some (.int 600 gt_MOST_SITUATIONS)))
    (g_MOST_STATES : PySem.W.nsIn K mainGlobals "MOST_STATES" = some (some (.int 64 gt_MOST_STATES))) :
    ∃ T : Top K mg, T.f_law = fa ∧ ∀ (s : Shared) (v : Value), BindsTo s T.d_law ⟨[v], []⟩ [("_law_script", v)] :=
  ⟨{ C_Box := C_Box,
     cl_Box := ⟨pg_Box, hd_Box, po_Box, sa_Box⟩,
     mC_Box := PySem.W.mg_of X G aC_Box,
     C_Moments := C_Moments,
     cl_Moments := ⟨pg_Moments, hd_Moments, po_Moments, sa_Moments⟩,
     mC_Moments := PySem.W.mg_of X G aC_Moments,
     f_word_of := f_word_of,
     d_word_of := PySem.W.fnOf "word_of" "word_of" (defArgs s_word_of) (defBody s_word_of) (defScope s_word_of) .none kV_word_of dc_word_of pm_word_of an_word_of cd_word_of ct_word_of,
     F_word_of := fun_mk (st := s_word_of) l_word_of c_word_of k_word_of,
     b_word_of := (fun_mk (st := s_word_of) l_word_of c_word_of k_word_of).binds (ps := ["misses"]) fun _ _ _ _ _ _ us hl => match us, hl with | [_], _ => rfl,
     m_word_of := PySem.W.mg_of X G a_word_of,
     f_Moments_index_of := f_Moments_index_of,
     d_Moments_index_of := PySem.W.fnOf "index_of" "Moments.index_of" (defArgs s_Moments_index_of) (defBody s_Moments_index_of) (defScope s_Moments_index_of) .none kV_Moments_index_of dc_Moments_index_of pm_Moments_index_of an_Moments_index_of cd_Moments_index_of ct_Moments_index_of,
     F_Moments_index_of := fun_mk (st := s_Moments_index_of) l_Moments_index_of c_Moments_index_of k_Moments_index_of,
     b_Moments_index_of := (fun_mk (st := s_Moments_index_of) l_Moments_index_of c_Moments_index_of k_Moments_index_of).binds (ps := ["self", "moment"]) fun _ _ _ _ _ _ us hl => match us, hl with | [_, _], _ => rfl,
     me_Moments_index_of := ⟨a_Moments_index_of, i_Moments_index_of, k_Moments_index_of⟩,
     f_Box_moment := f_Box_moment,
     d_Box_moment := PySem.W.fnOf "moment" "Box.moment" (defArgs s_Box_moment) (defBody s_Box_moment) (defScope s_Box_moment) .none kV_Box_moment dc_Box_moment pm_Box_moment an_Box_moment cd_Box_moment ct_Box_moment,
     F_Box_moment := fun_mk (st := s_Box_moment) l_Box_moment c_Box_moment k_Box_moment,
     b_Box_moment := (fun_mk (st := s_Box_moment) l_Box_moment c_Box_moment k_Box_moment).binds (ps := ["self"]) fun _ _ _ _ _ _ us hl => match us, hl with | [_], _ => rfl,
     me_Box_moment := ⟨a_Box_moment, i_Box_moment, k_Box_moment⟩,
     f_Box_told := f_Box_told,
     d_Box_told := PySem.W.fnOf "told" "Box.told" (defArgs s_Box_told) (defBody s_Box_told) (defScope s_Box_told) .none kV_Box_told dc_Box_told pm_Box_told an_Box_told cd_Box_told ct_Box_told,
     F_Box_told := fun_mk (st := s_Box_told) l_Box_told c_Box_told k_Box_told,
     b_Box_told := (fun_mk (st := s_Box_told) l_Box_told c_Box_told k_Box_told).binds (ps := ["self", "level"]) fun _ _ _ _ _ _ us hl => match us, hl with | [_, _], _ => rfl,
     me_Box_told := ⟨a_Box_told, i_Box_told, k_Box_told⟩,
     f_Box_touch := f_Box_touch,
     d_Box_touch := PySem.W.fnOf "touch" "Box.touch" (defArgs s_Box_touch) (defBody s_Box_touch) (defScope s_Box_touch) .none kV_Box_touch dc_Box_touch pm_Box_touch an_Box_touch cd_Box_touch ct_Box_touch,
     F_Box_touch := fun_mk (st := s_Box_touch) l_Box_touch c_Box_touch k_Box_touch,
     b_Box_touch := (fun_mk (st := s_Box_touch) l_Box_touch c_Box_touch k_Box_touch).binds (ps := ["self", "level", "line"]) fun _ _ _ _ _ _ us hl => match us, hl with | [_, _, _], _ => rfl,
     me_Box_touch := ⟨a_Box_touch, i_Box_touch, k_Box_touch⟩,
     f_Box_fill := f_Box_fill,
     d_Box_fill := PySem.W.fnOf "fill" "Box.fill" (defArgs s_Box_fill) (defBody s_Box_fill) (defScope s_Box_fill) .none kV_Box_fill dc_Box_fill pm_Box_fill an_Box_fill cd_Box_fill ct_Box_fill,
     F_Box_fill := fun_mk (st := s_Box_fill) l_Box_fill c_Box_fill k_Box_fill,
     b_Box_fill := (fun_mk (st := s_Box_fill) l_Box_fill c_Box_fill k_Box_fill).binds (ps := ["self", "level", "name"]) fun _ _ _ _ _ _ us hl => match us, hl with | [_, _, _], _ => rfl,
     me_Box_fill := ⟨a_Box_fill, i_Box_fill, k_Box_fill⟩,
     f_Box_go_down := f_Box_go_down,
     d_Box_go_down := PySem.W.fnOf "go_down" "Box.go_down" (defArgs s_Box_go_down) (defBody s_Box_go_down) (defScope s_Box_go_down) .none kV_Box_go_down dc_Box_go_down pm_Box_go_down an_Box_go_down cd_Box_go_down ct_Box_go_down,
     F_Box_go_down := fun_mk (st := s_Box_go_down) l_Box_go_down c_Box_go_down k_Box_go_down,
     b_Box_go_down := (fun_mk (st := s_Box_go_down) l_Box_go_down c_Box_go_down k_Box_go_down).binds (ps := ["self", "name", "gone"]) fun _ _ _ _ _ _ us hl => match us, hl with | [_, _, _], _ => rfl,
     me_Box_go_down := ⟨a_Box_go_down, i_Box_go_down, k_Box_go_down⟩,
     f_Box_holds := f_Box_holds,
     d_Box_holds := PySem.W.fnOf "holds" "Box.holds" (defArgs s_Box_holds) (defBody s_Box_holds) (defScope s_Box_holds) .none kV_Box_holds dc_Box_holds pm_Box_holds an_Box_holds cd_Box_holds ct_Box_holds,
     F_Box_holds := fun_mk (st := s_Box_holds) l_Box_holds c_Box_holds k_Box_holds,
     b_Box_holds := (fun_mk (st := s_Box_holds) l_Box_holds c_Box_holds k_Box_holds).binds (ps := ["self", "name"]) fun _ _ _ _ _ _ us hl => match us, hl with | [_, _], _ => rfl,
     me_Box_holds := ⟨a_Box_holds, i_Box_holds, k_Box_holds⟩,
     f_Box_ask := f_Box_ask,
     d_Box_ask := PySem.W.fnOf "ask" "Box.ask" (defArgs s_Box_ask) (defBody s_Box_ask) (defScope s_Box_ask) .none kV_Box_ask dc_Box_ask pm_Box_ask an_Box_ask cd_Box_ask ct_Box_ask,
     F_Box_ask := fun_mk (st := s_Box_ask) l_Box_ask c_Box_ask k_Box_ask,
     b_Box_ask := (fun_mk (st := s_Box_ask) l_Box_ask c_Box_ask k_Box_ask).binds (ps := ["self", "name"]) fun _ _ _ _ _ _ us hl => match us, hl with | [_, _], _ => rfl,
     me_Box_ask := ⟨a_Box_ask, i_Box_ask, k_Box_ask⟩,
     f_Box_init := f_Box_init,
     d_Box_init := PySem.W.fnOf "__init__" "Box.__init__" (defArgs s_Box_init) (defBody s_Box_init) (defScope s_Box_init) .none kV_Box_init dc_Box_init pm_Box_init an_Box_init cd_Box_init ct_Box_init,
     F_Box_init := fun_mk (st := s_Box_init) l_Box_init c_Box_init k_Box_init,
     b_Box_init := (fun_mk (st := s_Box_init) l_Box_init c_Box_init k_Box_init).binds (ps := ["self", "device"]) fun _ _ _ _ _ _ us hl => match us, hl with | [_, _], _ => rfl,
     mk_Box := ⟨mk_Box, a_Box_init, i_Box_init, kc_Box⟩,
     f_box_at := f_box_at,
     d_box_at := PySem.W.fnOf "box_at" "box_at" (defArgs s_box_at) (defBody s_box_at) (defScope s_box_at) .none kV_box_at dc_box_at pm_box_at an_box_at cd_box_at ct_box_at,
     F_box_at := fun_mk (st := s_box_at) l_box_at c_box_at k_box_at,
     b_box_at := (fun_mk (st := s_box_at) l_box_at c_box_at k_box_at).binds (ps := ["device", "states", "contents"]) fun _ _ _ _ _ _ us hl => match us, hl with | [_, _, _], _ => rfl,
     m_box_at := PySem.W.mg_of X G a_box_at,
     f_Moments_init := f_Moments_init,
     d_Moments_init := PySem.W.fnOf "__init__" "Moments.__init__" (defArgs s_Moments_init) (defBody s_Moments_init) (defScope s_Moments_init) .none kV_Moments_init dc_Moments_init pm_Moments_init an_Moments_init cd_Moments_init ct_Moments_init,
     F_Moments_init := fun_mk (st := s_Moments_init) l_Moments_init c_Moments_init k_Moments_init,
     b_Moments_init := (fun_mk (st := s_Moments_init) l_Moments_init c_Moments_init k_Moments_init).binds (ps := ["self", "device", "program"]) fun _ _ _ _ _ _ us hl => match us, hl with | [_, _, _], _ => rfl,
     mk_Moments := ⟨mk_Moments, a_Moments_init, i_Moments_init, kc_Moments⟩,
     f_is_integer := f_is_integer,
     d_is_integer := PySem.W.fnOf "is_integer" "is_integer" (defArgs s_is_integer) (defBody s_is_integer) (defScope s_is_integer) .none kV_is_integer dc_is_integer pm_is_integer an_is_integer cd_is_integer ct_is_integer,
     F_is_integer := fun_mk (st := s_is_integer) l_is_integer c_is_integer k_is_integer,
     b_is_integer := (fun_mk (st := s_is_integer) l_is_integer c_is_integer k_is_integer).binds (ps := ["value"]) fun _ _ _ _ _ _ us hl => match us, hl with | [_], _ => rfl,
     m_is_integer := PySem.W.mg_of X G a_is_integer,
     f_is_between := f_is_between,
     d_is_between := PySem.W.fnOf "is_between" "is_between" (defArgs s_is_between) (defBody s_is_between) (defScope s_is_between) .none kV_is_between dc_is_between pm_is_between an_is_between cd_is_between ct_is_between,
     F_is_between := fun_mk (st := s_is_between) l_is_between c_is_between k_is_between,
     b_is_between := (fun_mk (st := s_is_between) l_is_between c_is_between k_is_between).binds (ps := ["value", "least", "greatest"]) fun _ _ _ _ _ _ us hl => match us, hl with | [_, _, _], _ => rfl,
     m_is_between := PySem.W.mg_of X G a_is_between,
     f_is_name := f_is_name,
     d_is_name := PySem.W.fnOf "is_name" "is_name" (defArgs s_is_name) (defBody s_is_name) (defScope s_is_name) .none kV_is_name dc_is_name pm_is_name an_is_name cd_is_name ct_is_name,
     F_is_name := fun_mk (st := s_is_name) l_is_name c_is_name k_is_name,
     b_is_name := (fun_mk (st := s_is_name) l_is_name c_is_name k_is_name).binds (ps := ["value"]) fun _ _ _ _ _ _ us hl => match us, hl with | [_], _ => rfl,
     m_is_name := PySem.W.mg_of X G a_is_name,
     f_is_place := f_is_place,
     d_is_place := PySem.W.fnOf "is_place" "is_place" (defArgs s_is_place) (defBody s_is_place) (defScope s_is_place) .none kV_is_place dc_is_place pm_is_place an_is_place cd_is_place ct_is_place,
     F_is_place := fun_mk (st := s_is_place) l_is_place c_is_place k_is_place,
     b_is_place := (fun_mk (st := s_is_place) l_is_place c_is_place k_is_place).binds (ps := ["value", "count"]) fun _ _ _ _ _ _ us hl => match us, hl with | [_, _], _ => rfl,
     m_is_place := PySem.W.mg_of X G a_is_place,
     f_is_program := f_is_program,
     d_is_program := PySem.W.fnOf "is_program" "is_program" (defArgs s_is_program) (defBody s_is_program) (defScope s_is_program) .none kV_is_program dc_is_program pm_is_program an_is_program cd_is_program ct_is_program,
     F_is_program := fun_mk (st := s_is_program) l_is_program c_is_program k_is_program,
     b_is_program := (fun_mk (st := s_is_program) l_is_program c_is_program k_is_program).binds (ps := ["value"]) fun _ _ _ _ _ _ us hl => match us, hl with | [_], _ => rfl,
     m_is_program := PySem.W.mg_of X G a_is_program,
     f_check_program := f_check_program,
     d_check_program := PySem.W.fnOf "check_program" "check_program" (defArgs s_check_program) (defBody s_check_program) (defScope s_check_program) .none kV_check_program dc_check_program pm_check_program an_check_program cd_check_program ct_check_program,
     F_check_program := fun_mk (st := s_check_program) l_check_program c_check_program k_check_program,
     b_check_program := (fun_mk (st := s_check_program) l_check_program c_check_program k_check_program).binds (ps := ["program"]) fun _ _ _ _ _ _ us hl => match us, hl with | [_], _ => rfl,
     m_check_program := PySem.W.mg_of X G a_check_program,
     f_is_row := f_is_row,
     d_is_row := PySem.W.fnOf "is_row" "is_row" (defArgs s_is_row) (defBody s_is_row) (defScope s_is_row) .none kV_is_row dc_is_row pm_is_row an_is_row cd_is_row ct_is_row,
     F_is_row := fun_mk (st := s_is_row) l_is_row c_is_row k_is_row,
     b_is_row := (fun_mk (st := s_is_row) l_is_row c_is_row k_is_row).binds (ps := ["value", "lines", "states"]) fun _ _ _ _ _ _ us hl => match us, hl with | [_, _, _], _ => rfl,
     m_is_row := PySem.W.mg_of X G a_is_row,
     f_is_policy := f_is_policy,
     d_is_policy := PySem.W.fnOf "is_policy" "is_policy" (defArgs s_is_policy) (defBody s_is_policy) (defScope s_is_policy) .none kV_is_policy dc_is_policy pm_is_policy an_is_policy cd_is_policy ct_is_policy,
     F_is_policy := fun_mk (st := s_is_policy) l_is_policy c_is_policy k_is_policy,
     b_is_policy := (fun_mk (st := s_is_policy) l_is_policy c_is_policy k_is_policy).binds (ps := ["value"]) fun _ _ _ _ _ _ us hl => match us, hl with | [_], _ => rfl,
     m_is_policy := PySem.W.mg_of X G a_is_policy,
     f_is_device := f_is_device,
     d_is_device := PySem.W.fnOf "is_device" "is_device" (defArgs s_is_device) (defBody s_is_device) (defScope s_is_device) .none kV_is_device dc_is_device pm_is_device an_is_device cd_is_device ct_is_device,
     F_is_device := fun_mk (st := s_is_device) l_is_device c_is_device k_is_device,
     b_is_device := (fun_mk (st := s_is_device) l_is_device c_is_device k_is_device).binds (ps := ["value"]) fun _ _ _ _ _ _ us hl => match us, hl with | [_], _ => rfl,
     m_is_device := PySem.W.mg_of X G a_is_device,
     f_check_device := f_check_device,
     d_check_device := PySem.W.fnOf "check_device" "check_device" (defArgs s_check_device) (defBody s_check_device) (defScope s_check_device) .none kV_check_device dc_check_device pm_check_device an_check_device cd_check_device ct_check_device,
     F_check_device := fun_mk (st := s_check_device) l_check_device c_check_device k_check_device,
     b_check_device := (fun_mk (st := s_check_device) l_check_device c_check_device k_check_device).binds (ps := ["device"]) fun _ _ _ _ _ _ us hl => match us, hl with | [_], _ => rfl,
     m_check_device := PySem.W.mg_of X G a_check_device,
     f_moments_of := f_moments_of,
     d_moments_of := PySem.W.fnOf "moments_of" "moments_of" (defArgs s_moments_of) (defBody s_moments_of) (defScope s_moments_of) .none kV_moments_of dc_moments_of pm_moments_of an_moments_of cd_moments_of ct_moments_of,
     F_moments_of := fun_mk (st := s_moments_of) l_moments_of c_moments_of k_moments_of,
     b_moments_of := (fun_mk (st := s_moments_of) l_moments_of c_moments_of k_moments_of).binds (ps := ["device", "program"]) fun _ _ _ _ _ _ us hl => match us, hl with | [_, _], _ => rfl,
     m_moments_of := PySem.W.mg_of X G a_moments_of,
     f_verdicts := f_verdicts,
     d_verdicts := PySem.W.fnOf "verdicts" "verdicts" (defArgs s_verdicts) (defBody s_verdicts) (defScope s_verdicts) .none kV_verdicts dc_verdicts pm_verdicts an_verdicts cd_verdicts ct_verdicts,
     F_verdicts := fun_mk (st := s_verdicts) l_verdicts c_verdicts k_verdicts,
     b_verdicts := (fun_mk (st := s_verdicts) l_verdicts c_verdicts k_verdicts).binds (ps := ["device", "program"]) fun _ _ _ _ _ _ us hl => match us, hl with | [_, _], _ => rfl,
     m_verdicts := PySem.W.mg_of X G a_verdicts,
     f__law_words := f__law_words,
     d__law_words := PySem.W.fnOf "_law_words" "_law_words" (defArgs s__law_words) (defBody s__law_words) (defScope s__law_words) .none kV__law_words dc__law_words pm__law_words an__law_words cd__law_words ct__law_words,
     F__law_words := fun_mk (st := s__law_words) l__law_words c__law_words k__law_words,
     b__law_words := (fun_mk (st := s__law_words) l__law_words c__law_words k__law_words).binds (ps := ["_law_rows", "_law_count"]) fun _ _ _ _ _ _ us hl => match us, hl with | [_, _], _ => rfl,
     m__law_words := PySem.W.mg_of X G a__law_words,
     f__law_go := f__law_go,
     d__law_go := PySem.W.fnOf "_law_go" "_law_go" (defArgs s__law_go) (defBody s__law_go) (defScope s__law_go) .none kV__law_go dc__law_go pm__law_go an__law_go cd__law_go ct__law_go,
     F__law_go := fun_mk (st := s__law_go) l__law_go c__law_go k__law_go,
     b__law_go := (fun_mk (st := s__law_go) l__law_go c__law_go k__law_go).binds (ps := ["_law_table", "_law_box_here", "_law_at", "_law_who"]) fun _ _ _ _ _ _ us hl => match us, hl with | [_, _, _, _], _ => rfl,
     m__law_go := PySem.W.mg_of X G a__law_go,
     f__law_ask := f__law_ask,
     d__law_ask := PySem.W.fnOf "_law_ask" "_law_ask" (defArgs s__law_ask) (defBody s__law_ask) (defScope s__law_ask) .none kV__law_ask dc__law_ask pm__law_ask an__law_ask cd__law_ask ct__law_ask,
     F__law_ask := fun_mk (st := s__law_ask) l__law_ask c__law_ask k__law_ask,
     b__law_ask := (fun_mk (st := s__law_ask) l__law_ask c__law_ask k__law_ask).binds (ps := ["_law_unit", "_law_box_here", "_law_who"]) fun _ _ _ _ _ _ us hl => match us, hl with | [_, _, _], _ => rfl,
     m__law_ask := PySem.W.mg_of X G a__law_ask,
     f__law_filled := f__law_filled,
     d__law_filled := PySem.W.fnOf "_law_filled" "_law_filled" (defArgs s__law_filled) (defBody s__law_filled) (defScope s__law_filled) .none kV__law_filled dc__law_filled pm__law_filled an__law_filled cd__law_filled ct__law_filled,
     F__law_filled := fun_mk (st := s__law_filled) l__law_filled c__law_filled k__law_filled,
     b__law_filled := (fun_mk (st := s__law_filled) l__law_filled c__law_filled k__law_filled).binds (ps := ["_law_device_here", "_law_states", "_law_held"]) fun _ _ _ _ _ _ us hl => match us, hl with | [_, _, _], _ => rfl,
     m__law_filled := PySem.W.mg_of X G a__law_filled,
     f__law_beads := f__law_beads,
     d__law_beads := PySem.W.fnOf "_law_beads" "_law_beads" (defArgs s__law_beads) (defBody s__law_beads) (defScope s__law_beads) .none kV__law_beads dc__law_beads pm__law_beads an__law_beads cd__law_beads ct__law_beads,
     F__law_beads := fun_mk (st := s__law_beads) l__law_beads c__law_beads k__law_beads,
     b__law_beads := (fun_mk (st := s__law_beads) l__law_beads c__law_beads k__law_beads).binds (ps := ["_law_device_here", "_law_plan_here", "_law_greatest"]) fun _ _ _ _ _ _ us hl => match us, hl with | [_, _, _], _ => rfl,
     m__law_beads := PySem.W.mg_of X G a__law_beads,
     f__law_draw := f__law_draw,
     d__law_draw := PySem.W.fnOf "_law_draw" "_law_draw" (defArgs s__law_draw) (defBody s__law_draw) (defScope s__law_draw) .none kV__law_draw dc__law_draw pm__law_draw an__law_draw cd__law_draw ct__law_draw,
     F__law_draw := fun_mk (st := s__law_draw) l__law_draw c__law_draw k__law_draw,
     b__law_draw := (fun_mk (st := s__law_draw) l__law_draw c__law_draw k__law_draw).binds (ps := ["_law_pool_here", "_law_most"]) fun _ _ _ _ _ _ us hl => match us, hl with | [_, _], _ => rfl,
     m__law_draw := PySem.W.mg_of X G a__law_draw,
     f__law_plan := f__law_plan,
     d__law_plan := PySem.W.fnOf "_law_plan" "_law_plan" (defArgs s__law_plan) (defBody s__law_plan) (defScope s__law_plan) .none kV__law_plan dc__law_plan pm__law_plan an__law_plan cd__law_plan ct__law_plan,
     F__law_plan := fun_mk (st := s__law_plan) l__law_plan c__law_plan k__law_plan,
     b__law_plan := (fun_mk (st := s__law_plan) l__law_plan c__law_plan k__law_plan).binds (ps := ["_law_pool_here", "_law_most", "_law_many"]) fun _ _ _ _ _ _ us hl => match us, hl with | [_, _, _], _ => rfl,
     m__law_plan := PySem.W.mg_of X G a__law_plan,
     f__law_policy := f__law_policy,
     d__law_policy := PySem.W.fnOf "_law_policy" "_law_policy" (defArgs s__law_policy) (defBody s__law_policy) (defScope s__law_policy) .none kV__law_policy dc__law_policy pm__law_policy an__law_policy cd__law_policy ct__law_policy,
     F__law_policy := fun_mk (st := s__law_policy) l__law_policy c__law_policy k__law_policy,
     b__law_policy := (fun_mk (st := s__law_policy) l__law_policy c__law_policy k__law_policy).binds (ps := ["_law_pool_here", "_law_lines", "_law_states"]) fun _ _ _ _ _ _ us hl => match us, hl with | [_, _, _], _ => rfl,
     m__law_policy := PySem.W.mg_of X G a__law_policy,
     f__law_queue := f__law_queue,
     d__law_queue := PySem.W.fnOf "_law_queue" "_law_queue" (defArgs s__law_queue) (defBody s__law_queue) (defScope s__law_queue) .none kV__law_queue dc__law_queue pm__law_queue an__law_queue cd__law_queue ct__law_queue,
     F__law_queue := fun_mk (st := s__law_queue) l__law_queue c__law_queue k__law_queue,
     b__law_queue := (fun_mk (st := s__law_queue) l__law_queue c__law_queue k__law_queue).binds (ps := ["_law_lines"]) fun _ _ _ _ _ _ us hl => match us, hl with | [_], _ => rfl,
     m__law_queue := PySem.W.mg_of X G a__law_queue,
     f__law_recent := f__law_recent,
     d__law_recent := PySem.W.fnOf "_law_recent" "_law_recent" (defArgs s__law_recent) (defBody s__law_recent) (defScope s__law_recent) .none kV__law_recent dc__law_recent pm__law_recent an__law_recent cd__law_recent ct__law_recent,
     F__law_recent := fun_mk (st := s__law_recent) l__law_recent c__law_recent k__law_recent,
     b__law_recent := (fun_mk (st := s__law_recent) l__law_recent c__law_recent k__law_recent).binds (ps := ["_law_lines"]) fun _ _ _ _ _ _ us hl => match us, hl with | [_], _ => rfl,
     m__law_recent := PySem.W.mg_of X G a__law_recent,
     f__law_device := f__law_device,
     d__law_device := PySem.W.fnOf "_law_device" "_law_device" (defArgs s__law_device) (defBody s__law_device) (defScope s__law_device) .none kV__law_device dc__law_device pm__law_device an__law_device cd__law_device ct__law_device,
     F__law_device := fun_mk (st := s__law_device) l__law_device c__law_device k__law_device,
     b__law_device := (fun_mk (st := s__law_device) l__law_device c__law_device k__law_device).binds (ps := ["_law_pool_here", "_law_most", "_law_states"]) fun _ _ _ _ _ _ us hl => match us, hl with | [_, _, _], _ => rfl,
     m__law_device := PySem.W.mg_of X G a__law_device,
     f__law_kit := f__law_kit,
     d__law_kit := PySem.W.fnOf "_law_kit" "_law_kit" (defArgs s__law_kit) (defBody s__law_kit) (defScope s__law_kit) .none kV__law_kit dc__law_kit pm__law_kit an__law_kit cd__law_kit ct__law_kit,
     F__law_kit := fun_mk (st := s__law_kit) l__law_kit c__law_kit k__law_kit,
     b__law_kit := (fun_mk (st := s__law_kit) l__law_kit c__law_kit k__law_kit).binds (ps := ["_law_pool_here"]) fun _ _ _ _ _ _ us hl => match us, hl with | [_], _ => rfl,
     m__law_kit := PySem.W.mg_of X G a__law_kit,
     f__law_right := f__law_right,
     d__law_right := PySem.W.fnOf "_law_right" "_law_right" (defArgs s__law_right) (defBody s__law_right) (defScope s__law_right) .none kV__law_right dc__law_right pm__law_right an__law_right cd__law_right ct__law_right,
     F__law_right := fun_mk (st := s__law_right) l__law_right c__law_right k__law_right,
     b__law_right := (fun_mk (st := s__law_right) l__law_right c__law_right k__law_right).binds (ps := ["_law_pool_here"]) fun _ _ _ _ _ _ us hl => match us, hl with | [_], _ => rfl,
     m__law_right := PySem.W.mg_of X G a__law_right,
     f__law_pool := f__law_pool,
     d__law_pool := PySem.W.fnOf "_law_pool" "_law_pool" (defArgs s__law_pool) (defBody s__law_pool) (defScope s__law_pool) .none kV__law_pool dc__law_pool pm__law_pool an__law_pool cd__law_pool ct__law_pool,
     F__law_pool := fun_mk (st := s__law_pool) l__law_pool c__law_pool k__law_pool,
     b__law_pool := (fun_mk (st := s__law_pool) l__law_pool c__law_pool k__law_pool).binds (ps := ["_law_figure"]) fun _ _ _ _ _ _ us hl => match us, hl with | [_], _ => rfl,
     m__law_pool := PySem.W.mg_of X G a__law_pool,
     f__law_cell := f__law_cell,
     d__law_cell := PySem.W.fnOf "_law_cell" "_law_cell" (defArgs s__law_cell) (defBody s__law_cell) (defScope s__law_cell) .none kV__law_cell dc__law_cell pm__law_cell an__law_cell cd__law_cell ct__law_cell,
     F__law_cell := fun_mk (st := s__law_cell) l__law_cell c__law_cell k__law_cell,
     b__law_cell := (fun_mk (st := s__law_cell) l__law_cell c__law_cell k__law_cell).binds (ps := ["_law_script", "_law_k"]) fun _ _ _ _ _ _ us hl => match us, hl with | [_, _], _ => rfl,
     m__law_cell := PySem.W.mg_of X G a__law_cell,
     f__law_by_hand := f__law_by_hand,
     d__law_by_hand := PySem.W.fnOf "_law_by_hand" "_law_by_hand" (defArgs s__law_by_hand) (defBody s__law_by_hand) (defScope s__law_by_hand) .none kV__law_by_hand dc__law_by_hand pm__law_by_hand an__law_by_hand cd__law_by_hand ct__law_by_hand,
     F__law_by_hand := fun_mk (st := s__law_by_hand) l__law_by_hand c__law_by_hand k__law_by_hand,
     b__law_by_hand := (fun_mk (st := s__law_by_hand) l__law_by_hand c__law_by_hand k__law_by_hand).binds (ps := []) fun _ _ _ _ _ _ us hl => match us, hl with | [], _ => rfl,
     m__law_by_hand := PySem.W.mg_of X G a__law_by_hand,
     f__law_wide := f__law_wide,
     d__law_wide := PySem.W.fnOf "_law_wide" "_law_wide" (defArgs s__law_wide) (defBody s__law_wide) (defScope s__law_wide) .none kV__law_wide dc__law_wide pm__law_wide an__law_wide cd__law_wide ct__law_wide,
     F__law_wide := fun_mk (st := s__law_wide) l__law_wide c__law_wide k__law_wide,
     b__law_wide := (fun_mk (st := s__law_wide) l__law_wide c__law_wide k__law_wide).binds (ps := []) fun _ _ _ _ _ _ us hl => match us, hl with | [], _ => rfl,
     m__law_wide := PySem.W.mg_of X G a__law_wide,
     f__law_wide_right := f__law_wide_right,
     d__law_wide_right := PySem.W.fnOf "_law_wide_right" "_law_wide_right" (defArgs s__law_wide_right) (defBody s__law_wide_right) (defScope s__law_wide_right) .none kV__law_wide_right dc__law_wide_right pm__law_wide_right an__law_wide_right cd__law_wide_right ct__law_wide_right,
     F__law_wide_right := fun_mk (st := s__law_wide_right) l__law_wide_right c__law_wide_right k__law_wide_right,
     b__law_wide_right := (fun_mk (st := s__law_wide_right) l__law_wide_right c__law_wide_right k__law_wide_right).binds (ps := []) fun _ _ _ _ _ _ us hl => match us, hl with | [], _ => rfl,
     m__law_wide_right := PySem.W.mg_of X G a__law_wide_right,
     f_law := f_law,
     d_law := PySem.W.fnOf "law" "law" (defArgs s_law) (defBody s_law) (defScope s_law) .none kV_law dc_law pm_law an_law cd_law ct_law,
     F_law := fun_mk (st := s_law) l_law c_law k_law,
     b_law := (fun_mk (st := s_law) l_law c_law k_law).binds (ps := ["_law_script"]) fun _ _ _ _ _ _ us hl => match us, hl with | [_], _ => rfl,
     m_law := PySem.W.mg_of X G a_law,
     na_Box_mode := na_Box_mode,
     na_Box_policies := na_Box_policies,
     na_Box_rows := na_Box_rows,
     na_Box_stages := na_Box_stages,
     na_Moments_indexes := na_Moments_indexes,
     na_Moments_missed := na_Moments_missed,
     na_Moments_nexts := na_Moments_nexts,
     na_Moments_order := na_Moments_order,
     na_Moments_sources := na_Moments_sources,
     n_abs := PySem.W.mg_none_of X G z_abs,
     n_all := PySem.W.mg_none_of X G z_all,
     n_any := PySem.W.mg_none_of X G z_any,
     n_bool := PySem.W.mg_none_of X G z_bool,
     n_divmod := PySem.W.mg_none_of X G z_divmod,
     n_enumerate := PySem.W.mg_none_of X G z_enumerate,
     n_int := PySem.W.mg_none_of X G z_int,
     n_isinstance := PySem.W.mg_none_of X G z_isinstance,
     n_len := PySem.W.mg_none_of X G z_len,
     n_list := PySem.W.mg_none_of X G z_list,
     n_max := PySem.W.mg_none_of X G z_max,
     n_min := PySem.W.mg_none_of X G z_min,
     n_range := PySem.W.mg_none_of X G z_range,
     n_repr := PySem.W.mg_none_of X G z_repr,
     n_set := PySem.W.mg_none_of X G z_set,
     n_sorted := PySem.W.mg_none_of X G z_sorted,
     n_str := PySem.W.mg_none_of X G z_str,
     n_sum := PySem.W.mg_none_of X G z_sum,
     n_tuple := PySem.W.mg_none_of X G z_tuple,
     g_LETTERS := ⟨.str "abcdefghijklmnopqrstuvwxyz", _, PySem.W.mg_of X G g_LETTERS, ⟨_, rfl⟩, fun _ _ => .str _⟩,
     g_LEVELS := ⟨.ref ga_LEVELS, .ref ga_LEVELS, PySem.W.mg_of X G g_LEVELS, rfl, fun _ _ => .tup (vs := [V.str "plain", V.str "inclusive", V.str "victim"]) (.inr ⟨_, _, _, gl_LEVELS, rfl, rfl, rfl, by show 3 ≤ sizeLine; decide, .cons ⟨_, rfl⟩ (.cons ⟨_, rfl⟩ (.cons ⟨_, rfl⟩ (.nil)))⟩) (.cons (.str _) (.cons (.str _) (.cons (.str _) (.nil))))⟩,
     g_LONGEST := ⟨.int 6, _, PySem.W.mg_of X G g_LONGEST, ⟨_, rfl⟩, fun _ _ => .int _⟩,
     g_MOST_DIFFERENT := ⟨.int 8, _, PySem.W.mg_of X G g_MOST_DIFFERENT, ⟨_, rfl⟩, fun _ _ => .int _⟩,
     g_MOST_LINES := ⟨.int 4, _, PySem.W.mg_of X G g_MOST_LINES, ⟨_, rfl⟩, fun _ _ => .int _⟩,
     g_MOST_PLACES := ⟨.int 30, _, PySem.W.mg_of X G g_MOST_PLACES, ⟨_, rfl⟩, fun _ _ => .int _⟩,
     g_MOST_SITUATIONS := ⟨.int 600, _, PySem.W.mg_of X G g_MOST_SITUATIONS, ⟨_, rfl⟩, fun _ _ => .int _⟩,
     g_MOST_STATES := ⟨.int 64, _, PySem.W.mg_of X G g_MOST_STATES, ⟨_, rfl⟩, fun _ _ => .int _⟩ },
   (Option.some.inj ((PySem.W.mg_of X G a_law).symm.trans hfa)) |> Value.ref.inj, fun s v => .of_eq rfl⟩
end L67


/-! text G1_67 -/
local macro_rules | `(tactic| bv_omega) => `(tactic| first | assumption | exact Zl.at_new | (apply Zl.at_set; bv_omega) | (apply Zl.at_set_ne; (focus (bv_omega; done)); omega) | (apply Zl.at_app; bv_omega) | (apply Zl.Kp.at; (focus (assumption; done)); (focus (bv_omega; done)); first | exact id | omega))
local macro_rules | `(tactic| array_mem_dec) => `(tactic| first | exact Zl.Kp.refl | assumption | (apply Zl.Kp.setl; (focus (array_mem_dec; done)); (intro _; omega)) | (apply Zl.Kp.appl; array_mem_dec) | (apply Zl.Kp.tl; (focus (assumption; done)); (focus (array_mem_dec; done)); intro n hn hw; first | exact hw | exact hw.elim | omega))
local macro_rules | `(tactic| subst_eqs) => `(tactic| first | exact Zl.rdL_nil | (apply Zl.rd_loc; (focus (bv_omega; done)); subst_eqs) | (apply Zl.rd_tup; subst_eqs) | (apply Zl.rdL_cons; (focus (subst_eqs; done)); subst_eqs) | exact Zl.rd_bls _ | with_unfolding_all rfl)
local macro_rules | `(tactic| simp_wf) => `(tactic| with_reducible repeat (first | apply Zl.wp_seq | apply Zl.k_nx | apply Zl.k_rt | apply Zl.k_bk | apply Zl.k_ct | apply Zl.wp_ret | apply Zl.wp_set | apply Zl.wp_drop | apply Zl.wp_asg | apply Zl.wp_par | apply Zl.wp_ifs | apply Zl.wp_end | apply Zl.wp_brk | apply Zl.wp_cnt | apply Zl.kf_rt | apply Zl.kf_nx | apply Zl.wp_k | apply Zl.wp_op | apply Zl.wp_un | apply Zl.wp_chain | apply Zl.wp_b | apply Zl.wp_trB | apply Zl.wp_not | apply Zl.wp_andT | apply Zl.wp_orT | apply Zl.wp_andV | apply Zl.wp_notV | apply Zl.wp_if | apply Zl.wp_nil | apply Zl.wp_cons | apply Zl.wp_tup | apply Zl.wp_lstA | apply Zl.wp_c | apply Zl.wp_call | apply Zl.wp_slP | apply Zl.wp_noP | apply Zl.wp_gN | apply Zl.wp_gsNil | apply Zl.wp_gsCons | apply Zl.wp_gS | apply Zl.wp_addI | apply Zl.wp_subI | apply Zl.wp_cmp | apply Zl.wp_eqI | apply Zl.wp_eqS | apply Zl.kb | apply Zl.ki_t | apply Zl.ki_f | apply Zl.kc_t | apply Zl.kc_f | apply Zl.wp_fld | apply Zl.wp_put | apply Zl.wp_meth | apply Zl.wp_make | apply Zl.wp_m | apply Zl.wp_src | apply Zl.wp_enum | apply Zl.wq_zip | apply Zl.wp_rngN | apply Zl.wp_P | apply Zl.wp_ok | apply Zl.wp_bnd | apply Zl.wq_dnew | apply Zl.kl_nx | apply Zl.kl_rt | apply Zl.kl_ct | apply Zl.kl_bk | refine Zl.wp_var (by with_unfolding_all rfl) ?_ | refine Zl.k_len (by with_unfolding_all rfl) ?_ | refine Zl.k_le (by with_unfolding_all rfl) ?_ | refine Zl.wp_isi (by with_unfolding_all rfl) ?_ | refine Zl.wp_len (by with_unfolding_all rfl) ?_ | refine Zl.wp_intd (by with_unfolding_all rfl) ?_ | refine Zl.wp_ixT (by with_unfolding_all rfl) ?_ | refine Zl.wp_gT (by with_unfolding_all rfl) ?_ | refine Zl.wp_gPr (by with_unfolding_all rfl) ?_))
local macro_rules | `(tactic| clean_wf) => `(tactic| with_reducible repeat (first | apply Zl.wp_seq | apply Zl.k_nx | apply Zl.k_rt | apply Zl.k_bk | apply Zl.k_ct | apply Zl.wp_ret | apply Zl.wp_set | apply Zl.wp_drop | apply Zl.wp_asg | apply Zl.wp_par | apply Zl.wp_ifs | apply Zl.wp_end | apply Zl.wp_brk | apply Zl.wp_cnt | apply Zl.kf_rt | apply Zl.kf_nx | apply Zl.wp_k | apply Zl.wp_op | apply Zl.wp_un | apply Zl.wp_chain | apply Zl.wp_b | apply Zl.wp_trB | apply Zl.wp_not | apply Zl.wp_andT | apply Zl.wp_orT | apply Zl.wp_andV | apply Zl.wp_notV | apply Zl.wp_if | apply Zl.wp_nil | apply Zl.wp_cons | apply Zl.wp_tup | apply Zl.wp_lst | apply Zl.wp_c | apply Zl.wp_call | apply Zl.wp_slP | apply Zl.wp_noP | apply Zl.wp_gN | apply Zl.wp_gsNil | apply Zl.wp_gsCons | apply Zl.wp_gS | apply Zl.wp_addI | apply Zl.wp_subI | apply Zl.wp_cmp | apply Zl.wp_eqI | apply Zl.wp_eqS | apply Zl.kb | apply Zl.ki_t | apply Zl.ki_f | apply Zl.kc_t | apply Zl.kc_f | apply Zl.wp_fld | apply Zl.wp_put | apply Zl.wp_meth | apply Zl.wp_make | apply Zl.wp_m | apply Zl.wp_src | apply Zl.wp_enum | apply Zl.wq_zip | apply Zl.wp_rngN | apply Zl.wp_P | apply Zl.wp_ok | apply Zl.wp_bnd | apply Zl.wq_dnew | apply Zl.kl_nx | apply Zl.kl_rt | apply Zl.kl_ct | apply Zl.kl_bk | refine Zl.wp_var (by with_unfolding_all rfl) ?_ | refine Zl.k_len (by with_unfolding_all rfl) ?_ | refine Zl.k_le (by with_unfolding_all rfl) ?_ | refine Zl.wp_isi (by with_unfolding_all rfl) ?_ | refine Zl.wp_len (by with_unfolding_all rfl) ?_ | refine Zl.wp_intd (by with_unfolding_all rfl) ?_ | refine Zl.wp_ixT (by with_unfolding_all rfl) ?_ | refine Zl.wp_gT (by with_unfolding_all rfl) ?_ | refine Zl.wp_gPr (by with_unfolding_all rfl) ?_))
local macro_rules | `(tactic| array_get_dec) => `(tactic| with_reducible repeat (first | apply Zl.wp_seq | apply Zl.k_nx | apply Zl.k_rt | apply Zl.k_bk | apply Zl.k_ct | apply Zl.wp_ret | apply Zl.wp_set | apply Zl.wp_drop | apply Zl.wp_asg | apply Zl.wp_par | apply Zl.wp_ifs | apply Zl.wp_end | apply Zl.wp_brk | apply Zl.wp_cnt | apply Zl.kf_rt | apply Zl.kf_nx | apply Zl.wp_k | apply Zl.wp_op | apply Zl.wp_un | apply Zl.wp_chain | apply Zl.wp_b | apply Zl.wp_trB | apply Zl.wp_not | apply Zl.wp_andT | apply Zl.wp_orT | apply Zl.wp_andV | apply Zl.wp_notV | apply Zl.wp_if | apply Zl.wp_nil | apply Zl.wp_cons | apply Zl.wp_tup | apply Zl.wq_lst | apply Zl.wp_c | apply Zl.wp_call | apply Zl.wp_slP | apply Zl.wp_noP | apply Zl.wp_gN | apply Zl.wp_gsNil | apply Zl.wp_gsCons | apply Zl.wq_gS | apply Zl.wp_addI | apply Zl.wp_subI | apply Zl.wp_cmp | apply Zl.wp_eqI | apply Zl.wp_eqS | apply Zl.kb | apply Zl.ki_t | apply Zl.ki_f | apply Zl.kc_t | apply Zl.kc_f | apply Zl.wq_fld | apply Zl.wq_put | apply Zl.wq_meth' | apply Zl.wq_make2 | apply Zl.wq_m | apply Zl.wq_src | apply Zl.wq_enum | apply Zl.wq_zip | apply Zl.wq_rng | apply Zl.wq_P | apply Zl.wp_ok | apply Zl.wp_bnd | apply Zl.wq_dnew | apply Zl.kl_nx | apply Zl.kl_rt | apply Zl.kl_ct | apply Zl.kl_bk | refine Zl.wp_var (by with_unfolding_all rfl) ?_ | refine Zl.k_len (by with_unfolding_all rfl) ?_ | refine Zl.k_le (by with_unfolding_all rfl) ?_ | refine Zl.wp_isi (by with_unfolding_all rfl) ?_ | refine Zl.wp_len (by with_unfolding_all rfl) ?_ | refine Zl.wp_intd (by with_unfolding_all rfl) ?_ | refine Zl.wp_ixT (by with_unfolding_all rfl) ?_ | refine Zl.wp_gT (by with_unfolding_all rfl) ?_ | refine Zl.wp_gPr (by with_unfolding_all rfl) ?_ | (apply Zl.k_fld; (focus (bv_omega; done)); (focus (with_unfolding_all rfl; done))) | (apply Zl.k_putO; (focus (bv_omega; done)); (focus (with_unfolding_all rfl; done))) | (apply Zl.k_ins; (focus (bv_omega; done)); (focus (with_unfolding_all rfl; done))) | apply Zl.k_pos | apply Zl.k_non | (apply Zl.k_tyL; (focus (bv_omega; done))) | apply Zl.k_tyT | (apply Zl.k_srcL; (focus (bv_omega; done))) | apply Zl.k_srcT | apply Zl.k_srcR | apply Zl.k_zipT | apply Zl.k_enumT | (apply Zl.wr_lstL; (focus (bv_omega; done))) | apply Zl.wr_lstT | apply Zl.k_srcS | (apply Zl.wp_aug; (focus (with_unfolding_all rfl; done))) | apply Zl.k_int | apply Zl.k_nat | apply Zl.k_natL | (apply Zl.k_sml; (focus ((first | omega | with_unfolding_all decide); done))) | (apply Zl.k_new; intro _ _ _ _ _ _) | (apply Zl.k_wr; intro _ _ _ _) | apply Zl.kt_nx | apply Zl.kt_ct | apply Zl.kt_bk | apply Zl.kt_rt | (apply Zl.k_acc; (focus (bv_omega; done)); (focus (with_unfolding_all rfl; done))) | (apply Zl.wv_map; (focus (with_unfolding_all rfl; done)); (focus ((first | with_unfolding_all rfl | (apply Zl.stpL_go; (focus (bv_omega; done)); with_unfolding_all rfl) | (apply Zl.stpL_end; bv_omega) | (refine Eq.trans (Zl.stpL_at (by bv_omega)) ?_; with_unfolding_all rfl)); done))) | (apply Zl.wuc_end; (focus ((first | with_unfolding_all rfl | (apply Zl.stpL_go; (focus (bv_omega; done)); with_unfolding_all rfl) | (apply Zl.stpL_end; bv_omega) | (refine Eq.trans (Zl.stpL_at (by bv_omega)) ?_; with_unfolding_all rfl)); done))) | (apply Zl.wv_go; (focus (with_unfolding_all rfl; done)); (focus ((first | with_unfolding_all rfl | (apply Zl.stpL_go; (focus (bv_omega; done)); with_unfolding_all rfl) | (apply Zl.stpL_end; bv_omega) | (refine Eq.trans (Zl.stpL_at (by bv_omega)) ?_; with_unfolding_all rfl)); done))) | (apply Zl.wu_end; (focus ((first | with_unfolding_all rfl | (apply Zl.stpL_go; (focus (bv_omega; done)); with_unfolding_all rfl) | (apply Zl.stpL_end; bv_omega) | (refine Eq.trans (Zl.stpL_at (by bv_omega)) ?_; with_unfolding_all rfl)); done))) | (apply Zl.wp_ixL; (focus (bv_omega; done)); (focus ((first | (apply Zl.atI_n; assumption) | with_unfolding_all rfl); done))) | (apply Zl.wp_ixT; (focus ((apply Zl.atI_n; assumption); done))) | (apply Zl.k_setO; (focus (bv_omega; done)); (focus (with_unfolding_all rfl; done))) | (apply Zl.k_setDk; (focus (bv_omega; done)); (focus (with_unfolding_all rfl; done)); (focus (omega; done))) | (apply Zl.wp_lenL; (focus (bv_omega; done))) | (apply Zl.wp_tupL; (focus (bv_omega; done))) | (apply Zl.wp_modI; (focus (omega; done))) | (apply Zl.wp_fdivI; (focus (omega; done))) | (apply Zl.wp_mulI; (focus (omega; done))) | apply Zl.wp_slT | (apply Zl.wq_addT; (focus ((first | (simp; done) | with_unfolding_all decide); done))) | (apply Zl.wq_addL; (focus (bv_omega; done)); (focus (bv_omega; done)); (focus ((first | (simp; done) | with_unfolding_all decide); done))) | apply Zl.wq_slR | (apply Zl.wq_slL; (focus (bv_omega; done))) | (apply Zl.wp_gL; (focus (bv_omega; done)); (focus (with_unfolding_all rfl; done)))))
local macro_rules | `(tactic| ac_nf0) => `(tactic| first | rfl | decide | (simp; done) | (simp; omega))
namespace L67
open PySem L2 PySem.Spec PyProof.Rows Zl
def Pool (p : Nat) (M : Mem) : Prop := ∃ a b c : Int, M[p]? = some (.lst [.int a, .int b, .int c])
abbrev At (p : Nat) : Nat → Prop := fun n => n = p
theorem sp_draw {p : Nat} {m : Int} {M : Mem} (h : Pool p M) (hm : 0 < m) (hm2 : m < 1073741824) : Wp (m__law_draw [.loc p, .int m] M) fun d M' => (∃ r : Nat, d = .int r ∧ (r : Int) < m) ∧ Pool p M' ∧ Kp (At p) M M' := by
  obtain ⟨a, b, c, h⟩ := h
  refine wp_fn rfl [some (.loc p), some (.int m), none, none] rfl ?_
  unfold b__law_draw
  clean_wf
  refine wp_ixL h rfl ?_
  clean_wf
  refine ⟨_, set_i (j := 2) h rfl, ?_⟩
  have k1 : Kp (At p) M (M.set p (.lst ([.int a, .int b, .int c].set 2 (.int (c + 1))))) := .set fun _ => rfl
  have h1 := at_set (o := .lst ([.int a, .int b, .int c].set 2 (.int (c + 1)))) h
  generalize M.set p (.lst ([.int a, .int b, .int c].set 2 (.int (c + 1)))) = M1 at k1 h1
  clean_wf
  refine wp_ixL h1 rfl ?_
  clean_wf
  refine wp_modI (by decide) ?_
  clean_wf
  refine wp_mulI (.inr (by omega)) ?_
  clean_wf
  refine wp_ixL h1 rfl ?_
  refine wp_mulI (.inl (by decide)) ?_
  clean_wf
  refine wp_modI (by decide) ?_
  clean_wf
  refine ⟨_, set_i (j := 0) h1 rfl, ?_⟩
  generalize hv : ((a * (a % 50021 + 30011) + 80021 * (c + 1)) % 2147483249 : Int) = v
  have k2 : Kp (At p) M1 (M1.set p (.lst (([.int a, .int b, .int c].set 2 (.int (c + 1))).set 0 (.int v)))) := .set fun _ => rfl
  have h2 : (M1.set p (.lst (([.int a, .int b, .int c].set 2 (.int (c + 1))).set 0 (.int v))))[p]? = some (.lst [.int v, .int b, .int (c + 1)]) := at_set h1
  have k3 := k1.tr k2
  generalize M1.set p (.lst (([.int a, .int b, .int c].set 2 (.int (c + 1))).set 0 (.int v))) = M2 at k3 h2
  clean_wf
  refine wp_ixL h2 rfl ?_
  clean_wf
  by_cases hb : (0 : Int) < b
  · refine ki_of (decide_eq_true hb) ?_
    clean_wf
    refine wp_ixL h2 rfl ?_
    clean_wf
    refine wp_ev (if_pos ⟨hm, hm2⟩) ?_
    clean_wf
    refine ⟨_, set_i (j := 1) h2 rfl, ?_⟩
    clean_wf
    refine ⟨⟨(b % m).toNat, ?_, ?_⟩, ⟨v, b / m, c + 1, at_set h2⟩, k3.tr (.set fun _ => rfl)⟩
    · rw [Int.toNat_of_nonneg (Int.emod_nonneg _ (by omega))]
    · rw [Int.toNat_of_nonneg (Int.emod_nonneg _ (by omega))]
      exact Int.emod_lt_of_pos _ hm
  · refine ki_of (decide_eq_false hb) ?_
    clean_wf
    refine wp_ixL h2 rfl ?_
    clean_wf
    refine wp_fdivI (by decide) ?_
    clean_wf
    refine wp_modI hm ?_
    clean_wf
    refine ⟨⟨(v / 64 % m).toNat, ?_, ?_⟩, ⟨v, b, c + 1, h2⟩, k3⟩
    · rw [Int.toNat_of_nonneg (Int.emod_nonneg _ (by omega))]
    · rw [Int.toNat_of_nonneg (Int.emod_nonneg _ (by omega))]
      exact Int.emod_lt_of_pos _ hm

theorem Pool.keep {p n : Nat} {M : Mem} {o : Ob} (h : Pool p M) (e : p ≠ n) : Pool p (M.set n o) := by
  obtain ⟨a, b, c, h⟩ := h
  exact ⟨a, b, c, at_set_ne h (Ne.symm e)⟩
theorem Pool.app {p : Nat} {M L : Mem} (h : Pool p M) : Pool p (M ++ L) := by
  obtain ⟨a, b, c, h⟩ := h
  exact ⟨a, b, c, at_app h⟩
theorem Pool.lt {p : Nat} {M : Mem} (h : Pool p M) : p < M.length := by
  obtain ⟨a, b, c, h⟩ := h
  exact lt_of h
theorem Pool.kp {p : Nat} {M M' : Mem} (h : Pool p M) (k : Kp NoW M M') : Pool p M' := by
  obtain ⟨a, b, c, h⟩ := h
  exact ⟨a, b, c, k.at h id⟩
end L67

/-! text G2_67 -/
namespace L67
open PySem L2 PySem.Spec PyProof.Rows Zl
/-- names -/
def okName (x : Str) : Bool := decide (1 ≤ x.length) && decide (x.length ≤ 6) && x.cps.toList.all fun c => decide (c ∈ ("abcdefghijklmnopqrstuvwxyz" : Str).cps.toList)
def strsD (ws : List Str) : List Dv := ws.map .str
def intsN (ns : List Nat) : List Dv := ns.map fun n => .int (n : Nat)
theorem sp_pool {x : Int} {M : Mem} : Wp (m__law_pool [.int x] M) fun d M' => ∃ p, d = .loc p ∧ p = M.length ∧ Pool p M' ∧ Kp NoW M M' := by
  refine wp_fn rfl [some (.int x), none] rfl ?_
  unfold b__law_pool
  simp_wf
  by_cases h1 : x < 0
  · refine ki_of (decide_eq_true h1) ?_
    simp_wf
    refine wp_ev (a := .int (if x < 0 then -x else x)) rfl ?_
    simp_wf
    refine wp_modI (by decide) ?_
    simp_wf
    intro n1 M1 e1 g1 k1 l1
    simp_wf
    exact ⟨n1, rfl, e1, ⟨_, _, _, g1⟩, k1⟩
  · refine ki_of (decide_eq_false h1) ?_
    simp_wf
    refine wp_ev (a := .int 1000000000000000000) rfl ?_
    simp_wf
    by_cases h2 : (1000000000000000000 : Int) ≤ x
    · refine ki_of (decide_eq_true h2) ?_
      simp_wf
      refine wp_ev (a := .int (if x < 0 then -x else x)) rfl ?_
      simp_wf
      refine wp_modI (by decide) ?_
      simp_wf
      intro n1 M1 e1 g1 k1 l1
      simp_wf
      exact ⟨n1, rfl, e1, ⟨_, _, _, g1⟩, k1⟩
    · refine ki_of (decide_eq_false h2) ?_
      simp_wf
      refine wp_modI (by decide) ?_
      simp_wf
      intro n1 M1 e1 g1 k1 l1
      simp_wf
      exact ⟨n1, rfl, e1, ⟨_, _, _, g1⟩, k1⟩
theorem sp_cell {ns : List Int} {k : Nat} {M : Mem} (hk : k < 100) : Wp (m__law_cell [.rol (ns.map .int), .int (k : Nat)] M) fun d M' => (∃ x : Int, d = .int x) ∧ Kp NoW M M' := by
  refine wp_fn rfl [some (.rol (ns.map .int)), some (.int (k : Nat)), none, none] rfl ?_
  unfold b__law_cell
  simp_wf
  by_cases h : (k : Int) < ((ns.map Dv.int).length : Nat)
  · refine ki_of (decide_eq_true h) ?_
    simp_wf
    have h' : k < ns.length := by simpa using h
    refine wp_ixR (atI_n (x := Dv.int ns[k]) (by simp [h'])) ?_
    simp_wf
    exact ⟨⟨_, rfl⟩, .refl⟩
  · refine ki_of (decide_eq_false h) ?_
    simp_wf
    refine wp_mulI (.inr (by omega)) ?_
    simp_wf
    refine wp_mulI (.inl (by decide)) ?_
    simp_wf
    refine wp_mulI (.inl (by decide)) ?_
    simp_wf
    refine wp_modI (by decide) ?_
    simp_wf
    refine wp_for (fun i env M' => ∃ (x3 : Option Dv) (z : Int), env = [some (.rol (ns.map .int)), some (.int (k : Nat)), some (.int z), x3] ∧ M'[M.length]? = some (.lst (cutD (ns.map .int) none (some 3))) ∧ Kp NoW M M') ?_
    simp_wf
    refine ⟨_, rfl, ?_⟩
    refine wp_slR ?_
    rintro _ M1 rfl g1 k1 _
    refine ⟨_, src_loc g1, ⟨none, _, rfl, g1, k1⟩, ?_, ?_⟩
    · rintro i env M' hi ⟨x3, z, rfl, g2, k2⟩
      have hi' : i < (cutD (ns.map Dv.int) none (some 3)).length := hi
      have hm := cut_mem (List.getElem_mem hi')
      obtain ⟨v, _, hv⟩ := List.mem_map.mp hm
      refine ⟨.int v, by show stpL _ i M' = _; rw [stpL_at g2, List.getElem?_eq_getElem hi', hv], ?_⟩
      simp_wf
      refine wp_mulI (.inr (by decide)) ?_
      simp_wf
      refine wp_modI (by decide) ?_
      simp_wf
      exact ⟨_, _, rfl, g2, k2⟩
    · rintro env M' ⟨x3, z, rfl, g2, k2⟩
      refine ⟨by show stpL _ _ M' = _; rw [stpL_at g2]; simp, ?_⟩
      simp_wf
      exact ⟨⟨_, rfl⟩, k2⟩
end L67

/-! text A0_67 -/
namespace L67
open PySem L2 PySem.Spec PyProof.Rows Zl
structure Row where
  v : Nat
  s : Nat
  hits : List Nat
  deriving DecidableEq
structure Tb where
  l : Nat
  rows : List Row
  deriving DecidableEq
def rowD (r : Row) : Dv := .tup [.int (r.v : Nat), .int (r.s : Nat), .tup (intsN r.hits)]
def tabD (t : Tb) : Dv := .tup [.int (t.l : Nat), .tup (t.rows.map rowD)]
def OkR (l n : Nat) (r : Row) : Prop := r.v < l ∧ r.s < n ∧ r.hits.length = l ∧ ∀ h ∈ r.hits, h < n
structure OkT (t : Tb) : Prop where
  l1 : 1 ≤ t.l
  l4 : t.l ≤ 4
  r1 : 1 ≤ t.rows.length
  r64 : t.rows.length ≤ 64
  ok : ∀ r ∈ t.rows, OkR t.l t.rows.length r
theorem nats_of {s : Nat} : ∀ {xs ys : List Dv}, All2 (fun _ y => ∃ r : Nat, y = Dv.int r ∧ (r : Int) < s) xs ys → ∃ ns : List Nat, ys = intsN ns ∧ ns.length = xs.length ∧ ∀ n ∈ ns, n < s
  | _, _, .nil => ⟨[], rfl, rfl, fun n h => by simp at h⟩
  | _, _, .cons ⟨r, e, hr⟩ t => by
    obtain ⟨ns, e2, h2, h3⟩ := nats_of t
    refine ⟨r :: ns, by rw [e, e2]; rfl, by simp [h2], fun n hn => ?_⟩
    rcases List.mem_cons.mp hn with e | hn
    · omega
    · exact h3 n hn
end L67

/-! text A1_67 -/
namespace L67
open PySem L2 PySem.Spec PyProof.Rows Zl
/-! tables -/
theorem sp_policyL {p : Nat} {l s : Nat} {M : Mem} (h : Pool p M) (hl : 1 ≤ l) (hl4 : l ≤ 4) (hs : 1 ≤ s) (hs2 : s ≤ 64) :
    Wp (m__law_policy [.loc p, .int (l : Nat), .int (s : Nat)] M) fun d M' => (∃ t, d = tabD t ∧ OkT t ∧ t.l = l ∧ t.rows.length = s) ∧ Pool p M' ∧ Kp (At p) M M' := by
  have hp := h.lt
  refine wp_fn rfl [some (.loc p), some (.int (l : Nat)), some (.int (s : Nat)), none, none, none, none] rfl ?_
  unfold b__law_policy
  clean_wf
  refine wp_for (fun i env M' => ∃ (x4 x5 : Option Dv) (rows : List Row), env = [some (.loc p), some (.int (l : Nat)), some (.int (s : Nat)), some (.loc M.length), x4, x5, none] ∧ rows.length = i ∧ M'[M.length]? = some (.lst (rows.map rowD)) ∧ (∀ r ∈ rows, OkR l s r) ∧ Pool p M' ∧ Kp (At p) M M') ?_
  clean_wf
  refine ⟨_, rfl, by omega, ⟨none, none, [], rfl, rfl, at_new, fun r hr => by simp at hr, h.app, .app _⟩, ?_, ?_⟩
  · rintro i env M' hi ⟨x4, x5, rows, rfl, h1, h2, h3, h4, h5⟩
    refine ⟨_, rng_go hi, ?_⟩
    clean_wf
    refine wp_lc (fun _ y => ∃ r : Nat, y = Dv.int r ∧ (r : Int) < s) (At p) (Pool p) ?_
    clean_wf
    refine ⟨_, rfl, by omega, intsR l, intsR_len.symm, by rw [intsR_len]; show _ ≤ 2 ^ 24; omega, ?_, fun i M' _ _ _ => rng_stp, h4.app, fun M' a b hh _ => hh.keep ?_, ?_, ?_⟩
    · have := h4.lt; intro e; omega
    · have := h4.lt; omega
    · intro x hx M2 hk hl2 hj
      clean_wf
      refine (sp_draw hj (by omega) (by omega)).go fun d M3 ⟨a, b, c⟩ => ⟨a, c, b⟩
    · intro ys M2 ha hk hj hy
      obtain ⟨ns, rfl, n1, n2⟩ := nats_of ha
      have n1' : ns.length = l := n1.trans intsR_len
      have g2 := hk.at h2 (by omega)
      clean_wf
      refine wp_tupL hy ?_
      clean_wf
      refine ⟨ty_lst g2, ?_⟩
      clean_wf
      refine (sp_draw hj (by omega) (by omega)).go fun d1 M3 ⟨⟨r1, e1, f1⟩, b1, c1⟩ => ?_
      subst e1
      clean_wf
      refine (sp_draw b1 (by omega) (by omega)).go fun d2 M4 ⟨⟨r2, e2, f2⟩, b2, c2⟩ => ?_
      subst e2
      clean_wf
      have g4 := c2.at (c1.at g2 (by omega)) (by omega)
      refine wp_append g4 (by simp [h1]; show _ < 2 ^ 24; have : i < s := hi; omega) ?_
      clean_wf
      refine ⟨_, _, rows ++ [⟨r1, r2, ns⟩], rfl, by simp [h1], ?_, ?_, b2.keep (by omega), ?_⟩
      · rw [at_set g4, List.map_append]; rfl
      · intro r hr
        rcases List.mem_append.mp hr with hr | hr
        · exact h3 r hr
        · have e : r = ⟨r1, r2, ns⟩ := by simpa using hr
          subst e
          exact ⟨by show r1 < l; omega, by show r2 < s; omega, n1', n2⟩
      · exact (((h5.tr hk).tr c1).tr c2).trans (Kp.set (W := fun n => n = M.length) fun _ => rfl) (fun n hn e => by omega)
  · rintro env M' ⟨x4, x5, rows, rfl, h1, h2, h3, h4, h5⟩
    refine ⟨rng_end, ?_⟩
    clean_wf
    refine wp_tupL h2 ?_
    clean_wf
    have e : rows.length = s := h1
    exact ⟨⟨⟨l, rows⟩, rfl, ⟨hl, hl4, by show 1 ≤ rows.length; omega, by show rows.length ≤ 64; omega, fun r hr => by rw [show (Tb.mk l rows).rows.length = s from e]; exact h3 r hr⟩, rfl, e⟩, h4, h5⟩
theorem sp_policy {p : Nat} {l s : Nat} {M : Mem} (h : Pool p M) (hl : 1 ≤ l) (hl4 : l ≤ 4) (hs : 1 ≤ s) (hs2 : s ≤ 64) :
    Wp (m__law_policy [.loc p, .int (l : Nat), .int (s : Nat)] M) fun d M' => (∃ t, d = tabD t ∧ OkT t) ∧ Pool p M' ∧ Kp (At p) M M' :=
  (sp_policyL h hl hl4 hs hs2).go fun d M' ⟨⟨t, e, ok, _⟩, b, c⟩ => ⟨⟨t, e, ok⟩, b, c⟩
end L67

/-! text A3_67 -/
namespace L67
open PySem L2 PySem.Spec PyProof.Rows Zl
/-! the queue -/
def queueT (l : Nat) : Tb := ⟨l, (List.range l).map fun a => ⟨a, (a + 1) % l, List.replicate l a⟩⟩
theorem rep_tup {l a : Nat} : (List.replicate l [Dv.int (a : Nat)]).flatten = intsN (List.replicate l a) := by
  induction l with
  | zero => rfl
  | succ n ih => rw [List.replicate_succ, List.flatten_cons, ih]; rfl
theorem sp_queue {l : Nat} {M : Mem} (hl : 1 ≤ l) (hl4 : l ≤ 4) : Wp (m__law_queue [.int (l : Nat)] M) fun d M' => d = tabD (queueT l) ∧ Kp NoW M M' := by
  refine wp_fn rfl [some (.int (l : Nat)), none] rfl ?_
  unfold b__law_queue
  simp_wf
  refine wp_lcP (fun x => match x with | .int i => rowD ⟨i.toNat, (i.toNat + 1) % l, List.replicate l i.toNat⟩ | _ => .non) ?_
  simp_wf
  refine ⟨_, rfl, by omega, intsR l, intsR_len.symm, by rw [intsR_len]; show _ ≤ 2 ^ 24; omega, fun i M' _ _ => rng_stp, ?_, ?_⟩
  · intro x hx M1 k1
    obtain ⟨a, ha, rfl⟩ := List.mem_map.mp hx
    simp_wf
    refine wp_modI (by omega) ?_
    simp_wf
    refine wp_mulT (by show 1 * _ ≤ _; omega) (by omega) ?_
    simp_wf
    refine ⟨?_, .refl⟩
    simp only [Int.toNat_natCast, rep_tup, rowD]
    rfl
  · intro M1 k1 g1
    simp_wf
    refine wp_tupL g1 ?_
    simp_wf
    refine ⟨?_, k1⟩
    simp only [tabD, queueT, intsR, List.map_map]
    congr 3
theorem queue_ok {l : Nat} (hl : 1 ≤ l) (hl4 : l ≤ 4) : OkT (queueT l) := by
  refine ⟨hl, hl4, by simpa [queueT] using hl, by simp [queueT]; omega, fun r hr => ?_⟩
  obtain ⟨a, ha, rfl⟩ := List.mem_map.mp hr
  have ha' : a < l := by simpa using ha
  refine ⟨ha', by simp only [queueT, List.length_map, List.length_range]; exact Nat.mod_lt _ (by omega), by simp [queueT], fun h hh => ?_⟩
  have : h = a := (List.mem_replicate.mp hh).2
  subst this
  simpa [queueT] using ha'
/-! the least recently used -/
def goalsN (l : Nat) (here : List Nat) : List (List Nat) := (List.range l).map fun line => (here.filter fun s => s != line) ++ [line]
def nextN (l i : Nat) (p : List (List Nat) × List Row) : List (List Nat) × List Row :=
  let here := p.1.getD i []
  let gs := goalsN l here
  let os := p.1 ++ gs.filter fun g => !p.1.contains g
  (os, p.2 ++ [⟨here.headD 0, os.idxOf (gs.getD (here.headD 0) []), gs.map os.idxOf⟩])
def recN (l : Nat) : Nat → List (List Nat) × List Row
  | 0 => ([List.range l], [])
  | i + 1 => nextN l i (recN l i)
def factN : Nat → Nat
  | 1 => 1
  | 2 => 2
  | 3 => 6
  | _ => 24
def recT (l : Nat) : Tb := ⟨l, (recN l (factN l)).2⟩
def ordD (o : List Nat) : Dv := .tup (intsN o)
def ordP (o : List Nat) : PyData := .tuple (o.map fun n => .int (n : Nat))
theorem rd_ints {M : Mem} {k : Nat} : ∀ o : List Nat, rdL (rd M k) (intsN o) = some (o.map fun n => PyData.int (n : Nat))
  | [] => rfl
  | n :: o => by
    show (match rd M k (.int (n : Nat)) with | none => none | some p => match rdL (rd M k) (intsN o) with | none => none | some ps => some (p :: ps)) = _
    rw [rd_ints o]
    cases k <;> rfl
theorem rd_ord {M : Mem} (o : List Nat) : rd M deep (ordD o) = some (ordP o) := by
  show (match rdL (rd M 29) (intsN o) with | some ps => some (PyData.tuple ps) | none => none) = _
  rw [rd_ints]; rfl
theorem rd_ords {M : Mem} : ∀ os : List (List Nat), rdL (rd M deep) (os.map ordD) = some (os.map ordP)
  | [] => rfl
  | o :: os => by
    show (match rd M deep (ordD o) with | none => none | some p => match rdL (rd M deep) (os.map ordD) with | none => none | some ps => some (p :: ps)) = _
    rw [rd_ord, rd_ords os]; rfl
theorem lay_ints : ∀ o : List Nat, PyData.canLayAll0 (o.map fun n => PyData.int (n : Nat)) = true ∧ PyData.depthAll (o.map fun n => PyData.int (n : Nat)) = 0
  | [] => ⟨rfl, rfl⟩
  | n :: o => by
    obtain ⟨h1, h2⟩ := lay_ints o
    refine ⟨?_, ?_⟩
    · rw [List.map_cons]; unfold PyData.canLayAll0; rw [h1]; rfl
    · rw [List.map_cons]; unfold PyData.depthAll; rw [h2]; rfl
theorem lay_ord (o : List Nat) : (ordP o).canLay0 = true ∧ (ordP o).depth = 1 := by
  obtain ⟨h1, h2⟩ := lay_ints o
  unfold ordP
  refine ⟨by unfold PyData.canLay0; exact h1, by unfold PyData.depth; rw [h2]⟩
theorem shaped_ord (o : List Nat) : SeqAt.shaped (ordP o) = true := by
  obtain ⟨h1, h2⟩ := lay_ord o
  unfold SeqAt.shaped
  rw [h1, h2]; rfl
theorem lay_ords : ∀ os : List (List Nat), PyData.canLayAll0 (os.map ordP) = true ∧ PyData.depthAll (os.map ordP) ≤ 1
  | [] => ⟨rfl, by decide⟩
  | o :: os => by
    obtain ⟨h1, h2⟩ := lay_ords os
    obtain ⟨h3, h4⟩ := lay_ord o
    refine ⟨?_, ?_⟩
    · rw [List.map_cons]; unfold PyData.canLayAll0; rw [h1, h3]; rfl
    · rw [List.map_cons]; unfold PyData.depthAll; rw [h4]; omega
theorem shaped_ords (os : List (List Nat)) : SeqAt.shaped (.list (os.map ordP)) = true := by
  obtain ⟨h1, h2⟩ := lay_ords os
  unfold SeqAt.shaped
  unfold PyData.canLay0 PyData.depth
  rw [h1, Bool.true_and, decide_eq_true_eq]; omega
theorem eqv_ints : ∀ a b : List Nat, PyData.eqvAll (a.map fun n => PyData.int (n : Nat)) (b.map fun n => PyData.int (n : Nat)) = (a == b)
  | [], [] => rfl
  | [], _ :: _ => rfl
  | _ :: _, [] => rfl
  | x :: a, y :: b => by
    rw [List.map_cons, List.map_cons]
    unfold PyData.eqvAll
    rw [eqv_ints a b]
    unfold PyData.eqv
    rw [List.cons_beq_cons]
    congr 1
    by_cases h : x = y
    · subst h; simp
    · have h2 : ¬ ((x : Int) = (y : Int)) := by omega
      rw [beq_eq_false_iff_ne.mpr h, beq_eq_false_iff_ne.mpr h2]
theorem eqv_ord (a b : List Nat) : PyData.eqv (ordP a) (ordP b) = (a == b) := by
  unfold ordP PyData.eqv
  exact eqv_ints a b
theorem wp_notin {M : Mem} {n : Nat} {g : List Nat} {os : List (List Nat)} {q : QE} (h : M[n]? = some (.lst (os.map ordD))) (k : q (.bl (!os.contains g)) M) : Wp (inE true (ordD g) (.loc n) M) q := by
  refine wp_ev ?_ k
  unfold inE; simp only [h]; unfold inD
  simp only [h]
  rw [if_neg (by simp [ordD, flatD]), rd_ord, rd_ords]
  simp only
  rw [if_pos ⟨shaped_ord g, shaped_ords os⟩]
  congr 4
  rw [Bool.true_xor]
  congr 1
  rw [List.any_map, List.contains_eq_any_beq]
  congr 1
  funext z
  show PyData.eqv (ordP z) (ordP g) = _
  rw [eqv_ord]
  by_cases e : z = g
  · subst e; simp
  · rw [beq_eq_false_iff_ne.mpr e, beq_eq_false_iff_ne.mpr (Ne.symm e)]
theorem wp_index {M : Mem} {n : Nat} {g : List Nat} {os : List (List Nat)} {q : QE} (h : M[n]? = some (.lst (os.map ordD))) (hg : g ∈ os) (k : q (.int (os.idxOf g : Nat)) M) : Wp (indexD (.loc n) [ordD g] M) q := by
  refine wp_ev ?_ k
  unfold indexD
  simp only [h]
  rw [if_neg (by simp [ordD, flatD]), rd_ord, rd_ords]
  simp only
  rw [if_pos ⟨shaped_ord g, shaped_ords os⟩]
  have e : (os.map ordP).findIdx? (fun z => PyData.eqv z (ordP g)) = some (os.idxOf g) := by
    rw [List.findIdx?_map]
    have e1 : ((fun z => PyData.eqv z (ordP g)) ∘ ordP) = fun z => z == g := by funext z; exact eqv_ord z g
    rw [e1]
    show os.findIdx? (fun z => z == g) = some (os.idxOf g)
    have e2 : os.findIdx (fun z => z == g) < os.length := List.findIdx_lt_length_of_exists ⟨g, hg, by simp⟩
    rw [List.findIdx?_eq_some_iff_findIdx_eq]
    exact ⟨e2, rfl⟩
  rw [e]

def unN (ys : List Dv) : List Nat := ys.map fun y => match y with
  | .int z => z.toNat
  | _ => 0
theorem unN_ints : ∀ o : List Nat, unN (intsN o) = o
  | [] => rfl
  | n :: o => by
    have := unN_ints o
    unfold unN intsN at this ⊢
    rw [List.map_cons, List.map_cons, this]
    simp
theorem map_ord {xs : List Nat} : ordD xs = .tup (intsN xs) := rfl
theorem sp_recent {l : Nat} {M : Mem} (hl : 1 ≤ l) (hl4 : l ≤ 4) : Wp (m__law_recent [.int (l : Nat)] M) fun d M' => d = tabD (recT l) ∧ Kp NoW M M' := by
  have facts : ∀ l, 1 ≤ l → l ≤ 4 → factN l ≤ 24 ∧ (recN l (factN l)).1.length = factN l ∧ ∀ i, i < factN l → i < (recN l i).1.length ∧ ((recN l i).1.getD i []).headD 0 < l ∧ ((recN l i).1.getD i []) ≠ [] ∧ (recN l i).1.length ≤ 100 ∧ ((recN l i).1.getD i []).length ≤ 4 := by
    intro l h1 h4
    match l, h1, h4 with
    | 1, _, _ => decide +kernel
    | 2, _, _ => decide +kernel
    | 3, _, _ => decide +kernel
    | 4, _, _ => decide +kernel
  obtain ⟨f1, f2, f3⟩ := facts l hl hl4
  refine wp_fn rfl [some (.int (l : Nat)), none, none, none, none, none, none, none, none] rfl ?_
  unfold b__law_recent
  simp_wf
  refine wp_tupR ?_
  simp_wf
  refine ⟨l, rfl, by omega, ?_⟩
  simp_wf
  intro o M1 e1 g1 k1 l1
  simp_wf
  intro r M2 e2 g2 k2 l2
  have g1' := k2.at g1 id
  simp_wf
  refine wp_whileI (fun m env M' => ∃ (i : Nat) (x4 x5 : Option Dv), m = factN l - i ∧ i ≤ factN l ∧ env = [some (.int (l : Nat)), some (.loc o), some (.loc r), some (.int (i : Nat)), x4, x5, none, none, none] ∧
    M'[o]? = some (.lst ((recN l i).1.map ordD)) ∧ M'[r]? = some (.lst ((recN l i).2.map rowD)) ∧ Kp NoW M M') ?_ 1000000 (factN l) _ _ (by omega) ⟨0, none, none, by omega, by omega, rfl, g1', g2, k1.tr k2⟩
  rintro m env M' ⟨i, x4, x5, rfl, hi, rfl, a1, a2, a3⟩
  simp_wf
  refine wp_lenL a1 ?_
  simp_wf
  by_cases hlt : i < factN l
  · obtain ⟨b1, b2, b3, b4, b5⟩ := f3 i hlt
    have hd : (decide ((i : Int) < (((recN l i).1.map ordD).length : Nat))) = true := decide_eq_true (by rw [List.length_map]; omega)
    rw [hd]
    generalize hos : (recN l i).1 = os at *
    generalize hhe : os.getD i [] = here at *
    have hget : os[i]? = some here := by
      rw [← hhe, List.getD_eq_getElem?_getD]
      rw [List.getElem?_eq_getElem b1]; rfl
    simp_wf
    refine wp_ixL a1 (atI_n (x := ordD here) (by rw [List.getElem?_map, hget]; rfl)) ?_
    simp_wf
    refine wp_lcP (fun x => match x with | .int z => ordD ((here.filter fun s => s != z.toNat) ++ [z.toNat]) | _ => .non) ?_
    simp_wf
    refine ⟨_, rfl, by omega, intsR l, intsR_len.symm, by rw [intsR_len]; show _ ≤ 2 ^ 24; omega, fun i M' _ _ => rng_stp, ?_, ?_⟩
    · intro x hx M3 k3
      obtain ⟨a, ha, rfl⟩ := List.mem_map.mp hx
      simp_wf
      refine wp_lcF (fun y => match y with | .int z => z != (a : Int) | _ => false) (fun y => y) ?_
      simp_wf
      refine ⟨_, rfl, intsN here, rfl, by simp [intsN]; show _ ≤ 2 ^ 24; omega, fun _ _ _ _ => rfl, ?_, ?_, ?_⟩
      · intro y hy M4 k4
        obtain ⟨b, hb, rfl⟩ := List.mem_map.mp hy
        simp_wf
        refine ⟨?_, .refl⟩
        rw [Bool.true_xor]; rfl
      · intro y hy M4 k4
        obtain ⟨b, hb, rfl⟩ := List.mem_map.mp hy
        simp_wf
        exact ⟨rfl, .refl⟩
      · intro M4 k4 g4
        simp_wf
        refine wp_tupL g4 ?_
        simp_wf
        refine wp_addT ?_ ?_
        · rw [List.map_id']
          have := List.length_filter_le (fun y : Dv => match y with | .int z => z != (a : Int) | _ => false) (intsN here)
          have h2 : (intsN here).length = here.length := by simp [intsN]
          simp only [List.length_cons, List.length_nil]
          omega
        · refine ⟨?_, k4⟩
          rw [List.map_id']
          simp only [Int.toNat_natCast, ordD, intsN, List.map_append, List.map_cons, List.map_nil]
          congr 2
          rw [List.filter_map]
          congr 1
          apply List.filter_congr
          intro s _
          show ((s : Int) != (a : Int)) = (s != a)
          by_cases e : s = a
          · subst e; simp
          · have e2 : ¬ ((s : Int) = (a : Int)) := by omega
            rw [bne_iff_ne.mpr e, bne_iff_ne.mpr e2]
    · intro M3 k3 g3
      have gs1 : (intsR l).map (fun x => match x with | .int z => ordD ((here.filter fun s => s != z.toNat) ++ [z.toNat]) | _ => .non) = (goalsN l here).map ordD := by
        unfold intsR goalsN
        rw [List.map_map, List.map_map]
        apply List.map_congr_left
        intro a _
        simp
      rw [gs1] at g3
      have gl : (goalsN l here).length = l := by simp [goalsN]
      generalize hgs : goalsN l here = gs at *
      generalize hg : M'.length = g at *
      have hrl := lt_of a2
      have hol := lt_of a1
      have a1' := k3.at a1 id
      have a2' := k3.at a2 id
      simp_wf
      refine ⟨ty_lst a1', ?_⟩
      simp_wf
      refine wp_lcF (fun y => match y with | .tup z => !os.contains (unN z) | _ => false) (fun y => y) ?_
      simp_wf
      refine ⟨_, src_loc g3, gs.map ordD, rfl, by rw [List.length_map, gl]; show _ ≤ 2 ^ 24; omega, fun i M'' k _ => stpL_at (k.at g3 id), ?_, ?_, ?_⟩
      · intro y hy M4 k4
        obtain ⟨b, hb, rfl⟩ := List.mem_map.mp hy
        simp_wf
        refine wp_notin (k4.at a1' id) ?_
        simp_wf
        refine ⟨?_, .refl⟩
        simp only [ordD, unN_ints]
      · intro y hy M4 k4
        simp_wf
        exact ⟨rfl, .refl⟩
      · intro M4 k4 g4
        have fe : ((gs.map ordD).filter fun y => match y with | .tup z => !os.contains (unN z) | _ => false) = (gs.filter fun g => !os.contains g).map ordD := by
          rw [List.filter_map]
          congr 1
          apply List.filter_congr
          intro s _
          simp only [Function.comp, ordD, unN_ints]
        rw [List.map_id', fe] at g4
        have fl := List.length_filter_le (fun g => !os.contains g) gs
        generalize hnw : (gs.filter fun g => !os.contains g) = nw at *
        have a1'' := k4.at a1' id
        have a2'' := k4.at a2' id
        have g3'' := k4.at g3 id
        simp_wf
        refine wp_extend a1'' g4 (by rw [List.length_map, List.length_map]; omega) ?_
        have n1 := lt_of a1''
        have h5 : (M4.set o (.lst (os.map ordD ++ nw.map ordD)))[o]? = some (.lst ((os ++ nw).map ordD)) := by rw [at_set a1'', List.map_append]
        have h6 : (M4.set o (.lst (os.map ordD ++ nw.map ordD)))[r]? = some (.lst ((recN l i).2.map rowD)) := at_set_ne a2'' (by omega)
        have h7 : (M4.set o (.lst (os.map ordD ++ nw.map ordD)))[g]? = some (.lst (gs.map ordD)) := at_set_ne g3'' (by omega)
        have h8 : Kp NoW M (M4.set o (.lst (os.map ordD ++ nw.map ordD))) := ((a3.tr k3).tr k4).trans (Kp.set (W := At o) fun _ => rfl) (fun n hn e => by simp only [At] at e; omega)
        generalize M4.set o (.lst (os.map ordD ++ nw.map ordD)) = M5 at *
        have mem : ∀ z ∈ gs, z ∈ os ++ nw := by
          intro z hz
          by_cases hc : z ∈ os
          · exact List.mem_append_left _ hc
          · refine List.mem_append_right _ ?_
            rw [← hnw, List.mem_filter]
            refine ⟨hz, ?_⟩
            simpa using hc
        obtain ⟨h0, ht, rfl⟩ : ∃ h0 ht, here = h0 :: ht := by
          cases here with
          | nil => exact absurd rfl b3
          | cons a b => exact ⟨a, b, rfl⟩
        have b2' : h0 < l := b2
        have hgh : gs[h0]? = some (gs.getD h0 []) := by
          rw [List.getD_eq_getElem?_getD, List.getElem?_eq_getElem (by omega)]; rfl
        simp_wf
        refine ⟨ty_lst h6, ?_⟩
        simp_wf
        refine wp_ixT (xs := intsN (h0 :: ht)) (x := .int (h0 : Nat)) (atI_n (j := 0) rfl) ?_
        simp_wf
        refine wp_or1 ?_
        simp_wf
        refine ⟨ty_lst h5, ?_⟩
        simp_wf
        refine wp_ixT (xs := intsN (h0 :: ht)) (x := .int (h0 : Nat)) (atI_n (j := 0) rfl) ?_
        simp_wf
        refine wp_ixL h7 (atI_n (x := ordD (gs.getD h0 [])) (by rw [List.getElem?_map, hgh]; rfl)) ?_
        simp_wf
        refine wp_index h5 (mem _ (List.mem_of_getElem? hgh)) ?_
        simp_wf
        refine wp_lcP (fun y => match y with | .tup z => .int ((os ++ nw).idxOf (unN z) : Nat) | _ => .non) ?_
        simp_wf
        refine ⟨_, src_loc h7, gs.map ordD, rfl, by rw [List.length_map, gl]; show _ ≤ 2 ^ 24; omega, fun i M'' k _ => stpL_at (k.at h7 id), ?_, ?_⟩
        · intro y hy M6 k6
          obtain ⟨b, hb, rfl⟩ := List.mem_map.mp hy
          refine wp_or1 ?_
          simp_wf
          refine ⟨ty_lst (k6.at h5 id), ?_⟩
          simp_wf
          refine wp_index (k6.at h5 id) (mem _ hb) ?_
          refine ⟨?_, .refl⟩
          simp only [ordD, unN_ints]
        · intro M6 k6 g6
          simp_wf
          refine wp_tupL g6 ?_
          simp_wf
          have q1 := k6.at h5 id
          have q2 := k6.at h6 id
          have hrows : ∀ j, (recN l j).2.length = j := by
            intro j
            induction j with
            | zero => rfl
            | succ j ih =>
              show (nextN l j (recN l j)).2.length = j + 1
              unfold nextN
              simp [ih]
          refine wp_append q2 (by rw [List.length_map, hrows]; show _ < 2 ^ 24; omega) ?_
          simp_wf
          refine ⟨factN l - (i + 1), by omega, i + 1, _, _, rfl, by omega, rfl, ?_, ?_, (h8.tr k6).trans (Kp.set (W := At r) fun _ => rfl) (fun n hn e => by simp only [At] at e; omega)⟩
          · rw [at_set_ne q1 (by omega)]
            have : (recN l (i + 1)).1 = os ++ nw := by
              show (nextN l i (recN l i)).1 = _
              unfold nextN
              simp only [hos, hhe, hgs, hnw]
            rw [this]
          · rw [at_set q2]
            have : (recN l (i + 1)).2 = (recN l i).2 ++ [⟨h0, (os ++ nw).idxOf (gs.getD h0 []), gs.map (os ++ nw).idxOf⟩] := by
              show (nextN l i (recN l i)).2 = _
              unfold nextN
              simp only [hos, hhe, hgs, hnw, List.headD_cons]
            rw [this, List.map_append]
            congr 3
            simp only [List.map_cons, List.map_nil, rowD, intsN, List.map_map]
            congr 4
            refine congrArg (fun z => [Dv.tup z]) ?_
            apply List.map_congr_left
            intro z _
            simp only [Function.comp, ordD, unN_ints]
  · have e : i = factN l := by omega
    subst e
    have hd : (decide (((factN l : Nat) : Int) < (((recN l (factN l)).1.map ordD).length : Nat))) = false := decide_eq_false (by rw [List.length_map, f2]; omega)
    rw [hd]
    simp_wf
    refine wp_tupL a2 ?_
    simp_wf
    exact ⟨rfl, a3⟩

instance {l n : Nat} {r : Row} : Decidable (OkR l n r) := by unfold OkR; exact inferInstance
theorem rec_ok {l : Nat} (hl : 1 ≤ l) (hl4 : l ≤ 4) : OkT (recT l) := by
  have facts : ∀ l, 1 ≤ l → l ≤ 4 → 1 ≤ (recT l).rows.length ∧ (recT l).rows.length ≤ 64 ∧ ∀ r ∈ (recT l).rows, OkR (recT l).l (recT l).rows.length r := by
    intro l h1 h4
    match l, h1, h4 with
    | 1, _, _ => decide +kernel
    | 2, _, _ => decide +kernel
    | 3, _, _ => decide +kernel
    | 4, _, _ => decide +kernel
  obtain ⟨a, b, c⟩ := facts l hl hl4
  exact ⟨hl, hl4, a, b, c⟩
end L67

/-! text G4_67 -/
namespace L67
open PySem L2 PySem.Spec PyProof.Rows Zl
theorem sp_integer {v : Int} {M : Mem} : Wp (m_is_integer [.int v] M) fun d M' => d = .bl true ∧ M' = M := by
  refine wp_fn rfl [some (.int v)] rfl ?_
  unfold b_is_integer
  simp_wf
  refine kc_of (c := true) rfl ?_
  simp_wf
  exact ⟨rfl, rfl⟩
theorem sp_between {v a b : Int} {M : Mem} (h1 : a ≤ v) (h2 : v ≤ b) : Wp (m_is_between [.int v, .int a, .int b] M) fun d M' => d = .bl true ∧ M' = M := by
  refine wp_fn rfl [some (.int v), some (.int a), some (.int b)] rfl ?_
  unfold b_is_between
  simp_wf
  refine sp_integer.go fun d M' ⟨e1, e2⟩ => ?_
  subst e1 e2
  simp_wf
  refine kc_of (decide_eq_true h1) ?_
  simp_wf
  exact ⟨by rw [decide_eq_true h2], rfl⟩
end L67

/-! text A8_67 -/
namespace L67
open PySem L2 PySem.Spec PyProof.Rows Zl
theorem sp_row {l n : Nat} {r : Row} {M : Mem} (h : OkR l n r) (hl : l ≤ 100) : Wp (m_is_row [rowD r, .int (l : Nat), .int (n : Nat)] M) fun d M' => d = .bl true ∧ Kp NoW M M' := by
  obtain ⟨h1, h2, h3, h4⟩ := h
  unfold rowD
  refine wp_fn rfl [some (.tup [.int (r.v : Nat), .int (r.s : Nat), .tup (intsN r.hits)]), some (.int (l : Nat)), some (.int (n : Nat)), none] rfl ?_
  unfold b_is_row
  simp_wf
  refine ki_of (c := false) rfl ?_
  simp_wf
  refine ki_of (c := false) rfl ?_
  simp_wf
  refine (sp_between (by omega) (by omega)).go fun d M' ⟨e1, e2⟩ => ?_
  subst e1 e2
  simp_wf
  refine ki_of (c := false) rfl ?_
  simp_wf
  refine (sp_between (by omega) (by omega)).go fun d M' ⟨e1, e2⟩ => ?_
  subst e1 e2
  simp_wf
  refine ki_of (c := false) rfl ?_
  simp_wf
  refine ki_of (c := false) rfl ?_
  simp_wf
  refine ki_of (c := false) (by simp [intsN, h3]) ?_
  simp_wf
  refine wp_lcP (fun _ => .bl true) ?_
  simp_wf
  refine ⟨_, rfl, intsN r.hits, rfl, by simp [intsN, h3]; show _ ≤ 2 ^ 24; omega, fun _ _ _ _ => rfl, ?_, ?_⟩
  · intro x hx M1 k1
    obtain ⟨a, ha, rfl⟩ := List.mem_map.mp hx
    have := h4 a ha
    simp_wf
    refine (sp_between (by omega) (by omega)).go fun d M' ⟨e1, e2⟩ => ?_
    subst e1 e2
    exact ⟨rfl, .refl⟩
  · intro M1 k1 g1
    simp_wf
    refine wp_all g1 (bls_all (by simp)) ?_
    simp_wf
    refine ⟨?_, k1⟩
    simp
theorem sp_isPolicy {t : Tb} {M : Mem} (h : OkT t) : Wp (m_is_policy [tabD t] M) fun d M' => d = .bl true ∧ Kp NoW M M' := by
  obtain ⟨h1, h2, h3, h4, h5⟩ := h
  unfold tabD
  refine wp_fn rfl [some (.tup [.int (t.l : Nat), .tup (t.rows.map rowD)]), none, none, none] rfl ?_
  unfold b_is_policy c_MOST_LINES c_MOST_STATES
  simp_wf
  refine ki_of (c := false) rfl ?_
  simp_wf
  refine ki_of (c := false) rfl ?_
  simp_wf
  refine (sp_between (by omega) (by omega)).go fun d M' ⟨e1, e2⟩ => ?_
  subst e1 e2
  simp_wf
  refine ki_of (c := false) rfl ?_
  simp_wf
  refine ki_of (c := false) rfl ?_
  simp_wf
  refine kc_of (c := true) (decide_eq_true (by rw [List.length_map]; omega)) ?_
  simp_wf
  refine ki_of (c := false) (by rw [decide_eq_true (by rw [List.length_map]; omega)]; rfl) ?_
  simp_wf
  refine wp_lcP (fun _ => .bl true) ?_
  simp_wf
  refine ⟨_, rfl, t.rows.map rowD, rfl, by rw [List.length_map]; show _ ≤ 2 ^ 24; omega, fun _ _ _ _ => rfl, ?_, ?_⟩
  · intro x hx M1 k1
    obtain ⟨a, ha, rfl⟩ := List.mem_map.mp hx
    simp_wf
    have := h5 a ha
    rw [List.length_map]
    exact sp_row this (by omega)
  · intro M1 k1 g1
    simp_wf
    refine wp_all g1 (bls_all (by simp)) ?_
    simp_wf
    refine ⟨?_, k1⟩
    simp
end L67

/-! text G3_67 -/
namespace L67
open PySem L2 PySem.Spec PyProof.Rows Zl
theorem sp_name {x : Str} {M : Mem} (h : okName x = true) : Wp (m_is_name [.str x] M) fun d M' => d = .bl true ∧ Kp NoW M M' := by
  unfold okName at h
  rw [Bool.and_eq_true, Bool.and_eq_true, decide_eq_true_eq, decide_eq_true_eq, List.all_eq_true] at h
  obtain ⟨⟨h1, h2⟩, h3⟩ := h
  refine wp_fn rfl [some (.str x), none] rfl ?_
  unfold b_is_name c_LETTERS c_LONGEST
  simp_wf
  refine ki_of (c := false) rfl ?_
  simp_wf
  refine wp_ev (a := .int (x.length : Nat)) (if_pos (by show _ ≤ 2 ^ 24; omega)) ?_
  simp_wf
  refine kc_of (c := true) (decide_eq_true (by omega)) ?_
  simp_wf
  refine ki_of (c := false) (by rw [decide_eq_true (by omega)]; rfl) ?_
  simp_wf
  refine wp_lcP (fun _ => .bl true) ?_
  simp_wf
  have hs : x.cps.size ≤ 6 := h2
  refine ⟨_, rfl, x.cps.toList.map fun c => .str ⟨#[c]⟩, by simp, by simp; show _ ≤ 2 ^ 24; omega, fun i _ _ _ => ?_, ?_, ?_⟩
  · show some (x.cps[i]?.map fun c => Dv.str ⟨#[c]⟩) = _
    rw [List.getElem?_map, Array.getElem?_toList]
  · intro y hy M1 k1
    obtain ⟨c, hc, rfl⟩ := List.mem_map.mp hy
    simp_wf
    refine wp_ev (a := .bl true) ?_ ⟨rfl, .refl⟩
    show some (Dv.bl (false ^^ decide (c ∈ _)), M1) = _
    rw [h3 c hc]; rfl
  · intro M1 k1 g1
    simp_wf
    refine wp_all g1 (bls_all (by simp)) ?_
    simp_wf
    exact ⟨by simp, k1⟩
end L67

/-! text A4_67 -/
namespace L67
open PySem L2 PySem.Spec PyProof.Rows Zl
/-! ## the program: what is valid -/
/-! devices -/
inductive Mode where
  | plain
  | incl
  | vict
  deriving DecidableEq
def Mode.s : Mode → Str
  | .plain => "plain"
  | .incl => "inclusive"
  | .vict => "victim"
inductive Dev where
  | one (t : Tb)
  | two (m : Mode) (t u : Tb)
def Dev.tabs : Dev → List Tb
  | .one t => [t]
  | .two _ t u => [t, u]
def Dev.mode : Dev → Str
  | .one _ => "cache"
  | .two m _ _ => m.s
def devD (D : Dev) : Dv := .tup (.str D.mode :: D.tabs.map tabD)
def OkV (D : Dev) : Prop := ∀ t ∈ D.tabs, OkT t
theorem lc_pol {ts : List Tb} (hts : ∀ t ∈ ts, OkT t) (h2 : ts.length ≤ 2) {M : Mem} {x : Str} {q : QE} (hq : ∀ n M', Kp NoW M M' → M'[n]? = some (.lst (ts.map fun _ => Dv.bl true)) → q (.loc n) M') :
    Wp (fComp (fSrc (fSl (fV 0) (fP (fK (.int 1))) fNoP)) [1] (gN 1) fYes (fCall 1 m_is_policy (fCons (fV 1) fNil)) [some (.tup (.str x :: ts.map tabD)), none] M) q := by
  refine wq_map (fun _ => .bl true) ?_
  array_get_dec
  have e : Zl.cutD (Dv.str x :: ts.map tabD) (some 1) none = ts.map tabD := by
    unfold Zl.cutD
    simp [HT.sIx]
    exact List.take_of_length_le (by simp)
  rw [e]
  refine k_mapT (size_le (by simp; omega)) ?_ ?_
  · intro y hy M1 k1
    obtain ⟨t, ht, rfl⟩ := List.mem_map.mp hy
    array_get_dec
    exact sp_isPolicy (hts t ht)
  · intro n M1 e1 l1 k1 g1
    exact hq n M1 k1 (by rw [g1, List.map_map]; rfl)
theorem sp_isDevice {D : Dev} {M : Mem} (h : OkV D) : Wp (m_is_device [devD D] M) fun d M' => d = .bl true ∧ Kp NoW M M' := by
  rcases D with t | ⟨m, t, u⟩
  · refine wp_fn rfl [some (.tup [.str "cache", tabD t]), none] rfl ?_
    unfold b_is_device
    array_get_dec
    repeat (first | (refine ki_of (c := false) rfl ?_; array_get_dec) | (refine ki_of (c := true) rfl ?_; array_get_dec) | (refine wp_ev (a := .bl false) rfl ?_; array_get_dec) | (refine wp_ev (a := .bl true) rfl ?_; array_get_dec))
    refine lc_pol (ts := [t]) h (by show 1 ≤ 2; decide) fun n M1 k1 g1 => ?_
    array_get_dec
    refine wp_all g1 (bls_all (by simp)) ?_
    array_get_dec
    exact ⟨by simp, k1⟩
  · refine wp_fn rfl [some (.tup [.str m.s, tabD t, tabD u]), none] rfl ?_
    unfold b_is_device c_LEVELS
    cases m <;> array_get_dec <;> repeat (first | (refine ki_of (c := false) rfl ?_; array_get_dec) | (refine ki_of (c := true) rfl ?_; array_get_dec) | (refine wp_ev (a := .bl false) rfl ?_; array_get_dec) | (refine wp_ev (a := .bl true) rfl ?_; array_get_dec))
    all_goals
      refine lc_pol (ts := [t, u]) h (by show 2 ≤ 2; decide) fun n M1 k1 g1 => ?_
      array_get_dec
      refine wp_all g1 (bls_all (by simp)) ?_
      array_get_dec
      exact ⟨by simp, k1⟩
theorem sp_checkDevice {D : Dev} {M : Mem} (h : OkV D) : Wp (m_check_device [devD D] M) fun d M' => Kp NoW M M' := by
  refine wp_fn rfl [some (devD D)] rfl ?_
  unfold b_check_device
  array_get_dec
  refine (sp_isDevice h).go ?_
  rintro _ M1 ⟨rfl, k1⟩
  array_get_dec
  refine ki_of (c := false) (by ac_nf0) ?_
  array_get_dec
  exact k1
end L67

/-! text C4_67 -/
namespace L67
open PySem L2 PySem.Spec PyProof.Rows Zl
/-- a drawn device -/
theorem sp_deviceL {p mo sn : Nat} {M : Mem} (h : Pool p M) (m1 : 1 ≤ mo) (m4 : mo ≤ 4) (s1 : 1 ≤ sn) (s9 : sn ≤ 60) : Wp (m__law_device [.loc p, .int (mo : Nat), .int (sn : Nat)] M) fun d M' => (∃ D, d = devD D ∧ OkV D ∧ ∀ t ∈ D.tabs, t.l ≤ mo) ∧ Pool p M' ∧ Kp (At p) M M' := by
  have hp := h.lt
  refine wp_fn rfl [some (.loc p), some (.int (mo : Nat)), some (.int (sn : Nat)), none, none, none, none, none, none] rfl ?_
  unfold b__law_device
  array_get_dec
  refine (sp_draw h (by decide) (by decide)).go ?_
  rintro _ M1 ⟨⟨r1, rfl, f1⟩, p1, k1⟩
  array_get_dec
  rename_i n2 M2 e2 g2 k2 l2
  refine wq_for (fun i env M' => ∃ (x5 x6 x7 x8 : Option Dv) (ts : List Tb), env = [some (.loc p), some (.int (mo : Nat)), some (.int (sn : Nat)), some (.int (r1 : Nat)), some (.loc n2), x5, x6, x7, x8] ∧ ts.length = i ∧ M'[n2]? = some (.lst (ts.map tabD)) ∧ (∀ t ∈ ts, OkT t ∧ t.l ≤ mo) ∧ Pool p M' ∧ Kp (At p) M M') ?_
  array_get_dec
  refine k_forR (n := 2) ⟨none, none, none, none, [], rfl, rfl, g2, fun r hr => by simp at hr, p1.kp k2, by array_mem_dec⟩ ?_ ?_
  · rintro i env M3 hi ⟨x5, x6, x7, x8, ts, rfl, h1, h2, h3, h4, h5⟩
    array_get_dec
    refine (sp_draw h4 (by omega) (by omega)).go ?_
    rintro _ M4 ⟨⟨r4, rfl, f4⟩, p4, k4⟩
    array_get_dec
    rw [show (1 : Int) + (r4 : Nat) = ((1 + r4 : Nat) : Int) by omega]
    refine (sp_recent (l := 1 + r4) (by omega) (by omega)).go ?_
    rintro _ M5 ⟨rfl, k5⟩
    array_get_dec
    refine (sp_queue (l := 1 + r4) (by omega) (by omega)).go ?_
    rintro _ M6 ⟨rfl, k6⟩
    array_get_dec
    rename_i n7 M7 e7 g7 k7 l7
    refine (sp_draw ((((p4.kp k5).kp k6).kp k7)) (by omega) (by omega)).go ?_
    rintro _ M8 ⟨⟨r8, rfl, f8⟩, p8, k8⟩
    refine wp_addI ?_
    rw [show (1 : Int) + (r8 : Nat) = ((1 + r8 : Nat) : Int) by omega]
    array_get_dec
    refine (sp_policyL (l := 1 + r4) (s := 1 + r8) p8 (by omega) (by omega) (by omega) (by omega)).go ?_
    rintro _ M9 ⟨⟨t, rfl, ht, htl, _⟩, p9, k9⟩
    array_get_dec
    refine wq_mulL (k := 4) (by bv_omega) (by simp) (by decide) ?_
    array_get_dec
    rename_i na Ma ea ga ka la nb Mb eb gb kb lb nc Mc ec gc kc lc
    have pl := h4.lt
    refine (sp_draw (((p9.kp ka).kp kb).kp kc) (by decide) (by decide)).go ?_
    rintro _ Md ⟨⟨r, rfl, fr⟩, pd, kd⟩
    have gd : Md[nc]? = some (.lst ([tabD (recT (1 + r4)), tabD (queueT (1 + r4))] ++ (List.replicate 4 [tabD t]).flatten)) := by bv_omega
    have pick : ∃ t', (OkT t' ∧ t'.l ≤ mo) ∧ atI ([tabD (recT (1 + r4)), tabD (queueT (1 + r4))] ++ (List.replicate 4 [tabD t]).flatten) (r : Nat) = some (tabD t') := by
      match r, fr with
      | 0, _ => exact ⟨_, ⟨rec_ok (by omega) (by omega), by show 1 + r4 ≤ mo; omega⟩, rfl⟩
      | 1, _ => exact ⟨_, ⟨queue_ok (by omega) (by omega), by show 1 + r4 ≤ mo; omega⟩, rfl⟩
      | 2, _ => exact ⟨_, ⟨ht, by omega⟩, rfl⟩
      | 3, _ => exact ⟨_, ⟨ht, by omega⟩, rfl⟩
      | 4, _ => exact ⟨_, ⟨ht, by omega⟩, rfl⟩
      | 5, _ => exact ⟨_, ⟨ht, by omega⟩, rfl⟩
      | n + 6, h => omega
    obtain ⟨t', ht', et⟩ := pick
    refine wp_ixL gd et ?_
    array_get_dec
    refine wq_append (by bv_omega) (size_lt (by simp; omega)) ?_
    array_get_dec
    rename_i Me ge ke le
    refine ⟨_, _, _, _, ts ++ [t'], rfl, by simp [h1], by rw [ge, List.map_append]; rfl, fun z hz => ?_, ?_, by array_mem_dec⟩
    · rcases List.mem_append.mp hz with hz | hz
      · exact h3 z hz
      · have : z = t' := by simpa using hz
        rw [this]; exact ht'
    · obtain ⟨a, b, c, hh⟩ := pd
      exact ⟨a, b, c, ke.at hh (by omega)⟩
  · rintro env M3 ⟨x5, x6, x7, x8, ts, rfl, h1, h2, h3, h4, h5⟩
    match ts, h1 with
    | [t, u], _ =>
    have h2 : M3[n2]? = some (.lst [tabD t, tabD u]) := h2
    have ht := h3 t (by simp)
    have hu := h3 u (by simp)
    array_get_dec
    by_cases hw : ((r1 : Nat) : Int) < 3
    · refine ki_of (c := true) (decide_eq_true hw) ?_
      array_get_dec
      exact ⟨⟨.one t, rfl, fun z hz => by simp [Dev.tabs] at hz; rw [hz]; exact ht.1, fun z hz => by simp [Dev.tabs] at hz; rw [hz]; exact ht.2⟩, h4, h5⟩
    · refine ki_of (c := false) (decide_eq_false hw) ?_
      have go : ∀ m : Mode, OkV (.two m t u) ∧ ∀ z ∈ (Dev.two m t u).tabs, z.l ≤ mo := fun m => ⟨fun z hz => (h3 z (by simpa [Dev.tabs] using hz)).1, fun z hz => (h3 z (by simpa [Dev.tabs] using hz)).2⟩
      match r1, f1, hw with
      | 0, _, hw => omega
      | 1, _, hw => omega
      | 2, _, hw => omega
      | 3, _, _ =>
        array_get_dec
        exact ⟨⟨.two .plain t u, rfl, go _⟩, by
          obtain ⟨a, b, c, hh⟩ := h4
          exact ⟨a, b, c, by bv_omega⟩, by array_mem_dec⟩
      | 4, _, _ =>
        array_get_dec
        exact ⟨⟨.two .incl t u, rfl, go _⟩, by
          obtain ⟨a, b, c, hh⟩ := h4
          exact ⟨a, b, c, by bv_omega⟩, by array_mem_dec⟩
      | 5, _, _ =>
        array_get_dec
        exact ⟨⟨.two .vict t u, rfl, go _⟩, by
          obtain ⟨a, b, c, hh⟩ := h4
          exact ⟨a, b, c, by bv_omega⟩, by array_mem_dec⟩
      | n + 6, h, _ => omega
theorem sp_device {p mo sn : Nat} {M : Mem} (h : Pool p M) (m1 : 1 ≤ mo) (m4 : mo ≤ 4) (s1 : 1 ≤ sn) (s9 : sn ≤ 60) : Wp (m__law_device [.loc p, .int (mo : Nat), .int (sn : Nat)] M) fun d M' => (∃ D, d = devD D ∧ OkV D) ∧ Pool p M' ∧ Kp (At p) M M' :=
  (sp_deviceL h m1 m4 s1 s9).go fun d M' ⟨⟨D, e, ok, _⟩, b, c⟩ => ⟨⟨D, e, ok⟩, b, c⟩
end L67

/-! text A5_67 -/
namespace L67
open PySem L2 PySem.Spec PyProof.Rows Zl
/-! ## the pure run of a device -/
abbrev Ln := List (Option Str)
abbrev St1 := Nat × Ln
def lnD : Option Str → Dv
  | none => .non
  | some x => .str x
def linesD (ls : Ln) : List Dv := ls.map lnD
def isIn (ls : Ln) (x : Str) : Bool := ls.contains (some x)
def idx (ls : Ln) (x : Str) : Nat := ls.idxOf (some x)
def rowOf (t : Tb) (st : Nat) : Row := t.rows.getD st ⟨0, 0, []⟩
def hitS (t : Tb) (s j : Nat) : Nat := (rowOf t s).hits.getD j 0
def goneS (t : Tb) (p : St1) : Option Str := p.2.getD (rowOf t p.1).v none
def touchS (t : Tb) (p : St1) (j : Nat) : St1 := (hitS t p.1 j, p.2)
def fillS (t : Tb) (p : St1) (x : Str) : St1 := ((rowOf t p.1).s, p.2.set (rowOf t p.1).v (some x))
def downS (m : Mode) (u : Tb) (p q : St1) (x : Str) (gone : Option Str) : List St1 := match m with
  | .vict => if isIn q.2 x then [p, (hitS u q.1 (idx q.2 x), q.2.set (idx q.2 x) gone)] else match gone with
    | some y => [p, fillS u q y]
    | none => [p, q]
  | .plain => if isIn q.2 x then [p, touchS u q (idx q.2 x)] else [p, fillS u q x]
  | .incl => if isIn q.2 x then [p, touchS u q (idx q.2 x)] else match goneS u q with
    | some y => if isIn p.2 y then [(p.1, p.2.set (idx p.2 y) none), fillS u q x] else [p, fillS u q x]
    | none => [p, fillS u q x]
def askS (D : Dev) (st : List St1) (x : Str) : List St1 := match D, st with
  | .one t, [p] => if isIn p.2 x then [touchS t p (idx p.2 x)] else [fillS t p x]
  | .two m t u, [p, q] => if isIn p.2 x then [touchS t p (idx p.2 x), q] else downS m u (fillS t p x) q x (goneS t p)
  | _, st => st
def heldS (st : List St1) (x : Str) : Bool := st.any fun p => isIn p.2 x
def runS (D : Dev) : List St1 → List Str → List Bool
  | _, [] => []
  | p, x :: xs => heldS p x :: runS D (askS D p x) xs
def endS (D : Dev) : List St1 → List Str → List St1
  | p, [] => p
  | p, x :: xs => endS D (askS D p x) xs
def startP (t : Tb) : St1 := (0, List.replicate t.l none)
def startS (D : Dev) : List St1 := D.tabs.map startP
theorem runS_snoc {D : Dev} {x : Str} : ∀ {xs : List Str} {p : List St1}, runS D p (xs ++ [x]) = runS D p xs ++ [heldS (endS D p xs) x]
  | [], _ => rfl
  | y :: ys, p => by
    rw [List.cons_append]
    unfold runS endS
    rw [runS_snoc]; rfl
theorem endS_snoc {D : Dev} {x : Str} : ∀ {xs : List Str} {p : List St1}, endS D p (xs ++ [x]) = askS D (endS D p xs) x
  | [], _ => rfl
  | y :: ys, p => by
    rw [List.cons_append]
    unfold endS
    rw [endS_snoc]
theorem runS_len {D : Dev} : ∀ {xs : List Str} {p : List St1}, (runS D p xs).length = xs.length
  | [], _ => rfl
  | y :: ys, p => by unfold runS; rw [List.length_cons, List.length_cons, runS_len]
theorem runS_take {D : Dev} : ∀ {xs : List Str} {p : List St1} {c : Nat}, runS D p (xs.take c) = (runS D p xs).take c
  | [], _, c => by simp [runS]
  | y :: ys, p, 0 => by simp [runS]
  | y :: ys, p, c + 1 => by
    rw [List.take_succ_cons]
    unfold runS
    rw [runS_take, List.take_succ_cons]
/-- a level that fits its table -/
def OkP (t : Tb) (p : St1) : Prop := p.1 < t.rows.length ∧ p.2.length = t.l
inductive Fits : List Tb → List St1 → Prop
  | nil : Fits [] []
  | cons {t : Tb} {p : St1} {ts : List Tb} {ps : List St1} : OkP t p → Fits ts ps → Fits (t :: ts) (p :: ps)
def OkSt (D : Dev) (st : List St1) : Prop := Fits D.tabs st
theorem Fits.len : ∀ {ts : List Tb} {ps : List St1}, Fits ts ps → ps.length = ts.length
  | _, _, .nil => rfl
  | _, _, .cons _ r => by rw [List.length_cons, List.length_cons, r.len]
theorem Fits.get : ∀ {ts : List Tb} {ps : List St1} {i : Nat} {p : St1}, Fits ts ps → ps[i]? = some p → ∃ t, ts[i]? = some t ∧ OkP t p
  | _, _, _, _, .nil, e => by simp at e
  | _, _, 0, _, .cons h _, e => by simp at e; subst e; exact ⟨_, rfl, h⟩
  | _, _, i + 1, p, .cons _ r, e => by
    obtain ⟨t, h1, h2⟩ := Fits.get (i := i) (p := p) r (by simpa using e)
    exact ⟨t, by simpa using h1, h2⟩
theorem row_get {t : Tb} {st : Nat} (h : st < t.rows.length) : t.rows[st]? = some (rowOf t st) := by
  unfold rowOf
  rw [List.getD_eq_getElem?_getD, List.getElem?_eq_getElem h]; rfl
theorem row_ok {t : Tb} (h : OkT t) {st : Nat} (hs : st < t.rows.length) : OkR t.l t.rows.length (rowOf t st) := h.ok _ (List.mem_of_getElem? (row_get hs))
theorem hit_lt {t : Tb} (h : OkT t) {s : Nat} (hs : s < t.rows.length) {j : Nat} (hj : j < t.l) : hitS t s j < t.rows.length := by
  obtain ⟨_, _, r3, r4⟩ := row_ok h hs
  unfold hitS
  rw [List.getD_eq_getElem?_getD, List.getElem?_eq_getElem (by omega)]
  exact r4 _ (List.getElem_mem _)
theorem idx_lt {ls : Ln} {x : Str} (h : isIn ls x = true) : idx ls x < ls.length := by
  unfold isIn at h
  exact List.idxOf_lt_length_of_mem (by simpa using h)
theorem touch_ok {t : Tb} (h : OkT t) {p : St1} (hp : OkP t p) {j : Nat} (hj : j < t.l) : OkP t (touchS t p j) := ⟨hit_lt h hp.1 hj, hp.2⟩
theorem fill_ok {t : Tb} (h : OkT t) {p : St1} (hp : OkP t p) {x : Str} : OkP t (fillS t p x) := ⟨(row_ok h hp.1).2.1, by simp [fillS, hp.2]⟩
theorem down_ok {m : Mode} {t u : Tb} {p q : St1} {x : Str} {g : Option Str} (hu : OkT u) (hp : OkP t p) (hq : OkP u q) : Fits [t, u] (downS m u p q x g) := by
  cases m <;> simp only [downS] <;> split
  all_goals first
    | exact .cons hp (.cons (touch_ok hu hq (by have := idx_lt (by assumption); rw [← hq.2]; exact this)) .nil)
    | exact .cons hp (.cons (fill_ok hu hq) .nil)
    | skip
  · split
    · split
      · exact .cons ⟨hp.1, by simp [hp.2]⟩ (.cons (fill_ok hu hq) .nil)
      · exact .cons hp (.cons (fill_ok hu hq) .nil)
    · exact .cons hp (.cons (fill_ok hu hq) .nil)
  · exact .cons hp (.cons ⟨hit_lt hu hq.1 (by rw [← hq.2]; exact idx_lt (by assumption)), by simp [hq.2]⟩ .nil)
  · split
    · exact .cons hp (.cons (fill_ok hu hq) .nil)
    · exact .cons hp (.cons hq .nil)
theorem ask_ok {D : Dev} (h : OkV D) {st : List St1} (hs : OkSt D st) (x : Str) : OkSt D (askS D st x) := by
  cases D with
  | one t =>
    cases hs with
    | cons hp r =>
      cases r
      have ht : OkT t := h t (by simp [Dev.tabs])
      unfold askS
      simp only
      split
      · exact .cons (touch_ok ht hp (by rw [← hp.2]; exact idx_lt (by assumption))) .nil
      · exact .cons (fill_ok ht hp) .nil
  | two m t u =>
    cases hs with
    | cons hp r =>
      cases r with
      | cons hq r =>
        cases r
        have ht : OkT t := h t (by simp [Dev.tabs])
        have hu : OkT u := h u (by simp [Dev.tabs])
        unfold askS
        simp only
        split
        · exact .cons (touch_ok ht hp (by rw [← hp.2]; exact idx_lt (by assumption))) (.cons hq .nil)
        · exact down_ok hu (fill_ok ht hp) hq
theorem end_ok {D : Dev} (h : OkV D) : ∀ {xs : List Str} {st : List St1}, OkSt D st → OkSt D (endS D st xs)
  | [], _, hs => hs
  | x :: xs, _, hs => by
    unfold endS
    exact end_ok h (ask_ok h hs x)
theorem startP_ok {t : Tb} (h : OkT t) : OkP t (startP t) := ⟨h.r1, by simp [startP]⟩
theorem start_ok {D : Dev} (h : OkV D) : OkSt D (startS D) := by
  cases D with
  | one t => exact .cons (startP_ok (h t (by simp [Dev.tabs]))) .nil
  | two m t u => exact .cons (startP_ok (h t (by simp [Dev.tabs]))) (.cons (startP_ok (h u (by simp [Dev.tabs]))) .nil)
/-! lines as data -/
theorem lines_flat (ls : Ln) : (linesD ls).all flatD = true := by
  simp only [linesD, List.all_map, List.all_eq_true]
  intro o _
  cases o <;> rfl
theorem eq_ln {o : Option Str} {x : Str} : eqF (lnD o) (.str x) = (o == some x) := by
  cases o with
  | none => rfl
  | some y => show (y == x) = _; rw [Option.some_beq_some]
theorem any_lines {ls : Ln} {x : Str} : ((linesD ls).any fun y => eqF y (.str x)) = isIn ls x := by
  unfold isIn linesD
  rw [List.any_map, List.contains_eq_any_beq]
  congr 1
  funext o
  show eqF (lnD o) (.str x) = _
  rw [eq_ln, BEq.comm]
theorem idxB_lines {x : Str} : ∀ {ls : Ln}, isIn ls x = true → idxB (fun y => eqF y (.str x)) (linesD ls) = some (idx ls x)
  | [], h => by simp [isIn] at h
  | o :: ls, h => by
    unfold linesD
    rw [List.map_cons]
    unfold idxB
    rw [eq_ln]
    unfold idx
    rw [List.idxOf_cons]
    by_cases e : (o == some x) = true
    · rw [if_pos e, e]; rfl
    · have e' : (o == some x) = false := (Bool.not_eq_true _).mp e
      rw [if_neg e, e']
      have h2 : isIn ls x = true := by
        unfold isIn at h ⊢
        rw [List.contains_cons] at h
        rw [BEq.comm, e', Bool.false_or] at h; exact h
      have := idxB_lines (ls := ls) h2
      unfold linesD idx at this
      rw [this]; rfl
theorem wp_inLn {b : Bool} {n : Nat} {x : Str} {ls : Ln} {M : Mem} {q : QE} (h : M[n]? = some (.lst (linesD ls))) (k : q (.bl (xor b (isIn ls x))) M) : Wp (inE b (.str x) (.loc n) M) q :=
  wp_inL h rfl (lines_flat ls) (by rw [any_lines]; exact k)
theorem wp_indexLn {n : Nat} {x : Str} {ls : Ln} {M : Mem} {q : QE} (h : M[n]? = some (.lst (linesD ls))) (hx : isIn ls x = true) (k : q (.int (idx ls x : Nat)) M) : Wp (indexD (.loc n) [.str x] M) q :=
  wp_indexL h rfl (lines_flat ls) (idxB_lines hx) k
theorem lines_get {ls : Ln} {i : Nat} (h : i < ls.length) : (linesD ls)[i]? = some (lnD (ls.getD i none)) := by
  unfold linesD
  rw [List.getElem?_map, List.getD_eq_getElem?_getD, List.getElem?_eq_getElem h]; rfl
theorem lines_set {ls : Ln} {i : Nat} {o : Option Str} : (linesD ls).set i (lnD o) = linesD (ls.set i o) := by
  unfold linesD; rw [List.map_set]
theorem rep_non {k : Nat} : (List.replicate k [Dv.non]).flatten = linesD (List.replicate k none) := by
  induction k with
  | zero => rfl
  | succ k ih => rw [List.replicate_succ, List.flatten_cons, ih]; rfl
end L67

/-! text A6_67 -/
namespace L67
open PySem L2 PySem.Spec PyProof.Rows Zl
/-! ## the program's box -/
def boxF (D : Dev) (s r : Nat) : List (Str × Dv) := [("mode", .str D.mode), ("policies", .tup (D.tabs.map tabD)), ("stages", .loc s), ("rows", .loc r)]
def stagesD (st : List St1) : List Dv := st.map fun p => .int (p.1 : Nat)
structure BoxAt (D : Dev) (b s r : Nat) (ls : List Nat) (st : List St1) (M : Mem) : Prop where
  hb : M[b]? = some (.ins 0 (boxF D s r))
  hs : M[s]? = some (.lst (stagesD st))
  hr : M[r]? = some (.lst (ls.map Dv.loc))
  hl : ∀ (i l : Nat) p, ls[i]? = some l → st[i]? = some p → M[l]? = some (.lst (linesD p.2))
  nd : ls.Nodup
  bs : b ≠ s
  br : b ≠ r
  sr : s ≠ r
  bl : b ∉ ls
  sl : s ∉ ls
  rl : r ∉ ls
abbrev BW (s : Nat) (ls : List Nat) : Nat → Prop := fun n => n = s ∨ n ∈ ls
section
variable {D : Dev} {b s r i l j : Nat} {ls : List Nat} {st : List St1} {p : St1} {t : Tb} {M : Mem} {x : Str}
theorem BoxAt.kp {M' : Mem} {W : Nat → Prop} (h : BoxAt D b s r ls st M) (k : Kp W M M') (wb : ¬ W b) (ws : ¬ W s) (wr : ¬ W r) (wl : ∀ l ∈ ls, ¬ W l) : BoxAt D b s r ls st M' :=
  ⟨k.at h.hb wb, k.at h.hs ws, k.at h.hr wr, fun i l p h1 h2 => k.at (h.hl i l p h1 h2) (wl l (List.mem_of_getElem? h1)), h.nd, h.bs, h.br, h.sr, h.bl, h.sl, h.rl⟩
theorem BoxAt.kpN {M' : Mem} (h : BoxAt D b s r ls st M) (k : Kp NoW M M') : BoxAt D b s r ls st M' := h.kp k id id id fun _ _ => id
theorem BoxAt.putS {n : Nat} (h : BoxAt D b s r ls st M) (hp : st[i]? = some p) : BoxAt D b s r ls (st.set i (n, p.2)) (M.set s (.lst ((stagesD st).set i (.int (n : Nat))))) := by
  refine ⟨at_set_ne h.hb h.bs.symm, ?_, at_set_ne h.hr h.sr, fun i' l' p' h1 h2 => ?_, h.nd, h.bs, h.br, h.sr, h.bl, h.sl, h.rl⟩
  · rw [at_set h.hs]; unfold stagesD; rw [List.map_set]
  · have ne : s ≠ l' := fun e => h.sl (e ▸ List.mem_of_getElem? h1)
    refine at_set_ne ?_ ne
    by_cases e : i = i'
    · subst e
      rw [List.getElem?_set_self (List.getElem?_eq_some_iff.mp hp).1] at h2
      cases h2
      exact h.hl i l' p h1 hp
    · rw [List.getElem?_set_ne e] at h2
      exact h.hl i' l' p' h1 h2
theorem BoxAt.putL {ns : Ln} (h : BoxAt D b s r ls st M) (hl : ls[i]? = some l) (hp : st[i]? = some p) : BoxAt D b s r ls (st.set i (p.1, ns)) (M.set l (.lst (linesD ns))) := by
  have hm := List.mem_of_getElem? hl
  refine ⟨at_set_ne h.hb fun e => h.bl (e ▸ hm), ?_, at_set_ne h.hr fun e => h.rl (e ▸ hm), fun i' l' p' h1 h2 => ?_, h.nd, h.bs, h.br, h.sr, h.bl, h.sl, h.rl⟩
  · rw [at_set_ne h.hs fun e => h.sl (e ▸ hm)]
    unfold stagesD
    rw [List.map_set]
    congr 2
    refine (List.ext_getElem? fun m => ?_).symm
    by_cases e : i = m
    · subst e
      rw [List.getElem?_set_self (by simpa using (List.getElem?_eq_some_iff.mp hp).1), List.getElem?_map, hp]; rfl
    · rw [List.getElem?_set_ne e]
  · by_cases e : i = i'
    · subst e
      rw [hl] at h1; cases h1
      rw [List.getElem?_set_self (List.getElem?_eq_some_iff.mp hp).1] at h2
      cases h2
      exact at_set (h.hl i l p hl hp)
    · rw [List.getElem?_set_ne e] at h2
      refine at_set_ne (h.hl i' l' p' h1 h2) fun z => e ?_
      subst z
      obtain ⟨i1, e1⟩ := List.getElem?_eq_some_iff.mp hl
      obtain ⟨i2, e2⟩ := List.getElem?_eq_some_iff.mp h1
      exact (List.getElem_inj h.nd).mp (e1.trans e2.symm)
theorem sp_told (h : BoxAt D b s r ls st M) (ht : D.tabs[i]? = some t) (hp : st[i]? = some p) (ok : OkP t p) : Wp (m_Box_told [.loc b, .int (i : Nat)] M) fun d M' => d = rowD (rowOf t p.1) ∧ M' = M := by
  have hb := h.hb
  have hs := h.hs
  have e1 : (D.tabs.map tabD)[i]? = some (.tup [.int (t.l : Nat), .tup (t.rows.map rowD)]) := by rw [List.getElem?_map, ht]; rfl
  have e2 : (stagesD st)[i]? = some (.int (p.1 : Nat)) := by unfold stagesD; rw [List.getElem?_map, hp]; rfl
  have e3 : (t.rows.map rowD)[p.1]? = some (rowD (rowOf t p.1)) := by rw [List.getElem?_map, row_get ok.1]; rfl
  refine wp_fn rfl [some (.loc b), some (.int (i : Nat))] rfl ?_
  unfold b_Box_told
  unfold boxF at hb
  array_get_dec
  exact ⟨rfl, rfl⟩
theorem sp_touch (h : BoxAt D b s r ls st M) (ht : D.tabs[i]? = some t) (hp : st[i]? = some p) (hT : OkT t) (ok : OkP t p) (hj : j < t.l) :
    Wp (m_Box_touch [.loc b, .int (i : Nat), .int (j : Nat)] M) fun _ M' => BoxAt D b s r ls (st.set i (touchS t p j)) M' ∧ Kp (BW s ls) M M' := by
  have hb := h.hb
  have hs := h.hs
  obtain ⟨r1, r2, r3, r4⟩ := row_ok hT ok.1
  have e1 : (intsN (rowOf t p.1).hits)[j]? = some (.int (hitS t p.1 j : Nat)) := by
    unfold intsN hitS
    rw [List.getElem?_map, List.getD_eq_getElem?_getD, List.getElem?_eq_getElem (by omega)]; rfl
  have e2 : ixN (stagesD st).length (i : Nat) = some i := ixN_n (by simpa [stagesD] using (List.getElem?_eq_some_iff.mp hp).1)
  refine wp_fn rfl [some (.loc b), some (.int (i : Nat)), some (.int (j : Nat))] rfl ?_
  unfold b_Box_touch
  unfold boxF at hb
  array_get_dec
  refine (sp_told h ht hp ok).go ?_
  rintro _ M1 ⟨rfl, rfl⟩
  unfold rowD
  array_get_dec
  refine k_set hs e2 ?_
  array_get_dec
  exact ⟨h.putS hp, .set fun _ => .inl rfl⟩
theorem sp_fill (h : BoxAt D b s r ls st M) (ht : D.tabs[i]? = some t) (hp : st[i]? = some p) (hl : ls[i]? = some l) (hT : OkT t) (ok : OkP t p) :
    Wp (m_Box_fill [.loc b, .int (i : Nat), .str x] M) fun d M' => d = lnD (goneS t p) ∧ BoxAt D b s r ls (st.set i (fillS t p x)) M' ∧ Kp (BW s ls) M M' := by
  have hb := h.hb
  have hs := h.hs
  have hr := h.hr
  have hll := h.hl i l p hl hp
  obtain ⟨r1, r2, r3, r4⟩ := row_ok hT ok.1
  have hv : (rowOf t p.1).v < p.2.length := by rw [ok.2]; exact r1
  have e1 : (ls.map Dv.loc)[i]? = some (.loc l) := by rw [List.getElem?_map, hl]; rfl
  have e3 := lines_get hv
  have h2 := h.putL (ns := p.2.set (rowOf t p.1).v (some x)) hl hp
  have hp2 : (st.set i (p.1, p.2.set (rowOf t p.1).v (some x)))[i]? = some (p.1, p.2.set (rowOf t p.1).v (some x)) := List.getElem?_set_self (List.getElem?_eq_some_iff.mp hp).1
  have e2 : ixN (stagesD (st.set i (p.1, p.2.set (rowOf t p.1).v (some x)))).length (i : Nat) = some i := ixN_n (by simpa [stagesD] using (List.getElem?_eq_some_iff.mp hp).1)
  refine wp_fn rfl [some (.loc b), some (.int (i : Nat)), some (.str x), none, none, none, none] rfl ?_
  unfold b_Box_fill
  unfold boxF at hb
  array_get_dec
  refine (sp_told h ht hp ok).go ?_
  rintro _ M1 ⟨rfl, rfl⟩
  unfold rowD
  array_get_dec
  refine k_setN hll (by simpa [linesD] using hv) ?_
  rw [show (Dv.str x) = lnD (some x) from rfl, lines_set]
  have hb2 := h2.hb
  have hs2 := h2.hs
  have kk : Kp (BW s ls) M1 (M1.set l (.lst (linesD (p.2.set (rowOf t p.1).v (some x))))) := .set fun _ => .inr (List.mem_of_getElem? hl)
  generalize M1.set l (.lst (linesD (p.2.set (rowOf t p.1).v (some x)))) = M2 at *
  unfold boxF at hb2
  array_get_dec
  refine k_set hs2 e2 ?_
  array_get_dec
  refine ⟨rfl, ?_, kk.tr (.set fun _ => .inl rfl)⟩
  have := h2.putS (n := (rowOf t p.1).s) hp2
  rw [List.set_set] at this
  exact this
theorem bls_map : ∀ bs : List Bool, blsD (bs.map Dv.bl) = some bs
  | [] => rfl
  | b :: bs => by
    rw [List.map_cons]
    unfold blsD
    rw [bls_map bs]
theorem wp_anyL {n : Nat} {bs : List Bool} {M : Mem} {q : QE} (hm : M[n]? = some (.lst (bs.map Dv.bl))) (k : q (.bl (bs.any id)) M) : Wp (anyD [.loc n] M) q := wp_any hm (bls_map bs) k
theorem sp_holds (h : BoxAt D b s r ls st M) (hlen : ls.length = st.length) (h2 : ls.length ≤ 2) : Wp (m_Box_holds [.loc b, .str x] M) fun d M' => d = .bl (heldS st x) ∧ Kp NoW M M' := by
  have hb := h.hb
  have hr := h.hr
  refine wp_fn rfl [some (.loc b), some (.str x), none] rfl ?_
  unfold b_Box_holds
  array_get_dec
  refine wq_map (fun y => match y with
    | .loc l => match M[l]? with
      | some (.lst ys) => .bl (ys.any fun y => eqF y (.str x))
      | _ => .non
    | _ => .non) ?_
  array_get_dec
  refine k_mapL hr (size_le (by simp; omega)) ?_ ?_
  · intro y hy M1 k1
    obtain ⟨l, hl, rfl⟩ := List.mem_map.mp hy
    obtain ⟨i, hi⟩ := List.getElem?_of_mem hl
    have hi2 : i < st.length := by rw [← hlen]; exact (List.getElem?_eq_some_iff.mp hi).1
    have hll := h.hl i l _ hi (List.getElem?_eq_getElem hi2)
    array_get_dec
    refine wp_inLn (k1.at hll id) ?_
    refine ⟨?_, .refl⟩
    simp only [hll, any_lines, Bool.false_xor]
  · intro n M1 e1 l1 k1 g1
    have e : (ls.map Dv.loc).map (fun y => match y with
      | .loc l => match M[l]? with
        | some (.lst ys) => .bl (ys.any fun y => eqF y (.str x))
        | _ => .non
      | _ => .non) = (st.map fun p => isIn p.2 x).map Dv.bl := by
      refine List.ext_getElem? fun i => ?_
      rw [List.map_map, List.map_map, List.getElem?_map, List.getElem?_map]
      by_cases hi : i < ls.length
      · have hi2 : i < st.length := by rw [← hlen]; exact hi
        have hll := h.hl i _ _ (List.getElem?_eq_getElem hi) (List.getElem?_eq_getElem hi2)
        rw [List.getElem?_eq_getElem hi, List.getElem?_eq_getElem hi2]
        simp only [Option.map_some, Function.comp, hll, any_lines]
      · rw [List.getElem?_eq_none (by omega), List.getElem?_eq_none (by omega)]; rfl
    rw [e] at g1
    array_get_dec
    refine wp_anyL g1 ?_
    array_get_dec
    refine ⟨?_, k1⟩
    unfold heldS
    rw [List.any_map]; rfl
theorem lnD_is {o : Option Str} : isNon (lnD o) = o.isNone := by cases o <;> rfl
/-- the way down, for two levels -/
theorem sp_down {m : Mode} {t u : Tb} {l0 l1 : Nat} {p q : St1} {g : Option Str} (h : BoxAt (.two m t u) b s r [l0, l1] [p, q] M) (ht : OkT t) (hu : OkT u) (hp : OkP t p) (hq : OkP u q) :
    Wp (m_Box_go_down [.loc b, .str x, lnD g] M) fun _ M' => BoxAt (.two m t u) b s r [l0, l1] (downS m u p q x g) M' ∧ Kp (BW s [l0, l1]) M M' := by
  have hb := h.hb
  have hr : M[r]? = some (.lst [.loc l0, .loc l1]) := h.hr
  have hl0 := h.hl 0 l0 p rfl rfl
  have hl1 := h.hl 1 l1 q rfl rfl
  refine wp_fn rfl [some (.loc b), some (.str x), some (lnD g), none, none, none, none] rfl ?_
  unfold b_Box_go_down
  array_get_dec
  cases m with
  | vict =>
    refine ki_of (c := true) (by ac_nf0) ?_
    array_get_dec
    refine wp_inLn hl1 ?_
    array_get_dec
    rw [Bool.false_xor]
    cases hx : isIn q.2 x with
    | true =>
      array_get_dec
      refine wp_or1 ?_
      array_get_dec
      refine wp_indexLn hl1 hx ?_
      have hi := idx_lt hx
      array_get_dec
      refine k_setN hl1 (by simpa [linesD] using hi) ?_
      rw [lines_set]
      have h2 := h.putL (i := 1) (ns := q.2.set (idx q.2 x) g) rfl rfl
      have kk : Kp (BW s [l0, l1]) M (M.set l1 (.lst (linesD (q.2.set (idx q.2 x) g)))) := .set fun _ => .inr (by simp)
      generalize M.set l1 (.lst (linesD (q.2.set (idx q.2 x) g))) = M2 at *
      have hb2 := h2.hb
      array_get_dec
      refine (sp_touch (i := 1) (t := u) (p := (q.1, q.2.set (idx q.2 x) g)) (j := idx q.2 x) h2 rfl rfl hu ⟨hq.1, by simp [hq.2]⟩ (by rw [← hq.2]; exact hi)).go ?_
      rintro _ M3 ⟨h3, k3⟩
      array_get_dec
      refine ⟨?_, kk.tr k3⟩
      unfold downS
      rw [if_pos hx]
      exact h3
    | false =>
      array_get_dec
      cases g with
      | none =>
        refine wp_ev (a := .bl false) rfl ?_
        array_get_dec
        refine ⟨?_, .refl⟩
        simp only [downS, hx]
        exact h
      | some y =>
        refine wp_ev (a := .bl true) rfl ?_
        array_get_dec
        refine (sp_fill (i := 1) (t := u) (p := q) (l := l1) (x := y) h rfl rfl rfl hu hq).go ?_
        rintro _ M3 ⟨_, h3, k3⟩
        array_get_dec
        refine ⟨?_, k3⟩
        simp only [downS, hx]
        exact h3
  | plain =>
    refine ki_of (c := false) (by ac_nf0) ?_
    array_get_dec
    refine wp_inLn hl1 ?_
    array_get_dec
    rw [Bool.false_xor]
    cases hx : isIn q.2 x with
    | true =>
      have hi := idx_lt hx
      array_get_dec
      refine wp_or1 ?_
      array_get_dec
      refine wp_indexLn hl1 hx ?_
      array_get_dec
      refine (sp_touch (i := 1) (t := u) (p := q) (j := idx q.2 x) h rfl rfl hu hq (by rw [← hq.2]; exact hi)).go ?_
      rintro _ M3 ⟨h3, k3⟩
      array_get_dec
      refine ⟨?_, k3⟩
      simp only [downS, hx, if_true]
      exact h3
    | false =>
      array_get_dec
      refine (sp_fill (i := 1) (t := u) (p := q) (l := l1) (x := x) h rfl rfl rfl hu hq).go ?_
      rintro _ M3 ⟨rfl, h3, k3⟩
      have hb3 := h3.hb
      array_get_dec
      refine ki_of (c := false) (by ac_nf0) ?_
      array_get_dec
      refine ⟨?_, k3⟩
      simp only [downS, hx]
      exact h3
  | incl =>
    refine ki_of (c := false) (by ac_nf0) ?_
    array_get_dec
    refine wp_inLn hl1 ?_
    array_get_dec
    rw [Bool.false_xor]
    cases hx : isIn q.2 x with
    | true =>
      have hi := idx_lt hx
      array_get_dec
      refine wp_or1 ?_
      array_get_dec
      refine wp_indexLn hl1 hx ?_
      array_get_dec
      refine (sp_touch (i := 1) (t := u) (p := q) (j := idx q.2 x) h rfl rfl hu hq (by rw [← hq.2]; exact hi)).go ?_
      rintro _ M3 ⟨h3, k3⟩
      array_get_dec
      refine ⟨?_, k3⟩
      simp only [downS, hx, if_true]
      exact h3
    | false =>
      array_get_dec
      refine (sp_fill (i := 1) (t := u) (p := q) (l := l1) (x := x) h rfl rfl rfl hu hq).go ?_
      rintro _ M3 ⟨rfl, h3, k3⟩
      have hb3 := h3.hb
      have hl3 := h3.hl 0 l0 p rfl rfl
      array_get_dec
      refine ki_of (c := true) (by ac_nf0) ?_
      array_get_dec
      cases hg : goneS u q with
      | none =>
        refine wp_ev (a := .bl false) rfl ?_
        array_get_dec
        refine ⟨?_, k3⟩
        simp only [downS, hx, hg]
        exact h3
      | some y =>
        refine wp_ev (a := .bl true) rfl ?_
        array_get_dec
        refine wp_inLn hl3 ?_
        rw [Bool.false_xor]
        cases hy : isIn p.2 y with
        | false =>
          array_get_dec
          refine ⟨?_, k3⟩
          simp only [downS, hx, hg, hy]
          exact h3
        | true =>
          have hi := idx_lt hy
          array_get_dec
          refine wp_or1 ?_
          array_get_dec
          refine wp_indexLn hl3 hy ?_
          array_get_dec
          refine k_setN hl3 (by simpa [linesD] using hi) ?_
          rw [show Dv.non = lnD none from rfl, lines_set]
          array_get_dec
          refine ⟨?_, k3.tr (.set fun _ => .inr (by simp))⟩
          simp only [downS, hx, hg, hy, if_true]
          exact h3.putL (i := 0) (p := p) rfl rfl
end
end L67

/-! text A7_67 -/
namespace L67
open PySem L2 PySem.Spec PyProof.Rows Zl
/-- a box of a device, wherever it stands -/
structure BoxIs (D : Dev) (b s r : Nat) (ls : List Nat) (st : List St1) (M : Mem) : Prop where
  at_ : BoxAt D b s r ls st M
  len : ls.length = st.length
  ok : OkSt D st
section
variable {D : Dev} {b s r : Nat} {ls : List Nat} {st : List St1} {M : Mem} {x : Str}
theorem BoxIs.le2 (h : BoxIs D b s r ls st M) : ls.length ≤ 2 := by
  rw [h.len, h.ok.len]
  cases D <;> simp [Dev.tabs]
theorem BoxIs.kpN {M' : Mem} (h : BoxIs D b s r ls st M) (k : Kp NoW M M') : BoxIs D b s r ls st M' := ⟨h.at_.kpN k, h.len, h.ok⟩
theorem BoxIs.lt (h : BoxIs D b s r ls st M) : b < M.length ∧ s < M.length ∧ r < M.length ∧ ∀ l ∈ ls, l < M.length := by
  refine ⟨lt_of h.at_.hb, lt_of h.at_.hs, lt_of h.at_.hr, fun l hl => ?_⟩
  obtain ⟨i, hi⟩ := List.getElem?_of_mem hl
  have hi2 : i < st.length := by rw [← h.len]; exact (List.getElem?_eq_some_iff.mp hi).1
  exact lt_of (h.at_.hl i l _ hi (List.getElem?_eq_getElem hi2))
theorem sp_ask (hD : OkV D) (h : BoxIs D b s r ls st M) :
    Wp (m_Box_ask [.loc b, .str x] M) fun d M' => d = .bl (heldS st x) ∧ BoxIs D b s r ls (askS D st x) M' ∧ Kp (BW s ls) M M' := by
  obtain ⟨h0, hlen, hok⟩ := h
  have h2 : ls.length ≤ 2 := BoxIs.le2 ⟨h0, hlen, hok⟩
  have hb := h0.hb
  refine wp_fn rfl [some (.loc b), some (.str x), none, none] rfl ?_
  unfold b_Box_ask
  array_get_dec
  refine (sp_holds h0 hlen h2).go ?_
  rintro _ M1 ⟨rfl, k1⟩
  have h1 := h0.kpN k1
  have hb1 := h1.hb
  cases D with
  | one t =>
    have ht : OkT t := hD t (by simp [Dev.tabs])
    match st, ls, hlen, hok, h1 with
    | [p], [l0], _, .cons hp .nil, h1 =>
    have hr1 : M1[r]? = some (.lst [.loc l0]) := h1.hr
    have hl1 := h1.hl 0 l0 p rfl rfl
    array_get_dec
    refine wp_inLn hl1 ?_
    array_get_dec
    rw [Bool.false_xor]
    cases hx : isIn p.2 x with
    | true =>
      have hi := idx_lt hx
      array_get_dec
      refine wp_or1 ?_
      array_get_dec
      refine wp_indexLn hl1 hx ?_
      array_get_dec
      refine (sp_touch (i := 0) (t := t) (p := p) (j := idx p.2 x) h1 rfl rfl ht hp (by rw [← hp.2]; exact hi)).go ?_
      rintro _ M3 ⟨h3, k3⟩
      array_get_dec
      refine ⟨rfl, ⟨?_, ?_, ?_⟩, (Kp.refl.trN k1).tr k3⟩
      · simp only [askS, hx, if_true]; exact h3
      · simp only [askS, hx, if_true]; rfl
      · exact ask_ok hD (.cons hp .nil) x
    | false =>
      array_get_dec
      refine (sp_fill (i := 0) (t := t) (p := p) (l := l0) (x := x) h1 rfl rfl rfl ht hp).go ?_
      rintro _ M3 ⟨rfl, h3, k3⟩
      have hb3 := h3.hb
      have hr3 : M3[r]? = some (.lst [.loc l0]) := h3.hr
      array_get_dec
      refine ki_of (c := false) (by ac_nf0) ?_
      array_get_dec
      refine ⟨rfl, ⟨?_, ?_, ?_⟩, (Kp.refl.trN k1).tr k3⟩
      · simp only [askS, hx]; exact h3
      · simp only [askS, hx]; rfl
      · exact ask_ok hD (.cons hp .nil) x
  | two m t u =>
    have ht : OkT t := hD t (by simp [Dev.tabs])
    have hu : OkT u := hD u (by simp [Dev.tabs])
    match st, ls, hlen, hok, h1 with
    | [p, q], [l0, l1], _, .cons hp (.cons hq .nil), h1 =>
    have hr1 : M1[r]? = some (.lst [.loc l0, .loc l1]) := h1.hr
    have hl1 := h1.hl 0 l0 p rfl rfl
    array_get_dec
    refine wp_inLn hl1 ?_
    array_get_dec
    rw [Bool.false_xor]
    cases hx : isIn p.2 x with
    | true =>
      have hi := idx_lt hx
      array_get_dec
      refine wp_or1 ?_
      array_get_dec
      refine wp_indexLn hl1 hx ?_
      array_get_dec
      refine (sp_touch (i := 0) (t := t) (p := p) (j := idx p.2 x) h1 rfl rfl ht hp (by rw [← hp.2]; exact hi)).go ?_
      rintro _ M3 ⟨h3, k3⟩
      array_get_dec
      refine ⟨rfl, ⟨?_, ?_, ?_⟩, (Kp.refl.trN k1).tr k3⟩
      · simp only [askS, hx, if_true]; exact h3
      · simp only [askS, hx, if_true]; rfl
      · exact ask_ok hD (.cons hp (.cons hq .nil)) x
    | false =>
      array_get_dec
      refine (sp_fill (i := 0) (t := t) (p := p) (l := l0) (x := x) h1 rfl rfl rfl ht hp).go ?_
      rintro _ M3 ⟨rfl, h3, k3⟩
      have hb3 := h3.hb
      have hr3 : M3[r]? = some (.lst [.loc l0, .loc l1]) := h3.hr
      array_get_dec
      refine ki_of (c := true) (by ac_nf0) ?_
      array_get_dec
      refine (sp_down (x := x) (g := goneS t p) (p := fillS t p x) (q := q) h3 ht hu (fill_ok ht hp) hq).go ?_
      rintro _ M4 ⟨h4, k4⟩
      array_get_dec
      refine ⟨rfl, ⟨?_, ?_, ?_⟩, ((Kp.refl.trN k1).tr k3).tr k4⟩
      · simp only [askS, hx]; exact h4
      · simp only [askS, hx]
        have := (down_ok (m := m) (x := x) (g := goneS t p) hu (fill_ok ht hp (x := x)) hq).len
        simpa using this.symm
      · exact ask_ok hD (.cons hp (.cons hq .nil)) x
theorem sp_init (hb : M[b]? = some (.ins 0 [])) (hD : OkV D) :
    Wp (m_Box_init [.loc b, devD D] M) (kNon fun M' => (∃ s r ls, BoxIs D b s r ls (startS D) M' ∧ M.length ≤ s ∧ M.length ≤ r ∧ ∀ l ∈ ls, M.length ≤ l) ∧ Kp (At b) M M') := by
  have hbl := lt_of hb
  have hcut : Zl.cutD (Dv.str D.mode :: D.tabs.map tabD) (some 1) none = D.tabs.map tabD := by
    unfold Zl.cutD
    simp [HT.sIx]
    exact List.take_of_length_le (by simp)
  have tl : D.tabs.length ≤ 2 := by cases D <;> simp [Dev.tabs]
  have stg : ∀ ts : List Tb, (List.replicate ts.length [Dv.int 0]).flatten = stagesD (ts.map startP) := by
    intro ts
    induction ts with
    | nil => rfl
    | cons t ts ih => rw [List.length_cons, List.replicate_succ, List.flatten_cons, ih]; rfl
  refine wp_fn rfl [some (.loc b), some (.tup (.str D.mode :: D.tabs.map tabD)), none] rfl ?_
  unfold b_Box_init
  array_get_dec
  refine wp_ixT (atI_n (j := 0) rfl) ?_
  array_get_dec
  rename_i M1 b1 k1 l1 M2 b2 k2 l2 n3 M3 e3 g3 k3 l3
  rw [hcut] at b2 ⊢
  refine wq_mulL g3 (by decide) (by simp; omega) ?_
  array_get_dec
  rename_i n4 M4 e4 g4 k4 l4 M5 b5 k5' l5'
  rw [show (List.map tabD D.tabs).length = D.tabs.length by simp, stg] at g4
  have g5 : M5[n4]? = some (.lst (stagesD (D.tabs.map startP))) := by bv_omega
  have k5 : Kp (At b) M M5 := by array_mem_dec
  have l5 : M5.length = n4 + 1 := by omega
  refine wp_lcI (fun c i acc M' => M'[c]? = some (.lst acc) ∧ c = n4 + 1 ∧ ∃ ls : List Nat, acc = ls.map Dv.loc ∧ ls.length = i ∧ (∀ (j l : Nat), ls[j]? = some l → ∃ t, D.tabs[j]? = some t ∧ M'[l]? = some (.lst (linesD (startP t).2))) ∧ ls.Nodup ∧ (∀ l ∈ ls, c < l) ∧ Kp NoW M5 M') ?_
  array_get_dec
  refine ⟨fun i acc M' hh => hh.1, ⟨at_new, by omega, [], rfl, rfl, fun j l h => by simp at h, List.nodup_nil, fun l h => by simp at h, .app _⟩, ?_, ?_⟩
  · rintro i acc M' hi ⟨c1, c2, ls, rfl, c3, c4, c5, c6, c7⟩
    have hi' : i < D.tabs.length := by simpa using hi
    have hz : (D.tabs.map tabD)[i]? = some (tabD D.tabs[i]) := by simp [hi']
    have hT := hD _ (List.getElem_mem hi')
    have t4 := hT.l4
    refine ⟨tabD D.tabs[i], by show some _ = _; rw [hz], ?_⟩
    unfold tabD
    array_get_dec
    refine wq_mulL (by bv_omega) (by decide) (by omega) ?_
    array_get_dec
    rename_i n6 M6 e6 g6 k6 l6 n7 M7 e7 g7 k7 l7
    rw [rep_non] at g7
    have z := lt_of c1
    have cc : M7[M5.length]? = some (.lst (ls.map Dv.loc)) := by bv_omega
    have ol : ∀ l ∈ ls, l < M'.length := fun l hl => by
      obtain ⟨j, hj⟩ := List.getElem?_of_mem hl
      obtain ⟨t, _, h2⟩ := c4 j l hj
      exact lt_of h2
    refine ⟨_, cc, size_lt (by simp; omega), at_set cc, c2, ls ++ [n7], by simp, by simp [c3], ?_, ?_, ?_, by array_mem_dec⟩
    · intro j l hj
      by_cases e : j < ls.length
      · rw [List.getElem?_append_left e] at hj
        obtain ⟨t, h1, h2⟩ := c4 j l hj
        have := c6 l (List.mem_of_getElem? hj)
        exact ⟨t, h1, at_set_ne (k7.at (k6.at h2 id) id) (by omega)⟩
      · have ej : j = ls.length := by
          have := (List.getElem?_eq_some_iff.mp hj).1
          simp at this; omega
        subst ej
        rw [List.getElem?_append_right (Nat.le_refl _)] at hj
        simp at hj
        subst hj
        exact ⟨D.tabs[i], by rw [c3]; exact List.getElem?_eq_getElem hi', at_set_ne g7 (by omega)⟩
    · rw [List.nodup_append]
      refine ⟨c5, by simp, fun a ha b hb e => ?_⟩
      have := ol a ha
      have : b = n7 := by simpa using hb
      omega
    · intro l hl
      rcases List.mem_append.mp hl with hl | hl
      · exact c6 l hl
      · have : l = n7 := by simpa using hl
        omega
  · rintro acc M' ⟨c1, c2, ls, rfl, c3, c4, c5, c6, c7⟩
    have c3' : ls.length = D.tabs.length := by rw [c3]; simp
    refine ⟨by show some _ = _; simp, ?_⟩
    have q1 := c7.at b5 id
    have q2 := c7.at g5 id
    array_get_dec
    rename_i M6 b6 k6 l6
    have hlb : ∀ l ∈ ls, b ≠ l := fun l hl => by have := c6 l hl; omega
    refine ⟨⟨n4, M5.length, ls, ⟨⟨b6, by bv_omega, by bv_omega, fun i l p h1 h2 => ?_, c5, by omega, by omega, by omega, fun e => hlb b e rfl, fun e => ?_, fun e => ?_⟩, ?_, start_ok hD⟩, by omega, by omega, fun l hl => ?_⟩, by array_mem_dec⟩
    · obtain ⟨t, h3, h4⟩ := c4 i l h1
      have e : p = startP t := by
        unfold startS at h2
        rw [List.getElem?_map, h3] at h2
        simpa using h2.symm
      rw [e]
      have := hlb l (List.mem_of_getElem? h1)
      bv_omega
    · have := c6 _ e; omega
    · have := c6 _ e; omega
    · simp [startS, c3']
    · have := c6 l hl; omega
/-- the answers of a device -/
def blsOf (bs : List Bool) : List Dv := bs.map .bl
def missB (bs : List Bool) : Nat := bs.countP fun b => !b
theorem flat_bls (bs : List Bool) : (blsOf bs).all flatD = true := by simp [blsOf, flatD]
theorem count_bls : ∀ bs : List Bool, (blsOf bs).countP (fun y => eqF y (.bl false)) = missB bs
  | [] => rfl
  | b :: bs => by
    have := count_bls bs
    unfold blsOf missB at this ⊢
    rw [List.map_cons, List.countP_cons, List.countP_cons, this]
    cases b <;> rfl
theorem wp_count {bs : List Bool} {M : Mem} {q : QE} (k : q (.int (missB bs : Nat)) M) : Wp (tcountD (.tup (blsOf bs)) [.bl false] M) q := by
  refine wp_ev ?_ k
  unfold tcountD
  simp only [flat_bls, flatD, Bool.and_self, if_true, count_bls]
end
end L67

/-! text C1_67 -/
namespace L67
open PySem L2 PySem.Spec PyProof.Rows Zl
/-! ## the law's own box: [[states], [[lines], ..]] -/
structure LAt (w s r : Nat) (ls : List Nat) (st : List St1) (M : Mem) : Prop where
  hw : M[w]? = some (.lst [.loc s, .loc r])
  hs : M[s]? = some (.lst (stagesD st))
  hr : M[r]? = some (.lst (ls.map Dv.loc))
  hl : ∀ (i l : Nat) p, ls[i]? = some l → st[i]? = some p → M[l]? = some (.lst (linesD p.2))
  nd : ls.Nodup
  ws : w ≠ s
  wr : w ≠ r
  sr : s ≠ r
  wl : w ∉ ls
  sl : s ∉ ls
  rl : r ∉ ls
  len : ls.length = st.length
section
variable {D : Dev} {w s r i l j : Nat} {ls : List Nat} {st : List St1} {p : St1} {t : Tb} {M : Mem} {x : Str}
theorem LAt.kp {M' : Mem} {W : Nat → Prop} (h : LAt w s r ls st M) (k : Kp W M M') (wb : ¬ W w) (ws : ¬ W s) (wr : ¬ W r) (wl : ∀ l ∈ ls, ¬ W l) : LAt w s r ls st M' :=
  ⟨k.at h.hw wb, k.at h.hs ws, k.at h.hr wr, fun i l p h1 h2 => k.at (h.hl i l p h1 h2) (wl l (List.mem_of_getElem? h1)), h.nd, h.ws, h.wr, h.sr, h.wl, h.sl, h.rl, h.len⟩
theorem LAt.kpN {M' : Mem} (h : LAt w s r ls st M) (k : Kp NoW M M') : LAt w s r ls st M' := h.kp k id id id fun _ _ => id
theorem LAt.lt (h : LAt w s r ls st M) : w < M.length ∧ s < M.length ∧ r < M.length ∧ ∀ l ∈ ls, l < M.length := by
  refine ⟨lt_of h.hw, lt_of h.hs, lt_of h.hr, fun l hl => ?_⟩
  obtain ⟨i, hi⟩ := List.getElem?_of_mem hl
  have hi2 : i < st.length := by rw [← h.len]; exact (List.getElem?_eq_some_iff.mp hi).1
  exact lt_of (h.hl i l _ hi (List.getElem?_eq_getElem hi2))
theorem LAt.putS {n : Nat} (h : LAt w s r ls st M) (hp : st[i]? = some p) : LAt w s r ls (st.set i (n, p.2)) (M.set s (.lst ((stagesD st).set i (.int (n : Nat))))) := by
  refine ⟨at_set_ne h.hw h.ws.symm, ?_, at_set_ne h.hr h.sr, fun i' l' p' h1 h2 => ?_, h.nd, h.ws, h.wr, h.sr, h.wl, h.sl, h.rl, by simp [h.len]⟩
  · rw [at_set h.hs]; unfold stagesD; rw [List.map_set]
  · have ne : s ≠ l' := fun e => h.sl (e ▸ List.mem_of_getElem? h1)
    refine at_set_ne ?_ ne
    by_cases e : i = i'
    · subst e
      rw [List.getElem?_set_self (List.getElem?_eq_some_iff.mp hp).1] at h2
      cases h2
      exact h.hl i l' p h1 hp
    · rw [List.getElem?_set_ne e] at h2
      exact h.hl i' l' p' h1 h2
theorem LAt.putSO {n : Nat} {M' : Mem} (h : LAt w s r ls st M) (hp : st[i]? = some p) (g : M'[s]? = some (.lst ((stagesD st).set i (.int (n : Nat))))) (k : Kp (fun m => m = s) M M') : LAt w s r ls (st.set i (n, p.2)) M' := by
  have h1 := h.putS (n := n) hp
  refine ⟨k.at h.hw h.ws, ?_, k.at h.hr h.sr.symm, fun i' l' p' q1 q2 => ?_, h1.nd, h.ws, h.wr, h.sr, h.wl, h.sl, h.rl, h1.len⟩
  · rw [g]; unfold stagesD; rw [List.map_set]
  · have ne : s ≠ l' := fun e => h.sl (e ▸ List.mem_of_getElem? q1)
    have := h1.hl i' l' p' q1 q2
    rw [List.getElem?_set_ne ne] at this
    exact k.at this (fun e => ne e.symm)
theorem LAt.putL {ns : Ln} (h : LAt w s r ls st M) (hl : ls[i]? = some l) (hp : st[i]? = some p) : LAt w s r ls (st.set i (p.1, ns)) (M.set l (.lst (linesD ns))) := by
  have hm := List.mem_of_getElem? hl
  refine ⟨at_set_ne h.hw fun e => h.wl (e ▸ hm), ?_, at_set_ne h.hr fun e => h.rl (e ▸ hm), fun i' l' p' h1 h2 => ?_, h.nd, h.ws, h.wr, h.sr, h.wl, h.sl, h.rl, by simp [h.len]⟩
  · rw [at_set_ne h.hs fun e => h.sl (e ▸ hm)]
    unfold stagesD
    rw [List.map_set]
    congr 2
    refine (List.ext_getElem? fun m => ?_).symm
    by_cases e : i = m
    · subst e
      rw [List.getElem?_set_self (by simpa using (List.getElem?_eq_some_iff.mp hp).1), List.getElem?_map, hp]; rfl
    · rw [List.getElem?_set_ne e]
  · by_cases e : i = i'
    · subst e
      rw [hl] at h1; cases h1
      rw [List.getElem?_set_self (List.getElem?_eq_some_iff.mp hp).1] at h2
      cases h2
      exact at_set (h.hl i l p hl hp)
    · rw [List.getElem?_set_ne e] at h2
      refine at_set_ne (h.hl i' l' p' h1 h2) fun z => e ?_
      subst z
      obtain ⟨i1, e1⟩ := List.getElem?_eq_some_iff.mp hl
      obtain ⟨i2, e2⟩ := List.getElem?_eq_some_iff.mp h1
      exact (List.getElem_inj h.nd).mp (e1.trans e2.symm)
/-- one level asked: hit, what is gone, the level behind it -/
def goS (t : Tb) (p : St1) (x : Str) : Bool × Option Str × St1 := if isIn p.2 x then (true, none, touchS t p (idx p.2 x)) else (false, goneS t p, fillS t p x)
theorem sp_go (h : LAt w s r ls st M) (hp : st[i]? = some p) (hl : ls[i]? = some l) (hT : OkT t) (ok : OkP t p) :
    Wp (m__law_go [tabD t, .loc w, .int (i : Nat), .str x] M) fun d M' => (∃ n, d = .loc n ∧ M.length ≤ n ∧ M'[n]? = some (.lst [.bl (goS t p x).1, lnD (goS t p x).2.1])) ∧ LAt w s r ls (st.set i (goS t p x).2.2) M' ∧ Kp (BW s ls) M M' := by
  have hw := h.hw
  have hs := h.hs
  have hr := h.hr
  have hll := h.hl i l p hl hp
  obtain ⟨r1, r2, r3, r4⟩ := row_ok hT ok.1
  have hv : (rowOf t p.1).v < p.2.length := by rw [ok.2]; exact r1
  have e1 : (stagesD st)[i]? = some (.int (p.1 : Nat)) := by unfold stagesD; rw [List.getElem?_map, hp]; rfl
  have e2 : (t.rows.map rowD)[p.1]? = some (.tup [.int ((rowOf t p.1).v : Nat), .int ((rowOf t p.1).s : Nat), .tup (intsN (rowOf t p.1).hits)]) := by rw [List.getElem?_map, row_get ok.1]; rfl
  have e3 : (ls.map Dv.loc)[i]? = some (.loc l) := by rw [List.getElem?_map, hl]; rfl
  have e4 := lines_get hv
  have hsl : s ≠ l := fun e => h.sl (e ▸ List.mem_of_getElem? hl)
  refine wp_fn rfl [some (.tup [.int (t.l : Nat), .tup (t.rows.map rowD)]), some (.loc w), some (.int (i : Nat)), some (.str x), none, none, none] rfl ?_
  unfold b__law_go
  array_get_dec
  refine wp_inLn hll ?_
  array_get_dec
  rw [Bool.false_xor]
  cases hx : isIn p.2 x with
  | true =>
    have hi := idx_lt hx
    have e5 : (intsN (rowOf t p.1).hits)[idx p.2 x]? = some (.int (hitS t p.1 (idx p.2 x) : Nat)) := by
      have : idx p.2 x < t.l := by rw [← ok.2]; exact hi
      unfold intsN hitS
      rw [List.getElem?_map, List.getD_eq_getElem?_getD, List.getElem?_eq_getElem (by omega)]; rfl
    have e6 : ixN (stagesD st).length (i : Nat) = some i := ixN_n (by simpa [stagesD] using (List.getElem?_eq_some_iff.mp hp).1)
    array_get_dec
    refine wp_or1 ?_
    array_get_dec
    refine wp_indexLn hll hx ?_
    array_get_dec
    refine k_set hs e6 ?_
    have h2 := h.putS (n := hitS t p.1 (idx p.2 x)) hp
    have kk : Kp (BW s ls) M (M.set s (.lst ((stagesD st).set i (.int (hitS t p.1 (idx p.2 x) : Nat))))) := .set fun _ => .inl rfl
    generalize M.set s (.lst ((stagesD st).set i (.int (hitS t p.1 (idx p.2 x) : Nat)))) = M2 at *
    array_get_dec
    rename_i n3 M3 f3 g3 k3 l3
    unfold goS
    rw [if_pos hx]
    exact ⟨⟨n3, rfl, by have := kk.1; omega, g3⟩, h2.kpN k3, kk.trN k3⟩
  | false =>
    array_get_dec
    refine k_setN hll (by simpa [linesD] using hv) ?_
    rw [show (Dv.str x) = lnD (some x) from rfl, lines_set]
    have h2 := h.putL (ns := p.2.set (rowOf t p.1).v (some x)) hl hp
    have hp2 : (st.set i (p.1, p.2.set (rowOf t p.1).v (some x)))[i]? = some (p.1, p.2.set (rowOf t p.1).v (some x)) := List.getElem?_set_self (List.getElem?_eq_some_iff.mp hp).1
    have e6 : ixN (stagesD (st.set i (p.1, p.2.set (rowOf t p.1).v (some x)))).length (i : Nat) = some i := ixN_n (by simpa [stagesD] using (List.getElem?_eq_some_iff.mp hp).1)
    have kk : Kp (BW s ls) M (M.set l (.lst (linesD (p.2.set (rowOf t p.1).v (some x))))) := .set fun _ => .inr (List.mem_of_getElem? hl)
    generalize M.set l (.lst (linesD (p.2.set (rowOf t p.1).v (some x)))) = M2 at *
    have hw2 := h2.hw
    have hs2 := h2.hs
    array_get_dec
    refine k_set hs2 e6 ?_
    have h3 := h2.putS (n := (rowOf t p.1).s) hp2
    rw [List.set_set] at h3
    have k3 : Kp (BW s ls) M2 (M2.set s (.lst ((stagesD (st.set i (p.1, p.2.set (rowOf t p.1).v (some x)))).set i (.int ((rowOf t p.1).s : Nat))))) := .set fun _ => .inl rfl
    generalize M2.set s (.lst ((stagesD (st.set i (p.1, p.2.set (rowOf t p.1).v (some x)))).set i (.int ((rowOf t p.1).s : Nat)))) = M3 at *
    array_get_dec
    rename_i n4 M4 f4 g4 k4 l4
    unfold goS
    rw [if_neg (by rw [hx]; decide)]
    exact ⟨⟨n4, rfl, by have := kk.1; have := k3.1; omega, g4⟩, h3.kpN k4, (kk.tr k3).trN k4⟩
end
end L67

/-! text C2_67 -/
namespace L67
open PySem L2 PySem.Spec PyProof.Rows Zl
/-! ## victim devices hold no name twice -/
def Uq (ls : Ln) : Prop := ∀ (i j : Nat) (y : Str), ls[i]? = some (some y) → ls[j]? = some (some y) → i = j
def Sep (a b : Ln) : Prop := ∀ y : Str, some y ∈ a → some y ∉ b
def InvV (D : Dev) (st : List St1) : Prop := match D, st with
  | .two .vict _ _, [p, q] => Uq p.2 ∧ Uq q.2 ∧ Sep p.2 q.2
  | _, _ => True
theorem isIn_iff {ls : Ln} {x : Str} : isIn ls x = true ↔ some x ∈ ls := by unfold isIn; simp
theorem isIn_not {ls : Ln} {x : Str} : isIn ls x = false ↔ some x ∉ ls := by rw [← isIn_iff]; simp
theorem Uq.set {ls : Ln} {i : Nat} {o : Option Str} (h : Uq ls) (ho : ∀ y, o = some y → some y ∉ ls) : Uq (ls.set i o) := by
  intro a b y ha hb
  rw [List.getElem?_set] at ha hb
  by_cases e1 : i = a
  · by_cases e2 : i = b
    · omega
    · rw [if_neg e2] at hb
      rw [if_pos e1] at ha
      split at ha
      · cases ha
        exact absurd (List.mem_of_getElem? hb) (ho y rfl)
      · cases ha
  · rw [if_neg e1] at ha
    by_cases e2 : i = b
    · rw [if_pos e2] at hb
      split at hb
      · cases hb
        exact absurd (List.mem_of_getElem? ha) (ho y rfl)
      · cases hb
    · rw [if_neg e2] at hb
      exact h a b y ha hb
theorem mem_set_some {ls : Ln} {i : Nat} {o : Option Str} {y : Str} (h : some y ∈ ls.set i o) : o = some y ∨ ∃ j, j ≠ i ∧ ls[j]? = some (some y) := by
  obtain ⟨j, hj⟩ := List.getElem?_of_mem h
  rw [List.getElem?_set] at hj
  by_cases e : i = j
  · rw [if_pos e] at hj
    split at hj
    · cases hj; exact .inl rfl
    · cases hj
  · rw [if_neg e] at hj
    exact .inr ⟨j, Ne.symm e, hj⟩
theorem gone_mem {t : Tb} {p : St1} {y : Str} (h : goneS t p = some y) : p.2[(rowOf t p.1).v]? = some (some y) := by
  unfold goneS at h
  rw [List.getD_eq_getElem?_getD] at h
  cases e : p.2[(rowOf t p.1).v]? with
  | none => rw [e] at h; cases h
  | some o => rw [e] at h; simp at h; rw [h]
theorem idx_get {ls : Ln} {x : Str} (h : isIn ls x = true) : ls[idx ls x]? = some (some x) := by
  have hi := idx_lt h
  rw [List.getElem?_eq_getElem hi]
  exact congrArg some (List.getElem_idxOf hi)
theorem inv_ask {D : Dev} {st : List St1} (h : InvV D st) (x : Str) : InvV D (askS D st x) := by
  match D, st, h with
  | .one _, _, _ => exact trivial
  | .two .plain _ _, _, _ => exact trivial
  | .two .incl _ _, _, _ => exact trivial
  | .two .vict t u, [], _ => exact trivial
  | .two .vict t u, [_], _ => exact trivial
  | .two .vict t u, (_ :: _ :: _ :: _), _ => exact trivial
  | .two .vict t u, [p, q], ⟨h1, h2, h3⟩ =>
  unfold askS
  simp only
  split
  · exact ⟨h1, h2, h3⟩
  · rename_i hx
    have hx : some x ∉ p.2 := fun e => hx (isIn_iff.mpr e)
    have u1 : Uq (fillS t p x).2 := h1.set fun y e => by cases e; exact hx
    unfold downS
    simp only
    split
    · rename_i hq
      refine ⟨u1, h2.set fun y e => h3 y (List.mem_of_getElem? (gone_mem e)), fun y ha hb => ?_⟩
      rcases mem_set_some ha with ea | ⟨a, na, ea⟩
      · cases ea
        rcases mem_set_some hb with eb | ⟨b, nb, eb⟩
        · exact hx (List.mem_of_getElem? (gone_mem eb))
        · exact nb (h2 b _ x eb (idx_get hq))
      · rcases mem_set_some hb with eb | ⟨b, nb, eb⟩
        · exact na (h1 a _ y ea (gone_mem eb))
        · exact h3 y (List.mem_of_getElem? ea) (List.mem_of_getElem? eb)
    · rename_i hq
      have hq : some x ∉ q.2 := fun e => hq (isIn_iff.mpr e)
      split
      · rename_i z hg
        refine ⟨u1, h2.set fun y e => by cases e; exact h3 z (List.mem_of_getElem? (gone_mem hg)), fun y ha hb => ?_⟩
        rcases mem_set_some ha with ea | ⟨a, na, ea⟩
        · cases ea
          rcases mem_set_some hb with eb | ⟨b, nb, eb⟩
          · cases eb; exact hx (List.mem_of_getElem? (gone_mem hg))
          · exact hq (List.mem_of_getElem? eb)
        · rcases mem_set_some hb with eb | ⟨b, nb, eb⟩
          · cases eb; exact na (h1 a _ z ea (gone_mem hg))
          · exact h3 y (List.mem_of_getElem? ea) (List.mem_of_getElem? eb)
      · refine ⟨u1, h2, fun y ha hb => ?_⟩
        rcases mem_set_some ha with ea | ⟨a, na, ea⟩
        · cases ea; exact hq hb
        · exact h3 y (List.mem_of_getElem? ea) hb
theorem inv_end {D : Dev} : ∀ {xs : List Str} {st : List St1}, InvV D st → InvV D (endS D st xs)
  | [], _, h => h
  | x :: xs, _, h => by
    unfold endS
    exact inv_end (inv_ask h x)
theorem rep_not {k : Nat} {y : Str} {i : Nat} : (List.replicate k (none : Option Str))[i]? ≠ some (some y) := by
  rw [List.getElem?_replicate]
  split <;> simp
theorem inv_start {D : Dev} : InvV D (startS D) := by
  rcases D with t | ⟨m, t, u⟩
  · exact trivial
  · cases m with
    | plain => exact trivial
    | incl => exact trivial
    | vict =>
      refine ⟨fun i j y h => absurd h rep_not, fun i j y h => absurd h rep_not, fun y h => ?_⟩
      obtain ⟨j, hj⟩ := List.getElem?_of_mem h
      exact absurd hj rep_not
section
variable {D : Dev} {w s r i l j : Nat} {ls : List Nat} {st : List St1} {p : St1} {t : Tb} {M : Mem} {x : Str}
/-- [who in lines for lines in rows] -/
theorem held_map {ls : List Nat} {st : List St1} {M : Mem} (hlen : ls.length = st.length) (hl : ∀ (i l : Nat) p, ls[i]? = some l → st[i]? = some p → M[l]? = some (.lst (linesD p.2))) :
    (ls.map Dv.loc).map (fun y => match y with
      | .loc l => match M[l]? with
        | some (.lst ys) => .bl (ys.any fun y => eqF y (.str x))
        | _ => .non
      | _ => .non) = (st.map fun p => isIn p.2 x).map Dv.bl := by
  refine List.ext_getElem? fun i => ?_
  rw [List.map_map, List.map_map, List.getElem?_map, List.getElem?_map]
  by_cases hi : i < ls.length
  · have hi2 : i < st.length := by rw [← hlen]; exact hi
    have hll := hl i _ _ (List.getElem?_eq_getElem hi) (List.getElem?_eq_getElem hi2)
    rw [List.getElem?_eq_getElem hi, List.getElem?_eq_getElem hi2]
    simp only [Option.map_some, Function.comp, hll, any_lines]
  · rw [List.getElem?_eq_none (by omega), List.getElem?_eq_none (by omega)]; rfl
theorem wp_heldL {env : En} {fi : FI} {v a : Nat} {vs : List Nat} {q : QE} (h2 : ls.length ≤ 2) (hlen : ls.length = st.length) (hl : ∀ (i l : Nat) p, ls[i]? = some l → st[i]? = some p → M[l]? = some (.lst (linesD p.2)))
    (hx : ∀ y, ((wipeE env vs).set v (some y))[a]? = some (some (.str x))) (hv : ∀ y, ((wipeE env vs).set v (some y))[v]? = some (some y))
    (hi : Wp (fi env M) fun src M1 => ∃ r, M1 = M ∧ src = ⟨ls.length, stpL r⟩ ∧ M[r]? = some (.lst (ls.map Dv.loc)))
    (hq : ∀ M1, Kp NoW M M1 → q (.bl (heldS st x)) M1) : Wp (fC anyD (fCons (fComp fi vs (gN v) fYes (fO (inE false) (fV a) (fV v))) fNil) env M) q := by
  refine wp_c (wp_cons ?_)
  refine wq_map (fun y => match y with
    | .loc l => match M[l]? with
      | some (.lst ys) => .bl (ys.any fun y => eqF y (.str x))
      | _ => .non
    | _ => .non) (hi.go ?_)
  rintro src M1 ⟨r, rfl, rfl, hr⟩
  have e : ls.length = (ls.map Dv.loc).length := by simp
  rw [e]
  refine k_mapL hr (size_le (by simp; omega)) ?_ ?_
  · intro y hy M2 k2
    obtain ⟨l, hl', rfl⟩ := List.mem_map.mp hy
    obtain ⟨i, hi⟩ := List.getElem?_of_mem hl'
    have hi2 : i < st.length := by rw [← hlen]; exact (List.getElem?_eq_some_iff.mp hi).1
    have hll := hl i l _ hi (List.getElem?_eq_getElem hi2)
    refine wp_op (wp_var (hx _) (wp_var (hv _) ?_))
    refine wp_inLn (k2.at hll id) ?_
    refine ⟨?_, .refl⟩
    simp only [hll, any_lines, Bool.false_xor]
  · intro n M2 e1 l1 k1 g1
    rw [held_map hlen hl] at g1
    refine wp_nil (wp_anyL g1 ?_)
    have : ((st.map fun p => isIn p.2 x).any id) = heldS st x := by unfold heldS; rw [List.any_map]; rfl
    rw [this]
    exact hq M2 k1
theorem go_plain {t : Tb} {p : St1} : (goS t p x).2.2 = if isIn p.2 x then touchS t p (idx p.2 x) else fillS t p x := by
  unfold goS; split <;> rfl
theorem sp_askL (hD : OkV D) (h : LAt w s r ls st M) (hok : OkSt D st) (hv : InvV D st) :
    Wp (m__law_ask [devD D, .loc w, .str x] M) fun d M' => d = .bl (heldS st x) ∧ LAt w s r ls (askS D st x) M' ∧ Kp (BW s ls) M M' := by
  have h2 : ls.length ≤ 2 := by rw [h.len, hok.len]; cases D <;> simp [Dev.tabs]
  have hw := h.hw
  have hr := h.hr
  rcases D with t | ⟨m, t, u⟩
  · have ht : OkT t := hD t (by simp [Dev.tabs])
    match st, ls, h.len, hok, h with
    | [p], [l0], _, .cons hp .nil, h =>
    refine wp_fn rfl [some (.tup [.str "cache", tabD t]), some (.loc w), some (.str x), none, none, none, none, none, none, none] rfl ?_
    unfold b__law_ask
    refine wp_seq (wp_set (wp_heldL (st := [p]) (ls := [l0]) (x := x) (by simp) rfl h.hl (fun _ => rfl) (fun _ => rfl) ?_ fun M1 k1 => ?_))
    · array_get_dec
      exact ⟨r, rfl, rfl, hr⟩
    have h1 := h.kpN k1
    array_get_dec
    refine (sp_go (i := 0) (x := x) (t := t) h1 rfl rfl ht hp).go ?_
    rintro _ M2 ⟨⟨n, rfl, en, gn⟩, b2, k2⟩
    array_get_dec
    have fin : askS (.one t) [p] x = [(goS t p x).2.2] := by
      unfold askS
      rw [go_plain]
      simp only
      split <;> rfl
    cases hx : (goS t p x).1 with
    | true =>
      array_get_dec
      rw [fin]
      exact ⟨rfl, b2, (Kp.refl.trN k1).tr k2⟩
    | false =>
      array_get_dec
      refine ki_of (c := true) (by ac_nf0) ?_
      array_get_dec
      rw [fin]
      exact ⟨rfl, b2, (Kp.refl.trN k1).tr k2⟩
  · have ht : OkT t := hD t (by simp [Dev.tabs])
    have hu : OkT u := hD u (by simp [Dev.tabs])
    match st, ls, h.len, hok, h with
    | [p, q], [l0, l1], _, .cons hp (.cons hq .nil), h =>
    refine wp_fn rfl [some (.tup [.str m.s, tabD t, tabD u]), some (.loc w), some (.str x), none, none, none, none, none, none, none] rfl ?_
    unfold b__law_ask
    refine wp_seq (wp_set (wp_heldL (st := [p, q]) (ls := [l0, l1]) (x := x) (by simp) rfl h.hl (fun _ => rfl) (fun _ => rfl) ?_ fun M1 k1 => ?_))
    · array_get_dec
      exact ⟨r, rfl, rfl, hr⟩
    have h1 := h.kpN k1
    array_get_dec
    refine (sp_go (i := 0) (x := x) (t := t) h1 rfl rfl ht hp).go ?_
    rintro _ M2 ⟨⟨n, rfl, en, gn⟩, b2, k2⟩
    have k02 : Kp (BW s [l0, l1]) M M2 := (Kp.refl.trN k1).tr k2
    array_get_dec
    cases hx : isIn p.2 x with
    | true =>
      have e : goS t p x = (true, none, touchS t p (idx p.2 x)) := by unfold goS; rw [if_pos hx]
      rw [e] at b2 ⊢
      array_get_dec
      refine ⟨rfl, ?_, k02⟩
      simp only [askS, hx, if_true]
      exact b2
    | false =>
      have e : goS t p x = (false, goneS t p, fillS t p x) := by unfold goS; rw [if_neg (by rw [hx]; decide)]
      have b2 : LAt w s r [l0, l1] [fillS t p x, q] M2 := by rw [e] at b2; exact b2
      rw [e]
      have hp1 := fill_ok (x := x) ht hp
      have hw2 := b2.hw
      have hr2 : M2[r]? = some (.lst [.loc l0, .loc l1]) := b2.hr
      have hs2 : M2[s]? = some (.lst [.int ((fillS t p x).1 : Nat), .int (q.1 : Nat)]) := b2.hs
      have hl2 := b2.hl 1 l1 q rfl rfl
      have ask : askS (.two m t u) [p, q] x = downS m u (fillS t p x) q x (goneS t p) := by simp only [askS, hx]; rfl
      rw [ask]
      array_get_dec
      refine ki_of (c := false) (by ac_nf0) ?_
      array_get_dec
      cases m with
      | plain =>
        refine ki_of (c := true) (by ac_nf0) ?_
        array_get_dec
        refine (sp_go (i := 1) (x := x) (t := u) b2 rfl rfl hu hq).go ?_
        rintro _ M3 ⟨⟨n3, rfl, en3, gn3⟩, b3, k3⟩
        array_get_dec
        refine ki_of (c := false) (by ac_nf0) ?_
        array_get_dec
        refine ⟨rfl, ?_, k02.tr k3⟩
        rw [go_plain] at b3
        simp only [downS]
        split <;> rename_i hz <;> simp only [hz] at b3 <;> exact b3
      | incl =>
        refine ki_of (c := true) (by ac_nf0) ?_
        array_get_dec
        refine (sp_go (i := 1) (x := x) (t := u) b2 rfl rfl hu hq).go ?_
        rintro _ M3 ⟨⟨n3, rfl, en3, gn3⟩, b3, k3⟩
        array_get_dec
        refine ki_of (c := true) (by ac_nf0) ?_
        array_get_dec
        cases hz : isIn q.2 x with
        | true =>
          have e : goS u q x = (true, none, touchS u q (idx q.2 x)) := by unfold goS; rw [if_pos hz]
          rw [e] at b3 ⊢
          refine wp_ev (a := .bl false) rfl ?_
          array_get_dec
          refine ⟨rfl, ?_, k02.tr k3⟩
          simp only [downS, hz, if_true]
          exact b3
        | false =>
          have e : goS u q x = (false, goneS u q, fillS u q x) := by unfold goS; rw [if_neg (by rw [hz]; decide)]
          have b3 : LAt w s r [l0, l1] [fillS t p x, fillS u q x] M3 := by rw [e] at b3; exact b3
          rw [e]
          have hw3 := b3.hw
          have hr3 : M3[r]? = some (.lst [.loc l0, .loc l1]) := b3.hr
          have hl3 := b3.hl 0 l0 _ rfl rfl
          cases hg : goneS u q with
          | none =>
            refine wp_ev (a := .bl false) rfl ?_
            array_get_dec
            refine ⟨rfl, ?_, k02.tr k3⟩
            simp only [downS, hz, hg]
            exact b3
          | some y =>
            refine wp_ev (a := .bl true) rfl ?_
            array_get_dec
            refine wp_inLn hl3 ?_
            rw [Bool.false_xor]
            cases hy : isIn (fillS t p x).2 y with
            | false =>
              array_get_dec
              refine ⟨rfl, ?_, k02.tr k3⟩
              simp only [downS, hz, hg, hy]
              exact b3
            | true =>
              have hi := idx_lt hy
              array_get_dec
              refine wp_or1 ?_
              array_get_dec
              refine wp_indexLn hl3 hy ?_
              refine k_setN hl3 (by simpa [linesD] using hi) ?_
              rw [show Dv.non = lnD none from rfl, lines_set]
              have b4 := b3.putL (i := 0) (ns := (fillS t p x).2.set (idx (fillS t p x).2 y) none) rfl rfl
              array_get_dec
              refine ⟨rfl, ?_, (k02.tr k3).tr (.set fun _ => .inr (by simp))⟩
              simp only [downS, hz, hg, hy, if_true]
              exact b4
      | vict =>
        refine ki_of (c := false) (by ac_nf0) ?_
        array_get_dec
        refine wp_inLn hl2 ?_
        array_get_dec
        rw [Bool.false_xor]
        cases hz : isIn q.2 x with
        | true =>
          have hi := idx_lt hz
          have hil : idx q.2 x < u.l := by rw [← hq.2]; exact hi
          obtain ⟨r1, r2, r3, r4⟩ := row_ok hu hq.1
          have e2 : (u.rows.map rowD)[q.1]? = some (.tup [.int ((rowOf u q.1).v : Nat), .int ((rowOf u q.1).s : Nat), .tup (intsN (rowOf u q.1).hits)]) := by rw [List.getElem?_map, row_get hq.1]; rfl
          have e5 : (intsN (rowOf u q.1).hits)[idx q.2 x]? = some (.int (hitS u q.1 (idx q.2 x) : Nat)) := by
            unfold intsN hitS
            rw [List.getElem?_map, List.getD_eq_getElem?_getD, List.getElem?_eq_getElem (by omega)]; rfl
          unfold tabD
          array_get_dec
          refine wp_or1 ?_
          array_get_dec
          refine wp_indexLn hl2 hz ?_
          array_get_dec
          refine k_setN hl2 (by simpa [linesD] using hi) ?_
          rw [lines_set]
          have b3 := b2.putL (i := 1) (ns := q.2.set (idx q.2 x) (goneS t p)) rfl rfl
          have k3 : Kp (BW s [l0, l1]) M2 (M2.set l1 (.lst (linesD (q.2.set (idx q.2 x) (goneS t p))))) := .set fun _ => .inr (by simp)
          generalize M2.set l1 (.lst (linesD (q.2.set (idx q.2 x) (goneS t p)))) = M3 at *
          have hw3 := b3.hw
          have hs3 := b3.hs
          array_get_dec
          rename_i M4 g4 k4 l4
          have b4 := b3.putSO (i := 1) (n := hitS u q.1 (idx q.2 x)) rfl g4 k4
          refine ⟨rfl, ?_, (k02.tr k3).trans k4 fun n _ e => .inl e⟩
          simp only [downS, hz, if_true]
          exact b4
        | false =>
          array_get_dec
          cases hg : goneS t p with
          | none =>
            refine wp_ev (a := .bl false) rfl ?_
            array_get_dec
            refine ⟨rfl, ?_, k02⟩
            simp only [downS, hz]
            exact b2
          | some y =>
            refine wp_ev (a := .bl true) rfl ?_
            array_get_dec
            refine (sp_go (i := 1) (x := y) (t := u) b2 rfl rfl hu hq).go ?_
            rintro _ M3 ⟨⟨n3, rfl, en3, gn3⟩, b3, k3⟩
            array_get_dec
            refine ⟨rfl, ?_, k02.tr k3⟩
            have hy : isIn q.2 y = false := isIn_not.mpr (hv.2.2 y (List.mem_of_getElem? (gone_mem hg)))
            rw [go_plain, hy] at b3
            simp only [downS, hz]
            exact b3
end
end L67

/-! text M1_67 -/
namespace L67
open PySem L2 PySem.Spec PyProof.Rows Zl
/-! ## [x for l in rows for x in l] -/
theorem wipe_len : ∀ (vs : List Nat) (env : En), (wipeE env vs).length = env.length
  | [], env => rfl
  | v :: vs, env => by
    unfold wipeE
    rw [List.length_set]
    exact wipe_len vs env
theorem inner_run {l n v1 : Nat} {xs : List Dv} {e0 : En} (hv1 : v1 < e0.length) : ∀ (k j : Nat) (M : Mem) (acc : List Dv), j + k = xs.length → M[l]? = some (.lst xs) → M[n]? = some (.lst acc) → l ≠ n → acc.length + k ≤ 10000 →
    ∃ M4, compF (stpL l) (gN v1) fYes (fV v1) e0 n k j M = some M4 ∧ M4[n]? = some (.lst (acc ++ xs.drop j)) ∧ Kp (At n) M M4
  | 0, j, M, acc, hj, hl, hn, hne, hs => by
    have e : stpL l j M = some none := by rw [stpL_at hl, List.getElem?_eq_none (by omega)]
    refine ⟨M, by unfold compF; simp only [e], ?_, .refl⟩
    rw [List.drop_of_length_le (by omega), List.append_nil]; exact hn
  | k + 1, j, M, acc, hj, hl, hn, hne, hs => by
    have hlt : j < xs.length := by omega
    have e : stpL l j M = some (some xs[j]) := by rw [stpL_at hl, List.getElem?_eq_getElem hlt]
    have hv : fV v1 (e0.set v1 (some xs[j])) M = some (xs[j], M) := by
      unfold fV
      rw [List.getElem?_set_self hv1]
    obtain ⟨M4, r1, r2, r3⟩ := inner_run hv1 k (j + 1) (M.set n (.lst (acc ++ [xs[j]]))) (acc ++ [xs[j]]) (by omega) (at_set_ne hl (Ne.symm hne)) (at_set hn) hne (by rw [List.length_append]; simp only [List.length_cons, List.length_nil]; omega)
    refine ⟨M4, ?_, ?_, (Kp.set (W := At n) fun _ => rfl).tr r3⟩
    · unfold compF
      simp only [e, gN, fYes, hv, hn]
      rw [if_pos (size_lt (by omega))]
      exact r1
    · rw [r2, List.append_assoc, List.drop_eq_getElem_cons hlt]
      rfl
theorem outer_run {it : Stp} {n v v1 : Nat} {ls : List Nat} {xss : List (List Dv)} {e0 : En} (hv : v < e0.length) (hv1 : v1 < e0.length) (hne : v ≠ v1) (hlen : ls.length = xss.length) (hsz : xss.flatten.length ≤ 1000) :
    ∀ (k i : Nat) (M : Mem), i + k = ls.length → (∀ (i : Nat) (M' : Mem), Kp (At n) M M' → i ≤ ls.length → it i M' = some (ls.map Dv.loc)[i]?) → (∀ (i l : Nat) (xs : List Dv), ls[i]? = some l → xss[i]? = some xs → M[l]? = some (.lst xs) ∧ l ≠ n) → M[n]? = some (.lst (xss.take i).flatten) →
    ∃ M4, comp2F it (gN v) fYes (fSrc (fV v)) [v1] (gN v1) fYes (fV v1) e0 n k i M = some M4 ∧ M4[n]? = some (.lst xss.flatten) ∧ Kp (At n) M M4
  | 0, i, M, hi, hit, hx, hn => by
    have e : it i M = some none := by rw [hit i M .refl (by omega), List.getElem?_eq_none (by simp; omega)]
    refine ⟨M, by unfold comp2F; simp only [e], ?_, .refl⟩
    rw [List.take_of_length_le (by omega)] at hn; exact hn
  | k + 1, i, M, hi, hit, hx, hn => by
    have hlt : i < ls.length := by omega
    have hlt2 : i < xss.length := by omega
    have e : it i M = some (some (.loc ls[i])) := by rw [hit i M .refl (by omega), List.getElem?_map, List.getElem?_eq_getElem hlt]; rfl
    obtain ⟨g1, g2⟩ := hx i _ _ (List.getElem?_eq_getElem hlt) (List.getElem?_eq_getElem hlt2)
    have hs : fSrc (fV v) (e0.set v (some (.loc ls[i]))) M = some (⟨xss[i].length, stpL ls[i]⟩, M) := by
      unfold fSrc fV bnd
      rw [List.getElem?_set_self hv]
      simp only
      rw [src_loc g1]
    have hw : v1 < (wipeE (e0.set v (some (.loc ls[i]))) [v1]).length := by rw [wipe_len, List.length_set]; exact hv1
    have hsum : (xss.take i).flatten.length + xss[i].length ≤ 1000 := by
      have h1 : xss.flatten = (xss.take i).flatten ++ (xss.drop i).flatten := by rw [← List.flatten_append, List.take_append_drop]
      have h2 : xss.drop i = xss[i] :: xss.drop (i + 1) := List.drop_eq_getElem_cons hlt2
      rw [h1, h2, List.flatten_cons, List.length_append, List.length_append] at hsz
      omega
    obtain ⟨M4, r1, r2, r3⟩ := inner_run hw xss[i].length 0 M _ (by omega) g1 hn g2 (by omega)
    rw [List.drop_zero] at r2
    have ht : (xss.take (i + 1)).flatten = (xss.take i).flatten ++ xss[i] := by rw [List.take_add_one, List.getElem?_eq_getElem hlt2, List.flatten_append]; simp
    obtain ⟨M5, s1, s2, s3⟩ := outer_run hv hv1 hne hlen hsz k (i + 1) M4 (by omega) (fun i M' k' h => hit i M' (r3.tr k') h) (fun i l xs h h' => by obtain ⟨a, b⟩ := hx i l xs h h'; exact ⟨r3.at a b, b⟩) (by rw [r2, ht])
    refine ⟨M5, ?_, s2, r3.tr s3⟩
    unfold comp2F
    simp only [e, gN, fYes, hs, r1]
    exact s1
theorem wq_flat {fi : FI} {env : En} {M : Mem} {q : QE} {v v1 : Nat} (hv : v < env.length) (hv1 : v1 < env.length) (hne : v ≠ v1)
    (h : Wp (fi env M) fun src M1 => ∃ (ls : List Nat) (xss : List (List Dv)), src.many = ls.length ∧ ls.length = xss.length ∧ xss.flatten.length ≤ 1000 ∧ (∀ i M', Kp NoW M1 M' → i ≤ ls.length → src.stp i M' = some (ls.map Dv.loc)[i]?) ∧
      (∀ (i l : Nat) (xs : List Dv), ls[i]? = some l → xss[i]? = some xs → M1[l]? = some (.lst xs)) ∧ ∀ n M', n = M1.length → M1.length < M'.length → Kp NoW M1 M' → M'[n]? = some (.lst xss.flatten) → q (.loc n) M') :
    Wp (fComp2 fi [v, v1] (gN v) fYes (fSrc (fV v)) [v1] (gN v1) fYes (fV v1) env M) q := by
  refine wp_bnd (h.go ?_)
  rintro src M1 ⟨ls, xss, h1, h2, h3, h4, h5, h6⟩
  have hw : (wipeE env [v, v1]).length = env.length := wipe_len _ _
  have kk : ∀ {M'}, Kp (At M1.length) (M1 ++ [.lst []]) M' → Kp NoW M1 M' := fun {M'} k => ⟨by have := k.1; simp at this; omega, fun n hn _ => by
    have := k.2 n (by simp; omega) (by simp only [At]; omega)
    rw [this, List.getElem?_append_left hn]⟩
  obtain ⟨M4, r1, r2, r3⟩ := outer_run (it := src.stp) (n := M1.length) (v := v) (v1 := v1) (ls := ls) (xss := xss) (e0 := wipeE env [v, v1]) (by omega) (by omega) hne h2 h3 src.many 0 (M1 ++ [.lst []]) (by omega)
    (fun i M' k hi => h4 i M' (kk k) hi) (fun i l xs a b => ⟨at_app (h5 i l xs a b), by have := lt_of (h5 i l xs a b); omega⟩) at_new
  show Wp (match comp2F _ _ _ _ _ _ _ _ _ _ _ _ _ with | some M2 => some (Dv.loc M1.length, M2) | none => none) q
  rw [r1]
  exact wp_ok (h6 _ M4 rfl (lt_of r2) (kk r3) r2)
theorem noTupC {env : En} {M : Mem} {h : FM} {fi : FI} {vs : List Nat} {g : FG} {ft : FT} {fe : FE} {fr : FA} : fM "tuple" h (fComp fi vs g ft fe) fr env M = none := by
  have hty : ∀ k M, isTy "tuple" (.loc k) M = false := by
    intro k M
    unfold isTy
    simp only
    split <;> first | rfl | decide
  unfold fM fComp bnd
  cases fi env M with
  | none => rfl
  | some p =>
    obtain ⟨src, M1⟩ := p
    simp only
    cases compF src.stp g ft fe (wipeE env vs) M1.length src.many 0 (M1 ++ [.lst []]) with
    | none => rfl
    | some M2 =>
      simp only
      rw [if_neg (by rw [hty]; decide)]
/-! ## moments -/
def momD (st : List St1) : Dv := .tup [.tup (stagesD st), .tup (st.map fun p => linesD p.2).flatten]
def lnK : Option Str → NestedKey
  | some x => .text x
  | none => .none
def momK (st : List St1) : NestedKey := .tup [.tup (st.map fun p => .num (p.1 : Nat)), .tup (st.map fun p => p.2.map lnK).flatten]
theorem nk_stages {n : Nat} : ∀ st : List St1, nkL (nkN n) (stagesD st) = some (st.map fun p => .num (p.1 : Nat))
  | [] => rfl
  | p :: st => by
    show (match nkN n (.int (p.1 : Nat)) with | some k => (match nkL (nkN n) (stagesD st) with | some ks => some (k :: ks) | none => none) | none => none) = _
    rw [nk_stages st]
    cases n <;> rfl
theorem nk_app {f : Dv → Option NestedKey} : ∀ {xs ys : List Dv} {ks ls : List NestedKey}, nkL f xs = some ks → nkL f ys = some ls → nkL f (xs ++ ys) = some (ks ++ ls)
  | [], ys, ks, ls, h, h' => by cases h; exact h'
  | x :: xs, ys, ks, ls, h, h' => by
    unfold nkL at h
    split at h
    · rename_i k hk
      split at h
      · rename_i ks' hks
        cases h
        show (match f x with | some k => (match nkL f (xs ++ ys) with | some ks => some (k :: ks) | none => none) | none => none) = _
        rw [hk, nk_app hks h']; rfl
      · cases h
    · cases h
theorem nk_lines {n : Nat} : ∀ ls : Ln, nkL (nkN n) (linesD ls) = some (ls.map lnK)
  | [] => rfl
  | o :: ls => by
    show (match nkN n (lnD o) with | some k => (match nkL (nkN n) (linesD ls) with | some ks => some (k :: ks) | none => none) | none => none) = _
    rw [nk_lines ls]
    cases o <;> cases n <;> rfl
theorem nk_all {n : Nat} : ∀ st : List St1, nkL (nkN n) (st.map fun p => linesD p.2).flatten = some (st.map fun p => p.2.map lnK).flatten
  | [] => rfl
  | p :: st => by
    rw [List.map_cons, List.flatten_cons, List.map_cons, List.flatten_cons]
    exact nk_app (nk_lines p.2) (nk_all st)
theorem key_mom {st : List St1} : keyN (momD st) = some (momK st) := by
  show (match nkL (nkN 7) [.tup (stagesD st), .tup (st.map fun p => linesD p.2).flatten] with | some ks => some (NestedKey.tup ks) | none => none) = _
  have h1 : nkN 7 (.tup (stagesD st)) = some (.tup (st.map fun p => .num (p.1 : Nat))) := by
    show (match nkL (nkN 6) (stagesD st) with | some ks => some (NestedKey.tup ks) | none => none) = _
    rw [nk_stages]
  have h2 : nkN 7 (.tup (st.map fun p => linesD p.2).flatten) = some (.tup (st.map fun p => p.2.map lnK).flatten) := by
    show (match nkL (nkN 6) (st.map fun p => linesD p.2).flatten with | some ks => some (NestedKey.tup ks) | none => none) = _
    rw [nk_all]
  unfold nkL
  simp only [h1]
  unfold nkL
  simp only [h2]
  rfl
theorem lnK_inj {a b : Option Str} (h : lnK a = lnK b) : a = b := by
  cases a <;> cases b <;> cases h <;> rfl
theorem map_inj {α β : Type} {f : α → β} (hf : ∀ a b, f a = f b → a = b) : ∀ {xs ys : List α}, xs.map f = ys.map f → xs = ys
  | [], [], _ => rfl
  | [], _ :: _, h => by cases h
  | _ :: _, [], h => by cases h
  | x :: xs, y :: ys, h => by
    simp only [List.map_cons, List.cons.injEq] at h
    rw [hf _ _ h.1, map_inj hf h.2]
theorem mom_fits : ∀ {ts : List Tb} {ps qs : List St1}, Fits ts ps → Fits ts qs → (ps.map fun p => NestedKey.num (p.1 : Nat)) = (qs.map fun p => NestedKey.num (p.1 : Nat)) → (ps.map fun p => p.2.map lnK).flatten = (qs.map fun p => p.2.map lnK).flatten → ps = qs
  | _, _, _, .nil, .nil, _, _ => rfl
  | _, _, _, .cons a r, .cons b t, h1, h2 => by
    simp only [List.map_cons, List.cons.injEq, List.flatten_cons] at h1 h2
    obtain ⟨i1, i2⟩ := List.append_inj h2 (by rw [List.length_map, List.length_map, a.2, b.2])
    have e1 := map_inj (fun x y => lnK_inj) i1
    have e2 : (_ : Int) = _ := NestedKey.num.inj h1.1
    rw [mom_fits r t h1.2 i2]
    congr 1
    exact Prod.ext (Int.ofNat_inj.mp e2) e1
theorem mom_inj {D : Dev} {p q : List St1} (hp : OkSt D p) (hq : OkSt D q) (h : momK p = momK q) : p = q := by
  unfold momK at h
  simp only [NestedKey.tup.injEq, List.cons.injEq, and_true] at h
  exact mom_fits hp hq h.1 h.2
end L67

/-! text M2a_67 -/
namespace L67
open PySem L2 PySem.Spec PyProof.Rows Zl
theorem fits_flat : ∀ {ts : List Tb} {ps : List St1}, Fits ts ps → (∀ t ∈ ts, OkT t) → (ps.map fun p => linesD p.2).flatten.length ≤ 4 * ts.length
  | _, _, .nil, _ => Nat.le_refl _
  | t :: ts, p :: ps, .cons a r, h => by
    have := fits_flat r fun t ht => h t (List.mem_cons_of_mem _ ht)
    have h4 := (h t (List.mem_cons_self ..)).l4
    have hp := a.2
    rw [List.map_cons, List.flatten_cons, List.length_append, List.length_cons]
    have : (linesD p.2).length = p.2.length := by simp [linesD]
    omega
theorem tabs_le {D : Dev} : D.tabs.length ≤ 2 := by cases D <;> simp [Dev.tabs]
theorem flat_le {D : Dev} (hD : OkV D) {st : List St1} (hs : OkSt D st) : (st.map fun p => linesD p.2).flatten.length ≤ 8 := by
  have := fits_flat hs hD
  have := tabs_le (D := D)
  omega
theorem sp_moment {D : Dev} {b s r : Nat} {ls : List Nat} {st : List St1} {M : Mem} (hD : OkV D) (h : BoxIs D b s r ls st M) : Wp (m_Box_moment [.loc b] M) fun d M' => d = momD st ∧ Kp NoW M M' := by
  have hb := h.at_.hb
  have hs := h.at_.hs
  have hr := h.at_.hr
  refine wp_fn rfl [some (.loc b), none, none] rfl ?_
  unfold b_Box_moment
  array_get_dec
  refine wq_flat (show 1 < 3 by decide) (show 2 < 3 by decide) (by decide) ?_
  array_get_dec
  refine ⟨ls, st.map fun p => linesD p.2, by simp, by simp [h.len], Nat.le_trans (flat_le hD h.ok) (by decide), fun i M' k' _ => stpL_at (k'.at hr id), fun i l xs h1 h2 => ?_, ?_⟩
  · rw [List.getElem?_map] at h2
    cases e : st[i]? with
    | none => rw [e] at h2; cases h2
    | some p => rw [e] at h2; cases h2; exact h.at_.hl i l p h1 e
  · intro n M' en ln k' g
    array_get_dec
    exact ⟨rfl, k'⟩
end L67

/-! text D1_67 -/
namespace L67
open PySem L2 PySem.Spec PyProof.Rows Zl
/-! ## rules: dicts with nested keys, lists in step -/
theorem wq_dict1N {fk fv : FE} {env : En} {M : Mem} {q : QE} (h : kNew (.dct []) (fun n M0 => Wp (fk env M0) fun kd M1 => Wp (fv env M1) fun vd M2 => ∃ k, M2[n]? = some (.dct []) ∧ keyN kd = some k ∧ kWr n (.dcn (putN [] k kd vd)) (fun M' => q (.loc n) M') M2) M) : Wp (fDict1N fk fv env M) q := by
  have h' := h M.length (M ++ [.dct []]) rfl at_new (.app _) (by simp)
  unfold fDict1N
  refine wp_bnd (h'.go fun kd M1 w => wp_bnd (w.go ?_))
  rintro vd M2 ⟨k, h1, h2, h3⟩
  simp only [h1, h2]
  exact wp_ok (h3 _ (at_set h1) (.set fun _ => rfl) (by simp))
theorem wq_dict1K {fk fv : FE} {env : En} {M : Mem} {q : QE} (h : kNew (.dct []) (fun n M0 => Wp (fk env M0) fun kd M1 => Wp (fv env M1) fun vd M2 => ∃ k, M2[n]? = some (.dct []) ∧ keyD kd = some k ∧ kWr n (.dct (putDk [] k vd)) (fun M' => q (.loc n) M') M2) M) : Wp (fDict1K fk fv env M) q := by
  have h' := h M.length (M ++ [.dct []]) rfl at_new (.app _) (by simp)
  unfold fDict1K
  refine wp_bnd (h'.go fun kd M1 w => wp_bnd (w.go ?_))
  rintro vd M2 ⟨k, h1, h2, h3⟩
  simp only [h1, h2]
  exact wp_ok (h3 _ (at_set h1) (.set fun _ => rfl) (by simp))
theorem wp_inN {b : Bool} {d : Dv} {n : Nat} {kvs : List (NestedKey × Dv × Dv)} {k : NestedKey} {M : Mem} {q : QE} (hm : M[n]? = some (.dcn kvs)) (hk : keyN d = some k) (h : q (.bl (xor b (valN kvs k).isSome)) M) : Wp (inE b d (.loc n) M) q :=
  wp_ev (by unfold inE; simp only [hm, hk]) h
theorem wp_ixN {d v : Dv} {n : Nat} {kvs : List (NestedKey × Dv × Dv)} {k : NestedKey} {M : Mem} {q : QE} (hm : M[n]? = some (.dcn kvs)) (hk : keyN d = some k) (hv : valN kvs k = some v) (h : q v M) : Wp (ixE (.loc n) d M) q :=
  wp_ev (by unfold ixE; simp only [hm, hk, hv]) h
theorem k_setDn {i d : Dv} {n : Nat} {kvs : List (NestedKey × Dv × Dv)} {k : NestedKey} {M : Mem} {q : Mem → Prop} (hm : M[n]? = some (.dcn kvs)) (hk : keyN i = some k) (hl : kvs.length ≤ 1000000) (h : kWr n (.dcn (putN kvs k i d)) q M) : kSet (.loc n) i d q M :=
  ⟨_, by unfold setE; simp only [hm, hk, if_pos (size_lt (Nat.le_trans hl (by decide)))], h _ (at_set hm) (.set fun _ => rfl) (by simp)⟩
theorem keyD_tup {d : Dv} {k : NestedKey} (h : keyN d = some k) : keyD d = none := by
  cases d <;> first | rfl | cases h
theorem wp_in0 {b : Bool} {d : Dv} {n : Nat} {k : NestedKey} {M : Mem} {q : QE} (hm : M[n]? = some (.dct [])) (hk : keyN d = some k) (h : q (.bl (xor b false)) M) : Wp (inE b d (.loc n) M) q :=
  wp_ev (by unfold inE; simp only [hm, hk, keyD_tup hk]) (M' := M) (a := .bl (xor b false)) h
theorem k_set0 {i d : Dv} {n : Nat} {k : NestedKey} {M : Mem} {q : Mem → Prop} (hm : M[n]? = some (.dct [])) (hk : keyN i = some k) (h : kWr n (.dcn (putN [] k i d)) q M) : kSet (.loc n) i d q M :=
  ⟨_, by unfold setE; simp only [hm, hk, keyD_tup hk], h _ (at_set hm) (.set fun _ => rfl) (by simp)⟩
theorem wp_lenN {n : Nat} {kvs : List (NestedKey × Dv × Dv)} {M : Mem} {q : QE} (hm : M[n]? = some (.dcn kvs)) (h : q (.int (kvs.length : Nat)) M) : Wp (lenE [.loc n] M) q := wp_ev (by unfold lenE; simp only [hm]) h
theorem wp_lenK {n : Nat} {kvs : List (Key × Dv)} {M : Mem} {q : QE} (hm : M[n]? = some (.dct kvs)) (h : q (.int (kvs.length : Nat)) M) : Wp (lenE [.loc n] M) q := wp_ev (by unfold lenE; simp only [hm]) h
theorem wp_lenS {n : Nat} {xs : List Int} {M : Mem} {q : QE} (hm : M[n]? = some (.st xs)) (h : q (.int (xs.length : Nat)) M) : Wp (lenE [.loc n] M) q := wp_ev (by unfold lenE; simp only [hm]) h
theorem wp_inK {b : Bool} {d : Dv} {n : Nat} {kvs : List (Key × Dv)} {k : Key} {M : Mem} {q : QE} (hm : M[n]? = some (.dct kvs)) (hk : keyD d = some k) (h : q (.bl (xor b (valD kvs k).isSome)) M) : Wp (inE b d (.loc n) M) q :=
  wp_ev (by unfold inE; simp only [hm, hk]) h
theorem wp_ixK {d v : Dv} {n : Nat} {kvs : List (Key × Dv)} {k : Key} {M : Mem} {q : QE} (hm : M[n]? = some (.dct kvs)) (hk : keyD d = some k) (hv : valD kvs k = some v) (h : q v M) : Wp (ixE (.loc n) d M) q :=
  wp_ev (by unfold ixE; simp only [hm, hk, hv]) h
theorem ints_of : ∀ ns : List Nat, intsOf (intsN ns) = some (ns.map Int.ofNat)
  | [] => rfl
  | n :: ns => by
    show (match intsOf (intsN ns) with | some is => some ((n : Int) :: is) | none => none) = _
    rw [ints_of ns]; rfl
theorem wq_set {n : Nat} {ns : List Nat} {M : Mem} {q : QE} (hm : M[n]? = some (.lst (intsN ns))) (hl : ns.length < 4000) (h : kNew (.st (dedupI (ns.map Int.ofNat))) (fun n M2 => q (.loc n) M2) M) : Wp (setOfD [.loc n] M) q := by
  refine wp_ev (a := .loc M.length) (M' := M ++ [.st (dedupI (ns.map Int.ofNat))]) ?_ (h _ _ rfl at_new (.app _) (by simp))
  unfold setOfD
  simp only [hm, ints_of]
  rw [if_pos (by simpa using hl)]
/-! two lists in step -/
def stpZL (m n : Nat) : Stp := fun i M => match M[m]?, M[n]? with
  | some (.lst xs), some (.lst ys) => some (zipAt xs ys i)
  | _, _ => none
theorem k_zipL {m n : Nat} {xs ys : List Dv} {M : Mem} {qi : Src → Mem → Prop} (hm : M[m]? = some (.lst xs)) (hn : M[n]? = some (.lst ys)) (h : qi ⟨min xs.length ys.length, stpZL m n⟩ M) : kZip qi (.loc m) (.loc n) M :=
  ⟨⟨min xs.length ys.length, stpZL m n⟩, by unfold srcZ; simp only [hm, hn]; rfl, h⟩
theorem stpZL_at {m n i : Nat} {xs ys : List Dv} {M : Mem} (hm : M[m]? = some (.lst xs)) (hn : M[n]? = some (.lst ys)) : stpZL m n i M = some (zipAt xs ys i) := by unfold stpZL; rw [hm, hn]
theorem k_forZL {env : En} {M : Mem} {g : FG} {f : FS} {Q : QS} {m n : Nat} {xs ys : List Dv} {I : Nat → En → Mem → Prop} (hl : xs.length = ys.length) (hm : ∀ i env M, I i env M → M[m]? = some (.lst xs) ∧ M[n]? = some (.lst ys)) (h0 : I 0 env M)
    (h1 : ∀ i d e env M, xs[i]? = some d → ys[i]? = some e → I i env M → Wp (g (.pr [d, e]) env M) fun e1 M1 => Wp (f e1 M1) (kLoop (I (i + 1)) Q)) (h2 : ∀ env M, I xs.length env M → Q (.nx env) M) : kFor I g f env Q ⟨min xs.length ys.length, stpZL m n⟩ M := by
  have e0 : min xs.length ys.length = xs.length := by omega
  refine ⟨h0, fun i env M hi hh => ?_, fun env M hh => ?_⟩
  · have hi' : i < xs.length := by have : i < min xs.length ys.length := hi; omega
    obtain ⟨a, b⟩ := hm i env M hh
    refine ⟨_, (stpZL_at a b).trans (congrArg some (zip_at (List.getElem?_eq_getElem hi') (List.getElem?_eq_getElem (by omega)))), h1 i _ _ env M (List.getElem?_eq_getElem hi') (List.getElem?_eq_getElem (by omega)) hh⟩
  · obtain ⟨a, b⟩ := hm _ env M hh
    exact ⟨(stpZL_at a b).trans (congrArg some zip_end), h2 env M (by rw [← e0]; exact hh)⟩
/-! ## numbering -/
section
variable {α : Type} [DecidableEq α]
def ixOf (x : α) : List α → Nat
  | [] => 0
  | y :: ys => if y = x then 0 else ixOf x ys + 1
theorem ix_new {x : α} : ∀ {xs : List α}, x ∉ xs → ixOf x (xs ++ [x]) = xs.length
  | [], _ => by show (if x = x then 0 else _) = 0; rw [if_pos rfl]
  | y :: ys, h => by
    have h1 : ¬ y = x := fun e => h (by simp [e])
    show (if y = x then 0 else ixOf x (ys ++ [x]) + 1) = _
    rw [if_neg h1, ix_new fun m => h (List.mem_cons_of_mem _ m)]; rfl
def placeOf (o : List α) (s : α) : Nat × List α := if s ∈ o then (ixOf s o, o) else (o.length, o ++ [s])
def places : List α → List α → List Nat × List α
  | o, [] => ([], o)
  | o, s :: ss => ((placeOf o s).1 :: (places (placeOf o s).2 ss).1, (places (placeOf o s).2 ss).2)
theorem places_len : ∀ (o ss : List α), (places o ss).1.length = ss.length
  | _, [] => rfl
  | o, s :: ss => by show (places (placeOf o s).2 ss).1.length + 1 = _; rw [places_len]; rfl
theorem places_app : ∀ (o xs ys : List α), places o (xs ++ ys) = ((places o xs).1 ++ (places (places o xs).2 ys).1, (places (places o xs).2 ys).2)
  | _, [], _ => rfl
  | o, x :: xs, ys => by
    show ((placeOf o x).1 :: (places (placeOf o x).2 (xs ++ ys)).1, (places (placeOf o x).2 (xs ++ ys)).2) = _
    rw [places_app]; rfl
theorem place_len (o : List α) (s : α) : (placeOf o s).2.length ≤ o.length + 1 := by
  unfold placeOf
  split <;> simp
theorem places_more : ∀ (o ss : List α), (places o ss).2.length ≤ o.length + ss.length
  | _, [] => Nat.le_refl _
  | o, s :: ss => by
    have h1 := places_more (placeOf o s).2 ss
    have h2 := place_len o s
    show (places (placeOf o s).2 ss).2.length ≤ _
    rw [List.length_cons]; omega
variable (κ : α → NestedKey) (δ : α → Dv)
def enN (xs : List α) : List (NestedKey × Dv × Dv) := xs.zipIdx.map fun p => (κ p.1, δ p.1, .int (p.2 : Nat))
variable {κ δ}
theorem val_cons {kv : NestedKey × Dv × Dv} {kvs : List (NestedKey × Dv × Dv)} {k : NestedKey} : valN (kv :: kvs) k = if kv.1 = k then some kv.2.2 else valN kvs k := by
  unfold valN
  rw [List.find?_cons]
  by_cases h : kv.1 = k
  · rw [if_pos h]; simp [h]
  · rw [if_neg h]; simp [h]
theorem val_en (inj : ∀ a b, κ a = κ b → a = b) (x : α) : ∀ (xs : List α) (o : Nat), valN ((xs.zipIdx o).map fun p => (κ p.1, δ p.1, .int (p.2 : Nat))) (κ x) = if x ∈ xs then some (.int ((o + ixOf x xs : Nat) : Int)) else none
  | [], o => rfl
  | y :: ys, o => by
    rw [List.zipIdx_cons, List.map_cons, val_cons, val_en inj x ys (o + 1)]
    by_cases h : y = x
    · subst h
      rw [if_pos rfl, if_pos (List.mem_cons_self ..)]
      simp [ixOf]
    · rw [if_neg fun e => h (inj _ _ e)]
      have h' : ¬ x = y := fun e => h e.symm
      by_cases hm : x ∈ ys
      · rw [if_pos hm, if_pos (List.mem_cons_of_mem _ hm)]
        have hb : ixOf x (y :: ys) = ixOf x ys + 1 := by show (if y = x then 0 else _) = _; rw [if_neg h]
        rw [hb]
        congr 3
        omega
      · rw [if_neg hm, if_neg (by simp [h', hm])]
theorem val_enN (inj : ∀ a b, κ a = κ b → a = b) (x : α) (xs : List α) : valN (enN κ δ xs) (κ x) = if x ∈ xs then some (.int ((ixOf x xs : Nat) : Int)) else none := by
  have := val_en (δ := δ) inj x xs 0
  rw [Nat.zero_add] at this
  exact this
theorem put_enN (inj : ∀ a b, κ a = κ b → a = b) {x : α} {xs : List α} (h : x ∉ xs) : putN (enN κ δ xs) (κ x) (δ x) (.int (xs.length : Nat)) = enN κ δ (xs ++ [x]) := by
  unfold putN
  rw [val_enN inj, if_neg h]
  show enN κ δ xs ++ _ = _
  unfold enN
  rw [List.zipIdx_append, List.map_append]
  simp
theorem en_len {xs : List α} : (enN κ δ xs).length = xs.length := by simp [enN]
end
end L67

/-! text T1b_67 -/
namespace L67
open PySem L2 PySem.Spec PyProof.Rows Zl
/-! ## moments of a program, plainly -/
abbrev Bead := Nat × List Nat × List (Option Str)
def beadD (b : Bead) : Dv := .tup [.int (b.1 : Nat), .tup (intsN b.2.1), .tup (linesD b.2.2)]
def beadK (b : Bead) : NestedKey := .tup [.num (b.1 : Nat), .tup (b.2.1.map fun n => .num (n : Nat)), .tup (b.2.2.map lnK)]
theorem nk_ints {n : Nat} : ∀ o : List Nat, nkL (nkN n) (intsN o) = some (o.map fun n => .num (n : Nat))
  | [] => rfl
  | x :: o => by
    show (match nkN n (.int (x : Nat)) with | some k => (match nkL (nkN n) (intsN o) with | some ks => some (k :: ks) | none => none) | none => none) = _
    rw [nk_ints o]
    cases n <;> rfl
theorem key_bead (b : Bead) : keyN (beadD b) = some (beadK b) := by
  show (match nkL (nkN 7) [.int (b.1 : Nat), .tup (intsN b.2.1), .tup (linesD b.2.2)] with | some ks => some (NestedKey.tup ks) | none => none) = _
  have h1 : nkN 7 (.tup (intsN b.2.1)) = some (.tup (b.2.1.map fun n => .num (n : Nat))) := by
    show (match nkL (nkN 6) (intsN b.2.1) with | some ks => some (NestedKey.tup ks) | none => none) = _
    rw [nk_ints]
  have h2 : nkN 7 (.tup (linesD b.2.2)) = some (.tup (b.2.2.map lnK)) := by
    show (match nkL (nkN 6) (linesD b.2.2) with | some ks => some (NestedKey.tup ks) | none => none) = _
    rw [nk_lines]
  unfold nkL nkL nkL
  simp only [h1, h2]
  rfl
theorem bead_inj (a b : Bead) (h : beadK a = beadK b) : a = b := by
  unfold beadK at h
  simp only [NestedKey.tup.injEq, List.cons.injEq, and_true] at h
  have num : ∀ x y : Nat, NestedKey.num ((x : Nat) : Int) = NestedKey.num ((y : Nat) : Int) → x = y := fun x y e => Int.ofNat_inj.mp (NestedKey.num.inj e)
  exact Prod.ext (num _ _ h.1) (Prod.ext (map_inj num h.2.1) (map_inj (fun _ _ => lnK_inj) h.2.2))
def stgS (st : List St1) : List Nat := st.map (·.1)
def flatS (st : List St1) : List (Option Str) := (st.map (·.2)).flatten
def atB (t : Nat) (st : List St1) : Bead := (t, stgS st, flatS st)
theorem stages_ints {st : List St1} : stagesD st = intsN (stgS st) := by
  unfold stagesD intsN stgS
  rw [List.map_map]; rfl
theorem flat_lines {st : List St1} : (st.map fun p => linesD p.2).flatten = linesD (flatS st) := by
  unfold linesD flatS
  rw [List.map_flatten, List.map_map]; rfl
theorem mom_bead {t : Nat} {st : List St1} : (.tup (.int (t : Nat) :: [.tup (stagesD st), .tup (st.map fun p => linesD p.2).flatten]) : Dv) = beadD (atB t st) := by
  rw [stages_ints, flat_lines]; rfl
/-- the levels' lines out of all lines -/
def chunks : List Tb → List (Option Str) → List Ln
  | [], _ => []
  | t :: ts, xs => xs.take t.l :: chunks ts (xs.drop t.l)
def stOf (D : Dev) (sg : List Nat) (cs : List (Option Str)) : List St1 := List.zip sg (chunks D.tabs cs)
theorem zip_chunks : ∀ {ts : List Tb} {ps : List St1}, Fits ts ps → List.zip (ps.map (·.1)) (chunks ts (ps.map (·.2)).flatten) = ps
  | _, _, .nil => rfl
  | t :: ts, p :: ps, .cons a r => by
    show (p.1, ((p.2 :: ps.map (·.2)).flatten).take t.l) :: List.zip (ps.map (·.1)) (chunks ts (((p.2 :: ps.map (·.2)).flatten).drop t.l)) = _
    rw [List.flatten_cons, ← a.2, List.take_left, List.drop_left, zip_chunks r]
theorem st_of {D : Dev} {st : List St1} (h : OkSt D st) : stOf D (stgS st) (flatS st) = st := zip_chunks h
/-! the plan -/
abbrev Plc := Str × List Nat
def plcD (p : Plc) : Dv := .tup [.str p.1, .tup (intsN p.2)]
def planD (ps : List Plc) : Dv := .tup (ps.map plcD)
structure OkPl (ps : List Plc) : Prop where
  p1 : 1 ≤ ps.length
  p30 : ps.length ≤ 30
  nm : ∀ p ∈ ps, okName p.1 = true
  tg : ∀ p ∈ ps, ∀ t ∈ p.2, t < ps.length
  up : ∀ p ∈ ps, p.2.Pairwise (· < ·)
  few : (dedS (ps.map (·.1))).length ≤ 8
def plcAt (ps : List Plc) (i : Nat) : Plc := ps.getD i ("", [])
theorem plc_get {ps : List Plc} {i : Nat} (h : i < ps.length) : ps[i]? = some (plcAt ps i) := by
  unfold plcAt
  rw [List.getD_eq_getElem?_getD, List.getElem?_eq_getElem h]; rfl
theorem plc_mem {ps : List Plc} {i : Nat} (h : i < ps.length) : plcAt ps i ∈ ps := List.mem_of_getElem? (plc_get h)
/-- breadth first -/
abbrev BRow := Nat × Bool × List Nat
def hitB' (D : Dev) (ps : List Plc) (b : Bead) : Bool := heldS (stOf D b.2.1 b.2.2) (plcAt ps b.1).1
def behind (D : Dev) (ps : List Plc) (b : Bead) : List St1 := askS D (stOf D b.2.1 b.2.2) (plcAt ps b.1).1
def nextB (D : Dev) (ps : List Plc) (b : Bead) : List Bead := (plcAt ps b.1).2.map fun t => atB t (behind D ps b)
def bfs (D : Dev) (ps : List Plc) (g : Nat) : Nat → List Bead → List BRow → Option (List Bead × List BRow)
  | 0, _, _ => none
  | f + 1, o, rs => match o[rs.length]? with
    | none => some (o, rs)
    | some b => if g < (places o (nextB D ps b)).2.length then none else bfs D ps g f (places o (nextB D ps b)).2 (rs ++ [(b.1, hitB' D ps b, (places o (nextB D ps b)).1)])
/-- beads that stand for something -/
def OkB (D : Dev) (ps : List Plc) (b : Bead) : Prop := b.1 < ps.length ∧ ∃ st, OkSt D st ∧ InvV D st ∧ b.2 = (stgS st, flatS st)
theorem okB_start {D : Dev} {ps : List Plc} (hD : OkV D) (hp : OkPl ps) : OkB D ps (atB 0 (startS D)) := ⟨hp.p1, _, start_ok hD, inv_start, rfl⟩
theorem okB_st {D : Dev} {ps : List Plc} {b : Bead} (h : OkB D ps b) : OkSt D (stOf D b.2.1 b.2.2) ∧ InvV D (stOf D b.2.1 b.2.2) ∧ b = atB b.1 (stOf D b.2.1 b.2.2) := by
  obtain ⟨h1, st, h2, h3, h4⟩ := h
  rw [h4]
  show OkSt D (stOf D (stgS st) (flatS st)) ∧ InvV D (stOf D (stgS st) (flatS st)) ∧ b = atB b.1 (stOf D (stgS st) (flatS st))
  rw [st_of h2]
  exact ⟨h2, h3, Prod.ext rfl h4⟩
theorem okB_next {D : Dev} {ps : List Plc} {b c : Bead} (hD : OkV D) (hp : OkPl ps) (h : OkB D ps b) (hc : c ∈ nextB D ps b) : OkB D ps c := by
  obtain ⟨t, ht, rfl⟩ := List.mem_map.mp hc
  obtain ⟨h1, h2, _⟩ := okB_st h
  exact ⟨hp.tg _ (plc_mem h.1) t ht, _, ask_ok hD h1 _, inv_ask h2 _, rfl⟩
theorem places_all {α : Type} [DecidableEq α] {P : α → Prop} : ∀ {o ss : List α}, (∀ x ∈ o, P x) → (∀ x ∈ ss, P x) → ∀ x ∈ (places o ss).2, P x
  | _, [], h, _ => h
  | o, s :: ss, h, h' => by
    show ∀ x ∈ (places (placeOf o s).2 ss).2, P x
    refine places_all (fun x hx => ?_) fun x hx => h' x (List.mem_cons_of_mem _ hx)
    unfold placeOf at hx
    split at hx
    · exact h x hx
    · rcases List.mem_append.mp hx with hx | hx
      · exact h x hx
      · have e : x = s := by simpa using hx
        rw [e]; exact h' s (List.mem_cons_self ..)
theorem places_ge {α : Type} [DecidableEq α] : ∀ (o ss : List α), o.length ≤ (places o ss).2.length
  | _, [] => Nat.le_refl _
  | o, s :: ss => by
    have h1 := places_ge (placeOf o s).2 ss
    have h2 : o.length ≤ (placeOf o s).2.length := by
      unfold placeOf
      split <;> simp
    exact Nat.le_trans h2 h1
end L67

/-! text T2b_67 -/
namespace L67
open PySem L2 PySem.Spec PyProof.Rows Zl
theorem lt_at {xs : List Nat} (h : xs.Pairwise (· < ·)) {k : Nat} (hk : k + 1 < xs.length) : xs[k] < xs[k + 1] := by
  rw [List.pairwise_iff_getElem] at h
  exact h k (k + 1) (by omega) hk (by omega)
theorem sp_place {p : Plc} {n : Nat} {M : Mem} (h1 : okName p.1 = true) (h2 : ∀ t ∈ p.2, t < n) (h3 : p.2.Pairwise (· < ·)) (h4 : p.2.length ≤ 100) (hn : n ≤ 100) : Wp (m_is_place [plcD p, .int (n : Nat)] M) fun d M' => d = .bl true ∧ Kp NoW M M' := by
  have hl : (intsN p.2).length = p.2.length := by simp [intsN]
  refine wp_fn rfl [some (plcD p), some (.int (n : Nat)), none, none, none] rfl ?_
  unfold b_is_place plcD
  array_get_dec
  refine ki_of (c := false) rfl ?_
  array_get_dec
  refine ki_of (c := false) rfl ?_
  array_get_dec
  refine (sp_name h1).go ?_
  rintro _ M1 ⟨rfl, k1⟩
  array_get_dec
  refine ki_of (c := false) rfl ?_
  array_get_dec
  refine ki_of (c := false) rfl ?_
  array_get_dec
  refine wq_map (fun _ => .bl true) ?_
  array_get_dec
  refine k_mapT (size_le (by omega)) (fun d hd M' k' => ?_) ?_
  · obtain ⟨t, ht, rfl⟩ := List.mem_map.mp hd
    array_get_dec
    have := h2 t ht
    refine (sp_between (by omega) (by omega)).go ?_
    rintro _ _ ⟨rfl, rfl⟩
    exact ⟨rfl, .refl⟩
  intro n2 M2 e2 l2 k2 g2
  array_get_dec
  refine wp_all g2 (bls_all (by simp)) ?_
  array_get_dec
  refine ki_of (c := false) (by simp) ?_
  array_get_dec
  refine wq_lcG (fun _ => true) (fun _ => .bl true) ?_
  refine wq_rngAB ?_
  array_get_dec
  refine ⟨1, (p.2.length : Nat), rfl, by rw [hl], by decide, by decide, by omega, by omega, ?_⟩
  refine ⟨by show (((p.2.length : Nat) : Int) - 1).toNat ≤ _; omega, fun k M' k' hk => ?_, fun M' k' => ?_, fun n3 M3 e3 l3 k3 g3 => ?_⟩
  · have hk' : k < (((p.2.length : Nat) : Int) - 1).toNat := hk
    refine ⟨.int ((k + 1 : Nat) : Int), ?_, ?_⟩
    · show (if k < (((p.2.length : Nat) : Int) - 1).toNat then some (some (Dv.int ((1 : Int) + k))) else some none) = _
      rw [if_pos hk', show (1 : Int) + k = ((k + 1 : Nat) : Int) by omega]
    · have a0 : (intsN p.2)[k]? = some (.int (p.2[k]'(by omega) : Nat)) := by
        unfold intsN
        rw [List.getElem?_map, List.getElem?_eq_getElem (by omega)]; rfl
      have a1 : (intsN p.2)[k + 1]? = some (.int (p.2[k + 1]'(by omega) : Nat)) := by
        unfold intsN
        rw [List.getElem?_map, List.getElem?_eq_getElem (by omega)]; rfl
      array_get_dec
      refine wp_ev (a := true) (M' := M') rfl ⟨rfl, .refl, fun _ => ?_⟩
      array_get_dec
      refine wp_ixT (x := .int (p.2[k]'(by omega) : Nat)) (by
        rw [show ((k + 1 : Nat) : Int) - 1 = ((k : Nat) : Int) by omega]; exact atI_n a0) ?_
      array_get_dec
      have := lt_at h3 (k := k) (by omega)
      refine ⟨?_, .refl⟩
      rw [decide_eq_true (by omega : ((p.2[k]'(by omega) : Nat) : Int) < ((p.2[k + 1]'(by omega) : Nat) : Int))]
  · show (if (((p.2.length : Nat) : Int) - 1).toNat < (((p.2.length : Nat) : Int) - 1).toNat then _ else some none) = _
    rw [if_neg (Nat.lt_irrefl _)]
  array_get_dec
  refine wp_all g3 (bls_all (fun x hx => by
    obtain ⟨_, _, rfl⟩ := List.mem_map.mp hx; rfl)) ?_
  array_get_dec
  exact ⟨by simp, by array_mem_dec⟩
/-- {e for p in places}, texts -/
theorem wq_skT {xs : List Dv} {φ : Dv → Str} {fe : FE} {env : En} {v : Nat} {M : Mem} {q : QE} (hx : ∀ x ∈ xs, ∀ M', fe ((wipeE env [v]).set v (some x)) M' = some (.str (φ x), M')) (hl : xs.length ≤ 1000)
    (k : kNew (.sk (dedS (xs.map φ))) (fun n M2 => q (.loc n) M2) M) {fa : FE} (ha : fa env M = some (.tup xs, M)) : Wp (fCompS (fSrc fa) [v] (gN v) fYes fe env M) q := by
  have run : ∀ (m i : Nat) (M' : Mem) (acc : List Str), i + m = xs.length → M'[M.length]? = some (.sk acc) → acc = dedS ((xs.take i).map φ) → M'.length = M.length + 1 → (∀ j, j < M.length → M'[j]? = M[j]?) →
      ∃ M2, compSF (stpC xs) (gN v) fYes fe (wipeE env [v]) M.length m i M' = some M2 ∧ M2[M.length]? = some (.sk (dedS (xs.map φ))) ∧ M2.length = M.length + 1 ∧ ∀ j, j < M.length → M2[j]? = M[j]? := by
    intro m
    induction m with
    | zero =>
      intro i M' acc hi hm ha hlen hk
      have e : i = xs.length := by omega
      subst e
      refine ⟨M', ?_, by rw [hm, ha, List.take_length], hlen, hk⟩
      unfold compSF
      rw [stpC_end]
    | succ m ih =>
      intro i M' acc hi hm ha hlen hk
      have hlt : i < xs.length := by omega
      have ei : xs[i]? = some xs[i] := List.getElem?_eq_getElem hlt
      have hacc : acc.length ≤ i := by rw [ha]; exact dedS_len i _ (by rw [List.length_map, List.length_take]; omega)
      obtain ⟨M2, r1, r2, r3, r4⟩ := ih (i + 1) (M'.set M.length (.sk (if φ xs[i] ∈ acc then acc else acc ++ [φ xs[i]]))) _ (by omega) (at_set hm) (by
        rw [show xs.take (i + 1) = xs.take i ++ [xs[i]] by rw [List.take_add_one, ei]; rfl, List.map_append, List.map_singleton, dedS_snoc, ← ha]) (by simp [hlen]) fun j hj => by
          rw [List.getElem?_set_ne (by omega)]; exact hk j hj
      refine ⟨M2, ?_, r2, r3, r4⟩
      unfold compSF
      simp only [stpC_go ei, gN, fYes, hx _ (List.getElem_mem hlt), hm]
      rw [if_pos (by omega)]
      exact r1
  obtain ⟨M2, r1, r2, r3, r4⟩ := run xs.length 0 (M ++ [.sk []]) [] (by omega) at_new rfl (by simp) fun j hj => List.getElem?_append_left hj
  refine ⟨.loc M.length, M2, ?_, k _ _ rfl r2 ⟨by omega, fun n h _ => r4 n h⟩ r3⟩
  · unfold fCompS
    have hs : fSrc fa env M = some (⟨xs.length, stpC xs⟩, M) := by
      unfold fSrc bnd
      rw [ha]; rfl
    rw [hs]
    show (match compSF (stpC xs) (gN v) fYes fe (wipeE env [v]) M.length xs.length 0 (M ++ [.sk []]) with | some M2 => some (Dv.loc M.length, M2) | none => none) = _
    rw [r1]
end L67

/-! text T3b_67 -/
namespace L67
open PySem L2 PySem.Spec PyProof.Rows Zl
def fstD : Dv → Str
  | .tup (.str x :: _) => x
  | _ => ""
theorem fst_map {ps : List Plc} : (ps.map plcD).map fstD = ps.map (·.1) := by
  rw [List.map_map]; rfl
theorem pw_len {n : Nat} {xs : List Nat} (h1 : ∀ t ∈ xs, t < n) (h2 : xs.Pairwise (· < ·)) : xs.length ≤ n := by
  have key : ∀ (xs : List Nat) (a : Nat), (∀ t ∈ xs, a ≤ t ∧ t < n) → xs.Pairwise (· < ·) → a + xs.length ≤ n ∨ xs = [] := by
    intro xs
    induction xs with
    | nil => intro a _ _; exact .inr rfl
    | cons x xs ih =>
      intro a h hp
      obtain ⟨p1, p2⟩ := List.pairwise_cons.mp hp
      have hx := h x (List.mem_cons_self ..)
      left
      rcases ih (x + 1) (fun t ht => ⟨p1 t ht, (h t (List.mem_cons_of_mem _ ht)).2⟩) p2 with z | z
      · rw [List.length_cons]; omega
      · rw [z]; simp; omega
  rcases key xs 0 (fun t ht => ⟨Nat.zero_le _, h1 t ht⟩) h2 with z | z
  · omega
  · rw [z]; exact Nat.zero_le _
theorem sp_isProgram {ps : List Plc} {M : Mem} (h : OkPl ps) : Wp (m_is_program [planD ps] M) fun d M' => d = .bl true ∧ Kp NoW M M' := by
  have h1 := h.p1
  have h30 := h.p30
  have hl : (ps.map plcD).length = ps.length := List.length_map ..
  refine wp_fn rfl [some (.tup (ps.map plcD)), none] rfl ?_
  unfold b_is_program c_MOST_PLACES c_MOST_DIFFERENT
  array_get_dec
  refine ki_of (c := false) rfl ?_
  array_get_dec
  refine kc_of (c := true) (decide_eq_true (by rw [hl]; omega)) ?_
  array_get_dec
  refine ki_of (c := false) (by rw [decide_eq_true (by rw [hl]; omega)]; rfl) ?_
  array_get_dec
  refine wq_map (fun _ => .bl true) ?_
  array_get_dec
  refine k_mapT (size_le (by omega)) (fun d hd M' k' => ?_) ?_
  · obtain ⟨p, hp, rfl⟩ := List.mem_map.mp hd
    array_get_dec
    rw [hl]
    refine sp_place (h.nm p hp) (h.tg p hp) (h.up p hp) ?_ (by omega)
    have := pw_len (h.tg p hp) (h.up p hp)
    omega
  intro n2 M2 e2 l2 k2 g2
  array_get_dec
  refine wp_all g2 (bls_all (fun x hx => by
    obtain ⟨_, _, rfl⟩ := List.mem_map.mp hx; rfl)) ?_
  array_get_dec
  refine ki_of (c := false) (by simp) ?_
  array_get_dec
  refine wq_skT (φ := fstD) (xs := ps.map plcD) (fun x hx M' => ?_) (by omega) ?_ rfl
  · obtain ⟨p, hp, rfl⟩ := List.mem_map.mp hx
    rfl
  array_get_dec
  rename_i n3 M3 e3 g3 k3 l3
  refine wq_lenSk g3 ?_
  rw [fst_map]
  array_get_dec
  have := h.few
  exact ⟨by rw [decide_eq_true (by omega)], by array_mem_dec⟩
theorem sp_checkProgram {ps : List Plc} {M : Mem} (h : OkPl ps) : Wp (m_check_program [planD ps] M) fun d M' => Kp NoW M M' := by
  refine wp_fn rfl [some (planD ps)] rfl ?_
  unfold b_check_program
  array_get_dec
  refine (sp_isProgram h).go ?_
  rintro _ M1 ⟨rfl, k1⟩
  array_get_dec
  refine ki_of (c := false) rfl ?_
  array_get_dec
  exact k1
/-! ## box_at -/
theorem cut_lines {xs : List (Option Str)} {a b : Nat} (h : a + b ≤ xs.length) : Zl.cutD (linesD xs) (some ((a : Nat) : Int)) (some (((a + b : Nat)) : Int)) = linesD ((xs.drop a).take b) := by
  have hl : (linesD xs).length = xs.length := by simp [linesD]
  unfold Zl.cutD
  rw [HT.sIx_nat, HT.sIx_nat, hl, Nat.min_eq_left (by omega), Nat.min_eq_left (by omega), Nat.add_sub_cancel_left]
  unfold linesD
  rw [List.map_take, List.map_drop]
theorem cut_tabs {D : Dev} : Zl.cutD (Dv.str D.mode :: D.tabs.map tabD) (some 1) none = D.tabs.map tabD := by
  unfold Zl.cutD
  simp [HT.sIx]
  exact List.take_of_length_le (by simp)
theorem sp_boxAt {D : Dev} {st : List St1} {M : Mem} (hD : OkV D) (hs : OkSt D st) :
    Wp (m_box_at [devD D, .tup (intsN (stgS st)), .tup (linesD (flatS st))] M) fun d M' => ∃ b s r ls, d = .loc b ∧ BoxIs D b s r ls st M' ∧ M.length ≤ b ∧ M.length ≤ s ∧ M.length ≤ r ∧ (∀ l ∈ ls, M.length ≤ l) ∧ Kp NoW M M' := by
  refine wp_fn rfl [some (devD D), some (.tup (intsN (stgS st))), some (.tup (linesD (flatS st))), none, none, none, none] rfl ?_
  unfold b_box_at
  array_get_dec
  rename_i b M1 e1 g1 k1 l1
  refine (sp_init g1 hD).go ?_
  rintro _ M2 ⟨rfl, ⟨s0, r, ls0, bx, q1, q2, q3⟩, k2⟩
  have z := bx.lt
  have hb := bx.at_.hb
  have hr := bx.at_.hr
  have hM2 := k2.1
  refine ⟨rfl, ?_⟩
  array_get_dec
  rename_i s M3 e3 g3 k3 l3 M4 g4 k4 l4
  have hr4 := k4.at (k3.at hr id) (by have := bx.at_.br; omega)
  have g34 := k4.at g3 (by omega)
  have kk4 : Kp NoW M M4 := by
    refine (((k1.trans k2 fun n hn e => ?_).trN k3).trans k4 fun n hn e => ?_)
    · have e' : n = b := e
      omega
    · have e' : n = b := e
      omega
  refine wu_for ?_
  array_get_dec
  refine wp_slT ?_
  rw [cut_tabs]
  cases D with
  | one t =>
    match st, hs with
    | [p], hs =>
      have hp : OkP t p := by cases hs with | cons a _ => exact a
      obtain ⟨l, rfl⟩ : ∃ l, ls0 = [l] := List.length_eq_one_iff.mp bx.len
      show kEnum _ (Dv.tup [tabD t]) M4
      array_get_dec
      refine wp_ev (a := .int (t.l : Nat)) (M' := M4) rfl ?_
      array_get_dec
      have hf : (flatS [p]).length = t.l := by show (p.2 ++ []).length = _; rw [List.append_nil, hp.2]
      have c0 : Zl.cutD (linesD (flatS [p])) (some 0) (some (0 + ((t.l : Nat) : Int))) = linesD p.2 := by
        have := cut_lines (xs := flatS [p]) (a := 0) (b := t.l) (by omega)
        rw [Nat.zero_add] at this
        rw [Int.zero_add]
        refine this.trans ?_
        show linesD ((p.2 ++ []).take t.l) = _
        rw [List.append_nil, ← hp.2, List.take_length]
      rename_i l5 M5 e5 g5 k5 l5' M6 g6 k6 l6
      have g5 : M5[l5]? = some (.lst (linesD p.2)) := by rw [← c0]; exact g5
      refine wp_ev (a := .int (t.l : Nat)) (M' := M6) rfl ?_
      array_get_dec
      have hbs := bx.at_.bs
      have hbr := bx.at_.br
      have g46 := k6.at (k5.at g4 id) (by omega)
      refine ⟨b, s, r, [l5], rfl, ⟨⟨g46, k6.at (k5.at g34 id) (by omega), g6, fun i l' p' h1 h2 => ?_, by simp, by omega, by omega, by omega, by simp; omega, by simp; omega, by simp; omega⟩, rfl, hs⟩, by omega, by omega, by omega, fun l' hl' => ?_, ?_⟩
      · cases i with
        | zero =>
          simp at h1 h2
          subst h1 h2
          exact k6.at g5 (by omega)
        | succ i => simp at h1
      · have : l' = l5 := by simpa using hl'
        omega
      · refine (kk4.trN k5).trans k6 fun n hn e => ?_
        have e' : n = r := e
        omega
    | [], hs => cases hs
    | _ :: _ :: _, hs => cases hs with | cons _ r => cases r
  | two m t u =>
    match st, hs with
    | [p, q], hs =>
      have hp : OkP t p := by cases hs with | cons a _ => exact a
      have hq : OkP u q := by cases hs with | cons _ r => cases r with | cons a _ => exact a
      obtain ⟨la, lb, rfl⟩ : ∃ la lb, ls0 = [la, lb] := by
        have := bx.len
        match ls0, this with
        | [la, lb], _ => exact ⟨la, lb, rfl⟩
      show kEnum _ (Dv.tup [tabD t, tabD u]) M4
      array_get_dec
      refine wp_ev (a := .int (t.l : Nat)) (M' := M4) rfl ?_
      array_get_dec
      have hf : flatS [p, q] = p.2 ++ q.2 := by show p.2 ++ (q.2 ++ []) = _; rw [List.append_nil]
      have hfl : (flatS [p, q]).length = t.l + u.l := by rw [hf, List.length_append, hp.2, hq.2]
      have c0 : Zl.cutD (linesD (flatS [p, q])) (some 0) (some (0 + ((t.l : Nat) : Int))) = linesD p.2 := by
        have := cut_lines (xs := flatS [p, q]) (a := 0) (b := t.l) (by omega)
        rw [Nat.zero_add] at this
        rw [Int.zero_add]
        refine this.trans ?_
        rw [List.drop_zero, hf, ← hp.2, List.take_left]
      have c1 : Zl.cutD (linesD (flatS [p, q])) (some (0 + ((t.l : Nat) : Int))) (some (0 + ((t.l : Nat) : Int) + ((u.l : Nat) : Int))) = linesD q.2 := by
        have := cut_lines (xs := flatS [p, q]) (a := t.l) (b := u.l) (by omega)
        rw [Int.zero_add]
        rw [show ((t.l : Nat) : Int) + ((u.l : Nat) : Int) = ((t.l + u.l : Nat) : Int) by omega]
        refine this.trans ?_
        rw [hf, ← hp.2, List.drop_left, ← hq.2, List.take_length]
      rename_i l5 M5 e5 g5 k5 l5' M6 g6 k6 l6
      have g5 : M5[l5]? = some (.lst (linesD p.2)) := by rw [← c0]; exact g5
      refine wp_ev (a := .int (t.l : Nat)) (M' := M6) rfl ?_
      array_get_dec
      refine wp_ev (a := .int (u.l : Nat)) (M' := M6) rfl ?_
      have hbs := bx.at_.bs
      have hbr := bx.at_.br
      have g46 := k6.at (k5.at g4 id) (by omega)
      array_get_dec
      rename_i l7 M7 e7 g7 k7 l7' M8 g8 k8 l8
      have g7 : M7[l7]? = some (.lst (linesD q.2)) := by rw [← c1]; exact g7
      refine wp_ev (a := .int (u.l : Nat)) (M' := M8) rfl ?_
      array_get_dec
      have g48 := k8.at (k7.at g46 id) (by omega)
      have g38 := k8.at (k7.at (k6.at (k5.at g34 id) (by omega)) id) (by omega)
      have g58 := k8.at (k7.at (k6.at g5 (by omega)) id) (by omega)
      refine ⟨b, s, r, [l5, l7], rfl, ⟨⟨g48, g38, g8, fun i l' p' h1 h2 => ?_, by simp; omega, by omega, by omega, by omega, by simp; omega, by simp; omega, by simp; omega⟩, rfl, hs⟩, by omega, by omega, by omega, fun l' hl' => ?_, ?_⟩
      · match i, h1, h2 with
        | 0, h1, h2 =>
          simp at h1 h2
          subst h1 h2
          exact g58
        | 1, h1, h2 =>
          simp at h1 h2
          subst h1 h2
          exact k8.at g7 (by omega)
        | i + 2, h1, h2 => simp at h1
      · have : l' = l5 ∨ l' = l7 := by simpa using hl'
        omega
      · refine (((kk4.trN k5).trans k6 fun n hn e => ?_).trN k7).trans k8 fun n hn e => ?_
        · have e' : n = r := e
          omega
        · have e' : n = r := e
          omega
    | [], hs => cases hs
    | [_], hs => cases hs with | cons _ r => cases r
    | _ :: _ :: _ :: _, hs => cases hs with | cons _ r => cases r with | cons _ r => cases r
end L67

/-! text T4b_67 -/
namespace L67
open PySem L2 PySem.Spec PyProof.Rows Zl
/-! ## Moments -/
def momF (o p q m x : Nat) : List (Str × Dv) := [("order", .loc o), ("indexes", .loc p), ("sources", .loc q), ("missed", .loc m), ("nexts", .loc x)]
structure MoAt (c o p q m x : Nat) (ord : List Bead) (bs : List Bool) (ss xs : List Dv) (M : Mem) : Prop where
  hc : M[c]? = some (.ins 1 (momF o p q m x))
  ho : M[o]? = some (.lst (ord.map beadD))
  hp : M[p]? = some (.dcn (enN beadK beadD ord))
  hq : M[q]? = some (.lst ss)
  hm : M[m]? = some (.lst (bs.map Dv.bl))
  hx : M[x]? = some (.lst xs)
  co : c < o
  op : o < p
  pq : p < q
  qm : q < m
  mx : m < x
abbrev MW (o p q : Nat) : Nat → Prop := fun n => n = o ∨ n = p ∨ n = q
section
variable {c o p q m x : Nat} {ord : List Bead} {bs : List Bool} {ss xs : List Dv} {M M' : Mem}
theorem MoAt.kp {W : Nat → Prop} (h : MoAt c o p q m x ord bs ss xs M) (k : Kp W M M') (w : ∀ n, W n → n ≠ c ∧ n ≠ o ∧ n ≠ p ∧ n ≠ q ∧ n ≠ m ∧ n ≠ x) : MoAt c o p q m x ord bs ss xs M' :=
  ⟨k.at h.hc fun z => (w _ z).1 rfl, k.at h.ho fun z => (w _ z).2.1 rfl, k.at h.hp fun z => (w _ z).2.2.1 rfl, k.at h.hq fun z => (w _ z).2.2.2.1 rfl, k.at h.hm fun z => (w _ z).2.2.2.2.1 rfl, k.at h.hx fun z => (w _ z).2.2.2.2.2 rfl, h.co, h.op, h.pq, h.qm, h.mx⟩
theorem MoAt.kpN (h : MoAt c o p q m x ord bs ss xs M) (k : Kp NoW M M') : MoAt c o p q m x ord bs ss xs M' := h.kp k fun _ z => z.elim
theorem sp_indexOf {b : Bead} (h : MoAt c o p q m x ord bs ss xs M) (hl : (placeOf ord b).2.length ≤ 600) (hs : ss.length ≤ 100000) :
    Wp (m_Moments_index_of [.loc c, beadD b] M) fun d M' => d = .int ((placeOf ord b).1 : Nat) ∧ (∃ ss', ss'.length ≤ ss.length + 1 ∧ MoAt c o p q m x (placeOf ord b).2 bs ss' xs M') ∧ Kp (MW o p q) M M' := by
  have hc := h.hc
  have ho := h.ho
  have hp := h.hp
  have hq := h.hq
  have hx := h.hx
  have h1 := h.co
  have h2 := h.op
  have h3 := h.pq
  have h4 := h.qm
  have h5 := h.mx
  have hv := val_enN (δ := beadD) bead_inj b ord
  have hk := key_bead b
  refine wp_fn rfl [some (.loc c), some (beadD b)] rfl ?_
  unfold b_Moments_index_of c_MOST_SITUATIONS
  array_get_dec
  refine wp_inN hp hk ?_
  array_get_dec
  by_cases hb : b ∈ ord
  · rw [if_pos hb] at hv
    refine ki_of (c := false) (by rw [hv]; rfl) ?_
    array_get_dec
    refine wp_ixN hp hk hv ?_
    array_get_dec
    have e : placeOf ord b = (ixOf b ord, ord) := by unfold placeOf; rw [if_pos hb]
    rw [e]
    exact ⟨rfl, ⟨ss, Nat.le_succ _, h⟩, .refl⟩
  · rw [if_neg hb] at hv
    have e : placeOf ord b = (ord.length, ord ++ [b]) := by unfold placeOf; rw [if_neg hb]
    have hlt : ord.length < 600 := by rw [e] at hl; simp at hl; omega
    refine ki_of (c := true) (by rw [hv]; rfl) ?_
    array_get_dec
    refine ki_of (c := false) (by
      rw [List.length_map, Bool.false_xor, beq_eq_false_iff_ne]
      omega) ?_
    array_get_dec
    refine k_setDn hp hk (by rw [en_len]; omega) ?_
    array_get_dec
    rename_i M1 g1 k1 l1
    have hc1 := k1.at hc (by omega)
    have ho1 := k1.at ho (by omega)
    array_get_dec
    refine wq_append ho1 (size_lt (by rw [List.length_map]; omega)) ?_
    array_get_dec
    rename_i M2 g2 k2 l2
    have hc2 := k2.at hc1 (by omega)
    have hq2 := k2.at (k1.at hq (by omega)) (by omega)
    have hx2 := k2.at (k1.at hx (by omega)) (by omega)
    have g12 := k2.at g1 (by omega)
    array_get_dec
    refine wq_append hq2 (size_lt (by omega)) ?_
    array_get_dec
    rename_i M3 g3 k3 l3
    have hc3 := k3.at hc2 (by omega)
    have g13 := k3.at g12 (by omega)
    rw [List.length_map, put_enN bead_inj hb] at g13
    have hv2 := val_enN (δ := beadD) bead_inj b (ord ++ [b])
    rw [if_pos (by simp)] at hv2
    array_get_dec
    refine wp_ixN g13 hk hv2 ?_
    array_get_dec
    have e2 : ixOf b (ord ++ [b]) = ord.length := ix_new hb
    rw [e, e2]
    have kk : Kp (MW o p q) M M3 := (((Kp.refl (W := MW o p q)).trans k1 fun n _ e => .inr (.inl e)).trans k2 fun n _ e => .inl e).trans k3 fun n _ e => .inr (.inr e)
    refine ⟨rfl, ⟨_, ?_, hc3, ?_, g13, g3, k3.at (k2.at (k1.at h.hm (by omega)) (by omega)) (by omega), k3.at hx2 (by omega), h1, h2, h3, h4, h5⟩, kk⟩
    · simp
    · rw [List.map_append]; exact k3.at g2 (by omega)
end
end L67

/-! text T5b_67 -/
namespace L67
open PySem L2 PySem.Spec PyProof.Rows Zl
theorem wq_star {fa : FE} {fr : FA} {env : En} {M : Mem} {q : List Dv → Mem → Prop} (h : Wp (fa env M) fun d M1 => ∃ xs, d = .tup xs ∧ Wp (fr env M1) fun ds M2 => q (xs ++ ds) M2) : Wp (fStar fa fr env M) q := by
  unfold fStar
  refine wp_bnd (h.go ?_)
  rintro _ M1 ⟨xs, rfl, w⟩
  exact wp_bnd (w.go fun ds M2 k => wp_ok k)
theorem take_one {α : Type} {xs : List α} {i : Nat} {x : α} (h : xs[i]? = some x) : xs.take (i + 1) = xs.take i ++ [x] := by
  rw [List.take_add_one, h]; rfl
theorem mom_bead2 {t : Nat} {st : List St1} : (.tup (.int (t : Nat) :: ([.tup (stagesD st), .tup (st.map fun p => linesD p.2).flatten] ++ [])) : Dv) = beadD (atB t st) := by
  rw [List.append_nil, mom_bead]
abbrev NW (o p q n : Nat) : Nat → Prop := fun k => k = n ∨ MW o p q k
section
variable {D : Dev} {c o p q m x b s r n : Nat} {ls : List Nat} {st : List St1} {ord : List Bead} {bs : List Bool} {ss xs : List Dv} {M : Mem}
theorem mo_for {tg : List Nat} {e1 e2 e3 e4 e5 e6 e8 e10 e12 : Option Dv} {Q : QS} (hD : OkV D) (h : MoAt c o p q m x ord bs ss xs M) (hB : BoxIs D b s r ls st M) (hn : M[n]? = some (.lst [])) (ht : tg.length ≤ 100) (hss : ss.length ≤ 90000)
    (hl : (places ord (tg.map fun t => atB t st)).2.length ≤ 600) (xb : x < b) (xs_ : x < s) (xr : x < r) (xl : ∀ l ∈ ls, x < l) (bn : b < n) (sn : s < n) (rn : r < n) (ln : ∀ l ∈ ls, l < n)
    (hq : ∀ e12' M' ss', ss'.length ≤ ss.length + tg.length → MoAt c o p q m x (places ord (tg.map fun t => atB t st)).2 bs ss' xs M' → M'[n]? = some (.lst (intsN (places ord (tg.map fun t => atB t st)).1)) → Kp (NW o p q n) M M' →
      Q (.nx [some (.loc c), e1, e2, e3, e4, e5, e6, some (.loc b), e8, some (.tup (intsN tg)), e10, some (.loc n), e12']) M') :
    Wp (fFor (fSrc (fV 9)) (gN 12) (fDrop ((fM "list" appendD (fV 11) (fCons (fMeth 1 "index_of" 2 m_Moments_index_of (fV 0) (fCons (fTup (fCons (fV 12) (fStar (fMeth 0 "moment" 1 m_Box_moment (fV 7) fNil) fNil))) fNil)) fNil)))) [some (.loc c), e1, e2, e3, e4, e5, e6, some (.loc b), e8, some (.tup (intsN tg)), e10, some (.loc n), e12] M) Q := by
  have h1 := h.co
  have h2 := h.op
  have h3 := h.pq
  have h4 := h.qm
  have h5 := h.mx
  refine wq_for (fun i env M' => ∃ (e12' : Option Dv) (ss' : List Dv), env = [some (.loc c), e1, e2, e3, e4, e5, e6, some (.loc b), e8, some (.tup (intsN tg)), e10, some (.loc n), e12'] ∧ ss'.length ≤ ss.length + i ∧ MoAt c o p q m x (places ord ((tg.take i).map fun t => atB t st)).2 bs ss' xs M' ∧ BoxIs D b s r ls st M' ∧
    M'[n]? = some (.lst (intsN (places ord ((tg.take i).map fun t => atB t st)).1)) ∧ Kp (NW o p q n) M M') ?_
  array_get_dec
  have hlt : (intsN tg).length = tg.length := by simp [intsN]
  refine k_forT ⟨e12, ss, rfl, Nat.le_refl _, h, hB, hn, .refl⟩ ?_ ?_
  · rintro i d env M1 hd ⟨e12', ss', rfl, a1, a2, a3, a4, a5⟩
    have hi : i < tg.length := by
      have := (List.getElem?_eq_some_iff.mp hd).1
      omega
    have ei : tg[i]? = some tg[i] := List.getElem?_eq_getElem hi
    have ed : d = .int (tg[i] : Nat) := by
      unfold intsN at hd
      rw [List.getElem?_map, ei] at hd
      cases hd; rfl
    subst ed
    have hc1 := a2.hc
    have hb1 := a3.at_.hb
    array_get_dec
    refine wq_star ?_
    array_get_dec
    refine (sp_moment hD a3).go ?_
    rintro _ M2 ⟨rfl, k2⟩
    refine ⟨_, rfl, ?_⟩
    array_get_dec
    have b2 := a2.kpN k2
    have bx2 := a3.kpN k2
    have st1 : places ord ((tg.take (i + 1)).map fun t => atB t st) = ((places ord ((tg.take i).map fun t => atB t st)).1 ++ [(placeOf (places ord ((tg.take i).map fun t => atB t st)).2 (atB tg[i] st)).1], (placeOf (places ord ((tg.take i).map fun t => atB t st)).2 (atB tg[i] st)).2) := by
      rw [take_one ei, List.map_append, places_app]; rfl
    have hl2 : (placeOf (places ord ((tg.take i).map fun t => atB t st)).2 (atB tg[i] st)).2.length ≤ 600 := by
      have e : tg.map (fun t => atB t st) = (tg.take (i + 1)).map (fun t => atB t st) ++ (tg.drop (i + 1)).map (fun t => atB t st) := by rw [← List.map_append, List.take_append_drop]
      rw [e, places_app] at hl
      have := places_ge (places ord ((tg.take (i + 1)).map fun t => atB t st)).2 ((tg.drop (i + 1)).map fun t => atB t st)
      rw [st1] at this hl
      exact Nat.le_trans this hl
    rw [mom_bead2]
    refine (sp_indexOf b2 hl2 (by omega)).go ?_
    rintro _ M3 ⟨rfl, ⟨ss3, c1, c2⟩, k3⟩
    have n3 : M3[n]? = some (.lst (intsN (places ord ((tg.take i).map fun t => atB t st)).1)) := k3.at (k2.at a4 id) (by
      rintro (e | e | e) <;> omega)
    array_get_dec
    refine wq_append n3 (size_lt (by simp [intsN, places_len]; omega)) ?_
    array_get_dec
    rename_i M4 g4 k4 l4
    refine ⟨_, ss3, rfl, by omega, ?_, ?_, ?_, ?_⟩
    · rw [st1]
      exact c2.kp k4 fun k e => by
        have e' : k = n := e
        omega
    · refine ⟨(bx2.at_.kp k3 ?_ ?_ ?_ ?_).kp k4 ?_ ?_ ?_ ?_, bx2.len, bx2.ok⟩
      · rintro (e | e | e) <;> omega
      · rintro (e | e | e) <;> omega
      · rintro (e | e | e) <;> omega
      · rintro l hl (e | e | e) <;> (have := xl l hl; omega)
      · intro e; have e' : b = n := e; omega
      · intro e; have e' : s = n := e; omega
      · intro e; have e' : r = n := e; omega
      · intro l hl e; have e' : l = n := e; have := ln l hl; omega
    · rw [st1, g4]; unfold intsN; rw [List.map_append]; rfl
    · exact (((a5.trN k2).trans k3 fun k _ e => .inr e).trans k4 fun k _ e => .inl e)
  · rintro env M1 ⟨e12', ss', rfl, a1, a2, a3, a4, a5⟩
    rw [hlt] at a1 a2 a4
    rw [List.take_length] at a2 a4
    array_get_dec
    exact hq e12' M1 ss' a1 a2 a4 a5
end
end L67

/-! text T6b_67 -/
namespace L67
open PySem L2 PySem.Spec PyProof.Rows Zl
theorem bfs_get {D : Dev} {ps : List Plc} {g f : Nat} {o : List Bead} {rs : List BRow} {R : List Bead × List BRow} (h : bfs D ps g (f + 1) o rs = some R) (hl : rs.length < o.length) : ∃ b, o[rs.length]? = some b ∧ (places o (nextB D ps b)).2.length ≤ g ∧
    bfs D ps g f (places o (nextB D ps b)).2 (rs ++ [(b.1, hitB' D ps b, (places o (nextB D ps b)).1)]) = some R := by
  have e : o[rs.length]? = some o[rs.length] := List.getElem?_eq_getElem hl
  unfold bfs at h
  rw [e] at h
  simp only at h
  split at h
  · cases h
  · exact ⟨_, e, by omega, h⟩
theorem bfs_end {D : Dev} {ps : List Plc} {g f : Nat} {o : List Bead} {rs : List BRow} {R : List Bead × List BRow} (h : bfs D ps g f o rs = some R) (hl : ¬ rs.length < o.length) : R = (o, rs) := by
  cases f with
  | zero => cases h
  | succ f =>
    unfold bfs at h
    rw [List.getElem?_eq_none (by omega)] at h
    cases h; rfl
theorem hit_at {D : Dev} {ps : List Plc} {t : Nat} {st : List St1} (h : OkSt D st) : hitB' D ps (atB t st) = heldS st (plcAt ps t).1 := by
  show heldS (stOf D (stgS st) (flatS st)) _ = _
  rw [st_of h]; rfl
theorem next_at {D : Dev} {ps : List Plc} {t : Nat} {st : List St1} (h : OkSt D st) : nextB D ps (atB t st) = (plcAt ps t).2.map fun t' => atB t' (askS D st (plcAt ps t).1) := by
  show (plcAt ps t).2.map (fun t' => atB t' (askS D (stOf D (stgS st) (flatS st)) (plcAt ps t).1)) = _
  rw [st_of h]
def missL (rs : List BRow) : List Bool := rs.map fun r => !r.2.1
theorem miss_app {rs : List BRow} {t : Nat} {v : Bool} {gs : List Nat} : missL (rs ++ [(t, v, gs)]) = missL rs ++ [!v] := by
  unfold missL
  rw [List.map_append]; rfl
theorem sp_minit {D : Dev} {ps : List Plc} {c f g : Nat} {M : Mem} {O : List Bead} {R : List BRow} (hD : OkV D) (hps : OkPl ps) (hc : M[c]? = some (.ins 1 [])) (hf : f ≤ 5000) (hg : g ≤ 600) (hF : bfs D ps g f [atB 0 (startS D)] [] = some (O, R)) :
    Wp (m_Moments_init [.loc c, devD D, planD ps] M) (kNon fun M' => (∃ o p q m x ss xs, MoAt c o p q m x O (missL R) ss xs M' ∧ M.length ≤ o) ∧ Kp (At c) M M') := by
  have z := lt_of hc
  have hp30 := hps.p30
  refine wp_fn rfl [some (.loc c), some (devD D), some (.tup (ps.map plcD)), none, none, none, none, none, none, none, none, none, none] rfl ?_
  unfold b_Moments_init
  array_get_dec
  refine wq_star ?_
  array_get_dec
  rename_i b0 M1 e1 g1 k1 l1
  refine (sp_init g1 hD).go ?_
  rintro _ M2 ⟨rfl, ⟨s0, r0, ls0, bx0, q1, q2, q3⟩, k2⟩
  have hM2 := k2.1
  have hb0 := bx0.at_.hb
  refine ⟨rfl, ?_⟩
  array_get_dec
  refine (sp_moment hD bx0).go ?_
  rintro _ M3 ⟨rfl, k3⟩
  have hM3 := k3.1
  refine ⟨_, rfl, ?_⟩
  array_get_dec
  rename_i o M4 e4 g4 k4 l4 M5 g5 k5 l5
  have sb : (.tup (.int 0 :: ([.tup (stagesD (startS D)), .tup ((startS D).map fun p => linesD p.2).flatten] ++ [])) : Dv) = beadD (atB 0 (startS D)) := mom_bead2 (t := 0)
  rw [sb] at g4
  rw [sb]
  refine wp_or1 ?_
  refine wq_dict1N ?_
  array_get_dec
  rename_i p M6 e6 g6 k6 l6
  refine ⟨_, g6, key_bead _, ?_⟩
  array_get_dec
  rename_i M7 g7 k7 l7 M8 g8 k8 l8 q M9 e9 g9 k9 l9 Ma ga ka la m Mb eb gb kb lb Mc gc kc lc x Md ed gd kd ld Me ge ke le
  have o_e : Me[o]? = some (.lst [beadD (atB 0 (startS D))]) := ke.at (kd.at (kc.at (kb.at (ka.at (k9.at (k8.at (k7.at (k6.at (k5.at g4 (by omega)) id) (by omega)) (by omega)) id) (by omega)) id) (by omega)) id) (by omega)
  have p_e := ke.at (kd.at (kc.at (kb.at (ka.at (k9.at (k8.at g7 (by omega)) id) (by omega)) id) (by omega)) id) (by omega)
  have q_e := ke.at (kd.at (kc.at (kb.at (ka.at g9 (by omega)) id) (by omega)) id) (by omega)
  have m_e := ke.at (kd.at (kc.at gb (by omega)) id) (by omega)
  have x_e := ke.at gd (by omega)
  have mo0 : MoAt c o p q m x [atB 0 (startS D)] [] [.non] [] Me := ⟨ge, o_e, p_e, q_e, m_e, x_e, by omega, by omega, by omega, by omega, by omega⟩
  have kk : Kp (At c) M Me := by
    refine (((((((((((((((Kp.refl (W := At c)).trN k1).trans k2 fun n hn e => ?_).trN k3).trN k4).trans k5 fun n _ e => e).trN k6).trans k7 fun n hn e => ?_).trans k8 fun n _ e => e).trN k9).trans ka fun n _ e => e).trN kb).trans kc fun n _ e => e).trN kd).trans ke fun n _ e => e)
    · have e' : n = b0 := e
      omega
    · have e' : n = p := e
      omega
  have g1' : 1 ≤ g := by
    cases f with
    | zero => cases hF
    | succ f =>
      obtain ⟨b, _, h2, _⟩ := bfs_get hF (by show 0 < 1; decide)
      have := places_ge [atB 0 (startS D)] (nextB D ps b)
      simp at this
      omega
  refine wp_whileI (fun k env M' => ∃ (x4 x5 x6 x7 x8 x9 x10 x11 x12 : Option Dv) (ord : List Bead) (rows : List BRow) (ss xs : List Dv), env = [some (.loc c), some (devD D), some (.tup (ps.map plcD)), some (beadD (atB 0 (startS D))), x4, x5, x6, x7, x8, x9, x10, x11, x12] ∧
    MoAt c o p q m x ord (missL rows) ss xs M' ∧ xs.length = rows.length ∧ rows.length ≤ ord.length ∧ ord.length ≤ g ∧ (∀ b ∈ ord, OkB D ps b) ∧ ss.length ≤ 1 + 30 * rows.length ∧ bfs D ps g k ord rows = some (O, R) ∧ Kp (At c) M M') ?_ 1000000 f _ _ (by omega)
    ⟨none, none, none, none, none, none, none, none, none, _, [], _, [], rfl, mo0, rfl, Nat.zero_le _, g1', fun b hb => by
      have e : b = atB 0 (startS D) := by simpa using hb
      rw [e]; exact okB_start hD hps, by simp, hF, kk⟩
  rintro k env M8' ⟨x4, x5, x6, x7, x8, x9, x10, x11, x12, ord, rows, ss, xs, rfl, mo, hxs, hro, hog, hok, hss, hm, kk8⟩
  have hc8 := mo.hc
  have ho8 := mo.ho
  have hx8 := mo.hx
  have hm8 := mo.hm
  have hM8 := kk8.1
  array_get_dec
  by_cases hl : rows.length < ord.length
  · rw [decide_eq_true (by rw [hxs, List.length_map]; exact_mod_cast hl)]
    refine (show Wp _ _ from ?_)
    cases k with
    | zero => cases hm
    | succ k =>
      obtain ⟨b, eb, hpl, hm'⟩ := bfs_get hm hl
      have okb := hok b (List.mem_of_getElem? eb)
      have okn : ∀ y ∈ nextB D ps b, OkB D ps y := fun y hy => okB_next hD hps okb hy
      obtain ⟨hb1, st, os, iv, e2⟩ := okb
      obtain ⟨t, b2⟩ := b
      have e2 : b2 = (stgS st, flatS st) := e2
      subst e2
      have hb1 : t < ps.length := hb1
      have hnx : nextB D ps (t, stgS st, flatS st) = (plcAt ps t).2.map fun t' => atB t' (askS D st (plcAt ps t).1) := next_at os
      have hht : hitB' D ps (t, stgS st, flatS st) = heldS st (plcAt ps t).1 := hit_at os
      rw [hnx] at hpl hm' okn
      rw [hht] at hm'
      have eb' : (ord.map beadD)[xs.length]? = some (.tup [.int (t : Nat), .tup (intsN (stgS st)), .tup (linesD (flatS st))]) := by rw [hxs, List.getElem?_map, eb]; rfl
      have ep : (ps.map plcD)[t]? = some (.tup [.str (plcAt ps t).1, .tup (intsN (plcAt ps t).2)]) := by rw [List.getElem?_map, plc_get hb1]; rfl
      have tgl := pw_len (hps.tg _ (plc_mem hb1)) (hps.up _ (plc_mem hb1))
      array_get_dec
      refine (sp_boxAt hD os).go ?_
      rintro _ M9' ⟨b, s, r, ls, rfl, bx, z1, z2, z3, z4, k9'⟩
      have mo9 := mo.kpN k9'
      have hM9 := k9'.1
      have lx : x < M8'.length := lt_of mo.hx
      array_get_dec
      have hb9 := bx.at_.hb
      array_get_dec
      refine (sp_ask hD bx).go ?_
      rintro _ MA ⟨rfl, bxA, kA⟩
      have moA := mo9.kp kA (by
        have h1 := mo.co
        have h2 := mo.op
        have h3 := mo.pq
        have h4 := mo.qm
        have h5 := mo.mx
        rintro n (e | e)
        · omega
        · have := z4 n e; omega)
      have hcA := moA.hc
      have hmA := moA.hm
      have h1 := mo.co
      have h2 := mo.op
      have h3 := mo.pq
      have h4 := mo.qm
      have h5 := mo.mx
      have hMA := kA.1
      array_get_dec
      refine wq_append hmA (size_lt (by rw [List.length_map]; unfold missL; rw [List.length_map]; omega)) ?_
      array_get_dec
      rename_i MB gB kB lB n MC eC gC kC lC
      have zB := bxA.lt
      have moB : MoAt c o p q m x ord (missL rows ++ [!heldS st (plcAt ps t).1]) ss xs MB := ⟨kB.at moA.hc (by omega), kB.at moA.ho (by omega), kB.at moA.hp (by omega), kB.at moA.hq (by omega), by rw [gB, List.map_append]; rfl, kB.at moA.hx (by omega), h1, h2, h3, h4, h5⟩
      have bxB : BoxIs D b s r ls (askS D st (plcAt ps t).1) MB := ⟨bxA.at_.kp kB (by intro e; have e' : b = m := e; omega) (by intro e; have e' : s = m := e; omega) (by intro e; have e' : r = m := e; omega) (by intro l hl e; have e' : l = m := e; have := z4 l hl; omega), bxA.len, bxA.ok⟩
      have moC := moB.kpN kC
      have bxC := bxB.kpN kC
      refine mo_for hD moC bxC gC (by omega) (by omega) (Nat.le_trans hpl hg) (by omega) (by omega) (by omega) (fun l hl => by have := z4 l hl; omega) (by omega) (by omega) (by omega) (fun l hl => by have := zB.2.2.2 l hl; omega) ?_
      intro e12' MD ss' hss' moD gD kD
      have hcD := moD.hc
      have hxD := moD.hx
      array_get_dec
      refine wq_append hxD (size_lt (by omega)) ?_
      array_get_dec
      rename_i ME gE kE lE
      have hMD := kD.1
      refine ⟨k, by omega, _, _, _, _, _, _, _, _, _, _, _, ss', xs ++ [.loc n], rfl, ⟨kE.at moD.hc (by omega), kE.at moD.ho (by omega), kE.at moD.hp (by omega), kE.at moD.hq (by omega), ?_, gE, h1, h2, h3, h4, h5⟩, ?_, ?_, hpl, ?_, ?_, hm', ?_⟩
      · rw [miss_app]
        exact kE.at moD.hm (by omega)
      · rw [List.length_append, List.length_append, hxs]; rfl
      · have := places_ge ord ((plcAt ps t).2.map fun t' => atB t' (askS D st (plcAt ps t).1))
        rw [List.length_append]
        simp only [List.length_cons, List.length_nil]
        omega
      · exact places_all hok okn
      · rw [List.length_append]
        simp only [List.length_cons, List.length_nil]
        omega
      · refine ((((((kk8.trN k9').trans kA fun n' hn e => ?_).trans kB fun n' hn e => ?_).trN kC).trans kD fun n' hn e => ?_).trans kE fun n' hn e => ?_)
        · rcases e with e | e
          · omega
          · have := z4 n' e; omega
        · have e' : n' = m := e
          omega
        · rcases e with e | e | e | e <;> omega
        · have e' : n' = x := e
          omega
  · rw [decide_eq_false (by rw [hxs, List.length_map]; exact_mod_cast hl)]
    have e := bfs_end hm hl
    cases e
    array_get_dec
    exact ⟨⟨o, p, q, m, x, ss, xs, mo, by omega⟩, kk8⟩
end L67

/-! text T7b_67 -/
namespace L67
open PySem L2 PySem.Spec PyProof.Rows Zl
/-! ## verdicts -/
def wordOf (bs : List Bool) : Str := if bs = [] then "never" else if bs.all id then "miss" else if bs.any id then "both" else "hit"
def missAt (R : List BRow) (i : Nat) : List Bool := (R.filter fun r => r.1 == i).map fun r => !r.2.1
def verdF (n : Nat) (R : List BRow) : List Str := (List.range n).map fun i => wordOf (missAt R i)
theorem place_pre {o : List Bead} {s : Bead} : ∃ t, (placeOf o s).2 = o ++ t := by
  unfold placeOf
  split
  · exact ⟨[], by simp⟩
  · exact ⟨[s], rfl⟩
theorem places_pre : ∀ {ss o : List Bead}, ∃ t, (places o ss).2 = o ++ t
  | [], o => ⟨[], by simp [places]⟩
  | s :: ss, o => by
    obtain ⟨t1, h1⟩ := place_pre (o := o) (s := s)
    obtain ⟨t2, h2⟩ := places_pre (ss := ss) (o := (placeOf o s).2)
    exact ⟨t1 ++ t2, by show (places (placeOf o s).2 ss).2 = _; rw [h2, h1, List.append_assoc]⟩
theorem bfs_rows {D : Dev} {ps : List Plc} {g : Nat} {O : List Bead} {R : List BRow} (hD : OkV D) (hps : OkPl ps) : ∀ {f : Nat} {o : List Bead} {rs : List BRow}, bfs D ps g f o rs = some (O, R) → rs.length ≤ o.length → o.length ≤ g → rs.map (·.1) = (o.take rs.length).map (·.1) → (∀ b ∈ o, OkB D ps b) → R.map (·.1) = O.map (·.1) ∧ (∀ b ∈ O, OkB D ps b) ∧ O.length ≤ g
  | 0, _, _, h, _, _, _, _ => by cases h
  | f + 1, o, rs, h, hl, hg, hm, hk => by
    by_cases hlt : rs.length < o.length
    · obtain ⟨b, eb, h2, h3⟩ := bfs_get h hlt
      obtain ⟨t, ht⟩ := places_pre (ss := nextB D ps b) (o := o)
      refine bfs_rows hD hps h3 ?_ h2 ?_ ?_
      · have := places_ge o (nextB D ps b)
        rw [List.length_append]
        simp only [List.length_cons, List.length_nil]
        omega
      · rw [ht, List.length_append]
        simp only [List.length_cons, List.length_nil]
        rw [List.take_append_of_le_length (by omega), List.take_add_one, eb, List.map_append, List.map_append, hm]
        rfl
      · exact places_all hk fun c hc => okB_next hD hps (hk b (List.mem_of_getElem? eb)) hc
    · have e := bfs_end h hlt
      have e1 : O = o := congrArg Prod.fst e
      have e3 : R = rs := congrArg Prod.snd e
      have e2 : o.take rs.length = o := List.take_of_length_le (by omega)
      rw [e2] at hm
      subst e1 e3
      exact ⟨hm, hk, hg⟩
theorem wq_trL {fa : FE} {env : En} {M : Mem} {n : Nat} {xs : List Dv} {qt : Bool → Mem → Prop} (hf : fa env M = some (.loc n, M)) (hm : M[n]? = some (.lst xs)) (k : qt (!xs.isEmpty) M) : Wp (fTr fa env M) qt := by
  refine ⟨_, M, ?_, k⟩
  unfold fTr bnd
  rw [hf]
  simp only [hm]
theorem sp_word {bs : List Bool} {n : Nat} {M : Mem} (h : M[n]? = some (.lst (bs.map Dv.bl))) : Wp (m_word_of [.loc n] M) fun d M' => d = .str (wordOf bs) ∧ M' = M := by
  refine wp_fn rfl [some (.loc n)] rfl ?_
  unfold b_word_of
  refine wp_seq (wp_ifs (wp_not (wq_trL rfl h ?_)))
  cases bs with
  | nil =>
    refine ki_of (c := true) rfl ?_
    array_get_dec
    exact ⟨rfl, rfl⟩
  | cons v vs =>
    refine ki_of (c := false) rfl ?_
    array_get_dec
    refine wp_all h (bls_map (v :: vs)) ?_
    array_get_dec
    unfold wordOf
    rw [if_neg (by simp)]
    cases ha : (v :: vs).all id with
    | true =>
      rw [if_pos rfl]
      array_get_dec
      exact ⟨rfl, rfl⟩
    | false =>
      rw [if_neg (by decide)]
      array_get_dec
      refine wp_any h (bls_map (v :: vs)) ?_
      array_get_dec
      cases hy : (v :: vs).any id with
      | true =>
        rw [if_pos rfl]
        array_get_dec
        exact ⟨rfl, rfl⟩
      | false =>
        rw [if_neg (by decide)]
        array_get_dec
        exact ⟨rfl, rfl⟩
end L67

/-! text T8b_67 -/
namespace L67
open PySem L2 PySem.Spec PyProof.Rows Zl
/-- a list of lists of truths -/
structure FoAt (n : Nat) (fs : List Nat) (bss : List (List Bool)) (M : Mem) : Prop where
  hn : M[n]? = some (.lst (fs.map Dv.loc))
  len : fs.length = bss.length
  hf : ∀ (i f : Nat) bs, fs[i]? = some f → bss[i]? = some bs → M[f]? = some (.lst (bs.map Dv.bl))
  nd : fs.Nodup
  nf : n ∉ fs
theorem FoAt.kp {n : Nat} {fs : List Nat} {bss : List (List Bool)} {M M' : Mem} {W : Nat → Prop} (h : FoAt n fs bss M) (k : Kp W M M') (h1 : ¬ W n) (h2 : ∀ f ∈ fs, ¬ W f) : FoAt n fs bss M' :=
  ⟨k.at h.hn h1, h.len, fun i f bs a b => k.at (h.hf i f bs a b) (h2 f (List.mem_of_getElem? a)), h.nd, h.nf⟩
/-- [[] for place in program] -/
theorem lc_empty {xs : List Dv} {env : En} {M : Mem} {q : QE} {e1 e6 : Nat} (h1 : env[e1]? = some (some (.tup xs))) (hl : xs.length ≤ 100)
    (hq : ∀ n fs M', n = M.length → FoAt n fs (List.replicate xs.length []) M' → (∀ f ∈ fs, n < f) → Kp NoW M M' → q (.loc n) M') :
    Wp (fComp (fSrc (fV e1)) [e6] (gN e6) fYes (fLst fNil) env M) q := by
  refine wp_lcI (fun n i acc M' => ∃ fs : List Nat, acc = fs.map Dv.loc ∧ fs.length = i ∧ i ≤ xs.length ∧ (∀ f ∈ fs, M'[f]? = some (.lst []) ∧ n < f) ∧ fs.Nodup ∧ M'[n]? = some (.lst acc) ∧ Kp NoW M M' ∧ n = M.length) ?_
  refine wq_src (wp_var h1 (k_srcT ?_))
  refine ⟨fun i acc M' ⟨fs, a1, a2, a3, a4, a5, a6, a7⟩ => a6, ⟨[], rfl, rfl, Nat.zero_le _, fun f hf => by simp at hf, by simp, at_new, .app _, rfl⟩, ?_, ?_⟩
  · rintro i acc M' hi ⟨fs, a1, a2, a3, a4, a5, a6, a7, a8⟩
    have hi' : i < xs.length := hi
    refine ⟨xs[i], by show some xs[i]? = _; rw [List.getElem?_eq_getElem hi'], ?_⟩
    array_get_dec
    rename_i f M2 e2 g2 k2 l2
    have hlt := lt_of a6
    have a6' := k2.at a6 id
    refine ⟨acc, a6', size_lt (by rw [a1, List.length_map]; omega), fs ++ [f], by rw [a1, List.map_append]; rfl, by simp [a2], by omega, ?_, ?_, at_set a6', ?_, a8⟩
    · intro f' hf'
      rcases List.mem_append.mp hf' with hf' | hf'
      · obtain ⟨b1, b2⟩ := a4 f' hf'
        exact ⟨at_set_ne (k2.at b1 id) (by omega), b2⟩
      · have e : f' = f := by simpa using hf'
        rw [e]
        exact ⟨at_set_ne g2 (by omega), by omega⟩
    · rw [List.nodup_append]
      refine ⟨a5, by simp, fun y hy z hz e => ?_⟩
      have e2' : z = f := by simpa using hz
      have := lt_of (a4 y hy).1
      omega
    · refine (a7.trN k2).trans (Kp.set (W := At M.length) fun _ => rfl) fun k hk e => ?_
      have e' : k = M.length := e
      omega
  · rintro acc M' ⟨fs, a1, a2, a3, a4, a5, a6, a7, a8⟩
    have a2 : fs.length = xs.length := a2
    refine ⟨by show some xs[xs.length]? = _; simp, hq _ fs M' a8 ⟨?_, by simp [a2], fun i f bs b1 b2 => ?_, a5, fun hm => ?_⟩ (fun f hf => (a4 f hf).2) a7⟩
    · rw [a6, a1]
    · have : bs = [] := by
        rw [List.getElem?_replicate] at b2
        split at b2
        · cases b2; rfl
        · cases b2
      rw [this]
      exact (a4 f (List.mem_of_getElem? b1)).1
    · have := (a4 _ hm).2
      omega
def missN (n : Nat) (R : List BRow) : List (List Bool) := (List.range n).map (missAt R)
theorem miss_len {n : Nat} {R : List BRow} : (missN n R).length = n := by simp [missN]
theorem miss_get {n i : Nat} {R : List BRow} (h : i < n) : (missN n R)[i]? = some (missAt R i) := by
  unfold missN
  rw [List.getElem?_map, List.getElem?_range h]; rfl
theorem miss_at_app {R : List BRow} {r : BRow} {i : Nat} : missAt (R ++ [r]) i = missAt R i ++ if r.1 = i then [!r.2.1] else [] := by
  unfold missAt
  rw [List.filter_append, List.map_append]
  congr 1
  by_cases h : r.1 = i
  · simp [h]
  · simp [h]
theorem miss_add {n : Nat} {R : List BRow} {r : BRow} (h : r.1 < n) : missN n (R ++ [r]) = (missN n R).set r.1 (missAt R r.1 ++ [!r.2.1]) := by
  refine List.ext_getElem? fun i => ?_
  rw [List.getElem?_set]
  by_cases hi : i < n
  · rw [miss_get hi, miss_at_app]
    by_cases e : r.1 = i
    · subst e
      rw [if_pos rfl, if_pos rfl, miss_len, if_pos hi]
    · rw [if_neg e, if_neg e, miss_get hi, List.append_nil]
  · rw [List.getElem?_eq_none (by rw [miss_len]; omega)]
    by_cases e : r.1 = i
    · omega
    · rw [if_neg e, List.getElem?_eq_none (by rw [miss_len]; omega)]
theorem FoAt.put {n j f : Nat} {fs : List Nat} {bss : List (List Bool)} {bs : List Bool} {M M' : Mem} (h : FoAt n fs bss M) (hj : fs[j]? = some f) (g : M'[f]? = some (.lst (bs.map Dv.bl))) (k : Kp (At f) M M') : FoAt n fs (bss.set j bs) M' := by
  refine ⟨k.at h.hn (fun e => h.nf (by have e' : n = f := e; rw [e']; exact List.mem_of_getElem? hj)), by rw [List.length_set]; exact h.len, fun i f' bs' a b => ?_, h.nd, h.nf⟩
  rw [List.getElem?_set] at b
  by_cases e : j = i
  · subst e
    rw [hj] at a
    cases a
    rw [if_pos rfl] at b
    split at b
    · cases b; exact g
    · cases b
  · rw [if_neg e] at b
    refine k.at (h.hf i f' bs' a b) fun e' => e ?_
    have e' : f' = f := e'
    subst e'
    obtain ⟨i1, h1⟩ := List.getElem?_eq_some_iff.mp hj
    obtain ⟨i2, h2⟩ := List.getElem?_eq_some_iff.mp a
    exact (List.getElem_inj h.nd).mp (h1.trans h2.symm)
end L67

/-! text T9b_67 -/
namespace L67
open PySem L2 PySem.Spec PyProof.Rows Zl
theorem sp_moments {D : Dev} {ps : List Plc} {f g : Nat} {M : Mem} {O : List Bead} {R : List BRow} (hD : OkV D) (hps : OkPl ps) (hf : f ≤ 5000) (hg : g ≤ 600) (hF : bfs D ps g f [atB 0 (startS D)] [] = some (O, R)) :
    Wp (m_moments_of [devD D, planD ps] M) fun d M' => (∃ c o p q m x ss xs, d = .loc c ∧ MoAt c o p q m x O (missL R) ss xs M' ∧ M.length ≤ c) ∧ Kp NoW M M' := by
  refine wp_fn rfl [some (devD D), some (planD ps)] rfl ?_
  unfold b_moments_of
  array_get_dec
  refine (sp_checkDevice hD).go fun _ M1 k1 => ?_
  have hk1 := k1.1
  array_get_dec
  refine (sp_checkProgram hps).go fun _ M2 k2 => ?_
  have hk2 := k2.1
  array_get_dec
  rename_i c M3 e3 g3 k3 l3
  refine (sp_minit hD hps g3 hf hg hF).go ?_
  rintro _ M4 ⟨rfl, ⟨o, p, q, m, x, ss, xs, mo, ho⟩, k4⟩
  refine ⟨rfl, ?_⟩
  array_get_dec
  refine ⟨⟨c, o, p, q, m, x, ss, xs, rfl, mo, by omega⟩, ?_⟩
  refine ((k1.trN k2).trN k3).trans k4 fun n hn e => ?_
  have e' : n = c := e
  omega
theorem sp_verdicts {D : Dev} {ps : List Plc} {f g : Nat} {M : Mem} {O : List Bead} {R : List BRow} (hD : OkV D) (hps : OkPl ps) (hf : f ≤ 5000) (hg1 : 1 ≤ g) (hg : g ≤ 600) (hF : bfs D ps g f [atB 0 (startS D)] [] = some (O, R)) :
    Wp (m_verdicts [devD D, planD ps] M) fun d M' => d = .tup (strsD (verdF ps.length R)) ∧ Kp NoW M M' := by
  have h30 := hps.p30
  obtain ⟨r1, r2, r3⟩ := bfs_rows hD hps hF (by show 0 ≤ 1; decide) hg1 rfl (fun b hb => by
    have e : b = atB 0 (startS D) := by simpa using hb
    rw [e]; exact okB_start hD hps)
  have rl : R.length = O.length := by have := congrArg List.length r1; simpa using this
  refine wp_fn rfl [some (devD D), some (.tup (ps.map plcD)), none, none, none, none, none, none] rfl ?_
  unfold b_verdicts
  array_get_dec
  refine (sp_moments (ps := ps) hD hps hf hg hF).go ?_
  rintro _ M1 ⟨⟨c, o, p, q, m, x, ss, xs, rfl, mo, hcM⟩, k1⟩
  have hk1 := k1.1
  array_get_dec
  refine lc_empty (e1 := 1) (e6 := 6) (xs := ps.map plcD) rfl (by rw [List.length_map]; omega) fun n fs M2 en fo nf k2 => ?_
  rw [List.length_map] at fo
  have mo2 := mo.kpN k2
  have hc2 := mo2.hc
  have ho2 := mo2.ho
  have h1 := mo.co
  have h2 := mo.op
  have h3 := mo.pq
  have h4 := mo.qm
  have h5 := mo.mx
  have xl := lt_of mo.hx
  have fo0 : FoAt n fs (missN ps.length []) M2 := by
    have e : missN ps.length [] = List.replicate ps.length [] := by
      unfold missN
      refine List.ext_getElem? fun i => ?_
      rw [List.getElem?_map, List.getElem?_replicate]
      by_cases hi : i < ps.length
      · rw [List.getElem?_range hi, if_pos hi]; rfl
      · rw [List.getElem?_eq_none (by simpa using hi), if_neg hi]; rfl
    rw [e]; exact fo
  have memR : ∀ i (h : i < O.length), ∃ r, R[i]? = some r ∧ r.1 = (O[i]).1 ∧ (missL R)[i]? = some (!r.2.1) := fun i h => by
    have hr : i < R.length := by omega
    refine ⟨R[i], List.getElem?_eq_getElem hr, ?_, ?_⟩
    · have := congrArg (fun l => l[i]?) r1
      simp only [List.getElem?_map, List.getElem?_eq_getElem hr, List.getElem?_eq_getElem h, Option.map_some, Option.some.injEq] at this
      exact this
    · unfold missL
      rw [List.getElem?_map, List.getElem?_eq_getElem hr]; rfl
  array_get_dec
  refine wq_for (fun i env M' => ∃ (x4 x5 : Option Dv), env = [some (devD D), some (.tup (ps.map plcD)), some (.loc c), some (.loc n), x4, x5, none, none] ∧ FoAt n fs (missN ps.length (R.take i)) M' ∧ MoAt c o p q m x O (missL R) ss xs M' ∧ Kp NoW M M') ?_
  array_get_dec
  refine k_enumM ho2 ?_
  refine k_forEM (fun i env M' hh => ?_) ⟨none, none, rfl, fo0, mo2, k1.trN k2⟩ ?_ ?_
  · obtain ⟨x4, x5, _, _, b, _⟩ := hh
    exact b.ho
  · rintro i d env M3 hd ⟨x4, x5, rfl, a1, a2, a3⟩
    have hi : i < O.length := by have := (List.getElem?_eq_some_iff.mp hd).1; simpa using this
    have ed : d = .tup [.int ((O[i]).1 : Nat), .tup (intsN (O[i]).2.1), .tup (linesD (O[i]).2.2)] := by
      rw [List.getElem?_map, List.getElem?_eq_getElem hi] at hd
      cases hd; rfl
    subst ed
    obtain ⟨r, er, e1, em⟩ := memR i hi
    have okb := (r2 _ (List.getElem_mem hi)).1
    have hc3 := a2.hc
    have hm3 := a2.hm
    have hn3 := a1.hn
    have hlen := a1.len
    rw [miss_len] at hlen
    have hj : (O[i]).1 < fs.length := by omega
    have ej : (fs.map Dv.loc)[(O[i]).1]? = some (.loc fs[(O[i]).1]) := by rw [List.getElem?_map, List.getElem?_eq_getElem hj]; rfl
    have ef := a1.hf _ _ _ (List.getElem?_eq_getElem hj) (miss_get okb)
    have em' : ((missL R).map Dv.bl)[i]? = some (.bl (!r.2.1)) := by rw [List.getElem?_map, em]; rfl
    array_get_dec
    refine wq_append ef (size_lt (by
      unfold missAt
      rw [List.length_map, List.length_map]
      have := List.length_filter_le (fun r : BRow => r.1 == (O[i]).1) (R.take i)
      rw [List.length_take] at this
      omega)) ?_
    array_get_dec
    rename_i M4 g4 k4 l4
    have nfj : n < fs[(O[i]).1] := nf _ (List.getElem_mem hj)
    refine ⟨_, _, rfl, ?_, ?_, ?_⟩
    · have et : R.take (i + 1) = R.take i ++ [r] := take_one er
      rw [et, miss_add (by omega), e1]
      refine a1.put (List.getElem?_eq_getElem hj) ?_ k4
      rw [g4, List.map_append]; rfl
    · refine a2.kp k4 fun k e => ?_
      have e' : k = fs[(O[i]).1] := e
      omega
    · refine a3.trans k4 fun k hk e => ?_
      have e' : k = fs[(O[i]).1] := e
      omega
  · rintro env M3 ⟨x4, x5, rfl, a1, a2, a3⟩
    have a1 : FoAt n fs (missN ps.length (R.take (O.map beadD).length)) M3 := a1
    rw [List.length_map, List.take_of_length_le (by omega)] at a1
    have hn3 := a1.hn
    have hlen := a1.len
    rw [miss_len] at hlen
    array_get_dec
    refine wq_lcG (fun _ => true) (fun i => .str (wordOf (missAt R i))) ?_
    array_get_dec
    refine ⟨by show (fs.map Dv.loc).length ≤ _; rw [List.length_map]; omega, fun i M' k' hi => ?_, fun M' k' => ?_, fun nz M' ez lz k' gz => ?_⟩
    · have hi' : i < fs.length := by have : i < (fs.map Dv.loc).length := hi; simpa using this
      have ef := a1.hf _ _ _ (List.getElem?_eq_getElem hi') (miss_get (by omega : i < ps.length))
      refine ⟨.loc fs[i], by show stpL n i M' = _; rw [stpL_at (k'.at hn3 id), List.getElem?_map, List.getElem?_eq_getElem hi']; rfl, ?_⟩
      array_get_dec
      refine wp_ev (a := true) (M' := M') rfl ⟨rfl, .refl, fun _ => ?_⟩
      array_get_dec
      refine (sp_word (k'.at ef id)).go ?_
      rintro _ _ ⟨rfl, rfl⟩
      exact ⟨rfl, .refl⟩
    · show stpL n (fs.map Dv.loc).length M' = _
      rw [stpL_at (k'.at hn3 id), List.getElem?_eq_none (Nat.le_refl _)]
    have gz : M'[nz]? = some (.lst (strsD (verdF ps.length R))) := by
      rw [gz]
      show some (Ob.lst (((List.range (fs.map Dv.loc).length).filter fun _ => true).map _)) = _
      rw [List.filter_eq_self.mpr fun _ _ => rfl, List.length_map, hlen]
      unfold strsD verdF
      rw [List.map_map]; rfl
    array_get_dec
    exact ⟨rfl, a3.trN k'⟩
end L67

/-! text U1_67 -/
namespace L67
open PySem L2 PySem.Spec PyProof.Rows Zl
/-! ## _law_filled -/
theorem sp_filled {D : Dev} {st : List St1} {M : Mem} (hD : OkV D) (hs : OkSt D st) :
    Wp (m__law_filled [devD D, .tup (intsN (stgS st)), .tup (linesD (flatS st))] M) fun d M' => ∃ w s r ls, d = .loc w ∧ LAt w s r ls st M' ∧ M.length ≤ w ∧ M.length ≤ s ∧ M.length ≤ r ∧ (∀ l ∈ ls, M.length ≤ l) ∧ Kp NoW M M' := by
  refine wp_fn rfl [some (devD D), some (.tup (intsN (stgS st))), some (.tup (linesD (flatS st))), none, none, none] rfl ?_
  unfold b__law_filled
  array_get_dec
  rename_i r M1 e1 g1 k1 l1
  refine wu_for ?_
  array_get_dec
  refine wp_slT ?_
  rw [cut_tabs]
  cases D with
  | one t =>
    match st, hs with
    | [p], hs =>
      have hp : OkP t p := by cases hs with | cons a _ => exact a
      have hf : (flatS [p]).length = t.l := by show (p.2 ++ []).length = _; rw [List.append_nil, hp.2]
      have c0 : Zl.cutD (linesD (flatS [p])) (some 0) (some (0 + ((t.l : Nat) : Int))) = linesD p.2 := by
        have := cut_lines (xs := flatS [p]) (a := 0) (b := t.l) (by omega)
        rw [Nat.zero_add] at this
        rw [Int.zero_add]
        refine this.trans ?_
        show linesD ((p.2 ++ []).take t.l) = _
        rw [List.append_nil, ← hp.2, List.take_length]
      show kSrc _ (Dv.tup [tabD t]) M1
      array_get_dec
      refine wp_ev (a := .int (t.l : Nat)) (M' := M1) rfl ?_
      array_get_dec
      rename_i l5 M5 e5 g5 k5 l5'
      have g5 : M5[l5]? = some (.lst (linesD p.2)) := by rw [← c0]; exact g5
      refine wq_append (k5.at g1 id) (size_lt (by show 0 ≤ _; decide)) ?_
      array_get_dec
      rename_i M6 g6 k6 l6
      refine wp_ev (a := .int (t.l : Nat)) (M' := M6) rfl ?_
      array_get_dec
      rename_i s M7 e7 g7 k7 l7 w M8 e8 g8 k8 l8
      refine ⟨w, s, r, [l5], rfl, ⟨g8, k8.at g7 id, k8.at (k7.at g6 id) id, fun i l' p' h1 h2 => ?_, by simp, by omega, by omega, by omega, by simp; omega, by simp; omega, by simp; omega, rfl⟩, by omega, by omega, by omega, fun l' hl' => ?_, ?_⟩
      · cases i with
        | zero =>
          simp at h1 h2
          subst h1 h2
          exact k8.at (k7.at (k6.at g5 (by omega)) id) id
        | succ i => simp at h1
      · have : l' = l5 := by simpa using hl'
        omega
      · refine ((((k1.trN k5).trans k6 fun n hn e => ?_).trN k7).trN k8)
        have e' : n = r := e
        omega
    | [], hs => cases hs
    | _ :: _ :: _, hs => cases hs with | cons _ r => cases r
  | two m t u =>
    match st, hs with
    | [p, q], hs =>
      have hp : OkP t p := by cases hs with | cons a _ => exact a
      have hq : OkP u q := by cases hs with | cons _ r => cases r with | cons a _ => exact a
      have hf : flatS [p, q] = p.2 ++ q.2 := by show p.2 ++ (q.2 ++ []) = _; rw [List.append_nil]
      have hfl : (flatS [p, q]).length = t.l + u.l := by rw [hf, List.length_append, hp.2, hq.2]
      have c0 : Zl.cutD (linesD (flatS [p, q])) (some 0) (some (0 + ((t.l : Nat) : Int))) = linesD p.2 := by
        have := cut_lines (xs := flatS [p, q]) (a := 0) (b := t.l) (by omega)
        rw [Nat.zero_add] at this
        rw [Int.zero_add]
        refine this.trans ?_
        rw [List.drop_zero, hf, ← hp.2, List.take_left]
      have c1 : Zl.cutD (linesD (flatS [p, q])) (some (0 + ((t.l : Nat) : Int))) (some (0 + ((t.l : Nat) : Int) + ((u.l : Nat) : Int))) = linesD q.2 := by
        have := cut_lines (xs := flatS [p, q]) (a := t.l) (b := u.l) (by omega)
        rw [Int.zero_add]
        rw [show ((t.l : Nat) : Int) + ((u.l : Nat) : Int) = ((t.l + u.l : Nat) : Int) by omega]
        refine this.trans ?_
        rw [hf, ← hp.2, List.drop_left, ← hq.2, List.take_length]
      show kSrc _ (Dv.tup [tabD t, tabD u]) M1
      array_get_dec
      refine wp_ev (a := .int (t.l : Nat)) (M' := M1) rfl ?_
      array_get_dec
      rename_i l5 M5 e5 g5 k5 l5'
      have g5 : M5[l5]? = some (.lst (linesD p.2)) := by rw [← c0]; exact g5
      refine wq_append (k5.at g1 id) (size_lt (by show 0 ≤ _; decide)) ?_
      array_get_dec
      rename_i M6 g6 k6 l6
      refine wp_ev (a := .int (t.l : Nat)) (M' := M6) rfl ?_
      array_get_dec
      refine wp_ev (a := .int (u.l : Nat)) (M' := M6) rfl ?_
      array_get_dec
      rename_i l7 M7 e7 g7 k7 l7'
      have g7 : M7[l7]? = some (.lst (linesD q.2)) := by rw [← c1]; exact g7
      refine wq_append (k7.at g6 id) (size_lt (by show 1 ≤ _; decide)) ?_
      array_get_dec
      rename_i M8 g8 k8 l8
      refine wp_ev (a := .int (u.l : Nat)) (M' := M8) rfl ?_
      array_get_dec
      rename_i s M9 e9 g9 k9 l9 w Ma ea ga ka la
      have g5a := ka.at (k9.at (k8.at (k7.at (k6.at g5 (by omega)) id) (by omega)) id) id
      refine ⟨w, s, r, [l5, l7], rfl, ⟨ga, ka.at g9 id, ka.at (k9.at g8 id) id, fun i l' p' h1 h2 => ?_, by simp; omega, by omega, by omega, by omega, by simp; omega, by simp; omega, by simp; omega, rfl⟩, by omega, by omega, by omega, fun l' hl' => ?_, ?_⟩
      · match i, h1, h2 with
        | 0, h1, h2 =>
          simp at h1 h2
          subst h1 h2
          exact g5a
        | 1, h1, h2 =>
          simp at h1 h2
          subst h1 h2
          exact ka.at (k9.at (k8.at g7 (by omega)) id) id
        | i + 2, h1, h2 => simp at h1
      · have : l' = l5 ∨ l' = l7 := by simpa using hl'
        omega
      · refine (((((k1.trN k5).trans k6 fun n hn e => ?_).trN k7).trans k8 fun n hn e => ?_).trN k9).trN ka
        · have e' : n = r := e
          omega
        · have e' : n = r := e
          omega
    | [], hs => cases hs
    | [_], hs => cases hs with | cons _ r => cases r
    | _ :: _ :: _ :: _, hs => cases hs with | cons _ r => cases r with | cons _ r => cases r
end L67

/-! text U2_67 -/
namespace L67
open PySem L2 PySem.Spec PyProof.Rows Zl
/-! ## _law_beads: the turns within -/
theorem lf_flat {D : Dev} {w s r n : Nat} {ls : List Nat} {st : List St1} {M : Mem} {Q : QS} {y0 y1 y2 y3 y4 y5 y6 y7 y8 y9 y11 y12 y14 y15 y16 y17 : Option Dv} (hs : OkSt D st) (hD : OkV D) (h : LAt w s r ls st M) (hn : M[n]? = some (.lst []))
    (hq : ∀ y14' n' M', M'[n']? = some (.lst (linesD (flatS st))) → M.length ≤ n' → Kp NoW M M' → Q (.nx [y0, y1, y2, y3, y4, y5, y6, y7, y8, y9, some (.loc w), y11, y12, some (.loc n'), y14', y15, y16, y17]) M') :
    Wp (fFor (fSrc (fO ixE (fV 10) (fK (.int 1)))) (gN 14) (fSet 13 (fO addD (fV 13) (fV 14))) [y0, y1, y2, y3, y4, y5, y6, y7, y8, y9, some (.loc w), y11, y12, some (.loc n), y14, y15, y16, y17] M) Q := by
  have hw := h.hw
  have hr := h.hr
  have hlen := h.len
  refine wu_for ?_
  array_get_dec
  cases D with
  | one t =>
    match st, hs with
    | [p], hs =>
      match ls, hlen with
      | [l], _ =>
        have hp : OkP t p := by cases hs with | cons a _ => exact a
        have hl4 := (hD t (by simp [Dev.tabs])).l4
        have g0 := h.hl 0 l p rfl rfl
        have hl := hp.2
        array_get_dec
        refine wq_addL hn g0 (by simp [linesD]; omega) ?_
        array_get_dec
        rename_i n1 M1 e1 g1 k1 l1
        have hr1 := k1.at hr id
        array_get_dec
        refine hq _ n1 M1 ?_ (by omega) k1
        rw [g1]
        show some (Ob.lst ([] ++ linesD p.2)) = some (Ob.lst (linesD (p.2 ++ [])))
        rw [List.nil_append, List.append_nil]
    | [], hs => cases hs
    | _ :: _ :: _, hs => cases hs with | cons _ r => cases r
  | two m t u =>
    match st, hs with
    | [p, q], hs =>
      match ls, hlen with
      | [l, l'], _ =>
        have hp : OkP t p := by cases hs with | cons a _ => exact a
        have hq' : OkP u q := by cases hs with | cons _ r => cases r with | cons a _ => exact a
        have hl4 := (hD t (by simp [Dev.tabs])).l4
        have hl4' := (hD u (by simp [Dev.tabs])).l4
        have g0 := h.hl 0 l p rfl rfl
        have g0' := h.hl 1 l' q rfl rfl
        have hl := hp.2
        have hl' := hq'.2
        array_get_dec
        refine wq_addL hn g0 (by simp [linesD]; omega) ?_
        array_get_dec
        rename_i n1 M1 e1 g1 k1 l1
        have hr1 := k1.at hr id
        array_get_dec
        refine wq_addL g1 (k1.at g0' id) (by simp [linesD]; omega) ?_
        array_get_dec
        rename_i n2 M2 e2 g2 k2 l2
        have hr2 := k2.at hr1 id
        array_get_dec
        refine hq _ n2 M2 ?_ (by omega) (k1.trN k2)
        rw [g2]
        show some (Ob.lst ([] ++ linesD p.2 ++ linesD q.2)) = some (Ob.lst (linesD (p.2 ++ (q.2 ++ []))))
        rw [List.nil_append, List.append_nil]
        unfold linesD
        rw [List.map_append]
    | [], hs => cases hs
    | [_], hs => cases hs with | cons _ r => cases r
    | _ :: _ :: _ :: _, hs => cases hs with | cons _ r => cases r with | cons _ r => cases r
end L67

/-! text U3_67 -/
namespace L67
open PySem L2 PySem.Spec PyProof.Rows Zl
abbrev LW (o p n : Nat) : Nat → Prop := fun k => k = o ∨ k = p ∨ k = n
theorem lb_for {ps : List Plc} {o p n w s r nf t : Nat} {st : List St1} {ord : List Bead} {M : Mem} {Q : QS} {y0 y2 y3 y6 y8 y9 y12 y14 y15 y16 y17 : Option Dv} (ht : t < ps.length) (tgl : (plcAt ps t).2.length ≤ 100) (ho : M[o]? = some (.lst (ord.map beadD))) (hp : M[p]? = some (.dcn (enN beadK beadD ord))) (hor : ord.length ≤ 10000)
    (hw : M[w]? = some (.lst [.loc s, .loc r])) (hs : M[s]? = some (.lst (stagesD st))) (hf : M[nf]? = some (.lst (linesD (flatS st)))) (hn : M[n]? = some (.lst [])) (op : o < p) (pw : p < w) (ps_ : p < s) (pf : p < nf) (pn : p < n) (nw : n ≠ w) (nS : n ≠ s) (nnf : n ≠ nf)
    (hq : ∀ y15' y16' M', M'[o]? = some (.lst ((places ord ((plcAt ps t).2.map fun t' => atB t' st)).2.map beadD)) → M'[p]? = some (.dcn (enN beadK beadD (places ord ((plcAt ps t).2.map fun t' => atB t' st)).2)) → M'[n]? = some (.lst (intsN (places ord ((plcAt ps t).2.map fun t' => atB t' st)).1)) → Kp (LW o p n) M M' →
      Q (.nx [y0, some (.tup (ps.map plcD)), y2, y3, some (.loc o), some (.loc p), y6, some (.int (t : Nat)), y8, y9, some (.loc w), some (.loc n), y12, some (.loc nf), y14, y15', y16', y17]) M') :
    Wp (fFor (fSrc (fO ixE (fO ixE (fV 1) (fV 7)) (fK (.int 1)))) (gN 15) (fSeq (fSet 16 (fTup (fCons (fV 15) (fCons (fC tupD (fCons (fO ixE (fV 10) (fK (.int 0))) fNil)) (fCons (fC tupD (fCons (fV 13) fNil)) fNil))))) (fSeq (fIfS (fB (fO (inE true) (fV 16) (fV 5))) (fSeq (fAsg (fC lenE (fCons (fV 4) fNil)) (gSE (fV 5) (fV 16))) (fDrop ((fM "list" appendD (fV 4) (fCons (fV 16) fNil))))) fEnd) (fDrop ((fM "list" appendD (fV 11) (fCons (fO ixE (fV 5) (fV 16)) fNil))))))
      [y0, some (.tup (ps.map plcD)), y2, y3, some (.loc o), some (.loc p), y6, some (.int (t : Nat)), y8, y9, some (.loc w), some (.loc n), y12, some (.loc nf), y14, y15, y16, y17] M) Q := by
  have ep : (ps.map plcD)[t]? = some (.tup [.str (plcAt ps t).1, .tup (intsN (plcAt ps t).2)]) := by rw [List.getElem?_map, plc_get ht]; rfl
  generalize (plcAt ps t).1 = nm at ep
  generalize (plcAt ps t).2 = tg at ep tgl hq
  refine wq_for (fun i env M' => ∃ (y15' y16' : Option Dv), env = [y0, some (.tup (ps.map plcD)), y2, y3, some (.loc o), some (.loc p), y6, some (.int (t : Nat)), y8, y9, some (.loc w), some (.loc n), y12, some (.loc nf), y14, y15', y16', y17] ∧
    M'[o]? = some (.lst ((places ord ((tg.take i).map fun t' => atB t' st)).2.map beadD)) ∧ M'[p]? = some (.dcn (enN beadK beadD (places ord ((tg.take i).map fun t' => atB t' st)).2)) ∧ M'[n]? = some (.lst (intsN (places ord ((tg.take i).map fun t' => atB t' st)).1)) ∧ Kp (LW o p n) M M') ?_
  array_get_dec
  have hlt : (intsN tg).length = tg.length := by simp [intsN]
  refine k_forT ⟨y15, y16, rfl, ho, hp, hn, .refl⟩ ?_ ?_
  · rintro i d env M1 hd ⟨y15', y16', rfl, a1, a2, a3, a4⟩
    have hi : i < tg.length := by have := (List.getElem?_eq_some_iff.mp hd).1; omega
    have ei : tg[i]? = some tg[i] := List.getElem?_eq_getElem hi
    have ed : d = .int (tg[i] : Nat) := by
      unfold intsN at hd
      rw [List.getElem?_map, ei] at hd
      cases hd; rfl
    subst ed
    have hw1 := a4.at hw (by rintro (e | e | e) <;> omega)
    have hs1 := a4.at hs (by rintro (e | e | e) <;> omega)
    have hf1 := a4.at hf (by rintro (e | e | e) <;> omega)
    array_get_dec
    have mb : (.tup [.int (tg[i] : Nat), .tup (stagesD st), .tup (linesD (flatS st))] : Dv) = beadD (atB tg[i] st) := by rw [stages_ints]; rfl
    rw [mb]
    have hk := key_bead (atB tg[i] st)
    have st1 : places ord ((tg.take (i + 1)).map fun t' => atB t' st) = ((places ord ((tg.take i).map fun t' => atB t' st)).1 ++ [(placeOf (places ord ((tg.take i).map fun t' => atB t' st)).2 (atB tg[i] st)).1], (placeOf (places ord ((tg.take i).map fun t' => atB t' st)).2 (atB tg[i] st)).2) := by
      rw [take_one ei, List.map_append, places_app]; rfl
    have hmo := places_more ord ((tg.take i).map fun t' => atB t' st)
    have htk : ((tg.take i).map fun t' => atB t' st).length ≤ 100 := by rw [List.length_map, List.length_take]; omega
    have hpl1 := places_len ord ((tg.take i).map fun t' => atB t' st)
    rw [st1]
    generalize (places ord ((tg.take i).map fun t' => atB t' st)).2 = od at a1 a2 hmo ⊢
    generalize (places ord ((tg.take i).map fun t' => atB t' st)).1 = js at a3 hpl1 ⊢
    generalize atB tg[i] st = b at hk ⊢
    have hv := val_enN (δ := beadD) bead_inj b od
    array_get_dec
    refine wp_inN a2 hk ?_
    array_get_dec
    by_cases hb : b ∈ od
    · rw [if_pos hb] at hv
      have e : placeOf od b = (ixOf b od, od) := by unfold placeOf; rw [if_pos hb]
      rw [e]
      refine ki_of (c := false) (by rw [hv]; rfl) ?_
      array_get_dec
      refine wp_ixN a2 hk hv ?_
      array_get_dec
      refine wq_append a3 (size_lt (by simp [intsN]; omega)) ?_
      array_get_dec
      rename_i M2 g2 k2 l2
      refine ⟨_, _, rfl, k2.at a1 (by omega), k2.at a2 (by omega), ?_, a4.trans k2 fun k _ e => .inr (.inr e)⟩
      rw [g2]; unfold intsN; rw [List.map_append]; rfl
    · rw [if_neg hb] at hv
      have e : placeOf od b = (od.length, od ++ [b]) := by unfold placeOf; rw [if_neg hb]
      rw [e]
      refine ki_of (c := true) (by rw [hv]; rfl) ?_
      array_get_dec
      refine k_setDn a2 hk (by rw [en_len]; omega) ?_
      array_get_dec
      rename_i M2 g2 k2 l2
      have a12 := k2.at a1 (by omega)
      array_get_dec
      refine wq_append a12 (size_lt (by rw [List.length_map]; omega)) ?_
      array_get_dec
      rename_i M3 g3 k3 l3
      have g23 := k3.at g2 (by omega)
      rw [List.length_map, put_enN bead_inj hb] at g23
      have hv2 := val_enN (δ := beadD) bead_inj b (od ++ [b])
      rw [if_pos (by simp), ix_new hb] at hv2
      have a33 := k3.at (k2.at a3 (by omega)) (by omega)
      array_get_dec
      refine wp_ixN g23 hk hv2 ?_
      array_get_dec
      refine wq_append a33 (size_lt (by simp [intsN]; omega)) ?_
      array_get_dec
      rename_i M4 g4 k4 l4
      refine ⟨_, _, rfl, ?_, k4.at g23 (by omega), ?_, ((a4.trans k2 fun k _ e => .inr (.inl e)).trans k3 fun k _ e => .inl e).trans k4 fun k _ e => .inr (.inr e)⟩
      · rw [List.map_append]; exact k4.at g3 (by omega)
      · rw [g4]; unfold intsN; rw [List.map_append]; rfl
  · rintro env M1 ⟨y15', y16', rfl, a1, a2, a3, a4⟩
    rw [hlt, List.take_length] at a1 a2 a3
    array_get_dec
    exact hq y15' y16' M1 a1 a2 a3 a4
end L67

/-! text U4_67 -/
namespace L67
open PySem L2 PySem.Spec PyProof.Rows Zl
/-! ## _law_beads -/
def bRowD (r : BRow) (l : Nat) : Dv := .tup [.int (r.1 : Nat), .bl r.2.1, .loc l]
structure RwAt (n : Nat) (ls : List Nat) (R : List BRow) (M : Mem) : Prop where
  hn : M[n]? = some (.lst (List.zipWith bRowD R ls))
  len : ls.length = R.length
  hl : ∀ (i l : Nat) r, ls[i]? = some l → R[i]? = some r → M[l]? = some (.lst (intsN r.2.2))
  nl : ∀ l ∈ ls, n < l
theorem RwAt.kp {n : Nat} {ls : List Nat} {R : List BRow} {M M' : Mem} {W : Nat → Prop} (h : RwAt n ls R M) (k : Kp W M M') (h1 : ¬ W n) (h2 : ∀ l ∈ ls, ¬ W l) : RwAt n ls R M' :=
  ⟨k.at h.hn h1, h.len, fun i l r a b => k.at (h.hl i l r a b) (h2 l (List.mem_of_getElem? a)), h.nl⟩
theorem RwAt.kpN {n : Nat} {ls : List Nat} {R : List BRow} {M M' : Mem} (h : RwAt n ls R M) (k : Kp NoW M M') : RwAt n ls R M' := h.kp k id fun _ _ => id
theorem RwAt.zl {n : Nat} {ls : List Nat} {R : List BRow} {M : Mem} (h : RwAt n ls R M) : (List.zipWith bRowD R ls).length = R.length := by
  rw [List.length_zipWith, h.len, Nat.min_self]
theorem RwAt.lt {n : Nat} {ls : List Nat} {R : List BRow} {M : Mem} (h : RwAt n ls R M) : n < M.length ∧ ∀ l ∈ ls, l < M.length := by
  refine ⟨lt_of h.hn, fun l hl => ?_⟩
  obtain ⟨i, hi⟩ := List.getElem?_of_mem hl
  have hi2 : i < R.length := by rw [← h.len]; exact (List.getElem?_eq_some_iff.mp hi).1
  exact lt_of (h.hl i l _ hi (List.getElem?_eq_getElem hi2))
theorem RwAt.put {n l : Nat} {ls : List Nat} {R : List BRow} {r : BRow} {M M' : Mem} (h : RwAt n ls R M) (hl : M[l]? = some (.lst (intsN r.2.2))) (nl : n < l) (g : M'[n]? = some (.lst (List.zipWith bRowD R ls ++ [bRowD r l]))) (k : Kp (At n) M M') : RwAt n (ls ++ [l]) (R ++ [r]) M' := by
  refine ⟨?_, by simp [h.len], fun i l' r' a b => ?_, fun l' hl' => ?_⟩
  · rw [g, List.zipWith_append h.len.symm]; rfl
  · by_cases hi : i < ls.length
    · rw [List.getElem?_append_left hi] at a
      rw [List.getElem?_append_left (by rw [← h.len]; exact hi)] at b
      exact k.at (h.hl i l' r' a b) (by have := h.nl l' (List.mem_of_getElem? a); intro e; have e' : l' = n := e; omega)
    · have e : i = ls.length := by
        have := (List.getElem?_eq_some_iff.mp a).1
        rw [List.length_append] at this
        simp only [List.length_cons, List.length_nil] at this
        omega
      subst e
      rw [List.getElem?_append_right (Nat.le_refl _)] at a
      rw [List.getElem?_append_right (by rw [h.len]; exact Nat.le_refl _)] at b
      simp at a
      simp [h.len] at b
      subst a b
      exact k.at hl (by intro e; have e' : l = n := e; omega)
  · rcases List.mem_append.mp hl' with hl' | hl'
    · exact h.nl l' hl'
    · have e : l' = l := by simpa using hl'
      omega
theorem bfs_over {D : Dev} {ps : List Plc} {g f : Nat} {o : List Bead} {rs : List BRow} {b : Bead} (e : o[rs.length]? = some b) : bfs D ps g (f + 1) o rs = if g < (places o (nextB D ps b)).2.length then none else bfs D ps g f (places o (nextB D ps b)).2 (rs ++ [(b.1, hitB' D ps b, (places o (nextB D ps b)).1)]) := by
  show (match o[rs.length]? with | none => _ | some b => _) = _
  rw [e]
theorem bfs_done {D : Dev} {ps : List Plc} {g f : Nat} {o : List Bead} {rs : List BRow} (h : ¬ rs.length < o.length) : bfs D ps g (f + 1) o rs = some (o, rs) := by
  show (match o[rs.length]? with | none => _ | some b => _) = _
  rw [List.getElem?_eq_none (by omega)]
/-- what _law_beads tells -/
def BeadsIs (F : Option (List Bead × List BRow)) (b0 : Nat) (d : Dv) (M : Mem) : Prop := match F with
  | some (_, R) => ∃ n ls, d = .loc n ∧ RwAt n ls R M ∧ b0 ≤ n
  | none => d = .non
theorem intsD_N : ∀ ns : List Nat, intsD (intsN ns) = some (ns.map Int.ofNat)
  | [] => rfl
  | n :: ns => by
    show (match intsD (intsN ns) with | some is => some ((n : Int) :: is) | none => none) = _
    rw [intsD_N ns]; rfl
theorem sum_N : ∀ ns : List Nat, (ns.map Int.ofNat).sum = ((ns.sum : Nat) : Int)
  | [] => rfl
  | n :: ns => by
    rw [List.map_cons, List.sum_cons, List.sum_cons, sum_N ns]
    exact (Int.natCast_add n ns.sum).symm
theorem wp_sumL {n : Nat} {ns : List Nat} {M : Mem} {q : QE} (hm : M[n]? = some (.lst (intsN ns))) (k : q (.int (ns.sum : Nat)) M) : Wp (sumD [.loc n] M) q := by
  refine wp_ev ?_ k
  unfold sumD
  simp only [hm, intsD_N, sum_N]
def lwStart : FE := (fTup (fCons (fK (.int 0)) (fCons (fO mulD (fTup (fCons (fK (.int 0)) fNil)) (fO subD (fC lenE (fCons (fV 0) fNil)) (fK (.int 1)))) (fCons (fO mulD (fTup (fCons (fK .non) fNil)) (fC sumD (fCons (fComp (fSrc (fSl (fV 0) (fP (fK (.int 1))) fNoP)) [17] (gN 17) fYes (fO ixE (fV 17) (fK (.int 0)))) fNil))) fNil))))
theorem lw_start {D : Dev} {env : En} {M : Mem} {q : QE} (hD : OkV D) (h0 : env[0]? = some (some (devD D))) (hlen : env.length = 18) (hq : ∀ M', Kp NoW M M' → q (beadD (atB 0 (startS D))) M') : Wp (lwStart env M) q := by
  match env, hlen with
  | [y0, y1, y2, y3, y4, y5, y6, y7, y8, y9, y10, y11, y12, y13, y14, y15, y16, y17], _ =>
  cases h0
  unfold lwStart
  cases D with
  | one t =>
    have ht := hD t (by simp [Dev.tabs])
    have h1 := ht.l1
    have h4 := ht.l4
    array_get_dec
    change Wp (mulD (.tup [.int 0]) (.int ((1 : Nat) : Int)) M) _
    refine wp_mulT (by decide) (by decide) ?_
    array_get_dec
    refine wu_comp ?_
    array_get_dec
    refine wp_slT ?_
    rw [cut_tabs (D := .one t)]
    show kSrc _ (Dv.tup [tabD t]) M
    array_get_dec
    refine wp_ev (a := .int (t.l : Nat)) (M' := _) rfl ?_
    array_get_dec
    rename_i n1 M1 e1 g1 k1 l1 M2 g2 k2 l2
    have g2 : M2[n1]? = some (.lst (intsN [t.l])) := g2
    refine wp_sumL g2 ?_
    array_get_dec
    refine wp_mulT (k := [t.l].sum) (by simp; omega) (by simp; omega) ?_
    array_get_dec
    have e : (.tup [.int 0, .tup (List.replicate 1 [Dv.int 0]).flatten, .tup (List.replicate [t.l].sum [Dv.non]).flatten] : Dv) = beadD (atB 0 (startS (.one t))) := by
      unfold beadD atB stgS flatS startS
      simp [Dev.tabs, intsN, linesD, lnD, startP]
    rw [e]
    refine hq M2 (k1.trans k2 fun n hn e => ?_)
    have e' : n = n1 := e
    omega
  | two m t u =>
    have ht := hD t (by simp [Dev.tabs])
    have hu := hD u (by simp [Dev.tabs])
    have h1 := ht.l1
    have h4 := ht.l4
    have h1' := hu.l1
    have h4' := hu.l4
    array_get_dec
    change Wp (mulD (.tup [.int 0]) (.int ((2 : Nat) : Int)) M) _
    refine wp_mulT (by decide) (by decide) ?_
    array_get_dec
    refine wu_comp ?_
    array_get_dec
    refine wp_slT ?_
    rw [cut_tabs (D := .two m t u)]
    show kSrc _ (Dv.tup [tabD t, tabD u]) M
    array_get_dec
    refine wp_ev (a := .int (t.l : Nat)) (M' := _) rfl ?_
    array_get_dec
    rename_i n1 M1 e1 g1 k1 l1 M2 g2 k2 l2
    refine wp_ev (a := .int (u.l : Nat)) (M' := _) rfl ?_
    array_get_dec
    rename_i M3 g3 k3 l3
    have g3 : M3[n1]? = some (.lst (intsN [t.l, u.l])) := g3
    refine wp_sumL g3 ?_
    array_get_dec
    refine wp_mulT (k := [t.l, u.l].sum) (by simp; omega) (by simp; omega) ?_
    array_get_dec
    have e : (.tup [.int 0, .tup (List.replicate 2 [Dv.int 0]).flatten, .tup (List.replicate [t.l, u.l].sum [Dv.non]).flatten] : Dv) = beadD (atB 0 (startS (.two m t u))) := by
      unfold beadD atB stgS flatS startS
      simp [Dev.tabs, intsN, linesD, lnD, startP, List.replicate_append_replicate]
    rw [e]
    refine hq M3 ((k1.trans k2 fun n hn e => ?_).trans k3 fun n hn e => ?_)
    · have e' : n = n1 := e
      omega
    · have e' : n = n1 := e
      omega
theorem sp_beads {D : Dev} {ps : List Plc} {g : Nat} {M : Mem} (hD : OkV D) (hps : OkPl ps) (g1 : 1 ≤ g) (hg : g ≤ 9000) :
    Wp (m__law_beads [devD D, planD ps, .int (g : Nat)] M) fun d M' => BeadsIs (bfs D ps g (g + 1) [atB 0 (startS D)] []) M.length d M' ∧ Kp NoW M M' := by
  have hp30 := hps.p30
  refine wp_fn rfl [some (devD D), some (.tup (ps.map plcD)), some (.int (g : Nat)), none, none, none, none, none, none, none, none, none, none, none, none, none, none, none] rfl ?_
  unfold b__law_beads
  refine wp_seq (wp_set (lw_start hD rfl rfl fun M1 k1 => ?_))
  array_get_dec
  rename_i o M2 e2 g2 k2 l2
  refine wp_or1 ?_
  refine wq_dict1N ?_
  array_get_dec
  rename_i p M3 e3 g3 k3 l3
  refine ⟨_, g3, key_bead _, ?_⟩
  array_get_dec
  rename_i M4 g4 k4 l4 n M5 e5 g5 k5 l5
  have ho5 := k5.at (k4.at (k3.at g2 id) (by omega)) id
  have hp5 := k5.at g4 id
  have rw0 : RwAt n [] [] M5 := ⟨g5, rfl, (fun i l r a => by simp at a), (fun l hl => by simp at hl)⟩
  have hk1 := k1.1
  have kk5 : Kp NoW M M5 := (((k1.trN k2).trN k3).trans k4 fun n' hn' e => by have e' : n' = p := e; omega).trN k5
  generalize hF : bfs D ps g (g + 1) [atB 0 (startS D)] [] = F
  refine wp_whileI (fun k env M' => ∃ (x3 x7 x8 x9 x10 x11 x12 x13 x14 x15 x16 x17 : Option Dv) (ord : List Bead) (rows : List BRow) (ls : List Nat), env = [some (devD D), some (.tup (ps.map plcD)), some (.int (g : Nat)), x3, some (.loc o), some (.loc p), some (.loc n), x7, x8, x9, x10, x11, x12, x13, x14, x15, x16, x17] ∧
    M'[o]? = some (.lst (ord.map beadD)) ∧ M'[p]? = some (.dcn (enN beadK beadD ord)) ∧ RwAt n ls rows M' ∧ rows.length ≤ ord.length ∧ ord.length ≤ g ∧ k + rows.length = g + 1 ∧ (∀ b ∈ ord, OkB D ps b) ∧ bfs D ps g k ord rows = F ∧ Kp NoW M M') ?_ 1000000 (g + 1) _ _ (by omega)
    ⟨_, none, none, none, none, none, none, none, none, none, none, none, [atB 0 (startS D)], [], [], rfl, ho5, hp5, rw0, Nat.zero_le _, g1, rfl, fun b hb => by
      have e : b = atB 0 (startS D) := by simpa using hb
      rw [e]; exact okB_start hD hps, hF, kk5⟩
  rintro k env M6 ⟨x3, x7, x8, x9, x10, x11, x12, x13, x14, x15, x16, x17, ord, rows, ls, rfl, ho, hp, rw6, hro, hog, hkr, hok, hm, kk6⟩
  have hn6 := rw6.hn
  have hz := rw6.zl
  have hM6 := kk6.1
  generalize hzs : List.zipWith bRowD rows ls = zs at hn6 hz
  array_get_dec
  by_cases hl : rows.length < ord.length
  · rw [decide_eq_true (by rw [hz, List.length_map]; exact_mod_cast hl)]
    refine (show Wp _ _ from ?_)
    have eb : ord[rows.length]? = some ord[rows.length] := List.getElem?_eq_getElem hl
    cases k with
    | zero => omega
    | succ k =>
      have okb := hok _ (List.mem_of_getElem? eb)
      generalize ord[rows.length] = b at eb okb
      rw [bfs_over eb] at hm
      have okn : ∀ y ∈ nextB D ps b, OkB D ps y := fun y hy => okB_next hD hps okb hy
      obtain ⟨hb1, st, os, iv, e2⟩ := okb
      obtain ⟨t, b2⟩ := b
      have e2 : b2 = (stgS st, flatS st) := e2
      subst e2
      have hb1 : t < ps.length := hb1
      have hnx : nextB D ps (t, stgS st, flatS st) = (plcAt ps t).2.map fun t' => atB t' (askS D st (plcAt ps t).1) := next_at os
      have hht : hitB' D ps (t, stgS st, flatS st) = heldS st (plcAt ps t).1 := hit_at os
      rw [hnx] at hm okn
      rw [hht] at hm
      have eb' : (ord.map beadD)[zs.length]? = some (.tup [.int (t : Nat), .tup (intsN (stgS st)), .tup (linesD (flatS st))]) := by rw [hz, List.getElem?_map, eb]; rfl
      have ep : (ps.map plcD)[t]? = some (.tup [.str (plcAt ps t).1, .tup (intsN (plcAt ps t).2)]) := by rw [List.getElem?_map, plc_get hb1]; rfl
      have tgl := pw_len (hps.tg _ (plc_mem hb1)) (hps.up _ (plc_mem hb1))
      array_get_dec
      refine (sp_filled hD os).go ?_
      rintro _ M7 ⟨w, s, r, ll, rfl, la, z1, z2, z3, z4, k7⟩
      have hM7 := k7.1
      array_get_dec
      rename_i gl M8 e8 g8 k8 l8
      have la8 := la.kpN k8
      array_get_dec
      refine (sp_askL hD la8 os iv).go ?_
      rintro _ M9 ⟨rfl, la9, k9⟩
      have hM9 := k9.1
      have z9 := la8.lt
      have z7 := la.lt
      have gl9 := k9.at g8 (by
        rintro (e | e)
        · have := la.lt.2.1; omega
        · have := la.lt.2.2.2 gl e; omega)
      array_get_dec
      rename_i nf Ma ea ga ka la'
      refine lf_flat (ask_ok hD os (plcAt ps t).1) hD (la9.kpN ka) ga ?_
      intro y14' nf' Mb gb lb kb
      have hMb := kb.1
      have lab := (la9.kpN ka).kpN kb
      have hhM : M6.length ≤ M7.length := hM7
      have n6 := rw6.lt
      have op' : o < p := by omega
      have oz : ∀ x, x = o ∨ x = p ∨ x = n ∨ x ∈ ls → x < M6.length := by
        rintro x (e | e | e | e)
        · rw [e]; exact lt_of ho
        · rw [e]; exact lt_of hp
        · rw [e]; exact n6.1
        · exact n6.2 x e
      have keep9 : ∀ x, x < M6.length → ¬ BW s ll x := by
        rintro x hx (e | e)
        · omega
        · have := z4 x e; omega
      have k69 : Kp NoW M6 M9 := (k7.trN k8).trans k9 fun x hx e => (keep9 x hx e).elim
      have k6b : Kp NoW M6 Mb := (k69.trN ka).trN kb
      have rwb := rw6.kpN k6b
      array_get_dec
      refine lb_for hb1 (by omega) (k6b.at ho id) (k6b.at hp id) (by omega) lab.hw lab.hs gb (kb.at (ka.at gl9 id) id) op' (by omega) (by omega) (by omega) (by omega) (by omega) (by omega) (by omega) ?_
      intro y15' y16' Mc hoc hpc hgc kc
      have lwn : ∀ x, x < M6.length → x ≠ o → x ≠ p → ¬ LW o p gl x := by
        rintro x hx h1 h2 (e | e | e) <;> omega
      have rwc := rwb.kp kc (by rintro (e | e | e) <;> omega) (fun l hl => by
        have := rw6.nl l hl
        have := n6.2 l hl
        rintro (e | e | e) <;> omega)
      have hnc := rwc.hn
      rw [hzs] at hnc
      have hcM := kc.1
      array_get_dec
      refine wq_append hnc (size_lt (by omega)) ?_
      array_get_dec
      rename_i Md gd kd ld
      have hod := kd.at hoc (by omega)
      have hpl := places_ge ord ((plcAt ps t).2.map fun t' => atB t' (askS D st (plcAt ps t).1))
      have kkd : Kp NoW M Md := ((kk6.trN k6b).trans kc fun x hx e => by rcases e with e | e | e <;> omega).trans kd fun x hx e => by
        have e' : x = n := e
        omega
      generalize hPL : (places ord ((plcAt ps t).2.map fun t' => atB t' (askS D st (plcAt ps t).1))) = PL at hoc hpc hgc hm hpl hod
      array_get_dec
      by_cases hgt : g < PL.2.length
      · rw [if_pos hgt] at hm
        refine ki_of (c := true) (decide_eq_true (by rw [List.length_map]; exact_mod_cast hgt)) ?_
        array_get_dec
        rw [← hm]
        exact ⟨rfl, kkd⟩
      · rw [if_neg hgt] at hm
        refine ki_of (c := false) (decide_eq_false (by rw [List.length_map]; exact_mod_cast hgt)) ?_
        array_get_dec
        refine ⟨k, by omega, _, _, _, _, _, _, _, _, _, _, _, _, PL.2, rows ++ [(t, heldS st (plcAt ps t).1, PL.1)], ls ++ [gl], rfl, hod, kd.at hpc (by omega), ?_, ?_, by omega, ?_, ?_, hm, kkd⟩
        · rw [← hzs] at gd
          exact rwc.put (r := (t, heldS st (plcAt ps t).1, PL.1)) hgc (by omega) gd kd
        · rw [List.length_append]
          simp only [List.length_cons, List.length_nil]
          omega
        · rw [List.length_append]
          simp only [List.length_cons, List.length_nil]
          omega
        · rw [← hPL]
          exact places_all hok okn
  · rw [decide_eq_false (by rw [hz, List.length_map]; exact_mod_cast hl)]
    cases k with
    | zero => omega
    | succ k =>
      rw [bfs_done hl] at hm
      array_get_dec
      rw [← hm]
      exact ⟨⟨n, ls, rfl, rw6, by omega⟩, kk6⟩
end L67

/-! text U5_67 -/
namespace L67
open PySem L2 PySem.Spec PyProof.Rows Zl
/-! ## _law_words -/
def toldAt (R : List BRow) (i : Nat) : List Bool := (R.filter fun r => r.1 == i).map (·.2.1)
def wordT (bs : List Bool) : Str := if bs = [] then "never" else if true ∈ bs ∧ false ∈ bs then "both" else if true ∈ bs then "hit" else "miss"
theorem miss_told {R : List BRow} {i : Nat} : missAt R i = (toldAt R i).map (!·) := by
  unfold missAt toldAt
  rw [List.map_map]; rfl
theorem all_not : ∀ bs : List Bool, ((bs.map (!·)).all id = true ↔ true ∉ bs) ∧ ((bs.map (!·)).any id = true ↔ false ∈ bs)
  | [] => by simp
  | b :: bs => by
    obtain ⟨h1, h2⟩ := all_not bs
    cases b
    · simp [h1]
    · simp [h2]
theorem word_told (bs : List Bool) : wordT bs = wordOf (bs.map (!·)) := by
  obtain ⟨h1, h2⟩ := all_not bs
  unfold wordT wordOf
  by_cases e : bs = []
  · subst e; rfl
  · have e2 : bs.map (!·) ≠ [] := by simpa using e
    rw [if_neg e, if_neg e2]
    by_cases ht : true ∈ bs
    · rw [if_neg (c := (bs.map (!·)).all id = true) (fun z => (h1.mp z) ht)]
      by_cases hf : false ∈ bs
      · rw [if_pos (c := true ∈ bs ∧ false ∈ bs) ⟨ht, hf⟩, if_pos (h2.mpr hf)]
      · rw [if_neg (c := true ∈ bs ∧ false ∈ bs) (fun z => hf z.2), if_pos ht, if_neg (fun z => hf (h2.mp z))]
    · rw [if_neg (c := true ∈ bs ∧ false ∈ bs) (fun z => ht z.1), if_neg ht, if_pos (h1.mpr ht)]
def pAt (i : Nat) : Dv → Bool
  | .tup [.int k, _, _] => k == (i : Int)
  | _ => false
def sndB : Dv → Dv
  | .tup [_, b, _] => b
  | _ => .non
theorem told_filter (i : Nat) : ∀ {R : List BRow} {ls : List Nat}, ls.length = R.length → ((List.zipWith bRowD R ls).filter (pAt i)).map sndB = (toldAt R i).map Dv.bl
  | [], [], _ => rfl
  | [], _ :: _, h => by cases h
  | _ :: _, [], h => by cases h
  | r :: R, l :: ls, h => by
    have ih := told_filter i (R := R) (ls := ls) (by simpa using h)
    have e : pAt i (bRowD r l) = (r.1 == i) := by
      show ((r.1 : Int) == (i : Int)) = _
      rw [Bool.eq_iff_iff, beq_iff_eq, beq_iff_eq]
      exact Int.ofNat_inj
    unfold toldAt at ih ⊢
    rw [List.zipWith_cons_cons, List.filter_cons, List.filter_cons, e]
    cases hb : (r.1 == i) with
    | true =>
      rw [if_pos rfl, if_pos rfl, List.map_cons, List.map_cons, List.map_cons, ih]; rfl
    | false =>
      rw [if_neg (by decide), if_neg (by decide), ih]
theorem any_bl (b : Bool) : ∀ bs : List Bool, ((bs.map Dv.bl).any fun y => eqF y (.bl b)) = decide (b ∈ bs)
  | [] => rfl
  | c :: bs => by
    rw [List.map_cons, List.any_cons, any_bl b bs]
    have : eqF (.bl c) (.bl b) = (c == b) := by cases b <;> cases c <;> rfl
    rw [this]
    cases b <;> cases c <;> simp
theorem flat_bl : ∀ bs : List Bool, (bs.map Dv.bl).all flatD = true
  | [] => rfl
  | c :: bs => by rw [List.map_cons, List.all_cons, flat_bl bs]; rfl
theorem wp_inB {b : Bool} {n : Nat} {bs : List Bool} {M : Mem} {q : QE} (h : M[n]? = some (.lst (bs.map Dv.bl))) (k : q (.bl (decide (b ∈ bs))) M) : Wp (inE false (.bl b) (.loc n) M) q := by
  refine wp_inL h rfl (flat_bl bs) ?_
  rw [any_bl, Bool.false_xor]; exact k
theorem wp_eqNil {n m : Nat} {bs : List Bool} {M : Mem} {q : QE} (h : M[n]? = some (.lst (bs.map Dv.bl))) (h2 : M[m]? = some (.lst [])) (hl : bs.length ≤ 100000) (k : q (.bl (decide (bs = []))) M) : Wp (eqD false (.loc n) (.loc m) M) q := by
  refine wq_eqS (k := 3) (k' := 3) (n := bs.length) (n' := 0) (rd_loc h (rd_bls bs)) (rd_loc h2 rdL_nil) (sm_list (k := 2) (smA_bools bs)) (sm_list (k := 2) smA_nil) (by decide) (by decide) ?_
  have e : PyData.eqv (.list (bs.map .bool)) (.list []) = decide (bs = []) := by
    cases bs <;> rfl
  rw [e, Bool.false_xor]; exact k
theorem sp_lwords {n c : Nat} {ls : List Nat} {R : List BRow} {M : Mem} (h : RwAt n ls R M) (hR : R.length ≤ 10000) (hc : c ≤ 1000) :
    Wp (m__law_words [.loc n, .int (c : Nat)] M) fun d M' => d = .tup (strsD (verdF c R)) ∧ Kp NoW M M' := by
  refine wp_fn rfl [some (.loc n), some (.int (c : Nat)), none, none, none, none, none] rfl ?_
  unfold b__law_words
  array_get_dec
  rename_i f M1 e1 g1 k1 l1
  refine wq_for (fun i env M' => ∃ (x3 x4 x5 : Option Dv), env = [some (.loc n), some (.int (c : Nat)), some (.loc f), x3, x4, x5, none] ∧ M'[f]? = some (.lst (strsD (verdF i R))) ∧ Kp NoW M M') ?_
  array_get_dec
  refine k_forR ⟨none, none, none, rfl, g1, k1⟩ ?_ ?_
  · rintro i env M2 hi ⟨x3, x4, x5, rfl, a1, a2⟩
    have h2 := h.kpN a2
    have hn := h2.hn
    array_get_dec
    refine wq_lcF (pAt i) sndB ?_
    array_get_dec
    refine ⟨List.zipWith bRowD R ls, rfl, size_le (by rw [h2.zl]; omega), fun j M' k' _ => stpL_at (k'.at hn id), fun x hx M' k' => ?_, fun x hx M' k' => ?_, fun M3 k3 g3 => ?_⟩
    · obtain ⟨j, hj, ej⟩ := List.mem_iff_getElem.mp hx
      rw [List.getElem_zipWith] at ej
      subst ej
      unfold bRowD
      array_get_dec
      exact ⟨by rw [Bool.false_xor]; rfl, .refl⟩
    · obtain ⟨j, hj, ej⟩ := List.mem_iff_getElem.mp hx
      rw [List.getElem_zipWith] at ej
      subst ej
      unfold bRowD
      array_get_dec
      exact ⟨rfl, .refl⟩
    · rw [told_filter i h2.len] at g3
      generalize et : M2.length = t at *
      have hlen : (toldAt R i).length ≤ 10000 := by
        unfold toldAt
        rw [List.length_map]
        exact Nat.le_trans (List.length_filter_le _ _) hR
      have ew : wordT (toldAt R i) = wordOf (missAt R i)   := by rw [miss_told, word_told]
      generalize toldAt R i = bs at g3 hlen ew
      have af := k3.at a1 id
      apply k_nx
      refine wp_seq (wp_set (Wp.go (P := fun d M' => d = .str (if true ∈ bs ∧ false ∈ bs then "both" else if true ∈ bs then "hit" else "miss") ∧ M' = M3) ?_ ?_))
      · by_cases ht : true ∈ bs
        · by_cases hf : false ∈ bs
          · array_get_dec
            refine wp_inB g3 ?_
            array_get_dec
            refine ki_of (c := true) (decide_eq_true ht) ?_
            array_get_dec
            refine wp_inB g3 ?_
            array_get_dec
            refine ki_of (c := true) (decide_eq_true hf) ?_
            array_get_dec
            exact ⟨by rw [if_pos ⟨ht, hf⟩], rfl⟩
          · array_get_dec
            refine wp_inB g3 ?_
            array_get_dec
            refine ki_of (c := true) (decide_eq_true ht) ?_
            array_get_dec
            refine wp_inB g3 ?_
            array_get_dec
            refine ki_of (c := false) (decide_eq_false hf) ?_
            array_get_dec
            refine wp_inB g3 ?_
            array_get_dec
            refine ki_of (c := true) (decide_eq_true ht) ?_
            array_get_dec
            exact ⟨by rw [if_neg (fun z => hf z.2), if_pos ht], rfl⟩
        · array_get_dec
          refine wp_inB g3 ?_
          array_get_dec
          refine ki_of (c := false) (decide_eq_false ht) ?_
          array_get_dec
          refine wp_inB g3 ?_
          array_get_dec
          refine ki_of (c := false) (decide_eq_false ht) ?_
          array_get_dec
          exact ⟨by rw [if_neg (fun z => ht z.1), if_neg ht], rfl⟩
      · rintro _ _ ⟨rfl, rfl⟩
        array_get_dec
        rename_i m M4 e4 g4 k4 l4
        refine wp_eqNil (k4.at g3 id) g4 (by omega) ?_
        array_get_dec
        have af4 := k4.at af id
        have ev : verdF (i + 1) R = verdF i R ++ [wordT bs] := by
          unfold verdF
          rw [List.range_succ, List.map_append, ew]; rfl
        have hvl : (strsD (verdF i R)).length = i := by simp [strsD, verdF]
        by_cases eb : bs = []
        · refine ki_of (c := true) (decide_eq_true eb) ?_
          array_get_dec
          refine wq_append af4 (size_lt (by omega)) ?_
          array_get_dec
          rename_i M5 g5 k5 l5
          refine ⟨_, _, _, rfl, ?_, ((a2.trN k3).trN k4).trans k5 fun n' hn' e => ?_⟩
          · rw [g5, ev]
            unfold wordT
            rw [if_pos eb]
            unfold strsD
            rw [List.map_append]; rfl
          · have e' : n' = f := e
            omega
        · refine ki_of (c := false) (decide_eq_false eb) ?_
          array_get_dec
          refine wq_append af4 (size_lt (by omega)) ?_
          array_get_dec
          rename_i M5 g5 k5 l5
          refine ⟨_, _, _, rfl, ?_, ((a2.trN k3).trN k4).trans k5 fun n' hn' e => ?_⟩
          · rw [g5, ev]
            unfold wordT
            rw [if_neg eb]
            unfold strsD
            rw [List.map_append]; rfl
          · have e' : n' = f := e
            omega
  · rintro env M2 ⟨x3, x4, x5, rfl, a1, a2⟩
    array_get_dec
    exact ⟨rfl, a2⟩
end L67

/-! text U6_67 -/
namespace L67
open PySem L2 PySem.Spec PyProof.Rows Zl
/-! ## _law_plan -/
theorem wq_sortSet {fa : FE} {env : En} {M : Mem} {q : QE} (k : Wp (fa env M) fun d M1 => ∃ n ns, d = .loc n ∧ M1[n]? = some (.lst (intsN ns)) ∧ ns.length < 60 ∧ kNew (.lst ((sortI (ns.map Int.ofNat)).map .int)) (fun m M2 => q (.loc m) M2) M1) : Wp (fSortSet fa env M) q := by
  unfold fSortSet
  refine wp_bnd (k.go ?_)
  rintro _ M1 ⟨n, ns, rfl, h1, h2, h3⟩
  simp only [h1, ints_of, List.length_map, if_pos h2]
  exact wp_ok (h3 _ _ rfl at_new (.app _) (by simp))
def sortN (ns : List Nat) : List Nat := (sortI (ns.map Int.ofNat)).map Int.toNat
theorem sort_ints {ns : List Nat} : (sortI (ns.map Int.ofNat)).map Dv.int = intsN (sortN ns) := by
  have h : ∀ k ∈ sortI (ns.map Int.ofNat), 0 ≤ k := fun k hk => by
    obtain ⟨n, _, rfl⟩ := List.mem_map.mp (sort_mem.mp hk)
    exact Int.natCast_nonneg n
  unfold sortN intsN
  rw [List.map_map]
  refine List.map_congr_left fun k hk => ?_
  have := h k hk
  show Dv.int k = Dv.int ((k.toNat : Nat) : Int)
  rw [Int.toNat_of_nonneg this]
theorem sortN_mem {ns : List Nat} {k : Nat} : k ∈ sortN ns ↔ k ∈ ns := by
  unfold sortN
  rw [List.mem_map]
  constructor
  · rintro ⟨i, hi, rfl⟩
    obtain ⟨n, hn, rfl⟩ := List.mem_map.mp (sort_mem.mp hi)
    exact hn
  · intro hk
    exact ⟨(k : Int), sort_mem.mpr (List.mem_map.mpr ⟨k, hk, rfl⟩), rfl⟩
theorem sortN_pw {ns : List Nat} : (sortN ns).Pairwise (· < ·) := by
  have h : ∀ k ∈ sortI (ns.map Int.ofNat), 0 ≤ k := fun k hk => by
    obtain ⟨n, _, rfl⟩ := List.mem_map.mp (sort_mem.mp hk)
    exact Int.natCast_nonneg n
  unfold sortN
  rw [List.pairwise_map]
  refine List.Pairwise.imp_of_mem (fun {a b} ha hb hab => ?_) sort_pw
  have := h a ha
  have := h b hb
  omega
theorem ded_go : ∀ (xs acc : List Str), (∀ x ∈ xs.foldl (fun acc x => if x ∈ acc then acc else acc ++ [x]) acc, x ∈ acc ∨ x ∈ xs) ∧ (acc.Nodup → (xs.foldl (fun acc x => if x ∈ acc then acc else acc ++ [x]) acc).Nodup)
  | [], acc => ⟨fun x h => .inl h, fun h => h⟩
  | y :: xs, acc => by
    rw [List.foldl_cons]
    obtain ⟨h1, h2⟩ := ded_go xs (if y ∈ acc then acc else acc ++ [y])
    refine ⟨fun x hx => ?_, fun hn => h2 ?_⟩
    · rcases h1 x hx with h | h
      · split at h
        · exact .inl h
        · rcases List.mem_append.mp h with h | h
          · exact .inl h
          · have e : x = y := by simpa using h
            rw [e]; exact .inr (List.mem_cons_self ..)
      · exact .inr (List.mem_cons_of_mem _ h)
    · split
      · exact hn
      · rename_i hy
        rw [List.nodup_append]
        refine ⟨hn, by simp, fun a ha b hb e => ?_⟩
        have e2 : b = y := by simpa using hb
        rw [e, e2] at ha
        exact hy ha
theorem nd_len {α : Type} [BEq α] [LawfulBEq α] : ∀ {xs ys : List α}, xs.Nodup → (∀ x ∈ xs, x ∈ ys) → xs.length ≤ ys.length
  | [], _, _, _ => Nat.zero_le _
  | x :: xs, ys, h, hs => by
    obtain ⟨h1, h2⟩ := List.nodup_cons.mp h
    have hx := hs x (List.mem_cons_self ..)
    have := nd_len (xs := xs) (ys := ys.erase x) h2 fun z hz => (List.mem_erase_of_ne (fun e => h1 (by rw [← e]; exact hz))).mpr (hs z (List.mem_cons_of_mem _ hz))
    have e := List.length_erase_of_mem hx
    have : 0 < ys.length := List.length_pos_of_mem hx
    rw [List.length_cons]
    omega
def n8 : List Str := ["a", "b", "c", "d", "e", "f", "g", "h"]
theorem ded_few {xs : List Str} (h : ∀ x ∈ xs, x ∈ n8) : (dedS xs).length ≤ 8 := by
  obtain ⟨h1, h2⟩ := ded_go xs []
  exact nd_len (ys := n8) (h2 List.nodup_nil) fun x hx => (h1 x hx).elim (fun z => by cases z) (h x)
theorem n8_ok : ∀ x ∈ n8, okName x = true := by decide
theorem wq_letter {i : Nat} {M : Mem} {q : QE} (hi : i < 8) (k : ∀ x ∈ n8, q (.str x) M) : Wp (ixE (.str "abcdefgh") (.int (i : Nat)) M) q := by
  match i, hi with
  | 0, _ => exact wp_ev (a := .str "a") rfl (k _ (by decide))
  | 1, _ => exact wp_ev (a := .str "b") rfl (k _ (by decide))
  | 2, _ => exact wp_ev (a := .str "c") rfl (k _ (by decide))
  | 3, _ => exact wp_ev (a := .str "d") rfl (k _ (by decide))
  | 4, _ => exact wp_ev (a := .str "e") rfl (k _ (by decide))
  | 5, _ => exact wp_ev (a := .str "f") rfl (k _ (by decide))
  | 6, _ => exact wp_ev (a := .str "g") rfl (k _ (by decide))
  | 7, _ => exact wp_ev (a := .str "h") rfl (k _ (by decide))
  | i + 8, h => omega
theorem Pool.kpW {p n : Nat} {M M' : Mem} (h : Pool p M) (k : Kp (fun m => m = n) M M') (e : p ≠ n) : Pool p M' := by
  obtain ⟨a, b, c, h⟩ := h
  exact ⟨a, b, c, k.at h e⟩
theorem sp_plan {p mo mn : Nat} {M : Mem} (h : Pool p M) (m1 : 1 ≤ mo) (m30 : mo ≤ 30) (n1 : 1 ≤ mn) (hn8 : mn ≤ 8) :
    Wp (m__law_plan [.loc p, .int (mo : Nat), .int (mn : Nat)] M) fun d M' => (∃ ps, d = planD ps ∧ OkPl ps ∧ ps.length ≤ mo) ∧ Pool p M' ∧ Kp (At p) M M' := by
  have hp := h.lt
  refine wp_fn rfl [some (.loc p), some (.int (mo : Nat)), some (.int (mn : Nat)), none, none, none, none, none] rfl ?_
  unfold b__law_plan
  array_get_dec
  refine (sp_draw h (by omega) (by omega)).go ?_
  rintro _ M1 ⟨⟨r, rfl, hr⟩, p1, k1⟩
  have hM1 := k1.1
  array_get_dec
  rename_i f M2 e2 g2 k2 l2
  have e1 : (1 : Int) + ((r : Nat) : Int) = ((1 + r : Nat) : Int) := by omega
  rw [e1]
  generalize hc : 1 + r = c
  have p2 := p1.kp k2
  refine wq_for (fun i env M' => ∃ (x5 x6 : Option Dv) (ps : List Plc), env = [some (.loc p), some (.int (mo : Nat)), some (.int (mn : Nat)), some (.int (c : Nat)), some (.loc f), x5, x6, none] ∧ ps.length = i ∧ M'[f]? = some (.lst (ps.map plcD)) ∧ (∀ q ∈ ps, q.1 ∈ n8 ∧ (∀ t ∈ q.2, t < c) ∧ q.2.Pairwise (· < ·)) ∧ Pool p M' ∧ Kp (At p) M M') ?_
  array_get_dec
  refine k_forR ⟨none, none, [], rfl, rfl, g2, (fun q hq => by simp at hq), p2, k1.trN k2⟩ ?_ ?_
  · rintro i env M3 hi ⟨x5, x6, ps, rfl, a1, a2, a3, a4, a5⟩
    have hf3 := lt_of a2
    have hfp : f ≠ p := by omega
    array_get_dec
    refine wp_lc (fun _ y => ∃ r : Nat, y = Dv.int r ∧ (r : Int) < (c : Nat)) (At p) (fun M' => Pool p M' ∧ M'[f]? = some (.lst (ps.map plcD))) ?_
    array_get_dec
    rename_i c6 M4 e4 g4 k4 l4
    refine (sp_draw (m := 6) (a4.kp k4) (by decide) (by decide)).go ?_
    rintro _ M5 ⟨⟨j, rfl, hj⟩, p5, k5⟩
    have g5 := k5.at g4 (by have := a4.lt; simp only [At]; omega)
    have f5 := k5.at (k4.at a2 id) hfp
    have hM5 := k5.1
    obtain ⟨v, hv, hv3⟩ : ∃ v : Nat, atI [Dv.int 1, Dv.int 2, Dv.int 1, Dv.int 2, Dv.int 3, Dv.int 0] ((j : Nat) : Int) = some (.int (v : Nat)) ∧ v ≤ 3 := by
      have hj' : j < 6 := by omega
      match j, hj' with
      | 0, _ => exact ⟨1, rfl, by decide⟩
      | 1, _ => exact ⟨2, rfl, by decide⟩
      | 2, _ => exact ⟨1, rfl, by decide⟩
      | 3, _ => exact ⟨2, rfl, by decide⟩
      | 4, _ => exact ⟨3, rfl, by decide⟩
      | 5, _ => exact ⟨0, rfl, by decide⟩
      | j + 6, h => omega
    refine wp_ixL g5 hv ?_
    refine ⟨v, rfl, ?_⟩
    refine k_sml (by omega) ?_
    have hp5 := p5.lt
    have kk5 := (a5.trN k4).tr k5
    refine ⟨intsR v, intsR_len.symm, by rw [intsR_len]; exact size_le (by omega), by show M5.length ≠ p; omega, fun i M' _ _ _ => rng_stp, ⟨p5.app, at_app f5⟩, fun M' a b hh _ => ⟨hh.1.keep (by omega), at_set_ne hh.2 (by have := lt_of f5; omega)⟩, ?_, ?_⟩
    · intro x hx M6 hk hl2 hj2
      array_get_dec
      refine (sp_draw hj2.1 (by omega) (by omega)).go fun d M7 ⟨a, b, c'⟩ => ⟨a, c', b, c'.at hj2.2 hfp⟩
    · intro ys M6 ha hk hj2 hy
      obtain ⟨ns, rfl, q1, q2⟩ := nats_of ha
      have q1' : ns.length = v := q1.trans intsR_len
      have f6 := hj2.2
      have hM6 := hk.1
      array_get_dec
      refine (sp_draw (m := (mn : Nat)) hj2.1 (by omega) (by omega)).go ?_
      rintro _ M7 ⟨⟨j2, rfl, hj3⟩, p7, k7⟩
      refine wq_letter (by omega) fun x hx => ?_
      have f7 := k7.at f6 hfp
      have y7 := k7.at hy (by simp only [At]; omega)
      have hM7 := k7.1
      array_get_dec
      refine wq_sortSet ?_
      array_get_dec
      refine ⟨_, ns, rfl, y7, by omega, ?_⟩
      array_get_dec
      rename_i n8 M8 e8 g8 k8 l8
      rw [sort_ints]
      refine wq_append (k8.at f7 id) (size_lt (by rw [List.length_map]; omega)) ?_
      array_get_dec
      rename_i M9 g9 k9 l9
      refine ⟨_, _, ps ++ [(x, sortN ns)], rfl, by simp [a1], ?_, ?_, (p7.kp k8).kpW k9 (by omega), ?_⟩
      · rw [g9, List.map_append]; rfl
      · intro q hq
        rcases List.mem_append.mp hq with hq | hq
        · exact a3 q hq
        · have e : q = (x, sortN ns) := by simpa using hq
          rw [e]
          exact ⟨hx, fun t ht => by have := q2 t (sortN_mem.mp ht); omega, sortN_pw⟩
      · exact (((kk5.tr hk).tr k7).trN k8).trans k9 fun n' hn' e => by
          have e' : n' = f := e
          omega
  · rintro env M3 ⟨x5, x6, ps, rfl, a1, a2, a3, a4, a5⟩
    have a1 : ps.length = c := a1
    array_get_dec
    refine ⟨⟨ps, rfl, ⟨by omega, by omega, fun q hq => n8_ok _ (a3 q hq).1, fun q hq t ht => by rw [a1]; exact (a3 q hq).2.1 t ht, fun q hq => (a3 q hq).2.2, ded_few fun x hx => ?_⟩, by omega⟩, a4, a5⟩
    obtain ⟨q, hq, rfl⟩ := List.mem_map.mp hx
    exact (a3 q hq).1
end L67

/-! text S2_67 -/
namespace L67
open PySem L2 PySem.Spec PyProof.Rows Zl
/-! names, read and shown -/
theorem sm_name {k : Nat} {x : Str} (h : okName x = true) : Sm k 6 (.str x) := by
  unfold okName at h
  rw [Bool.and_eq_true, Bool.and_eq_true, decide_eq_true_eq, decide_eq_true_eq, List.all_eq_true] at h
  obtain ⟨⟨h1, h2⟩, h3⟩ := h
  have low : ∀ c ∈ x.cps.toList, c < 128 := by
    intro c hc
    have := of_decide_eq_true (h3 c hc)
    have all : ∀ d ∈ ("abcdefghijklmnopqrstuvwxyz" : Str).cps.toList, d < 128 := by decide
    exact all c this
  refine ⟨?_, Nat.zero_le _, rfl, rfl, ?_, h2⟩
  · unfold PyData.canLay0
    show (x.cps.all (· < 0x110000)) = true
    rw [← Array.all_toList, List.all_eq_true]
    intro c hc
    exact decide_eq_true (Nat.lt_of_lt_of_le (low c hc) (by decide))
  · unfold PyData.leavesShort
    rw [List.all_eq_true]
    intro c hc
    exact decide_eq_true (Nat.lt_of_lt_of_le (low c hc) (by decide))
def strsP (ns : List Str) : List PyData := ns.map .str
theorem rd_strs {M : Mem} {n : Nat} : ∀ ns : List Str, rdL (rd M n) (strsD ns) = some (strsP ns)
  | [] => rfl
  | x :: ns => rdL_cons (by cases n <;> rfl) (rd_strs ns)
theorem smA_strs {k : Nat} {ns : List Str} (h : ∀ x ∈ ns, okName x = true) : SmA k (7 * ns.length) (strsP ns) :=
  (smA_all (k := k) (n := 6) fun p hp => by obtain ⟨x, hx, rfl⟩ := List.mem_map.mp hp; exact sm_name (h x hx)).mono (Nat.le_refl _) (by simp [strsP])
end L67

/-! text U7_67 -/
namespace L67
open PySem L2 PySem.Spec PyProof.Rows Zl
theorem one_ok' {t : Tb} (ht : OkT t) : OkV (.one t) := fun z hz => by simp [Dev.tabs] at hz; rw [hz]; exact ht
theorem sp_kit {p : Nat} {M : Mem} (h : Pool p M) : Wp (m__law_kit [.loc p] M) fun d M' => (∃ D, d = devD D ∧ OkV D) ∧ Pool p M' ∧ Kp (At p) M M' := by
  have hp := h.lt
  refine wp_fn rfl [some (.loc p)] rfl ?_
  unfold b__law_kit
  array_get_dec
  refine (sp_draw h (by decide) (by decide)).go ?_
  rintro _ M1 ⟨⟨w, rfl, fw⟩, p1, k1⟩
  array_get_dec
  by_cases hw : (0 : Int) < ((w : Nat) : Int)
  · refine ki_of (c := true) (decide_eq_true hw) ?_
    array_get_dec
    refine (sp_device (mo := 2) (sn := 3) p1 (by decide) (by decide) (by decide) (by decide)).go ?_
    rintro _ M3 ⟨⟨D, rfl, hD⟩, p3, k3⟩
    array_get_dec
    exact ⟨⟨D, rfl, hD⟩, p3, by array_mem_dec⟩
  · refine ki_of (c := false) (decide_eq_false hw) ?_
    array_get_dec
    refine (sp_recent (l := 3) (by omega) (by omega)).go ?_
    rintro _ M3 ⟨rfl, k3⟩
    array_get_dec
    refine (sp_queue (l := 4) (by omega) (by omega)).go ?_
    rintro _ M4 ⟨rfl, k4⟩
    array_get_dec
    refine (sp_policy (l := 3) (s := 4) ((p1.kp k3).kp k4) (by omega) (by omega) (by decide) (by decide)).go ?_
    rintro _ M5 ⟨⟨t, rfl, ht⟩, p5, k5⟩
    array_get_dec
    rename_i n6 M6 e6 g6 k6 l6
    have hp5 := p5.lt
    refine (sp_draw (p5.kp k6) (by decide) (by decide)).go ?_
    rintro _ M7 ⟨⟨r, rfl, fr⟩, p7, k7⟩
    have g7 : M7[n6]? = some (.lst [tabD (recT 3), tabD (queueT 4), tabD t]) := by bv_omega
    have pick : ∃ t', OkT t' ∧ atI [tabD (recT 3), tabD (queueT 4), tabD t] (r : Nat) = some (tabD t') := by
      match r, fr with
      | 0, _ => exact ⟨_, rec_ok (by omega) (by omega), rfl⟩
      | 1, _ => exact ⟨_, queue_ok (by omega) (by omega), rfl⟩
      | 2, _ => exact ⟨_, ht, rfl⟩
      | n + 3, h => omega
    obtain ⟨t', ht', et⟩ := pick
    refine wp_ixL g7 et ?_
    array_get_dec
    exact ⟨⟨.one t', rfl, one_ok' ht'⟩, p7, by array_mem_dec⟩
/-! words are names -/
theorem word_ok (bs : List Bool) : okName (wordOf bs) = true := by
  unfold wordOf
  split
  · decide
  · split
    · decide
    · split <;> decide
theorem verd_ok {n : Nat} {R : List BRow} : ∀ x ∈ verdF n R, okName x = true := fun x hx => by
  obtain ⟨i, _, rfl⟩ := List.mem_map.mp hx
  exact word_ok _
theorem wq_reprT {ns : List Str} {M : Mem} {q : QE} (h : ∀ x ∈ ns, okName x = true) (hl : ns.length ≤ 100) (k : q (.str (PyData.shown (.tuple (strsP ns)))) M) : Wp (reprE [.tup (strsD ns)] M) q :=
  wq_repr (k := 4) (n := 7 * ns.length) rfl (rd_tup (rd_strs ns)) (sm_tuple (k := 3) (smA_strs h)) (by decide) (by omega) k
theorem bfs_le {D : Dev} {ps : List Plc} {g g' : Nat} {RR : List Bead × List BRow} (hg : g ≤ g') : ∀ {f : Nat} {o : List Bead} {rs : List BRow}, bfs D ps g f o rs = some RR → bfs D ps g' f o rs = some RR
  | 0, _, _, h => by cases h
  | f + 1, o, rs, h => by
    by_cases hl : rs.length < o.length
    · obtain ⟨b, e, h2, h3⟩ := bfs_get h hl
      rw [bfs_over e, if_neg (by omega)]
      exact bfs_le hg h3
    · rw [bfs_done hl] at h ⊢
      exact h
theorem wq_isN {b : Bool} {d : Dv} {M : Mem} {q : QE} (k : q (.bl (xor b (isNon d))) M) : Wp (isE b d .non M) q := wp_ev (by cases d <;> rfl) k
theorem sp_right {p : Nat} {M : Mem} (h : Pool p M) : Wp (m__law_right [.loc p] M) fun d M' => d = .bl true ∧ Kp (At p) M M' := by
  refine wp_fn rfl [some (.loc p), none, none, none, none, none] rfl ?_
  unfold b__law_right
  refine wp_seq (wq_for (fun i env M' => ∃ (x1 x2 x3 x4 x5 : Option Dv), env = [some (.loc p), x1, x2, x3, x4, x5] ∧ Pool p M' ∧ Kp (At p) M M') ?_)
  array_get_dec
  refine k_forR ⟨none, none, none, none, none, rfl, h, .refl⟩ ?_ ?_
  · rintro i env M1 hi ⟨x1, x2, x3, x4, x5, rfl, p1, k1⟩
    array_get_dec
    refine (sp_kit p1).go ?_
    rintro _ M2 ⟨⟨D, rfl, hD⟩, p2, k2⟩
    array_get_dec
    refine (sp_draw (m := 6) p2 (by decide) (by decide)).go ?_
    rintro _ M3 ⟨⟨j, rfl, hj⟩, p3, k3⟩
    array_get_dec
    rw [show (1 : Int) + ((j : Nat) : Int) = ((1 + j : Nat) : Int) by omega]
    refine (sp_plan (mo := 9) (mn := 1 + j) p3 (by decide) (by decide) (by omega) (by omega)).go ?_
    rintro _ M4 ⟨⟨ps, rfl, hps, h9⟩, p4, k4⟩
    have kk4 := ((k1.tr k2).tr k3).tr k4
    array_get_dec
    refine (sp_beads (g := 250) hD hps (by decide) (by decide)).go ?_
    rintro d M5 ⟨hB, k5⟩
    have p5 := p4.kp k5
    have kk5 := kk4.trN k5
    array_get_dec
    unfold BeadsIs at hB
    split at hB
    · rename_i O R hF
      obtain ⟨n, ls, rfl, hR, hn⟩ := hB
      obtain ⟨r1, r2, r3⟩ := bfs_rows hD hps hF (by show 0 ≤ 1; decide) (by show 1 ≤ 250; decide) rfl (fun b hb => by
        have e : b = atB 0 (startS D) := by simpa using hb
        rw [e]; exact okB_start hD hps)
      have rl : R.length = O.length := by have := congrArg List.length r1; simpa using this
      refine wq_isN ?_
      array_get_dec
      refine ki_of (c := true) rfl ?_
      array_get_dec
      rw [List.length_map]
      refine (sp_lwords (c := ps.length) hR (by omega) (by omega)).go ?_
      rintro _ M6 ⟨rfl, k6⟩
      array_get_dec
      refine (sp_verdicts (f := 251) (g := 250) hD hps (by decide) (by decide) (by decide) hF).go ?_
      rintro _ M7 ⟨rfl, k7⟩
      have hvl : (verdF ps.length R).length ≤ 100 := by
        unfold verdF
        rw [List.length_map, List.length_range]
        omega
      array_get_dec
      refine wq_reprT verd_ok hvl ?_
      array_get_dec
      refine wq_reprT verd_ok hvl ?_
      array_get_dec
      refine ki_of (c := false) (by simp) ?_
      array_get_dec
      exact ⟨_, _, _, _, _, rfl, (p5.kp k6).kp k7, (kk5.trN k6).trN k7⟩
    · subst hB
      refine wq_isN ?_
      array_get_dec
      refine ki_of (c := false) rfl ?_
      array_get_dec
      exact ⟨_, _, _, _, _, rfl, p5, kk5⟩
  · rintro env M1 ⟨x1, x2, x3, x4, x5, rfl, p1, k1⟩
    array_get_dec
    exact ⟨rfl, k1⟩
end L67

/-! text U8_67 -/
namespace L67
open PySem L2 PySem.Spec PyProof.Rows Zl
/-! ## _law_wide, _law_wide_right -/
def okPlB (ps : List Plc) : Bool := decide (1 ≤ ps.length ∧ ps.length ≤ 30 ∧ (∀ p ∈ ps, okName p.1 = true) ∧ (∀ p ∈ ps, ∀ t ∈ p.2, t < ps.length) ∧ (∀ p ∈ ps, p.2.Pairwise (· < ·)) ∧ (dedS (ps.map (·.1))).length ≤ 8)
theorem okPl_of {ps : List Plc} (h : okPlB ps = true) : OkPl ps := by
  obtain ⟨h1, h2, h3, h4, h5, h6⟩ := of_decide_eq_true h
  exact ⟨h1, h2, h3, h4, h5, h6⟩
def l8 (i : Nat) : Str := n8.getD i ""
theorem wq_letterN {i : Nat} {M : Mem} {q : QE} (hi : i < 8) (k : q (.str (l8 i)) M) : Wp (ixE (.str "abcdefgh") (.int (i : Nat)) M) q := by
  match i, hi with
  | 0, _ => exact wp_ev (a := .str "a") rfl k
  | 1, _ => exact wp_ev (a := .str "b") rfl k
  | 2, _ => exact wp_ev (a := .str "c") rfl k
  | 3, _ => exact wp_ev (a := .str "d") rfl k
  | 4, _ => exact wp_ev (a := .str "e") rfl k
  | 5, _ => exact wp_ev (a := .str "f") rfl k
  | 6, _ => exact wp_ev (a := .str "g") rfl k
  | 7, _ => exact wp_ev (a := .str "h") rfl k
  | i + 8, h => omega
def wideAt (a : Nat) : Plc := (l8 ((3 * a + a / 7) % 8), sortN [(a + 1) % 30, 7 * a % 30, (11 * a + 4) % 30])
def wideP : List Plc := (List.range 30).map wideAt
theorem wide_ok : OkPl wideP := okPl_of (by decide +kernel)
theorem wide_len : wideP.length = 30 := by unfold wideP; rw [List.length_map, List.length_range]
theorem sp_wide {M : Mem} : Wp (m__law_wide [] M) fun d M' => d = planD wideP ∧ Kp NoW M M' := by
  refine wp_fn rfl [none, none, none] rfl ?_
  unfold b__law_wide
  array_get_dec
  rename_i f M1 e1 g1 k1 l1
  refine wq_for (fun i env M' => ∃ (x1 x2 : Option Dv), env = [some (.loc f), x1, x2] ∧ M'[f]? = some (.lst (((List.range i).map wideAt).map plcD)) ∧ Kp NoW M M') ?_
  refine wp_rng1 ?_
  array_get_dec
  refine ⟨30, rfl, by decide, ?_⟩
  show kFor _ _ _ _ _ (srcR 0 30) M1
  refine k_forR ⟨none, none, rfl, g1, k1⟩ ?_ ?_
  · rintro a env M2 ha ⟨x1, x2, rfl, a1, a2⟩
    array_get_dec
    refine wq_sortSet ?_
    array_get_dec
    rename_i c M3 e3 g3 k3 l3
    refine ⟨c, [(a + 1) % 30, 7 * a % 30, (11 * a + 4) % 30], rfl, ?_, by show 3 < 60; decide, ?_⟩
    · rw [g3]
      have q1 : (((a : Nat) : Int) + 1) % 30 = (((a + 1) % 30 : Nat) : Int) := by omega
      have q2 : (7 * ((a : Nat) : Int)) % 30 = ((7 * a % 30 : Nat) : Int) := by omega
      have q3 : (11 * ((a : Nat) : Int) + 4) % 30 = (((11 * a + 4) % 30 : Nat) : Int) := by omega
      rw [q1, q2, q3]; rfl
    rw [sort_ints]
    array_get_dec
    rename_i c4 M4 e4 g4 k4 l4
    have q4 : (3 * ((a : Nat) : Int) + ((a : Nat) : Int) / 7) % 8 = (((3 * a + a / 7) % 8 : Nat) : Int) := by omega
    rw [q4]
    refine wq_letterN (Nat.mod_lt _ (by decide)) ?_
    array_get_dec
    refine wq_append (k4.at (k3.at a1 id) id) (size_lt (by simp; omega)) ?_
    array_get_dec
    rename_i M5 g5 k5 l5
    refine ⟨_, _, rfl, ?_, ((a2.trN k3).trN k4).trans k5 fun n' hn' e => by
      have e' : n' = f := e
      omega⟩
    rw [g5, List.range_succ, List.map_append, List.map_append]; rfl
  · rintro env M2 ⟨x1, x2, rfl, a1, a2⟩
    array_get_dec
    exact ⟨rfl, a2⟩
def tb1 (rs : List (Nat × Nat × List Nat)) : Tb := ⟨1, rs.map fun r => ⟨r.1, r.2.1, r.2.2⟩⟩
theorem ok_sing : OkT (tb1 [(0, 0, [0])]) := ⟨by decide, by decide, by decide, by decide, fun r hr => by
  simp [tb1] at hr; subst hr
  exact ⟨by decide, by decide, by decide, by decide⟩⟩
def wideDs : List Dev := [.one (tb1 [(0, 0, [0])]), .one (recT 2), .two .vict (tb1 [(0, 0, [0])]) (tb1 [(0, 0, [0])]), .one (queueT 3)]
theorem wide_devs : ∀ D ∈ wideDs, OkV D := by
  intro D hD
  simp only [wideDs, List.mem_cons, List.not_mem_nil, or_false] at hD
  rcases hD with rfl | rfl | rfl | rfl
  · exact one_ok' ok_sing
  · exact one_ok' (rec_ok (by decide) (by decide))
  · intro z hz
    simp [Dev.tabs] at hz
    rw [hz]; exact ok_sing
  · exact one_ok' (queue_ok (by decide) (by decide))
theorem sp_wideRight {M : Mem} : Wp (m__law_wide_right [] M) fun d M' => d = .bl true ∧ Kp NoW M M' := by
  refine wp_fn rfl [none, none, none, none] rfl ?_
  unfold b__law_wide_right
  array_get_dec
  refine wu_for (Wp.go (P := fun src M' => ∃ m, src = ⟨4, stpL m⟩ ∧ M'[m]? = some (.lst (wideDs.map devD)) ∧ Kp NoW M M') ?_ ?_)
  · array_get_dec
    refine (sp_recent (l := 2) (by omega) (by omega)).go ?_
    rintro _ M1 ⟨rfl, k1⟩
    array_get_dec
    refine (sp_queue (l := 3) (by omega) (by omega)).go ?_
    rintro _ M2 ⟨rfl, k2⟩
    array_get_dec
    rename_i m M3 e3 g3 k3 l3
    exact ⟨m, rfl, g3, (k1.trN k2).trN k3⟩
  rintro _ M1 ⟨m, rfl, g1, k1⟩
  refine wp_loop (fun i env M' => ∃ (x0 x1 x2 x3 : Option Dv), env = [x0, x1, x2, x3] ∧ M'[m]? = some (.lst (wideDs.map devD)) ∧ Kp NoW M M') 4 ?_ ?_ 4 0 _ _ rfl ⟨_, _, _, _, rfl, g1, k1⟩
  · rintro i env M2 hi ⟨x0, x1, x2, x3, rfl, g2, k2⟩
    have hil : i < wideDs.length := hi
    have hD : OkV wideDs[i] := wide_devs _ (List.getElem_mem hil)
    refine ⟨devD wideDs[i], by show stpL m i M2 = _; rw [stpL_at g2, List.getElem?_map, List.getElem?_eq_getElem hil]; rfl, ?_⟩
    generalize wideDs[i] = D at hD
    have hW := wide_ok
    have hWl := wide_len
    have sw := @sp_wide
    generalize wideP = ps at hW hWl sw
    array_get_dec
    refine sw.go ?_
    rintro _ M3 ⟨rfl, k3⟩
    array_get_dec
    refine (sp_beads (g := 600) hD hW (by decide) (by decide)).go ?_
    rintro d M5 ⟨hB, k5⟩
    have kk5 := (k2.trN k3).trN k5
    have g5 := k5.at (k3.at g2 id) id
    array_get_dec
    unfold BeadsIs at hB
    split at hB
    · rename_i O R hF
      obtain ⟨n, ls, rfl, hR, hn⟩ := hB
      obtain ⟨r1, r2, r3⟩ := bfs_rows hD hW hF (by show 0 ≤ 1; decide) (by show 1 ≤ 600; decide) rfl (fun b hb => by
        have e : b = atB 0 (startS D) := by simpa using hb
        rw [e]; exact okB_start hD hW)
      have rl : R.length = O.length := by have := congrArg List.length r1; simpa using this
      refine wq_isN ?_
      array_get_dec
      refine ki_of (c := true) rfl ?_
      array_get_dec
      have hlw := fun M => sp_lwords (c := 30) (M := M) (R := R) (n := n) (ls := ls)
      have hv := fun M => sp_verdicts (M := M) (f := 600 + 1) (g := 600) hD hW (by decide) (by decide) (by decide) hF
      have vok : ∀ x ∈ verdF 30 R, okName x = true := verd_ok
      have hvl : (verdF 30 R).length ≤ 100 := by
        unfold verdF
        rw [List.length_map, List.length_range]
        decide
      rw [hWl] at hv
      generalize verdF 30 R = vs at hv vok hvl hlw
      refine (hlw _ hR (by omega) (by omega)).go ?_
      rintro _ M6 ⟨rfl, k6⟩
      array_get_dec
      refine sw.go ?_
      rintro _ M7 ⟨rfl, k7⟩
      array_get_dec
      refine (hv _).go ?_
      rintro _ M8 ⟨rfl, k8⟩
      array_get_dec
      refine wq_reprT vok hvl ?_
      array_get_dec
      refine wq_reprT vok hvl ?_
      array_get_dec
      refine ki_of (c := false) (by simp) ?_
      array_get_dec
      exact ⟨_, _, _, _, rfl, k8.at (k7.at (k6.at g5 id) id) id, ((kk5.trN k6).trN k7).trN k8⟩
    · subst hB
      refine wq_isN ?_
      array_get_dec
      refine ki_of (c := false) rfl ?_
      array_get_dec
      exact ⟨_, _, _, _, rfl, g5, kk5⟩
  · rintro env M2 ⟨x0, x1, x2, x3, rfl, g2, k2⟩
    refine ⟨by show stpL m 4 M2 = _; rw [stpL_at g2]; rfl, ?_⟩
    array_get_dec
    exact ⟨rfl, k2⟩
end L67

/-! text U9_67 -/
namespace L67
open PySem L2 PySem.Spec PyProof.Rows Zl
/-! ## by hand -/
def tS : Tb := tb1 [(0, 0, [0])]
def dOne : Dev := .one tS
def dTwo : Dev := .one (recT 2)
def chainP : List Plc := [("a", [1]), ("b", [2]), ("a", [1])]
def wayP : List Plc := [("a", [1]), ("b", [2]), ("a", [3]), ("c", [4]), ("a", [])]
def handC : List (Dev × List Plc × List Str) := [(dOne, [("a", [])], ["miss"]),
  (dOne, [("a", [0])], ["both"]),
  (dOne, [("a", [1]), ("a", []), ("a", [0])], ["miss", "hit", "never"]),
  (dTwo, [("a", [1, 2]), ("b", [2]), ("b", [])], ["miss", "miss", "both"]),
  (dTwo, [("a", [1]), ("b", [0, 2]), ("c", [0])], ["both", "both", "miss"]),
  (dTwo, [("a", [1]), ("b", [1, 2]), ("a", [1])], ["miss", "both", "hit"]),
  (dTwo, [("a", [1, 2]), ("a", []), ("b", [3]), ("c", [1])], ["miss", "both", "miss", "miss"]),
  (dTwo, [("a", [1, 2, 3]), ("b", []), ("a", []), ("c", [])], ["miss", "miss", "hit", "miss"]),
  ((.two .vict tS tS), chainP, ["miss", "both", "hit"]),
  ((.two .plain tS tS), chainP, ["miss", "miss", "miss"]),
  ((.two .incl tS tS), chainP, ["miss", "miss", "miss"]),
  ((.two .plain tS (recT 2)), chainP, ["miss", "both", "hit"]),
  ((.two .incl (recT 2) (queueT 2)), wayP, ["miss", "miss", "hit", "miss", "miss"]),
  ((.two .plain (recT 2) (queueT 2)), wayP, ["miss", "miss", "hit", "miss", "hit"])]
def tripD (c : Dev × List Plc × List Str) : Dv := .tup [devD c.1, planD c.2.1, .tup (strsD c.2.2)]
def vdF (D : Dev) (ps : List Plc) : Option (List Str) := (bfs D ps 600 601 [atB 0 (startS D)] []).map fun r => verdF ps.length r.2
theorem hand_all : ∀ c ∈ handC, okPlB c.2.1 = true ∧ vdF c.1 c.2.1 = some c.2.2 := by decide +kernel
theorem two_ok' {m : Mode} {t u : Tb} (ht : OkT t) (hu : OkT u) : OkV (.two m t u) := fun z hz => by
  simp [Dev.tabs] at hz
  rcases hz with rfl | rfl
  · exact ht
  · exact hu
theorem hand_devs : ∀ c ∈ handC, OkV c.1 := by
  have r2 : OkT (recT 2) := rec_ok (by decide) (by decide)
  have q2 : OkT (queueT 2) := queue_ok (by decide) (by decide)
  have s1 : OkT tS := ok_sing
  intro c hc
  simp only [handC, List.mem_cons, List.not_mem_nil, or_false] at hc
  rcases hc with rfl | rfl | rfl | rfl | rfl | rfl | rfl | rfl | rfl | rfl | rfl | rfl | rfl | rfl <;>
    first
    | exact one_ok' s1
    | exact one_ok' r2
    | exact two_ok' s1 s1
    | exact two_ok' s1 r2
    | exact two_ok' r2 q2
theorem sp_vd {D : Dev} {ps : List Plc} {ws : List Str} (hD : OkV D) (hps : OkPl ps) (h : vdF D ps = some ws) {M : Mem} : Wp (m_verdicts [devD D, planD ps] M) fun d M' => d = .tup (strsD ws) ∧ Kp NoW M M' := by
  unfold vdF at h
  cases hF : bfs D ps 600 601 [atB 0 (startS D)] [] with
  | none => rw [hF] at h; cases h
  | some r =>
    rw [hF] at h
    cases h
    exact sp_verdicts (f := 601) (g := 600) hD hps (by decide) (by decide) (by decide) hF
theorem hand_words : ∀ c ∈ handC, ∀ x ∈ c.2.2, okName x = true := by decide +kernel
theorem hand_lens : ∀ c ∈ handC, c.2.2.length ≤ 100 := by decide +kernel
theorem hand_turn {c : Dev × List Plc × List Str} {env : En} {M : Mem} (hc : c ∈ handC) (hl : env.length = 10) :
    Wp ((gOr (gT 3 (gsCons (gN 7) (gsCons (gN 8) (gsCons (gN 9) gsNil)))) (gL 3 (gsCons (gN 7) (gsCons (gN 8) (gsCons (gN 9) gsNil))))) (tripD c) env M) fun e1 M2 => Wp (fYes e1 M2) fun b M3 => b = (fun _ => true) 0 ∧ Kp NoW M M3 ∧ ((fun _ : Nat => true) 0 = true → Wp ((fO (eqD false) (fC reprE (fCons (fCall 2 m_verdicts (fCons (fV 7) (fCons (fV 8) fNil))) fNil)) (fC reprE (fCons (fV 9) fNil))) e1 M3) fun y M4 => y = .bl true ∧ Kp NoW M3 M4) := by
  have h1 := hand_all _ hc
  have h2 := hand_devs _ hc
  have h3 := hand_words _ hc
  have h4 := hand_lens _ hc
  obtain ⟨D, ps, ws⟩ := c
  unfold tripD
  match env, hl with
  | [y0, y1, y2, y3, y4, y5, y6, y7, y8, y9], _ =>
  array_get_dec
  refine wp_ev (a := true) (M' := M) rfl ⟨rfl, .refl, fun _ => ?_⟩
  array_get_dec
  refine (sp_vd h2 (okPl_of h1.1) h1.2).go ?_
  rintro _ M7 ⟨rfl, k7⟩
  array_get_dec
  refine wq_reprT h3 h4 ?_
  array_get_dec
  refine wq_reprT h3 h4 ?_
  array_get_dec
  exact ⟨by simp, k7⟩
theorem sp_hand {M : Mem} : Wp (m__law_by_hand [] M) fun d M' => d = .bl true ∧ Kp NoW M M' := by
  refine wp_fn rfl [none, none, none, none, none, none, none, none, none, none] rfl ?_
  unfold b__law_by_hand
  array_get_dec
  refine (sp_recent (l := 2) (by omega) (by omega)).go ?_
  rintro _ M1 ⟨rfl, k1⟩
  array_get_dec
  refine wu_comp ?_
  array_get_dec
  refine wp_mulT (k := 3) (by decide) (by decide) ?_
  array_get_dec
  refine wp_mulT (k := 3) (by decide) (by decide) ?_
  array_get_dec
  refine (sp_recent (l := 2) (by omega) (by omega)).go ?_
  rintro _ N1 ⟨rfl, j1⟩
  array_get_dec
  refine (sp_recent (l := 2) (by omega) (by omega)).go ?_
  rintro _ N2 ⟨rfl, j2⟩
  array_get_dec
  refine (sp_queue (l := 2) (by omega) (by omega)).go ?_
  rintro _ N3 ⟨rfl, j3⟩
  array_get_dec
  refine (sp_recent (l := 2) (by omega) (by omega)).go ?_
  rintro _ N4 ⟨rfl, j4⟩
  array_get_dec
  refine (sp_queue (l := 2) (by omega) (by omega)).go ?_
  rintro _ N5 ⟨rfl, j5⟩
  array_get_dec
  rename_i nz Mz ez gz kz lz
  have gz' : Mz[nz]? = some (.lst (handC.map tripD)) := gz
  have kk : Kp NoW M Mz := by array_mem_dec
  clear gz
  refine wq_lcG (fun _ => true) (fun _ => .bl true) (Wp.go (P := fun src M' => src = ⟨14, stpL nz⟩ ∧ M' = Mz) ?_ ?_)
  · array_get_dec
    exact ⟨rfl, rfl⟩
  rintro _ _ ⟨rfl, rfl⟩
  refine ⟨by show 14 ≤ _; decide, fun i M' k' hi => ?_, fun M' k' => ?_, fun n2 M' e2 l2 k' g2 => ?_⟩
  · have hi' : i < handC.length := hi
    refine ⟨tripD handC[i], by show stpL nz i M' = _; rw [stpL_at (k'.at gz' id), List.getElem?_map, List.getElem?_eq_getElem hi']; rfl, ?_⟩
    exact hand_turn (List.getElem_mem hi') rfl
  · show stpL nz 14 M' = _
    rw [stpL_at (k'.at gz' id)]; rfl
  · array_get_dec
    refine wp_all g2 (bls_all (fun x hx => by
      obtain ⟨_, _, rfl⟩ := List.mem_map.mp hx; rfl)) ?_
    array_get_dec
    exact ⟨by simp, kk.trN k'⟩
theorem math : ∀ ns : List Int, ns.length ≤ 63 → ∃ M', m_law [.rol (ns.map .int)] [] = some (.bl true, M') := by
  intro ns hns
  have h : Wp (m_law [.rol (ns.map .int)] []) fun d _ => d = .bl true := by
    refine wp_fn rfl [some (.rol (ns.map .int)), none] rfl ?_
    unfold b_law
    array_get_dec
    refine sp_hand.go ?_
    rintro _ M1 ⟨rfl, k1⟩
    array_get_dec
    refine ki_of (c := false) (by ac_nf0) ?_
    array_get_dec
    refine sp_wideRight.go ?_
    rintro _ M1' ⟨rfl, k1'⟩
    array_get_dec
    refine ki_of (c := false) (by ac_nf0) ?_
    array_get_dec
    refine wq_map (fun _ => .bl true) ?_
    array_get_dec
    have hlen : ((ns.map Dv.int).length : Nat) = ns.length := by simp
    refine wp_ev (a := .int (min ns.length 6 : Nat)) (M' := M1') ?_ ?_
    · unfold minD
      simp only [hlen]
      congr 3
      split <;> omega
    array_get_dec
    refine wp_ev (a := .int (max 2 (min ns.length 6) : Nat)) (M' := M1') ?_ ?_
    · unfold maxD
      simp only
      congr 3
      split <;> omega
    array_get_dec
    refine k_mapR (size_le (by omega)) ?_ ?_
    · intro j hj M2 k2
      array_get_dec
      refine (sp_cell (k := j) (by omega)).go ?_
      rintro _ M3 ⟨⟨x, rfl⟩, k3⟩
      array_get_dec
      refine sp_pool.go ?_
      rintro _ M4 ⟨p, rfl, ep, hp, k4⟩
      array_get_dec
      refine (sp_right hp).go ?_
      rintro _ M5 ⟨rfl, k5⟩
      exact ⟨rfl, by array_mem_dec⟩
    · intro n M2 e2 l2 k2 g2
      array_get_dec
      refine wp_all g2 (bls_all (by simp)) ?_
      array_get_dec
      simp
  obtain ⟨d, M, e, rfl⟩ := h
  exact ⟨M, e⟩
end L67

open PySem PySem.W PyProof.Rows in
set_option maxRecDepth 100000 in
set_option maxHeartbeats 0 in
theorem PySem.Challenge.cw_missbounds_k67_verdicts_by_all_moments_holds : PySem.Challenge.rw_missbounds_k67_verdicts_by_all_moments.Holds := by
  w_on; o_law; k_head; (case hw => w_witness2)
  k_fill
  refine Zl.walk_end (l := PySem.Challenge.rw_missbounds_k67_verdicts_by_all_moments) (k := 10) (x := "_law_script") (F := L67.m_law) rfl rfl ⟨rfl, by decide, by decide⟩ (fun w h Y => PySem.W.kIn_of Y) ?T L67.math
  intro w mg fa h KX G hmg
  refine' Exists.elim (L67.all_mk KX G hmg ?aC_Box ?pg_Box ?hd_Box ?po_Box ?sa_Box ?aC_Moments ?pg_Moments ?hd_Moments ?po_Moments ?sa_Moments ?a_word_of ?l_word_of ?c_word_of ?k_word_of ?a_Moments_index_of ?i_Moments_index_of ?l_Moments_index_of ?c_Moments_index_of ?k_Moments_index_of ?a_Box_moment ?i_Box_moment ?l_Box_moment ?c_Box_moment ?k_Box_moment ?a_Box_told ?i_Box_told ?l_Box_told ?c_Box_told ?k_Box_told ?a_Box_touch ?i_Box_touch ?l_Box_touch ?c_Box_touch ?k_Box_touch ?a_Box_fill ?i_Box_fill ?l_Box_fill ?c_Box_fill ?k_Box_fill ?a_Box_go_down ?i_Box_go_down ?l_Box_go_down ?c_Box_go_down ?k_Box_go_down ?a_Box_holds ?i_Box_holds ?l_Box_holds ?c_Box_holds ?k_Box_holds ?a_Box_ask ?i_Box_ask ?l_Box_ask ?c_Box_ask ?k_Box_ask ?a_Box_init ?i_Box_init ?mk_Box ?kc_Box ?l_Box_init ?c_Box_init ?k_Box_init ?a_box_at ?l_box_at ?c_box_at ?k_box_at ?a_Moments_init ?i_Moments_init ?mk_Moments ?kc_Moments ?l_Moments_init ?c_Moments_init ?k_Moments_init ?a_is_integer ?l_is_integer ?c_is_integer ?k_is_integer ?a_is_between ?l_is_between ?c_is_between ?k_is_between ?a_is_name ?l_is_name ?c_is_name ?k_is_name ?a_is_place ?l_is_place ?c_is_place ?k_is_place ?a_is_program ?l_is_program ?c_is_program ?k_is_program ?a_check_program ?l_check_program ?c_check_program ?k_check_program ?a_is_row ?l_is_row ?c_is_row ?k_is_row ?a_is_policy ?l_is_policy ?c_is_policy ?k_is_policy ?a_is_device ?l_is_device ?c_is_device ?k_is_device ?a_check_device ?l_check_device ?c_check_device ?k_check_device ?a_moments_of ?l_moments_of ?c_moments_of ?k_moments_of ?a_verdicts ?l_verdicts ?c_verdicts ?k_verdicts ?a__law_words ?l__law_words ?c__law_words ?k__law_words ?a__law_go ?l__law_go ?c__law_go ?k__law_go ?a__law_ask ?l__law_ask ?c__law_ask ?k__law_ask ?a__law_filled ?l__law_filled ?c__law_filled ?k__law_filled ?a__law_beads ?l__law_beads ?c__law_beads ?k__law_beads ?a__law_draw ?l__law_draw ?c__law_draw ?k__law_draw ?a__law_plan ?l__law_plan ?c__law_plan ?k__law_plan ?a__law_policy ?l__law_policy ?c__law_policy ?k__law_policy ?a__law_queue ?l__law_queue ?c__law_queue ?k__law_queue ?a__law_recent ?l__law_recent ?c__law_recent ?k__law_recent ?a__law_device ?l__law_device ?c__law_device ?k__law_device ?a__law_kit ?l__law_kit ?c__law_kit ?k__law_kit ?a__law_right ?l__law_right ?c__law_right ?k__law_right ?a__law_pool ?l__law_pool ?c__law_pool ?k__law_pool ?a__law_cell ?l__law_cell ?c__law_cell ?k__law_cell ?a__law_by_hand ?l__law_by_hand ?c__law_by_hand ?k__law_by_hand ?a__law_wide ?l__law_wide ?c__law_wide ?k__law_wide ?a__law_wide_right ?l__law_wide_right ?c__law_wide_right ?k__law_wide_right ?a_law ?l_law ?c_law ?k_law ?na_Box_mode ?na_Box_policies ?na_Box_rows ?na_Box_stages ?na_Moments_indexes ?na_Moments_missed ?na_Moments_nexts ?na_Moments_order ?na_Moments_sources ?z_abs ?z_all ?z_any ?z_bool ?z_divmod ?z_enumerate ?z_int ?z_isinstance ?z_len ?z_list ?z_max ?z_min ?z_range ?z_repr ?z_set ?z_sorted ?z_str ?z_sum ?z_tuple ?g_LETTERS ?g_LEVELS ?gl_LEVELS ?g_LONGEST ?g_MOST_DIFFERENT ?g_MOST_LINES ?g_MOST_PLACES ?g_MOST_SITUATIONS ?g_MOST_STATES) ?fin
  (case aC_Box => k_is)
  (case pg_Box => k_is)
  (case hd_Box => k_is)
  (case po_Box => k_is)
  (case sa_Box => k_is)
  (case aC_Moments => k_is)
  (case pg_Moments => k_is)
  (case hd_Moments => k_is)
  (case po_Moments => k_is)
  (case sa_Moments => k_is)
  (case a_word_of => k_is)
  (case l_word_of => k_is)
  (case c_word_of => k_is)
  (case k_word_of => k_is)
  (case a_Moments_index_of => k_is)
  (case i_Moments_index_of => k_is)
  (case l_Moments_index_of => k_is)
  (case c_Moments_index_of => k_is)
  (case k_Moments_index_of => k_is)
  (case a_Box_moment => k_is)
  (case i_Box_moment => k_is)
  (case l_Box_moment => k_is)
  (case c_Box_moment => k_is)
  (case k_Box_moment => k_is)
  (case a_Box_told => k_is)
  (case i_Box_told => k_is)
  (case l_Box_told => k_is)
  (case c_Box_told => k_is)
  (case k_Box_told => k_is)
  (case a_Box_touch => k_is)
  (case i_Box_touch => k_is)
  (case l_Box_touch => k_is)
  (case c_Box_touch => k_is)
  (case k_Box_touch => k_is)
  (case a_Box_fill => k_is)
  (case i_Box_fill => k_is)
  (case l_Box_fill => k_is)
  (case c_Box_fill => k_is)
  (case k_Box_fill => k_is)
  (case a_Box_go_down => k_is)
  (case i_Box_go_down => k_is)
  (case l_Box_go_down => k_is)
  (case c_Box_go_down => k_is)
  (case k_Box_go_down => k_is)
  (case a_Box_holds => k_is)
  (case i_Box_holds => k_is)
  (case l_Box_holds => k_is)
  (case c_Box_holds => k_is)
  (case k_Box_holds => k_is)
  (case a_Box_ask => k_is)
  (case i_Box_ask => k_is)
  (case l_Box_ask => k_is)
  (case c_Box_ask => k_is)
  (case k_Box_ask => k_is)
  (case a_Box_init => k_is)
  (case i_Box_init => k_is)
  (case mk_Box => k_is)
  (case kc_Box => k_is)
  (case l_Box_init => k_is)
  (case c_Box_init => k_is)
  (case k_Box_init => k_is)
  (case a_box_at => k_is)
  (case l_box_at => k_is)
  (case c_box_at => k_is)
  (case k_box_at => k_is)
  (case a_Moments_init => k_is)
  (case i_Moments_init => k_is)
  (case mk_Moments => k_is)
  (case kc_Moments => k_is)
  (case l_Moments_init => k_is)
  (case c_Moments_init => k_is)
  (case k_Moments_init => k_is)
  (case a_is_integer => k_is)
  (case l_is_integer => k_is)
  (case c_is_integer => k_is)
  (case k_is_integer => k_is)
  (case a_is_between => k_is)
  (case l_is_between => k_is)
  (case c_is_between => k_is)
  (case k_is_between => k_is)
  (case a_is_name => k_is)
  (case l_is_name => k_is)
  (case c_is_name => k_is)
  (case k_is_name => k_is)
  (case a_is_place => k_is)
  (case l_is_place => k_is)
  (case c_is_place => k_is)
  (case k_is_place => k_is)
  (case a_is_program => k_is)
  (case l_is_program => k_is)
  (case c_is_program => k_is)
  (case k_is_program => k_is)
  (case a_check_program => k_is)
  (case l_check_program => k_is)
  (case c_check_program => k_is)
  (case k_check_program => k_is)
  (case a_is_row => k_is)
  (case l_is_row => k_is)
  (case c_is_row => k_is)
  (case k_is_row => k_is)
  (case a_is_policy => k_is)
  (case l_is_policy => k_is)
  (case c_is_policy => k_is)
  (case k_is_policy => k_is)
  (case a_is_device => k_is)
  (case l_is_device => k_is)
  (case c_is_device => k_is)
  (case k_is_device => k_is)
  (case a_check_device => k_is)
  (case l_check_device => k_is)
  (case c_check_device => k_is)
  (case k_check_device => k_is)
  (case a_moments_of => k_is)
  (case l_moments_of => k_is)
  (case c_moments_of => k_is)
  (case k_moments_of => k_is)
  (case a_verdicts => k_is)
  (case l_verdicts => k_is)
  (case c_verdicts => k_is)
  (case k_verdicts => k_is)
  (case a__law_words => k_is)
  (case l__law_words => k_is)
  (case c__law_words => k_is)
  (case k__law_words => k_is)
  (case a__law_go => k_is)
  (case l__law_go => k_is)
  (case c__law_go => k_is)
  (case k__law_go => k_is)
  (case a__law_ask => k_is)
  (case l__law_ask => k_is)
  (case c__law_ask => k_is)
  (case k__law_ask => k_is)
  (case a__law_filled => k_is)
  (case l__law_filled => k_is)
  (case c__law_filled => k_is)
  (case k__law_filled => k_is)
  (case a__law_beads => k_is)
  (case l__law_beads => k_is)
  (case c__law_beads => k_is)
  (case k__law_beads => k_is)
  (case a__law_draw => k_is)
  (case l__law_draw => k_is)
  (case c__law_draw => k_is)
  (case k__law_draw => k_is)
  (case a__law_plan => k_is)
  (case l__law_plan => k_is)
  (case c__law_plan => k_is)
  (case k__law_plan => k_is)
  (case a__law_policy => k_is)
  (case l__law_policy => k_is)
  (case c__law_policy => k_is)
  (case k__law_policy => k_is)
  (case a__law_queue => k_is)
  (case l__law_queue => k_is)
  (case c__law_queue => k_is)
  (case k__law_queue => k_is)
  (case a__law_recent => k_is)
  (case l__law_recent => k_is)
  (case c__law_recent => k_is)
  (case k__law_recent => k_is)
  (case a__law_device => k_is)
  (case l__law_device => k_is)
  (case c__law_device => k_is)
  (case k__law_device => k_is)
  (case a__law_kit => k_is)
  (case l__law_kit => k_is)
  (case c__law_kit => k_is)
  (case k__law_kit => k_is)
  (case a__law_right => k_is)
  (case l__law_right => k_is)
  (case c__law_right => k_is)
  (case k__law_right => k_is)
  (case a__law_pool => k_is)
  (case l__law_pool => k_is)
  (case c__law_pool => k_is)
  (case k__law_pool => k_is)
  (case a__law_cell => k_is)
  (case l__law_cell => k_is)
  (case c__law_cell => k_is)
  (case k__law_cell => k_is)
  (case a__law_by_hand => k_is)
  (case l__law_by_hand => k_is)
  (case c__law_by_hand => k_is)
  (case k__law_by_hand => k_is)
  (case a__law_wide => k_is)
  (case l__law_wide => k_is)
  (case c__law_wide => k_is)
  (case k__law_wide => k_is)
  (case a__law_wide_right => k_is)
  (case l__law_wide_right => k_is)
  (case c__law_wide_right => k_is)
  (case k__law_wide_right => k_is)
  (case a_law => k_is)
  (case l_law => k_is)
  (case c_law => k_is)
  (case k_law => k_is)
  (case na_Box_mode => k_is)
  (case na_Box_policies => k_is)
  (case na_Box_rows => k_is)
  (case na_Box_stages => k_is)
  (case na_Moments_indexes => k_is)
  (case na_Moments_missed => k_is)
  (case na_Moments_nexts => k_is)
  (case na_Moments_order => k_is)
  (case na_Moments_sources => k_is)
  (case z_abs => k_is)
  (case z_all => k_is)
  (case z_any => k_is)
  (case z_bool => k_is)
  (case z_divmod => k_is)
  (case z_enumerate => k_is)
  (case z_int => k_is)
  (case z_isinstance => k_is)
  (case z_len => k_is)
  (case z_list => k_is)
  (case z_max => k_is)
  (case z_min => k_is)
  (case z_range => k_is)
  (case z_repr => k_is)
  (case z_set => k_is)
  (case z_sorted => k_is)
  (case z_str => k_is)
  (case z_sum => k_is)
  (case z_tuple => k_is)
  (case g_LETTERS => k_is)
  (case g_LEVELS => k_is)
  (case gl_LEVELS => k_is)
  (case g_LONGEST => k_is)
  (case g_MOST_DIFFERENT => k_is)
  (case g_MOST_LINES => k_is)
  (case g_MOST_PLACES => k_is)
  (case g_MOST_SITUATIONS => k_is)
  (case g_MOST_STATES => k_is)
  case fin =>
    rintro T ⟨rfl, hb⟩
    exact ⟨T.ct _ _, T.d_law, hb, fun base _ _ => L67.ok_law T⟩
